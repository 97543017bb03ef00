import PyProof.Rows.All
import Wide.All
import OpenK.AllK
import Wide.FinOn
import KE.OsRunLaw
import HandS.ForMost
import HandS.Exc
import HandS.TupAny
import HandS.TupMul
import HandS.IsInst
import HandS.RaiseMore
import HandS.FStr
import HandS.Deep
import HandS.NoneIn
import KE.KUnpackStar
import HandS.Flow
import KE.GoesEnum
import PyProof.Rows.CallKwBuiltin
import HandS.SortKw
import HandS.ListItems
import HandS.Zip
import KE.KDictZip
import PyProof.RowDictHeap
import HandS.Defaults
import HandS.More
import PyProof.EqAt
import HandS.Text
import HandS.TupLe
import PyProof.NeKinds
import HandS.Style
import KE.GoesZip
import KE.GoesMore
import HandS.SetFor
import HandS.Strs
import PyProof.Rows.SortShellAny
import HandS.SetBool
import PyProof.ListRange
import KE.KRevSl
import HandS.Ends
import HandS.ExcValue
import KE.KExcInit
import KE.KTryMore
import HandS.ExcIs
import HandS.ExcField
import PyProof.ExcBaseAll.LookupError
import PyProof.ExcBaseAll.OverflowError
import PyProof.ExcBaseAll.ValueError
import PyProof.ExcBaseAll.RuntimeError
import HandS.TryOnly
import HandS.DictComp
import HandS.SetKeys
import KE.SortCalls
import KE.SortData
import PyProof.ListStr
import HandS.Conv
import KE.DataCmp
import KE.DataMinMax
import HandS.Replace
import KE.DatumIndex
import KE.DatumMore
import HandS.Lambda
import KE.KExcRaise
import KE.DataFind
import KE.GoesNew
import KE.KDictCopyH
import PyProof.ExcBaseAll.IndexError
import PySem.Challenge.RW_gapdup_k17_pure_cycles_found
set_option Elab.async false
set_option linter.all false
set_option maxRecDepth 100000
local macro_rules
  | `(tactic| o_head $H:term) => `(tactic| (have hook := $H
                                            exact (by assumption : ∀ r : PySem.W.OpenRow, r.Holds) _))
set_option maxHeartbeats 0 in
theorem My.zhP (h : ∀ r : PySem.W.OpenRow, r.Holds) : PySem.W.OpenRow.Holds (PySem.W.OpenLaw.row PySem.Challenge.rw_gapdup_k17_pure_cycles_found) := by
  k_head
namespace My
section
open PySem PySem.W PySem.Calls PyProof.Rows
noncomputable def zhQ : Program :=
  let p := PySem.Challenge.pw_gapdup_k17_pure_cycles_found
  { p with main := { p.main with body := p.main.body.drop 27 } }
def zhL : List PySem.Str := (PySem.Challenge.pw_gapdup_k17_pure_cycles_found.main.scope.names.map (·.1)).filter fun x => !(x == ("law" : PySem.Str))
def zhA : List Addr :=
  [2, 3, 15, 18, 19, 20, 22, 23, 25, 26, 27, 30, 31, 32, 35, 36, 37, 40, 41, 42, 45, 46, 47, 50, 51, 52, 54, 55, 57, 58, 59, 61, 62, 64, 65, 66, 69, 70, 71, 73,
    74, 76, 77, 78, 80, 81, 83, 84, 85, 88, 89, 90, 92, 93, 95, 96, 97, 99, 100, 102, 103, 104, 107, 108, 109, 111, 112, 114, 115, 116, 118, 119, 121, 122, 123, 125, 126, 128, 129, 130,
    133, 134, 135, 138, 139, 140, 143, 144, 145, 148, 149, 150, 152, 153, 155, 156]
theorem zhI (P : Params) : zhA = (My.zhP.heap_1 P).map (·.1) := by kernel_rfl
def zhR (w : World) : Prop :=
  ∀ os : OsState, (HeadRun.endF (HeadRun.stepQ (HeadRun.denQ HeadRun.tabQ) PySem.Challenge.pw_gapdup_k17_pure_cycles_found w)
      1594 PySem.Challenge.pw_gapdup_k17_pure_cycles_found w os).map (fun s =>
        (HeadRun.looksF PySem.Challenge.pw_gapdup_k17_pure_cycles_found (boot_heap w.params) s.abs,
          HeadRun.seenQ zhQ zhL (importedModules PySem.Challenge.pw_gapdup_k17_pure_cycles_found.main.body)
            (fun s => xlAt zhQ [] s && recOk [] s) s.abs,
          zhA.map (HeadRun.getT s))) =
    some (true, openGood zhQ zhL, (My.zhP.heap_1 w.params).map fun x => some x.2)
theorem zhW (w : World) : zhR w := by
  intro os
  kernel_rfl
end
end My

namespace GD
open PySem PySem.Spec PyProof.Rows L2
def XO (cls : Value) (d : Option Addr) (a : Addr) : HO := .ext fun h => ∃ (oe : Obj) (vs : Array Value), h.get? a = some oe ∧ Zc cls d oe ∧ oe.data = .fields vs
def excD (nm f : Str) (d : PyData) : PyData := .dict [(.none, .str nm), (.str f, d)]
def isExc : PyData → Bool
  | .dict ((.none, _) :: _) => true
  | _ => false
structure FnG (P : Program) (w : World) (K : PySem.W.Frag) (mg : Str → Option Value) (base : Heap)
    (CX : CXT) (k : Nat) (f : Addr) (fd : FuncData) (ps : List Str) (sp : Sp) : Prop where
  len : ∀ vs H Q E, sp vs H Q E → vs.length = ps.length
  run : ∀ (A : Around) (outer : List Env) (s : Shared) (H : Hp) (args : Args) (us : List Value) (vs : List V) (Q : VK) (E : XK),
    A.guards = some [] → Room k A → Env0 P w K mg base A outer s H →
    BindsTo s fd args (ps.zip us) → Vals vs us → sp vs H Q E →
    codeAny (model P w) A (.call (.ref f) args) (CR CX outer P w H s Q E) s
section
variable {P : Program} {w : World} {K : PySem.W.Frag} {mg : Str → Option Value} {base : Heap} {CX : CXT}
variable {j k : Nat} {f : Addr} {fd : FuncData} {ps : List Str} {sp sp' : Sp}
theorem FnG.mono (F : FnG P w K mg base CX j f fd ps sp) (h : j ≤ k) : FnG P w K mg base CX k f fd ps sp where
  len := F.len
  run := fun A outer s H args us vs Q E g hr e b r q => F.run A outer s H args us vs Q E g (hr.mono h) e b r q
end
section
variable {X : Cx} {CX : CXT} {k : Nat} {f : Addr} {fd : FuncData} {ps ks : List Str} {sp : Sp}
variable {dvs : List V} {ds : List Value} {E : XK} {x : Str} {p pos : Pos} {e : Expr} {es : List Expr} {t tk : TA} {kws : List Keyword}
variable {g : List Value → List Value → List Value} {gV : List V → List V → List V}
theorem out_g {pins : List (Addr × Obj)} {σ : L2.St} {H : Hp} {s : Shared} {Q : VK} (hx : Passes CX X E) (I : Inv X pins σ H s)
    (r : Result) (s' : Shared) (hq : CR CX X.stack X.prog X.w H s Q E r s') :
    (match r with
      | .ok (.ret u) => EP X pins σ Q u s'
      | .ok _ => False
      | .error e => X.xe e s') := by
  cases r with
  | error e => exact hx pins σ H s e s' I hq
  | ok fl =>
    cases fl with
    | ret u => exact I.after hq
    | next => exact (show False from hq)
    | brk => exact (show False from hq)
    | cont => exact (show False from hq)
theorem run_g {pins : List (Addr × Obj)} {σ : L2.St} {H : Hp} {s : Shared} {Q : VK} {us : List Value} {vs : List V}
    (F : FnG X.prog X.w X.K X.mg X.base CX k f fd ps sp) (hg : X.A.guards = some []) (hr : Room k X.A) (hb : Binds X.K fd ps ds) (hd : Vals dvs ds)
    (hx : Passes CX X E) (I : Inv X pins σ H s) (r : Vals vs us) (h : sp (vs ++ dvs) H Q E) :
    wpAny (model X.prog X.w) X.A (call (.ref f) us) (EP X pins σ Q) X.xe s := by
  have r2 : Vals (vs ++ dvs) (us ++ ds) := Vals.append r hd
  have hl : (us ++ ds).length = ps.length := (Vals.length r2).symm.trans (F.len _ _ _ _ h)
  refine wpAny_call (codeAny_mono (F.run X.A X.stack s H ⟨us, []⟩ (us ++ ds) (vs ++ dvs) Q E hg hr I.env0 (hb s us I.kIn hl) r2 h) ?_)
  intro r s' hq
  have z := out_g hx I r s' hq
  cases r with
  | error e => exact z
  | ok fl => cases fl <;> first | exact z | exact (show False from z).elim
theorem pe_callG (F : FnG X.prog X.w X.K X.mg X.base CX k f fd ps sp) (hgd : X.A.guards = some []) (hr : Room k X.A) (hg : Gl X x)
    (hm : X.mg x = some (.ref f)) (hk : PySem.W.keepIn X.K (.ref f) = true) (hb : Binds X.K fd ps ds) (hd : Vals dvs ds) (hx : Passes CX X E)
    (ha : PA X (e :: es) t) (hdb : (x == ("__debug__" : Str)) = false := by decide)
    (he : starEach (e :: es) X.env = (false, eval e X.env) :: starEach es X.env := by rfl)
    (hpl : (backTo pos (starEach es X.env)).any (·.1) = false := by rfl) :
    PE X (.Call (.Name x p) (e :: es) [] pos) (tCall sp dvs E t) := by
  constructor
  intro pins s σ H Q I h
  refine wpAny_Call_Name_kw (ld_glob I hg hm ?_ hdb)
  refine PySem.W.callWith_K (h₀ := X.base) I.ok.mod.kin hk (thn (ha.run pos pins s σ H _ I h) ?_) he hpl
  rintro us s1 ⟨vs, H1, I1, r, q⟩
  exact ⟨I1.kIn, run_g F hgd hr hb hd hx I1 r q⟩
theorem run_gk {pins : List (Addr × Obj)} {σ : L2.St} {H : Hp} {s : Shared} {Q : VK} {us ws : List Value} {vs zs : List V}
    (F : FnG X.prog X.w X.K X.mg X.base CX k f fd ps sp) (hgd : X.A.guards = some []) (hr : Room k X.A) (hb : KBinds X.K fd ps ks g gV)
    (hx : Passes CX X E) (I : Inv X pins σ H s) (r : Vals vs us) (rz : Vals zs ws) (h : sp (gV vs zs) H Q E) :
    wpAny (model X.prog X.w) X.A (call (.ref f) us (ks.zip ws)) (EP X pins σ Q) X.xe s := by
  have r2 := hb.rel r rz
  have hl : (g us ws).length = ps.length := (Vals.length r2).symm.trans (F.len _ _ _ _ h)
  refine wpAny_call (codeAny_mono (F.run X.A X.stack s H ⟨us, ks.zip ws⟩ (g us ws) (gV vs zs) Q E hgd hr I.env0 (hb.to s us ws I.kIn hl) r2 h) ?_)
  intro r s' hq
  have z := out_g hx I r s' hq
  cases r with
  | error e => exact z
  | ok fl => cases fl <;> first | exact z | exact (show False from z).elim
end
theorem fn_ofG {CX : CXT} {P : Program} {w : World} {K : PySem.W.Frag} {mg : Str → Option Value} {base : Heap} {k : Nat} {f : Addr}
    {name qual : Str} {params : Arguments} {body : List Stmt} {scope : Scope} {dV kV doc pm cdv ct oc : Value} {an od : Option Addr}
    {osl : Array (Option Value)} {N ps : List Str} {sp : Sp}
    (lk : K.lookup f = some ⟨oc, od, .func (PySem.W.fnOf name qual params body scope dV kV doc pm an cdv ct), osl⟩)
    (hcd : PySem.W.codeIn K cdv qual = true) (S : FnScope N ps scope) (len : ∀ vs H Q E, sp vs H Q E → vs.length = ps.length)
    (hbody : ∀ (A : Around) (outer : List Env) (s : Shared) (H : Hp) (vs : List V) (Q : VK) (E : XK), A.guards = some [] →
      Room k (A.deeper (envOfC qual scope s.heap.objs.size f cdv)) → sp vs H Q E →
      ∃ t, PSs (cxOf CX P w K mg base N qual scope f cdv A outer s H E) body t ∧ t { nx := fun _ H' => Q .non H', rt := Q } (L2.start N vs) H) :
    FnG P w K mg base CX (k + 1) f (PySem.W.fnOf name qual params body scope dV kV doc pm an cdv ct) ps sp := by
  constructor
  · exact len
  intro A outer s H args us vs Q E hg hr e0 hb r hsp
  have hl := len _ _ _ _ hsp
  have keeps : ∀ b o, base.get? b = some o → s.heap.get? b = some o := fun b o e => (e0.bs b o e).1
  have KX : K.In s.heap := e0.mod.kin.keeps keeps
  have lim : s.heap.NoLimit := e0.mod.nolimit.keeps keeps
  have hkind : ∀ y ∈ ps.zip us, scope.names.lookup y.1 = some .local ∨
      (scope.names.lookup y.1 = some .cell ∧ ((cellsFrom (s.heap.objs.size + 1) scope.names []).lookup y.1).isSome = true) := by
    rintro ⟨n, v⟩ hy
    exact (S.par n (List.of_mem_zip hy).1).imp id fun q => ⟨q, PySem.W.cellsFrom_some _ _ _ (.inl q)⟩
  refine codeAny_call_function hr.depth (KX _ _ lk) rfl S.co S.gen rfl (PySem.W.codeRec_of KX hcd) (hb _ _ _ _ ?_)
  refine wpAny_newFunctionEnv_cells S.kind hkind ?_
  rintro env rfl s1 x
  refine ⟨lim.keeps x.toInCall.keep, codeAny_func ?_⟩
  obtain ⟨t, ht, hq⟩ := hbody A outer s H vs Q E hg (hr.deeper _) hsp
  have I := inv_start (E := E) (CX := CX) S hr.hd e0 hl r x
  refine wpAny_mono (ht.run [] s1 (L2.start N vs) H _ I hq) ?_ (fun e s' hs => hs)
  intro fl s' hs
  have fin : ∀ {σ' : L2.St} {H' : Hp} {v : V} {u : Value}, Inv (cxOf CX P w K mg base N qual scope f cdv A outer s H E) [] σ' H' s' →
      RelV v u → Q v H' → CE outer P w H s Q u s' := by
    intro σ' H' v u J rv q
    exact ⟨v, H', J.os, J.bare, J.base, J.hok, rv, q⟩
  cases fl with
  | ret u =>
    rcases hs with ⟨v, σ', H', J, rv, q⟩
    exact fin J rv q
  | next =>
    rcases hs with ⟨σ', H', J, q⟩
    exact fin (v := V.non) (u := Value.none) J rfl q
  | brk =>
    rcases hs with ⟨_, _, _, q⟩
    exact (show False from q).elim
  | cont =>
    rcases hs with ⟨_, _, _, q⟩
    exact (show False from q).elim
theorem okG {P : Program} {w : World} {K : PySem.W.Frag} {mg : Str → Option Value} {base : Heap} {x qual : Str} {st : Stmt} {f : Addr} {fd : FuncData}
    {N ps : List Str} {k : Nat} {sp : Sp} (F : Fun K x qual st f fd) (S : FnScope N ps (defScope st)) (len : ∀ vs H Q E, sp vs H Q E → vs.length = ps.length)
    (hbody : ∀ (cdv : Value) (A : Around) (outer : List Env) (s : Shared) (H : Hp) (vs : List V) (Q : VK) (E : XK), A.guards = some [] →
      Room k (A.deeper (envOfC qual (defScope st) s.heap.objs.size f cdv)) → sp vs H Q E →
      ∃ t, PSs (cxOf CX0 P w K mg base N qual (defScope st) f cdv A outer s H E).nox (defBody st) t ∧
        t { nx := fun _ H' => Q .non H', rt := Q } (L2.start N vs) H) : FnG P w K mg base CX0 (k + 1) f fd ps sp := by
  obtain ⟨oc, od, kV, doc, pm, an, cdv, ct, osl, rfl, lk, hcd⟩ := F.ex
  refine fn_ofG lk hcd S len ?_
  intro A outer s H vs Q E hg hr hsp
  obtain ⟨t, h, q⟩ := hbody cdv A outer s H vs Q E hg hr hsp
  exact ⟨t, PSs.nox h, q⟩
theorem lawG {P : Program} {w : World} {K : PySem.W.Frag} {mg mb : Str → Option Value} {CX : CXT} {k : Nat} {fa a : Addr} {fd : FuncData} {x : Str}
    {sp : Sp} {s₁ : Shared} {vs : List Value} {ns : List Int} (KX : K.In s₁.heap) (hns : s₁.heap.Ns mainGlobals mg) (hb : s₁.heap.Ns builtinsNs mb)
    (hbb : ∀ x : Str, x ≠ "__name__" → mb x = bootBuiltins x) (hlim : s₁.heap.NoLimit) (hg : s₁.gens = #[])
    (ha : s₁.heap.get? a = some { cls := .type "list", data := .seq vs.toArray }) (hi : IntsAre vs ns) (hl : ns.length ≤ sizeLine) (hr : Room k callerA)
    (F : ∀ base : Heap, K.In base → base.Ns mainGlobals mg → FnG P w K mg base CX k fa fd [x] sp)
    (hbind : ∀ (s : Shared) (u : Value), BindsTo s fd ⟨[u], []⟩ [(x, u)])
    (hsp : ∀ H : Hp, Only H → SqL K H a (ns.map V.int) → sp [.ref a] H (fun v _ => v = .bl true) fun _ _ _ => False)
    (hCX : ∀ H e s', CX [] H s₁ (fun _ _ _ => False) e s' → False) :
    codeAny (model P w) callerA (.call (.ref fa) ⟨[.ref a], []⟩)
      (fun r s' => r = .ok (.ret (.bool true)) ∧ OldK s₁.heap s'.heap ∧ s'.os = s₁.os ∧ AllBare s'.gens) s₁ := by
  have rv := vals_ints hi
  have lenV := hi.length
  -- whatever is tracked at the entry: the script or nothing
  have core : ∀ H : Hp, Only H → SqL K H a (ns.map V.int) → HOk P w H s₁.heap → (∀ b, H b ≠ none → b = a) → (H a ≠ none → K.lookup a = none) →
      codeAny (model P w) callerA (.call (.ref fa) ⟨[.ref a], []⟩)
        (fun r s' => r = .ok (.ret (.bool true)) ∧ OldK s₁.heap s'.heap ∧ s'.os = s₁.os ∧ AllBare s'.gens) s₁ := by
    intro H hO hS hok hA hK
    have none_of : ∀ {b : Addr}, b ≠ a → H b = none := by
      intro b hb
      cases q : H b with
      | none => rfl
      | some u => exact absurd (hA b (by rw [q]; exact nofun)) hb
    have not_dict : ∀ {b : Addr} {o : Obj} {es : Array DictEntry} {ep : Nat}, s₁.heap.get? b = some o → o.data = .dict es ep → H b = none := by
      intro b o es ep e d
      refine none_of fun z => ?_
      subst z
      rw [ha] at e
      cases e
      exact nomatch d
    have nsK : ∀ {b : Addr} {m : Str → Option Value}, s₁.heap.Ns b m → (hidT s₁.heap H).Ns b m := by
      rintro b m ⟨o, es, ep, e, d, r⟩
      exact ⟨o, es, ep, hidT_get e (not_dict e d), d, r⟩
    have hKb : K.In (hidT s₁.heap H) := by
      intro b o e
      refine hidT_get (KX b o e) ?_
      cases q : H b with
      | none => rfl
      | some u =>
        have z : b = a := hA b (by rw [q]; exact nofun)
        subst z
        rw [hK (by rw [q]; exact nofun)] at e
        cases e
    have hM : Mod K mg (hidT s₁.heap H) := ⟨hKb, nsK hns, ⟨mb, nsK hb, hbb⟩, Exists.elim hlim fun mc q => ⟨mc, nsK q.1, q.2⟩⟩
    have e0 : Env0 P w K mg (hidT s₁.heap H) callerA [] s₁ H :=
      { frames := rfl, mod := hM, bs := fun b o e => of_hidT e, bsz := Nat.le_of_eq (hidT_size _ _), funs := trivial,
        frf := fun b hb => by simp [frs] at hb, hok := hok, bare := .of_eq hg }
    have run := (F _ hKb (nsK hns)).run callerA [] s₁ H ⟨[.ref a], []⟩ [.ref a] [.ref a] _ _ rfl hr e0 (hbind s₁ (.ref a)) (.cons rfl .nil) (hsp H hO hS)
    refine codeAny_mono run ?_
    intro r s' h
    cases r with
    | error e => exact (hCX H e s' h).elim
    | ok fl =>
      cases fl with
      | next => exact (show False from h).elim
      | brk => exact (show False from h).elim
      | cont => exact (show False from h).elim
      | ret u =>
        rcases h with ⟨v, H', os, bare, un, hok', r', q⟩
        have qv : v = .bl true := q
        subst qv
        have hu : u = Value.bool true := r'
        subst hu
        refine ⟨rfl, OldK.of_keep ?_, os, bare⟩
        intro b o e
        cases q : H b with
        | none => exact un.keep b o e q (by simp [frs]) (by simp)
        | some u =>
          rcases hO b with z | ⟨ob, xs, z⟩
          · rw [q] at z
            cases z
          · have e1 := (hok b _ z).1
            have e2 := (hok' b _ (un.frzs b ob _ z)).1
            rw [e] at e1
            cases e1
            exact e2
  cases hk : K.lookup a with
  | some o =>
    have e := KX a o hk
    rw [ha] at e
    cases e
    have hS : SqL K (fun _ => none) a (ns.map V.int) :=
      .inr ⟨_, vs.toArray, _, hk, rfl, rfl, rfl, by rw [List.size_toArray, lenV]; exact hl, by simpa using rv⟩
    exact core (fun _ => none) (fun _ => .inl rfl) hS (fun b u z => nomatch (show (none : Option HO) = some u from z)) (fun b z => absurd rfl z) fun z => absurd rfl z
  | none =>
    let ob : Obj := { cls := .type "list", data := .seq vs.toArray }
    have here : ∀ {b : Addr}, b = a → (fun b => if b = a then some (HO.frz ob (.lst (ns.map V.int))) else none) b = some (.frz ob (.lst (ns.map V.int))) := fun h => if_pos h
    have off : ∀ {b : Addr}, b ≠ a → (fun b => if b = a then some (HO.frz ob (.lst (ns.map V.int))) else none) b = none := fun h => if_neg h
    refine core (fun b => if b = a then some (.frz ob (.lst (ns.map V.int))) else none) ?_ (.inl (.inr ⟨ob, here rfl⟩)) ?_ ?_ fun _ => hk
    · intro b
      by_cases hb : b = a
      · exact .inr ⟨_, _, here hb⟩
      · exact .inl (off hb)
    · intro b u z
      by_cases hb : b = a
      · have z' := (here hb).symm.trans z
        cases z'
        subst hb
        exact ⟨ha, by rw [List.length_map]; exact hl, vs, _, rv, ha⟩
      · have z' := (off hb).symm.trans z
        cases z'
    · intro b z
      by_cases hb : b = a
      · exact hb
      · exact absurd (off hb) z
theorem walkG {l : PySem.W.OpenLaw} {n k : Nat} {q : Program} {loose : List Str} {XP : (Str → Option Value) → Heap → Prop} {YP : World → Heap → Prop}
    {d : DefRec} {K : Params → PySem.W.Frag} {CX : World → CXT} {sp : World → Sp} {x : Str}
    (hn : l.most = some n) (hn2 : n ≤ sizeLine) (hdf : d.params.defaults = []) (hr : Room k callerA)
    (hY : ∀ (w : World) (h : Heap), YP w h → (K w.params).In h)
    (F : ∀ (w : World) (mg : Str → Option Value) (fa : Addr) (h : Heap), (K w.params).In h → h.Ns mainGlobals mg → mg d.name = some (.ref fa) →
      ∃ fd : FuncData, (∀ (s : Shared) (u : Value), BindsTo s fd ⟨[u], []⟩ [(x, u)]) ∧
        ∀ base : Heap, (K w.params).In base → base.Ns mainGlobals mg → FnG l.prog w (K w.params) mg base (CX w) k fa fd [x] (sp w))
    (hsp : ∀ (w : World) (H : Hp) (a : Addr) (ns : List Int), ns.length ≤ n → Only H → SqL (K w.params) H a (ns.map V.int) →
      sp w [.ref a] H (fun v _ => v = .bl true) fun _ _ _ => False)
    (hCX : ∀ (w : World) (H : Hp) (s : Shared) (e : Value) (s' : Shared), CX w [] H s (fun _ _ _ => False) e s' → False) :
    PySem.W.WalkO q loose XP YP l.row.toRowW d [] (fun f vs => PySem.call f vs) := by
  refine Att.attach_call hn hdf ?_
  intro w s₀ s₁ mg mb fa o pm cd doc a vs ns G Y ho hd hcd hmg hobj hints hlen hg
  have KX := hY w _ Y
  obtain ⟨fd, hb, hF⟩ := F w mg fa _ KX G.T.g hmg
  exact lawG KX G.T.g G.T.b G.T.builtins G.T.nolimit hg hobj hints (Nat.le_trans hlen hn2) hr hF hb
    (fun H hO hS => hsp w H a ns hlen hO hS) fun H e s' => hCX w H s₁ e s'
end GD

namespace GD
open PySem PySem.Spec PyProof.Rows L2
abbrev D := PyData
def keyD : L2.Key → D
  | .inl i => .int i
  | .inr x => .str x
inductive Mu where
  | l (ds : List D)
  | m (kvs : List (L2.Key × D))
  | o (nm lf : Str) (l : Addr) (fs : List (Str × D))
def obD : D := .dict [(.none, .none)]
def Mu.toD : Mu → D
  | .l ds => .list ds
  | .m kvs => .dict (kvs.map fun p => (keyD p.1, p.2))
  | .o .. => obD
def KTp (K : PySem.W.Frag) (a : Addr) (xs : List V) : Prop :=
  ∃ (o : Obj) (its : Array Value) (n : Nat), K.lookup a = some o ∧ o.cls = .type "tuple" ∧ o.data = .seq its n ∧ its.size ≤ sizeLine ∧ Vals xs its.toList
def tabD : List D → Bool
  | [] => true
  | .none :: ds => tabD ds
  | .str _ :: ds => tabD ds
  | _ :: _ => false
def TupN (K : PySem.W.Frag) (O : Addr → Prop) (H : Hp) (a : Addr) : Prop := (∃ o u, H a = some (.frz o (.tup u)) ∧ o.dict = none ∧ ¬ O a) ∨ ∃ o, K.lookup a = some o ∧ o.dict = none
def TpA (K : PySem.W.Frag) (O : Addr → Prop) (H : Hp) (a : Addr) (xs : List V) (ds : List D) : Prop := ((Rd H a (.tup xs) ∧ ¬ O a) ∨ KTp K a xs) ∧ (tabD ds = true → TupN K O H a)
def xDx (f : Str) (dx : Addr) : Option Addr := if f = ("" : Str) then none else some dx
def xH (f : Str) (H : Hp) (dx : Addr) (v : V) : Hp := if f = ("" : Str) then H else upd H dx (.xd [(f, v)])
theorem xd_tr {O O' : Addr → Prop} {H H' : Hp} {f : Str} {dx : Addr} {X : HO} (fo : ∀ a o, H a = some o → ¬ O a → ¬ O' a) (k : ∀ a o, ¬ O a → H a = some o → H' a = some o)
    (h2 : f = ("" : Str) ∨ H dx = some X) (n2 : f = ("" : Str) ∨ ¬ O dx) : (f = ("" : Str) ∨ H' dx = some X) ∧ (f = ("" : Str) ∨ ¬ O' dx) := by
  rcases h2 with e | h2
  · exact ⟨.inl e, .inl e⟩
  · rcases n2 with e | n2
    · exact ⟨.inl e, .inl e⟩
    · exact ⟨.inr (k _ _ n2 h2), .inr (fo _ _ h2 n2)⟩
mutual
inductive Rp (K : PySem.W.Frag) (O : Addr → Prop) (H : Hp) : V → D → Prop
  | non : Rp K O H .non .none
  | bl (b : Bool) : Rp K O H (.bl b) (.bool b)
  | int (i : Int) : Rp K O H (.int i) (.int i)
  | str (x : Str) : Rp K O H (.str x) (.str x)
  | lst {a : Addr} {xs : List V} {ds : List D} : H a = some (.lst xs) → ¬ O a → RpAll K O H xs ds → Rp K O H (.ref a) (.list ds)
  | tup {a : Addr} {xs : List V} {ds : List D} : TpA K O H a xs ds → RpAll K O H xs ds → Rp K O H (.ref a) (.tuple ds)
  | dic {a : Addr} {kvs : List (L2.Key × V)} {ds : List D} : Rd H a (.dK kvs) → ¬ O a → RpAll K O H (kvs.map (·.2)) ds → Rp K O H (.ref a) (.dict ((kvs.map fun p => keyD p.1).zip ds))
  | exc {a dx C : Addr} {nm f : Str} {v : V} {d : D} : PySem.W.nsIn K mainGlobals nm = some (some (.ref C)) → H a = some (XO (.ref C) (xDx f dx) a) → ¬ O a → (f = ("" : Str) ∨ H dx = some (.xd [(f, v)])) → (f = ("" : Str) ∨ ¬ O dx) → Rp K O H v d → Rp K O H (.ref a) (excD nm f d)
  | ob (a : Addr) : Rp K O H (.ref a) obD
inductive RpAll (K : PySem.W.Frag) (O : Addr → Prop) (H : Hp) : List V → List D → Prop
  | nil : RpAll K O H [] []
  | cons {v : V} {vs : List V} {d : D} {ds : List D} : Rp K O H v d → RpAll K O H vs ds → RpAll K O H (v :: vs) (d :: ds)
end
theorem rd_live {H : Hp} {a : Addr} {u : HO} (h : Rd H a u) : ∃ o, H a = some o := by
  rcases h with h | ⟨o, h⟩
  · exact ⟨_, h⟩
  · exact ⟨_, h⟩
theorem rd_tr {H H' : Hp} {a : Addr} {u : HO} (k : ∀ o, H a = some o → H' a = some o) (h : Rd H a u) : Rd H' a u := by
  rcases h with h | ⟨o, h⟩
  · exact .inl (k _ h)
  · exact .inr ⟨o, k _ h⟩
section
variable {K : PySem.W.Frag} {O O' : Addr → Prop} {H H' : Hp}
theorem or_tr {a : Addr} {u : HO} {P : Prop} (f : ∀ a o, H a = some o → ¬ O a → ¬ O' a) (k : ∀ a o, ¬ O a → H a = some o → H' a = some o) (h : (Rd H a u ∧ ¬ O a) ∨ P) : (Rd H' a u ∧ ¬ O' a) ∨ P := by
  rcases h with ⟨h, n⟩ | h
  · obtain ⟨o, e⟩ := rd_live h
    exact .inl ⟨rd_tr (fun o q => k a o n q) h, f a o e n⟩
  · exact .inr h
theorem TpA.tr {a : Addr} {xs : List V} {ds : List D} (f : ∀ a o, H a = some o → ¬ O a → ¬ O' a) (k : ∀ a o, ¬ O a → H a = some o → H' a = some o) (h : TpA K O H a xs ds) : TpA K O' H' a xs ds := by
  refine ⟨or_tr f k h.1, fun z => ?_⟩
  rcases h.2 z with ⟨o, u, e, q, n⟩ | q
  · exact .inl ⟨o, u, k a _ n e, q, f a _ e n⟩
  · exact .inr q
mutual
theorem Rp.tr (f : ∀ a o, H a = some o → ¬ O a → ¬ O' a) (k : ∀ a o, ¬ O a → H a = some o → H' a = some o) : ∀ {v : V} {d : D}, Rp K O H v d → Rp K O' H' v d
  | _, _, .non => .non
  | _, _, .bl b => .bl b
  | _, _, .int i => .int i
  | _, _, .str x => .str x
  | _, _, .lst h n r => .lst (k _ _ n h) (f _ _ h n) (RpAll.tr f k r)
  | _, _, .tup h r => .tup (h.tr f k) (RpAll.tr f k r)
  | _, _, .dic h n r => .dic (rd_tr (fun o q => k _ o n q) h) (let ⟨o, e⟩ := rd_live h; f _ o e n) (RpAll.tr f k r)
  | _, _, .exc c h n h2 n2 r => .exc c (k _ _ n h) (f _ _ h n) (xd_tr f k h2 n2).1 (xd_tr f k h2 n2).2 (Rp.tr f k r)
  | _, _, .ob a => .ob a
theorem RpAll.tr (f : ∀ a o, H a = some o → ¬ O a → ¬ O' a) (k : ∀ a o, ¬ O a → H a = some o → H' a = some o) : ∀ {vs : List V} {ds : List D}, RpAll K O H vs ds → RpAll K O' H' vs ds
  | _, _, .nil => .nil
  | _, _, .cons r t => .cons (Rp.tr f k r) (RpAll.tr f k t)
end
theorem Rp.anti (h : ∀ a, O' a → O a) {v : V} {d : D} (r : Rp K O H v d) : Rp K O' H v d := r.tr (fun a _ _ n q => n (h a q)) fun _ _ _ e => e
theorem RpAll.anti (h : ∀ a, O' a → O a) {v : List V} {d : List D} (r : RpAll K O H v d) : RpAll K O' H v d := r.tr (fun a _ _ n q => n (h a q)) fun _ _ _ e => e
theorem RpAll.length : ∀ {vs : List V} {ds : List D}, RpAll K O H vs ds → vs.length = ds.length
  | _, _, .nil => rfl
  | _, _, .cons _ t => congrArg (· + 1) (RpAll.length t)
theorem RpAll.get : ∀ {vs : List V} {ds : List D} {i : Nat} {d : D}, RpAll K O H vs ds → ds[i]? = some d → ∃ v, vs[i]? = some v ∧ Rp K O H v d
  | _, _, _, _, .nil, e => by simp at e
  | _, _, 0, _, .cons r _, e => by simp at e; subst e; exact ⟨_, rfl, r⟩
  | _, _, i + 1, _, .cons _ t, e => by
    obtain ⟨v, h1, h2⟩ := RpAll.get (i := i) t (by simpa using e)
    exact ⟨v, by simpa using h1, h2⟩
theorem RpAll.get' : ∀ {vs : List V} {ds : List D} {i : Nat} {v : V}, RpAll K O H vs ds → vs[i]? = some v → ∃ d, ds[i]? = some d ∧ Rp K O H v d
  | _, _, _, _, .nil, e => by simp at e
  | _, _, 0, _, .cons r _, e => by simp at e; subst e; exact ⟨_, rfl, r⟩
  | _, _, i + 1, _, .cons _ t, e => by
    obtain ⟨v, h1, h2⟩ := RpAll.get' (i := i) t (by simpa using e)
    exact ⟨v, by simpa using h1, h2⟩
theorem RpAll.append : ∀ {vs us : List V} {ds es : List D}, RpAll K O H vs ds → RpAll K O H us es → RpAll K O H (vs ++ us) (ds ++ es)
  | _, _, _, _, .nil, s => s
  | _, _, _, _, .cons r t, s => .cons r (RpAll.append t s)
theorem RpAll.take : ∀ {vs : List V} {ds : List D} (n : Nat), RpAll K O H vs ds → RpAll K O H (vs.take n) (ds.take n)
  | _, _, 0, _ => .nil
  | _, _, _ + 1, .nil => .nil
  | _, _, n + 1, .cons r t => .cons r (RpAll.take n t)
theorem RpAll.drop : ∀ {vs : List V} {ds : List D} (n : Nat), RpAll K O H vs ds → RpAll K O H (vs.drop n) (ds.drop n)
  | _, _, 0, r => r
  | _, _, _ + 1, .nil => .nil
  | _, _, n + 1, .cons _ t => RpAll.drop n t
theorem RpAll.set {v : V} {d : D} (q : Rp K O H v d) : ∀ {vs : List V} {ds : List D} (n : Nat), RpAll K O H vs ds → RpAll K O H (vs.set n v) (ds.set n d)
  | _, _, _, .nil => .nil
  | _, _, 0, .cons _ t => .cons q t
  | _, _, n + 1, .cons r t => .cons r (RpAll.set q n t)
theorem RpAll.one {v : V} {d : D} (q : Rp K O H v d) : RpAll K O H [v] [d] := .cons q .nil
mutual
theorem Rp.dp : ∀ {v : V} {d : D}, Rp K O H v d → d.hasDict = false → Dp K H v d
  | _, _, .non, _ => .non
  | _, _, .bl b, _ => .bl b
  | _, _, .int i, _ => .int i
  | _, _, .str x, _ => .str x
  | _, _, .lst h _ r, s => .lst (.inl (.inl h)) (RpAll.dp r (by simpa [PyData.hasDict] using s))
  | _, _, .tup h r, s => .tup (h.1.imp (·.1) id) (RpAll.dp r (by simpa [PyData.hasDict] using s))
  | _, _, .dic .., s => by simp [PyData.hasDict] at s
  | _, _, .exc .., s => by simp [excD, PyData.hasDict] at s
  | _, _, .ob _, s => by simp [obD, PyData.hasDict] at s
theorem RpAll.dp : ∀ {vs : List V} {ds : List D}, RpAll K O H vs ds → PyData.hasDictAll ds = false → DpAll K H vs ds
  | _, _, .nil, _ => .nil
  | _, _, .cons r t, s => .cons (Rp.dp r (by simp [PyData.hasDictAll] at s; exact s.1)) (RpAll.dp t (by simp [PyData.hasDictAll] at s; exact s.2))
end
end

structure Ext (W : Addr → Prop) (H H' : Hp) : Prop where
  same : ∀ a o, H a = some o → ¬ W a → H' a = some o
  live : ∀ a, H a ≠ none → H' a ≠ none
def MuAt (K : PySem.W.Frag) (O : Addr → Prop) (H : Hp) (a : Addr) : Mu → Prop
  | .l ds => ∃ xs, H a = some (.lst xs) ∧ RpAll K O H xs ds
  | .m kvs => ∃ es : List (L2.Key × V), H a = some (.dK es) ∧ es.map (·.1) = kvs.map (·.1) ∧ RpAll K O H (es.map (·.2)) (kvs.map (·.2))
  | .o nm lf l fs => ∃ (C dx : Addr) (vs : List V), PySem.W.nsIn K mainGlobals nm = some (some (.ref C)) ∧ H a = some (.ins C dx ((fs.map (·.1)).zip vs ++ [(lf, .ref l)])) ∧ RpAll K O H vs (fs.map (·.2))
inductive Sl where
  | shr (d : D)
  | own (p : Bool) (m : Mu)
abbrev En := List (Option Sl)
structure Frm where
  O0 : Addr → Prop
  W0 : Addr → Prop
  H0 : Hp
  vs : List V
def Wr (env : En) (σ : L2.St) (a : Addr) : Prop := ∃ (i : Nat) (p : Bool) (m : Mu), env[i]? = some (some (Sl.own p m)) ∧ σ[i]? = some (some (V.ref a))
def Ow (F : Frm) (T : Addr → Prop) (env : En) (σ : L2.St) (a : Addr) : Prop := F.O0 a ∨ T a ∨ Wr env σ a
structure StOk (K : PySem.W.Frag) (F : Frm) (T : Addr → Prop) (H : Hp) (env : En) (σ : L2.St) : Prop where
  len : env.length = σ.length
  shr : ∀ (i : Nat) (d : D), env[i]? = some (some (Sl.shr d)) → ∃ v, σ[i]? = some (some v) ∧ Rp K (Ow F T env σ) H v d
  own : ∀ (i : Nat) (p : Bool) (m : Mu), env[i]? = some (some (Sl.own p m)) → ∃ a, σ[i]? = some (some (V.ref a)) ∧ MuAt K (Ow F T env σ) H a m ∧ (if p = true then F.W0 a ∧ F.vs[i]? = some (V.ref a) else F.H0 a = none)
  dis : ∀ (i j : Nat) (p q : Bool) (m n : Mu) (a : Addr), env[i]? = some (some (Sl.own p m)) → env[j]? = some (some (Sl.own q n)) → σ[i]? = some (some (V.ref a)) → σ[j]? = some (some (V.ref a)) → i = j
  ext : Ext F.W0 F.H0 H
  dom : ∀ a, F.O0 a → F.H0 a ≠ none
  sub : ∀ a, F.W0 a → F.O0 a
  tdm : ∀ a, T a → H a ≠ none
  tno : ∀ a, T a → ¬ Wr env σ a
structure Stp (env : En) (σ : L2.St) (H : Hp) (env' : En) (H' : Hp) : Prop where
  ext : Ext (Wr env σ) H H'
  wr : ∀ a, Wr env' σ a → Wr env σ a
structure Stq (env : En) (σ : L2.St) (H : Hp) (env' : En) (σ' : L2.St) (H' : Hp) : Prop where
  ext : Ext (Wr env σ) H H'
  wr : ∀ a, Wr env' σ' a → Wr env σ a ∨ H a = none
section
variable {K : PySem.W.Frag} {F : Frm} {T T' : Addr → Prop} {H H1 H2 H' : Hp} {env env1 env2 env' : En} {σ σ1 σ2 σ' : L2.St}
theorem Ext.refl {W : Addr → Prop} : Ext W H H := ⟨fun _ _ e _ => e, fun _ e => e⟩
theorem Ext.new {W : Addr → Prop} {p : Addr} {o : HO} (n : H p = none) : Ext W H (upd H p o) :=
  ⟨fun a u e _ => by rw [upd_ne (ne_of_none e n)]; exact e, fun a e => by
    by_cases h : a = p
    · subst h; rw [upd_same]; simp
    · rw [upd_ne h]; exact e⟩
theorem Ext.trans {W W' : Addr → Prop} (a : Ext W H H1) (b : Ext W' H1 H2) (h : ∀ x, W' x → W x ∨ H x = none) : Ext W H H2 :=
  ⟨fun x o e n => b.same x o (a.same x o e n) fun q => (h x q).elim n fun q => (by rw [e] at q; cases q), fun x e => b.live x (a.live x e)⟩
theorem Ext.mono {W W' : Addr → Prop} (a : Ext W H H1) (h : ∀ x, W x → W' x) : Ext W' H H1 := ⟨fun x o e n => a.same x o e fun q => n (h x q), a.live⟩
theorem Stp.refl : Stp env σ H env H := ⟨Ext.refl, fun _ h => h⟩
theorem Stp.trans (a : Stp env σ H env1 H1) (b : Stp env1 σ H1 env2 H2) : Stp env σ H env2 H2 :=
  ⟨a.ext.trans b.ext fun x q => .inl (a.wr x q), fun x q => a.wr x (b.wr x q)⟩
theorem Stp.q (a : Stp env σ H env1 H1) : Stq env σ H env1 σ H1 := ⟨a.ext, fun x q => .inl (a.wr x q)⟩
theorem Stq.refl : Stq env σ H env σ H := ⟨Ext.refl, fun _ h => .inl h⟩
theorem Stq.trans (a : Stq env σ H env1 σ1 H1) (b : Stq env1 σ1 H1 env2 σ2 H2) : Stq env σ H env2 σ2 H2 :=
  ⟨a.ext.trans b.ext a.wr, fun x q => by
    rcases b.wr x q with q | q
    · exact a.wr x q
    · refine .inr ?_
      cases e : H x with
      | none => rfl
      | some o => exact absurd q (a.ext.live x (by rw [e]; simp))⟩
theorem Stp.new {p : Addr} {o : HO} (n : H p = none) : Stp env σ H env (upd H p o) := ⟨Ext.new n, fun _ h => h⟩
theorem StOk.wlive (S : StOk K F T H env σ) {a : Addr} (h : Wr env σ a) : H a ≠ none := by
  obtain ⟨i, p, m, e, q⟩ := h
  obtain ⟨a', e1, mu, _⟩ := S.own i p m e
  rw [q] at e1; cases e1
  cases m with
  | l ds => obtain ⟨xs, h, _⟩ := mu; rw [h]; simp
  | m kvs => obtain ⟨xs, h, _⟩ := mu; rw [h]; simp
  | o nm lf l fs => obtain ⟨C, dx, xs, _, h, _⟩ := mu; rw [h]; simp
theorem StOk.olive (S : StOk K F T H env σ) {a : Addr} (h : Ow F T env σ a) : H a ≠ none := by
  rcases h with h | h | h
  · exact S.ext.live a (S.dom a h)
  · exact S.tdm a h
  · exact S.wlive h
theorem StOk.fresh (S : StOk K F T H env σ) {p : Addr} (n : H p = none) : ¬ Ow F T env σ p := fun h => S.olive h n
theorem StOk.fresh0 (S : StOk K F T H env σ) {p : Addr} (n : H p = none) : F.H0 p = none := by
  cases e : F.H0 p with
  | none => rfl
  | some o => exact absurd n (S.ext.live p (by rw [e]; simp))
theorem Rp.stq {v : V} {d : D} (r : Rp K (Ow F T env σ) H v d) (b : Stq env σ H env' σ' H') : Rp K (Ow F T env' σ') H' v d := r.tr
  (fun a o e n q => by
    rcases q with q | q | q
    · exact n (.inl q)
    · exact n (.inr (.inl q))
    · rcases b.wr a q with q | q
      · exact n (.inr (.inr q))
      · rw [e] at q; cases q)
  fun a o n e => b.ext.same a o e fun q => n (.inr (.inr q))
theorem RpAll.stq {v : List V} {d : List D} (r : RpAll K (Ow F T env σ) H v d) (b : Stq env σ H env' σ' H') : RpAll K (Ow F T env' σ') H' v d := r.tr
  (fun a o e n q => by
    rcases q with q | q | q
    · exact n (.inl q)
    · exact n (.inr (.inl q))
    · rcases b.wr a q with q | q
      · exact n (.inr (.inr q))
      · rw [e] at q; cases q)
  fun a o n e => b.ext.same a o e fun q => n (.inr (.inr q))
theorem Rp.stp {v : V} {d : D} (r : Rp K (Ow F T env σ) H v d) (b : Stp env σ H env' H') : Rp K (Ow F T env' σ) H' v d := r.stq b.q
theorem RpAll.stp {v : List V} {d : List D} (r : RpAll K (Ow F T env σ) H v d) (b : Stp env σ H env' H') : RpAll K (Ow F T env' σ) H' v d := r.stq b.q
theorem MuAt.tr {O O' : Addr → Prop} {a : Addr} {m : Mu} (f : ∀ a o, H a = some o → ¬ O a → ¬ O' a) (k : ∀ a o, ¬ O a → H a = some o → H' a = some o) (ka : ∀ o, H a = some o → H' a = some o) (h : MuAt K O H a m) : MuAt K O' H' a m := by
  cases m with
  | l ds => obtain ⟨xs, e, r⟩ := h; exact ⟨xs, ka _ e, r.tr f k⟩
  | m kvs => obtain ⟨xs, e, g, r⟩ := h; exact ⟨xs, ka _ e, g, r.tr f k⟩
  | o nm lf l fs => obtain ⟨C, dx, xs, c, e, r⟩ := h; exact ⟨C, dx, xs, c, ka _ e, r.tr f k⟩
theorem StOk.anti (S : StOk K F T H env σ) (h : ∀ a, T' a → T a) : StOk K F T' H env σ := by
  have g : ∀ a, Ow F T' env σ a → Ow F T env σ a := fun a q => q.imp id (.imp (h a) id)
  exact ⟨S.len, fun i d e => let ⟨v, e1, r⟩ := S.shr i d e; ⟨v, e1, r.anti g⟩,
    fun i p m e => let ⟨a, e1, r, c⟩ := S.own i p m e; ⟨a, e1, r.tr (fun a _ _ n q => n (g a q)) (fun _ _ _ e => e) (fun _ e => e), c⟩, S.dis, S.ext, S.dom, S.sub, fun a q => S.tdm a (h a q), fun a q => S.tno a (h a q)⟩
theorem StOk.new (S : StOk K F T H env σ) {p : Addr} {o : HO} (n : H p = none) : StOk K F (fun a => T a ∨ a = p) (upd H p o) env σ := by
  have ne : ∀ a u, H a = some u → a ≠ p := fun a u e => ne_of_none e n
  have f : ∀ a u, H a = some u → ¬ Ow F T env σ a → ¬ Ow F (fun a => T a ∨ a = p) env σ a := fun a u e k q => by
    rcases q with q | (q | q) | q
    · exact k (.inl q)
    · exact k (.inr (.inl q))
    · exact ne a u e q
    · exact k (.inr (.inr q))
  have k : ∀ a u, H a = some u → upd H p o a = some u := fun a u e => by rw [upd_ne (ne a u e)]; exact e
  exact ⟨S.len, fun i d e => let ⟨v, e1, r⟩ := S.shr i d e; ⟨v, e1, r.tr f fun a u _ e => k a u e⟩,
    fun i p m e => let ⟨a, e1, r, c⟩ := S.own i p m e; ⟨a, e1, r.tr f (fun a u _ e => k a u e) (k a), c⟩, S.dis,
    S.ext.trans (Ext.new (W := fun _ => False) n) (fun _ q => q.elim), S.dom, S.sub, fun a q => (by
      rcases q with q | rfl
      · exact (Ext.new (W := fun _ => False) n).live a (S.tdm a q)
      · rw [upd_same]; simp), fun a q z => q.elim (fun q => S.tno a q z) fun q => by subst q; exact S.wlive z n⟩
theorem RpAll.new {p : Addr} {o : HO} (n : H p = none) {vs : List V} {ds : List D} (r : RpAll K (Ow F T env σ) H vs ds) : RpAll K (Ow F (fun a => T a ∨ a = p) env σ) (upd H p o) vs ds := r.tr
  (fun a u e k q => by
    rcases q with q | (q | q) | q
    · exact k (.inl q)
    · exact k (.inr (.inl q))
    · exact ne_of_none e n q
    · exact k (.inr (.inr q)))
  fun a u _ e => by rw [upd_ne (ne_of_none e n)]; exact e
theorem Rp.new {p : Addr} {o : HO} (n : H p = none) {v : V} {d : D} (r : Rp K (Ow F T env σ) H v d) : Rp K (Ow F (fun a => T a ∨ a = p) env σ) (upd H p o) v d := by
  cases RpAll.new n (.one r) with
  | cons r _ => exact r
theorem MuAt.rp {O : Addr → Prop} {p : Addr} {m : Mu} (h : MuAt K O H p m) (n : ¬ O p) : Rp K O H (.ref p) m.toD := by
  cases m with
  | l ds => obtain ⟨xs, e, r⟩ := h; exact .lst e n r
  | o nm lf l fs => exact .ob p
  | m kvs =>
    obtain ⟨es, e, g, r⟩ := h
    have q : (kvs.map fun p => (keyD p.1, p.2)) = (es.map fun p => keyD p.1).zip (kvs.map (·.2)) := by
      have g' : (es.map fun p => keyD p.1) = kvs.map fun p => keyD p.1 := by
        have := congrArg (List.map keyD) g
        simpa [List.map_map, Function.comp_def] using this
      rw [g']
      clear r g g' e
      induction kvs with
      | nil => rfl
      | cons x t ih => simp [ih]
    show Rp K O H (.ref p) (.dict _)
    rw [q]
    exact .dic (.inl e) n r
end
end GD

namespace GD
open PySem PySem.Spec PyProof.Rows L2
def tTupF (t : TA) : TE := fun σ H Q => t σ H fun xs H1 => xs.length ≤ sizeLine ∧ ∀ (p : Addr) (o : Obj), H1 p = none → o.dict = none → Q (.ref p) (upd H1 p (.frz o (.tup xs)))
theorem laid_fz {X : Cx} {pins : List (Addr × Obj)} {σ : L2.St} {H : Hp} {s : Shared} {us : List Value} {ys : List V} (I : Inv X pins σ H s) (hz : ys.length ≤ sizeLine) (r : Vals ys us) (tk : Nat) :
    Inv X pins σ (upd H s.heap.objs.size (.frz { cls := .type "tuple", data := .seq us.toArray } (.tup ys))) { s with heap := s.heap.push { cls := .type "tuple", data := .seq us.toArray }, toks := tk } :=
  I.laid (fun b u e => Heap.get?_push_of_some _ e) (Nat.le_refl _) ⟨Heap.get?_push_size _ rfl, hz, us, r, IsTup.new _ _⟩
theorem pe_tupF {X : Cx} {es : List Expr} {t : TA} {pos : Pos} {x1} (h : PA X es t) : PE X (.Tuple es x1 pos) (tTupF t) := by
  constructor
  intro pins s σ H Q I hq
  refine wpAny_Tuple_spliced (thn (h.run pos pins s σ H _ I hq) ?_)
  rintro us s1 ⟨xs, H1, I1, r, z, q⟩
  refine ⟨by rw [← r.length]; exact z, ⟨.ref s1.heap.objs.size, _, laid_fz I1 z r s1.toks, rfl, q _ _ ?_ rfl⟩⟩
  exact I1.hok.fresh (Nat.le_refl _)
theorem TpA.new {K : PySem.W.Frag} {O : Addr → Prop} {H : Hp} {p : Addr} {o : Obj} {xs : List V} {ds : List D} (hd : o.dict = none) (n : ¬ O p) : TpA K O (upd H p (.frz o (.tup xs))) p xs ds :=
  ⟨.inl ⟨.inr ⟨o, upd_same⟩, n⟩, fun _ => .inl ⟨o, _, upd_same, hd, n⟩⟩
theorem TpA.of {K : PySem.W.Frag} {O : Addr → Prop} {H : Hp} {a : Addr} {xs : List V} {ds : List D} (h : (Rd H a (.tup xs) ∧ ¬ O a) ∨ KTp K a xs) (n : tabD ds = false) : TpA K O H a xs ds := ⟨h, fun z => by rw [n] at z; cases z⟩
theorem MuAt.alive {K : PySem.W.Frag} {O : Addr → Prop} {H : Hp} {a : Addr} {m : Mu} (r : MuAt K O H a m) : H a ≠ none := by
  cases m with
  | l ds => obtain ⟨_, h, _⟩ := r; rw [h]; simp
  | m ds => obtain ⟨_, h, _⟩ := r; rw [h]; simp
  | o nm lf l fs => obtain ⟨_, _, _, _, h, _⟩ := r; rw [h]; simp
inductive R where
  | val (d : D)
  | slot (i : Nat)
abbrev EvE := En → Option (R × En)
abbrev EvM := En → Option (Mu × En)
abbrev EvT := En → Option (Bool × En)
abbrev EvA := En → Option (List R × En)
def slOf (env : En) (i : Nat) : Option Sl := (env[i]?).bind id
theorem slOf_eq {env : En} {i : Nat} {s : Sl} : slOf env i = some s ↔ env[i]? = some (some s) := by
  unfold slOf
  cases env[i]? with
  | none => simp
  | some o => cases o <;> simp
def RvOk (K : PySem.W.Frag) (F : Frm) (T : Addr → Prop) (H : Hp) (env : En) (σ : L2.St) (v : V) : R → Prop
  | .val d => Rp K (Ow F T env σ) H v d
  | .slot i => σ[i]? = some (some v)
def rs (env : En) : R → Option D
  | .val d => some d
  | .slot i => match slOf env i with
    | some (.own _ m) => some m.toD
    | some (.shr d) => some d
    | none => none
def rk (env : En) : R → Option D
  | .val d => some d
  | .slot i => match slOf env i with
    | some (.shr d) => some d
    | _ => none
def ExcAt (K : PySem.W.Frag) (O : Addr → Prop) (H : Hp) (v : V) (es : List (D × D)) : Prop :=
  ∃ (a dx C : Addr) (nm f : Str) (x : V) (d : D), v = .ref a ∧ PySem.W.nsIn K mainGlobals nm = some (some (.ref C)) ∧ H a = some (XO (.ref C) (xDx f dx) a) ∧ (f = ("" : Str) ∨ H dx = some (.xd [(f, x)])) ∧ Rp K O H x d ∧ es = [(.none, .str nm), (.str f, d)]
def Lv (K : PySem.W.Frag) (O : Addr → Prop) (H : Hp) (v : V) : D → Prop
  | .list ds => ∃ a xs, v = .ref a ∧ H a = some (.lst xs) ∧ RpAll K O H xs ds
  | .dict es => (∃ a kvs ds, v = .ref a ∧ Rd H a (.dK kvs) ∧ RpAll K O H (kvs.map (·.2)) ds ∧ es = (kvs.map fun p => keyD p.1).zip ds) ∨ ExcAt K O H v es ∨ ((∃ a, v = .ref a) ∧ es = [(.none, .none)])
  | d => Rp K O H v d
theorem Rp.lv {K : PySem.W.Frag} {O : Addr → Prop} {H : Hp} {v : V} {d : D} (r : Rp K O H v d) : Lv K O H v d := by
  cases r with
  | non => exact .non
  | bl b => exact .bl b
  | int i => exact .int i
  | str x => exact .str x
  | lst h _ r => exact ⟨_, _, rfl, h, r⟩
  | tup h r => exact .tup h r
  | dic h n r => exact .inl ⟨_, _, _, rfl, h, r, rfl⟩
  | exc c h n h2 n2 r => exact .inr (.inl ⟨_, _, _, _, _, _, _, rfl, c, h, h2, r, rfl⟩)
  | ob a => exact .inr (.inr ⟨⟨a, rfl⟩, rfl⟩)
theorem dic_zip {kvs : List (L2.Key × D)} {es : List (L2.Key × V)} (g : es.map (·.1) = kvs.map (·.1)) : (kvs.map fun p => (keyD p.1, p.2)) = (es.map fun p => keyD p.1).zip (kvs.map (·.2)) := by
  have g' : (es.map fun p => keyD p.1) = kvs.map fun p => keyD p.1 := by
    have := congrArg (List.map keyD) g
    simpa [List.map_map, Function.comp_def] using this
  rw [g']
  clear g g'
  induction kvs with
  | nil => rfl
  | cons x t ih => simp [ih]
theorem MuAt.lv {K : PySem.W.Frag} {O : Addr → Prop} {H : Hp} {a : Addr} {m : Mu} (r : MuAt K O H a m) : Lv K O H (.ref a) m.toD := by
  cases m with
  | l ds => obtain ⟨xs, e, r⟩ := r; exact ⟨a, xs, rfl, e, r⟩
  | m kvs => obtain ⟨es, e, g, r⟩ := r; exact .inl ⟨a, es, _, rfl, .inl e, r, dic_zip g⟩
  | o nm lf l fs => exact .inr (.inr ⟨⟨a, rfl⟩, rfl⟩)
theorem Lv.dp {K : PySem.W.Frag} {O : Addr → Prop} {H : Hp} {v : V} {d : D} (r : Lv K O H v d) (h : d.hasDict = false) : Dp K H v d := by
  cases d with
  | list ds => obtain ⟨a, xs, rfl, s, r⟩ := r; exact .lst (.inl (.inl s)) (r.dp (by simpa [PyData.hasDict] using h))
  | dict es => simp [PyData.hasDict] at h
  | _ => exact Rp.dp r h
section
variable {K : PySem.W.Frag} {F : Frm} {T : Addr → Prop} {H H' : Hp} {env env' : En} {σ : L2.St} {v : V} {r : R} {d : D}
theorem RvOk.stp (h : RvOk K F T H env σ v r) (b : Stp env σ H env' H') : RvOk K F T H' env' σ v r := by
  cases r with
  | val d => exact Rp.stp h b
  | slot i => exact h
theorem rs_ok (S : StOk K F T H env σ) (h : RvOk K F T H env σ v r) (e : rs env r = some d) : Lv K (Ow F T env σ) H v d := by
  cases r with
  | val d' => simp only [rs, Option.some.injEq] at e; subst e; exact Rp.lv h
  | slot i =>
    unfold rs at e
    cases g : slOf env i with
    | none => simp [g] at e
    | some s =>
      have g' := slOf_eq.mp g
      cases s with
      | shr d' =>
        simp [g] at e; subst e
        obtain ⟨v', e1, r1⟩ := S.shr i _ g'
        rw [show σ[i]? = some (some v) from h] at e1; cases e1
        exact r1.lv
      | own p m =>
        simp [g] at e; subst e
        obtain ⟨a, e1, r1, _⟩ := S.own i _ _ g'
        rw [show σ[i]? = some (some v) from h] at e1; cases e1
        exact r1.lv
theorem rk_ok (S : StOk K F T H env σ) (h : RvOk K F T H env σ v r) (e : rk env r = some d) : Rp K (Ow F T env σ) H v d := by
  cases r with
  | val d' => simp only [rk, Option.some.injEq] at e; subst e; exact h
  | slot i =>
    unfold rk at e
    cases g : slOf env i with
    | none => simp [g] at e
    | some s =>
      have g' := slOf_eq.mp g
      cases s with
      | shr d' =>
        simp [g] at e; subst e
        obtain ⟨v', e1, r1⟩ := S.shr i _ g'
        rw [show σ[i]? = some (some v) from h] at e1; cases e1
        exact r1
      | own p m => simp [g] at e
theorem StOk.lay (S : StOk K F T H env σ) (x : Ext (fun _ => False) H H') : StOk K F T H' env σ := by
  have k : ∀ a o, H a = some o → H' a = some o := fun a o e => x.same a o e id
  exact ⟨S.len, fun i d e => let ⟨v, e1, r⟩ := S.shr i d e; ⟨v, e1, r.tr (fun _ _ _ n => n) fun a o _ e => k a o e⟩,
    fun i p m e => let ⟨a, e1, r, c⟩ := S.own i p m e; ⟨a, e1, r.tr (fun _ _ _ n => n) (fun a o _ e => k a o e) (k a), c⟩, S.dis, S.ext.trans x (fun _ q => q.elim), S.dom, S.sub, fun a q => x.live a (S.tdm a q), S.tno⟩
theorem StOk.lay1 (S : StOk K F T H env σ) {p : Addr} (n : H p = none) (x : Ext (fun _ => False) H H') (l : H' p ≠ none) : StOk K F (fun a => T a ∨ a = p) H' env σ := by
  have k : ∀ a o, H a = some o → H' a = some o := fun a o e => x.same a o e id
  have f : ∀ a u, H a = some u → ¬ Ow F T env σ a → ¬ Ow F (fun a => T a ∨ a = p) env σ a := fun a u e k q => by
    rcases q with q | (q | q) | q
    · exact k (.inl q)
    · exact k (.inr (.inl q))
    · exact ne_of_none e n q
    · exact k (.inr (.inr q))
  exact ⟨S.len, fun i d e => let ⟨v, e1, r⟩ := S.shr i d e; ⟨v, e1, r.tr f fun a u _ e => k a u e⟩,
    fun i p m e => let ⟨a, e1, r, c⟩ := S.own i p m e; ⟨a, e1, r.tr f (fun a u _ e => k a u e) (k a), c⟩, S.dis,
    S.ext.trans x (fun _ q => q.elim), S.dom, S.sub, fun a q => (by
      rcases q with q | rfl
      · exact x.live a (S.tdm a q)
      · exact l), fun a q z => q.elim (fun q => S.tno a q z) fun q => by subst q; exact S.wlive z n⟩
theorem Stp.lay (x : Ext (fun _ => False) H H') : Stp env σ H env H' := ⟨x.mono fun _ q => q.elim, fun _ h => h⟩
theorem owp {p : Addr} (n : H p = none) {vs : List V} {ds : List D} (x : Ext (fun _ => False) H H') (r : RpAll K (Ow F T env σ) H vs ds) : RpAll K (Ow F (fun a => T a ∨ a = p) env σ) H' vs ds := r.tr
  (fun a u e k q => by
    rcases q with q | (q | q) | q
    · exact k (.inl q)
    · exact k (.inr (.inl q))
    · exact ne_of_none e n q
    · exact k (.inr (.inr q)))
  fun a u _ e => x.same a u e id
end
def IE (K : PySem.W.Frag) (t : TE) (f : EvE) : Prop := ∀ F T env σ H r env', StOk K F T H env σ → f env = some (r, env') → ∀ Q : VK,
  (∀ v H', StOk K F T H' env' σ → Stp env σ H env' H' → RvOk K F T H' env' σ v r → Q v H') → t σ H Q
def IM (K : PySem.W.Frag) (t : TE) (f : EvM) : Prop := ∀ F T env σ H m env', StOk K F T H env σ → f env = some (m, env') → ∀ Q : VK,
  (∀ p H', H p = none → StOk K F (fun a => T a ∨ a = p) H' env' σ → Stp env σ H env' H' → MuAt K (Ow F (fun a => T a ∨ a = p) env' σ) H' p m → Q (.ref p) H') → t σ H Q
def IT (K : PySem.W.Frag) (t : TT) (f : EvT) : Prop := ∀ F T env σ H b env', StOk K F T H env σ → f env = some (b, env') → ∀ Q : Bool → Hp → Prop,
  (∀ H', StOk K F T H' env' σ → Stp env σ H env' H' → Q b H') → t σ H Q
def RvAll (K : PySem.W.Frag) (F : Frm) (T : Addr → Prop) (H : Hp) (env : En) (σ : L2.St) : List V → List R → Prop
  | [], [] => True
  | v :: vs, r :: rs => RvOk K F T H env σ v r ∧ RvAll K F T H env σ vs rs
  | _, _ => False
def IA (K : PySem.W.Frag) (t : TA) (f : EvA) : Prop := ∀ F T env σ H rs env', StOk K F T H env σ → f env = some (rs, env') → ∀ Q : List V → Hp → Prop,
  (∀ vs H', StOk K F T H' env' σ → Stp env σ H env' H' → RvAll K F T H' env' σ vs rs → Q vs H') → t σ H Q
section
variable {K : PySem.W.Frag} {F : Frm} {T : Addr → Prop} {H H' : Hp} {env env' : En} {σ : L2.St}
theorem RvAll.stp (b : Stp env σ H env' H') : ∀ {vs : List V} {rs : List R}, RvAll K F T H env σ vs rs → RvAll K F T H' env' σ vs rs
  | [], [], _ => trivial
  | v :: vs, r :: rs, h => ⟨h.1.stp b, RvAll.stp b h.2⟩
  | [], _ :: _, h => h.elim
  | _ :: _, [], h => h.elim
def LvAll (K : PySem.W.Frag) (O : Addr → Prop) (H : Hp) : List V → List D → Prop
  | [], [] => True
  | v :: vs, r :: rs => Lv K O H v r ∧ LvAll K O H vs rs
  | _, _ => False
def rsA (env : En) : List R → Option (List D)
  | [] => some []
  | r :: l => (rs env r).bind fun d => (rsA env l).map fun ds => d :: ds
def rkA (env : En) : List R → Option (List D)
  | [] => some []
  | r :: l => (rk env r).bind fun d => (rkA env l).map fun ds => d :: ds
theorem rsA_ok (S : StOk K F T H env σ) : ∀ {vs : List V} {l : List R} {ds : List D}, RvAll K F T H env σ vs l → rsA env l = some ds → LvAll K (Ow F T env σ) H vs ds
  | [], [], ds, _, e => by simp only [rsA, Option.some.injEq] at e; subst e; trivial
  | v :: vs, r :: l, ds, h, e => by
    simp only [rsA, Option.bind_eq_some_iff, Option.map_eq_some_iff] at e
    obtain ⟨d, e1, ds', e2, rfl⟩ := e
    exact ⟨rs_ok S h.1 e1, rsA_ok S h.2 e2⟩
  | [], _ :: _, _, h, _ => h.elim
  | _ :: _, [], _, h, _ => h.elim
theorem rkA_ok (S : StOk K F T H env σ) : ∀ {vs : List V} {l : List R} {ds : List D}, RvAll K F T H env σ vs l → rkA env l = some ds → RpAll K (Ow F T env σ) H vs ds
  | [], [], ds, _, e => by simp only [rkA, Option.some.injEq] at e; subst e; exact .nil
  | v :: vs, r :: l, ds, h, e => by
    simp only [rkA, Option.bind_eq_some_iff, Option.map_eq_some_iff] at e
    obtain ⟨d, e1, ds', e2, rfl⟩ := e
    exact .cons (rk_ok S h.1 e1) (rkA_ok S h.2 e2)
  | [], _ :: _, _, h, _ => h.elim
  | _ :: _, [], _, h, _ => h.elim
end
section
variable {K : PySem.W.Frag} {ta tb te : TE} {fa fb fe : EvE} {t u : TT} {ft fu : EvT} {tl : TA} {fl : EvA}
def eVar (i : Nat) : EvE := fun env => match slOf env i with
  | some (.shr d) => some (.val d, env)
  | some (.own _ _) => some (.slot i, env)
  | none => none
theorem ie_var {i : Nat} : IE K (tVar i) (eVar i) := by
  intro F T env σ H r env' S e Q q
  unfold eVar at e
  cases g : slOf env i with
  | none => simp [g] at e
  | some s =>
    have g' := slOf_eq.mp g
    cases s with
    | shr d =>
      simp [g] at e
      obtain ⟨rfl, rfl⟩ := e
      obtain ⟨v, e1, r1⟩ := S.shr i _ g'
      exact ⟨v, e1, q v H S Stp.refl r1⟩
    | own p m =>
      simp [g] at e
      obtain ⟨rfl, rfl⟩ := e
      obtain ⟨a, e1, r1, _⟩ := S.own i _ _ g'
      exact ⟨_, e1, q _ H S Stp.refl e1⟩
def eGive (i : Nat) : EvE := fun env => match slOf env i with
  | some (.shr d) => some (.val d, env)
  | some (.own false m) => some (.val m.toD, env.set i (some (.shr m.toD)))
  | _ => none
theorem set_get {α : Type} {l : List α} {i j : Nat} {x y : α} (h : (l.set i x)[j]? = some y) : (i = j ∧ y = x) ∨ (i ≠ j ∧ l[j]? = some y) := by
  by_cases e : i = j
  · subst e
    refine .inl ⟨rfl, ?_⟩
    rw [List.getElem?_set] at h
    simp only [↓reduceIte] at h
    split at h
    · exact (Option.some.inj h).symm
    · cases h
  · rw [List.getElem?_set_ne e] at h
    exact .inr ⟨e, h⟩
theorem give_ok {F : Frm} {T : Addr → Prop} {env : En} {σ : L2.St} {H : Hp} {i : Nat} {m : Mu} (S : StOk K F T H env σ) (g' : env[i]? = some (some (Sl.own false m))) :
    ∃ a, σ[i]? = some (some (V.ref a)) ∧ StOk K F T H (env.set i (some (.shr m.toD))) σ ∧ Stp env σ H (env.set i (some (.shr m.toD))) H ∧ Rp K (Ow F T (env.set i (some (.shr m.toD))) σ) H (.ref a) m.toD := by
  obtain ⟨a, e1, mu, hp⟩ := S.own i _ _ g'
  have sub : ∀ b, Wr (env.set i (some (.shr m.toD))) σ b → Wr env σ b ∧ b ≠ a := by
    rintro b ⟨j, p, n, ej, sj⟩
    rcases set_get ej with ⟨rfl, h⟩ | ⟨hne, h⟩
    · cases h
    · refine ⟨⟨j, p, n, h, sj⟩, fun hb => ?_⟩
      subst hb
      exact hne (S.dis i j _ _ _ _ _ g' h e1 sj)
  have ow : ∀ b, Ow F T (env.set i (some (.shr m.toD))) σ b → Ow F T env σ b := fun b h => h.imp id (.imp id fun q => (sub b q).1)
  have hd : F.H0 a = none := by simpa using hp
  have na : ¬ Ow F T (env.set i (some (.shr m.toD))) σ a := by
    rintro (h | h | h)
    · exact S.dom a h hd
    · exact S.tno a h ⟨i, _, _, g', e1⟩
    · exact (sub a h).2 rfl
  have rp : Rp K (Ow F T (env.set i (some (.shr m.toD))) σ) H (.ref a) m.toD := (mu.tr (fun b _ _ n q => n (ow b q)) (fun _ _ _ e => e) (fun _ e => e)).rp na
  refine ⟨a, e1, ⟨?_, ?_, ?_, ?_, S.ext, S.dom, S.sub, S.tdm, fun b q z => S.tno b q (sub b z).1⟩, ⟨Ext.refl, fun b q => (sub b q).1⟩, rp⟩
  · rw [List.length_set]; exact S.len
  · intro j d h
    rcases set_get h with ⟨rfl, hh⟩ | ⟨_, h⟩
    · cases hh; exact ⟨_, e1, rp⟩
    · obtain ⟨v, e2, r⟩ := S.shr j d h; exact ⟨v, e2, r.anti ow⟩
  · intro j p n h
    rcases set_get h with ⟨rfl, hh⟩ | ⟨_, h⟩
    · cases hh
    · obtain ⟨b, e2, r, c⟩ := S.own j p n h
      exact ⟨b, e2, r.tr (fun b _ _ n q => n (ow b q)) (fun _ _ _ e => e) (fun _ e => e), c⟩
  · intro j k p q n o b h1 h2 s1 s2
    rcases set_get h1 with ⟨rfl, h⟩ | ⟨_, h1⟩
    · cases h
    · rcases set_get h2 with ⟨rfl, h⟩ | ⟨_, h2⟩
      · cases h
      · exact S.dis j k p q n o b h1 h2 s1 s2
theorem ie_give {i : Nat} : IE K (tVar i) (eGive i) := by
  intro F T env σ H r env' S e Q q
  unfold eGive at e
  cases g : slOf env i with
  | none => simp [g] at e
  | some s =>
    have g' := slOf_eq.mp g
    cases s with
    | shr d =>
      simp [g] at e
      obtain ⟨rfl, rfl⟩ := e
      obtain ⟨v, e1, r1⟩ := S.shr i _ g'
      exact ⟨v, e1, q v H S Stp.refl r1⟩
    | own p m =>
      cases p with
      | true => simp [g] at e
      | false =>
        simp [g] at e
        obtain ⟨rfl, rfl⟩ := e
        obtain ⟨a, e1, S', st, rp⟩ := give_ok S g'
        exact ⟨_, e1, q _ H S' st rp⟩
def eC (d : D) : EvE := fun env => some (.val d, env)
theorem ie_non : IE K (tC .non) (eC .none) := fun F T env σ H r env' S e Q q => by cases e; exact q _ H S Stp.refl .non
theorem ie_bl {b : Bool} : IE K (tC (.bl b)) (eC (.bool b)) := fun F T env σ H r env' S e Q q => by cases e; exact q _ H S Stp.refl (.bl b)
theorem ie_int {i : Int} : IE K (tC (.int i)) (eC (.int i)) := fun F T env σ H r env' S e Q q => by cases e; exact q _ H S Stp.refl (.int i)
theorem ie_str {x : Str} : IE K (tC (.str x)) (eC (.str x)) := fun F T env σ H r env' S e Q q => by cases e; exact q _ H S Stp.refl (.str x)
def OpD (K : PySem.W.Frag) (r : R2) (g : D → D → Option D) : Prop := ∀ (O : Addr → Prop) (H : Hp) x y d e z, (∀ a, O a → H a ≠ none) → Lv K O H x d → Lv K O H y e → g d e = some z → ∀ Q : VK,
  (∀ v H', Ext (fun _ => False) H H' → Rp K O H' v z → Q v H') → r x y H Q
def OpM (K : PySem.W.Frag) (r : R2) (g : D → D → Option Mu) : Prop := ∀ (O : Addr → Prop) (H : Hp) x y d e z, (∀ a, O a → H a ≠ none) → Lv K O H x d → Lv K O H y e → g d e = some z → ∀ Q : VK,
  (∀ p H', H p = none → Ext (fun _ => False) H H' → MuAt K (fun a => O a ∨ a = p) H' p z → Q (.ref p) H') → r x y H Q
def e2 (fa fb : EvE) : En → Option (D × D × En) := fun env => (fa env).bind fun p => (fb p.2).bind fun q => (rs q.2 p.1).bind fun d => (rs q.2 q.1).map fun e => (d, e, q.2)
theorem i2 (ha : IE K ta fa) (hb : IE K tb fb) {F : Frm} {T : Addr → Prop} {env env' : En} {σ : L2.St} {H : Hp} {d e : D} (S : StOk K F T H env σ) (h : e2 fa fb env = some (d, e, env')) {R : V → V → Hp → Prop}
    (k : ∀ x y H', StOk K F T H' env' σ → Stp env σ H env' H' → Lv K (Ow F T env' σ) H' x d → Lv K (Ow F T env' σ) H' y e → R x y H') : ta σ H fun x H1 => tb σ H1 fun y H2 => R x y H2 := by
  simp only [e2, Option.bind_eq_some_iff, Option.map_eq_some_iff] at h
  obtain ⟨⟨r1, e1⟩, h1, ⟨r2, e2⟩, h2, d', h3, e', h4, h5⟩ := h
  cases h5
  refine ha F T env σ H r1 e1 S h1 _ fun x H1 S1 s1 v1 => ?_
  refine hb F T e1 σ H1 r2 _ S1 h2 _ fun y H2 S2 s2 v2 => ?_
  exact k x y H2 S2 (s1.trans s2) (rs_ok S2 (v1.stp s2) h3) (rs_ok S2 v2 h4)
def eOp (g : D → D → Option D) (fa fb : EvE) : EvE := fun env => (e2 fa fb env).bind fun p => (g p.1 p.2.1).map fun z => (.val z, p.2.2)
theorem ie_op {r : R2} {g : D → D → Option D} (hr : OpD K r g) (ha : IE K ta fa) (hb : IE K tb fb) : IE K (tOp r ta tb) (eOp g fa fb) := by
  intro F T env σ H r env' S e Q q
  simp only [eOp, Option.bind_eq_some_iff, Option.map_eq_some_iff] at e
  obtain ⟨⟨d, e, e1⟩, h1, z, h2, h3⟩ := e
  cases h3
  refine i2 ha hb S h1 fun x y H' S' st l1 l2 => hr (Ow F T e1 σ) H' x y d e z (fun a h => S'.olive h) l1 l2 h2 Q fun v H2 x r => ?_
  exact q v H2 (S'.lay x) (st.trans (Stp.lay x)) r
def UnD (K : PySem.W.Frag) (r : V → Hp → VK → Prop) (g : D → Option D) : Prop := ∀ (O : Addr → Prop) (H : Hp) x d z, (∀ a, O a → H a ≠ none) → Lv K O H x d → g d = some z → ∀ Q : VK, (∀ v H', Ext (fun _ => False) H H' → Rp K O H' v z → Q v H') → r x H Q
def e1 (fa : EvE) : En → Option (D × En) := fun env => (fa env).bind fun p => (rs p.2 p.1).map fun d => (d, p.2)
theorem i1 (ha : IE K ta fa) {F : Frm} {T : Addr → Prop} {env env' : En} {σ : L2.St} {H : Hp} {d : D} (S : StOk K F T H env σ) (h : e1 fa env = some (d, env')) {R : V → Hp → Prop}
    (k : ∀ x H', StOk K F T H' env' σ → Stp env σ H env' H' → Lv K (Ow F T env' σ) H' x d → R x H') : ta σ H fun x H1 => R x H1 := by
  simp only [e1, Option.bind_eq_some_iff, Option.map_eq_some_iff] at h
  obtain ⟨⟨r1, e1⟩, h1, d', h3, h5⟩ := h
  cases h5
  exact ha F T env σ H r1 e1 S h1 _ fun x H1 S1 s1 v1 => k x H1 S1 s1 (rs_ok S1 v1 h3)
def eUn (g : D → Option D) (fa : EvE) : EvE := fun env => (e1 fa env).bind fun p => (g p.1).map fun z => (.val z, p.2)
theorem ie_un {r : V → Hp → VK → Prop} {g : D → Option D} (hr : UnD K r g) (ha : IE K ta fa) : IE K (tUn r ta) (eUn g fa) := by
  intro F T env σ H r env' S e Q q
  simp only [eUn, Option.bind_eq_some_iff, Option.map_eq_some_iff] at e
  obtain ⟨⟨d, e1⟩, h1, z, h2, h3⟩ := e
  cases h3
  refine i1 ha S h1 fun x H' S' st l1 => hr (Ow F T e1 σ) H' x d z (fun a h => S'.olive h) l1 h2 Q fun v H2 x r => ?_
  exact q v H2 (S'.lay x) (st.trans (Stp.lay x)) r
def aNil : EvA := fun env => some ([], env)
def aCons (fa : EvE) (fl : EvA) : EvA := fun env => (fa env).bind fun p => (fl p.2).map fun q => (p.1 :: q.1, q.2)
theorem ia_nil : IA K tNil aNil := fun F T env σ H r env' S e Q q => by cases e; exact q [] H S Stp.refl trivial
theorem ia_cons (ha : IE K ta fa) (hl : IA K tl fl) : IA K (tCons ta tl) (aCons fa fl) := by
  intro F T env σ H rs env' S e Q q
  simp only [aCons, Option.bind_eq_some_iff, Option.map_eq_some_iff] at e
  obtain ⟨⟨r1, e1⟩, h1, ⟨l, e2⟩, h2, h3⟩ := e
  cases h3
  refine ha F T env σ H r1 e1 S h1 _ fun x H1 S1 s1 v1 => ?_
  refine hl F T e1 σ H1 l _ S1 h2 _ fun vs H2 S2 s2 v2 => ?_
  exact q _ H2 S2 (s1.trans s2) ⟨v1.stp s2, v2⟩
def eA (fl : EvA) : En → Option (List D × En) := fun env => (fl env).bind fun p => (rsA p.2 p.1).map fun ds => (ds, p.2)
def eK (fl : EvA) : En → Option (List D × En) := fun env => (fl env).bind fun p => (rkA p.2 p.1).map fun ds => (ds, p.2)
def small (n : Nat) : Bool := decide (n ≤ 1000000)
theorem small_le {n : Nat} (h : small n = true) : n ≤ sizeLine := Nat.le_trans (of_decide_eq_true h) (by decide)
theorem small_lt {n : Nat} (h : small n = true) : n < sizeLine := Nat.lt_of_le_of_lt (of_decide_eq_true h) (by decide)
def eTup (fl : EvA) : EvE := fun env => (eK fl env).bind fun p => if small p.1.length = true then some (.val (.tuple p.1), p.2) else none
def eLst (fl : EvA) : EvM := fun env => (eK fl env).bind fun p => if small p.1.length = true then some (.l p.1, p.2) else none
theorem ie_tup (hl : IA K tl fl) : IE K (tTupF tl) (eTup fl) := by
  intro F T env σ H r env' S e Q q
  simp only [eTup, eK, Option.bind_eq_some_iff, Option.map_eq_some_iff] at e
  obtain ⟨⟨ds, e1⟩, ⟨⟨l, e2⟩, h1, ds', h2, h3⟩, h4⟩ := e
  cases h3
  split at h4
  · rename_i hs
    cases h4
    refine hl F T env σ H l _ S h1 _ fun vs H1 S1 s1 v1 => ?_
    have ra := rkA_ok S1 v1 h2
    refine ⟨by rw [ra.length]; exact small_le hs, fun p ob np hd => ?_⟩
    have x : Ext (fun _ => False) H1 (upd H1 p (.frz ob (.tup vs))) := Ext.new np
    refine q _ _ (S1.lay x) (s1.trans (Stp.lay x)) (.tup (TpA.new hd (S1.fresh np)) (ra.tr (fun _ _ _ n => n) fun a o _ e => x.same a o e id))
  · cases h4
theorem im_lst (hl : IA K tl fl) : IM K (tLst tl) (eLst fl) := by
  intro F T env σ H r env' S e Q q
  simp only [eLst, eK, Option.bind_eq_some_iff, Option.map_eq_some_iff] at e
  obtain ⟨⟨ds, e1⟩, ⟨⟨l, e2⟩, h1, ds', h2, h3⟩, h4⟩ := e
  cases h3
  split at h4
  · rename_i hs
    cases h4
    refine hl F T env σ H l _ S h1 _ fun vs H1 S1 s1 v1 => ?_
    have ra := rkA_ok S1 v1 h2
    refine ⟨by rw [ra.length]; exact small_le hs, fun p np => ?_⟩
    have x : Ext (fun _ => False) H1 (upd H1 p (.lst vs)) := Ext.new np
    have n0 : H p = none := by
      cases h : H p with
      | none => rfl
      | some o => exact absurd np (s1.ext.live p (by rw [h]; simp))
    exact q _ _ n0 (S1.lay1 np x (by rw [upd_same]; simp)) (s1.trans (Stp.lay x)) ⟨vs, upd_same, owp np x ra⟩
  · cases h4
def CaD (K : PySem.W.Frag) (r : List V → Hp → VK → Prop) (g : List D → Option D) : Prop := ∀ (O : Addr → Prop) (H : Hp) xs ds z, (∀ a, O a → H a ≠ none) → LvAll K O H xs ds → g ds = some z → ∀ Q : VK,
  (∀ v H', Ext (fun _ => False) H H' → Rp K O H' v z → Q v H') → r xs H Q
def CaM (K : PySem.W.Frag) (r : List V → Hp → VK → Prop) (g : List D → Option Mu) : Prop := ∀ (O : Addr → Prop) (H : Hp) xs ds z, (∀ a, O a → H a ≠ none) → LvAll K O H xs ds → g ds = some z → ∀ Q : VK,
  (∀ p H', H p = none → Ext (fun _ => False) H H' → MuAt K (fun a => O a ∨ a = p) H' p z → Q (.ref p) H') → r xs H Q
def eCa (g : List D → Option D) (fl : EvA) : EvE := fun env => (eA fl env).bind fun p => (g p.1).map fun z => (.val z, p.2)
def eCaM (g : List D → Option Mu) (fl : EvA) : EvM := fun env => (eA fl env).bind fun p => (g p.1).map fun z => (z, p.2)
theorem ie_cb {r : List V → Hp → VK → Prop} {g : List D → Option D} (hr : CaD K r g) (hl : IA K tl fl) : IE K (tCB r tl) (eCa g fl) := by
  intro F T env σ H r env' S e Q q
  simp only [eCa, eA, Option.bind_eq_some_iff, Option.map_eq_some_iff] at e
  obtain ⟨⟨ds, e1⟩, ⟨⟨l, e2⟩, h1, ds', h2, h3⟩, z, h4, h5⟩ := e
  cases h3; cases h5
  refine hl F T env σ H l _ S h1 _ fun vs H1 S1 s1 v1 => ?_
  refine hr (Ow F T _ σ) H1 vs ds z (fun a h => S1.olive h) (rsA_ok S1 v1 h2) h4 Q fun v H2 x r => ?_
  exact q v H2 (S1.lay x) (s1.trans (Stp.lay x)) r
theorem im_cb {r : List V → Hp → VK → Prop} {g : List D → Option Mu} (hr : CaM K r g) (hl : IA K tl fl) : IM K (tCB r tl) (eCaM g fl) := by
  intro F T env σ H m env' S e Q q
  simp only [eCaM, eA, Option.bind_eq_some_iff, Option.map_eq_some_iff] at e
  obtain ⟨⟨ds, e1⟩, ⟨⟨l, e2⟩, h1, ds', h2, h3⟩, z, h4, h5⟩ := e
  cases h3; cases h5
  refine hl F T env σ H l _ S h1 _ fun vs H1 S1 s1 v1 => ?_
  refine hr (Ow F T _ σ) H1 vs ds m (fun a h => S1.olive h) (rsA_ok S1 v1 h2) h4 Q fun p H2 n x r => ?_
  have np : H p = none := by
    cases h : H p with
    | none => rfl
    | some o => exact absurd n (s1.ext.live p (by rw [h]; simp))
  have l : H2 p ≠ none := by
    exact r.alive
  exact q p H2 np (S1.lay1 n x l) (s1.trans (Stp.lay x)) (r.tr (fun a _ _ n q => n (by
    rcases q with q | (q | q) | q
    · exact .inl (.inl q)
    · exact .inl (.inr (.inl q))
    · exact .inr q
    · exact .inl (.inr (.inr q)))) (fun _ _ _ e => e) fun _ e => e)
def tVal (fe : EvE) : EvT := fun env => (e1 fe env).bind fun p => match p.1 with
  | .bool b => some (b, p.2)
  | _ => none
theorem it_B (h : IE K te fe) : IT K (tB te) (tVal fe) := by
  intro F T env σ H b env' S e Q q
  simp only [tVal, Option.bind_eq_some_iff] at e
  obtain ⟨⟨d, e1⟩, h1, h2⟩ := e
  refine i1 h S h1 fun x H' S' st l => ?_
  cases d with
  | bool c =>
    simp only [Option.some.injEq, Prod.mk.injEq] at h2
    obtain ⟨rfl, rfl⟩ := h2
    cases (show Rp K _ H' x (.bool c) from l)
    exact ⟨c, rfl, q H' S' st⟩
  | _ => cases h2
theorem it_test (h : IE K te fe) : IT K (tTest te) (tVal fe) := it_B h
def tfAnd (ft fu : EvT) : EvT := fun env => (ft env).bind fun p => if p.1 = true then fu p.2 else some (false, p.2)
def tfOr (ft fu : EvT) : EvT := fun env => (ft env).bind fun p => if p.1 = true then some (true, p.2) else fu p.2
theorem it_and (h : IT K t ft) (h' : IT K u fu) : IT K (tAnd t u) (tfAnd ft fu) := by
  intro F T env σ H b env' S e Q q
  simp only [tfAnd, Option.bind_eq_some_iff] at e
  obtain ⟨⟨c, e1⟩, h1, h2⟩ := e
  refine h F T env σ H c e1 S h1 _ fun H1 S1 s1 => ?_
  cases c with
  | true =>
    simp only [if_true] at h2 ⊢
    exact h' F T e1 σ H1 b env' S1 h2 Q fun H2 S2 s2 => q H2 S2 (s1.trans s2)
  | false =>
    simp only [Bool.false_eq_true, if_false, Option.some.injEq, Prod.mk.injEq] at h2 ⊢
    obtain ⟨rfl, rfl⟩ := h2
    exact q H1 S1 s1
theorem it_or (h : IT K t ft) (h' : IT K u fu) : IT K (tOr t u) (tfOr ft fu) := by
  intro F T env σ H b env' S e Q q
  simp only [tfOr, Option.bind_eq_some_iff] at e
  obtain ⟨⟨c, e1⟩, h1, h2⟩ := e
  refine h F T env σ H c e1 S h1 _ fun H1 S1 s1 => ?_
  cases c with
  | false =>
    simp only [Bool.false_eq_true, if_false] at h2 ⊢
    exact h' F T e1 σ H1 b env' S1 h2 Q fun H2 S2 s2 => q H2 S2 (s1.trans s2)
  | true =>
    simp only [if_true, Option.some.injEq, Prod.mk.injEq] at h2 ⊢
    obtain ⟨rfl, rfl⟩ := h2
    exact q H1 S1 s1
def tYesE : EvT := fun env => some (true, env)
theorem it_yes : IT K tYes tYesE := fun F T env σ H b env' S e Q q => by cases e; exact q H S Stp.refl
def eAnd (fa fb : EvE) : EvE := fun env => (e1 fa env).bind fun p => match p.1 with
  | .bool true => fb p.2
  | .bool false => some (.val (.bool false), p.2)
  | _ => none
theorem ie_and (ha : IE K ta fa) (hb : IE K tb fb) : IE K (tAndV ta tb) (eAnd fa fb) := by
  intro F T env σ H r env' S e Q q
  simp only [eAnd, Option.bind_eq_some_iff] at e
  obtain ⟨⟨d, e1⟩, h1, h2⟩ := e
  refine i1 ha S h1 fun x H' S' st l => ?_
  cases d with
  | bool c =>
    cases (show Rp K _ H' x (.bool c) from l)
    refine ⟨c, rfl, ?_⟩
    cases c with
    | true => exact hb F T e1 σ H' r env' S' h2 Q fun v H2 S2 s2 r2 => q v H2 S2 (st.trans s2) r2
    | false => cases h2; exact q _ H' S' st (.bl false)
  | _ => cases h2
end
end GD

namespace GD
open PySem PySem.Spec PyProof.Rows L2
def T0 : Addr → Prop := fun _ => False
inductive Ret where
  | val (d : D)
  | new (m : Mu)
inductive Fl where
  | nx
  | bk
  | ct
  | rt (r : Ret)
abbrev EvS := En → Option (Fl × En)
def RetOk (K : PySem.W.Frag) (F : Frm) (H' : Hp) (v : V) (env' : En) (σ' : L2.St) : Ret → Prop
  | .val d => StOk K F T0 H' env' σ' ∧ Rp K (Ow F T0 env' σ') H' v d
  | .new m => ∃ p T', v = .ref p ∧ F.H0 p = none ∧ StOk K F T' H' env' σ' ∧ Ow F T' env' σ' p ∧ MuAt K (Ow F T' env' σ') H' p m
def SEnd (K : PySem.W.Frag) (F : Frm) (env : En) (σ : L2.St) (H : Hp) (env' : En) (Dn : Ends) : Fl → Prop
  | .nx => ∀ σ' H', StOk K F T0 H' env' σ' → Stq env σ H env' σ' H' → Dn.nx σ' H'
  | .bk => ∀ σ' H', StOk K F T0 H' env' σ' → Stq env σ H env' σ' H' → Dn.bk σ' H'
  | .ct => ∀ σ' H', StOk K F T0 H' env' σ' → Stq env σ H env' σ' H' → Dn.ct σ' H'
  | .rt r => ∀ v σ' H', RetOk K F H' v env' σ' r → Dn.rt v H'
def IS (K : PySem.W.Frag) (t : TS) (f : EvS) : Prop := ∀ F env σ H fl env', StOk K F T0 H env σ → f env = some (fl, env') → ∀ Dn : Ends, SEnd K F env σ H env' Dn fl → t Dn σ H
section
variable {K : PySem.W.Frag} {te : TE} {fe : EvE} {fm : EvM} {t u : TS} {f g : EvS} {c : TT} {fc : EvT}
theorem SEnd.pre {F : Frm} {env env1 env' : En} {σ σ1 : L2.St} {H H1 : Hp} {Dn : Ends} {fl : Fl} (h : SEnd K F env σ H env' Dn fl) (b : Stq env σ H env1 σ1 H1) : SEnd K F env1 σ1 H1 env' Dn fl := by
  cases fl with
  | nx => exact fun σ' H' S q => h σ' H' S (b.trans q)
  | bk => exact fun σ' H' S q => h σ' H' S (b.trans q)
  | ct => exact fun σ' H' S q => h σ' H' S (b.trans q)
  | rt r => exact h
def sNext : EvS := fun env => some (.nx, env)
theorem is_next : IS K tNext sNext := fun F env σ H fl env' S e Dn h => by cases e; exact h σ H S Stq.refl
def sSeq (f g : EvS) : EvS := fun env => (f env).bind fun p => match p.1 with
  | .nx => g p.2
  | .bk => some (.bk, p.2)
  | .ct => some (.ct, p.2)
  | .rt r => some (.rt r, p.2)
theorem is_seq (h1 : IS K t f) (h2 : IS K u g) : IS K (tSeq t u) (sSeq f g) := by
  intro F env σ H fl env' S e Dn h
  simp only [sSeq, Option.bind_eq_some_iff] at e
  obtain ⟨⟨fl1, e1⟩, a1, a2⟩ := e
  cases fl1 with
  | nx => exact h1 F env σ H .nx e1 S a1 _ fun σ' H' S' q => h2 F e1 σ' H' fl env' S' a2 Dn (h.pre q)
  | bk => cases a2; exact h1 F env σ H .bk e1 S a1 _ h
  | ct => cases a2; exact h1 F env σ H .ct e1 S a1 _ h
  | rt r => cases a2; exact h1 F env σ H (.rt r) e1 S a1 _ h
def sIf (fc : EvT) (f g : EvS) : EvS := fun env => (fc env).bind fun p => if p.1 = true then f p.2 else g p.2
theorem is_if (hc : IT K c fc) (h1 : IS K t f) (h2 : IS K u g) : IS K (tIfS c t u) (sIf fc f g) := by
  intro F env σ H fl env' S e Dn h
  simp only [sIf, Option.bind_eq_some_iff] at e
  obtain ⟨⟨b, e1⟩, a1, a2⟩ := e
  refine hc F T0 env σ H b e1 S a1 _ fun H1 S1 s1 => ?_
  cases b with
  | true =>
    simp only [if_true] at a2 ⊢
    exact h1 F e1 σ H1 fl env' S1 a2 Dn (h.pre s1.q)
  | false =>
    simp only [Bool.false_eq_true, if_false] at a2 ⊢
    exact h2 F e1 σ H1 fl env' S1 a2 Dn (h.pre s1.q)
def sDrop (fe : EvE) : EvS := fun env => (fe env).map fun p => (.nx, p.2)
theorem is_drop (h : IE K te fe) : IS K (tDrop te) (sDrop fe) := by
  intro F env σ H fl env' S e Dn k
  simp only [sDrop, Option.map_eq_some_iff] at e
  obtain ⟨⟨r, e1⟩, a1, a2⟩ := e
  cases a2
  exact h F T0 env σ H r e1 S a1 _ fun v H' S' st _ => k σ H' S' st.q
section
variable {F : Frm} {T : Addr → Prop} {H : Hp} {env : En} {σ : L2.St}
theorem wr_set {i : Nat} {s : Option Sl} {v : V} {b : Addr} (h : Wr (env.set i s) (σ.set i (some v)) b) : Wr env σ b ∨ (∃ p m, s = some (.own p m) ∧ v = .ref b) := by
  obtain ⟨j, p, m, ej, sj⟩ := h
  rcases set_get ej with ⟨rfl, hh⟩ | ⟨hne, h⟩
  · rcases set_get sj with ⟨_, h2⟩ | ⟨hne, _⟩
    · exact .inr ⟨p, m, hh.symm, (Option.some.inj h2).symm⟩
    · exact absurd rfl hne
  · rcases set_get sj with ⟨rfl, _⟩ | ⟨_, h2⟩
    · exact absurd rfl hne
    · exact .inl ⟨j, p, m, h, h2⟩
theorem StOk.setS (S : StOk K F T H env σ) {i : Nat} {v : V} {d : D} (r : Rp K (Ow F T env σ) H v d) : StOk K F T H (env.set i (some (.shr d))) (σ.set i (some v)) := by
  have sub : ∀ b, Wr (env.set i (some (.shr d))) (σ.set i (some v)) b → Wr env σ b := fun b h => (wr_set h).elim id fun ⟨p, m, e, _⟩ => by cases e
  have ow : ∀ b, Ow F T (env.set i (some (.shr d))) (σ.set i (some v)) b → Ow F T env σ b := fun b h => h.imp id (.imp id (sub b))
  have gs : ∀ j k (x y : Option V), i ≠ j → σ[j]? = some x → (σ.set i k)[j]? = some x := fun j k x y h e => by rw [List.getElem?_set_ne h]; exact e
  refine ⟨by simp only [List.length_set]; exact S.len, ?_, ?_, ?_, S.ext, S.dom, S.sub, S.tdm, fun b q z => S.tno b q (sub b z)⟩
  · intro j d' h
    rcases set_get h with ⟨rfl, hh⟩ | ⟨hne, h⟩
    · cases hh
      have hl : i < σ.length := by
        rw [← S.len]
        have := (List.getElem?_eq_some_iff.mp h).1
        simpa using this
      exact ⟨v, by rw [List.getElem?_set_self hl], r.anti ow⟩
    · obtain ⟨w, e2, r⟩ := S.shr j d' h
      exact ⟨w, by rw [List.getElem?_set_ne hne]; exact e2, r.anti ow⟩
  · intro j p n h
    rcases set_get h with ⟨rfl, hh⟩ | ⟨hne, h⟩
    · cases hh
    · obtain ⟨b, e2, r, c⟩ := S.own j p n h
      exact ⟨b, by rw [List.getElem?_set_ne hne]; exact e2, r.tr (fun b _ _ n q => n (ow b q)) (fun _ _ _ e => e) (fun _ e => e), c⟩
  · intro j k p q n o b h1 h2 s1 s2
    rcases set_get h1 with ⟨rfl, hh⟩ | ⟨n1, h1⟩
    · cases hh
    · rcases set_get h2 with ⟨rfl, hh⟩ | ⟨n2, h2⟩
      · cases hh
      · rw [List.getElem?_set_ne n1] at s1
        rw [List.getElem?_set_ne n2] at s2
        exact S.dis j k p q n o b h1 h2 s1 s2
theorem StOk.setS_q (S : StOk K F T H env σ) {i : Nat} {v : V} {d : D} : Stq env σ H (env.set i (some (.shr d))) (σ.set i (some v)) H :=
  ⟨Ext.refl, fun b h => (wr_set h).elim .inl fun ⟨p, m, e, _⟩ => by cases e⟩
theorem StOk.setM {p : Addr} (nT : ¬ T p) (S : StOk K F (fun a => T a ∨ a = p) H env σ) {i : Nat} {m : Mu} (np : F.H0 p = none) (r : MuAt K (Ow F (fun a => T a ∨ a = p) env σ) H p m) :
    StOk K F T H (env.set i (some (.own false m))) (σ.set i (some (.ref p))) := by
  have sub : ∀ b, Wr (env.set i (some (.own false m))) (σ.set i (some (.ref p))) b → Wr env σ b ∨ b = p := fun b h => (wr_set h).elim .inl fun ⟨p, m, e, e2⟩ => by cases e2; exact .inr rfl
  have ow : ∀ b, Ow F T (env.set i (some (.own false m))) (σ.set i (some (.ref p))) b → Ow F (fun a => T a ∨ a = p) env σ b := fun b h => by
    rcases h with h | h | h
    · exact .inl h
    · exact .inr (.inl (.inl h))
    · rcases sub b h with h | h
      · exact .inr (.inr h)
      · exact .inr (.inl (.inr h))
  have nw : ¬ Wr env σ p := S.tno p (.inr rfl)
  refine ⟨by simp only [List.length_set]; exact S.len, ?_, ?_, ?_, S.ext, S.dom, S.sub, fun a h => S.tdm a (.inl h), fun b q z => ?_⟩
  · intro j d' h
    rcases set_get h with ⟨rfl, hh⟩ | ⟨hne, h⟩
    · cases hh
    · obtain ⟨w, e2, r⟩ := S.shr j d' h
      exact ⟨w, by rw [List.getElem?_set_ne hne]; exact e2, r.anti ow⟩
  · intro j q n h
    rcases set_get h with ⟨rfl, hh⟩ | ⟨hne, h⟩
    · cases hh
      have hl : i < σ.length := by
        rw [← S.len]
        have := (List.getElem?_eq_some_iff.mp h).1
        simpa using this
      exact ⟨p, by rw [List.getElem?_set_self hl], r.tr (fun b _ _ n q => n (ow b q)) (fun _ _ _ e => e) (fun _ e => e), by simpa using np⟩
    · obtain ⟨b, e2, r, c⟩ := S.own j q n h
      exact ⟨b, by rw [List.getElem?_set_ne hne]; exact e2, r.tr (fun b _ _ n q => n (ow b q)) (fun _ _ _ e => e) (fun _ e => e), c⟩
  · intro j k q1 q2 n o b h1 h2 s1 s2
    rcases set_get h1 with ⟨rfl, hh1⟩ | ⟨n1, h1⟩
    · rcases set_get h2 with ⟨rfl, hh2⟩ | ⟨n2, h2⟩
      · rfl
      · rcases set_get s1 with ⟨_, e⟩ | ⟨x, _⟩
        · cases e
          rw [List.getElem?_set_ne n2] at s2
          exact absurd ⟨k, q2, o, h2, s2⟩ nw
        · exact absurd rfl x
    · rcases set_get h2 with ⟨rfl, hh2⟩ | ⟨n2, h2⟩
      · rcases set_get s2 with ⟨_, e⟩ | ⟨x, _⟩
        · cases e
          rw [List.getElem?_set_ne n1] at s1
          exact absurd ⟨j, q1, n, h1, s1⟩ nw
        · exact absurd rfl x
      · rw [List.getElem?_set_ne n1] at s1
        rw [List.getElem?_set_ne n2] at s2
        exact S.dis j k q1 q2 n o b h1 h2 s1 s2
  · rcases sub b z with z | z
    · exact S.tno b (.inl q) z
    · subst z
      exact nT q
end
theorem own_put {F : Frm} {T : Addr → Prop} {H : Hp} {env : En} {σ : L2.St} {i : Nat} {p : Bool} {m m' : Mu} {a : Addr} {o : HO} (S : StOk K F T H env σ) (g : env[i]? = some (some (Sl.own p m))) (e : σ[i]? = some (some (V.ref a)))
    (r : MuAt K (Ow F T env σ) (upd H a o) a m') : StOk K F T (upd H a o) (env.set i (some (.own p m'))) σ ∧ Stp env σ H (env.set i (some (.own p m'))) (upd H a o) := by
  have wa : Wr env σ a := ⟨i, p, m, g, e⟩
  have hs : ∀ b, Wr (env.set i (some (.own p m'))) σ b ↔ Wr env σ b := fun b => by
    constructor
    · rintro ⟨j, q, n, ej, sj⟩
      rcases set_get ej with ⟨rfl, hh⟩ | ⟨_, h⟩
      · rw [e] at sj; cases sj; exact wa
      · exact ⟨j, q, n, h, sj⟩
    · rintro ⟨j, q, n, ej, sj⟩
      by_cases hj : i = j
      · subst hj
        have hl := (List.getElem?_eq_some_iff.mp g).1
        exact ⟨i, p, m', by rw [List.getElem?_set_self hl], sj⟩
      · exact ⟨j, q, n, by rw [List.getElem?_set_ne hj]; exact ej, sj⟩
  have ow : ∀ b, Ow F T (env.set i (some (.own p m'))) σ b ↔ Ow F T env σ b := fun b => by unfold Ow; rw [hs b]
  have ext : Ext (Wr env σ) H (upd H a o) := ⟨fun b u q n => by
      rw [upd_ne (fun z => n (by subst z; exact wa))]; exact q, fun b q => by
      by_cases z : b = a
      · subst z; rw [upd_same]; simp
      · rw [upd_ne z]; exact q⟩
  have f : ∀ b u, H b = some u → ¬ Ow F T env σ b → ¬ Ow F T (env.set i (some (.own p m'))) σ b := fun b u _ n q => n ((ow b).mp q)
  have kk : ∀ b u, ¬ Ow F T env σ b → H b = some u → upd H a o b = some u := fun b u n q => ext.same b u q fun z => n (.inr (.inr z))
  refine ⟨⟨by rw [List.length_set]; exact S.len, ?_, ?_, ?_, ?_, S.dom, S.sub, fun b q => ext.live b (S.tdm b q), fun b q z => S.tno b q ((hs b).mp z)⟩, ext, fun b q => (hs b).mp q⟩
  · intro j d h
    rcases set_get h with ⟨rfl, hh⟩ | ⟨_, h⟩
    · cases hh
    · obtain ⟨v, e2, r⟩ := S.shr j d h; exact ⟨v, e2, r.tr f kk⟩
  · intro j q n h
    rcases set_get h with ⟨rfl, hh⟩ | ⟨hne, h⟩
    · cases hh
      obtain ⟨b, e2, _, c⟩ := S.own i _ _ g
      rw [e] at e2; cases e2
      exact ⟨a, e, r.tr (fun b _ _ n q => n ((ow b).mp q)) (fun _ _ _ e => e) (fun _ e => e), c⟩
    · obtain ⟨b, e2, r, c⟩ := S.own j q n h
      have hb : b ≠ a := fun z => by subst z; exact hne (S.dis i j _ _ _ _ _ g h e e2)
      exact ⟨b, e2, r.tr f kk (fun u q => by rw [upd_ne hb]; exact q), c⟩
  · intro j k q1 q2 n n2 b h1 h2 s1 s2
    have gg : ∀ j q n, (env.set i (some (Sl.own p m')))[j]? = some (some (Sl.own q n)) → ∃ q n, env[j]? = some (some (Sl.own q n)) := fun j q n h => by
      rcases set_get h with ⟨rfl, hh⟩ | ⟨_, h⟩
      · exact ⟨_, _, g⟩
      · exact ⟨_, _, h⟩
    obtain ⟨_, _, h1⟩ := gg _ _ _ h1
    obtain ⟨_, _, h2⟩ := gg _ _ _ h2
    exact S.dis j k _ _ _ _ b h1 h2 s1 s2
  · refine ⟨fun b u q n => ?_, fun b q => ext.live b (S.ext.live b q)⟩
    obtain ⟨b', e2, _, c⟩ := S.own i _ _ g
    rw [e] at e2; cases e2
    have hb : b ≠ a := by
      rintro rfl
      cases p with
      | true => exact n (by simpa using c.1)
      | false => simp at c; rw [c] at q; cases q
    rw [upd_ne hb]
    exact S.ext.same b u q n
def MtD (K : PySem.W.Frag) (Ty : String) (r : V → List V → Hp → VK → Prop) (g : Mu → List D → Option (Mu × D)) : Prop := ∀ (O : Addr → Prop) (H : Hp) a m vs ds m' z, O a → MuAt K O H a m → RpAll K O H vs ds → g m ds = some (m', z) →
  ∀ Q : VK, (∀ v o, MuAt K O (upd H a o) a m' → Rp K O (upd H a o) v z → Q v (upd H a o)) → r (.ref a) vs H Q
def tyM (Ty : String) : Mu → Bool
  | .l _ => Ty == "list"
  | .m _ => Ty == "dict"
  | .o .. => false
theorem tyM_ok {O : Addr → Prop} {H : Hp} {a : Addr} {m : Mu} {Ty : String} (h : tyM Ty m = true) (r : MuAt K O H a m) : tyV K Ty (.ref a) H := by
  cases m with
  | l ds => obtain ⟨xs, e, _⟩ := r; exact .inl ⟨by simpa [tyM] using h, xs, .inl (.inl e)⟩
  | m kvs => obtain ⟨es, e, _⟩ := r; exact .inr (.inr (.inl ⟨by simpa [tyM] using h, .inl ⟨es, e⟩⟩))
  | o _ _ _ _ => cases h
def ownOf (env : En) (i : Nat) : Option (Bool × Mu) := match slOf env i with
  | some (.own b m) => some (b, m)
  | _ => none
theorem ownOf_eq {env : En} {i : Nat} {b : Bool} {m : Mu} : ownOf env i = some (b, m) → env[i]? = some (some (Sl.own b m)) := by
  unfold ownOf
  intro h
  cases g : slOf env i with
  | none => simp [g] at h
  | some s =>
    cases s with
    | shr d => simp [g] at h
    | own p n =>
      simp [g] at h
      obtain ⟨rfl, rfl⟩ := h
      exact slOf_eq.mp g
def eMt (Ty : String) (g : Mu → List D → Option (Mu × D)) (i : Nat) (fl : EvA) : EvE := fun env => (ownOf env i).bind fun o => if tyM Ty o.2 = true then (eK fl env).bind fun p => (ownOf p.2 i).bind fun q => (g q.2 p.1).map fun z => (.val z.2, p.2.set i (some (.own q.1 z.1))) else none
theorem ie_mt {r : V → List V → Hp → VK → Prop} {g : Mu → List D → Option (Mu × D)} {Ty : String} {i : Nat} {tl : TA} {fl : EvA} (hr : MtD K Ty r g) (hl : IA K tl fl) : IE K (tBM K Ty r (tVar i) tl) (eMt Ty g i fl) := by
  intro F T env σ H r env' S e Q q
  simp only [eMt, Option.bind_eq_some_iff] at e
  obtain ⟨⟨b, m⟩, h1, h2⟩ := e
  split at h2
  · rename_i ht
    simp only [eK, Option.bind_eq_some_iff, Option.map_eq_some_iff] at h2
    obtain ⟨⟨ds, e1⟩, ⟨⟨l, e2⟩, h3, ds', h4, h5⟩, ⟨b2, m2⟩, h6, ⟨m3, z⟩, h7, h8⟩ := h2
    cases h5; cases h8
    have g1 := ownOf_eq h1
    obtain ⟨a, q1, q2, _⟩ := S.own i b m g1
    refine ⟨_, q1, tyM_ok ht q2, hl F T env σ H l _ S h3 _ fun vs H1 S1 st rv => ?_⟩
    have g2 := ownOf_eq h6
    obtain ⟨a', p1, p2, _⟩ := S1.own i b2 m2 g2
    rw [q1] at p1; cases p1
    refine hr (Ow F T _ σ) H1 a m2 vs ds m3 z (.inr (.inr ⟨i, _, _, g2, q1⟩)) p2 (rkA_ok S1 rv h4) h7 Q fun v o mu rz => ?_
    obtain ⟨S2, st2⟩ := own_put S1 g2 q1 mu
    exact q v _ S2 (st.trans st2) (rz.anti fun b hb => hb.imp id (.imp id (st2.wr b)))
  · cases h2
def StD (K : PySem.W.Frag) (ts : TSet) (g : Mu → D → D → Option Mu) : Prop := ∀ (O : Addr → Prop) (H : Hp) a m i d j e m', O a → MuAt K O H a m → Rp K O H i d → Rp K O H j e → g m d e = some m' →
  ∀ Q : Hp → Prop, (∀ o, MuAt K O (upd H a o) a m' → Q (upd H a o)) → ts (.ref a) i j H Q
def sPut (g : Mu → D → D → Option Mu) (i : Nat) (fk fe : EvE) : EvS := fun env => (fe env).bind fun p => (fk p.2).bind fun q => (rk q.2 p.1).bind fun d => (rk q.2 q.1).bind fun k => (ownOf p.2 i).bind fun o => (ownOf q.2 i).bind fun o => (g o.2 k d).map fun m => (.nx, q.2.set i (some (.own o.1 m)))
theorem is_put {ts : TSet} {gg : Mu → D → D → Option Mu} {i : Nat} {tk : TE} {fk : EvE} (hr : StD K ts gg) (hk : IE K tk fk) (he : IE K te fe) : IS K (tAsg te (gSub (tVar i) tk ts)) (sPut gg i fk fe) := by
  intro F env σ H fl env' S e Dn k
  simp only [sPut, Option.bind_eq_some_iff, Option.map_eq_some_iff] at e
  obtain ⟨⟨r, e1⟩, h1, ⟨r2, e2⟩, h2, d, h3, kk, h4, ⟨b0, m0⟩, h5, ⟨b, m⟩, h6, m', h7, h8⟩ := e
  cases h8
  refine he F T0 env σ H r e1 S h1 _ fun v H1 S1 s1 rv => ?_
  obtain ⟨a, q1, _, _⟩ := S1.own i b0 m0 (ownOf_eq h5)
  refine ⟨_, q1, hk F T0 e1 σ H1 r2 e2 S1 h2 _ fun w H2 S2 s2 rw2 => ?_⟩
  have g2 := ownOf_eq h6
  obtain ⟨a', p1, p2, _⟩ := S2.own i b m g2
  rw [q1] at p1; cases p1
  refine hr (Ow F T0 e2 σ) H2 a m w kk v d m' (.inr (.inr ⟨i, _, _, g2, q1⟩)) p2 (rk_ok S2 rw2 h4) (rk_ok S2 (rv.stp s2) h3) h7 _ fun o mu => ?_
  obtain ⟨S3, st3⟩ := own_put S2 g2 q1 mu
  exact k σ _ S3 ((s1.trans s2).trans st3).q
def IG (K : PySem.W.Frag) (js : List Nat) (g : TG) (f : D → En → Option En) : Prop := ∀ F T env σ H v d env', StOk K F T H env σ → Rp K (Ow F T env σ) H v d → f d env = some env' → ∀ Q : L2.St → Hp → Prop,
  (∀ σ', StOk K F T H env' σ' → Stq env σ H env' σ' H → σ'.length = σ.length → (∀ k, k ∉ js → σ'[k]? = σ[k]?) → (∀ k, k ∉ js → env'[k]? = env[k]?) → Q σ' H) → g v σ H Q
def gN (i : Nat) : D → En → Option En := fun d env => some (env.set i (some (.shr d)))
theorem ig_name {i : Nat} : IG K [i] (gName i) (gN i) := fun F T env σ H v d env' S r e Q q => by
  cases e
  exact q _ (S.setS r) S.setS_q (by simp) (fun k hk => by rw [List.getElem?_set_ne (fun z => hk (by simp [z]))]) (fun k hk => by rw [List.getElem?_set_ne (fun z => hk (by simp [z]))])
def IGs (K : PySem.W.Frag) (js : List Nat) (g : TGs) (f : List D → En → Option En) : Prop := ∀ F T env σ H v d env', StOk K F T H env σ → RpAll K (Ow F T env σ) H v d → f d env = some env' → ∀ Q : L2.St → Hp → Prop,
  (∀ σ', StOk K F T H env' σ' → Stq env σ H env' σ' H → σ'.length = σ.length → (∀ k, k ∉ js → σ'[k]? = σ[k]?) → (∀ k, k ∉ js → env'[k]? = env[k]?) → Q σ' H) → g v σ H Q
def gsNil : List D → En → Option En
  | [], env => some env
  | _, _ => none
def gsCons (f : D → En → Option En) (g : List D → En → Option En) : List D → En → Option En
  | d :: ds, env => (f d env).bind fun e => g ds e
  | [], _ => none
theorem igs_nil : IGs K [] gNil gsNil := fun F T env σ H v d env' S r e Q q => by
  cases r with
  | nil => cases e; exact ⟨rfl, q σ S Stq.refl rfl (fun _ _ => rfl) fun _ _ => rfl⟩
  | cons _ _ => cases e
theorem igs_cons {js ks : List Nat} {g : TG} {h : TGs} {f : D → En → Option En} {ff : List D → En → Option En} (h1 : IG K js g f) (h2 : IGs K ks h ff) : IGs K (js ++ ks) (gCons g h) (gsCons f ff) := fun F T env σ H v d env' S r e Q q => by
  cases r with
  | nil => cases e
  | cons r1 rr =>
    simp only [gsCons, Option.bind_eq_some_iff] at e
    obtain ⟨e1, a1, a2⟩ := e
    refine ⟨_, _, rfl, h1 F T env σ H _ _ e1 S r1 a1 _ fun σ1 S1 q1 l1 k1 n1 => ?_⟩
    exact h2 F T e1 σ1 H _ _ env' S1 (rr.stq q1) a2 Q fun σ2 S2 q2 l2 k2 n2 => q σ2 S2 (q1.trans q2) (l2.trans l1) (fun k hk => (k2 k fun z => hk (List.mem_append_right _ z)).trans (k1 k fun z => hk (List.mem_append_left _ z)))
      (fun k hk => (n2 k fun z => hk (List.mem_append_right _ z)).trans (n1 k fun z => hk (List.mem_append_left _ z)))
def gT (n : Nat) (ff : List D → En → Option En) : D → En → Option En
  | .tuple ds, env => if ds.length = n then ff ds env else none
  | _, _ => none
theorem ig_tup {js : List Nat} {h : TGs} {ff : List D → En → Option En} {n : Nat} (h1 : IGs K js h ff) : IG K js (gTup K n h) (gT n ff) := fun F T env σ H v d env' S r e Q q => by
  cases r with
  | tup hs r =>
    simp only [gT] at e
    split at e
    · rename_i hl
      exact ⟨_, _, rfl, hs.1.imp (·.1) id, r.length.trans hl, h1 F T env σ H _ _ env' S r e Q q⟩
    · cases e
  | _ => cases e
def sAsg (f : D → En → Option En) (fe : EvE) : EvS := fun env => (fe env).bind fun p => (rk p.2 p.1).bind fun d => (f d p.2).map fun e => (.nx, e)
theorem is_asg {js : List Nat} {gg : TG} {ff : D → En → Option En} (h : IE K te fe) (hg : IG K js gg ff) : IS K (tAsg te gg) (sAsg ff fe) := by
  intro F env σ H fl env' S e Dn k
  simp only [sAsg, Option.bind_eq_some_iff, Option.map_eq_some_iff] at e
  obtain ⟨⟨r, e1⟩, a1, d, a2, e2, a3, a4⟩ := e
  cases a4
  refine h F T0 env σ H r e1 S a1 _ fun v H' S' st rv => ?_
  exact hg F T0 e1 σ H' v d env' S' (rk_ok S' rv a2) a3 _ fun σ' S2 q2 _ _ _ => k σ' H' S2 (st.q.trans q2)
def JOk (K : PySem.W.Frag) (J : It) (items : List D) (O : Addr → Prop) (H : Hp) : Prop := ∀ (O' : Addr → Prop) (H2 : Hp), (∀ a o, H a = some o → ¬ O a → ¬ O' a) → (∀ a o, ¬ O a → H a = some o → H2 a = some o) → (∀ a, O' a → H2 a ≠ none) →
  (∀ i d, items[i]? = some d → J.go i H2 ∧ ∀ x H', J.yld i H2 x H' → Ext (fun _ => False) H2 H' ∧ Rp K O' H' x d) ∧ ∀ i, items.length ≤ i → J.stop i H2
abbrev EvW := En → Option (List D × En)
def IW (K : PySem.W.Frag) (wi : TI) (f : EvW) : Prop := ∀ F T env σ H items env', StOk K F T H env σ → f env = some (items, env') → ∀ Rr : It → Hp → Prop,
  (∀ J H', StOk K F T H' env' σ → Stp env σ H env' H' → JOk K J items (Ow F T env' σ) H' → Rr J H') → wi σ H Rr
def forE (g : D → En → Option En) (b : EvS) : List D → EvS
  | [], env => some (.nx, env)
  | x :: xs, env => (g x env).bind fun e1 => (b e1).bind fun p => match p.1 with
    | .nx => forE g b xs p.2
    | .ct => forE g b xs p.2
    | .bk => some (.nx, p.2)
    | .rt r => some (.rt r, p.2)
def sFor (fw : EvW) (g : D → En → Option En) (b : EvS) : EvS := fun env => (fw env).bind fun p => forE g b p.1 p.2
theorem is_for {wi : TI} {fw : EvW} {js : List Nat} {gg : TG} {ff : D → En → Option En} (hw : IW K wi fw) (hg : IG K js gg ff) (hb : IS K t f) : IS K (tFor wi gg t) (sFor fw ff f) := by
  intro F env σ H fl env' S e Dn k
  simp only [sFor, Option.bind_eq_some_iff] at e
  obtain ⟨⟨items, e1⟩, a1, a2⟩ := e
  refine hw F T0 env σ H items e1 S a1 _ fun J H1 S1 s1 jo => ?_
  have k1 := k.pre s1.q
  clear k s1 a1 S
  refine ⟨fun i m σ' H' => ∃ e', StOk K F T0 H' e' σ' ∧ Stq e1 σ H1 e' σ' H' ∧ m = items.length - i ∧ i ≤ items.length ∧ forE ff f (items.drop i) e' = some (fl, env'), ⟨_, e1, S1, Stq.refl, rfl, Nat.zero_le _, by simpa using a2⟩, ?_⟩
  rintro i m σ' H' ⟨e', S', st, rfl, hi, he⟩
  obtain ⟨j1, j2⟩ := jo (Ow F T0 e' σ') H' (fun a o q n z => by
      rcases z with z | z | z
      · exact n (.inl z)
      · exact z
      · rcases st.wr a z with z | z
        · exact n (.inr (.inr z))
        · rw [q] at z; cases z) (fun a o n q => st.ext.same a o q fun z => n (.inr (.inr z))) (fun a h => S'.olive h)
  by_cases hlt : i < items.length
  · have gi : items[i]? = some items[i] := List.getElem?_eq_getElem hlt
    obtain ⟨go, yl⟩ := j1 i _ gi
    rw [List.drop_eq_getElem_cons hlt] at he
    simp only [forE, Option.bind_eq_some_iff] at he
    obtain ⟨e2, b1, ⟨fl2, e3⟩, b2, b3⟩ := he
    refine .inr ⟨go, fun σ2 H2 => ∃ e', StOk K F T0 H2 e' σ2 ∧ Stq e1 σ H1 e' σ2 H2 ∧ i + 1 ≤ items.length ∧ forE ff f (items.drop (i + 1)) e' = some (fl, env'), ?_, ?_⟩
    · rintro σ2 H2 ⟨e', c1, c2, c3, c4⟩
      exact ⟨items.length - (i + 1), by omega, e', c1, c2, rfl, c3, c4⟩
    · intro x H2 hy
      obtain ⟨x2, rx⟩ := yl x H2 hy
      have S2 := S'.lay x2
      refine hg F T0 e' σ' H2 x _ e2 S2 rx b1 _ fun σ2 S3 q3 _ _ _ => ?_
      have q4 : Stq e1 σ H1 e2 σ2 H2 := (st.trans (Stp.lay x2).q).trans q3
      refine hb F e2 σ2 H2 fl2 e3 S3 b2 _ ?_
      cases fl2 with
      | nx => exact fun σ3 H3 S4 q5 => ⟨e3, S4, q4.trans q5, hlt, b3⟩
      | ct => exact fun σ3 H3 S4 q5 => ⟨e3, S4, q4.trans q5, hlt, b3⟩
      | bk => cases b3; exact fun σ3 H3 S4 q5 => k1 σ3 H3 S4 (q4.trans q5)
      | rt r => cases b3; exact k1
  · have ei : i = items.length := by omega
    subst ei
    rw [List.drop_length] at he
    cases he
    exact .inl ⟨j2 _ (Nat.le_refl _), k1 σ' H' S' st⟩
def whE (c : EvT) (b : EvS) : Nat → EvS
  | 0, _ => none
  | n + 1, env => (c env).bind fun p => if p.1 = true then (b p.2).bind fun q => match q.1 with
    | .nx => whE c b n q.2
    | .ct => whE c b n q.2
    | .bk => some (.nx, q.2)
    | .rt r => some (.rt r, q.2) else some (.nx, p.2)
theorem is_while {n : Nat} (hc : IT K c fc) (hb : IS K t f) : IS K (tWhile c t) (whE fc f n) := by
  intro F env σ H fl env' S e Dn k
  refine ⟨fun m σ' H' => ∃ e', StOk K F T0 H' e' σ' ∧ Stq env σ H e' σ' H' ∧ whE fc f m e' = some (fl, env'), ⟨n, env, S, Stq.refl, e⟩, ?_⟩
  rintro m σ' H' ⟨e', S', st, he⟩
  cases m with
  | zero => cases he
  | succ m =>
    simp only [whE, Option.bind_eq_some_iff] at he
    obtain ⟨⟨b, e1⟩, a1, a2⟩ := he
    refine hc F T0 e' σ' H' b e1 S' a1 _ fun H1 S1 s1 => ?_
    cases b with
    | false =>
      simp only [Bool.false_eq_true, if_false] at a2 ⊢
      cases a2
      exact k σ' H1 S1 (st.trans s1.q)
    | true =>
      simp only [if_true, Option.bind_eq_some_iff] at a2 ⊢
      obtain ⟨⟨fl2, e3⟩, b2, b3⟩ := a2
      refine ⟨fun σ2 H2 => ∃ e', StOk K F T0 H2 e' σ2 ∧ Stq env σ H e' σ2 H2 ∧ whE fc f m e' = some (fl, env'), fun σ2 H2 h => ⟨m, Nat.lt_succ_self m, h⟩, ?_⟩
      refine hb F e1 σ' H1 fl2 e3 S1 b2 _ ?_
      have q4 := st.trans s1.q
      cases fl2 with
      | nx => exact fun σ3 H3 S4 q5 => ⟨e3, S4, q4.trans q5, b3⟩
      | ct => exact fun σ3 H3 S4 q5 => ⟨e3, S4, q4.trans q5, b3⟩
      | bk => cases b3; exact fun σ3 H3 S4 q5 => k σ3 H3 S4 (q4.trans q5)
      | rt r => cases b3; exact k
end
end GD

namespace GD
open PySem PySem.Spec PyProof.Rows L2
def wipeE (env : En) : List Nat → En
  | [] => env
  | v :: vs => (wipeE env vs).set v none
theorem wipeE_len (env : En) : ∀ vs, (wipeE env vs).length = env.length
  | [] => rfl
  | v :: vs => by unfold wipeE; rw [List.length_set, wipeE_len env vs]
theorem wipeE_some {env : En} {i : Nat} {s : Sl} : ∀ {vs : List Nat}, (wipeE env vs)[i]? = some (some s) → env[i]? = some (some s) ∧ i ∉ vs
  | [], h => ⟨h, by simp⟩
  | v :: vs, h => by
    unfold wipeE at h
    rcases set_get h with ⟨_, h⟩ | ⟨hne, h⟩
    · cases h
    · obtain ⟨h1, h2⟩ := wipeE_some h
      exact ⟨h1, by simp only [List.mem_cons, not_or]; exact ⟨fun e => hne e.symm, h2⟩⟩
section
variable {K : PySem.W.Frag} {F : Frm} {T T' : Addr → Prop} {H H1 H2 H' : Hp} {env env1 env2 env' : En} {σ σ1 σ2 σ' : L2.St}
theorem StOk.re (S : StOk K F T H env σ) (hl : env'.length = σ'.length) (h : ∀ (i : Nat) (s : Sl), env'[i]? = some (some s) → env[i]? = some (some s) ∧ σ'[i]? = σ[i]?) : StOk K F T H env' σ' := by
  have wr : ∀ b, Wr env' σ' b → Wr env σ b := fun b ⟨i, p, m, e, q⟩ => let ⟨e1, e2⟩ := h i _ e; ⟨i, p, m, e1, by rw [← e2]; exact q⟩
  have ow : ∀ b, Ow F T env' σ' b → Ow F T env σ b := fun b q => q.imp id (.imp id (wr b))
  refine ⟨hl, ?_, ?_, ?_, S.ext, S.dom, S.sub, S.tdm, fun b q z => S.tno b q (wr b z)⟩
  · intro i d e
    obtain ⟨e1, e2⟩ := h i _ e
    obtain ⟨v, q, r⟩ := S.shr i d e1
    exact ⟨v, by rw [e2]; exact q, r.anti ow⟩
  · intro i p m e
    obtain ⟨e1, e2⟩ := h i _ e
    obtain ⟨b, q, r, c⟩ := S.own i p m e1
    exact ⟨b, by rw [e2]; exact q, r.tr (fun b _ _ n q => n (ow b q)) (fun _ _ _ e => e) (fun _ e => e), c⟩
  · intro i j p q m n a e1 e2 s1 s2
    obtain ⟨e1, f1⟩ := h i _ e1
    obtain ⟨e2, f2⟩ := h j _ e2
    rw [f1] at s1; rw [f2] at s2
    exact S.dis i j p q m n a e1 e2 s1 s2
theorem wr_re (h : ∀ (i : Nat) (s : Sl), env'[i]? = some (some s) → env[i]? = some (some s) ∧ σ'[i]? = σ[i]?) : ∀ b, Wr env' σ' b → Wr env σ b := fun b ⟨i, p, m, e, q⟩ => let ⟨e1, e2⟩ := h i _ e; ⟨i, p, m, e1, by rw [← e2]; exact q⟩
theorem StOk.updT {p : Addr} {o : HO} (S : StOk K F T H env σ) (tp : T p) (hp : F.H0 p = none) : StOk K F T (upd H p o) env σ := by
  have k : ∀ b u, ¬ Ow F T env σ b → H b = some u → upd H p o b = some u := fun b u n q => by
    rw [upd_ne (fun z => n (by subst z; exact .inr (.inl tp)))]; exact q
  have lv : ∀ a, H a ≠ none → upd H p o a ≠ none := fun a q => by
    by_cases z : a = p
    · subst z; rw [upd_same]; simp
    · rw [upd_ne z]; exact q
  refine ⟨S.len, ?_, ?_, S.dis, ⟨fun a u q n => ?_, fun a q => lv a (S.ext.live a q)⟩, S.dom, S.sub, fun a q => lv a (S.tdm a q), S.tno⟩
  · intro i d e
    obtain ⟨v, q, r⟩ := S.shr i d e
    exact ⟨v, q, r.tr (fun _ _ _ n => n) k⟩
  · intro i q m e
    obtain ⟨b, s, r, c⟩ := S.own i q m e
    have hb : b ≠ p := fun z => by subst z; exact S.tno b tp ⟨i, _, _, e, s⟩
    exact ⟨b, s, r.tr (fun _ _ _ n => n) k (fun u q => by rw [upd_ne hb]; exact q), c⟩
  · have hb : a ≠ p := fun z => by subst z; rw [hp] at q; cases q
    rw [upd_ne hb]
    exact S.ext.same a u q n
end
theorem wipe_eq {σ σ' : L2.St} {vs : List Nat} (hl : σ'.length = σ.length) (h : ∀ k, k ∉ vs → σ'[k]? = σ[k]?) : wipe σ' vs = wipe σ vs := by
  apply List.ext_getElem?
  intro i
  by_cases hi : i ∈ vs
  · have aux : ∀ {τ : L2.St} {vs : List Nat}, i ∈ vs → i < τ.length → (wipe τ vs)[i]? = some none := by
      intro τ vs
      induction vs with
      | nil => intro h; simp at h
      | cons v vs ih =>
        intro h hl
        unfold wipe
        by_cases e : v = i
        · subst e; rw [List.getElem?_set_self (by rw [wipe_length]; exact hl)]
        · rw [List.getElem?_set_ne e]
          exact ih (by simpa [Ne.symm e] using h) hl
    by_cases hlt : i < σ.length
    · rw [aux hi hlt, aux hi (by rw [hl]; exact hlt)]
    · rw [List.getElem?_eq_none (by rw [wipe_length, hl]; omega), List.getElem?_eq_none (by rw [wipe_length]; omega)]
  · rw [wipe_out hi, wipe_out hi, h i hi]
theorem wipe_wipe {σ : L2.St} {vs : List Nat} : wipe (wipe σ vs) vs = wipe σ vs := wipe_eq (wipe_length _ _) fun k hk => wipe_out hk
def compE (vs : List Nat) (g : D → En → Option En) (c : EvT) (e : EvE) : List D → List D → En → Option (List D × En)
  | [], acc, env => some (acc, env)
  | x :: xs, acc, env => (g x env).bind fun e1 => (c e1).bind fun p => if p.1 = true then
      (e p.2).bind fun q => (rk q.2 q.1).bind fun d => if small acc.length = true then compE vs g c e xs (acc ++ [d]) (wipeE q.2 vs) else none
    else compE vs g c e xs acc (wipeE p.2 vs)
def eComp (vs : List Nat) (fw : EvW) (g : D → En → Option En) (c : EvT) (e : EvE) : EvM := fun env => (fw env).bind fun p => (compE vs g c e p.1 [] (wipeE p.2 vs)).map fun q => (.l q.1, q.2)
section
variable {K : PySem.W.Frag} {te : TE} {fe : EvE} {tt : TT} {ft : EvT}
theorem im_comp {wi : TI} {fw : EvW} {js vs : List Nat} {gg : TG} {ff : D → En → Option En} (hw : IW K wi fw) (hg : IG K js gg ff) (ht : IT K tt ft) (he : IE K te fe) (hj : ∀ j ∈ js, j ∈ vs) :
    IM K (tLc wi gg tt te vs) (eComp vs fw ff ft fe) := by
  intro F T env σ H m env' S e Q k
  simp only [eComp, Option.bind_eq_some_iff, Option.map_eq_some_iff] at e
  obtain ⟨⟨items, e1⟩, a1, ⟨ds, e2⟩, a2, a3⟩ := e
  obtain ⟨rfl, hee⟩ : m = .l ds ∧ e2 = env' := by cases a3; exact ⟨rfl, rfl⟩
  subst hee
  clear a3
  refine hw F T env σ H items e1 S a1 _ fun J H1 S1 s1 jo p np => ?_
  have np0 : H p = none := by
    cases h : H p with
    | none => rfl
    | some o => exact absurd np (s1.ext.live p (by rw [h]; simp))
  have nF : F.H0 p = none := S1.fresh0 np
  -- the state of the walk
  refine ⟨fun i mm H3 => ∃ e' acc dacc, StOk K F (fun a => T a ∨ a = p) H3 e' (wipe σ vs) ∧ (∀ (j : Nat) (s : Sl), e'[j]? = some (some s) → j ∉ vs) ∧ Ext (Wr e1 σ) H1 H3 ∧ (∀ a, Wr e' (wipe σ vs) a → Wr e1 σ a) ∧
      H3 p = some (.lst acc) ∧ RpAll K (Ow F (fun a => T a ∨ a = p) e' (wipe σ vs)) H3 acc dacc ∧ mm = items.length - i ∧ i ≤ items.length ∧ compE vs ff ft fe (items.drop i) dacc e' = some (ds, e2), ?_, ?_⟩
  · have S2 : StOk K F (fun a => T a ∨ a = p) (upd H1 p (.lst [])) e1 σ := S1.new np
    have hre : ∀ (i : Nat) (s : Sl), (wipeE e1 vs)[i]? = some (some s) → e1[i]? = some (some s) ∧ (wipe σ vs)[i]? = σ[i]? := fun i s h => ⟨(wipeE_some h).1, wipe_out (wipeE_some h).2⟩
    exact ⟨_, wipeE e1 vs, [], [], S2.re (by rw [wipeE_len, wipe_length]; exact S1.len) hre, fun j s h => (wipeE_some h).2, Ext.new np, wr_re hre, upd_same, .nil, rfl, Nat.zero_le _, by simpa using a2⟩
  · rintro i mm H3 ⟨e', acc, dacc, S', hw', x', wr', hp', ra', rfl, hi, hc⟩
    have hdis : ∀ a, Wr e' (wipe σ vs) a → a ≠ p := fun a h z => by subst z; exact S'.tno a (.inr rfl) h
    obtain ⟨j1, j2⟩ := jo (Ow F (fun a => T a ∨ a = p) e' (wipe σ vs)) H3 (fun a o q n z => by
        rcases z with z | (z | z) | z
        · exact n (.inl z)
        · exact n (.inr (.inl z))
        · subst z; rw [np] at q; cases q
        · exact n (.inr (.inr (wr' a z)))) (fun a o n q => x'.same a o q fun z => n (.inr (.inr z))) (fun a h => S'.olive h)
    by_cases hlt : i < items.length
    · have gi : items[i]? = some items[i] := List.getElem?_eq_getElem hlt
      obtain ⟨go, yl⟩ := j1 i _ gi
      rw [List.drop_eq_getElem_cons hlt] at hc
      simp only [compE, Option.bind_eq_some_iff] at hc
      obtain ⟨e3, b1, ⟨b, e4⟩, b2, b3⟩ := hc
      refine .inr ⟨go, fun H5 => ∃ e' acc dacc, StOk K F (fun a => T a ∨ a = p) H5 e' (wipe σ vs) ∧ (∀ (j : Nat) (s : Sl), e'[j]? = some (some s) → j ∉ vs) ∧ Ext (Wr e1 σ) H1 H5 ∧ (∀ a, Wr e' (wipe σ vs) a → Wr e1 σ a) ∧
        H5 p = some (.lst acc) ∧ RpAll K (Ow F (fun a => T a ∨ a = p) e' (wipe σ vs)) H5 acc dacc ∧ i + 1 ≤ items.length ∧ compE vs ff ft fe (items.drop (i + 1)) dacc e' = some (ds, e2), ?_, ?_⟩
      · rintro H5 ⟨e', acc, dacc, c1, c2, c3, c4, c5, c6, c7, c8⟩
        exact ⟨items.length - (i + 1), by omega, e', acc, dacc, c1, c2, c3, c4, c5, c6, rfl, c7, c8⟩
      intro x H4 hy
      obtain ⟨x2, rx⟩ := yl x H4 hy
      have S4 := S'.lay x2
      refine hg F _ e' (wipe σ vs) H4 x _ e3 S4 rx b1 _ fun σ5 S5 q5 l5 k5 n5 => ?_
      have hk5 : ∀ k, k ∉ vs → σ5[k]? = (wipe σ vs)[k]? := fun k hk => k5 k fun z => hk (hj k z)
      have wq : wipe σ5 vs = wipe σ vs := (wipe_eq l5 hk5).trans wipe_wipe
      have x4 : Ext (Wr e1 σ) H1 H4 := x'.trans x2 fun _ q => q.elim
      have w5 : ∀ a, Wr e3 σ5 a → Wr e1 σ a ∨ H4 a = none := fun a h => (q5.wr a h).imp (wr' a) id
      have w5' : ∀ a, Wr e3 σ5 a → Wr e1 σ a := fun a h => (w5 a h).elim id fun z => absurd z (S5.wlive h)
      refine ⟨wq, ht F _ e3 σ5 H4 b e4 S5 b2 _ fun H6 S6 s6 => ?_⟩
      have ra6 : RpAll K (Ow F (fun a => T a ∨ a = p) e4 σ5) H6 acc dacc := (ra'.stq ((Stp.lay x2).q.trans q5)).stp s6
      have hp4 : H4 p = some (.lst acc) := x2.same p _ hp' id
      have hp6 : H6 p = some (.lst acc) := s6.ext.same p _ hp4 (S5.tno p (.inr rfl))
      have x6 : Ext (Wr e1 σ) H1 H6 := x4.trans s6.ext fun a q => .inl (w5' a q)
      -- back to the block's start
      have back : ∀ {e7 : En} {H7 : Hp} {acc7 : List V} {d7 : List D}, StOk K F (fun a => T a ∨ a = p) H7 e7 σ5 → (∀ a, Wr e7 σ5 a → Wr e1 σ a) → Ext (Wr e1 σ) H1 H7 → H7 p = some (.lst acc7) →
          RpAll K (Ow F (fun a => T a ∨ a = p) e7 σ5) H7 acc7 d7 → compE vs ff ft fe (items.drop (i + 1)) d7 (wipeE e7 vs) = some (ds, e2) →
          ∃ e' acc dacc, StOk K F (fun a => T a ∨ a = p) H7 e' (wipe σ vs) ∧ (∀ (j : Nat) (s : Sl), e'[j]? = some (some s) → j ∉ vs) ∧ Ext (Wr e1 σ) H1 H7 ∧ (∀ a, Wr e' (wipe σ vs) a → Wr e1 σ a) ∧
            H7 p = some (.lst acc) ∧ RpAll K (Ow F (fun a => T a ∨ a = p) e' (wipe σ vs)) H7 acc dacc ∧ i + 1 ≤ items.length ∧ compE vs ff ft fe (items.drop (i + 1)) dacc e' = some (ds, e2) := by
        intro e7 H7 acc7 d7 S7 w7 x7 hp7 ra7 c7
        have hre : ∀ (i : Nat) (s : Sl), (wipeE e7 vs)[i]? = some (some s) → e7[i]? = some (some s) ∧ (wipe σ vs)[i]? = σ5[i]? := fun i s h => ⟨(wipeE_some h).1, (hk5 i (wipeE_some h).2).symm⟩
        have wre := wr_re hre
        exact ⟨wipeE e7 vs, acc7, d7, S7.re (by rw [wipeE_len, wipe_length, S7.len, l5, wipe_length]) hre, fun j s h => (wipeE_some h).2, x7, fun a h => w7 a (wre a h), hp7,
          ra7.anti (fun a h => h.imp id (.imp id (wre a))), hlt, c7⟩
      cases b with
      | false =>
        simp only [Bool.false_eq_true, if_false] at b3 ⊢
        exact back S6 (fun a h => w5' a (s6.wr a h)) x6 hp6 ra6 b3
      | true =>
        simp only [if_true, Option.bind_eq_some_iff] at b3 ⊢
        obtain ⟨⟨r, e7⟩, b4, d, b5, b6⟩ := b3
        split at b6
        · rename_i hs
          refine he F _ e4 σ5 H6 r e7 S6 b4 _ fun y H7 S7 s7 ry => ?_
          have hp7 : H7 p = some (.lst acc) := s7.ext.same p _ hp6 (S6.tno p (.inr rfl))
          have ra7 := ra6.stp s7
          have ry7 := rk_ok S7 ry b5
          refine ⟨acc, hp7, by rw [ra7.length]; exact small_lt hs, ?_⟩
          have x7 : Ext (Wr e1 σ) H1 H7 := x6.trans s7.ext fun a q => .inl (w5' a (s6.wr a q))
          have x8 : Ext (Wr e1 σ) H1 (upd H7 p (.lst (acc ++ [y]))) := ⟨fun a u q n => by
              rw [upd_ne (ne_of_none q np)]; exact x7.same a u q n, fun a q => by
              by_cases z : a = p
              · subst z; rw [upd_same]; simp
              · rw [upd_ne z]; exact x7.live a q⟩
          have S8 : StOk K F (fun a => T a ∨ a = p) (upd H7 p (.lst (acc ++ [y]))) e7 σ5 := S7.updT (.inr rfl) nF
          have ra8 : RpAll K (Ow F (fun a => T a ∨ a = p) e7 σ5) (upd H7 p (.lst (acc ++ [y]))) (acc ++ [y]) (dacc ++ [d]) := (ra7.append (.one ry7)).tr (fun _ _ _ n => n) fun a u n q => by
            rw [upd_ne (fun z => n (by subst z; exact .inr (.inl (.inr rfl))))]; exact q
          exact back S8 (fun a h => w5' a (s6.wr a (s7.wr a h))) x8 upd_same ra8 b6
        · cases b6
    · have ei : i = items.length := by omega
      subst ei
      rw [List.drop_length] at hc
      cases hc
      refine .inl ⟨j2 _ (Nat.le_refl _), ?_⟩
      have hre : ∀ (i : Nat) (s : Sl), e2[i]? = some (some s) → e2[i]? = some (some s) ∧ σ[i]? = (wipe σ vs)[i]? := fun i s h => ⟨h, (wipe_out (hw' i s h)).symm⟩
      have hre2 : ∀ (i : Nat) (s : Sl), e2[i]? = some (some s) → e2[i]? = some (some s) ∧ (wipe σ vs)[i]? = σ[i]? := fun i s h => ⟨h, (wipe_out (hw' i s h))⟩
      have S9 : StOk K F (fun a => T a ∨ a = p) H3 e2 σ := S'.re (by rw [S'.len, wipe_length]) hre
      refine k p H3 np0 S9 (s1.trans ⟨x', fun a h => wr' a (wr_re hre a h)⟩) ⟨acc, hp', ra'.anti fun a h => h.imp id (.imp id (wr_re hre a))⟩
end
end GD

namespace GD
open PySem PySem.Spec PyProof.Rows L2
def ArgOk (K : PySem.W.Frag) (O : Addr → Prop) (H : Hp) (v : V) : Sl → Prop
  | .shr d => Rp K O H v d
  | .own p m => p = true ∧ ∃ a, v = .ref a ∧ O a ∧ MuAt K O H a m
def ArgsOk (K : PySem.W.Frag) (O : Addr → Prop) (H : Hp) : List V → List Sl → Prop
  | [], [] => True
  | v :: vs, s :: ss => ArgOk K O H v s ∧ ArgsOk K O H vs ss
  | _, _ => False
theorem ArgsOk.length {K : PySem.W.Frag} {O : Addr → Prop} {H : Hp} : ∀ {vs : List V} {ss : List Sl}, ArgsOk K O H vs ss → vs.length = ss.length
  | [], [], _ => rfl
  | _ :: _, _ :: _, h => congrArg (· + 1) (ArgsOk.length h.2)
  | [], _ :: _, h => h.elim
  | _ :: _, [], h => h.elim
theorem ArgsOk.get {K : PySem.W.Frag} {O : Addr → Prop} {H : Hp} : ∀ {vs : List V} {ss : List Sl} {i : Nat} {s : Sl}, ArgsOk K O H vs ss → ss[i]? = some s → ∃ v, vs[i]? = some v ∧ ArgOk K O H v s
  | [], [], _, _, _, e => by simp at e
  | v :: _, _ :: _, 0, _, h, e => by simp at e; subst e; exact ⟨v, rfl, h.1⟩
  | _ :: _, _ :: _, i + 1, _, h, e => by
    obtain ⟨v, h1, h2⟩ := ArgsOk.get (i := i) h.2 (by simpa using e)
    exact ⟨v, by simpa using h1, h2⟩
  | [], _ :: _, _, _, h, _ => h.elim
  | _ :: _, [], _, _, h, _ => h.elim
def AW (vs : List V) (ss : List Sl) (a : Addr) : Prop := ∃ (i : Nat) (m : Mu), ss[i]? = some (Sl.own true m) ∧ vs[i]? = some (V.ref a)
def outsE : List Sl → En → Option (List (Option Mu))
  | [], _ => some []
  | .shr _ :: ss, _ :: e => (outsE ss e).map fun l => none :: l
  | .own _ _ :: ss, some (.own true m) :: e => (outsE ss e).map fun l => some m :: l
  | _, _ => none
theorem outsE_get : ∀ {ss : List Sl} {e : En} {outs : List (Option Mu)}, outsE ss e = some outs → (∀ (i : Nat) (m : Mu), outs[i]? = some (some m) → e[i]? = some (some (Sl.own true m))) ∧ (∀ (i : Nat) (p : Bool) (m : Mu), ss[i]? = some (Sl.own p m) → ∃ m', outs[i]? = some (some m'))
  | [], e, outs, h => by simp [outsE] at h; subst h; exact ⟨fun i m h => by simp at h, fun i p m h => by simp at h⟩
  | .shr d :: ss, x :: e, outs, h => by
    simp only [outsE, Option.map_eq_some_iff] at h
    obtain ⟨l, h, rfl⟩ := h
    obtain ⟨h1, h2⟩ := outsE_get h
    exact ⟨fun i m h => by cases i with
      | zero => simp at h
      | succ i => simpa using h1 i m (by simpa using h), fun i p m h => by cases i with
      | zero => simp at h
      | succ i => simpa using h2 i p m (by simpa using h)⟩
  | .own q n :: ss, some (.own true m) :: e, outs, h => by
    simp only [outsE, Option.map_eq_some_iff] at h
    obtain ⟨l, h, rfl⟩ := h
    obtain ⟨h1, h2⟩ := outsE_get h
    exact ⟨fun i m h => by cases i with
      | zero => simp at h; subst h; rfl
      | succ i => simpa using h1 i m (by simpa using h), fun i p m h => by cases i with
      | zero => exact ⟨_, rfl⟩
      | succ i => simpa using h2 i p m (by simpa using h)⟩
  | .shr _ :: _, [], _, h => by simp [outsE] at h
  | .own _ _ :: _, [], _, h => by simp [outsE] at h
  | .own _ _ :: _, none :: _, _, h => by simp [outsE] at h
  | .own _ _ :: _, some (.shr _) :: _, _, h => by simp [outsE] at h
  | .own _ _ :: _, some (.own false _) :: _, _, h => by simp [outsE] at h
abbrev FnS := List Sl → Option (Ret × List (Option Mu))
def env0 (n : Nat) (ss : List Sl) : En := ss.map some ++ List.replicate (n - ss.length) none
def runB (n : Nat) (b : EvS) : FnS := fun ss => (b (env0 n ss)).bind fun p => match p.1 with
  | .rt r => (outsE ss p.2).map fun o => (r, o)
  | .nx => (outsE ss p.2).map fun o => (.val .none, o)
  | _ => none
def OutsOk (K : PySem.W.Frag) (O : Addr → Prop) (H' : Hp) (vs : List V) (outs : List (Option Mu)) : Prop := ∀ (i : Nat) (m : Mu), outs[i]? = some (some m) → ∃ a, vs[i]? = some (V.ref a) ∧ MuAt K O H' a m
def CEnd (K : PySem.W.Frag) (O : Addr → Prop) (H H' : Hp) (vs : List V) (outs : List (Option Mu)) (v : V) : Ret → Prop
  | .val d => Rp K O H' v d ∧ OutsOk K O H' vs outs
  | .new m => ∃ p, v = .ref p ∧ H p = none ∧ MuAt K (fun a => O a ∨ a = p) H' p m ∧ OutsOk K (fun a => O a ∨ a = p) H' vs outs
def Dis (vs : List V) (ss : List Sl) : Prop := ∀ (i j : Nat) (m n : Mu) (a : Addr), ss[i]? = some (Sl.own true m) → ss[j]? = some (Sl.own true n) → vs[i]? = some (V.ref a) → vs[j]? = some (V.ref a) → i = j
def spD (K : PySem.W.Frag) (k : Nat) (M : FnS) : Sp := fun vs H Q _ => ∃ (O : Addr → Prop) (ss : List Sl) (r : Ret) (outs : List (Option Mu)), vs.length = k ∧ (∀ a, O a → H a ≠ none) ∧ ArgsOk K O H vs ss ∧ Dis vs ss ∧ M ss = some (r, outs) ∧
  (∀ (i : Nat) (p : Bool) (m : Mu), ss[i]? = some (Sl.own p m) → ∃ m', outs[i]? = some (some m')) ∧
  ∀ v H', Ext (AW vs ss) H H' → CEnd K O H H' vs outs v r → Q v H'
section
variable {K : PySem.W.Frag}
theorem env0_get {n : Nat} {ss : List Sl} {i : Nat} {s : Sl} (h : (env0 n ss)[i]? = some (some s)) : ss[i]? = some s := by
  unfold env0 at h
  by_cases hi : i < ss.length
  · rw [List.getElem?_append_left (by simpa using hi), List.getElem?_map] at h
    cases e : ss[i]? with
    | none => rw [e] at h; cases h
    | some x => rw [e] at h; cases h; rfl
  · rw [List.getElem?_append_right (by simpa using Nat.le_of_not_lt hi), List.getElem?_replicate] at h
    split at h <;> cases h
theorem start_get {N : List Str} {vs : List V} {i : Nat} {v : V} (h : vs[i]? = some v) : (L2.start N vs)[i]? = some (some v) := by
  unfold L2.start
  have hi := (List.getElem?_eq_some_iff.mp h).1
  rw [List.getElem?_append_left (by simpa using hi), List.getElem?_map, h]
  rfl
theorem body_ok {t : TS} {b : EvS} {N : List Str} {vs : List V} {H : Hp} {Q : VK} {k : Nat} (hb : IS K t b) (hk : k ≤ N.length) (h : ∃ (O : Addr → Prop) (ss : List Sl) (r : Ret) (outs : List (Option Mu)), vs.length = k ∧ (∀ a, O a → H a ≠ none) ∧ ArgsOk K O H vs ss ∧ Dis vs ss ∧ runB N.length b ss = some (r, outs) ∧
      (∀ (i : Nat) (p : Bool) (m : Mu), ss[i]? = some (Sl.own p m) → ∃ m', outs[i]? = some (some m')) ∧ ∀ v H', Ext (AW vs ss) H H' → CEnd K O H H' vs outs v r → Q v H') :
    t { nx := fun _ H' => Q .non H', rt := Q } (L2.start N vs) H := by
  obtain ⟨O, ss, r, outs, hlen, hO, ha, hd, hm, ho, q⟩ := h
  simp only [runB, Option.bind_eq_some_iff] at hm
  obtain ⟨⟨fl, env'⟩, h1, h2⟩ := hm
  have hss := ha.length
  let F : Frm := ⟨O, AW vs ss, H, vs⟩
  have wr0 : ∀ a, Wr (env0 N.length ss) (L2.start N vs) a → AW vs ss a ∧ O a := by
    rintro a ⟨i, p, m, e, s⟩
    have e' := env0_get e
    obtain ⟨v, hv, rfl, b, rfl, hb, _⟩ := ha.get e'
    rw [start_get hv] at s; cases s
    exact ⟨⟨i, m, e', hv⟩, hb⟩
  have S0 : StOk K F T0 H (env0 N.length ss) (L2.start N vs) := by
    refine ⟨?_, ?_, ?_, ?_, Ext.refl, hO, ?_, fun a h => h.elim, fun a h => h.elim⟩
    · simp [env0, L2.start, hss]
    · intro i d e
      obtain ⟨v, hv, r⟩ := ha.get (env0_get e)
      exact ⟨v, start_get hv, Rp.anti (fun a h => h.elim id fun h => h.elim (fun z => z.elim) fun z => (wr0 a z).2) r⟩
    · intro i p m e
      have e' := env0_get e
      obtain ⟨v, hv, rfl, b, rfl, hb, mu⟩ := ha.get e'
      exact ⟨b, start_get hv, mu.tr (fun a _ _ n h => n (h.elim id fun h => h.elim (fun z => z.elim) fun z => (wr0 a z).2)) (fun _ _ _ e => e) (fun _ e => e), by simp only [if_true]; exact ⟨⟨i, m, e', hv⟩, hv⟩⟩
    · intro i j p q m n a e1 e2 s1 s2
      have f1 := env0_get e1
      have f2 := env0_get e2
      obtain ⟨v1, hv1, rfl, b1, rfl, _⟩ := ha.get f1
      obtain ⟨v2, hv2, rfl, b2, rfl, _⟩ := ha.get f2
      rw [start_get hv1] at s1; cases s1
      rw [start_get hv2] at s2; cases s2
      exact hd i j m n _ f1 f2 hv1 hv2
    · rintro a ⟨i, m, e, hv⟩
      obtain ⟨v, hv', _, b, rfl, hb, _⟩ := ha.get e
      rw [hv] at hv'; cases hv'
      exact hb
  -- the ends
  have fin : ∀ (r' : Ret) (o' : List (Option Mu)) (e' : En), outsE ss e' = some o' → ∀ v σ' H', RetOk K F H' v e' σ' r' → Ext (AW vs ss) H H' ∧ CEnd K O H H' vs o' v r' := by
    intro r' o' e' ho' v σ' H' hr
    have ex : ∀ {T'}, StOk K F T' H' e' σ' → Ext (AW vs ss) H H' := fun S => S.ext
    have outs' : ∀ {T'} (O' : Addr → Prop), StOk K F T' H' e' σ' → (∀ a, O' a → Ow F T' e' σ' a) → OutsOk K O' H' vs o' := by
      intro T' O' S hO' i m hm
      obtain ⟨a, s, mu, c⟩ := S.own i true m ((outsE_get ho').1 i m hm)
      exact ⟨a, by simpa using c.2, mu.tr (fun b _ _ n h => n (hO' b h)) (fun _ _ _ e => e) (fun _ e => e)⟩
    cases r' with
    | val d =>
      obtain ⟨S, r⟩ := hr
      exact ⟨ex S, r.anti fun a h => .inl h, outs' O S fun a h => .inl h⟩
    | new m =>
      obtain ⟨p, T', rfl, np, S, op, mu⟩ := hr
      have sub : ∀ a, (O a ∨ a = p) → Ow F T' e' σ' a := fun a h => h.elim .inl fun h => by subst h; exact op
      exact ⟨ex S, p, rfl, np, mu.tr (fun b _ _ n h => n (sub b h)) (fun _ _ _ e => e) (fun _ e => e), outs' _ S sub⟩
  refine hb F (env0 N.length ss) (L2.start N vs) H fl env' S0 h1 _ ?_
  cases fl with
  | nx =>
    simp only [Option.map_eq_some_iff, Prod.mk.injEq] at h2
    obtain ⟨o, h3, rfl, rfl⟩ := h2
    intro σ' H' S' _
    obtain ⟨x, c⟩ := fin (.val .none) o env' h3 .non σ' H' ⟨S', .non⟩
    exact q _ _ x c
  | rt r' =>
    simp only [Option.map_eq_some_iff, Prod.mk.injEq] at h2
    obtain ⟨o, h3, rfl, rfl⟩ := h2
    intro v σ' H' hr
    obtain ⟨x, c⟩ := fin r' o env' h3 v σ' H' hr
    exact q _ _ x c
  | bk => cases h2
  | ct => cases h2
end
def slArgs (env : En) : List R → Option (List Sl)
  | [] => some []
  | .val d :: l => (slArgs env l).map fun s => .shr d :: s
  | .slot i :: l => (slOf env i).bind fun s => (slArgs env l).map fun r => (match s with | .own _ m => .own true m | .shr d => .shr d) :: r
def ownSlots (env : En) : List R → List Nat
  | [] => []
  | .slot i :: l => if (ownOf env i).isSome then i :: ownSlots env l else ownSlots env l
  | .val _ :: l => ownSlots env l
def updO : En → List R → List (Option Mu) → En
  | env, .slot i :: l, some m :: os => updO (match slOf env i with | some (.own p _) => env.set i (some (.own p m)) | _ => env) l os
  | env, _ :: l, _ :: os => updO env l os
  | env, _, _ => env
section
variable {K : PySem.W.Frag} {F : Frm} {T : Addr → Prop} {H H' : Hp} {env env' : En} {σ : L2.St}
theorem updO_len : ∀ {l : List R} {os : List (Option Mu)} {env : En}, (updO env l os).length = env.length
  | .slot i :: l, some m :: os, env => by
    unfold updO
    rw [updO_len]
    split <;> simp
  | .slot i :: l, none :: os, env => by unfold updO; exact updO_len
  | .val _ :: l, _ :: os, env => by unfold updO; exact updO_len
  | [], _, env => by unfold updO; rfl
  | r :: _, [], env => by cases r <;> simp [updO]
theorem updO_get : ∀ {l : List R} {os : List (Option Mu)} {env : En} {j : Nat} {s : Sl}, (updO env l os)[j]? = some (some s) →
    (env[j]? = some (some s) ∧ ∀ (k : Nat) (m : Mu), l[k]? = some (R.slot j) → os[k]? = some (some m) → ∃ d, s = .shr d) ∨ (∃ (p : Bool) (m m' : Mu) (k : Nat), env[j]? = some (some (Sl.own p m)) ∧ s = .own p m' ∧ l[k]? = some (R.slot j) ∧ os[k]? = some (some m'))
  | .slot i :: l, some m :: os, env, j, s, h => by
    unfold updO at h
    rcases updO_get h with ⟨h1, h2⟩ | ⟨p, n, n', k, h1, h2, h3, h4⟩
    · cases g : slOf env i with
      | none =>
        simp only [g] at h1
        refine .inl ⟨h1, fun k m' a b => ?_⟩
        cases k with
        | zero =>
          simp at a; subst a
          have := slOf_eq.mpr h1
          rw [g] at this; cases this
        | succ k => exact h2 k m' (by simpa using a) (by simpa using b)
      | some s' =>
        cases s' with
        | shr d =>
          simp only [g] at h1
          refine .inl ⟨h1, fun k m' a b => ?_⟩
          cases k with
          | zero =>
            simp at a; subst a
            have := slOf_eq.mpr h1
            rw [g] at this; cases this
            exact ⟨d, rfl⟩
          | succ k => exact h2 k m' (by simpa using a) (by simpa using b)
        | own p n =>
          simp only [g] at h1
          rcases set_get h1 with ⟨rfl, hh⟩ | ⟨hne, h1⟩
          · cases hh
            exact .inr ⟨p, n, m, 0, slOf_eq.mp g, rfl, rfl, rfl⟩
          · refine .inl ⟨h1, fun k m' a b => ?_⟩
            cases k with
            | zero => simp at a; exact absurd a hne
            | succ k => exact h2 k m' (by simpa using a) (by simpa using b)
    · have h1' : ∃ n, env[j]? = some (some (Sl.own p n)) := by
        cases g : slOf env i with
        | none => simp only [g] at h1; exact ⟨_, h1⟩
        | some s' =>
          cases s' with
          | shr d => simp only [g] at h1; exact ⟨_, h1⟩
          | own q n2 =>
            simp only [g] at h1
            rcases set_get h1 with ⟨rfl, hh⟩ | ⟨hne, h1⟩
            · cases hh; exact ⟨_, slOf_eq.mp g⟩
            · exact ⟨_, h1⟩
      obtain ⟨n2, h1'⟩ := h1'
      exact .inr ⟨p, n2, n', k + 1, h1', h2, by simpa using h3, by simpa using h4⟩
  | .slot i :: l, none :: os, env, j, s, h => by
    unfold updO at h
    rcases updO_get h with ⟨h1, h2⟩ | ⟨p, n, n', k, h1, h2, h3, h4⟩
    · refine .inl ⟨h1, fun k m' a b => ?_⟩
      cases k with
      | zero => simp at b
      | succ k => exact h2 k m' (by simpa using a) (by simpa using b)
    · exact .inr ⟨p, n, n', k + 1, h1, h2, by simpa using h3, by simpa using h4⟩
  | .val d :: l, o :: os, env, j, s, h => by
    unfold updO at h
    rcases updO_get h with ⟨h1, h2⟩ | ⟨p, n, n', k, h1, h2, h3, h4⟩
    · refine .inl ⟨h1, fun k m' a b => ?_⟩
      cases k with
      | zero => simp at a
      | succ k => exact h2 k m' (by simpa using a) (by simpa using b)
    · exact .inr ⟨p, n, n', k + 1, h1, h2, by simpa using h3, by simpa using h4⟩
  | [], _, env, j, s, h => by unfold updO at h; exact .inl ⟨h, fun k m' a b => by simp at a⟩
  | r :: _, [], env, j, s, h => by cases r <;> (simp only [updO] at h; exact .inl ⟨h, fun k m' a b => by simp at b⟩)
theorem RvAll.get : ∀ {vs : List V} {l : List R} {k : Nat} {r : R}, RvAll K F T H env σ vs l → l[k]? = some r → ∃ v, vs[k]? = some v ∧ RvOk K F T H env σ v r
  | [], [], _, _, _, e => by simp at e
  | v :: _, _ :: _, 0, _, h, e => by simp at e; subst e; exact ⟨v, rfl, h.1⟩
  | _ :: _, _ :: _, i + 1, _, h, e => by
    obtain ⟨v, h1, h2⟩ := RvAll.get (k := i) h.2 (by simpa using e)
    exact ⟨v, by simpa using h1, h2⟩
  | [], _ :: _, _, _, h, _ => h.elim
  | _ :: _, [], _, _, h, _ => h.elim
theorem slArgs_get : ∀ {l : List R} {ss : List Sl}, slArgs env l = some ss → ss.length = l.length ∧ ∀ (k : Nat) (s : Sl), ss[k]? = some s → (∃ d, l[k]? = some (R.val d) ∧ s = .shr d) ∨ (∃ (i : Nat) (p : Bool) (m : Mu), l[k]? = some (R.slot i) ∧ env[i]? = some (some (Sl.own p m)) ∧ s = .own true m) ∨ (∃ (i : Nat) (d : D), l[k]? = some (R.slot i) ∧ env[i]? = some (some (Sl.shr d)) ∧ s = .shr d)
  | [], ss, h => by simp [slArgs] at h; subst h; exact ⟨rfl, fun k s h => by simp at h⟩
  | .val d :: l, ss, h => by
    simp only [slArgs, Option.map_eq_some_iff] at h
    obtain ⟨r, h, rfl⟩ := h
    obtain ⟨h1, h2⟩ := slArgs_get h
    refine ⟨by simp [h1], fun k s hk => ?_⟩
    cases k with
    | zero => simp at hk; exact .inl ⟨d, rfl, hk.symm⟩
    | succ k => simpa using h2 k s (by simpa using hk)
  | .slot i :: l, ss, h => by
    simp only [slArgs, Option.bind_eq_some_iff, Option.map_eq_some_iff] at h
    obtain ⟨s0, h0, r, h, rfl⟩ := h
    obtain ⟨h1, h2⟩ := slArgs_get h
    refine ⟨by simp [h1], fun k s hk => ?_⟩
    cases k with
    | zero =>
      have g := slOf_eq.mp h0
      cases s0 with
      | own p m => simp at hk; exact .inr (.inl ⟨i, p, m, rfl, g, hk.symm⟩)
      | shr d => simp at hk; exact .inr (.inr ⟨i, d, rfl, g, hk.symm⟩)
    | succ k => simpa using h2 k s (by simpa using hk)
theorem slArgs_ok (S : StOk K F T H env σ) : ∀ {vs : List V} {l : List R} {ss : List Sl}, RvAll K F T H env σ vs l → slArgs env l = some ss → ArgsOk K (Ow F T env σ) H vs ss
  | [], [], ss, _, e => by simp [slArgs] at e; subst e; trivial
  | v :: vs, .val d :: l, ss, h, e => by
    simp only [slArgs, Option.map_eq_some_iff] at e
    obtain ⟨r, e, rfl⟩ := e
    exact ⟨h.1, slArgs_ok S h.2 e⟩
  | v :: vs, .slot i :: l, ss, h, e => by
    simp only [slArgs, Option.bind_eq_some_iff, Option.map_eq_some_iff] at e
    obtain ⟨s0, h0, r, e, rfl⟩ := e
    refine ⟨?_, slArgs_ok S h.2 e⟩
    have g := slOf_eq.mp h0
    have hv : σ[i]? = some (some v) := h.1
    cases s0 with
    | own p m =>
      obtain ⟨a, q1, q2, _⟩ := S.own i p m g
      rw [hv] at q1; cases q1
      exact ⟨rfl, a, rfl, .inr (.inr ⟨i, p, m, g, hv⟩), q2⟩
    | shr d =>
      obtain ⟨w, q1, q2⟩ := S.shr i d g
      rw [hv] at q1; cases q1
      exact q2
  | [], _ :: _, _, h, _ => h.elim
  | _ :: _, [], _, h, _ => h.elim
theorem ownSlots_dis : ∀ {l : List R} {i j k : Nat} {p q : Bool} {m n : Mu}, (ownSlots env l).Nodup → l[i]? = some (R.slot k) → l[j]? = some (R.slot k) → env[k]? = some (some (Sl.own p m)) → i = j
  | [], _, _, _, _, _, _, _, _, h, _, _ => by simp at h
  | r :: l, i, j, k, p, q, m, n, nd, h1, h2, g => by
    have gk : (ownOf env k).isSome = true := by
      unfold ownOf; rw [slOf_eq.mpr g]; rfl
    have memk : ∀ {l : List R} {i : Nat}, l[i]? = some (R.slot k) → k ∈ ownSlots env l := by
      intro l
      induction l with
      | nil => intro i h; simp at h
      | cons r l ih =>
        intro i h
        cases i with
        | zero => simp at h; subst h; unfold ownSlots; rw [if_pos gk]; exact List.mem_cons_self
        | succ i =>
          have := ih (i := i) (by simpa using h)
          cases r with
          | val d => unfold ownSlots; exact this
          | slot x => unfold ownSlots; split
                      · exact List.mem_cons_of_mem _ this
                      · exact this
    cases i with
    | zero =>
      cases j with
      | zero => rfl
      | succ j =>
        simp at h1; subst h1
        unfold ownSlots at nd
        rw [if_pos gk] at nd
        exact absurd (memk (by simpa using h2)) (List.nodup_cons.mp nd).1
    | succ i =>
      cases j with
      | zero =>
        simp at h2; subst h2
        unfold ownSlots at nd
        rw [if_pos gk] at nd
        exact absurd (memk (by simpa using h1)) (List.nodup_cons.mp nd).1
      | succ j =>
        have nd' : (ownSlots env l).Nodup := by
          cases r with
          | val d => unfold ownSlots at nd; exact nd
          | slot x =>
            unfold ownSlots at nd
            split at nd
            · exact (List.nodup_cons.mp nd).2
            · exact nd
        exact congrArg (· + 1) (ownSlots_dis (p := p) (q := q) (m := m) (n := n) nd' (by simpa using h1) (by simpa using h2) g)
theorem call_ok {vs : List V} {l : List R} {ss : List Sl} {outs : List (Option Mu)} {T' : Addr → Prop} (S : StOk K F T H env σ) (rv : RvAll K F T H env σ vs l) (hss : slArgs env l = some ss)
    (hou : ∀ (i : Nat) (p : Bool) (m : Mu), ss[i]? = some (Sl.own p m) → ∃ m', outs[i]? = some (some m')) (x : Ext (AW vs ss) H H') (hT : ∀ a, T a → T' a) (hT2 : ∀ a, T' a → T a ∨ H a = none) (hT3 : ∀ a, T' a → H' a ≠ none)
    (ho : OutsOk K (fun a => Ow F T env σ a ∨ T' a) H' vs outs) : StOk K F T' H' (updO env l outs) σ ∧ Stp env σ H (updO env l outs) H' := by
  have aw : ∀ a, AW vs ss a → ∃ (k i : Nat) (p : Bool) (m m' : Mu), l[k]? = some (R.slot i) ∧ env[i]? = some (some (Sl.own p m)) ∧ σ[i]? = some (some (V.ref a)) ∧ outs[k]? = some (some m') := by
    rintro a ⟨k, m, e, hv⟩
    obtain ⟨m', hm'⟩ := hou k true m e
    rcases (slArgs_get hss).2 k _ e with ⟨d, _, h⟩ | ⟨i, p, n, h1, h2, h3⟩ | ⟨i, d, _, _, h⟩
    · cases h
    · obtain ⟨v, hv', r⟩ := rv.get h1
      rw [hv] at hv'; cases hv'
      exact ⟨k, i, p, n, m', h1, h2, r, hm'⟩
    · cases h
  have awr : ∀ a, AW vs ss a → Wr env σ a := fun a h => let ⟨_, i, p, m, _, _, h2, h3, _⟩ := aw a h; ⟨i, p, m, h2, h3⟩
  have x' : Ext (Wr env σ) H H' := x.mono awr
  have wr : ∀ a, Wr (updO env l outs) σ a → Wr env σ a := by
    rintro a ⟨j, p, m, e, s⟩
    rcases updO_get e with ⟨h1, _⟩ | ⟨p', n, n', k, h1, h2, _, _⟩
    · exact ⟨j, p, m, h1, s⟩
    · exact ⟨j, p', n, h1, s⟩
  have ow : ∀ a o, H a = some o → ¬ Ow F T env σ a → ¬ Ow F T' (updO env l outs) σ a := fun a o e n z => by
    rcases z with z | z | z
    · exact n (.inl z)
    · rcases hT2 a z with z | z
      · exact n (.inr (.inl z))
      · rw [e] at z; cases z
    · exact n (.inr (.inr (wr a z)))
  have kk : ∀ a o, ¬ Ow F T env σ a → H a = some o → H' a = some o := fun a o n e => x'.same a o e fun z => n (.inr (.inr z))
  refine ⟨⟨by rw [updO_len]; exact S.len, ?_, ?_, ?_, ?_, S.dom, S.sub, hT3, ?_⟩, x', wr⟩
  · intro i d e
    rcases updO_get e with ⟨h1, _⟩ | ⟨p', n, n', k, _, h2, _, _⟩
    · obtain ⟨v, s, r⟩ := S.shr i d h1
      exact ⟨v, s, r.tr ow kk⟩
    · cases h2
  · intro i p m e
    rcases updO_get e with ⟨h1, h2⟩ | ⟨p', n, n', k, h1, h2, h3, h4⟩
    · obtain ⟨a, s, mu, c⟩ := S.own i p m h1
      refine ⟨a, s, mu.tr ow kk (fun o q => x.same a o q fun z => ?_), c⟩
      obtain ⟨k, j, p2, m2, m', g1, g2, g3, g4⟩ := aw a z
      have ij := S.dis i j _ _ _ _ _ h1 g2 s g3
      subst ij
      obtain ⟨d, hd⟩ := h2 k m' g1 g4
      cases hd
    · cases h2
      obtain ⟨a, s, mu, c⟩ := S.own i _ n h1
      obtain ⟨a', hv, mu'⟩ := ho k _ h4
      obtain ⟨v, hv', r⟩ := rv.get h3
      rw [hv] at hv'; cases hv'
      rw [show σ[i]? = some (some (V.ref a')) from r] at s; cases s
      exact ⟨_, r, mu'.tr (fun b _ _ n z => n (by
        rcases z with z | z | z
        · exact .inl (.inl z)
        · exact .inr z
        · exact .inl (.inr (.inr (wr b z))))) (fun _ _ _ e => e) (fun _ e => e), c⟩
  · intro i j p q m n a e1 e2 s1 s2
    have g1 : ∃ p m, env[i]? = some (some (Sl.own p m)) := by
      rcases updO_get e1 with ⟨h, _⟩ | ⟨_, _, _, _, h, _⟩
      · exact ⟨_, _, h⟩
      · exact ⟨_, _, h⟩
    have g2 : ∃ p m, env[j]? = some (some (Sl.own p m)) := by
      rcases updO_get e2 with ⟨h, _⟩ | ⟨_, _, _, _, h, _⟩
      · exact ⟨_, _, h⟩
      · exact ⟨_, _, h⟩
    obtain ⟨_, _, g1⟩ := g1
    obtain ⟨_, _, g2⟩ := g2
    exact S.dis i j _ _ _ _ a g1 g2 s1 s2
  · refine ⟨fun a o q n => ?_, fun a q => x.live a (S.ext.live a q)⟩
    refine x.same a o (S.ext.same a o q n) fun z => ?_
    obtain ⟨k, j, p2, m2, m', g1, g2, g3, g4⟩ := aw a z
    obtain ⟨b, s, mu, c⟩ := S.own j p2 m2 g2
    rw [g3] at s; cases s
    cases p2 with
    | true => exact n (by simpa using c.1)
    | false => simp at c; rw [c] at q; cases q
  · intro a q z
    rcases hT2 a q with q | q
    · exact S.tno a q (wr a z)
    · exact S.wlive (wr a z) q
theorem call_run {M : FnS} {l : List R} {vs : List V} {ss : List Sl} {z : Ret × List (Option Mu)} {k : Nat} {Q : VK} {E : XK} (S : StOk K F T H env σ) (rv : RvAll K F T H env σ vs l) (hs : slArgs env l = some ss) (nd : (ownSlots env l).Nodup) (hm : M ss = some z)
    (hk : l.length = k) (hou : ∀ (i : Nat) (p : Bool) (m : Mu), ss[i]? = some (Sl.own p m) → ∃ m', z.2[i]? = some (some m'))
    (q : ∀ v H', Ext (AW vs ss) H H' → CEnd K (Ow F T env σ) H H' vs z.2 v z.1 → Q v H') : spD K k M vs H Q E := by
  have ha := slArgs_ok S rv hs
  refine ⟨Ow F T env σ, ss, z.1, z.2, by rw [ha.length, (slArgs_get hs).1, hk], fun a h => S.olive h, ha, ?_, hm, hou, q⟩
  intro i j m n a e1 e2 s1 s2
  have aux : ∀ {i : Nat} {m : Mu}, ss[i]? = some (Sl.own true m) → vs[i]? = some (V.ref a) → ∃ (k : Nat) (p : Bool) (m : Mu), l[i]? = some (R.slot k) ∧ env[k]? = some (some (Sl.own p m)) ∧ σ[k]? = some (some (V.ref a)) := by
    intro i m e hv
    rcases (slArgs_get hs).2 i _ e with ⟨d, _, h⟩ | ⟨k, p, n, h1, h2, _⟩ | ⟨_, d, _, _, h⟩
    · cases h
    · obtain ⟨v, hv', r⟩ := rv.get h1
      rw [hv] at hv'; cases hv'
      exact ⟨k, p, n, h1, h2, r⟩
    · cases h
  obtain ⟨k1, p1, m1, a1, b1, c1⟩ := aux e1 s1
  obtain ⟨k2, p2, m2, a2, b2, c2⟩ := aux e2 s2
  have := S.dis k1 k2 _ _ _ _ _ b1 b2 c1 c2
  subst this
  exact ownSlots_dis (p := p1) (q := p1) (m := m1) (n := m1) nd a1 a2 b1
def ouOk : List Sl → List (Option Mu) → Bool
  | .own _ _ :: ss, some _ :: os => ouOk ss os
  | .own _ _ :: _, _ => false
  | .shr _ :: ss, _ :: os => ouOk ss os
  | .shr _ :: ss, [] => ouOk ss []
  | [], _ => true
theorem ouOk_get : ∀ {ss : List Sl} {os : List (Option Mu)}, ouOk ss os = true → ∀ (i : Nat) (p : Bool) (m : Mu), ss[i]? = some (Sl.own p m) → ∃ m', os[i]? = some (some m')
  | .own _ _ :: ss, some m' :: os, h, i, p, m, e => by
    cases i with
    | zero => exact ⟨m', rfl⟩
    | succ i => simpa using ouOk_get (ss := ss) (os := os) (by simpa [ouOk] using h) i p m (by simpa using e)
  | .own _ _ :: _, none :: _, h, _, _, _, _ => by simp [ouOk] at h
  | .own _ _ :: _, [], h, _, _, _, _ => by simp [ouOk] at h
  | .shr _ :: ss, _ :: os, h, i, p, m, e => by
    cases i with
    | zero => simp at e
    | succ i => simpa using ouOk_get (ss := ss) (os := os) (by simpa [ouOk] using h) i p m (by simpa using e)
  | .shr _ :: ss, [], h, i, p, m, e => by
    cases i with
    | zero => simp at e
    | succ i =>
      obtain ⟨m', hm⟩ := ouOk_get (ss := ss) (os := []) (by simpa [ouOk] using h) i p m (by simpa using e)
      simp at hm
  | [], _, _, i, p, m, e => by simp at e
end
end GD

namespace GD
open PySem PySem.Spec PyProof.Rows L2
section
variable {K : PySem.W.Frag}
theorem Rp.upd {O : Addr → Prop} {H : Hp} {p : Addr} {o : HO} (n : H p = none) {v : V} {d : D} (r : Rp K O H v d) : Rp K O (L2.upd H p o) v d := r.tr (fun _ _ _ n => n) fun a u _ e => by rw [upd_ne (ne_of_none e n)]; exact e
theorem RpAll.upd {O : Addr → Prop} {H : Hp} {p : Addr} {o : HO} (n : H p = none) {v : List V} {d : List D} (r : RpAll K O H v d) : RpAll K O (L2.upd H p o) v d := r.tr (fun _ _ _ n => n) fun a u _ e => by rw [upd_ne (ne_of_none e n)]; exact e
theorem RpAll.updp {O : Addr → Prop} {H : Hp} {p : Addr} {o : HO} (n : H p = none) {v : List V} {d : List D} (r : RpAll K O H v d) : RpAll K (fun a => O a ∨ a = p) (L2.upd H p o) v d := r.tr (fun a u e n2 z => z.elim n2 fun z => ne_of_none e n z) fun a u _ e => by rw [upd_ne (ne_of_none e n)]; exact e
theorem new_tup {O : Addr → Prop} {H : Hp} {p : Addr} {o : Obj} {vs : List V} {ds : List D} (hO : ∀ a, O a → H a ≠ none) (n : H p = none) (hd : o.dict = none) (r : RpAll K O H vs ds) : Rp K O (L2.upd H p (.frz o (.tup vs))) (.ref p) (.tuple ds) :=
  .tup (TpA.new hd fun h => hO p h n) (r.upd n)
theorem new_lst {O : Addr → Prop} {H : Hp} {p : Addr} {vs : List V} {ds : List D} (n : H p = none) (r : RpAll K O H vs ds) : MuAt K (fun a => O a ∨ a = p) (L2.upd H p (.lst vs)) p (.l ds) := ⟨vs, upd_same, r.updp n⟩
theorem ext_new {H : Hp} {p : Addr} {o : HO} (n : H p = none) : Ext (fun _ => False) H (upd H p o) := Ext.new n
theorem Rp.tupI {O : Addr → Prop} {H : Hp} {v : V} {ds : List D} (r : Rp K O H v (.tuple ds)) : ∃ a xs, v = .ref a ∧ SqT K H a xs ∧ RpAll K O H xs ds ∧ TpA K O H a xs ds := by
  cases r with
  | tup h r => exact ⟨_, _, rfl, h.1.imp (·.1) id, r, h⟩
theorem Rp.sc {O : Addr → Prop} {H : Hp} {v : V} {i : Int} (r : Rp K O H v (.int i)) : v = .int i := by cases r; rfl
theorem Rp.scS {O : Addr → Prop} {H : Hp} {v : V} {i : Str} (r : Rp K O H v (.str i)) : v = .str i := by cases r; rfl
theorem Rp.scB {O : Addr → Prop} {H : Hp} {v : V} {i : Bool} (r : Rp K O H v (.bool i)) : v = .bl i := by cases r; rfl
theorem Rp.scN {O : Addr → Prop} {H : Hp} {v : V} (r : Rp K O H v .none) : v = .non := by cases r; rfl
def dI (C : Int → Int → Bool) (g : Int → Int → D) : D → D → Option D
  | .int i, .int j => if C i j = true then some (g i j) else none
  | _, _ => none
theorem od_I {C : Int → Int → Prop} {c : Int → Int → Bool} {g : Int → Int → V} {gd : Int → Int → D} (hc : ∀ i j, c i j = true → C i j) (hg : ∀ O H i j, Rp K O H (g i j) (gd i j)) : OpD K (rI C g) (dI c gd) := by
  intro O H x y d e z hO l1 l2 hz Q q
  cases d with
  | int i =>
    cases e with
    | int j =>
      simp only [dI] at hz
      split at hz
      · rename_i h
        cases hz
        exact ⟨i, j, Rp.sc l1, Rp.sc l2, hc i j h, q _ H Ext.refl (hg _ _ i j)⟩
      · cases hz
    | _ => cases hz
  | _ => cases hz
theorem od_I0 {g : Int → Int → V} {gd : Int → Int → D} (hg : ∀ O H i j, Rp K O H (g i j) (gd i j)) : OpD K (rI0 g) (dI (fun _ _ => true) gd) := by
  intro O H x y d e z hO l1 l2 hz Q q
  cases d with
  | int i =>
    cases e with
    | int j =>
      simp only [dI, if_true] at hz
      cases hz
      exact ⟨i, j, Rp.sc l1, Rp.sc l2, q _ H Ext.refl (hg _ _ i j)⟩
    | _ => cases hz
  | _ => cases hz
def dSub : D → D → Option D := dI (fun _ _ => true) fun i j => .int (i - j)
def dMul : D → D → Option D := dI (fun i j => decide ((-(2 ^ 64) < i ∧ i < 2 ^ 64) ∨ (-(2 ^ 64) < j ∧ j < 2 ^ 64))) fun i j => .int (i * j)
def dMod : D → D → Option D := dI (fun _ j => decide (0 < j)) fun i j => .int (i % j)
def dDiv : D → D → Option D := dI (fun _ j => decide (0 < j ∧ j < 1073741824)) fun i j => .int (i / j)
def dPow : D → D → Option D := dI (fun i j => decide (0 ≤ j ∧ j ≤ 1000000 ∧ i.natAbs < 2 ^ 64)) fun i j => .int (i ^ j.toNat)
theorem od_sub : OpD K (rI0 fun i j => .int (i - j)) dSub := od_I0 fun _ _ _ _ => .int _
theorem od_mul : OpD K (rI CMul fun i j => .int (i * j)) dMul := od_I (C := CMul) (fun i j h => by unfold CMul; simpa using h) fun _ _ _ _ => .int _
theorem od_mod : OpD K (rI (fun _ j => 0 < j) fun i j => .int (i % j)) dMod := od_I (fun _ _ h => of_decide_eq_true h) fun _ _ _ _ => .int _
theorem od_div : OpD K (rI CDiv fun i j => .int (i / j)) dDiv := od_I (C := CDiv) (fun i j h => by unfold CDiv; simpa using h) fun _ _ _ _ => .int _
theorem od_pow : OpD K (rI CPow fun i j => .int (i ^ j.toNat)) dPow := od_I (C := CPow) (fun i j h => by unfold CPow; simpa using h) fun _ _ _ _ => .int _
def dLt : D → D → Option D := dI (fun _ _ => true) fun i j => .bool (decide (i < j))
def dGt : D → D → Option D := dI (fun _ _ => true) fun i j => .bool (decide (j < i))
def dGe : D → D → Option D := dI (fun _ _ => true) fun i j => .bool (decide (j ≤ i))
theorem od_lt : OpD K (rI0 fun i j => .bl (decide (i < j))) dLt := od_I0 fun _ _ _ _ => .bl _
theorem od_gt : OpD K (rI0 fun i j => .bl (decide (j < i))) dGt := od_I0 fun _ _ _ _ => .bl _
theorem od_ge : OpD K (rI0 fun i j => .bl (decide (j ≤ i))) dGe := od_I0 fun _ _ _ _ => .bl _
def dNeg : D → Option D
  | .int i => some (.int (-i))
  | _ => none
theorem ud_neg : UnD K (rU fun i => .int (-i)) dNeg := by
  intro O H x d z hO l hz Q q
  cases d with
  | int i => cases hz; exact ⟨i, Rp.sc l, q _ H Ext.refl (.int _)⟩
  | _ => cases hz
def rCatF (K : PySem.W.Frag) : R2 := fun x y H Q => ∃ t u xs ys, x = .ref t ∧ y = .ref u ∧ SqT K H t xs ∧ SqT K H u ys ∧ xs.length + ys.length ≤ sizeLine ∧
  (xs = [] → Q (.ref u) H) ∧ (xs ≠ [] → ys = [] → Q (.ref t) H) ∧ (xs ≠ [] → ys ≠ [] → ∀ (p : Addr) (o : Obj), H p = none → o.dict = none → Q (.ref p) (upd H p (.frz o (.tup (xs ++ ys)))))
theorem op_catF {X : Cx} : OpR X (binaryOp .Add) (rCatF X.K) := by
  intro pins s σ H x y v w Q I rx ry h
  obtain ⟨t, u, xs, ys, ex, ey, ht, hu, hz, k0, k1, k2⟩ := h
  by_cases hx : xs = []
  · exact op_catA pins s σ H x y v w Q I rx ry ⟨t, u, xs, ys, ex, ey, ht, hu, hz, k0, fun n => absurd hx n, fun n => absurd hx n⟩
  by_cases hy : ys = []
  · exact op_catA pins s σ H x y v w Q I rx ry ⟨t, u, xs, ys, ex, ey, ht, hu, hz, k0, k1, fun _ n => absurd hy n⟩
  subst ex ey
  cases rx; cases ry
  obtain ⟨its, r1, p1, _⟩ := I.tuple ht
  obtain ⟨jts, r2, p2, _⟩ := I.tuple hu
  refine HT.cat_tup p1 p2 (fun n => hx (r1.nil_iff.mp n)) (fun n => absurd (r2.nil_iff.mp n) hy) (fun _ => ?_) (by rw [← r1.length, ← r2.length]; exact hz)
  have J := laid_fz (us := its ++ jts) I (by rw [List.length_append]; exact hz) (r1.append r2) s.toks
  exact ⟨.ref s.heap.objs.size, _, J, rfl, k2 hx hy _ _ (I.hok.fresh (Nat.le_refl _)) rfl⟩
def rAddA (K : PySem.W.Frag) : R2 := fun x y H Q => rI0 (fun i j => .int (i + j)) x y H Q ∨ (fun x y H Q => (∃ i j, x = .str i ∧ y = .str j ∧ i.length + j.length ≤ sizeLine ∧ Q (.str (i ++ j)) H) ∨ rCatF K x y H Q) x y H Q
theorem op_addA {X : Cx} : OpR X (binaryOp .Add) (rAddA X.K) := OpR.or op_add (OpR.or op_add_str op_catF)
def dAdd : D → D → Option D
  | .int i, .int j => some (.int (i + j))
  | .str a, .str b => if small (a.length + b.length) = true then some (.str (a ++ b)) else none
  | .tuple xs, .tuple ys => if small (xs.length + ys.length) = true then some (.tuple (xs ++ ys)) else none
  | _, _ => none
theorem od_add : OpD K (rAddA K) dAdd := by
  intro O H x y d e z hO l1 l2 hz Q q
  cases d with
  | int i =>
    cases e with
    | int j => cases hz; exact .inl ⟨i, j, Rp.sc l1, Rp.sc l2, q _ H Ext.refl (.int _)⟩
    | _ => cases hz
  | str a =>
    cases e with
    | str b =>
      simp only [dAdd] at hz
      split at hz
      · rename_i h
        cases hz
        exact .inr (.inl ⟨a, b, Rp.scS l1, Rp.scS l2, small_le h, q _ H Ext.refl (.str _)⟩)
      · cases hz
    | _ => cases hz
  | tuple ds =>
    cases e with
    | tuple es =>
      simp only [dAdd] at hz
      split at hz
      · rename_i h
        cases hz
        obtain ⟨a, xs, rfl, s1, r1, c1⟩ := Rp.tupI l1
        obtain ⟨b, ys, rfl, s2, r2, c2⟩ := Rp.tupI l2
        refine .inr (.inr ⟨a, b, xs, ys, rfl, rfl, s1, s2, by rw [r1.length, r2.length]; exact small_le h, fun hx => ?_, fun hx hy => ?_, fun hx hy p ob np hd => ?_⟩)
        · subst hx
          have hd : ds = [] := List.eq_nil_of_length_eq_zero r1.length.symm
          subst hd
          exact q _ H Ext.refl (.tup c2 r2)
        · subst hy
          have hd : es = [] := List.eq_nil_of_length_eq_zero r2.length.symm
          subst hd
          rw [List.append_nil] at q
          exact q _ H Ext.refl (.tup c1 r1)
        · exact q _ _ (ext_new np) (new_tup hO np hd (r1.append r2))
      · cases hz
    | _ => cases hz
  | _ => cases hz
def dAddM : D → D → Option Mu
  | .list xs, .list ys => if small (xs.length + ys.length) = true then some (.l (xs ++ ys)) else none
  | _, _ => none
theorem om_add : OpM K rCat dAddM := by
  intro O H x y d e z hO l1 l2 hz Q q
  cases d with
  | list ds =>
    cases e with
    | list es =>
      simp only [dAddM] at hz
      split at hz
      · rename_i h
        cases hz
        obtain ⟨a, xs, rfl, s1, r1⟩ := l1
        obtain ⟨b, ys, rfl, s2, r2⟩ := l2
        exact ⟨a, b, xs, ys, rfl, rfl, s1, s2, by rw [r1.length, r2.length]; exact small_le h, fun p np => q p _ np (ext_new np) (new_lst np (r1.append r2))⟩
      · cases hz
    | _ => cases hz
  | _ => cases hz
def sc : D → D → Bool
  | .none, .none => true
  | .none, .int _ => true
  | .int _, .none => true
  | .none, .bool _ => true
  | .bool _, .none => true
  | .none, .str _ => true
  | .str _, .none => true
  | .int _, .int _ => true
  | .bool _, .bool _ => true
  | .str _, .str _ => true
  | .int _, .str _ => true
  | .str _, .int _ => true
  | .bool _, .str _ => true
  | .str _, .bool _ => true
  | _, _ => false
def scEq : D → D → Bool
  | .none, .none => true
  | .int i, .int j => decide (i = j)
  | .bool i, .bool j => decide (i = j)
  | .str i, .str j => decide (i = j)
  | _, _ => false
def dEqB (d e : D) : Option Bool := if sc d e = true then some (scEq d e) else if (SeqAt.shaped d && SeqAt.shaped e) = true then some (PyData.eqv d e) else none
def dEq (d e : D) : Option D := (dEqB d e).map .bool
def dNe (d e : D) : Option D := (dEqB d e).map fun b => .bool (!b)
def rEqA (K : PySem.W.Frag) : R2 := fun x y H Q => rEq x y H Q ∨ rEqD K x y H Q
def rNeA (K : PySem.W.Frag) : R2 := fun x y H Q => rNe x y H Q ∨ rNeD K x y H Q
theorem op_eqA {X : Cx} (hu : X.A.units + 64 < cLine) : OpR X (compareOp .Eq) (rEqA X.K) := OpR.or op_eq (op_eqD hu)
theorem op_neA {X : Cx} (hu : X.A.units + 64 < cLine) : OpR X (compareOp .NotEq) (rNeA X.K) := OpR.or op_ne (op_neD hu)
theorem lv_sc {O : Addr → Prop} {H : Hp} {x y : V} {d e : D} (l1 : Lv K O H x d) (l2 : Lv K O H y e) (h : sc d e = true) : scal x y = true ∧ decide (x = y) = scEq d e := by
  cases d <;> cases e <;> first | (cases h; done) | skip
  all_goals
    cases (show Rp K O H x _ from l1)
    cases (show Rp K O H y _ from l2)
    refine ⟨rfl, ?_⟩
    simp [scEq]
theorem nodict_of {d : D} (h : SeqAt.shaped d = true) : d.hasDict = false := PyData.hasDict_of_canLay d (SeqAt.canLay_of_shaped h)
theorem od_eq : OpD K (rEqA K) dEq := by
  intro O H x y d e z hO l1 l2 hz Q q
  simp only [dEq, dEqB, Option.map_eq_some_iff] at hz
  obtain ⟨b, hb, rfl⟩ := hz
  split at hb
  · rename_i h
    cases hb
    obtain ⟨h1, h2⟩ := lv_sc l1 l2 h
    exact .inl ⟨h1, by rw [h2]; exact q _ H Ext.refl (.bl _)⟩
  · split at hb
    · rename_i h
      cases hb
      simp only [Bool.and_eq_true] at h
      exact .inr ⟨d, e, l1.dp (nodict_of h.1), l2.dp (nodict_of h.2), h.1, h.2, q _ H Ext.refl (.bl _)⟩
    · cases hb
theorem od_ne : OpD K (rNeA K) dNe := by
  intro O H x y d e z hO l1 l2 hz Q q
  simp only [dNe, dEqB, Option.map_eq_some_iff] at hz
  obtain ⟨b, hb, rfl⟩ := hz
  split at hb
  · rename_i h
    cases hb
    obtain ⟨h1, h2⟩ := lv_sc l1 l2 h
    exact .inl ⟨h1, by rw [h2]; exact q _ H Ext.refl (.bl _)⟩
  · split at hb
    · rename_i h
      cases hb
      simp only [Bool.and_eq_true] at h
      exact .inr ⟨d, e, l1.dp (nodict_of h.1), l2.dp (nodict_of h.2), h.1, h.2, q _ H Ext.refl (.bl _)⟩
    · cases hb
def dInB : D → D → Option Bool
  | .str i, .str j => some (!(Builtin.Str.occurrences j i 0 j.length 1).isEmpty)
  | d, .list ds => if (SeqAt.shaped d && SeqAt.shaped (.list ds)) = true then some (ds.any fun z => PyData.eqv z d) else none
  | _, _ => none
def dIn (d e : D) : Option D := (dInB d e).map .bool
def dNotIn (d e : D) : Option D := (dInB d e).map fun b => .bool (!b)
def rInA (K : PySem.W.Frag) : R2 := fun x y H Q => (∃ i j, x = .str i ∧ y = .str j ∧ Q (.bl (!(Builtin.Str.occurrences j i 0 j.length 1).isEmpty)) H) ∨ rInD K x y H Q
def rNotInA (K : PySem.W.Frag) : R2 := fun x y H Q => (∃ i j, x = .str i ∧ y = .str j ∧ Q (.bl (!(!(Builtin.Str.occurrences j i 0 j.length 1).isEmpty))) H) ∨ rNotInD K x y H Q
theorem op_inA {X : Cx} (hu : X.A.units + 65 < cLine) : OpR X (compareOp .In) (rInA X.K) := OpR.or op_in_str (op_inD hu)
theorem op_notInA {X : Cx} (hu : X.A.units + 65 < cLine) : OpR X (compareOp .NotIn) (rNotInA X.K) := OpR.or op_notin_str (op_notInD hu)
theorem dInB_case {O : Addr → Prop} {H : Hp} {x y : V} {d e : D} {b : Bool} (l1 : Lv K O H x d) (l2 : Lv K O H y e) (h : dInB d e = some b) :
    (∃ i j, x = .str i ∧ y = .str j ∧ b = !(Builtin.Str.occurrences j i 0 j.length 1).isEmpty) ∨ ∃ ds, Dp K H x d ∧ Dp K H y (.list ds) ∧ SeqAt.shaped d = true ∧ SeqAt.shaped (.list ds) = true ∧ b = ds.any fun z => PyData.eqv z d := by
  cases e with
  | str j =>
    cases d with
    | str i => cases h; exact .inl ⟨i, j, Rp.scS l1, Rp.scS l2, rfl⟩
    | _ => cases h
  | list ds =>
    simp only [dInB] at h
    split at h
    · rename_i hs
      cases h
      simp only [Bool.and_eq_true] at hs
      exact .inr ⟨ds, l1.dp (nodict_of hs.1), l2.dp (nodict_of hs.2), hs.1, hs.2, rfl⟩
    · cases h
  | _ => cases d <;> cases h
theorem od_in : OpD K (rInA K) dIn := by
  intro O H x y d e z hO l1 l2 hz Q q
  simp only [dIn, Option.map_eq_some_iff] at hz
  obtain ⟨b, hb, rfl⟩ := hz
  rcases dInB_case l1 l2 hb with ⟨i, j, h1, h2, rfl⟩ | ⟨ds, h1, h2, h3, h4, rfl⟩
  · exact .inl ⟨i, j, h1, h2, q _ H Ext.refl (.bl _)⟩
  · exact .inr ⟨d, ds, h1, h2, h3, h4, q _ H Ext.refl (.bl _)⟩
theorem od_notIn : OpD K (rNotInA K) dNotIn := by
  intro O H x y d e z hO l1 l2 hz Q q
  simp only [dNotIn, Option.map_eq_some_iff] at hz
  obtain ⟨b, hb, rfl⟩ := hz
  rcases dInB_case l1 l2 hb with ⟨i, j, h1, h2, rfl⟩ | ⟨ds, h1, h2, h3, h4, rfl⟩
  · exact .inl ⟨i, j, h1, h2, q _ H Ext.refl (.bl _)⟩
  · exact .inr ⟨d, ds, h1, h2, h3, h4, q _ H Ext.refl (.bl _)⟩
def isN : D → Bool
  | .none => true
  | _ => false
def eIsN (fa : EvE) : EvE := fun env => (e1 fa env).map fun p => (.val (.bool (isN p.1)), p.2)
def eNotN (fa : EvE) : EvE := fun env => (e1 fa env).map fun p => (.val (.bool (!isN p.1)), p.2)
theorem lv_isN {O : Addr → Prop} {H : Hp} {x : V} {d : D} (l : Lv K O H x d) : decide (x = .non) = isN d := by
  cases d with
  | list ds => obtain ⟨a, xs, rfl, _⟩ := l; rfl
  | dict ds => rcases l with ⟨a, xs, _, rfl, _⟩ | ⟨a, _, _, _, _, _, _, rfl, _⟩ | ⟨⟨a, rfl⟩, _⟩ <;> rfl
  | _ => cases (show Rp K O H x _ from l) <;> rfl
theorem ie_isN {ta : TE} {fa : EvE} (ha : IE K ta fa) : IE K (tIsN ta) (eIsN fa) := by
  intro F T env σ H r env' S e Q q
  simp only [eIsN, Option.map_eq_some_iff] at e
  obtain ⟨⟨d, e1⟩, h1, h2⟩ := e
  cases h2
  refine i1 ha S h1 fun x H' S' st l => ?_
  show Q _ H'
  rw [lv_isN l]
  exact q _ H' S' st (.bl _)
theorem ie_notN {ta : TE} {fa : EvE} (ha : IE K ta fa) : IE K (tNotN ta) (eNotN fa) := by
  intro F T env σ H r env' S e Q q
  simp only [eNotN, Option.map_eq_some_iff] at e
  obtain ⟨⟨d, e1⟩, h1, h2⟩ := e
  cases h2
  refine i1 ha S h1 fun x H' S' st l => ?_
  show Q _ H'
  rw [lv_isN l]
  exact q _ H' S' st (.bl _)
end
end GD

namespace GD
open PySem PySem.Spec PyProof.Rows L2
section
variable {K : PySem.W.Frag}
theorem atI_get {α : Type} {xs : List α} {i : Int} {x : α} (h : atI xs i = some x) : ∃ j : Nat, ixN xs.length i = some j ∧ xs[j]? = some x := by
  unfold atI at h
  simp only [Option.bind_eq_some_iff] at h
  obtain ⟨j, h1, h2⟩ := h
  exact ⟨j, h1, h2⟩
theorem RpAll.atI {O : Addr → Prop} {H : Hp} {vs : List V} {ds : List D} {i : Int} {d : D} (r : RpAll K O H vs ds) (h : L2.atI ds i = some d) : ∃ v, L2.atI vs i = some v ∧ Rp K O H v d := by
  obtain ⟨j, h1, h2⟩ := atI_get h
  obtain ⟨v, h3, h4⟩ := r.get h2
  refine ⟨v, ?_, h4⟩
  unfold L2.atI
  rw [r.length, h1]
  exact h3
def dIx : D → D → Option D
  | .list ds, .int i => atI ds i
  | .tuple ds, .int i => atI ds i
  | .str x, .int i => if small x.length = true then (atI x.cps.toList i).map fun c => .str ⟨#[c]⟩ else none
  | _, _ => none
theorem od_ix : OpD K (rIx K) dIx := by
  intro O H x y d e z hO l1 l2 hz Q q
  cases e with
  | int i =>
    cases d with
    | list ds =>
      obtain ⟨a, xs, rfl, h, r⟩ := l1
      obtain ⟨v, hv, rv⟩ := r.atI hz
      exact .inl ⟨a, xs, i, v, rfl, Rp.sc l2, .inl (.inl h), hv, q v H Ext.refl rv⟩
    | tuple ds =>
      obtain ⟨a, xs, rfl, h, r, _⟩ := Rp.tupI l1
      obtain ⟨v, hv, rv⟩ := r.atI hz
      exact .inr (.inl ⟨a, xs, i, v, rfl, Rp.sc l2, h, hv, q v H Ext.refl rv⟩)
    | str x =>
      simp only [dIx] at hz
      split at hz
      · rename_i hs
        simp only [Option.map_eq_some_iff] at hz
        obtain ⟨c, hc, rfl⟩ := hz
        exact .inr (.inr ⟨x, i, c, Rp.scS l1, Rp.sc l2, small_le hs, hc, q _ H Ext.refl (.str _)⟩)
      · cases hz
    | _ => cases hz
  | _ => cases d <;> cases hz
abbrev EvO := En → Option (Option Int × En)
def IO (K : PySem.W.Frag) (t : TO) (f : EvO) : Prop := ∀ F T env σ H o env', StOk K F T H env σ → f env = some (o, env') → ∀ Q : Option Int → Hp → Prop, (∀ H', StOk K F T H' env' σ → Stp env σ H env' H' → Q o H') → t σ H Q
def oNone : EvO := fun env => some (none, env)
def oSome (fe : EvE) : EvO := fun env => (e1 fe env).bind fun p => match p.1 with | .int i => some (some i, p.2) | _ => none
theorem io_none : IO K tNoPart oNone := fun F T env σ H o env' S e Q q => by cases e; exact q H S Stp.refl
theorem io_some {te : TE} {fe : EvE} (h : IE K te fe) : IO K (tPart te) (oSome fe) := by
  intro F T env σ H o env' S e Q q
  simp only [oSome, Option.bind_eq_some_iff] at e
  obtain ⟨⟨d, e1⟩, h1, h2⟩ := e
  refine i1 h S h1 fun x H' S' st l => ?_
  cases d with
  | int i =>
    simp only [Option.some.injEq, Prod.mk.injEq] at h2
    obtain ⟨rfl, rfl⟩ := h2
    exact ⟨i, Rp.sc l, q H' S' st⟩
  | _ => cases h2
def cutD (xs : List D) (lo hi : Option Int) : List D := (xs.drop (HT.sIx xs.length 0 lo)).take (HT.sIx xs.length xs.length hi - HT.sIx xs.length 0 lo)
theorem RpAll.cut {O : Addr → Prop} {H : Hp} {vs : List V} {ds : List D} {lo hi : Option Int} (r : RpAll K O H vs ds) : RpAll K O H (cutV vs lo hi) (cutD ds lo hi) := by
  unfold cutV cutD
  rw [r.length]
  exact (r.drop _).take _
abbrev R3 := V → Option Int → Option Int → Hp → VK → Prop
def SlD (K : PySem.W.Frag) (r : R3) (g : D → Option Int → Option Int → Option D) : Prop := ∀ (O : Addr → Prop) (H : Hp) x d lo hi z, (∀ a, O a → H a ≠ none) → Lv K O H x d → g d lo hi = some z → ∀ Q : VK, (∀ v H', Ext (fun _ => False) H H' → Rp K O H' v z → Q v H') → r x lo hi H Q
def SlM (K : PySem.W.Frag) (r : R3) (g : D → Option Int → Option Int → Option Mu) : Prop := ∀ (O : Addr → Prop) (H : Hp) x d lo hi z, (∀ a, O a → H a ≠ none) → Lv K O H x d → g d lo hi = some z → ∀ Q : VK,
  (∀ p H', H p = none → Ext (fun _ => False) H H' → MuAt K (fun a => O a ∨ a = p) H' p z → Q (.ref p) H') → r x lo hi H Q
def e3 (fe : EvE) (fl fh : EvO) : En → Option (D × Option Int × Option Int × En) := fun env => (fe env).bind fun p => (fl p.2).bind fun l => (fh l.2).bind fun h => (rs h.2 p.1).map fun d => (d, l.1, h.1, h.2)
theorem i3 {te : TE} {fe : EvE} {tl th : TO} {fl fh : EvO} (he : IE K te fe) (hl : IO K tl fl) (hh : IO K th fh) {F : Frm} {T : Addr → Prop} {env env' : En} {σ : L2.St} {H : Hp} {d : D} {lo hi : Option Int} (S : StOk K F T H env σ) (h : e3 fe fl fh env = some (d, lo, hi, env'))
    {R : V → Option Int → Option Int → Hp → Prop} (k : ∀ x H', StOk K F T H' env' σ → Stp env σ H env' H' → Lv K (Ow F T env' σ) H' x d → R x lo hi H') : te σ H fun x H1 => tl σ H1 fun l H2 => th σ H2 fun u H3 => R x l u H3 := by
  simp only [e3, Option.bind_eq_some_iff, Option.map_eq_some_iff] at h
  obtain ⟨⟨r1, e1⟩, h1, ⟨l, e2⟩, h2, ⟨u, e3⟩, h3, d', h4, h5⟩ := h
  cases h5
  refine he F T env σ H r1 e1 S h1 _ fun x H1 S1 s1 v1 => ?_
  refine hl F T e1 σ H1 _ e2 S1 h2 _ fun H2 S2 s2 => ?_
  refine hh F T e2 σ H2 _ _ S2 h3 _ fun H3 S3 s3 => ?_
  exact k x H3 S3 ((s1.trans s2).trans s3) (rs_ok S3 ((v1.stp s2).stp s3) h4)
theorem im_of {F : Frm} {T : Addr → Prop} {env env' : En} {σ : L2.St} {H H1 H2 : Hp} {p : Addr} {m : Mu} (S' : StOk K F T H1 env' σ) (st : Stp env σ H env' H1) (n : H1 p = none) (x : Ext (fun _ => False) H1 H2) (r : MuAt K (fun a => Ow F T env' σ a ∨ a = p) H2 p m) :
    H p = none ∧ StOk K F (fun a => T a ∨ a = p) H2 env' σ ∧ Stp env σ H env' H2 ∧ MuAt K (Ow F (fun a => T a ∨ a = p) env' σ) H2 p m := by
  refine ⟨?_, S'.lay1 n x r.alive, st.trans (Stp.lay x), r.tr (fun a _ _ n q => n (by
    rcases q with q | (q | q) | q
    · exact .inl (.inl q)
    · exact .inl (.inr (.inl q))
    · exact .inr q
    · exact .inl (.inr (.inr q)))) (fun _ _ _ e => e) fun _ e => e⟩
  cases h : H p with
  | none => rfl
  | some o => exact absurd n (st.ext.live p (by rw [h]; simp))
def dSlL : D → Option Int → Option Int → Option Mu
  | .list ds, lo, hi => some (.l (cutD ds lo hi))
  | _, _, _ => none
theorem sm_list : SlM K (rSlL K) dSlL := by
  intro O H x d lo hi z hO l hz Q q
  cases d with
  | list ds =>
    cases hz
    obtain ⟨a, xs, rfl, h, r⟩ := l
    exact ⟨a, xs, rfl, .inl (.inl h), fun p np => q p _ np (ext_new np) (new_lst np r.cut)⟩
  | _ => cases hz
def rSlF (K : PySem.W.Frag) : R3 := fun x lo hi H Q => ∃ t xs, x = .ref t ∧ SqT K H t xs ∧
  (HT.sIx xs.length 0 lo = 0 ∧ HT.sIx xs.length xs.length hi = xs.length → Q (.ref t) H) ∧ (¬ (HT.sIx xs.length 0 lo = 0 ∧ HT.sIx xs.length xs.length hi = xs.length) → ∀ (p : Addr) (o : Obj), H p = none → o.dict = none → Q (.ref p) (upd H p (.frz o (.tup (cutV xs lo hi)))))
theorem sl_tupF {X : Cx} : SlR X (rSlF X.K) := by
  intro pins s σ H x v vl vu lo hi sl Q I rx hs pl pu h
  obtain ⟨t, xs, ex, hx, k1, k2⟩ := h
  by_cases hw : HT.sIx xs.length 0 lo = 0 ∧ HT.sIx xs.length xs.length hi = xs.length
  · exact sl_tupA pins s σ H x v vl vu lo hi sl Q I rx hs pl pu ⟨t, xs, ex, hx, k1, fun n => absurd hw n⟩
  subst ex
  cases rx
  obtain ⟨its, r, ht, hz⟩ := id (I.tuple hx)
  have hn : its.toArray.size = xs.length := by rw [List.size_toArray, ← r.length]
  refine ⟨"tuple", _, PyProof.Rows.slot_tuple_getitem.lookup, ht.typeIs, HT.getItem_tuple_cut ht hs pl pu (by rw [hn]; exact hw) ?_ (by rw [hn]; exact hz)⟩
  rw [hn]
  have J := laid_fz I (Nat.le_trans (cutV_length xs lo hi) hz) ((r.drop (HT.sIx xs.length 0 lo)).take (HT.sIx xs.length xs.length hi - HT.sIx xs.length 0 lo)) s.toks
  exact ⟨.ref s.heap.objs.size, _, J, rfl, k2 hw _ _ (I.hok.fresh (Nat.le_refl _)) rfl⟩
def rSlB (K : PySem.W.Frag) : R3 := fun x lo hi H Q => rSlF K x lo hi H Q ∨ rSlS x lo hi H Q
theorem sl_both {X : Cx} : SlR X (rSlB X.K) := SlR.or sl_tupF sl_str
def dSl : D → Option Int → Option Int → Option D
  | .tuple ds, lo, hi => some (.tuple (cutD ds lo hi))
  | .str x, lo, hi => if small x.length = true then some (.str (cutS x lo hi)) else none
  | _, _, _ => none
theorem sd_both : SlD K (rSlB K) dSl := by
  intro O H x d lo hi z hO l hz Q q
  cases d with
  | tuple ds =>
    cases hz
    obtain ⟨a, xs, rfl, h, r, c⟩ := Rp.tupI l
    refine .inl ⟨a, xs, rfl, h, fun hw => ?_, fun _ p ob np hd => q _ _ (ext_new np) (new_tup hO np hd r.cut)⟩
    have e : cutD ds lo hi = ds := by
      unfold cutD
      rw [← r.length, hw.1, hw.2]
      simp [r.length]
    rw [e] at q
    exact q _ H Ext.refl (.tup c r)
  | str x =>
    simp only [dSl] at hz
    split at hz
    · rename_i hs
      cases hz
      exact .inr ⟨x, Rp.scS l, small_le hs, q _ H Ext.refl (.str _)⟩
    · cases hz
  | _ => cases hz
theorem LvAll.one {O : Addr → Prop} {H : Hp} {vs : List V} {d : D} (h : LvAll K O H vs [d]) : ∃ v, vs = [v] ∧ Lv K O H v d := by
  cases vs with
  | nil => exact h.elim
  | cons v vs =>
    cases vs with
    | nil => exact ⟨v, rfl, h.1⟩
    | cons _ _ => exact h.2.elim
theorem LvAll.two {O : Addr → Prop} {H : Hp} {vs : List V} {d e : D} (h : LvAll K O H vs [d, e]) : ∃ v w, vs = [v, w] ∧ Lv K O H v d ∧ Lv K O H w e := by
  cases vs with
  | nil => exact h.elim
  | cons v vs => obtain ⟨w, rfl, h2⟩ := LvAll.one h.2; exact ⟨v, w, rfl, h.1, h2⟩
def rLenA (K : PySem.W.Frag) : List V → Hp → VK → Prop := fun xs H Q => (fun xs H Q => ∃ p ys, xs = [.ref p] ∧ (SqL K H p ys ∨ SqT K H p ys) ∧ Q (.int ys.length) H) xs H Q ∨ ((fun xs H Q => ∃ z, xs = [.str z] ∧ z.length ≤ sizeLine ∧ Q (.int z.length) H) xs H Q ∨ (fun xs H Q => ∃ a kvs, xs = [V.ref a] ∧ H a = some (.dK kvs) ∧ Q (.int kvs.length) H) xs H Q)
theorem call_lenA {X : Cx} : CallR X (.builtin "len") (rLenA X.K) := CallR.or call_len_seq (CallR.or call_len_str call_lenD)
def cLen : List D → Option D
  | [.list ds] => some (.int ds.length)
  | [.tuple ds] => some (.int ds.length)
  | [.str x] => if small x.length = true then some (.int x.length) else none
  | _ => none
theorem cd_len : CaD K (rLenA K) cLen := by
  intro O H xs ds z hO l hz Q q
  match ds, hz, l with
  | [.list ds], hz, l =>
    cases hz
    obtain ⟨v, rfl, a, xs, rfl, h, r⟩ := LvAll.one l
    exact .inl ⟨a, xs, rfl, .inl (.inl (.inl h)), by rw [r.length]; exact q _ H Ext.refl (.int _)⟩
  | [.tuple ds], hz, l =>
    cases hz
    obtain ⟨v, rfl, h⟩ := LvAll.one l
    obtain ⟨a, xs, rfl, h, r, c⟩ := Rp.tupI h
    exact .inl ⟨a, xs, rfl, .inr h, by rw [r.length]; exact q _ H Ext.refl (.int _)⟩
  | [.str x], hz, l =>
    simp only [cLen] at hz
    split at hz
    · rename_i hs
      cases hz
      obtain ⟨v, rfl, h⟩ := LvAll.one l
      cases Rp.scS h
      exact .inr (.inl ⟨x, rfl, small_le hs, q _ H Ext.refl (.int _)⟩)
    · cases hz
def cAbs : List D → Option D
  | [.int i] => some (.int (if i < 0 then -i else i))
  | _ => none
theorem cd_abs : CaD K (fun xs H Q => ∃ i, xs = [.int i] ∧ Q (.int (if i < 0 then -i else i)) H) cAbs := by
  intro O H xs ds z hO l hz Q q
  match ds, hz, l with
  | [.int i], hz, l =>
    cases hz
    obtain ⟨v, rfl, h⟩ := LvAll.one l
    cases Rp.sc h
    exact ⟨i, rfl, q _ H Ext.refl (.int _)⟩
def rIntA : List V → Hp → VK → Prop := fun xs H Q => (fun xs H Q => (∃ i, xs = [.int i] ∧ Q (.int i) H) ∨ ∃ k, xs = [.bl k] ∧ Q (.int (if k then 1 else 0)) H) xs H Q ∨ (fun xs H Q => ∃ a n, xs = [.str a] ∧ PySem.intText? a = some n ∧ a.length ≤ 640 ∧ Q (.int n) H) xs H Q
theorem call_intA {X : Cx} : CallR X (.type "int") rIntA := CallR.or call_int1 call_int_str
def cInt : List D → Option D
  | [.int i] => some (.int i)
  | [.bool k] => some (.int (if k then 1 else 0))
  | [.str x] => if x.length ≤ 640 then (PySem.intText? x).map .int else none
  | _ => none
theorem cd_int : CaD K rIntA cInt := by
  intro O H xs ds z hO l hz Q q
  match ds, hz, l with
  | [.int i], hz, l =>
    cases hz
    obtain ⟨v, rfl, h⟩ := LvAll.one l
    cases Rp.sc h
    exact .inl (.inl ⟨i, rfl, q _ H Ext.refl (.int _)⟩)
  | [.bool k], hz, l =>
    cases hz
    obtain ⟨v, rfl, h⟩ := LvAll.one l
    cases Rp.scB h
    exact .inl (.inr ⟨k, rfl, q _ H Ext.refl (.int _)⟩)
  | [.str x], hz, l =>
    simp only [cInt] at hz
    split at hz
    · rename_i hs
      simp only [Option.map_eq_some_iff] at hz
      obtain ⟨n, hn, rfl⟩ := hz
      obtain ⟨v, rfl, h⟩ := LvAll.one l
      cases Rp.scS h
      exact .inr ⟨x, n, rfl, hn, hs, q _ H Ext.refl (.int _)⟩
    · cases hz
def cList : List D → Option Mu
  | [.list ds] => some (.l ds)
  | [.tuple ds] => some (.l ds)
  | _ => none
theorem cm_list : CaM K (fun xs H Q => ∃ p ys, xs = [.ref p] ∧ (SqL K H p ys ∨ SqT K H p ys) ∧ ∀ l, H l = none → Q (.ref l) (upd H l (.lst ys))) cList := by
  intro O H xs ds z hO l hz Q q
  match ds, hz, l with
  | [.list ds], hz, l =>
    cases hz
    obtain ⟨v, rfl, a, xs, rfl, h, r⟩ := LvAll.one l
    exact ⟨a, xs, rfl, .inl (.inl (.inl h)), fun p np => q p _ np (ext_new np) (new_lst np r)⟩
  | [.tuple ds], hz, l =>
    cases hz
    obtain ⟨v, rfl, h⟩ := LvAll.one l
    obtain ⟨a, xs, rfl, h, r, c⟩ := Rp.tupI h
    exact ⟨a, xs, rfl, .inr h, fun p np => q p _ np (ext_new np) (new_lst np r)⟩
def cTuple : List D → Option D
  | [.list ds] => some (.tuple ds)
  | [.tuple ds] => some (.tuple ds)
  | _ => none
def rTupF (K : PySem.W.Frag) : List V → Hp → VK → Prop := fun xs H Q => ∃ p ys, xs = [.ref p] ∧ ((SqL K H p ys ∧ ∀ (l : Addr) (o : Obj), H l = none → o.dict = none → Q (.ref l) (upd H l (.frz o (.tup ys)))) ∨ (SqT K H p ys ∧ Q (.ref p) H))
theorem call_tupF {X : Cx} : CallR X (.type "tuple") (rTupF X.K) := by
  intro pins s σ H xs us Q I r h
  obtain ⟨p, ys, ex, h⟩ := h
  rcases h with ⟨hq, k⟩ | h
  · subst ex
    obtain ⟨u, eu, rx⟩ := vals1 r
    subst eu
    cases rx
    obtain ⟨its, rr, pl, hz⟩ := I.list hq
    have hn := rr.length
    refine call_tuple_list pl.isList (fun g kp => ?_) (by simp only [List.size_toArray]; omega)
    have I1 : Inv X pins σ H { s with heap := g } := I.kept (t' := s.toks) kp
    exact ⟨.ref g.objs.size, _, laid_fz I1 hz rr s.toks, rfl, k _ _ (I1.hok.fresh (Nat.le_refl _)) rfl⟩
  · exact call_tuple_of pins s σ H xs us Q I r ⟨p, ys, ex, .inr h⟩
theorem cd_tuple : CaD K (rTupF K) cTuple := by
  intro O H xs ds z hO l hz Q q
  match ds, hz, l with
  | [.list ds], hz, l =>
    cases hz
    obtain ⟨v, rfl, a, xs, rfl, h, r⟩ := LvAll.one l
    exact ⟨a, xs, rfl, .inl ⟨.inl (.inl h), fun p ob np hd => q _ _ (ext_new np) (new_tup hO np hd r)⟩⟩
  | [.tuple ds], hz, l =>
    cases hz
    obtain ⟨v, rfl, h⟩ := LvAll.one l
    obtain ⟨a, xs, rfl, h, r, c⟩ := Rp.tupI h
    exact ⟨a, xs, rfl, .inr ⟨h, q _ H Ext.refl (.tup c r)⟩⟩
def okShow (d : D) : Bool := d.canLay0 && decide (d.depth ≤ 60) && d.showable && d.leavesShort 200 && decide (d.bulk ≤ 60000)
theorem exc_no {nm f : Str} {d : D} (h : isExc (excD nm f d) = false) : False := by
  unfold excD isExc at h; cases h
def tyOk (T : String) : D → Bool
  | .str _ => T == "str"
  | .int _ => T == "int"
  | .list _ => T == "list"
  | _ => false
abbrev RM := V → List V → Hp → VK → Prop
def eB (Ty : String) (fe : EvE) (fl : EvA) : En → Option (D × List D × En) := fun env => (fe env).bind fun p => (rs p.2 p.1).bind fun d0 => if tyOk Ty d0 = true then (fl p.2).bind fun q => (rs q.2 p.1).bind fun d => (rsA q.2 q.1).map fun ds => (d, ds, q.2) else none
theorem tyOk_ok {O : Addr → Prop} {H : Hp} {x : V} {d : D} {Ty : String} (h : tyOk Ty d = true) (l : Lv K O H x d) : tyV K Ty x H := by
  cases d with
  | str y => cases Rp.scS l; exact (show Ty = "str" by simpa [tyOk] using h)
  | int y => cases Rp.sc l; exact (show Ty = "int" by simpa [tyOk] using h)
  | list ds => obtain ⟨a, xs, rfl, e, _⟩ := l; exact .inl ⟨by simpa [tyOk] using h, xs, .inl (.inl e)⟩
  | _ => cases h
theorem ib {Ty : String} {te : TE} {fe : EvE} {tl : TA} {fl : EvA} {r : RM} (he : IE K te fe) (hl : IA K tl fl) {F : Frm} {T : Addr → Prop} {env env' : En} {σ : L2.St} {H : Hp} {d : D} {ds : List D} (S : StOk K F T H env σ) (h : eB Ty fe fl env = some (d, ds, env')) {Q : VK}
    (k : ∀ x vs H', StOk K F T H' env' σ → Stp env σ H env' H' → Lv K (Ow F T env' σ) H' x d → LvAll K (Ow F T env' σ) H' vs ds → r x vs H' Q) : tBM K Ty r te tl σ H Q := by
  simp only [eB, Option.bind_eq_some_iff] at h
  obtain ⟨⟨r1, e1⟩, h1, d0, h2, h3⟩ := h
  split at h3
  · rename_i ht
    simp only [Option.bind_eq_some_iff, Option.map_eq_some_iff] at h3
    obtain ⟨⟨l, e2⟩, h4, d', h5, ds', h6, h7⟩ := h3
    cases h7
    refine he F T env σ H r1 e1 S h1 _ fun x H1 S1 s1 v1 => ?_
    refine ⟨tyOk_ok ht (rs_ok S1 v1 h2), hl F T e1 σ H1 l _ S1 h4 _ fun vs H2 S2 s2 v2 => ?_⟩
    exact k x vs H2 S2 (s1.trans s2) (rs_ok S2 (v1.stp s2) h5) (rsA_ok S2 v2 h6)
  · cases h3
def strsOf : List D → Option (List Str)
  | [] => some []
  | .str b :: l => (strsOf l).map fun bs => b :: bs
  | _ => none
theorem strsOf_ok {O : Addr → Prop} {H : Hp} : ∀ {vs : List V} {ds : List D} {bs : List Str}, RpAll K O H vs ds → strsOf ds = some bs → vs = bs.map V.str
  | _, _, bs, .nil, h => by simp [strsOf] at h; subst h; rfl
  | _, d :: ds, bs, .cons r t, h => by
    cases d with
    | str b =>
      simp only [strsOf, Option.map_eq_some_iff] at h
      obtain ⟨l, h, rfl⟩ := h
      cases Rp.scS r
      rw [List.map_cons, ← strsOf_ok t h]
    | _ => simp [strsOf] at h
def gApp : Mu → List D → Option (Mu × D)
  | .l ds, [d] => if small ds.length = true then some (.l (ds ++ [d]), .none) else none
  | _, _ => none
theorem md_app : MtD K "list" rAppend gApp := by
  intro O H a m vs ds m' z ha mu r hz Q q
  match m, ds, hz, r with
  | .l es, [d], hz, r =>
    simp only [gApp] at hz
    split at hz
    · rename_i hs
      cases hz
      obtain ⟨xs, e, rr⟩ := mu
      cases r with
      | cons r1 rt =>
        cases rt
        refine ⟨a, xs, _, rfl, rfl, e, by rw [rr.length]; exact small_lt hs, q _ _ ⟨_, upd_same, ?_⟩ .non⟩
        exact (rr.append (.one r1)).tr (fun _ _ _ n => n) fun b u n q => by rw [upd_ne (fun z => n (by subst z; exact ha))]; exact q
    · cases hz
def gSetL : Mu → D → D → Option Mu
  | .l ds, .int i, e => (ixN (List.length ds) i).map fun j => Mu.l (List.set ds j e)
  | _, _, _ => none
theorem sd_setL : StD K rSetL gSetL := by
  intro O H a m i d j e m' ha mu r1 r2 hz Q q
  match m, d, hz, r1 with
  | .l ds, .int k, hz, r1 =>
    simp only [gSetL, Option.map_eq_some_iff] at hz
    obtain ⟨n, hn, rfl⟩ := hz
    obtain ⟨xs, h, rr⟩ := mu
    cases Rp.sc r1
    refine ⟨a, xs, k, n, rfl, rfl, h, by rw [rr.length]; exact hn, q _ ⟨_, upd_same, ?_⟩⟩
    exact (rr.set r2 n).tr (fun _ _ _ n => n) fun b u n q => by rw [upd_ne (fun z => n (by subst z; exact ha))]; exact q
theorem tup_tr {O O' : Addr → Prop} {ds : List D} {H H2 : Hp} {a : Addr} {xs : List V} (f : ∀ a o, H a = some o → ¬ O a → ¬ O' a) (k : ∀ a o, ¬ O a → H a = some o → H2 a = some o) (h : TpA K O H a xs ds) : SqT K H2 a xs := (or_tr f k h.1).imp (·.1) id
def rangeD (lo : Int) (n : Nat) : List D := (List.range n).map fun (i : Nat) => PyData.int (lo + (i : Int))
theorem rangeD_get {lo : Int} {n i : Nat} {d : D} (h : (rangeD lo n)[i]? = some d) : i < n ∧ d = .int (lo + i) := by
  unfold rangeD at h
  rw [List.getElem?_map] at h
  simp only [Option.map_eq_some_iff] at h
  obtain ⟨j, h1, rfl⟩ := h
  rw [List.getElem?_eq_some_iff] at h1
  obtain ⟨h2, h3⟩ := h1
  simp at h2 h3
  subst h3
  exact ⟨h2, rfl⟩
theorem rangeD_len {lo : Int} {n : Nat} : (rangeD lo n).length = n := by simp [rangeD]
theorem jok_range {lo : Int} {n : Nat} {O : Addr → Prop} {H : Hp} : JOk K (Itr lo n) (rangeD lo n) O H := fun O' H2 f kk hO => by
  refine ⟨fun i d hi => ?_, fun i hi => by rw [rangeD_len] at hi; exact hi⟩
  obtain ⟨h1, rfl⟩ := rangeD_get hi
  refine ⟨h1, fun x H' y => ?_⟩
  obtain ⟨rfl, rfl⟩ := y
  exact ⟨Ext.refl, .int _⟩
def okR (j : Int) : Bool := decide (-(2 ^ 62) ≤ j ∧ j < 2 ^ 62)
def wRng1 (fl : EvA) : EvW := fun env => (eA fl env).bind fun p => match p.1 with | [.int j] => if okR j = true then some (rangeD 0 j.toNat, p.2) else none | _ => none
theorem iw_rng1 {tl : TA} {fl : EvA} (hl : IA K tl fl) : IW K (iRng1 tl) (wRng1 fl) := by
  intro F T env σ H items env' S e R k
  simp only [wRng1, eA, Option.bind_eq_some_iff, Option.map_eq_some_iff] at e
  obtain ⟨⟨ds, e1⟩, ⟨⟨l, e2⟩, h1, ds', h2, h3⟩, h4⟩ := e
  cases h3
  refine hl F T env σ H l _ S h1 _ fun vs H1 S1 s1 v1 => ?_
  have la := rsA_ok S1 v1 h2
  match ds, h4, la with
  | [.int j], h4, la =>
    simp only at h4
    split at h4
    · rename_i hs
      cases h4
      obtain ⟨v, rfl, h⟩ := LvAll.one la
      cases Rp.sc h
      have hb := of_decide_eq_true hs
      exact ⟨j, rfl, hb.1, hb.2, k _ H1 S1 s1 jok_range⟩
    · cases h4
def signs (x : Str) : List D := x.cps.toList.map fun c => .str ⟨#[c]⟩
def enumD (ds : List D) : List D := ds.zipIdx.map fun p => .tuple [.int (p.2 : Int), p.1]
end
end GD

namespace GD
open PySem PySem.Spec PyProof.Rows L2
abbrev EvX := En → Option (Sum R Mu × En)
def XEnd (K : PySem.W.Frag) (F : Frm) (T : Addr → Prop) (env : En) (σ : L2.St) (H : Hp) (env' : En) (Q : VK) : Sum R Mu → Prop
  | .inl r => ∀ v H', StOk K F T H' env' σ → Stp env σ H env' H' → RvOk K F T H' env' σ v r → Q v H'
  | .inr m => ∀ p H', H p = none → StOk K F (fun a => T a ∨ a = p) H' env' σ → Stp env σ H env' H' → MuAt K (Ow F (fun a => T a ∨ a = p) env' σ) H' p m → Q (.ref p) H'
def IX (K : PySem.W.Frag) (t : TE) (f : EvX) : Prop := ∀ F T env σ H r env', StOk K F T H env σ → f env = some (r, env') → ∀ Q : VK, XEnd K F T env σ H env' Q r → t σ H Q
section
variable {K : PySem.W.Frag} {te ta tb : TE} {fe : EvE} {fm : EvM} {fx fy : EvX} {tt : TT} {ft : EvT}
def xE (fe : EvE) : EvX := fun env => (fe env).map fun p => (.inl p.1, p.2)
def xM (fm : EvM) : EvX := fun env => (fm env).map fun p => (.inr p.1, p.2)
def eX (fx : EvX) : EvE := fun env => (fx env).map fun p => (match p.1 with | .inl r => r | .inr m => .val m.toD, p.2)
theorem ix_e (h : IE K te fe) : IX K te (xE fe) := by
  intro F T env σ H r env' S e Q q
  simp only [xE, Option.map_eq_some_iff] at e
  obtain ⟨⟨r0, e1⟩, h1, h2⟩ := e
  cases h2
  exact h F T env σ H r0 _ S h1 Q q
theorem ix_m (h : IM K te fm) : IX K te (xM fm) := by
  intro F T env σ H r env' S e Q q
  simp only [xM, Option.map_eq_some_iff] at e
  obtain ⟨⟨r0, e1⟩, h1, h2⟩ := e
  cases h2
  exact h F T env σ H r0 _ S h1 Q q
theorem fresh_rp {F : Frm} {T : Addr → Prop} {env env' : En} {σ : L2.St} {H H' : Hp} {p : Addr} {m : Mu} (S : StOk K F T H env σ) (np : H p = none) (st : Stp env σ H env' H') (mu : MuAt K (Ow F (fun a => T a ∨ a = p) env' σ) H' p m) : Rp K (Ow F T env' σ) H' (.ref p) m.toD := by
  refine (mu.tr (fun b _ _ n q => n (q.imp id (.imp .inl id))) (fun _ _ _ e => e) (fun _ e => e)).rp ?_
  rintro (h | h | h)
  · exact S.fresh np (.inl h)
  · exact S.fresh np (.inr (.inl h))
  · exact S.fresh np (.inr (.inr (st.wr p h)))
theorem ie_x (h : IX K te fx) : IE K te (eX fx) := by
  intro F T env σ H r env' S e Q q
  simp only [eX, Option.map_eq_some_iff] at e
  obtain ⟨⟨r0, e1⟩, h1, h2⟩ := e
  cases h2
  refine h F T env σ H r0 _ S h1 Q ?_
  cases r0 with
  | inl r => exact q
  | inr m => exact fun p H' np S' st mu => q _ H' (S'.anti fun a h => .inl h) st (fresh_rp S np st mu)
def xIf (ft : EvT) (fa fb : EvX) : EvX := fun env => (ft env).bind fun p => if p.1 = true then fa p.2 else fb p.2
theorem ix_if (h : IT K tt ft) (ha : IX K ta fx) (hb : IX K tb fy) : IX K (tIf tt ta tb) (xIf ft fx fy) := by
  intro F T env σ H r env' S e Q q
  simp only [xIf, Option.bind_eq_some_iff] at e
  obtain ⟨⟨c, e1⟩, h1, h2⟩ := e
  refine h F T env σ H c e1 S h1 _ fun H1 S1 s1 => ?_
  have q' : XEnd K F T e1 σ H1 env' Q r := by
    cases r with
    | inl r => exact fun v H' S' st rv => q v H' S' (s1.trans st) rv
    | inr m => exact fun p H' np S' st mu => q p H' (by
        cases h : H p with
        | none => rfl
        | some o => exact absurd np (s1.ext.live p (by rw [h]; simp))) S' (s1.trans st) mu
  cases c with
  | true =>
    simp only [if_true] at h2 ⊢
    exact ha F T e1 σ H1 r env' S1 h2 Q q'
  | false =>
    simp only [Bool.false_eq_true, if_false] at h2 ⊢
    exact hb F T e1 σ H1 r env' S1 h2 Q q'
def OpX (K : PySem.W.Frag) (r : R2) (g : D → D → Option (Sum D Mu)) : Prop := ∀ (O : Addr → Prop) (H : Hp) x y d e z, (∀ a, O a → H a ≠ none) → Lv K O H x d → Lv K O H y e → g d e = some z → ∀ Q : VK,
  (match z with
    | .inl z => ∀ v H', Ext (fun _ => False) H H' → Rp K O H' v z → Q v H'
    | .inr m => ∀ p H', H p = none → Ext (fun _ => False) H H' → MuAt K (fun a => O a ∨ a = p) H' p m → Q (.ref p) H') → r x y H Q
def xOp (g : D → D → Option (Sum D Mu)) (fa fb : EvE) : EvX := fun env => (e2 fa fb env).bind fun p => (g p.1 p.2.1).map fun z => (match z with | .inl d => .inl (.val d) | .inr m => .inr m, p.2.2)
theorem ix_op {r : R2} {g : D → D → Option (Sum D Mu)} {fa fb : EvE} (hr : OpX K r g) (ha : IE K ta fa) (hb : IE K tb fb) : IX K (tOp r ta tb) (xOp g fa fb) := by
  intro F T env σ H r env' S e Q q
  simp only [xOp, Option.bind_eq_some_iff, Option.map_eq_some_iff] at e
  obtain ⟨⟨d, e, e1⟩, h1, z, h2, h3⟩ := e
  cases h3
  refine i2 ha hb S h1 fun x y H' S' st l1 l2 => hr (Ow F T e1 σ) H' x y d e z (fun a h => S'.olive h) l1 l2 h2 Q ?_
  cases z with
  | inl z => exact fun v H2 x r => q v H2 (S'.lay x) (st.trans (Stp.lay x)) r
  | inr m => exact fun p H2 n x r => let ⟨a, b, c, d⟩ := im_of S' st n x r; q p H2 a b c d
theorem ox_or {r r' : R2} {g : D → D → Option D} {g' : D → D → Option Mu} (h : OpD K r g) (h' : OpM K r' g') : OpX K (fun x y H Q => r x y H Q ∨ r' x y H Q) (fun d e => match g d e with | some z => some (.inl z) | none => (g' d e).map .inr) := by
  intro O H x y d e z hO l1 l2 hz Q q
  cases hg : g d e with
  | some z0 =>
    simp only [hg] at hz
    cases hz
    exact .inl (h O H x y d e z0 hO l1 l2 hg Q q)
  | none =>
    simp only [hg, Option.map_eq_some_iff] at hz
    obtain ⟨m, hm, rfl⟩ := hz
    exact .inr (h' O H x y d e m hO l1 l2 hm Q q)
def rAddX (K : PySem.W.Frag) : R2 := fun x y H Q => rAddA K x y H Q ∨ rCat x y H Q
theorem op_addX {X : Cx} : OpR X (binaryOp .Add) (rAddX X.K) := OpR.or op_addA op_cat
def dAddX (d e : D) : Option (Sum D Mu) := match dAdd d e with | some z => some (.inl z) | none => (dAddM d e).map .inr
theorem ox_add : OpX K (rAddX K) dAddX := ox_or od_add om_add
def rSlX (K : PySem.W.Frag) : R3 := fun x lo hi H Q => rSlB K x lo hi H Q ∨ rSlL K x lo hi H Q
theorem sl_any {X : Cx} : SlR X (rSlX X.K) := SlR.or sl_both sl_list
def xSl (fe : EvE) (fl fh : EvO) : EvX := fun env => (e3 fe fl fh env).bind fun p => match dSl p.1 p.2.1 p.2.2.1 with
  | some z => some (.inl (.val z), p.2.2.2)
  | none => (dSlL p.1 p.2.1 p.2.2.1).map fun m => (.inr m, p.2.2.2)
theorem ix_sl {tl th : TO} {fl fh : EvO} (he : IE K te fe) (hl : IO K tl fl) (hh : IO K th fh) : IX K (tSl (rSlX K) te tl th) (xSl fe fl fh) := by
  intro F T env σ H r env' S e Q q
  simp only [xSl, Option.bind_eq_some_iff] at e
  obtain ⟨⟨d, lo, hi, e1⟩, h1, h2⟩ := e
  cases hg : dSl d lo hi with
  | some z =>
    simp only [hg] at h2
    cases h2
    exact i3 he hl hh S h1 fun x H' S' st l => .inl (sd_both _ H' x d lo hi z (fun a h => S'.olive h) l hg Q fun v H2 x2 rz => q v H2 (S'.lay x2) (st.trans (Stp.lay x2)) rz)
  | none =>
    simp only [hg, Option.map_eq_some_iff] at h2
    obtain ⟨m, hm, h3⟩ := h2
    cases h3
    exact i3 he hl hh S h1 fun x H' S' st l => .inr (sm_list _ H' x d lo hi m (fun a h => S'.olive h) l hm Q fun p H2 n x2 rz => let ⟨a, b, c, d⟩ := im_of S' st n x2 rz; q p H2 a b c d)
def xCall (M : FnS) (fl : EvA) : EvX := fun env => (fl env).bind fun q => (slArgs q.2 q.1).bind fun ss => if (ownSlots q.2 q.1).Nodup then (M ss).bind fun z => if ouOk ss z.2 = true then
    (match z.1 with | .val d => some (.inl (.val d), updO q.2 q.1 z.2) | .new m => some (.inr m, updO q.2 q.1 z.2)) else none else none
theorem xcall_run {M : FnS} {k : Nat} {E : XK} {F : Frm} {T : Addr → Prop} {env0 env env' : En} {σ : L2.St} {H0 H : Hp} {l : List R} {vs : List V} {r : Sum R Mu} {Q : VK} (S : StOk K F T H env σ) (s0 : Stp env0 σ H0 env H) (rv : RvAll K F T H env σ vs l) (hk : l.length = k)
    (e : ((slArgs env l).bind fun ss => if (ownSlots env l).Nodup then (M ss).bind fun z => if ouOk ss z.2 = true then
    (match z.1 with | .val d => some (Sum.inl (R.val d), updO env l z.2) | .new m => some (Sum.inr m, updO env l z.2)) else none else none) = some (r, env'))
    (q : XEnd K F T env0 σ H0 env' Q r) : spD K k M vs H Q E := by
  simp only [Option.bind_eq_some_iff] at e
  obtain ⟨ss, h2, h3⟩ := e
  split at h3
  · rename_i nd
    simp only [Option.bind_eq_some_iff] at h3
    obtain ⟨⟨r0, outs⟩, h4, h5⟩ := h3
    split at h5
    · rename_i hou
      have hou' := ouOk_get hou
      refine call_run S rv h2 nd h4 hk hou' fun v H' x c => ?_
      cases r0 with
      | val d =>
        obtain ⟨rd, oo⟩ := c
        simp only [Option.some.injEq, Prod.mk.injEq] at h5
        obtain ⟨rfl, rfl⟩ := h5
        obtain ⟨S2, s2⟩ := call_ok S rv h2 hou' x (T' := T) (fun _ h => h) (fun _ h => .inl h) (fun a h => x.live a (S.tdm a h)) (fun i m hm => let ⟨a, h, mu⟩ := oo i m hm; ⟨a, h, mu.tr (fun b _ _ n z => n (z.elim id fun z => .inr (.inl z))) (fun _ _ _ e => e) fun _ e => e⟩)
        exact q v H' S2 (s0.trans s2) (rd.anti fun b h => h.imp id (.imp id (s2.wr b)))
      | new m0 =>
        obtain ⟨p, rfl, np, mu, oo⟩ := c
        simp only [Option.some.injEq, Prod.mk.injEq] at h5
        obtain ⟨rfl, rfl⟩ := h5
        have np0 : H0 p = none := by
          cases h : H0 p with
          | none => rfl
          | some o => exact absurd np (s0.ext.live p (by rw [h]; simp))
        obtain ⟨S2, s2⟩ := call_ok S rv h2 hou' x (T' := fun a => T a ∨ a = p) (fun _ h => .inl h) (fun a h => h.imp id fun h => by subst h; exact np) (fun a h => h.elim (fun h => x.live a (S.tdm a h)) fun h => by subst h; exact mu.alive)
          (fun i m hm => let ⟨a, h, mu⟩ := oo i m hm; ⟨a, h, mu.tr (fun b _ _ n z => n (by
            rcases z with z | z | z
            · exact .inl z
            · exact .inl (.inr (.inl z))
            · exact .inr z)) (fun _ _ _ e => e) fun _ e => e⟩)
        exact q p H' np0 S2 (s0.trans s2) (mu.tr (fun b _ _ n z => n (by
            rcases z with z | (z | z) | z
            · exact .inl (.inl z)
            · exact .inl (.inr (.inl z))
            · exact .inr z
            · exact .inl (.inr (.inr (s2.wr b z))))) (fun _ _ _ e => e) fun _ e => e)
    · cases h5
  · cases h3
def lenOk (k : Nat) (fl : EvA) : Prop := ∀ env l env', fl env = some (l, env') → l.length = k
theorem len_nil : lenOk 0 aNil := fun env l env' h => by cases h; rfl
theorem len_cons {k : Nat} {fl : EvA} (h : lenOk k fl) : lenOk (k + 1) (aCons fe fl) := fun env l env' e => by
  simp only [aCons, Option.bind_eq_some_iff, Option.map_eq_some_iff] at e
  obtain ⟨⟨r1, e1⟩, h1, ⟨l2, e2⟩, h2, h3⟩ := e
  cases h3
  exact congrArg (· + 1) (h _ _ _ h2)
theorem ix_call {M : FnS} {k : Nat} {E : XK} {t : TA} {fl : EvA} (hl : IA K t fl) (hk : lenOk k fl) : IX K (tCall (spD K k M) [] E t) (xCall M fl) := by
  intro F T env σ H r env' S e Q q
  simp only [xCall, Option.bind_eq_some_iff] at e
  obtain ⟨⟨l, e1⟩, h1, h2⟩ := e
  refine hl F T env σ H l e1 S h1 _ fun vs H1 S1 s1 rv => ?_
  simp only [List.append_nil]
  exact xcall_run S1 s1 rv (hk _ _ _ h1) (by simpa only [Option.bind_eq_some_iff] using h2) q
def xCallK (M : FnS) (pm : List R → List R → List R) (fl fk : EvA) : EvX := fun env => (fl env).bind fun q => (fk q.2).bind fun w => (slArgs w.2 (pm q.1 w.1)).bind fun ss => if (ownSlots w.2 (pm q.1 w.1)).Nodup then (M ss).bind fun z => if ouOk ss z.2 = true then
    (match z.1 with | .val d => some (.inl (.val d), updO w.2 (pm q.1 w.1) z.2) | .new m => some (.inr m, updO w.2 (pm q.1 w.1) z.2)) else none else none
theorem ix_callK {M : FnS} {k : Nat} {E : XK} {t tk : TA} {fl fk : EvA} {gV : List V → List V → List V} {pm : List R → List R → List R} (hl : IA K t fl) (hkw : IA K tk fk)
    (hp : ∀ {F : Frm} {T : Addr → Prop} {H : Hp} {env : En} {σ : L2.St} {vs us : List V} {l w : List R}, RvAll K F T H env σ vs l → RvAll K F T H env σ us w → RvAll K F T H env σ (gV vs us) (pm l w))
    (hk : ∀ env l e1 w e2, fl env = some (l, e1) → fk e1 = some (w, e2) → (pm l w).length = k) : IX K (tCallK (spD K k M) gV E t tk) (xCallK M pm fl fk) := by
  intro F T env σ H r env' S e Q q
  simp only [xCallK, Option.bind_eq_some_iff] at e
  obtain ⟨⟨l, e1⟩, h1, ⟨w, e2⟩, h2, h3⟩ := e
  refine hl F T env σ H l e1 S h1 _ fun vs H1 S1 s1 rv => ?_
  refine hkw F T e1 σ H1 w e2 S1 h2 _ fun us H2 S2 s2 rw2 => ?_
  exact xcall_run S2 (s1.trans s2) (hp (rv.stp s2) rw2) (hk _ _ _ _ _ h1 h2) (by simpa only [Option.bind_eq_some_iff] using h3) q
def sSetX (i : Nat) (fx : EvX) : EvS := fun env => (fx env).bind fun p => match p.1 with
  | .inl r => (rk p.2 r).map fun d => (.nx, p.2.set i (some (.shr d)))
  | .inr m => some (.nx, p.2.set i (some (.own false m)))
theorem is_setX {i : Nat} (h : IX K te fx) : IS K (tAsg te (gName i)) (sSetX i fx) := by
  intro F env σ H fl env' S e Dn k
  simp only [sSetX, Option.bind_eq_some_iff] at e
  obtain ⟨⟨r, e1⟩, a1, a2⟩ := e
  refine h F T0 env σ H r e1 S a1 _ ?_
  cases r with
  | inl r =>
    simp only [Option.map_eq_some_iff] at a2
    obtain ⟨d, a3, a4⟩ := a2
    cases a4
    exact fun v H' S' st rv => k _ H' (S'.setS (rk_ok S' rv a3)) (st.q.trans S'.setS_q)
  | inr m =>
    cases a2
    intro p H' np S' st mu
    refine k _ H' (StOk.setM id S' (S.fresh0 np) mu) ⟨st.ext, fun b hb => ?_⟩
    rcases wr_set hb with hb | ⟨_, _, e, e2⟩
    · exact .inl (st.wr b hb)
    · cases e2; exact .inr np
def sRetX (fx : EvX) : EvS := fun env => (fx env).bind fun p => match p.1 with
  | .inl (.val d) => some (.rt (.val d), p.2)
  | .inl (.slot i) => (match slOf p.2 i with
    | some (.shr d) => some (.rt (.val d), p.2)
    | some (.own false m) => some (.rt (.new m), p.2)
    | _ => none)
  | .inr m => some (.rt (.new m), p.2)
theorem is_retX (h : IX K te fx) : IS K (tRet te) (sRetX fx) := by
  intro F env σ H fl env' S e Dn k
  simp only [sRetX, Option.bind_eq_some_iff] at e
  obtain ⟨⟨r, e1⟩, a1, a2⟩ := e
  refine h F T0 env σ H r e1 S a1 _ ?_
  cases r with
  | inr m => cases a2; exact fun p H' np S' st mu => k _ σ H' ⟨p, _, rfl, S.fresh0 np, S', .inr (.inl (.inr rfl)), mu⟩
  | inl r =>
    intro v H' S' st rv
    cases r with
    | val d => cases a2; exact k v σ H' ⟨S', rv⟩
    | slot i =>
      cases g : slOf e1 i with
      | none => simp [g] at a2
      | some s =>
        have g' := slOf_eq.mp g
        cases s with
        | shr d =>
          simp [g] at a2
          obtain ⟨rfl, rfl⟩ := a2
          obtain ⟨w, q1, q2⟩ := S'.shr i d g'
          rw [show σ[i]? = some (some v) from rv] at q1; cases q1
          exact k v σ H' ⟨S', q2⟩
        | own p m =>
          cases p with
          | true => simp [g] at a2
          | false =>
            simp [g] at a2
            obtain ⟨rfl, rfl⟩ := a2
            obtain ⟨a, q1, q2, q3⟩ := S'.own i false m g'
            rw [show σ[i]? = some (some v) from rv] at q1; cases q1
            exact k _ σ H' ⟨a, T0, rfl, by simpa using q3, S', .inr (.inr ⟨i, _, _, g', rv⟩), q2⟩
end
theorem fnD {P : Program} {w : World} {K : PySem.W.Frag} {mg : Str → Option Value} {base : Heap} {x qual : Str} {st : Stmt} {f : Addr} {fd : FuncData} {N ps : List Str} {k : Nat} {b : EvS} (F : Fun K x qual st f fd) (S : FnScope N ps (defScope st))
    (hbody : ∀ (cdv : Value) (A : Around) (outer : List Env) (s : Shared) (H : Hp) (E : XK), A.guards = some [] → Room k (A.deeper (envOfC qual (defScope st) s.heap.objs.size f cdv)) →
      ∃ t, PSs (cxOf CX0 P w K mg base N qual (defScope st) f cdv A outer s H E).nox (defBody st) t ∧ IS K t b) : FnG P w K mg base CX0 (k + 1) f fd ps (spD K ps.length (runB N.length b)) := by
  refine okG F S (fun vs H Q E h => ?_) (fun cdv A outer s H vs Q E hg hr h => ?_)
  · obtain ⟨O, ss, r, outs, hl, _⟩ := h; exact hl
  · obtain ⟨t, h1, h2⟩ := hbody cdv A outer s H E hg hr
    have hk : ps.length ≤ N.length := by have := congrArg List.length S.pre; rw [List.length_take] at this; omega
    exact ⟨t, h1, body_ok h2 hk h⟩
end GD

namespace GD
open PySem PySem.Spec PyProof.Rows L2
def iAny (K : PySem.W.Frag) (tl : TE) : TI := fun σ H R => tl σ H fun x H1 =>
  (∃ a xs, x = .ref a ∧ SqL K H1 a xs ∧ R (Itl K a) H1) ∨ (∃ a xs, x = .ref a ∧ SqT K H1 a xs ∧ R (Itt K a) H1) ∨ ∃ z, x = .str z ∧ R (Its z) H1
theorem pi_any {X : Cx} {tg l : Expr} {tl : TE} (hl : PE X l tl) : PI X tg l (iAny X.K tl) := by
  constructor
  intro pins s σ H R I h
  refine thn (hl.run pins s σ H _ I h) ?_
  rintro v s1 ⟨x, H1, I1, r1, q1⟩
  rcases q1 with ⟨a, xs, rfl, hq, q⟩ | ⟨a, xs, rfl, hq, q⟩ | ⟨z, rfl, q⟩
  · cases r1
    obtain ⟨its, rv, p, hz⟩ := I1.list hq
    exact wpAny_pyIter_list p.isList (pi_one (tk := s1.toks) I1 _ (turn_list a _) ⟨_, Heap.get?_push_size _ rfl, rfl, rfl⟩ q)
  · cases r1
    obtain ⟨its, rv, p, hz⟩ := I1.tuple hq
    exact wpAny_pyIter_tuple p (pi_one (tk := s1.toks) I1 _ (turn_tuple a _) ⟨_, Heap.get?_push_size _ rfl, rfl, rfl⟩ q)
  · obtain ⟨t, rfl⟩ := r1
    cases ha : z.cps.all (· < 128)
    · exact wpAny_pyIter_wide ha (pi_one (tk := s1.toks) I1 _ (turn_str _ z t "str_iterator" (.inr rfl)) ⟨_, Heap.get?_push_size _ rfl, rfl, rfl⟩ q)
    · exact wpAny_pyIter_ascii ha (pi_one (tk := s1.toks) I1 _ (turn_str _ z t "str_ascii_iterator" (.inl rfl)) ⟨_, Heap.get?_push_size _ rfl, rfl, rfl⟩ q)
def wAny (fe : EvE) : EvW := fun env => (fe env).bind fun p => (rk p.2 p.1).bind fun d => match d with
  | .list ds => some (ds, p.2)
  | .tuple ds => some (ds, p.2)
  | .str x => some (signs x, p.2)
  | _ => none
section
variable {K : PySem.W.Frag}
theorem jok_list {O : Addr → Prop} {H : Hp} {a : Addr} {xs : List V} {ds : List D} (he : H a = some (.lst xs)) (hn : ¬ O a) (hr : RpAll K O H xs ds) : JOk K (Itl K a) ds O H := fun O' H2 f kk hO => by
  have e2 := kk _ _ hn he
  have r2 := RpAll.tr f kk hr
  refine ⟨fun i d hi => ?_, fun i hi => ⟨_, .inl (.inl e2), by rw [r2.length]; exact hi⟩⟩
  obtain ⟨v, hv, rv⟩ := r2.get hi
  refine ⟨⟨_, v, .inl (.inl e2), hv⟩, fun x H' y => ?_⟩
  obtain ⟨rfl, y⟩ := y
  have := y _ (.inl (.inl e2))
  rw [hv] at this; cases this
  exact ⟨Ext.refl, rv⟩
theorem jok_tup {O : Addr → Prop} {H : Hp} {a : Addr} {xs : List V} {ds : List D} (he : TpA K O H a xs ds) (hr : RpAll K O H xs ds) : JOk K (Itt K a) ds O H := fun O' H2 f kk hO => by
  have e2 : SqT K H2 a xs := tup_tr f kk he
  have r2 := RpAll.tr f kk hr
  refine ⟨fun i d hi => ?_, fun i hi => ⟨_, e2, by rw [r2.length]; exact hi⟩⟩
  obtain ⟨v, hv, rv⟩ := r2.get hi
  refine ⟨⟨_, v, e2, hv⟩, fun x H' y => ?_⟩
  obtain ⟨rfl, y⟩ := y
  have := y _ e2
  rw [hv] at this; cases this
  exact ⟨Ext.refl, rv⟩
theorem jok_str {O : Addr → Prop} {H : Hp} {x : Str} : JOk K (Its x) (signs x) O H := fun O' H2 f kk hO => by
  refine ⟨fun i d hi => ?_, fun i hi => ?_⟩
  · unfold signs at hi
    rw [List.getElem?_map] at hi
    simp only [Option.map_eq_some_iff] at hi
    obtain ⟨c, hc, rfl⟩ := hi
    have hlt := (List.getElem?_eq_some_iff.mp hc).1
    refine ⟨(show i < x.cps.size by simpa using hlt), fun y H' hy => ?_⟩
    obtain ⟨rfl, c', hc', rfl⟩ := hy
    rw [← Array.getElem?_toList, hc] at hc'
    cases hc'
    exact ⟨Ext.refl, .str _⟩
  · exact (show x.cps.size ≤ i by simpa [signs] using hi)
theorem iw_any {te : TE} {fe : EvE} (h : IE K te fe) : IW K (iAny K te) (wAny fe) := by
  intro F T env σ H items env' S e R k
  simp only [wAny, Option.bind_eq_some_iff] at e
  obtain ⟨⟨r, e1⟩, h1, d, h2, h3⟩ := e
  refine h F T env σ H r e1 S h1 _ fun v H1 S1 s1 rv => ?_
  have rd := rk_ok S1 rv h2
  cases d with
  | list ds =>
    cases h3
    cases rd with
    | lst he hn hr => exact .inl ⟨_, _, rfl, .inl (.inl he), k _ H1 S1 s1 (jok_list he hn hr)⟩
  | tuple ds =>
    cases h3
    cases rd with
    | tup he hr => exact .inr (.inl ⟨_, _, rfl, he.1.imp (·.1) id, k _ H1 S1 s1 (jok_tup he hr)⟩)
  | str x =>
    cases h3
    exact .inr (.inr ⟨x, Rp.scS rd, k _ H1 S1 s1 jok_str⟩)
  | _ => cases h3
end
def spPen (K : PySem.W.Frag) : Sp := fun vs H Q _ => ∃ (a : Addr) (ns : List Int), vs = [.ref a] ∧ SqL K H a (ns.map V.int) ∧ ns.length ≤ 63 ∧
  ∀ p q H', H p = none → H q = none → p ≠ q → Ext (fun _ => False) H H' → H' q = some (.lst (ns.map V.int)) → H' p = some (.lst [.ref q, .int 0, .int 0]) → Q (.ref p) H'
abbrev tPenArg (K : PySem.W.Frag) : TE := tCB (fun xs H Q => ∃ p ys, xs = [.ref p] ∧ (SqL K H p ys ∨ SqT K H p ys) ∧ ∀ l, H l = none → Q (.ref l) (upd H l (.lst ys))) (tCons (tSl (rSlL K) (tVar 0) tNoPart (tPart (tC (.int 63)))) tNil)
theorem cut63 {xs : List V} (h : xs.length ≤ 63) : cutV xs none (some 63) = xs := by
  unfold cutV
  rw [HT.sIx_none, show (63 : Int) = ((63 : Nat) : Int) from rfl, HT.sIx_nat, List.drop_zero, Nat.min_eq_right h, Nat.sub_zero, List.take_length]
theorem pen_read {K : PySem.W.Frag} {N : List Str} {vs : List V} {H : Hp} {Q : VK} {E : XK} (h : spPen K vs H Q E) :
    tRet (tLst (tCons (tPenArg K) (tCons (tC (.int 0)) (tCons (tC (.int 0)) tNil)))) { nx := fun _ H' => Q .non H', rt := Q } (L2.start N vs) H := by
  obtain ⟨a, ns, rfl, hS, hl, q⟩ := h
  refine ⟨.ref a, start_get rfl, 63, rfl, a, _, rfl, hS, fun c nc => ⟨c, _, rfl, .inl (.inl (.inl upd_same)), fun l nl => ⟨by show 3 ≤ sizeLine; decide, fun p np => ?_⟩⟩⟩
  rw [cut63 (by simpa using hl)] at nl np ⊢
  have nlc : l ≠ c := fun e => by subst e; rw [upd_same] at nl; cases nl
  have npl : p ≠ l := fun e => by subst e; rw [upd_same] at np; cases np
  have npc : p ≠ c := fun e => by subst e; rw [upd_ne npl, upd_same] at np; cases np
  rw [upd_ne npl, upd_ne npc] at np
  rw [upd_ne nlc] at nl
  refine q p l _ np nl npl ?_ ?_ upd_same
  · refine ⟨fun b o e _ => ?_, fun b e => ?_⟩
    · rw [upd_ne (ne_of_none e np), upd_ne (ne_of_none e nl), upd_ne (ne_of_none e nc)]; exact e
    · cases h : H b with
      | none => exact absurd h e
      | some o => rw [upd_ne (ne_of_none h np), upd_ne (ne_of_none h nl), upd_ne (ne_of_none h nc), h]; simp
  · rw [upd_ne npl.symm, upd_same]
def penv (n : Nat) (ns : List Int) : En := none :: some (.own false (.l [.list (ns.map .int), .int 0, .int 0])) :: List.replicate (n - 2) none
theorem ints_rp {K : PySem.W.Frag} {O : Addr → Prop} {H : Hp} : ∀ ns : List Int, RpAll K O H (ns.map V.int) (ns.map .int)
  | [] => .nil
  | n :: ns => .cons (.int n) (ints_rp ns)
theorem law_read {K : PySem.W.Frag} {t : TS} {b : EvS} {N : List Str} {a : Addr} {ns : List Int} {H : Hp} {E : XK} (hN : 2 ≤ N.length) (hb : IS K t b) (hS : SqL K H a (ns.map V.int)) (hl : ns.length ≤ 63)
    (h : ∃ env', b (penv N.length ns) = some (.rt (.val (.bool true)), env')) :
    tSeq (tAsg (tCall (spPen K) [] E (tCons (tVar 0) tNil)) (gName 1)) t { nx := fun _ H' => (fun v (_ : Hp) => v = V.bl true) .non H', rt := fun v _ => v = V.bl true } (L2.start N [.ref a]) H := by
  obtain ⟨env', he⟩ := h
  refine ⟨.ref a, start_get rfl, a, ns, rfl, hS, hl, fun p q H' np nq pq x hq hp => ?_⟩
  let F : Frm := ⟨fun _ => False, fun _ => False, H, [.ref a]⟩
  have hst : (L2.start N [.ref a]).set 1 (some (.ref p)) = some (.ref a) :: some (.ref p) :: List.replicate (N.length - 2) none := by
    unfold L2.start
    obtain ⟨k, hk⟩ : ∃ k, N.length = k + 2 := ⟨N.length - 2, by omega⟩
    rw [hk]
    simp [List.replicate]
  show t _ ((L2.start N [.ref a]).set 1 (some (.ref p))) H'
  rw [hst]
  have own_at : ∀ (i : Nat) (s : Sl), (penv N.length ns)[i]? = some (some s) → i = 1 ∧ s = .own false (.l [.list (ns.map .int), .int 0, .int 0]) := by
    intro i s e
    unfold penv at e
    match i with
    | 0 => simp at e
    | 1 => simp at e; exact ⟨rfl, e.symm⟩
    | i + 2 =>
      rw [List.getElem?_cons_succ, List.getElem?_cons_succ, List.getElem?_replicate] at e
      split at e <;> cases e
  have wr : ∀ b, Wr (penv N.length ns) (some (V.ref a) :: some (.ref p) :: List.replicate (N.length - 2) none) b → b = p := by
    rintro b ⟨i, q, m, e, s⟩
    obtain ⟨rfl, _⟩ := own_at i _ e
    simpa using s.symm
  have ow : ¬ Ow F T0 (penv N.length ns) (some (V.ref a) :: some (.ref p) :: List.replicate (N.length - 2) none) q := by
    rintro (h | h | h)
    · exact h
    · exact h
    · exact pq (wr q h).symm
  have S : StOk K F T0 H' (penv N.length ns) (some (V.ref a) :: some (.ref p) :: List.replicate (N.length - 2) none) := by
    refine ⟨by simp [penv], fun i d e => ?_, fun i q' m e => ?_, fun i j p1 q1 m n a e1 e2 s1 s2 => ?_, x, fun _ h => h.elim, fun _ h => h.elim, fun _ h => h.elim, fun _ h => h.elim⟩
    · have := (own_at i _ e).2; cases this
    · obtain ⟨rfl, hs⟩ := own_at i _ e
      cases hs
      exact ⟨p, rfl, ⟨_, hp, .cons (.lst hq ow (ints_rp ns)) (.cons (.int 0) (.cons (.int 0) .nil))⟩, by simpa using np⟩
    · rw [(own_at i _ e1).1, (own_at j _ e2).1]
  refine hb F _ _ H' _ env' S he _ ?_
  rintro v σ' H2 ⟨_, r⟩
  exact Rp.scB r
end GD

namespace GD
open PySem PySem.Spec PyProof.Rows L2
section
variable {X : Cx} {CX : CXT} {k : Nat} {f : Addr} {fd : FuncData} {ps ks : List Str} {sp : Sp}
variable {E : XK} {x : Str} {p pos : Pos} {e : Expr} {es : List Expr} {t tk : TA} {kws : List Keyword}
variable {g : List Value → List Value → List Value} {gV : List V → List V → List V}
theorem pe_callGK0 (F : FnG X.prog X.w X.K X.mg X.base CX k f fd ps sp) (hgd : X.A.guards = some []) (hr : Room k X.A) (hg : Gl X x)
    (hm : X.mg x = some (.ref f)) (hk : PySem.W.keepIn X.K (.ref f) = true) (hb : KBinds X.K fd ps ks g gV) (hx : Passes CX X E)
    (hkw : PK X kws tk) (hall : (backToKw pos (keywordEach kws X.env)).all (·.1.isSome) = true := by rfl)
    (hks : (backToKw pos (keywordEach kws X.env)).filterMap (·.1) = ks := by rfl)
    (hdb : (x == ("__debug__" : Str)) = false := by decide)
    (hpl : ((backTo pos (starEach [] X.env)).any (·.1) || (backToKw pos (keywordEach kws X.env)).any (·.1.isNone)) = false := by rfl) :
    PE X (.Call (.Name x p) [] kws pos) (tCallK sp gV E tNil tk) := by
  constructor
  intro pins s σ H Q I h
  refine wpAny_Call_Name_kw (ld_glob I hg hm ?_ hdb)
  refine PySem.W.callWith_KW0 (h₀ := X.base) I.ok.mod.kin hk hall (thn (hkw.run pos pins s σ H _ I h) ?_) hpl
  rintro ws s2 ⟨zs, H2, I2, rz, q2⟩
  refine ⟨I2.kIn, ?_⟩
  rw [hks]
  exact run_gk (us := []) (vs := []) F hgd hr hb hx I2 .nil rz q2
end
def appV : List V → List V → List V := fun a b => a ++ b
def appR : List R → List R → List R := fun a b => a ++ b
theorem appR_ok {K : PySem.W.Frag} {F : Frm} {T : Addr → Prop} {H : Hp} {env : En} {σ : L2.St} : ∀ {vs us : List V} {l w : List R}, RvAll K F T H env σ vs l → RvAll K F T H env σ us w → RvAll K F T H env σ (appV vs us) (appR l w)
  | [], _, [], _, _, h => h
  | _ :: _, _, _ :: _, _, h, q => ⟨h.1, appR_ok (vs := _) h.2 q⟩
  | [], _, _ :: _, _, h, _ => h.elim
  | _ :: _, _, [], _, h, _ => h.elim
end GD

namespace GD
open PySem PySem.Spec PyProof.Rows L2
section
variable {K : PySem.W.Frag}
theorem room65 {k : Nat} {A : Around} (hr : Room k A) : A.units + 65 < cLine := by have := hr.un; omega
end
end GD

namespace GD
open PySem PySem.Spec PyProof.Rows L2
section
variable {env e env' : En} {f g : EvS} {fe fa fb fc : EvE} {fx fy : EvX} {fm : EvM} {ft fu : EvT} {fl : EvA} {d d' z : D} {r r' : R} {b : Bool} {m : Mu} {ds es : List D} {l : List R} {x : Sum R Mu} {i j : Nat} {s : Sl} {o : Option Sl}
theorem sl_0 {l : En} : slOf (o :: l) 0 = o := by unfold slOf; simp
theorem sl_s {l : En} : slOf (o :: l) (i + 1) = slOf l i := by unfold slOf; simp
def seqR : Option (Fl × En) → EvS → Option (Fl × En)
  | some (.nx, e), g => g e
  | some (.bk, e), _ => some (.bk, e)
  | some (.ct, e), _ => some (.ct, e)
  | some (.rt r, e), _ => some (.rt r, e)
  | none, _ => none
theorem q_seq : sSeq f g env = seqR (f env) g := by
  unfold sSeq; cases h : f env with
  | none => rfl
  | some p => obtain ⟨fl, e⟩ := p; cases fl <;> rfl
theorem q_seq1 : seqR (some (.nx, e)) g = g e := rfl
theorem q_seq2 {q : Ret} : seqR (some (.rt q, e)) g = some (.rt q, e) := rfl
theorem q_seq3 : seqR (some (.bk, e)) g = some (.bk, e) := rfl
theorem q_seq4 : seqR (some (.ct, e)) g = some (.ct, e) := rfl
theorem q_next : sNext env = some (.nx, env) := rfl
def ifR : Option (Bool × En) → EvS → EvS → Option (Fl × En)
  | some (true, e), f, _ => f e
  | some (false, e), _, g => g e
  | none, _, _ => none
theorem q_if : sIf ft f g env = ifR (ft env) f g := by
  unfold sIf; cases h : ft env with
  | none => rfl
  | some p => obtain ⟨b, e⟩ := p; cases b <;> rfl
theorem q_if1 : ifR (some (true, e)) f g = f e := rfl
theorem q_if2 : ifR (some (false, e)) f g = g e := rfl
def setR (i : Nat) : Option (Sum R Mu × En) → Option (Fl × En)
  | some (.inl r, e) => (rk e r).map fun d => (.nx, e.set i (some (.shr d)))
  | some (.inr m, e) => some (.nx, e.set i (some (.own false m)))
  | none => none
theorem q_set : sSetX i fx env = setR i (fx env) := by
  unfold sSetX; cases h : fx env with
  | none => rfl
  | some p => obtain ⟨x, e⟩ := p; cases x <;> rfl
theorem q_set1 : setR i (some (.inl (.val d), e)) = some (.nx, e.set i (some (.shr d))) := rfl
theorem q_set2 : setR i (some (.inr m, e)) = some (.nx, e.set i (some (.own false m))) := rfl
theorem q_set3 : setR i (some (.inl (.slot j), e)) = (rk e (.slot j)).map fun d => (.nx, e.set i (some (.shr d))) := rfl
def retR2 (e : En) : Option Sl → Option (Fl × En)
  | some (.shr d) => some (.rt (.val d), e)
  | some (.own false m) => some (.rt (.new m), e)
  | _ => none
def retR : Option (Sum R Mu × En) → Option (Fl × En)
  | some (.inl (.val d), e) => some (.rt (.val d), e)
  | some (.inl (.slot i), e) => retR2 e (slOf e i)
  | some (.inr m, e) => some (.rt (.new m), e)
  | none => none
theorem q_ret : sRetX fx env = retR (fx env) := by
  unfold sRetX; cases h : fx env with
  | none => rfl
  | some p =>
    obtain ⟨x, e⟩ := p
    cases x with
    | inr m => rfl
    | inl r =>
      cases r with
      | val d => rfl
      | slot i =>
        simp only [Option.bind_some, retR]
        cases hs : slOf e i with
        | none => rfl
        | some s => cases s with
          | shr d => rfl
          | own p m => cases p <;> rfl
theorem q_ret1 : retR (some (.inl (.val d), e)) = some (.rt (.val d), e) := rfl
theorem q_ret2 : retR (some (.inl (.slot i), e)) = retR2 e (slOf e i) := rfl
theorem q_ret3 : retR (some (.inr m, e)) = some (.rt (.new m), e) := rfl
theorem q_ret4 : retR2 e (some (.shr d)) = some (.rt (.val d), e) := rfl
theorem q_ret5 : retR2 e (some (.own false m)) = some (.rt (.new m), e) := rfl
def dropR : Option (R × En) → Option (Fl × En)
  | some (_, e) => some (.nx, e)
  | none => none
theorem q_drop : sDrop fe env = dropR (fe env) := by unfold sDrop; cases fe env <;> rfl
theorem q_drop1 : dropR (some (r, e)) = some (.nx, e) := rfl
def putR2 (gp : Mu → D → D → Option Mu) (i : Nat) (r : R) (e0 : En) : Option (R × En) → Option (Fl × En)
  | some (k, e) => (rk e r).bind fun d => (rk e k).bind fun kd => (ownOf e0 i).bind fun _ => (ownOf e i).bind fun o => (gp o.2 kd d).map fun m => (.nx, e.set i (some (.own o.1 m)))
  | none => none
def putR (gp : Mu → D → D → Option Mu) (i : Nat) (fk : EvE) : Option (R × En) → Option (Fl × En)
  | some (r, e) => putR2 gp i r e (fk e)
  | none => none
variable {gp : Mu → D → D → Option Mu} {fk : EvE}
theorem q_put : sPut gp i fk fe env = putR gp i fk (fe env) := by
  unfold sPut; cases h : fe env with
  | none => rfl
  | some p =>
    simp only [Option.bind_some, putR]
    cases h2 : fk p.2 <;> rfl
theorem q_put1 : putR gp i fk (some (r, e)) = putR2 gp i r e (fk e) := rfl
theorem q_put2 {k : D} {e0 : En} : putR2 gp i (.val d) e0 (some (.val k, e)) = (ownOf e0 i).bind fun _ => (ownOf e i).bind fun o => (gp o.2 k d).map fun m => (.nx, e.set i (some (.own o.1 m))) := rfl
theorem q_own {p : Bool} (h : slOf env i = some (.own p m)) : ownOf env i = some (p, m) := by unfold ownOf; rw [h]
theorem q_own0 {p : Bool} {l : En} : ownOf (some (.own p m) :: l) 0 = some (p, m) := q_own sl_0
theorem q_ownS {l : En} : ownOf (o :: l) (i + 1) = ownOf l i := by unfold ownOf; rw [sl_s]
def asgR (tg : D → En → Option En) : Option (R × En) → Option (Fl × En)
  | some (r, e) => (rk e r).bind fun d => (tg d e).map fun e => (.nx, e)
  | none => none
variable {tg : D → En → Option En}
theorem q_asg : sAsg tg fe env = asgR tg (fe env) := by unfold sAsg; cases h : fe env <;> rfl
theorem q_asg1 : asgR tg (some (.val d, e)) = (tg d e).map fun e => (.nx, e) := rfl
theorem q_gN : gN i d env = some (env.set i (some (.shr d))) := rfl
theorem q_gT {n : Nat} {ff : List D → En → Option En} (h : ds.length = n) : gT n ff (.tuple ds) env = ff ds env := by
  show (if ds.length = n then ff ds env else none) = _; rw [if_pos h]
theorem q_gs0 : gsNil [] env = some env := rfl
theorem q_gs1 {ff : List D → En → Option En} : gsCons (gN i) ff (d :: ds) env = ff ds (env.set i (some (.shr d))) := rfl
variable {gg : D → D → Option D}
def forR (tg : D → En → Option En) (f : EvS) : Option (List D × En) → Option (Fl × En)
  | some (ds, e) => forE tg f ds e
  | none => none
variable {fw : EvW}
theorem q_for : sFor fw tg f env = forR tg f (fw env) := by unfold sFor; cases h : fw env <;> rfl
theorem q_for1 : forR tg f (some (ds, e)) = forE tg f ds e := rfl
theorem q_for0 : forE tg f [] env = some (.nx, env) := rfl
def forK (tg : D → En → Option En) (f : EvS) (ds : List D) : Option (Fl × En) → Option (Fl × En)
  | some (.nx, e) => forE tg f ds e
  | some (.ct, e) => forE tg f ds e
  | some (.bk, e) => some (.nx, e)
  | some (.rt r, e) => some (.rt r, e)
  | none => none
def forB (tg : D → En → Option En) (f : EvS) (ds : List D) : Option En → Option (Fl × En)
  | some e => forK tg f ds (f e)
  | none => none
theorem q_forc : forE tg f (d :: ds) env = forB tg f ds (tg d env) := by
  unfold forE; cases h : tg d env with
  | none => rfl
  | some e =>
    simp only [Option.bind_some, forB]
    cases h2 : f e with
    | none => rfl
    | some p => obtain ⟨fl, e2⟩ := p; cases fl <;> rfl
theorem q_forb : forB tg f ds (some e) = forK tg f ds (f e) := rfl
theorem q_fork1 : forK tg f ds (some (.nx, e)) = forE tg f ds e := rfl
theorem q_fork2 : forK tg f ds (some (.ct, e)) = forE tg f ds e := rfl
theorem q_fork3 : forK tg f ds (some (.bk, e)) = some (.nx, e) := rfl
theorem q_fork4 {q : Ret} : forK tg f ds (some (.rt q, e)) = some (.rt q, e) := rfl
def whR (c : EvT) (b : EvS) (n : Nat) : Option (Fl × En) → Option (Fl × En)
  | some (.nx, e) => whE c b n e
  | some (.ct, e) => whE c b n e
  | some (.bk, e) => some (.nx, e)
  | some (.rt r, e) => some (.rt r, e)
  | none => none
def whT (c : EvT) (b : EvS) (n : Nat) : Option (Bool × En) → Option (Fl × En)
  | some (true, e) => whR c b n (b e)
  | some (false, e) => some (.nx, e)
  | none => none
theorem q_wh {n : Nat} : whE ft f (n + 1) env = whT ft f n (ft env) := by
  unfold whE; cases h : ft env with
  | none => rfl
  | some p =>
    obtain ⟨b, e⟩ := p
    cases b with
    | false => rfl
    | true =>
      simp only [Option.bind_some, if_true, whT]
      cases h2 : f e with
      | none => rfl
      | some p => obtain ⟨fl, e2⟩ := p; cases fl <;> rfl
theorem q_wh1 {n : Nat} : whT ft f n (some (true, e)) = whR ft f n (f e) := rfl
theorem q_wh2 {n : Nat} : whT ft f n (some (false, e)) = some (.nx, e) := rfl
theorem q_wh3 {n : Nat} : whR ft f n (some (.nx, e)) = whE ft f n e := rfl
theorem q_wh4 {n : Nat} {q : Ret} : whR ft f n (some (.rt q, e)) = some (.rt q, e) := rfl
def varR (env : En) (i : Nat) : Option Sl → Option (R × En)
  | some (.shr d) => some (.val d, env)
  | some (.own _ _) => some (.slot i, env)
  | none => none
theorem q_var : eVar i env = varR env i (slOf env i) := by
  unfold eVar varR; cases slOf env i with
  | none => rfl
  | some s => cases s <;> rfl
theorem q_var1 : varR env i (some (.shr d)) = some (.val d, env) := rfl
theorem q_var2 {p : Bool} : varR env i (some (.own p m)) = some (.slot i, env) := rfl
def giveR (env : En) (i : Nat) : Option Sl → Option (R × En)
  | some (.shr d) => some (.val d, env)
  | some (.own false m) => some (.val m.toD, env.set i (some (.shr m.toD)))
  | _ => none
theorem q_give : eGive i env = giveR env i (slOf env i) := by
  unfold eGive giveR; cases slOf env i with
  | none => rfl
  | some s => cases s with
    | shr d => rfl
    | own p m => cases p <;> rfl
theorem q_give1 : giveR env i (some (.shr d)) = some (.val d, env) := rfl
theorem q_give2 : giveR env i (some (.own false m)) = some (.val m.toD, env.set i (some (.shr m.toD))) := rfl
theorem q_toL : (Mu.l ds).toD = .list ds := rfl
theorem q_c : eC d env = some (.val d, env) := rfl
theorem q_rsv : rs env (.val d) = some d := rfl
def rsR : Option Sl → Option D
  | some (.own _ m) => some m.toD
  | some (.shr d) => some d
  | none => none
theorem q_rss : rs env (.slot i) = rsR (slOf env i) := by
  cases h : slOf env i with
  | none => simp [rs, rsR, h]
  | some s => cases s <;> simp [rs, rsR, h]
theorem q_rss1 {p : Bool} : rsR (some (.own p m)) = some m.toD := rfl
theorem q_rss2 : rsR (some (.shr d)) = some d := rfl
theorem q_rkv : rk env (.val d) = some d := rfl
def eXR : Option (Sum R Mu × En) → Option (R × En)
  | some (.inl r, e) => some (r, e)
  | some (.inr m, e) => some (.val m.toD, e)
  | none => none
theorem q_eX : eX fx env = eXR (fx env) := by
  unfold eX; cases h : fx env with
  | none => rfl
  | some p => obtain ⟨x, e⟩ := p; cases x <;> rfl
theorem q_eX1 : eXR (some (.inl r, e)) = some (r, e) := rfl
theorem q_eX2 : eXR (some (.inr m, e)) = some (.val m.toD, e) := rfl
def xER : Option (R × En) → Option (Sum R Mu × En)
  | some (r, e) => some (.inl r, e)
  | none => none
theorem q_xE : xE fe env = xER (fe env) := by unfold xE; cases fe env <;> rfl
theorem q_xE1 : xER (some (r, e)) = some (.inl r, e) := rfl
def xMR : Option (Mu × En) → Option (Sum R Mu × En)
  | some (r, e) => some (.inr r, e)
  | none => none
theorem q_xM : xM fm env = xMR (fm env) := by unfold xM; cases fm env <;> rfl
theorem q_xM1 : xMR (some (m, e)) = some (.inr m, e) := rfl
def e1R2 (e : En) : Option D → Option (D × En)
  | some d => some (d, e)
  | none => none
def e1R : Option (R × En) → Option (D × En)
  | some (r, e) => e1R2 e (rs e r)
  | none => none
theorem q_e1 : e1 fa env = e1R (fa env) := by
  unfold e1; cases h : fa env with
  | none => rfl
  | some p => simp only [Option.bind_some, e1R]; cases rs p.2 p.1 <;> rfl
theorem q_e11 : e1R (some (r, e)) = e1R2 e (rs e r) := rfl
theorem q_e12 : e1R2 e (some d) = some (d, e) := rfl
def e2R3 (e : En) : Option D → Option D → Option (D × D × En)
  | some d, some d' => some (d, d', e)
  | _, _ => none
def e2R2 (r : R) : Option (R × En) → Option (D × D × En)
  | some (r', e) => e2R3 e (rs e r) (rs e r')
  | none => none
def e2R (fb : EvE) : Option (R × En) → Option (D × D × En)
  | some (r, e) => e2R2 r (fb e)
  | none => none
theorem q_e2 : e2 fa fb env = e2R fb (fa env) := by
  unfold e2; cases h : fa env with
  | none => rfl
  | some p =>
    simp only [Option.bind_some, e2R]
    cases h2 : fb p.2 with
    | none => rfl
    | some q => simp only [Option.bind_some, e2R2]; cases rs q.2 p.1 <;> cases rs q.2 q.1 <;> rfl
theorem q_e21 : e2R fb (some (r, e)) = e2R2 r (fb e) := rfl
theorem q_e22 : e2R2 r (some (r', e)) = e2R3 e (rs e r) (rs e r') := rfl
theorem q_e23 : e2R3 e (some d) (some d') = some (d, d', e) := rfl
def vR (e : En) : Option D → Option (R × En)
  | some d => some (.val d, e)
  | none => none
theorem q_v : vR e (some d) = some (.val d, e) := rfl
def opR (gg : D → D → Option D) : Option (D × D × En) → Option (R × En)
  | some (d, d', e) => vR e (gg d d')
  | none => none
theorem q_op : eOp gg fa fb env = opR gg (e2 fa fb env) := by
  unfold eOp; cases h : e2 fa fb env with
  | none => rfl
  | some p => simp only [Option.bind_some, opR]; cases gg p.1 p.2.1 <;> rfl
theorem q_op1 : opR gg (some (d, d', e)) = vR e (gg d d') := rfl
def xopR2 (e : En) : Option (Sum D Mu) → Option (Sum R Mu × En)
  | some (.inl d) => some (.inl (.val d), e)
  | some (.inr m) => some (.inr m, e)
  | none => none
def xopR (gg : D → D → Option (Sum D Mu)) : Option (D × D × En) → Option (Sum R Mu × En)
  | some (d, d', e) => xopR2 e (gg d d')
  | none => none
variable {gx : D → D → Option (Sum D Mu)}
theorem q_xop : xOp gx fa fb env = xopR gx (e2 fa fb env) := by
  unfold xOp; cases h : e2 fa fb env with
  | none => rfl
  | some p =>
    simp only [Option.bind_some, xopR]
    cases gx p.1 p.2.1 with
    | none => rfl
    | some z => cases z <;> rfl
theorem q_xop1 : xopR gx (some (d, d', e)) = xopR2 e (gx d d') := rfl
theorem q_xop2 : xopR2 e (some (.inl d)) = some (.inl (.val d), e) := rfl
theorem q_xop3 : xopR2 e (some (.inr m)) = some (.inr m, e) := rfl
variable {g1 : D → Option D}
def unR (g1 : D → Option D) : Option (D × En) → Option (R × En)
  | some (d, e) => vR e (g1 d)
  | none => none
theorem q_un : eUn g1 fa env = unR g1 (e1 fa env) := by
  unfold eUn; cases h : e1 fa env with
  | none => rfl
  | some p => simp only [Option.bind_some, unR]; cases g1 p.1 <;> rfl
theorem q_un1 : unR g1 (some (d, e)) = vR e (g1 d) := rfl
def tvR : Option (D × En) → Option (Bool × En)
  | some (.bool b, e) => some (b, e)
  | _ => none
theorem q_tv : tVal fe env = tvR (e1 fe env) := by
  unfold tVal; cases h : e1 fe env with
  | none => rfl
  | some p => obtain ⟨d, e⟩ := p; cases d <;> rfl
theorem q_tv1 : tvR (some (.bool b, e)) = some (b, e) := rfl
def andR (fu : EvT) : Option (Bool × En) → Option (Bool × En)
  | some (true, e) => fu e
  | some (false, e) => some (false, e)
  | none => none
theorem q_and : tfAnd ft fu env = andR fu (ft env) := by
  unfold tfAnd; cases h : ft env with
  | none => rfl
  | some p => obtain ⟨b, e⟩ := p; cases b <;> rfl
theorem q_and1 : andR fu (some (true, e)) = fu e := rfl
theorem q_and2 : andR fu (some (false, e)) = some (false, e) := rfl
def orR (fu : EvT) : Option (Bool × En) → Option (Bool × En)
  | some (true, e) => some (true, e)
  | some (false, e) => fu e
  | none => none
theorem q_or : tfOr ft fu env = orR fu (ft env) := by
  unfold tfOr; cases h : ft env with
  | none => rfl
  | some p => obtain ⟨b, e⟩ := p; cases b <;> rfl
theorem q_or1 : orR fu (some (true, e)) = some (true, e) := rfl
theorem q_or2 : orR fu (some (false, e)) = fu e := rfl
theorem q_yes : tYesE env = some (true, env) := rfl
def xifR (fx fy : EvX) : Option (Bool × En) → Option (Sum R Mu × En)
  | some (true, e) => fx e
  | some (false, e) => fy e
  | none => none
theorem q_xif : xIf ft fx fy env = xifR fx fy (ft env) := by
  unfold xIf; cases h : ft env with
  | none => rfl
  | some p => obtain ⟨b, e⟩ := p; cases b <;> rfl
theorem q_xif1 : xifR fx fy (some (true, e)) = fx e := rfl
theorem q_xif2 : xifR fx fy (some (false, e)) = fy e := rfl
def isNR (k : Bool) : Option (D × En) → Option (R × En)
  | some (d, e) => some (.val (.bool (if k then !isN d else isN d)), e)
  | none => none
theorem q_isN : eIsN fa env = isNR false (e1 fa env) := by unfold eIsN; cases e1 fa env <;> rfl
theorem q_notN : eNotN fa env = isNR true (e1 fa env) := by unfold eNotN; cases e1 fa env <;> rfl
theorem q_isN1 : isNR false (some (d, e)) = some (.val (.bool (isN d)), e) := rfl
theorem q_isN2 : isNR true (some (d, e)) = some (.val (.bool (!isN d)), e) := rfl
theorem q_n0 : isN .none = true := rfl
theorem q_n1 {k : Int} : isN (.int k) = false := rfl
theorem q_n2 {k : Str} : isN (.str k) = false := rfl
theorem q_n3 : isN (.list ds) = false := rfl
theorem q_n4 : isN (.tuple ds) = false := rfl
theorem q_n5 : isN (.bool b) = false := rfl
theorem q_nil : aNil env = some ([], env) := rfl
def consR2 (r : R) : Option (List R × En) → Option (List R × En)
  | some (l, e) => some (r :: l, e)
  | none => none
def consR (fl : EvA) : Option (R × En) → Option (List R × En)
  | some (r, e) => consR2 r (fl e)
  | none => none
theorem q_cons : aCons fa fl env = consR fl (fa env) := by
  unfold aCons; cases h : fa env with
  | none => rfl
  | some p => simp only [Option.bind_some, consR]; cases fl p.2 <;> rfl
theorem q_cons1 : consR fl (some (r, e)) = consR2 r (fl e) := rfl
theorem q_cons2 : consR2 r (some (l, e)) = some (r :: l, e) := rfl
def laR (e : En) : Option (List D) → Option (List D × En)
  | some ds => some (ds, e)
  | none => none
theorem q_la : laR e (some ds) = some (ds, e) := rfl
def eAR : Option (List R × En) → Option (List D × En)
  | some (l, e) => laR e (rsA e l)
  | none => none
theorem q_eA : eA fl env = eAR (fl env) := by
  unfold eA; cases h : fl env with
  | none => rfl
  | some p => simp only [Option.bind_some, eAR]; cases rsA p.2 p.1 <;> rfl
theorem q_eA1 : eAR (some (l, e)) = laR e (rsA e l) := rfl
def eKR : Option (List R × En) → Option (List D × En)
  | some (l, e) => laR e (rkA e l)
  | none => none
theorem q_eK : eK fl env = eKR (fl env) := by
  unfold eK; cases h : fl env with
  | none => rfl
  | some p => simp only [Option.bind_some, eKR]; cases rkA p.2 p.1 <;> rfl
theorem q_eK1 : eKR (some (l, e)) = laR e (rkA e l) := rfl
def lcR : Option D → Option (List D) → Option (List D)
  | some d, some ds => some (d :: ds)
  | _, _ => none
theorem q_lc : lcR (some d) (some ds) = some (d :: ds) := rfl
theorem q_rsA0 : rsA env [] = some [] := rfl
theorem q_rsA : rsA env (r :: l) = lcR (rs env r) (rsA env l) := by rw [rsA]; cases rs env r <;> cases rsA env l <;> rfl
theorem q_rkA0 : rkA env [] = some [] := rfl
theorem q_rkA : rkA env (r :: l) = lcR (rk env r) (rkA env l) := by rw [rkA]; cases rk env r <;> cases rkA env l <;> rfl
def tupR : Option (List D × En) → Option (R × En)
  | some (ds, e) => if small ds.length = true then some (.val (.tuple ds), e) else none
  | none => none
theorem q_tup : eTup fl env = tupR (eK fl env) := by unfold eTup; cases eK fl env <;> rfl
theorem q_tup1 (h : ds.length ≤ 1000000) : tupR (some (ds, e)) = some (.val (.tuple ds), e) := if_pos (decide_eq_true h)
def lstR : Option (List D × En) → Option (Mu × En)
  | some (ds, e) => if small ds.length = true then some (.l ds, e) else none
  | none => none
theorem q_lst : eLst fl env = lstR (eK fl env) := by unfold eLst; cases eK fl env <;> rfl
theorem q_lst1 (h : ds.length ≤ 1000000) : lstR (some (ds, e)) = some (.l ds, e) := if_pos (decide_eq_true h)
variable {gc : List D → Option D} {gm : List D → Option Mu}
def caR (gc : List D → Option D) : Option (List D × En) → Option (R × En)
  | some (ds, e) => vR e (gc ds)
  | none => none
theorem q_ca : eCa gc fl env = caR gc (eA fl env) := by
  unfold eCa; cases h : eA fl env with
  | none => rfl
  | some p => simp only [Option.bind_some, caR]; cases gc p.1 <;> rfl
theorem q_ca1 : caR gc (some (ds, e)) = vR e (gc ds) := rfl
def mR (e : En) : Option Mu → Option (Mu × En)
  | some m => some (m, e)
  | none => none
theorem q_m : mR e (some m) = some (m, e) := rfl
def camR (gm : List D → Option Mu) : Option (List D × En) → Option (Mu × En)
  | some (ds, e) => mR e (gm ds)
  | none => none
theorem q_cam : eCaM gm fl env = camR gm (eA fl env) := by
  unfold eCaM; cases h : eA fl env with
  | none => rfl
  | some p => simp only [Option.bind_some, camR]; cases gm p.1 <;> rfl
theorem q_cam1 : camR gm (some (ds, e)) = mR e (gm ds) := rfl
variable {gt : Mu → List D → Option (Mu × D)}
def mtR3 (i : Nat) (p : Bool) (e : En) : Option (Mu × D) → Option (R × En)
  | some (m, z) => some (.val z, e.set i (some (.own p m)))
  | none => none
def mtR2 (gt : Mu → List D → Option (Mu × D)) (i : Nat) : Option (Bool × Mu) → Option (List D × En) → Option (R × En)
  | some (p, m), some (ds, e) => mtR3 i p e (gt m ds)
  | _, _ => none
def mtR (gt : Mu → List D → Option (Mu × D)) (i : Nat) : Option (List D × En) → Option (R × En)
  | some (ds, e) => mtR2 gt i (ownOf e i) (some (ds, e))
  | none => none
def mtR0 (Ty : String) (k : Option (R × En)) : Option (Bool × Mu) → Option (R × En)
  | some (_, m) => if tyM Ty m = true then k else none
  | none => none
theorem q_mt {Ty : String} : eMt Ty gt i fl env = mtR0 Ty (mtR gt i (eK fl env)) (ownOf env i) := by
  unfold eMt; cases h : ownOf env i with
  | none => rfl
  | some o =>
    obtain ⟨b, m⟩ := o
    show (if tyM Ty m = true then _ else none) = (if tyM Ty m = true then _ else none)
    congr 1
    cases h2 : eK fl env with
    | none => rfl
    | some p =>
      simp only [Option.bind_some, mtR]
      cases h3 : ownOf p.2 i with
      | none => rfl
      | some o => simp only [Option.bind_some, mtR2]; cases gt o.2 p.1 <;> rfl
theorem q_mt0 {k : Option (R × En)} {p : Bool} : mtR0 "list" k (some (p, .l ds)) = k := rfl
theorem q_mt1 : mtR gt i (some (ds, e)) = mtR2 gt i (ownOf e i) (some (ds, e)) := rfl
theorem q_mt2 {p : Bool} : mtR2 gt i (some (p, m)) (some (ds, e)) = mtR3 i p e (gt m ds) := rfl
theorem q_mt3 {p : Bool} : mtR3 i p e (some (m, z)) = some (.val z, e.set i (some (.own p m))) := rfl
def eBR2 (r : R) : Option (List R × En) → Option (D × List D × En)
  | some (l, e) => (rs e r).bind fun d => (rsA e l).map fun ds => (d, ds, e)
  | none => none
def eBR1 (Ty : String) (fl : EvA) (r : R) (e : En) : Option D → Option (D × List D × En)
  | some d => if tyOk Ty d = true then eBR2 r (fl e) else none
  | none => none
def eBR (Ty : String) (fl : EvA) : Option (R × En) → Option (D × List D × En)
  | some (r, e) => eBR1 Ty fl r e (rs e r)
  | none => none
theorem q_eB {Ty : String} : eB Ty fe fl env = eBR Ty fl (fe env) := by
  unfold eB; cases h : fe env with
  | none => rfl
  | some p =>
    simp only [Option.bind_some, eBR]
    cases h2 : rs p.2 p.1 with
    | none => rfl
    | some d =>
      simp only [Option.bind_some, eBR1]
      congr 1
      cases fl p.2 <;> rfl
theorem q_eB1 {Ty : String} : eBR Ty fl (some (r, e)) = eBR1 Ty fl r e (rs e r) := rfl
theorem q_eBs {y : Str} : eBR1 "str" fl r e (some (.str y)) = eBR2 r (fl e) := rfl
theorem q_eBl : eBR1 "list" fl r e (some (.list ds)) = eBR2 r (fl e) := rfl
def eBR3 (e : En) : Option D → Option (List D) → Option (D × List D × En)
  | some d, some ds => some (d, ds, e)
  | _, _ => none
theorem q_eB2 : eBR2 r (some (l, e)) = eBR3 e (rs e r) (rsA e l) := by
  show ((rs e r).bind fun d => Option.map (fun ds => (d, ds, e)) (rsA e l)) = _
  cases rs e r <;> cases rsA e l <;> rfl
theorem q_eB3 : eBR3 e (some d) (some ds) = some (d, ds, e) := rfl
variable {gb : D → List D → Option D} {gbm : D → List D → Option Mu}
variable {M : FnS} {ss : List Sl} {outs : List (Option Mu)}
def cR3 (e : En) (l : List R) (ss : List Sl) : Option (Ret × List (Option Mu)) → Option (Sum R Mu × En)
  | some (q, outs) => if ouOk ss outs = true then (match q with | .val d => some (.inl (.val d), updO e l outs) | .new m => some (.inr m, updO e l outs)) else none
  | none => none
def cR2 (M : FnS) (e : En) (l : List R) : Option (List Sl) → Option (Sum R Mu × En)
  | some ss => if (ownSlots e l).Nodup then cR3 e l ss (M ss) else none
  | none => none
def cR (M : FnS) : Option (List R × En) → Option (Sum R Mu × En)
  | some (l, e) => cR2 M e l (slArgs e l)
  | none => none
theorem q_call : xCall M fl env = cR M (fl env) := by
  unfold xCall; cases h : fl env with
  | none => rfl
  | some p =>
    simp only [Option.bind_some, cR]
    cases slArgs p.2 p.1 with
    | none => rfl
    | some ss => simp only [Option.bind_some, cR2]; congr 1; cases M ss <;> rfl
theorem q_call1 : cR M (some (l, e)) = cR2 M e l (slArgs e l) := rfl
def cN (e : En) (l : List R) (ss : List Sl) (o : Option (Ret × List (Option Mu))) : Bool → Option (Sum R Mu × En)
  | true => cR3 e l ss o
  | false => none
def nd (l : List Nat) : Bool := decide l.Nodup
theorem q_call2 : cR2 M e l (some ss) = cN e l ss (M ss) (nd (ownSlots e l)) := by
  show (if (ownSlots e l).Nodup then cR3 e l ss (M ss) else none) = _
  by_cases h : (ownSlots e l).Nodup
  · rw [if_pos h, show nd (ownSlots e l) = true from decide_eq_true h]; rfl
  · rw [if_neg h, show nd (ownSlots e l) = false from decide_eq_false h]; rfl
theorem q_cN {o : Option (Ret × List (Option Mu))} : cN e l ss o true = cR3 e l ss o := rfl
theorem q_nd0 : nd [] = true := rfl
theorem q_nd1 : nd [i] = true := decide_eq_true (by simp)
def cO (q : Ret) (e : En) : Bool → Option (Sum R Mu × En)
  | true => match q with | .val d => some (.inl (.val d), e) | .new m => some (.inr m, e)
  | false => none
theorem q_call3 {q : Ret} : cR3 e l ss (some (q, outs)) = cO q (updO e l outs) (ouOk ss outs) := by
  show (if ouOk ss outs = true then _ else none) = _
  cases h : ouOk ss outs <;> cases q <;> rfl
theorem q_cO1 : cO (.val d) e true = some (.inl (.val d), e) := rfl
theorem q_cO2 : cO (.new m) e true = some (.inr m, e) := rfl
def ckR2 (M : FnS) (pm : List R → List R → List R) (l : List R) : Option (List R × En) → Option (Sum R Mu × En)
  | some (w, e) => cR2 M e (pm l w) (slArgs e (pm l w))
  | none => none
def ckR (M : FnS) (pm : List R → List R → List R) (fk : EvA) : Option (List R × En) → Option (Sum R Mu × En)
  | some (l, e) => ckR2 M pm l (fk e)
  | none => none
variable {pm : List R → List R → List R} {fkA : EvA}
theorem q_callK : xCallK M pm fl fkA env = ckR M pm fkA (fl env) := by
  unfold xCallK; cases h : fl env with
  | none => rfl
  | some p =>
    simp only [Option.bind_some, ckR]
    cases h2 : fkA p.2 with
    | none => rfl
    | some w =>
      simp only [Option.bind_some, ckR2]
      cases slArgs w.2 (pm p.1 w.1) with
      | none => rfl
      | some ss => simp only [Option.bind_some, cR2]; congr 1; cases M ss <;> rfl
theorem q_callK1 : ckR M pm fkA (some (l, e)) = ckR2 M pm l (fkA e) := rfl
theorem q_callK2 {w : List R} : ckR2 M pm l (some (w, e)) = cR2 M e (pm l w) (slArgs e (pm l w)) := rfl
theorem q_appR {w : List R} : appR l w = l ++ w := rfl
def slR : Option Sl → Option (List Sl) → Option (List Sl)
  | some (.own _ m), some l => some (.own true m :: l)
  | some (.shr d), some l => some (.shr d :: l)
  | _, _ => none
theorem q_sa0 : slArgs env [] = some [] := rfl
theorem q_sa1 : slArgs env (.val d :: l) = slR (some (.shr d)) (slArgs env l) := by rw [slArgs]; cases slArgs env l <;> rfl
theorem q_sa2 : slArgs env (.slot i :: l) = slR (slOf env i) (slArgs env l) := by
  rw [slArgs]; cases h : slOf env i with
  | none => rfl
  | some s => cases s <;> cases slArgs env l <;> rfl
theorem q_sa3 {ll : List Sl} {p : Bool} : slR (some (.own p m)) (some ll) = some (.own true m :: ll) := rfl
theorem q_sa4 {ll : List Sl} : slR (some (.shr d)) (some ll) = some (.shr d :: ll) := rfl
theorem q_os0 : ownSlots env [] = [] := rfl
theorem q_os1 : ownSlots env (.val d :: l) = ownSlots env l := rfl
def osR (i : Nat) (t : List Nat) : Option (Bool × Mu) → List Nat
  | some _ => i :: t
  | none => t
theorem q_os2 : ownSlots env (.slot i :: l) = osR i (ownSlots env l) (ownOf env i) := by rw [ownSlots]; cases ownOf env i <;> rfl
theorem q_os3 {t : List Nat} {p : Bool × Mu} : osR i t (some p) = i :: t := rfl
theorem q_ou0 : ouOk [] outs = true := by cases outs <;> rfl
theorem q_ou1 {o : Option Mu} : ouOk (.shr d :: ss) (o :: outs) = ouOk ss outs := rfl
theorem q_ou2 {p : Bool} {m' : Mu} : ouOk (.own p m :: ss) (some m' :: outs) = ouOk ss outs := rfl
theorem q_up0 : updO env [] outs = env := by cases outs <;> rfl
theorem q_up1 {o : Option Mu} : updO env (.val d :: l) (o :: outs) = updO env l outs := rfl
def upR (e : En) (i : Nat) (l : List R) (m : Mu) (outs : List (Option Mu)) : Option Sl → En
  | some (.own p _) => updO (e.set i (some (.own p m))) l outs
  | some (.shr _) => updO e l outs
  | none => updO e l outs
theorem q_up2 : updO env (.slot i :: l) (some m :: outs) = upR env i l m outs (slOf env i) := by
  rw [updO]; cases h : slOf env i with
  | none => rfl
  | some s => cases s <;> rfl
theorem q_up3 {p : Bool} {m0 : Mu} : upR env i l m outs (some (.own p m0)) = updO (env.set i (some (.own p m))) l outs := rfl
def cmR2 : Option (List D × En) → Option (Mu × En)
  | some (ds, e) => some (.l ds, e)
  | none => none
def cmR (vs : List Nat) (tg : D → En → Option En) (ft : EvT) (fe : EvE) : Option (List D × En) → Option (Mu × En)
  | some (ds, e) => cmR2 (compE vs tg ft fe ds [] (wipeE e vs))
  | none => none
theorem q_comp {vs : List Nat} : eComp vs fw tg ft fe env = cmR vs tg ft fe (fw env) := by
  unfold eComp; cases h : fw env with
  | none => rfl
  | some p => simp only [Option.bind_some, cmR]; cases compE vs tg ft fe p.1 [] (wipeE p.2 vs) <;> rfl
theorem q_comp1 {vs : List Nat} : cmR vs tg ft fe (some (ds, e)) = cmR2 (compE vs tg ft fe ds [] (wipeE e vs)) := rfl
theorem q_comp2 : cmR2 (some (ds, e)) = some (.l ds, e) := rfl
def cpK (vs : List Nat) (tg : D → En → Option En) (ft : EvT) (fe : EvE) (ds acc : List D) (e : En) : Option D → Option (List D × En)
  | some d => if small acc.length = true then compE vs tg ft fe ds (acc ++ [d]) (wipeE e vs) else none
  | none => none
def cpE (vs : List Nat) (tg : D → En → Option En) (ft : EvT) (fe : EvE) (ds acc : List D) : Option (R × En) → Option (List D × En)
  | some (r, e) => cpK vs tg ft fe ds acc e (rk e r)
  | none => none
def cpT (vs : List Nat) (tg : D → En → Option En) (ft : EvT) (fe : EvE) (ds acc : List D) : Option (Bool × En) → Option (List D × En)
  | some (true, e) => cpE vs tg ft fe ds acc (fe e)
  | some (false, e) => compE vs tg ft fe ds acc (wipeE e vs)
  | none => none
def cpG (vs : List Nat) (tg : D → En → Option En) (ft : EvT) (fe : EvE) (ds acc : List D) : Option En → Option (List D × En)
  | some e => cpT vs tg ft fe ds acc (ft e)
  | none => none
section
variable {vs : List Nat} {acc : List D}
theorem q_cp0 : compE vs tg ft fe [] acc env = some (acc, env) := rfl
theorem q_cpc : compE vs tg ft fe (d :: ds) acc env = cpG vs tg ft fe ds acc (tg d env) := by
  rw [compE]; cases h : tg d env with
  | none => rfl
  | some e =>
    simp only [Option.bind_some, cpG]
    cases h2 : ft e with
    | none => rfl
    | some p =>
      obtain ⟨b, e2⟩ := p
      cases b with
      | false => rfl
      | true =>
        simp only [Option.bind_some, cpT, if_true]
        cases h3 : fe e2 with
        | none => rfl
        | some q => simp only [Option.bind_some, cpE]; cases h4 : rk q.2 q.1 <;> rfl
theorem q_cpg : cpG vs tg ft fe ds acc (some e) = cpT vs tg ft fe ds acc (ft e) := rfl
theorem q_cpt : cpT vs tg ft fe ds acc (some (true, e)) = cpE vs tg ft fe ds acc (fe e) := rfl
theorem q_cpf : cpT vs tg ft fe ds acc (some (false, e)) = compE vs tg ft fe ds acc (wipeE e vs) := rfl
theorem q_cpe : cpE vs tg ft fe ds acc (some (r, e)) = cpK vs tg ft fe ds acc e (rk e r) := rfl
theorem q_cpk (h : acc.length ≤ 1000000) : cpK vs tg ft fe ds acc e (some d) = compE vs tg ft fe ds (acc ++ [d]) (wipeE e vs) := if_pos (decide_eq_true h)
end
theorem q_wi0 : wipeE env [] = env := rfl
theorem q_wi1 {v : Nat} {vs : List Nat} : wipeE env (v :: vs) = (wipeE env vs).set v none := rfl
def waR2 (e : En) : Option D → Option (List D × En)
  | some (.list ds) => some (ds, e)
  | some (.tuple ds) => some (ds, e)
  | some (.str x) => some (signs x, e)
  | _ => none
def waR : Option (R × En) → Option (List D × En)
  | some (r, e) => waR2 e (rk e r)
  | none => none
theorem q_wa : wAny fe env = waR (fe env) := by
  unfold wAny; cases h : fe env with
  | none => rfl
  | some p =>
    simp only [Option.bind_some, waR]
    cases rk p.2 p.1 with
    | none => rfl
    | some d => cases d <;> rfl
theorem q_wa1 : waR (some (r, e)) = waR2 e (rk e r) := rfl
theorem q_wa2 : waR2 e (some (.list ds)) = some (ds, e) := rfl
theorem q_wa3 : waR2 e (some (.tuple ds)) = some (ds, e) := rfl
theorem q_wa4 {y : Str} : waR2 e (some (.str y)) = some (signs y, e) := rfl
def r1R1 (e : En) : List D → Option (List D × En)
  | [.int j] => if okR j = true then some (rangeD 0 j.toNat, e) else none
  | _ => none
def r1R : Option (List D × En) → Option (List D × En)
  | some (l, e) => r1R1 e l
  | none => none
theorem q_r1 : wRng1 fl env = r1R (eA fl env) := by unfold wRng1; cases eA fl env <;> rfl
theorem q_r11 {k : Int} (h : -4611686018427387904 ≤ k) (h2 : k < 4611686018427387904) : r1R (some ([.int k], e)) = some (rangeD 0 k.toNat, e) := if_pos (decide_eq_true ⟨h, h2⟩)
theorem q_oN : oNone env = some (none, env) := rfl
def oSR : Option (D × En) → Option (Option Int × En)
  | some (.int i, e) => some (some i, e)
  | _ => none
theorem q_oS : oSome fe env = oSR (e1 fe env) := by
  unfold oSome; cases h : e1 fe env with
  | none => rfl
  | some p => obtain ⟨d, e⟩ := p; cases d <;> rfl
theorem q_oS1 {k : Int} : oSR (some (.int k, e)) = some (some k, e) := rfl
def slR4 (e : En) (lo hi : Option Int) : Option D → Option (Sum R Mu × En)
  | some d => match dSl d lo hi with
    | some z => some (.inl (.val z), e)
    | none => (dSlL d lo hi).map fun m => (.inr m, e)
  | none => none
def slR3 (r : R) (lo : Option Int) : Option (Option Int × En) → Option (Sum R Mu × En)
  | some (hi, e) => slR4 e lo hi (rs e r)
  | none => none
def slR2 (fh : EvO) (r : R) : Option (Option Int × En) → Option (Sum R Mu × En)
  | some (lo, e) => slR3 r lo (fh e)
  | none => none
def slR1 (fl fh : EvO) : Option (R × En) → Option (Sum R Mu × En)
  | some (r, e) => slR2 fh r (fl e)
  | none => none
variable {flo fhi : EvO}
theorem q_sl : xSl fe flo fhi env = slR1 flo fhi (fe env) := by
  unfold xSl e3; cases h : fe env with
  | none => rfl
  | some p =>
    simp only [Option.bind_some, slR1]
    cases h2 : flo p.2 with
    | none => rfl
    | some l =>
      simp only [Option.bind_some, slR2]
      cases h3 : fhi l.2 with
      | none => rfl
      | some u =>
        simp only [Option.bind_some, slR3]
        cases h4 : rs u.2 p.1 with
        | none => rfl
        | some d => simp only [Option.map_some, Option.bind_some, slR4] <;> rfl
theorem q_sl1 : slR1 flo fhi (some (r, e)) = slR2 fhi r (flo e) := rfl
theorem q_sl2 {lo : Option Int} : slR2 fhi r (some (lo, e)) = slR3 r lo (fhi e) := rfl
theorem q_sl3 {lo hi : Option Int} : slR3 r lo (some (hi, e)) = slR4 e lo hi (rs e r) := rfl
theorem q_slL {lo hi : Option Int} : slR4 e lo hi (some (.list ds)) = some (.inr (.l (cutD ds lo hi)), e) := rfl
theorem q_slT {lo hi : Option Int} : slR4 e lo hi (some (.tuple ds)) = some (.inl (.val (.tuple (cutD ds lo hi))), e) := rfl
theorem q_slS {lo hi : Option Int} {y : Str} (h : y.length ≤ 1000000) : slR4 e lo hi (some (.str y)) = some (.inl (.val (.str (cutS y lo hi))), e) := by
  have h2 : small y.length = true := decide_eq_true h
  simp [slR4, dSl, h2]
variable {h1 h2 : D → D → Option D}
def landR (fb : EvE) : Option (D × En) → Option (R × En)
  | some (.bool true, e) => fb e
  | some (.bool false, e) => some (.val (.bool false), e)
  | _ => none
theorem q_land : eAnd fa fb env = landR fb (e1 fa env) := by
  unfold eAnd; cases h : e1 fa env with
  | none => rfl
  | some p =>
    obtain ⟨d, e⟩ := p
    cases d with
    | bool b => cases b <;> rfl
    | _ => rfl
theorem q_land1 : landR fb (some (.bool true, e)) = fb e := rfl
theorem q_land2 : landR fb (some (.bool false, e)) = some (.val (.bool false), e) := rfl
theorem c_sub {i j : Int} : dSub (.int i) (.int j) = some (.int (i - j)) := rfl
theorem c_lt {i j : Int} : dLt (.int i) (.int j) = some (.bool (decide (i < j))) := rfl
theorem c_gt {i j : Int} : dGt (.int i) (.int j) = some (.bool (decide (j < i))) := rfl
theorem c_ge {i j : Int} : dGe (.int i) (.int j) = some (.bool (decide (j ≤ i))) := rfl
theorem c_neg {i : Int} : dNeg (.int i) = some (.int (-i)) := rfl
theorem c_mod {i j : Int} (h : 0 < j) : dMod (.int i) (.int j) = some (.int (i % j)) := by simp [dMod, dI, h]
theorem c_div {i j : Int} (h : 0 < j) (h2 : j < 1073741824) : dDiv (.int i) (.int j) = some (.int (i / j)) := by simp [dDiv, dI, h, h2]
theorem c_pow {i j : Int} (h : 0 ≤ j) (h1 : j ≤ 1000000) (h2 : i.natAbs < 18446744073709551616) : dPow (.int i) (.int j) = some (.int (i ^ j.toNat)) := by simp [dPow, dI, h, h1, h2]
theorem c_mulL {i j : Int} (h : -18446744073709551616 < i) (h2 : i < 18446744073709551616) : dMul (.int i) (.int j) = some (.int (i * j)) := by simp [dMul, dI, h, h2]
theorem c_mulR {i j : Int} (h : -18446744073709551616 < j) (h2 : j < 18446744073709551616) : dMul (.int i) (.int j) = some (.int (i * j)) := by simp [dMul, dI, h, h2]
theorem c_eqI {i j : Int} : dEq (.int i) (.int j) = some (.bool (decide (i = j))) := rfl
theorem c_neI {i j : Int} : dNe (.int i) (.int j) = some (.bool (!decide (i = j))) := rfl
theorem c_eqT {i j : Str} : dEq (.str i) (.str j) = some (.bool (decide (i = j))) := rfl
theorem c_neT {i j : Str} : dNe (.str i) (.str j) = some (.bool (!decide (i = j))) := rfl
theorem c_eqS (h : sc d d' = false) (h1 : SeqAt.shaped d = true) (h2 : SeqAt.shaped d' = true) : dEq d d' = some (.bool (PyData.eqv d d')) := by simp [dEq, dEqB, h, h1, h2]
theorem c_neS (h : sc d d' = false) (h1 : SeqAt.shaped d = true) (h2 : SeqAt.shaped d' = true) : dNe d d' = some (.bool (!PyData.eqv d d')) := by simp [dNe, dEqB, h, h1, h2]
theorem c_scL : sc (.list ds) (.list es) = false := rfl
theorem c_scT : sc (.tuple ds) (.tuple es) = false := rfl
theorem c_eqL0 (h : SeqAt.shaped (.list ds) = true) : dEq (.list ds) (.list []) = some (.bool ds.isEmpty) := by
  rw [c_eqS rfl h (by decide)]; cases ds <;> simp [PyData.eqv, PyData.eqvAll]
theorem c_neL0 (h : SeqAt.shaped (.list ds) = true) : dNe (.list ds) (.list []) = some (.bool (!ds.isEmpty)) := by
  rw [c_neS rfl h (by decide)]; cases ds <;> simp [PyData.eqv, PyData.eqvAll]
theorem c_inL (h1 : SeqAt.shaped d = true) (h2 : SeqAt.shaped (.list ds) = true) : dIn d (.list ds) = some (.bool (ds.any fun z => PyData.eqv z d)) := by cases d <;> simp_all [dIn, dInB]
theorem c_inS {x y : Str} : dIn (.str x) (.str y) = some (.bool (!(Builtin.Str.occurrences y x 0 y.length 1).isEmpty)) := rfl
theorem c_addI {i j : Int} : dAddX (.int i) (.int j) = some (.inl (.int (i + j))) := rfl
theorem c_addS {x y : Str} (h : x.length + y.length ≤ 1000000) : dAddX (.str x) (.str y) = some (.inl (.str (x ++ y))) := by simp [dAddX, dAdd, small, h]
theorem c_addT (h : ds.length + es.length ≤ 1000000) : dAddX (.tuple ds) (.tuple es) = some (.inl (.tuple (ds ++ es))) := by simp [dAddX, dAdd, small, h]
theorem c_addL (h : ds.length + es.length ≤ 1000000) : dAddX (.list ds) (.list es) = some (.inr (.l (ds ++ es))) := by simp [dAddX, dAdd, dAddM, small, h]
theorem c_app (h : ds.length ≤ 1000000) : gApp (.l ds) [d] = some (.l (ds ++ [d]), .none) := by simp [gApp, small, h]
theorem c_intI {i : Int} : cInt [.int i] = some (.int i) := rfl
theorem c_intB : cInt [.bool b] = some (.int (if b then 1 else 0)) := rfl
theorem c_intS {y : Str} {n : Int} (h : PySem.intText? y = some n) (h2 : y.length ≤ 640) : cInt [.str y] = some (.int n) := by simp [cInt, h, h2]
theorem c_abs {i : Int} : cAbs [.int i] = some (.int (if i < 0 then -i else i)) := rfl
theorem c_lenL : cLen [.list ds] = some (.int ds.length) := rfl
theorem c_lenT : cLen [.tuple ds] = some (.int ds.length) := rfl
theorem c_lenS {x : Str} (h : x.length ≤ 1000000) : cLen [.str x] = some (.int x.length) := by simp [cLen, small, h]
theorem c_listL : cList [.list ds] = some (.l ds) := rfl
theorem c_listT : cList [.tuple ds] = some (.l ds) := rfl
theorem c_tupL : cTuple [.list ds] = some (.tuple ds) := rfl
theorem c_tupT : cTuple [.tuple ds] = some (.tuple ds) := rfl
theorem c_ixL {i : Int} : dIx (.list ds) (.int i) = atI ds i := rfl
theorem c_ixT {i : Int} : dIx (.tuple ds) (.int i) = atI ds i := rfl
theorem c_ixS {i : Int} {y : Str} (h : y.length ≤ 1000000) : dIx (.str y) (.int i) = (atI y.cps.toList i).map fun c => .str ⟨#[c]⟩ := by simp [dIx, small, h]
theorem c_at {i : Int} (h : 0 ≤ i) (h2 : i < ds.length) : atI ds i = ds[i.toNat]? := by simp [atI, ixN, h, h2]
theorem c_set {i : Int} (h : 0 ≤ i) (h2 : i < ds.length) : gSetL (.l ds) (.int i) d = some (.l (ds.set i.toNat d)) := by simp [gSetL, ixN, h, h2]
theorem strsOf_map (ys : List Str) : strsOf (ys.map .str) = some ys := by induction ys <;> simp_all [strsOf]
def runR (ss : List Sl) : Option (Fl × En) → Option (Ret × List (Option Mu))
  | some (.rt r, e) => (outsE ss e).map fun o => (r, o)
  | some (.nx, e) => (outsE ss e).map fun o => (.val .none, o)
  | _ => none
theorem q_run {n : Nat} {bb : EvS} : runB n bb ss = runR ss (bb (env0 n ss)) := by
  unfold runB; cases h : bb (env0 n ss) with
  | none => rfl
  | some p => obtain ⟨fl, e⟩ := p; cases fl <;> rfl
theorem q_run1 {q : Ret} : runR ss (some (.rt q, e)) = (outsE ss e).map fun o => (q, o) := rfl
theorem q_run2 : runR ss (some (.nx, e)) = (outsE ss e).map fun o => (.val .none, o) := rfl
theorem q_ouE0 : outsE [] env = some [] := by cases env <;> rfl
theorem q_ouE1 {o : Option Sl} : outsE (.shr d :: ss) (o :: env) = (outsE ss env).map fun l => none :: l := rfl
theorem q_ouE2 {p : Bool} {m' : Mu} : outsE (.own p m :: ss) (some (.own true m') :: env) = (outsE ss env).map fun l => some m' :: l := rfl
end
end GD

namespace GD
open PySem PySem.Spec PyProof.Rows L2
section
variable {X : Cx}
end
section
variable {K : PySem.W.Frag} {te : TE} {fe : EvE}
def cMin2 : List D → Option D
  | [.int i, .int j] => some (.int (if j < i then j else i))
  | _ => none
theorem cd_min2 : CaD K (fun xs H Q => ∃ i j, xs = [.int i, .int j] ∧ Q (.int (if j < i then j else i)) H) cMin2 := by
  intro O H xs ds z hO l hz Q q
  match ds, hz, l with
  | [.int i, .int j], hz, l =>
    cases hz
    obtain ⟨v, w, rfl, h, h2⟩ := LvAll.two l
    cases Rp.sc h
    cases Rp.sc h2
    exact ⟨i, j, rfl, q _ H Ext.refl (.int _)⟩
theorem c_min2 {i j : Int} : cMin2 [.int i, .int j] = some (.int (if j < i then j else i)) := rfl
end
end GD

namespace GD
open PySem PySem.Spec PyProof.Rows L2
def strRep (a : Str) (k : Int) : Str := if (k == 1 || a.length == 0) = true then a else ⟨(List.replicate k.toNat a.cps).foldl (· ++ ·) #[]⟩
def rRepS : R2 := fun x y H Q => ∃ a k, x = .str a ∧ y = .int k ∧ 1 ≤ k ∧ k ≤ 1000 ∧ a.length ≤ 1000 ∧ Q (.str (strRep a k)) H
theorem op_repS {X : Cx} : OpR X (binaryOp .Mult) rRepS := by
  intro pins s σ H x y v u Q I rx ry h
  obtain ⟨a, k, rfl, rfl, h1, h2, h3, q⟩ := h
  obtain ⟨t, rfl⟩ := rx
  obtain ⟨t', rfl⟩ := ry
  have hk : ¬ k < 1 := by omega
  have hdiv : (9223372036854775 : Int) ≤ (2 ^ 63 - 1) / k := by
    rw [Int.le_ediv_iff_mul_le (by omega)]
    have : 9223372036854775 * k ≤ 9223372036854775 * 1000 := Int.mul_le_mul_of_nonneg_left h2 (by omega)
    omega
  have hmul : a.length * k.toNat ≤ 1000 * 1000 := Nat.mul_le_mul h3 (by omega)
  refine PySem.P.mul_str (by
    rw [decide_eq_false (show ¬ k < -(2 ^ 63 : Int) by omega), decide_eq_false (show ¬ k ≥ (2 ^ 63 : Int) by omega)]; rfl) (fun _ _ => by omega) (fun _ _ => ?_) ?_
  · unfold Builtin.Str.tooLong; rw [sizeLine_eq]; exact decide_eq_false (by omega)
  · rw [if_neg hk]
    unfold strRep at q
    by_cases hc : (k == 1 || a.length == 0) = true
    · rw [if_pos hc] at q ⊢
      exact ⟨.str a, H, I, ⟨_, rfl⟩, q⟩
    · rw [if_neg hc] at q ⊢
      refine ⟨?_, .str _, H, I.tok _, ⟨_, rfl⟩, q⟩
      have hlen : ∀ (n : Nat) (b : Array Nat), ((List.replicate n a.cps).foldl (· ++ ·) b).size = b.size + n * a.cps.size := by
        intro n
        induction n with
        | zero => intro b; simp
        | succ n ih => intro b; rw [List.replicate_succ, List.foldl_cons, ih, Array.size_append, Nat.succ_mul]; omega
      have e := hlen k.toNat #[]
      have h4 : k.toNat * a.cps.size ≤ 1000 * 1000 := Nat.mul_le_mul (by omega) h3
      show ((List.replicate k.toNat a.cps).foldl (· ++ ·) #[]).size ≤ sizeLine
      rw [e, sizeLine_eq]
      simp only [List.size_toArray, List.length_nil]
      omega
section
variable {K : PySem.W.Frag} {ta tb : TE} {fa fb : EvE}
def dMulS : D → D → Option D
  | .str a, .int k => if decide (1 ≤ k ∧ k ≤ 1000 ∧ a.length ≤ 1000) = true then some (.str (strRep a k)) else none
  | _, _ => none
theorem od_mulS : OpD K rRepS dMulS := by
  intro O H x y d e z hO l1 l2 hz Q q
  match d, e, hz, l1, l2 with
  | .str a, .int k, hz, l1, l2 =>
    simp only [dMulS] at hz
    split at hz
    · rename_i h
      cases hz
      have h := of_decide_eq_true h
      cases Rp.scS l1
      cases Rp.sc l2
      exact ⟨a, k, rfl, rfl, h.1, h.2.1, h.2.2, q _ H Ext.refl (.str _)⟩
    · cases hz
theorem c_mulS {a : Str} {k : Int} (h : 1 ≤ k) (h2 : k ≤ 1000) (h3 : a.length ≤ 1000) : dMulS (.str a) (.int k) = some (.str (strRep a k)) := if_pos (decide_eq_true ⟨h, h2, h3⟩)
end
section
variable {K : PySem.W.Frag}
end
def ordA {α : Type} (rev : Bool) (ws : List α) : List α := if rev = true then ws.reverse else ws
def selA {α : Type} (a b : Nat) (rev : Bool) (us ws : List α) : List α := if (decide (us.length = a) && decide (ws.length = b)) = true then us ++ ordA rev ws else []
theorem RvAll.len {K : PySem.W.Frag} {F : Frm} {T : Addr → Prop} {H : Hp} {env : En} {σ : L2.St} : ∀ {us : List V} {w : List R}, RvAll K F T H env σ us w → us.length = w.length
  | [], [], _ => rfl
  | u :: us, r :: w, h => by rw [List.length_cons, List.length_cons, RvAll.len h.2]
  | [], _ :: _, h => h.elim
  | _ :: _, [], h => h.elim
theorem RvAll.rev {K : PySem.W.Frag} {F : Frm} {T : Addr → Prop} {H : Hp} {env : En} {σ : L2.St} : ∀ {us : List V} {w : List R}, RvAll K F T H env σ us w → RvAll K F T H env σ us.reverse w.reverse
  | [], [], _ => trivial
  | u :: us, r :: w, h => by
    rw [List.reverse_cons, List.reverse_cons]
    exact appR_ok (vs := us.reverse) (us := [u]) (l := w.reverse) (w := [r]) (RvAll.rev h.2) ⟨h.1, trivial⟩
  | [], _ :: _, h => h.elim
  | _ :: _, [], h => h.elim
theorem selR_ok {a b : Nat} {rev : Bool} {K : PySem.W.Frag} {F : Frm} {T : Addr → Prop} {H : Hp} {env : En} {σ : L2.St} {vs us : List V} {l w : List R} (h : RvAll K F T H env σ vs l) (q : RvAll K F T H env σ us w) : RvAll K F T H env σ (selA a b rev vs us) (selA a b rev l w) := by
  unfold selA
  rw [h.len, q.len]
  split
  · refine appR_ok h ?_
    unfold ordA
    cases rev with
    | true => exact q.rev
    | false => exact q
  · trivial
theorem vals_rev : ∀ {us : List V} {ws : List Value}, Vals us ws → Vals us.reverse ws.reverse
  | _, _, .nil => .nil
  | _, _, .cons r t => by
    rw [List.reverse_cons, List.reverse_cons]
    exact (vals_rev t).append (.cons r .nil)
theorem kb_sel {a b : Nat} {rev : Bool} {K : PySem.W.Frag} {x qual : Str} {st : Stmt} {f : Addr} {fd : FuncData} {ps ks : List Str} (F : Fun K x qual st f fd) (hp : ps.length = a + b) (hp0 : 0 < a + b)
    (h : ∀ (kV doc pm : Value) (an : Option Addr) (cdv ct : Value) (us ws : List Value), us.length = a → ws.length = b → bindArgs (PySem.W.fnOf x qual (defArgs st) (defBody st) (defScope st) .none kV doc pm an cdv ct) ⟨us, ks.zip ws⟩ = pure (ps.zip (us ++ ordA rev ws))) :
    KBinds K fd ps ks (selA a b rev) (selA a b rev) := by
  obtain ⟨oc, od, kV, doc, pm, an, cdv, ct, osl, rfl, lk, hcd⟩ := F.ex
  refine ⟨fun s us ws _ hl => ?_, fun r q => ?_⟩
  · unfold selA at hl ⊢
    by_cases hc : (decide (us.length = a) && decide (ws.length = b)) = true
    · rw [if_pos hc]
      rw [Bool.and_eq_true] at hc
      exact .of_eq (h kV doc pm an cdv ct us ws (of_decide_eq_true hc.1) (of_decide_eq_true hc.2))
    · rw [if_neg hc] at hl
      simp only [List.length_nil] at hl
      omega
  · unfold selA
    rw [r.length, q.length]
    split
    · refine Vals.append r ?_
      unfold ordA
      cases rev with
      | true => exact vals_rev q
      | false => exact q
    · exact .nil
theorem lenS {a b c : Nat} {rev : Bool} {fl fk : EvA} (h : lenOk a fl) (h' : lenOk b fk) (e : a + b = c) : ∀ env l e1 w e2, fl env = some (l, e1) → fk e1 = some (w, e2) → (selA a b rev l w).length = c := fun env l e1 w e2 p q => by
  have h1 := h _ _ _ p
  have h2 := h' _ _ _ q
  unfold selA
  rw [if_pos (by rw [decide_eq_true h1, decide_eq_true h2]; rfl), List.length_append]
  unfold ordA
  cases rev
  · rw [if_neg (by simp), h1, h2, e]
  · rw [if_pos rfl, List.length_reverse, h1, h2, e]
section
variable {α : Type} {x y z : α}
theorem q_s01 : selA 0 1 false [] [x] = [x] := by
  unfold selA ordA; simp
theorem q_s11 : selA 1 1 false [x] [y] = [x, y] := by
  unfold selA ordA; simp
theorem q_s02 : selA 0 2 false [] [x, y] = [x, y] := by
  unfold selA ordA; simp
theorem q_s02r : selA 0 2 true [] [x, y] = [y, x] := by
  unfold selA ordA; simp
theorem q_s12 : selA 1 2 false [x] [y, z] = [x, y, z] := by
  unfold selA ordA; simp
theorem q_s12r : selA 1 2 true [x] [y, z] = [x, z, y] := by
  unfold selA ordA; simp
theorem q_s21 : selA 2 1 false [x, y] [z] = [x, y, z] := by
  unfold selA ordA; simp
theorem q_s03 : selA 0 3 false [] [x, y, z] = [x, y, z] := by
  unfold selA ordA; simp
theorem q_s03r : selA 0 3 true [] [x, y, z] = [z, y, x] := by
  unfold selA ordA; simp
end
end GD

namespace GD
open PySem PySem.Spec PyProof.Rows L2
theorem enum_new1 {v : Value} {o : Obj} {S : Heap → Prop} (B : Begins v o S) :
    Meets (Builtin.«enumerate.__new__» ⟨[.type "enumerate", v], []⟩) (fun _ R s => S s.heap ∧
      R (.ok (.ret (.ref (s.heap.push o).objs.size))) { s with heap := (s.heap.push o).push { cls := .type "enumerate", data := .fields #[.none, .bool false, .ref s.heap.objs.size, rawInt 0, .none, .none] } }) :=
  .of_wp fun prog w A R s h => by
    obtain ⟨hp, g, d, tk, os⟩ := s
    obtain ⟨h1, h⟩ := h
    have sb := sub_enumerate
    have q1 : ∀ {A' : Around} {E : Value → Shared → Prop} {Q : Value → Shared → Prop}, Q (.ref hp.objs.size) ⟨hp.push o, g, d, tk, os⟩ → wpAny (model prog w) A' (pyIter v) Q E ⟨hp, g, d, tk, os⟩ := fun q => B.iter prog w _ _ ⟨hp, g, d, tk, os⟩ _ h1 q
    wp_walk using q1
    refine wpAny_stack_any fun st => wpAny_pure ?_
    split
    · rename_i c _ _ _ _ _
      cases (c == Value.type "enumerate") <;> (wp_walk using q1; exact ⟨_, rfl, h⟩)
    · wp_walk using q1
      exact ⟨_, rfl, h⟩
section
variable {prog : Program} {w : World} {A : Around} {E : Value → Shared → Prop} {s : Shared}
theorem enum_call1 {v : Value} {o : Obj} {S : Heap → Prop} {Q : Value → Shared → Prop} (B : Begins v o S) (h1 : S s.heap)
    (h : ∀ h', IsEnum h' (s.heap.objs.size + 1) s.heap.objs.size 0 .none → h'.get? s.heap.objs.size = some o → (∀ b u, s.heap.get? b = some u → h'.get? b = some u) → Q (.ref (s.heap.objs.size + 1)) { s with heap := h' }) :
    wpAny (model prog w) A (call (.type "enumerate") [v]) Q E s := by
  refine callType_new F.called_enumerate (by decide) (F.typeCall_enumerate_1 _) (F.newCall_enumerate_1 _) (fun obj => F.args_object_init_2 obj _) F.entry_enumerate_new (enum_new1 B) ⟨h1, ?_⟩
  have hz : (s.heap.push o).objs.size = s.heap.objs.size + 1 := Heap.size_push ..
  show _ ∧ _
  rw [hz]
  have hee := Heap.get?_push_size (s.heap.push o) (o := { cls := .type "enumerate", data := .fields #[.none, .bool false, .ref s.heap.objs.size, rawInt 0, .none, .none] }) rfl
  rw [hz] at hee
  exact ⟨⟨_, hee, rfl⟩, h _ hee (Heap.get?_push_of_some _ (Heap.get?_push_size _ B.free)) fun b u x => Heap.get?_push_of_some _ (Heap.get?_push_of_some _ x)⟩
end
def Jte (K : PySem.W.Frag) (a : Addr) : It :=
  ⟨fun i H => ∃ (xs : List V) (x : V), SqT K H a xs ∧ xs[i]? = some x, fun i H v H' => ∃ T x, v = .ref T ∧ H T = none ∧ H' = upd H T (.tup [.int (i : Nat), x]) ∧ ∀ xs, SqT K H a xs → xs[i]? = some x, fun i H => ∃ xs : List V, SqT K H a xs ∧ xs.length ≤ i⟩
theorem turn_enumT {P : Program} {w : World} {K : PySem.W.Frag} {elts : List Expr} {kk : Nat} {tpos : Pos} (a e it : Addr) :
    Turn P w K (.Tuple elts kk tpos) (Jte K a) [e, it] e (fun i h => (∃ old, IsEnum h e it ((i : Nat) : Int) old) ∧ h.IsTupleIter it a i ∧ e ≠ it ∧ a ≠ it ∧ a ≠ e) where
  mem := by simp
  obj := fun i h st b hb => by
    obtain ⟨⟨old, he⟩, ⟨o, ho, hc, hd⟩, _⟩ := st
    have hbb : b = e ∨ b = it := by simpa using hb
    rcases hbb with rfl | rfl
    · exact ⟨_, he, fun v q => nomatch q⟩
    · exact ⟨o, ho, fun v q => by rw [hd] at q; cases q⟩
  keep := fun i h h' st k => by
    obtain ⟨⟨old, he⟩, ⟨o, ho, hc⟩, hne, n1, n2⟩ := st
    exact ⟨⟨old, k e (by simp) _ he⟩, ⟨o, k it (by simp) _ ho, hc⟩, hne, n1, n2⟩
  item := by
    intro X hP hw hK hc i pins s σ H E I hf st hg
    subst hP hw hK
    obtain ⟨⟨old, he⟩, hit, hne, na, nb⟩ := st
    obtain ⟨xs, x, hq, hx⟩ := hg
    obtain ⟨its, rv, p, hz⟩ := I.tuple hq
    obtain ⟨u, hu, ru⟩ := rv.get hx
    have hel : e < s.heap.objs.size := Heap.lt_size he
    have hil : it < s.heap.objs.size := by obtain ⟨_, q, _⟩ := hit; exact Heap.lt_size q
    have hlt : i < its.toArray.size := by
      have := List.getElem?_eq_some_iff.mp hu
      obtain ⟨q, _⟩ := this
      simpa using q
    refine wpAny_pyNext_enum_itemD (Draws.tuple (A := X.A.in1) (I.ok.hd hc) it a na its.toArray) he ⟨hit, p⟩ hlt hne (by simp [hne, Ne.symm nb]) fun y h' tk hy ho hst hT hsz hk => ?_
    have hyu : y = u := by
      have e1 : its.toArray[i]? = some u := by simpa using hu
      rw [e1] at hy; cases hy; rfl
    subst hyu
    refine ⟨_, rfl, wpAny_letOwnedTupleGo_enum (s := { s with heap := h', toks := tk + 1 }) ho fun h'' he' sb => ?_⟩
    have hT2 : h''.get? s.heap.objs.size = some { cls := .type "tuple", data := .seq #[.int i tk, y] } := (sb.2 _ (Nat.ne_of_gt hel)).trans hT
    have new : ObjOk X.prog X.w (upd H s.heap.objs.size (.tup [.int (i : Nat), x])) h'' s.heap.objs.size (.tup [.int (i : Nat), x]) :=
      ⟨by show 2 ≤ sizeLine; decide, [.int i tk, y], .cons ⟨_, rfl⟩ (.cons ru .nil), ⟨_, hT2, rfl, _, rfl⟩⟩
    have I1 : Inv X pins σ (upd H s.heap.objs.size (.tup [.int (i : Nat), x])) { s with heap := h'', toks := tk + 1 } :=
      I.turnedNew (ch := [e, it]) (fun b ob hb q => (sb.2 b (fun z => hb (by simp [z]))).trans (hk b ob (fun z => hb (by simp [z])) (fun z => hb (by simp [z])) q)) hf (Nat.le_refl _) new
    obtain ⟨⟨oi, hoi, hci⟩, _⟩ := hst
    refine ⟨.ref s.heap.objs.size, _, I1, rfl, ⟨_, x, rfl, I.hok.fresh (Nat.le_refl _), rfl, fun ys hy => by rw [I.tuple_inj hy hq]; exact hx⟩, ⟨⟨y, ?_⟩, ⟨oi, (sb.2 it (Ne.symm hne)).trans hoi, hci⟩, hne, na, nb⟩, fun b hb => ?_⟩
    · rw [show ((i + 1 : Nat) : Int) = (i : Int) + 1 by omega]; exact he'
    · have hbs : b < s.heap.objs.size := by
        have hbb : b = e ∨ b = it := by simpa using hb
        rcases hbb with rfl | rfl
        · exact hel
        · exact hil
      rw [upd_ne (Nat.ne_of_lt hbs)]
      exact (hf b hb).1
  done := by
    intro X hP hw hK hc i pins s σ H E I hf st hg
    subst hP hw hK
    obtain ⟨⟨old, he⟩, hit, hne, na, nb⟩ := st
    obtain ⟨xs, hq, hx⟩ := hg
    obtain ⟨its, rv, p, hz⟩ := I.tuple hq
    obtain ⟨f0, f1, f2, f3, f4, f5⟩ := hf it (by simp)
    have hl := rv.length
    have D0 : Draws X.prog X.w X.A.in1 it [it, a] 0 (fun _ _ => False) (fun j h => h.IsTupleIter it a (i + j) ∧ h.IsTuple a its.toArray) :=
      { live := fun _ _ st => let ⟨o, ho, _⟩ := st.1; ⟨o, ho⟩
        frame := fun j h h' st hk => by
          obtain ⟨⟨o, ho, h1⟩, ⟨o2, ho2, h2⟩⟩ := st
          exact ⟨⟨o, hk it (by simp) _ ho, h1⟩, ⟨o2, hk a (by simp) _ ho2, h2⟩⟩
        item := fun j s Q E hj => by omega
        done := fun s Q E st hE => wpAny_nextOf_tuple_end (I.ok.hd hc) st.1 st.2 (by simp; omega) hE }
    exact wpAny_pyNext_enum_endD D0 he ⟨hit, p⟩ fun h' eb => ⟨rfl, I.turned (t' := s.toks) (fun b o hb q => eb b o hb q) f0 f1 f3 f4 f5⟩
  self := fun A i s Q E st h => by
    obtain ⟨⟨old, he⟩, _⟩ := st
    exact wpAny_pyIter_enum he h
def jEnum (K : PySem.W.Frag) (ta : TA) : TI := fun σ H R => ta σ H fun vs H1 => ∃ a xs, vs = [.ref a] ∧ ((SqL K H1 a xs ∧ R (Ite K a) H1) ∨ (SqT K H1 a xs ∧ R (Jte K a) H1))
theorem pi_enumA {X : Cx} {e : Expr} {ta : TA} {p pos tpos : Pos} {elts : List Expr} {kk : Nat} (hg : Gl X "enumerate") (hm : X.mg "enumerate" = none) (ha : PA X [e] ta) (hs : starEach [e] X.env = [(false, eval e X.env)] := by rfl) :
    PI X (.Tuple elts kk tpos) (.Call (.Name "enumerate" p) [e] [] pos) (jEnum X.K ta) := by
  refine ⟨fun pins s σ H R I h => ?_⟩
  refine Call_ (ld_blt I hg hm boot_enumerate (PyProof.Rows.callWith_type1 (thn (ha.run pos pins s σ H _ I h) fun us s1 ⟨vs, H1, I1, r1, q1⟩ => ?_) hs rfl))
  obtain ⟨a, xs, rfl, q⟩ := q1
  cases r1 with
  | cons r rr =>
    cases rr
    cases r
    have fps : ∀ b, b ∈ [s1.heap.objs.size + 1, s1.heap.objs.size] → s1.heap.objs.size ≤ b := fun b hb => by
      have hbb : b = s1.heap.objs.size + 1 ∨ b = s1.heap.objs.size := by simpa using hb
      omega
    rcases q with ⟨hq, q⟩ | ⟨hq, q⟩
    · obtain ⟨its, rv, pl, hz⟩ := I1.list hq
      refine call_enumerate_list pl.isList fun h' he hit hsz hk => wpAny_pyIter_enum he ?_
      exact ⟨s1.heap.objs.size + 1, [s1.heap.objs.size + 1, s1.heap.objs.size], _, _, H1, rfl, I1.kept (t' := s1.toks) hk, turn_enum a _ _, ⟨⟨.none, he⟩, hit, Nat.succ_ne_self _⟩, fun b hb => I1.fpOk (fps b hb) (I1.hok.fresh (fps b hb)), q⟩
    · obtain ⟨its, rv, pt, hz⟩ := I1.tuple hq
      have hal : a < s1.heap.objs.size := by obtain ⟨o, ho, _⟩ := pt; exact Heap.lt_size ho
      refine enum_call1 (begins_tuple a its.toArray) pt fun h' he hi hk => wpAny_pyIter_enum he ?_
      exact ⟨s1.heap.objs.size + 1, [s1.heap.objs.size + 1, s1.heap.objs.size], _, _, H1, rfl, I1.kept (t' := s1.toks) hk, turn_enumT a _ _, ⟨⟨.none, he⟩, ⟨_, hi, rfl, rfl⟩, Nat.succ_ne_self _, Nat.ne_of_lt hal, Nat.ne_of_lt (Nat.lt_succ_of_lt hal)⟩, fun b hb => I1.fpOk (fps b hb) (I1.hok.fresh (fps b hb)), q⟩
section
variable {K : PySem.W.Frag}
def wEnumA2 (e : En) : List D → Option (List D × En)
  | [.list ds] => some (enumD ds, e)
  | [.tuple ds] => some (enumD ds, e)
  | _ => none
def wEnumA1 (e : En) : Option (List D) → Option (List D × En)
  | some ds => wEnumA2 e ds
  | none => none
def wEnumA0 : Option (List R × En) → Option (List D × En)
  | some (l, e) => wEnumA1 e (rkA e l)
  | none => none
def wEnumA (fl : EvA) : EvW := fun env => wEnumA0 (fl env)
theorem q_wea {fl : EvA} {env : En} : wEnumA fl env = wEnumA0 (fl env) := rfl
theorem q_wea0 {l : List R} {e : En} : wEnumA0 (some (l, e)) = wEnumA1 e (rkA e l) := rfl
theorem q_wea1 {ds : List D} {e : En} : wEnumA1 e (some ds) = wEnumA2 e ds := rfl
theorem q_wea2 {ds : List D} {e : En} : wEnumA2 e [.list ds] = some (enumD ds, e) := rfl
theorem q_wea3 {ds : List D} {e : En} : wEnumA2 e [.tuple ds] = some (enumD ds, e) := rfl
theorem enum_at {ds : List D} {i : Nat} {d : D} (h : (enumD ds)[i]? = some d) : ∃ d0, ds[i]? = some d0 ∧ d = .tuple [.int (i : Int), d0] := by
  unfold enumD at h
  rw [List.getElem?_map, List.getElem?_zipIdx] at h
  cases e : ds[i]? with
  | none => rw [e] at h; cases h
  | some d0 =>
    rw [e] at h
    refine ⟨d0, rfl, ?_⟩
    simp at h
    exact h.symm
theorem iw_enumA {tl : TA} {fl : EvA} (hl : IA K tl fl) : IW K (jEnum K tl) (wEnumA fl) := by
  intro F T env σ H items env' S e R k
  simp only [wEnumA] at e
  cases h1 : fl env with
  | none => rw [h1] at e; cases e
  | some p =>
    obtain ⟨l, e1⟩ := p
    rw [h1] at e
    simp only [wEnumA0] at e
    cases h2 : rkA e1 l with
    | none => rw [h2] at e; cases e
    | some ds =>
      rw [h2] at e
      refine hl F T env σ H l _ S h1 _ fun vs H1 S1 s1 v1 => ?_
      have la := rkA_ok S1 v1 h2
      match ds, e, la with
      | [.list ds], e, .cons rd rt =>
        cases e
        cases rt
        cases rd with
        | lst he hn hr =>
          refine ⟨_, _, rfl, .inl ⟨.inl (.inl he), k _ H1 S1 s1 fun O' H2 f kk hO => ?_⟩⟩
          have e2 := kk _ _ hn he
          have r2 := RpAll.tr f kk hr
          refine ⟨fun i d hi => ?_, fun i hi => ⟨_, .inl (.inl e2), by simpa [enumD, r2.length] using hi⟩⟩
          obtain ⟨d0, hd, rfl⟩ := enum_at hi
          obtain ⟨v, hv, rv⟩ := r2.get hd
          refine ⟨⟨_, v, .inl (.inl e2), hv⟩, fun x H' y => ?_⟩
          obtain ⟨T1, x1, rfl, nT, rfl, hx⟩ := y
          have hz := hx _ (.inl (.inl e2))
          rw [hv] at hz; cases hz
          exact ⟨ext_new nT, .tup (TpA.of (.inl ⟨.inl upd_same, fun h => hO _ h nT⟩) rfl) (.cons (.int _) (.cons (rv.upd nT) .nil))⟩
      | [.tuple ds], e, .cons rd rt =>
        cases e
        cases rt
        cases rd with
        | @tup a xs _ he hr =>
          refine ⟨_, _, rfl, .inr ⟨he.1.imp (·.1) id, k _ H1 S1 s1 fun O' H2 f kk hO => ?_⟩⟩
          have e2 : SqT K H2 a xs := tup_tr f kk he
          have r2 := RpAll.tr f kk hr
          refine ⟨fun i d hi => ?_, fun i hi => ⟨_, e2, by simpa [enumD, r2.length] using hi⟩⟩
          obtain ⟨d0, hd, rfl⟩ := enum_at hi
          obtain ⟨v, hv, rv⟩ := r2.get hd
          refine ⟨⟨_, v, e2, hv⟩, fun x H' y => ?_⟩
          obtain ⟨T1, x1, rfl, nT, rfl, hx⟩ := y
          have hz := hx _ e2
          rw [hv] at hz; cases hz
          exact ⟨ext_new nT, .tup (TpA.of (.inl ⟨.inl upd_same, fun h => hO _ h nT⟩) rfl) (.cons (.int _) (.cons (rv.upd nT) .nil))⟩
end
end GD

namespace GD
open PySem PySem.Spec PyProof.Rows L2
section
variable {K : PySem.W.Frag}
theorem RpAll.erase {O : Addr → Prop} {H : Hp} {vs : List V} {ds : List D} (r : RpAll K O H vs ds) (k : Nat) : RpAll K O H (vs.eraseIdx k) (ds.eraseIdx k) := by
  rw [List.eraseIdx_eq_take_drop_succ, List.eraseIdx_eq_take_drop_succ]
  exact (r.take _).append (r.drop _)
theorem RpAll.rev {O : Addr → Prop} {H : Hp} : ∀ {vs : List V} {ds : List D}, RpAll K O H vs ds → RpAll K O H vs.reverse ds.reverse
  | _, _, .nil => .nil
  | _, _, .cons r t => by
    rw [List.reverse_cons, List.reverse_cons]
    exact (RpAll.rev t).append (.cons r .nil)
def gPopAt : Mu → List D → Option (Mu × D)
  | .l ds, [.int i] => if small ds.length = true then (ixN ds.length i).bind fun k => (ds[k]?).map fun d => (.l (ds.eraseIdx k), d) else none
  | _, _ => none
theorem md_popAt : MtD K "list" rPopAt gPopAt := by
  intro O H a m vs ds m' z ha mu r hz Q q
  match m, ds, hz, r with
  | .l es, [.int i], hz, .cons r0 .nil =>
    simp only [gPopAt] at hz
    split at hz
    · rename_i hs
      simp only [Option.bind_eq_some_iff, Option.map_eq_some_iff] at hz
      obtain ⟨k, hk, d, hd, h⟩ := hz
      cases h
      cases Rp.sc r0
      obtain ⟨xs, e, rr⟩ := mu
      obtain ⟨v, hv, rv⟩ := rr.get hd
      obtain ⟨s1, s2, s3, s4⟩ := ixN_seq hk
      have hl : es.length ≤ 1000000 := of_decide_eq_true hs
      have kp : ∀ b u, ¬ O b → H b = some u → upd H a (.lst (xs.eraseIdx k)) b = some u := fun b u n q => by rw [upd_ne (fun z => n (by subst z; exact ha))]; exact q
      exact ⟨a, xs, i, k, v, rfl, rfl, e, by omega, by omega, by rw [rr.length]; exact s1, hv, q _ _ ⟨_, upd_same, (rr.erase k).tr (fun _ _ _ n => n) kp⟩ (rv.tr (fun _ _ _ n => n) kp)⟩
    · cases hz
def repD (n : Nat) (ds : List D) : List D := (List.replicate n ds).flatten
theorem RpAll.rep {O : Addr → Prop} {H : Hp} {vs : List V} {ds : List D} (r : RpAll K O H vs ds) : ∀ n : Nat, RpAll K O H (List.replicate n vs).flatten (repD n ds)
  | 0 => .nil
  | n + 1 => by
    unfold repD
    rw [List.replicate_succ, List.replicate_succ, List.flatten_cons, List.flatten_cons]
    exact r.append (RpAll.rep r n)
def dMulL : D → D → Option Mu
  | .list ds, .int k => if decide (-1000000 ≤ k ∧ k ≤ 1000000 ∧ ds.length * k.toNat ≤ 1000000) = true then some (.l (repD k.toNat ds)) else none
  | _, _ => none
theorem om_mul : OpM K rRep dMulL := by
  intro O H x y d e z hO l1 l2 hz Q q
  match d, e, hz, l1, l2 with
  | .list ds, .int k, hz, l1, l2 =>
    simp only [dMulL] at hz
    split at hz
    · rename_i h
      cases hz
      have h := of_decide_eq_true h
      obtain ⟨a, xs, rfl, s1, r1⟩ := l1
      cases Rp.sc l2
      exact ⟨a, k, xs, rfl, rfl, s1, by omega, by omega, by rw [r1.length, sizeLine_eq]; omega, fun p np => q p _ np (ext_new np) (new_lst np (RpAll.rep r1 k.toNat))⟩
    · cases hz
def dMulX (d e : D) : Option (Sum D Mu) := (dMulL d e).map .inr
theorem ox_mul : OpX K rRep dMulX := by
  intro O H x y d e z hO l1 l2 hz Q q
  simp only [dMulX, Option.map_eq_some_iff] at hz
  obtain ⟨m, hm, rfl⟩ := hz
  exact om_mul O H x y d e m hO l1 l2 hm Q q
theorem c_mulX {ds : List D} {k : Int} (h : -1000000 ≤ k) (h2 : k ≤ 1000000) (h3 : ds.length * k.toNat ≤ 1000000) : dMulX (.list ds) (.int k) = some (.inr (.l (repD k.toNat ds))) := by
  have e : dMulL (.list ds) (.int k) = some (.l (repD k.toNat ds)) := if_pos (decide_eq_true ⟨h, h2, h3⟩)
  unfold dMulX
  rw [e]; rfl
theorem c_popAt {ds : List D} {i : Int} {d : D} (h : 0 ≤ i) (h2 : i < ds.length) (h3 : ds.length ≤ 1000000) (h4 : ds[i.toNat]? = some d) : gPopAt (.l ds) [.int i] = some (.l (ds.eraseIdx i.toNat), d) := by
  have hs : small ds.length = true := decide_eq_true h3
  have e : ixN ds.length i = some i.toNat := by simp [ixN, h, h2]
  show (if small ds.length = true then (ixN ds.length i).bind fun k => (ds[k]?).map fun d => (Mu.l (ds.eraseIdx k), d) else none) = _
  rw [if_pos hs, e, Option.bind_some, h4]; rfl
end
end GD

namespace GD
open PySem PySem.Spec PyProof.Rows L2
section
variable {prog : Program} {w : World} {A : Around} {E : Value → Shared → Prop} {s : Shared}
end
section
variable {prog : Program} {w : World} {A : Around} {R : Result → Shared → Prop} {I : Addr} {fp wr : List Addr} {n : Nat} {P : Nat → Value → Prop} {St : Nat → Heap → Prop} {d : Value}
end
section
variable {prog : Program} {w : World} {A : Around} {E : Value → Shared → Prop} {s : Shared}
end
section
variable {X : Cx} {K : PySem.W.Frag}
def intsOf : List D → Option (List Int)
  | [] => some []
  | .int b :: l => (intsOf l).map fun bs => b :: bs
  | _ => none
theorem intsOf_ok {O : Addr → Prop} {H : Hp} : ∀ {vs : List V} {ds : List D} {bs : List Int}, RpAll K O H vs ds → intsOf ds = some bs → vs = bs.map V.int
  | _, _, bs, .nil, h => by simp [intsOf] at h; subst h; rfl
  | _, d :: ds, bs, .cons r t, h => by
    cases d with
    | int b =>
      simp only [intsOf, Option.map_eq_some_iff] at h
      obtain ⟨l, h, rfl⟩ := h
      cases Rp.sc r
      rw [List.map_cons, ← intsOf_ok t h]
    | _ => simp [intsOf] at h
theorem intsOf_map (ys : List Int) : intsOf (ys.map .int) = some ys := by induction ys <;> simp_all [intsOf]
section
variable {g : List D → List D → Option D} {fl fk : EvA} {env e : En} {l w : List R} {ds es : List D}
end
end
end GD

set_option maxHeartbeats 2000000
namespace GD
open PySem PySem.Spec PyProof.Rows L2
section
variable {prog : Program} {w : World} {A : Around} {E : Value → Shared → Prop} {s : Shared} {z TI TO T i1 i2 l1 l2 S : Addr} {f : Bool} {oT : Obj} {xs ys : Array Value} {x y : Value} {i : Nat}
def ZSt (h : Heap) (z TI TO i1 i2 l1 l2 S : Addr) (xs ys : Array Value) (i : Nat) : Prop :=
  IsPair h TI (.ref i1) (.ref i2) ∧ h.IsTupleIter i1 l1 i ∧ h.IsTupleIter i2 l2 i ∧ h.IsTuple l1 xs ∧ h.IsTuple l2 ys ∧ ((IsZip h z TI TO .none ∧ ∃ a b, IsPair h TO a b) ∨ ∃ T f oT, IsZipHeld h z TI TO T f ∧ h.get? T = some oT ∧ T ≠ z ∧ T ≠ i1 ∧ T ≠ i2 ∧ T ≠ S)
structure ZOff (z TI TO i1 i2 l1 l2 S : Addr) : Prop where
  a : z ≠ S
  b : TI ≠ S
  c : TO ≠ S
  d : i1 ≠ S
  e : i2 ≠ S
  f : l1 ≠ S
  g : l2 ≠ S
theorem ZSt.frame {h h' : Heap} (O : ZOff z TI TO i1 i2 l1 l2 S) (st : ZSt h z TI TO i1 i2 l1 l2 S xs ys i) (k : ∀ b o, b ≠ S → h.get? b = some o → h'.get? b = some o) : ZSt h' z TI TO i1 i2 l1 l2 S xs ys i := by
  obtain ⟨a1, a2, a3, a4, a5, a6⟩ := st
  refine ⟨k _ _ O.b a1, a2.at fun o e => k _ o O.d e, a3.at fun o e => k _ o O.e e, a4.at fun o e => k _ o O.f e, a5.at fun o e => k _ o O.g e, ?_⟩
  rcases a6 with ⟨a6, a, b, a7⟩ | ⟨T, f, oT, a6, a7, r1, r2, r3, r4⟩
  · exact .inl ⟨k _ _ O.a a6, a, b, k _ _ O.c a7⟩
  · exact .inr ⟨T, f, oT, k _ _ O.a a6, k _ _ r4 a7, r1, r2, r3, r4⟩
end
structure LzG (xs ys : Array Value) (lo : Addr) (h : Heap) (as : List Addr) : Prop where
  rise : as.Pairwise (· < ·)
  above : ∀ a ∈ as, lo < a
  pairs : ∀ (j : Nat) (a : Addr), as[j]? = some a → ∃ x y, xs[j]? = some x ∧ ys[j]? = some y ∧ IsPair h a x y
theorem LzG.at {xs ys : Array Value} {lo : Addr} {h h' : Heap} {as : List Addr} (g : LzG xs ys lo h as) (k : ∀ b o, lo < b → h.get? b = some o → h'.get? b = some o) : LzG xs ys lo h' as :=
  ⟨g.rise, g.above, fun j a hj => let ⟨x, y, e1, e2, e3⟩ := g.pairs j a hj; ⟨x, y, e1, e2, k a _ (g.above a (List.mem_of_getElem? hj)) e3⟩⟩
section
variable {prog : Program} {w : World} {A : Around} {s : Shared} {R : Result → Shared → Prop} {z TI TO i1 i2 l1 l2 S : Addr} {xs ys : Array Value}
end
end GD

set_option maxHeartbeats 2000000
namespace GD
open PySem PySem.Spec PyProof.Rows L2
section
variable {prog : Program} {w : World} {A : Around} {E : Value → Shared → Prop} {s : Shared} {R : Result → Shared → Prop} {z TI TO i1 i2 l1 l2 S : Addr} {xs ys : Array Value}
end
section
variable {X : Cx}
end
section
variable {K : PySem.W.Frag}
end
end GD

namespace GD
open PySem PySem.Spec PyProof.Rows L2
section
variable {K : PySem.W.Frag}
end
end GD

namespace GD
open PySem PySem.Spec PyProof.Rows L2 PyProof.V PySem.SeqAt
def look : List (Str × Int) → Str → Option Int
  | [], _ => none
  | (k, i) :: r, x => if k = x then some i else look r x
def tabIs : List DictEntry → List (Str × Int) → Prop
  | [], [] => True
  | e :: r, (k, i) :: q => (∃ t, e.key = .str k t) ∧ (∃ t, e.val = .int i t) ∧ tabIs r q
  | _, _ => False
structure KTab (K : PySem.W.Frag) (w : World) (d : Addr) (tb : List (Str × Int)) : Prop where
  ex : ∃ es n, KDict K w d es n ∧ tabIs es.toList tb
theorem tab_find : ∀ {es : List DictEntry} {tb : List (Str × Int)} (x : Str), tabIs es tb → (match look tb x with
    | some i => ∃ e t, es.find? (·.key.isStr x) = some e ∧ e.val = .int i t
    | none => es.find? (·.key.isStr x) = none) ∧ es.any (·.refKey) = false
  | [], [], x, _ => ⟨rfl, rfl⟩
  | e :: r, (k, i) :: q, x, ⟨⟨t, hk⟩, ⟨u, hv⟩, hr⟩ => by
    obtain ⟨h1, h2⟩ := tab_find (es := r) x hr
    refine ⟨?_, by rw [List.any_cons, h2]; simp [DictEntry.refKey, hk]⟩
    have hs : e.key.isStr x = decide (k = x) := by rw [hk]; exact (PySem.W.isStr_of x _).trans (show (k == x) = decide (k = x) from Bool.eq_iff_iff.mpr (by simp))
    unfold look
    by_cases c : k = x
    · rw [if_pos c]
      exact ⟨e, u, by rw [List.find?_cons, hs, decide_eq_true c], hv⟩
    · rw [if_neg c]
      have c2 : (e.key.isStr x) = false := by rw [hs, decide_eq_false c]
      cases z : look q x with
      | none =>
        rw [z] at h1
        show (e :: r).find? _ = none
        rw [List.find?_cons, c2]; exact h1
      | some j =>
        rw [z] at h1
        obtain ⟨e', t', h3, h4⟩ := h1
        exact ⟨e', t', by rw [List.find?_cons, c2]; exact h3, h4⟩
  | [], _ :: _, _, h => h.elim
  | _ :: _, [], _, h => h.elim
theorem KTab.at {K : PySem.W.Frag} {w : World} {d : Addr} {tb : List (Str × Int)} (T : KTab K w d tb) (x : Str) : ∃ es n, KDict K w d es n ∧ ∃ r, PySem.W.nsIn K d x = some r ∧ (match look tb x with
    | some i => ∃ t, r = some (.int i t)
    | none => r = none) := by
  obtain ⟨es, n, D, ht⟩ := T.ex
  obtain ⟨h1, h2⟩ := tab_find x ht
  refine ⟨es, n, D, ?_⟩
  unfold PySem.W.nsIn
  rw [D.at_]
  dsimp only
  cases z : look tb x with
  | none =>
    rw [z] at h1
    refine ⟨none, ?_, rfl⟩
    have h1' : es.toList.find? (·.key.isStr x) = none := h1
    rw [h1']; dsimp only; rw [h2]; rfl
  | some i =>
    rw [z] at h1
    obtain ⟨e, t, h3, h4⟩ := h1
    refine ⟨some e.val, ?_, t, by rw [h4]⟩
    rw [h3]
section
variable {K : PySem.W.Frag}
end
section
variable {K : PySem.W.Frag}
def eD0 : EvM := fun env => some (.m [], env)
theorem im_d0 : IM K tDNewK eD0 := by
  intro F T env σ H m env' S e Q q
  cases e
  intro p np
  have x : Ext (fun _ => False) H (upd H p (.dK [])) := Ext.new np
  exact q p _ np (S.lay1 np x (by rw [upd_same]; simp)) (Stp.lay x) ⟨[], upd_same, rfl, .nil⟩
theorem q_d0 {env : En} : eD0 env = some (.m [], env) := rfl
theorem c_d0 : Mu.toD (.m []) = .dict [] := rfl
theorem c_d1 {k : Str} {i : Int} : Mu.toD (.m [(Sum.inr k, .int i)]) = .dict [(.str k, .int i)] := rfl
end
def atom : D → Bool
  | .none => true
  | .bool _ => true
  | .int _ => true
  | .str _ => true
  | _ => false
def atomKv : List (D × D) → Bool
  | [] => true
  | p :: r => atom p.2 && atomKv r
section
variable {X : Cx} {pins : List (Addr × Obj)} {σ : L2.St} {H : Hp} {s : Shared} {O : Addr → Prop}
theorem reads_atom : ∀ {d : D} {v : V} {u : Value}, Rp X.K O H v d → RelV v u → atom d = true → Reads s.heap u d []
  | .none, _, _, h, r, _ => by cases h; cases r; exact .none
  | .bool b, _, _, h, r, _ => by cases h; cases r; exact .bool b
  | .int i, _, _, h, r, _ => by cases h; obtain ⟨t, rfl⟩ := r; exact .int i t
  | .str x, _, _, h, r, _ => by cases h; obtain ⟨t, rfl⟩ := r; exact .str x t
theorem pairs_atom : ∀ {kvs : List (L2.Key × V)} {vs : List (L2.Key × Value)} {ds : List D}, KV kvs vs → RpAll X.K O H (kvs.map (·.2)) ds → atomKv ((kvs.map fun p => keyD p.1).zip ds) = true → PairsRead s.heap keyD vs ((kvs.map fun p => keyD p.1).zip ds) []
  | [], _, _, .nil, .nil, _ => .nil
  | p :: kvs, (k, v) :: vs, d :: ds, .cons h t, .cons r rs, ha => by
    simp only [List.map_cons, List.zip_cons_cons, atomKv, Bool.and_eq_true] at ha
    obtain ⟨h1, h2⟩ := h
    have h1' : p.1 = k := h1
    subst h1'
    have := PairsRead.cons (enc := keyD) (k := p.1) (reads_atom (s := s) r h2 ha.1) (pairs_atom t rs ha.2)
    exact this
theorem key_reads (P : Program) (w : World) (h : Heap) (k : L2.Key) (key : Value) (e : (mixKind P w).is k key = true) : Reads h key (keyD k) [] := by
  rcases keyIs_shape (show keyIs k key = true from e) with ⟨i, t, rfl, rfl⟩ | ⟨x, t, rfl, rfl⟩
  · exact .int i t
  · exact .str x t
theorem reads_dic (I : Inv X pins σ H s) {a : Addr} {kvs : List (L2.Key × V)} {ds : List D} (rd : Rd H a (.dK kvs)) (r : RpAll X.K O H (kvs.map (·.2)) ds) (ha : atomKv ((kvs.map fun p => keyD p.1).zip ds) = true) :
    ∃ as, Reads s.heap (.ref a) (.dict ((kvs.map fun p => keyD p.1).zip ds)) as ∧ sysModules ∉ as := by
  obtain ⟨z, hd, vs, kv, dd⟩ := dk_rd I.hok rd
  refine ⟨_, reads_dictOf (enc := keyD) (key_reads X.prog X.w s.heap) dd (pairs_atom kv r ha), fun h => ?_⟩
  rw [List.mem_singleton] at h
  rw [← h] at hd
  simp at hd
end
section
variable {K : PySem.W.Frag}
end
section
variable {X : Cx}
end
section
variable {K : PySem.W.Frag}
end
end GD

namespace GD
open PySem PySem.Spec PyProof.Rows L2
structure KwD (K : PySem.W.Frag) (x qual : Str) (st : Stmt) (fd : FuncData) (nm : Str) (u : Value) : Prop where
  ex : ∃ (D : Addr) (doc pm : Value) (an : Option Addr) (cdv ct : Value), fd = PySem.W.fnOf x qual (defArgs st) (defBody st) (defScope st) .none (.ref D) doc pm an cdv ct ∧ PySem.W.nsIn K D nm = some (some u)
theorem KwD.binds {K : PySem.W.Frag} {x qual : Str} {st : Stmt} {fd : FuncData} {nm : Str} {u : Value} {ps : List Str} (F : KwD K x qual st fd nm u) (n : Nat) (hn : n + 1 = ps.length)
    (h : ∀ (D : Addr) (doc pm : Value) (an : Option Addr) (cdv ct : Value) (us : List Value) (v : Value), us.length = n → KwChain D [(nm, v)] (bindArgs (PySem.W.fnOf x qual (defArgs st) (defBody st) (defScope st) .none (.ref D) doc pm an cdv ct) ⟨us, []⟩) (ps.zip (us ++ [v]))) : Binds K fd ps [u] := by
  obtain ⟨D, doc, pm, an, cdv, ct, rfl, hu⟩ := F.ex
  intro s us X hl
  refine BindsTo.of_looks fun M => KwChain.looks X (fun q hq => ?_) (h D doc pm an cdv ct us u (by rw [List.length_append, List.length_singleton] at hl; omega))
  rw [List.mem_singleton.mp hq]; exact hu
section
variable {α : Type} {x y z d : α}
end
section
variable {M : FnS} {dd : List D} {fl : EvA} {env e : En} {l : List R}
end
section
variable {K : PySem.W.Frag}
end
end GD

set_option maxHeartbeats 4000000
namespace GD
open PySem PySem.Spec PyProof.Rows L2
section
variable {K : PySem.W.Frag}
end
section
variable {prog : Program} {w : World} {A : Around} {E : Value → Shared → Prop} {s : Shared}
end
section
variable {X : Cx} {K : PySem.W.Frag}
end
end GD

namespace GD
open PySem PySem.Spec PyProof.Rows L2 PySem.SeqAt
section
variable {K : PySem.W.Frag}
end
section
variable {prog : Program} {w : World} {h₀ : Heap} {a : Addr} {A : Around} {E : Value → Shared → Prop} {s : Shared} {Q : Value → Shared → Prop}
end
section
variable {X : Cx}
end
section
variable {K : PySem.W.Frag}
end
end GD

namespace GD
open PySem PySem.Spec PyProof.Rows L2 PySem.SeqAt
section
variable {X : Cx}
end
section
variable {K : PySem.W.Frag}
theorem inV_strs (x : Str) : ∀ ys : List Str, inV (.str x) (ys.map V.str) = ys.any fun y => decide (y = x)
  | [] => rfl
  | y :: ys => by
    have h := inV_strs x ys
    unfold inV at h ⊢
    rw [List.map_cons, List.any_cons, List.any_cons, h]
    congr 1
end
end GD

set_option maxHeartbeats 4000000
namespace GD
open PySem PySem.Spec PyProof.Rows L2
section
variable {prog : Program} {w : World} {A : Around} {E : Value → Shared → Prop} {s : Shared}
end
section
variable {X : Cx}
end
section
variable {K : PySem.W.Frag}
theorem RpAll.reverse {O : Addr → Prop} {H : Hp} : ∀ {vs : List V} {ds : List D}, RpAll K O H vs ds → RpAll K O H vs.reverse ds.reverse
  | [], [], h => h
  | v :: vs, d :: ds, h => by
    cases h with
    | cons h1 h2 =>
      rw [List.reverse_cons, List.reverse_cons]
      exact RpAll.append (RpAll.reverse h2) (.cons h1 .nil)
  | [], _ :: _, h => nomatch h
  | _ :: _, [], h => nomatch h
variable {i j : Nat} {fa : EvA} {env e : En} {rs : List R} {r s : R}
end
end GD

set_option maxHeartbeats 4000000
namespace GD
open PySem PySem.Spec PyProof.Rows L2
section
variable {K : PySem.W.Frag}
end
section
variable {prog : Program} {w : World} {A : Around}
end
section
variable {K : PySem.W.Frag}
end
end GD

namespace GD
open PySem PySem.Spec PyProof.Rows L2
section
variable {K : PySem.W.Frag} {te : TE} {fe : EvE} {tt tt1 : TT} {ft ft1 : EvT}
end

section
variable {vs vs1 : List Nat} {fw fw1 : EvW} {tg tg1 : D → En → Option En} {ft ft1 : EvT} {fe : EvE} {env e : En} {ds acc its : List D} {d : D}
end
end GD

namespace GD
open PySem PySem.Spec PyProof.Rows L2
section
variable {K : PySem.W.Frag}
end
end GD

namespace GD
open PySem PySem.Spec PyProof.Rows L2
section
variable {K : PySem.W.Frag}
end
end GD

namespace GD
open PySem PySem.Spec PyProof.Rows L2
section
variable {K : PySem.W.Frag}
end
end GD

namespace GD
open PySem PySem.Spec PyProof.Rows L2
abbrev nsetO (w : World) : Obj := { cls := .type "set", dict := none, data := .set #[] 0 (.fresh 0 0 (!w.params.followText "set-order")) }
section
variable {P : Program} {w : World} {A : Around} {E : Value → Shared → Prop} {s : Shared}
set_option maxHeartbeats 4000000 in
theorem set_of_lst {l : Addr} {its : Array Value} {Gd : Heap → Prop} {Q : Value → Shared → Prop} (hh : A.handled = none) (hl : s.heap.IsList l its)
    (hU : ∀ (A' : Around) (R : Result → Shared → Prop) (s1 : Shared) (I : Addr), A'.in1.handled = none → l ≠ I → s.heap.objs.size ∉ [I, l] → s1.heap.IsListIter I l 0 ∧ s1.heap.IsList l its → s1.heap.get? s.heap.objs.size = some (nsetO w) →
      (∀ s', Moved [s.heap.objs.size, I] (fun a b => b = a) s1 s' → Gd s'.heap → R (.ok (.ret .none)) s') → codeAny (model P w) A' (.builtin "set.update.loop" ⟨[.ref s.heap.objs.size, .ref I], []⟩) R s1)
    (hQ : ∀ (h' : Heap) (tk : Nat), Gd h' → (∀ b o, s.heap.get? b = some o → h'.get? b = some o) → Q (.ref s.heap.objs.size) { s with heap := h', toks := tk }) :
    wpAny (model P w) A (call (.type "set") [.ref l]) Q E s := by
  obtain ⟨cc, tl, hmro⟩ := F.called_set.mro; have hmade := F.called_set.made; have hsub := F.called_set.sub
  refine wpAny_call (codeAny_of_tree ?_)
  show wpAny (model P w) _ (callAny (.type "set") _) _ _ s
  refine wpAny_pure ⟨Code.quiet_builtin _ (by decide +kernel), codeAny_builtin F.entry_type_call (?_)⟩
  rw [Around.under_plain (weight_type_call_type "set" [.ref l] []) (by rfl)]
  have k1 := F.called_set.notType; have k2 := F.called_set.canCreate; have kc := F.typeCall_set_1 (.ref l)
  repeat (any_goals (first | assumption | wp_step))
  refine codeAny_mono (code_set_led1 (.ref l) (E := E) (Q₁ := fun ob z => ob = .ref s.heap.objs.size ∧ z = { s with heap := s.heap.push (nsetO w) }) ⟨rfl, rfl⟩) fun res z hz => ?_
  cases res with
  | error e => exact hz
  | ok fl => cases fl with
    | ret ob =>
      obtain ⟨rfl, rfl⟩ := hz
      have gS : (s.heap.push (nsetO w)).get? s.heap.objs.size = some (nsetO w) := Heap.get?_push_size _ rfl
      have tS : Shared.TypeIs { s with heap := s.heap.push (nsetO w) } (.ref s.heap.objs.size) "set" := ⟨_, gS, rfl⟩
      have il := F.called_set.init.lookup; have ib := F.called_set.init.bind (.ref s.heap.objs.size)
      repeat (any_goals (first | assumption | wp_step))
      refine codeAny_mono (codeAny_call_builtin (R := wants (fun r z2 => r = .none ∧ ∃ h' tk, z2 = { s with heap := h', toks := tk } ∧ Gd h' ∧ ∀ b o, s.heap.get? b = some o → h'.get? b = some o) E)
        F.called_set.init.plain F.entry_set_init (check_set_init_1 tS ?_)) fun res2 z2 hz2 => ?_
      · have hl' := hl
        obtain ⟨ol, gol, hcl, nl, hdl⟩ := hl'
        obtain ⟨ocl, odi, oda, osl⟩ := ol
        simp only at hcl hdl
        subst hcl hdl
        have gol' : (s.heap.push (nsetO w)).get? l = some { cls := .type "list", dict := odi, data := .seq its nl, slots := osl } := Heap.get?_push_of_some _ gol
        have n1 := F.sub_list_set; have n2 := F.sub_list_frozenset
        have n3 : (Value.type "list" == Value.type "dict") = false := by decide
        have hl1 : (s.heap.push (nsetO w)).IsList l its := ⟨_, gol', rfl, nl, rfl⟩
        unfold Builtin.«set.__init__» noKeywords Builtin.Frozenset.updateFrom
        generalize hpi : pyIter = PI
        wp_walk
        subst hpi
        refine wpAny_pyIter_list (hQ := ?_) hl1; refine wpAny_bind (wpAny_runValue ?_)
        have ls : l < s.heap.objs.size := Heap.lt_size gol
        have hI : (s.heap.push (nsetO w)).objs.size = s.heap.objs.size + 1 := Heap.size_push ..
        refine hU _ _ _ _ (by simp [hh]) (by show l ≠ (s.heap.push (nsetO w)).objs.size; rw [hI]; exact Nat.ne_of_lt (Nat.lt_succ_of_lt ls)) (by
          show s.heap.objs.size ∉ [(s.heap.push (nsetO w)).objs.size, l]
          rw [hI]
          simp only [List.mem_cons, List.not_mem_nil, or_false, not_or]
          exact ⟨Nat.ne_of_lt (Nat.lt_succ_self _), Nat.ne_of_gt ls⟩) ⟨⟨_, Heap.get?_push_size _ rfl, rfl, rfl⟩, hl1.push _⟩ (Heap.get?_push_of_some _ gS) fun s' mv gd => ?_
        obtain ⟨h', g2, d2, tk', os'⟩ := s'
        have eg : g2 = s.gens := mv.gens; have ed : d2 = s.drawn := mv.drawn; have eo : os' = s.os := mv.os
        subst eg ed eo
        show wpAny (model P w) _ _ _ _ _
        refine wpAny_pure ?_
        show wpAny (model P w) _ (ret Value.none) _ _ _
        refine wpAny_pure ⟨rfl, h', tk', rfl, gd, fun b o e => mv.heap b o ?_ (Heap.get?_push_of_some _ (Heap.get?_push_of_some _ e))⟩
        have lb : b < s.heap.objs.size := Heap.lt_size e
        show b ∉ [s.heap.objs.size, (s.heap.push (nsetO w)).objs.size]
        rw [hI]
        simp only [List.mem_cons, List.not_mem_nil, or_false, not_or]
        exact ⟨Nat.ne_of_lt lb, Nat.ne_of_lt (Nat.lt_succ_of_lt lb)⟩
      · cases res2 with
        | error e => exact hz2
        | ok fl2 => cases fl2 with
          | ret r =>
            obtain ⟨rfl, h', tk, rfl, gd, kp⟩ := hz2
            repeat (any_goals (first | assumption | wp_step))
            exact hQ _ _ gd kp
          | _ => exact hz2.elim
    | _ => exact hz.elim
theorem set_of_ints {l : Addr} {its : Array Value} (ns : List Int) {Q : Value → Shared → Prop} (hh : A.handled = none) (hl : s.heap.IsList l its) (hi : IntsAre its.toList ns) (hb : ns.length + 1 < scanBound)
    (hQ : ∀ (h' : Heap) (tk c : Nat), SetR w h' s.heap.objs.size (fun j => decide (j ∈ ns)) c → c ≤ ns.length → (∀ b o, s.heap.get? b = some o → h'.get? b = some o) → Q (.ref s.heap.objs.size) { s with heap := h', toks := tk }) :
    wpAny (model P w) A (call (.type "set") [.ref l]) Q E s := by
  have hz : its.size = ns.length := by
    have := IntsAre.length hi
    rwa [Array.length_toList] at this
  refine set_of_lst (Gd := fun h => ∃ c, SetR w h s.heap.objs.size (fun j => decide (j ∈ ns)) c ∧ c ≤ ns.length) hh hl (fun A' R s1 I hA hlI hS hst hset hR => ?_) fun h' tk ⟨c, hc, hc2⟩ kp => hQ h' tk c hc hc2 kp
  refine set_update_ints ((Walks.list hA I l hlI its).toS) s.heap.objs.size hS ns hz hb (fun i v hv => ?_) (its.size - 0) 0 s1 rfl (Nat.zero_le _) hst ⟨0, Nat.le_refl 0, setR_new_at hset⟩ fun s' c mv hcn hSr => hR s' mv ⟨c, hSr, hz ▸ hcn⟩
  have hlt : i < ns.length := by
    rw [← hz]
    exact (Array.getElem?_eq_some_iff.mp hv).1
  obtain ⟨t, e⟩ := PyProof.Rows.IntsAre.int_at hi i v (by rw [Array.getElem?_toList]; exact hv)
  refine ⟨ns[i], t, List.getElem?_eq_getElem hlt, ?_⟩
  rw [e, List.getD_eq_getElem?_getD, List.getElem?_eq_getElem hlt]
  rfl
end
end GD

namespace GD
open PySem PySem.Spec PyProof.Rows L2
section
variable {X : Cx}
def rSetL (K : PySem.W.Frag) (w : World) : List V → Hp → VK → Prop := fun vs H Q => ∃ (a : Addr) (ns : List Int), vs = [V.ref a] ∧ SqL K H a (ns.map V.int) ∧ ns.length ≤ 1000 ∧
  ∀ (p : Addr) (c : Nat), H p = none → c ≤ ns.length → Q (.ref p) (upd H p (SetO w p (fun j => decide (j ∈ ns)) c))
theorem cr_setL (hc : X.calm = true) : CallR X (.type "set") (rSetL X.K X.w) := by
  intro pins s σ H vs us Q I r h
  obtain ⟨a, ns, rfl, hS, hn, q⟩ := h
  rw [Vals.ref1 r]
  obtain ⟨its, rv, il, hz⟩ := I.list hS
  obtain ⟨o, n, ho, hcl, _, hda⟩ := il
  refine set_of_ints ns (I.ok.hd hc) ⟨o, ho, hcl, n, hda⟩ (ints_of_vals rv) (by unfold scanBound; omega) fun h' tk c R hcn kp => ?_
  exact ⟨.ref s.heap.objs.size, _, I.laid (t' := tk) kp (Nat.le_refl _) (setO_new R), rfl, q _ c (I.hok.fresh (Nat.le_refl _)) hcn⟩
def rSS (K : PySem.W.Frag) (w : World) : List V → Hp → VK → Prop := fun vs H Q => rSetL K w vs H fun v H1 => rSortedSet w [v] H1 Q
theorem pe_sset {e : Expr} {t : TA} {p1 p2 p3 p4 : Pos} (hc : X.calm = true) (hg : Gl X "sorted") (hm : X.mg "sorted" = none) (hg2 : Gl X "set") (hm2 : X.mg "set" = none) (ha : PA X [e] t)
    (he : starEach [e] X.env = (false, eval e X.env) :: starEach [] X.env := by rfl) (hpl : (backTo p3 (starEach ([] : List Expr) X.env)).any (·.1) = false := by rfl)
    (he2 : starEach [.Call (.Name "set" p2) [e] [] p3] X.env = (false, eval (.Call (.Name "set" p2) [e] [] p3) X.env) :: starEach [] X.env := by rfl) (hpl2 : (backTo p4 (starEach ([] : List Expr) X.env)).any (·.1) = false := by rfl) :
    PE X (.Call (.Name "sorted" p1) [.Call (.Name "set" p2) [e] [] p3] [] p4) (tCB (rSS X.K X.w) t) :=
  ⟨fun pins s σ H Q I h => (pe_callB (cr_sortedSet hc) hg hm boot_sorted (pa_cons (pe_callTy (cr_setL hc) hg2 hm2 boot_set ha (he := he) (hpl := hpl)) pa_nil) (he := he2) (hpl := hpl2)).run pins s σ H Q I h⟩
def insU (k : Int) : List Int → List Int
  | [] => [k]
  | x :: l => if k < x then k :: x :: l else if k = x then x :: l else x :: insU k l
def sortU : List Int → List Int
  | [] => []
  | k :: l => insU k (sortU l)
theorem mem_insU (k j : Int) : ∀ l, j ∈ insU k l ↔ j = k ∨ j ∈ l
  | [] => by simp [insU]
  | x :: l => by
    unfold insU
    split
    · simp
    split
    · rename_i h; subst h; simp
    · rw [List.mem_cons, mem_insU k j l, List.mem_cons]
      exact ⟨fun h => h.elim (fun e => .inr (.inl e)) fun h => h.elim .inl fun h => .inr (.inr h), fun h => h.elim (fun e => .inr (.inl e)) fun h => h.elim .inl fun h => .inr (.inr h)⟩
theorem mem_sortU (j : Int) : ∀ l, j ∈ sortU l ↔ j ∈ l
  | [] => by simp [sortU]
  | k :: l => by rw [sortU, mem_insU, mem_sortU j l, List.mem_cons]
theorem insU_lt (k : Int) : ∀ l : List Int, l.Pairwise (· < ·) → (insU k l).Pairwise (· < ·)
  | [], _ => by simp [insU]
  | x :: l, h => by
    obtain ⟨h1, h2⟩ := List.pairwise_cons.mp h
    unfold insU
    split
    · rename_i c
      refine List.pairwise_cons.mpr ⟨fun y hy => ?_, h⟩
      rcases List.mem_cons.mp hy with e | hy
      · omega
      · have := h1 y hy; omega
    split
    · exact h
    · refine List.pairwise_cons.mpr ⟨fun y hy => ?_, insU_lt k l h2⟩
      rcases (mem_insU k y l).mp hy with e | hy
      · omega
      · exact h1 y hy
theorem sortU_lt : ∀ l : List Int, (sortU l).Pairwise (· < ·)
  | [] => List.Pairwise.nil
  | k :: l => insU_lt k _ (sortU_lt l)
theorem lt_uniq : ∀ l r : List Int, l.Pairwise (· < ·) → r.Pairwise (· < ·) → (∀ k, k ∈ l ↔ k ∈ r) → l = r
  | [], [], _, _, _ => rfl
  | [], y :: r, _, _, h => absurd ((h y).mpr (List.mem_cons_self ..)) (by simp)
  | x :: l, [], _, _, h => absurd ((h x).mp (List.mem_cons_self ..)) (by simp)
  | x :: l, y :: r, hl, hr, h => by
    obtain ⟨a1, a2⟩ := List.pairwise_cons.mp hl
    obtain ⟨b1, b2⟩ := List.pairwise_cons.mp hr
    have e : x = y := by
      rcases List.mem_cons.mp ((h x).mp (List.mem_cons_self ..)) with e | hx
      · exact e
      · rcases List.mem_cons.mp ((h y).mpr (List.mem_cons_self ..)) with e | hy
        · exact e.symm
        · have := a1 y hy; have := b1 x hx; omega
    subst e
    rw [lt_uniq l r a2 b2 fun k => ⟨fun hk => ((List.mem_cons.mp ((h k).mp (List.mem_cons_of_mem _ hk))).resolve_left fun e => by have := a1 k hk; omega), fun hk => ((List.mem_cons.mp ((h k).mpr (List.mem_cons_of_mem _ hk))).resolve_left fun e => by have := b1 k hk; omega)⟩]
variable {K : PySem.W.Frag} {w : World}
theorem rp_ints {O : Addr → Prop} {H : Hp} : ∀ ns : List Int, RpAll K O H (ns.map V.int) (ns.map PyData.int)
  | [] => .nil
  | n :: ns => .cons (.int n) (rp_ints ns)
def cSSet : List D → Option Mu
  | [.list ds] => if decide (ds.length < 64) = true then (intsOf ds).map fun ns => .l ((sortU ns).map .int) else none
  | _ => none
theorem cm_sset : CaM K (rSS K w) cSSet := by
  intro O H xs ds z hO l hz Q q
  match ds, hz, l with
  | [.list es], hz, l =>
    simp only [cSSet] at hz
    split at hz
    · rename_i hlen
      have hlen := of_decide_eq_true hlen
      simp only [Option.map_eq_some_iff] at hz
      obtain ⟨ns, h1, rfl⟩ := hz
      obtain ⟨v, rfl, a, ys, rfl, s1, r1⟩ := LvAll.one l
      have ex := intsOf_ok r1 h1
      subst ex
      have hnl : ns.length < 64 := by have := r1.length; rw [List.length_map] at this; omega
      refine ⟨a, ns, rfl, .inl (.inl s1), by omega, fun p c np hcn => ⟨p, _, c, rfl, upd_same, by omega, fun ms b h1 h2 h3 nb => ?_⟩⟩
      have e : ms = sortU ns := lt_uniq _ _ h1 (sortU_lt ns) fun k => by rw [h2 k, decide_eq_true_eq, mem_sortU]
      subst e
      have nb0 : H b = none := by
        by_cases hb : b = p
        · subst hb; exact np
        · rw [upd_ne hb] at nb; exact nb
      exact q b _ nb0 ((ext_new np).trans (ext_new nb) fun _ h => h.elim) (new_lst nb (rp_ints _))
    · cases hz
theorem c_sset {ns : List Int} (h : ns.length < 64) : cSSet [.list (ns.map .int)] = some (.l ((sortU ns).map .int)) := by
  have hl : decide ((ns.map PyData.int).length < 64) = true := decide_eq_true (by rw [List.length_map]; exact h)
  simp only [cSSet, hl, if_true, intsOf_map, Option.map_some]
end
end GD

namespace GD
open PySem PySem.Spec PyProof.Rows L2
section
variable {P : Program} {w : World} {K' : Type} [DecidableEq K'] (kd : PySem.KeyKind P w K') (kf : Int × Value → K')
def GoodG (e : Int × Value) : Prop := kd.is (kf e) e.2 = true ∧ e.1 = kd.hash (kf e) ∧ e.2.scannable = true
def SG (h : Heap) (a : Addr) (ks : List K') : Prop := ∃ (o : Obj) (ys : Array (Int × Value)) (ep : Nat) (tb : SetTable), h.get? a = some o ∧ o.ExactSet ∧ o.data = .set ys ep tb ∧ (∀ e ∈ ys.toList, GoodG kd kf e) ∧ (ys.toList.map kf).Perm ks ∧ ks.Nodup ∧
  ys.size < scanBound ∧ tb.fits ys.size = true ∧ Ris tb.place.toList ∧ (w.params.followText "set-order" = true ∨ tb.led = true)
variable {kd kf} {A : Around} {E : Value → Shared → Prop} {s : Shared} {a : Addr} {ks : List K'}
theorem SG.at {h h' : Heap} (R : SG kd kf h a ks) (kp : ∀ o, h.get? a = some o → h'.get? a = some o) : SG kd kf h' a ks := by
  obtain ⟨o, ys, ep, tb, ho, r⟩ := R
  exact ⟨o, ys, ep, tb, kp o ho, r⟩
theorem goodG_elems {l : List (Int × Value)} (g : ∀ e ∈ l, GoodG kd kf e) : ElemsOf kd l := fun e he => ⟨⟨kf e, (g e he).1, (g e he).2.1⟩, (g e he).2.2⟩
theorem sg_new {h : Heap} (ho : h.get? a = some (nsetO w)) : SG kd kf h a [] :=
  ⟨_, #[], 0, _, ho, ⟨rfl, rfl, rfl⟩, rfl, (fun e he => by simp at he), (by simp), List.nodup_nil, (by decide), (by rfl), List.Pairwise.nil, by
    show (w.params.followText "set-order" = true) ∨ (!w.params.followText "set-order") = true
    cases w.params.followText "set-order" <;> simp⟩
theorem sg_tail {gv : Bool → Sem Unit} (hgv : ∀ (b : Bool) (z : Shared) (R' : Unit → Shared → Prop), R' () z → wpAny (model P w) A (gv b) R' E z)
    {o : Obj} {ys : Array (Int × Value)} {ep : Nat} {tb : SetTable} (ho : s.heap.get? a = some o) (hex : o.ExactSet) (hd : o.data = .set ys ep tb)
    {zs : Array (Int × Value)} {tz : SetTable} {ls : List K'} (gz : ∀ e ∈ zs.toList, GoodG kd kf e) (pz : (zs.toList.map kf).Perm ls) (nz : ls.Nodup) (bz : zs.size < scanBound) (fz : tz.fits zs.size = true) (rz : Ris tz.place.toList) (lz : w.params.followText "set-order" = true ∨ tz.led = true) {dm : Bool} {R : Option Bool → Shared → Prop}
    (hR : ∀ h', Heap.SameBut a s.heap h' → SG kd kf h' a ls → R (some true) { s with heap := h' }) :
    wpAny (model P w) A (do
        storeSet a zs tz
        if (!dm && tz.tooFull) = true then do
            gv (relayAll tz zs (SetTable.grown zs.size)).2.2
            storeSet a (relayAll tz zs (SetTable.grown zs.size)).1 (relayAll tz zs (SetTable.grown zs.size)).2.1
            pure (some true)
          else pure (some true)) R E s := by
  refine wpAny_bind (wpAny_storeSet_of ho hd (?_) (fits_of_scanBound bz))
  have oz := store_at (es' := zs) (t' := tz) ho hd
  have sz := Heap.SameBut.update s.heap a (Obj.putSet zs tz)
  split
  · have pq := relayAll_perm tz zs (SetTable.grown zs.size)
    have fq := relayAll_fits tz zs (SetTable.grown zs.size)
    have rq := relayAll_ris tz zs (SetTable.grown zs.size)
    have lq := relayAll_led tz zs (SetTable.grown zs.size)
    generalize relayAll tz zs (SetTable.grown zs.size) = U at pq fq rq lq ⊢
    obtain ⟨us, tu, gave⟩ := U
    dsimp only at pq fq rq lq ⊢
    have hus : us.size = zs.size := by rw [← Array.length_toList, pq.length_eq, Array.length_toList]
    have bu : us.size < scanBound := by rw [hus]; exact bz
    refine wpAny_bind (hgv _ _ _ (?_))
    refine wpAny_bind (wpAny_storeSet_of oz rfl (?_) (fits_of_scanBound bu))
    have ou := store_at (es' := us) (t' := tu) oz rfl
    exact wpAny_pure (hR _ (sz.trans (Heap.SameBut.update _ a _)) ⟨_, us, _, tu, ou, hex, rfl, fun e he => gz e (pq.mem_iff.mp he), (pq.map kf).trans pz, nz, bu, fq, rq, lz.imp id fun q => by rw [lq]; exact q⟩)
  · exact wpAny_pure (hR _ sz ⟨_, zs, _, tz, oz, hex, rfl, gz, pz, nz, bz, fz, rz, lz⟩)
theorem sg_add {k : K'} {v : Value} {Q : Bool → Shared → Prop} (hkf : ∀ (i : Int) (u : Value) (j : K'), kd.is j u = true → kf (i, u) = j) (hk : kd.is k v = true) (hsc : v.scannable = true) (R : SG kd kf s.heap a ks) (room : ks.length + 1 < scanBound)
    (hQ : ∀ (h' : Heap) (b : Bool), Heap.SameBut a s.heap h' → SG kd kf h' a (if k ∈ ks then ks else k :: ks) → Q b { s with heap := h' }) :
    wpAny (model P w) A (setAddHashed a v (kd.hash k)) Q E s := by
  obtain ⟨o, ys, ep, tb, ho, hex, hd, g, pm, nd, hb, hf, hr, hl⟩ := R
  have hel : ElemsOf kd ys.toList := goodG_elems g
  have hlen : ys.size = ks.length := by rw [← pm.length_eq, List.length_map, Array.length_toList]
  unfold setAddHashed setAddHashedIn
  refine wpAny_holding (wpAny_bind (wpAny_setState_of ho hd hf (?_)))
  dsimp only
  rw [byScan_of hsc hb hel]
  simp only [if_true]
  unfold setAddByScan
  refine wpAny_bind (wpAny_bind (wpAny_rule (?_)))
  refine wpAny_bind (wpAny_setScan_of hk ho hd hf hel (?_))
  have mem : (∃ e ∈ ys.toList, kd.is k e.2 = true) ↔ k ∈ ks := by
    rw [← pm.mem_iff, List.mem_map]
    exact ⟨fun ⟨e, he, q⟩ => ⟨e, he, hkf e.1 e.2 k q⟩, fun ⟨e, he, q⟩ => ⟨e, he, by rw [← q]; exact (g e he).1⟩⟩
  cases hfi : List.findIdx? (fun e => kd.is k e.2) ys.toList with
  | some j =>
    dsimp only
    obtain ⟨hj, pj, _⟩ := List.findIdx?_eq_some_iff_getElem.mp hfi
    have hin : k ∈ ks := mem.mp ⟨ys.toList[j], List.getElem_mem hj, pj⟩
    exact wpAny_pure (wpAny_pure (hQ s.heap false (Heap.SameBut.refl a s.heap) (by rw [if_pos hin]; exact ⟨o, ys, ep, tb, ho, hex, hd, g, pm, nd, hb, hf, hr, hl⟩)))
  | none =>
    dsimp only
    have hni : k ∉ ks := fun z => by
      obtain ⟨e, he, q⟩ := mem.mpr z
      have c := List.findIdx?_eq_none_iff.mp hfi e he
      rw [q] at c
      cases c
    have hgw : ∀ (b : Bool) {z : Shared} {R' : Unit → Shared → Prop}, R' () z → wpAny (model P w) A (match b with | true => rule "set.scan.the-table-gave-way" | false => pure ()) R' E z := fun b z R' q => by
      cases b
      · exact wpAny_pure q
      · exact wpAny_rule q
    have p1 := layNew_perm tb ys (kd.hash k) v
    have f1 := layNew_fits tb ys (kd.hash k) v
    have r1 := layNew_ris tb ys (kd.hash k) v hr
    have l1 := layNew_led tb ys (kd.hash k) v
    generalize layNew tb ys (kd.hash k) v = U at p1 f1 r1 l1 ⊢
    obtain ⟨zs, tz, dm, gave⟩ := U
    dsimp only at p1 f1 r1 l1 ⊢
    rw [Array.toList_push] at p1
    have pc : zs.toList.Perm ((kd.hash k, v) :: ys.toList) := p1.trans (List.perm_append_singleton _ _)
    have kk : kf (kd.hash k, v) = k := hkf _ _ _ hk
    have pk : (zs.toList.map kf).Perm (k :: ks) := by
      have := pc.map kf
      rw [List.map_cons, kk] at this
      exact this.trans (pm.cons k)
    have gz : ∀ e ∈ zs.toList, GoodG kd kf e := fun e he => by
      rcases List.mem_cons.mp (pc.mem_iff.mp he) with z | z
      · rw [z]
        exact ⟨by rw [kk]; exact hk, by rw [kk], hsc⟩
      · exact g e z
    have zsz : zs.size = ks.length + 1 := by rw [← Array.length_toList, pc.length_eq, List.length_cons, Array.length_toList, hlen]
    have bz : zs.size < scanBound := by rw [zsz]; exact room
    have lz : w.params.followText "set-order" = true ∨ tz.led = true := hl.imp id fun q => by rw [l1]; exact q
    have fin : ∀ h', Heap.SameBut a s.heap h' → SG kd kf h' a (k :: ks) → Q true { s with heap := h' } := fun h' sb r => hQ h' true sb (by rw [if_neg hni]; exact r)
    refine wpAny_bind (hgw _ (?_))
    split
    · refine wpAny_bind (?_)
      rw [hashByValue_scannable 8 hsc]
      refine wpAny_pure (?_)
      refine sg_tail (ls := k :: ks) (?_) ho hex hd gz pk (List.nodup_cons.mpr ⟨hni, nd⟩) bz (?_) (?_) (?_) (?_)
      · intro b z R' q
        cases b
        · exact wpAny_pure q
        · exact wpAny_rule q
      · first | (split <;> first | exact f1 | exact SetTable.fits_plain_off f1) | exact f1
      · first | (split <;> exact r1) | exact r1
      · first | (split <;> exact lz) | exact lz
      · intro h' sb r
        dsimp only
        exact wpAny_pure (fin h' sb r)
    · refine wpAny_bind (wpAny_pure (?_))
      simp only [if_true]
      refine sg_tail (ls := k :: ks) (?_) ho hex hd gz pk (List.nodup_cons.mpr ⟨hni, nd⟩) bz f1 r1 lz (?_)
      · intro b z R' q
        cases b
        · exact wpAny_pure q
        · exact wpAny_rule q
      · intro h' sb r
        dsimp only
        exact wpAny_pure (fin h' sb r)
end
end GD

namespace GD
open PySem PySem.Spec PyProof.Rows L2
section
variable {K' : Type} [DecidableEq K']
def addU (ks : List K') (k : K') : List K' := if k ∈ ks then ks else k :: ks
def unq (xs : List K') : List K' := xs.foldl addU []
theorem mem_addU (ks : List K') (k j : K') : j ∈ addU ks k ↔ j = k ∨ j ∈ ks := by
  unfold addU
  split
  · exact ⟨.inr, fun h => h.elim (fun e => by subst e; assumption) id⟩
  · exact List.mem_cons
theorem foldl_addU (j : K') : ∀ (xs ks : List K'), j ∈ xs.foldl addU ks ↔ j ∈ ks ∨ j ∈ xs
  | [], ks => by simp
  | x :: xs, ks => by
    rw [List.foldl_cons, foldl_addU j xs, mem_addU, List.mem_cons]
    exact ⟨fun h => h.elim (fun h => h.elim (fun e => .inr (.inl e)) .inl) fun h => .inr (.inr h), fun h => h.elim (fun h => .inl (.inr h)) fun h => h.elim (fun e => .inl (.inl e)) .inr⟩
theorem mem_unq (j : K') (xs : List K') : j ∈ unq xs ↔ j ∈ xs := by unfold unq; rw [foldl_addU]; simp
theorem len_addU (ks : List K') (k : K') : (addU ks k).length ≤ ks.length + 1 := by unfold addU; split <;> simp
theorem foldl_len : ∀ (xs ks : List K'), (xs.foldl addU ks).length ≤ ks.length + xs.length
  | [], ks => by simp
  | x :: xs, ks => by
    have h1 := foldl_len xs (addU ks x)
    have h2 := len_addU ks x
    rw [List.foldl_cons, List.length_cons]
    omega
theorem unq_len (xs : List K') : (unq xs).length ≤ xs.length := by
  have := foldl_len xs []
  simpa [unq] using this
theorem foldl_nodup : ∀ (xs ks : List K'), ks.Nodup → (xs.foldl addU ks).Nodup
  | [], ks, h => h
  | x :: xs, ks, h => by
    refine foldl_nodup xs _ ?_
    unfold addU
    split
    · exact h
    · exact List.nodup_cons.mpr ⟨by assumption, h⟩
theorem unq_nodup (xs : List K') : (unq xs).Nodup := foldl_nodup xs [] List.nodup_nil
theorem unq_snoc (xs : List K') (k : K') : unq (xs ++ [k]) = addU (unq xs) k := by unfold unq; rw [List.foldl_append]; rfl
end
section
variable {P : Program} {w : World} {K' : Type} [DecidableEq K'] {kd : PySem.KeyKind P w K'} {kf : Int × Value → K'} {A : Around} {E : Value → Shared → Prop} {s : Shared}
theorem sg_update {I : Addr} {fp wr : List Addr} {G : Array GenState → Array GenState → Prop} {n : Nat} {Pv : Nat → Value → Prop} {St : Nat → Shared → Prop} {R : Result → Shared → Prop} (W : WalksS P w A.in1 I fp wr G n Pv St) (S : Addr) (hSf : S ∉ fp) (xs : List K') (hn : n = xs.length) (hb : xs.length + 1 < scanBound)
    (hkf : ∀ (i : Int) (u : Value) (j : K'), kd.is j u = true → kf (i, u) = j) (hval : ∀ i v, Pv i v → ∃ k, xs[i]? = some k ∧ kd.is k v = true ∧ v.scannable = true) :
    ∀ (m i : Nat) (z : Shared), n - i = m → i ≤ n → St i z → SG kd kf z.heap S (unq (xs.take i)) → (∀ z', Moved (S :: wr) G z z' → SG kd kf z'.heap S (unq xs) → R (.ok (.ret .none)) z') →
      codeAny (model P w) A (.builtin "set.update.loop" ⟨[.ref S, .ref I], []⟩) R z := by
  have hSw : S ∉ wr := fun h => hSf (W.sub _ h)
  have sub2 : ∀ b ∈ wr, b ∈ S :: wr := fun b hb => List.mem_cons_of_mem _ hb
  intro m
  induction m with
  | zero =>
    intro i z hm hi st hS hR
    have ein : i = n := by omega
    subst ein
    refine codeAny_builtin F.entry_set_update_loop (?_)
    rw [Around.under_plainId F.plain_set_update_loop _]
    show wpAny (model P w) A.in1 (pyNext (.ref I) >>= _) _ _ z
    refine wpAny_bind (W.done z _ _ st fun z' mv => ?_)
    show wpAny (model P w) A.in1 (ret Value.none) _ _ z'
    rw [List.take_of_length_le (by omega)] at hS
    exact wpAny_pure (hR z' (mv.mono sub2) (hS.at fun o e => mv.heap S o hSw e))
  | succ m ih =>
    intro i z hm hi st hS hR
    have hlt : i < n := by omega
    refine codeAny_builtin F.entry_set_update_loop (?_)
    rw [Around.under_plainId F.plain_set_update_loop _]
    show wpAny (model P w) A.in1 (pyNext (.ref I) >>= _) _ _ z
    refine wpAny_bind (W.item i z _ _ hlt st fun v z' pv st' mv => ?_)
    obtain ⟨k, hk1, hk2, hk3⟩ := hval i v pv
    have hS' : SG kd kf z'.heap S (unq (xs.take i)) := hS.at fun o e => mv.heap S o hSw e
    show wpAny (model P w) A.in1 (holding [v] (setAdd S v) >>= _) _ _ z'
    refine wpAny_bind (wpAny_holding (?_))
    unfold setAdd
    refine wpAny_holding (wpAny_bind (kd.pyHash hk2 (?_)))
    have hl1 := unq_len (xs.take i)
    rw [List.length_take] at hl1
    refine sg_add (s := { z' with toks := z'.toks + 1 }) hkf hk2 hk3 hS' (by omega) fun h' b sb hS2 => ?_
    have et : xs.take (i + 1) = xs.take i ++ [k] := by rw [List.take_succ, hk1]; rfl
    have hS3 : SG kd kf h' S (unq (xs.take (i + 1))) := by rw [et, unq_snoc]; exact hS2
    refine wpAny_pure ⟨plainId_quiet F.plain_set_update_loop _, ih (i + 1) _ (by omega) hlt (W.frame _ z' _ _ st' (Nat.le_succ _) fun b hb o e => ?_) hS3 fun z2 mv2 hS4 => ?_⟩
    · rw [sb.2 b (fun h : b = S => hSf (by rw [← h]; exact hb))]
      exact e
    · refine hR z2 (Moved.trans W.gtrans ((mv.mono sub2).then_heap (Nat.le_succ _) fun b o hb e => ?_) mv2) hS4
      rw [sb.2 b (fun h : b = S => hb (by rw [h]; exact List.mem_cons_self))]
      exact e
theorem set_of_keys {l : Addr} {its : Array Value} (xs : List K') {Q : Value → Shared → Prop} (hkf : ∀ (i : Int) (u : Value) (j : K'), kd.is j u = true → kf (i, u) = j) (hh : A.handled = none) (hl : s.heap.IsList l its) (hz : its.size = xs.length)
    (hi : ∀ (i : Nat) (v : Value), its[i]? = some v → ∃ k : K', xs[i]? = some k ∧ kd.is k v = true ∧ v.scannable = true) (hb : xs.length + 1 < scanBound)
    (hQ : ∀ (h' : Heap) (tk : Nat), SG kd kf h' s.heap.objs.size (unq xs) → (∀ b o, s.heap.get? b = some o → h'.get? b = some o) → Q (.ref s.heap.objs.size) { s with heap := h', toks := tk }) :
    wpAny (model P w) A (call (.type "set") [.ref l]) Q E s :=
  set_of_lst (Gd := fun h => SG kd kf h s.heap.objs.size (unq xs)) hh hl (fun A' R s1 I hA hlI hS hst hset hR => sg_update ((Walks.list hA I l hlI its).toS) s.heap.objs.size hS xs hz hb hkf hi (its.size - 0) 0 s1 rfl (Nat.zero_le _) hst (sg_new hset) hR) hQ
end
end GD

namespace GD
open PySem PySem.Spec PyProof.Rows L2
def kfS (e : Int × Value) : Str := match e.2 with
  | .str x _ => x
  | _ => ("" : Str)
theorem kfS_is {P : Program} {w : World} (i : Int) (u : Value) (j : Str) (h : (PySem.strKind P w).is j u = true) : kfS (i, u) = j := by
  obtain ⟨t, rfl⟩ := Value.isStrOf_shape h
  rfl
def txtOf : Value → Str
  | .str x _ => x
  | _ => ("" : Str)
theorem strs_are : ∀ vs : List Value, (∀ v ∈ vs, ∃ x t, v = Value.str x t) → StrsAre vs (vs.map txtOf)
  | [], _ => .nil
  | v :: vs, h => by
    obtain ⟨x, t, rfl⟩ := h v (List.mem_cons_self ..)
    exact .cons x t (strs_are vs fun u hu => h u (List.mem_cons_of_mem _ hu))
section
variable {P : Program} {w : World} {A : Around} {E : Value → Shared → Prop} {s : Shared} {a : Addr} {ks : List Str}
theorem sorted_sg {Q : Value → Shared → Prop} (R : SG (PySem.strKind P w) kfS s.heap a ks) (hh : A.handled = none) (hl : ks.length ≤ 1000)
    (hQ : ∀ (z : Shared) (p : Addr) (out : Array Value) (c : Nat) (ls : List Str), (∀ b o, s.heap.get? b = some o → z.heap.get? b = some o) → z.gens = s.gens → z.os = s.os → s.heap.objs.size ≤ p →
      z.heap.get? p = some (seqObj "list" out c) → StrsAre out.toList ls → sortedS ls = true → ls.Perm ks → Q (.ref p) z) :
    wpAny (model P w) A (call (.builtin "sorted") [.ref a]) Q E s := by
  obtain ⟨o, ys, ep, tb, ho, hex, hd, g, pm, nd, hb, hf, hr, hle⟩ := R
  refine Calls.call_function_entry kind_sorted plain_sorted entry_sorted (args_sorted1 _) (?_)
  unfold Builtin.«sorted»
  refine wpAny_bind (m := checkCount "sorted" 1 1 _) (wpAny_pure (?_))
  refine wpAny_bind (collect_set (A := A.in1) hh ⟨o, ho, hex.1, hd⟩ hf hb hr hle fun z vs kp hz gz oz pv => ?_)
  have hvl : vs.length = ks.length := by rw [pv.length_eq, List.length_map, ← pm.length_eq, List.length_map]
  have allS : ∀ v ∈ vs, ∃ x t, v = Value.str x t := fun v hv => by
    obtain ⟨e, he, q⟩ := List.mem_map.mp (pv.mem_iff.mp hv)
    obtain ⟨t, ht⟩ := Value.isStrOf_shape (g e he).1
    exact ⟨_, t, by rw [← q]; exact ht⟩
  have hS := strs_are vs allS
  have pk : (vs.map txtOf).Perm ks := by
    have q := pv.map txtOf
    rw [List.map_map] at q
    exact q.trans pm
  have hv2 : vs.length ≤ sizeLine := by rw [hvl, sizeLine_eq]; omega
  refine wpAny_bind (wpAny_newList (?_) hv2)
  have gL : (z.heap.push (seqObj "list" vs.toArray 0)).get? z.heap.objs.size = some (seqObj "list" vs.toArray 0) := Heap.get?_push_size _ rfl
  refine wpAny_bind (wpAny_holding (wpAny_call_entry slot_list_sort ⟨_, gL, rfl⟩ entry_list_sort (list_sort_treeKAny strKind_oneLt gL hS.keysOf (fun v1 v2 rest e => keyKind_strs (by rw [← e]; exact hS)) hv2 fun st' q1 q2 => ⟨_, rfl, ?_⟩) (args_list_sort _)))
  obtain ⟨ls, m1, m2, m3⟩ := sorted_out_str hS q1 q2
  obtain ⟨c, hc⟩ := sortedHeap_at (vs := vs) (out := (arrOf st').map (·.2)) gL
  refine wpAny_pure ⟨_, rfl, hQ _ z.heap.objs.size _ c ls (fun b u e => ?_) gz oz hz hc m1 m3 (m2.trans pk)⟩
  have q := kp b u e
  have lb := Heap.lt_size q
  show (sortedHeap (z.heap.push (seqObj "list" vs.toArray 0)) z.heap.objs.size vs _).get? b = some u
  rw [sortedHeap_old (Nat.ne_of_lt lb) (by rw [size_push']; exact Nat.lt_succ_of_lt lb)]
  exact Heap.get?_push_of_some _ q
end
end GD

namespace GD
open PySem PySem.Spec PyProof.Rows L2
abbrev SS (P : Program) (w : World) (h : Heap) (a : Addr) (ks : List Str) : Prop := SG (PySem.strKind P w) kfS h a ks
def SGO (P : Program) (w : World) (a : Addr) (ks : List Str) : HO := .ext fun h => SS P w h a ks
theorem sgo_new {w : World} {P : Program} {H : Hp} {h : Heap} {a : Addr} {ks : List Str} (R : SS P w h a ks) : ObjOk P w H h a (SGO P w a ks) := by
  have ⟨o, _, _, _, ho, _⟩ := R
  exact ⟨R, ⟨o, ho⟩, fun h1 h2 p k => SG.at p k⟩
section
variable {X : Cx}
theorem sgo_get {pins : List (Addr × Obj)} {σ : L2.St} {H : Hp} {s : Shared} {a : Addr} {ks : List Str} (I : Inv X pins σ H s) (ha : H a = some (SGO X.prog X.w a ks)) : SS X.prog X.w s.heap a ks := (I.hok a _ ha).1
theorem addS_ok {pins : List (Addr × Obj)} {σ : L2.St} {H : Hp} {s : Shared} {E : Value → Shared → Prop} {D : Addr} {ks : List Str} {y : Str} {t : Tok} {Q : Value → Shared → Prop} (I : Inv X pins σ H s) (hD : H D = some (SGO X.prog X.w D ks)) (room : ks.length + 1 < scanBound)
    (hQ : ∀ z, Inv X pins σ (upd H D (SGO X.prog X.w D (addU ks y))) z → Q .none z) : wpAny (model X.prog X.w) X.A (call (.builtin "set.add") [.ref D, .str y t]) Q E s := by
  have R := sgo_get I hD
  have ty : s.TypeIs (.ref D) "set" := by
    obtain ⟨o, _, _, _, ho, hex, _⟩ := R
    exact ⟨o, ho, hex.1⟩
  have hk : (PySem.strKind X.prog X.w).is y (.str y t) = true := by show Value.isStrOf y (.str y t) = true; simp [Value.isStrOf]
  refine wpAny_call_entry F.slot_set_add ty F.entry_set_add (?_) (F.args_set_add_2 _ _)
  unfold Builtin.«set.add» Builtin.Frozenset.oneOther
  simp only [List.isEmpty_nil, bind_assoc]
  unfold Builtin.Frozenset.addrOf setAdd
  refine wpAny_bind (wpAny_pure (?_))
  try dsimp only
  refine wpAny_bind (wpAny_pure (?_))
  try dsimp only
  refine wpAny_bind (wpAny_holding (wpAny_bind ((PySem.strKind X.prog X.w).pyHash hk (?_))))
  refine sg_add (s := { s with toks := s.toks + 1 }) kfS_is hk rfl R room fun h' b sb new => ?_
  show wpAny (model X.prog X.w) _ (ret Value.none) _ _ _
  have he : ∃ u, h'.get? D = some u := by
    have ⟨o, _, _, _, ho, _⟩ := new
    exact ⟨o, ho⟩
  exact wpAny_pure ⟨_, rfl, hQ _ (I.write (e := D) (t' := s.toks + 1) (by rw [hD]; trivial) (.inl rfl) (fun b u hb hu => (sb.2 b hb).trans hu) he (sgo_new new))⟩
def tScS (P : Program) (w : World) (wi : TI) (g : TG) (tt : TT) (te : TE) (vs : List Nat) : TE := fun σ H Q => wi σ H fun J H1 => ∀ D, H1 D = none → ∃ W : Nat → Nat → Hp → Prop, (∃ m, W 0 m (upd H1 D (SGO P w D []))) ∧ ∀ i m H, W i m H →
  (J.stop i H ∧ Q (.ref D) H) ∨ (J.go i H ∧ ∃ Nx : Hp → Prop, (∀ H', Nx H' → ∃ m', m' < m ∧ W (i + 1) m' H') ∧ ∀ x H', J.yld i H x H' → g x (wipe σ vs) H' fun σ2 H2 => wipe σ2 vs = wipe σ vs ∧ tt σ2 H2 fun b H3 =>
    if b = true then te σ2 H3 fun y H4 => ∃ (c : Str) (ks : List Str), y = .str c ∧ H4 D = some (SGO P w D ks) ∧ ks.length + 1 < scanBound ∧ Nx (upd H4 D (SGO P w D (addU ks c))) else Nx H3)
theorem pe_scS {elt tg iter : Expr} {ifs : List Expr} {scope : Scope} {own : List (PySem.Str × Nat)} {pos : Pos} {wi : TI} {g : TG} {tt : TT} {te : TE} (hc : X.calm = true) (hN : X.N.Nodup) (hi : PI X tg iter wi) (ok : BlkOk X.N X.env.scope scope own)
    (hg : ∀ (z : Shared) (G : Hp) (C : Addr) (cl : List (PySem.Str × Addr)) (fp : List Addr), PG (X.blk z G scope (compEnvC scope cl C X.env) fp) tg g) (ht : ∀ (z : Shared) (G : Hp) (C : Addr) (cl : List (PySem.Str × Addr)) (fp : List Addr), PTs (X.blk z G scope (compEnvC scope cl C X.env) fp) ifs tt)
    (he : ∀ (z : Shared) (G : Hp) (C : Addr) (cl : List (PySem.Str × Addr)) (fp : List Addr), PE (X.blk z G scope (compEnvC scope cl C X.env) fp) elt te) (hs : ∀ x, foldedSetIterable iter X.env x = pure x := by intro _; rfl) :
    PE X (.SetComp elt [⟨tg, iter, ifs, 0⟩] scope pos) (tScS X.prog X.w wi g tt te (own.map (·.2))) := by
  refine ⟨fun pins s0 σ H Q I h => ?_⟩
  rw [PpSet.eval_SetComp]
  have outer : ∀ y ∈ scope.names, y.2 = .free → ∃ c, X.env.cells.lookup y.1 = some c := fun y hy e => (ok.free y hy e).elim (fun k => I.ok.has _ (.inl k)) fun k => I.ok.has _ (.inr k)
  refine wpAny_comprehension_free (use := none) rfl hs (closure_ok outer) ok.kind (fun y hy e => by rw [ok.uniq y hy, e])
    (thn (hi.run pins s0 σ H _ I h) fun xv z1 hx => thn hx fun itv z2 ⟨it, fp, tn, J, G1, e, I2, T, st2, f2, q⟩ => ?_)
  subst e
  refine PpSet.newSet_ok (newEnv_comp (?_))
  -- the empty set at D
  obtain ⟨D, hD⟩ : ∃ D, z2.heap.objs.size = D := ⟨_, rfl⟩
  rw [hD]
  obtain ⟨W, ⟨m0, w0⟩, turn⟩ := q D (I2.hok.fresh (Nat.le_of_eq hD))
  obtain ⟨z3, hz3⟩ : ∃ z3 : Shared, { z2 with heap := z2.heap.push (nsetO X.w) } = z3 := ⟨_, rfl⟩
  have eh : z3.heap = z2.heap.push (nsetO X.w) := by rw [← hz3]
  obtain ⟨G3, hG3⟩ : ∃ G3, upd G1 D (SGO X.prog X.w D []) = G3 := ⟨_, rfl⟩
  have I3 : Inv X pins σ G3 z3 := by
    rw [← hG3, ← hz3]
    exact I2.laid (t' := z2.toks) (fun b o e => Heap.get?_push_of_some _ e) (Nat.le_of_eq hD) (sgo_new (sg_new (by rw [← hD]; exact Heap.get?_push_size _ rfl)))
  rw [hG3] at w0
  have low : ∀ b ∈ fp, b < z2.heap.objs.size := fun b hb => by
    obtain ⟨o, e, _⟩ := T.obj _ _ st2 b hb
    exact Heap.lt_size e
  have f3 : ∀ b ∈ fp, FpOk X pins G3 b ∧ b < z3.heap.objs.size := fun b hb => by
    have lt := low b hb
    refine ⟨⟨?_, (f2 b hb).2⟩, by rw [eh, Heap.size_push]; exact Nat.lt_succ_of_lt lt⟩
    rw [← hG3, upd_ne (by rw [← hD]; exact Nat.ne_of_lt lt)]
    exact (f2 b hb).1
  have st3 : tn 0 z3.heap := T.keep _ _ _ st2 fun b _ o e => by rw [eh]; exact Heap.get?_push_of_some _ e
  have J4 := block_start I3 ok hN f3
  have pg := hg z3 G3 z3.heap.objs.size (cellsFrom (z3.heap.objs.size + 1) scope.names (cloFrom X.env.cells scope.names [])) fp
  have pt := ht z3 G3 z3.heap.objs.size (cellsFrom (z3.heap.objs.size + 1) scope.names (cloFrom X.env.cells scope.names [])) fp
  have pe := he z3 G3 z3.heap.objs.size (cellsFrom (z3.heap.objs.size + 1) scope.names (cloFrom X.env.cells scope.names [])) fp
  rw [show ({ z2 with heap := z2.heap.push { cls := .type "set", dict := none, data := .set #[] 0 (.fresh 0 0 (!X.w.params.followText "set-order")) } } : Shared) = z3 from hz3]
  show codeAny _ _ (.compStart (.SetComp elt [⟨tg, iter, ifs, 0⟩] scope pos) 0 (.ref it) (.ref D) (compEnvC scope (cellsFrom (z3.heap.objs.size + 1) scope.names (cloFrom X.env.cells scope.names [])) z3.heap.objs.size X.env)) (compPost (model X.prog X.w) X.A X.xe none _ (.ref D) z3.heap.objs.size) { z3 with heap := pushCells (z3.heap.push { cls := .type "dict", data := .dict #[] }) scope.names }
  have away : ∀ b ∈ fp, G3 b = none := fun b hb => (f3 b hb).1.1
  generalize hce : compEnvC scope (cellsFrom (z3.heap.objs.size + 1) scope.names (cloFrom X.env.cells scope.names [])) z3.heap.objs.size X.env = ce at J4 pg pt pe ⊢
  have loc : ce.locals = z3.heap.objs.size := by subst hce; rfl
  generalize hz4 : ({ z3 with heap := pushCells (z3.heap.push { cls := .type "dict", data := .dict #[] }) scope.names } : Shared) = z4 at J4 ⊢
  have st4 : tn 0 z4.heap := T.keep _ _ _ st3 fun b _ o e => by rw [← hz4]; exact pushCells_keeps _ _ _ _ (Heap.get?_push_of_some _ e)
  have still : ∀ {σ' : L2.St} {G : Hp} {z : Shared}, Inv (X.blk z3 G3 scope ce fp) [] σ' G z → (∀ b ∈ fp, G b = none) → ∀ b ∈ fp, FpOk (X.blk z3 G3 scope ce fp) [] G b := fun {σ' G z} I' no b hb =>
    ⟨no b hb, (I'.ok.exf b hb).1, I'.ok.exfs b hb, .inl hb, fun x c e => (I'.ok.exf b hb).2 x c e, fun p hp => absurd (show p ∈ ([] : List (Addr × Obj)) ++ [] from hp) (by simp)⟩
  refine (fun loop => PpSet.codeAny_compStart_set loop (T.self X.A 0 _ _ _ st4 loop)) (?_ : codeAny (model X.prog X.w) X.A (.compLoop (.SetComp elt [⟨tg, iter, ifs, 0⟩] scope pos) 0 (.ref it) (.ref D) ce) (compPost (model X.prog X.w) X.A X.xe none _ (.ref D) z3.heap.objs.size) z4)
  refine PpSet.compLoopS_any (fun n z => ∃ i G, Inv (X.blk z3 G3 scope ce fp) [] (wipe σ (own.map (·.2))) G z ∧ tn i z.heap ∧ (∀ b ∈ fp, G b = none) ∧ W i n G) (?_) m0 ⟨0, G3, J4, st4, away, w0⟩
  rintro n z5 ⟨i, G5, I5, st5, no5, w5⟩
  rcases turn i n G5 w5 with ⟨stop, fin⟩ | ⟨go, Nx, hNx, step⟩
  · refine thnF (T.done (X.blk z3 G3 scope ce fp) rfl rfl rfl hc i [] z5 _ G5 (fun _ _ => False) I5 (still I5 no5) st5 stop) fun r z6 ⟨hr, I6⟩ => ?_
    subst hr
    have I7 : Inv X pins σ G5 z6 := I3.call' (ch := fp) I6.os I6.base I6.hok I6.bare fun b hb => ⟨(f3 b hb).1.2.2.2.1, (f3 b hb).1.2.1, (f3 b hb).1.2.2.2.2.1, (f3 b hb).1.2.2.2.2.2⟩
    have nC : G5 z3.heap.objs.size = none := by rw [← loc]; exact I6.free
    obtain ⟨m, hm, _⟩ := I6.loc
    have hm' : z6.heap.Ns z3.heap.objs.size m := by rw [← loc]; exact hm
    obtain ⟨k0, k1, k2, k3, k4, k5⟩ := I3.fpOk (Nat.le_refl _) nC
    exact ⟨m, hm', fun h'' sb => ⟨.ref D, G5, I7.turned (t' := z6.toks) (fun b o hb e => (sb.2 b hb).trans e) k0 k1 k3 k4 k5, rfl, fin⟩⟩
  · refine thnF (T.item (X.blk z3 G3 scope ce fp) rfl rfl rfl hc i [] z5 _ G5 (fun _ _ => False) I5 (still I5 no5) st5 go) fun r z6 ⟨u, hr, h6⟩ => ?_
    subst hr
    refine thnF h6 fun _ z7 ⟨x, G7, I7, r7, y7, st7, no7⟩ => ?_
    refine thnF (pg.run _ z7 _ G7 x u _ (I7.pinned (still I7 no7) (T.obj _ _ st7)) r7 (step x G7 y7)) fun _ z8 ⟨σ8, G8, I8, hw8, q8⟩ => ?_
    refine thnF (pt.run _ z8 σ8 G8 _ I8 q8) fun b z9 ⟨G9, I9, q9⟩ => ?_
    have next : ∀ {z : Shared} {G : Hp}, Inv (X.blk z3 G3 scope ce fp) ([] ++ pinsAt fp z7.heap) σ8 G z → Nx G → ∃ m, m < n ∧ ∃ i G, Inv (X.blk z3 G3 scope ce fp) [] (wipe σ (own.map (·.2))) G z ∧ tn i z.heap ∧ (∀ b ∈ fp, G b = none) ∧ W i m G := fun {z G} I' nx => by
      obtain ⟨m', hm, w'⟩ := hNx G nx
      have pin : ∀ b ∈ fp, ∀ o, z7.heap.get? b = some o → z.heap.get? b = some o ∧ G b = none := fun b hb o e =>
        ⟨(I'.pin (b, o) (List.mem_append_right _ (List.mem_append_right _ (mem_pinsAt hb e)))).1, (I'.pin (b, o) (List.mem_append_right _ (List.mem_append_right _ (mem_pinsAt hb e)))).2.1⟩
      refine ⟨m', hm, i + 1, G, (I'.unpinned (pins := [])).weak (by rw [← hw8, wipe_length]) (fun j v e => ?_), T.keep _ _ _ st7 fun b hb o e => (pin b hb o e).1, fun b hb => ?_, w'⟩
      · rw [← hw8] at e
        exact (wipe_some e).1
      · obtain ⟨o, e, _⟩ := T.obj _ _ st7 b hb
        exact (pin b hb o e).2
    cases b with
    | false =>
      simp only [Bool.false_eq_true, if_false] at q9 ⊢
      exact next I9 q9
    | true =>
      simp only [if_true] at q9 ⊢
      refine thnF (pe.run _ z9 σ8 G9 _ I9 q9) fun yv z10 ⟨yV, G10, I10, r10, c, ks, ey, hD10, room, nx⟩ => ?_
      subst ey
      obtain ⟨t, rfl⟩ := (show ∃ t, yv = Value.str c t from r10)
      exact addS_ok (X := X.blk z3 G3 scope ce fp) I10 hD10 room fun z11 I11 => next I11 nx
end
end GD

namespace GD
open PySem PySem.Spec PyProof.Rows L2
theorem lc_irr : ∀ l : List Nat, ltCps l l = false
  | [] => rfl
  | a :: l => by unfold ltCps; rw [lc_irr l]; simp
theorem lc_tri : ∀ l r : List Nat, ltCps l r = false → ltCps r l = false → l = r
  | [], [], _, _ => rfl
  | [], _ :: _, h, _ => by cases h
  | _ :: _, [], _, h => by cases h
  | a :: l, b :: r, h, g => by
    unfold ltCps at h g
    simp only [Bool.or_eq_false_iff, decide_eq_false_iff_not, Bool.and_eq_false_iff, beq_eq_false_iff_ne] at h g
    have e : a = b := by omega
    subst e
    rw [lc_tri l r (h.2.resolve_left fun n => n rfl) (g.2.resolve_left fun n => n rfl)]
theorem lc_tr : ∀ l m r : List Nat, ltCps l m = true → ltCps m r = true → ltCps l r = true
  | [], [], _, h, _ => by cases h
  | [], _ :: _, [], _, g => by cases g
  | [], _ :: _, _ :: _, _, _ => rfl
  | _ :: _, [], _, h, _ => by cases h
  | _ :: _, _ :: _, [], _, g => by cases g
  | a :: l, b :: m, c :: r, h, g => by
    unfold ltCps at h g ⊢
    simp only [Bool.or_eq_true, decide_eq_true_eq, Bool.and_eq_true, beq_iff_eq] at h g ⊢
    rcases h with h | ⟨rfl, h⟩
    · rcases g with g | ⟨rfl, g⟩
      · exact .inl (by omega)
      · exact .inl h
    · rcases g with g | ⟨rfl, g⟩
      · exact .inl g
      · exact .inr ⟨rfl, lc_tr l m r h g⟩
def ltT (x y : Str) : Prop := ltCps x.cps.toList y.cps.toList = true
theorem ltT_irr (x : Str) : ¬ ltT x x := fun h => by unfold ltT at h; rw [lc_irr] at h; cases h
theorem ltT_tr {x y z : Str} (h : ltT x y) (g : ltT y z) : ltT x z := lc_tr _ _ _ h g
theorem ltT_tri {x y : Str} (h : ¬ ltT x y) (g : ¬ ltT y x) : x = y := by
  have e := lc_tri x.cps.toList y.cps.toList (by simpa [ltT] using h) (by simpa [ltT] using g)
  obtain ⟨⟨l⟩⟩ := x
  obtain ⟨⟨r⟩⟩ := y
  simp at e
  rw [e]
instance (x y : Str) : Decidable (ltT x y) := inferInstanceAs (Decidable (_ = true))
def insT (k : Str) : List Str → List Str
  | [] => [k]
  | x :: l => if ltT k x then k :: x :: l else if k = x then x :: l else x :: insT k l
def sortT : List Str → List Str
  | [] => []
  | k :: l => insT k (sortT l)
theorem mem_insT (k j : Str) : ∀ l, j ∈ insT k l ↔ j = k ∨ j ∈ l
  | [] => by simp [insT]
  | x :: l => by
    unfold insT
    split
    · simp
    split
    · rename_i h; subst h; simp
    · rw [List.mem_cons, mem_insT k j l, List.mem_cons]
      exact ⟨fun h => h.elim (fun e => .inr (.inl e)) fun h => h.elim .inl fun h => .inr (.inr h), fun h => h.elim (fun e => .inr (.inl e)) fun h => h.elim .inl fun h => .inr (.inr h)⟩
theorem mem_sortT (j : Str) : ∀ l, j ∈ sortT l ↔ j ∈ l
  | [] => by simp [sortT]
  | k :: l => by rw [sortT, mem_insT, mem_sortT j l, List.mem_cons]
theorem insT_lt (k : Str) : ∀ l : List Str, l.Pairwise ltT → (insT k l).Pairwise ltT
  | [], _ => by simp [insT]
  | x :: l, h => by
    obtain ⟨h1, h2⟩ := List.pairwise_cons.mp h
    unfold insT
    split
    · rename_i c
      refine List.pairwise_cons.mpr ⟨fun y hy => ?_, h⟩
      rcases List.mem_cons.mp hy with e | hy
      · rw [e]; exact c
      · exact ltT_tr c (h1 y hy)
    split
    · exact h
    · rename_i c1 c2
      refine List.pairwise_cons.mpr ⟨fun y hy => ?_, insT_lt k l h2⟩
      rcases (mem_insT k y l).mp hy with e | hy
      · rw [e]
        by_cases q : ltT x k
        · exact q
        · exact absurd (ltT_tri c1 q) c2
      · exact h1 y hy
theorem sortT_lt : ∀ l : List Str, (sortT l).Pairwise ltT
  | [] => List.Pairwise.nil
  | k :: l => insT_lt k _ (sortT_lt l)
theorem ltT_uniq : ∀ l r : List Str, l.Pairwise ltT → r.Pairwise ltT → (∀ k, k ∈ l ↔ k ∈ r) → l = r
  | [], [], _, _, _ => rfl
  | [], y :: r, _, _, h => absurd ((h y).mpr (List.mem_cons_self ..)) (by simp)
  | x :: l, [], _, _, h => absurd ((h x).mp (List.mem_cons_self ..)) (by simp)
  | x :: l, y :: r, hl, hr, h => by
    obtain ⟨a1, a2⟩ := List.pairwise_cons.mp hl
    obtain ⟨b1, b2⟩ := List.pairwise_cons.mp hr
    have e : x = y := by
      rcases List.mem_cons.mp ((h x).mp (List.mem_cons_self ..)) with e | hx
      · exact e
      · rcases List.mem_cons.mp ((h y).mpr (List.mem_cons_self ..)) with e | hy
        · exact e.symm
        · exact absurd (ltT_tr (a1 y hy) (b1 x hx)) (ltT_irr x)
    subst e
    rw [ltT_uniq l r a2 b2 fun k => ⟨fun hk => ((List.mem_cons.mp ((h k).mp (List.mem_cons_of_mem _ hk))).resolve_left fun e => by subst e; exact ltT_irr _ (a1 _ hk)), fun hk => ((List.mem_cons.mp ((h k).mpr (List.mem_cons_of_mem _ hk))).resolve_left fun e => by subst e; exact ltT_irr _ (b1 _ hk))⟩]
theorem rising_lt : ∀ (l : List Str) (p : Str), risingS p l = true → (p :: l).Nodup → (p :: l).Pairwise ltT
  | [], p, _, _ => by simp
  | x :: l, p, h, nd => by
    have h' : (!ltCps x.cps.toList p.cps.toList && risingS x l) = true := h
    rw [Bool.and_eq_true] at h'
    obtain ⟨n1, n2⟩ := List.nodup_cons.mp nd
    have ih := rising_lt l x h'.2 n2
    have px : ltT p x := by
      by_cases q : ltT p x
      · exact q
      · exact absurd (ltT_tri q (fun g => by unfold ltT at g; rw [g] at h'; simp at h')) fun e => n1 (by rw [e]; exact List.mem_cons_self ..)
    refine List.pairwise_cons.mpr ⟨fun y hy => ?_, ih⟩
    rcases List.mem_cons.mp hy with e | hy
    · rw [e]; exact px
    · exact ltT_tr px ((List.pairwise_cons.mp ih).1 y hy)
theorem sorted_is {ls ks : List Str} (h : sortedS ls = true) (p : ls.Perm ks) (nd : ks.Nodup) : ls = sortT ks := by
  have nl : ls.Nodup := p.nodup_iff.mpr nd
  have hp : ls.Pairwise ltT := by
    cases ls with
    | nil => exact List.Pairwise.nil
    | cons x l => exact rising_lt l x h nl
  exact ltT_uniq _ _ hp (sortT_lt ks) fun k => by rw [p.mem_iff, mem_sortT]
section
variable {X : Cx}
def rSortG (P : Program) (w : World) : List V → Hp → VK → Prop := fun vs H Q => ∃ (a : Addr) (ks : List Str), vs = [V.ref a] ∧ H a = some (SGO P w a ks) ∧ ks.length ≤ 1000 ∧ ks.Nodup ∧
  ∀ p : Addr, H p = none → Q (.ref p) (upd H p (.lst ((sortT ks).map V.str)))
theorem cr_sortG (hc : X.calm = true) : CallR X (.builtin "sorted") (rSortG X.prog X.w) := by
  intro pins s σ H vs us Q I r h
  obtain ⟨a, ks, rfl, ha, hl, nd, q⟩ := h
  rw [Vals.ref1 r]
  refine sorted_sg (sgo_get I ha) (I.ok.hd hc) hl fun z p out c ls kp gz oz hp hob hst hso hpm => ?_
  have e := sorted_is hso hpm nd
  subst e
  have hlen : ((sortT ks).map V.str).length ≤ sizeLine := by rw [List.length_map, hpm.length_eq, sizeLine_eq]; omega
  have hn : H p = none := I.hok.fresh hp
  have J : Inv X pins σ (upd H p (.lst ((sortT ks).map V.str))) { s with heap := z.heap, gens := z.gens, drawn := z.drawn, toks := z.toks } :=
    I.call (ch := []) (Un.laid kp hp hn) (I.hok.laid kp hp ⟨hlen, out.toList, c, vals_of_strs hst, hob⟩) (by rw [gz]; exact I.bare) (fun _ q => nomatch q)
  have ez : z = { s with heap := z.heap, gens := z.gens, drawn := z.drawn, toks := z.toks } := by
    cases z
    cases s
    cases oz
    rfl
  rw [ez]
  exact ⟨.ref p, _, J, rfl, q p hn⟩
end
end GD

namespace GD
open PySem PySem.Spec PyProof.Rows L2
theorem compE_pre {vs : List Nat} {g : D → En → Option En} {c : EvT} {e : EvE} : ∀ (xs acc : List D) (env : En) (ds : List D) (env' : En), compE vs g c e xs acc env = some (ds, env') → ∃ rest, ds = acc ++ rest
  | [], acc, env, ds, env', h => by cases h; exact ⟨[], by simp⟩
  | x :: xs, acc, env, ds, env', h => by
    simp only [compE, Option.bind_eq_some_iff] at h
    obtain ⟨e3, b1, ⟨b, e4⟩, b2, b3⟩ := h
    cases b with
    | false =>
      simp only [Bool.false_eq_true, if_false] at b3
      exact compE_pre xs acc _ ds env' b3
    | true =>
      simp only [if_true, Option.bind_eq_some_iff] at b3
      obtain ⟨⟨r, e7⟩, b4, d, b5, b6⟩ := b3
      split at b6
      · obtain ⟨rest, hr⟩ := compE_pre xs _ _ ds env' b6
        exact ⟨[d] ++ rest, by rw [hr, List.append_assoc]⟩
      · cases b6
theorem strsOf_all : ∀ {ds : List D} {cs : List Str}, strsOf ds = some cs → ds = cs.map .str
  | [], cs, h => by cases h; rfl
  | d :: ds, cs, h => by
    cases d with
    | str b =>
      simp only [strsOf, Option.map_eq_some_iff] at h
      obtain ⟨l, hl, rfl⟩ := h
      rw [List.map_cons, ← strsOf_all hl]
    | _ => cases h
theorem pre_str {cs : List Str} {ks : List Str} {d : D} {rest : List D} (h : cs.map PyData.str = (ks.map .str ++ [d]) ++ rest) : ∃ c, d = .str c := by
  have hm : d ∈ cs.map PyData.str := by rw [h]; simp
  obtain ⟨c, _, rfl⟩ := List.mem_map.mp hm
  exact ⟨c, rfl⟩
theorem rp_strs {K : PySem.W.Frag} {O : Addr → Prop} {H : Hp} : ∀ ns : List Str, RpAll K O H (ns.map V.str) (ns.map PyData.str)
  | [] => .nil
  | n :: ns => .cons (.str n) (rp_strs ns)
section
variable {P : Program} {w : World} {K : PySem.W.Frag} {te : TE} {fe : EvE} {tt : TT} {ft : EvT}
end
end GD

namespace GD
open PySem PySem.Spec PyProof.Rows L2
section
variable {env e : En} {fw : EvW} {tg : D → En → Option En} {ft : EvT} {fe : EvE} {ds : List D} {vs : List Nat}
end
section
variable {K : PySem.W.Frag}
end
end GD

namespace GD
open PySem PySem.Spec PyProof.Rows L2
section
variable {X : Cx}
end
end GD

namespace GD
open PySem PySem.Spec PyProof.Rows L2
section
variable {K : PySem.W.Frag}
end
end GD

namespace GD
open PySem PySem.Spec PyProof.Rows L2
section
variable {K : PySem.W.Frag}
end
end GD

namespace GD
open PySem PySem.Spec PyProof.Rows L2
section
variable {K : PySem.W.Frag}
end
section
variable {X : Cx}
theorem strs_get : ∀ {cs : List Str} {us : List Value}, StrsAre us cs → ∀ (i : Nat) (v : Value), us[i]? = some v → ∃ (k : Str) (t : Tok), cs[i]? = some k ∧ v = Value.str k t
  | [], _, .nil, i, v, h => by cases i <;> cases h
  | c :: cs, _, .cons _ t r, 0, v, h => by
    cases h
    exact ⟨c, t, rfl, rfl⟩
  | c :: cs, _, .cons _ t r, i + 1, v, h => strs_get r i v h
def rSetT (K : PySem.W.Frag) (P : Program) (w : World) : List V → Hp → VK → Prop := fun vs H Q => ∃ (a : Addr) (cs : List Str), vs = [V.ref a] ∧ SqL K H a (cs.map V.str) ∧ cs.length ≤ 1000 ∧
  ∀ (p : Addr), H p = none → Q (.ref p) (upd H p (SGO P w p (unq cs)))
theorem cr_setT (hc : X.calm = true) : CallR X (.type "set") (rSetT X.K X.prog X.w) := by
  intro pins s σ H vs us Q I r h
  obtain ⟨a, cs, rfl, hS, hn, q⟩ := h
  rw [Vals.ref1 r]
  obtain ⟨its, rv, il, hz⟩ := I.list hS
  obtain ⟨o, n, ho, hcl, _, hda⟩ := il
  have sa := Vals.strs rv
  have hlen : its.length = cs.length := by have := rv.length; rw [List.length_map] at this; omega
  refine set_of_keys (kd := PySem.strKind X.prog X.w) (kf := kfS) cs kfS_is (I.ok.hd hc) ⟨o, ho, hcl, n, hda⟩ (by rw [List.size_toArray]; exact hlen) (fun i v hv => ?_) (by unfold scanBound; omega) fun h' tk R kp => ?_
  · obtain ⟨k, t, hk, rfl⟩ := strs_get sa i v (by simpa using hv)
    exact ⟨k, hk, (by show Value.isStrOf k (.str k t) = true; simp [Value.isStrOf]), rfl⟩
  exact ⟨.ref s.heap.objs.size, _, I.laid (t' := tk) kp (Nat.le_refl _) (sgo_new R), rfl, q _ (I.hok.fresh (Nat.le_refl _))⟩
variable {K : PySem.W.Frag} {P : Program} {w : World}
end
end GD

namespace GD
open PySem PySem.Spec PyProof.Rows L2
section
variable {K : PySem.W.Frag}
end
end GD

set_option maxHeartbeats 4000000
namespace GD
open PySem PySem.Spec PyProof.Rows L2
section
variable {X : Cx}
end
section
variable {K : PySem.W.Frag}
end
end GD

namespace GD
open PySem PySem.Spec PyProof.Rows L2
section
variable {K : PySem.W.Frag} {F : Frm} {T : Addr → Prop} {H H' : Hp} {env env' : En} {σ σ' : L2.St}
theorem StOk.drop (S : StOk K F T H env σ) (hT : ∀ a, T a → F.H0 a = none) (x : Ext T H H') : StOk K F T0 H' env σ := by
  have g : ∀ a, Ow F T0 env σ a → Ow F T env σ a := fun a q => q.imp id (.imp (fun h => h.elim) id)
  have k : ∀ a o, ¬ Ow F T env σ a → H a = some o → H' a = some o := fun a o n e => x.same a o e fun t => n (.inr (.inl t))
  refine ⟨S.len, fun j d e => ?_, fun j p m e => ?_, S.dis, ⟨fun a o e n => ?_, fun a e => x.live a (S.ext.live a e)⟩, S.dom, S.sub, fun a h => h.elim, fun a h => h.elim⟩
  · obtain ⟨u, e2, r⟩ := S.shr j d e
    exact ⟨u, e2, r.tr (fun a _ _ n q => n (g a q)) k⟩
  · obtain ⟨a, e2, r, c⟩ := S.own j p m e
    have nt : ¬ T a := fun t => S.tno a t ⟨j, p, m, e, e2⟩
    exact ⟨a, e2, r.tr (fun a _ _ n q => n (g a q)) k (fun o e => x.same a o e nt), c⟩
  · exact x.same a o (S.ext.same a o e n) fun t => by rw [hT a t] at e; cases e
end
section
variable {K : PySem.W.Frag}
def rowD (n : List Int) : D := .list (n.map .int)
def NN (n1 n2 n3 n4 : List Int) (k : Int) : D := .list [rowD n1, rowD n2, rowD n3, rowD n4, .int k]
structure NestOk (f1 f2 f3 f4 f5 : EvX) (env : En) (n1 n2 n3 n4 : List Int) (k : Int) (s : Str) : Prop where
  e1 : f1 env = some (.inr (.l (n1.map .int)), env)
  e2 : f2 env = some (.inr (.l (n2.map .int)), env)
  e3 : f3 env = some (.inr (.l (n3.map .int)), env)
  e4 : f4 (env.set 4 none) = some (.inr (.l (n4.map .int)), env.set 4 none)
  e5 : f5 (env.set 4 none) = some (.inl (.val (.int k)), env.set 4 none)
  s2 : env[2]? = some (some (.shr (.str s)))
  ok : okShow (NN n1 n2 n3 n4 k) = true
  sh : (NN n1 n2 n3 n4 k).shown = s
  len : 5 < env.length
  l1 : n1.length ≤ 1000
  l2 : n2.length ≤ 1000
  l3 : n3.length ≤ 1000
  l4 : n4.length ≤ 1000
end
end GD

set_option maxHeartbeats 2000000
namespace GDX
open PySem PySem.W PySem.Calls PyProof.Rows PySem.HandSPX Builtin.ObjectAttr
section
variable {prog : Program} {w : World} {A : Around} {E : Value → Shared → Prop} {R : Result → Shared → Prop} {hp : Heap} {g : Array GenState} {d : Drawn} {t : Nat} {os : OsState}
theorem store1 {K : Frag} {B : String} {bmB : List Value} {name : Str} {tk : Tok} {v : Value} {x C t0 : Addr} (SF : StoreFacts B bmB "object.__setattr__" "object") (X : K.In hp) (hx : hp.get? x = some (excObj C t0 none .none))
    (ov : excOver K C bmB = true) (ht : takerIn K C name = some none) (hh : hasDictIn K C = true)
    (hq : ∀ h' tk' dx, (∀ b o, b ≠ x → hp.get? b = some o → h'.get? b = some o) → hp.objs.size ≤ dx → dx ≠ x → h'.get? x = some (excObj C t0 (some dx) .none) →
      h'.Ns1 dx (fun y => if y = name then some v else none) → R (.ok (.ret .none)) ⟨h', g, d, tk', os⟩) :
    codeAny (model prog w) A (.call (.builtin "object.__setattr__") ⟨[.ref x, .str name tk, v], []⟩) R ⟨hp, g, d, t, os⟩ := by
  refine osa_openX (s := ⟨hp, g, d, t, os⟩) (od := none) SF X ⟨hx, rfl, rfl, trivial⟩ ov ht fun _ => ?_
  obtain ⟨cdx, hcx, hdx⟩ := any_some hh
  have hne : x ≠ hp.objs.size := Nat.ne_of_lt (Heap.lt_size hx)
  refine wpAny_bind (wpAny_pure (wpAny_bind (instanceDict_exc (s := ⟨hp, g, d, t, os⟩) hx (looks_clsIn X hcx) hdx ?_)))
  generalize hh1 : (hp.push (PySem.W.dictOf [] 0)).update x (fun o => { o with dict := some hp.objs.size }) = h1
  have old : ∀ b o, b ≠ x → hp.get? b = some o → h1.get? b = some o := fun b o hb e => by
    rw [← hh1, Heap.get?_update_ne _ _ _ _ hb]
    exact Heap.get?_push_of_some _ e
  have nsd : h1.Ns hp.objs.size (fun _ => none) := by
    refine ⟨PySem.W.dictOf [] 0, #[], 0, ?_, rfl, fun e he => absurd he (by simp), fun _ => rfl⟩
    rw [← hh1, Heap.get?_update_ne _ _ _ _ hne.symm]
    exact Heap.get?_push_at rfl rfl
  have hx1 : h1.get? x = some (excObj C t0 (some hp.objs.size) .none) := by
    rw [← hh1]
    exact Heap.get?_update_self _ (Heap.get?_push_of_some _ hx) rfl
  show wpAny _ _ (storeInDict hp.objs.size (.str name tk) name v) _ _ _
  refine PySem.HandSPX.store_in_new nsd fun h2 tk2 n2 sb => ?_
  exact hq h2 tk2 hp.objs.size (fun b o hb e => (sb.2 b (Nat.ne_of_lt (Heap.lt_size e))).trans (old b o hb e)) (Nat.le_refl _) hne.symm ((sb.2 x hne).trans hx1) n2
end

namespace XS
def iA (p1 p2 : Pos) : Arguments := { posonlyargs := [], args := [{ arg := "self", annotation := none, pos := p1 }, { arg := "slot", annotation := none, pos := p2 }], vararg := none, kwonlyargs := [], kw_defaults := [], kwarg := none, defaults := [] }
def iB (q1 q2 q3 q4 : Pos) : List Stmt := [.Assign [.Attribute (.Name "self" q1) "slot" q2] (.Name "slot" q3) q4]
def iS : Scope := { kind := .function, names := [(PySem.Str.ofString "self", .local), (PySem.Str.ofString "slot", .local)], isGenerator := false, isCoroutine := false, more := [] }
structure XT (K : Frag) (mg : Str → Option Value) (nm : Str) (bmB : List Value) (newId : String) (C fI : Addr) : Prop where
  gC : mg nm = some (.ref C)
  ini : excInitIn K C bmB newId = true
  ov : excOver K C bmB = true
  sa : findIn K (.ref C) "__setattr__" = some (some (.builtin "object.__setattr__"))
  ga : findIn K (.ref C) "__getattribute__" = some (some (.builtin "BaseException.__getattribute__"))
  gg : findIn K (.ref C) "__getattr__" = some none
  noN : findIn K (.ref C) "slot" = some none
  iC : findIn K (.ref C) "__init__" = some (some (.ref fI))
  tC : typeIn K (.ref fI) = some (.type "function")
  kC : keepIn K (.ref C) = true
  exC : subIn K (.ref C) (.type "BaseException") = some true
  tyC : typeIn K (.ref C) = some (.type "type")
  hdC : hasDictIn K C = true
  fn : ∃ (st : Stmt) (qn : Str) (oc : Value) (od : Option Addr) (kV doc pm : Value) (an : Option Addr) (cdv ct : Value) (osl : Array (Option Value)),
    K.lookup fI = some ⟨oc, od, .func (fnOf "__init__" qn (L2.defArgs st) (L2.defBody st) (L2.defScope st) .none kV doc pm an cdv ct), osl⟩ ∧ codeIn K cdv qn = true ∧
      (∃ p1 p2 : Pos, L2.defArgs st = iA p1 p2) ∧ (∃ q1 q2 q3 q4 : Pos, L2.defBody st = iB q1 q2 q3 q4) ∧ L2.defScope st = iS
structure IEnd (h h' : Heap) (x C dx t1 : Addr) (v : Value) : Prop where
  keep : ∀ b o, b ≠ x → h.get? b = some o → h'.get? b = some o
  obj : h'.get? x = some (excObj C t1 (some dx) .none)
  big : h.objs.size ≤ dx
  ne : dx ≠ x
  ns : h'.Ns1 dx (fun y => if y = "slot" then some v else none)
structure Made (h h' : Heap) (e C d : Addr) (v : Value) : Prop where
  keep : ∀ b o, h.get? b = some o → h'.get? b = some o
  new : h.objs.size ≤ e
  obj : ∃ t1 : Addr, h'.get? e = some (excObj C t1 (some d) .none)
  big : h.objs.size ≤ d
  ne : d ≠ e
  ns : h'.Ns1 d (fun y => if y = "slot" then some v else none)
theorem ldC {M : Model} {s : Shared} {name : Str} {scope : Scope} {L a : Addr} {cd : Value} {m : Str → Option Value} {x : Str} {pos : Pos} {v : Value} {Q : Value → Shared → Prop} {A : Around} {E : Value → Shared → Prop} (hn : s.heap.Ns L m) (hv : m x = some v) (h : Q v s)
    (hk : scope.kind = .function := by rfl) (hl : (envOfC name scope L a cd).kindOf x = some .local := by rfl) (hd : (x == ("__debug__" : Str)) = false := by decide) :
    wpAny M A (eval (.Name x pos) (envOfC name scope L a cd)) Q E s := wpAny_Name (wpAny_loadName_local hk hl hn hv h) hd
section
variable {prog : Program} {w : World} {A : Around} {E : Value → Shared → Prop} {R : Result → Shared → Prop} {s : Shared} {K : Frag} {mg : Str → Option Value} {nm : Str} {bmB : List Value} {B newId initId : String} {C fI : Addr}
theorem init_runs (SF : StoreFacts B bmB "object.__setattr__" "object") (T : XT K mg nm bmB newId C fI) {x t0 : Addr} {v : Value} (X : K.In s.heap) (hlim : s.heap.NoLimit) (hx : s.heap.get? x = some (excO C t0)) (hroom : A.depth < recursionLimit)
    (hq : ∀ h' tk dx, IEnd s.heap h' x C dx t0 v → R (.ok (.ret .none)) { s with heap := h', toks := tk }) :
    codeAny (model prog w) A (.call (.ref fI) ⟨[.ref x, v], []⟩) R s := by
  obtain ⟨st, qn, oc, od, kV, doc, pm, an, cdv, ct, osl, ho, hcd, ⟨p1, p2, eA⟩, ⟨q1, q2, q3, q4, eB⟩, eS⟩ := T.fn
  rw [eA, eB, eS] at ho
  refine Att.call_fn (binds := [("self", .ref x), ("slot", v)]) X hlim ho hcd hroom (BindsTo.of_eq (by first | rfl | with_unfolding_all rfl)) (by first | rfl | decide | with_unfolding_all rfl) (fun s₁ IC => ?_) rfl rfl rfl
  obtain ⟨h₁, tk₁, rfl⟩ := IC.toInCall.same
  have k : ∀ b o, s.heap.get? b = some o → h₁.get? b = some o := IC.toInCall.keep
  have hn := IC.toInCall.ns
  have X₁ : K.In h₁ := X.keeps k
  have hx₁ := k _ _ hx
  show wpAny _ _ (execs _ _) _ _ _
  refine wpAny_execs_cons (plainObj_wpAny_Assign_Attribute ?_)
  refine ldC (v := v) hn (by first | rfl | with_unfolding_all rfl | kernel_rfl) (ldC (v := .ref x) hn (by first | rfl | with_unfolding_all rfl | kernel_rfl) ?_)
  refine set_plain X₁ (ox := excO C t0) (od := none) ⟨hx₁, rfl, rfl, trivial⟩ T.sa ?_
  refine store1 SF X₁ hx₁ T.ov (by unfold takerIn; rw [T.noN]; rfl) T.hdC fun h₃ tk₃ dx k₃ dn dne hx₃ hn₃ => ?_
  show wpAny _ _ (execs _ _) _ _ _
  have z : s.heap.objs.size < h₁.objs.size := hn.lt
  exact wpAny_execs_nil (hq h₃ tk₃ dx ⟨fun b o hb e => k₃ b o hb (k b o e), hx₃, Nat.le_of_lt (Nat.lt_of_lt_of_le z dn), dne, hn₃⟩)
theorem made (FB : ExcBaseFacts B newId initId bmB) (SF : StoreFacts B bmB "object.__setattr__" "object") (T : XT K mg nm bmB newId C fI) {v : Value} (X : K.In s.heap) (hlim : s.heap.NoLimit) (hroom : A.depth + 1 < recursionLimit)
    (hq : ∀ h' tk e d, Made s.heap h' e C d v → R (.ok (.ret (.ref e))) { s with heap := h', toks := tk }) :
    codeAny (model prog w) A (.call (.ref C) ⟨[v], []⟩) R s := by
  obtain ⟨nmC, N, qC, bs, bm, hdct, sn, sub, ab, col, dd, k0, k1, k2, k3, k5, hC, hT⟩ := excInit_of X T.ini
  obtain ⟨hp, g, dr, tk, os⟩ := s
  have k : ∀ b o, hp.get? b = some o → ((hp.push (kdv_tup [v])).push (excO C hp.objs.size)).get? b = some o := fun b o e => Heap.get?_push_of_some _ (Heap.get?_push_of_some _ e)
  have hget : ((hp.push (kdv_tup [v])).push (excO C hp.objs.size)).get? (hp.objs.size + 1) = some (excO C hp.objs.size) := by heap_get
  refine call_own FB hT hC (looks_findIn X T.iC) (fun self => bind_fn X self T.tC) (by rw [sizeLine_eq]; exact (by decide : 1 ≤ 16777216)) ?_
  refine init_runs (s := ⟨(hp.push (kdv_tup [v])).push (excO C hp.objs.size), g, dr, tk, os⟩) SF T (X.keeps k) (hlim.keeps k) hget ?_ fun h' tk' dx ⟨k', hx, dn, dne, hns⟩ => ?_
  · show A.depth + 1 < recursionLimit
    exact hroom
  · have old : ∀ b o, hp.get? b = some o → h'.get? b = some o := fun b o e => k' b o (Nat.ne_of_lt (Nat.lt_succ_of_lt (Heap.lt_size e))) (k b o e)
    have z : hp.objs.size + 1 + 1 ≤ dx := by
      first
        | (simpa only [Heap.size_push] using dn)
        | exact dn
        | (have q := dn; rw [Heap.size_push, Heap.size_push] at q; exact q)
    exact ⟨rfl, hq h' tk' (hp.objs.size + 1) dx ⟨old, Nat.le_succ _, ⟨_, hx⟩, Nat.le_trans (Nat.le_trans (Nat.le_succ _) (Nat.le_succ _)) z, dne, hns⟩⟩
end
end XS

namespace XL
def iA (p1 p2 : Pos) : Arguments := { posonlyargs := [], args := [{ arg := "self", annotation := none, pos := p1 }, { arg := "limit", annotation := none, pos := p2 }], vararg := none, kwonlyargs := [], kw_defaults := [], kwarg := none, defaults := [] }
def iB (q1 q2 q3 q4 : Pos) : List Stmt := [.Assign [.Attribute (.Name "self" q1) "limit" q2] (.Name "limit" q3) q4]
def iS : Scope := { kind := .function, names := [(PySem.Str.ofString "self", .local), (PySem.Str.ofString "limit", .local)], isGenerator := false, isCoroutine := false, more := [] }
structure XT (K : Frag) (mg : Str → Option Value) (nm : Str) (bmB : List Value) (newId : String) (C fI : Addr) : Prop where
  gC : mg nm = some (.ref C)
  ini : excInitIn K C bmB newId = true
  ov : excOver K C bmB = true
  sa : findIn K (.ref C) "__setattr__" = some (some (.builtin "object.__setattr__"))
  ga : findIn K (.ref C) "__getattribute__" = some (some (.builtin "BaseException.__getattribute__"))
  gg : findIn K (.ref C) "__getattr__" = some none
  noN : findIn K (.ref C) "limit" = some none
  iC : findIn K (.ref C) "__init__" = some (some (.ref fI))
  tC : typeIn K (.ref fI) = some (.type "function")
  kC : keepIn K (.ref C) = true
  exC : subIn K (.ref C) (.type "BaseException") = some true
  tyC : typeIn K (.ref C) = some (.type "type")
  hdC : hasDictIn K C = true
  fn : ∃ (st : Stmt) (qn : Str) (oc : Value) (od : Option Addr) (kV doc pm : Value) (an : Option Addr) (cdv ct : Value) (osl : Array (Option Value)),
    K.lookup fI = some ⟨oc, od, .func (fnOf "__init__" qn (L2.defArgs st) (L2.defBody st) (L2.defScope st) .none kV doc pm an cdv ct), osl⟩ ∧ codeIn K cdv qn = true ∧
      (∃ p1 p2 : Pos, L2.defArgs st = iA p1 p2) ∧ (∃ q1 q2 q3 q4 : Pos, L2.defBody st = iB q1 q2 q3 q4) ∧ L2.defScope st = iS
structure IEnd (h h' : Heap) (x C dx t1 : Addr) (v : Value) : Prop where
  keep : ∀ b o, b ≠ x → h.get? b = some o → h'.get? b = some o
  obj : h'.get? x = some (excObj C t1 (some dx) .none)
  big : h.objs.size ≤ dx
  ne : dx ≠ x
  ns : h'.Ns1 dx (fun y => if y = "limit" then some v else none)
structure Made (h h' : Heap) (e C d : Addr) (v : Value) : Prop where
  keep : ∀ b o, h.get? b = some o → h'.get? b = some o
  new : h.objs.size ≤ e
  obj : ∃ t1 : Addr, h'.get? e = some (excObj C t1 (some d) .none)
  big : h.objs.size ≤ d
  ne : d ≠ e
  ns : h'.Ns1 d (fun y => if y = "limit" then some v else none)
theorem ldC {M : Model} {s : Shared} {name : Str} {scope : Scope} {L a : Addr} {cd : Value} {m : Str → Option Value} {x : Str} {pos : Pos} {v : Value} {Q : Value → Shared → Prop} {A : Around} {E : Value → Shared → Prop} (hn : s.heap.Ns L m) (hv : m x = some v) (h : Q v s)
    (hk : scope.kind = .function := by rfl) (hl : (envOfC name scope L a cd).kindOf x = some .local := by rfl) (hd : (x == ("__debug__" : Str)) = false := by decide) :
    wpAny M A (eval (.Name x pos) (envOfC name scope L a cd)) Q E s := wpAny_Name (wpAny_loadName_local hk hl hn hv h) hd
section
variable {prog : Program} {w : World} {A : Around} {E : Value → Shared → Prop} {R : Result → Shared → Prop} {s : Shared} {K : Frag} {mg : Str → Option Value} {nm : Str} {bmB : List Value} {B newId initId : String} {C fI : Addr}
theorem init_runs (SF : StoreFacts B bmB "object.__setattr__" "object") (T : XT K mg nm bmB newId C fI) {x t0 : Addr} {v : Value} (X : K.In s.heap) (hlim : s.heap.NoLimit) (hx : s.heap.get? x = some (excO C t0)) (hroom : A.depth < recursionLimit)
    (hq : ∀ h' tk dx, IEnd s.heap h' x C dx t0 v → R (.ok (.ret .none)) { s with heap := h', toks := tk }) :
    codeAny (model prog w) A (.call (.ref fI) ⟨[.ref x, v], []⟩) R s := by
  obtain ⟨st, qn, oc, od, kV, doc, pm, an, cdv, ct, osl, ho, hcd, ⟨p1, p2, eA⟩, ⟨q1, q2, q3, q4, eB⟩, eS⟩ := T.fn
  rw [eA, eB, eS] at ho
  refine Att.call_fn (binds := [("self", .ref x), ("limit", v)]) X hlim ho hcd hroom (BindsTo.of_eq (by first | rfl | with_unfolding_all rfl)) (by first | rfl | decide | with_unfolding_all rfl) (fun s₁ IC => ?_) rfl rfl rfl
  obtain ⟨h₁, tk₁, rfl⟩ := IC.toInCall.same
  have k : ∀ b o, s.heap.get? b = some o → h₁.get? b = some o := IC.toInCall.keep
  have hn := IC.toInCall.ns
  have X₁ : K.In h₁ := X.keeps k
  have hx₁ := k _ _ hx
  show wpAny _ _ (execs _ _) _ _ _
  refine wpAny_execs_cons (plainObj_wpAny_Assign_Attribute ?_)
  refine ldC (v := v) hn (by first | rfl | with_unfolding_all rfl | kernel_rfl) (ldC (v := .ref x) hn (by first | rfl | with_unfolding_all rfl | kernel_rfl) ?_)
  refine set_plain X₁ (ox := excO C t0) (od := none) ⟨hx₁, rfl, rfl, trivial⟩ T.sa ?_
  refine store1 SF X₁ hx₁ T.ov (by unfold takerIn; rw [T.noN]; rfl) T.hdC fun h₃ tk₃ dx k₃ dn dne hx₃ hn₃ => ?_
  show wpAny _ _ (execs _ _) _ _ _
  have z : s.heap.objs.size < h₁.objs.size := hn.lt
  exact wpAny_execs_nil (hq h₃ tk₃ dx ⟨fun b o hb e => k₃ b o hb (k b o e), hx₃, Nat.le_of_lt (Nat.lt_of_lt_of_le z dn), dne, hn₃⟩)
theorem made (FB : ExcBaseFacts B newId initId bmB) (SF : StoreFacts B bmB "object.__setattr__" "object") (T : XT K mg nm bmB newId C fI) {v : Value} (X : K.In s.heap) (hlim : s.heap.NoLimit) (hroom : A.depth + 1 < recursionLimit)
    (hq : ∀ h' tk e d, Made s.heap h' e C d v → R (.ok (.ret (.ref e))) { s with heap := h', toks := tk }) :
    codeAny (model prog w) A (.call (.ref C) ⟨[v], []⟩) R s := by
  obtain ⟨nmC, N, qC, bs, bm, hdct, sn, sub, ab, col, dd, k0, k1, k2, k3, k5, hC, hT⟩ := excInit_of X T.ini
  obtain ⟨hp, g, dr, tk, os⟩ := s
  have k : ∀ b o, hp.get? b = some o → ((hp.push (kdv_tup [v])).push (excO C hp.objs.size)).get? b = some o := fun b o e => Heap.get?_push_of_some _ (Heap.get?_push_of_some _ e)
  have hget : ((hp.push (kdv_tup [v])).push (excO C hp.objs.size)).get? (hp.objs.size + 1) = some (excO C hp.objs.size) := by heap_get
  refine call_own FB hT hC (looks_findIn X T.iC) (fun self => bind_fn X self T.tC) (by rw [sizeLine_eq]; exact (by decide : 1 ≤ 16777216)) ?_
  refine init_runs (s := ⟨(hp.push (kdv_tup [v])).push (excO C hp.objs.size), g, dr, tk, os⟩) SF T (X.keeps k) (hlim.keeps k) hget ?_ fun h' tk' dx ⟨k', hx, dn, dne, hns⟩ => ?_
  · show A.depth + 1 < recursionLimit
    exact hroom
  · have old : ∀ b o, hp.get? b = some o → h'.get? b = some o := fun b o e => k' b o (Nat.ne_of_lt (Nat.lt_succ_of_lt (Heap.lt_size e))) (k b o e)
    have z : hp.objs.size + 1 + 1 ≤ dx := by
      first
        | (simpa only [Heap.size_push] using dn)
        | exact dn
        | (have q := dn; rw [Heap.size_push, Heap.size_push] at q; exact q)
    exact ⟨rfl, hq h' tk' (hp.objs.size + 1) dx ⟨old, Nat.le_succ _, ⟨_, hx⟩, Nat.le_trans (Nat.le_trans (Nat.le_succ _) (Nat.le_succ _)) z, dne, hns⟩⟩
end
end XL

end GDX
namespace GDX
open PySem PySem.Spec PyProof.Rows L2
namespace XS
section
variable {X : Cx} {C fI : Addr} {nm : Str} {bmB : List Value} {B newId initId : String}
end
end XS

namespace XL
section
variable {X : Cx} {C fI : Addr} {nm : Str} {bmB : List Value} {B newId initId : String}
end
end XL
end GDX

set_option maxHeartbeats 2000000
namespace GDX
open PySem PySem.Spec PyProof.Rows L2 GD
section
variable {X : Cx} {pins : List (Addr × Obj)} {σ : L2.St} {H : Hp} {s : Shared}
end
section
variable {X : Cx} {x1 x2 n : Str} {c1 c2 : Value} {i kk : Nat} {body suite : List Stmt} {b₀ : Stmt} {p1 p2 tp pos pos' : Pos} {tb : WX → TS} {ts : TS}
end
end GDX

set_option maxHeartbeats 2000000
namespace PySem.W
open PySem PySem.Spec PySem.Calls PyProof.Rows
section
variable {prog : Program} {w : World} {A : Around} {E : Value → Shared → Prop} {s : Shared} {K : Frag} {x C : Addr} {ox : Obj} {od : Option Obj}
end
end PySem.W
namespace GDX
open PySem PySem.Spec PyProof.Rows L2 GD
section
variable {X : Cx}
end
end GDX

set_option maxHeartbeats 2000000
namespace GD
open PySem PySem.Spec PyProof.Rows L2 GDX
inductive FlX where
  | fl (f : Fl)
  | rs (nm f : Str) (d : D)
abbrev EvSX := En → Option (FlX × En)
def ZEnd (K : PySem.W.Frag) (F : Frm) (env : En) (σ : L2.St) (H : Hp) (env' : En) (W : WX) (Dn : Ends) : FlX → Prop
  | .fl f => SEnd K F env σ H env' Dn f
  | .rs nm f d => ∀ (C : Addr) (v : V) (σ' : L2.St) (H' : Hp) (dx : Addr), PySem.W.nsIn K mainGlobals nm = some (some (.ref C)) → StOk K F T0 H' env' σ' → Rp K (Ow F T0 env' σ') H' v d → (f = ("" : Str) ∨ H' dx = none) →
    W (.ref C) (xDx f dx) σ' (xH f H' dx v)
section
variable {K : PySem.W.Frag} {t u : WX → TS} {f g : EvSX}
theorem ZEnd.pre {F : Frm} {env env1 env' : En} {σ σ1 : L2.St} {H H1 : Hp} {W : WX} {Dn : Ends} {fl : FlX} (h : ZEnd K F env σ H env' W Dn fl) (b : Stq env σ H env1 σ1 H1) : ZEnd K F env1 σ1 H1 env' W Dn fl := by
  cases fl with
  | fl f => exact SEnd.pre h b
  | rs nm f d => exact h
end
inductive RX where
  | ret (d : D)
  | rs (nm f : Str) (d : D)
abbrev FnX := List D → Option RX
section
variable {K : PySem.W.Frag}
theorem start_ok {O : Addr → Prop} {H : Hp} {vs : List V} {ds : List D} {N : List Str} (hO : ∀ a, O a → H a ≠ none) (r : RpAll K O H vs ds) : StOk K ⟨O, fun _ => False, H, vs⟩ T0 H (env0 N.length (ds.map Sl.shr)) (L2.start N vs) := by
  have hl := r.length
  have getD : ∀ (i : Nat) (s : Sl), (env0 N.length (ds.map Sl.shr))[i]? = some (some s) → ∃ d, ds[i]? = some d ∧ s = .shr d := fun i s e => by
    have e' := env0_get e
    rw [List.getElem?_map, Option.map_eq_some_iff] at e'
    obtain ⟨d, e1, e2⟩ := e'
    exact ⟨d, e1, e2.symm⟩
  have noWr : ∀ a, ¬ Wr (env0 N.length (ds.map Sl.shr)) (L2.start N vs) a := fun a ⟨i, p, m, e, _⟩ => by
    obtain ⟨d, _, e2⟩ := getD i _ e
    cases e2
  refine ⟨by simp [env0, L2.start, hl], fun i d e => ?_, fun i p m e => ?_, fun i j p q m n a e _ _ _ => ?_, Ext.refl, hO, fun a h => h.elim, fun a h => h.elim, fun a h => h.elim⟩
  · obtain ⟨d', e1, e2⟩ := getD i _ e
    cases e2
    obtain ⟨v, hv, rv⟩ := r.get e1
    exact ⟨v, start_get hv, rv.anti fun a h => h.elim id fun h => h.elim (fun z => z.elim) fun z => absurd z (noWr a)⟩
  · obtain ⟨d', _, e2⟩ := getD i _ e
    cases e2
  · obtain ⟨d', _, e2⟩ := getD i _ e
    cases e2
end
section
variable {X : Cx} {W : WX} {k : Nat} {f : Addr} {fd : FuncData} {ps ks : List Str} {sp : Sp} {x : Str} {p pos : Pos} {e : Expr} {es : List Expr} {t tk : TA} {kws : List Keyword} {g : List Value → List Value → List Value} {gV : List V → List V → List V}
end
section
variable {X : Cx} {x1 x2 n : Str} {c1 c2 : Value} {i j k kk : Nat} {body suite : List Stmt} {b₀ : Stmt} {p1 p2 tp pos pos' : Pos} {M : FnX} {gV : List V → List V → List V} {ta tk : TA} {ts : TS}
end
section
variable {K : PySem.W.Frag}
end
section
variable {K : PySem.W.Frag} {O : Addr → Prop} {H : Hp} {x : V}
end
end GD

namespace GD
open PySem PySem.Spec PyProof.Rows L2 GDX
section
variable {X : Cx} {W : WX} {a : Expr} {ta : TA} {C fI : Addr} {nm : Str} {p pos pos2 : Pos} {k : Nat}
end
section
variable {K : PySem.W.Frag} {cls : Value} {A B C : Addr} {x y b : Bool}
end
section
variable {f g : EvSX} {fs : EvS} {fc : EvT} {fa fk : EvA} {env e : En} {nm n fd : Str} {d : D} {r : R} {l w : List R} {M : FnX} {nms : List Str} {gR : List R → List R → List R} {i j : Nat} {ds : List D} {fe : EvE} {k : Str → Option Bool} {b : Bool} {fl : Fl}
theorem c_isNX : isN (excD nm fd d) = false := rfl
end
end GD
namespace GD
open PySem PySem.Spec PySem.W PyProof.Rows
section
variable {K : Frag} {nm q : Str} {C N : Addr} {bs bm : List Value} {sn : List Str} {sub : List Value} {ab : Bool} {col : Option Bool} {dd : Option Addr} {k0 k1 k2 k3 k5 : Option Value} {newId : String}
end
end GD

set_option maxHeartbeats 2000000
namespace GD
open PySem PySem.Spec PyProof.Rows L2 GDX
def RetN (K : PySem.W.Frag) (P : List V → V → Prop) (F : Frm) (H' : Hp) (v : V) (env' : En) (σ' : L2.St) : Ret → Prop
  | .val d => RetOk K F H' v env' σ' (.val d)
  | .new m => ∃ (t : Addr) (xs : List V) (x : V), v = .ref t ∧ H' t = some (.tup xs) ∧ P xs x ∧ RetOk K F H' x env' σ' (.new m)
def NEnd (K : PySem.W.Frag) (P : List V → V → Prop) (F : Frm) (env : En) (σ : L2.St) (H : Hp) (env' : En) (Dn : Ends) : Fl → Prop
  | .rt r => ∀ v σ' H', RetN K P F H' v env' σ' r → Dn.rt v H'
  | fl => SEnd K F env σ H env' Dn fl
section
variable {K : PySem.W.Frag} {P : List V → V → Prop} {t u : TS} {f g : EvS}
theorem NEnd.pre {F : Frm} {env env1 env' : En} {σ σ1 : L2.St} {H H1 : Hp} {Dn : Ends} {fl : Fl} (h : NEnd K P F env σ H env' Dn fl) (b : Stq env σ H env1 σ1 H1) : NEnd K P F env1 σ1 H1 env' Dn fl := by
  cases fl with
  | rt r => exact h
  | nx => exact SEnd.pre (fl := .nx) h b
  | bk => exact SEnd.pre (fl := .bk) h b
  | ct => exact SEnd.pre (fl := .ct) h b
end
abbrev FnN := List D → Option Mu
def P0 (xs : List V) (x : V) : Prop := ∃ y, xs = [x, y]
section
variable {K : PySem.W.Frag}
end
end GD

namespace GD
open PySem PySem.Spec PyProof.Rows L2 GDX
section
variable {f fs : EvS} {fa fk : EvA} {fe : EvE} {env e : En} {nm n fd : Str} {d : D} {r : R} {l w : List R} {M : FnX} {N : FnN} {nms : List Str} {gR : List R → List R → List R} {i j : Nat} {ds : List D} {m m' : Mu} {fl : Fl}
end
end GD

set_option maxHeartbeats 4000000
namespace GD
open PySem PySem.Spec PyProof.Rows L2
section
variable {K : PySem.W.Frag}
end
end GD

set_option maxHeartbeats 4000000
namespace PySem.W
open PySem PySem.Spec PySem.Calls PyProof.Rows
section
variable {M : Model} {K : Frag}
end
end PySem.W
namespace GDX
open PySem PySem.Spec PyProof.Rows L2 GD
inductive NamesEx (X : Cx) : List Expr → List Value → Prop
  | nil : NamesEx X [] []
  | cons {x : Str} {c : Value} {p : Pos} {es : List Expr} {cs : List Value} : Names X x c → NamesEx X es cs → NamesEx X (.Name x p :: es) (c :: cs)
theorem NamesEx.to {X Y : Cx} (f : ∀ x c, Names X x c → Names Y x c) : ∀ {es : List Expr} {cs : List Value}, NamesEx X es cs → NamesEx Y es cs
  | _, _, .nil => .nil
  | _, _, .cons h t => .cons (f _ _ h) (NamesEx.to f t)
theorem NamesEx.len {X : Cx} : ∀ {es : List Expr} {cs : List Value}, NamesEx X es cs → es.length = cs.length
  | _, _, .nil => rfl
  | _, _, .cons _ t => congrArg (· + 1) (NamesEx.len t)
section
variable {X : Cx} {x1 n : Str} {c1 : Value} {cs : List Value} {elts : List Expr} {i kk : Nat} {body suite : List Stmt} {b₀ : Stmt} {p1 tp pos pos' : Pos} {tb : WX → TS} {ts : TS}
end
end GDX

set_option maxHeartbeats 2000000
namespace GDX
open PySem PySem.W PySem.Calls PyProof.Rows PySem.HandSPX Builtin.ObjectAttr

namespace XN
def iA (p1 p2 : Pos) : Arguments := { posonlyargs := [], args := [{ arg := "self", annotation := none, pos := p1 }, { arg := "line", annotation := none, pos := p2 }], vararg := none, kwonlyargs := [], kw_defaults := [], kwarg := none, defaults := [] }
def iB (q1 q2 q3 q4 : Pos) : List Stmt := [.Assign [.Attribute (.Name "self" q1) "line" q2] (.Name "line" q3) q4]
def iS : Scope := { kind := .function, names := [(PySem.Str.ofString "self", .local), (PySem.Str.ofString "line", .local)], isGenerator := false, isCoroutine := false, more := [] }
structure XT (K : Frag) (mg : Str → Option Value) (nm : Str) (bmB : List Value) (newId : String) (C fI : Addr) : Prop where
  gC : mg nm = some (.ref C)
  ini : excInitIn K C bmB newId = true
  ov : excOver K C bmB = true
  sa : findIn K (.ref C) "__setattr__" = some (some (.builtin "object.__setattr__"))
  ga : findIn K (.ref C) "__getattribute__" = some (some (.builtin "BaseException.__getattribute__"))
  gg : findIn K (.ref C) "__getattr__" = some none
  noN : findIn K (.ref C) "line" = some none
  iC : findIn K (.ref C) "__init__" = some (some (.ref fI))
  tC : typeIn K (.ref fI) = some (.type "function")
  kC : keepIn K (.ref C) = true
  exC : subIn K (.ref C) (.type "BaseException") = some true
  tyC : typeIn K (.ref C) = some (.type "type")
  hdC : hasDictIn K C = true
  fn : ∃ (st : Stmt) (qn : Str) (oc : Value) (od : Option Addr) (kV doc pm : Value) (an : Option Addr) (cdv ct : Value) (osl : Array (Option Value)),
    K.lookup fI = some ⟨oc, od, .func (fnOf "__init__" qn (L2.defArgs st) (L2.defBody st) (L2.defScope st) .none kV doc pm an cdv ct), osl⟩ ∧ codeIn K cdv qn = true ∧
      (∃ p1 p2 : Pos, L2.defArgs st = iA p1 p2) ∧ (∃ q1 q2 q3 q4 : Pos, L2.defBody st = iB q1 q2 q3 q4) ∧ L2.defScope st = iS
structure IEnd (h h' : Heap) (x C dx t1 : Addr) (v : Value) : Prop where
  keep : ∀ b o, b ≠ x → h.get? b = some o → h'.get? b = some o
  obj : h'.get? x = some (excObj C t1 (some dx) .none)
  big : h.objs.size ≤ dx
  ne : dx ≠ x
  ns : h'.Ns1 dx (fun y => if y = "line" then some v else none)
structure Made (h h' : Heap) (e C d : Addr) (v : Value) : Prop where
  keep : ∀ b o, h.get? b = some o → h'.get? b = some o
  new : h.objs.size ≤ e
  obj : ∃ t1 : Addr, h'.get? e = some (excObj C t1 (some d) .none)
  big : h.objs.size ≤ d
  ne : d ≠ e
  ns : h'.Ns1 d (fun y => if y = "line" then some v else none)
theorem ldC {M : Model} {s : Shared} {name : Str} {scope : Scope} {L a : Addr} {cd : Value} {m : Str → Option Value} {x : Str} {pos : Pos} {v : Value} {Q : Value → Shared → Prop} {A : Around} {E : Value → Shared → Prop} (hn : s.heap.Ns L m) (hv : m x = some v) (h : Q v s)
    (hk : scope.kind = .function := by rfl) (hl : (envOfC name scope L a cd).kindOf x = some .local := by rfl) (hd : (x == ("__debug__" : Str)) = false := by decide) :
    wpAny M A (eval (.Name x pos) (envOfC name scope L a cd)) Q E s := wpAny_Name (wpAny_loadName_local hk hl hn hv h) hd
section
variable {prog : Program} {w : World} {A : Around} {E : Value → Shared → Prop} {R : Result → Shared → Prop} {s : Shared} {K : Frag} {mg : Str → Option Value} {nm : Str} {bmB : List Value} {B newId initId : String} {C fI : Addr}
theorem init_runs (SF : StoreFacts B bmB "object.__setattr__" "object") (T : XT K mg nm bmB newId C fI) {x t0 : Addr} {v : Value} (X : K.In s.heap) (hlim : s.heap.NoLimit) (hx : s.heap.get? x = some (excO C t0)) (hroom : A.depth < recursionLimit)
    (hq : ∀ h' tk dx, IEnd s.heap h' x C dx t0 v → R (.ok (.ret .none)) { s with heap := h', toks := tk }) :
    codeAny (model prog w) A (.call (.ref fI) ⟨[.ref x, v], []⟩) R s := by
  obtain ⟨st, qn, oc, od, kV, doc, pm, an, cdv, ct, osl, ho, hcd, ⟨p1, p2, eA⟩, ⟨q1, q2, q3, q4, eB⟩, eS⟩ := T.fn
  rw [eA, eB, eS] at ho
  refine Att.call_fn (binds := [("self", .ref x), ("line", v)]) X hlim ho hcd hroom (BindsTo.of_eq (by first | rfl | with_unfolding_all rfl)) (by first | rfl | decide | with_unfolding_all rfl) (fun s₁ IC => ?_) rfl rfl rfl
  obtain ⟨h₁, tk₁, rfl⟩ := IC.toInCall.same
  have k : ∀ b o, s.heap.get? b = some o → h₁.get? b = some o := IC.toInCall.keep
  have hn := IC.toInCall.ns
  have X₁ : K.In h₁ := X.keeps k
  have hx₁ := k _ _ hx
  show wpAny _ _ (execs _ _) _ _ _
  refine wpAny_execs_cons (plainObj_wpAny_Assign_Attribute ?_)
  refine ldC (v := v) hn (by first | rfl | with_unfolding_all rfl | kernel_rfl) (ldC (v := .ref x) hn (by first | rfl | with_unfolding_all rfl | kernel_rfl) ?_)
  refine set_plain X₁ (ox := excO C t0) (od := none) ⟨hx₁, rfl, rfl, trivial⟩ T.sa ?_
  refine store1 SF X₁ hx₁ T.ov (by unfold takerIn; rw [T.noN]; rfl) T.hdC fun h₃ tk₃ dx k₃ dn dne hx₃ hn₃ => ?_
  show wpAny _ _ (execs _ _) _ _ _
  have z : s.heap.objs.size < h₁.objs.size := hn.lt
  exact wpAny_execs_nil (hq h₃ tk₃ dx ⟨fun b o hb e => k₃ b o hb (k b o e), hx₃, Nat.le_of_lt (Nat.lt_of_lt_of_le z dn), dne, hn₃⟩)
theorem made (FB : ExcBaseFacts B newId initId bmB) (SF : StoreFacts B bmB "object.__setattr__" "object") (T : XT K mg nm bmB newId C fI) {v : Value} (X : K.In s.heap) (hlim : s.heap.NoLimit) (hroom : A.depth + 1 < recursionLimit)
    (hq : ∀ h' tk e d, Made s.heap h' e C d v → R (.ok (.ret (.ref e))) { s with heap := h', toks := tk }) :
    codeAny (model prog w) A (.call (.ref C) ⟨[v], []⟩) R s := by
  obtain ⟨nmC, N, qC, bs, bm, hdct, sn, sub, ab, col, dd, k0, k1, k2, k3, k5, hC, hT⟩ := excInit_of X T.ini
  obtain ⟨hp, g, dr, tk, os⟩ := s
  have k : ∀ b o, hp.get? b = some o → ((hp.push (kdv_tup [v])).push (excO C hp.objs.size)).get? b = some o := fun b o e => Heap.get?_push_of_some _ (Heap.get?_push_of_some _ e)
  have hget : ((hp.push (kdv_tup [v])).push (excO C hp.objs.size)).get? (hp.objs.size + 1) = some (excO C hp.objs.size) := by heap_get
  refine call_own FB hT hC (looks_findIn X T.iC) (fun self => bind_fn X self T.tC) (by rw [sizeLine_eq]; exact (by decide : 1 ≤ 16777216)) ?_
  refine init_runs (s := ⟨(hp.push (kdv_tup [v])).push (excO C hp.objs.size), g, dr, tk, os⟩) SF T (X.keeps k) (hlim.keeps k) hget ?_ fun h' tk' dx ⟨k', hx, dn, dne, hns⟩ => ?_
  · show A.depth + 1 < recursionLimit
    exact hroom
  · have old : ∀ b o, hp.get? b = some o → h'.get? b = some o := fun b o e => k' b o (Nat.ne_of_lt (Nat.lt_succ_of_lt (Heap.lt_size e))) (k b o e)
    have z : hp.objs.size + 1 + 1 ≤ dx := by
      first
        | (simpa only [Heap.size_push] using dn)
        | exact dn
        | (have q := dn; rw [Heap.size_push, Heap.size_push] at q; exact q)
    exact ⟨rfl, hq h' tk' (hp.objs.size + 1) dx ⟨old, Nat.le_succ _, ⟨_, hx⟩, Nat.le_trans (Nat.le_trans (Nat.le_succ _) (Nat.le_succ _)) z, dne, hns⟩⟩
end
end XN

namespace XI
def iA (p1 p2 : Pos) : Arguments := { posonlyargs := [], args := [{ arg := "self", annotation := none, pos := p1 }, { arg := "index", annotation := none, pos := p2 }], vararg := none, kwonlyargs := [], kw_defaults := [], kwarg := none, defaults := [] }
def iB (q1 q2 q3 q4 : Pos) : List Stmt := [.Assign [.Attribute (.Name "self" q1) "index" q2] (.Name "index" q3) q4]
def iS : Scope := { kind := .function, names := [(PySem.Str.ofString "self", .local), (PySem.Str.ofString "index", .local)], isGenerator := false, isCoroutine := false, more := [] }
structure XT (K : Frag) (mg : Str → Option Value) (nm : Str) (bmB : List Value) (newId : String) (C fI : Addr) : Prop where
  gC : mg nm = some (.ref C)
  ini : excInitIn K C bmB newId = true
  ov : excOver K C bmB = true
  sa : findIn K (.ref C) "__setattr__" = some (some (.builtin "object.__setattr__"))
  ga : findIn K (.ref C) "__getattribute__" = some (some (.builtin "BaseException.__getattribute__"))
  gg : findIn K (.ref C) "__getattr__" = some none
  noN : findIn K (.ref C) "index" = some none
  iC : findIn K (.ref C) "__init__" = some (some (.ref fI))
  tC : typeIn K (.ref fI) = some (.type "function")
  kC : keepIn K (.ref C) = true
  exC : subIn K (.ref C) (.type "BaseException") = some true
  tyC : typeIn K (.ref C) = some (.type "type")
  hdC : hasDictIn K C = true
  fn : ∃ (st : Stmt) (qn : Str) (oc : Value) (od : Option Addr) (kV doc pm : Value) (an : Option Addr) (cdv ct : Value) (osl : Array (Option Value)),
    K.lookup fI = some ⟨oc, od, .func (fnOf "__init__" qn (L2.defArgs st) (L2.defBody st) (L2.defScope st) .none kV doc pm an cdv ct), osl⟩ ∧ codeIn K cdv qn = true ∧
      (∃ p1 p2 : Pos, L2.defArgs st = iA p1 p2) ∧ (∃ q1 q2 q3 q4 : Pos, L2.defBody st = iB q1 q2 q3 q4) ∧ L2.defScope st = iS
structure IEnd (h h' : Heap) (x C dx t1 : Addr) (v : Value) : Prop where
  keep : ∀ b o, b ≠ x → h.get? b = some o → h'.get? b = some o
  obj : h'.get? x = some (excObj C t1 (some dx) .none)
  big : h.objs.size ≤ dx
  ne : dx ≠ x
  ns : h'.Ns1 dx (fun y => if y = "index" then some v else none)
structure Made (h h' : Heap) (e C d : Addr) (v : Value) : Prop where
  keep : ∀ b o, h.get? b = some o → h'.get? b = some o
  new : h.objs.size ≤ e
  obj : ∃ t1 : Addr, h'.get? e = some (excObj C t1 (some d) .none)
  big : h.objs.size ≤ d
  ne : d ≠ e
  ns : h'.Ns1 d (fun y => if y = "index" then some v else none)
theorem ldC {M : Model} {s : Shared} {name : Str} {scope : Scope} {L a : Addr} {cd : Value} {m : Str → Option Value} {x : Str} {pos : Pos} {v : Value} {Q : Value → Shared → Prop} {A : Around} {E : Value → Shared → Prop} (hn : s.heap.Ns L m) (hv : m x = some v) (h : Q v s)
    (hk : scope.kind = .function := by rfl) (hl : (envOfC name scope L a cd).kindOf x = some .local := by rfl) (hd : (x == ("__debug__" : Str)) = false := by decide) :
    wpAny M A (eval (.Name x pos) (envOfC name scope L a cd)) Q E s := wpAny_Name (wpAny_loadName_local hk hl hn hv h) hd
section
variable {prog : Program} {w : World} {A : Around} {E : Value → Shared → Prop} {R : Result → Shared → Prop} {s : Shared} {K : Frag} {mg : Str → Option Value} {nm : Str} {bmB : List Value} {B newId initId : String} {C fI : Addr}
theorem init_runs (SF : StoreFacts B bmB "object.__setattr__" "object") (T : XT K mg nm bmB newId C fI) {x t0 : Addr} {v : Value} (X : K.In s.heap) (hlim : s.heap.NoLimit) (hx : s.heap.get? x = some (excO C t0)) (hroom : A.depth < recursionLimit)
    (hq : ∀ h' tk dx, IEnd s.heap h' x C dx t0 v → R (.ok (.ret .none)) { s with heap := h', toks := tk }) :
    codeAny (model prog w) A (.call (.ref fI) ⟨[.ref x, v], []⟩) R s := by
  obtain ⟨st, qn, oc, od, kV, doc, pm, an, cdv, ct, osl, ho, hcd, ⟨p1, p2, eA⟩, ⟨q1, q2, q3, q4, eB⟩, eS⟩ := T.fn
  rw [eA, eB, eS] at ho
  refine Att.call_fn (binds := [("self", .ref x), ("index", v)]) X hlim ho hcd hroom (BindsTo.of_eq (by first | rfl | with_unfolding_all rfl)) (by first | rfl | decide | with_unfolding_all rfl) (fun s₁ IC => ?_) rfl rfl rfl
  obtain ⟨h₁, tk₁, rfl⟩ := IC.toInCall.same
  have k : ∀ b o, s.heap.get? b = some o → h₁.get? b = some o := IC.toInCall.keep
  have hn := IC.toInCall.ns
  have X₁ : K.In h₁ := X.keeps k
  have hx₁ := k _ _ hx
  show wpAny _ _ (execs _ _) _ _ _
  refine wpAny_execs_cons (plainObj_wpAny_Assign_Attribute ?_)
  refine ldC (v := v) hn (by first | rfl | with_unfolding_all rfl | kernel_rfl) (ldC (v := .ref x) hn (by first | rfl | with_unfolding_all rfl | kernel_rfl) ?_)
  refine set_plain X₁ (ox := excO C t0) (od := none) ⟨hx₁, rfl, rfl, trivial⟩ T.sa ?_
  refine store1 SF X₁ hx₁ T.ov (by unfold takerIn; rw [T.noN]; rfl) T.hdC fun h₃ tk₃ dx k₃ dn dne hx₃ hn₃ => ?_
  show wpAny _ _ (execs _ _) _ _ _
  have z : s.heap.objs.size < h₁.objs.size := hn.lt
  exact wpAny_execs_nil (hq h₃ tk₃ dx ⟨fun b o hb e => k₃ b o hb (k b o e), hx₃, Nat.le_of_lt (Nat.lt_of_lt_of_le z dn), dne, hn₃⟩)
theorem made (FB : ExcBaseFacts B newId initId bmB) (SF : StoreFacts B bmB "object.__setattr__" "object") (T : XT K mg nm bmB newId C fI) {v : Value} (X : K.In s.heap) (hlim : s.heap.NoLimit) (hroom : A.depth + 1 < recursionLimit)
    (hq : ∀ h' tk e d, Made s.heap h' e C d v → R (.ok (.ret (.ref e))) { s with heap := h', toks := tk }) :
    codeAny (model prog w) A (.call (.ref C) ⟨[v], []⟩) R s := by
  obtain ⟨nmC, N, qC, bs, bm, hdct, sn, sub, ab, col, dd, k0, k1, k2, k3, k5, hC, hT⟩ := excInit_of X T.ini
  obtain ⟨hp, g, dr, tk, os⟩ := s
  have k : ∀ b o, hp.get? b = some o → ((hp.push (kdv_tup [v])).push (excO C hp.objs.size)).get? b = some o := fun b o e => Heap.get?_push_of_some _ (Heap.get?_push_of_some _ e)
  have hget : ((hp.push (kdv_tup [v])).push (excO C hp.objs.size)).get? (hp.objs.size + 1) = some (excO C hp.objs.size) := by heap_get
  refine call_own FB hT hC (looks_findIn X T.iC) (fun self => bind_fn X self T.tC) (by rw [sizeLine_eq]; exact (by decide : 1 ≤ 16777216)) ?_
  refine init_runs (s := ⟨(hp.push (kdv_tup [v])).push (excO C hp.objs.size), g, dr, tk, os⟩) SF T (X.keeps k) (hlim.keeps k) hget ?_ fun h' tk' dx ⟨k', hx, dn, dne, hns⟩ => ?_
  · show A.depth + 1 < recursionLimit
    exact hroom
  · have old : ∀ b o, hp.get? b = some o → h'.get? b = some o := fun b o e => k' b o (Nat.ne_of_lt (Nat.lt_succ_of_lt (Heap.lt_size e))) (k b o e)
    have z : hp.objs.size + 1 + 1 ≤ dx := by
      first
        | (simpa only [Heap.size_push] using dn)
        | exact dn
        | (have q := dn; rw [Heap.size_push, Heap.size_push] at q; exact q)
    exact ⟨rfl, hq h' tk' (hp.objs.size + 1) dx ⟨old, Nat.le_succ _, ⟨_, hx⟩, Nat.le_trans (Nat.le_trans (Nat.le_succ _) (Nat.le_succ _)) z, dne, hns⟩⟩
end
end XI

namespace XP
def iA (p1 p2 : Pos) : Arguments := { posonlyargs := [], args := [{ arg := "self", annotation := none, pos := p1 }, { arg := "step", annotation := none, pos := p2 }], vararg := none, kwonlyargs := [], kw_defaults := [], kwarg := none, defaults := [] }
def iB (q1 q2 q3 q4 : Pos) : List Stmt := [.Assign [.Attribute (.Name "self" q1) "step" q2] (.Name "step" q3) q4]
def iS : Scope := { kind := .function, names := [(PySem.Str.ofString "self", .local), (PySem.Str.ofString "step", .local)], isGenerator := false, isCoroutine := false, more := [] }
structure XT (K : Frag) (mg : Str → Option Value) (nm : Str) (bmB : List Value) (newId : String) (C fI : Addr) : Prop where
  gC : mg nm = some (.ref C)
  ini : excInitIn K C bmB newId = true
  ov : excOver K C bmB = true
  sa : findIn K (.ref C) "__setattr__" = some (some (.builtin "object.__setattr__"))
  ga : findIn K (.ref C) "__getattribute__" = some (some (.builtin "BaseException.__getattribute__"))
  gg : findIn K (.ref C) "__getattr__" = some none
  noN : findIn K (.ref C) "step" = some none
  iC : findIn K (.ref C) "__init__" = some (some (.ref fI))
  tC : typeIn K (.ref fI) = some (.type "function")
  kC : keepIn K (.ref C) = true
  exC : subIn K (.ref C) (.type "BaseException") = some true
  tyC : typeIn K (.ref C) = some (.type "type")
  hdC : hasDictIn K C = true
  fn : ∃ (st : Stmt) (qn : Str) (oc : Value) (od : Option Addr) (kV doc pm : Value) (an : Option Addr) (cdv ct : Value) (osl : Array (Option Value)),
    K.lookup fI = some ⟨oc, od, .func (fnOf "__init__" qn (L2.defArgs st) (L2.defBody st) (L2.defScope st) .none kV doc pm an cdv ct), osl⟩ ∧ codeIn K cdv qn = true ∧
      (∃ p1 p2 : Pos, L2.defArgs st = iA p1 p2) ∧ (∃ q1 q2 q3 q4 : Pos, L2.defBody st = iB q1 q2 q3 q4) ∧ L2.defScope st = iS
structure IEnd (h h' : Heap) (x C dx t1 : Addr) (v : Value) : Prop where
  keep : ∀ b o, b ≠ x → h.get? b = some o → h'.get? b = some o
  obj : h'.get? x = some (excObj C t1 (some dx) .none)
  big : h.objs.size ≤ dx
  ne : dx ≠ x
  ns : h'.Ns1 dx (fun y => if y = "step" then some v else none)
structure Made (h h' : Heap) (e C d : Addr) (v : Value) : Prop where
  keep : ∀ b o, h.get? b = some o → h'.get? b = some o
  new : h.objs.size ≤ e
  obj : ∃ t1 : Addr, h'.get? e = some (excObj C t1 (some d) .none)
  big : h.objs.size ≤ d
  ne : d ≠ e
  ns : h'.Ns1 d (fun y => if y = "step" then some v else none)
theorem ldC {M : Model} {s : Shared} {name : Str} {scope : Scope} {L a : Addr} {cd : Value} {m : Str → Option Value} {x : Str} {pos : Pos} {v : Value} {Q : Value → Shared → Prop} {A : Around} {E : Value → Shared → Prop} (hn : s.heap.Ns L m) (hv : m x = some v) (h : Q v s)
    (hk : scope.kind = .function := by rfl) (hl : (envOfC name scope L a cd).kindOf x = some .local := by rfl) (hd : (x == ("__debug__" : Str)) = false := by decide) :
    wpAny M A (eval (.Name x pos) (envOfC name scope L a cd)) Q E s := wpAny_Name (wpAny_loadName_local hk hl hn hv h) hd
section
variable {prog : Program} {w : World} {A : Around} {E : Value → Shared → Prop} {R : Result → Shared → Prop} {s : Shared} {K : Frag} {mg : Str → Option Value} {nm : Str} {bmB : List Value} {B newId initId : String} {C fI : Addr}
theorem init_runs (SF : StoreFacts B bmB "object.__setattr__" "object") (T : XT K mg nm bmB newId C fI) {x t0 : Addr} {v : Value} (X : K.In s.heap) (hlim : s.heap.NoLimit) (hx : s.heap.get? x = some (excO C t0)) (hroom : A.depth < recursionLimit)
    (hq : ∀ h' tk dx, IEnd s.heap h' x C dx t0 v → R (.ok (.ret .none)) { s with heap := h', toks := tk }) :
    codeAny (model prog w) A (.call (.ref fI) ⟨[.ref x, v], []⟩) R s := by
  obtain ⟨st, qn, oc, od, kV, doc, pm, an, cdv, ct, osl, ho, hcd, ⟨p1, p2, eA⟩, ⟨q1, q2, q3, q4, eB⟩, eS⟩ := T.fn
  rw [eA, eB, eS] at ho
  refine Att.call_fn (binds := [("self", .ref x), ("step", v)]) X hlim ho hcd hroom (BindsTo.of_eq (by first | rfl | with_unfolding_all rfl)) (by first | rfl | decide | with_unfolding_all rfl) (fun s₁ IC => ?_) rfl rfl rfl
  obtain ⟨h₁, tk₁, rfl⟩ := IC.toInCall.same
  have k : ∀ b o, s.heap.get? b = some o → h₁.get? b = some o := IC.toInCall.keep
  have hn := IC.toInCall.ns
  have X₁ : K.In h₁ := X.keeps k
  have hx₁ := k _ _ hx
  show wpAny _ _ (execs _ _) _ _ _
  refine wpAny_execs_cons (plainObj_wpAny_Assign_Attribute ?_)
  refine ldC (v := v) hn (by first | rfl | with_unfolding_all rfl | kernel_rfl) (ldC (v := .ref x) hn (by first | rfl | with_unfolding_all rfl | kernel_rfl) ?_)
  refine set_plain X₁ (ox := excO C t0) (od := none) ⟨hx₁, rfl, rfl, trivial⟩ T.sa ?_
  refine store1 SF X₁ hx₁ T.ov (by unfold takerIn; rw [T.noN]; rfl) T.hdC fun h₃ tk₃ dx k₃ dn dne hx₃ hn₃ => ?_
  show wpAny _ _ (execs _ _) _ _ _
  have z : s.heap.objs.size < h₁.objs.size := hn.lt
  exact wpAny_execs_nil (hq h₃ tk₃ dx ⟨fun b o hb e => k₃ b o hb (k b o e), hx₃, Nat.le_of_lt (Nat.lt_of_lt_of_le z dn), dne, hn₃⟩)
theorem made (FB : ExcBaseFacts B newId initId bmB) (SF : StoreFacts B bmB "object.__setattr__" "object") (T : XT K mg nm bmB newId C fI) {v : Value} (X : K.In s.heap) (hlim : s.heap.NoLimit) (hroom : A.depth + 1 < recursionLimit)
    (hq : ∀ h' tk e d, Made s.heap h' e C d v → R (.ok (.ret (.ref e))) { s with heap := h', toks := tk }) :
    codeAny (model prog w) A (.call (.ref C) ⟨[v], []⟩) R s := by
  obtain ⟨nmC, N, qC, bs, bm, hdct, sn, sub, ab, col, dd, k0, k1, k2, k3, k5, hC, hT⟩ := excInit_of X T.ini
  obtain ⟨hp, g, dr, tk, os⟩ := s
  have k : ∀ b o, hp.get? b = some o → ((hp.push (kdv_tup [v])).push (excO C hp.objs.size)).get? b = some o := fun b o e => Heap.get?_push_of_some _ (Heap.get?_push_of_some _ e)
  have hget : ((hp.push (kdv_tup [v])).push (excO C hp.objs.size)).get? (hp.objs.size + 1) = some (excO C hp.objs.size) := by heap_get
  refine call_own FB hT hC (looks_findIn X T.iC) (fun self => bind_fn X self T.tC) (by rw [sizeLine_eq]; exact (by decide : 1 ≤ 16777216)) ?_
  refine init_runs (s := ⟨(hp.push (kdv_tup [v])).push (excO C hp.objs.size), g, dr, tk, os⟩) SF T (X.keeps k) (hlim.keeps k) hget ?_ fun h' tk' dx ⟨k', hx, dn, dne, hns⟩ => ?_
  · show A.depth + 1 < recursionLimit
    exact hroom
  · have old : ∀ b o, hp.get? b = some o → h'.get? b = some o := fun b o e => k' b o (Nat.ne_of_lt (Nat.lt_succ_of_lt (Heap.lt_size e))) (k b o e)
    have z : hp.objs.size + 1 + 1 ≤ dx := by
      first
        | (simpa only [Heap.size_push] using dn)
        | exact dn
        | (have q := dn; rw [Heap.size_push, Heap.size_push] at q; exact q)
    exact ⟨rfl, hq h' tk' (hp.objs.size + 1) dx ⟨old, Nat.le_succ _, ⟨_, hx⟩, Nat.le_trans (Nat.le_trans (Nat.le_succ _) (Nat.le_succ _)) z, dne, hns⟩⟩
end
end XP

end GDX
namespace GDX
open PySem PySem.Spec PyProof.Rows L2

namespace XN
section
variable {X : Cx} {C fI : Addr} {nm : Str} {bmB : List Value} {B newId initId : String}
end
end XN

namespace XI
section
variable {X : Cx} {C fI : Addr} {nm : Str} {bmB : List Value} {B newId initId : String}
end
end XI

namespace XP
section
variable {X : Cx} {C fI : Addr} {nm : Str} {bmB : List Value} {B newId initId : String}
end
end XP
end GDX
namespace GD
open PySem PySem.Spec PyProof.Rows L2 GDX
section
variable {X : Cx} {W : WX} {a : Expr} {ta : TA} {C fI : Addr} {nm : Str} {p pos pos2 : Pos} {k : Nat}
end
end GD

set_option maxHeartbeats 2000000
namespace GD
open PySem PySem.Spec PyProof.Rows L2 GDX
def YEnd (K : PySem.W.Frag) (F : Frm) (env : En) (σ : L2.St) (H : Hp) (env' : En) (W : WX) (Dn : Ends) : FlX → Prop
  | .fl f => SEnd K F env σ H env' Dn f
  | .rs nm f d => ∀ (C : Addr) (v : V) (σ' : L2.St) (H' : Hp) (dx : Addr), PySem.W.nsIn K mainGlobals nm = some (some (.ref C)) → StOk K F T0 H' env' σ' → Stq env σ H env' σ' H' → Rp K (Ow F T0 env' σ') H' v d → (f = ("" : Str) ∨ H' dx = none) →
    W (.ref C) (xDx f dx) σ' (xH f H' dx v)
section
variable {K : PySem.W.Frag} {t u : WX → TS} {f g : EvSX}
theorem YEnd.pre {F : Frm} {env env1 env' : En} {σ σ1 : L2.St} {H H1 : Hp} {W : WX} {Dn : Ends} {fl : FlX} (h : YEnd K F env σ H env' W Dn fl) (b : Stq env σ H env1 σ1 H1) : YEnd K F env1 σ1 H1 env' W Dn fl := by
  cases fl with
  | fl f => exact SEnd.pre h b
  | rs nm f d => exact fun C v σ' H' dx hC S q r n => h C v σ' H' dx hC S (b.trans q) r n
end
inductive ER where
  | v (d : D)
  | rs (nm f : Str) (d : D)
abbrev EvER := En → Option (ER × En)
section
variable {K : PySem.W.Frag} {k : Nat} {M : FnX} {gV : List V → List V → List V} {gR : List R → List R → List R} {ta tk : TA} {fa fk : EvA}
end
section
variable {K : PySem.W.Frag} {te : WX → TE} {fe : EvER}
end
end GD

set_option maxHeartbeats 2000000
namespace GD
open PySem PySem.Spec PyProof.Rows L2 GDX
section
variable {X : Cx} {W : WX} {k : Nat} {f : Addr} {fd : FuncData} {ps : List Str} {sp : Sp} {dvs : List V} {ds : List Value} {x : Str} {p pos : Pos} {e : Expr} {es : List Expr} {t : TA}
end
section
variable {K : PySem.W.Frag}
end
end GD
namespace GD
open PySem PySem.Spec PySem.W PyProof.Rows
section
variable {K : PySem.W.Frag} {nm q : Str} {C N : Addr} {bs bm bmB : List Value} {sn : List Str} {sub : List Value} {ab : Bool} {col : Option Bool} {dd : Option Addr} {k0 k1 k2 k3 k5 : Option Value} {newId : String}
end
end GD
namespace GD
open PySem PySem.Spec PyProof.Rows L2 GDX
section
variable {f g : EvSX} {fb : EvSX} {fs : EvS} {fa fk : EvA} {fw : EvW} {tg : D → En → Option En} {fe : EvER} {env e : En} {nm n fd : Str} {d : D} {r : R} {rt : Ret} {l w : List R} {M : FnX} {nms : List Str} {gR : List R → List R → List R} {i j : Nat} {ds : List D} {rx : RX} {fl : Fl}
end
end GD

namespace GD
open PySem PySem.Spec PyProof.Rows L2 GDX
section
variable {X : Cx} {x1 n : Str} {c1 : Value} {cs : List Value} {elts : List Expr} {i kk : Nat} {body suite : List Stmt} {b₀ : Stmt} {p1 tp pos pos' : Pos} {tb : WX → TS} {ts : TS}
end
end GD

namespace GD
open PySem PySem.Spec PyProof.Rows L2 GDX
section
variable {K : PySem.W.Frag}
end
section
variable {e : En} {ds : List D} {d : D} {nm fd : Str} {m : Mu}
end
end GD

set_option maxHeartbeats 2000000
namespace GD
open PySem PySem.Spec PyProof.Rows L2 GDX
def P1 (w : Str) (xs : List V) (x : V) : Prop := xs = [.str w, x]
abbrev FnM := List D → Option (Sum D Mu)
def runM (n : Nat) (b : EvS) : FnM := fun ds => (b (env0 n (ds.map Sl.shr))).bind fun p => match p.1 with
  | .rt (.val d) => some (.inl d)
  | .rt (.new m) => some (.inr m)
  | _ => none
section
variable {K : PySem.W.Frag}
end
section
variable {fa : EvA} {dds : List D} {fm : EvM} {f2 f3 : EvS} {env e : En} {l : List R} {ds es : List D} {d : D} {m : Mu} {M : FnM} {j k : Nat} {w s : Str} {b : EvS}
def runMR : Option (Fl × En) → Option (Sum D Mu)
  | some (.rt (.val d), _) => some (.inl d)
  | some (.rt (.new m), _) => some (.inr m)
  | _ => none
theorem q_runM {n : Nat} : runM n b ds = runMR (b (env0 n (ds.map Sl.shr))) := by
  unfold runM
  cases b (env0 n (ds.map Sl.shr)) with
  | none => rfl
  | some p =>
    obtain ⟨fl, e⟩ := p
    match fl with
    | .nx => rfl
    | .bk => rfl
    | .ct => rfl
    | .rt (.val d) => rfl
    | .rt (.new m) => rfl
theorem q_runM1 : runMR (some (.rt (.val d), e)) = some (.inl d) := rfl
theorem q_runM2 : runMR (some (.rt (.new m), e)) = some (.inr m) := rfl
end
end GD
namespace GD
open PySem PySem.Spec PyProof.Rows L2
end GD

namespace GD
open PySem PySem.Spec PyProof.Rows L2
section
variable {K : PySem.W.Frag}
def notE : D → Bool
  | .none => false
  | .str _ => false
  | _ => true
end
end GD

namespace GD
open PySem PySem.Spec PyProof.Rows L2
def gL (n : Nat) (ff : List D → En → Option En) : D → En → Option En
  | .list ds, env => if ds.length = n then ff ds env else none
  | _, _ => none
theorem q_gL {n : Nat} {ff : List D → En → Option En} {ds : List D} {env : En} (h : ds.length = n) : gL n ff (.list ds) env = ff ds env := if_pos h
end GD

namespace GD
open PySem PySem.Spec PyProof.Rows L2 PySem.SeqAt
mutual
inductive RdsD (h : Heap) : Value → PyData → Prop
  | base {v : Value} {d : PyData} {as : List Addr} : Reads h v d as → (d.hasDict = true → sysModules ∉ as) → RdsD h v d
  | list {a : Addr} {o : Obj} {vs : Array Value} {n : Nat} {xs : List PyData} : h.get? a = some o → o.cls = .type "list" → o.data = .seq vs n → RdsDAll h vs.toList xs → RdsD h (.ref a) (.list xs)
  | tuple {a : Addr} {o : Obj} {vs : Array Value} {n : Nat} {xs : List PyData} : h.get? a = some o → o.cls = .type "tuple" → o.data = .seq vs n → RdsDAll h vs.toList xs → RdsD h (.ref a) (.tuple xs)
inductive RdsDAll (h : Heap) : List Value → List PyData → Prop
  | nil : RdsDAll h [] []
  | cons {v : Value} {vs : List Value} {d : PyData} {ds : List PyData} : RdsD h v d → RdsDAll h vs ds → RdsDAll h (v :: vs) (d :: ds)
end
mutual
theorem RdsD.rd {h : Heap} : ∀ {v : Value} {d : PyData}, RdsD h v d → ∃ as, Reads h v d as
  | _, _, .base r _ => ⟨_, r⟩
  | _, _, .list h1 h2 h3 h4 => let ⟨_, r⟩ := RdsDAll.rd h4; ⟨_, .list h1 h2 h3 r⟩
  | _, _, .tuple h1 h2 h3 h4 => let ⟨_, r⟩ := RdsDAll.rd h4; ⟨_, .tuple h1 h2 h3 r⟩
theorem RdsDAll.rd {h : Heap} : ∀ {vs : List Value} {ds : List PyData}, RdsDAll h vs ds → ∃ as, ReadsAll h vs ds as
  | _, _, .nil => ⟨_, .nil⟩
  | _, _, .cons r t => let ⟨_, r1⟩ := RdsD.rd r; let ⟨_, r2⟩ := RdsDAll.rd t; ⟨_, .cons r1 r2⟩
end
section
variable {prog : Program} {w : World} {h₀ : Heap}
mutual
theorem reprK_of : ∀ {v : Value} {d : PyData}, RdsD h₀ v d → d.showable = true → d.shown.length ≤ sizeLine → ∃ bs, ReadAtMost h₀ d.depth bs ∧ ReprK prog w bs h₀ d.depth v d.shown
  | _, _, .base r hsm, hs, hz => ReprK.of_reads r hs hsm hz
  | _, _, .list (a := a) (vs := vs) (xs := xs) h1 h2 h3 h4, hs, hz => by
    have hz' : (listText (PyData.shownAll xs)).length ≤ sizeLine := by simpa only [PyData.shown] using hz
    obtain ⟨bs, hb, hk⟩ := reprAllK_of h4 (by simpa [PyData.showable] using hs) (fun t ht => Nat.le_trans (listText_mem_le ht) hz')
    obtain ⟨as, r4⟩ := RdsDAll.rd h4
    have r : Reads h₀ (.ref a) (.list xs) _ := .list h1 h2 h3 r4
    have hna : a ∉ bs := not_mem_of_deeper r (by simp only [PyData.depth]; omega) hb
    refine ⟨a :: bs, ReadAtMost.cons r (by simp only [PyData.depth]; omega) hb, ?_⟩
    simp only [PyData.depth, PyData.shown]
    obtain ⟨l⟩ := vs
    cases l with
    | nil =>
      have h4' : RdsDAll h₀ [] xs := h4
      cases h4'
      simp only [PyData.shownAll, listText_nil]
      exact ReprK.listEmpty h1 h2 h3
    | cons x l => exact ReprK.list h1 h2 h3 hna (by simpa using hk.length_eq) (fun i y e => hk.item i y (by simpa using e))
  | _, _, .tuple (a := a) (vs := vs) (xs := xs) h1 h2 h3 h4, hs, hz => by
    have hz' : (tupleText (PyData.shownAll xs)).length ≤ sizeLine := by simpa only [PyData.shown] using hz
    obtain ⟨bs, hb, hk⟩ := reprAllK_of h4 (by simpa [PyData.showable] using hs) (fun t ht => Nat.le_trans (tupleText_mem_le ht) hz')
    obtain ⟨as, r4⟩ := RdsDAll.rd h4
    have r : Reads h₀ (.ref a) (.tuple xs) _ := .tuple h1 h2 h3 r4
    have hna : a ∉ bs := not_mem_of_deeper r (by simp only [PyData.depth]; omega) hb
    refine ⟨a :: bs, ReadAtMost.cons r (by simp only [PyData.depth]; omega) hb, ?_⟩
    simp only [PyData.depth, PyData.shown]
    exact ReprK.tuple h1 h2 h3 hna hk
theorem reprAllK_of : ∀ {vs : List Value} {ds : List PyData}, RdsDAll h₀ vs ds → PyData.showableAll ds = true → (∀ t ∈ PyData.shownAll ds, t.length ≤ sizeLine) →
    ∃ bs, ReadAtMost h₀ (PyData.depthAll ds) bs ∧ ReprAllK prog w bs h₀ (PyData.depthAll ds) vs (PyData.shownAll ds)
  | _, _, .nil, _, _ => ⟨[], (fun _ h => nomatch h), by simp only [PyData.shownAll]; exact .nil⟩
  | _, _, .cons (d := d) (ds := ds) r rs, hs, hz => by
    have hs' : d.showable = true ∧ PyData.showableAll ds = true := by simpa [PyData.showableAll] using hs
    obtain ⟨b1, hb1, k1⟩ := reprK_of r hs'.1 (hz _ (by simp only [PyData.shownAll]; exact List.mem_cons_self ..))
    obtain ⟨b2, hb2, k2⟩ := reprAllK_of rs hs'.2 (fun t ht => hz t (by simp only [PyData.shownAll]; exact List.mem_cons_of_mem _ ht))
    refine ⟨b1 ++ b2, ?_, ?_⟩
    · intro b hm
      simp only [PyData.depthAll]
      rcases List.mem_append.mp hm with hm | hm
      · obtain ⟨d', as', r', hd'⟩ := hb1 b hm
        exact ⟨d', as', r', Nat.le_trans hd' (Nat.le_max_left _ _)⟩
      · obtain ⟨d', as', r', hd'⟩ := hb2 b hm
        exact ⟨d', as', r', Nat.le_trans hd' (Nat.le_max_right _ _)⟩
    · simp only [PyData.depthAll, PyData.shownAll]
      exact .cons ((k1.more fun b hb => List.mem_append_left _ hb).level_le (Nat.le_max_left _ _)) (k2.more_le (fun b hb => List.mem_append_right _ hb) (Nat.le_max_right _ _))
end
variable {a : Addr} {A : Around} {E : Value → Shared → Prop} {s : Shared} {Q : Value → Shared → Prop}
theorem shows_of {d : PyData} (r : RdsD h₀ (.ref a) d) (hs : d.showable = true) (hsz : d.shown.length ≤ sizeLine) : ∃ T idr, ShowsBy prog w h₀ a d T idr := by
  cases r with
  | base r hsm => exact showsBy_of_reads r hs hsm hsz
  | list h1 h2 h3 h4 =>
    rename_i o vs n xs
    have hz' : (listText (PyData.shownAll xs)).length ≤ sizeLine := by simpa only [PyData.shown] using hsz
    obtain ⟨bs, hb, hk⟩ := reprAllK_of (prog := prog) (w := w) h4 (by simpa [PyData.showable] using hs) (fun t ht => Nat.le_trans (listText_mem_le ht) hz')
    obtain ⟨as, r4⟩ := RdsDAll.rd h4
    have hna : a ∉ bs := not_mem_of_deeper (.list h1 h2 h3 r4) (by simp only [PyData.depth]; omega) hb
    refine ⟨"list", "list.__repr__", F.slot_list_repr.toG, F.slot_list_str, F.slot_list_format, fun s hk0 => ⟨o, hk0 _ _ h1, h2⟩, fun A E s Q hg hu hk0 hQ => ?_⟩
    simp only [PyData.depth] at hu
    simp only [PyData.shown] at hQ
    obtain ⟨l⟩ := vs
    cases l with
    | nil =>
      have h4' : RdsDAll h₀ [] xs := h4
      cases h4'
      simp only [PyData.shownAll, listText_nil] at hQ
      exact call_list_repr_empty ⟨o, hk0 _ _ h1, h2⟩ (hk0 _ _ h1) h3 (hQ s.heap _ _ fun _ _ e => e)
    | cons x l =>
      exact call_list_reprK h1 h2 h3 hna (by simpa using hk.length_eq) (fun i y e => hk.item i y (by simpa using e)) hg (fun b _ => Clear.nil b) hu hk0 hQ hz'
  | tuple h1 h2 h3 h4 =>
    rename_i o vs n xs
    have hz' : (tupleText (PyData.shownAll xs)).length ≤ sizeLine := by simpa only [PyData.shown] using hsz
    obtain ⟨bs, hb, hk⟩ := reprAllK_of (prog := prog) (w := w) h4 (by simpa [PyData.showable] using hs) (fun t ht => Nat.le_trans (tupleText_mem_le ht) hz')
    obtain ⟨as, r4⟩ := RdsDAll.rd h4
    have hna : a ∉ bs := not_mem_of_deeper (.tuple h1 h2 h3 r4) (by simp only [PyData.depth]; omega) hb
    refine ⟨"tuple", "tuple.__repr__", F.slot_tuple_repr, F.slot_tuple_str, F.slot_tuple_format, fun s hk0 => ⟨o, hk0 _ _ h1, h2⟩, fun A E s Q hg hu hk0 hQ => ?_⟩
    simp only [PyData.depth] at hu
    simp only [PyData.shown] at hQ
    exact call_tuple_reprK h1 h2 h3 hna hk hg (fun b _ => Clear.nil b) hu hk0 hQ hz'
theorem repr_rds {d : PyData} (r : RdsD h₀ (.ref a) d) (hs : d.showable = true) (hg : A.guards = some []) (hu : A.units + (d.depth + 1) < cLine) (hk0 : ∀ b o, h₀.get? b = some o → s.heap.get? b = some o)
    (hQ : ∀ h' u tk, (∀ b o, s.heap.get? b = some o → h'.get? b = some o) → Q (.str d.shown u) { s with heap := h', toks := tk }) (hsz : d.shown.length ≤ sizeLine) : wpAny (model prog w) A (call (.builtin "repr") [.ref a]) Q E s := by
  obtain ⟨T, idr, S⟩ := shows_of (prog := prog) (w := w) r hs hsz
  exact call_repr_slot (by omega) (S.typeIs s hk0) S.slotRepr (S.call A.in1 E s _ hg (by show A.units + 1 + d.depth < cLine; omega) hk0 fun h' u tk hk => ⟨_, _, rfl, hQ h' u tk hk⟩)
end
mutual
def noX : D → Bool
  | .none => true
  | .bool _ => true
  | .int _ => true
  | .str _ => true
  | .list ds => noXs ds
  | .tuple ds => noXs ds
  | .dict kvs => !isExc (.dict kvs) && atomKv kvs
def noXs : List D → Bool
  | [] => true
  | d :: ds => noX d && noXs ds
end
section
variable {X : Cx} {pins : List (Addr × Obj)} {σ : L2.St} {H : Hp} {s : Shared} {O : Addr → Prop}
mutual
theorem Rp.rdsD (I : Inv X pins σ H s) : ∀ (d : D) (v : V) (u : Value), Rp X.K O H v d → RelV v u → noX d = true → RdsD s.heap u d
  | .none, _, _, h, r, _ => by cases h; cases r; exact .base .none (fun h => by simp [PyData.hasDict] at h)
  | .bool b, _, _, h, r, _ => by cases h; cases r; exact .base (.bool b) (fun h => by simp [PyData.hasDict] at h)
  | .int i, _, _, h, r, _ => by cases h; obtain ⟨t, rfl⟩ := r; exact .base (.int i t) (fun h => by simp [PyData.hasDict] at h)
  | .str x, _, _, h, r, _ => by cases h; obtain ⟨t, rfl⟩ := r; exact .base (.str x t) (fun h => by simp [PyData.hasDict] at h)
  | .list ds, _, _, h, r, n => by
    cases h with
    | lst hH _ ra =>
      cases r
      rw [noX] at n
      obtain ⟨its, rv, ⟨o, m, ho, hc, _, hdat⟩, _⟩ := I.list (X := X) (.inl (.inl hH))
      exact .list ho hc hdat (by simpa using RpAll.rdsD I ds _ its ra rv n)
  | .tuple ds, _, _, h, r, n => by
    obtain ⟨a, xs, rfl, hs, ha, _⟩ := Rp.tupI h
    cases r
    rw [noX] at n
    obtain ⟨its, rv, ⟨o, ho, hc, m, hd⟩, _⟩ := I.tuple hs
    exact .tuple ho hc hd (RpAll.rdsD I ds _ its ha rv n)
  | .dict kvs, _, _, h, r, n => by
    rw [noX, Bool.and_eq_true] at n
    cases h with
    | dic rd _ ra =>
      cases r
      obtain ⟨as, q1, q2⟩ := reads_dic I rd ra n.2
      exact .base q1 fun _ => q2
    | exc _ _ _ _ _ _ => exact (exc_no ((Bool.not_eq_true' _).mp n.1)).elim
    | ob _ => exact absurd n.1 (by decide)
theorem RpAll.rdsD (I : Inv X pins σ H s) : ∀ (ds : List D) (vs : List V) (us : List Value), RpAll X.K O H vs ds → Vals vs us → noXs ds = true → RdsDAll s.heap us ds
  | [], _, _, h, r, _ => by cases h; cases r; exact .nil
  | d :: ds, _, _, h, r, n => by
    rw [noXs, Bool.and_eq_true] at n
    cases h with
    | cons h1 h2 =>
      cases r with
      | cons r1 r2 => exact .cons (Rp.rdsD I d _ _ h1 r1 n.1) (RpAll.rdsD I ds _ _ h2 r2 n.2)
end
def okShowX (d : D) : Bool := noX d && decide (d.depth ≤ 60) && d.showable && decide (d.shown.length ≤ 16777216)
def rReprX (K : PySem.W.Frag) : List V → Hp → VK → Prop := fun xs H Q => ∃ x d O, xs = [x] ∧ Lv K O H x d ∧ okShowX d = true ∧ Q (.str d.shown) H
theorem call_reprX (hg : X.A.guards = some []) (hu : X.A.units + 64 < cLine) : CallR X (.builtin "repr") (rReprX X.K) := by
  intro pins s σ H xs us Q I rr h
  obtain ⟨x, d, O, rfl, hd, ok, q⟩ := h
  cases rr with
  | @cons _ u _ _ rx rt =>
    cases rt
    simp only [okShowX, Bool.and_eq_true, decide_eq_true_eq] at ok
    obtain ⟨⟨⟨o1, o2⟩, o3⟩, o4⟩ := ok
    have hz : d.shown.length ≤ sizeLine := Nat.le_trans o4 (by decide)
    match d, hd, o1, o2, o3, hz, q with
    | .none, hd, _, _, _, _, q => cases Rp.scN (show Rp X.K O H x .none from hd); cases rx; exact PySem.P.repr_of_none ⟨.str _, H, I.tok _, ⟨_, rfl⟩, q⟩
    | .bool b, hd, _, _, _, _, q => cases Rp.scB (show Rp X.K O H x (.bool b) from hd); cases rx; exact PySem.P.repr_of_bool ⟨.str _, H, I.tok _, ⟨_, rfl⟩, by cases b <;> exact q⟩
    | .int i, hd, _, _, o3, _, q => cases Rp.sc (show Rp X.K O H x (.int i) from hd); obtain ⟨t, rfl⟩ := rx; exact PySem.P.repr_of_int (by simpa [PyData.showable] using o3) ⟨.str _, H, I.tok _, ⟨_, rfl⟩, q⟩
    | .str y, hd, _, _, _, hz, q => cases Rp.scS (show Rp X.K O H x (.str y) from hd); obtain ⟨t, rfl⟩ := rx; exact PySem.P.repr_of_str ⟨.str _, H, I.tok _, ⟨_, rfl⟩, q⟩ hz
    | .list ds, hd, o1, o2, o3, hz, q =>
      obtain ⟨a, ys, rfl, hH, ra⟩ := hd
      cases rx
      rw [noX] at o1
      obtain ⟨its, rv, ⟨o, n, ho, hc, _, hdat⟩, _⟩ := I.list (X := X) (xs := ys) (.inl (.inl hH))
      exact repr_rds (.list ho hc hdat (by simpa using RpAll.rdsD I ds ys its ra rv o1)) o3 hg (by omega) (fun _ _ e => e) (fun h' t tk hk => ⟨.str _, H, I.kept (t' := tk) hk, ⟨t, rfl⟩, q⟩) hz
    | .tuple ds, hd, o1, o2, o3, hz, q =>
      have r := Rp.rdsD I (.tuple ds) x u hd rx o1
      obtain ⟨a, xs, rfl, _, _, _⟩ := Rp.tupI (show Rp X.K O H x (.tuple ds) from hd)
      cases rx
      exact repr_rds r o3 hg (by omega) (fun _ _ e => e) (fun h' t tk hk => ⟨.str _, H, I.kept (t' := tk) hk, ⟨t, rfl⟩, q⟩) hz
    | .dict kvs, hd, o1, o2, o3, hz, q =>
      rw [noX, Bool.and_eq_true] at o1
      rcases hd with ⟨a, es, ds, rfl, rd, ra, rfl⟩ | ⟨_, _, _, _, _, _, _, _, _, _, _, _, e⟩ | ⟨_, e⟩
      rotate_left
      · have o := o1.1
        rw [e] at o
        exact (exc_no ((Bool.not_eq_true' _).mp o)).elim
      · have o := o1.1
        rw [e] at o
        cases o
      cases rx
      obtain ⟨as, r, hn⟩ := reads_dic I rd ra o1.2
      exact repr_rds (.base r fun _ => hn) o3 hg (by omega) (fun _ _ e => e) (fun h' t tk hk => ⟨.str _, H, I.kept (t' := tk) hk, ⟨t, rfl⟩, q⟩) hz
end
section
variable {K : PySem.W.Frag}
def cReprX : List D → Option D
  | [d] => if okShowX d = true then some (.str d.shown) else none
  | _ => none
theorem cd_reprX : CaD K (rReprX K) cReprX := by
  intro O H xs ds z hO l hz Q q
  match ds, hz, l with
  | [d], hz, l =>
    simp only [cReprX] at hz
    split at hz
    · rename_i hs
      cases hz
      obtain ⟨v, rfl, h⟩ := LvAll.one l
      exact ⟨v, d, O, rfl, h, hs, q _ H Ext.refl (.str _)⟩
    · cases hz
theorem c_reprX {d : D} (h : okShowX d = true) : cReprX [d] = some (.str d.shown) := by simp [cReprX, h]
end
end GD

namespace GD
open PySem PySem.Spec PyProof.Rows L2 GDX
section
variable {K : PySem.W.Frag}
theorem c_d1s {k v : Str} : Mu.toD (.m [(Sum.inr k, .str v)]) = .dict [(.str k, .str v)] := rfl
end
section
variable {M : FnX} {fa : EvA} {env e : En} {l : List R} {ds : List D} {d : D} {nm fd : Str}
end
end GD

namespace L2
open PySem PySem.Spec PyProof.Rows
section
variable {prog : Program} {w : World} {A : Around} {E : Value → Shared → Prop} {s : Shared}
end
section
variable {X : Cx}
end
end L2
namespace GD
open PySem PySem.Spec PyProof.Rows L2
section
variable {K : PySem.W.Frag}
end
section
variable {fm : EvM} {fl fh : EvE} {i : Nat} {env e e0 : En} {es ds : List D} {r1 r2 : R} {a c : Int} {b b0 : Bool} {m0 : Mu} {d1 d2 : Option D} {o1 o2 : Option (Bool × Mu)}
end
end GD

namespace GD
open PySem PySem.Spec PyProof.Rows L2
def KEnd (K : PySem.W.Frag) (js : List Nat) (F : Frm) (env : En) (σ : L2.St) (H : Hp) (env' : En) (Dn : Ends) : Fl → Prop
  | .nx => ∀ σ' H', StOk K F T0 H' env' σ' → Stq env σ H env' σ' H' → σ'.length = σ.length → (∀ k, k ∉ js → σ'[k]? = σ[k]?) → Dn.nx σ' H'
  | .bk => ∀ σ' H', StOk K F T0 H' env' σ' → Stq env σ H env' σ' H' → σ'.length = σ.length → (∀ k, k ∉ js → σ'[k]? = σ[k]?) → Dn.bk σ' H'
  | .ct => ∀ σ' H', StOk K F T0 H' env' σ' → Stq env σ H env' σ' H' → σ'.length = σ.length → (∀ k, k ∉ js → σ'[k]? = σ[k]?) → Dn.ct σ' H'
  | .rt r => ∀ v σ' H', RetOk K F H' v env' σ' r → Dn.rt v H'
section
variable {K : PySem.W.Frag} {js ks : List Nat} {te : TE} {fe : EvE} {t u : TS} {f g : EvS} {c : TT} {fc : EvT}
theorem KEnd.pre {F : Frm} {env env1 env' : En} {σ σ1 : L2.St} {H H1 : Hp} {Dn : Ends} {fl : Fl} (h : KEnd K js F env σ H env' Dn fl) (b : Stq env σ H env1 σ1 H1) (hl : σ1.length = σ.length) (hk : ∀ k, k ∉ js → σ1[k]? = σ[k]?) : KEnd K js F env1 σ1 H1 env' Dn fl := by
  cases fl with
  | nx => exact fun σ' H' S q l k => h σ' H' S (b.trans q) (l.trans hl) fun n m => (k n m).trans (hk n m)
  | bk => exact fun σ' H' S q l k => h σ' H' S (b.trans q) (l.trans hl) fun n m => (k n m).trans (hk n m)
  | ct => exact fun σ' H' S q l k => h σ' H' S (b.trans q) (l.trans hl) fun n m => (k n m).trans (hk n m)
  | rt r => exact h
end
end GD

namespace GD
open PySem PySem.Spec PyProof.Rows L2 GDX
def scalD : D → Bool
  | .none => true
  | .bool _ => true
  | .int _ => true
  | .str _ => true
  | _ => false
def flatD : D → Bool
  | .tuple ds => ds.all scalD
  | d => scalD d
section
variable {K : PySem.W.Frag} {O O' : Addr → Prop} {H : Hp}
theorem Rp.scal {v : V} {d : D} (h : scalD d = true) (r : Rp K O H v d) : Rp K O' H v d := by
  cases r with
  | non => exact .non
  | bl b => exact .bl b
  | int i => exact .int i
  | str x => exact .str x
  | _ => cases h
theorem RpAll.scal : ∀ {vs : List V} {ds : List D}, ds.all scalD = true → RpAll K O H vs ds → RpAll K O' H vs ds
  | _, [], _, .nil => .nil
  | _, d :: ds, h, .cons r t => by
    rw [List.all_cons, Bool.and_eq_true] at h
    exact .cons (Rp.scal h.1 r) (RpAll.scal h.2 t)
theorem Rp.flat {v : V} {d : D} (ho : ∀ b, O' b → O b ∨ ∃ xs, H b = some (.lst xs)) (h : flatD d = true) (r : Rp K O H v d) : Rp K O' H v d := by
  cases r with
  | tup hs t =>
    have no : ∀ {b : Addr} {u : HO}, H b = some u → (∀ xs, u ≠ .lst xs) → ¬ O b → ¬ O' b := fun {b u} e ne n z => (ho b z).elim n fun ⟨xs, z⟩ => ne xs (Option.some.inj (e.symm.trans z))
    refine .tup ⟨hs.1.imp (fun q => ⟨q.1, ?_⟩) id, fun z => (hs.2 z).imp (fun ⟨o, u, e, h1, n⟩ => ⟨o, u, e, h1, no e (fun xs => nofun) n⟩) id⟩ (RpAll.scal h t)
    rcases q.1 with e | ⟨o, e⟩
    · exact no e (fun xs => nofun) q.2
    · exact no e (fun xs => nofun) q.2
  | non => exact .non
  | bl b => exact .bl b
  | int i => exact .int i
  | str x => exact .str x
  | _ => cases h
end
section
variable {M : FnX} {fa fl fk : EvA} {env e : En} {l w : List R} {pm : List R → List R → List R}
end
end GD

namespace GD
open PySem PySem.Spec PyProof.Rows L2 GDX
section
variable {K : PySem.W.Frag} {js ks : List Nat} {te : TE} {fx : EvX} {t1 t2 t3 t r : TS} {f g : EvS}
end
end GD

set_option maxHeartbeats 4000000
namespace GD
open PySem PySem.Spec PyProof.Rows L2
section
variable {X : Cx}
end
section
variable {K : PySem.W.Frag} {ta tb te : TE} {fa fb fe : EvE}
end
end GD

namespace GD
open PySem PySem.Spec PyProof.Rows L2
def keyOfD : D → Option L2.Key
  | .int i => some (.inl i)
  | .str x => some (.inr x)
  | _ => none
theorem keyOfD_ok {K : PySem.W.Frag} {O : Addr → Prop} {H : Hp} {v : V} {d : D} {k : L2.Key} (r : Rp K O H v d) (h : keyOfD d = some k) : v = kV k ∧ d = keyD k := by
  cases d with
  | int i => cases h; exact ⟨Rp.sc r, rfl⟩
  | str x => cases h; exact ⟨Rp.scS r, rfl⟩
  | _ => cases h
theorem keyOfD_lv {K : PySem.W.Frag} {O : Addr → Prop} {H : Hp} {v : V} {d : D} {k : L2.Key} (r : Lv K O H v d) (h : keyOfD d = some k) : v = kV k := by
  cases d with
  | int i => cases h; exact Rp.sc r
  | str x => cases h; exact Rp.scS r
  | _ => cases h
theorem keyOfD_key (k : L2.Key) : keyOfD (keyD k) = some k := by cases k <;> rfl
def putD (kvs : List (L2.Key × D)) (k : L2.Key) (d : D) : List (L2.Key × D) :=
  if (kvs.any fun kv => decide (kv.1 = k)) = true then kvs.map (fun kv => if kv.1 = k then (kv.1, d) else kv) else kvs ++ [(k, d)]
def valD (kvs : List (L2.Key × D)) (k : L2.Key) : Option D := (kvs.find? fun kv => decide (kv.1 = k)).map (·.2)
structure KR (K : PySem.W.Frag) (O : Addr → Prop) (H : Hp) (es : List (L2.Key × V)) (kvs : List (L2.Key × D)) : Prop where
  keys : es.map (·.1) = kvs.map (·.1)
  vals : RpAll K O H (es.map (·.2)) (kvs.map (·.2))
section
variable {K : PySem.W.Frag} {O O' : Addr → Prop} {H H' : Hp}
theorem KR.nil : KR K O H [] [] := ⟨rfl, .nil⟩
theorem KR.cons {k : L2.Key} {v : V} {d : D} {es : List (L2.Key × V)} {kvs : List (L2.Key × D)} (r : Rp K O H v d) (t : KR K O H es kvs) : KR K O H ((k, v) :: es) ((k, d) :: kvs) :=
  ⟨by simp [t.keys], .cons r t.vals⟩
theorem KR.inv {es : List (L2.Key × V)} {kvs : List (L2.Key × D)} (h : KR K O H es kvs) : (es = [] ∧ kvs = []) ∨ ∃ k v d es' kvs', es = (k, v) :: es' ∧ kvs = (k, d) :: kvs' ∧ Rp K O H v d ∧ KR K O H es' kvs' := by
  obtain ⟨hk, hv⟩ := h
  cases es with
  | nil =>
    cases kvs with
    | nil => exact .inl ⟨rfl, rfl⟩
    | cons q kvs => simp at hk
  | cons p es =>
    cases kvs with
    | nil => simp at hk
    | cons q kvs =>
      obtain ⟨k, v⟩ := p
      obtain ⟨k', d⟩ := q
      simp only [List.map_cons, List.cons.injEq] at hk
      obtain ⟨rfl, hk⟩ := hk
      cases hv with
      | cons r t => exact .inr ⟨k, v, d, es, kvs, rfl, rfl, r, hk, t⟩
theorem KR.length {es : List (L2.Key × V)} {kvs : List (L2.Key × D)} (h : KR K O H es kvs) : es.length = kvs.length := by
  have := congrArg List.length h.keys
  simpa using this
theorem KR.any {es : List (L2.Key × V)} {kvs : List (L2.Key × D)} (h : KR K O H es kvs) (k : L2.Key) : (es.any fun kv => decide (kv.1 = k)) = kvs.any fun kv => decide (kv.1 = k) := by
  have e1 : ∀ {α : Type} (l : List (L2.Key × α)), (l.any fun kv => decide (kv.1 = k)) = (l.map (·.1)).any fun x => decide (x = k) := fun l => by rw [List.any_map]; rfl
  rw [e1, e1, h.keys]
theorem KR.append : ∀ {es es' : List (L2.Key × V)} {kvs kvs' : List (L2.Key × D)}, KR K O H es kvs → KR K O H es' kvs' → KR K O H (es ++ es') (kvs ++ kvs') := by
  intro es es' kvs kvs' h h'
  refine ⟨by simp [h.keys, h'.keys], ?_⟩
  rw [List.map_append, List.map_append]
  exact h.vals.append h'.vals
theorem KR.mapPut {k : L2.Key} {v : V} {d : D} (r : Rp K O H v d) : ∀ {es : List (L2.Key × V)} {kvs : List (L2.Key × D)}, KR K O H es kvs →
    KR K O H (es.map fun kv => if kv.1 = k then (kv.1, v) else kv) (kvs.map fun kv => if kv.1 = k then (kv.1, d) else kv)
  | [], kvs, h => by
    rcases h.inv with ⟨_, rfl⟩ | ⟨_, _, _, _, _, h, _⟩
    · exact .nil
    · cases h
  | p :: es, kvs, h => by
    rcases h.inv with ⟨h, _⟩ | ⟨k', w, e, es', kvs', h1, rfl, r', t⟩
    · cases h
    · cases h1
      have ih := KR.mapPut (k := k) r t
      simp only [List.map_cons]
      by_cases hk : k' = k
      · simp only [hk, if_true]
        exact KR.cons r ih
      · simp only [if_neg hk]
        exact KR.cons r' ih
theorem KR.put {k : L2.Key} {v : V} {d : D} {es : List (L2.Key × V)} {kvs : List (L2.Key × D)} (h : KR K O H es kvs) (r : Rp K O H v d) : KR K O H (putK es k v) (putD kvs k d) := by
  unfold putK putD
  rw [h.any]
  split
  · exact h.mapPut r
  · exact h.append (.cons r .nil)
theorem KR.val {k : L2.Key} : ∀ {es : List (L2.Key × V)} {kvs : List (L2.Key × D)}, KR K O H es kvs → (valV es k = none ∧ valD kvs k = none) ∨ ∃ v d, valV es k = some v ∧ valD kvs k = some d ∧ Rp K O H v d
  | [], kvs, h => by
    rcases h.inv with ⟨_, rfl⟩ | ⟨_, _, _, _, _, h, _⟩
    · exact .inl ⟨rfl, rfl⟩
    · cases h
  | p :: es, kvs, h => by
    rcases h.inv with ⟨h, _⟩ | ⟨k', w, e, es', kvs', h1, rfl, r', t⟩
    · cases h
    · cases h1
      unfold valV valD
      rw [List.find?_cons, List.find?_cons]
      by_cases hk : k' = k
      · simp only [hk, decide_true]
        exact .inr ⟨w, e, rfl, rfl, r'⟩
      · simp only [decide_eq_false hk]
        exact KR.val t
theorem KR.tr (f : ∀ a o, H a = some o → ¬ O a → ¬ O' a) (k : ∀ a o, ¬ O a → H a = some o → H' a = some o) {es : List (L2.Key × V)} {kvs : List (L2.Key × D)} (h : KR K O H es kvs) : KR K O' H' es kvs := ⟨h.keys, h.vals.tr f k⟩
theorem KR.anti (f : ∀ a, O' a → O a) {es : List (L2.Key × V)} {kvs : List (L2.Key × D)} (h : KR K O H es kvs) : KR K O' H es kvs := ⟨h.keys, h.vals.anti f⟩
end
def pairsOf : List (D × D) → Option (List (L2.Key × D))
  | [] => some []
  | p :: l => (keyOfD p.1).bind fun k => (pairsOf l).map fun r => (k, p.2) :: r
def dictOf : D → Option (List (L2.Key × D))
  | .dict es => pairsOf es
  | _ => none
theorem pairsOf_map : ∀ kvs : List (L2.Key × D), pairsOf (kvs.map fun p => (keyD p.1, p.2)) = some kvs
  | [] => rfl
  | p :: l => by
    simp only [List.map_cons, pairsOf, keyOfD_key, Option.bind_some, pairsOf_map l, Option.map_some]
theorem dictOf_toD (kvs : List (L2.Key × D)) : dictOf (Mu.toD (.m kvs)) = some kvs := pairsOf_map kvs
section
variable {K : PySem.W.Frag} {O : Addr → Prop} {H : Hp}
theorem zip_pairs : ∀ {es : List (L2.Key × V)} {ds : List D} {kvs : List (L2.Key × D)}, RpAll K O H (es.map (·.2)) ds → pairsOf ((es.map fun p => keyD p.1).zip ds) = some kvs → KR K O H es kvs
  | [], ds, kvs, r, h => by
    cases r
    cases h
    exact .nil
  | p :: es, ds, kvs, r, h => by
    obtain ⟨k, v⟩ := p
    cases r with
    | cons r1 rt =>
      simp only [List.map_cons, List.zip_cons_cons, pairsOf, keyOfD_key, Option.bind_some, Option.map_eq_some_iff] at h
      obtain ⟨r, h2, rfl⟩ := h
      exact .cons r1 (zip_pairs rt h2)
theorem lv_dict {v : V} {d : D} {kvs : List (L2.Key × D)} (l : Lv K O H v d) (h : dictOf d = some kvs) : ∃ a es, v = .ref a ∧ Rd H a (.dK es) ∧ KR K O H es kvs := by
  cases d with
  | dict es =>
    rcases l with ⟨a, kv, ds, rfl, rd, ra, rfl⟩ | ⟨a, dx, C, nm, f, x, d', rfl, _, _, _, _, rfl⟩ | ⟨_, rfl⟩
    · exact ⟨a, kv, rfl, rd, zip_pairs ra h⟩
    · simp [dictOf, pairsOf, keyOfD] at h
    · simp [dictOf, pairsOf, keyOfD] at h
  | _ => cases h
theorem muat_dict {a : Addr} {kvs : List (L2.Key × D)} : MuAt K O H a (.m kvs) ↔ ∃ es, H a = some (.dK es) ∧ KR K O H es kvs :=
  ⟨fun ⟨es, h, k, r⟩ => ⟨es, h, k, r⟩, fun ⟨es, h, k⟩ => ⟨es, h, k.keys, k.vals⟩⟩
def rDIn : R2 := fun y x H Q => ∃ a o, x = .ref a ∧ DGet H a y o ∧ Q (.bl o.isSome) H
def rDNotIn : R2 := fun y x H Q => ∃ a o, x = .ref a ∧ DGet H a y o ∧ Q (.bl (!o.isSome)) H
def rDGet : R2 := fun x y H Q => ∃ a v, x = .ref a ∧ DGet H a y (some v) ∧ Q v H
def dDIn (k d : D) : Option D := (dictOf d).bind fun kvs => (keyOfD k).map fun k => .bool (valD kvs k).isSome
def dDNotIn (k d : D) : Option D := (dictOf d).bind fun kvs => (keyOfD k).map fun k => .bool (!(valD kvs k).isSome)
def dDGet (d k : D) : Option D := (dictOf d).bind fun kvs => (keyOfD k).bind fun k => valD kvs k
theorem dget_at {a : Addr} {es : List (L2.Key × V)} {k : L2.Key} (h : Rd H a (.dK es)) : DGet H a (kV k) (valV es k) := .inl ⟨es, k, h, rfl, rfl⟩
theorem od_din : OpD K rDIn dDIn := by
  intro O H x y d e z hO l1 l2 hz Q q
  simp only [dDIn, Option.bind_eq_some_iff, Option.map_eq_some_iff] at hz
  obtain ⟨kvs, h1, k, h2, rfl⟩ := hz
  obtain ⟨a, es, rfl, rd, kr⟩ := lv_dict l2 h1
  cases keyOfD_lv l1 h2
  refine ⟨a, valV es k, rfl, dget_at rd, ?_⟩
  rcases kr.val (k := k) with ⟨e1, e2⟩ | ⟨v, d, e1, e2, _⟩
  · rw [e1] ; rw [e2] at q; exact q _ H Ext.refl (.bl _)
  · rw [e1] ; rw [e2] at q; exact q _ H Ext.refl (.bl _)
theorem od_dnotin : OpD K rDNotIn dDNotIn := by
  intro O H x y d e z hO l1 l2 hz Q q
  simp only [dDNotIn, Option.bind_eq_some_iff, Option.map_eq_some_iff] at hz
  obtain ⟨kvs, h1, k, h2, rfl⟩ := hz
  obtain ⟨a, es, rfl, rd, kr⟩ := lv_dict l2 h1
  cases keyOfD_lv l1 h2
  refine ⟨a, valV es k, rfl, dget_at rd, ?_⟩
  rcases kr.val (k := k) with ⟨e1, e2⟩ | ⟨v, d, e1, e2, _⟩
  · rw [e1] ; rw [e2] at q; exact q _ H Ext.refl (.bl _)
  · rw [e1] ; rw [e2] at q; exact q _ H Ext.refl (.bl _)
theorem od_dget : OpD K rDGet dDGet := by
  intro O H x y d e z hO l1 l2 hz Q q
  simp only [dDGet, Option.bind_eq_some_iff] at hz
  obtain ⟨kvs, h1, k, h2, h3⟩ := hz
  obtain ⟨a, es, rfl, rd, kr⟩ := lv_dict l1 h1
  cases keyOfD_lv l2 h2
  rcases kr.val (k := k) with ⟨e1, e2⟩ | ⟨v, d, e1, e2, r⟩
  · rw [e2] at h3; cases h3
  · rw [e2] at h3; cases h3
    exact ⟨a, v, rfl, e1 ▸ dget_at rd, q _ H Ext.refl r⟩
def eGet2 (fd fk fz : EvE) : EvE := fun env => (fd env).bind fun p => (fk p.2).bind fun q => (fz q.2).bind fun r => (rs p.2 p.1).bind fun d0 => (dictOf d0).bind fun _ => (rs r.2 p.1).bind fun d => (dictOf d).bind fun kvs => (rs r.2 q.1).bind fun kd => (keyOfD kd).bind fun k =>
  match valD kvs k with
  | some v => some (.val v, r.2)
  | none => (rk r.2 r.1).map fun z => (.val z, r.2)
theorem ie_get2 {td ty tx : TE} {fd fk fz : EvE} (hd : IE K td fd) (hk : IE K ty fk) (hz : IE K tx fz) : IE K (tDGet2 td ty tx) (eGet2 fd fk fz) := by
  intro F T env σ H r env' S e Q q
  simp only [eGet2, Option.bind_eq_some_iff] at e
  obtain ⟨⟨r1, e1⟩, h1, ⟨r2, e2⟩, h2, ⟨r3, e3⟩, h3, d0, h40, kvs0, h50, d, h4, kvs, h5, kd, h6, k, h7, h8⟩ := e
  refine hd F T env σ H r1 e1 S h1 _ fun x H1 S1 s1 v1 => ?_
  obtain ⟨a, es0, rfl, rd0, _⟩ := lv_dict (rs_ok S1 v1 h40) h50
  refine ⟨a, rfl, .inl ⟨es0, rd0⟩, ?_⟩
  refine hk F T e1 σ H1 r2 e2 S1 h2 _ fun y H2 S2 s2 v2 => ?_
  refine hz F T e2 σ H2 r3 e3 S2 h3 _ fun zz H3 S3 s3 v3 => ?_
  obtain ⟨a', es, ha, rd, kr⟩ := lv_dict (rs_ok S3 ((v1.stp s2).stp s3) h4) h5
  cases ha
  cases keyOfD_lv (rs_ok S3 (v2.stp s3) h6) h7
  refine ⟨valV es k, dget_at rd, ?_⟩
  rcases kr.val (k := k) with ⟨e1', e2'⟩ | ⟨v, d', e1', e2', r'⟩
  · rw [e2'] at h8
    simp only [Option.map_eq_some_iff] at h8
    obtain ⟨z, h9, h10⟩ := h8
    cases h10
    rw [e1']
    exact q _ H3 S3 ((s1.trans s2).trans s3) (rk_ok S3 v3 h9)
  · rw [e2'] at h8
    cases h8
    rw [e1']
    exact q _ H3 S3 ((s1.trans s2).trans s3) r'
def sDPutE (i : Nat) (fk fe : EvE) : EvS := fun env => (fe env).bind fun p => (ownOf p.2 i).bind fun _ => (fk p.2).bind fun q => (rk q.2 p.1).bind fun d => (rs q.2 q.1).bind fun kd => (keyOfD kd).bind fun k => (ownOf q.2 i).bind fun o => match o.2 with
  | .m kvs => if small kvs.length = true then some (.nx, q.2.set i (some (.own o.1 (.m (putD kvs k d))))) else none
  | _ => none
theorem is_dput {te tk : TE} {fe fk : EvE} {i : Nat} (hk : IE K tk fk) (he : IE K te fe) : IS K (sDPut (tVar i) tk te) (sDPutE i fk fe) := by
  intro F env σ H fl env' S e Dn kk
  simp only [sDPutE, Option.bind_eq_some_iff] at e
  obtain ⟨⟨r, e1⟩, h1, ⟨b0, m0⟩, h5, ⟨r2, e2⟩, h2, d, h3, kd, h4, k, h6, ⟨b, m⟩, h7, h8⟩ := e
  refine he F T0 env σ H r e1 S h1 _ fun v H1 S1 s1 rv => ?_
  obtain ⟨a, q1, _, _⟩ := S1.own i b0 m0 (ownOf_eq h5)
  refine ⟨_, q1, hk F T0 e1 σ H1 r2 e2 S1 h2 _ fun w H2 S2 s2 rw2 => ?_⟩
  have g2 := ownOf_eq h7
  obtain ⟨a', p1, p2, _⟩ := S2.own i b m g2
  rw [q1] at p1; cases p1
  cases m with
  | l ds => simp at h8
  | o _ _ _ _ => simp at h8
  | m kvs =>
    simp only at h8
    split at h8
    · rename_i hs
      cases h8
      obtain ⟨es, hes, kr⟩ := muat_dict.mp p2
      cases keyOfD_lv (rs_ok S2 rw2 h4) h6
      have rv2 := rk_ok S2 (rv.stp s2) h3
      have oa : Ow F T0 e2 σ a := .inr (.inr ⟨i, _, _, g2, q1⟩)
      refine ⟨a, _, rfl, DPut.k hes (by rw [kr.length]; exact small_lt hs), ?_⟩
      have kr2 := (kr.put (k := k) rv2).tr (O' := Ow F T0 e2 σ) (H' := upd H2 a (.dK (putK es k v))) (fun _ _ _ n => n) fun b u n q => by rw [upd_ne (fun z => n (by subst z; exact oa))]; exact q
      obtain ⟨S3, st3⟩ := own_put (m' := .m (putD kvs k d)) S2 g2 q1 (muat_dict.mpr ⟨_, upd_same, kr2⟩)
      exact kk σ _ S3 ((s1.trans s2).trans st3).q
    · cases h8
end
end GD

set_option maxHeartbeats 4000000
namespace GD
open PySem PySem.Spec PyProof.Rows L2
def dcE (vs : List Nat) (g : D → En → Option En) (c : EvT) (fk fv : EvE) : List D → List (L2.Key × D) → En → Option (List (L2.Key × D) × En)
  | [], acc, env => some (acc, env)
  | x :: xs, acc, env => (g x env).bind fun e1 => (c e1).bind fun p => if p.1 = true then
      (fk p.2).bind fun q => (rk q.2 q.1).bind fun kd => (keyOfD kd).bind fun k => (fv q.2).bind fun r => (rk r.2 r.1).bind fun d => if small acc.length = true then dcE vs g c fk fv xs (putD acc k d) (wipeE r.2 vs) else none
    else dcE vs g c fk fv xs acc (wipeE p.2 vs)
def eDC (vs : List Nat) (fw : EvW) (g : D → En → Option En) (c : EvT) (fk fv : EvE) : EvM := fun env => (fw env).bind fun p => (dcE vs g c fk fv p.1 [] (wipeE p.2 vs)).map fun q => (.m q.1, q.2)
section
variable {K : PySem.W.Frag} {tk tv : TE} {fk fv : EvE} {tt : TT} {ft : EvT}
theorem im_dc {wi : TI} {fw : EvW} {js vs : List Nat} {gg : TG} {ff : D → En → Option En} (hw : IW K wi fw) (hg : IG K js gg ff) (ht : IT K tt ft) (hk : IE K tk fk) (hv : IE K tv fv) (hj : ∀ j ∈ js, j ∈ vs) :
    IM K (tDc wi gg tt tk tv vs) (eDC vs fw ff ft fk fv) := by
  intro F T env σ H m env' S e Q k
  simp only [eDC, Option.bind_eq_some_iff, Option.map_eq_some_iff] at e
  obtain ⟨⟨items, e1⟩, a1, ⟨ds, e2⟩, a2, a3⟩ := e
  obtain ⟨rfl, hee⟩ : m = .m ds ∧ e2 = env' := by cases a3; exact ⟨rfl, rfl⟩
  subst hee
  clear a3
  refine hw F T env σ H items e1 S a1 _ fun J H1 S1 s1 jo p np => ?_
  have np0 : H p = none := by
    cases h : H p with
    | none => rfl
    | some o => exact absurd np (s1.ext.live p (by rw [h]; simp))
  have nF : F.H0 p = none := S1.fresh0 np
  refine ⟨fun i mm H3 => ∃ e' acc dacc, StOk K F (fun a => T a ∨ a = p) H3 e' (wipe σ vs) ∧ (∀ (j : Nat) (s : Sl), e'[j]? = some (some s) → j ∉ vs) ∧ Ext (Wr e1 σ) H1 H3 ∧ (∀ a, Wr e' (wipe σ vs) a → Wr e1 σ a) ∧
      H3 p = some (.dK acc) ∧ KR K (Ow F (fun a => T a ∨ a = p) e' (wipe σ vs)) H3 acc dacc ∧ mm = items.length - i ∧ i ≤ items.length ∧ dcE vs ff ft fk fv (items.drop i) dacc e' = some (ds, e2), ?_, ?_⟩
  · have S2 : StOk K F (fun a => T a ∨ a = p) (upd H1 p (.dK [])) e1 σ := S1.new np
    have hre : ∀ (i : Nat) (s : Sl), (wipeE e1 vs)[i]? = some (some s) → e1[i]? = some (some s) ∧ (wipe σ vs)[i]? = σ[i]? := fun i s h => ⟨(wipeE_some h).1, wipe_out (wipeE_some h).2⟩
    exact ⟨_, wipeE e1 vs, [], [], S2.re (by rw [wipeE_len, wipe_length]; exact S1.len) hre, fun j s h => (wipeE_some h).2, Ext.new np, wr_re hre, upd_same, .nil, rfl, Nat.zero_le _, by simpa using a2⟩
  · rintro i mm H3 ⟨e', acc, dacc, S', hw', x', wr', hp', ra', rfl, hi, hc⟩
    obtain ⟨j1, j2⟩ := jo (Ow F (fun a => T a ∨ a = p) e' (wipe σ vs)) H3 (fun a o q n z => by
        rcases z with z | (z | z) | z
        · exact n (.inl z)
        · exact n (.inr (.inl z))
        · subst z; rw [np] at q; cases q
        · exact n (.inr (.inr (wr' a z)))) (fun a o n q => x'.same a o q fun z => n (.inr (.inr z))) (fun a h => S'.olive h)
    by_cases hlt : i < items.length
    · have gi : items[i]? = some items[i] := List.getElem?_eq_getElem hlt
      obtain ⟨go, yl⟩ := j1 i _ gi
      rw [List.drop_eq_getElem_cons hlt] at hc
      simp only [dcE, Option.bind_eq_some_iff] at hc
      obtain ⟨e3, b1, ⟨b, e4⟩, b2, b3⟩ := hc
      refine .inr ⟨go, fun H5 => ∃ e' acc dacc, StOk K F (fun a => T a ∨ a = p) H5 e' (wipe σ vs) ∧ (∀ (j : Nat) (s : Sl), e'[j]? = some (some s) → j ∉ vs) ∧ Ext (Wr e1 σ) H1 H5 ∧ (∀ a, Wr e' (wipe σ vs) a → Wr e1 σ a) ∧
        H5 p = some (.dK acc) ∧ KR K (Ow F (fun a => T a ∨ a = p) e' (wipe σ vs)) H5 acc dacc ∧ i + 1 ≤ items.length ∧ dcE vs ff ft fk fv (items.drop (i + 1)) dacc e' = some (ds, e2), ?_, ?_⟩
      · rintro H5 ⟨e', acc, dacc, c1, c2, c3, c4, c5, c6, c7, c8⟩
        exact ⟨items.length - (i + 1), by omega, e', acc, dacc, c1, c2, c3, c4, c5, c6, rfl, c7, c8⟩
      intro x H4 hy
      obtain ⟨x2, rx⟩ := yl x H4 hy
      have S4 := S'.lay x2
      refine hg F _ e' (wipe σ vs) H4 x _ e3 S4 rx b1 _ fun σ5 S5 q5 l5 k5 n5 => ?_
      have hk5 : ∀ k, k ∉ vs → σ5[k]? = (wipe σ vs)[k]? := fun k hk => k5 k fun z => hk (hj k z)
      have wq : wipe σ5 vs = wipe σ vs := (wipe_eq l5 hk5).trans wipe_wipe
      have x4 : Ext (Wr e1 σ) H1 H4 := x'.trans x2 fun _ q => q.elim
      have w5 : ∀ a, Wr e3 σ5 a → Wr e1 σ a ∨ H4 a = none := fun a h => (q5.wr a h).imp (wr' a) id
      have w5' : ∀ a, Wr e3 σ5 a → Wr e1 σ a := fun a h => (w5 a h).elim id fun z => absurd z (S5.wlive h)
      refine ⟨wq, ht F _ e3 σ5 H4 b e4 S5 b2 _ fun H6 S6 s6 => ?_⟩
      have ra6 : KR K (Ow F (fun a => T a ∨ a = p) e4 σ5) H6 acc dacc := ⟨ra'.keys, (ra'.vals.stq ((Stp.lay x2).q.trans q5)).stp s6⟩
      have hp4 : H4 p = some (.dK acc) := x2.same p _ hp' id
      have hp6 : H6 p = some (.dK acc) := s6.ext.same p _ hp4 (S5.tno p (.inr rfl))
      have x6 : Ext (Wr e1 σ) H1 H6 := x4.trans s6.ext fun a q => .inl (w5' a q)
      have back : ∀ {e7 : En} {H7 : Hp} {acc7 : List (L2.Key × V)} {d7 : List (L2.Key × D)}, StOk K F (fun a => T a ∨ a = p) H7 e7 σ5 → (∀ a, Wr e7 σ5 a → Wr e1 σ a) → Ext (Wr e1 σ) H1 H7 → H7 p = some (.dK acc7) →
          KR K (Ow F (fun a => T a ∨ a = p) e7 σ5) H7 acc7 d7 → dcE vs ff ft fk fv (items.drop (i + 1)) d7 (wipeE e7 vs) = some (ds, e2) →
          ∃ e' acc dacc, StOk K F (fun a => T a ∨ a = p) H7 e' (wipe σ vs) ∧ (∀ (j : Nat) (s : Sl), e'[j]? = some (some s) → j ∉ vs) ∧ Ext (Wr e1 σ) H1 H7 ∧ (∀ a, Wr e' (wipe σ vs) a → Wr e1 σ a) ∧
            H7 p = some (.dK acc) ∧ KR K (Ow F (fun a => T a ∨ a = p) e' (wipe σ vs)) H7 acc dacc ∧ i + 1 ≤ items.length ∧ dcE vs ff ft fk fv (items.drop (i + 1)) dacc e' = some (ds, e2) := by
        intro e7 H7 acc7 d7 S7 w7 x7 hp7 ra7 c7
        have hre : ∀ (i : Nat) (s : Sl), (wipeE e7 vs)[i]? = some (some s) → e7[i]? = some (some s) ∧ (wipe σ vs)[i]? = σ5[i]? := fun i s h => ⟨(wipeE_some h).1, (hk5 i (wipeE_some h).2).symm⟩
        have wre := wr_re hre
        exact ⟨wipeE e7 vs, acc7, d7, S7.re (by rw [wipeE_len, wipe_length, S7.len, l5, wipe_length]) hre, fun j s h => (wipeE_some h).2, x7, fun a h => w7 a (wre a h), hp7,
          ra7.anti (fun a h => h.imp id (.imp id (wre a))), hlt, c7⟩
      cases b with
      | false =>
        simp only [Bool.false_eq_true, if_false] at b3 ⊢
        exact back S6 (fun a h => w5' a (s6.wr a h)) x6 hp6 ra6 b3
      | true =>
        simp only [if_true, Option.bind_eq_some_iff] at b3 ⊢
        obtain ⟨⟨r, e7⟩, b4, kd, b5, kk, b6, ⟨r8, e8⟩, b7, d, b8, b9⟩ := b3
        split at b9
        · rename_i hs
          refine hk F _ e4 σ5 H6 r e7 S6 b4 _ fun y H7 S7 s7 ry => ?_
          have ryk := rk_ok S7 ry b5
          obtain ⟨rfl, _⟩ := keyOfD_ok ryk b6
          have hp7 : H7 p = some (.dK acc) := s7.ext.same p _ hp6 (S6.tno p (.inr rfl))
          have ra7 : KR K (Ow F (fun a => T a ∨ a = p) e7 σ5) H7 acc dacc := ⟨ra6.keys, ra6.vals.stp s7⟩
          refine hv F _ e7 σ5 H7 r8 e8 S7 b7 _ fun z H8 S8 s8 rz => ?_
          have hp8 : H8 p = some (.dK acc) := s8.ext.same p _ hp7 (S7.tno p (.inr rfl))
          have ra8 : KR K (Ow F (fun a => T a ∨ a = p) e8 σ5) H8 acc dacc := ⟨ra7.keys, ra7.vals.stp s8⟩
          have rz8 := rk_ok S8 rz b8
          refine ⟨acc, kk, rfl, hp8, by rw [ra8.length]; exact small_lt hs, ?_⟩
          have x8 : Ext (Wr e1 σ) H1 H8 := (x6.trans s7.ext fun a q => .inl (w5' a (s6.wr a q))).trans s8.ext fun a q => .inl (w5' a (s6.wr a (s7.wr a q)))
          have x9 : Ext (Wr e1 σ) H1 (upd H8 p (.dK (putK acc kk z))) := ⟨fun a u q n => by
              rw [upd_ne (ne_of_none q np)]; exact x8.same a u q n, fun a q => by
              by_cases z : a = p
              · subst z; rw [upd_same]; simp
              · rw [upd_ne z]; exact x8.live a q⟩
          have S9 : StOk K F (fun a => T a ∨ a = p) (upd H8 p (.dK (putK acc kk z))) e8 σ5 := S8.updT (.inr rfl) nF
          have ra9 : KR K (Ow F (fun a => T a ∨ a = p) e8 σ5) (upd H8 p (.dK (putK acc kk z))) (putK acc kk z) (putD dacc kk d) := (ra8.put rz8).tr (fun _ _ _ n => n) fun a u n q => by
            rw [upd_ne (fun z => n (by subst z; exact .inr (.inl (.inr rfl))))]; exact q
          exact back S9 (fun a h => w5' a (s6.wr a (s7.wr a (s8.wr a h)))) x9 upd_same ra9 b9
        · cases b9
    · have ei : i = items.length := by omega
      subst ei
      rw [List.drop_length] at hc
      cases hc
      refine .inl ⟨j2 _ (Nat.le_refl _), ?_⟩
      have hre : ∀ (i : Nat) (s : Sl), e2[i]? = some (some s) → e2[i]? = some (some s) ∧ σ[i]? = (wipe σ vs)[i]? := fun i s h => ⟨h, (wipe_out (hw' i s h)).symm⟩
      have hre2 : ∀ (i : Nat) (s : Sl), e2[i]? = some (some s) → e2[i]? = some (some s) ∧ (wipe σ vs)[i]? = σ[i]? := fun i s h => ⟨h, (wipe_out (hw' i s h))⟩
      have S9 : StOk K F (fun a => T a ∨ a = p) H3 e2 σ := S'.re (by rw [S'.len, wipe_length]) hre
      exact k p H3 np0 S9 (s1.trans ⟨x', fun a h => wr' a (wr_re hre a h)⟩) (muat_dict.mpr ⟨acc, hp', ra'.anti fun a h => h.imp id (.imp id (wr_re hre a))⟩)
end
end GD

set_option maxHeartbeats 4000000
namespace GD
open PySem PySem.Spec PyProof.Rows L2
def tOrS (t u : TS) : TS := fun D σ H => t D σ H ∨ u D σ H
theorem ps_or {X : Cx} {st : Stmt} {t u : TS} (h : PS X st t) (h' : PS X st u) : PS X st (tOrS t u) := by
  refine ⟨fun pins s σ H D I q => ?_⟩
  rcases q with q | q
  · exact h.run pins s σ H D I q
  · exact h'.run pins s σ H D I q
structure Sw (H H' : Hp) (d : Addr) (kv : List (L2.Key × V)) : Prop where
  off : ∀ a, a ≠ d → H' a = H a
  rd : Rd H d (.dK kv)
  rd' : Rd H' d (.dK kv)
section
variable {K : PySem.W.Frag} {O : Addr → Prop} {H H' : Hp} {d : Addr} {kv : List (L2.Key × V)}
theorem Sw.kv_eq (w : Sw H H' d kv) {es : List (L2.Key × V)} (h : Rd H d (.dK es)) : es = kv := by
  rcases h with h | ⟨o, h⟩ <;> rcases w.rd with q | ⟨o', q⟩ <;> rw [h] at q <;> cases q <;> rfl
theorem Sw.ne (w : Sw H H' d kv) {a : Addr} {u : HO} (h : H a = some u) (n1 : ∀ es, u ≠ .dK es) (n2 : ∀ o es, u ≠ .frz o (.dK es)) : a ≠ d := by
  rintro rfl
  rcases w.rd with q | ⟨o', q⟩ <;> rw [h] at q <;> cases q
  · exact n1 _ rfl
  · exact n2 _ _ rfl
mutual
theorem Rp.sw (w : Sw H H' d kv) : ∀ {v : V} {x : D}, Rp K O H v x → Rp K O H' v x
  | _, _, .non => .non
  | _, _, .bl b => .bl b
  | _, _, .int i => .int i
  | _, _, .str x => .str x
  | _, _, .lst h n r => .lst (by rw [w.off _ (w.ne h (fun _ z => by cases z) (fun _ _ z => by cases z))]; exact h) n (RpAll.sw w r)
  | _, _, .tup h r => .tup ⟨h.1.imp (fun h => ⟨by
      rcases h.1 with q | ⟨o, q⟩
      · exact .inl (by rw [w.off _ (w.ne q (fun _ z => by cases z) (fun _ _ z => by cases z))]; exact q)
      · exact .inr ⟨o, by rw [w.off _ (w.ne q (fun _ z => by cases z) (fun _ _ z => by cases z))]; exact q⟩, h.2⟩) id,
      fun z => (h.2 z).imp (fun ⟨o, u, e, q⟩ => ⟨o, u, by rw [w.off _ (w.ne e (fun _ z => by cases z) (fun _ _ z => by cases z))]; exact e, q⟩) id⟩ (RpAll.sw w r)
  | _, _, .dic (a := a) (kvs := kvs) h n r => .dic (by
      by_cases e : a = d
      · subst e
        have := w.kv_eq h
        subst this
        exact w.rd'
      · rcases h with q | ⟨o, q⟩
        · exact .inl (by rw [w.off _ e]; exact q)
        · exact .inr ⟨o, by rw [w.off _ e]; exact q⟩) n (RpAll.sw w r)
  | _, _, .exc c h n h2 n2 r => .exc c (by rw [w.off _ (w.ne h (fun _ z => by cases z) (fun _ _ z => by cases z))]; exact h) n (h2.imp id fun h2 => by rw [w.off _ (w.ne h2 (fun _ z => by cases z) (fun _ _ z => by cases z))]; exact h2) n2 (Rp.sw w r)
  | _, _, .ob a => .ob a
theorem RpAll.sw (w : Sw H H' d kv) : ∀ {vs : List V} {xs : List D}, RpAll K O H vs xs → RpAll K O H' vs xs
  | _, _, .nil => .nil
  | _, _, .cons r t => .cons (Rp.sw w r) (RpAll.sw w t)
end
theorem MuAt.sw (w : Sw H H' d kv) {a : Addr} {m : Mu} (n : a ≠ d) (h : MuAt K O H a m) : MuAt K O H' a m := by
  cases m with
  | l ds => obtain ⟨xs, e, r⟩ := h; exact ⟨xs, by rw [w.off _ n]; exact e, r.sw w⟩
  | m kvs => obtain ⟨xs, e, g, r⟩ := h; exact ⟨xs, by rw [w.off _ n]; exact e, g, r.sw w⟩
  | o nm lf l fs => obtain ⟨C, dx, xs, c, e, r⟩ := h; exact ⟨C, dx, xs, c, by rw [w.off _ n]; exact e, r.sw w⟩
theorem Sw.live (w : Sw H H' d kv) {a : Addr} (h : H a ≠ none) : H' a ≠ none := by
  by_cases e : a = d
  · subst e
    rcases w.rd' with q | ⟨o, q⟩ <;> rw [q] <;> simp
  · rw [w.off _ e]; exact h
end
def Frm.at (F : Frm) (d : Addr) (u : HO) : Frm := ⟨F.O0, F.W0, upd F.H0 d u, F.vs⟩
section
variable {K : PySem.W.Frag} {F : Frm} {T : Addr → Prop} {H H' : Hp} {env : En} {σ : L2.St} {d : Addr} {kv : List (L2.Key × V)} {u : HO}
theorem at_none {a : Addr} (h : (F.at d u).H0 a = none) : a ≠ d ∧ F.H0 a = none := by
  by_cases e : a = d
  · subst e; simp [Frm.at, upd_same] at h
  · exact ⟨e, by simpa [Frm.at, upd_ne e] using h⟩
theorem none_at {a : Addr} (n : a ≠ d) (h : F.H0 a = none) : (F.at d u).H0 a = none := by simpa [Frm.at, upd_ne n] using h
theorem StOk.enter (S : StOk K F T H env σ) (nd : ¬ Ow F T env σ d) (w : Sw H H' d kv) (hu : H' d = some u) : StOk K (F.at d u) T H' env σ := by
  have ow : ∀ a, Ow (F.at d u) T env σ a ↔ Ow F T env σ a := fun a => Iff.rfl
  refine ⟨S.len, ?_, ?_, S.dis, ⟨?_, ?_⟩, ?_, S.sub, fun a q => w.live (S.tdm a q), S.tno⟩
  · intro i x e
    obtain ⟨v, q, r⟩ := S.shr i x e
    exact ⟨v, q, r.sw w⟩
  · intro i p m e
    obtain ⟨a, q, r, c⟩ := S.own i p m e
    have n : a ≠ d := fun z => nd (by subst z; exact .inr (.inr ⟨i, p, m, e, q⟩))
    refine ⟨a, q, r.sw w n, ?_⟩
    cases p with
    | true => simpa [Frm.at] using c
    | false => simpa using none_at (u := u) n (by simpa using c)
  · intro a o e n
    by_cases z : a = d
    · subst z
      simp only [Frm.at, upd_same] at e
      rw [hu]; exact e
    · rw [w.off _ z]
      exact S.ext.same a o (by simpa [Frm.at, upd_ne z] using e) n
  · intro a e
    by_cases z : a = d
    · subst z; rw [hu]; simp
    · rw [w.off _ z]
      exact S.ext.live a (by simpa [Frm.at, upd_ne z] using e)
  · intro a h
    by_cases z : a = d
    · subst z; simp [Frm.at, upd_same]
    · simpa [Frm.at, upd_ne z] using S.dom a h
theorem StOk.leave {H'' : Hp} (S : StOk K (F.at d u) T H' env σ) (nW : ∀ (p : Bool) (m : Mu) (i : Nat), env[i]? = some (some (Sl.own p m)) → σ[i]? = some (some (V.ref d)) → False) (w : Sw H' H'' d kv) (hd : ∀ o, F.H0 d = some o → ¬ F.W0 d → H'' d = some o) (h0 : ∀ a, F.O0 a → F.H0 a ≠ none) : StOk K F T H'' env σ := by
  refine ⟨S.len, ?_, ?_, S.dis, ⟨?_, ?_⟩, h0, S.sub, fun a q => w.live (S.tdm a q), S.tno⟩
  · intro i x e
    obtain ⟨v, q, r⟩ := S.shr i x e
    exact ⟨v, q, r.sw w⟩
  · intro i p m e
    obtain ⟨a, q, r, c⟩ := S.own i p m e
    have n : a ≠ d := fun z => nW p m i e (by subst z; exact q)
    refine ⟨a, q, r.sw w n, ?_⟩
    cases p with
    | true => simpa [Frm.at] using c
    | false => simpa using (at_none (u := u) (by simpa using c)).2
  · intro a o e n
    by_cases z : a = d
    · subst z; exact hd o e n
    · rw [w.off _ z]
      exact S.ext.same a o (by simpa [Frm.at, upd_ne z] using e) n
  · intro a e
    by_cases z : a = d
    · subst z
      exact w.live (S.ext.live a (by simp [Frm.at, upd_same]))
    · rw [w.off _ z]
      exact S.ext.live a (by simpa [Frm.at, upd_ne z] using e)
end
section
variable {K : PySem.W.Frag} {t : TS} {f : EvS}
theorem for_at {js : List Nat} {gg : TG} {ff : D → En → Option En} (hg : IG K js gg ff) (hb : IS K t f) {F : Frm} {e1 env' : En} {σ : L2.St} {H1 : Hp} {fl : Fl} {Dn : Ends} {J : It} {items : List D}
    (S1 : StOk K F T0 H1 e1 σ) (jo : JOk K J items (Ow F T0 e1 σ) H1) (a2 : forE ff f items e1 = some (fl, env')) (k1 : SEnd K F e1 σ H1 env' Dn fl) :
    ∃ W : Nat → Nat → L2.St → Hp → Prop, (∃ m, W 0 m σ H1) ∧ ∀ i m σ H, W i m σ H →
      (J.stop i H ∧ Dn.nx σ H) ∨ (J.go i H ∧ ∃ N : L2.St → Hp → Prop, (∀ σ' H', N σ' H' → ∃ m', m' < m ∧ W (i + 1) m' σ' H') ∧ ∀ x H', J.yld i H x H' → gg x σ H' fun σ2 H2 => t { Dn with nx := N, ct := N, bk := Dn.nx } σ2 H2) := by
  refine ⟨fun i m σ' H' => ∃ e', StOk K F T0 H' e' σ' ∧ Stq e1 σ H1 e' σ' H' ∧ m = items.length - i ∧ i ≤ items.length ∧ forE ff f (items.drop i) e' = some (fl, env'), ⟨_, e1, S1, Stq.refl, rfl, Nat.zero_le _, by simpa using a2⟩, ?_⟩
  rintro i m σ' H' ⟨e', S', st, rfl, hi, he⟩
  obtain ⟨j1, j2⟩ := jo (Ow F T0 e' σ') H' (fun a o q n z => by
      rcases z with z | z | z
      · exact n (.inl z)
      · exact z
      · rcases st.wr a z with z | z
        · exact n (.inr (.inr z))
        · rw [q] at z; cases z) (fun a o n q => st.ext.same a o q fun z => n (.inr (.inr z))) (fun a h => S'.olive h)
  by_cases hlt : i < items.length
  · have gi : items[i]? = some items[i] := List.getElem?_eq_getElem hlt
    obtain ⟨go, yl⟩ := j1 i _ gi
    rw [List.drop_eq_getElem_cons hlt] at he
    simp only [forE, Option.bind_eq_some_iff] at he
    obtain ⟨e2, b1, ⟨fl2, e3⟩, b2, b3⟩ := he
    refine .inr ⟨go, fun σ2 H2 => ∃ e', StOk K F T0 H2 e' σ2 ∧ Stq e1 σ H1 e' σ2 H2 ∧ i + 1 ≤ items.length ∧ forE ff f (items.drop (i + 1)) e' = some (fl, env'), ?_, ?_⟩
    · rintro σ2 H2 ⟨e', c1, c2, c3, c4⟩
      exact ⟨items.length - (i + 1), by omega, e', c1, c2, rfl, c3, c4⟩
    · intro x H2 hy
      obtain ⟨x2, rx⟩ := yl x H2 hy
      have S2 := S'.lay x2
      refine hg F T0 e' σ' H2 x _ e2 S2 rx b1 _ fun σ2 S3 q3 _ _ _ => ?_
      have q4 : Stq e1 σ H1 e2 σ2 H2 := (st.trans (Stp.lay x2).q).trans q3
      refine hb F e2 σ2 H2 fl2 e3 S3 b2 _ ?_
      cases fl2 with
      | nx => exact fun σ3 H3 S4 q5 => ⟨e3, S4, q4.trans q5, hlt, b3⟩
      | ct => exact fun σ3 H3 S4 q5 => ⟨e3, S4, q4.trans q5, hlt, b3⟩
      | bk => cases b3; exact fun σ3 H3 S4 q5 => k1 σ3 H3 S4 (q4.trans q5)
      | rt r => cases b3; exact k1
  · have ei : i = items.length := by omega
    subst ei
    rw [List.drop_length] at he
    cases he
    exact .inl ⟨j2 _ (Nat.le_refl _), k1 σ' H' S' st⟩
theorem notE_tab2 {x y : D} (h : notE y = true) : tabD [x, y] = false := by
  cases x <;> first | rfl | (cases y <;> first | rfl | cases h)
theorem iti_ok {O : Addr → Prop} {H : Hp} {d : Addr} {o : Obj} {es : List (L2.Key × V)} {kvs : List (L2.Key × D)} (hd : H d = some (.frz o (.dK es))) (nO : ¬ O d) (kr : KR K O H es kvs) (hne : kvs.all (fun p => notE p.2) = true) :
    JOk K (Iti d o es) (kvs.map fun p => .tuple [keyD p.1, p.2]) O H := by
  intro O' H2 f k lv
  have hl := kr.length
  refine ⟨fun i x hx => ?_, fun i hi => ⟨k _ _ nO hd, by rw [List.length_map] at hi; omega⟩⟩
  rw [List.getElem?_map] at hx
  cases hq : kvs[i]? with
  | none => rw [hq] at hx; cases hx
  | some p =>
    obtain ⟨kk, dd⟩ := p
    rw [hq] at hx
    cases hx
    have hi : i < kvs.length := (List.getElem?_eq_some_iff.mp hq).1
    refine ⟨⟨k _ _ nO hd, by omega⟩, ?_⟩
    rintro x H' ⟨T, k', v, he, rfl, hT, rfl⟩
    have e1 := congrArg (·[i]?) kr.keys
    simp only [List.getElem?_map, he, hq, Option.map_some, Option.some.injEq] at e1
    subst e1
    obtain ⟨d', hd', r⟩ := kr.vals.get' (i := i) (v := v) (by rw [List.getElem?_map, he]; rfl)
    rw [List.getElem?_map, hq] at hd'
    cases hd'
    have nT : ¬ O' T := fun z => lv T z hT
    refine ⟨Ext.new hT, .tup (TpA.of (.inl ⟨.inl upd_same, nT⟩) (notE_tab2 (List.all_eq_true.mp hne _ (List.mem_of_getElem? hq)))) ?_⟩
    have r2 : Rp K O' (upd H2 T (.tup [kV k', v])) v dd := r.tr f fun a u n q => by rw [upd_ne (ne_of_none (k a u n q) hT)]; exact k a u n q
    refine .cons ?_ (.cons r2 .nil)
    cases k' with
    | inl i => exact .int i
    | inr x => exact .str x
def sForItems (i : Nat) (ff : D → En → Option En) (f : EvS) : EvS := fun env => match slOf env i with
  | some (.shr d) => (dictOf d).bind fun kvs => if kvs.all (fun p => notE p.2) = true then forE ff f (kvs.map fun p => .tuple [keyD p.1, p.2]) env else none
  | _ => none
theorem is_forItems {i : Nat} {js : List Nat} {gg : TG} {ff : D → En → Option En} (hg : IG K js gg ff) (hb : IS K t f) : IS K (tOrS (tLock (tFor (iItems (tVar i)) gg t)) (tFor (iItems (tVar i)) gg t)) (sForItems i ff f) := by
  intro F env σ H fl env' S e Dn k
  unfold sForItems at e
  cases g : slOf env i with
  | none => simp [g] at e
  | some s =>
    cases s with
    | own p m => simp [g] at e
    | shr x =>
      simp only [g, Option.bind_eq_some_iff] at e
      obtain ⟨kvs, h1, h2⟩ := e
      split at h2
      case isFalse => cases h2
      case isTrue hne =>
      obtain ⟨v, hv, rv⟩ := S.shr i x (slOf_eq.mp g)
      obtain ⟨d, es, rfl, rd, kr⟩ := lv_dict rv.lv h1
      have nd : ¬ Ow F T0 env σ d := by
        cases rv with
        | lst h n _ => exact n
        | tup h _ => cases h1
        | dic h n _ => exact n
        | exc _ h n _ _ _ => exact n
        | ob _ => cases h1
      have nW : ∀ {e2 : En} {σ2 : L2.St} {G : Hp}, Stq env σ G e2 σ2 G → True := fun _ => trivial
      -- the walk, with the dict as it stands locked
      have core : ∀ (H1 : Hp) (o : Obj) (back : Hp → Hp), H1 d = some (.frz o (.dK es)) → Sw H H1 d es → (∀ H' : Hp, H' d = some (.frz o (.dK es)) → Sw H' (back H') d es ∧ back H' d = H d) → ∀ D2 : Ends,
          (∀ σ' H', H' d = some (.frz o (.dK es)) → Dn.nx σ' (back H') → D2.nx σ' H') → (∀ v H', H' d = some (.frz o (.dK es)) → Dn.rt v (back H') → D2.rt v H') → (∀ σ' H', H' d = some (.frz o (.dK es)) → Dn.bk σ' (back H') → D2.bk σ' H') → (∀ σ' H', H' d = some (.frz o (.dK es)) → Dn.ct σ' (back H') → D2.ct σ' H') →
          tFor (iItems (tVar i)) gg t D2 σ H1 := by
        intro H1 o back hd1 w hback D2 d1 d2 d3 d4
        have S1 : StOk K (F.at d (.frz o (.dK es))) T0 H1 env σ := S.enter nd w hd1
        have kr1 : KR K (Ow (F.at d (.frz o (.dK es))) T0 env σ) H1 es kvs := ⟨kr.keys, kr.vals.sw w⟩
        refine ⟨.ref d, hv, d, o, es, rfl, hd1, ?_⟩
        have keep : ∀ {T' : Addr → Prop} {H' : Hp} {e' : En} {σ' : L2.St}, StOk K (F.at d (.frz o (.dK es))) T' H' e' σ' → H' d = some (.frz o (.dK es)) := fun S' => S'.ext.same d _ (by simp [Frm.at, upd_same]) fun z => nd (.inl (S.sub d z))
        have noW : ∀ {T' : Addr → Prop} {H' : Hp} {e' : En} {σ' : L2.St}, StOk K (F.at d (.frz o (.dK es))) T' H' e' σ' → ∀ (p : Bool) (m : Mu) (i : Nat), e'[i]? = some (some (Sl.own p m)) → σ'[i]? = some (some (V.ref d)) → False := fun S' p m i e1 e2 => by
          obtain ⟨a, q, r, c⟩ := S'.own i p m e1
          rw [e2] at q; cases q
          have hk := keep S'
          cases m with
          | l ds => obtain ⟨xs, h, _⟩ := r; rw [hk] at h; cases h
          | m ds => obtain ⟨xs, h, _⟩ := r; rw [hk] at h; cases h
          | o _ _ _ _ => obtain ⟨_, _, xs, _, h, _⟩ := r; rw [hk] at h; cases h
        have hd0 : ∀ {H' : Hp}, back H' d = H d → ∀ o', F.H0 d = some o' → ¬ F.W0 d → back H' d = some o' := fun e o' e1 n => by rw [e]; exact S.ext.same d o' e1 n
        have fin : ∀ {T' : Addr → Prop} {H' : Hp} {e' : En} {σ' : L2.St}, StOk K (F.at d (.frz o (.dK es))) T' H' e' σ' → StOk K F T' (back H') e' σ' := fun S' =>
          let b := hback _ (keep S')
          S'.leave (noW S') b.1 (hd0 b.2) S.dom
        have stq : ∀ {H' : Hp} {e' : En} {σ' : L2.St}, StOk K (F.at d (.frz o (.dK es))) T0 H' e' σ' → Stq env σ H1 e' σ' H' → Stq env σ H e' σ' (back H') := fun {H' e' σ'} S' q => by
          have b := hback _ (keep S')
          refine ⟨⟨fun a u e n => ?_, fun a e => b.1.live (q.ext.live a (w.live e))⟩, fun a h => (q.wr a h).imp id fun z => ?_⟩
          · by_cases z : a = d
            · subst z; rw [b.2]; exact e
            · rw [b.1.off _ z]
              exact q.ext.same a u (by rw [w.off _ z]; exact e) n
          · by_cases y : a = d
            · subst y; rw [hd1] at z; cases z
            · rw [← w.off _ y]; exact z
        have hend : SEnd K (F.at d (.frz o (.dK es))) env σ H1 env' D2 fl := by
          cases fl with
          | nx => exact fun σ' H' S' q => d1 _ _ (keep S') (k σ' _ (fin S') (stq S' q))
          | bk => exact fun σ' H' S' q => d3 _ _ (keep S') (k σ' _ (fin S') (stq S' q))
          | ct => exact fun σ' H' S' q => d4 _ _ (keep S') (k σ' _ (fin S') (stq S' q))
          | rt r =>
            intro v σ' H' hr
            cases r with
            | val x =>
              obtain ⟨S', r⟩ := hr
              exact d2 _ _ (keep S') (k v σ' _ ⟨fin S', r.sw (hback _ (keep S')).1⟩)
            | new m =>
              obtain ⟨p, T', rfl, np, S', op, mu⟩ := hr
              exact d2 _ _ (keep S') (k _ σ' _ ⟨p, T', rfl, (at_none np).2, fin S', op, mu.sw (hback _ (keep S')).1 (at_none np).1⟩)
        exact for_at hg hb S1 (iti_ok hd1 nd kr1 hne) h2 hend
      rcases rd with hd | ⟨o, hd⟩
      · refine .inl ⟨d, _, hd, trivial, fun od => ?_⟩
        exact core (upd H d (.frz od (.dK es))) od (fun H' => upd H' d (.dK es)) upd_same ⟨fun a n => upd_ne n, .inl hd, .inr ⟨od, upd_same⟩⟩ (fun H' h' => ⟨⟨fun a n => upd_ne n, .inr ⟨od, h'⟩, .inl upd_same⟩, by rw [upd_same, hd]⟩) _ (fun _ _ a b => ⟨a, b⟩) (fun _ _ a b => ⟨a, b⟩) (fun _ _ a b => ⟨a, b⟩) (fun _ _ a b => ⟨a, b⟩)
      · exact .inr (core H o id hd ⟨fun _ _ => rfl, .inr ⟨o, hd⟩, .inr ⟨o, hd⟩⟩ (fun H' h' => ⟨⟨fun _ _ => rfl, .inr ⟨o, h'⟩, .inr ⟨o, h'⟩⟩, by rw [hd]; exact h'⟩) Dn (fun _ _ _ b => b) (fun _ _ _ b => b) (fun _ _ _ b => b) (fun _ _ _ b => b))
end
end GD

set_option maxHeartbeats 4000000
namespace GD
open PySem PySem.Spec PyProof.Rows L2
def grpI : List (L2.Key × List Int) → L2.Key → Int → List (L2.Key × List Int)
  | [], k, n => [(k, [n])]
  | p :: r, k, n => if p.1 = k then (p.1, p.2 ++ [n]) :: r else p :: grpI r k n
def dictI (A : List (L2.Key × List Int)) : D := .dict (A.map fun p => (keyD p.1, .list (p.2.map .int)))
inductive Grel (H : Hp) : List (L2.Key × V) → List Addr → List (L2.Key × List Int) → Prop
  | nil : Grel H [] [] []
  | cons {k : L2.Key} {l : Addr} {ns : List Int} {es : List (L2.Key × V)} {L : List Addr} {A : List (L2.Key × List Int)} : H l = some (.lst (ns.map V.int)) → Grel H es L A → Grel H ((k, .ref l) :: es) (l :: L) ((k, ns) :: A)
section
variable {H H' : Hp}
theorem Grel.keep {es : List (L2.Key × V)} {L : List Addr} {A : List (L2.Key × List Int)} (h : Grel H es L A) : (∀ l ∈ L, H' l = H l) → Grel H' es L A := by
  induction h with
  | nil => intro _; exact .nil
  | cons e _ ih => intro q; exact .cons (by rw [q _ (List.mem_cons_self ..)]; exact e) (ih fun l hl => q l (List.mem_cons_of_mem _ hl))
theorem Grel.len {es : List (L2.Key × V)} {L : List Addr} {A : List (L2.Key × List Int)} (h : Grel H es L A) : es.length = A.length := by
  induction h with
  | nil => rfl
  | cons _ _ ih => simp [ih]
theorem Grel.live {es : List (L2.Key × V)} {L : List Addr} {A : List (L2.Key × List Int)} (h : Grel H es L A) : ∀ l ∈ L, ∃ ns, H l = some (.lst (List.map V.int ns)) := by
  induction h with
  | nil => intro l hl; simp at hl
  | cons e _ ih =>
    intro l hl
    rcases List.mem_cons.mp hl with rfl | hl
    · exact ⟨_, e⟩
    · exact ih l hl
theorem Grel.found {es : List (L2.Key × V)} {L : List Addr} {A : List (L2.Key × List Int)} {k : L2.Key} {v : V} (h : Grel H es L A) (n : Int) : valV es k = some v → L.Nodup →
    ∃ l ns, v = .ref l ∧ l ∈ L ∧ H l = some (.lst (ns.map V.int)) ∧ (∃ p ∈ A, p.2 = ns) ∧ Grel (upd H l (.lst ((ns ++ [n]).map V.int))) es L (grpI A k n) := by
  induction h with
  | nil => intro e; cases e
  | @cons k' l' ns' es' L' A' e t ih =>
    intro hv nd
    rw [List.nodup_cons] at nd
    by_cases hk : k' = k
    · rw [valV_pos hk] at hv
      cases hv
      refine ⟨l', ns', rfl, List.mem_cons_self .., e, ⟨_, List.mem_cons_self .., rfl⟩, ?_⟩
      simp only [grpI, if_pos hk]
      exact .cons upd_same (t.keep fun l hl => upd_ne (fun z => nd.1 (z ▸ hl)))
    · rw [valV_neg hk] at hv
      obtain ⟨l, ns, rfl, hl, hH, ⟨p, hp, hpe⟩, g⟩ := ih hv nd.2
      refine ⟨l, ns, rfl, List.mem_cons_of_mem _ hl, hH, ⟨p, List.mem_cons_of_mem _ hp, hpe⟩, ?_⟩
      simp only [grpI, if_neg hk]
      exact .cons (by rw [upd_ne (fun z => nd.1 (by rw [z]; exact hl))]; exact e) g
theorem Grel.absent {es : List (L2.Key × V)} {L : List Addr} {A : List (L2.Key × List Int)} {k : L2.Key} {p : Addr} {n : Int} (h : Grel H es L A) (hp : H p = some (.lst [.int n])) : valV es k = none → Grel H (es ++ [(k, .ref p)]) (L ++ [p]) (grpI A k n) := by
  induction h with
  | nil => intro _; exact .cons (ns := [n]) hp .nil
  | @cons k' l' ns' es' L' A' e t ih =>
    intro hv
    have hk : ¬ k' = k := fun z => by rw [valV_pos z] at hv; cases hv
    rw [valV_neg hk] at hv
    simp only [grpI, if_neg hk, List.cons_append]
    exact .cons e (ih hv)
theorem grpI_len (k : L2.Key) (n : Int) : ∀ A : List (L2.Key × List Int), (grpI A k n).length ≤ A.length + 1
  | [] => by simp [grpI]
  | p :: r => by
    simp only [grpI]
    split
    · simp
    · have := grpI_len k n r
      simp only [List.length_cons]; omega
theorem grpI_lens (k : L2.Key) (n : Int) {m : Nat} : ∀ A : List (L2.Key × List Int), (∀ p ∈ A, p.2.length ≤ m) → ∀ p ∈ grpI A k n, p.2.length ≤ m + 1
  | [], _, p, hp => by simp [grpI] at hp; subst hp; simp
  | q :: r, h, p, hp => by
    simp only [grpI] at hp
    split at hp
    · rcases List.mem_cons.mp hp with rfl | hp
      · have := h q (List.mem_cons_self ..)
        simp; omega
      · exact Nat.le_succ_of_le (h p (List.mem_cons_of_mem _ hp))
    · rcases List.mem_cons.mp hp with rfl | hp
      · exact Nat.le_succ_of_le (h _ (List.mem_cons_self ..))
      · exact grpI_lens k n r (fun x hx => h x (List.mem_cons_of_mem _ hx)) p hp
end
structure Gp (F : Frm) (T : Addr → Prop) (H : Hp) (d : Addr) (L : List Addr) (A : List (L2.Key × List Int)) : Prop where
  rel : ∃ es, H d = some (.dK es) ∧ Grel H es L A
  nd : L.Nodup
  apart : T d ∧ F.H0 d = none ∧ ∀ l ∈ L, T l ∧ F.H0 l = none
theorem Gp.keep {F : Frm} {T T' : Addr → Prop} {H H' : Hp} {d : Addr} {L : List Addr} {A : List (L2.Key × List Int)} (g : Gp F T H d L A) (h : ∀ a, a = d ∨ a ∈ L → H' a = H a) (t : ∀ a, T a → T' a) : Gp F T' H' d L A := by
  obtain ⟨⟨es, e, r⟩, nd, a1, a2, a3⟩ := g
  exact ⟨⟨es, by rw [h d (.inl rfl)]; exact e, r.keep fun l hl => h l (.inr hl)⟩, nd, t _ a1, a2, fun l hl => ⟨t _ (a3 l hl).1, (a3 l hl).2⟩⟩
theorem upd_live {H : Hp} {p a : Addr} {o : HO} (h : H a ≠ none) : upd H p o a ≠ none := by
  by_cases e : a = p
  · subst e; rw [upd_same]; simp
  · rw [upd_ne e]; exact h
def tApp (K : PySem.W.Frag) (i k s : Nat) : TS := tDrop (tBM K "list" rAppend (tDSetd (tVar i) (tVar k) (tLst tNil)) (tCons (tVar s) tNil))
section
variable {K : PySem.W.Frag} {F : Frm}
theorem app_step {T : Addr → Prop} {H : Hp} {e : En} {σ : L2.St} {i k s : Nat} {d : Addr} {kd : D} {kk : L2.Key} {n : Int} {L : List Addr} {A : List (L2.Key × List Int)} {Dn : Ends}
    (S : StOk K F T H e σ) (hi : σ[i]? = some (some (.ref d))) (hk : e[k]? = some (some (.shr kd))) (hkk : keyOfD kd = some kk) (hs : e[s]? = some (some (.shr (.int n)))) (G : Gp F T H d L A)
    (hA : A.length < sizeLine) (hAl : ∀ p ∈ A, p.2.length < sizeLine)
    (q : ∀ H' T' L', StOk K F T' H' e σ → (∀ a, T a → T' a) → (∀ a, T' a → T a ∨ H a = none) → (∀ l ∈ L', l ∈ L ∨ H l = none) → Gp F T' H' d L' (grpI A kk n) → (∀ a, a ≠ d → a ∉ L → H a ≠ none → H' a = H a) → (∀ a, H a ≠ none → H' a ≠ none) → Dn.nx σ H') : tApp K i k s Dn σ H := by
  obtain ⟨⟨es, hd, rel⟩, nd, Td, F0d, TL⟩ := G
  obtain ⟨y, hy, ry⟩ := S.shr k kd hk
  obtain ⟨z, hz, rz⟩ := S.shr s _ hs
  have ez : z = .int n := Rp.sc rz
  subst ez
  obtain ⟨rfl, _⟩ := keyOfD_ok ry hkk
  refine ⟨_, hi, d, rfl, .inl ⟨es, .inl hd⟩, _, hy, by show (0 : Nat) ≤ sizeLine; exact Nat.zero_le _, fun p np => ?_⟩
  have nepd : p ≠ d := fun z => by subst z; rw [hd] at np; cases np
  have neL : ∀ l ∈ L, l ≠ p := fun l hl z => by
    obtain ⟨ns, h⟩ := rel.live l hl
    rw [z, np] at h; cases h
  have dL : d ∉ L := fun hl => by
    obtain ⟨ns, h⟩ := rel.live d hl
    rw [hd] at h; cases h
  have hd1 : (upd H p (.lst [])) d = some (.dK es) := by rw [upd_ne (Ne.symm nepd)]; exact hd
  have rel1 : Grel (upd H p (.lst [])) es L A := rel.keep fun l hl => upd_ne (neL l hl)
  refine ⟨es, kk, hd1, rfl, by rw [rel.len]; exact hA, fun v hv => ?_, fun hv => ?_⟩
  · obtain ⟨l, ns, rfl, hl, hH, ⟨pp, hpp, hpe⟩, g⟩ := rel1.found n hv nd
    have hldn : l ≠ d := fun z => dL (z ▸ hl)
    refine ⟨.inl ⟨rfl, _, .inl (.inl hH)⟩, _, hz, l, _, _, rfl, rfl, hH, by rw [List.length_map, ← hpe]; exact hAl pp hpp, ?_⟩
    have S1 : StOk K F T (upd H p (.lst [])) e σ := S.lay (Ext.new np)
    have S2 : StOk K F T (upd (upd H p (.lst [])) l (.lst ((ns ++ [n]).map V.int))) e σ := S1.updT (TL l hl).1 (TL l hl).2
    have e1 : (.lst (List.map V.int ns ++ [V.int n]) : HO) = .lst ((ns ++ [n]).map V.int) := by simp
    rw [e1]
    refine q _ T L S2 (fun _ h => h) (fun _ h => .inl h) (fun _ h => .inl h) ⟨⟨es, by rw [upd_ne (Ne.symm hldn)]; exact hd1, g⟩, nd, Td, F0d, TL⟩ (fun a h1 h2 h3 => ?_) fun a h => upd_live (upd_live h)
    rw [upd_ne (fun z => h2 (by rw [z]; exact hl)), upd_ne (fun z => h3 (by rw [z]; exact np))]
  · rw [putK_new _ hv]
    have hp2 : (upd (upd H p (.lst [])) d (.dK (es ++ [(kk, V.ref p)]))) p = some (.lst []) := by rw [upd_ne nepd, upd_same]
    refine ⟨.inl ⟨rfl, [], .inl (.inl hp2)⟩, _, hz, p, [], _, rfl, rfl, hp2, by decide, ?_⟩
    have S1 : StOk K F (fun a => T a ∨ a = p) (upd H p (.lst [])) e σ := S.new np
    have S2 := S1.updT (p := d) (o := .dK (es ++ [(kk, V.ref p)])) (.inl Td) F0d
    have S3 := S2.updT (p := p) (o := .lst [.int n]) (.inr rfl) (S.fresh0 np)
    have rel3 : Grel (upd (upd (upd H p (.lst [])) d (.dK (es ++ [(kk, V.ref p)]))) p (.lst [.int n])) es L A := rel.keep fun l hl => by
      rw [upd_ne (neL l hl), upd_ne (fun z => dL (by rw [← z]; exact hl)), upd_ne (neL l hl)]
    refine q _ _ (L ++ [p]) S3 (fun a h => .inl h) (fun a h => h.imp id fun z => by rw [z]; exact np) (fun l hl => ?_) ⟨⟨_, ?_, rel3.absent upd_same hv⟩, ?_, .inl Td, F0d, fun l hl => ?_⟩ (fun a h1 h2 h3 => ?_) fun a h => upd_live (upd_live (upd_live h))
    · rcases List.mem_append.mp hl with h | h
      · exact .inl h
      · rw [List.mem_singleton.mp h]; exact .inr np
    · rw [upd_ne (Ne.symm nepd), upd_same]
    · refine List.nodup_append.mpr ⟨nd, by simp, fun a ha b hb => ?_⟩
      rw [List.mem_singleton.mp hb]
      exact neL a ha
    · rcases List.mem_append.mp hl with h | h
      · exact ⟨.inl (TL l h).1, (TL l h).2⟩
      · rw [List.mem_singleton.mp h]; exact ⟨.inr rfl, S.fresh0 np⟩
    · have nap : a ≠ p := fun z => h3 (by rw [z]; exact np)
      rw [upd_ne nap, upd_ne h1, upd_ne nap]
end
end GD

set_option maxHeartbeats 4000000
namespace GD
open PySem PySem.Spec PyProof.Rows L2
def keyAt (e : En) (k : Nat) : Option L2.Key := match slOf e k with
  | some (.shr d) => keyOfD d
  | _ => none
def intAt (e : En) (k : Nat) : Option Int := match slOf e k with
  | some (.shr (.int n)) => some n
  | _ => none
theorem keyAt_ok {e : En} {k : Nat} {kk : L2.Key} (h : keyAt e k = some kk) : ∃ d, e[k]? = some (some (.shr d)) ∧ keyOfD d = some kk := by
  unfold keyAt at h
  cases g : slOf e k with
  | none => simp [g] at h
  | some s =>
    cases s with
    | shr d => simp only [g] at h; exact ⟨d, slOf_eq.mp g, h⟩
    | own p m => simp [g] at h
theorem intAt_ok {e : En} {k : Nat} {n : Int} (h : intAt e k = some n) : e[k]? = some (some (.shr (.int n))) := by
  unfold intAt at h
  cases g : slOf e k with
  | none => simp [g] at h
  | some s =>
    cases s with
    | shr d =>
      cases d with
      | int m => simp only [g, Option.some.injEq] at h; subst h; exact slOf_eq.mp g
      | _ => simp [g] at h
    | own p m => simp [g] at h
def edgesE (ff : D → En → Option En) (s k1 k2 : Nat) : List D → List (L2.Key × List Int) → List (L2.Key × List Int) → En → Option (List (L2.Key × List Int) × List (L2.Key × List Int) × En)
  | [], A, B, e => some (A, B, e)
  | x :: xs, A, B, e => (ff x e).bind fun e1 => (keyAt e1 k1).bind fun k => (keyAt e1 k2).bind fun l => (intAt e1 s).bind fun n => edgesE ff s k1 k2 xs (grpI A k n) (grpI B l n) e1
def sEdges (i j s k1 k2 : Nat) (fw : EvW) (ff : D → En → Option En) : EvS := fun env => if decide (i < env.length ∧ j < env.length) = true then
  (fw ((env.set i none).set j none)).bind fun p => if small p.1.length = true then (edgesE ff s k1 k2 p.1 [] [] p.2).map fun q => (.rt (.val (.tuple [dictI q.1, dictI q.2.1])), q.2.2) else none else none
theorem grel_kr {K : PySem.W.Frag} {O : Addr → Prop} {H : Hp} {es : List (L2.Key × V)} {L : List Addr} {A : List (L2.Key × List Int)} (h : Grel H es L A) : (∀ l ∈ L, ¬ O l) → KR K O H es (A.map fun p => (p.1, .list (p.2.map .int))) := by
  induction h with
  | nil => intro _; exact .nil
  | @cons k l ns es L A e _ ih =>
    intro n
    refine .cons (.lst e (n l (List.mem_cons_self ..)) ?_) (ih fun a ha => n a (List.mem_cons_of_mem _ ha))
    clear e
    induction ns with
    | nil => exact .nil
    | cons x xs ih => exact .cons (.int x) ih
theorem gp_rp {K : PySem.W.Frag} {F : Frm} {T : Addr → Prop} {O : Addr → Prop} {H : Hp} {d : Addr} {L : List Addr} {A : List (L2.Key × List Int)} (g : Gp F T H d L A) (hO : ∀ a, T a → F.H0 a = none → ¬ O a) : Rp K O H (.ref d) (dictI A) := by
  obtain ⟨⟨es, e, r⟩, nd, a1, a2, a3⟩ := g
  have m : MuAt K O H d (.m (A.map fun p => (p.1, .list (p.2.map .int)))) := muat_dict.mpr ⟨es, e, grel_kr r fun l hl => hO l (a3 l hl).1 (a3 l hl).2⟩
  have := m.rp (hO d a1 a2)
  simpa [Mu.toD, dictI, List.map_map, Function.comp_def] using this
section
variable {K : PySem.W.Frag}
theorem is_edges {wi : TI} {fw : EvW} {js : List Nat} {gg : TG} {ff : D → En → Option En} {i j s k1 k2 : Nat} (hw : IW K wi fw) (hg : IG K js gg ff) (hij : i ≠ j) (hi : i ∉ js) (hj : j ∉ js) :
    IS K (tSeq (tPar i j (tCons tDNewK (tCons tDNewK tNil))) (tSeq (tFor wi gg (tSeq (tApp K i k1 s) (tApp K j k2 s))) (tRet (tTup (tCons (tVar i) (tCons (tVar j) tNil)))))) (sEdges i j s k1 k2 fw ff) := by
  intro F env σ H fl env' S e Dn k
  unfold sEdges at e
  split at e
  rotate_left
  · cases e
  rename_i hlen
  obtain ⟨hli, hlj⟩ := of_decide_eq_true hlen
  simp only [Option.bind_eq_some_iff] at e
  obtain ⟨⟨items, e1⟩, a1, e⟩ := e
  split at e
  rotate_left
  · cases e
  rename_i hsm
  simp only [Option.map_eq_some_iff] at e
  obtain ⟨⟨A0, B0, e9⟩, a2, a3⟩ := e
  obtain ⟨rfl, hee⟩ : fl = .rt (.val (.tuple [dictI A0, dictI B0])) ∧ e9 = env' := by cases a3; exact ⟨rfl, rfl⟩
  subst hee
  clear a3
  have hsz := small_le hsm
  intro d1 n1 d2 n2
  have n21 : d2 ≠ d1 := fun z => by subst z; rw [upd_same] at n2; cases n2
  have n2' : H d2 = none := by rw [upd_ne n21] at n2; exact n2
  have hsl := S.len
  have g1 : ((σ.set i (some (V.ref d1))).set j (some (V.ref d2)))[i]? = some (some (V.ref d1)) := by
    rw [List.getElem?_set_ne (Ne.symm hij), List.getElem?_set_self (by omega)]
  have g2 : ((σ.set i (some (V.ref d1))).set j (some (V.ref d2)))[j]? = some (some (V.ref d2)) := by
    rw [List.getElem?_set_self (by rw [List.length_set]; omega)]
  refine ⟨_, _, rfl, ?_⟩
  generalize hσ2 : (σ.set i (some (V.ref d1))).set j (some (V.ref d2)) = σ2 at g1 g2 ⊢
  have S1 := (S.new n1 (o := .dK [])).new n2 (o := .dK [])
  have hre : ∀ (m : Nat) (s : Sl), ((env.set i none).set j none)[m]? = some (some s) → env[m]? = some (some s) ∧ σ2[m]? = σ[m]? := fun m s h => by
    rcases set_get h with ⟨_, z⟩ | ⟨hm, h⟩
    · cases z
    · rcases set_get h with ⟨_, z⟩ | ⟨hm2, h⟩
      · cases z
      · refine ⟨h, ?_⟩
        rw [← hσ2, List.getElem?_set_ne hm, List.getElem?_set_ne hm2]
  have S2 : StOk K F (fun a => (T0 a ∨ a = d1) ∨ a = d2) (upd (upd H d1 (.dK [])) d2 (.dK [])) ((env.set i none).set j none) σ2 := S1.re (by rw [← hσ2]; simp only [List.length_set]; exact hsl) hre
  refine hw F _ _ σ2 _ items e1 S2 a1 _ fun J H3 S3 s3 jo => ?_
  have f1 : F.H0 d1 = none := S.fresh0 n1
  have f2 : F.H0 d2 = none := S.fresh0 n2'
  have b1 : H3 d1 = some (.dK []) := s3.ext.same d1 _ (by rw [upd_ne (Ne.symm n21), upd_same]) (S2.tno d1 (.inl (.inr rfl)))
  have b2 : H3 d2 = some (.dK []) := s3.ext.same d2 _ upd_same (S2.tno d2 (.inr rfl))
  clear hσ2 hre S1 S2 s3 a1
  generalize hT : (fun a => (T0 a ∨ a = d1) ∨ a = d2) = T at S3 jo
  have td1 : T d1 := by rw [← hT]; exact .inl (.inr rfl)
  have td2 : T d2 := by rw [← hT]; exact .inr rfl
  clear hT
  refine ⟨fun ix m σ' H' => ∃ e' T' La Lb A B, StOk K F T' H' e' σ' ∧ σ'[i]? = some (some (V.ref d1)) ∧ σ'[j]? = some (some (V.ref d2)) ∧ Gp F T' H' d1 La A ∧ Gp F T' H' d2 Lb B ∧ (∀ l ∈ La, l ∉ Lb) ∧
      (∀ a, a ≠ d1 → a ≠ d2 → H3 a ≠ none → ¬ Wr e1 σ2 a → H' a = H3 a) ∧ (∀ a, Wr e' σ' a → Wr e1 σ2 a ∨ H3 a = none) ∧ (∀ a, T' a → T a ∨ H3 a = none) ∧ (∀ l, l ∈ La ∨ l ∈ Lb → H3 l = none) ∧ (∀ a, H3 a ≠ none → H' a ≠ none) ∧
      A.length ≤ ix ∧ B.length ≤ ix ∧ (∀ p ∈ A, p.2.length ≤ ix) ∧ (∀ p ∈ B, p.2.length ≤ ix) ∧ m = items.length - ix ∧ ix ≤ items.length ∧ edgesE ff s k1 k2 (items.drop ix) A B e' = some (A0, B0, e9), ?_, ?_⟩
  · refine ⟨_, e1, T, [], [], [], [], S3, g1, g2, ⟨⟨[], b1, .nil⟩, List.nodup_nil, td1, f1, fun l hl => by simp at hl⟩, ⟨⟨[], b2, .nil⟩, List.nodup_nil, td2, f2, fun l hl => by simp at hl⟩, fun l hl => by simp at hl,
      fun _ _ _ _ _ => rfl, fun _ h => .inl h, fun _ h => .inl h, fun l hl => by simp at hl, fun _ h => h, Nat.le_refl _, Nat.le_refl _, fun l hl => by simp at hl, fun l hl => by simp at hl, rfl, Nat.zero_le _, by simpa using a2⟩
  rintro ix m σ' H' ⟨e', T', La, Lb, A, B, S', h1, h2, G1, G2, dis, keep, wr', tt', Ln, lv, lA, lB, lA2, lB2, rfl, hix, he⟩
  have hlive : ∀ a, T' a → H' a ≠ none := fun a h => S'.tdm a h
  obtain ⟨j1, j2⟩ := jo (Ow F T' e' σ') H' (fun a o q n z => by
      rcases z with z | z | z
      · exact n (.inl z)
      · rcases tt' a z with z | z
        · exact n (.inr (.inl z))
        · rw [q] at z; cases z
      · rcases wr' a z with z | z
        · exact n (.inr (.inr z))
        · rw [q] at z; cases z) (fun a o n q => by
      rw [keep a (fun z => n (by subst z; exact .inr (.inl td1))) (fun z => n (by subst z; exact .inr (.inl td2))) (by rw [q]; simp) (fun z => n (.inr (.inr z)))]
      exact q) (fun a h => S'.olive h)
  by_cases hlt : ix < items.length
  · have gi : items[ix]? = some items[ix] := List.getElem?_eq_getElem hlt
    obtain ⟨go, yl⟩ := j1 ix _ gi
    rw [List.drop_eq_getElem_cons hlt] at he
    simp only [edgesE, Option.bind_eq_some_iff] at he
    obtain ⟨e2, c1, kk, c2, ll, c3, n, c4, c5⟩ := he
    refine .inr ⟨go, fun σ' H' => ∃ e' T' La Lb A B, StOk K F T' H' e' σ' ∧ σ'[i]? = some (some (V.ref d1)) ∧ σ'[j]? = some (some (V.ref d2)) ∧ Gp F T' H' d1 La A ∧ Gp F T' H' d2 Lb B ∧ (∀ l ∈ La, l ∉ Lb) ∧
      (∀ a, a ≠ d1 → a ≠ d2 → H3 a ≠ none → ¬ Wr e1 σ2 a → H' a = H3 a) ∧ (∀ a, Wr e' σ' a → Wr e1 σ2 a ∨ H3 a = none) ∧ (∀ a, T' a → T a ∨ H3 a = none) ∧ (∀ l, l ∈ La ∨ l ∈ Lb → H3 l = none) ∧ (∀ a, H3 a ≠ none → H' a ≠ none) ∧
      A.length ≤ ix + 1 ∧ B.length ≤ ix + 1 ∧ (∀ p ∈ A, p.2.length ≤ ix + 1) ∧ (∀ p ∈ B, p.2.length ≤ ix + 1) ∧ ix + 1 ≤ items.length ∧ edgesE ff s k1 k2 (items.drop (ix + 1)) A B e' = some (A0, B0, e9), ?_, ?_⟩
    · rintro σ5 H5 ⟨e', T', La, Lb, A, B, q1, q2, q3, q4, q5, q6, q7, q8, q9, q10, q10b, q11, q12, q13, q14, q15, q16⟩
      exact ⟨items.length - (ix + 1), by omega, e', T', La, Lb, A, B, q1, q2, q3, q4, q5, q6, q7, q8, q9, q10, q10b, q11, q12, q13, q14, rfl, q15, q16⟩
    intro x H4 hy
    obtain ⟨x2, rx⟩ := yl x H4 hy
    have S4 := S'.lay x2
    have sm4 : ∀ a, H' a ≠ none → H4 a = H' a := fun a h => by
      cases q : H' a with
      | none => exact absurd q h
      | some o => exact x2.same a o q id
    refine hg F T' e' σ' H4 x _ e2 S4 rx c1 _ fun σ5 S5 q5 l5 k5 n5 => ?_
    have h15 : σ5[i]? = some (some (V.ref d1)) := (k5 i hi).trans h1
    have h25 : σ5[j]? = some (some (V.ref d2)) := (k5 j hj).trans h2
    have lv1 : ∀ a, a = d1 ∨ a ∈ La → H' a ≠ none := fun a h => by
      rcases h with rfl | h
      · exact hlive _ G1.apart.1
      · exact hlive _ (G1.apart.2.2 a h).1
    have lv2 : ∀ a, a = d2 ∨ a ∈ Lb → H' a ≠ none := fun a h => by
      rcases h with rfl | h
      · exact hlive _ G2.apart.1
      · exact hlive _ (G2.apart.2.2 a h).1
    have G14 : Gp F T' H4 d1 La A := G1.keep (fun a h => sm4 a (lv1 a h)) fun _ h => h
    have G24 : Gp F T' H4 d2 Lb B := G2.keep (fun a h => sm4 a (lv2 a h)) fun _ h => h
    obtain ⟨kd, m1, m2⟩ := keyAt_ok c2
    obtain ⟨ld, m3, m4⟩ := keyAt_ok c3
    have m5 := intAt_ok c4
    have isd : ∀ {G : Hp} {T' : Addr → Prop} {La : List Addr} {A : List (L2.Key × List Int)} {d : Addr}, Gp F T' G d1 La A → ∀ {es}, G d = some (.dK es) → d ∉ La := by
      intro G T' La A d g es h hl
      obtain ⟨⟨es', e, r⟩, _⟩ := g
      obtain ⟨ns, q⟩ := r.live _ hl
      rw [h] at q; cases q
    have isd2 : ∀ {G : Hp} {T' : Addr → Prop} {La : List Addr} {A : List (L2.Key × List Int)} {d : Addr}, Gp F T' G d2 La A → ∀ {es}, G d = some (.dK es) → d ∉ La := by
      intro G T' La A d g es h hl
      obtain ⟨⟨es', e, r⟩, _⟩ := g
      obtain ⟨ns, q⟩ := r.live _ hl
      rw [h] at q; cases q
    show tApp K i k1 s _ σ5 H4
    refine app_step S5 h15 m1 m2 m5 G14 (Nat.lt_of_le_of_lt lA (Nat.lt_of_lt_of_le hlt hsz)) (fun p hp => Nat.lt_of_le_of_lt (lA2 p hp) (Nat.lt_of_lt_of_le hlt hsz)) fun H6 T6 La' S6 t6 t6' l6 G16 k6 v6 => ?_
    have d2L1 : d2 ∉ La := by
      obtain ⟨⟨es', e, r⟩, _⟩ := G24
      exact isd G14 e
    have lv24 : ∀ a, a = d2 ∨ a ∈ Lb → H4 a ≠ none := fun a h => by rw [sm4 a (lv2 a h)]; exact lv2 a h
    have G26 : Gp F T6 H6 d2 Lb B := G24.keep (fun a h => k6 a (by
        rcases h with rfl | h
        · exact n21
        · intro z
          subst z
          obtain ⟨⟨es', e, r⟩, _⟩ := G14
          exact isd2 G24 e h) (by
        rcases h with rfl | h
        · exact d2L1
        · exact fun z => dis a z h) (lv24 a h)) t6
    refine app_step (i := j) (k := k2) (s := s) S6 h25 m3 m4 m5 G26 (Nat.lt_of_le_of_lt lB (Nat.lt_of_lt_of_le hlt hsz)) (fun p hp => Nat.lt_of_le_of_lt (lB2 p hp) (Nat.lt_of_lt_of_le hlt hsz)) fun H7 T7 Lb' S7 t7 t7' l7 G27 k7 v7 => ?_
    have lv16 : ∀ a, a = d1 ∨ a ∈ La' → H6 a ≠ none := fun a h => by
      rcases h with rfl | h
      · exact S6.tdm _ G16.apart.1
      · exact S6.tdm _ (G16.apart.2.2 a h).1
    have dis1 : ∀ l ∈ La', l ∉ Lb := fun l hl hl2 => by
      rcases l6 l hl with z | z
      · exact dis l z hl2
      · exact lv24 l (.inr hl2) z
    have G17 : Gp F T7 H7 d1 La' (grpI A kk n) := G16.keep (fun a h => k7 a (by
        rcases h with rfl | h
        · exact Ne.symm n21
        · intro z
          subst z
          obtain ⟨⟨es', e, r⟩, _⟩ := G26
          exact isd G16 e h) (by
        rcases h with rfl | h
        · obtain ⟨⟨es', e, r⟩, _⟩ := G16
          exact isd2 G26 e
        · exact dis1 a h) (lv16 a h)) t7
    have nn : ∀ {G G' : Hp} {a : Addr}, (G a ≠ none → G' a ≠ none) → G' a = none → G a = none := fun {G G' a} f h => by
      cases q : G a with
      | none => rfl
      | some o => exact absurd h (f (by rw [q]; simp))
    have dead : ∀ a, H4 a = none → H3 a = none := fun a h => nn (lv a) (nn (x2.live a) h)
    have dead6 : ∀ a, H6 a = none → H3 a = none := fun a h => dead a (nn (v6 a) h)
    refine ⟨e2, T7, La', Lb', _, _, S7, h15, h25, G17, G27, fun l hl hl2 => ?_, fun a z1 z2 z3 z4 => ?_, fun a h => ?_, fun a h => ?_, fun l h => ?_, fun a h => v7 a (v6 a (x2.live a (lv a h))),
      Nat.le_trans (grpI_len _ _ _) (Nat.succ_le_succ lA), Nat.le_trans (grpI_len _ _ _) (Nat.succ_le_succ lB), grpI_lens _ _ _ lA2, grpI_lens _ _ _ lB2, hlt, c5⟩
    · rcases l7 l hl2 with z | z
      · exact dis1 l hl z
      · exact lv16 l (.inr hl) z
    · have a1 := keep a z1 z2 z3 z4
      have y1 : H' a ≠ none := by rw [a1]; exact z3
      have a2 := sm4 a y1
      have y2 : H4 a ≠ none := by rw [a2]; exact y1
      have a3 := k6 a z1 (fun z => z3 (Ln a (.inl z))) y2
      have y3 : H6 a ≠ none := by rw [a3]; exact y2
      have a4 := k7 a z2 (fun z => z3 (Ln a (.inr z))) y3
      rw [a4, a3, a2, a1]
    · rcases q5.wr a h with z | z
      · exact wr' a z
      · exact .inr (dead a z)
    · rcases t7' a h with z | z
      · rcases t6' a z with z | z
        · exact tt' a z
        · exact .inr (dead a z)
      · exact .inr (dead6 a z)
    · rcases h with h | h
      · rcases l6 l h with z | z
        · exact Ln l (.inl z)
        · exact dead l z
      · rcases l7 l h with z | z
        · exact Ln l (.inr z)
        · exact dead6 l z
  · have ei : ix = items.length := by omega
    subst ei
    rw [List.drop_length] at he
    obtain ⟨rfl, rfl, rfl⟩ : A = A0 ∧ B = B0 ∧ e' = e9 := by cases he; exact ⟨rfl, rfl, rfl⟩
    refine .inl ⟨j2 _ (Nat.le_refl _), _, h1, _, h2, by show 2 ≤ sizeLine; decide, fun p np => ?_⟩
    have hO : ∀ a, T' a → F.H0 a = none → ¬ Ow F T0 e' σ' a := fun a ta f z => by
      rcases z with z | z | z
      · exact S'.dom a z f
      · exact z
      · exact S'.tno a ta z
    have S8 : StOk K F T0 (upd H' p (.tup [V.ref d1, V.ref d2])) e' σ' := (S'.anti (T' := T0) fun _ h => h.elim).lay (Ext.new np)
    have up : ∀ a, H' a ≠ none → (upd H' p (.tup [V.ref d1, V.ref d2])) a = H' a := fun a h => upd_ne fun z => h (by rw [z]; exact np)
    have lvT : ∀ a, T' a → H' a ≠ none := fun a h => S'.tdm a h
    have G18 : Gp F T' (upd H' p (.tup [V.ref d1, V.ref d2])) d1 La A := G1.keep (fun a h => up a (by
      rcases h with rfl | h
      · exact lvT _ G1.apart.1
      · exact lvT _ (G1.apart.2.2 a h).1)) fun _ h => h
    have G28 : Gp F T' (upd H' p (.tup [V.ref d1, V.ref d2])) d2 Lb B := G2.keep (fun a h => up a (by
      rcases h with rfl | h
      · exact lvT _ G2.apart.1
      · exact lvT _ (G2.apart.2.2 a h).1)) fun _ h => h
    exact k _ σ' _ ⟨S8, .tup (TpA.of (.inl ⟨.inl upd_same, (S'.anti (T' := T0) fun _ h => h.elim).fresh np⟩) rfl) (.cons (gp_rp G18 hO) (.cons (gp_rp G28 hO) .nil))⟩
end
end GD

set_option maxHeartbeats 4000000
namespace GD
open PySem PySem.Spec PyProof.Rows L2
section
variable {X : Cx}
theorem ps_setDc {i : Nat} {y : Str} {py : Pos} {kx vx tg iter : Expr} {ifs : List Expr} {scope : Scope} {own : List (Str × Nat)} {pos spos : Pos} {wi : TI} {g : TG} {tt : TT} {tk tv : TE} (hc : X.calm = true) (hN : X.N.Nodup) (hy : X.N[i]? = some y) (hyl : X.env.scope.names.lookup y = some .local)
    (hsw : swapsWith (.DictComp kx vx [⟨tg, iter, ifs, 0⟩] scope pos) (some (.Name y py)) spos.line X.env = pure true) (hi : PI X tg iter wi) (ok : BlkOk X.N X.env.scope scope own)
    (hg : ∀ (s : Shared) (H : Hp) (C : Addr) (cl : List (Str × Addr)) (fp : List Addr), PG (X.blk s H scope (compEnvC scope cl C X.env) fp) tg g) (ht : ∀ (s : Shared) (H : Hp) (C : Addr) (cl : List (Str × Addr)) (fp : List Addr), PTs (X.blk s H scope (compEnvC scope cl C X.env) fp) ifs tt)
    (hk : ∀ (s : Shared) (H : Hp) (C : Addr) (cl : List (Str × Addr)) (fp : List Addr), PE (X.blk s H scope (compEnvC scope cl C X.env) fp) kx tk)
    (he : ∀ (s : Shared) (H : Hp) (C : Addr) (cl : List (Str × Addr)) (fp : List Addr), PE (X.blk s H scope (compEnvC scope cl C X.env) fp) vx tv) (hs : ∀ x, foldedSetIterable iter X.env x = pure x := by intro _; rfl) :
    PS X (.Assign [.Name y py] (.DictComp kx vx [⟨tg, iter, ifs, 0⟩] scope pos) spos) (tAsg (tDc wi g tt tk tv (own.map (·.2))) (gName i)) := by
  refine ⟨fun pins s σ H D I h => ?_⟩
  rw [exec_Assign_Name_used _ _ _ _ hsw]
  refine wpAny_bind (wpAny_standAt (wpAny_bind ?_))
  show wpAny _ X.A (do let _ ← comprehension (.DictComp kx vx [⟨tg, iter, ifs, 0⟩] scope pos) scope X.env (firstIterPos [⟨tg, iter, ifs, 0⟩] pos) newDict false (eval iter X.env) (some (assign (.Name y py) X.env))) _ _ s
  have h : tDc wi g tt tk tv (own.map (·.2)) σ H (fun x H1 => gName i x σ H1 D.nx) := h
  refine wpAny_bind (thn (dc_core (Qf := fun _ s' => SP X pins D .next s') hc hN I hi ok hg ht hk he hs h fun L C s' m H' I' q hn f => ?_) fun _ s' hq => wpAny_pure (wpAny_pure hq))
  show wpAny _ _ (assign (.Name y py) X.env (.ref L)) _ _ _
  refine wpAny_assign_Name (store_ok2 (v := V.ref L) I' hN hy (.inl hyl) rfl (fun s2 I2 ⟨a, sb, ha⟩ => ?_) (.inr hyl))
  obtain ⟨f0, f1, f2, f3, f4, f5⟩ := f
  have haC : C ≠ a := by
    rcases ha with z | z
    · rw [z]; exact f1
    · exact fun e => f4 y a z e.symm
  refine ⟨m, hn.sameBut sb haC, fun h3 sb3 => ?_⟩
  exact ⟨_, H', I2.turned (t' := s2.toks) (fun b o hb e => (sb3.2 b hb).trans e) f0 f1 f3 f4 f5, q⟩
theorem sw_trueD {kx vx : Expr} {gs : List Comprehension} {scope : Scope} {pos py : Pos} {y : Str} {l : Nat} {env : Env} (hk : env.scope.kind = .function) (hy : env.scope.names.lookup y = some .local) (hl : (py.line == pos.line) = true)
    (ha : (scope.names.any fun (n, k) => n == y && (k == .local || k == .cell)) = false) : swapsWith (.DictComp kx vx gs scope pos) (some (.Name y py)) l env = pure true := by
  have ky : env.kindOf y = some .local := hy
  have hb : env.blockKind = .function := by unfold Env.blockKind; rw [hk]; rfl
  unfold swapsWith
  simp only [hb, ky, ha, Expr.pos, hl]
  rfl
def rUpdD : V → List V → Hp → VK → Prop := fun x vs H Q => ∃ (a b : Addr) (es ls : List (L2.Key × V)), x = .ref a ∧ vs = [.ref b] ∧ a ≠ b ∧ H a = some (.dK es) ∧ Rd H b (.dK ls) ∧ es.length + ls.length ≤ sizeLine ∧ Q .non (upd H a (.dK (mergeK es ls)))
theorem mt_updD : MtM X "dict.update" rUpdD := by
  intro pins s σ H x vs v us Q I rx rv h
  obtain ⟨a, b, es, ls, rfl, rfl, hab, ha, hb, hz, q⟩ := h
  cases rx
  obtain ⟨u, rfl, ru⟩ := rv.one
  cases ru
  obtain ⟨za, lo, vs, rel, dd⟩ := dk_of I.hok ha
  obtain ⟨zb, lo2, vs2, rel2, dd2⟩ := dk_rd I.hok hb
  have l1 : es.length = vs.length := Paired.length rel
  have l2 : ls.length = vs2.length := Paired.length rel2
  refine call_meetsIn PySem.F.slot_dict_update dd.typeIs PySem.F.entry_dict_update (PySem.F.args_dict_update_2 _ _) (meets_dict_update (mixKind X.prog X.w) a b hab lo2) ⟨vs, vs2, dd, dd2, by rw [← l1, ← l2]; exact hz, fun h' dd' _ hs => ?_⟩
  have hz2 : (mergeK es ls).length ≤ sizeLine := Nat.le_trans (length_mergeK ls es) hz
  have he : ∃ q, h'.get? a = some q := let ⟨q, _, _, hq, _⟩ := dd'; ⟨q, hq⟩
  exact ⟨.non, _, d_write (t' := s.toks) I (by rw [ha]; exact True.intro) hs he (dk_new hz2 lo (rel2.merge rel) dd'), rfl, q⟩
end
def mergeD (kvs more : List (L2.Key × D)) : List (L2.Key × D) := more.foldl (fun acc kv => putD acc kv.1 kv.2) kvs
section
variable {K : PySem.W.Frag} {O : Addr → Prop} {H : Hp}
theorem KR.merge : ∀ {ls : List (L2.Key × V)} {more : List (L2.Key × D)} {es : List (L2.Key × V)} {kvs : List (L2.Key × D)}, KR K O H ls more → KR K O H es kvs → KR K O H (mergeK es ls) (mergeD kvs more)
  | [], more, es, kvs, h, h' => by
    rcases h.inv with ⟨_, rfl⟩ | ⟨_, _, _, _, _, h, _⟩
    · exact h'
    · cases h
  | p :: ls, more, es, kvs, h, h' => by
    rcases h.inv with ⟨h, _⟩ | ⟨k', w, e, es', kvs', h1, rfl, r', t⟩
    · cases h
    · cases h1
      have z := KR.merge t (h'.put (k := k') r')
      exact z
def gUpdD : Mu → List D → Option (Mu × D)
  | .m kvs, [d] => (dictOf d).bind fun ls => if small (kvs.length + ls.length) = true then some (.m (mergeD kvs ls), .none) else none
  | _, _ => none
theorem md_updD : MtD K "dict" rUpdD gUpdD := by
  intro O H a m vs ds m' z hO mu rs hz Q q
  match m, ds, mu, rs, hz with
  | .m kvs, [d], mu, rs, hz =>
    simp only [gUpdD, Option.bind_eq_some_iff] at hz
    obtain ⟨ls, h1, h2⟩ := hz
    split at h2
    · rename_i hs
      cases h2
      obtain ⟨es, hes, kr⟩ := muat_dict.mp mu
      cases rs with
      | cons r rt =>
        cases rt
        obtain ⟨b, es2, rfl, rd, kr2⟩ := lv_dict r.lv h1
        have nb : ¬ O b := by
          cases r with
          | dic h n _ => exact n
          | exc _ h n _ _ _ => exact n
          | ob _ => cases h1
          | lst h n _ => exact n
          | tup h _ => cases h1
        have hab : a ≠ b := fun e => nb (by rw [← e]; exact hO)
        refine ⟨a, b, es, es2, rfl, rfl, hab, hes, rd, by rw [kr.length, kr2.length]; exact small_le hs, ?_⟩
        refine q _ _ (muat_dict.mpr ⟨_, upd_same, (KR.merge kr2 kr).tr (fun _ _ _ n => n) fun b u n e => by rw [upd_ne (fun z => n (by rw [z]; exact hO))]; exact e⟩) .non
    · cases h2
end
end GD

set_option maxHeartbeats 4000000
namespace GD
open PySem
namespace Lay
def stp (m i : Nat) : Nat := (i * 5 + 1) % (m + 1)
def itN (m : Nat) : Nat → Nat → Nat
  | 0, i => i
  | n + 1, i => itN m n (stp m i)
theorem itN_add (m : Nat) : ∀ (a b i : Nat), itN m (a + b) i = itN m b (itN m a i)
  | 0, b, i => by rw [Nat.zero_add]; rfl
  | a + 1, b, i => by
    rw [Nat.succ_add]
    exact itN_add m a b (stp m i)
def orb (m : Nat) : Nat → Nat → List Nat
  | 0, _ => []
  | n + 1, i => i :: orb m n (stp m i)
theorem mem_orb (m : Nat) : ∀ (n i j : Nat), j ∈ orb m n i → ∃ a, a < n ∧ itN m a i = j
  | 0, i, j, h => by simp [orb] at h
  | n + 1, i, j, h => by
    rcases List.mem_cons.mp h with rfl | h
    · exact ⟨0, Nat.succ_pos _, rfl⟩
    · obtain ⟨a, h1, h2⟩ := mem_orb m n (stp m i) j h
      exact ⟨a + 1, Nat.succ_lt_succ h1, h2⟩
def okM (m : Nat) : Bool := (List.range (m + 1)).all (fun j => (orb m (m + 1) 0).contains j) && (itN m (m + 1) 0 == 0)
theorem reach {m : Nat} (h : okM m = true) {i j : Nat} (hi : i ≤ m) (hj : j ≤ m) : ∃ n, n ≤ m ∧ itN m n i = j := by
  simp only [okM, Bool.and_eq_true, List.all_eq_true, beq_iff_eq] at h
  obtain ⟨h1, h2⟩ := h
  have f : ∀ x, x ≤ m → ∃ a, a < m + 1 ∧ itN m a 0 = x := fun x hx => mem_orb m _ _ _ (by simpa using h1 x (List.mem_range.mpr (Nat.lt_succ_of_le hx)))
  obtain ⟨a, ha, ea⟩ := f i hi
  obtain ⟨b, hb, eb⟩ := f j hj
  by_cases c : a ≤ b
  · refine ⟨b - a, by omega, ?_⟩
    rw [← ea, ← itN_add, Nat.add_sub_cancel' c, eb]
  · refine ⟨m + 1 - a + b, by omega, ?_⟩
    rw [← ea, ← itN_add, show a + (m + 1 - a + b) = (m + 1) + b by omega, itN_add, h2, eb]
def prb (m : Nat) : Nat → Nat × Nat → Nat × Nat
  | 0, p => p
  | n + 1, p => prb m n ((p.1 * 5 + 1 + p.2 / 32) % (m + 1), p.2 / 32)
theorem prb_add (m : Nat) : ∀ (a b : Nat) (p : Nat × Nat), prb m (a + b) p = prb m b (prb m a p)
  | 0, b, p => by rw [Nat.zero_add]; rfl
  | a + 1, b, p => by
    rw [Nat.succ_add]
    exact prb_add m a b _
theorem prb_zero (m : Nat) : ∀ (n i : Nat), prb m n (i, 0) = (itN m n i, 0)
  | 0, i => rfl
  | n + 1, i => by
    show prb m n ((i * 5 + 1 + 0 / 32) % (m + 1), 0 / 32) = _
    rw [Nat.zero_div, Nat.add_zero]
    exact prb_zero m n _
theorem prb_left (m : Nat) : ∀ (n i p : Nat), p < 32 ^ n → (prb m n (i, p)).2 = 0
  | 0, i, p, h => by simp at h; subst h; rfl
  | n + 1, i, p, h => by
    show (prb m n (_, p / 32)).2 = 0
    exact prb_left m n _ _ (by rw [Nat.div_lt_iff_lt_mul (by decide)]; rw [Nat.pow_succ] at h; exact h)
theorem prb_le {m : Nat} : ∀ (n i p : Nat), i ≤ m → (prb m n (i, p)).1 ≤ m
  | 0, i, p, h => h
  | n + 1, i, p, h => prb_le n _ _ (Nat.le_of_lt_succ (Nat.mod_lt _ (Nat.succ_pos m)))
theorem meets {m : Nat} (h : okM m = true) {i p j : Nat} (hi : i ≤ m) (hp : p < 2 ^ 64) (hj : j ≤ m) : ∃ n, n < m + 15 ∧ (prb m n (i, p)).1 = j := by
  have h13 : (prb m 13 (i, p)).2 = 0 := prb_left m 13 i p (Nat.lt_trans hp (by decide))
  have hi13 := prb_le 13 i p hi
  obtain ⟨n, hn, e⟩ := reach h hi13 hj
  refine ⟨13 + n, by omega, ?_⟩
  rw [prb_add, show prb m 13 (i, p) = ((prb m 13 (i, p)).1, 0) from Prod.ext rfl h13, prb_zero]
  exact e
theorem find_range {n : Nat} {f : Nat → Bool} (hn : 0 < n) (h : (List.range n).find? f = none) : f 0 = false := by
  have := List.find?_eq_none.mp h 0 (List.mem_range.mpr hn)
  simpa using this
theorem runEnd_ge (m i : Nat) : i ≤ SetTable.runEnd m i := by
  unfold SetTable.runEnd
  split <;> omega
theorem free_none {m : Nat} {owner : Array (Option Nat)} : ∀ (f i p : Nat), SetTable.layClean.free m owner f i p = none → ∀ n, n < f → (owner.getD (prb m n (i, p)).1 (some 0)).isNone = false
  | 0, i, p, _, n, hn => absurd hn (Nat.not_lt_zero n)
  | f + 1, i, p, h, n, hn => by
    unfold SetTable.layClean.free at h
    split at h
    · cases h
    · rename_i hf
      cases n with
      | zero => exact find_range (by have := runEnd_ge m i; omega) hf
      | succ n => exact free_none f _ _ h n (Nat.lt_of_succ_lt_succ hn)
theorem free_some {m : Nat} {owner : Array (Option Nat)} : ∀ (f i p j : Nat), SetTable.layClean.free m owner f i p = some j → (owner.getD j (some 0)).isNone = true
  | 0, i, p, j, h => by cases h
  | f + 1, i, p, j, h => by
    unfold SetTable.layClean.free at h
    split at h
    · rename_i k hf
      cases h
      have := List.find?_some hf
      simpa using this
    · exact free_some f _ _ j h
theorem set_perm : ∀ (l : List (Option Nat)) (j k : Nat), l[j]? = some none → ((l.set j (some k)).filterMap id).Perm (k :: l.filterMap id)
  | [], j, k, h => by simp at h
  | x :: l, 0, k, h => by
    simp only [List.getElem?_cons_zero, Option.some.injEq] at h
    subst h
    exact List.Perm.refl _
  | x :: l, j + 1, k, h => by
    have ih := set_perm l j k (by simpa using h)
    rw [List.set_cons_succ]
    cases x with
    | none => exact ih
    | some v => exact (ih.cons v).trans (List.Perm.swap k v _)
theorem filterMap_full : ∀ (l : List (Option Nat)), (∀ x ∈ l, x ≠ none) → (l.filterMap id).length = l.length
  | [], _ => rfl
  | x :: l, h => by
    cases x with
    | none => exact absurd rfl (h none (List.mem_cons_self ..))
    | some v =>
      show ((l.filterMap id).length + 1) = l.length + 1
      rw [filterMap_full l fun y hy => h y (List.mem_cons_of_mem _ hy)]
def stF (mask : Nat) (acc : Option (Array (Option Nat) × Nat)) (h : Int) : Option (Array (Option Nat) × Nat) := do
  let (owner, k) ← acc
  let j ← SetTable.layClean.free mask owner (SetTable.turns mask) (SetTable.bits h % (mask + 1)) (SetTable.bits h)
  pure (owner.setIfInBounds j (some k), k + 1)
theorem bits_lt (h : Int) : SetTable.bits h < 2 ^ 64 := by
  unfold SetTable.bits
  have := Int.emod_lt_of_pos h (show (0 : Int) < 2 ^ 64 by decide)
  have := Int.emod_nonneg h (show (2 ^ 64 : Int) ≠ 0 by decide)
  omega
theorem fold_fill {m : Nat} (hm : okM m = true) : ∀ (rest : List Int) (k : Nat) (owner : Array (Option Nat)), owner.size = m + 1 → (owner.toList.filterMap id).Perm (List.range k) → k + rest.length ≤ m →
    ∃ owner', rest.foldl (stF m) (some (owner, k)) = some (owner', k + rest.length) ∧ owner'.size = m + 1 ∧ (owner'.toList.filterMap id).Perm (List.range (k + rest.length))
  | [], k, owner, hs, hp, _ => ⟨owner, rfl, hs, hp⟩
  | h :: rest, k, owner, hs, hp, hl => by
    rw [List.length_cons] at hl
    -- some slot is free
    obtain ⟨j, hj, ej⟩ : ∃ j, j ≤ m ∧ owner.toList[j]? = some none := by
      apply Classical.byContradiction
      intro hn
      have full : ∀ x ∈ owner.toList, x ≠ none := fun x hx e => by
        subst e
        obtain ⟨j, hj, ej⟩ := List.getElem_of_mem hx
        exact hn ⟨j, by rw [Array.length_toList, hs] at hj; omega, by rw [List.getElem?_eq_getElem hj, ej]⟩
      have := filterMap_full _ full
      rw [hp.length_eq, List.length_range, Array.length_toList, hs] at this
      omega
    have hg : ∀ i, owner.getD i (some 0) = (owner.toList[i]?).getD (some 0) := fun i => by rw [Array.getD_eq_getD_getElem?, ← Array.getElem?_toList]
    obtain ⟨n, hn, en⟩ := meets hm (i := SetTable.bits h % (m + 1)) (p := SetTable.bits h) (j := j) (Nat.le_of_lt_succ (Nat.mod_lt _ (Nat.succ_pos m))) (bits_lt h) hj
    cases hf : SetTable.layClean.free m owner (SetTable.turns m) (SetTable.bits h % (m + 1)) (SetTable.bits h) with
    | none =>
      have := free_none _ _ _ hf n hn
      rw [en, hg, ej] at this
      cases this
    | some j' =>
      have q := free_some _ _ _ _ hf
      rw [hg] at q
      have ej' : owner.toList[j']? = some none := by
        cases e : owner.toList[j']? with
        | none => rw [e] at q; cases q
        | some x =>
          cases x with
          | none => rfl
          | some v => rw [e] at q; cases q
      have hstep : stF m (some (owner, k)) h = some (owner.setIfInBounds j' (some k), k + 1) := by
        show (SetTable.layClean.free m owner (SetTable.turns m) (SetTable.bits h % (m + 1)) (SetTable.bits h)).bind _ = _
        rw [hf]; rfl
      have hp2 : ((owner.setIfInBounds j' (some k)).toList.filterMap id).Perm (List.range (k + 1)) := by
        rw [Array.toList_setIfInBounds]
        refine (set_perm _ _ _ ej').trans ?_
        rw [List.range_succ]
        exact (hp.cons k).trans (List.perm_append_singleton k _).symm
      obtain ⟨owner', f1, f2, f3⟩ := fold_fill hm rest (k + 1) _ (by rw [Array.size_setIfInBounds]; exact hs) hp2 (by omega)
      refine ⟨owner', ?_, f2, ?_⟩
      · rw [List.foldl_cons, hstep, f1, List.length_cons]
        congr 2
        omega
      · rw [List.length_cons, show k + (rest.length + 1) = k + 1 + rest.length by omega]
        exact f3
theorem clean_ok {m : Nat} (hm : okM m = true) {hs : Array Int} (hn : hs.size ≤ m) : ∃ owner, SetTable.layClean m hs = some owner ∧ owner.size = m + 1 ∧ (owner.toList.filterMap id).Perm (List.range hs.size) := by
  have h0 : ((Array.replicate (m + 1) (none : Option Nat)).toList.filterMap id) = [] := by
    rw [Array.toList_replicate]
    induction m + 1 with
    | zero => rfl
    | succ n ih => rw [List.replicate_succ, List.filterMap_cons_none (by rfl)]; exact ih
  obtain ⟨owner, f1, f2, f3⟩ := fold_fill hm hs.toList 0 (Array.replicate (m + 1) none) (by rw [Array.size_replicate]) (by rw [h0]; exact List.Perm.refl _) (by rw [Array.length_toList]; omega)
  rw [Array.length_toList, Nat.zero_add] at f1 f3
  refine ⟨owner, ?_, f2, f3⟩
  unfold SetTable.layClean
  rw [← Array.foldl_toList]
  have f1' : hs.toList.foldl (stF m) (some (Array.replicate (m + 1) none, 0)) = some (owner, hs.size) := f1
  show (hs.toList.foldl (stF m) (some (Array.replicate (m + 1) none, 0))).map (·.1) = some owner
  rw [f1']; rfl
theorem live_map (owner : Array (Option Nat)) : ((List.range owner.size).filterMap fun j => (owner.getD j none).map (j, ·)).map (·.2) = owner.toList.filterMap id := by
  rw [List.map_filterMap]
  have e : ∀ j, (((owner.getD j none).map (j, ·)).map Prod.snd) = owner.getD j none := fun j => by cases owner.getD j none <;> rfl
  simp only [e]
  have : owner.toList = (List.range owner.size).map fun j => owner.getD j none := by
    apply List.ext_getElem
    · simp
    · intro i h1 h2
      simp only [List.getElem_map, List.getElem_range]
      rw [Array.length_toList] at h1
      simp [Array.getD, h1]
  rw [this, List.filterMap_map]
  rfl
theorem laid_ok {m fg mv : Nat} {led plain : Bool} (hm : okM m = true) {hs : Array Int} (hn : hs.size ≤ m) :
    ∃ t order, SetTable.laid m fg mv led plain hs = some (t, order) ∧ t.place.size = hs.size ∧ t.dummies = #[] ∧ t.mask = m ∧ t.led = led ∧ L2.Ris t.place.toList ∧ order.toList.Perm (List.range hs.size) := by
  obtain ⟨owner, e, hsz, hp⟩ := clean_ok hm hn
  unfold SetTable.laid
  rw [e]
  have lm := live_map owner
  rw [hsz] at lm
  refine ⟨_, _, rfl, ?_, rfl, rfl, rfl, ?_, ?_⟩
  · have := congrArg List.length lm
    rw [List.length_map] at this
    simp only [List.size_toArray, List.length_map]
    rw [this, hp.length_eq, List.length_range]
  · refine (L2.ris_live (fun j => owner.getD j none) (List.range (m + 1)) ?_).1
    unfold L2.Ris
    first | exact List.pairwise_lt_range | exact List.pairwise_lt_range _
  · show ((List.map _ _)).Perm _
    rw [lm]
    exact hp
theorem ok7 : okM 7 = true := by decide +kernel
theorem ok15 : okM 15 = true := by decide +kernel
theorem ok31 : okM 31 = true := by decide +kernel
theorem ok63 : okM 63 = true := by decide +kernel
theorem ok127 : okM 127 = true := by decide +kernel
theorem ok255 : okM 255 = true := by decide +kernel
theorem ok511 : okM 511 = true := by decide +kernel
theorem size_all : ∀ n, n < 512 → okM (SetTable.sizeAbove n - 1) = true ∧ n ≤ SetTable.sizeAbove n - 1 := by
  intro n hn
  have : ∀ n, n < 512 → (SetTable.sizeAbove n = 8 ∨ SetTable.sizeAbove n = 16 ∨ SetTable.sizeAbove n = 32 ∨ SetTable.sizeAbove n = 64 ∨ SetTable.sizeAbove n = 128 ∨ SetTable.sizeAbove n = 256 ∨ SetTable.sizeAbove n = 512) ∧ n < SetTable.sizeAbove n := by decide +kernel
  obtain ⟨h, h2⟩ := this n hn
  refine ⟨?_, by omega⟩
  rcases h with h | h | h | h | h | h | h <;> rw [h]
  · exact ok7
  · exact ok15
  · exact ok31
  · exact ok63
  · exact ok127
  · exact ok255
  · exact ok511
end Lay
end GD

set_option maxHeartbeats 4000000
namespace GD
open PySem PySem.Spec PyProof.Rows L2
section
variable {P : Program} {w : World} {A : Around} {E : Value → Shared → Prop} {s : Shared} {a o f : Addr} {ks ls : List Str}
structure SRaw (w : World) (h : Heap) (a : Addr) (ob : Obj) (ys : Array (Int × Value)) (ep : Nat) (tb : SetTable) : Prop where
  ho : h.get? a = some ob
  hex : ob.ExactSet
  hd : ob.data = .set ys ep tb
  b : ys.size < scanBound
  f : tb.fits ys.size = true
  r : Ris tb.place.toList
  l : w.params.followText "set-order" = true ∨ tb.led = true
structure STx (P : Program) (w : World) (ys : Array (Int × Value)) (ks : List Str) : Prop where
  g : ∀ e ∈ ys.toList, GoodG (PySem.strKind P w) kfS e
  pm : (ys.toList.map kfS).Perm ks
  nd : ks.Nodup
theorem ss_raw {h : Heap} (R : SS P w h a ks) : ∃ ob ys ep tb, SRaw w h a ob ys ep tb ∧ STx P w ys ks := by
  obtain ⟨ob, ys, ep, tb, ho, hex, hd, g, pm, nd, hb, hf, hr, hl⟩ := R
  exact ⟨ob, ys, ep, tb, ⟨ho, hex, hd, hb, hf, hr, hl⟩, ⟨g, pm, nd⟩⟩
theorem raw_ss {h : Heap} {ob : Obj} {ys : Array (Int × Value)} {ep : Nat} {tb : SetTable} (R : SRaw w h a ob ys ep tb) (T : STx P w ys ks) : SS P w h a ks :=
  ⟨ob, ys, ep, tb, R.ho, R.hex, R.hd, T.g, T.pm, T.nd, R.b, R.f, R.r, R.l⟩
theorem STx.perm {ys zs : Array (Int × Value)} (T : STx P w ys ks) (p : zs.toList.Perm ys.toList) : STx P w zs ks := ⟨fun e he => T.g e (p.mem_iff.mp he), (p.map kfS).trans T.pm, T.nd⟩
theorem STx.len {ys : Array (Int × Value)} (T : STx P w ys ks) : ys.size = ks.length := by rw [← T.pm.length_eq, List.length_map, Array.length_toList]
theorem STx.str {ys : Array (Int × Value)} (T : STx P w ys ks) {e : Int × Value} (he : e ∈ ys.toList) : ∃ x t, e.2 = .str x t ∧ x ∈ ks ∧ e.1 = (PySem.strKind P w).hash x := by
  obtain ⟨h1, h2, _⟩ := T.g e he
  obtain ⟨t, ht⟩ := Value.isStrOf_shape h1
  exact ⟨kfS e, t, ht, T.pm.mem_iff.mp (List.mem_map_of_mem he), h2⟩
theorem SRaw.at {h h' : Heap} {ob : Obj} {ys : Array (Int × Value)} {ep : Nat} {tb : SetTable} (R : SRaw w h a ob ys ep tb) (kp : h'.get? a = some ob) : SRaw w h' a ob ys ep tb := ⟨kp, R.hex, R.hd, R.b, R.f, R.r, R.l⟩
theorem walk_raw {ob : Obj} {ys : Array (Int × Value)} {ep : Nat} {tb : SetTable} {Q : Array (Int × Value) → Shared → Prop} (R : SRaw w s.heap a ob ys ep tb)
    (hQ : ∀ zs d, zs.toList.Perm ys.toList → Q zs { s with drawn := d }) : wpAny (model P w) A (setWalk a) Q E s := by
  unfold setWalk
  refine wpAny_bind (wpAny_setState_of R.ho R.hd R.f ?_)
  dsimp only
  refine wpAny_bind (wpAny_byText ?_)
  cases hb : w.params.followText "set-order" with
  | true =>
    refine wp_if_pos rfl ?_
    refine wpAny_bind (wpAny_askSetting ?_)
    exact wpAny_pure (hQ _ s.drawn (pick_perm _ _))
  | false =>
    have hled : tb.led = true := R.l.resolve_left (by rw [hb]; exact Bool.false_ne_true)
    refine wp_if_neg (by simp) ?_
    cases hdr : (!tb.plain && decide (ys.size > 1)) with
    | true =>
      refine wp_if_pos hdr ?_
      refine wpAny_bind (drawOrder_at _ _ _ _ (by rw [Array.length_toList]; exact Nat.le_refl _) fun zs d hp => ?_)
      exact wpAny_pure (hQ _ d hp)
    | false =>
      refine wp_if_neg (by show ¬ ((!tb.plain && decide (ys.size > 1)) = true); rw [hdr]; exact Bool.false_ne_true) ?_
      refine wpAny_bind ?_
      show wpAny _ _ (if (!tb.led && decide (ys.size > 1)) = true then _ else pure ()) _ _ _
      refine wp_if_neg (by rw [hled]; simp) (wpAny_pure ?_)
      exact wpAny_pure (hQ _ s.drawn (List.Perm.refl _))
theorem quiet_at {l : List Addr} {Q : Bool → Shared → Prop} (hl : ∀ a ∈ l, ∃ ks, SS P w s.heap a ks) (hQ : Q true s) : wpAny (model P w) A (setsQuiet l) Q E s := by
  unfold setsQuiet
  refine wpAny_bind (wpAny_forIn_list _ (fun rest b z => b = (none, ()) ∧ z = s ∧ ∀ a ∈ rest, ∃ ks, SS P w s.heap a ks) _ (fun x rest b z hI => ?_) (fun b z hI => ?_) l (none, ()) ⟨rfl, rfl, hl⟩)
  · obtain ⟨rfl, rfl, hr⟩ := hI
    obtain ⟨ks, R⟩ := hr x (List.mem_cons_self ..)
    obtain ⟨ob, ys, ep, tb, R, T⟩ := ss_raw R
    refine wpAny_bind (wpAny_setEntries_of R.ho R.hd R.f ?_)
    refine wpAny_bind (wpAny_forIn_array' _ (fun rest b z' => b = (none, ()) ∧ z' = z ∧ ∀ e ∈ rest, e ∈ ys.toList) _ (fun e rest2 b2 z2 hI2 => ?_) (fun b2 z2 hI2 => ?_) ys (none, ()) ⟨rfl, rfl, fun _ h => h⟩)
    · obtain ⟨rfl, rfl, hr2⟩ := hI2
      obtain ⟨h0, v0⟩ := e
      obtain ⟨x, t, hx, _⟩ := T.str (hr2 _ (List.mem_cons_self ..))
      have hx' : v0 = .str x t := hx
      subst hx'
      exact wpAny_pure ⟨rfl, rfl, fun e he => hr2 e (List.mem_cons_of_mem _ he)⟩
    · obtain ⟨rfl, rfl, _⟩ := hI2
      exact wpAny_pure ⟨rfl, rfl, fun a ha => hr a (List.mem_cons_of_mem _ ha)⟩
  · obtain ⟨rfl, rfl, _⟩ := hI
    exact wpAny_pure hQ
theorem unseen_raw {ob : Obj} {ys : Array (Int × Value)} {ep : Nat} {tb : SetTable} {l : List Addr} {Q : Array (Int × Value) → Shared → Prop} (R : SRaw w s.heap a ob ys ep tb) (T : STx P w ys ls) (Rf : SS P w s.heap f ks) (hl : ∀ a ∈ l, ∃ ks, SS P w s.heap a ks)
    (hQ : ∀ zs h' d, zs.toList.Perm ys.toList → Heap.SameBut f s.heap h' → SS P w h' f ks → Q zs { s with heap := h', drawn := d }) : wpAny (model P w) A (setWalkUnseen a l (some f)) Q E s := by
  unfold setWalkUnseen
  refine wpAny_bind (wpAny_setState_of R.ho R.hd R.f ?_)
  dsimp only
  refine wpAny_bind (wpAny_byText ?_)
  cases hc : (w.params.followText "set-order" || (tb.led && tb.plain) || decide (ys.size ≤ 1)) with
  | true =>
    exact wp_if_pos rfl (walk_raw R fun zs d hp => hQ zs s.heap d hp (Heap.SameBut.refl f s.heap) Rf)
  | false =>
    refine wp_if_neg (by simp) ?_
    have hft : w.params.followText "set-order" = false := by
      cases hb : w.params.followText "set-order" with
      | true => rw [hb] at hc; simp at hc
      | false => rfl
    refine wpAny_bind (quiet_at (fun x hx => ?_) ?_)
    · rcases List.mem_cons.mp hx with rfl | hx
      · exact ⟨ls, raw_ss R T⟩
      · exact hl x hx
    · refine wp_if_neg (by simp) ?_
      refine wpAny_bind (wpAny_rule ?_)
      obtain ⟨obf, yf, epf, tf, Rf', Tf⟩ := ss_raw Rf
      refine wpAny_bind (wpAny_setState_of Rf'.ho Rf'.hd Rf'.f ?_)
      dsimp only
      have l1 : tb.led = true := R.l.resolve_left (by rw [hft]; exact Bool.false_ne_true)
      have l2 : tf.led = true := Rf'.l.resolve_left (by rw [hft]; exact Bool.false_ne_true)
      split
      · refine wpAny_bind (wpAny_storeSet_of Rf'.ho Rf'.hd ?_ (fits_of_scanBound Rf'.b))
        have oz := store_at (es' := yf) (t' := { tf with led := tf.led && tb.led, plain := tf.plain && tb.plain }) Rf'.ho Rf'.hd
        refine wpAny_pure (hQ _ _ s.drawn (List.Perm.refl _) (Heap.SameBut.update s.heap f _) ?_)
        exact ⟨_, yf, _, _, oz, Rf'.hex, rfl, Tf.g, Tf.pm, Tf.nd, Rf'.b, Rf'.f, Rf'.r, .inr (by rw [l1, l2]; rfl)⟩
      · exact wpAny_pure (hQ _ _ s.drawn (List.Perm.refl _) (Heap.SameBut.refl f s.heap) Rf)
theorem range_get {α : Type} : ∀ l : List α, (List.range l.length).filterMap (fun i => l[i]?) = l
  | [] => rfl
  | x :: t => by
    rw [List.length_cons, List.range_succ_eq_map, List.filterMap_cons_some (by rfl), List.filterMap_map]
    congr 1
    exact range_get t
theorem order_perm {es : Array (Int × Value)} {order : Array Nat} (hp : order.toList.Perm (List.range es.size)) : (order.filterMap (es[·]?)).toList.Perm es.toList := by
  rw [Array.toList_filterMap]
  refine (hp.filterMap _).trans ?_
  have h2 := range_get es.toList
  rw [Array.length_toList] at h2
  rw [show (fun i => es[i]?) = fun i => es.toList[i]? from funext fun i => (Array.getElem?_toList ..).symm, h2]
theorem relay_raw {ob : Obj} {ys : Array (Int × Value)} {ep : Nat} {tb : SetTable} {wanted : Nat} {Q : Unit → Shared → Prop} (R : SRaw w s.heap a ob ys ep tb) (hw : wanted < 512) (hn : ys.size ≤ wanted)
    (hQ : ∀ (zs : Array (Int × Value)) (t' : SetTable) (ob' : Obj) (ep' : Nat) (h' : Heap), zs.toList.Perm ys.toList → t'.place.size = ys.size → t'.dummies = #[] → Lay.okM t'.mask = true → wanted ≤ t'.mask → t'.led = tb.led → Heap.SameBut a s.heap h' → SRaw w h' a ob' zs ep' t' → Q () { s with heap := h' }) :
    wpAny (model P w) A (setRelay a wanted) Q E s := by
  obtain ⟨s1, s2⟩ := Lay.size_all wanted hw
  obtain ⟨t', order, e, e1, e2, e3, e4, e5, e6⟩ := Lay.laid_ok (fg := tb.finger) (mv := tb.movedTo (SetTable.sizeAbove wanted - 1)) (led := tb.led) (plain := tb.plain) s1 (hs := ys.map (·.1)) (by rw [Array.size_map]; omega)
  rw [Array.size_map] at e1 e6
  have pz := order_perm e6
  have zsz : (order.filterMap (ys[·]?)).size = ys.size := by rw [← Array.length_toList, pz.length_eq, Array.length_toList]
  unfold setRelay
  refine wpAny_bind (wpAny_setState_of R.ho R.hd R.f ?_)
  dsimp only
  have hbig : ¬ SetTable.sizeAbove wanted > sizeLine := by
    have h1 : SetTable.sizeAbove wanted ≤ 512 := by
      have : ∀ n, n < 512 → SetTable.sizeAbove n ≤ 512 := by decide +kernel
      exact this wanted hw
    rw [sizeLine_eq]; omega
  refine wp_if_neg hbig ?_
  rw [show tb.relaid (ys.map (·.1)) wanted = some (t', order) from e]
  refine wpAny_bind ?_
  show wpAny _ _ (if (_ != _) = true then _ else pure (order.filterMap (ys[·]?), t')) _ _ _
  refine wp_if_neg (by rw [zsz]; simp) (wpAny_pure ?_)
  dsimp only
  refine wpAny_storeSet_of R.ho R.hd ?_ (fits_of_scanBound (by rw [zsz]; exact R.b))
  have oz := store_at (es' := order.filterMap (ys[·]?)) (t' := t') R.ho R.hd
  refine hQ _ t' _ _ _ pz e1 e2 (by rw [e3]; exact s1) (by rw [e3]; exact s2) e4 (Heap.SameBut.update s.heap a _) ⟨oz, R.hex, rfl, by rw [zsz]; exact R.b, ?_, e5, R.l.imp id fun q => by rw [e4]; exact q⟩
  unfold SetTable.fits SetTable.fill
  rw [e1, e2, zsz, e3]
  simp
  omega
end
end GD

set_option maxHeartbeats 4000000
namespace GD
open PySem PySem.Spec PyProof.Rows L2
section
variable {P : Program} {w : World} {A : Around} {E : Value → Shared → Prop} {s : Shared} {a o f : Addr} {ks ls : List Str}
theorem fits_place {t : SetTable} {n : Nat} (h : t.fits n = true) : t.place.size = n ∧ t.fill ≤ t.mask := by
  simp only [SetTable.fits, Bool.and_eq_true, beq_iff_eq, decide_eq_true_eq] at h
  exact h
theorem room_any {n : Nat} {Q : Unit → Shared → Prop} (R : SS P w s.heap a ks) (hn : ks.length + n ≤ 127) (hQ : ∀ h', Heap.SameBut a s.heap h' → SS P w h' a ks → Q () { s with heap := h' }) : wpAny (model P w) A (setRoomFor a n) Q E s := by
  obtain ⟨ob, ys, ep, tb, R, T⟩ := ss_raw R
  unfold setRoomFor
  refine wpAny_bind (wpAny_setState_of R.ho R.hd R.f ?_)
  dsimp only
  unfold SetTable.roomFor
  have hp := (fits_place R.f).1
  have hl := T.len
  split
  · rename_i wanted hw
    split at hw
    · cases hw
      exact relay_raw R (by omega) (by omega) fun zs t' ob' ep' h' pz _ _ _ _ _ sb R' => hQ h' sb (raw_ss R' (T.perm pz))
    · cases hw
  · exact wpAny_pure (hQ s.heap (Heap.SameBut.refl a s.heap) (raw_ss R T))
theorem raw_new {h : Heap} (ho : h.get? a = some (nsetO w)) : SRaw w h a (nsetO w) #[] 0 (.fresh 0 0 (!w.params.followText "set-order")) :=
  ⟨ho, ⟨rfl, rfl, rfl⟩, rfl, by decide, by rfl, List.Pairwise.nil, by
    show (w.params.followText "set-order" = true) ∨ (!w.params.followText "set-order") = true
    cases w.params.followText "set-order" <;> simp⟩
theorem room_fresh {n : Nat} {Q : Unit → Shared → Prop} (ho : s.heap.get? a = some (nsetO w)) (hn : n ≤ 127) (hQ : ∀ (ob' : Obj) (ep' : Nat) (t' : SetTable) (h' : Heap), Heap.SameBut a s.heap h' → SRaw w h' a ob' #[] ep' t' → t'.fill = 0 → Lay.okM t'.mask = true → n ≤ t'.mask → Q () { s with heap := h' }) :
    wpAny (model P w) A (setRoomFor a n) Q E s := by
  have R := raw_new ho
  unfold setRoomFor
  refine wpAny_bind (wpAny_setState_of R.ho R.hd R.f ?_)
  dsimp only
  unfold SetTable.roomFor
  split
  · rename_i wanted hw
    split at hw
    · cases hw
      refine relay_raw R (by show (0 + n) * 2 < 512; omega) (Nat.zero_le _) fun zs t' ob' ep' h' pz e1 e2 e3 e4 _ sb R' => ?_
      have hz : zs = #[] := by
        have := pz.length_eq
        simpa using this
      subst hz
      refine hQ ob' ep' t' h' sb R' ?_ e3 (by have : (0 + n) * 2 ≤ t'.mask := e4; omega)
      unfold SetTable.fill
      rw [e1, e2]
      rfl
    · cases hw
  · rename_i hw
    refine wpAny_pure (hQ _ _ _ s.heap (Heap.SameBut.refl a s.heap) R rfl Lay.ok7 ?_)
    have hh : ¬ ((0 + n) * 5 ≥ 7 * 3) := fun hge => hw _ (if_pos hge)
    show n ≤ 7
    omega
theorem merge_fresh {each : Sem Unit} {Q : Unit → Shared → Prop} (ho : s.heap.get? a = some (nsetO w)) (R : SS P w s.heap o ls) (hne : a ≠ o) (hn : ls.length ≤ 127) (hQ : ∀ h', Heap.SameBut a s.heap h' → SS P w h' a ls → (ls = [] → h'.get? a = some (nsetO w)) → Q () { s with heap := h' }) :
    wpAny (model P w) A (setMerge a o each) Q E s := by
  obtain ⟨ob, ys, ep, tb, R, T⟩ := ss_raw R
  have hl := T.len
  unfold setMerge
  refine wp_if_neg (by simpa using hne) ?_
  refine wpAny_bind (wpAny_setState_of R.ho R.hd R.f ?_)
  dsimp only
  split
  · rename_i he
    have : ys = #[] := by simpa using he
    subst this
    have hz : ls = [] := List.eq_nil_of_length_eq_zero (by rw [← hl]; rfl)
    subst hz
    exact wpAny_pure (hQ _ (Heap.SameBut.refl a s.heap) (sg_new ho) fun _ => ho)
  · rename_i hne0
    have hls : ls = [] → ∀ h' : Heap, h'.get? a = some (nsetO w) := fun z => absurd (by rw [z] at hl; simpa using hl) hne0
    refine wpAny_bind (room_fresh ho (by omega) fun oa epa ta h1 sb1 Ra fa ma na => ?_)
    refine wpAny_bind (wpAny_setState_of Ra.ho Ra.hd Ra.f ?_)
    dsimp only
    have hled : w.params.followText "set-order" = true ∨ (ta.led && tb.led) = true := by
      rcases Ra.l with q | q
      · exact .inl q
      · rcases R.l with q2 | q2
        · exact .inl q2
        · exact .inr (by rw [q, q2]; rfl)
    unfold SetTable.road
    rw [fa]
    refine (fun h => h) ?_
    split
    · -- the same slots
      rename_i hroad
      refine wpAny_storeSet_of Ra.ho Ra.hd ?_ (fits_of_scanBound R.b)
      have oz := store_at (es' := ys) (t' := { tb with finger := ta.finger, led := ta.led && tb.led, moves := ta.moves, plain := ta.plain && tb.plain }) Ra.ho Ra.hd
      exact hQ _ (sb1.trans (Heap.SameBut.update h1 a _)) (raw_ss ⟨oz, Ra.hex, rfl, R.b, R.f, R.r, hled⟩ T) fun z => hls z _
    · rename_i hroad
      obtain ⟨t', order, e, e1, e2, e3, e4, e5, e6⟩ := Lay.laid_ok (fg := ta.finger) (mv := ta.moves) (led := ta.led && tb.led) (plain := ta.plain && tb.plain) ma (hs := ys.map (·.1)) (by rw [Array.size_map]; omega)
      rw [Array.size_map] at e1 e6
      have pz := order_perm e6
      have zsz : (order.filterMap (ys[·]?)).size = ys.size := by rw [← Array.length_toList, pz.length_eq, Array.length_toList]
      rw [e]
      refine wpAny_bind ?_
      show wpAny _ _ (if (_ != _) = true then _ else pure (order.filterMap (ys[·]?), t')) _ _ _
      refine wp_if_neg (by rw [zsz]; simp) (wpAny_pure ?_)
      dsimp only
      refine wpAny_storeSet_of Ra.ho Ra.hd ?_ (fits_of_scanBound (by rw [zsz]; exact R.b))
      have oz := store_at (es' := order.filterMap (ys[·]?)) (t' := t') Ra.ho Ra.hd
      refine hQ _ (sb1.trans (Heap.SameBut.update h1 a _)) (raw_ss ⟨oz, Ra.hex, rfl, by rw [zsz]; exact R.b, ?_, e5, by rw [e4]; exact hled⟩ (T.perm pz)) fun z => hls z _
      unfold SetTable.fits SetTable.fill
      rw [e1, e2, zsz, e3]
      simp
      omega
    · rename_i hroad
      exfalso
      simp at hroad
      split at hroad <;> cases hroad
theorem ne_nil_fill {t : SetTable} {n : Nat} (h : t.fits n = true) (hn : n ≠ 0) : (t.fill != 0) = true := by
  have := (fits_place h).1
  have h2 : t.fill ≠ 0 := by unfold SetTable.fill; omega
  simpa using h2
theorem merge_more {each : Sem Unit} {Q : Unit → Shared → Prop} (R1 : SS P w s.heap a ks) (hk : ks ≠ []) {ob : Obj} {ys : Array (Int × Value)} {ep : Nat} {tb : SetTable} (R : SRaw w s.heap o ob ys ep tb) (T : STx P w ys ls) (hne : a ≠ o) (hn : ks.length + ls.length ≤ 127)
    (heach : ∀ (z : Shared) (Q' : Unit → Shared → Prop), z.heap.get? o = some ob → Q' () z → wpAny (model P w) A each Q' E z)
    (hQ : ∀ h' d us, Heap.SameBut a s.heap h' → SS P w h' a us → (∀ x, x ∈ us ↔ x ∈ ks ∨ x ∈ ls) → Q () { s with heap := h', drawn := d }) :
    wpAny (model P w) A (setMerge a o each) Q E s := by
  have hl := T.len
  unfold setMerge
  refine wp_if_neg (by simpa using hne) ?_
  refine wpAny_bind (wpAny_setState_of R.ho R.hd R.f ?_)
  dsimp only
  split
  · rename_i he
    have : ys = #[] := by simpa using he
    subst this
    have hz : ls = [] := List.eq_nil_of_length_eq_zero (by rw [← hl]; rfl)
    subst hz
    exact wpAny_pure (hQ _ s.drawn ks (Heap.SameBut.refl a s.heap) R1 fun x => by simp)
  · refine wpAny_bind (room_any R1 (by omega) fun h1 sb1 Ra => ?_)
    obtain ⟨oa, ya, epa, ta, Ra', Ta⟩ := ss_raw Ra
    refine wpAny_bind (wpAny_setState_of Ra'.ho Ra'.hd Ra'.f ?_)
    dsimp only
    have hla := Ta.len
    unfold SetTable.road
    rw [if_pos (ne_nil_fill Ra'.f (by rw [hla]; exact fun z => hk (List.eq_nil_of_length_eq_zero z)))]
    dsimp only
    have R2 : SRaw w h1 o ob ys ep tb := R.at ((sb1.2 o (Ne.symm hne)).trans R.ho)
    refine wpAny_bind (unseen_raw R2 T Ra (fun x hx => ⟨ks, by rw [List.mem_singleton.mp hx]; exact Ra⟩) fun zs h2 d pz sb2 Rs => ?_)
    refine wpAny_bind (wpAny_forIn_array' _ (fun rest _ z => ∃ us h3, z = { s with heap := h3, drawn := d } ∧ Heap.SameBut a s.heap h3 ∧ SS P w h3 a us ∧ us.length + rest.length ≤ 127 ∧ (∀ e ∈ rest, e ∈ ys.toList) ∧ (∀ x, (x ∈ us ∨ x ∈ rest.map kfS) ↔ x ∈ ks ∨ x ∈ ls)) _ (fun e rest b z hI => ?_) (fun b z hI => ?_) zs _ ⟨ks, h2, rfl, sb1.trans sb2, Rs, ?_, fun e he => pz.mem_iff.mp he, fun x => ?_⟩)
    · obtain ⟨us, h3, rfl, sb3, R3, hlen, hmem, hiff⟩ := hI
      obtain ⟨h0, v0⟩ := e
      obtain ⟨x, t, hx, hxl, hh⟩ := T.str (hmem _ (List.mem_cons_self ..))
      have hx' : v0 = .str x t := hx
      have hh' : h0 = (PySem.strKind P w).hash x := hh
      subst hx' hh'
      have hk' : (PySem.strKind P w).is x (.str x t) = true := by show Value.isStrOf x (.str x t) = true; simp [Value.isStrOf]
      rw [List.length_cons] at hlen
      refine wpAny_bind (wpAny_holding ?_)
      have hroom : us.length + 1 < scanBound := by unfold scanBound; omega
      have R3' : SG (PySem.strKind P w) kfS ({ s with heap := h3, drawn := d } : Shared).heap a us := R3
      have hsc : (Value.str x t).scannable = true := rfl
      refine sg_add (P := P) (w := w) (s := { s with heap := h3, drawn := d }) (kd := PySem.strKind P w) (kf := kfS) (v := .str x t) (k := x) (ks := us) kfS_is hk' hsc R3' hroom ?_
      intro h4 b4 sb4 R4
      have ho4 : h4.get? o = some ob := (sb4.2 o (Ne.symm hne)).trans ((sb3.2 o (Ne.symm hne)).trans R.ho)
      refine wpAny_bind (heach _ _ ho4 ?_)
      refine wpAny_bind (wpAny_setState_of ho4 R.hd R.f ?_)
      dsimp only
      refine wp_if_neg (by simp) (wpAny_pure ?_)
      refine ⟨_, h4, rfl, sb3.trans sb4, R4, ?_, fun e he => hmem e (List.mem_cons_of_mem _ he), fun y => ?_⟩
      · split
        · omega
        · rw [List.length_cons]; omega
      · rw [← hiff y]
        have e1 : kfS ((PySem.strKind P w).hash x, Value.str x t) = x := rfl
        simp only [List.map_cons, e1, List.mem_cons]
        split
        · rename_i hin
          constructor
          · rintro (h | h)
            · exact .inl h
            · exact .inr (.inr h)
          · rintro (h | h | h)
            · exact .inl h
            · exact .inl (h ▸ hin)
            · exact .inr h
        · simp only [List.mem_cons]
          constructor
          · rintro ((h | h) | h)
            · exact .inr (.inl h)
            · exact .inl h
            · exact .inr (.inr h)
          · rintro (h | h | h)
            · exact .inl (.inr h)
            · exact .inl (.inl h)
            · exact .inr h
    · obtain ⟨us, h3, rfl, sb3, R3, _, _, hiff⟩ := hI
      exact wpAny_pure (hQ h3 d us sb3 R3 fun x => by rw [← hiff x]; simp)
    · have h1 := pz.length_eq
      have h2 : ys.toList.length = ys.size := rfl
      omega
    · have : x ∈ zs.toList.map kfS ↔ x ∈ ls := ((pz.map kfS).trans T.pm).mem_iff
      rw [this]
end
end GD

set_option maxHeartbeats 4000000
namespace GD
open PySem PySem.Spec PyProof.Rows L2
theorem sub_set_set : isSubtype (.type "set") (.type "set") = pure true := by rw [isSubtype_type]; kernel_rfl
section
variable {P : Program} {w : World} {A : Around} {E : Value → Shared → Prop} {s : Shared} {a b o f : Addr} {ks ls : List Str}
theorem ss_type {z : Shared} (R : SS P w z.heap a ks) : z.TypeIs (.ref a) "set" := by
  obtain ⟨ob, _, _, _, ho, hex, _⟩ := R
  exact ⟨ob, ho, hex.1⟩
theorem anySet_yes {v : Value} {Q : Bool → Shared → Prop} (hT : s.TypeIs v "set") (h : Q true s) : wpAny (model P w) A (Builtin.Frozenset.isAnySet v) Q E s := by
  unfold Builtin.Frozenset.isAnySet orM
  refine wpAny_bind (wpAny_isInstance hT sub_set_set ?_)
  exact wpAny_pure h
theorem baseOf_set {Q : Value → Shared → Prop} (hT : s.TypeIs (.ref a) "set") (h : Q (.type "set") s) : wpAny (model P w) A (Builtin.Frozenset.baseOf a) Q E s := by
  unfold Builtin.Frozenset.baseOf
  refine wpAny_bind (wpAny_isInstance hT sub_set_set ?_)
  exact wpAny_pure h
theorem copy_at {Q : Value → Shared → Prop} (R : SS P w s.heap a ks) (hn : ks.length ≤ 127)
    (hQ : ∀ h', SS P w h' s.heap.objs.size ks → (∀ c ob, s.heap.get? c = some ob → h'.get? c = some ob) → (ks = [] → h'.get? s.heap.objs.size = some (nsetO w)) → Q (.ref s.heap.objs.size) { s with heap := h' }) : wpAny (model P w) A (Builtin.Frozenset.copyOf a) Q E s := by
  unfold Builtin.Frozenset.copyOf
  refine wpAny_bind (baseOf_set (ss_type R) ?_)
  refine wpAny_bind (PpSet.newSet_ok ?_)
  have hlt : a < s.heap.objs.size := by
    obtain ⟨ob, _, _, _, ho, _⟩ := R
    exact Heap.lt_size ho
  have R1 : SS P w (s.heap.push (nsetO w)) a ks := SG.at R fun ob e => Heap.get?_push_of_some _ e
  show wpAny _ _ (setMerge s.heap.objs.size a >>= _) _ _ _
  refine wpAny_bind (merge_fresh (s := { s with heap := s.heap.push (nsetO w) }) (Heap.get?_push_size _ rfl) R1 (Nat.ne_of_gt hlt) hn fun h' sb R' n' => ?_)
  exact wpAny_pure (hQ h' R' (fun c ob e => (sb.2 c (Nat.ne_of_lt (Heap.lt_size e))).trans (Heap.get?_push_of_some _ e)) n')
theorem unch {z : Shared} {id : String} {ob : Obj} {ys : Array (Int × Value)} {ep : Nat} {tb : SetTable} {Q : Unit → Shared → Prop} (ho : z.heap.get? a = some ob) (hd : ob.data = .set ys ep tb) (hf : tb.fits ys.size = true) (h : Q () z) : wpAny (model P w) A (Builtin.Frozenset.unchanged id a ep) Q E z := by
  unfold Builtin.Frozenset.unchanged
  refine wpAny_bind (wpAny_setEpoch_of ho hd hf ?_)
  exact wp_if_neg (by simp) (wpAny_pure h)
theorem entry_or : entryFor table "set.__or__" = some Builtin.«frozenset.__or__» := 
  entryFor_alias (id' := "frozenset.__or__") (by kernel_rfl) rfl (by decide +kernel) (by kernel_rfl)
theorem call_or {Q : Value → Shared → Prop} (R1 : SS P w s.heap a ks) (R2 : SS P w s.heap b ls) (hab : a ≠ b) (hn : ks.length + ls.length ≤ 127)
    (hQ : ∀ h' d us, SS P w h' s.heap.objs.size us → (∀ x, x ∈ us ↔ x ∈ ks ∨ x ∈ ls) → (∀ c ob, s.heap.get? c = some ob → h'.get? c = some ob) → Q (.ref s.heap.objs.size) { s with heap := h', drawn := d }) :
    wpAny (model P w) A (call (.builtin "set.__or__") [.ref a, .ref b]) Q E s := by
  refine wpAny_call_entry F.slot_set_or (ss_type R1) entry_or ?_ (F.args_set_or_2 _ _)
  unfold Builtin.«frozenset.__or__»
  show wpAny _ _ (Builtin.Frozenset.slot1 "__or__" _ >>= _) _ _ _
  refine wpAny_bind (wpAny_of_eq (a := (.ref a, .ref b)) (by rfl) ?_)
  dsimp only
  refine wpAny_bind ?_
  unfold andM
  refine wpAny_bind (anySet_yes (ss_type R1) ?_)
  refine anySet_yes (ss_type R2) ?_
  refine wp_if_neg (by simp) ?_
  refine wpAny_bind (wpAny_of_eq (a := a) (by rfl) ?_)
  refine wpAny_bind ?_
  show wpAny _ _ (Builtin.Frozenset.copyOf a >>= _) _ _ _
  refine wpAny_bind (copy_at R1 (by omega) fun h1 Rc kp n1 => ?_)
  refine wp_if_pos (by simpa using Ne.symm hab) ?_
  refine wpAny_bind (wpAny_of_eq (a := s.heap.objs.size) (by rfl) ?_)
  refine wpAny_bind (wpAny_holding ?_)
  have R21 : SS P w h1 b ls := SG.at R2 fun ob e => kp b ob e
  unfold Builtin.Frozenset.updateFrom
  refine wpAny_bind (anySet_yes (ss_type (z := { s with heap := h1 }) R21) ?_)
  refine wp_if_pos rfl ?_
  refine wpAny_bind (wpAny_of_eq (a := b) (by rfl) ?_)
  unfold Builtin.Frozenset.merge
  obtain ⟨ob, ys, ep, tb, Rr, T⟩ := ss_raw R21
  refine wpAny_bind (wpAny_setEpoch_of Rr.ho Rr.hd Rr.f ?_)
  have hlt : b < s.heap.objs.size := by
    obtain ⟨ob, _, _, _, ho, _⟩ := R2
    exact Heap.lt_size ho
  have hne : s.heap.objs.size ≠ b := Nat.ne_of_gt hlt
  have keep : ∀ {h' : Heap}, Heap.SameBut s.heap.objs.size h1 h' → ∀ c ob, s.heap.get? c = some ob → h'.get? c = some ob := fun sb c ob e => (sb.2 c (Nat.ne_of_lt (Heap.lt_size e))).trans (kp c ob e)
  by_cases hk : ks = []
  · subst hk
    refine merge_fresh (s := { s with heap := h1 }) (n1 rfl) R21 hne (by omega) fun h' sb R' _ => ?_
    exact wpAny_pure (wpAny_pure ⟨_, rfl, hQ h' s.drawn ls R' (fun x => by simp) (keep sb)⟩)
  · refine merge_more (s := { s with heap := h1 }) Rc hk Rr T hne hn (fun z Q' hz hq => unch hz Rr.hd Rr.f hq) fun h' d us sb R' hiff => ?_
    exact wpAny_pure (wpAny_pure ⟨_, rfl, hQ h' d us R' hiff (keep sb)⟩)
end
end GD

set_option maxHeartbeats 4000000
namespace GD
open PySem PySem.Spec PyProof.Rows L2
section
variable {P : Program} {w : World} {A : Around} {E : Value → Shared → Prop} {s : Shared} {a b o f : Addr} {ks ls : List Str}
end
end GD

set_option maxHeartbeats 4000000
namespace GD
open PySem PySem.Spec PyProof.Rows L2
section
variable {P : Program} {w : World} {A : Around} {E : Value → Shared → Prop} {s : Shared} {a b o f : Addr} {ks ls : List Str}
end
end GD

set_option maxHeartbeats 4000000
namespace GD
open PySem PySem.Spec PyProof.Rows L2
section
variable {X : Cx}
def rSBin (C : List Str → List Str → Str → Prop) (P : Program) (w : World) : R2 := fun x y H Q => ∃ (a b : Addr) (ks ls : List Str), x = .ref a ∧ y = .ref b ∧ a ≠ b ∧ H a = some (SGO P w a ks) ∧ H b = some (SGO P w b ls) ∧ ks.length + ls.length ≤ 127 ∧
  ∀ p us, H p = none → us.Nodup → (∀ x, x ∈ us ↔ C ks ls x) → Q (.ref p) (upd H p (SGO P w p us))
abbrev COr : List Str → List Str → Str → Prop := fun ks ls x => x ∈ ks ∨ x ∈ ls
theorem laid_drawn {pins : List (Addr × Obj)} {σ : L2.St} {H : Hp} {s : Shared} {h' : Heap} {d : Drawn} {p : Addr} {o : HO} (I : Inv X pins σ H s) (kp : ∀ b u, s.heap.get? b = some u → h'.get? b = some u) (hp : s.heap.objs.size ≤ p) (new : ObjOk X.prog X.w (upd H p o) h' p o) :
    Inv X pins σ (upd H p o) { s with heap := h', drawn := d } := by
  have hn : H p = none := I.hok.fresh hp
  have J : Inv X pins σ (upd H p o) { s with heap := h', gens := s.gens, drawn := d, toks := s.toks } :=
    I.call (ch := []) (Un.laid kp hp hn) (I.hok.laid kp hp new) I.bare (fun _ q => nomatch q)
  exact J
theorem op_sor : OpR X (binaryOp .BitOr) (rSBin COr X.prog X.w) := by
  intro pins s σ H x y v u Q I rx ry h
  obtain ⟨a, b, ks, ls, rfl, rfl, hab, ha, hb, hn, q⟩ := h
  cases rx
  cases ry
  have R1 := sgo_get I ha
  have R2 := sgo_get I hb
  refine wpAny_binaryOp_same (ss_type R1) (ss_type R2) PySem.F.fills_set_or PySem.F.slot_set_or (call_or R1 R2 hab hn fun h' d us R hiff kp => ⟨nofun, ?_⟩)
  have nd : us.Nodup := by obtain ⟨_, _, _, _, _, T⟩ := ss_raw R; exact T.nd
  exact ⟨.ref s.heap.objs.size, _, laid_drawn I kp (Nat.le_refl _) (sgo_new R), rfl, q _ us (I.hok.fresh (Nat.le_refl _)) nd hiff⟩
end
abbrev EvSet := En → Option (List Str × En)
def ISet (P : Program) (w : World) (K : PySem.W.Frag) (t : TE) (f : EvSet) : Prop := ∀ F T env σ H ks env', StOk K F T H env σ → f env = some (ks, env') → ∀ Q : VK,
  (∀ p H' us, H p = none → StOk K F (fun a => T a ∨ a = p) H' env' σ → Stp env σ H env' H' → H' p = some (SGO P w p us) → us.Nodup → (∀ x, x ∈ us ↔ x ∈ ks) → Q (.ref p) H') → t σ H Q
theorem sortT_mem {us ks : List Str} (h : ∀ x, x ∈ us ↔ x ∈ ks) : sortT us = sortT ks := ltT_uniq _ _ (sortT_lt us) (sortT_lt ks) fun k => by rw [mem_sortT, mem_sortT, h]
theorem nodup_len {us ks : List Str} (nd : us.Nodup) (h : ∀ x, x ∈ us ↔ x ∈ ks) : us.length = (unq ks).length := by
  have : us.Perm (unq ks) := (List.perm_ext_iff_of_nodup nd (unq_nodup ks)).mpr fun x => by rw [h, mem_unq]
  exact this.length_eq
section
variable {P : Program} {w : World} {K : PySem.W.Frag} {ta tb te : TE} {fa fb : EvSet} {fe : EvE}
def eSetL (fl : EvA) : EvSet := fun env => (eA fl env).bind fun p => match p.1 with
  | [.list ds] => if decide (ds.length ≤ 1000) = true then (strsOf ds).map fun cs => (cs, p.2) else none
  | _ => none
theorem ise_set {tl : TA} {fl : EvA} (hl : IA K tl fl) : ISet P w K (tCB (rSetT K P w) tl) (eSetL fl) := by
  intro F T env σ H ks env' S e Q q
  simp only [eSetL, eA, Option.bind_eq_some_iff, Option.map_eq_some_iff] at e
  obtain ⟨⟨ds, e1⟩, ⟨⟨l, e2⟩, h1, ds', h2, h3⟩, h4⟩ := e
  obtain ⟨rfl, rfl⟩ : ds' = ds ∧ e2 = e1 := by cases h3; exact ⟨rfl, rfl⟩
  clear h3
  refine hl F T env σ H l _ S h1 _ fun vs H1 S1 s1 v1 => ?_
  have lv := rsA_ok S1 v1 h2
  obtain ⟨es, hes, h5⟩ : ∃ es, ds' = [.list es] ∧ (if decide (es.length ≤ 1000) = true then (strsOf es).map fun cs => (cs, e2) else none) = some (ks, env') := by
    split at h4
    · rename_i hx; exact ⟨_, hx, h4⟩
    · cases h4
  subst hes
  split at h5
  · rename_i hlen
    have hlen : es.length ≤ 1000 := of_decide_eq_true hlen
    simp only [Option.map_eq_some_iff] at h5
    obtain ⟨cs, h5, h6⟩ := h5
    cases h6
    obtain ⟨v, rfl, a, ys, rfl, s2, r2⟩ := LvAll.one lv
    have ex := strsOf_ok r2 h5
    subst ex
    refine ⟨a, _, rfl, .inl (.inl s2), by have := r2.length; rw [List.length_map] at this; omega, fun p np => ?_⟩
    have n0 : H p = none := by
      cases h : H p with
      | none => rfl
      | some o => exact absurd np (s1.ext.live p (by rw [h]; simp))
    exact q p _ _ n0 (S1.lay1 np (Ext.new np) (by rw [upd_same]; simp)) (s1.trans (Stp.new np)) upd_same (unq_nodup _) fun x => mem_unq x _
  · cases h5
def eSetC (vs : List Nat) (fw : EvW) (g : D → En → Option En) (c : EvT) (e : EvE) : EvSet := fun env => (fw env).bind fun p => if decide (p.1.length ≤ 1000) = true then
  (compE vs g c e p.1 [] (wipeE p.2 vs)).bind fun q => (strsOf q.1).map fun cs => (cs, q.2) else none
theorem ise_comp {tt : TT} {ft : EvT} {te : TE} {fe : EvE} {wi : TI} {fw : EvW} {js vs : List Nat} {gg : TG} {ff : D → En → Option En} (hw : IW K wi fw) (hg : IG K js gg ff) (ht : IT K tt ft) (he : IE K te fe) (hj : ∀ j ∈ js, j ∈ vs) :
    ISet P w K (tScS P w wi gg tt te vs) (eSetC vs fw ff ft fe) := by
  intro F T env σ H kk env' S e Q k
  simp only [eSetC, Option.bind_eq_some_iff] at e
  obtain ⟨⟨items, e1⟩, a1, e⟩ := e
  split at e
  · rename_i hlen
    have hlen : items.length ≤ 1000 := of_decide_eq_true hlen
    simp only [Option.bind_eq_some_iff, Option.map_eq_some_iff] at e
    obtain ⟨⟨ds, e2⟩, a2, cs, hcs, a3⟩ := e
    have hds := strsOf_all hcs
    subst hds
    obtain ⟨rfl, hee⟩ : cs = kk ∧ e2 = env' := by cases a3; exact ⟨rfl, rfl⟩
    subst hee
    clear a3 hcs
    refine hw F T env σ H items e1 S a1 _ fun J H1 S1 s1 jo p np => ?_
    have np0 : H p = none := by
      cases h : H p with
      | none => rfl
      | some o => exact absurd np (s1.ext.live p (by rw [h]; simp))
    have nF : F.H0 p = none := S1.fresh0 np
    refine ⟨fun i mm H3 => ∃ e' ks, StOk K F (fun a => T a ∨ a = p) H3 e' (wipe σ vs) ∧ (∀ (j : Nat) (s : Sl), e'[j]? = some (some s) → j ∉ vs) ∧ Ext (Wr e1 σ) H1 H3 ∧ (∀ a, Wr e' (wipe σ vs) a → Wr e1 σ a) ∧
        H3 p = some (SGO P w p (unq ks)) ∧ ks.length ≤ i ∧ mm = items.length - i ∧ i ≤ items.length ∧ compE vs ff ft fe (items.drop i) (ks.map .str) e' = some (cs.map .str, e2), ?_, ?_⟩
    · have S2 : StOk K F (fun a => T a ∨ a = p) (upd H1 p (SGO P w p [])) e1 σ := S1.new np
      have hre : ∀ (i : Nat) (s : Sl), (wipeE e1 vs)[i]? = some (some s) → e1[i]? = some (some s) ∧ (wipe σ vs)[i]? = σ[i]? := fun i s h => ⟨(wipeE_some h).1, wipe_out (wipeE_some h).2⟩
      exact ⟨_, wipeE e1 vs, [], S2.re (by rw [wipeE_len, wipe_length]; exact S1.len) hre, fun j s h => (wipeE_some h).2, Ext.new np, wr_re hre, upd_same, Nat.le_refl _, rfl, Nat.zero_le _, by simpa using a2⟩
    · rintro i mm H3 ⟨e', ks, S', hw', x', wr', hp', hki, rfl, hi, hc⟩
      obtain ⟨j1, j2⟩ := jo (Ow F (fun a => T a ∨ a = p) e' (wipe σ vs)) H3 (fun a o q n z => by
          rcases z with z | (z | z) | z
          · exact n (.inl z)
          · exact n (.inr (.inl z))
          · subst z; rw [np] at q; cases q
          · exact n (.inr (.inr (wr' a z)))) (fun a o n q => x'.same a o q fun z => n (.inr (.inr z))) (fun a h => S'.olive h)
      by_cases hlt : i < items.length
      · have gi : items[i]? = some items[i] := List.getElem?_eq_getElem hlt
        obtain ⟨go, yl⟩ := j1 i _ gi
        rw [List.drop_eq_getElem_cons hlt] at hc
        simp only [compE, Option.bind_eq_some_iff] at hc
        obtain ⟨e3, b1, ⟨b, e4⟩, b2, b3⟩ := hc
        refine .inr ⟨go, fun H5 => ∃ e' ks, StOk K F (fun a => T a ∨ a = p) H5 e' (wipe σ vs) ∧ (∀ (j : Nat) (s : Sl), e'[j]? = some (some s) → j ∉ vs) ∧ Ext (Wr e1 σ) H1 H5 ∧ (∀ a, Wr e' (wipe σ vs) a → Wr e1 σ a) ∧
          H5 p = some (SGO P w p (unq ks)) ∧ ks.length ≤ i + 1 ∧ i + 1 ≤ items.length ∧ compE vs ff ft fe (items.drop (i + 1)) (ks.map .str) e' = some (cs.map .str, e2), ?_, ?_⟩
        · rintro H5 ⟨e', ks, c1, c2, c3, c4, c5, c6, c7, c8⟩
          exact ⟨items.length - (i + 1), by omega, e', ks, c1, c2, c3, c4, c5, c6, rfl, c7, c8⟩
        intro x H4 hy
        obtain ⟨x2, rx⟩ := yl x H4 hy
        have S4 := S'.lay x2
        refine hg F _ e' (wipe σ vs) H4 x _ e3 S4 rx b1 _ fun σ5 S5 q5 l5 k5 n5 => ?_
        have hk5 : ∀ k, k ∉ vs → σ5[k]? = (wipe σ vs)[k]? := fun k hk => k5 k fun z => hk (hj k z)
        have wq : wipe σ5 vs = wipe σ vs := (wipe_eq l5 hk5).trans wipe_wipe
        have x4 : Ext (Wr e1 σ) H1 H4 := x'.trans x2 fun _ q => q.elim
        have w5 : ∀ a, Wr e3 σ5 a → Wr e1 σ a ∨ H4 a = none := fun a h => (q5.wr a h).imp (wr' a) id
        have w5' : ∀ a, Wr e3 σ5 a → Wr e1 σ a := fun a h => (w5 a h).elim id fun z => absurd z (S5.wlive h)
        refine ⟨wq, ht F _ e3 σ5 H4 b e4 S5 b2 _ fun H6 S6 s6 => ?_⟩
        have hp4 : H4 p = some (SGO P w p (unq ks)) := x2.same p _ hp' id
        have hp6 : H6 p = some (SGO P w p (unq ks)) := s6.ext.same p _ hp4 (S5.tno p (.inr rfl))
        have x6 : Ext (Wr e1 σ) H1 H6 := x4.trans s6.ext fun a q => .inl (w5' a q)
        have back : ∀ {e7 : En} {H7 : Hp} {k7 : List Str}, StOk K F (fun a => T a ∨ a = p) H7 e7 σ5 → (∀ a, Wr e7 σ5 a → Wr e1 σ a) → Ext (Wr e1 σ) H1 H7 → H7 p = some (SGO P w p (unq k7)) → k7.length ≤ i + 1 →
            compE vs ff ft fe (items.drop (i + 1)) (k7.map .str) (wipeE e7 vs) = some (cs.map .str, e2) →
            ∃ e' ks, StOk K F (fun a => T a ∨ a = p) H7 e' (wipe σ vs) ∧ (∀ (j : Nat) (s : Sl), e'[j]? = some (some s) → j ∉ vs) ∧ Ext (Wr e1 σ) H1 H7 ∧ (∀ a, Wr e' (wipe σ vs) a → Wr e1 σ a) ∧
              H7 p = some (SGO P w p (unq ks)) ∧ ks.length ≤ i + 1 ∧ i + 1 ≤ items.length ∧ compE vs ff ft fe (items.drop (i + 1)) (ks.map .str) e' = some (cs.map .str, e2) := by
          intro e7 H7 k7 S7 w7 x7 hp7 l7 c7
          have hre : ∀ (i : Nat) (s : Sl), (wipeE e7 vs)[i]? = some (some s) → e7[i]? = some (some s) ∧ (wipe σ vs)[i]? = σ5[i]? := fun i s h => ⟨(wipeE_some h).1, (hk5 i (wipeE_some h).2).symm⟩
          have wre := wr_re hre
          exact ⟨wipeE e7 vs, k7, S7.re (by rw [wipeE_len, wipe_length, S7.len, l5, wipe_length]) hre, fun j s h => (wipeE_some h).2, x7, fun a h => w7 a (wre a h), hp7, l7, hlt, c7⟩
        cases b with
        | false =>
          simp only [Bool.false_eq_true, if_false] at b3 ⊢
          exact back S6 (fun a h => w5' a (s6.wr a h)) x6 hp6 (by omega) b3
        | true =>
          simp only [if_true, Option.bind_eq_some_iff] at b3 ⊢
          obtain ⟨⟨r, e7⟩, b4, d, b5, b6⟩ := b3
          split at b6
          · refine he F _ e4 σ5 H6 r e7 S6 b4 _ fun y H7 S7 s7 ry => ?_
            have hp7 : H7 p = some (SGO P w p (unq ks)) := s7.ext.same p _ hp6 (S6.tno p (.inr rfl))
            have ry7 := rk_ok S7 ry b5
            obtain ⟨rest, hrest⟩ := compE_pre _ _ _ _ _ b6
            obtain ⟨c, rfl⟩ := pre_str hrest
            have yc : y = .str c := Rp.scS ry7
            subst yc
            have ku := unq_len ks
            refine ⟨c, unq ks, rfl, hp7, by unfold scanBound; omega, ?_⟩
            have x7 : Ext (Wr e1 σ) H1 H7 := x6.trans s7.ext fun a q => .inl (w5' a (s6.wr a q))
            have x8 : Ext (Wr e1 σ) H1 (upd H7 p (SGO P w p (addU (unq ks) c))) := ⟨fun a u q n => by
                rw [upd_ne (ne_of_none q np)]; exact x7.same a u q n, fun a q => upd_live (x7.live a q)⟩
            have S8 : StOk K F (fun a => T a ∨ a = p) (upd H7 p (SGO P w p (addU (unq ks) c))) e7 σ5 := S7.updT (.inr rfl) nF
            exact back (k7 := ks ++ [c]) S8 (fun a h => w5' a (s6.wr a (s7.wr a h))) x8 (by rw [upd_same, unq_snoc]) (by rw [List.length_append, List.length_singleton]; omega) (by rw [List.map_append]; exact b6)
          · cases b6
      · have ei : i = items.length := by omega
        subst ei
        rw [List.drop_length] at hc
        have hc' : some (ks.map PyData.str, e') = some (cs.map PyData.str, e2) := hc
        obtain ⟨hk, rfl⟩ := Prod.mk.inj (Option.some.inj hc')
        have hkc : ks = cs := by
          have := congrArg strsOf hk
          rw [strsOf_map, strsOf_map] at this
          exact Option.some.inj this
        subst hkc
        refine .inl ⟨j2 _ (Nat.le_refl _), ?_⟩
        have hre : ∀ (i : Nat) (s : Sl), e'[i]? = some (some s) → e'[i]? = some (some s) ∧ σ[i]? = (wipe σ vs)[i]? := fun i s h => ⟨h, (wipe_out (hw' i s h)).symm⟩
        have S9 : StOk K F (fun a => T a ∨ a = p) H3 e' σ := S'.re (by rw [S'.len, wipe_length]) hre
        exact k p _ _ np0 S9 (s1.trans ⟨x', fun a h => wr' a (wr_re hre a h)⟩) hp' (unq_nodup ks) fun x => mem_unq x ks
  · cases e
def eSBin (g : List Str → List Str → List Str) (fa fb : EvSet) : EvSet := fun env => (fa env).bind fun p => (fb p.2).bind fun q => if decide (p.1.length + q.1.length ≤ 127) = true then some (g p.1 q.1, q.2) else none
theorem unq_le {us ks : List Str} (nd : us.Nodup) (h : ∀ x, x ∈ us ↔ x ∈ ks) : us.length ≤ ks.length := by rw [nodup_len nd h]; exact unq_len ks
theorem ise_bin {C : List Str → List Str → Str → Prop} {g : List Str → List Str → List Str} (hg : ∀ ks ls us vs : List Str, (∀ x, x ∈ us ↔ x ∈ ks) → (∀ x, x ∈ vs ↔ x ∈ ls) → ∀ x, C us vs x ↔ x ∈ g ks ls)
    (ha : ISet P w K ta fa) (hb : ISet P w K tb fb) : ISet P w K (tOp (rSBin C P w) ta tb) (eSBin g fa fb) := by
  intro F T env σ H kk env' S e Q q
  simp only [eSBin, Option.bind_eq_some_iff] at e
  obtain ⟨⟨ks, e1⟩, h1, ⟨ls, e2⟩, h2, h3⟩ := e
  split at h3
  · rename_i hlen
    have hlen : ks.length + ls.length ≤ 127 := of_decide_eq_true hlen
    cases h3
    refine ha F T env σ H ks e1 S h1 _ fun p1 H1 us n1 S1 s1 g1 nd1 m1 => ?_
    refine hb F _ e1 σ H1 ls _ S1 h2 _ fun p2 H2 vs n2 S2 s2 g2 nd2 m2 => ?_
    have e1' : H2 p1 = some (SGO P w p1 us) := s2.ext.same p1 _ g1 (S1.tno p1 (.inr rfl))
    have hne : p1 ≠ p2 := fun z => by subst z; rw [g1] at n2; cases n2
    have l1 := unq_le nd1 m1
    have l2 := unq_le nd2 m2
    refine ⟨p1, p2, us, vs, rfl, rfl, hne, e1', g2, by omega, fun p zs np ndz mz => ?_⟩
    have n0 : H p = none := by
      cases h : H p with
      | none => rfl
      | some o => exact absurd np (s2.ext.live p (s1.ext.live p (by rw [h]; simp)))
    exact q p _ zs n0 ((S2.anti (T' := T) fun a h => .inl (.inl h)).lay1 np (Ext.new np) (by rw [upd_same]; simp)) ((s1.trans s2).trans (Stp.new np)) upd_same ndz fun x => (mz x).trans (hg ks ls us vs m1 m2 x)
  · cases h3
theorem ise_or (ha : ISet P w K ta fa) (hb : ISet P w K tb fb) : ISet P w K (tOp (rSBin COr P w) ta tb) (eSBin (fun ks ls => ks ++ ls) fa fb) :=
  ise_bin (fun ks ls us vs h1 h2 x => by show (x ∈ us ∨ x ∈ vs) ↔ _; rw [h1, h2, List.mem_append]) ha hb
def eSrtSet (f : EvSet) : EvM := fun env => (f env).bind fun p => if decide (p.1.length ≤ 1000) = true then some (.l ((sortT p.1).map .str), p.2) else none
theorem im_sortSet (ha : ISet P w K ta fa) : IM K (tCB (rSortG P w) (tCons ta tNil)) (eSrtSet fa) := by
  intro F T env σ H m env' S e Q q
  simp only [eSrtSet, Option.bind_eq_some_iff] at e
  obtain ⟨⟨ks, e1⟩, h1, h3⟩ := e
  split at h3
  · rename_i hlen
    have hlen : ks.length ≤ 1000 := of_decide_eq_true hlen
    cases h3
    show ta σ H fun x H1 => rSortG P w [x] H1 Q
    refine ha F T env σ H ks _ S h1 _ fun p1 H1 us n1 S1 s1 g1 nd1 m1 => ?_
    have l1 := unq_le nd1 m1
    refine ⟨p1, us, rfl, g1, by omega, nd1, fun p np => ?_⟩
    have n0 : H p = none := by
      cases h : H p with
      | none => rfl
      | some o => exact absurd np (s1.ext.live p (by rw [h]; simp))
    rw [sortT_mem m1]
    exact q p _ n0 ((S1.anti (T' := T) fun a h => .inl h).lay1 np (Ext.new np) (by rw [upd_same]; simp)) (s1.trans (Stp.new np)) ⟨(sortT ks).map V.str, upd_same, rp_strs _⟩
  · cases h3
end
end GD

set_option maxHeartbeats 4000000
namespace GD
open PySem PySem.Spec PyProof.Rows L2
theorem room1 {n c : Nat} (h : n + 64 < c) : n + 1 < c := by omega
theorem ps_forIt {X : Cx} {st : Stmt} {t : TS} (h : PS X st t) : PS X st (tOrS (tLock t) t) := ps_or (ps_lock h) h
section
variable {env e e0 e3 : En} {fw : EvW} {tg : D → En → Option En} {ft : EvT} {fe fk fv fz fd : EvE} {ds : List D} {vs : List Nat} {r r1 r2 r3 : R} {d d0 kd v z : D} {i : Nat}
def dcR2 : Option (List (L2.Key × D) × En) → Option (Mu × En)
  | some (kvs, e) => some (.m kvs, e)
  | none => none
def dcR (vs : List Nat) (tg : D → En → Option En) (ft : EvT) (fk fv : EvE) : Option (List D × En) → Option (Mu × En)
  | some (ds, e) => dcR2 (dcE vs tg ft fk fv ds [] (wipeE e vs))
  | none => none
theorem q_dc : eDC vs fw tg ft fk fv env = dcR vs tg ft fk fv (fw env) := by
  unfold eDC; cases h : fw env with
  | none => rfl
  | some p => simp only [Option.bind_some, dcR]; cases dcE vs tg ft fk fv p.1 [] (wipeE p.2 vs) <;> rfl
theorem q_dc1 : dcR vs tg ft fk fv (some (ds, e)) = dcR2 (dcE vs tg ft fk fv ds [] (wipeE e vs)) := rfl
theorem q_dc2 {kvs : List (L2.Key × D)} : dcR2 (some (kvs, e)) = some (.m kvs, e) := rfl
theorem c_toDm {kvs : List (L2.Key × D)} : Mu.toD (.m kvs) = .dict (kvs.map fun p => (keyD p.1, p.2)) := rfl
def dGet2 (d k : D) : Option (Option D) := (dictOf d).bind fun kvs => (keyOfD k).map fun k => valD kvs k
end
section
variable {env e e0 : En} {fd fk fz : EvE} {d d0 kd v z : D} {i : Nat} {p : Bool} {m : Mu}
theorem get2_val {r : R} {v z : D} {o : Option D} (h1 : fd env = some (r, env)) (h2 : fk env = some (.val kd, env)) (h3 : fz env = some (.val z, env)) (h4 : rs env r = some d) (h5 : dGet2 d kd = some o) : eGet2 fd fk fz env = some (.val (o.getD z), env) := by
  unfold dGet2 at h5
  simp only [Option.bind_eq_some_iff, Option.map_eq_some_iff] at h5
  obtain ⟨kvs, h6, k, h7, h8⟩ := h5
  unfold eGet2
  have h9 : rs env (.val kd) = some kd := rfl
  simp only [h1, h2, h3, h4, h6, h7, h8, h9, Option.bind_some]
  cases o <;> rfl
theorem q_dput {fe : EvE} {w kd : D} {k : L2.Key} {kvs : List (L2.Key × D)} (h1 : fe env = some (.val w, env)) (h2 : fk env = some (.val kd, env)) (h3 : keyOfD kd = some k) (h4 : ownOf env i = some (p, .m kvs)) (h5 : kvs.length ≤ 1000000) :
    sDPutE i fk fe env = some (.nx, env.set i (some (.own p (.m (putD kvs k w))))) := by
  unfold sDPutE
  simp only [h1, h2, h3, h4, Option.bind_some, rk, rs]
  rw [if_pos (by unfold small; exact decide_eq_true h5)]
theorem q_forItems {ff : D → En → Option En} {f : EvS} {kvs : List (L2.Key × D)} (h1 : slOf env i = some (.shr d)) (h2 : dictOf d = some kvs) (h3 : kvs.all (fun p => notE p.2) = true) : sForItems i ff f env = forE ff f (kvs.map fun p => .tuple [keyD p.1, p.2]) env := by
  unfold sForItems
  simp only [h1, h2, Option.bind_some]
  exact if_pos h3
end
theorem valD_eq {p : L2.Key × D} {l : List (L2.Key × D)} {k : L2.Key} (h : p.1 = k) : valD (p :: l) k = some p.2 := by
  unfold valD; rw [List.find?_cons]; simp [h]
theorem valD_neq {p : L2.Key × D} {l : List (L2.Key × D)} {k : L2.Key} (h : ¬ p.1 = k) : valD (p :: l) k = valD l k := by
  unfold valD; rw [List.find?_cons]; simp only [decide_eq_false h]
theorem valD_map {A : Type} (f : A → L2.Key) (g : A → D) (k : L2.Key) : ∀ l : List A, valD (l.map fun a => (f a, g a)) k = (l.find? fun a => decide (f a = k)).map g
  | [] => rfl
  | a :: l => by
    rw [List.map_cons, List.find?_cons]
    by_cases h : f a = k
    · rw [valD_eq (p := (f a, g a)) h]; simp [h]
    · rw [valD_neq (p := (f a, g a)) h]
      simp only [decide_eq_false h]
      exact valD_map f g k l
theorem valD_any (k : L2.Key) : ∀ kvs : List (L2.Key × D), (kvs.any fun kv => decide (kv.1 = k)) = (valD kvs k).isSome
  | [] => rfl
  | p :: l => by
    rw [List.any_cons]
    by_cases h : p.1 = k
    · rw [valD_eq h]; simp [h]
    · rw [valD_neq h, decide_eq_false h, Bool.false_or]; exact valD_any k l
theorem valD_mapPut (k j : L2.Key) (d : D) : ∀ kvs : List (L2.Key × D), valD (kvs.map fun kv => if kv.1 = k then (kv.1, d) else kv) j = (valD kvs j).map fun x => if j = k then d else x
  | [] => rfl
  | p :: l => by
    have ih := valD_mapPut k j d l
    rw [List.map_cons]
    by_cases h : p.1 = k
    · rw [if_pos h]
      by_cases hj : p.1 = j
      · rw [valD_eq (p := (p.1, d)) hj, valD_eq hj, Option.map_some, if_pos (hj.symm.trans h)]
      · rw [valD_neq (p := (p.1, d)) hj, valD_neq hj, ih]
    · rw [if_neg h]
      by_cases hj : p.1 = j
      · rw [valD_eq hj, valD_eq hj, Option.map_some, if_neg fun z => h (hj.trans z)]
      · rw [valD_neq hj, valD_neq hj, ih]
theorem valD_snoc {k j : L2.Key} {d : D} : ∀ {kvs : List (L2.Key × D)}, valD kvs k = none → valD (kvs ++ [(k, d)]) j = if j = k then some d else valD kvs j
  | [], _ => by
    by_cases h : k = j
    · rw [List.nil_append, valD_eq (p := (k, d)) h, if_pos h.symm]
    · rw [List.nil_append, valD_neq (p := (k, d)) h, if_neg fun z => h z.symm]
  | p :: l, hn => by
    have hk : ¬ p.1 = k := fun z => by rw [valD_eq z] at hn; cases hn
    rw [valD_neq hk] at hn
    have ih := valD_snoc (j := j) (d := d) hn
    rw [List.cons_append]
    by_cases hj : p.1 = j
    · rw [valD_eq hj, valD_eq hj, if_neg fun z => hk (hj.trans z)]
    · rw [valD_neq hj, valD_neq hj, ih]
theorem valD_put {kvs : List (L2.Key × D)} {k j : L2.Key} {d : D} : valD (putD kvs k d) j = if j = k then some d else valD kvs j := by
  unfold putD
  rw [valD_any]
  cases h : valD kvs k with
  | some x =>
    simp only [Option.isSome_some, if_true]
    rw [valD_mapPut]
    by_cases hj : j = k
    · subst hj; rw [h]; simp
    · simp only [if_neg hj]; cases valD kvs j <;> rfl
  | none =>
    simp only [Option.isSome_none, Bool.false_eq_true, if_false]
    exact valD_snoc h
theorem putD_len (kvs : List (L2.Key × D)) (k : L2.Key) (d : D) : (putD kvs k d).length ≤ kvs.length + 1 := by
  unfold putD
  split <;> simp
end GD

set_option maxHeartbeats 4000000
namespace GD
open PySem PySem.Spec PyProof.Rows L2
section
variable {K : PySem.W.Frag}
end
end GD

set_option maxHeartbeats 4000000
namespace GD
open PySem PySem.Spec PyProof.Rows L2
def plnD : D → Option V
  | .none => some .non
  | .bool b => some (.bl b)
  | .int i => some (.int i)
  | .str x => some (.str x)
  | _ => none
def plnsD : List D → Option (List V)
  | [] => some []
  | d :: ds => (plnD d).bind fun v => (plnsD ds).map fun vs => v :: vs
theorem plnD_ok {K : PySem.W.Frag} {O : Addr → Prop} {H : Hp} {v w : V} {d : D} (r : Rp K O H v d) (h : plnD d = some w) : v = w ∧ flatV w = true := by
  cases d with
  | none => cases h; exact ⟨Rp.scN r, rfl⟩
  | bool b => cases h; exact ⟨Rp.scB r, rfl⟩
  | int i => cases h; exact ⟨Rp.sc r, rfl⟩
  | str x => cases h; exact ⟨Rp.scS r, rfl⟩
  | _ => cases h
theorem plnD_lv {K : PySem.W.Frag} {O : Addr → Prop} {H : Hp} {v w : V} {d : D} (r : Lv K O H v d) (h : plnD d = some w) : v = w ∧ flatV w = true := by
  cases d with
  | none => exact plnD_ok (show Rp K O H v .none from r) h
  | bool b => exact plnD_ok (show Rp K O H v (.bool b) from r) h
  | int i => exact plnD_ok (show Rp K O H v (.int i) from r) h
  | str x => exact plnD_ok (show Rp K O H v (.str x) from r) h
  | _ => cases h
theorem plnsD_ok {K : PySem.W.Frag} {O : Addr → Prop} {H : Hp} : ∀ {vs ws : List V} {ds : List D}, RpAll K O H vs ds → plnsD ds = some ws → vs = ws ∧ ws.all flatV = true
  | [], ws, [], _, h => by cases h; exact ⟨rfl, rfl⟩
  | v :: vs, ws, d :: ds, .cons r t, h => by
    simp only [plnsD, Option.bind_eq_some_iff, Option.map_eq_some_iff] at h
    obtain ⟨w, h1, l, h2, rfl⟩ := h
    obtain ⟨rfl, f1⟩ := plnD_ok r h1
    obtain ⟨rfl, f2⟩ := plnsD_ok t h2
    exact ⟨rfl, by rw [List.all_cons, f1, f2]; rfl⟩
def seqOf : D → Option (List D)
  | .list ds => some ds
  | .tuple ds => some ds
  | _ => none
def inF (neg : Bool) (x y : D) : Option D := (plnD x).bind fun v => (seqOf y).bind fun ds => (plnsD ds).map fun vs => .bool (if neg then !inV v vs else inV v vs)
def dInF : D → D → Option D := inF false
section
variable {K : PySem.W.Frag}
theorem od_inFn (neg : Bool) : OpD K (rIn K neg) (inF neg) := by
  intro O H x y d e z hO l1 l2 hz Q q
  simp only [inF, Option.bind_eq_some_iff, Option.map_eq_some_iff] at hz
  obtain ⟨v, h1, ds, h2, vs, h3, rfl⟩ := hz
  obtain ⟨rfl, f1⟩ := plnD_lv l1 h1
  cases e with
  | list es =>
    cases h2
    obtain ⟨a, xs, rfl, s, r⟩ := l2
    obtain ⟨rfl, f2⟩ := plnsD_ok r h3
    exact ⟨a, _, rfl, .inl (.inl (.inl s)), f1, f2, q _ H Ext.refl (.bl _)⟩
  | tuple es =>
    cases h2
    obtain ⟨a, xs, rfl, h, r, _⟩ := Rp.tupI l2
    obtain ⟨rfl, f2⟩ := plnsD_ok r h3
    exact ⟨a, _, rfl, .inr h, f1, f2, q _ H Ext.refl (.bl _)⟩
  | _ => cases h2
theorem od_inF : OpD K (rIn K false) dInF := od_inFn false
def minI : List Int → Int
  | [] => 0
  | [x] => x
  | x :: y :: l => min x (minI (y :: l))
theorem minI_spec : ∀ l : List Int, l ≠ [] → minI l ∈ l ∧ ∀ y ∈ l, minI l ≤ y
  | [], h => absurd rfl h
  | [x], _ => ⟨List.mem_singleton.mpr rfl, fun y hy => by rw [List.mem_singleton.mp hy]; exact Int.le_refl _⟩
  | x :: y :: l, _ => by
    obtain ⟨h1, h2⟩ := minI_spec (y :: l) (by simp)
    show min x (minI (y :: l)) ∈ _ ∧ ∀ z ∈ _, min x (minI (y :: l)) ≤ z
    refine ⟨?_, fun z hz => ?_⟩
    · by_cases c : x ≤ minI (y :: l)
      · rw [Int.min_eq_left c]; exact List.mem_cons_self ..
      · rw [Int.min_eq_right (by omega)]; exact List.mem_cons_of_mem _ h1
    · rcases List.mem_cons.mp hz with rfl | hz
      · exact Int.min_le_left ..
      · exact Int.le_trans (Int.min_le_right ..) (h2 z hz)
def cMinL : List D → Option D
  | [.list ds] => (intsOf ds).bind fun ns => if ns = [] then none else some (.int (minI ns))
  | _ => none
theorem cd_minL : CaD K (rMin K) cMinL := by
  intro O H xs ds z hO l hz Q q
  match ds, hz, l with
  | [.list es], hz, l =>
    simp only [cMinL, Option.bind_eq_some_iff] at hz
    obtain ⟨ns, h1, h2⟩ := hz
    split at h2
    · cases h2
    · rename_i hne
      cases h2
      obtain ⟨v, rfl, a, ys, rfl, s1, r1⟩ := LvAll.one l
      have ex := intsOf_ok r1 h1
      subst ex
      have hp : 0 < ns.length := by cases ns with
        | nil => exact absurd rfl hne
        | cons _ _ => simp
      refine ⟨a, ns, rfl, .inl (.inl s1), hp, fun m hm hy => ?_⟩
      obtain ⟨g1, g2⟩ := minI_spec ns hne
      have : m = minI ns := by have := hy _ g1; have := g2 _ hm; omega
      subst this
      exact q _ H Ext.refl (.int _)
theorem c_minL {ns : List Int} (h : ns ≠ []) : cMinL [.list (ns.map .int)] = some (.int (minI ns)) := by
  show (intsOf (ns.map .int)).bind _ = _
  rw [intsOf_map, Option.bind_some, if_neg h]
end
end GD

set_option maxHeartbeats 4000000
namespace GD
open PySem PySem.Spec PyProof.Rows L2
def rest (its : List (Addr × List Value)) (i : Nat) : List Value := ((its.drop i).map (·.2)).flatten
section
variable {P : Program} {w : World} {A : Around} {E : Value → Shared → Prop} {s : Shared}
end
end GD

set_option maxHeartbeats 4000000
namespace GD
open PySem PySem.Spec PyProof.Rows L2
section
variable {P : Program} {w : World} {A : Around} {E : Value → Shared → Prop} {s : Shared}
end
end GD

set_option maxHeartbeats 4000000
namespace GD
open PySem PySem.Spec PyProof.Rows L2
section
variable {X : Cx} {pins : List (Addr × Obj)} {σ : L2.St} {H : Hp} {s : Shared}
end
section
variable {K : PySem.W.Frag}
end
end GD

set_option maxHeartbeats 4000000
namespace GD
open PySem PySem.Spec PyProof.Rows L2
section
variable {P : Program} {w : World} {A : Around} {E : Value → Shared → Prop} {s : Shared}
end
section
variable {X : Cx}
end
end GD

set_option maxHeartbeats 4000000
namespace GD
open PySem PySem.Spec PyProof.Rows L2
section
variable {P : Program} {w : World} {K : PySem.W.Frag} {ta tb te : TE} {fa fb : EvSet} {fe : EvE}
end
end GD

set_option maxHeartbeats 400000
namespace GD
open PySem PySem.Spec PyProof.Rows L2
section
variable {K : PySem.W.Frag} {te : TE} {fe : EvE}
end
end GD

set_option maxHeartbeats 400000
namespace GD
open PySem PySem.Spec PyProof.Rows L2
section
variable {K : PySem.W.Frag}
end
end GD

set_option maxHeartbeats 1000000
namespace GD
open PySem PySem.Spec PyProof.Rows L2
open PySem.W (EachIs AllAlike Sortable SortsAt dataKind sortVals alike)
def rSortD (K : PySem.W.Frag) : List V → Hp → VK → Prop := fun vs H Q => ∃ (a : Addr) (bs : List (V × D)), vs = [V.ref a] ∧ SqL K H a (bs.map (·.1)) ∧ (∀ p ∈ bs, Dp K H p.1 p.2) ∧ AllAlike (bs.map (·.2)) ∧ Sortable (bs.map (·.2)) ∧ (∀ d ∈ bs.map (·.2), d.depth ≤ 60) ∧
  ∀ p, H p = none → Q (.ref p) (upd H p (.lst ((bs.mergeSort (PySem.W.dataLe false fun q : V × D => q.2)).map (·.1))))
theorem each_vals {R : Value → V × D → Prop} (hR : ∀ u p, R u p → RelV p.1 u) : ∀ {us : List Value} {bs : List (V × D)}, EachIs R us bs → Vals (bs.map (·.1)) us
  | _, _, .nil => .nil
  | _, _, .cons h t => .cons (hR _ _ h) (each_vals hR t)
theorem vals_each : ∀ {us : List Value} {bs : List (V × D)}, Vals (bs.map (·.1)) us → EachIs (fun u p => RelV p.1 u ∧ p ∈ bs) us bs := by
  intro us bs
  suffices h : ∀ (bs cs : List (V × D)) (us : List Value), (∀ p ∈ bs, p ∈ cs) → Vals (bs.map (·.1)) us → EachIs (fun u p => RelV p.1 u ∧ p ∈ cs) us bs from h bs bs us fun _ h => h
  intro bs cs
  induction bs with
  | nil => intro us _ h; rw [Vals.zero h]; exact .nil
  | cons b bs ih =>
    intro us hm h
    cases h with
    | cons r t => exact .cons ⟨r, hm b List.mem_cons_self⟩ (ih _ (fun p hp => hm p (List.mem_cons_of_mem _ hp)) t)
theorem each_imp {α β : Type} {R S : α → β → Prop} (h : ∀ a b, R a b → S a b) : ∀ {as : List α} {bs : List β}, EachIs R as bs → EachIs S as bs
  | _, _, .nil => .nil
  | _, _, .cons r t => .cons (h _ _ r) (each_imp h t)
theorem each_map2 {α : Type} {R : α → D → Prop} : ∀ {as : List α} {bs : List (V × D)}, EachIs (fun a p => R a p.2) as bs → EachIs R as (bs.map (·.2))
  | _, _, .nil => .nil
  | _, _, .cons r t => .cons r (each_map2 t)
section
variable {X : Cx}
theorem cr_sortD (hu : X.A.units + 64 < cLine) : CallR X (.builtin "sorted") (rSortD X.K) := by
  intro pins s σ H vs us Q I r h
  obtain ⟨a, bs, rfl, hS, hD, hal, hso, hdp, q⟩ := h
  rw [Vals.ref1 r]
  obtain ⟨its, rv, hl, hz⟩ := I.list hS
  have ev := vals_each rv
  have er : ∀ h' : Heap, (∀ b o, s.heap.get? b = some o → h'.get? b = some o) → EachIs (fun v p => ∃ as, Reads h' v p.2 as) its bs := fun h' k => each_imp (fun u p ⟨r1, m1⟩ => by
    obtain ⟨as, rd⟩ := Dp.reads I p.2 p.1 u (hD p m1) r1
    exact ⟨as, Reads.keeps k rd⟩) ev
  have hold : ∀ b o, s.heap.get? b = some o → (PySem.W.sortingHeap (PySem.W.copyHeap s.heap its) (s.heap.objs.size + 1) its).get? b = some o := fun b o e => PySem.W.sorting_copy_old e
  have er2 := er _ hold
  have S := SortsAt.data (prog := X.prog) (w := X.w) (A := X.A.in1.in1) (s := { s with heap := PySem.W.sortingHeap (PySem.W.copyHeap s.heap its) (s.heap.objs.size + 1) its }) (each_map2 er2) hal hso fun d hd => by
    have := hdp d hd
    show X.A.units + 1 + 1 + d.depth < cLine
    omega
  refine PySem.W.sorted_vals hl.isList S (by rw [← rv.length]; exact hz) ?_
  have so := PySem.W.sortVals_data (enc := fun q : V × D => q.2) false (each_imp (S := fun u p => RelV p.1 u) (fun _ _ h => h.1) ev) er2 hal
  have vv := each_vals (fun _ _ h => h) so
  obtain ⟨ep, hat⟩ := PyProof.Rows.sortedAll_at s.heap its (sortVals (dataKind (PySem.W.sortingHeap (PySem.W.copyHeap s.heap its) (s.heap.objs.size + 1) its) (bs.map fun q => q.2)) false its its).toArray
  have hlen : ((bs.mergeSort (PySem.W.dataLe false fun q : V × D => q.2)).map (·.1)).length ≤ sizeLine := by
    rw [List.length_map, List.length_mergeSort]
    rw [List.length_map] at hz
    exact hz
  exact ⟨.ref _, upd H (s.heap.objs.size + 1) (.lst ((bs.mergeSort (PySem.W.dataLe false fun q : V × D => q.2)).map (·.1))), I.laid (t' := s.toks) (fun _ _ => PyProof.Rows.sortedAll_old) (Nat.le_succ _) ⟨hlen, _, ep, vv, hat⟩, rfl, q _ (I.hok.fresh (Nat.le_succ _))⟩
end
end GD

set_option maxHeartbeats 1000000
namespace GD
open PySem PySem.Spec PyProof.Rows L2
open PySem.W (EachIs AllAlike Sortable SortsAt alike)
def isTup1 : D → Bool
  | .tuple (_ :: _) => true
  | _ => false
def notTup : D → Bool
  | .none => false
  | .tuple _ => false
  | _ => true
def srtOk (ds : List D) : Bool := (ds.all fun d => ds.all fun d' => alike d d') && ((ds.all isTup1 || ds.all notTup) && (ds.all (fun d => decide (d.depth ≤ 60)) && !PyData.hasDictAll ds))
abbrev leD : D → D → Bool := PySem.W.dataLe false fun d : D => d
def cSrtD : List D → Option Mu
  | [.list ds] => if srtOk ds = true then some (.l (ds.mergeSort leD)) else none
  | _ => none
theorem srtOk_ok {ds : List D} (h : srtOk ds = true) : AllAlike ds ∧ Sortable ds ∧ (∀ d ∈ ds, d.depth ≤ 60) ∧ PyData.hasDictAll ds = false := by
  unfold srtOk at h
  simp only [Bool.and_eq_true, Bool.or_eq_true, Bool.not_eq_true', List.all_eq_true, decide_eq_true_eq] at h
  obtain ⟨h1, h2, h3, h4⟩ := h
  refine ⟨fun d hd d' hd' => h1 d hd d' hd', ?_, h3, h4⟩
  rcases h2 with h2 | h2
  · refine .inl fun d hd => ?_
    have := h2 d hd
    match d, this with
    | .tuple (x :: r), _ => exact ⟨x, r, rfl⟩
  · refine .inr fun d hd => ⟨fun e => ?_, fun xs e => ?_⟩
    · have := h2 d hd
      rw [e] at this; cases this
    · have := h2 d hd
      rw [e] at this; cases this
section
variable {K : PySem.W.Frag}
theorem rp_zip {O : Addr → Prop} {H : Hp} : ∀ {xs : List V} {ds : List D}, RpAll K O H xs ds → (xs.zip ds).map (·.1) = xs ∧ (xs.zip ds).map (·.2) = ds ∧ ∀ p ∈ xs.zip ds, Rp K O H p.1 p.2
  | _, _, .nil => ⟨rfl, rfl, fun _ h => (List.not_mem_nil h).elim⟩
  | x :: xs, d :: ds, .cons r t => by
    obtain ⟨h1, h2, h3⟩ := rp_zip t
    refine ⟨by rw [List.zip_cons_cons, List.map_cons, h1], by rw [List.zip_cons_cons, List.map_cons, h2], fun p hp => ?_⟩
    rcases List.mem_cons.mp (show p ∈ (x, d) :: xs.zip ds from hp) with rfl | hp
    · exact r
    · exact h3 p hp
theorem rp_unzip {O : Addr → Prop} {H : Hp} : ∀ {bs : List (V × D)}, (∀ p ∈ bs, Rp K O H p.1 p.2) → RpAll K O H (bs.map (·.1)) (bs.map (·.2))
  | [], _ => .nil
  | b :: bs, h => .cons (h b List.mem_cons_self) (rp_unzip fun p hp => h p (List.mem_cons_of_mem _ hp))
theorem noDict_of {ds : List D} (h : PyData.hasDictAll ds = false) : ∀ d ∈ ds, d.hasDict = false := by
  induction ds with
  | nil => exact fun d hd => (List.not_mem_nil hd).elim
  | cons x ds ih =>
    rw [PyData.hasDictAll, Bool.or_eq_false_iff] at h
    intro d hd
    rcases List.mem_cons.mp hd with rfl | hd
    · exact h.1
    · exact ih h.2 d hd
theorem cm_srtD : CaM K (rSortD K) cSrtD := by
  intro O H xs ds z hO l hz Q q
  match ds, hz, l with
  | [.list es], hz, l =>
    simp only [cSrtD] at hz
    split at hz
    · rename_i hc
      obtain ⟨k1, k2, k3, k4⟩ := srtOk_ok hc
      cases hz
      obtain ⟨v, rfl, a, ys, rfl, s1, r1⟩ := LvAll.one l
      obtain ⟨z1, z2, z3⟩ := rp_zip r1
      refine ⟨a, ys.zip es, rfl, by rw [z1]; exact .inl (.inl s1), fun p hp => ?_, by rw [z2]; exact k1, by rw [z2]; exact k2, by rw [z2]; exact k3, fun p np => q p _ np (ext_new np) (new_lst np ?_)⟩
      · exact (z3 p hp).dp (noDict_of k4 _ (by rw [← z2]; exact List.mem_map_of_mem hp))
      · have e : es.mergeSort leD = ((ys.zip es).mergeSort (PySem.W.dataLe false fun q : V × D => q.2)).map (·.2) := by
          have m := List.map_mergeSort (f := fun q : V × D => q.2) (r := PySem.W.dataLe false fun q : V × D => q.2) (s := leD) (l := ys.zip es) (fun a _ b _ => rfl)
          rw [m, z2]
        rw [e]
        exact rp_unzip fun p hp => z3 p (List.mem_mergeSort.mp hp)
    · cases hz
end
def tupI (l : List Int) : D := .tuple (l.map .int)
theorem alike_ints : ∀ l m : List Int, PySem.W.alikeAll (l.map PyData.int) (m.map PyData.int) = true
  | [], _ => by simp [PySem.W.alikeAll]
  | _ :: _, [] => by simp [PySem.W.alikeAll]
  | x :: l, y :: m => by
    rw [List.map_cons, List.map_cons, PySem.W.alikeAll, alike_ints l m, PySem.W.alike]; rfl
theorem ints_depth : ∀ l : List Int, PyData.depthAll (l.map PyData.int) ≤ 0 ∧ PyData.hasDictAll (l.map PyData.int) = false
  | [] => ⟨by simp [PyData.depthAll], by simp [PyData.hasDictAll]⟩
  | x :: l => by
    obtain ⟨h1, h2⟩ := ints_depth l
    refine ⟨?_, ?_⟩
    · rw [List.map_cons, PyData.depthAll, PyData.depth]; omega
    · rw [List.map_cons, PyData.hasDictAll, h2, PyData.hasDict]; rfl
theorem tups_noDict : ∀ ls : List (List Int), PyData.hasDictAll (ls.map tupI) = false
  | [] => by simp [PyData.hasDictAll]
  | l :: ls => by
    rw [List.map_cons, PyData.hasDictAll, tups_noDict ls, tupI, PyData.hasDict, (ints_depth l).2]; rfl
theorem srtOk_tups {ls : List (List Int)} (h : ∀ l ∈ ls, l ≠ []) : srtOk (ls.map tupI) = true := by
  unfold srtOk
  rw [tups_noDict]
  simp only [Bool.and_eq_true, Bool.or_eq_true, List.all_eq_true, decide_eq_true_eq, List.mem_map, forall_exists_index, and_imp]
  refine ⟨?_, .inl ?_, ?_, rfl⟩
  · rintro d l hl rfl d' m hm rfl
    show PySem.W.alikeAll _ _ = true
    exact alike_ints l m
  · rintro d l hl rfl
    match l, h l hl with
    | x :: r, _ => rfl
  · rintro d l hl rfl
    rw [tupI, PyData.depth]
    have := (ints_depth l).1
    omega
theorem leD_tups (l m : List Int) : leD (tupI l) (tupI m) = !decide (m < l) := by
  show (!PySem.W.dataLt (tupI m) (tupI l)) = _
  unfold tupI
  rw [PySem.W.dataLt_tuple]
  show (!PySem.W.rowLt _ _) = _
  rw [PySem.W.dataLt_ints]
theorem c_srtD_asc {ls : List (List Int)} (h : ∀ l ∈ ls, l ≠ []) (hp : ls.Pairwise fun a b => a.headD 0 < b.headD 0) : cSrtD [.list (ls.map tupI)] = some (.l (ls.map tupI)) := by
  have : (ls.map tupI).mergeSort leD = ls.map tupI := List.mergeSort_of_pairwise (by
    rw [List.pairwise_map]
    refine List.Pairwise.imp_of_mem (fun {a b} ha hb hab => ?_) hp
    rw [leD_tups]
    match a, b, h a ha, h b hb with
    | x :: a, y :: b, _, _ =>
      have hab : x < y := hab
      simp only [Bool.not_eq_true', decide_eq_false_iff_not]
      intro hlt
      rcases List.cons_lt_cons_iff.mp hlt with h | ⟨h, _⟩ <;> omega)
  simp only [cSrtD, srtOk_tups h, if_true, this]
end GD

namespace GD
open PySem PySem.Spec PyProof.Rows L2
end GD

namespace GD
open PySem PySem.Spec PyProof.Rows L2
section
variable {K : PySem.W.Frag}
end
end GD

namespace GD
open PySem PySem.Spec PyProof.Rows L2
end GD

set_option maxHeartbeats 4000000
namespace GD
open PySem PySem.Spec PyProof.Rows L2
section
variable {X : Cx}
end
section
variable {P : Program} {w : World} {K : PySem.W.Frag} {ta tb te : TE} {fe : EvE}
end
end GD

namespace GD
open PySem PySem.Spec PyProof.Rows L2
section
variable {K : PySem.W.Frag} {te tk tx : TE} {fe fk fx : EvE}
end
end GD

namespace GD
open PySem PySem.Spec PyProof.Rows L2
section
variable {P : Program} {w : World} {K : PySem.W.Frag} {ta tb te : TE} {fa fb fe : EvE}
end
end GD

namespace GD
open PySem PySem.Spec PyProof.Rows L2
end GD

namespace GD
open PySem PySem.Spec PyProof.Rows L2
open PySem.W (alike dataLt)
section
variable {K : PySem.W.Frag}
end
end GD

namespace GD
open PySem PySem.Spec PyProof.Rows L2
section
variable {K : PySem.W.Frag}
end
end GD

namespace GD
end GD

namespace GD
open PySem PySem.Spec PyProof.Rows L2 GDX
def tupAt (H : Hp) (a : Addr) : Prop := (∃ xs, H a = some (.tup xs)) ∨ ∃ o u, H a = some (.frz o u)
theorem rd_tupAt {H : Hp} {a : Addr} {xs : List V} (h : Rd H a (.tup xs)) : tupAt H a := h.imp (fun e => ⟨xs, e⟩) fun ⟨o, e⟩ => ⟨o, _, e⟩
def NewP (H : Hp) (a : Addr) : Prop := H a ≠ none ∧ ¬ tupAt H a
section
variable {K : PySem.W.Frag} {O O' : Addr → Prop} {H H' : Hp}
theorem Rp.flatN {v : V} {d : D} (ho : ∀ b, O' b → O b ∨ ¬ tupAt H b) (h : flatD d = true) (r : Rp K O H v d) : Rp K O' H v d := by
  cases r with
  | tup hs t =>
    refine .tup ⟨hs.1.imp (fun q => ⟨q.1, fun z => (ho _ z).elim q.2 fun n => n (rd_tupAt q.1)⟩) id, fun z => ?_⟩ (RpAll.scal h t)
    rcases hs.2 z with ⟨o, u, e, h1, n⟩ | h1
    · exact .inl ⟨o, u, e, h1, fun z => (ho _ z).elim n fun n => n (.inr ⟨o, _, e⟩)⟩
    · exact .inr h1
  | non => exact .non
  | bl b => exact .bl b
  | int i => exact .int i
  | str x => exact .str x
  | _ => cases h
theorem RpAll.flatN (ho : ∀ b, O' b → O b ∨ ¬ tupAt H b) : ∀ {vs : List V} {ds : List D}, ds.all flatD = true → RpAll K O H vs ds → RpAll K O' H vs ds
  | _, [], _, .nil => .nil
  | _, d :: ds, h, .cons r t => by
    rw [List.all_cons, Bool.and_eq_true] at h
    exact .cons (Rp.flatN ho h.1 r) (RpAll.flatN ho h.2 t)
theorem tupAt.ext {W : Addr → Prop} (x : Ext W H H') {a : Addr} (n : ¬ W a) (h : tupAt H a) : tupAt H' a := by
  rcases h with ⟨xs, h⟩ | ⟨o, u, h⟩
  · exact .inl ⟨xs, x.same a _ h n⟩
  · exact .inr ⟨o, u, x.same a _ h n⟩
abbrev EvF := En → Option (D × En)
def PartsN (K : PySem.W.Frag) (Hb H : Hp) (v : V) (es : List D) (n : Nat) : Prop := ∃ (t : Addr) (xs : List V), v = .ref t ∧ SqT K H t xs ∧ ∀ (i : Nat) (ds : List D), es[i]? = some (.list ds) → ds.all flatD = true →
  ∃ (p : Addr) (ys : List V) (ds' : List D), xs[i]? = some (.ref p) ∧ Hb p = none ∧ H p = some (.lst ys) ∧ RpAll K (NewP H) H ys ds' ∧ ds'.all flatD = true ∧ ds'.length ≤ ds.length + n
theorem rpN_ext {W : Addr → Prop} (x : Ext W H H') (hw : ∀ a, W a → ¬ tupAt H a) {ys : List V} {ds : List D} (r : RpAll K (NewP H) H ys ds) (hf : ds.all flatD = true) : RpAll K (NewP H') H' ys ds := by
  have r1 : RpAll K (fun a => NewP H a ∨ H a = none) H ys ds := r.flatN (fun b hb => hb.imp id fun z q => by
    rcases q with ⟨xs, q⟩ | ⟨o, u, q⟩ <;> (rw [z] at q; cases q)) hf
  refine r1.tr (fun a o e n z => z.2 ?_) fun a o n e => x.same a o e ?_
  · have ht : tupAt H a := Classical.byContradiction fun q => n (.inl ⟨by rw [e]; simp, q⟩)
    exact fun z => hw a z ht
  · have ht : tupAt H a := Classical.byContradiction fun q => n (.inl ⟨by rw [e]; simp, q⟩)
    exact ht.ext x fun z => hw a z ht
theorem sqT_ext {W : Addr → Prop} (x : Ext W H H') (hw : ∀ a, W a → ¬ tupAt H a) {t : Addr} {xs : List V} (h : SqT K H t xs) : SqT K H' t xs := by
  rcases h with h | h
  · have ht : tupAt H t := rd_tupAt h
    have nw : ¬ W t := fun z => hw t z ht
    rcases h with h | ⟨o, h⟩
    · exact .inl (.inl (x.same t _ h nw))
    · exact .inl (.inr ⟨o, x.same t _ h nw⟩)
  · exact .inr h
theorem PartsN.lay {Hb : Hp} {v : V} {es : List D} {n : Nat} (x : Ext (fun _ => False) H H') (P : PartsN K Hb H v es n) : PartsN K Hb H' v es n := by
  obtain ⟨t, xs, rfl, ht, h⟩ := P
  refine ⟨t, xs, rfl, sqT_ext x (fun _ z => z.elim) ht, fun i ds hi hf => ?_⟩
  obtain ⟨p, ys, ds', a1, a2, a3, a4, a5, a6⟩ := h i ds hi hf
  exact ⟨p, ys, ds', a1, a2, x.same p _ a3 id, rpN_ext x (fun _ z => z.elim) a4 a5, a5, a6⟩
end
section
variable {fc : EvF} {bs : List Bool} {js ks is : List Nat} {f : EvS} {j : Nat} {ft : EvT} {env e e1 e2 e3 : En} {d : D} {b : Bool} {M : FnX} {fl fk : EvA} {pm : List R → List R → List R} {ds : List D} {l w : List R} {nm fd : Str}
end
end GD

namespace GD
open PySem PySem.Spec PyProof.Rows L2
section
variable {X : Cx}
end
section
variable {K : PySem.W.Frag}
end
section
variable {g : D → List D → Option D} {fe : EvE} {fl : EvA} {env e : En} {r : R} {d : D} {l : List R} {ds : List D}
end
end GD

namespace GD
open PySem PySem.Spec PyProof.Rows L2 GDX
section
variable {K : PySem.W.Frag}
end
section
variable {M : FnX} {fa : EvA} {env e : En} {l : List R} {dd ds : List D}
end
theorem lt_cps : ∀ l r : List Nat, ltCps l r = true ↔ l < r
  | [], [] => by simp [ltCps]
  | [], _ :: _ => by simp [ltCps]
  | _ :: _, [] => by simp [ltCps]
  | a :: l, b :: r => by
    rw [ltCps, List.cons_lt_cons_iff, Bool.or_eq_true, Bool.and_eq_true, decide_eq_true_eq, beq_iff_eq, lt_cps l r]
theorem leD_str (a b : Str) : leD (.str a) (.str b) = true ↔ ¬ ltT b a := by
  show (!PySem.W.dataLt (.str b) (.str a)) = true ↔ _
  rw [PySem.W.dataLt_str, Bool.not_eq_true', decide_eq_false_iff_not]
  unfold ltT
  rw [lt_cps]
theorem srtOk_strs (ws : List Str) : srtOk (ws.map .str) = true := by
  have h1 : ∀ ws : List Str, PyData.hasDictAll (ws.map PyData.str) = false := fun ws => by
    induction ws with
    | nil => simp [PyData.hasDictAll]
    | cons w ws ih => rw [List.map_cons, PyData.hasDictAll, ih]; rfl
  unfold srtOk
  rw [h1]
  simp only [Bool.and_eq_true, Bool.or_eq_true, List.all_eq_true, List.mem_map, decide_eq_true_eq, Bool.not_false, and_true]
  refine ⟨?_, .inr ?_, ?_⟩
  · rintro x ⟨a, _, rfl⟩ y ⟨b, _, rfl⟩; rfl
  · rintro x ⟨a, _, rfl⟩; rfl
  · rintro x ⟨a, _, rfl⟩; exact Nat.zero_le _
noncomputable def srtW (ws : List Str) : List Str := ws.mergeSort fun a b => decide (¬ ltT b a)
theorem srtW_eq (ws : List Str) : (ws.map PyData.str).mergeSort leD = (srtW ws).map .str := by
  unfold srtW
  rw [List.map_mergeSort (s := leD) (f := PyData.str) (r := fun a b => decide (¬ ltT b a))]
  intro a _ b _
  rw [Bool.eq_iff_iff, decide_eq_true_eq, leD_str]
theorem c_srtW {ws : List Str} : cSrtD [.list (ws.map .str)] = some (.l ((srtW ws).map .str)) := by
  show (if srtOk (ws.map PyData.str) = true then some (Mu.l ((ws.map PyData.str).mergeSort leD)) else none) = _
  rw [if_pos (srtOk_strs ws), srtW_eq]
end GD

namespace GD
open PySem PySem.Spec PyProof.Rows L2
section
variable {X : Cx} {CX : CXT} {k1 k2 : Nat} {f1 f2 : Addr} {fd1 fd2 : FuncData} {ps1 ps2 : List Str} {sp1 sp2 : Sp} {E : XK} {pos : Pos} {e func : Expr} {es : List Expr} {t : TA} {tf : TE}
end
section
variable {K : PySem.W.Frag}
end
section
variable {fi : EvE} {M1 M2 : FnS} {fa : EvA} {env e : En} {r : R}
end
end GD

namespace GD
open PySem PySem.Spec PyProof.Rows L2
section
variable {K : PySem.W.Frag} {t1 t2 : TE} {f1 f2 : EvM}
end
section
variable {i j : Nat} {f1 f2 : EvM} {env e : En} {m m' : Mu}
end
end GD

namespace GD
open PySem PySem.Spec PyProof.Rows L2 GDX
section
variable {X : Cx}
end
section
variable {K : PySem.W.Frag} {te : TE} {fe : EvE}
end
section
variable {K : PySem.W.Frag} {O O' : Addr → Prop} {H H' : Hp}
def PartsL (K : PySem.W.Frag) (Hb H : Hp) (v : V) (es : List D) (n : Nat) : Prop := ∃ (t : Addr) (xs : List V), v = .ref t ∧ SqT K H t xs ∧ xs.length = es.length ∧
  (∀ (i : Nat) (d : D), es[i]? = some d → scalD d = true → ∃ x, xs[i]? = some x ∧ ∀ (O : Addr → Prop) (H : Hp), Rp K O H x d) ∧
  ∀ (i : Nat) (ds : List D), es[i]? = some (.list ds) → ds.all flatD = true →
  ∃ (p : Addr) (ys : List V) (ds' : List D), xs[i]? = some (.ref p) ∧ Hb p = none ∧ H p = some (.lst ys) ∧ RpAll K (NewP H) H ys ds' ∧ ds'.all flatD = true ∧ ds'.length ≤ ds.length + n
theorem PartsL.lay {Hb : Hp} {v : V} {es : List D} {n : Nat} (x : Ext (fun _ => False) H H') (P : PartsL K Hb H v es n) : PartsL K Hb H' v es n := by
  obtain ⟨t, xs, rfl, ht, hl, hs, h⟩ := P
  refine ⟨t, xs, rfl, sqT_ext x (fun _ z => z.elim) ht, hl, hs, fun i ds hi hf => ?_⟩
  obtain ⟨p, ys, ds', a1, a2, a3, a4, a5, a6⟩ := h i ds hi hf
  exact ⟨p, ys, ds', a1, a2, x.same p _ a3 id, rpN_ext x (fun _ z => z.elim) a4 a5, a5, a6⟩
theorem PartsL.more {Hb : Hp} {v : V} {es : List D} {n : Nat} (P : PartsL K Hb H v es n) : PartsL K Hb H v es (n + 1) := by
  obtain ⟨t, xs, rfl, ht, hl, hs, h⟩ := P
  refine ⟨t, xs, rfl, ht, hl, hs, fun i ds hi hf => ?_⟩
  obtain ⟨p, ys, ds', a1, a2, a3, a4, a5, a6⟩ := h i ds hi hf
  exact ⟨p, ys, ds', a1, a2, a3, a4, a5, by omega⟩
end
section
variable {fc : EvF} {bs : List Bool} {js : List Nat} {f : EvS} {j jp : Nat} {env e e1 e2 : En} {d : D} {b : Bool} {M : FnS} {fl fk : EvA} {pm : List R → List R → List R}
end
end GD

set_option maxHeartbeats 2000000
namespace GD
open PySem PySem.Spec PyProof.Rows L2
end GD

set_option maxHeartbeats 2000000
namespace GD
open PySem PySem.Spec PyProof.Rows L2 GDX
abbrev TbL := List (Addr × Str)
def InT (T : TbL) (a : Addr) : Prop := ∃ p ∈ T, p.1 = a
structure Ste (T : TbL) (env : En) (σ : L2.St) (H : Hp) (env' : En) (H' : Hp) : Prop where
  ext : Ext (fun a => Wr env σ a ∨ InT T a) H H'
  wr : ∀ a, Wr env' σ a → Wr env σ a
structure Stt (T : TbL) (env : En) (σ : L2.St) (H : Hp) (env' : En) (σ' : L2.St) (H' : Hp) : Prop where
  ext : Ext (fun a => Wr env σ a ∨ InT T a) H H'
  wr : ∀ a, Wr env' σ' a → Wr env σ a ∨ H a = none
def FT (T : TbL) (F : Frm) : Prop := ∀ a, InT T a → F.W0 a
section
variable {K : PySem.W.Frag} {T : TbL} {F : Frm} {Tm : Addr → Prop} {H H1 H2 H' : Hp} {env env1 env2 env' : En} {σ σ1 σ2 σ' : L2.St}
theorem Stp.t (a : Stp env σ H env' H') : Ste T env σ H env' H' := ⟨a.ext.mono fun x h => .inl h, a.wr⟩
theorem Stq.t (a : Stq env σ H env' σ' H') : Stt T env σ H env' σ' H' := ⟨a.ext.mono fun x h => .inl h, a.wr⟩
theorem Ste.q (a : Ste T env σ H env' H') : Stt T env σ H env' σ H' := ⟨a.ext, fun x h => .inl (a.wr x h)⟩
theorem Ste.trans (a : Ste T env σ H env1 H1) (b : Ste T env1 σ H1 env2 H2) : Ste T env σ H env2 H2 :=
  ⟨a.ext.trans b.ext fun x h => .inl (h.imp (a.wr x) id), fun x h => a.wr x (b.wr x h)⟩
theorem Stt.trans (a : Stt T env σ H env1 σ1 H1) (b : Stt T env1 σ1 H1 env2 σ2 H2) : Stt T env σ H env2 σ2 H2 := by
  refine ⟨a.ext.trans b.ext fun x h => ?_, fun x h => ?_⟩
  · rcases h with h | h
    · exact (a.wr x h).imp .inl id
    · exact .inl (.inr h)
  · rcases b.wr x h with h | h
    · exact a.wr x h
    · refine .inr ?_
      cases q : H x with
      | none => rfl
      | some o => exact absurd h (a.ext.live x (by rw [q]; simp))
theorem Stt.refl : Stt T env σ H env σ H := ⟨Ext.refl, fun _ h => .inl h⟩
end
def SEndT (K : PySem.W.Frag) (T : TbL) (F : Frm) (env : En) (σ : L2.St) (H : Hp) (env' : En) (Dn : Ends) : Fl → Prop
  | .nx => ∀ σ' H', StOk K F T0 H' env' σ' → LamX.Tabs T H' → Stt T env σ H env' σ' H' → Dn.nx σ' H'
  | .bk => ∀ σ' H', StOk K F T0 H' env' σ' → LamX.Tabs T H' → Stt T env σ H env' σ' H' → Dn.bk σ' H'
  | .ct => ∀ σ' H', StOk K F T0 H' env' σ' → LamX.Tabs T H' → Stt T env σ H env' σ' H' → Dn.ct σ' H'
  | .rt r => ∀ v σ' H', RetOk K F H' v env' σ' r → Dn.rt v H'
section
variable {K : PySem.W.Frag} {T : TbL} {t u : TS} {f g : EvS} {c : TT} {fc : EvT} {ta tb : TE} {fa fb : EvE}
theorem SEndT.pre {F : Frm} {env env1 env' : En} {σ σ1 : L2.St} {H H1 : Hp} {Dn : Ends} {fl : Fl} (h : SEndT K T F env σ H env' Dn fl) (b : Stt T env σ H env1 σ1 H1) : SEndT K T F env1 σ1 H1 env' Dn fl := by
  cases fl with
  | nx => exact fun σ' H' S tt q => h σ' H' S tt (b.trans q)
  | bk => exact fun σ' H' S tt q => h σ' H' S tt (b.trans q)
  | ct => exact fun σ' H' S tt q => h σ' H' S tt (b.trans q)
  | rt r => exact h
end
end GD

set_option maxHeartbeats 4000000
namespace GD
open PySem PySem.Spec PyProof.Rows L2 GDX
open LamX (CodeO TabS Tabs LamS lamEnv lamCx TabB)
section
variable {X : Cx} {pins : List (Addr × Obj)} {σ : L2.St} {H : Hp} {s : Shared}
end
end GD

set_option maxHeartbeats 4000000
namespace GD
open PySem PySem.Spec PyProof.Rows L2 GDX
open LamX (CodeO TabS Tabs LamS lamEnv lamCx TabB)
section
variable {K : PySem.W.Frag} {T : TbL} {F : Frm} {Tm : Addr → Prop} {H H1 : Hp} {env : En} {σ : L2.St}
end
section
variable {K : PySem.W.Frag} {C : Frm → L2.St → Prop} {te : WX → TE} {fe : EvER} {t u : TS} {f g : EvS}
end
end GD

set_option maxHeartbeats 4000000
namespace GD
open PySem PySem.Spec PyProof.Rows L2 GDX
open LamX (CodeO TabS Tabs LamS lamEnv lamCx TabB)
section
variable {e : En} {d : D} {m : Mu} {b : RX → EvS} {rx : RX} {n : Nat}
end
section
variable {M : RX → Option D} {fb : EvER} {env : En} {fe : EvER} {rx : RX} {w : Str}
end
end GD

set_option maxHeartbeats 4000000
namespace GD
open PySem PySem.Spec PyProof.Rows L2 GDX
inductive RX2 where
  | ret (r : Ret)
  | rs (nm f : Str) (d : D)
abbrev FnX2 := List D → Option RX2
section
variable {K : PySem.W.Frag}
end
section
variable {X : Cx} {d : Addr} {tb : List (Str × Int)}
end
section
variable {K : PySem.W.Frag} {te : TE} {fe : EvE} {tb : List (Str × Int)} {d : Addr}
end
section
variable {e env : En} {ds : List D} {d : D} {nm fd k : Str} {m : Mu} {l : List R} {tb : List (Str × Int)} {fe : EvE} {fa : EvA} {M : FnX2} {r : Ret} {i : Int} {kvs : List (Str × Int)}
end
end GD

namespace GD
open PySem PySem.Spec PyProof.Rows L2
section
variable {X : Cx}
end
section
variable {K : PySem.W.Frag} {te : TE} {fe : EvE}
end
end GD

set_option maxHeartbeats 4000000
namespace GDX
open PySem PySem.Spec PyProof.Rows L2
namespace XP
variable {X : Cx} {C fI : Addr} {nm : Str} {bmB : List Value} {B newId initId : String}
end XP
end GDX
namespace GD
open PySem PySem.Spec PyProof.Rows L2 GDX
section
variable {X : Cx} {W : WX} {a : Expr} {ta : TA} {C fI : Addr} {nm : Str} {p pos p2 pos2 : Pos} {k i : Nat} {x : Str}
end
end GD

namespace GD
open PySem PySem.Spec PyProof.Rows L2
end GD

set_option maxHeartbeats 4000000
namespace GD
open PySem PySem.Spec PyProof.Rows L2
structure RepOk (its : List Value) (k : Int) : Prop where
  ne : its ≠ []
  lo : 2 ≤ k
  hi : k ≤ 1000
  len : its.length ≤ 1000
theorem RepOk.full {its : List Value} {k : Int} (h : RepOk its k) : its.toArray.isEmpty = false := by
  have := h.ne
  cases its with
  | nil => exact absurd rfl this
  | cons a b => rfl
theorem RepOk.flat {its : List Value} {k : Int} (h : RepOk its k) : k.toNat * its.length ≤ 1000000 :=
  Nat.le_trans (Nat.mul_le_mul (show k.toNat ≤ 1000 by have := h.hi; omega) h.len) (by decide)
theorem RepOk.le {its : List Value} {k : Int} (h : RepOk its k) : ((its.toArray.size : Nat) : Int) * k ≤ 1000000 := by
  have h1 := h.flat
  have h2 := h.lo
  have e : ((its.toArray.size : Nat) : Int) * k = ((k.toNat * its.length : Nat) : Int) := by
    rw [List.size_toArray, Int.natCast_mul, Int.mul_comm, show ((k.toNat : Nat) : Int) = k by omega]
  rw [e]
  omega
section
variable {K : PySem.W.Frag}
end
section
variable {K : PySem.W.Frag} {k m : Nat} {M : FnX} {fa : EvA} {ta : TA} {dds : List D} {dvs : List V}
end
end GD

set_option maxHeartbeats 4000000
namespace GD
open PySem PySem.Spec PyProof.Rows L2
section
variable {K : PySem.W.Frag} {C : Frm → L2.St → Prop} {te : WX → TE} {fe : EvER}
variable {fa : EvE} {env e : En} {r : R} {nm f : Str} {d : D}
end
section
variable {X : Cx} {pins : List (Addr × Obj)} {σ : L2.St} {H : Hp} {s : Shared} {Q : VK}
end
section
variable {K : PySem.W.Frag}
end
end GD

set_option maxHeartbeats 4000000
namespace GD
open PySem PySem.Spec PyProof.Rows L2
structure ClsO (K : PySem.W.Frag) (nm : Str) (C : Addr) : Prop where
  at_ : PySem.W.nsIn K mainGlobals nm = some (some (.ref C))
  cl : Cls K C
abbrev EvSO := Addr → List D → En → Option (Fl × List D × En)
def OF (F : Frm) (l : Addr) : Prop := F.O0 l ∧ F.W0 l
def LAt (K : PySem.W.Frag) (O : Addr → Prop) (H : Hp) (l : Addr) (st : List D) : Prop := ∃ xs, H l = some (.lst xs) ∧ RpAll K O H xs st
structure OSt (K : PySem.W.Frag) (F : Frm) (l : Addr) (H : Hp) (env : En) (σ : L2.St) (st : List D) : Prop where
  S : StOk K F T0 H env σ
  nw : ¬ Wr env σ l
  h : LAt K (Ow F T0 env σ) H l st
structure OStq (l : Addr) (env : En) (σ : L2.St) (H : Hp) (env' : En) (σ' : L2.St) (H' : Hp) : Prop where
  ext : Ext (fun a => Wr env σ a ∨ a = l) H H'
  wr : ∀ a, Wr env' σ' a → Wr env σ a ∨ H a = none
section
variable {K : PySem.W.Frag} {F : Frm} {l : Addr} {H H1 H2 H' : Hp} {env env1 env2 env' : En} {σ σ1 σ2 σ' : L2.St} {st st' : List D}
theorem OStq.refl : OStq l env σ H env σ H := ⟨Ext.refl, fun _ h => .inl h⟩
theorem _root_.GD.Stq.o (q : Stq env σ H env' σ' H') : OStq l env σ H env' σ' H' := ⟨q.ext.mono fun _ h => .inl h, q.wr⟩
theorem OStq.trans (a : OStq l env σ H env1 σ1 H1) (b : OStq l env1 σ1 H1 env2 σ2 H2) : OStq l env σ H env2 σ2 H2 :=
  ⟨a.ext.trans b.ext fun x h => h.elim (fun q => (a.wr x q).elim (fun z => .inl (.inl z)) .inr) fun q => .inl (.inr q), fun x q => by
    rcases b.wr x q with q | q
    · exact a.wr x q
    · refine .inr ?_
      cases e : H x with
      | none => rfl
      | some o => exact absurd q (a.ext.live x (by rw [e]; simp))⟩
theorem LAt.alive {O : Addr → Prop} (h : LAt K O H l st) : H l ≠ none := by
  obtain ⟨xs, e, _⟩ := h
  rw [e]
  simp
theorem OSt.pure (P : OSt K F l H env σ st) (S' : StOk K F T0 H' env' σ') (q : Stq env σ H env' σ' H') : OSt K F l H' env' σ' st := by
  refine ⟨S', fun z => ?_, ?_⟩
  · rcases q.wr l z with z | z
    · exact P.nw z
    · exact P.h.alive z
  · obtain ⟨xs, e, r⟩ := P.h
    exact ⟨xs, q.ext.same l _ e P.nw, r.stq q⟩
theorem OSt.put (O : OF F l) (P : OSt K F l H env σ st) {u : HO} (hu : ∀ a, Wr env σ a → a ≠ l := fun a z e => P.nw (e ▸ z)) : StOk K F T0 (upd H l u) env σ ∧ OStq l env σ H env σ (upd H l u) := by
  have S := P.S
  have kk : ∀ b o, ¬ Ow F T0 env σ b → H b = some o → upd H l u b = some o := fun b o n e => by rw [upd_ne (fun z => n (by subst z; exact .inl O.1))]; exact e
  have ext : Ext (fun a => Wr env σ a ∨ a = l) H (upd H l u) := ⟨fun b o e n => by rw [upd_ne (fun z => n (.inr z))]; exact e, fun b e => by
    by_cases z : b = l
    · subst z; rw [upd_same]; simp
    · rw [upd_ne z]; exact e⟩
  refine ⟨⟨S.len, fun i d e => let ⟨v, e1, r⟩ := S.shr i d e; ⟨v, e1, r.tr (fun _ _ _ n => n) kk⟩, fun i p m e => ?_, S.dis, ⟨fun b o e n => ?_, fun b e => ext.live b (S.ext.live b e)⟩, S.dom, S.sub, fun a h => h.elim, fun a h => h.elim⟩, ext, fun _ h => .inl h⟩
  · obtain ⟨a, e1, r, c⟩ := S.own i p m e
    exact ⟨a, e1, r.tr (fun _ _ _ n => n) kk (fun o q => by rw [upd_ne (hu a ⟨i, p, m, e, e1⟩)]; exact q), c⟩
  · rw [upd_ne (fun z => n (by subst z; exact O.2))]
    exact S.ext.same b o e n
end
def OEnd (K : PySem.W.Frag) (F : Frm) (l : Addr) (env : En) (σ : L2.St) (H : Hp) (st' : List D) (env' : En) (Dn : Ends) : Fl → Prop
  | .nx => ∀ σ' H', OSt K F l H' env' σ' st' → OStq l env σ H env' σ' H' → Dn.nx σ' H'
  | .bk => ∀ σ' H', OSt K F l H' env' σ' st' → OStq l env σ H env' σ' H' → Dn.bk σ' H'
  | .ct => ∀ σ' H', OSt K F l H' env' σ' st' → OStq l env σ H env' σ' H' → Dn.ct σ' H'
  | .rt (.val d) => ∀ v σ' H', OSt K F l H' env' σ' st' → Rp K (Ow F T0 env' σ') H' v d → Dn.rt v H'
  | .rt (.new m) => ∀ σ' H', OSt K F l H' env' σ' st' → m = .l st' → Dn.rt (.ref l) H'
section
variable {K : PySem.W.Frag} {t u : TS} {f g : EvSO} {c : TT} {fc : EvT} {te : TE} {fe : EvE}
theorem OEnd.pre {F : Frm} {l : Addr} {env env1 env' : En} {σ σ1 : L2.St} {H H1 : Hp} {st' : List D} {Dn : Ends} {fl : Fl} (h : OEnd K F l env σ H st' env' Dn fl) (b : OStq l env σ H env1 σ1 H1) : OEnd K F l env1 σ1 H1 st' env' Dn fl := by
  cases fl with
  | nx => exact fun σ' H' S q => h σ' H' S (b.trans q)
  | bk => exact fun σ' H' S q => h σ' H' S (b.trans q)
  | ct => exact fun σ' H' S q => h σ' H' S (b.trans q)
  | rt r => cases r <;> exact h
end
end GD

set_option maxHeartbeats 4000000
namespace GD
open PySem PySem.Spec PyProof.Rows L2
section
variable {K : PySem.W.Frag}
section
variable {F : Frm} {H H' : Hp} {env : En} {σ : L2.St} {l : Addr} {st : List D}
theorem RvAll.put (O : OF F l) {u : HO} : ∀ {vs : List V} {L : List R}, RvAll K F T0 H env σ vs L → RvAll K F T0 (upd H l u) env σ vs L
  | [], [], _ => trivial
  | v :: vs, r :: rs, h => ⟨by
      cases r with
      | val d => exact Rp.tr (fun _ _ _ n => n) (fun b o n e => by rw [upd_ne (fun z => n (by subst z; exact .inl O.1))]; exact e) h.1
      | slot i => exact h.1, RvAll.put O h.2⟩
  | [], _ :: _, h => h.elim
  | _ :: _, [], h => h.elim
end
end
end GD

set_option maxHeartbeats 4000000
namespace GD
open PySem PySem.Spec PyProof.Rows L2
section
variable {X : Cx} {CX : CXT} {k : Nat} {f C : Addr} {fd : FuncData} {ps : List Str} {sp : Sp} {dvs : List V} {ds : List Value} {E : XK} {x m : Str} {p pos apos : Pos} {e o : Expr} {es : List Expr} {ta : TE} {t : TA}
end
section
variable {K : PySem.W.Frag} {F : Frm} {l : Addr} {H : Hp} {env : En} {σ : L2.St}
end
end GD

set_option maxHeartbeats 4000000
namespace GDX
open PySem PySem.Spec PyProof.Rows L2
abbrev two (a x : Expr) (fs : List Expr) (b y : Expr) (gs : List Expr) : List Comprehension := [⟨a, x, fs, 0⟩, ⟨b, y, gs, 0⟩]
section
variable {pg : Program} {w : World} {A : Around} {R : Result → Shared → Prop} {ke ve a x b y : Expr} {fs gs : List Expr} {sc : Scope} {ps : Pos} {i dv : Value} {d : Addr} {en : Env} {s : Shared}
end
section
variable {X : Cx}
end
end GDX
namespace GD
open PySem PySem.Spec PyProof.Rows L2 GDX
section
variable {K : PySem.W.Frag} {tk tv : TE} {fk fv : EvE} {tt tt1 : TT} {ft ft1 : EvT}
end
end GD

set_option maxHeartbeats 4000000
namespace GD
open PySem PySem.Spec PyProof.Rows L2 GDX
section
variable {K : PySem.W.Frag}
end
section
variable {p : Bool} {l : Addr} {now goal machine d : D} {env : En} {i : Nat}
end
end GD

namespace GD
open PySem PySem.Spec PyProof.Rows L2
section
variable {K : PySem.W.Frag}
end
end GD

namespace GD
open PySem PySem.Spec PyProof.Rows L2
section
variable {K : PySem.W.Frag}
end
section
variable {M : FnS} {fl : EvA} {env : En}
end
end GD

namespace GD
open PySem PySem.Spec PyProof.Rows L2
section
variable {K : PySem.W.Frag} {t1 t2 : TE} {f1 : EvE} {f2 : EvM}
end
section
variable {i j : Nat} {f1 : EvE} {f2 : EvM} {env e : En} {r : R} {d : D} {m : Mu}
end
end GD

set_option maxHeartbeats 4000000
namespace GD
open PySem PySem.Spec PyProof.Rows L2
def tOrX (t u : TE) : TE := fun σ H Q => t σ H Q ∨ u σ H Q
theorem pe_orX {X : Cx} {e : Expr} {t u : TE} (h : PE X e t) (h' : PE X e u) : PE X e (tOrX t u) := by
  refine ⟨fun pins s σ H Q I q => ?_⟩
  rcases q with q | q
  · exact h.run pins s σ H Q I q
  · exact h'.run pins s σ H Q I q
def wiF (i : Nat) : TI := fun σ H R => (∀ d, σ[i]? = some (some (V.ref d)) → ∃ o es, H d = some (.frz o (.dK es))) → iKeys (tVar i) σ H R
def eKeysW (i : Nat) : EvW := fun env => match slOf env i with
  | some (.shr d) => (dictOf d).map fun kvs => (kvs.map fun p => keyD p.1, env)
  | _ => none
section
variable {K : PySem.W.Frag}
theorem itk_ok {O : Addr → Prop} {H : Hp} {d : Addr} {o : Obj} {es : List (L2.Key × V)} {kvs : List (L2.Key × D)} (hd : H d = some (.frz o (.dK es))) (nO : ¬ O d) (kr : KR K O H es kvs) :
    JOk K (Itk d o es) (kvs.map fun p => keyD p.1) O H := by
  intro O' H2 f k lv
  have hl := kr.length
  refine ⟨fun i x hx => ?_, fun i hi => ⟨k _ _ nO hd, by rw [List.length_map] at hi; omega⟩⟩
  rw [List.getElem?_map] at hx
  cases hq : kvs[i]? with
  | none => rw [hq] at hx; cases hx
  | some p =>
    obtain ⟨kk, dd⟩ := p
    rw [hq] at hx
    cases hx
    have hi : i < kvs.length := (List.getElem?_eq_some_iff.mp hq).1
    refine ⟨⟨k _ _ nO hd, by omega⟩, ?_⟩
    rintro x H' ⟨rfl, k', v, he, rfl⟩
    have e1 := congrArg (·[i]?) kr.keys
    simp only [List.getElem?_map, he, hq, Option.map_some, Option.some.injEq] at e1
    subst e1
    refine ⟨Ext.refl, ?_⟩
    cases k' with
    | inl i => exact .int i
    | inr x => exact .str x
theorem rp_dict_free {O : Addr → Prop} {H : Hp} {d : Addr} {x : D} {kvs : List (L2.Key × D)} (r : Rp K O H (.ref d) x) (h : dictOf x = some kvs) : ¬ O d := by
  cases r with
  | lst h n _ => exact n
  | tup _ _ => cases h
  | dic h n _ => exact n
  | exc _ h n _ _ _ => exact n
  | ob _ => cases h
theorem iw_keysF {i : Nat} : IW K (wiF i) (eKeysW i) := by
  intro F T env σ H items env' S e R k fz
  unfold eKeysW at e
  cases g : slOf env i with
  | none => simp [g] at e
  | some s =>
    cases s with
    | own p m => simp [g] at e
    | shr x =>
      simp only [g, Option.map_eq_some_iff] at e
      obtain ⟨kvs, h1, h2⟩ := e
      cases h2
      obtain ⟨v, hv, rv⟩ := S.shr i x (slOf_eq.mp g)
      obtain ⟨d, es, rfl, rd, kr⟩ := lv_dict rv.lv h1
      have nd : ¬ Ow F T env σ d := rp_dict_free rv h1
      obtain ⟨o, es', hd⟩ := fz d hv
      have ee : es' = es := by
        rcases rd with q | ⟨o', q⟩ <;> rw [hd] at q <;> cases q <;> rfl
      subst ee
      exact ⟨.ref d, hv, d, o, rfl, .inl ⟨es', hd, k _ H S Stp.refl (itk_ok hd nd kr)⟩⟩
variable {te : TE} {fe : EvE} {tt : TT} {ft : EvT}
theorem im_keys {i : Nat} {js vs : List Nat} {gg : TG} {ff : D → En → Option En} (hg : IG K js gg ff) (ht : IT K tt ft) (he : IE K te fe) (hj : ∀ j ∈ js, j ∈ vs) :
    IM K (tOrX (tLockE (tLc (iKeys (tVar i)) gg tt te vs)) (tLc (iKeys (tVar i)) gg tt te vs)) (eComp vs (eKeysW i) ff ft fe) := by
  intro F T env σ H m env' S e Q k
  have hs : ∃ x kvs, slOf env i = some (.shr x) ∧ dictOf x = some kvs := by
    unfold eComp eKeysW at e
    cases g : slOf env i with
    | none => simp [g] at e
    | some s =>
      cases s with
      | own p m => simp [g] at e
      | shr x =>
        cases g2 : dictOf x with
        | none => simp [g, g2] at e
        | some kvs => exact ⟨x, kvs, rfl, g2⟩
  obtain ⟨x, kvs, g, h1⟩ := hs
  obtain ⟨v, hv, rv⟩ := S.shr i x (slOf_eq.mp g)
  obtain ⟨d, es, rfl, rd, kr⟩ := lv_dict rv.lv h1
  have nd : ¬ Ow F T env σ d := rp_dict_free rv h1
  have core : ∀ (H1 : Hp) (o : Obj) (back : Hp → Hp), H1 d = some (.frz o (.dK es)) → Sw H H1 d es → (∀ H' : Hp, H' d = some (.frz o (.dK es)) → Sw H' (back H') d es ∧ back H' d = H d) → ∀ Q2 : VK,
      (∀ v H', H' d = some (.frz o (.dK es)) → Q v (back H') → Q2 v H') → tLc (iKeys (tVar i)) gg tt te vs σ H1 Q2 := by
    intro H1 o back hd1 w hback Q2 d1
    have S1 : StOk K (F.at d (.frz o (.dK es))) T H1 env σ := S.enter nd w hd1
    have keep : ∀ {T' : Addr → Prop} {H' : Hp} {e' : En} {σ' : L2.St}, StOk K (F.at d (.frz o (.dK es))) T' H' e' σ' → H' d = some (.frz o (.dK es)) := fun S' => S'.ext.same d _ (by simp [Frm.at, upd_same]) fun z => nd (.inl (S.sub d z))
    have noW : ∀ {T' : Addr → Prop} {H' : Hp} {e' : En} {σ' : L2.St}, StOk K (F.at d (.frz o (.dK es))) T' H' e' σ' → ∀ (p : Bool) (m : Mu) (i : Nat), e'[i]? = some (some (Sl.own p m)) → σ'[i]? = some (some (V.ref d)) → False := fun S' p m i e1 e2 => by
      obtain ⟨a, q, r, c⟩ := S'.own i p m e1
      rw [e2] at q; cases q
      have hk := keep S'
      cases m with
      | l ds => obtain ⟨xs, h, _⟩ := r; rw [hk] at h; cases h
      | m ds => obtain ⟨xs, h, _⟩ := r; rw [hk] at h; cases h
      | o _ _ _ _ => obtain ⟨_, _, xs, _, h, _⟩ := r; rw [hk] at h; cases h
    have fin : ∀ {T' : Addr → Prop} {H' : Hp} {e' : En} {σ' : L2.St}, StOk K (F.at d (.frz o (.dK es))) T' H' e' σ' → StOk K F T' (back H') e' σ' := fun {T' H' e' σ'} S' =>
      let b := hback _ (keep S')
      S'.leave (noW S') b.1 (fun o' e1 n => by rw [b.2]; exact S.ext.same d o' e1 n) S.dom
    have main := im_comp (iw_keysF (i := i)) hg ht he hj (F.at d (.frz o (.dK es))) T env σ H1 m env' S1 e Q2 fun p H' np S' st mu => by
      have b := hback _ (keep S')
      have hpd : p ≠ d := fun z => by subst z; rw [hd1] at np; cases np
      refine d1 _ _ (keep S') (k p (back H') (by rw [← w.off _ hpd]; exact np) (fin S') ⟨⟨fun a u e n => ?_, fun a e => b.1.live (st.ext.live a (w.live e))⟩, st.wr⟩ (mu.sw b.1 hpd))
      by_cases z : a = d
      · subst z; rw [b.2]; exact e
      · rw [b.1.off _ z]
        exact st.ext.same a u (by rw [w.off _ z]; exact e) n
    exact main fun d' hd' => by
      rw [hv] at hd'
      cases hd'
      exact ⟨o, es, hd1⟩
  rcases rd with hd | ⟨o, hd⟩
  · refine .inl ⟨d, _, hd, trivial, fun od => ?_⟩
    exact core (upd H d (.frz od (.dK es))) od (fun H' => upd H' d (.dK es)) upd_same ⟨fun a n => upd_ne n, .inl hd, .inr ⟨od, upd_same⟩⟩ (fun H' h' => ⟨⟨fun a n => upd_ne n, .inr ⟨od, h'⟩, .inl upd_same⟩, by rw [upd_same, hd]⟩) _ (fun _ _ a b => ⟨a, b⟩)
  · exact .inr (core H o id hd ⟨fun _ _ => rfl, .inr ⟨o, hd⟩, .inr ⟨o, hd⟩⟩ (fun H' h' => ⟨⟨fun _ _ => rfl, .inr ⟨o, h'⟩, .inr ⟨o, h'⟩⟩, by rw [hd]; exact h'⟩) Q (fun _ _ _ b => b))
end
end GD

set_option maxHeartbeats 4000000
namespace GD
open PySem PySem.Spec PyProof.Rows L2
section
variable {K : PySem.W.Frag}
end
end GD

set_option maxHeartbeats 4000000
namespace GD
open PySem PySem.Spec PyProof.Rows L2
section
variable {K : PySem.W.Frag} {td ty tx : TE} {fd fk fz : EvE}
end
end GD

set_option maxHeartbeats 4000000
namespace GD
open PySem PySem.Spec PyProof.Rows L2
section
variable {K : PySem.W.Frag}
end
end GD

set_option maxHeartbeats 2000000
namespace GD
open PySem PySem.Spec PyProof.Rows L2 GDX
structure X0T (K : PySem.W.Frag) (mg : Str → Option Value) (nm : Str) (bmB : List Value) (newId : String) (C : Addr) : Prop where
  gC : mg nm = some (.ref C)
  kC : PySem.W.keepIn K (.ref C) = true
  q : PySem.W.excIn K C bmB newId = true
  exC : PySem.W.subIn K (.ref C) (.type "BaseException") = some true
  tyC : PySem.W.typeIn K (.ref C) = some (.type "type")
  hdC : PySem.W.hasDictIn K C = true
section
variable {X : Cx} {C : Addr} {bmB : List Value} {B newId initId : String} {x : Str} {p pos pos2 : Pos}
end
section
variable {K : PySem.W.Frag} {C : Addr} {nm : Str}
end
section
variable {K : PySem.W.Frag}
end
end GD

set_option maxHeartbeats 2000000
namespace GD
open PySem PySem.Spec PyProof.Rows L2 GDX
section
variable {K : PySem.W.Frag} {te : WX → TE} {fe : EvER}
end
end GD

set_option maxHeartbeats 2000000
namespace GD
open PySem PySem.Spec PyProof.Rows L2
end GD

set_option maxHeartbeats 2000000
namespace GD
open PySem PySem.Spec PyProof.Rows L2
section
variable {X : Cx} {o : Expr} {p apos mpos pos : Pos} {td : TE}
def tListVals (td : TE) : TE := fun σ H Q => td σ H fun x H1 => ∃ a kvs, x = V.ref a ∧ (H1 a = some (.dK kvs) ∨ ∃ o, H1 a = some (.frz o (.dK kvs))) ∧ kvs.length ≤ sizeLine ∧ ∀ q, H1 q = none → Q (.ref q) (upd H1 q (.lst (kvs.map (·.2))))
theorem pe_listVals (hc : X.calm = true) (hg : Gl X "list") (hm : X.mg "list" = none) (hd : PE X o td) (hbase : attributeBase o "values" X.env (eval o X.env) = eval o X.env := by rfl) (hline : (apos.endLine == mpos.line) = true := by rfl)
    (hs : starEach [Expr.Call (.Attribute o "values" apos) [] [] mpos] X.env = (false, eval (Expr.Call (.Attribute o "values" apos) [] [] mpos) X.env) :: starEach [] X.env := by rfl) :
    PE X (.Call (.Name "list" p) [.Call (.Attribute o "values" apos) [] [] mpos] [] pos) (tListVals td) := by
  refine ⟨fun pins s σ H Q I h => ?_⟩
  refine wpAny_Call_Name_kw (ld_blt I hg hm boot_list (PyProof.Rows.callWith_type1 ?_ hs rfl))
  rw [hs]; show wpAny _ _ (spliced ((false, eval (.Call (.Attribute o "values" apos) [] [] mpos) X.env) :: backTo pos (starEach [] X.env))) _ _ s
  refine Calls.spliced_cons ?_
  refine wpAny_Call_method0_late hbase hline (thn (hd.run pins s σ H _ I h) fun v s1 ⟨x, H1, I1, r1, a, kvs, ex, ha, hz, q⟩ => ?_)
  subst ex
  obtain rfl : v = Value.ref a := r1
  obtain ⟨hsys, vs, ep, rel, dat⟩ : (a == sysModules) = false ∧ ∃ (vs : List (L2.Key × Value)) (ep : Nat), KV kvs vs ∧ s1.heap.DictAt (mixKind X.prog X.w) a vs ep := by
    rcases ha with ha | ⟨o', ha⟩
    · obtain ⟨_, hsys, vs, rel, dof⟩ := (show ObjOk X.prog X.w H1 s1.heap a (.dK kvs) from I1.hok a _ ha)
      obtain ⟨ep, dat⟩ := dof.dictAt
      exact ⟨hsys, vs, ep, rel, dat⟩
    · obtain ⟨hs, hgd, hx, es, ep, vs, hdt, hsz, kv, hm⟩ := I1.frzK ha
      exact ⟨hs, vs, ep, kv, hm⟩
  have dof := dat.dictOf
  have dat' := dat
  obtain ⟨ob, es, ho, ex, hdat, hko, hpr, hnd⟩ := dat'
  refine ⟨"dict", "dict.values", F.plainAttrs_dict, F.slot_dict_values, F.type_dict_values, ⟨ob, ho, ex.1⟩, fun b e => ?_, Calls.callWith_builtin rfl (PySem.evalArgs_none ?_)⟩
  · cases e
    exact ⟨ob, ho, ex.2.1⟩
  refine call_meetsIn F.slot_dict_values ⟨ob, ho, ex.1⟩ F.entry_dict_values (F.args_dict_values_1 _) (meets_dict_values (mixKind X.prog X.w) a hsys) ⟨⟨vs, dof⟩, ?_⟩
  refine Calls.spliced_nil ?_
  have k1 : ∀ b u, s1.heap.get? b = some u → (s1.heap.push { cls := .type "dict_values", data := .fields #[.ref a] }).get? b = some u := fun b u e => Heap.get?_push_of_some _ e
  have dat1 : (s1.heap.push { cls := .type "dict_values", data := .fields #[.ref a] }).DictAt (mixKind X.prog X.w) a vs ep := dat.keep k1
  have I2 : Inv X pins σ H1 { s1 with heap := s1.heap.push { cls := .type "dict_values", data := .fields #[.ref a] } } := I1.kept (t' := s1.toks) k1
  have hl : kvs.length = vs.length := Paired.length rel
  refine PySem.W.kdl_call (s := { s1 with heap := s1.heap.push { cls := .type "dict_values", data := .fields #[.ref a] } }) (PySem.W.kdl_values (knd := mixKind X.prog X.w) (kvs := vs) (ep := ep) (r := s1.heap.objs.size) (d := a)) (I1.ok.hd hc) ⟨⟨_, Heap.get?_push_size _ rfl, rfl, rfl⟩, dat1⟩ (by rw [← hl]; exact hz) fun h' tk acc' c' hkeep hS hacc => ?_
  refine ⟨.ref _, upd H1 _ (.lst (kvs.map (·.2))), I2.laid hkeep (Nat.le_refl _) (show ObjOk X.prog X.w _ _ _ (.lst (kvs.map (·.2))) from ⟨?_, acc'.toList, c', ?_, ?_⟩), rfl, q _ (I2.hok.fresh (Nat.le_refl _))⟩
  · rw [List.length_map]; exact hz
  · have el : acc'.toList.length = acc'.size := by simp
    refine vals_of_at (by rw [List.length_map, el, hacc.1, hl]) fun j x w h1 h2 => ?_
    obtain ⟨k, hky⟩ := hacc.2 j w (by rw [← Array.getElem?_toList]; exact h2)
    obtain ⟨x', e1, e2⟩ := KV.at' rel hky
    rw [List.getElem?_map, e1] at h1
    cases h1
    exact e2
  · rw [Array.toArray_toList]; exact hS
end
section
variable {K : PySem.W.Frag}
def listVR (env : En) : D → Option (Mu × En)
  | d => (dictOf d).bind fun kvs => if small kvs.length = true then some (.l (kvs.map (·.2)), env) else none
def listVR2 : Option (R × En) → Option (Mu × En)
  | some (.val d, env) => listVR env d
  | _ => none
def eListV (i : Nat) : EvM := fun env => listVR2 (eGive i env)
theorem im_listV {i : Nat} : IM K (tListVals (tVar i)) (eListV i) := by
  intro F T env σ H m env' S e Q k
  unfold eListV at e
  cases g : eGive i env with
  | none => rw [g] at e; cases e
  | some p =>
    obtain ⟨r, e1⟩ := p
    rw [g] at e
    cases r with
    | slot j => cases e
    | val d =>
      simp only [listVR2, listVR, Option.bind_eq_some_iff] at e
      obtain ⟨kvs, hd, h2⟩ := e
      split at h2
      · rename_i hs
        cases h2
        refine ie_give F T env σ H _ _ S g _ fun v H1 S1 st rv => ?_
        have rv' : Rp K (Ow F T env' σ) H1 v d := rv
        obtain ⟨a, es, rfl, rd, kr⟩ := lv_dict rv'.lv hd
        refine ⟨a, es, rfl, rd, by rw [kr.length]; exact Nat.le_of_lt (small_lt hs), fun q np => ?_⟩
        have nq : H q = none := by
          cases hq : H q with
          | none => rfl
          | some o => exact absurd np (st.ext.live q (by rw [hq]; simp))
        have S2 := S1.lay1 (H' := upd H1 q (.lst (es.map (·.2)))) np (Ext.new np) (by rw [upd_same]; simp)
        refine k q _ nq S2 (st.trans (Stp.new np)) ⟨es.map (·.2), upd_same, ?_⟩
        exact kr.vals.tr (fun a o e n => by
          rintro (z | z | z)
          · exact n (.inl z)
          · rcases z with z | z
            · exact n (.inr (.inl z))
            · subst z; rw [np] at e; cases e
          · exact n (.inr (.inr z))) fun a o n e => by
          rw [upd_ne (fun z => by subst z; rw [np] at e; cases e)]; exact e
      · cases h2
theorem q_listV {i : Nat} {env : En} : eListV i env = listVR2 (eGive i env) := rfl
theorem q_listV1 {env : En} {kvs : List (L2.Key × D)} (h : kvs.length ≤ 1000) (hd : dictOf (Mu.m kvs).toD = some kvs) : listVR2 (some (.val (.dict (kvs.map fun p => (keyD p.1, p.2))), env)) = some (.l (kvs.map (·.2)), env) := by
  have hd' : dictOf (.dict (kvs.map fun p => (keyD p.1, p.2))) = some kvs := hd
  have hs : small kvs.length = true := decide_eq_true (by omega)
  simp only [listVR2, listVR, hd', Option.bind_some, hs, if_true]
end
end GD

namespace My
open PySem PySem.Spec PyProof.Rows L2 GD
def topS (i : Nat) : Stmt := PySem.Challenge.pw_gapdup_k17_pure_cycles_found.main.body.getD i (.Pass ⟨0, 0, 0, 0⟩)
def fuel : Nat := 100000
abbrev s_occupied : Stmt := topS 1
abbrev N_occupied : List Str := ["table", "slot", "entry"]
theorem sc_occupied : FnScope N_occupied ["table"] (defScope s_occupied) := ⟨rfl, rfl, rfl, by decide +kernel, rfl, by decide +kernel, by decide +kernel⟩
abbrev s_object_at : Stmt := topS 2
abbrev N_object_at : List Str := ["table", "slot"]
theorem sc_object_at : FnScope N_object_at ["table", "slot"] (defScope s_object_at) := ⟨rfl, rfl, rfl, by decide +kernel, rfl, by decide +kernel, by decide +kernel⟩
abbrev s_wrong_slots : Stmt := topS 4
abbrev N_wrong_slots : List Str := ["start", "goal", "slot"]
theorem sc_wrong_slots : FnScope N_wrong_slots ["start", "goal"] (defScope s_wrong_slots) := ⟨rfl, rfl, rfl, by decide +kernel, rfl, by decide +kernel, by decide +kernel⟩
abbrev s_fresh_slots : Stmt := topS 5
abbrev N_fresh_slots : List Str := ["start", "goal", "slot"]
theorem sc_fresh_slots : FnScope N_fresh_slots ["start", "goal"] (defScope s_fresh_slots) := ⟨rfl, rfl, rfl, by decide +kernel, rfl, by decide +kernel, by decide +kernel⟩
abbrev s_held_slots : Stmt := topS 6
abbrev N_held_slots : List Str := ["start", "goal", "slot"]
theorem sc_held_slots : FnScope N_held_slots ["start", "goal"] (defScope s_held_slots) := ⟨rfl, rfl, rfl, by decide +kernel, rfl, by decide +kernel, by decide +kernel⟩
abbrev s_needs : Stmt := topS 7
abbrev N_needs : List Str := ["start", "goal", "slot"]
theorem sc_needs : FnScope N_needs ["start", "goal"] (defScope s_needs) := ⟨rfl, rfl, rfl, by decide +kernel, rfl, by decide +kernel, by decide +kernel⟩
abbrev s_safe_objects : Stmt := topS 8
abbrev N_safe_objects : List Str := ["start", "goal", "held", "kept", "slot"]
theorem sc_safe_objects : FnScope N_safe_objects ["start", "goal"] (defScope s_safe_objects) := ⟨rfl, rfl, rfl, by decide +kernel, rfl, by decide +kernel, by decide +kernel⟩
abbrev s_edges_of : Stmt := topS 10
abbrev N_edges_of : List Str := ["start", "goal", "outgoing", "incoming", "slot", "have", "want"]
theorem sc_edges_of : FnScope N_edges_of ["start", "goal"] (defScope s_edges_of) := ⟨rfl, rfl, rfl, by decide +kernel, rfl, by decide +kernel, by decide +kernel⟩
abbrev s_cycle_from : Stmt := topS 11
abbrev N_cycle_from : List Str := ["slot", "goal", "successors", "found", "later"]
theorem sc_cycle_from : FnScope N_cycle_from ["slot", "goal", "successors"] (defScope s_cycle_from) := ⟨rfl, rfl, rfl, by decide +kernel, rfl, by decide +kernel, by decide +kernel⟩
abbrev s_pure_cycles : Stmt := topS 12
abbrev N_pure_cycles : List Str := ["start", "goal", "outgoing", "incoming", "safe", "successors", "name", "slots", "found", "met", "slot", "have", "want", "cycle", "one"]
theorem sc_pure_cycles : FnScope N_pure_cycles ["start", "goal"] (defScope s_pure_cycles) := ⟨rfl, rfl, rfl, by decide +kernel, rfl, by decide +kernel, by decide +kernel⟩
abbrev s__law_pen : Stmt := topS 14
abbrev N__law_pen : List Str := ["_law_script"]
theorem sc__law_pen : FnScope N__law_pen ["_law_script"] (defScope s__law_pen) := ⟨rfl, rfl, rfl, by decide +kernel, rfl, by decide +kernel, by decide +kernel⟩
abbrev s__law_draw : Stmt := topS 15
abbrev N__law_draw : List Str := ["_law_pen_here", "_law_bound", "_law_digit", "_law_index", "_law_cell", "_law_great", "_law_mixed"]
theorem sc__law_draw : FnScope N__law_draw ["_law_pen_here", "_law_bound"] (defScope s__law_draw) := ⟨rfl, rfl, rfl, by decide +kernel, rfl, by decide +kernel, by decide +kernel⟩
abbrev s__law_pool : Stmt := topS 16
abbrev N__law_pool : List Str := ["_law_pen_here", "_law_many", "_law_letters", "_law_way", "_law_first", "_law_some", "_law_k", "_law_letter"]
theorem sc__law_pool : FnScope N__law_pool ["_law_pen_here", "_law_many"] (defScope s__law_pool) := ⟨rfl, rfl, rfl, by decide +kernel, rfl, by decide +kernel, by decide +kernel⟩
abbrev s__law_trimmed : Stmt := topS 17
abbrev N__law_trimmed : List Str := ["_law_entries", "_law_size"]
theorem sc__law_trimmed : FnScope N__law_trimmed ["_law_entries"] (defScope s__law_trimmed) := ⟨rfl, rfl, rfl, by decide +kernel, rfl, by decide +kernel, by decide +kernel⟩
abbrev s__law_start : Stmt := topS 18
abbrev N__law_start : List Str := ["_law_pen_here", "_law_pool_here", "_law_most", "_law_way", "_law_left", "_law_entries", "_law_slot", "_law_word"]
theorem sc__law_start : FnScope N__law_start ["_law_pen_here", "_law_pool_here", "_law_most"] (defScope s__law_start) := ⟨rfl, rfl, rfl, by decide +kernel, rfl, by decide +kernel, by decide +kernel⟩
abbrev s__law_goal : Stmt := topS 19
abbrev N__law_goal : List Str := ["_law_pen_here", "_law_first", "_law_words", "_law_entries", "_law_left", "_law_k", "_law_ring", "_law_one", "_law_rare", "_law_slot", "_law_word", "_law_entry"]
theorem sc__law_goal : FnScope N__law_goal ["_law_pen_here", "_law_first"] (defScope s__law_goal) := ⟨rfl, rfl, rfl, by decide +kernel, rfl, by decide +kernel, by decide +kernel⟩
abbrev s__law_pair : Stmt := topS 20
abbrev N__law_pair : List Str := ["_law_pen_here", "_law_most", "_law_pool_here", "_law_first"]
theorem sc__law_pair : FnScope N__law_pair ["_law_pen_here", "_law_most"] (defScope s__law_pair) := ⟨rfl, rfl, rfl, by decide +kernel, rfl, by decide +kernel, by decide +kernel⟩
abbrev s__law_at : Stmt := topS 21
abbrev N__law_at : List Str := ["_law_state", "_law_slot"]
theorem sc__law_at : FnScope N__law_at ["_law_state", "_law_slot"] (defScope s__law_at) := ⟨rfl, rfl, rfl, by decide +kernel, rfl, by decide +kernel, by decide +kernel⟩
abbrev s__law_edges : Stmt := topS 22
abbrev N__law_edges : List Str := ["_law_first", "_law_second", "_law_found", "_law_slot"]
theorem sc__law_edges : FnScope N__law_edges ["_law_first", "_law_second"] (defScope s__law_edges) := ⟨rfl, rfl, rfl, by decide +kernel, rfl, by decide +kernel, by decide +kernel⟩
abbrev s__law_components : Stmt := topS 23
abbrev N__law_components : List Str := ["_law_edges_here", "_law_mark", "_law_slot", "_law_have", "_law_want", "_law_again", "_law_near", "_law_one", "_law_other", "_law_wish", "_law_least"]
theorem sc__law_components : FnScope N__law_components ["_law_edges_here"] (defScope s__law_components) := ⟨rfl, rfl, rfl, by decide +kernel, rfl, by decide +kernel, by decide +kernel⟩
abbrev s__law_is_pure : Stmt := topS 24
abbrev N__law_is_pure : List Str := ["_law_first", "_law_second", "_law_edges_here", "_law_some", "_law_slot", "_law_have", "_law_want", "_law_held", "_law_one", "_law_other", "_law_wish"]
theorem sc__law_is_pure : FnScope N__law_is_pure ["_law_first", "_law_second", "_law_edges_here", "_law_some"] (defScope s__law_is_pure) := ⟨rfl, rfl, rfl, by decide +kernel, rfl, by decide +kernel, by decide +kernel⟩
abbrev s__law_walked : Stmt := topS 25
abbrev N__law_walked : List Str := ["_law_first", "_law_second", "_law_some", "_law_found", "_law_slot"]
theorem sc__law_walked : FnScope N__law_walked ["_law_first", "_law_second", "_law_some"] (defScope s__law_walked) := ⟨rfl, rfl, rfl, by decide +kernel, rfl, by decide +kernel, by decide +kernel⟩
abbrev s__law_due : Stmt := topS 26
abbrev N__law_due : List Str := ["_law_first", "_law_second", "_law_edges_here", "_law_rings", "_law_some"]
theorem sc__law_due : FnScope N__law_due ["_law_first", "_law_second"] (defScope s__law_due) := ⟨rfl, rfl, rfl, by decide +kernel, rfl, by decide +kernel, by decide +kernel⟩
abbrev s_law : Stmt := topS 27
abbrev N_law : List Str := ["_law_script", "_law_pen_here", "_law_k", "_law_first", "_law_second", "_law_one", "_law_other", "_law_due_here", "_law_again", "_law_found"]
theorem sc_law : FnScope N_law ["_law_script"] (defScope s_law) := ⟨rfl, rfl, rfl, by decide +kernel, rfl, by decide +kernel, by decide +kernel⟩
def b_occupied : EvS := (sRetX (xM (eComp [1, 2] (wEnumA (aCons (eGive 0) aNil)) (gT 2 (gsCons (gN 1) (gsCons (gN 2) gsNil))) (tVal (eNotN (eVar 2))) (eGive 1))))
def m_occupied : FnS := runB 3 b_occupied
def b_object_at : EvS := (sRetX (xIf (tVal (eOp dLt (eVar 1) (eCa cLen (aCons (eVar 0) aNil)))) (xE (eOp dIx (eVar 0) (eVar 1))) (xE (eC .none))))
def m_object_at : FnS := runB 2 b_object_at
def b_wrong_slots : EvS := (sRetX (xM (eComp [2] (wAny (eX (xCall m_occupied (aCons (eGive 1) aNil)))) (gN 2) (tVal (eOp dNe (eX (xCall m_object_at (aCons (eGive 0) (aCons (eGive 2) aNil)))) (eOp dIx (eVar 1) (eVar 2)))) (eGive 2))))
def m_wrong_slots : FnS := runB 3 b_wrong_slots
def b_fresh_slots : EvS := (sRetX (xM (eComp [2] (wAny (eX (xCall m_wrong_slots (aCons (eGive 0) (aCons (eGive 1) aNil))))) (gN 2) (tVal (eIsN (eX (xCall m_object_at (aCons (eGive 0) (aCons (eGive 2) aNil)))))) (eGive 2))))
def m_fresh_slots : FnS := runB 3 b_fresh_slots
def b_held_slots : EvS := (sRetX (xM (eComp [2] (wAny (eX (xCall m_wrong_slots (aCons (eGive 0) (aCons (eGive 1) aNil))))) (gN 2) (tVal (eNotN (eX (xCall m_object_at (aCons (eGive 0) (aCons (eGive 2) aNil)))))) (eGive 2))))
def m_held_slots : FnS := runB 3 b_held_slots
def b_needs : EvS := (sRetX (xM (eComp [2] (wAny (eX (xCall m_held_slots (aCons (eGive 0) (aCons (eGive 1) aNil))))) (gN 2) tYesE (eTup (aCons (eGive 2) (aCons (eOp dIx (eVar 0) (eVar 2)) (aCons (eOp dIx (eVar 1) (eVar 2)) aNil)))))))
def m_needs : FnS := runB 3 b_needs
def b_safe_objects : EvS := (sSeq (sSetX 2 (xM (eDC [4] (wAny (eX (xCall m_held_slots (aCons (eGive 0) (aCons (eGive 1) aNil))))) (gN 4) tYesE (eGive 4) (eC (.bool true)))))
      (sSeq (sSetX 3 (xM (eComp [4] (wAny (eX (xCall m_occupied (aCons (eGive 0) aNil)))) (gN 4) (tVal (eOp dDNotIn (eVar 4) (eVar 2))) (eOp dIx (eVar 0) (eVar 4)))))
      (sRetX (xM (eSrtSet (eSBin (fun ks ls => ks ++ ls) (eSetL (aCons (eVar 3) aNil)) (eSetC [4] (wAny (eX (xCall m_fresh_slots (aCons (eGive 0) (aCons (eGive 1) aNil))))) (gN 4) tYesE (eOp dIx (eVar 1) (eVar 4)))))))))
def m_safe_objects : FnS := runB 5 b_safe_objects
def b_edges_of : EvS := (sEdges 2 3 4 5 6 (wAny (eX (xCall m_needs (aCons (eGive 0) (aCons (eGive 1) aNil))))) (gT 3 (gsCons (gN 4) (gsCons (gN 5) (gsCons (gN 6) gsNil)))))
def m_edges_of : FnS := runB 7 b_edges_of
def b_cycle_from : EvS := (sSeq (sSetX 3 (xM (eLst (aCons (eGive 0) aNil))))
      (sSeq (sSetX 4 (xE (eGet2 (eVar 2) (eOp dIx (eVar 1) (eVar 0)) (eC .none))))
      (sSeq (whE (tfAnd (tVal (eNotN (eVar 4))) (tVal (eOp dNe (eVar 4) (eVar 0)))) (sSeq (sDrop (eMt "list" gApp 3 (aCons (eGive 4) aNil)))
      (sSetX 4 (xE (eGet2 (eVar 2) (eOp dIx (eVar 1) (eVar 4)) (eC .none))))) fuel)
      (sRetX (xIf (tVal (eIsN (eVar 4))) (xE (eC .none)) (xE (eCa cTuple (aCons (eVar 3) aNil))))))))
def m_cycle_from : FnS := runB 5 b_cycle_from
def b_pure_cycles : EvS := (sSeq (sAsg (gT 2 (gsCons (gN 2) (gsCons (gN 3) gsNil))) (eX (xCall m_edges_of (aCons (eGive 0) (aCons (eGive 1) aNil)))))
      (sSeq (sSetX 4 (xM (eDC [6] (wAny (eX (xCall m_safe_objects (aCons (eGive 0) (aCons (eGive 1) aNil))))) (gN 6) tYesE (eGive 6) (eC (.bool true)))))
      (sSeq (sSetX 5 (xM eD0))
      (sSeq (sForItems 2 (gT 2 (gsCons (gN 6) (gsCons (gN 7) gsNil))) (sIf (tfAnd (tVal (eOp dEq (eCa cLen (aCons (eVar 7) aNil)) (eC (.int 1)))) (tfAnd (tVal (eOp dEq (eCa cLen (aCons (eGet2 (eVar 3) (eVar 6) (eX (xM (eLst aNil)))) aNil)) (eC (.int 1)))) (tVal (eOp dDNotIn (eVar 6) (eVar 4))))) (sDPutE 5 (eVar 6) (eOp dIx (eVar 7) (eC (.int 0)))) sNext))
      (sSeq (sSetX 8 (xM (eLst aNil)))
      (sSeq (sSetX 9 (xM eD0))
      (sSeq (sFor (wAny (eX (xCall m_needs (aCons (eGive 0) (aCons (eGive 1) aNil))))) (gT 3 (gsCons (gN 10) (gsCons (gN 11) (gsCons (gN 12) gsNil)))) (sSeq (sSetX 13 (xIf (tVal (eOp dDIn (eVar 10) (eVar 9))) (xE (eC .none)) (xCall m_cycle_from (aCons (eGive 10) (aCons (eGive 1) (aCons (eVar 5) aNil))))))
      (sIf (tVal (eNotN (eVar 13))) (sSeq (sDrop (eMt "list" gApp 8 (aCons (eGive 13) aNil)))
      (sDrop (eMt "dict" gUpdD 9 (aCons (eX (xM (eDC [14] (wAny (eGive 13)) (gN 14) tYesE (eGive 14) (eC (.bool true))))) aNil)))) sNext)))
      (sRetX (xE (eVar 8))))))))))
def m_pure_cycles : FnS := runB 15 b_pure_cycles
def b__law_draw : EvS := (sSeq (sIf (tVal (eOp dGt (eOp dIx (eVar 0) (eC (.int 2))) (eC (.int 0)))) (sSeq (sSetX 2 (xE (eOp dMod (eOp dIx (eVar 0) (eC (.int 2))) (eVar 1))))
      (sSeq (sPut gSetL 0 (eC (.int 2)) (eOp dDiv (eOp dIx (eVar 0) (eC (.int 2))) (eVar 1)))
      (sRetX (xE (eVar 2))))) sNext)
      (sSeq (sSetX 3 (xE (eOp dIx (eVar 0) (eC (.int 1)))))
      (sSeq (sPut gSetL 0 (eC (.int 1)) (eX (xOp dAddX (eVar 3) (eC (.int 1)))))
      (sSeq (sSetX 4 (xOp dAddX (eOp dMul (eC (.int 40487)) (eVar 3)) (eC (.int 73))))
      (sSeq (sIf (tVal (eOp dNe (eOp dIx (eVar 0) (eC (.int 0))) (eX (xM (eLst aNil))))) (sSetX 4 (xE (eOp dIx (eOp dIx (eVar 0) (eC (.int 0))) (eOp dMod (eVar 3) (eCa cLen (aCons (eOp dIx (eVar 0) (eC (.int 0))) aNil)))))) sNext)
      (sSeq (sIf (tfAnd (tVal (eOp dLt (eVar 3) (eCa cLen (aCons (eOp dIx (eVar 0) (eC (.int 0))) aNil)))) (tVal (eOp dGe (eCa cAbs (aCons (eVar 4) aNil)) (eOp dPow (eC (.int 10)) (eC (.int 18)))))) (sSeq (sSetX 5 (xOp dAddX (eOp dMul (eC (.int 2)) (eCa cAbs (aCons (eVar 4) aNil))) (eCa cInt (aCons (eOp dLt (eVar 4) (eC (.int 0))) aNil))))
      (sSeq (sPut gSetL 0 (eC (.int 2)) (eOp dDiv (eVar 5) (eVar 1)))
      (sRetX (xE (eOp dMod (eVar 5) (eVar 1)))))) sNext)
      (sSeq (sSetX 6 (xE (eOp dMod (eOp dPow (eX (xOp dAddX (eX (xOp dAddX (eOp dMod (eVar 4) (eC (.int 2147483549))) (eOp dMul (eC (.int 30011)) (eVar 3)))) (eC (.int 59)))) (eC (.int 5))) (eC (.int 2147483579)))))
      (sSeq (sSetX 6 (xE (eOp dMod (eOp dPow (eX (xOp dAddX (eOp dMul (eVar 6) (eX (xOp dAddX (eOp dMul (eC (.int 2)) (eVar 3)) (eC (.int 11))))) (eC (.int 70003)))) (eC (.int 3))) (eC (.int 2147483629)))))
      (sRetX (xE (eOp dMod (eOp dDiv (eVar 6) (eC (.int 16))) (eVar 1))))))))))))
def m__law_draw : FnS := runB 7 b__law_draw
def b__law_pool : EvS := (sSeq (sSetX 2 (xE (eC (.str ("abcdefghijklmnopqrstuvwxyz" : Str)))))
      (sSeq (sSetX 3 (xCall m__law_draw (aCons (eVar 0) (aCons (eC (.int 3)) aNil))))
      (sSeq (sSetX 4 (xCall m__law_draw (aCons (eVar 0) (aCons (eC (.int 26)) aNil))))
      (sSeq (sSetX 5 (xM (eComp [6] (wRng1 (aCons (eVar 1) aNil)) (gN 6) tYesE (eOp dIx (eVar 2) (eOp dMod (eX (xOp dAddX (eVar 4) (eOp dMul (eC (.int 5)) (eVar 6)))) (eC (.int 26)))))))
      (sSeq (sIf (tVal (eOp dEq (eVar 3) (eC (.int 1)))) (sRetX (xM (eComp [7] (wAny (eGive 5)) (gN 7) tYesE (eX (xOp dAddX (eOp dMulS (eOp dIx (eVar 2) (eVar 4)) (eC (.int 7))) (eVar 7)))))) sNext)
      (sSeq (sIf (tVal (eOp dEq (eVar 3) (eC (.int 2)))) (sRetX (xM (eComp [6] (wRng1 (aCons (eVar 1) aNil)) (gN 6) tYesE (eOp dMulS (eOp dIx (eVar 5) (eVar 6)) (eX (xOp dAddX (eC (.int 1)) (eOp dMod (eVar 6) (eC (.int 8))))))))) sNext)
      (sRetX (xE (eVar 5)))))))))
def m__law_pool : FnS := runB 8 b__law_pool
def b__law_trimmed : EvS := (sSeq (sSetX 1 (xE (eCa cLen (aCons (eVar 0) aNil))))
      (sSeq (whE (tfAnd (tVal (eOp dGt (eVar 1) (eC (.int 0)))) (tVal (eIsN (eOp dIx (eVar 0) (eOp dSub (eVar 1) (eC (.int 1))))))) (sSetX 1 (xE (eOp dSub (eVar 1) (eC (.int 1))))) fuel)
      (sRetX (xE (eCa cTuple (aCons (eX (xSl (eVar 0) oNone (oSome (eVar 1)))) aNil))))))
def m__law_trimmed : FnS := runB 2 b__law_trimmed
def b__law_start : EvS := (sSeq (sSetX 3 (xCall m__law_draw (aCons (eVar 0) (aCons (eC (.int 3)) aNil))))
      (sSeq (sSetX 4 (xM (eCaM cList (aCons (eVar 1) aNil))))
      (sSeq (sSetX 5 (xM (eLst aNil)))
      (sSeq (sFor (wRng1 (aCons (eX (xCall m__law_draw (aCons (eVar 0) (aCons (eX (xOp dAddX (eVar 2) (eC (.int 1)))) aNil)))) aNil)) (gN 6) (sSeq (sSetX 7 (xE (eOp dIx (eVar 1) (eX (xCall m__law_draw (aCons (eVar 0) (aCons (eCa cMin2 (aCons (eC (.int 3)) (aCons (eCa cLen (aCons (eVar 1) aNil)) aNil))) aNil)))))))
      (sSeq (sIf (tfAnd (tVal (eOp dGt (eVar 3) (eC (.int 0)))) (tVal (eOp dNe (eVar 4) (eX (xM (eLst aNil)))))) (sSetX 7 (xE (eMt "list" gPopAt 4 (aCons (eX (xCall m__law_draw (aCons (eVar 0) (aCons (eCa cLen (aCons (eVar 4) aNil)) aNil)))) aNil)))) sNext)
      (sDrop (eMt "list" gApp 5 (aCons (eOp dIx (eX (xM (eLst (aCons (eC .none) (aCons (eGive 7) aNil))))) (eCa cInt (aCons (eOp dGt (eX (xCall m__law_draw (aCons (eVar 0) (aCons (eC (.int 5)) aNil)))) (eC (.int 0))) aNil))) aNil))))))
      (sSeq (sIf (tfAnd (tVal (eOp dEq (eVar 3) (eC (.int 2)))) (tVal (eOp dNe (eVar 5) (eX (xM (eLst aNil)))))) (sDrop (eMt "list" gApp 5 (aCons (eOp dIx (eVar 5) (eX (xCall m__law_draw (aCons (eVar 0) (aCons (eCa cLen (aCons (eVar 5) aNil)) aNil))))) aNil))) sNext)
      (sRetX (xCall m__law_trimmed (aCons (eVar 5) aNil))))))))
def m__law_start : FnS := runB 8 b__law_start
def b__law_goal : EvS := (sSeq (sSetX 2 (xM (eComp [11] (wAny (eGive 1)) (gN 11) (tVal (eNotN (eVar 11))) (eGive 11))))
      (sSeq (sSetX 3 (xOp dAddX (eX (xM (eCaM cList (aCons (eVar 1) aNil)))) (eX (xOp dMulX (eX (xM (eLst (aCons (eC .none) aNil)))) (eX (xCall m__law_draw (aCons (eVar 0) (aCons (eC (.int 4)) aNil))))))))
      (sSeq (sSetX 4 (xM (eComp [9] (wRng1 (aCons (eCa cLen (aCons (eVar 1) aNil)) aNil)) (gN 9) (tVal (eNotN (eOp dIx (eVar 1) (eVar 9)))) (eGive 9))))
      (sSeq (sFor (wRng1 (aCons (eX (xOp dAddX (eC (.int 1)) (eX (xCall m__law_draw (aCons (eVar 0) (aCons (eC (.int 3)) aNil)))))) aNil)) (gN 5) (sSeq (sSetX 6 (xM (eLst aNil)))
      (sSeq (sFor (wRng1 (aCons (eX (xCall m__law_draw (aCons (eVar 0) (aCons (eC (.int 5)) aNil)))) aNil)) (gN 7) (sIf (tVal (eOp dNe (eVar 4) (eX (xM (eLst aNil))))) (sDrop (eMt "list" gApp 6 (aCons (eMt "list" gPopAt 4 (aCons (eX (xCall m__law_draw (aCons (eVar 0) (aCons (eCa cLen (aCons (eVar 4) aNil)) aNil)))) aNil)) aNil))) sNext))
      (sFor (wRng1 (aCons (eCa cLen (aCons (eVar 6) aNil)) aNil)) (gN 7) (sPut gSetL 3 (eOp dIx (eVar 6) (eVar 7)) (eOp dIx (eVar 1) (eOp dIx (eVar 6) (eOp dSub (eVar 7) (eC (.int 1))))))))))
      (sSeq (sSetX 8 (xOp dAddX (eC (.int 2)) (eX (xCall m__law_draw (aCons (eVar 0) (aCons (eC (.int 7)) aNil))))))
      (sSeq (sFor (wRng1 (aCons (eCa cLen (aCons (eVar 3) aNil)) aNil)) (gN 9) (sIf (tfAnd (tVal (eOp dNe (eVar 2) (eX (xM (eLst aNil))))) (tVal (eOp dEq (eX (xCall m__law_draw (aCons (eVar 0) (aCons (eGive 8) aNil)))) (eC (.int 0))))) (sSeq (sSetX 10 (xE (eOp dIx (eVar 2) (eX (xCall m__law_draw (aCons (eVar 0) (aCons (eCa cLen (aCons (eVar 2) aNil)) aNil)))))))
      (sPut gSetL 3 (eVar 9) (eOp dIx (eX (xM (eLst (aCons (eC .none) (aCons (eGive 10) aNil))))) (eX (xCall m__law_draw (aCons (eVar 0) (aCons (eC (.int 2)) aNil))))))) sNext))
      (sRetX (xCall m__law_trimmed (aCons (eVar 3) aNil)))))))))
def m__law_goal : FnS := runB 12 b__law_goal
def b__law_pair : EvS := (sSeq (sSetX 2 (xCall m__law_pool (aCons (eVar 0) (aCons (eX (xOp dAddX (eC (.int 1)) (eX (xCall m__law_draw (aCons (eVar 0) (aCons (eC (.int 12)) aNil)))))) aNil))))
      (sSeq (sSetX 3 (xCall m__law_start (aCons (eVar 0) (aCons (eGive 2) (aCons (eGive 1) aNil)))))
      (sSeq (sIf (tVal (eOp dEq (eX (xCall m__law_draw (aCons (eVar 0) (aCons (eC (.int 6)) aNil)))) (eC (.int 0)))) (sRetX (xE (eTup (aCons (eGive 3) (aCons (eX (xCall m__law_start (aCons (eVar 0) (aCons (eGive 2) (aCons (eGive 1) aNil))))) aNil))))) sNext)
      (sRetX (xE (eTup (aCons (eGive 3) (aCons (eX (xCall m__law_goal (aCons (eVar 0) (aCons (eGive 3) aNil)))) aNil))))))))
def m__law_pair : FnS := runB 4 b__law_pair
def b__law_at : EvS := (sSeq (sIf (tVal (eOp dGe (eVar 1) (eCa cLen (aCons (eVar 0) aNil)))) (sRetX (xE (eC .none))) sNext)
      (sRetX (xE (eOp dIx (eVar 0) (eVar 1)))))
def m__law_at : FnS := runB 2 b__law_at
def b__law_edges : EvS := (sSeq (sSetX 2 (xM (eLst aNil)))
      (sSeq (sFor (wRng1 (aCons (eCa cMin2 (aCons (eCa cLen (aCons (eVar 0) aNil)) (aCons (eCa cLen (aCons (eVar 1) aNil)) aNil))) aNil)) (gN 3) (sIf (tfAnd (tVal (eNotN (eOp dIx (eVar 0) (eVar 3)))) (tfAnd (tVal (eNotN (eOp dIx (eVar 1) (eVar 3)))) (tVal (eOp dNe (eOp dIx (eVar 0) (eVar 3)) (eOp dIx (eVar 1) (eVar 3)))))) (sDrop (eMt "list" gApp 2 (aCons (eTup (aCons (eGive 3) (aCons (eOp dIx (eVar 0) (eVar 3)) (aCons (eOp dIx (eVar 1) (eVar 3)) aNil)))) aNil))) sNext))
      (sRetX (xE (eVar 2)))))
def m__law_edges : FnS := runB 4 b__law_edges
def b__law_components : EvS := (sSeq (sSetX 1 (xM eD0))
      (sSeq (sFor (wAny (eGive 0)) (gT 3 (gsCons (gN 2) (gsCons (gN 3) (gsCons (gN 4) gsNil)))) (sDPutE 1 (eVar 2) (eGive 2)))
      (sSeq (sFor (wAny (eGive 0)) (gN 5) (sFor (wAny (eGive 0)) (gT 3 (gsCons (gN 2) (gsCons (gN 3) (gsCons (gN 4) gsNil)))) (sSeq (sSetX 6 (xM (eComp [7, 8, 9] (wAny (eGive 0)) (gT 3 (gsCons (gN 7) (gsCons (gN 8) (gsCons (gN 9) gsNil)))) (tfOr (tVal (eOp dInF (eVar 8) (eTup (aCons (eGive 3) (aCons (eGive 4) aNil))))) (tVal (eOp dInF (eVar 9) (eTup (aCons (eGive 3) (aCons (eGive 4) aNil)))))) (eOp dDGet (eVar 1) (eVar 7)))))
      (sDPutE 1 (eVar 2) (eCa cMinL (aCons (eVar 6) aNil))))))
      (sRetX (xM (eComp [10] (wAny (eX (xM (eCaM cSSet (aCons (eX (xM (eListV 1))) aNil))))) (gN 10) tYesE (eX (xM (eComp [2] (eKeysW 1) (gN 2) (tVal (eOp dEq (eOp dDGet (eVar 1) (eVar 2)) (eVar 10))) (eGive 2))))))))))
def m__law_components : FnS := runB 11 b__law_components
def b__law_is_pure : EvS := (sSeq (sFor (wAny (eGive 2)) (gT 3 (gsCons (gN 4) (gsCons (gN 5) (gsCons (gN 6) gsNil)))) (sIf (tVal (eOp dIn (eVar 4) (eVar 3))) (sSeq (sIf (tVal (eOp dNe (eCa cLen (aCons (eX (xM (eComp [8, 9, 10] (wAny (eGive 2)) (gT 3 (gsCons (gN 8) (gsCons (gN 9) (gsCons (gN 10) gsNil)))) (tVal (eOp dEq (eVar 9) (eVar 5))) (eC (.int 1))))) aNil)) (eC (.int 1)))) (sRetX (xE (eC (.bool false)))) sNext)
      (sSeq (sIf (tVal (eOp dNe (eCa cLen (aCons (eX (xM (eComp [8, 9, 10] (wAny (eGive 2)) (gT 3 (gsCons (gN 8) (gsCons (gN 9) (gsCons (gN 10) gsNil)))) (tVal (eOp dEq (eVar 10) (eVar 5))) (eC (.int 1))))) aNil)) (eC (.int 1)))) (sRetX (xE (eC (.bool false)))) sNext)
      (sSeq (sIf (tVal (eOp dNe (eCa cLen (aCons (eX (xM (eComp [8, 9, 10] (wAny (eGive 2)) (gT 3 (gsCons (gN 8) (gsCons (gN 9) (gsCons (gN 10) gsNil)))) (tVal (eOp dEq (eVar 9) (eVar 6))) (eC (.int 1))))) aNil)) (eC (.int 1)))) (sRetX (xE (eC (.bool false)))) sNext)
      (sSeq (sSetX 7 (xM (eComp [8, 9, 10] (wAny (eGive 2)) (gT 3 (gsCons (gN 8) (gsCons (gN 9) (gsCons (gN 10) gsNil)))) tYesE (eGive 8))))
      (sSeq (sIf (tVal (eOp dNe (eX (xM (eComp [8] (wRng1 (aCons (eCa cLen (aCons (eVar 0) aNil)) aNil)) (gN 8) (tfAnd (tVal (eOp dEq (eOp dIx (eVar 0) (eVar 8)) (eVar 5))) (tVal (eOp dNotIn (eVar 8) (eVar 7)))) (eC (.int 1))))) (eX (xM (eLst aNil))))) (sRetX (xE (eC (.bool false)))) sNext)
      (sIf (tVal (eOp dNe (eX (xM (eComp [8] (wRng1 (aCons (eCa cLen (aCons (eVar 1) aNil)) aNil)) (gN 8) (tfAnd (tVal (eOp dEq (eOp dIx (eVar 1) (eVar 8)) (eVar 5))) (tVal (eIsN (eX (xCall m__law_at (aCons (eGive 0) (aCons (eGive 8) aNil))))))) (eC (.int 1))))) (eX (xM (eLst aNil))))) (sRetX (xE (eC (.bool false)))) sNext)))))) sNext))
      (sRetX (xE (eC (.bool true)))))
def m__law_is_pure : FnS := runB 11 b__law_is_pure
def b__law_walked : EvS := (sSeq (sSetX 3 (xM (eLst (aCons (eCa cMinL (aCons (eVar 2) aNil)) aNil))))
      (sSeq (whE (tVal (eOp dLt (eCa cLen (aCons (eVar 3) aNil)) (eCa cLen (aCons (eVar 2) aNil)))) (sDrop (eMt "list" gApp 3 (aCons (eOp dIx (eX (xM (eComp [4] (wAny (eGive 2)) (gN 4) (tVal (eOp dEq (eOp dIx (eVar 0) (eVar 4)) (eOp dIx (eVar 1) (eOp dIx (eVar 3) (eUn dNeg (eC (.int 1))))))) (eGive 4)))) (eC (.int 0))) aNil))) fuel)
      (sRetX (xE (eCa cTuple (aCons (eVar 3) aNil))))))
def m__law_walked : FnS := runB 5 b__law_walked
def b__law_due : EvS := (sSeq (sSetX 2 (xCall m__law_edges (aCons (eGive 0) (aCons (eGive 1) aNil))))
      (sSeq (sSetX 3 (xM (eComp [4] (wAny (eX (xCall m__law_components (aCons (eGive 2) aNil)))) (gN 4) (tVal (eX (xCall m__law_is_pure (aCons (eGive 0) (aCons (eGive 1) (aCons (eGive 2) (aCons (eGive 4) aNil))))))) (eGive 4))))
      (sRetX (xM (eCaM cSrtD (aCons (eX (xM (eComp [4] (wAny (eGive 3)) (gN 4) tYesE (eX (xCall m__law_walked (aCons (eGive 0) (aCons (eGive 1) (aCons (eGive 4) aNil)))))))) aNil))))))
def m__law_due : FnS := runB 5 b__law_due
def b_law : EvS := (sSeq (sFor (wRng1 (aCons (eC (.int 3)) aNil)) (gN 2) (sSeq (sAsg (gT 2 (gsCons (gN 3) (gsCons (gN 4) gsNil))) (eX (xCall m__law_pair (aCons (eVar 1) (aCons (eC (.int 17)) aNil)))))
      (sFor (wAny (eTup (aCons (eTup (aCons (eGive 3) (aCons (eGive 4) aNil))) (aCons (eTup (aCons (eGive 4) (aCons (eGive 3) aNil))) (aCons (eTup (aCons (eGive 3) (aCons (eGive 3) aNil))) aNil))))) (gT 2 (gsCons (gN 5) (gsCons (gN 6) gsNil))) (sSeq (sSetX 7 (xE (eCa cReprX (aCons (eX (xCall m__law_due (aCons (eGive 5) (aCons (eGive 6) aNil)))) aNil))))
      (sFor (wRng1 (aCons (eC (.int 2)) aNil)) (gN 8) (sSeq (sSetX 9 (xCall m_pure_cycles (aCons (eGive 5) (aCons (eGive 6) aNil))))
      (sSeq (sIf (tVal (eOp dNe (eCa cReprX (aCons (eVar 9) aNil)) (eVar 7))) (sRetX (xE (eC (.bool false)))) sNext)
      (sDrop (eMt "list" gApp 9 (aCons (eTup aNil) aNil))))))))))
      (sRetX (xE (eAnd (eOp dEq (eX (xCallK m_pure_cycles (selA 0 2 true) aNil (aCons (eTup (aCons (eC (.str ("b" : Str))) (aCons (eC (.str ("a" : Str))) (aCons (eC (.str ("a" : Str))) aNil)))) (aCons (eTup (aCons (eC (.str ("a" : Str))) (aCons (eC (.str ("b" : Str))) aNil))) aNil)))) (eX (xM (eLst aNil)))) (eOp dEq (eX (xCall m_pure_cycles (aCons (eTup aNil) (aCons (eTup (aCons (eC (.str ("a" : Str))) aNil)) aNil)))) (eX (xM (eLst aNil))))))))
set_option maxHeartbeats 0 in
set_option genInjectivity false in
structure Txt (P : Program) (w : World) (K : PySem.W.Frag) (mg : Str → Option Value) (base : Heap) where
  dummy : Unit
  a_occupied : Addr
  d_occupied : FuncData
  f_occupied : Fun K "occupied" "occupied" s_occupied a_occupied d_occupied
  g_occupied : mg "occupied" = some (.ref a_occupied)
  b_occupied : Binds K d_occupied ["table"] []
  a_object_at : Addr
  d_object_at : FuncData
  f_object_at : Fun K "object_at" "object_at" s_object_at a_object_at d_object_at
  g_object_at : mg "object_at" = some (.ref a_object_at)
  b_object_at : Binds K d_object_at ["table", "slot"] []
  a_wrong_slots : Addr
  d_wrong_slots : FuncData
  f_wrong_slots : Fun K "wrong_slots" "wrong_slots" s_wrong_slots a_wrong_slots d_wrong_slots
  g_wrong_slots : mg "wrong_slots" = some (.ref a_wrong_slots)
  b_wrong_slots : Binds K d_wrong_slots ["start", "goal"] []
  a_fresh_slots : Addr
  d_fresh_slots : FuncData
  f_fresh_slots : Fun K "fresh_slots" "fresh_slots" s_fresh_slots a_fresh_slots d_fresh_slots
  g_fresh_slots : mg "fresh_slots" = some (.ref a_fresh_slots)
  b_fresh_slots : Binds K d_fresh_slots ["start", "goal"] []
  a_held_slots : Addr
  d_held_slots : FuncData
  f_held_slots : Fun K "held_slots" "held_slots" s_held_slots a_held_slots d_held_slots
  g_held_slots : mg "held_slots" = some (.ref a_held_slots)
  b_held_slots : Binds K d_held_slots ["start", "goal"] []
  a_needs : Addr
  d_needs : FuncData
  f_needs : Fun K "needs" "needs" s_needs a_needs d_needs
  g_needs : mg "needs" = some (.ref a_needs)
  b_needs : Binds K d_needs ["start", "goal"] []
  a_safe_objects : Addr
  d_safe_objects : FuncData
  f_safe_objects : Fun K "safe_objects" "safe_objects" s_safe_objects a_safe_objects d_safe_objects
  g_safe_objects : mg "safe_objects" = some (.ref a_safe_objects)
  b_safe_objects : Binds K d_safe_objects ["start", "goal"] []
  a_edges_of : Addr
  d_edges_of : FuncData
  f_edges_of : Fun K "edges_of" "edges_of" s_edges_of a_edges_of d_edges_of
  g_edges_of : mg "edges_of" = some (.ref a_edges_of)
  b_edges_of : Binds K d_edges_of ["start", "goal"] []
  a_cycle_from : Addr
  d_cycle_from : FuncData
  f_cycle_from : Fun K "cycle_from" "cycle_from" s_cycle_from a_cycle_from d_cycle_from
  g_cycle_from : mg "cycle_from" = some (.ref a_cycle_from)
  b_cycle_from : Binds K d_cycle_from ["slot", "goal", "successors"] []
  a_pure_cycles : Addr
  d_pure_cycles : FuncData
  f_pure_cycles : Fun K "pure_cycles" "pure_cycles" s_pure_cycles a_pure_cycles d_pure_cycles
  g_pure_cycles : mg "pure_cycles" = some (.ref a_pure_cycles)
  b_pure_cycles : Binds K d_pure_cycles ["start", "goal"] []
  k0_pure_cycles_goal_start : KBinds K d_pure_cycles ["start", "goal"] ["goal", "start"] (selA 0 2 true) (selA 0 2 true)
  a__law_pen : Addr
  d__law_pen : FuncData
  f__law_pen : Fun K "_law_pen" "_law_pen" s__law_pen a__law_pen d__law_pen
  g__law_pen : mg "_law_pen" = some (.ref a__law_pen)
  b__law_pen : Binds K d__law_pen ["_law_script"] []
  a__law_draw : Addr
  d__law_draw : FuncData
  f__law_draw : Fun K "_law_draw" "_law_draw" s__law_draw a__law_draw d__law_draw
  g__law_draw : mg "_law_draw" = some (.ref a__law_draw)
  b__law_draw : Binds K d__law_draw ["_law_pen_here", "_law_bound"] []
  a__law_pool : Addr
  d__law_pool : FuncData
  f__law_pool : Fun K "_law_pool" "_law_pool" s__law_pool a__law_pool d__law_pool
  g__law_pool : mg "_law_pool" = some (.ref a__law_pool)
  b__law_pool : Binds K d__law_pool ["_law_pen_here", "_law_many"] []
  a__law_trimmed : Addr
  d__law_trimmed : FuncData
  f__law_trimmed : Fun K "_law_trimmed" "_law_trimmed" s__law_trimmed a__law_trimmed d__law_trimmed
  g__law_trimmed : mg "_law_trimmed" = some (.ref a__law_trimmed)
  b__law_trimmed : Binds K d__law_trimmed ["_law_entries"] []
  a__law_start : Addr
  d__law_start : FuncData
  f__law_start : Fun K "_law_start" "_law_start" s__law_start a__law_start d__law_start
  g__law_start : mg "_law_start" = some (.ref a__law_start)
  b__law_start : Binds K d__law_start ["_law_pen_here", "_law_pool_here", "_law_most"] []
  a__law_goal : Addr
  d__law_goal : FuncData
  f__law_goal : Fun K "_law_goal" "_law_goal" s__law_goal a__law_goal d__law_goal
  g__law_goal : mg "_law_goal" = some (.ref a__law_goal)
  b__law_goal : Binds K d__law_goal ["_law_pen_here", "_law_first"] []
  a__law_pair : Addr
  d__law_pair : FuncData
  f__law_pair : Fun K "_law_pair" "_law_pair" s__law_pair a__law_pair d__law_pair
  g__law_pair : mg "_law_pair" = some (.ref a__law_pair)
  b__law_pair : Binds K d__law_pair ["_law_pen_here", "_law_most"] []
  a__law_at : Addr
  d__law_at : FuncData
  f__law_at : Fun K "_law_at" "_law_at" s__law_at a__law_at d__law_at
  g__law_at : mg "_law_at" = some (.ref a__law_at)
  b__law_at : Binds K d__law_at ["_law_state", "_law_slot"] []
  a__law_edges : Addr
  d__law_edges : FuncData
  f__law_edges : Fun K "_law_edges" "_law_edges" s__law_edges a__law_edges d__law_edges
  g__law_edges : mg "_law_edges" = some (.ref a__law_edges)
  b__law_edges : Binds K d__law_edges ["_law_first", "_law_second"] []
  a__law_components : Addr
  d__law_components : FuncData
  f__law_components : Fun K "_law_components" "_law_components" s__law_components a__law_components d__law_components
  g__law_components : mg "_law_components" = some (.ref a__law_components)
  b__law_components : Binds K d__law_components ["_law_edges_here"] []
  a__law_is_pure : Addr
  d__law_is_pure : FuncData
  f__law_is_pure : Fun K "_law_is_pure" "_law_is_pure" s__law_is_pure a__law_is_pure d__law_is_pure
  g__law_is_pure : mg "_law_is_pure" = some (.ref a__law_is_pure)
  b__law_is_pure : Binds K d__law_is_pure ["_law_first", "_law_second", "_law_edges_here", "_law_some"] []
  a__law_walked : Addr
  d__law_walked : FuncData
  f__law_walked : Fun K "_law_walked" "_law_walked" s__law_walked a__law_walked d__law_walked
  g__law_walked : mg "_law_walked" = some (.ref a__law_walked)
  b__law_walked : Binds K d__law_walked ["_law_first", "_law_second", "_law_some"] []
  a__law_due : Addr
  d__law_due : FuncData
  f__law_due : Fun K "_law_due" "_law_due" s__law_due a__law_due d__law_due
  g__law_due : mg "_law_due" = some (.ref a__law_due)
  b__law_due : Binds K d__law_due ["_law_first", "_law_second"] []
  n_abs : mg "abs" = none
  n_enumerate : mg "enumerate" = none
  n_int : mg "int" = none
  n_len : mg "len" = none
  n_list : mg "list" = none
  n_min : mg "min" = none
  n_range : mg "range" = none
  n_repr : mg "repr" = none
  n_set : mg "set" = none
  n_sorted : mg "sorted" = none
  n_tuple : mg "tuple" = none
section
variable {P : Program} {w : World} {K : PySem.W.Frag} {mg : Str → Option Value} {base : Heap}
theorem Txt.ok_occupied (T : Txt P w K mg base) : FnG P w K mg base CX0 1 T.a_occupied T.d_occupied ["table"] (spD K 1 m_occupied) := by
  refine fnD T.f_occupied sc_occupied fun cdv A outer s H E hg hr => ?_
  have hu64 := hr.units
  have hu65 := room65 hr
  exact ⟨_, (pss_one (ps_ret (pe_lc (own := [("slot", 1), ("entry", 2)]) rfl sc_occupied.nd (pi_enumA (by rfl) T.n_enumerate (pa_cons (pv 0) pa_nil)) (blkOk_by (N := N_occupied) (sc := defScope s_occupied) (by decide +kernel)) (fun _ _ _ _ _ => (pg_tup rfl (pgs_cons (pg_name (i := 1) sc_occupied.nd rfl (by first | exact Or.inl rfl | exact Or.inr rfl)) (pgs_cons (pg_name (i := 2) sc_occupied.nd rfl (by first | exact Or.inl rfl | exact Or.inr rfl)) pgs_nil)))) (fun _ _ _ _ _ => (pts_one (pt_cmp (pc_notN (pv 2))))) (fun _ _ _ _ _ => (pv 1))))),
    (is_retX (ix_m (im_comp (iw_enumA (ia_cons (ie_give (i := 0)) ia_nil)) (ig_tup (n := 2) (igs_cons (ig_name (i := 1)) (igs_cons (ig_name (i := 2)) igs_nil))) (it_B (ie_notN (ie_var (i := 2)))) (ie_give (i := 1)) (by decide))))⟩
theorem Txt.ok_object_at (T : Txt P w K mg base) : FnG P w K mg base CX0 1 T.a_object_at T.d_object_at ["table", "slot"] (spD K 2 m_object_at) := by
  refine fnD T.f_object_at sc_object_at fun cdv A outer s H E hg hr => ?_
  have hu64 := hr.units
  have hu65 := room65 hr
  exact ⟨_, (pss_one (ps_ret (pe_ifExp (pt_cmpR op_lt (pv 1) (pe_callB call_lenA (by rfl) T.n_len (by decide +kernel) (pa_cons (pv 0) pa_nil)) (nomark _)) (pe_ix ix_seq (pv 0) (pv 1) (fun _ _ => rfl)) pe_non))),
    (is_retX (ix_if (it_test (ie_op od_lt (ie_var (i := 1)) (ie_cb cd_len (ia_cons (ie_var (i := 0)) ia_nil)))) (ix_e (ie_op od_ix (ie_var (i := 0)) (ie_var (i := 1)))) (ix_e ie_non)))⟩
theorem Txt.ok_wrong_slots (T : Txt P w K mg base) : FnG P w K mg base CX0 2 T.a_wrong_slots T.d_wrong_slots ["start", "goal"] (spD K 2 m_wrong_slots) := by
  refine fnD T.f_wrong_slots sc_wrong_slots fun cdv A outer s H E hg hr => ?_
  have hu64 := hr.units
  have hu65 := room65 hr
  exact ⟨_, (pss_one (ps_ret (pe_lc (own := [("slot", 2)]) rfl sc_wrong_slots.nd (pi_any (pe_callG T.ok_occupied hg (hr.mono (by decide)) (by rfl) T.g_occupied T.f_occupied.kp T.b_occupied .nil pass0 (pa_cons (pv 1) pa_nil))) (blkOk_by (N := N_wrong_slots) (sc := defScope s_wrong_slots) (by decide +kernel)) (fun _ _ _ _ _ => (pg_name (i := 2) sc_wrong_slots.nd rfl (by first | exact Or.inl rfl | exact Or.inr rfl))) (fun _ _ _ _ _ => (pts_one (pt_cmpR (op_neA hu64) (pe_callG T.ok_object_at hg (hr.mono (by decide)) (by rfl) T.g_object_at T.f_object_at.kp T.b_object_at .nil pass0 (pa_cons (pv 0) (pa_cons (pv 2) pa_nil))) (pe_ix ix_seq (pv 1) (pv 2) (fun _ _ => rfl)) (nomark _)))) (fun _ _ _ _ _ => (pv 2))))),
    (is_retX (ix_m (im_comp (iw_any (ie_x (ix_call (ia_cons (ie_give (i := 1)) ia_nil) (len_cons len_nil)))) (ig_name (i := 2)) (it_test (ie_op od_ne (ie_x (ix_call (ia_cons (ie_give (i := 0)) (ia_cons (ie_give (i := 2)) ia_nil)) (len_cons (len_cons len_nil)))) (ie_op od_ix (ie_var (i := 1)) (ie_var (i := 2))))) (ie_give (i := 2)) (by decide))))⟩
theorem Txt.ok_fresh_slots (T : Txt P w K mg base) : FnG P w K mg base CX0 3 T.a_fresh_slots T.d_fresh_slots ["start", "goal"] (spD K 2 m_fresh_slots) := by
  refine fnD T.f_fresh_slots sc_fresh_slots fun cdv A outer s H E hg hr => ?_
  have hu64 := hr.units
  have hu65 := room65 hr
  exact ⟨_, (pss_one (ps_ret (pe_lc (own := [("slot", 2)]) rfl sc_fresh_slots.nd (pi_any (pe_callG T.ok_wrong_slots hg (hr.mono (by decide)) (by rfl) T.g_wrong_slots T.f_wrong_slots.kp T.b_wrong_slots .nil pass0 (pa_cons (pv 0) (pa_cons (pv 1) pa_nil)))) (blkOk_by (N := N_fresh_slots) (sc := defScope s_fresh_slots) (by decide +kernel)) (fun _ _ _ _ _ => (pg_name (i := 2) sc_fresh_slots.nd rfl (by first | exact Or.inl rfl | exact Or.inr rfl))) (fun _ _ _ _ _ => (pts_one (pt_cmp (pc_isN (pe_callG T.ok_object_at hg (hr.mono (by decide)) (by rfl) T.g_object_at T.f_object_at.kp T.b_object_at .nil pass0 (pa_cons (pv 0) (pa_cons (pv 2) pa_nil))))))) (fun _ _ _ _ _ => (pv 2))))),
    (is_retX (ix_m (im_comp (iw_any (ie_x (ix_call (ia_cons (ie_give (i := 0)) (ia_cons (ie_give (i := 1)) ia_nil)) (len_cons (len_cons len_nil))))) (ig_name (i := 2)) (it_B (ie_isN (ie_x (ix_call (ia_cons (ie_give (i := 0)) (ia_cons (ie_give (i := 2)) ia_nil)) (len_cons (len_cons len_nil)))))) (ie_give (i := 2)) (by decide))))⟩
theorem Txt.ok_held_slots (T : Txt P w K mg base) : FnG P w K mg base CX0 3 T.a_held_slots T.d_held_slots ["start", "goal"] (spD K 2 m_held_slots) := by
  refine fnD T.f_held_slots sc_held_slots fun cdv A outer s H E hg hr => ?_
  have hu64 := hr.units
  have hu65 := room65 hr
  exact ⟨_, (pss_one (ps_ret (pe_lc (own := [("slot", 2)]) rfl sc_held_slots.nd (pi_any (pe_callG T.ok_wrong_slots hg (hr.mono (by decide)) (by rfl) T.g_wrong_slots T.f_wrong_slots.kp T.b_wrong_slots .nil pass0 (pa_cons (pv 0) (pa_cons (pv 1) pa_nil)))) (blkOk_by (N := N_held_slots) (sc := defScope s_held_slots) (by decide +kernel)) (fun _ _ _ _ _ => (pg_name (i := 2) sc_held_slots.nd rfl (by first | exact Or.inl rfl | exact Or.inr rfl))) (fun _ _ _ _ _ => (pts_one (pt_cmp (pc_notN (pe_callG T.ok_object_at hg (hr.mono (by decide)) (by rfl) T.g_object_at T.f_object_at.kp T.b_object_at .nil pass0 (pa_cons (pv 0) (pa_cons (pv 2) pa_nil))))))) (fun _ _ _ _ _ => (pv 2))))),
    (is_retX (ix_m (im_comp (iw_any (ie_x (ix_call (ia_cons (ie_give (i := 0)) (ia_cons (ie_give (i := 1)) ia_nil)) (len_cons (len_cons len_nil))))) (ig_name (i := 2)) (it_B (ie_notN (ie_x (ix_call (ia_cons (ie_give (i := 0)) (ia_cons (ie_give (i := 2)) ia_nil)) (len_cons (len_cons len_nil)))))) (ie_give (i := 2)) (by decide))))⟩
theorem Txt.ok_needs (T : Txt P w K mg base) : FnG P w K mg base CX0 4 T.a_needs T.d_needs ["start", "goal"] (spD K 2 m_needs) := by
  refine fnD T.f_needs sc_needs fun cdv A outer s H E hg hr => ?_
  have hu64 := hr.units
  have hu65 := room65 hr
  exact ⟨_, (pss_one (ps_ret (pe_lc (own := [("slot", 2)]) rfl sc_needs.nd (pi_any (pe_callG T.ok_held_slots hg (hr.mono (by decide)) (by rfl) T.g_held_slots T.f_held_slots.kp T.b_held_slots .nil pass0 (pa_cons (pv 0) (pa_cons (pv 1) pa_nil)))) (blkOk_by (N := N_needs) (sc := defScope s_needs) (by decide +kernel)) (fun _ _ _ _ _ => (pg_name (i := 2) sc_needs.nd rfl (by first | exact Or.inl rfl | exact Or.inr rfl))) (fun _ _ _ _ _ => pts_nil) (fun _ _ _ _ _ => (pe_tupF (pa_cons (pv 2) (pa_cons (pe_ix ix_seq (pv 0) (pv 2) (fun _ _ => rfl)) (pa_cons (pe_ix ix_seq (pv 1) (pv 2) (fun _ _ => rfl)) pa_nil)))))))),
    (is_retX (ix_m (im_comp (iw_any (ie_x (ix_call (ia_cons (ie_give (i := 0)) (ia_cons (ie_give (i := 1)) ia_nil)) (len_cons (len_cons len_nil))))) (ig_name (i := 2)) it_yes (ie_tup (ia_cons (ie_give (i := 2)) (ia_cons (ie_op od_ix (ie_var (i := 0)) (ie_var (i := 2))) (ia_cons (ie_op od_ix (ie_var (i := 1)) (ie_var (i := 2))) ia_nil)))) (by decide))))⟩
theorem Txt.ok_safe_objects (T : Txt P w K mg base) : FnG P w K mg base CX0 4 T.a_safe_objects T.d_safe_objects ["start", "goal"] (spD K 2 m_safe_objects) := by
  refine fnD T.f_safe_objects sc_safe_objects fun cdv A outer s H E hg hr => ?_
  have hu64 := hr.units
  have hu65 := room65 hr
  exact ⟨_, (pss_cons (ps_set (i := 2) sc_safe_objects.nd rfl (by first | exact Or.inl rfl | exact Or.inr rfl) (pe_dc (own := [("slot", 4)]) rfl sc_safe_objects.nd (pi_any (pe_callG T.ok_held_slots hg (hr.mono (by decide)) (by rfl) T.g_held_slots T.f_held_slots.kp T.b_held_slots .nil pass0 (pa_cons (pv 0) (pa_cons (pv 1) pa_nil)))) (blkOk_by (N := N_safe_objects) (sc := defScope s_safe_objects) (by decide +kernel)) (fun _ _ _ _ _ => (pg_name (i := 4) sc_safe_objects.nd rfl (by first | exact Or.inl rfl | exact Or.inr rfl))) (fun _ _ _ _ _ => pts_nil) (fun _ _ _ _ _ => (pv 4)) (fun _ _ _ _ _ => pe_bl)))
      (pss_cons (ps_setLc (i := 3) (own := [("slot", 4)]) rfl sc_safe_objects.nd rfl rfl (sw_true rfl rfl rfl (by decide +kernel)) (pi_any (pe_callG T.ok_occupied hg (hr.mono (by decide)) (by rfl) T.g_occupied T.f_occupied.kp T.b_occupied .nil pass0 (pa_cons (pv 0) pa_nil))) (blkOk_by (N := N_safe_objects) (sc := defScope s_safe_objects) (by decide +kernel)) (fun _ _ _ _ _ => (pg_name (i := 4) sc_safe_objects.nd rfl (by first | exact Or.inl rfl | exact Or.inr rfl))) (fun _ _ _ _ _ => (pts_one (pt_cmp (pc_dnotin (room1 hu64) (pv 4) (pv 2))))) (fun _ _ _ _ _ => (pe_ix ix_seq (pv 0) (pv 4) (fun _ _ => rfl))))
      (pss_one (ps_ret (pe_callB (cr_sortG rfl) (by rfl) T.n_sorted (by decide +kernel) (pa_cons (pe_op op_sor (pe_callTy (cr_setT rfl) (by rfl) T.n_set (by decide +kernel) (pa_cons (pv 3) pa_nil)) (pe_scS (own := [("slot", 4)]) rfl sc_safe_objects.nd (pi_any (pe_callG T.ok_fresh_slots hg (hr.mono (by decide)) (by rfl) T.g_fresh_slots T.f_fresh_slots.kp T.b_fresh_slots .nil pass0 (pa_cons (pv 0) (pa_cons (pv 1) pa_nil)))) (blkOk_by (N := N_safe_objects) (sc := defScope s_safe_objects) (by decide +kernel)) (fun _ _ _ _ _ => (pg_name (i := 4) sc_safe_objects.nd rfl (by first | exact Or.inl rfl | exact Or.inr rfl))) (fun _ _ _ _ _ => pts_nil) (fun _ _ _ _ _ => (pe_ix ix_seq (pv 1) (pv 4) (fun _ _ => rfl))))) pa_nil)))))),
    (is_seq (is_setX (i := 2) (ix_m (im_dc (iw_any (ie_x (ix_call (ia_cons (ie_give (i := 0)) (ia_cons (ie_give (i := 1)) ia_nil)) (len_cons (len_cons len_nil))))) (ig_name (i := 4)) it_yes (ie_give (i := 4)) ie_bl (by decide))))
      (is_seq (is_setX (i := 3) (ix_m (im_comp (iw_any (ie_x (ix_call (ia_cons (ie_give (i := 0)) ia_nil) (len_cons len_nil)))) (ig_name (i := 4)) (it_B (ie_op od_dnotin (ie_var (i := 4)) (ie_var (i := 2)))) (ie_op od_ix (ie_var (i := 0)) (ie_var (i := 4))) (by decide))))
      (is_retX (ix_m (im_sortSet (ise_or (ise_set (ia_cons (ie_var (i := 3)) ia_nil)) (ise_comp (iw_any (ie_x (ix_call (ia_cons (ie_give (i := 0)) (ia_cons (ie_give (i := 1)) ia_nil)) (len_cons (len_cons len_nil))))) (ig_name (i := 4)) it_yes (ie_op od_ix (ie_var (i := 1)) (ie_var (i := 4))) (by decide))))))))⟩
theorem Txt.ok_edges_of (T : Txt P w K mg base) : FnG P w K mg base CX0 5 T.a_edges_of T.d_edges_of ["start", "goal"] (spD K 2 m_edges_of) := by
  refine fnD T.f_edges_of sc_edges_of fun cdv A outer s H E hg hr => ?_
  have hu64 := hr.units
  have hu65 := room65 hr
  exact ⟨_, (pss_cons (ps_par (i := 2) (j := 3) (by rfl) sc_edges_of.nd rfl rfl (by decide) rfl rfl (pa_cons pe_dnewK (pa_cons pe_dnewK pa_nil)) (by rfl))
      (pss_cons (ps_for PassesOwn.never rfl (pi_any (pe_callG T.ok_needs hg (hr.mono (by decide)) (by rfl) T.g_needs T.f_needs.kp T.b_needs .nil pass0 (pa_cons (pv 0) (pa_cons (pv 1) pa_nil)))) (pg_tup rfl (pgs_cons (pg_name (i := 4) sc_edges_of.nd rfl (by first | exact Or.inl rfl | exact Or.inr rfl)) (pgs_cons (pg_name (i := 5) sc_edges_of.nd rfl (by first | exact Or.inl rfl | exact Or.inr rfl)) (pgs_cons (pg_name (i := 6) sc_edges_of.nd rfl (by first | exact Or.inl rfl | exact Or.inr rfl)) pgs_nil)))) (pss_cons (ps_expr (pe_bm PySem.F.plainAttrs_list PySem.F.slot_list_append PySem.F.type_list_append mt_append (pe_dsetd (pv 2) (pv 5) (pe_lst pa_nil) ⟨rfl, rfl, rfl, rfl⟩) (pa_cons (pv 4) pa_nil))) (pss_one (ps_expr (pe_bm PySem.F.plainAttrs_list PySem.F.slot_list_append PySem.F.type_list_append mt_append (pe_dsetd (pv 3) (pv 6) (pe_lst pa_nil) ⟨rfl, rfl, rfl, rfl⟩) (pa_cons (pv 4) pa_nil))))))
      (pss_one (ps_ret (pe_tup (pa_cons (pv 2) (pa_cons (pv 3) pa_nil))))))),
    (is_edges (k1 := 5) (k2 := 6) (s := 4) (iw_any (ie_x (ix_call (ia_cons (ie_give (i := 0)) (ia_cons (ie_give (i := 1)) ia_nil)) (len_cons (len_cons len_nil))))) (ig_tup (n := 3) (igs_cons (ig_name (i := 4)) (igs_cons (ig_name (i := 5)) (igs_cons (ig_name (i := 6)) igs_nil)))) (by decide) (by decide) (by decide))⟩
theorem Txt.ok_cycle_from (T : Txt P w K mg base) : FnG P w K mg base CX0 1 T.a_cycle_from T.d_cycle_from ["slot", "goal", "successors"] (spD K 3 m_cycle_from) := by
  refine fnD T.f_cycle_from sc_cycle_from fun cdv A outer s H E hg hr => ?_
  have hu64 := hr.units
  have hu65 := room65 hr
  exact ⟨_, (pss_cons (ps_set (i := 3) sc_cycle_from.nd rfl (by first | exact Or.inl rfl | exact Or.inr rfl) (pe_lst (pa_cons (pv 0) pa_nil)))
      (pss_cons (ps_set (i := 4) sc_cycle_from.nd rfl (by first | exact Or.inl rfl | exact Or.inr rfl) (pe_dget2 (room1 hu64) (pv 2) (pe_ix ix_seq (pv 1) (pv 0) (fun _ _ => rfl)) pe_non ⟨rfl, rfl, rfl, rfl⟩))
      (pss_cons (ps_while PassesOwn.never (PW.pt (pw_and (pt_cmp (pc_notN (pv 4))) (pw_and1 (pt_cmpR (op_neA hu64) (pv 4) (pv 0) (nomark _))))) (pss_cons (ps_expr (pe_bm PySem.F.plainAttrs_list PySem.F.slot_list_append PySem.F.type_list_append mt_append (pv 3) (pa_cons (pv 4) pa_nil)))
      (pss_one (ps_set (i := 4) sc_cycle_from.nd rfl (by first | exact Or.inl rfl | exact Or.inr rfl) (pe_dget2 (room1 hu64) (pv 2) (pe_ix ix_seq (pv 1) (pv 4) (fun _ _ => rfl)) pe_non ⟨rfl, rfl, rfl, rfl⟩)))))
      (pss_one (ps_ret (pe_ifExp (pt_cmp (pc_isN (pv 4))) pe_non (pe_callTy call_tupF (by rfl) T.n_tuple (by decide +kernel) (pa_cons (pv 3) pa_nil)))))))),
    (is_seq (is_setX (i := 3) (ix_m (im_lst (ia_cons (ie_give (i := 0)) ia_nil))))
      (is_seq (is_setX (i := 4) (ix_e (ie_get2 (ie_var (i := 2)) (ie_op od_ix (ie_var (i := 1)) (ie_var (i := 0))) ie_non)))
      (is_seq (is_while (n := fuel) (it_and (it_B (ie_notN (ie_var (i := 4)))) (it_test (ie_op od_ne (ie_var (i := 4)) (ie_var (i := 0))))) (is_seq (is_drop (ie_mt (i := 3) md_app (ia_cons (ie_give (i := 4)) ia_nil)))
      (is_setX (i := 4) (ix_e (ie_get2 (ie_var (i := 2)) (ie_op od_ix (ie_var (i := 1)) (ie_var (i := 4))) ie_non)))))
      (is_retX (ix_if (it_B (ie_isN (ie_var (i := 4)))) (ix_e ie_non) (ix_e (ie_cb cd_tuple (ia_cons (ie_var (i := 3)) ia_nil))))))))⟩
theorem Txt.ok_pure_cycles (T : Txt P w K mg base) : FnG P w K mg base CX0 6 T.a_pure_cycles T.d_pure_cycles ["start", "goal"] (spD K 2 m_pure_cycles) := by
  refine fnD T.f_pure_cycles sc_pure_cycles fun cdv A outer s H E hg hr => ?_
  have hu64 := hr.units
  have hu65 := room65 hr
  exact ⟨_, (pss_cons (ps_asg (pe_callG T.ok_edges_of hg (hr.mono (by decide)) (by rfl) T.g_edges_of T.f_edges_of.kp T.b_edges_of .nil pass0 (pa_cons (pv 0) (pa_cons (pv 1) pa_nil))) (pg_tup rfl (pgs_cons (pg_name (i := 2) sc_pure_cycles.nd rfl (by first | exact Or.inl rfl | exact Or.inr rfl)) (pgs_cons (pg_name (i := 3) sc_pure_cycles.nd rfl (by first | exact Or.inl rfl | exact Or.inr rfl)) pgs_nil))))
      (pss_cons (ps_setDc (i := 4) (own := [("name", 6)]) rfl sc_pure_cycles.nd rfl rfl (sw_trueD rfl rfl rfl (by decide +kernel)) (pi_any (pe_callG T.ok_safe_objects hg (hr.mono (by decide)) (by rfl) T.g_safe_objects T.f_safe_objects.kp T.b_safe_objects .nil pass0 (pa_cons (pv 0) (pa_cons (pv 1) pa_nil)))) (blkOk_by (N := N_pure_cycles) (sc := defScope s_pure_cycles) (by decide +kernel)) (fun _ _ _ _ _ => (pg_name (i := 6) sc_pure_cycles.nd rfl (by first | exact Or.inl rfl | exact Or.inr rfl))) (fun _ _ _ _ _ => pts_nil) (fun _ _ _ _ _ => (pv 6)) (fun _ _ _ _ _ => pe_bl))
      (pss_cons (ps_set (i := 5) sc_pure_cycles.nd rfl (by first | exact Or.inl rfl | exact Or.inr rfl) pe_dnewK)
      (pss_cons (ps_forIt (ps_for PassesOwn.never rfl (pi_items (pv 2)) (pg_tup rfl (pgs_cons (pg_name (i := 6) sc_pure_cycles.nd rfl (by first | exact Or.inl rfl | exact Or.inr rfl)) (pgs_cons (pg_name (i := 7) sc_pure_cycles.nd rfl (by first | exact Or.inl rfl | exact Or.inr rfl)) pgs_nil))) (pss_one (ps_if (PW.pt (pw_and (pt_cmpR (op_eqA hu64) (pe_callB call_lenA (by rfl) T.n_len (by decide +kernel) (pa_cons (pv 7) pa_nil)) pe_int (nomark _)) (pw_and (pt_cmpR (op_eqA hu64) (pe_callB call_lenA (by rfl) T.n_len (by decide +kernel) (pa_cons (pe_dget2 (room1 hu64) (pv 3) (pv 6) (pe_lst pa_nil) ⟨rfl, rfl, rfl, rfl⟩) pa_nil)) pe_int (nomark _)) (pw_and1 (pt_cmp (pc_dnotin (room1 hu64) (pv 6) (pv 4))))))) (pss_one (ps_dput (room1 hu64) (pv 5) (pv 6) (pe_ix ix_seq (pv 7) pe_int (fun _ _ => rfl)) rfl)) pss_nil))))
      (pss_cons (ps_set (i := 8) sc_pure_cycles.nd rfl (by first | exact Or.inl rfl | exact Or.inr rfl) (pe_lst pa_nil))
      (pss_cons (ps_set (i := 9) sc_pure_cycles.nd rfl (by first | exact Or.inl rfl | exact Or.inr rfl) pe_dnewK)
      (pss_cons (ps_for PassesOwn.never rfl (pi_any (pe_callG T.ok_needs hg (hr.mono (by decide)) (by rfl) T.g_needs T.f_needs.kp T.b_needs .nil pass0 (pa_cons (pv 0) (pa_cons (pv 1) pa_nil)))) (pg_tup rfl (pgs_cons (pg_name (i := 10) sc_pure_cycles.nd rfl (by first | exact Or.inl rfl | exact Or.inr rfl)) (pgs_cons (pg_name (i := 11) sc_pure_cycles.nd rfl (by first | exact Or.inl rfl | exact Or.inr rfl)) (pgs_cons (pg_name (i := 12) sc_pure_cycles.nd rfl (by first | exact Or.inl rfl | exact Or.inr rfl)) pgs_nil)))) (pss_cons (ps_set (i := 13) sc_pure_cycles.nd rfl (by first | exact Or.inl rfl | exact Or.inr rfl) (pe_ifExp (pt_cmp (pc_din (room1 hu64) (pv 10) (pv 9))) pe_non (pe_callG T.ok_cycle_from hg (hr.mono (by decide)) (by rfl) T.g_cycle_from T.f_cycle_from.kp T.b_cycle_from .nil pass0 (pa_cons (pv 10) (pa_cons (pv 1) (pa_cons (pv 5) pa_nil))))))
      (pss_one (ps_if (pt_cmp (pc_notN (pv 13))) (pss_cons (ps_expr (pe_bm PySem.F.plainAttrs_list PySem.F.slot_list_append PySem.F.type_list_append mt_append (pv 8) (pa_cons (pv 13) pa_nil)))
      (pss_one (ps_expr (pe_bm PySem.F.plainAttrs_dict PySem.F.slot_dict_update PySem.F.type_dict_update mt_updD (pv 9) (pa_cons (pe_dc (own := [("one", 14)]) rfl sc_pure_cycles.nd (pi_any (pv 13)) (blkOk_by (N := N_pure_cycles) (sc := defScope s_pure_cycles) (by decide +kernel)) (fun _ _ _ _ _ => (pg_name (i := 14) sc_pure_cycles.nd rfl (by first | exact Or.inl rfl | exact Or.inr rfl))) (fun _ _ _ _ _ => pts_nil) (fun _ _ _ _ _ => (pv 14)) (fun _ _ _ _ _ => pe_bl)) pa_nil))))) pss_nil))))
      (pss_one (ps_ret (pv 8)))))))))),
    (is_seq (is_asg (ie_x (ix_call (ia_cons (ie_give (i := 0)) (ia_cons (ie_give (i := 1)) ia_nil)) (len_cons (len_cons len_nil)))) (ig_tup (n := 2) (igs_cons (ig_name (i := 2)) (igs_cons (ig_name (i := 3)) igs_nil))))
      (is_seq (is_setX (i := 4) (ix_m (im_dc (iw_any (ie_x (ix_call (ia_cons (ie_give (i := 0)) (ia_cons (ie_give (i := 1)) ia_nil)) (len_cons (len_cons len_nil))))) (ig_name (i := 6)) it_yes (ie_give (i := 6)) ie_bl (by decide))))
      (is_seq (is_setX (i := 5) (ix_m im_d0))
      (is_seq (is_forItems (i := 2) (ig_tup (n := 2) (igs_cons (ig_name (i := 6)) (igs_cons (ig_name (i := 7)) igs_nil))) (is_if (it_and (it_test (ie_op od_eq (ie_cb cd_len (ia_cons (ie_var (i := 7)) ia_nil)) ie_int)) (it_and (it_test (ie_op od_eq (ie_cb cd_len (ia_cons (ie_get2 (ie_var (i := 3)) (ie_var (i := 6)) (ie_x (ix_m (im_lst ia_nil)))) ia_nil)) ie_int)) (it_B (ie_op od_dnotin (ie_var (i := 6)) (ie_var (i := 4)))))) (is_dput (i := 5) (ie_var (i := 6)) (ie_op od_ix (ie_var (i := 7)) ie_int)) is_next))
      (is_seq (is_setX (i := 8) (ix_m (im_lst ia_nil)))
      (is_seq (is_setX (i := 9) (ix_m im_d0))
      (is_seq (is_for (iw_any (ie_x (ix_call (ia_cons (ie_give (i := 0)) (ia_cons (ie_give (i := 1)) ia_nil)) (len_cons (len_cons len_nil))))) (ig_tup (n := 3) (igs_cons (ig_name (i := 10)) (igs_cons (ig_name (i := 11)) (igs_cons (ig_name (i := 12)) igs_nil)))) (is_seq (is_setX (i := 13) (ix_if (it_B (ie_op od_din (ie_var (i := 10)) (ie_var (i := 9)))) (ix_e ie_non) (ix_call (ia_cons (ie_give (i := 10)) (ia_cons (ie_give (i := 1)) (ia_cons (ie_var (i := 5)) ia_nil))) (len_cons (len_cons (len_cons len_nil))))))
      (is_if (it_B (ie_notN (ie_var (i := 13)))) (is_seq (is_drop (ie_mt (i := 8) md_app (ia_cons (ie_give (i := 13)) ia_nil)))
      (is_drop (ie_mt (i := 9) md_updD (ia_cons (ie_x (ix_m (im_dc (iw_any (ie_give (i := 13))) (ig_name (i := 14)) it_yes (ie_give (i := 14)) ie_bl (by decide)))) ia_nil)))) is_next)))
      (is_retX (ix_e (ie_var (i := 8)))))))))))⟩
theorem Txt.ok__law_pen (T : Txt P w K mg base) : FnG P w K mg base CX0 1 T.a__law_pen T.d__law_pen ["_law_script"] (spPen K) := by
  refine okG T.f__law_pen sc__law_pen (fun vs H Q E h => ?_) (fun cdv A outer s H vs Q E hg hr h => ?_)
  · obtain ⟨a, ns, rfl, _⟩ := h; rfl
  · exact ⟨_, pss_one (ps_ret (pe_lst (pa_cons (pe_callTy call_list_of (by rfl) T.n_list (by decide +kernel) (pa_cons (pe_slice sl_list (pv 0) po_none (po_some pe_int)) pa_nil)) (pa_cons pe_int (pa_cons pe_int pa_nil))))), pen_read h⟩
theorem Txt.ok__law_draw (T : Txt P w K mg base) : FnG P w K mg base CX0 1 T.a__law_draw T.d__law_draw ["_law_pen_here", "_law_bound"] (spD K 2 m__law_draw) := by
  refine fnD T.f__law_draw sc__law_draw fun cdv A outer s H E hg hr => ?_
  have hu64 := hr.units
  have hu65 := room65 hr
  exact ⟨_, (pss_cons (ps_if (pt_cmpR op_gt (pe_ix ix_seq (pv 0) pe_int (fun _ _ => rfl)) pe_int (nomark _)) (pss_cons (ps_set (i := 2) sc__law_draw.nd rfl (by first | exact Or.inl rfl | exact Or.inr rfl) (pe_op op_mod (pe_ix ix_seq (pv 0) pe_int (fun _ _ => rfl)) (pv 1)))
      (pss_cons (ps_asg (pe_op op_fdiv (pe_ix ix_seq (pv 0) pe_int (fun _ _ => rfl)) (pv 1)) (pg_sub (pv 0) pe_int set_list))
      (pss_one (ps_ret (pv 2))))) pss_nil)
      (pss_cons (ps_set (i := 3) sc__law_draw.nd rfl (by first | exact Or.inl rfl | exact Or.inr rfl) (pe_ix ix_seq (pv 0) pe_int (fun _ _ => rfl)))
      (pss_cons (ps_asg (pe_op op_addX (pv 3) pe_int) (pg_sub (pv 0) pe_int set_list))
      (pss_cons (ps_set (i := 4) sc__law_draw.nd rfl (by first | exact Or.inl rfl | exact Or.inr rfl) (pe_op op_addX (pe_op op_mul pe_int (pv 3)) pe_int))
      (pss_cons (ps_if (pt_cmpR (op_neA hu64) (pe_ix ix_seq (pv 0) pe_int (fun _ _ => rfl)) (pe_lst pa_nil) (nomark _)) (pss_one (ps_set (i := 4) sc__law_draw.nd rfl (by first | exact Or.inl rfl | exact Or.inr rfl) (pe_ix ix_seq (pe_ix ix_seq (pv 0) pe_int (fun _ _ => rfl)) (pe_op op_mod (pv 3) (pe_callB call_lenA (by rfl) T.n_len (by decide +kernel) (pa_cons (pe_ix ix_seq (pv 0) pe_int (fun _ _ => rfl)) pa_nil))) (fun _ _ => rfl)))) pss_nil)
      (pss_cons (ps_if (PW.pt (pw_and (pt_cmpR op_lt (pv 3) (pe_callB call_lenA (by rfl) T.n_len (by decide +kernel) (pa_cons (pe_ix ix_seq (pv 0) pe_int (fun _ _ => rfl)) pa_nil)) (nomark _)) (pw_and1 (pt_cmpR op_ge (pe_callB call_abs (by rfl) T.n_abs (by decide +kernel) (pa_cons (pv 4) pa_nil)) (pe_op op_pow pe_int pe_int) (nomark _))))) (pss_cons (ps_set (i := 5) sc__law_draw.nd rfl (by first | exact Or.inl rfl | exact Or.inr rfl) (pe_op op_addX (pe_op op_mul pe_int (pe_callB call_abs (by rfl) T.n_abs (by decide +kernel) (pa_cons (pv 4) pa_nil))) (pe_callTy call_intA (by rfl) T.n_int (by decide +kernel) (pa_cons (pe_cmpR op_lt (pv 4) pe_int (nomark _)) pa_nil))))
      (pss_cons (ps_asg (pe_op op_fdiv (pv 5) (pv 1)) (pg_sub (pv 0) pe_int set_list))
      (pss_one (ps_ret (pe_op op_mod (pv 5) (pv 1)))))) pss_nil)
      (pss_cons (ps_set (i := 6) sc__law_draw.nd rfl (by first | exact Or.inl rfl | exact Or.inr rfl) (pe_op op_mod (pe_op op_pow (pe_op op_addX (pe_op op_addX (pe_op op_mod (pv 4) pe_int) (pe_op op_mul pe_int (pv 3))) pe_int) pe_int) pe_int))
      (pss_cons (ps_set (i := 6) sc__law_draw.nd rfl (by first | exact Or.inl rfl | exact Or.inr rfl) (pe_op op_mod (pe_op op_pow (pe_op op_addX (pe_op op_mul (pv 6) (pe_op op_addX (pe_op op_mul pe_int (pv 3)) pe_int)) pe_int) pe_int) pe_int))
      (pss_one (ps_ret (pe_op op_mod (pe_op op_fdiv (pv 6) pe_int) (pv 1)))))))))))),
    (is_seq (is_if (it_test (ie_op od_gt (ie_op od_ix (ie_var (i := 0)) ie_int) ie_int)) (is_seq (is_setX (i := 2) (ix_e (ie_op od_mod (ie_op od_ix (ie_var (i := 0)) ie_int) (ie_var (i := 1)))))
      (is_seq (is_put (i := 0) sd_setL ie_int (ie_op od_div (ie_op od_ix (ie_var (i := 0)) ie_int) (ie_var (i := 1))))
      (is_retX (ix_e (ie_var (i := 2)))))) is_next)
      (is_seq (is_setX (i := 3) (ix_e (ie_op od_ix (ie_var (i := 0)) ie_int)))
      (is_seq (is_put (i := 0) sd_setL ie_int (ie_x (ix_op ox_add (ie_var (i := 3)) ie_int)))
      (is_seq (is_setX (i := 4) (ix_op ox_add (ie_op od_mul ie_int (ie_var (i := 3))) ie_int))
      (is_seq (is_if (it_test (ie_op od_ne (ie_op od_ix (ie_var (i := 0)) ie_int) (ie_x (ix_m (im_lst ia_nil))))) (is_setX (i := 4) (ix_e (ie_op od_ix (ie_op od_ix (ie_var (i := 0)) ie_int) (ie_op od_mod (ie_var (i := 3)) (ie_cb cd_len (ia_cons (ie_op od_ix (ie_var (i := 0)) ie_int) ia_nil)))))) is_next)
      (is_seq (is_if (it_and (it_test (ie_op od_lt (ie_var (i := 3)) (ie_cb cd_len (ia_cons (ie_op od_ix (ie_var (i := 0)) ie_int) ia_nil)))) (it_test (ie_op od_ge (ie_cb cd_abs (ia_cons (ie_var (i := 4)) ia_nil)) (ie_op od_pow ie_int ie_int)))) (is_seq (is_setX (i := 5) (ix_op ox_add (ie_op od_mul ie_int (ie_cb cd_abs (ia_cons (ie_var (i := 4)) ia_nil))) (ie_cb cd_int (ia_cons (ie_op od_lt (ie_var (i := 4)) ie_int) ia_nil))))
      (is_seq (is_put (i := 0) sd_setL ie_int (ie_op od_div (ie_var (i := 5)) (ie_var (i := 1))))
      (is_retX (ix_e (ie_op od_mod (ie_var (i := 5)) (ie_var (i := 1))))))) is_next)
      (is_seq (is_setX (i := 6) (ix_e (ie_op od_mod (ie_op od_pow (ie_x (ix_op ox_add (ie_x (ix_op ox_add (ie_op od_mod (ie_var (i := 4)) ie_int) (ie_op od_mul ie_int (ie_var (i := 3))))) ie_int)) ie_int) ie_int)))
      (is_seq (is_setX (i := 6) (ix_e (ie_op od_mod (ie_op od_pow (ie_x (ix_op ox_add (ie_op od_mul (ie_var (i := 6)) (ie_x (ix_op ox_add (ie_op od_mul ie_int (ie_var (i := 3))) ie_int))) ie_int)) ie_int) ie_int)))
      (is_retX (ix_e (ie_op od_mod (ie_op od_div (ie_var (i := 6)) ie_int) (ie_var (i := 1)))))))))))))⟩
theorem Txt.ok__law_pool (T : Txt P w K mg base) : FnG P w K mg base CX0 2 T.a__law_pool T.d__law_pool ["_law_pen_here", "_law_many"] (spD K 2 m__law_pool) := by
  refine fnD T.f__law_pool sc__law_pool fun cdv A outer s H E hg hr => ?_
  have hu64 := hr.units
  have hu65 := room65 hr
  exact ⟨_, (pss_cons (ps_set (i := 2) sc__law_pool.nd rfl (by first | exact Or.inl rfl | exact Or.inr rfl) pe_str)
      (pss_cons (ps_set (i := 3) sc__law_pool.nd rfl (by first | exact Or.inl rfl | exact Or.inr rfl) (pe_callG T.ok__law_draw hg (hr.mono (by decide)) (by rfl) T.g__law_draw T.f__law_draw.kp T.b__law_draw .nil pass0 (pa_cons (pv 0) (pa_cons pe_int pa_nil))))
      (pss_cons (ps_set (i := 4) sc__law_pool.nd rfl (by first | exact Or.inl rfl | exact Or.inr rfl) (pe_callG T.ok__law_draw hg (hr.mono (by decide)) (by rfl) T.g__law_draw T.f__law_draw.kp T.b__law_draw .nil pass0 (pa_cons (pv 0) (pa_cons pe_int pa_nil))))
      (pss_cons (ps_set (i := 5) sc__law_pool.nd rfl (by first | exact Or.inl rfl | exact Or.inr rfl) (pe_lc (own := [("_law_k", 6)]) rfl sc__law_pool.nd (pi_range1 (by rfl) T.n_range (pa_cons (pv 1) pa_nil)) (blkOk_by (N := N__law_pool) (sc := defScope s__law_pool) (by decide +kernel)) (fun _ _ _ _ _ => (pg_name (i := 6) sc__law_pool.nd rfl (by first | exact Or.inl rfl | exact Or.inr rfl))) (fun _ _ _ _ _ => pts_nil) (fun _ _ _ _ _ => (pe_ix ix_seq (pv 2) (pe_op op_mod (pe_op op_addX (pv 4) (pe_op op_mul pe_int (pv 6))) pe_int) (fun _ _ => rfl)))))
      (pss_cons (ps_if (pt_cmpR (op_eqA hu64) (pv 3) pe_int (nomark _)) (pss_one (ps_ret (pe_lc (own := [("_law_letter", 7)]) rfl sc__law_pool.nd (pi_any (pv 5)) (blkOk_by (N := N__law_pool) (sc := defScope s__law_pool) (by decide +kernel)) (fun _ _ _ _ _ => (pg_name (i := 7) sc__law_pool.nd rfl (by first | exact Or.inl rfl | exact Or.inr rfl))) (fun _ _ _ _ _ => pts_nil) (fun _ _ _ _ _ => (pe_op op_addX (pe_op op_repS (pe_ix ix_seq (pv 2) (pv 4) (fun _ _ => rfl)) pe_int) (pv 7)))))) pss_nil)
      (pss_cons (ps_if (pt_cmpR (op_eqA hu64) (pv 3) pe_int (nomark _)) (pss_one (ps_ret (pe_lc (own := [("_law_k", 6)]) rfl sc__law_pool.nd (pi_range1 (by rfl) T.n_range (pa_cons (pv 1) pa_nil)) (blkOk_by (N := N__law_pool) (sc := defScope s__law_pool) (by decide +kernel)) (fun _ _ _ _ _ => (pg_name (i := 6) sc__law_pool.nd rfl (by first | exact Or.inl rfl | exact Or.inr rfl))) (fun _ _ _ _ _ => pts_nil) (fun _ _ _ _ _ => (pe_op op_repS (pe_ix ix_seq (pv 5) (pv 6) (fun _ _ => rfl)) (pe_op op_addX pe_int (pe_op op_mod (pv 6) pe_int))))))) pss_nil)
      (pss_one (ps_ret (pv 5))))))))),
    (is_seq (is_setX (i := 2) (ix_e ie_str))
      (is_seq (is_setX (i := 3) (ix_call (ia_cons (ie_var (i := 0)) (ia_cons ie_int ia_nil)) (len_cons (len_cons len_nil))))
      (is_seq (is_setX (i := 4) (ix_call (ia_cons (ie_var (i := 0)) (ia_cons ie_int ia_nil)) (len_cons (len_cons len_nil))))
      (is_seq (is_setX (i := 5) (ix_m (im_comp (iw_rng1 (ia_cons (ie_var (i := 1)) ia_nil)) (ig_name (i := 6)) it_yes (ie_op od_ix (ie_var (i := 2)) (ie_op od_mod (ie_x (ix_op ox_add (ie_var (i := 4)) (ie_op od_mul ie_int (ie_var (i := 6))))) ie_int)) (by decide))))
      (is_seq (is_if (it_test (ie_op od_eq (ie_var (i := 3)) ie_int)) (is_retX (ix_m (im_comp (iw_any (ie_give (i := 5))) (ig_name (i := 7)) it_yes (ie_x (ix_op ox_add (ie_op od_mulS (ie_op od_ix (ie_var (i := 2)) (ie_var (i := 4))) ie_int) (ie_var (i := 7)))) (by decide)))) is_next)
      (is_seq (is_if (it_test (ie_op od_eq (ie_var (i := 3)) ie_int)) (is_retX (ix_m (im_comp (iw_rng1 (ia_cons (ie_var (i := 1)) ia_nil)) (ig_name (i := 6)) it_yes (ie_op od_mulS (ie_op od_ix (ie_var (i := 5)) (ie_var (i := 6))) (ie_x (ix_op ox_add ie_int (ie_op od_mod (ie_var (i := 6)) ie_int)))) (by decide)))) is_next)
      (is_retX (ix_e (ie_var (i := 5))))))))))⟩
theorem Txt.ok__law_trimmed (T : Txt P w K mg base) : FnG P w K mg base CX0 1 T.a__law_trimmed T.d__law_trimmed ["_law_entries"] (spD K 1 m__law_trimmed) := by
  refine fnD T.f__law_trimmed sc__law_trimmed fun cdv A outer s H E hg hr => ?_
  have hu64 := hr.units
  have hu65 := room65 hr
  exact ⟨_, (pss_cons (ps_set (i := 1) sc__law_trimmed.nd rfl (by first | exact Or.inl rfl | exact Or.inr rfl) (pe_callB call_lenA (by rfl) T.n_len (by decide +kernel) (pa_cons (pv 0) pa_nil)))
      (pss_cons (ps_while PassesOwn.never (PW.pt (pw_and (pt_cmpR op_gt (pv 1) pe_int (nomark _)) (pw_and1 (pt_cmp (pc_isN (pe_ix ix_seq (pv 0) (pe_op op_sub (pv 1) pe_int) (fun _ _ => rfl))))))) (pss_one (ps_set (i := 1) sc__law_trimmed.nd rfl (by first | exact Or.inl rfl | exact Or.inr rfl) (pe_op op_sub (pv 1) pe_int))))
      (pss_one (ps_ret (pe_callTy call_tupF (by rfl) T.n_tuple (by decide +kernel) (pa_cons (pe_slice sl_any (pv 0) po_none (po_some (pv 1))) pa_nil)))))),
    (is_seq (is_setX (i := 1) (ix_e (ie_cb cd_len (ia_cons (ie_var (i := 0)) ia_nil))))
      (is_seq (is_while (n := fuel) (it_and (it_test (ie_op od_gt (ie_var (i := 1)) ie_int)) (it_B (ie_isN (ie_op od_ix (ie_var (i := 0)) (ie_op od_sub (ie_var (i := 1)) ie_int))))) (is_setX (i := 1) (ix_e (ie_op od_sub (ie_var (i := 1)) ie_int))))
      (is_retX (ix_e (ie_cb cd_tuple (ia_cons (ie_x (ix_sl (ie_var (i := 0)) io_none (io_some (ie_var (i := 1))))) ia_nil))))))⟩
theorem Txt.ok__law_start (T : Txt P w K mg base) : FnG P w K mg base CX0 2 T.a__law_start T.d__law_start ["_law_pen_here", "_law_pool_here", "_law_most"] (spD K 3 m__law_start) := by
  refine fnD T.f__law_start sc__law_start fun cdv A outer s H E hg hr => ?_
  have hu64 := hr.units
  have hu65 := room65 hr
  exact ⟨_, (pss_cons (ps_set (i := 3) sc__law_start.nd rfl (by first | exact Or.inl rfl | exact Or.inr rfl) (pe_callG T.ok__law_draw hg (hr.mono (by decide)) (by rfl) T.g__law_draw T.f__law_draw.kp T.b__law_draw .nil pass0 (pa_cons (pv 0) (pa_cons pe_int pa_nil))))
      (pss_cons (ps_set (i := 4) sc__law_start.nd rfl (by first | exact Or.inl rfl | exact Or.inr rfl) (pe_callTy call_list_of (by rfl) T.n_list (by decide +kernel) (pa_cons (pv 1) pa_nil)))
      (pss_cons (ps_set (i := 5) sc__law_start.nd rfl (by first | exact Or.inl rfl | exact Or.inr rfl) (pe_lst pa_nil))
      (pss_cons (ps_for PassesOwn.never rfl (pi_range1 (by rfl) T.n_range (pa_cons (pe_callG T.ok__law_draw hg (hr.mono (by decide)) (by rfl) T.g__law_draw T.f__law_draw.kp T.b__law_draw .nil pass0 (pa_cons (pv 0) (pa_cons (pe_op op_addX (pv 2) pe_int) pa_nil))) pa_nil)) (pg_name (i := 6) sc__law_start.nd rfl (by first | exact Or.inl rfl | exact Or.inr rfl)) (pss_cons (ps_set (i := 7) sc__law_start.nd rfl (by first | exact Or.inl rfl | exact Or.inr rfl) (pe_ix ix_seq (pv 1) (pe_callG T.ok__law_draw hg (hr.mono (by decide)) (by rfl) T.g__law_draw T.f__law_draw.kp T.b__law_draw .nil pass0 (pa_cons (pv 0) (pa_cons (pe_callB (call_min2 rfl) (by rfl) T.n_min (by decide +kernel) (pa_cons pe_int (pa_cons (pe_callB call_lenA (by rfl) T.n_len (by decide +kernel) (pa_cons (pv 1) pa_nil)) pa_nil))) pa_nil))) (fun _ _ => rfl)))
      (pss_cons (ps_if (PW.pt (pw_and (pt_cmpR op_gt (pv 3) pe_int (nomark _)) (pw_and1 (pt_cmpR (op_neA hu64) (pv 4) (pe_lst pa_nil) (nomark _))))) (pss_one (ps_set (i := 7) sc__law_start.nd rfl (by first | exact Or.inl rfl | exact Or.inr rfl) (pe_bm PySem.F.plainAttrs_list PySem.F.slot_list_pop PySem.F.type_list_pop mt_popAt (pv 4) (pa_cons (pe_callG T.ok__law_draw hg (hr.mono (by decide)) (by rfl) T.g__law_draw T.f__law_draw.kp T.b__law_draw .nil pass0 (pa_cons (pv 0) (pa_cons (pe_callB call_lenA (by rfl) T.n_len (by decide +kernel) (pa_cons (pv 4) pa_nil)) pa_nil))) pa_nil)))) pss_nil)
      (pss_one (ps_expr (pe_bm PySem.F.plainAttrs_list PySem.F.slot_list_append PySem.F.type_list_append mt_append (pv 5) (pa_cons (pe_ix ix_seq (pe_lst (pa_cons pe_non (pa_cons (pv 7) pa_nil))) (pe_callTy call_intA (by rfl) T.n_int (by decide +kernel) (pa_cons (pe_cmpR op_gt (pe_callG T.ok__law_draw hg (hr.mono (by decide)) (by rfl) T.g__law_draw T.f__law_draw.kp T.b__law_draw .nil pass0 (pa_cons (pv 0) (pa_cons pe_int pa_nil))) pe_int (nomark _)) pa_nil)) (fun _ _ => rfl)) pa_nil)))))))
      (pss_cons (ps_if (PW.pt (pw_and (pt_cmpR (op_eqA hu64) (pv 3) pe_int (nomark _)) (pw_and1 (pt_cmpR (op_neA hu64) (pv 5) (pe_lst pa_nil) (nomark _))))) (pss_one (ps_expr (pe_bm PySem.F.plainAttrs_list PySem.F.slot_list_append PySem.F.type_list_append mt_append (pv 5) (pa_cons (pe_ix ix_seq (pv 5) (pe_callG T.ok__law_draw hg (hr.mono (by decide)) (by rfl) T.g__law_draw T.f__law_draw.kp T.b__law_draw .nil pass0 (pa_cons (pv 0) (pa_cons (pe_callB call_lenA (by rfl) T.n_len (by decide +kernel) (pa_cons (pv 5) pa_nil)) pa_nil))) (fun _ _ => rfl)) pa_nil)))) pss_nil)
      (pss_one (ps_ret (pe_callG T.ok__law_trimmed hg (hr.mono (by decide)) (by rfl) T.g__law_trimmed T.f__law_trimmed.kp T.b__law_trimmed .nil pass0 (pa_cons (pv 5) pa_nil))))))))),
    (is_seq (is_setX (i := 3) (ix_call (ia_cons (ie_var (i := 0)) (ia_cons ie_int ia_nil)) (len_cons (len_cons len_nil))))
      (is_seq (is_setX (i := 4) (ix_m (im_cb cm_list (ia_cons (ie_var (i := 1)) ia_nil))))
      (is_seq (is_setX (i := 5) (ix_m (im_lst ia_nil)))
      (is_seq (is_for (iw_rng1 (ia_cons (ie_x (ix_call (ia_cons (ie_var (i := 0)) (ia_cons (ie_x (ix_op ox_add (ie_var (i := 2)) ie_int)) ia_nil)) (len_cons (len_cons len_nil)))) ia_nil)) (ig_name (i := 6)) (is_seq (is_setX (i := 7) (ix_e (ie_op od_ix (ie_var (i := 1)) (ie_x (ix_call (ia_cons (ie_var (i := 0)) (ia_cons (ie_cb cd_min2 (ia_cons ie_int (ia_cons (ie_cb cd_len (ia_cons (ie_var (i := 1)) ia_nil)) ia_nil))) ia_nil)) (len_cons (len_cons len_nil)))))))
      (is_seq (is_if (it_and (it_test (ie_op od_gt (ie_var (i := 3)) ie_int)) (it_test (ie_op od_ne (ie_var (i := 4)) (ie_x (ix_m (im_lst ia_nil)))))) (is_setX (i := 7) (ix_e (ie_mt (i := 4) md_popAt (ia_cons (ie_x (ix_call (ia_cons (ie_var (i := 0)) (ia_cons (ie_cb cd_len (ia_cons (ie_var (i := 4)) ia_nil)) ia_nil)) (len_cons (len_cons len_nil)))) ia_nil)))) is_next)
      (is_drop (ie_mt (i := 5) md_app (ia_cons (ie_op od_ix (ie_x (ix_m (im_lst (ia_cons ie_non (ia_cons (ie_give (i := 7)) ia_nil))))) (ie_cb cd_int (ia_cons (ie_op od_gt (ie_x (ix_call (ia_cons (ie_var (i := 0)) (ia_cons ie_int ia_nil)) (len_cons (len_cons len_nil)))) ie_int) ia_nil))) ia_nil))))))
      (is_seq (is_if (it_and (it_test (ie_op od_eq (ie_var (i := 3)) ie_int)) (it_test (ie_op od_ne (ie_var (i := 5)) (ie_x (ix_m (im_lst ia_nil)))))) (is_drop (ie_mt (i := 5) md_app (ia_cons (ie_op od_ix (ie_var (i := 5)) (ie_x (ix_call (ia_cons (ie_var (i := 0)) (ia_cons (ie_cb cd_len (ia_cons (ie_var (i := 5)) ia_nil)) ia_nil)) (len_cons (len_cons len_nil))))) ia_nil))) is_next)
      (is_retX (ix_call (ia_cons (ie_var (i := 5)) ia_nil) (len_cons len_nil))))))))⟩
theorem Txt.ok__law_goal (T : Txt P w K mg base) : FnG P w K mg base CX0 2 T.a__law_goal T.d__law_goal ["_law_pen_here", "_law_first"] (spD K 2 m__law_goal) := by
  refine fnD T.f__law_goal sc__law_goal fun cdv A outer s H E hg hr => ?_
  have hu64 := hr.units
  have hu65 := room65 hr
  exact ⟨_, (pss_cons (ps_setLc (i := 2) (own := [("_law_entry", 11)]) rfl sc__law_goal.nd rfl rfl (sw_true rfl rfl rfl (by decide +kernel)) (pi_any (pv 1)) (blkOk_by (N := N__law_goal) (sc := defScope s__law_goal) (by decide +kernel)) (fun _ _ _ _ _ => (pg_name (i := 11) sc__law_goal.nd rfl (by first | exact Or.inl rfl | exact Or.inr rfl))) (fun _ _ _ _ _ => (pts_one (pt_cmp (pc_notN (pv 11))))) (fun _ _ _ _ _ => (pv 11)))
      (pss_cons (ps_set (i := 3) sc__law_goal.nd rfl (by first | exact Or.inl rfl | exact Or.inr rfl) (pe_op op_addX (pe_callTy call_list_of (by rfl) T.n_list (by decide +kernel) (pa_cons (pv 1) pa_nil)) (pe_op op_rep (pe_lst (pa_cons pe_non pa_nil)) (pe_callG T.ok__law_draw hg (hr.mono (by decide)) (by rfl) T.g__law_draw T.f__law_draw.kp T.b__law_draw .nil pass0 (pa_cons (pv 0) (pa_cons pe_int pa_nil))))))
      (pss_cons (ps_setLc (i := 4) (own := [("_law_slot", 9)]) rfl sc__law_goal.nd rfl rfl (sw_true rfl rfl rfl (by decide +kernel)) (pi_range1 (by rfl) T.n_range (pa_cons (pe_callB call_lenA (by rfl) T.n_len (by decide +kernel) (pa_cons (pv 1) pa_nil)) pa_nil)) (blkOk_by (N := N__law_goal) (sc := defScope s__law_goal) (by decide +kernel)) (fun _ _ _ _ _ => (pg_name (i := 9) sc__law_goal.nd rfl (by first | exact Or.inl rfl | exact Or.inr rfl))) (fun _ _ _ _ _ => (pts_one (pt_cmp (pc_notN (pe_ix ix_seq (pv 1) (pv 9) (fun _ _ => rfl)))))) (fun _ _ _ _ _ => (pv 9)))
      (pss_cons (ps_for PassesOwn.never rfl (pi_range1 (by rfl) T.n_range (pa_cons (pe_op op_addX pe_int (pe_callG T.ok__law_draw hg (hr.mono (by decide)) (by rfl) T.g__law_draw T.f__law_draw.kp T.b__law_draw .nil pass0 (pa_cons (pv 0) (pa_cons pe_int pa_nil)))) pa_nil)) (pg_name (i := 5) sc__law_goal.nd rfl (by first | exact Or.inl rfl | exact Or.inr rfl)) (pss_cons (ps_set (i := 6) sc__law_goal.nd rfl (by first | exact Or.inl rfl | exact Or.inr rfl) (pe_lst pa_nil))
      (pss_cons (ps_for PassesOwn.never rfl (pi_range1 (by rfl) T.n_range (pa_cons (pe_callG T.ok__law_draw hg (hr.mono (by decide)) (by rfl) T.g__law_draw T.f__law_draw.kp T.b__law_draw .nil pass0 (pa_cons (pv 0) (pa_cons pe_int pa_nil))) pa_nil)) (pg_name (i := 7) sc__law_goal.nd rfl (by first | exact Or.inl rfl | exact Or.inr rfl)) (pss_one (ps_if (pt_cmpR (op_neA hu64) (pv 4) (pe_lst pa_nil) (nomark _)) (pss_one (ps_expr (pe_bm PySem.F.plainAttrs_list PySem.F.slot_list_append PySem.F.type_list_append mt_append (pv 6) (pa_cons (pe_bm PySem.F.plainAttrs_list PySem.F.slot_list_pop PySem.F.type_list_pop mt_popAt (pv 4) (pa_cons (pe_callG T.ok__law_draw hg (hr.mono (by decide)) (by rfl) T.g__law_draw T.f__law_draw.kp T.b__law_draw .nil pass0 (pa_cons (pv 0) (pa_cons (pe_callB call_lenA (by rfl) T.n_len (by decide +kernel) (pa_cons (pv 4) pa_nil)) pa_nil))) pa_nil)) pa_nil)))) pss_nil)))
      (pss_one (ps_for PassesOwn.never rfl (pi_range1 (by rfl) T.n_range (pa_cons (pe_callB call_lenA (by rfl) T.n_len (by decide +kernel) (pa_cons (pv 6) pa_nil)) pa_nil)) (pg_name (i := 7) sc__law_goal.nd rfl (by first | exact Or.inl rfl | exact Or.inr rfl)) (pss_one (ps_asg (pe_ix ix_seq (pv 1) (pe_ix ix_seq (pv 6) (pe_op op_sub (pv 7) pe_int) (fun _ _ => rfl)) (fun _ _ => rfl)) (pg_sub (pv 3) (pe_ix ix_seq (pv 6) (pv 7) (fun _ _ => rfl)) set_list))))))))
      (pss_cons (ps_set (i := 8) sc__law_goal.nd rfl (by first | exact Or.inl rfl | exact Or.inr rfl) (pe_op op_addX pe_int (pe_callG T.ok__law_draw hg (hr.mono (by decide)) (by rfl) T.g__law_draw T.f__law_draw.kp T.b__law_draw .nil pass0 (pa_cons (pv 0) (pa_cons pe_int pa_nil)))))
      (pss_cons (ps_for PassesOwn.never rfl (pi_range1 (by rfl) T.n_range (pa_cons (pe_callB call_lenA (by rfl) T.n_len (by decide +kernel) (pa_cons (pv 3) pa_nil)) pa_nil)) (pg_name (i := 9) sc__law_goal.nd rfl (by first | exact Or.inl rfl | exact Or.inr rfl)) (pss_one (ps_if (PW.pt (pw_and (pt_cmpR (op_neA hu64) (pv 2) (pe_lst pa_nil) (nomark _)) (pw_and1 (pt_cmpR (op_eqA hu64) (pe_callG T.ok__law_draw hg (hr.mono (by decide)) (by rfl) T.g__law_draw T.f__law_draw.kp T.b__law_draw .nil pass0 (pa_cons (pv 0) (pa_cons (pv 8) pa_nil))) pe_int (nomark _))))) (pss_cons (ps_set (i := 10) sc__law_goal.nd rfl (by first | exact Or.inl rfl | exact Or.inr rfl) (pe_ix ix_seq (pv 2) (pe_callG T.ok__law_draw hg (hr.mono (by decide)) (by rfl) T.g__law_draw T.f__law_draw.kp T.b__law_draw .nil pass0 (pa_cons (pv 0) (pa_cons (pe_callB call_lenA (by rfl) T.n_len (by decide +kernel) (pa_cons (pv 2) pa_nil)) pa_nil))) (fun _ _ => rfl)))
      (pss_one (ps_asg (pe_ix ix_seq (pe_lst (pa_cons pe_non (pa_cons (pv 10) pa_nil))) (pe_callG T.ok__law_draw hg (hr.mono (by decide)) (by rfl) T.g__law_draw T.f__law_draw.kp T.b__law_draw .nil pass0 (pa_cons (pv 0) (pa_cons pe_int pa_nil))) (fun _ _ => rfl)) (pg_sub (pv 3) (pv 9) set_list)))) pss_nil)))
      (pss_one (ps_ret (pe_callG T.ok__law_trimmed hg (hr.mono (by decide)) (by rfl) T.g__law_trimmed T.f__law_trimmed.kp T.b__law_trimmed .nil pass0 (pa_cons (pv 3) pa_nil)))))))))),
    (is_seq (is_setX (i := 2) (ix_m (im_comp (iw_any (ie_give (i := 1))) (ig_name (i := 11)) (it_B (ie_notN (ie_var (i := 11)))) (ie_give (i := 11)) (by decide))))
      (is_seq (is_setX (i := 3) (ix_op ox_add (ie_x (ix_m (im_cb cm_list (ia_cons (ie_var (i := 1)) ia_nil)))) (ie_x (ix_op ox_mul (ie_x (ix_m (im_lst (ia_cons ie_non ia_nil)))) (ie_x (ix_call (ia_cons (ie_var (i := 0)) (ia_cons ie_int ia_nil)) (len_cons (len_cons len_nil))))))))
      (is_seq (is_setX (i := 4) (ix_m (im_comp (iw_rng1 (ia_cons (ie_cb cd_len (ia_cons (ie_var (i := 1)) ia_nil)) ia_nil)) (ig_name (i := 9)) (it_B (ie_notN (ie_op od_ix (ie_var (i := 1)) (ie_var (i := 9))))) (ie_give (i := 9)) (by decide))))
      (is_seq (is_for (iw_rng1 (ia_cons (ie_x (ix_op ox_add ie_int (ie_x (ix_call (ia_cons (ie_var (i := 0)) (ia_cons ie_int ia_nil)) (len_cons (len_cons len_nil)))))) ia_nil)) (ig_name (i := 5)) (is_seq (is_setX (i := 6) (ix_m (im_lst ia_nil)))
      (is_seq (is_for (iw_rng1 (ia_cons (ie_x (ix_call (ia_cons (ie_var (i := 0)) (ia_cons ie_int ia_nil)) (len_cons (len_cons len_nil)))) ia_nil)) (ig_name (i := 7)) (is_if (it_test (ie_op od_ne (ie_var (i := 4)) (ie_x (ix_m (im_lst ia_nil))))) (is_drop (ie_mt (i := 6) md_app (ia_cons (ie_mt (i := 4) md_popAt (ia_cons (ie_x (ix_call (ia_cons (ie_var (i := 0)) (ia_cons (ie_cb cd_len (ia_cons (ie_var (i := 4)) ia_nil)) ia_nil)) (len_cons (len_cons len_nil)))) ia_nil)) ia_nil))) is_next))
      (is_for (iw_rng1 (ia_cons (ie_cb cd_len (ia_cons (ie_var (i := 6)) ia_nil)) ia_nil)) (ig_name (i := 7)) (is_put (i := 3) sd_setL (ie_op od_ix (ie_var (i := 6)) (ie_var (i := 7))) (ie_op od_ix (ie_var (i := 1)) (ie_op od_ix (ie_var (i := 6)) (ie_op od_sub (ie_var (i := 7)) ie_int))))))))
      (is_seq (is_setX (i := 8) (ix_op ox_add ie_int (ie_x (ix_call (ia_cons (ie_var (i := 0)) (ia_cons ie_int ia_nil)) (len_cons (len_cons len_nil))))))
      (is_seq (is_for (iw_rng1 (ia_cons (ie_cb cd_len (ia_cons (ie_var (i := 3)) ia_nil)) ia_nil)) (ig_name (i := 9)) (is_if (it_and (it_test (ie_op od_ne (ie_var (i := 2)) (ie_x (ix_m (im_lst ia_nil))))) (it_test (ie_op od_eq (ie_x (ix_call (ia_cons (ie_var (i := 0)) (ia_cons (ie_give (i := 8)) ia_nil)) (len_cons (len_cons len_nil)))) ie_int))) (is_seq (is_setX (i := 10) (ix_e (ie_op od_ix (ie_var (i := 2)) (ie_x (ix_call (ia_cons (ie_var (i := 0)) (ia_cons (ie_cb cd_len (ia_cons (ie_var (i := 2)) ia_nil)) ia_nil)) (len_cons (len_cons len_nil)))))))
      (is_put (i := 3) sd_setL (ie_var (i := 9)) (ie_op od_ix (ie_x (ix_m (im_lst (ia_cons ie_non (ia_cons (ie_give (i := 10)) ia_nil))))) (ie_x (ix_call (ia_cons (ie_var (i := 0)) (ia_cons ie_int ia_nil)) (len_cons (len_cons len_nil))))))) is_next))
      (is_retX (ix_call (ia_cons (ie_var (i := 3)) ia_nil) (len_cons len_nil)))))))))⟩
theorem Txt.ok__law_pair (T : Txt P w K mg base) : FnG P w K mg base CX0 3 T.a__law_pair T.d__law_pair ["_law_pen_here", "_law_most"] (spD K 2 m__law_pair) := by
  refine fnD T.f__law_pair sc__law_pair fun cdv A outer s H E hg hr => ?_
  have hu64 := hr.units
  have hu65 := room65 hr
  exact ⟨_, (pss_cons (ps_set (i := 2) sc__law_pair.nd rfl (by first | exact Or.inl rfl | exact Or.inr rfl) (pe_callG T.ok__law_pool hg (hr.mono (by decide)) (by rfl) T.g__law_pool T.f__law_pool.kp T.b__law_pool .nil pass0 (pa_cons (pv 0) (pa_cons (pe_op op_addX pe_int (pe_callG T.ok__law_draw hg (hr.mono (by decide)) (by rfl) T.g__law_draw T.f__law_draw.kp T.b__law_draw .nil pass0 (pa_cons (pv 0) (pa_cons pe_int pa_nil)))) pa_nil))))
      (pss_cons (ps_set (i := 3) sc__law_pair.nd rfl (by first | exact Or.inl rfl | exact Or.inr rfl) (pe_callG T.ok__law_start hg (hr.mono (by decide)) (by rfl) T.g__law_start T.f__law_start.kp T.b__law_start .nil pass0 (pa_cons (pv 0) (pa_cons (pv 2) (pa_cons (pv 1) pa_nil)))))
      (pss_cons (ps_if (pt_cmpR (op_eqA hu64) (pe_callG T.ok__law_draw hg (hr.mono (by decide)) (by rfl) T.g__law_draw T.f__law_draw.kp T.b__law_draw .nil pass0 (pa_cons (pv 0) (pa_cons pe_int pa_nil))) pe_int (nomark _)) (pss_one (ps_ret (pe_tupF (pa_cons (pv 3) (pa_cons (pe_callG T.ok__law_start hg (hr.mono (by decide)) (by rfl) T.g__law_start T.f__law_start.kp T.b__law_start .nil pass0 (pa_cons (pv 0) (pa_cons (pv 2) (pa_cons (pv 1) pa_nil)))) pa_nil))))) pss_nil)
      (pss_one (ps_ret (pe_tupF (pa_cons (pv 3) (pa_cons (pe_callG T.ok__law_goal hg (hr.mono (by decide)) (by rfl) T.g__law_goal T.f__law_goal.kp T.b__law_goal .nil pass0 (pa_cons (pv 0) (pa_cons (pv 3) pa_nil))) pa_nil)))))))),
    (is_seq (is_setX (i := 2) (ix_call (ia_cons (ie_var (i := 0)) (ia_cons (ie_x (ix_op ox_add ie_int (ie_x (ix_call (ia_cons (ie_var (i := 0)) (ia_cons ie_int ia_nil)) (len_cons (len_cons len_nil)))))) ia_nil)) (len_cons (len_cons len_nil))))
      (is_seq (is_setX (i := 3) (ix_call (ia_cons (ie_var (i := 0)) (ia_cons (ie_give (i := 2)) (ia_cons (ie_give (i := 1)) ia_nil))) (len_cons (len_cons (len_cons len_nil)))))
      (is_seq (is_if (it_test (ie_op od_eq (ie_x (ix_call (ia_cons (ie_var (i := 0)) (ia_cons ie_int ia_nil)) (len_cons (len_cons len_nil)))) ie_int)) (is_retX (ix_e (ie_tup (ia_cons (ie_give (i := 3)) (ia_cons (ie_x (ix_call (ia_cons (ie_var (i := 0)) (ia_cons (ie_give (i := 2)) (ia_cons (ie_give (i := 1)) ia_nil))) (len_cons (len_cons (len_cons len_nil))))) ia_nil))))) is_next)
      (is_retX (ix_e (ie_tup (ia_cons (ie_give (i := 3)) (ia_cons (ie_x (ix_call (ia_cons (ie_var (i := 0)) (ia_cons (ie_give (i := 3)) ia_nil)) (len_cons (len_cons len_nil)))) ia_nil))))))))⟩
theorem Txt.ok__law_at (T : Txt P w K mg base) : FnG P w K mg base CX0 1 T.a__law_at T.d__law_at ["_law_state", "_law_slot"] (spD K 2 m__law_at) := by
  refine fnD T.f__law_at sc__law_at fun cdv A outer s H E hg hr => ?_
  have hu64 := hr.units
  have hu65 := room65 hr
  exact ⟨_, (pss_cons (ps_if (pt_cmpR op_ge (pv 1) (pe_callB call_lenA (by rfl) T.n_len (by decide +kernel) (pa_cons (pv 0) pa_nil)) (nomark _)) (pss_one (ps_ret pe_non)) pss_nil)
      (pss_one (ps_ret (pe_ix ix_seq (pv 0) (pv 1) (fun _ _ => rfl))))),
    (is_seq (is_if (it_test (ie_op od_ge (ie_var (i := 1)) (ie_cb cd_len (ia_cons (ie_var (i := 0)) ia_nil)))) (is_retX (ix_e ie_non)) is_next)
      (is_retX (ix_e (ie_op od_ix (ie_var (i := 0)) (ie_var (i := 1))))))⟩
theorem Txt.ok__law_edges (T : Txt P w K mg base) : FnG P w K mg base CX0 1 T.a__law_edges T.d__law_edges ["_law_first", "_law_second"] (spD K 2 m__law_edges) := by
  refine fnD T.f__law_edges sc__law_edges fun cdv A outer s H E hg hr => ?_
  have hu64 := hr.units
  have hu65 := room65 hr
  exact ⟨_, (pss_cons (ps_set (i := 2) sc__law_edges.nd rfl (by first | exact Or.inl rfl | exact Or.inr rfl) (pe_lst pa_nil))
      (pss_cons (ps_for PassesOwn.never rfl (pi_range1 (by rfl) T.n_range (pa_cons (pe_callB (call_min2 rfl) (by rfl) T.n_min (by decide +kernel) (pa_cons (pe_callB call_lenA (by rfl) T.n_len (by decide +kernel) (pa_cons (pv 0) pa_nil)) (pa_cons (pe_callB call_lenA (by rfl) T.n_len (by decide +kernel) (pa_cons (pv 1) pa_nil)) pa_nil))) pa_nil)) (pg_name (i := 3) sc__law_edges.nd rfl (by first | exact Or.inl rfl | exact Or.inr rfl)) (pss_one (ps_if (PW.pt (pw_and (pt_cmp (pc_notN (pe_ix ix_seq (pv 0) (pv 3) (fun _ _ => rfl)))) (pw_and (pt_cmp (pc_notN (pe_ix ix_seq (pv 1) (pv 3) (fun _ _ => rfl)))) (pw_and1 (pt_cmpR (op_neA hu64) (pe_ix ix_seq (pv 0) (pv 3) (fun _ _ => rfl)) (pe_ix ix_seq (pv 1) (pv 3) (fun _ _ => rfl)) (nomark _)))))) (pss_one (ps_expr (pe_bm PySem.F.plainAttrs_list PySem.F.slot_list_append PySem.F.type_list_append mt_append (pv 2) (pa_cons (pe_tupF (pa_cons (pv 3) (pa_cons (pe_ix ix_seq (pv 0) (pv 3) (fun _ _ => rfl)) (pa_cons (pe_ix ix_seq (pv 1) (pv 3) (fun _ _ => rfl)) pa_nil)))) pa_nil)))) pss_nil)))
      (pss_one (ps_ret (pv 2))))),
    (is_seq (is_setX (i := 2) (ix_m (im_lst ia_nil)))
      (is_seq (is_for (iw_rng1 (ia_cons (ie_cb cd_min2 (ia_cons (ie_cb cd_len (ia_cons (ie_var (i := 0)) ia_nil)) (ia_cons (ie_cb cd_len (ia_cons (ie_var (i := 1)) ia_nil)) ia_nil))) ia_nil)) (ig_name (i := 3)) (is_if (it_and (it_B (ie_notN (ie_op od_ix (ie_var (i := 0)) (ie_var (i := 3))))) (it_and (it_B (ie_notN (ie_op od_ix (ie_var (i := 1)) (ie_var (i := 3))))) (it_test (ie_op od_ne (ie_op od_ix (ie_var (i := 0)) (ie_var (i := 3))) (ie_op od_ix (ie_var (i := 1)) (ie_var (i := 3))))))) (is_drop (ie_mt (i := 2) md_app (ia_cons (ie_tup (ia_cons (ie_give (i := 3)) (ia_cons (ie_op od_ix (ie_var (i := 0)) (ie_var (i := 3))) (ia_cons (ie_op od_ix (ie_var (i := 1)) (ie_var (i := 3))) ia_nil)))) ia_nil))) is_next))
      (is_retX (ix_e (ie_var (i := 2))))))⟩
theorem Txt.ok__law_components (T : Txt P w K mg base) : FnG P w K mg base CX0 1 T.a__law_components T.d__law_components ["_law_edges_here"] (spD K 1 m__law_components) := by
  refine fnD T.f__law_components sc__law_components fun cdv A outer s H E hg hr => ?_
  have hu64 := hr.units
  have hu65 := room65 hr
  exact ⟨_, (pss_cons (ps_set (i := 1) sc__law_components.nd rfl (by first | exact Or.inl rfl | exact Or.inr rfl) pe_dnewK)
      (pss_cons (ps_for PassesOwn.never rfl (pi_any (pv 0)) (pg_tup rfl (pgs_cons (pg_name (i := 2) sc__law_components.nd rfl (by first | exact Or.inl rfl | exact Or.inr rfl)) (pgs_cons (pg_name (i := 3) sc__law_components.nd rfl (by first | exact Or.inl rfl | exact Or.inr rfl)) (pgs_cons (pg_name (i := 4) sc__law_components.nd rfl (by first | exact Or.inl rfl | exact Or.inr rfl)) pgs_nil)))) (pss_one (ps_dput (room1 hu64) (pv 1) (pv 2) (pv 2) rfl)))
      (pss_cons (ps_for PassesOwn.never rfl (pi_any (pv 0)) (pg_name (i := 5) sc__law_components.nd rfl (by first | exact Or.inl rfl | exact Or.inr rfl)) (pss_one (ps_for PassesOwn.never rfl (pi_any (pv 0)) (pg_tup rfl (pgs_cons (pg_name (i := 2) sc__law_components.nd rfl (by first | exact Or.inl rfl | exact Or.inr rfl)) (pgs_cons (pg_name (i := 3) sc__law_components.nd rfl (by first | exact Or.inl rfl | exact Or.inr rfl)) (pgs_cons (pg_name (i := 4) sc__law_components.nd rfl (by first | exact Or.inl rfl | exact Or.inr rfl)) pgs_nil)))) (pss_cons (ps_setLc (i := 6) (own := [("_law_one", 7), ("_law_other", 8), ("_law_wish", 9)]) rfl sc__law_components.nd rfl rfl (sw_true rfl rfl rfl (by decide +kernel)) (pi_any (pv 0)) (blkOk_by (N := N__law_components) (sc := defScope s__law_components) (by decide +kernel)) (fun _ _ _ _ _ => (pg_tup rfl (pgs_cons (pg_name (i := 7) sc__law_components.nd rfl (by first | exact Or.inl rfl | exact Or.inr rfl)) (pgs_cons (pg_name (i := 8) sc__law_components.nd rfl (by first | exact Or.inl rfl | exact Or.inr rfl)) (pgs_cons (pg_name (i := 9) sc__law_components.nd rfl (by first | exact Or.inl rfl | exact Or.inr rfl)) pgs_nil))))) (fun _ _ _ _ _ => (pts_one (PW.pt (pw_or (pt_cmpR op_in_seq (pv 8) (pe_tupF (pa_cons (pv 3) (pa_cons (pv 4) pa_nil))) rfl) (pw_or1 (pt_cmpR op_in_seq (pv 9) (pe_tupF (pa_cons (pv 3) (pa_cons (pv 4) pa_nil))) rfl)))))) (fun _ _ _ _ _ => (pe_dget (room1 hu64) (pv 1) (pv 7) (fun _ _ => rfl))))
      (pss_one (ps_dput (room1 hu64) (pv 1) (pv 2) (pe_callB (cr_min rfl) (by rfl) T.n_min (by decide +kernel) (pa_cons (pv 6) pa_nil)) rfl))))))
      (pss_one (ps_ret (pe_lc (own := [("_law_least", 10)]) rfl sc__law_components.nd (pi_any (pe_sset rfl (by rfl) T.n_sorted (by rfl) T.n_set (pa_cons (pe_listVals rfl (by rfl) T.n_list (pv 1)) pa_nil))) (blkOk_by (N := N__law_components) (sc := defScope s__law_components) (by decide +kernel)) (fun _ _ _ _ _ => (pg_name (i := 10) sc__law_components.nd rfl (by first | exact Or.inl rfl | exact Or.inr rfl))) (fun _ _ _ _ _ => pts_nil) (fun _ _ _ _ _ => (pe_orX (pe_lock (pe_lc (own := [("_law_slot", 2)]) rfl sc__law_components.nd (pi_keys (pv 1)) (blkOk_by (by rfl)) (fun _ _ _ _ _ => (pg_name (i := 2) sc__law_components.nd rfl (by first | exact Or.inl rfl | exact Or.inr rfl))) (fun _ _ _ _ _ => (pts_one (pt_cmpR (op_eqA hu64) (pe_dget (room1 hu64) (pv 1) (pv 2) (fun _ _ => rfl)) (pv 10) (nomark _)))) (fun _ _ _ _ _ => (pv 2)))) (pe_lc (own := [("_law_slot", 2)]) rfl sc__law_components.nd (pi_keys (pv 1)) (blkOk_by (by rfl)) (fun _ _ _ _ _ => (pg_name (i := 2) sc__law_components.nd rfl (by first | exact Or.inl rfl | exact Or.inr rfl))) (fun _ _ _ _ _ => (pts_one (pt_cmpR (op_eqA hu64) (pe_dget (room1 hu64) (pv 1) (pv 2) (fun _ _ => rfl)) (pv 10) (nomark _)))) (fun _ _ _ _ _ => (pv 2))))))))))),
    (is_seq (is_setX (i := 1) (ix_m im_d0))
      (is_seq (is_for (iw_any (ie_give (i := 0))) (ig_tup (n := 3) (igs_cons (ig_name (i := 2)) (igs_cons (ig_name (i := 3)) (igs_cons (ig_name (i := 4)) igs_nil)))) (is_dput (i := 1) (ie_var (i := 2)) (ie_give (i := 2))))
      (is_seq (is_for (iw_any (ie_give (i := 0))) (ig_name (i := 5)) (is_for (iw_any (ie_give (i := 0))) (ig_tup (n := 3) (igs_cons (ig_name (i := 2)) (igs_cons (ig_name (i := 3)) (igs_cons (ig_name (i := 4)) igs_nil)))) (is_seq (is_setX (i := 6) (ix_m (im_comp (iw_any (ie_give (i := 0))) (ig_tup (n := 3) (igs_cons (ig_name (i := 7)) (igs_cons (ig_name (i := 8)) (igs_cons (ig_name (i := 9)) igs_nil)))) (it_or (it_test (ie_op od_inF (ie_var (i := 8)) (ie_tup (ia_cons (ie_give (i := 3)) (ia_cons (ie_give (i := 4)) ia_nil))))) (it_test (ie_op od_inF (ie_var (i := 9)) (ie_tup (ia_cons (ie_give (i := 3)) (ia_cons (ie_give (i := 4)) ia_nil)))))) (ie_op od_dget (ie_var (i := 1)) (ie_var (i := 7))) (by decide))))
      (is_dput (i := 1) (ie_var (i := 2)) (ie_cb cd_minL (ia_cons (ie_var (i := 6)) ia_nil))))))
      (is_retX (ix_m (im_comp (iw_any (ie_x (ix_m (im_cb cm_sset (ia_cons (ie_x (ix_m (im_listV (i := 1)))) ia_nil))))) (ig_name (i := 10)) it_yes (ie_x (ix_m (im_keys (i := 1) (ig_name (i := 2)) (it_test (ie_op od_eq (ie_op od_dget (ie_var (i := 1)) (ie_var (i := 2))) (ie_var (i := 10)))) (ie_give (i := 2)) (by decide)))) (by decide)))))))⟩
theorem Txt.ok__law_is_pure (T : Txt P w K mg base) : FnG P w K mg base CX0 2 T.a__law_is_pure T.d__law_is_pure ["_law_first", "_law_second", "_law_edges_here", "_law_some"] (spD K 4 m__law_is_pure) := by
  refine fnD T.f__law_is_pure sc__law_is_pure fun cdv A outer s H E hg hr => ?_
  have hu64 := hr.units
  have hu65 := room65 hr
  exact ⟨_, (pss_cons (ps_for PassesOwn.never rfl (pi_any (pv 2)) (pg_tup rfl (pgs_cons (pg_name (i := 4) sc__law_is_pure.nd rfl (by first | exact Or.inl rfl | exact Or.inr rfl)) (pgs_cons (pg_name (i := 5) sc__law_is_pure.nd rfl (by first | exact Or.inl rfl | exact Or.inr rfl)) (pgs_cons (pg_name (i := 6) sc__law_is_pure.nd rfl (by first | exact Or.inl rfl | exact Or.inr rfl)) pgs_nil)))) (pss_one (ps_if (pt_cmpR (op_inA hu65) (pv 4) (pv 3) rfl) (pss_cons (ps_if (pt_cmpR (op_neA hu64) (pe_callB call_lenA (by rfl) T.n_len (by decide +kernel) (pa_cons (pe_lc (own := [("_law_one", 8), ("_law_other", 9), ("_law_wish", 10)]) rfl sc__law_is_pure.nd (pi_any (pv 2)) (blkOk_by (N := N__law_is_pure) (sc := defScope s__law_is_pure) (by decide +kernel)) (fun _ _ _ _ _ => (pg_tup rfl (pgs_cons (pg_name (i := 8) sc__law_is_pure.nd rfl (by first | exact Or.inl rfl | exact Or.inr rfl)) (pgs_cons (pg_name (i := 9) sc__law_is_pure.nd rfl (by first | exact Or.inl rfl | exact Or.inr rfl)) (pgs_cons (pg_name (i := 10) sc__law_is_pure.nd rfl (by first | exact Or.inl rfl | exact Or.inr rfl)) pgs_nil))))) (fun _ _ _ _ _ => (pts_one (pt_cmpR (op_eqA hu64) (pv 9) (pv 5) (nomark _)))) (fun _ _ _ _ _ => pe_int)) pa_nil)) pe_int (nomark _)) (pss_one (ps_ret pe_bl)) pss_nil)
      (pss_cons (ps_if (pt_cmpR (op_neA hu64) (pe_callB call_lenA (by rfl) T.n_len (by decide +kernel) (pa_cons (pe_lc (own := [("_law_one", 8), ("_law_other", 9), ("_law_wish", 10)]) rfl sc__law_is_pure.nd (pi_any (pv 2)) (blkOk_by (N := N__law_is_pure) (sc := defScope s__law_is_pure) (by decide +kernel)) (fun _ _ _ _ _ => (pg_tup rfl (pgs_cons (pg_name (i := 8) sc__law_is_pure.nd rfl (by first | exact Or.inl rfl | exact Or.inr rfl)) (pgs_cons (pg_name (i := 9) sc__law_is_pure.nd rfl (by first | exact Or.inl rfl | exact Or.inr rfl)) (pgs_cons (pg_name (i := 10) sc__law_is_pure.nd rfl (by first | exact Or.inl rfl | exact Or.inr rfl)) pgs_nil))))) (fun _ _ _ _ _ => (pts_one (pt_cmpR (op_eqA hu64) (pv 10) (pv 5) (nomark _)))) (fun _ _ _ _ _ => pe_int)) pa_nil)) pe_int (nomark _)) (pss_one (ps_ret pe_bl)) pss_nil)
      (pss_cons (ps_if (pt_cmpR (op_neA hu64) (pe_callB call_lenA (by rfl) T.n_len (by decide +kernel) (pa_cons (pe_lc (own := [("_law_one", 8), ("_law_other", 9), ("_law_wish", 10)]) rfl sc__law_is_pure.nd (pi_any (pv 2)) (blkOk_by (N := N__law_is_pure) (sc := defScope s__law_is_pure) (by decide +kernel)) (fun _ _ _ _ _ => (pg_tup rfl (pgs_cons (pg_name (i := 8) sc__law_is_pure.nd rfl (by first | exact Or.inl rfl | exact Or.inr rfl)) (pgs_cons (pg_name (i := 9) sc__law_is_pure.nd rfl (by first | exact Or.inl rfl | exact Or.inr rfl)) (pgs_cons (pg_name (i := 10) sc__law_is_pure.nd rfl (by first | exact Or.inl rfl | exact Or.inr rfl)) pgs_nil))))) (fun _ _ _ _ _ => (pts_one (pt_cmpR (op_eqA hu64) (pv 9) (pv 6) (nomark _)))) (fun _ _ _ _ _ => pe_int)) pa_nil)) pe_int (nomark _)) (pss_one (ps_ret pe_bl)) pss_nil)
      (pss_cons (ps_set (i := 7) sc__law_is_pure.nd rfl (by first | exact Or.inl rfl | exact Or.inr rfl) (pe_lc (own := [("_law_one", 8), ("_law_other", 9), ("_law_wish", 10)]) rfl sc__law_is_pure.nd (pi_any (pv 2)) (blkOk_by (N := N__law_is_pure) (sc := defScope s__law_is_pure) (by decide +kernel)) (fun _ _ _ _ _ => (pg_tup rfl (pgs_cons (pg_name (i := 8) sc__law_is_pure.nd rfl (by first | exact Or.inl rfl | exact Or.inr rfl)) (pgs_cons (pg_name (i := 9) sc__law_is_pure.nd rfl (by first | exact Or.inl rfl | exact Or.inr rfl)) (pgs_cons (pg_name (i := 10) sc__law_is_pure.nd rfl (by first | exact Or.inl rfl | exact Or.inr rfl)) pgs_nil))))) (fun _ _ _ _ _ => pts_nil) (fun _ _ _ _ _ => (pv 8))))
      (pss_cons (ps_if (pt_cmpR (op_neA hu64) (pe_lc (own := [("_law_one", 8)]) rfl sc__law_is_pure.nd (pi_range1 (by rfl) T.n_range (pa_cons (pe_callB call_lenA (by rfl) T.n_len (by decide +kernel) (pa_cons (pv 0) pa_nil)) pa_nil)) (blkOk_by (N := N__law_is_pure) (sc := defScope s__law_is_pure) (by decide +kernel)) (fun _ _ _ _ _ => (pg_name (i := 8) sc__law_is_pure.nd rfl (by first | exact Or.inl rfl | exact Or.inr rfl))) (fun _ _ _ _ _ => (pts_one (PW.pt (pw_and (pt_cmpR (op_eqA hu64) (pe_ix ix_seq (pv 0) (pv 8) (fun _ _ => rfl)) (pv 5) (nomark _)) (pw_and1 (pt_cmpR (op_notInA hu65) (pv 8) (pv 7) rfl)))))) (fun _ _ _ _ _ => pe_int)) (pe_lst pa_nil) (nomark _)) (pss_one (ps_ret pe_bl)) pss_nil)
      (pss_one (ps_if (pt_cmpR (op_neA hu64) (pe_lc (own := [("_law_one", 8)]) rfl sc__law_is_pure.nd (pi_range1 (by rfl) T.n_range (pa_cons (pe_callB call_lenA (by rfl) T.n_len (by decide +kernel) (pa_cons (pv 1) pa_nil)) pa_nil)) (blkOk_by (N := N__law_is_pure) (sc := defScope s__law_is_pure) (by decide +kernel)) (fun _ _ _ _ _ => (pg_name (i := 8) sc__law_is_pure.nd rfl (by first | exact Or.inl rfl | exact Or.inr rfl))) (fun _ _ _ _ _ => (pts_one (PW.pt (pw_and (pt_cmpR (op_eqA hu64) (pe_ix ix_seq (pv 1) (pv 8) (fun _ _ => rfl)) (pv 5) (nomark _)) (pw_and1 (pt_cmp (pc_isN (pe_callG T.ok__law_at hg (hr.mono (by decide)) (by rfl) T.g__law_at T.f__law_at.kp T.b__law_at .nil pass0 (pa_cons (pv 0) (pa_cons (pv 8) pa_nil)))))))))) (fun _ _ _ _ _ => pe_int)) (pe_lst pa_nil) (nomark _)) (pss_one (ps_ret pe_bl)) pss_nil))))))) pss_nil)))
      (pss_one (ps_ret pe_bl))),
    (is_seq (is_for (iw_any (ie_give (i := 2))) (ig_tup (n := 3) (igs_cons (ig_name (i := 4)) (igs_cons (ig_name (i := 5)) (igs_cons (ig_name (i := 6)) igs_nil)))) (is_if (it_test (ie_op od_in (ie_var (i := 4)) (ie_var (i := 3)))) (is_seq (is_if (it_test (ie_op od_ne (ie_cb cd_len (ia_cons (ie_x (ix_m (im_comp (iw_any (ie_give (i := 2))) (ig_tup (n := 3) (igs_cons (ig_name (i := 8)) (igs_cons (ig_name (i := 9)) (igs_cons (ig_name (i := 10)) igs_nil)))) (it_test (ie_op od_eq (ie_var (i := 9)) (ie_var (i := 5)))) ie_int (by decide)))) ia_nil)) ie_int)) (is_retX (ix_e ie_bl)) is_next)
      (is_seq (is_if (it_test (ie_op od_ne (ie_cb cd_len (ia_cons (ie_x (ix_m (im_comp (iw_any (ie_give (i := 2))) (ig_tup (n := 3) (igs_cons (ig_name (i := 8)) (igs_cons (ig_name (i := 9)) (igs_cons (ig_name (i := 10)) igs_nil)))) (it_test (ie_op od_eq (ie_var (i := 10)) (ie_var (i := 5)))) ie_int (by decide)))) ia_nil)) ie_int)) (is_retX (ix_e ie_bl)) is_next)
      (is_seq (is_if (it_test (ie_op od_ne (ie_cb cd_len (ia_cons (ie_x (ix_m (im_comp (iw_any (ie_give (i := 2))) (ig_tup (n := 3) (igs_cons (ig_name (i := 8)) (igs_cons (ig_name (i := 9)) (igs_cons (ig_name (i := 10)) igs_nil)))) (it_test (ie_op od_eq (ie_var (i := 9)) (ie_var (i := 6)))) ie_int (by decide)))) ia_nil)) ie_int)) (is_retX (ix_e ie_bl)) is_next)
      (is_seq (is_setX (i := 7) (ix_m (im_comp (iw_any (ie_give (i := 2))) (ig_tup (n := 3) (igs_cons (ig_name (i := 8)) (igs_cons (ig_name (i := 9)) (igs_cons (ig_name (i := 10)) igs_nil)))) it_yes (ie_give (i := 8)) (by decide))))
      (is_seq (is_if (it_test (ie_op od_ne (ie_x (ix_m (im_comp (iw_rng1 (ia_cons (ie_cb cd_len (ia_cons (ie_var (i := 0)) ia_nil)) ia_nil)) (ig_name (i := 8)) (it_and (it_test (ie_op od_eq (ie_op od_ix (ie_var (i := 0)) (ie_var (i := 8))) (ie_var (i := 5)))) (it_test (ie_op od_notIn (ie_var (i := 8)) (ie_var (i := 7))))) ie_int (by decide)))) (ie_x (ix_m (im_lst ia_nil))))) (is_retX (ix_e ie_bl)) is_next)
      (is_if (it_test (ie_op od_ne (ie_x (ix_m (im_comp (iw_rng1 (ia_cons (ie_cb cd_len (ia_cons (ie_var (i := 1)) ia_nil)) ia_nil)) (ig_name (i := 8)) (it_and (it_test (ie_op od_eq (ie_op od_ix (ie_var (i := 1)) (ie_var (i := 8))) (ie_var (i := 5)))) (it_B (ie_isN (ie_x (ix_call (ia_cons (ie_give (i := 0)) (ia_cons (ie_give (i := 8)) ia_nil)) (len_cons (len_cons len_nil))))))) ie_int (by decide)))) (ie_x (ix_m (im_lst ia_nil))))) (is_retX (ix_e ie_bl)) is_next)))))) is_next))
      (is_retX (ix_e ie_bl)))⟩
theorem Txt.ok__law_walked (T : Txt P w K mg base) : FnG P w K mg base CX0 1 T.a__law_walked T.d__law_walked ["_law_first", "_law_second", "_law_some"] (spD K 3 m__law_walked) := by
  refine fnD T.f__law_walked sc__law_walked fun cdv A outer s H E hg hr => ?_
  have hu64 := hr.units
  have hu65 := room65 hr
  exact ⟨_, (pss_cons (ps_set (i := 3) sc__law_walked.nd rfl (by first | exact Or.inl rfl | exact Or.inr rfl) (pe_lst (pa_cons (pe_callB (cr_min rfl) (by rfl) T.n_min (by decide +kernel) (pa_cons (pv 2) pa_nil)) pa_nil)))
      (pss_cons (ps_while PassesOwn.never (pt_cmpR op_lt (pe_callB call_lenA (by rfl) T.n_len (by decide +kernel) (pa_cons (pv 3) pa_nil)) (pe_callB call_lenA (by rfl) T.n_len (by decide +kernel) (pa_cons (pv 2) pa_nil)) (nomark _)) (pss_one (ps_expr (pe_bm PySem.F.plainAttrs_list PySem.F.slot_list_append PySem.F.type_list_append mt_append (pv 3) (pa_cons (pe_ix ix_seq (pe_lc (own := [("_law_slot", 4)]) rfl sc__law_walked.nd (pi_any (pv 2)) (blkOk_by (N := N__law_walked) (sc := defScope s__law_walked) (by decide +kernel)) (fun _ _ _ _ _ => (pg_name (i := 4) sc__law_walked.nd rfl (by first | exact Or.inl rfl | exact Or.inr rfl))) (fun _ _ _ _ _ => (pts_one (pt_cmpR (op_eqA hu64) (pe_ix ix_seq (pv 0) (pv 4) (fun _ _ => rfl)) (pe_ix ix_seq (pv 1) (pe_ix ix_seq (pv 3) (pe_un un_neg pe_int) (fun _ _ => rfl)) (fun _ _ => rfl)) (nomark _)))) (fun _ _ _ _ _ => (pv 4))) pe_int (fun _ _ => rfl)) pa_nil)))))
      (pss_one (ps_ret (pe_callTy call_tupF (by rfl) T.n_tuple (by decide +kernel) (pa_cons (pv 3) pa_nil)))))),
    (is_seq (is_setX (i := 3) (ix_m (im_lst (ia_cons (ie_cb cd_minL (ia_cons (ie_var (i := 2)) ia_nil)) ia_nil))))
      (is_seq (is_while (n := fuel) (it_test (ie_op od_lt (ie_cb cd_len (ia_cons (ie_var (i := 3)) ia_nil)) (ie_cb cd_len (ia_cons (ie_var (i := 2)) ia_nil)))) (is_drop (ie_mt (i := 3) md_app (ia_cons (ie_op od_ix (ie_x (ix_m (im_comp (iw_any (ie_give (i := 2))) (ig_name (i := 4)) (it_test (ie_op od_eq (ie_op od_ix (ie_var (i := 0)) (ie_var (i := 4))) (ie_op od_ix (ie_var (i := 1)) (ie_op od_ix (ie_var (i := 3)) (ie_un ud_neg ie_int))))) (ie_give (i := 4)) (by decide)))) ie_int) ia_nil))))
      (is_retX (ix_e (ie_cb cd_tuple (ia_cons (ie_var (i := 3)) ia_nil))))))⟩
theorem Txt.ok__law_due (T : Txt P w K mg base) : FnG P w K mg base CX0 3 T.a__law_due T.d__law_due ["_law_first", "_law_second"] (spD K 2 m__law_due) := by
  refine fnD T.f__law_due sc__law_due fun cdv A outer s H E hg hr => ?_
  have hu64 := hr.units
  have hu65 := room65 hr
  exact ⟨_, (pss_cons (ps_set (i := 2) sc__law_due.nd rfl (by first | exact Or.inl rfl | exact Or.inr rfl) (pe_callG T.ok__law_edges hg (hr.mono (by decide)) (by rfl) T.g__law_edges T.f__law_edges.kp T.b__law_edges .nil pass0 (pa_cons (pv 0) (pa_cons (pv 1) pa_nil))))
      (pss_cons (ps_setLc (i := 3) (own := [("_law_some", 4)]) rfl sc__law_due.nd rfl rfl (sw_true rfl rfl rfl (by decide +kernel)) (pi_any (pe_callG T.ok__law_components hg (hr.mono (by decide)) (by rfl) T.g__law_components T.f__law_components.kp T.b__law_components .nil pass0 (pa_cons (pv 2) pa_nil))) (blkOk_by (N := N__law_due) (sc := defScope s__law_due) (by decide +kernel)) (fun _ _ _ _ _ => (pg_name (i := 4) sc__law_due.nd rfl (by first | exact Or.inl rfl | exact Or.inr rfl))) (fun _ _ _ _ _ => (pts_one (pt_val (pe_callG T.ok__law_is_pure hg (hr.mono (by decide)) (by rfl) T.g__law_is_pure T.f__law_is_pure.kp T.b__law_is_pure .nil pass0 (pa_cons (pv 0) (pa_cons (pv 1) (pa_cons (pv 2) (pa_cons (pv 4) pa_nil)))))))) (fun _ _ _ _ _ => (pv 4)))
      (pss_one (ps_ret (pe_callB (cr_sortD hu64) (by rfl) T.n_sorted (by decide +kernel) (pa_cons (pe_lc (own := [("_law_some", 4)]) rfl sc__law_due.nd (pi_any (pv 3)) (blkOk_by (N := N__law_due) (sc := defScope s__law_due) (by decide +kernel)) (fun _ _ _ _ _ => (pg_name (i := 4) sc__law_due.nd rfl (by first | exact Or.inl rfl | exact Or.inr rfl))) (fun _ _ _ _ _ => pts_nil) (fun _ _ _ _ _ => (pe_callG T.ok__law_walked hg (hr.mono (by decide)) (by rfl) T.g__law_walked T.f__law_walked.kp T.b__law_walked .nil pass0 (pa_cons (pv 0) (pa_cons (pv 1) (pa_cons (pv 4) pa_nil)))))) pa_nil)))))),
    (is_seq (is_setX (i := 2) (ix_call (ia_cons (ie_give (i := 0)) (ia_cons (ie_give (i := 1)) ia_nil)) (len_cons (len_cons len_nil))))
      (is_seq (is_setX (i := 3) (ix_m (im_comp (iw_any (ie_x (ix_call (ia_cons (ie_give (i := 2)) ia_nil) (len_cons len_nil)))) (ig_name (i := 4)) (it_B (ie_x (ix_call (ia_cons (ie_give (i := 0)) (ia_cons (ie_give (i := 1)) (ia_cons (ie_give (i := 2)) (ia_cons (ie_give (i := 4)) ia_nil)))) (len_cons (len_cons (len_cons (len_cons len_nil))))))) (ie_give (i := 4)) (by decide))))
      (is_retX (ix_m (im_cb cm_srtD (ia_cons (ie_x (ix_m (im_comp (iw_any (ie_give (i := 3))) (ig_name (i := 4)) it_yes (ie_x (ix_call (ia_cons (ie_give (i := 0)) (ia_cons (ie_give (i := 1)) (ia_cons (ie_give (i := 4)) ia_nil))) (len_cons (len_cons (len_cons len_nil))))) (by decide)))) ia_nil))))))⟩
def spLaw (K : PySem.W.Frag) : Sp := fun vs H Q _ => ∃ (a : Addr) (ns : List Int), vs = [.ref a] ∧ SqL K H a (ns.map V.int) ∧ ns.length ≤ 63 ∧ Q = fun v _ => v = .bl true
theorem Txt.ok_law (T : Txt P w K mg base) {f : Addr} {fd : FuncData} (F : Fun K "law" "law" s_law f fd)
    (hm : ∀ ns : List Int, ns.length ≤ 63 → ∃ env', b_law (penv 10 ns) = some (.rt (.val (.bool true)), env')) : FnG P w K mg base CX0 7 f fd ["_law_script"] (spLaw K) := by
  refine okG F sc_law (fun vs H Q E h => ?_) (fun cdv A outer s H vs Q E hg hr h => ?_)
  · obtain ⟨a, ns, rfl, _⟩ := h; rfl
  obtain ⟨a, ns, rfl, hS, hl, rfl⟩ := h
  have hu64 := hr.units
  have hu65 := room65 hr
  exact ⟨_, pss_cons (ps_set (i := 1) sc_law.nd rfl (by first | exact Or.inl rfl | exact Or.inr rfl) (pe_callG T.ok__law_pen hg (hr.mono (by decide)) (by rfl) T.g__law_pen T.f__law_pen.kp T.b__law_pen .nil pass0 (pa_cons (pv 0) pa_nil)))
      (pss_cons (ps_for PassesOwn.never rfl (pi_range1 (by rfl) T.n_range (pa_cons pe_int pa_nil)) (pg_name (i := 2) sc_law.nd rfl (by first | exact Or.inl rfl | exact Or.inr rfl)) (pss_cons (ps_asg (pe_callG T.ok__law_pair hg (hr.mono (by decide)) (by rfl) T.g__law_pair T.f__law_pair.kp T.b__law_pair .nil pass0 (pa_cons (pv 1) (pa_cons pe_int pa_nil))) (pg_tup rfl (pgs_cons (pg_name (i := 3) sc_law.nd rfl (by first | exact Or.inl rfl | exact Or.inr rfl)) (pgs_cons (pg_name (i := 4) sc_law.nd rfl (by first | exact Or.inl rfl | exact Or.inr rfl)) pgs_nil))))
      (pss_one (ps_for PassesOwn.never rfl (pi_any (pe_tupF (pa_cons (pe_tupF (pa_cons (pv 3) (pa_cons (pv 4) pa_nil))) (pa_cons (pe_tupF (pa_cons (pv 4) (pa_cons (pv 3) pa_nil))) (pa_cons (pe_tupF (pa_cons (pv 3) (pa_cons (pv 3) pa_nil))) pa_nil))))) (pg_tup rfl (pgs_cons (pg_name (i := 5) sc_law.nd rfl (by first | exact Or.inl rfl | exact Or.inr rfl)) (pgs_cons (pg_name (i := 6) sc_law.nd rfl (by first | exact Or.inl rfl | exact Or.inr rfl)) pgs_nil))) (pss_cons (ps_set (i := 7) sc_law.nd rfl (by first | exact Or.inl rfl | exact Or.inr rfl) (pe_callB (call_reprX hg hu64) (by rfl) T.n_repr (by decide +kernel) (pa_cons (pe_callG T.ok__law_due hg (hr.mono (by decide)) (by rfl) T.g__law_due T.f__law_due.kp T.b__law_due .nil pass0 (pa_cons (pv 5) (pa_cons (pv 6) pa_nil))) pa_nil)))
      (pss_one (ps_for PassesOwn.never rfl (pi_range1 (by rfl) T.n_range (pa_cons pe_int pa_nil)) (pg_name (i := 8) sc_law.nd rfl (by first | exact Or.inl rfl | exact Or.inr rfl)) (pss_cons (ps_set (i := 9) sc_law.nd rfl (by first | exact Or.inl rfl | exact Or.inr rfl) (pe_callG T.ok_pure_cycles hg (hr.mono (by decide)) (by rfl) T.g_pure_cycles T.f_pure_cycles.kp T.b_pure_cycles .nil pass0 (pa_cons (pv 5) (pa_cons (pv 6) pa_nil))))
      (pss_cons (ps_if (pt_cmpR (op_neA hu64) (pe_callB (call_reprX hg hu64) (by rfl) T.n_repr (by decide +kernel) (pa_cons (pv 9) pa_nil)) (pv 7) (nomark _)) (pss_one (ps_ret pe_bl)) pss_nil)
      (pss_one (ps_expr (pe_bm PySem.F.plainAttrs_list PySem.F.slot_list_append PySem.F.type_list_append mt_append (pv 9) (pa_cons (pe_tupF pa_nil) pa_nil)))))))))))))
      (pss_one (ps_ret (pe_and (pe_cmpR (op_eqA hu64) (pe_callGK0 T.ok_pure_cycles hg (hr.mono (by decide)) (by rfl) T.g_pure_cycles T.f_pure_cycles.kp T.k0_pure_cycles_goal_start pass0 (pk_cons (pe_tupF (pa_cons pe_str (pa_cons pe_str (pa_cons pe_str pa_nil)))) (pk_cons (pe_tupF (pa_cons pe_str (pa_cons pe_str pa_nil))) pk_nil))) (pe_lst pa_nil) (nomark _)) (pe_one (pe_cmpR (op_eqA hu64) (pe_callG T.ok_pure_cycles hg (hr.mono (by decide)) (by rfl) T.g_pure_cycles T.f_pure_cycles.kp T.b_pure_cycles .nil pass0 (pa_cons (pe_tupF pa_nil) (pa_cons (pe_tupF (pa_cons pe_str pa_nil)) pa_nil))) (pe_lst pa_nil) (nomark _))))))),
    law_read (K := K) (N := N_law) (by decide) (b := b_law) ((is_seq (is_for (iw_rng1 (ia_cons ie_int ia_nil)) (ig_name (i := 2)) (is_seq (is_asg (ie_x (ix_call (ia_cons (ie_var (i := 1)) (ia_cons ie_int ia_nil)) (len_cons (len_cons len_nil)))) (ig_tup (n := 2) (igs_cons (ig_name (i := 3)) (igs_cons (ig_name (i := 4)) igs_nil))))
      (is_for (iw_any (ie_tup (ia_cons (ie_tup (ia_cons (ie_give (i := 3)) (ia_cons (ie_give (i := 4)) ia_nil))) (ia_cons (ie_tup (ia_cons (ie_give (i := 4)) (ia_cons (ie_give (i := 3)) ia_nil))) (ia_cons (ie_tup (ia_cons (ie_give (i := 3)) (ia_cons (ie_give (i := 3)) ia_nil))) ia_nil))))) (ig_tup (n := 2) (igs_cons (ig_name (i := 5)) (igs_cons (ig_name (i := 6)) igs_nil))) (is_seq (is_setX (i := 7) (ix_e (ie_cb cd_reprX (ia_cons (ie_x (ix_call (ia_cons (ie_give (i := 5)) (ia_cons (ie_give (i := 6)) ia_nil)) (len_cons (len_cons len_nil)))) ia_nil))))
      (is_for (iw_rng1 (ia_cons ie_int ia_nil)) (ig_name (i := 8)) (is_seq (is_setX (i := 9) (ix_call (ia_cons (ie_give (i := 5)) (ia_cons (ie_give (i := 6)) ia_nil)) (len_cons (len_cons len_nil))))
      (is_seq (is_if (it_test (ie_op od_ne (ie_cb cd_reprX (ia_cons (ie_var (i := 9)) ia_nil)) (ie_var (i := 7)))) (is_retX (ix_e ie_bl)) is_next)
      (is_drop (ie_mt (i := 9) md_app (ia_cons (ie_tup ia_nil) ia_nil))))))))))
      (is_retX (ix_e (ie_and (ie_op od_eq (ie_x (ix_callK ia_nil (ia_cons (ie_tup (ia_cons ie_str (ia_cons ie_str (ia_cons ie_str ia_nil)))) (ia_cons (ie_tup (ia_cons ie_str (ia_cons ie_str ia_nil))) ia_nil)) selR_ok (lenS len_nil (len_cons (len_cons len_nil)) rfl))) (ie_x (ix_m (im_lst ia_nil)))) (ie_op od_eq (ie_x (ix_call (ia_cons (ie_tup ia_nil) (ia_cons (ie_tup (ia_cons ie_str ia_nil)) ia_nil)) (len_cons (len_cons len_nil)))) (ie_x (ix_m (im_lst ia_nil))))))))) hS hl (hm ns hl)⟩
end
end My

local macro_rules | `(tactic| walk_at "gd") => `(tactic| simp (config := { implicitDefEqProofs := false }) only [GD.sl_0, GD.sl_s, GD.q_seq, GD.q_seq1, GD.q_seq2, GD.q_seq3, GD.q_seq4, GD.q_next, GD.q_if, GD.q_if1, GD.q_if2, GD.q_set, GD.q_set1, GD.q_set2, GD.q_set3, GD.q_ret, GD.q_ret1, GD.q_ret2, GD.q_ret3, GD.q_ret4, GD.q_ret5, GD.q_drop, GD.q_drop1, GD.q_put, GD.q_put1, GD.q_put2, GD.q_own0, GD.q_ownS, GD.q_asg, GD.q_asg1, GD.q_gN, GD.q_gT, GD.q_gs0, GD.q_gs1, GD.q_for, GD.q_for1, GD.q_for0, GD.q_forc, GD.q_forb, GD.q_fork1, GD.q_fork2, GD.q_fork3, GD.q_fork4, GD.q_wh, GD.q_wh1, GD.q_wh2, GD.q_wh3, GD.q_wh4, GD.q_var, GD.q_var1, GD.q_var2, GD.q_give, GD.q_give1, GD.q_give2, GD.q_toL, GD.q_c, GD.q_rsv, GD.q_rss, GD.q_rss1, GD.q_rss2, GD.q_rkv, GD.q_eX, GD.q_eX1, GD.q_eX2, GD.q_xE, GD.q_xE1, GD.q_xM, GD.q_xM1, GD.q_e1, GD.q_e11, GD.q_e12, GD.q_e2, GD.q_e21, GD.q_e22, GD.q_e23, GD.q_v, GD.q_op, GD.q_op1, GD.q_xop, GD.q_xop1, GD.q_xop2, GD.q_xop3, GD.q_un, GD.q_un1, GD.q_tv, GD.q_tv1, GD.q_and, GD.q_and1, GD.q_and2, GD.q_or, GD.q_or1, GD.q_or2, GD.q_yes, GD.q_xif, GD.q_xif1, GD.q_xif2, GD.q_isN, GD.q_notN, GD.q_isN1, GD.q_isN2, GD.q_n0, GD.q_n1, GD.q_n2, GD.q_n3, GD.q_n4, GD.q_n5, GD.q_nil, GD.q_cons, GD.q_cons1, GD.q_cons2, GD.q_la, GD.q_eA, GD.q_eA1, GD.q_eK, GD.q_eK1, GD.q_lc, GD.q_rsA0, GD.q_rsA, GD.q_rkA0, GD.q_rkA, GD.q_tup, GD.q_tup1, GD.q_lst, GD.q_lst1, GD.q_ca, GD.q_ca1, GD.q_m, GD.q_cam, GD.q_cam1, GD.q_mt, GD.q_mt0, GD.q_mt1, GD.q_mt2, GD.q_mt3, GD.q_eB, GD.q_eB1, GD.q_eBs, GD.q_eBl, GD.q_eB2, GD.q_eB3, GD.q_call, GD.q_call1, GD.q_call2, GD.q_cN, GD.q_nd0, GD.q_nd1, GD.q_call3, GD.q_cO1, GD.q_cO2, GD.q_callK, GD.q_callK1, GD.q_callK2, GD.q_appR, GD.q_sa0, GD.q_sa1, GD.q_sa2, GD.q_sa3, GD.q_sa4, GD.q_os0, GD.q_os1, GD.q_os2, GD.q_os3, GD.q_ou0, GD.q_ou1, GD.q_ou2, GD.q_up0, GD.q_up1, GD.q_up2, GD.q_up3, GD.q_comp, GD.q_comp1, GD.q_comp2, GD.q_cp0, GD.q_cpc, GD.q_cpg, GD.q_cpt, GD.q_cpf, GD.q_cpe, GD.q_cpk, GD.q_wi0, GD.q_wi1, GD.q_wa, GD.q_wa1, GD.q_wa2, GD.q_wa3, GD.q_wa4, GD.q_r1, GD.q_r11, GD.q_oN, GD.q_oS, GD.q_oS1, GD.q_sl, GD.q_sl1, GD.q_sl2, GD.q_sl3, GD.q_slL, GD.q_slT, GD.q_slS, GD.q_land, GD.q_land1, GD.q_land2, GD.c_sub, GD.c_lt, GD.c_gt, GD.c_ge, GD.c_neg, GD.c_mod, GD.c_div, GD.c_pow, GD.c_mulL, GD.c_mulR, GD.c_eqI, GD.c_neI, GD.c_eqT, GD.c_neT, GD.c_scL, GD.c_scT, GD.c_eqL0, GD.c_neL0, GD.c_inL, GD.c_inS, GD.c_addI, GD.c_addS, GD.c_addT, GD.c_addL, GD.c_app, GD.c_intI, GD.c_intB, GD.c_intS, GD.c_abs, GD.c_lenL, GD.c_lenT, GD.c_lenS, GD.c_listL, GD.c_listT, GD.c_tupL, GD.c_tupT, GD.c_ixL, GD.c_ixT, GD.c_ixS, GD.c_at, GD.c_set, GD.q_run, GD.q_run1, GD.q_run2, GD.q_ouE0, GD.q_ouE1, GD.q_ouE2, GD.c_min2, GD.c_mulS, GD.q_s01, GD.q_s11, GD.q_s02, GD.q_s02r, GD.q_s12, GD.q_s12r, GD.q_s21, GD.q_s03, GD.q_s03r, GD.q_wea, GD.q_wea0, GD.q_wea1, GD.q_wea2, GD.q_wea3, GD.c_mulX, GD.c_popAt, GD.q_d0, GD.c_d0, GD.c_d1, GD.c_sset, GD.c_isNX, GD.q_runM, GD.q_runM1, GD.q_runM2, GD.q_gL, GD.c_reprX, GD.c_d1s, GD.q_dc, GD.q_dc1, GD.q_dc2, GD.c_toDm, GD.q_dput, GD.q_forItems, GD.c_minL, GD.c_srtW, GD.q_listV, GD.q_listV1, Bool.false_eq_true, Bool.and_true, Bool.true_and, Option.bind_some, Option.map_some, Option.bind_none, Option.map_none, List.set_cons_zero, List.set_cons_succ, List.length_cons, List.length_nil, ite_true, ite_false, if_true, if_false, reduceIte, decide_true, decide_false, Int.reduceLT, Int.reduceLE, Int.reduceNeg, Nat.reduceAdd, Nat.reduceLT, Int.toNat_zero, Nat.reduceLeDiff, Nat.zero_le, Nat.le_refl, List.isEmpty_iff, Int.reduceToNat, Int.reducePow, Int.reduceMul, Int.reduceAdd, Nat.reduceMul, List.map_nil, List.map_cons, List.isEmpty_nil, List.isEmpty_cons, Int.natAbs_natCast, Bool.not_true, Bool.not_false, eq_self, List.nil_append, List.cons_append, *])
namespace My
open PySem PySem.Spec PyProof.Rows L2 GD
def pen (ns : List Int) (idx great : Int) : Mu := .l [.list (ns.map .int), .int idx, .int great]
theorem pen_def (ns : List Int) (idx great : Int) : pen ns idx great = .l [.list (ns.map .int), .int idx, .int great] := rfl
theorem at2 (a b c : D) : atI [a, b, c] 2 = some c := rfl
theorem at1 (a b c : D) : atI [a, b, c] 1 = some b := rfl
theorem at0 (a b c : D) : atI [a, b, c] 0 = some a := rfl
theorem st2 (a b c d : D) : gSetL (.l [a, b, c]) (.int 2) d = some (.l [a, b, d]) := rfl
theorem st1 (a b c d : D) : gSetL (.l [a, b, c]) (.int 1) d = some (.l [a, d, c]) := rfl
theorem draw_great (ns : List Int) (idx great b : Int) (hg : 0 < great) (hb : 0 < b) (hb2 : b < 1073741824) :
    m__law_draw [.own true (pen ns idx great), .shr (.int b)] = some (.val (.int (great % b)), [some (pen ns idx (great / b)), none]) := by
  have e0 : env0 7 [.own true (pen ns idx great), .shr (.int b)] = [some (.own true (pen ns idx great)), some (.shr (.int b)), none, none, none, none, none] := rfl
  unfold m__law_draw b__law_draw
  rw [q_run, e0]
  simp only [pen_def]
  have h1 := at2
  have h2 := st2
  walk_at "gd"
theorem gr0 (g : Int) (h : g = 0) : decide (0 < g) = false := by subst h; rfl
def mixA (c idx : Int) : Int := c % 2147483549 + 30011 * idx + 59
def mixB (c idx : Int) : Int := mixA c idx ^ 5 % 2147483579
def mixC (c idx : Int) : Int := mixB c idx * (2 * idx + 11) + 70003
def mixD (c idx : Int) : Int := mixC c idx ^ 3 % 2147483629
theorem sq_le (idx : Int) (h : 0 ≤ idx) (h2 : idx < 1048576) : 0 ≤ idx * idx ∧ idx * idx ≤ 1048576 * 1048576 :=
  ⟨Int.mul_nonneg h h, Int.mul_le_mul (by omega) (by omega) h (by omega)⟩
theorem mixC_lt (c idx : Int) (h : 0 ≤ idx) (h2 : idx < 1048576) : (mixC c idx).natAbs < 18446744073709551616 := by
  have hb : 0 ≤ mixB c idx ∧ mixB c idx < 2147483579 := by unfold mixB; omega
  have h3 := sq_le idx h h2
  have h4 : 0 ≤ mixB c idx * (2 * idx + 11) := Int.mul_nonneg hb.1 (by omega)
  have h5 : mixB c idx * (2 * idx + 11) ≤ 2147483579 * (2 * 1048576 + 11) := Int.mul_le_mul (by omega) (by omega) (by omega) (by omega)
  unfold mixC; omega
theorem depth_ints (ns : List Int) : PyData.depthAll (ns.map .int) ≤ 1 := by induction ns <;> simp_all [PyData.depthAll, PyData.depth]
theorem lay_ints (ns : List Int) : PyData.canLayAll0 (ns.map .int) = true := by induction ns <;> simp_all [PyData.canLayAll0, PyData.canLay0]
theorem shaped_ints (ns : List Int) : SeqAt.shaped (.list (ns.map .int)) = true := by
  have := depth_ints ns
  simp [SeqAt.shaped, PyData.canLay0, PyData.depth, lay_ints]; omega
theorem atI_ints (ns : List Int) (k : Int) (h : 0 ≤ k) (h2 : k < ns.length) : ∃ c : Int, atI (ns.map PyData.int) k = some (PyData.int c) := by
  rw [c_at h (by simpa using h2)]
  have : k.toNat < ns.length := by omega
  exact ⟨ns[k.toNat], by simp [this]⟩
theorem draw_ok (ns : List Int) (idx great b : Int) (h0 : 0 ≤ idx) (h1 : idx < 1048576) (hg : 0 ≤ great) (hb : 0 < b) (hb2 : b < 1073741824) :
    ∃ r idx' great', m__law_draw [.own true (pen ns idx great), .shr (.int b)] = some (.val (.int r), [some (pen ns idx' great'), none]) ∧ 0 ≤ r ∧ r < b ∧ idx ≤ idx' ∧ idx' ≤ idx + 1 ∧ 0 ≤ great' := by
  by_cases hg2 : 0 < great
  · exact ⟨_, _, _, draw_great ns idx great b hg2 hb hb2, Int.emod_nonneg _ (by omega), Int.emod_lt_of_pos _ hb, by omega, by omega, Int.ediv_nonneg hg (by omega)⟩
  have e0 : env0 7 [.own true (pen ns idx great), .shr (.int b)] = [some (.own true (pen ns idx great)), some (.shr (.int b)), none, none, none, none, none] := rfl
  unfold m__law_draw b__law_draw
  rw [q_run, e0]
  simp only [pen_def]
  have i1 := at2
  have i2 := at1
  have i3 := at0
  have j1 := st1
  have j2 := st2
  have hs := shaped_ints ns
  have a1 : ∀ c : Int, (c % 2147483549 + 30011 * idx + 59).natAbs < 18446744073709551616 := fun c => by omega
  have eB : ∀ c : Int, (c % 2147483549 + 30011 * idx + 59) ^ 5 % 2147483579 = mixB c idx := fun c => rfl
  have hB1 : ∀ c, -18446744073709551616 < mixB c idx := fun c => by unfold mixB; omega
  have hB2 : ∀ c, mixB c idx < 18446744073709551616 := fun c => by unfold mixB; omega
  have hC : ∀ c, mixB c idx * (2 * idx + 11) + 70003 = mixC c idx := fun c => rfl
  have hC1 := fun c => mixC_lt c idx h0 h1
  have hD : ∀ c, mixC c idx ^ 3 % 2147483629 = mixD c idx := fun c => rfl
  have h7 : -18446744073709551616 < 70121 * idx := by omega
  have h8 : 70121 * idx < 18446744073709551616 := by omega
  have hgr := gr0 great (by omega)
  have fin : ∀ c : Int, ∃ r idx' great', (some (Ret.val (.int (mixD c idx / 16 % b)), [some (Mu.l [.list (ns.map .int), .int (idx + 1), .int great]), none]) : Option (Ret × List (Option Mu))) = some (.val (.int r), [some (pen ns idx' great'), none]) ∧ 0 ≤ r ∧ r < b ∧ idx ≤ idx' ∧ idx' ≤ idx + 1 ∧ 0 ≤ great' :=
    fun c => ⟨_, _, _, rfl, Int.emod_nonneg _ (by omega), Int.emod_lt_of_pos _ hb, by omega, by omega, hg⟩
  have hp : dPow (.int 10) (.int 18) = some (.int 1000000000000000000) := rfl
  by_cases hn : ns = []
  · subst hn
    have hs0 : dNe (.list []) (.list []) = some (.bool false) := c_neL0 (by decide)
    have hl : decide (idx < ((0 : Nat) : Int)) = false := by simp; omega
    walk_at "gd"
    exact fin _
  · have hl0 : 0 < ns.length := by cases ns <;> simp_all
    have hl1 : (0 : Int) < ((List.map PyData.int ns).length : Int) := by simp; exact hl0
    obtain ⟨c, hc⟩ := atI_ints ns (idx % ((List.map PyData.int ns).length : Int)) (Int.emod_nonneg _ (by omega)) (by simpa using Int.emod_lt_of_pos idx hl1)
    have hne : (List.map PyData.int ns).isEmpty = false := by cases ns <;> simp_all
    by_cases hx : idx < ((List.map PyData.int ns).length : Int)
    · have hx' : decide (idx < ((List.map PyData.int ns).length : Int)) = true := decide_eq_true hx
      by_cases hy : 1000000000000000000 ≤ (if c < 0 then -c else c)
      · have hy' : decide (1000000000000000000 ≤ (if c < 0 then -c else c)) = true := decide_eq_true hy
        have hz : (0 : Int) ≤ (if c < 0 then -c else c) := by omega
        have hw : (0 : Int) ≤ (if decide (c < 0) = true then 1 else 0) := by split <;> omega
        clear fin
        walk_at "gd"
        exact ⟨_, _, _, rfl, Int.emod_nonneg _ (by omega), Int.emod_lt_of_pos _ hb, by omega, by omega, Int.ediv_nonneg (by omega) (by omega)⟩
      · have hy' : decide (1000000000000000000 ≤ (if c < 0 then -c else c)) = false := decide_eq_false hy
        walk_at "gd"
        exact fin _
    · have hx' : decide (idx < ((List.map PyData.int ns).length : Int)) = false := decide_eq_false hx
      walk_at "gd"
      exact fin _
end My

namespace My
open PySem PySem.Spec PyProof.Rows L2 GD

def nT (k : Int) : Str := Str.ofString (toString k)
structure OS (k n : Nat) (d : D) : Prop where
  lay : d.canLay0 = true
  dep : d.depth ≤ k
  sh : d.showable = true
  sho : d.leavesShort 200 = true
  blk : d.bulk ≤ n
theorem OS.mono {k n k' n' : Nat} {d : D} (h : OS k n d) (a : k ≤ k') (b : n ≤ n') : OS k' n' d := ⟨h.lay, Nat.le_trans h.dep a, h.sh, h.sho, Nat.le_trans h.blk b⟩
theorem OS.all {k n : Nat} : ∀ {ds : List D}, (∀ d ∈ ds, OS k n d) → PyData.canLayAll0 ds = true ∧ PyData.depthAll ds ≤ k ∧ PyData.showableAll ds = true ∧ PyData.leavesShortAll 200 ds = true ∧ PyData.bulkAll ds ≤ (n + 1) * ds.length
  | [], _ => ⟨by rw [PyData.canLayAll0], by rw [PyData.depthAll]; omega, by rw [PyData.showableAll], by rw [PyData.leavesShortAll], by rw [PyData.bulkAll]; omega⟩
  | d :: ds, h => by
    obtain ⟨a, b, c, e, f⟩ := OS.all fun x hx => h x (List.mem_cons_of_mem _ hx)
    have g := h d (List.mem_cons_self ..)
    refine ⟨by rw [PyData.canLayAll0, a, g.lay]; rfl, by rw [PyData.depthAll]; exact Nat.max_le.mpr ⟨g.dep, b⟩, by rw [PyData.showableAll, c, g.sh]; rfl, by rw [PyData.leavesShortAll, e, g.sho]; rfl, ?_⟩
    rw [PyData.bulkAll, List.length_cons, Nat.mul_succ]
    have := g.blk
    omega
theorem OS.list {k n : Nat} {ds : List D} (h : ∀ d ∈ ds, OS k n d) : OS (k + 1) ((n + 1) * ds.length) (.list ds) := by
  obtain ⟨a, b, c, e, f⟩ := OS.all h
  exact ⟨by rw [PyData.canLay0]; exact a, by rw [PyData.depth]; omega, by rw [PyData.showable]; exact c, by rw [PyData.leavesShort]; exact e, by rw [PyData.bulk]; exact f⟩
theorem OS.tuple {k n : Nat} {ds : List D} (h : ∀ d ∈ ds, OS k n d) : OS (k + 1) ((n + 1) * ds.length) (.tuple ds) := by
  obtain ⟨a, b, c, e, f⟩ := OS.all h
  exact ⟨by rw [PyData.canLay0]; exact a, by rw [PyData.depth]; omega, by rw [PyData.showable]; exact c, by rw [PyData.leavesShort]; exact e, by rw [PyData.bulk]; exact f⟩
theorem OS.none : OS 0 0 .none := ⟨by rw [PyData.canLay0], by rw [PyData.depth]; omega, by rw [PyData.showable], by rw [PyData.leavesShort], by rw [PyData.bulk]; omega⟩
theorem OS.str {x : Str} (h : ∀ c ∈ TL.tl x, c < 128) : OS 0 x.length (.str x) := by
  refine ⟨?_, by rw [PyData.depth]; omega, by rw [PyData.showable], ?_, by rw [PyData.bulk]; exact Nat.le_refl _⟩
  · rw [PyData.canLay0, PyData.strOk, Array.all_eq_true']
    intro c hc
    have := h c (Array.mem_toList_iff.mpr hc)
    exact decide_eq_true (by omega)
  · rw [PyData.leavesShort, List.all_eq_true]
    intro c hc
    exact decide_eq_true (Nat.lt_of_lt_of_le (h c hc) (by decide))
theorem OS.ok {k n : Nat} {d : D} (h : OS k n d) (a : k ≤ 60) (b : n ≤ 60000) : okShow d = true := by
  unfold okShow
  rw [h.lay, h.sh, h.sho, decide_eq_true (Nat.le_trans h.dep a), decide_eq_true (Nat.le_trans h.blk b)]; rfl
theorem OS.shaped {k n : Nat} {d : D} (h : OS k n d) (a : k ≤ 60) : SeqAt.shaped d = true := by
  unfold SeqAt.shaped
  rw [h.lay, decide_eq_true (Nat.le_trans h.dep (Nat.le_trans a (by decide)))]; rfl
def N3 (k : Int) : Prop := 0 ≤ k ∧ k ≤ 999
theorem n3_len {k : Int} (h : N3 k) : (nT k).length ≤ 3 := by
  obtain ⟨m, rfl⟩ := Int.eq_ofNat_of_zero_le h.1
  have e : (nT (m : Int)).length = (TL.numL m).length := by rw [TL.len_tl]; exact congrArg List.length (TL.tl_num m)
  rw [e]
  have := h.2
  exact TL.numL_len (by decide) (by omega)
theorem n3_log {k : Int} (h : N3 k) : k.natAbs.log2 < 1920 := by
  have h1 : k.natAbs < 1024 := by have := h.1; have := h.2; omega
  by_cases h0 : k.natAbs = 0
  · rw [h0]; decide
  · have := (Nat.log2_lt h0 (k := 10)).mpr h1; omega
theorem OS.int {k : Int} (h : N3 k) : OS 0 0 (.int k) :=
  ⟨by rw [PyData.canLay0], by rw [PyData.depth]; omega, by rw [PyData.showable]; exact decide_eq_true (n3_log h), by
    rw [PyData.leavesShort]
    exact decide_eq_true (Nat.le_trans (n3_len h) (by decide)), by rw [PyData.bulk]; omega⟩
def W8 (w : Str) : Prop := w.length ≤ 8 ∧ ∀ c ∈ TL.tl w, c < 128
def eD : Option Str → D
  | none => .none
  | some w => .str w
def GoodE (e : Option Str) : Prop := ∀ w, e = some w → W8 w
theorem OS.word {w : Str} (h : W8 w) : OS 0 8 (.str w) := (OS.str h.2).mono (Nat.le_refl _) h.1
theorem OS.entry {e : Option Str} (h : GoodE e) : OS 0 8 (eD e) := by
  cases e with
  | none => exact OS.none.mono (Nat.le_refl _) (by omega)
  | some w => exact OS.word (h w rfl)
end My

namespace My
open PySem PySem.Spec PyProof.Rows L2 GD

def PW (w : Str) : Prop := w.length ≤ 16
theorem comp_ex {A : Type} {vs : List Nat} {tg : D → En → Option En} {ft : EvT} {fe : EvE} {env : En} (F : A → D) (P : A → Prop) : ∀ (l acc : List D), acc.length + l.length ≤ 1000000 →
    (∀ d ∈ l, ∃ z, P z ∧ ∀ ds acc, acc.length ≤ 1000000 → cpG vs tg ft fe ds acc (tg d env) = compE vs tg ft fe ds (acc ++ [F z]) env) → ∃ zs : List A, (∀ z ∈ zs, P z) ∧ zs.length = l.length ∧ compE vs tg ft fe l acc env = some (acc ++ zs.map F, env)
  | [], acc, _, _ => ⟨[], fun z h => (by cases h), rfl, by simp [compE]⟩
  | d :: l, acc, hl, h => by
    simp only [List.length_cons] at hl
    obtain ⟨z, hz, hc⟩ := h d (List.mem_cons_self ..)
    obtain ⟨zs, h1, h2, h3⟩ := comp_ex F P l (acc ++ [F z]) (by rw [List.length_append, List.length_singleton]; omega) fun b hb => h b (List.mem_cons_of_mem _ hb)
    refine ⟨z :: zs, fun y hy => ?_, by rw [List.length_cons, List.length_cons, h2], ?_⟩
    · rcases List.mem_cons.mp hy with rfl | hy
      · exact hz
      · exact h1 y hy
    · rw [q_cpc, hc _ _ (by omega), h3]; simp
theorem range_mem {n : Nat} {d : D} (h : d ∈ rangeD 0 n) : ∃ i : Int, d = .int i ∧ 0 ≤ i ∧ i < n := by
  unfold rangeD at h
  obtain ⟨i, hi, rfl⟩ := List.mem_map.mp h
  have := List.mem_range.mp hi
  exact ⟨0 + (i : Int), rfl, by omega, by omega⟩
theorem range_len (a : Int) (n : Nat) : (rangeD a n).length = n := by simp [rangeD]
def abc : Str := ("abcdefghijklmnopqrstuvwxyz" : Str)
theorem rep_len (a : Str) (k : Int) (h : 1 ≤ k) : (strRep a k).length ≤ k.toNat * a.length := by
  unfold strRep
  have hlen : ∀ (n : Nat) (b : Array Nat), ((List.replicate n a.cps).foldl (· ++ ·) b).size = b.size + n * a.cps.size := by
    intro n
    induction n with
    | zero => intro b; simp
    | succ n ih => intro b; rw [List.replicate_succ, List.foldl_cons, ih, Array.size_append, Nat.succ_mul]; omega
  split
  · have h1 : 1 ≤ k.toNat := by omega
    have : 1 * a.length ≤ k.toNat * a.length := Nat.mul_le_mul h1 (Nat.le_refl _)
    omega
  · have e := hlen k.toNat #[]
    show ((List.replicate k.toNat a.cps).foldl (· ++ ·) #[]).size ≤ k.toNat * a.cps.size
    rw [e]
    simp only [List.size_toArray, List.length_nil]
    omega
theorem len_app (x y : Str) : (x ++ y).length = x.length + y.length := by rw [TL.len_tl, TL.tl_append, List.length_append, ← TL.len_tl, ← TL.len_tl]
theorem str_at (ps : List Str) (i : Int) (h : 0 ≤ i) (h2 : i < ps.length) : ∃ p ∈ ps, atI (ps.map PyData.str) i = some (.str p) := by
  rw [c_at h (by rw [List.length_map]; exact h2)]
  have hlt : i.toNat < ps.length := by omega
  exact ⟨ps[i.toNat], List.getElem_mem hlt, by simp [hlt]⟩
theorem ent_at (es : List (Option Str)) (i : Int) (h : 0 ≤ i) (h2 : i < es.length) : ∃ e, es[i.toNat]? = some e ∧ atI (es.map eD) i = some (eD e) := by
  rw [c_at h (by rw [List.length_map]; exact h2)]
  have hlt : i.toNat < es.length := by omega
  exact ⟨es[i.toNat], by simp [hlt], by simp [hlt]⟩
theorem trim_loop (es : List (Option Str)) : ∀ (n : Nat), n ≤ es.length → ∀ f, n < f → ∃ m : Nat, m ≤ n ∧
    whE (tfAnd (tVal (eOp dGt (eVar 1) (eC (.int 0)))) (tVal (eIsN (eOp dIx (eVar 0) (eOp dSub (eVar 1) (eC (.int 1))))))) (sSetX 1 (xE (eOp dSub (eVar 1) (eC (.int 1))))) f [some (.own true (.l (es.map eD))), some (.shr (.int n))]
      = some (.nx, [some (.own true (.l (es.map eD))), some (.shr (.int m))])
  | n, hn, f, hf => by
    obtain ⟨f, rfl⟩ : ∃ n, f = n + 1 := ⟨f - 1, by omega⟩
    by_cases hz : n = 0
    · subst hz
      refine ⟨0, Nat.le_refl _, ?_⟩
      have t : decide ((0 : Int) < ((0 : Nat) : Int)) = false := by decide
      clear hn hf
      walk_at "gd"
    · have t : decide ((0 : Int) < (n : Int)) = true := decide_eq_true (by omega)
      obtain ⟨e, _, hat⟩ := ent_at es ((n : Int) - 1) (by omega) (by omega)
      cases e with
      | none =>
        obtain ⟨m, hm, ih⟩ := trim_loop es (n - 1) (by omega) f (by omega)
        refine ⟨m, by omega, ?_⟩
        have ec : (n : Int) - 1 = ((n - 1 : Nat) : Int) := by omega
        rw [← ih]
        rw [← ec] at ih ⊢
        clear ih hn hf hz ec
        simp only [eD] at *
        walk_at "gd"
      | some w =>
        refine ⟨n, Nat.le_refl _, ?_⟩
        clear hn hf hz
        simp only [eD] at *
        walk_at "gd"
theorem cut_take (ds : List D) (m : Nat) (h : m ≤ ds.length) : GD.cutD ds none (some (m : Int)) = ds.take m := by
  unfold GD.cutD
  rw [HT.sIx_nat, HT.sIx_none]
  rw [Nat.min_eq_left h]; simp
end My

namespace My
open PySem PySem.Spec PyProof.Rows L2 GD

theorem le_sum : ∀ (l : List Nat) (x : Nat), x ∈ l → x ≤ l.sum
  | y :: l, x, h => by
    rw [List.sum_cons]
    rcases List.mem_cons.mp h with rfl | h
    · omega
    · have := le_sum l x h; omega
theorem erase_map {A B : Type} (f : A → B) : ∀ (l : List A) (k : Nat), (l.map f).eraseIdx k = (l.eraseIdx k).map f
  | [], k => by simp
  | a :: l, 0 => rfl
  | a :: l, k + 1 => by
    show f a :: (l.map f).eraseIdx k = f a :: (l.eraseIdx k).map f
    rw [erase_map f l k]
theorem shaped_strs (ps : List Str) (h : ∀ p ∈ ps, ∀ c ∈ TL.tl p, c < 128) : SeqAt.shaped (.list (ps.map PyData.str)) = true := by
  have : ∀ d ∈ ps.map PyData.str, OS 0 (ps.map (·.length)).sum d := fun d hd => by
    obtain ⟨p, hp, rfl⟩ := List.mem_map.mp hd
    refine (OS.str (h p hp)).mono (Nat.le_refl _) ?_
    exact le_sum _ _ (List.mem_map.mpr ⟨p, hp, rfl⟩)
  exact (OS.list this).shaped (by omega)
theorem start_loop (ns : List Int) (ps : List Str) (h1p : 1 ≤ ps.length) (hp : ps.length ≤ 20) (hpg : ∀ p ∈ ps, W8 p) (m : Option Sl) (way : Int) : ∀ (ds : List D) (ls : List Str) (es : List (Option Str)) (idx great : Int) (o6 o7 : Option Sl), 0 ≤ idx → idx + 3 * ds.length < 1048570 → 0 ≤ great → es.length + ds.length ≤ 1000 → ls.length ≤ 20 → (∀ l ∈ ls, W8 l) → (∀ e ∈ es, GoodE e) →
    ∃ (ls' : List Str) (es' : List (Option Str)) (idx' great' : Int) (o6' o7' : Option Sl), forE (gN 6) (sSeq (sSetX 7 (xE (eOp dIx (eVar 1) (eX (xCall m__law_draw (aCons (eVar 0) (aCons (eCa cMin2 (aCons (eC (.int 3)) (aCons (eCa cLen (aCons (eVar 1) aNil)) aNil))) aNil)))))))
      (sSeq (sIf (tfAnd (tVal (eOp dGt (eVar 3) (eC (.int 0)))) (tVal (eOp dNe (eVar 4) (eX (xM (eLst aNil)))))) (sSetX 7 (xE (eMt "list" gPopAt 4 (aCons (eX (xCall m__law_draw (aCons (eVar 0) (aCons (eCa cLen (aCons (eVar 4) aNil)) aNil)))) aNil)))) sNext)
      (sDrop (eMt "list" gApp 5 (aCons (eOp dIx (eX (xM (eLst (aCons (eC .none) (aCons (eGive 7) aNil))))) (eCa cInt (aCons (eOp dGt (eX (xCall m__law_draw (aCons (eVar 0) (aCons (eC (.int 5)) aNil)))) (eC (.int 0))) aNil))) aNil)))))
      ds [some (.own true (pen ns idx great)), some (.shr (.list (ps.map PyData.str))), m, some (.shr (.int way)), some (.own false (.l (ls.map PyData.str))), some (.own false (.l (es.map eD))), o6, o7] = some (.nx, [some (.own true (pen ns idx' great')), some (.shr (.list (ps.map PyData.str))), m, some (.shr (.int way)), some (.own false (.l (ls'.map PyData.str))), some (.own false (.l (es'.map eD))), o6', o7']) ∧
      (∀ e ∈ es', GoodE e) ∧ es'.length = es.length + ds.length ∧ idx ≤ idx' ∧ idx' ≤ idx + 3 * ds.length ∧ 0 ≤ great'
  | [], ls, es, idx, great, o6, o7, h0, h1, hg, hl, hll, hls, hy => ⟨ls, es, idx, great, o6, o7, rfl, hy, rfl, by simp, by simp, hg⟩
  | d :: ds, ls, es, idx, great, o6, o7, h0, h1, hg, hl, hll, hls, hy => by
    simp only [List.length_cons] at h1 hl
    have hml : ((ps.map PyData.str).length : Int) = (ps.length : Int) := by rw [List.length_map]
    have hmin : 0 < (if ((ps.map PyData.str).length : Int) < 3 then ((ps.map PyData.str).length : Int) else 3) ∧ (if ((ps.map PyData.str).length : Int) < 3 then ((ps.map PyData.str).length : Int) else 3) ≤ (ps.length : Int) ∧ (if ((ps.map PyData.str).length : Int) < 3 then ((ps.map PyData.str).length : Int) else 3) ≤ 3 := by
      rw [hml]; split <;> omega
    obtain ⟨r1, i1, g1, e1, a1, b1, c1, d1, f1⟩ := draw_ok ns idx great _ h0 (by omega) hg hmin.1 (by omega)
    obtain ⟨p, hpm, hat⟩ := str_at ps r1 a1 (by omega)
    have hsh := shaped_strs ls fun l h => (hls l h).2
    have hne := c_neL0 hsh
    have hn : (es.map eD).length ≤ 1000000 := by rw [List.length_map]; omega
    -- the word taken from what is left
    have fin : ∀ (w : Str) (ls2 : List Str) (i2 g2 : Int), W8 w → ls2.length ≤ 20 → (∀ l ∈ ls2, W8 l) → i1 ≤ i2 → i2 ≤ i1 + 1 → 0 ≤ g2 →
        ∃ (e : Option Str) (i3 g3 r3 : Int), GoodE e ∧ m__law_draw [.own true (pen ns i2 g2), .shr (.int 5)] = some (.val (.int r3), [some (pen ns i3 g3), none]) ∧ atI [PyData.none, .str w] (if decide (0 < r3) = true then 1 else 0) = some (eD e) ∧ i2 ≤ i3 ∧ i3 ≤ i2 + 1 ∧ 0 ≤ g3 := by
      intro w ls2 i2 g2 hw _ _ u1 u2 u3
      obtain ⟨r3, i3, g3, e3, a3, b3, c3, d3, f3⟩ := draw_ok ns i2 g2 5 (by omega) (by omega) u3 (by omega) (by omega)
      by_cases hz : 0 < r3
      · exact ⟨some w, i3, g3, r3, (fun w' hw' => by cases hw'; exact hw), e3, by rw [decide_eq_true hz]; rfl, c3, d3, f3⟩
      · exact ⟨none, i3, g3, r3, (fun w' hw' => by cases hw'), e3, by rw [decide_eq_false hz]; rfl, c3, d3, f3⟩
    by_cases hway : 0 < way
    · have t1 : decide (0 < way) = true := decide_eq_true hway
      cases ls with
      | nil =>
        obtain ⟨e, i3, g3, r3, he, e3, hae, c3, d3, f3⟩ := fin p [] i1 g1 (hpg p hpm) (by simp) (fun l h => by cases h) (by omega) (by omega) f1
        obtain ⟨ls', es', i4, g4, p6, p7, ih, q1, q2, q3, q4, q5⟩ := start_loop ns ps h1p hp hpg m way ds [] (es ++ [e]) i3 g3 (some (.shr d)) (some (.shr (.str p))) (by omega) (by omega) f3 (by rw [List.length_append, List.length_singleton]; omega) (by simp) (fun l h => by cases h) (fun z h => by
          rcases List.mem_append.mp h with h | h
          · exact hy z h
          · rw [List.mem_singleton.mp h]; exact he)
        refine ⟨ls', es', i4, g4, p6, p7, ?_, q1, by rw [q2, List.length_append, List.length_singleton, List.length_cons]; omega, by omega, by rw [List.length_cons]; omega, q5⟩
        have hm : (es ++ [e]).map eD = es.map eD ++ [eD e] := by simp
        rw [hm] at ih
        rw [← ih]
        clear ih hy q1 hm he hpm hpg hls hway hmin fin hml hsh
        simp only [List.map_nil, List.isEmpty_nil] at *
        walk_at "gd"
      | cons l0 lt =>
        have hlen : (((l0 :: lt).map PyData.str).length : Int) = ((l0 :: lt).length : Int) := by rw [List.length_map]
        have hpos : 0 < (l0 :: lt).length := by simp
        obtain ⟨r2, i2, g2, e2, a2, b2, c2, d2, f2⟩ := draw_ok ns i1 g1 (((l0 :: lt).map PyData.str).length : Int) (by omega) (by omega) f1 (by omega) (by omega)
        generalize hL : l0 :: lt = L at *
        have hlt : r2.toNat < L.length := by omega
        have hpop : gPopAt (.l (L.map PyData.str)) [.int r2] = some (.l ((L.eraseIdx r2.toNat).map PyData.str), .str L[r2.toNat]) := by
          rw [c_popAt (d := .str L[r2.toNat]) a2 (by rw [List.length_map]; omega) (by rw [List.length_map]; omega) (by simp [hlt])]
          rw [erase_map]
        have hw := hls L[r2.toNat] (List.getElem_mem hlt)
        have hls2 : ∀ l ∈ L.eraseIdx r2.toNat, W8 l := fun l h => hls l (List.mem_of_mem_eraseIdx h)
        have hll2 : (L.eraseIdx r2.toNat).length ≤ 20 := by have := List.length_eraseIdx_le L r2.toNat; omega
        obtain ⟨e, i3, g3, r3, he, e3, hae, c3, d3, f3⟩ := fin L[r2.toNat] (L.eraseIdx r2.toNat) i2 g2 hw hll2 hls2 (by omega) (by omega) f2
        obtain ⟨ls', es', i4, g4, p6, p7, ih, q1, q2, q3, q4, q5⟩ := start_loop ns ps h1p hp hpg m way ds (L.eraseIdx r2.toNat) (es ++ [e]) i3 g3 (some (.shr d)) (some (.shr (.str L[r2.toNat]))) (by omega) (by omega) f3 (by rw [List.length_append, List.length_singleton]; omega) hll2 hls2 (fun z h => by
          rcases List.mem_append.mp h with h | h
          · exact hy z h
          · rw [List.mem_singleton.mp h]; exact he)
        refine ⟨ls', es', i4, g4, p6, p7, ?_, q1, by rw [q2, List.length_append, List.length_singleton, List.length_cons]; omega, by omega, by rw [List.length_cons]; omega, q5⟩
        have hne2 : (L.map PyData.str).isEmpty = false := by rw [← hL]; rfl
        rw [hne2] at hne
        have hm : (es ++ [e]).map eD = es.map eD ++ [eD e] := by simp
        rw [hm] at ih
        rw [← ih]
        clear ih hy q1 hm he hpm hpg hls hway hmin fin hml hsh hw hls2 hll2 hlen hL hne2 hpos hll
        walk_at "gd"
    · have t1 : decide (0 < way) = false := decide_eq_false hway
      obtain ⟨e, i3, g3, r3, he, e3, hae, c3, d3, f3⟩ := fin p ls i1 g1 (hpg p hpm) hll hls (by omega) (by omega) f1
      obtain ⟨ls', es', i4, g4, p6, p7, ih, q1, q2, q3, q4, q5⟩ := start_loop ns ps h1p hp hpg m way ds ls (es ++ [e]) i3 g3 (some (.shr d)) (some (.shr (.str p))) (by omega) (by omega) f3 (by rw [List.length_append, List.length_singleton]; omega) hll hls (fun z h => by
        rcases List.mem_append.mp h with h | h
        · exact hy z h
        · rw [List.mem_singleton.mp h]; exact he)
      refine ⟨ls', es', i4, g4, p6, p7, ?_, q1, by rw [q2, List.length_append, List.length_singleton, List.length_cons]; omega, by omega, by rw [List.length_cons]; omega, q5⟩
      have hm : (es ++ [e]).map eD = es.map eD ++ [eD e] := by simp
      rw [hm] at ih
      rw [← ih]
      clear ih hy q1 hm he hpm hpg hls hway hmin fin hml hsh hne
      walk_at "gd"
theorem entries_OS {es : List (Option Str)} (hy : ∀ e ∈ es, GoodE e) : ∀ d ∈ es.map eD, OS 0 8 d := fun d hd => by
  obtain ⟨e, he, rfl⟩ := List.mem_map.mp hd
  exact OS.entry (hy e he)
end My

namespace My
open PySem PySem.Spec PyProof.Rows L2 GD

theorem trimmed_good (es : List (Option Str)) (hl : es.length ≤ 1000) (hg : ∀ e ∈ es, GoodE e) :
    ∃ es' : List (Option Str), m__law_trimmed [.own true (.l (es.map eD))] = some (.val (.tuple (es'.map eD)), [some (.l (es.map eD))]) ∧ (∀ e ∈ es', GoodE e) ∧ es'.length ≤ es.length := by
  have e0 : env0 2 [.own true (.l (es.map eD))] = [some (.own true (.l (es.map eD))), none] := rfl
  obtain ⟨m, hm, ih⟩ := trim_loop es es.length (Nat.le_refl _) fuel (by unfold fuel; omega)
  have hc := cut_take (es.map eD) m (by rw [List.length_map]; omega)
  have hl2 : ((es.map eD).length : Int) = (es.length : Int) := by rw [List.length_map]
  rw [← hl2] at ih
  refine ⟨es.take m, ?_, fun e he => hg e (List.mem_of_mem_take he), by rw [List.length_take]; omega⟩
  rw [← List.map_take] at hc
  clear hg hl2
  unfold m__law_trimmed b__law_trimmed
  rw [q_run, e0]
  walk_at "gd"
theorem start_ok (ns : List Int) (ps : List Str) (h1p : 1 ≤ ps.length) (hp : ps.length ≤ 20) (hpg : ∀ p ∈ ps, W8 p) (most : Int) (hm0 : 0 ≤ most) (hm1 : most ≤ 100) (idx great : Int) (h0 : 0 ≤ idx) (h1 : idx + 320 < 1048570) (hg : 0 ≤ great) :
    ∃ (es : List (Option Str)) (idx' great' : Int), m__law_start [.own true (pen ns idx great), .shr (.list (ps.map PyData.str)), .shr (.int most)] = some (.val (.tuple (es.map eD)), [some (pen ns idx' great'), none, none]) ∧ (∀ e ∈ es, GoodE e) ∧ (es.length : Int) ≤ most + 1 ∧ idx ≤ idx' ∧ idx' ≤ idx + 320 ∧ 0 ≤ great' := by
  obtain ⟨way, i1, g1, e1, a1, b1, c1, d1, f1⟩ := draw_ok ns idx great 3 h0 (by omega) hg (by omega) (by omega)
  obtain ⟨r, i2, g2, e2, a2, b2, c2, d2, f2⟩ := draw_ok ns i1 g1 (most + 1) (by omega) (by omega) f1 (by omega) (by omega)
  have e0 : env0 8 [.own true (pen ns idx great), .shr (.list (ps.map PyData.str)), .shr (.int most)] = [some (.own true (pen ns idx great)), some (.shr (.list (ps.map PyData.str))), some (.shr (.int most)), none, none, none, none, none] := rfl
  have k1 : -4611686018427387904 ≤ r := by omega
  have k2 : r < 4611686018427387904 := by omega
  have k3 := range_len 0 r.toNat
  obtain ⟨ls, es, i3, g3, p6, p7, ih, q1, q2, q3, q4, q5⟩ := start_loop ns ps h1p hp hpg (some (.shr (.int most))) way (rangeD 0 r.toNat) ps [] i2 g2 none none (by omega) (by omega) f2 (by rw [k3]; simp; omega) hp hpg (fun e h => by cases h)
  simp only [List.length_nil, List.map_nil] at q2 ih
  have hsh := (OS.list (entries_OS q1)).shaped (by omega)
  have hne := c_neL0 hsh
  by_cases hw : way = 2
  · have t : decide (way = 2) = true := decide_eq_true hw
    cases es with
    | nil =>
      obtain ⟨es', t1, t2, t3⟩ := trimmed_good [] (by simp) (fun e h => by cases h)
      refine ⟨es', i3, g3, ?_, t2, by simp at t3; rw [t3]; simp; omega, by omega, by omega, q5⟩
      clear q1 t2 hpg hw hsh
      simp only [List.map_nil, List.isEmpty_nil] at *
      unfold m__law_start b__law_start
      rw [q_run, e0]
      walk_at "gd"
    | cons x xs =>
      generalize hE : x :: xs = E at *
      have hne2 : (E.map eD).isEmpty = false := by rw [← hE]; rfl
      have hpos : 0 < E.length := by rw [← hE]; simp
      rw [hne2] at hne
      have hlen : ((E.map eD).length : Int) = (E.length : Int) := by rw [List.length_map]
      obtain ⟨r4, i4, g4, e4, a4, b4, c4, d4, f4⟩ := draw_ok ns i3 g3 ((E.map eD).length : Int) (by omega) (by omega) q5 (by omega) (by omega)
      obtain ⟨e, he, hat⟩ := ent_at E r4 a4 (by omega)
      have hge : GoodE e := q1 e (List.mem_of_getElem? he)
      have hn : (E.map eD).length ≤ 1000000 := by rw [List.length_map]; omega
      obtain ⟨es', t1, t2, t3⟩ := trimmed_good (E ++ [e]) (by rw [List.length_append, List.length_singleton]; omega) (fun z h => by
        rcases List.mem_append.mp h with h | h
        · exact q1 z h
        · rw [List.mem_singleton.mp h]; exact hge)
      have hm : (E ++ [e]).map eD = E.map eD ++ [eD e] := by simp
      rw [hm] at t1
      rw [List.length_append, List.length_singleton] at t3
      refine ⟨es', i4, g4, ?_, t2, by omega, by omega, by omega, f4⟩
      clear q1 t2 hpg hw hsh hm hge he hne2 hpos hlen hE
      unfold m__law_start b__law_start
      rw [q_run, e0]
      walk_at "gd"
  · have t : decide (way = 2) = false := decide_eq_false hw
    obtain ⟨es', t1, t2, t3⟩ := trimmed_good es (by omega) q1
    refine ⟨es', i3, g3, ?_, t2, by omega, by omega, by omega, q5⟩
    clear q1 t2 hpg hw hsh hne
    unfold m__law_start b__law_start
    rw [q_run, e0]
    walk_at "gd"
end My

namespace My
open PySem PySem.Spec PyProof.Rows L2 GD

theorem comp_fil {A : Type} {vs : List Nat} {tg : D → En → Option En} {ft : EvT} {fe : EvE} {env : En} (F : A → D) (P : A → Prop) : ∀ (l acc : List D), acc.length + l.length ≤ 1000000 →
    (∀ d ∈ l, (∀ ds acc, acc.length ≤ 1000000 → cpG vs tg ft fe ds acc (tg d env) = compE vs tg ft fe ds acc env) ∨ ∃ z, P z ∧ ∀ ds acc, acc.length ≤ 1000000 → cpG vs tg ft fe ds acc (tg d env) = compE vs tg ft fe ds (acc ++ [F z]) env) →
    ∃ zs : List A, (∀ z ∈ zs, P z) ∧ zs.length ≤ l.length ∧ compE vs tg ft fe l acc env = some (acc ++ zs.map F, env)
  | [], acc, _, _ => ⟨[], fun z h => (by cases h), Nat.le_refl _, by simp [compE]⟩
  | d :: l, acc, hl, h => by
    simp only [List.length_cons] at hl
    rcases h d (List.mem_cons_self ..) with hc | ⟨z, hz, hc⟩
    · obtain ⟨zs, h1, h2, h3⟩ := comp_fil F P l acc (by omega) fun b hb => h b (List.mem_cons_of_mem _ hb)
      exact ⟨zs, h1, by rw [List.length_cons]; omega, by rw [q_cpc, hc _ _ (by omega), h3]⟩
    · obtain ⟨zs, h1, h2, h3⟩ := comp_fil F P l (acc ++ [F z]) (by rw [List.length_append, List.length_singleton]; omega) fun b hb => h b (List.mem_cons_of_mem _ hb)
      refine ⟨z :: zs, fun y hy => ?_, by rw [List.length_cons, List.length_cons]; omega, ?_⟩
      · rcases List.mem_cons.mp hy with rfl | hy
        · exact hz
        · exact h1 y hy
      · rw [q_cpc, hc _ _ (by omega), h3]; simp
theorem words_ok (es : List (Option Str)) (hl : es.length ≤ 200) (he : ∀ e ∈ es, GoodE e) (o0 o2 o3 o4 o5 o6 o7 o8 o9 o10 : Option Sl) :
    ∃ ws : List Str, (∀ w ∈ ws, W8 w) ∧ ws.length ≤ es.length ∧ compE [11] (gN 11) (tVal (eNotN (eVar 11))) (eGive 11) (es.map eD) [] [o0, some (.shr (.tuple (es.map eD))), o2, o3, o4, o5, o6, o7, o8, o9, o10, none]
      = some (ws.map PyData.str, [o0, some (.shr (.tuple (es.map eD))), o2, o3, o4, o5, o6, o7, o8, o9, o10, none]) := by
  obtain ⟨ws, h1, h2, h3⟩ := comp_fil (vs := [11]) (tg := gN 11) (ft := tVal (eNotN (eVar 11))) (fe := eGive 11) (env := [o0, some (.shr (.tuple (es.map eD))), o2, o3, o4, o5, o6, o7, o8, o9, o10, none]) PyData.str W8 (es.map eD) [] (by rw [List.length_map]; simp; omega) fun d hd => by
    obtain ⟨e, hem, rfl⟩ := List.mem_map.mp hd
    cases e with
    | none =>
      refine .inl fun ds acc hacc => ?_
      clear hd hem he
      simp only [eD]
      walk_at "gd"
    | some w =>
      refine .inr ⟨w, he _ hem w rfl, fun ds acc hacc => ?_⟩
      clear hd hem he
      simp only [eD]
      walk_at "gd"
  rw [List.length_map] at h2
  rw [List.nil_append] at h3
  exact ⟨ws, h1, h2, h3⟩
theorem left_ok (es : List (Option Str)) (hl : es.length ≤ 200) (o0 o2 o3 o4 o5 o6 o7 o8 o10 o11 : Option Sl) :
    ∃ ls : List Int, (∀ i ∈ ls, 0 ≤ i ∧ i < es.length) ∧ ls.length ≤ es.length ∧ compE [9] (gN 9) (tVal (eNotN (eOp dIx (eVar 1) (eVar 9)))) (eGive 9) (rangeD 0 es.length) [] [o0, some (.shr (.tuple (es.map eD))), o2, o3, o4, o5, o6, o7, o8, none, o10, o11]
      = some (ls.map PyData.int, [o0, some (.shr (.tuple (es.map eD))), o2, o3, o4, o5, o6, o7, o8, none, o10, o11]) := by
  obtain ⟨ls, h1, h2, h3⟩ := comp_fil (vs := [9]) (tg := gN 9) (ft := tVal (eNotN (eOp dIx (eVar 1) (eVar 9)))) (fe := eGive 9) (env := [o0, some (.shr (.tuple (es.map eD))), o2, o3, o4, o5, o6, o7, o8, none, o10, o11]) PyData.int (fun i => 0 ≤ i ∧ i < es.length) (rangeD 0 es.length) [] (by rw [range_len]; simp; omega) fun d hd => by
    obtain ⟨i, rfl, i0, i1⟩ := range_mem hd
    obtain ⟨e, _, hat⟩ := ent_at es i i0 i1
    cases e with
    | none =>
      refine .inl fun ds acc hacc => ?_
      clear hd
      simp only [eD] at hat
      walk_at "gd"
    | some w =>
      refine .inr ⟨i, ⟨i0, i1⟩, fun ds acc hacc => ?_⟩
      clear hd
      simp only [eD] at hat
      walk_at "gd"
  rw [range_len] at h2
  rw [List.nil_append] at h3
  exact ⟨ls, h1, h2, h3⟩
theorem ring_loop (ns : List Int) (n : Nat) (o1 o2 o3 o5 o8 o9 o10 o11 : Option Sl) : ∀ (ds : List D) (ls rs : List Int) (idx great : Int) (o7 : Option Sl), 0 ≤ idx → idx + ds.length < 1048570 → 0 ≤ great → ls.length ≤ 200 → rs.length + ds.length ≤ 200 → (∀ i ∈ ls, 0 ≤ i ∧ i < (n : Int)) → (∀ i ∈ rs, 0 ≤ i ∧ i < (n : Int)) →
    ∃ (ls' rs' : List Int) (idx' great' : Int) (o7' : Option Sl), forE (gN 7) (sIf (tVal (eOp dNe (eVar 4) (eX (xM (eLst aNil))))) (sDrop (eMt "list" gApp 6 (aCons (eMt "list" gPopAt 4 (aCons (eX (xCall m__law_draw (aCons (eVar 0) (aCons (eCa cLen (aCons (eVar 4) aNil)) aNil)))) aNil)) aNil))) sNext)
      ds [some (.own true (pen ns idx great)), o1, o2, o3, some (.own false (.l (ls.map PyData.int))), o5, some (.own false (.l (rs.map PyData.int))), o7, o8, o9, o10, o11]
      = some (.nx, [some (.own true (pen ns idx' great')), o1, o2, o3, some (.own false (.l (ls'.map PyData.int))), o5, some (.own false (.l (rs'.map PyData.int))), o7', o8, o9, o10, o11]) ∧
      (∀ i ∈ ls', 0 ≤ i ∧ i < (n : Int)) ∧ (∀ i ∈ rs', 0 ≤ i ∧ i < (n : Int)) ∧ ls'.length ≤ ls.length ∧ rs'.length ≤ rs.length + ds.length ∧ idx ≤ idx' ∧ idx' ≤ idx + ds.length ∧ 0 ≤ great'
  | [], ls, rs, idx, great, o7, h0, h1, hg, hl, hr, hls, hrs => ⟨ls, rs, idx, great, o7, rfl, hls, hrs, Nat.le_refl _, by simp, by simp, by simp, hg⟩
  | d :: ds, ls, rs, idx, great, o7, h0, h1, hg, hl, hr, hls, hrs => by
    simp only [List.length_cons] at h1 hr
    have hne := c_neL0 (shaped_ints ls)
    cases hE : ls with
    | nil =>
      obtain ⟨ls', rs', i3, g3, p7, ih, q0, q1, q2, q3, q4, q5, q6⟩ := ring_loop ns n o1 o2 o3 o5 o8 o9 o10 o11 ds [] rs idx great (some (.shr d)) h0 (by omega) hg (by simp) (by omega) (fun i h => by cases h) hrs
      refine ⟨ls', rs', i3, g3, p7, ?_, q0, q1, q2, by rw [List.length_cons]; omega, q4, by rw [List.length_cons]; omega, q6⟩
      rw [← ih]
      subst hE
      clear ih q0 q1 hls hrs
      simp only [List.map_nil, List.isEmpty_nil] at *
      walk_at "gd"
    | cons l0 lt =>
      have hlen : ((ls.map PyData.int).length : Int) = (ls.length : Int) := by rw [List.length_map]
      have hpos : 0 < ls.length := by rw [hE]; simp
      have hne2 : (ls.map PyData.int).isEmpty = false := by rw [hE]; rfl
      rw [hne2] at hne
      rw [← hE]
      obtain ⟨r2, i2, g2, e2, a2, b2, c2, d2, f2⟩ := draw_ok ns idx great ((ls.map PyData.int).length : Int) h0 (by omega) hg (by omega) (by omega)
      have hlt : r2.toNat < ls.length := by omega
      have hpop : gPopAt (.l (ls.map PyData.int)) [.int r2] = some (.l ((ls.eraseIdx r2.toNat).map PyData.int), .int ls[r2.toNat]) := by
        rw [c_popAt (d := .int ls[r2.toNat]) a2 (by rw [List.length_map]; omega) (by rw [List.length_map]; omega) (by simp [hlt])]
        rw [erase_map]
      have hw := hls ls[r2.toNat] (List.getElem_mem hlt)
      have hel := List.length_eraseIdx_le ls r2.toNat
      have hn : (rs.map PyData.int).length ≤ 1000000 := by rw [List.length_map]; omega
      obtain ⟨ls', rs', i3, g3, p7, ih, q0, q1, q2, q3, q4, q5, q6⟩ := ring_loop ns n o1 o2 o3 o5 o8 o9 o10 o11 ds (ls.eraseIdx r2.toNat) (rs ++ [ls[r2.toNat]]) i2 g2 (some (.shr d)) (by omega) (by omega) f2 (by omega) (by rw [List.length_append, List.length_singleton]; omega) (fun i h => hls i (List.mem_of_mem_eraseIdx h)) (fun i h => by
        rcases List.mem_append.mp h with h | h
        · exact hrs i h
        · rw [List.mem_singleton.mp h]; exact hw)
      rw [List.length_append, List.length_singleton] at q3
      refine ⟨ls', rs', i3, g3, p7, ?_, q0, q1, by omega, by rw [List.length_cons]; omega, by omega, by rw [List.length_cons]; omega, q6⟩
      have hm : (rs ++ [ls[r2.toNat]]).map PyData.int = rs.map PyData.int ++ [.int ls[r2.toNat]] := by simp
      rw [hm] at ih
      rw [← ih]
      clear ih hls hrs q0 q1 hm hw hlen hpos hne2 hE
      walk_at "gd"
end My

namespace My
open PySem PySem.Spec PyProof.Rows L2 GD

theorem int_at (rs : List Int) (i : Int) (h : 0 ≤ i) (h2 : i < rs.length) : ∃ r ∈ rs, atI (rs.map PyData.int) i = some (.int r) := by
  rw [c_at h (by rw [List.length_map]; exact h2)]
  have hlt : i.toNat < rs.length := by omega
  exact ⟨rs[i.toNat], List.getElem_mem hlt, by simp [hlt]⟩
theorem int_before (rs : List Int) (i : Int) (h : 0 ≤ i) (h2 : i < rs.length) : ∃ r ∈ rs, atI (rs.map PyData.int) (i - 1) = some (.int r) := by
  by_cases h0 : i = 0
  · subst h0
    have hlt : rs.length - 1 < rs.length := by omega
    refine ⟨rs[rs.length - 1], List.getElem_mem hlt, ?_⟩
    have e1 : (1 : Int) ≤ (rs.length : Int) := by omega
    have e2 : (-1 + (rs.length : Int)).toNat = rs.length - 1 := by omega
    simp [atI, ixN, e1, e2, hlt]
  · exact int_at rs (i - 1) (by omega) (by omega)
theorem set_ent (es : List (Option Str)) (i : Nat) (e : Option Str) : (es.map eD).set i (eD e) = (es.set i e).map eD := by rw [List.map_set]
theorem put_loop (o0 o2 o4 o5 o8 o9 o10 o11 : Option Sl) (fs : List (Option Str)) (hf : ∀ e ∈ fs, GoodE e) (rs : List Int) (hr : ∀ i ∈ rs, 0 ≤ i ∧ i < (fs.length : Int)) : ∀ (ds : List Int) (es : List (Option Str)) (o7 : Option Sl), (∀ i ∈ ds, 0 ≤ i ∧ i < (rs.length : Int)) → fs.length ≤ es.length → (∀ e ∈ es, GoodE e) →
    ∃ (es' : List (Option Str)) (o7' : Option Sl), forE (gN 7) (sPut gSetL 3 (eOp dIx (eVar 6) (eVar 7)) (eOp dIx (eVar 1) (eOp dIx (eVar 6) (eOp dSub (eVar 7) (eC (.int 1))))))
      (ds.map PyData.int) [o0, some (.shr (.tuple (fs.map eD))), o2, some (.own false (.l (es.map eD))), o4, o5, some (.own false (.l (rs.map PyData.int))), o7, o8, o9, o10, o11]
      = some (.nx, [o0, some (.shr (.tuple (fs.map eD))), o2, some (.own false (.l (es'.map eD))), o4, o5, some (.own false (.l (rs.map PyData.int))), o7', o8, o9, o10, o11]) ∧ es'.length = es.length ∧ (∀ e ∈ es', GoodE e)
  | [], es, o7, hd, hl, he => ⟨es, o7, rfl, rfl, he⟩
  | i :: ds, es, o7, hd, hl, he => by
    have hi := hd i (List.mem_cons_self ..)
    obtain ⟨a, ham, haa⟩ := int_at rs i hi.1 hi.2
    obtain ⟨b, hbm, hba⟩ := int_before rs i hi.1 hi.2
    have ha := hr a ham
    have hb := hr b hbm
    obtain ⟨e, hem, hea⟩ := ent_at fs b hb.1 hb.2
    have hge : GoodE e := hf e (List.mem_of_getElem? hem)
    have hset : gSetL (.l (es.map eD)) (.int a) (eD e) = some (.l ((es.set a.toNat e).map eD)) := by
      rw [c_set ha.1 (by rw [List.length_map]; omega), set_ent]
    obtain ⟨es', p7, ih, q1, q2⟩ := put_loop o0 o2 o4 o5 o8 o9 o10 o11 fs hf rs hr ds (es.set a.toNat e) (some (.shr (.int i))) (fun j h => hd j (List.mem_cons_of_mem _ h)) (by rw [List.length_set]; exact hl) (fun z hz => by
      rcases List.mem_or_eq_of_mem_set hz with h | h
      · exact he z h
      · rw [h]; exact hge)
    rw [List.length_set] at q1
    refine ⟨es', p7, ?_, q1, q2⟩
    rw [List.map_cons, ← ih]
    clear ih hf hr hd he q2 hge hem ham hbm ha hb hi hl
    walk_at "gd"
end My

namespace My
open PySem PySem.Spec PyProof.Rows L2 GD

theorem range_ints (n : Nat) : ∃ l : List Int, rangeD 0 n = l.map PyData.int ∧ ∀ i ∈ l, 0 ≤ i ∧ i < (n : Int) := by
  refine ⟨(List.range n).map fun i : Nat => (0 + (i : Int)), by simp [rangeD], fun i h => ?_⟩
  obtain ⟨j, hj, rfl⟩ := List.mem_map.mp h
  have := List.mem_range.mp hj
  omega
theorem goal_turn (M : FnS) (RB PB : EvS) (P0 P1 P2 : Mu) (o1 o2 o8 o9 o10 o11 o5 o6 o7 p7 p7' : Option Sl) (E3 E4 E3' E4' E6 : List D) (r1 : Int) (n : Nat) (d : D) (ds : List D)
    (e1 : M [.own true P0, .shr (.int 5)] = some (.val (.int r1), [some P1, none])) (k1 : -4611686018427387904 ≤ r1) (k2 : r1 < 4611686018427387904)
    (ih1 : forE (gN 7) RB (rangeD 0 r1.toNat) [some (.own true P1), o1, o2, some (.own false (.l E3)), some (.own false (.l E4)), some (.shr d), some (.own false (.l [])), o7, o8, o9, o10, o11] = some (.nx, [some (.own true P2), o1, o2, some (.own false (.l E3)), some (.own false (.l E4')), some (.shr d), some (.own false (.l E6)), p7, o8, o9, o10, o11]))
    (m1 : ((E6.length : Nat) : Int).toNat = n) (m2 : -4611686018427387904 ≤ ((E6.length : Nat) : Int)) (m3 : ((E6.length : Nat) : Int) < 4611686018427387904)
    (ih2 : forE (gN 7) PB (rangeD 0 n) [some (.own true P2), o1, o2, some (.own false (.l E3)), some (.own false (.l E4')), some (.shr d), some (.own false (.l E6)), p7, o8, o9, o10, o11] = some (.nx, [some (.own true P2), o1, o2, some (.own false (.l E3')), some (.own false (.l E4')), some (.shr d), some (.own false (.l E6)), p7', o8, o9, o10, o11])) :
    forE (gN 5) (sSeq (sSetX 6 (xM (eLst aNil))) (sSeq (sFor (wRng1 (aCons (eX (xCall M (aCons (eVar 0) (aCons (eC (.int 5)) aNil)))) aNil)) (gN 7) RB) (sFor (wRng1 (aCons (eCa cLen (aCons (eVar 6) aNil)) aNil)) (gN 7) PB))) (d :: ds) [some (.own true P0), o1, o2, some (.own false (.l E3)), some (.own false (.l E4)), o5, o6, o7, o8, o9, o10, o11]
    = forE (gN 5) (sSeq (sSetX 6 (xM (eLst aNil))) (sSeq (sFor (wRng1 (aCons (eX (xCall M (aCons (eVar 0) (aCons (eC (.int 5)) aNil)))) aNil)) (gN 7) RB) (sFor (wRng1 (aCons (eCa cLen (aCons (eVar 6) aNil)) aNil)) (gN 7) PB))) ds [some (.own true P2), o1, o2, some (.own false (.l E3')), some (.own false (.l E4')), some (.shr d), some (.own false (.l E6)), p7', o8, o9, o10, o11] := by
  walk_at "gd"
theorem goal_step (ns : List Int) (fs : List (Option Str)) (hf : ∀ e ∈ fs, GoodE e) (o2 o8 o9 o10 o11 : Option Sl) (d : D) (ds : List D) (ls : List Int) (es : List (Option Str)) (idx great : Int) (o5 o6 o7 : Option Sl) (h0 : 0 ≤ idx) (h1 : idx + 6 < 1048000) (hg : 0 ≤ great) (hl : ls.length ≤ 150) (hls : ∀ i ∈ ls, 0 ≤ i ∧ i < (fs.length : Int)) (hel : fs.length ≤ es.length) (he : ∀ e ∈ es, GoodE e) (BODY : EvS)
    (hB : BODY = (sSeq (sSetX 6 (xM (eLst aNil)))
      (sSeq (sFor (wRng1 (aCons (eX (xCall m__law_draw (aCons (eVar 0) (aCons (eC (.int 5)) aNil)))) aNil)) (gN 7) (sIf (tVal (eOp dNe (eVar 4) (eX (xM (eLst aNil))))) (sDrop (eMt "list" gApp 6 (aCons (eMt "list" gPopAt 4 (aCons (eX (xCall m__law_draw (aCons (eVar 0) (aCons (eCa cLen (aCons (eVar 4) aNil)) aNil)))) aNil)) aNil))) sNext))
      (sFor (wRng1 (aCons (eCa cLen (aCons (eVar 6) aNil)) aNil)) (gN 7) (sPut gSetL 3 (eOp dIx (eVar 6) (eVar 7)) (eOp dIx (eVar 1) (eOp dIx (eVar 6) (eOp dSub (eVar 7) (eC (.int 1)))))))))) :
    ∃ (ls' : List Int) (es' : List (Option Str)) (idx' great' : Int) (o6' o7' : Option Sl), forE (gN 5) BODY
      (d :: ds) [some (.own true (pen ns idx great)), some (.shr (.tuple (fs.map eD))), o2, some (.own false (.l (es.map eD))), some (.own false (.l (ls.map PyData.int))), o5, o6, o7, o8, o9, o10, o11]
      = forE (gN 5) BODY ds [some (.own true (pen ns idx' great')), some (.shr (.tuple (fs.map eD))), o2, some (.own false (.l (es'.map eD))), some (.own false (.l (ls'.map PyData.int))), some (.shr d), o6', o7', o8, o9, o10, o11] ∧
      es'.length = es.length ∧ (∀ e ∈ es', GoodE e) ∧ idx ≤ idx' ∧ idx' ≤ idx + 6 ∧ 0 ≤ great' ∧ ls'.length ≤ 150 ∧ (∀ i ∈ ls', 0 ≤ i ∧ i < (fs.length : Int)) := by
    obtain ⟨r1, i1, g1, e1, a1, b1, c1, d1, f1⟩ := draw_ok ns idx great 5 h0 (by omega) hg (by omega) (by omega)
    have k3 := range_len 0 r1.toNat
    have k1 : -4611686018427387904 ≤ r1 := by omega
    have k2 : r1 < 4611686018427387904 := by omega
    obtain ⟨ls', rs', i2, g2, p7, ih1, q0, q1, q2, q3, q4, q5, q6⟩ := ring_loop ns fs.length (some (.shr (.tuple (fs.map eD)))) o2 (some (.own false (.l (es.map eD)))) (some (.shr d)) o8 o9 o10 o11 (rangeD 0 r1.toNat) ls [] i1 g1 o7 (by omega) (by omega) f1 (by omega) (by rw [k3]; simp; omega) hls (fun i h => by cases h)
    simp only [List.length_nil, List.map_nil] at q3 ih1
    obtain ⟨il, hil, hilm⟩ := range_ints rs'.length
    obtain ⟨es', p7', ih2, u1, u2⟩ := put_loop (some (.own true (pen ns i2 g2))) o2 (some (.own false (.l (ls'.map PyData.int)))) (some (.shr d)) o8 o9 o10 o11 fs hf rs' q1 il es p7 hilm hel he
    have m1 : (((rs'.map PyData.int).length : Nat) : Int).toNat = rs'.length := by rw [List.length_map]; omega
    have m2 : -4611686018427387904 ≤ (((rs'.map PyData.int).length : Nat) : Int) := by omega
    have m3 : (((rs'.map PyData.int).length : Nat) : Int) < 4611686018427387904 := by rw [List.length_map]; omega
    refine ⟨ls', es', i2, g2, some (.own false (.l (rs'.map PyData.int))), p7', ?_, u1, u2, by omega, by omega, q6, by omega, q0⟩
    rw [hB]
    rw [← hil] at ih2
    exact goal_turn m__law_draw _ _ _ _ _ _ _ _ _ _ _ _ _ _ _ _ _ _ _ _ _ r1 rs'.length d ds e1 k1 k2 ih1 m1 m2 m3 ih2
theorem goal_loop (ns : List Int) (fs : List (Option Str)) (hf : ∀ e ∈ fs, GoodE e) (o2 o8 o9 o10 o11 : Option Sl) (BODY : EvS)
    (hB : BODY = (sSeq (sSetX 6 (xM (eLst aNil)))
      (sSeq (sFor (wRng1 (aCons (eX (xCall m__law_draw (aCons (eVar 0) (aCons (eC (.int 5)) aNil)))) aNil)) (gN 7) (sIf (tVal (eOp dNe (eVar 4) (eX (xM (eLst aNil))))) (sDrop (eMt "list" gApp 6 (aCons (eMt "list" gPopAt 4 (aCons (eX (xCall m__law_draw (aCons (eVar 0) (aCons (eCa cLen (aCons (eVar 4) aNil)) aNil)))) aNil)) aNil))) sNext))
      (sFor (wRng1 (aCons (eCa cLen (aCons (eVar 6) aNil)) aNil)) (gN 7) (sPut gSetL 3 (eOp dIx (eVar 6) (eVar 7)) (eOp dIx (eVar 1) (eOp dIx (eVar 6) (eOp dSub (eVar 7) (eC (.int 1)))))))))) : ∀ (ds : List D) (ls : List Int) (es : List (Option Str)) (idx great : Int) (o5 o6 o7 : Option Sl), 0 ≤ idx → idx + 6 * ds.length < 1048000 → 0 ≤ great → ls.length ≤ 150 → (∀ i ∈ ls, 0 ≤ i ∧ i < (fs.length : Int)) → fs.length ≤ es.length → (∀ e ∈ es, GoodE e) →
    ∃ (ls' : List Int) (es' : List (Option Str)) (idx' great' : Int) (o5' o6' o7' : Option Sl), forE (gN 5) BODY
      ds [some (.own true (pen ns idx great)), some (.shr (.tuple (fs.map eD))), o2, some (.own false (.l (es.map eD))), some (.own false (.l (ls.map PyData.int))), o5, o6, o7, o8, o9, o10, o11]
      = some (.nx, [some (.own true (pen ns idx' great')), some (.shr (.tuple (fs.map eD))), o2, some (.own false (.l (es'.map eD))), some (.own false (.l (ls'.map PyData.int))), o5', o6', o7', o8, o9, o10, o11]) ∧
      es'.length = es.length ∧ (∀ e ∈ es', GoodE e) ∧ idx ≤ idx' ∧ idx' ≤ idx + 6 * ds.length ∧ 0 ≤ great' := by
  intro ds
  induction ds with
  | nil => exact fun ls es idx great o5 o6 o7 h0 h1 hg hl hls hel he => ⟨ls, es, idx, great, o5, o6, o7, rfl, rfl, he, by simp, by simp, hg⟩
  | cons d ds rec =>
    intro ls es idx great o5 o6 o7 h0 h1 hg hl hls hel he
    simp only [List.length_cons] at h1
    obtain ⟨ls', es', i2, g2, p6, p7, e1, u1, u2, u3, u4, u5, u6, u7⟩ := goal_step ns fs hf o2 o8 o9 o10 o11 d ds ls es idx great o5 o6 o7 h0 (by omega) hg hl hls hel he BODY hB
    obtain ⟨ls2, es2, i3, g3, p5, p6', p7', ih, v1, v2, v3, v4, v5⟩ := rec ls' es' i2 g2 (some (.shr d)) p6 p7 (by omega) (by omega) u5 u6 u7 (by omega) u2
    exact ⟨ls2, es2, i3, g3, p5, p6', p7', e1.trans ih, by omega, v2, by omega, by rw [List.length_cons]; omega, v5⟩
theorem last_loop (ns : List Int) (ws : List Str) (hwl : ws.length ≤ 200) (hw : ∀ w ∈ ws, W8 w) (rare : Int) (hr0 : 0 < rare) (hr1 : rare < 100) (o1 o4 o5 o6 o7 o11 : Option Sl) (n : Nat) : ∀ (ds : List Int) (es : List (Option Str)) (idx great : Int) (o9 o10 : Option Sl), 0 ≤ idx → idx + 3 * ds.length < 1048000 → 0 ≤ great → (∀ i ∈ ds, 0 ≤ i ∧ i < (n : Int)) → es.length = n → (∀ e ∈ es, GoodE e) →
    ∃ (es' : List (Option Str)) (idx' great' : Int) (o9' o10' : Option Sl), forE (gN 9) (sIf (tfAnd (tVal (eOp dNe (eVar 2) (eX (xM (eLst aNil))))) (tVal (eOp dEq (eX (xCall m__law_draw (aCons (eVar 0) (aCons (eGive 8) aNil)))) (eC (.int 0))))) (sSeq (sSetX 10 (xE (eOp dIx (eVar 2) (eX (xCall m__law_draw (aCons (eVar 0) (aCons (eCa cLen (aCons (eVar 2) aNil)) aNil)))))))
      (sPut gSetL 3 (eVar 9) (eOp dIx (eX (xM (eLst (aCons (eC .none) (aCons (eGive 10) aNil))))) (eX (xCall m__law_draw (aCons (eVar 0) (aCons (eC (.int 2)) aNil))))))) sNext)
      (ds.map PyData.int) [some (.own true (pen ns idx great)), o1, some (.own false (.l (ws.map PyData.str))), some (.own false (.l (es.map eD))), o4, o5, o6, o7, some (.shr (.int rare)), o9, o10, o11]
      = some (.nx, [some (.own true (pen ns idx' great')), o1, some (.own false (.l (ws.map PyData.str))), some (.own false (.l (es'.map eD))), o4, o5, o6, o7, some (.shr (.int rare)), o9', o10', o11]) ∧
      es'.length = n ∧ (∀ e ∈ es', GoodE e) ∧ idx ≤ idx' ∧ idx' ≤ idx + 3 * ds.length ∧ 0 ≤ great'
  | [], es, idx, great, o9, o10, h0, h1, hg, hd, hn, he => ⟨es, idx, great, o9, o10, rfl, hn, he, by simp, by simp, hg⟩
  | i :: ds, es, idx, great, o9, o10, h0, h1, hg, hd, hn, he => by
    simp only [List.length_cons] at h1
    have hi := hd i (List.mem_cons_self ..)
    have hd2 : ∀ j ∈ ds, 0 ≤ j ∧ j < (n : Int) := fun j h => hd j (List.mem_cons_of_mem _ h)
    have hne := c_neL0 (shaped_strs ws fun l h => (hw l h).2)
    by_cases hE : ws = []
    · have hne2 : (ws.map PyData.str).isEmpty = true := by rw [hE]; rfl
      rw [hne2] at hne
      obtain ⟨es', i3, g3, p9, p10, ih, q1, q2, q3, q4, q5⟩ := last_loop ns ws hwl hw rare hr0 hr1 o1 o4 o5 o6 o7 o11 n ds es idx great (some (.shr (.int i))) o10 h0 (by omega) hg hd2 hn he
      refine ⟨es', i3, g3, p9, p10, ?_, q1, q2, q3, by rw [List.length_cons]; omega, q5⟩
      rw [List.map_cons, ← ih]
      clear ih he hw hd hd2 q2 hne2 hE
      walk_at "gd"
    · have hne2 : (ws.map PyData.str).isEmpty = false := by cases ws <;> simp_all
      rw [hne2] at hne
      have hpos : 0 < ws.length := by cases ws <;> simp_all
      obtain ⟨r1, i1, g1, e1, a1, b1, c1, d1, f1⟩ := draw_ok ns idx great rare h0 (by omega) hg hr0 (by omega)
      by_cases hz : r1 = 0
      · have t : decide (r1 = 0) = true := decide_eq_true hz
        have hlen : ((ws.map PyData.str).length : Int) = (ws.length : Int) := by rw [List.length_map]
        obtain ⟨r2, i2, g2, e2, a2, b2, c2, d2, f2⟩ := draw_ok ns i1 g1 ((ws.map PyData.str).length : Int) (by omega) (by omega) f1 (by omega) (by omega)
        obtain ⟨r3, i3, g3, e3, a3, b3, c3, d3, f3⟩ := draw_ok ns i2 g2 2 (by omega) (by omega) f2 (by omega) (by omega)
        obtain ⟨w, hwm, hat⟩ := str_at ws r2 a2 (by omega)
        have hx : ∃ e, GoodE e ∧ atI [PyData.none, .str w] r3 = some (eD e) := by
          have : r3 = 0 ∨ r3 = 1 := by omega
          rcases this with h | h <;> subst h
          · exact ⟨none, fun w hw => (by cases hw), rfl⟩
          · exact ⟨some w, fun w' hw' => (by cases hw'; exact hw w hwm), rfl⟩
        obtain ⟨e, hge, hae⟩ := hx
        have hset : gSetL (.l (es.map eD)) (.int i) (eD e) = some (.l ((es.set i.toNat e).map eD)) := by
          rw [c_set hi.1 (by rw [List.length_map]; omega), set_ent]
        obtain ⟨es', i4, g4, p9, p10, ih, q1, q2, q3, q4, q5⟩ := last_loop ns ws hwl hw rare hr0 hr1 o1 o4 o5 o6 o7 o11 n ds (es.set i.toNat e) i3 g3 (some (.shr (.int i))) (some (.shr (.str w))) (by omega) (by omega) f3 hd2 (by rw [List.length_set]; exact hn) (fun z hz => by
          rcases List.mem_or_eq_of_mem_set hz with h | h
          · exact he z h
          · rw [h]; exact hge)
        refine ⟨es', i4, g4, p9, p10, ?_, q1, q2, by omega, by rw [List.length_cons]; omega, q5⟩
        rw [List.map_cons, ← ih]
        clear ih he hw hd hd2 q2 hne2 hE hge hwm hi hz hpos hlen
        walk_at "gd"
      · have t : decide (r1 = 0) = false := decide_eq_false hz
        obtain ⟨es', i4, g4, p9, p10, ih, q1, q2, q3, q4, q5⟩ := last_loop ns ws hwl hw rare hr0 hr1 o1 o4 o5 o6 o7 o11 n ds es i1 g1 (some (.shr (.int i))) o10 (by omega) (by omega) f1 hd2 hn he
        refine ⟨es', i4, g4, p9, p10, ?_, q1, q2, by omega, by rw [List.length_cons]; omega, q5⟩
        rw [List.map_cons, ← ih]
        clear ih he hw hd hd2 q2 hne2 hE hz hpos
        walk_at "gd"
termination_by ds => ds.length
end My

namespace My
open PySem PySem.Spec PyProof.Rows L2 GD

theorem rep_none (n : Nat) : repD n [PyData.none] = (List.replicate n (none : Option Str)).map eD := by
  unfold repD
  rw [List.map_replicate]
  induction n with
  | zero => rfl
  | succ n ih => rw [List.replicate_succ, List.flatten_cons, ih, List.replicate_succ]; rfl
theorem goal_ok (ns : List Int) (fs : List (Option Str)) (hfl : fs.length ≤ 110) (hf : ∀ e ∈ fs, GoodE e) (idx great : Int) (h0 : 0 ≤ idx) (h1 : idx + 500 < 1048000) (hg : 0 ≤ great) :
    ∃ (es : List (Option Str)) (idx' great' : Int), m__law_goal [.own true (pen ns idx great), .shr (.tuple (fs.map eD))] = some (.val (.tuple (es.map eD)), [some (pen ns idx' great'), none]) ∧ (∀ e ∈ es, GoodE e) ∧ es.length ≤ fs.length + 3 ∧ idx ≤ idx' ∧ idx' ≤ idx + 400 ∧ 0 ≤ great' := by
  have e0 : env0 12 [.own true (pen ns idx great), .shr (.tuple (fs.map eD))] = [some (.own true (pen ns idx great)), some (.shr (.tuple (fs.map eD))), none, none, none, none, none, none, none, none, none, none] := rfl
  obtain ⟨ws, w1, w2, w3⟩ := words_ok fs (by omega) hf (some (.own true (pen ns idx great))) none none none none none none none none none
  obtain ⟨r1, i1, g1, e1, a1, b1, c1, d1, f1⟩ := draw_ok ns idx great 4 h0 (by omega) hg (by omega) (by omega)
  have hmul := c_mulX (ds := [PyData.none]) (k := r1) (by omega) (by omega) (by simp; omega)
  rw [rep_none] at hmul
  have hcat : fs.map eD ++ (List.replicate r1.toNat (none : Option Str)).map eD = (fs ++ List.replicate r1.toNat none).map eD := by rw [List.map_append]
  have hcl : (fs.map eD).length + ((List.replicate r1.toNat (none : Option Str)).map eD).length ≤ 1000000 := by simp; omega
  generalize hE : fs ++ List.replicate r1.toNat none = E at *
  have hEl : E.length = fs.length + r1.toNat := by rw [← hE]; simp
  have hEg : ∀ e ∈ E, GoodE e := by
    intro e he
    rw [← hE] at he
    rcases List.mem_append.mp he with h | h
    · exact hf e h
    · rw [(List.mem_replicate.mp h).2]; exact fun w hw => by cases hw
  obtain ⟨ls, l1, l2, l3⟩ := left_ok fs (by omega) (some (.own true (pen ns i1 g1))) (some (.own false (.l (ws.map PyData.str)))) (some (.own false (.l (E.map eD)))) none none none none none none none
  have hfn : (((fs.map eD).length : Nat) : Int).toNat = fs.length := by rw [List.length_map]; omega
  have hf1 : -4611686018427387904 ≤ (((fs.map eD).length : Nat) : Int) := by omega
  have hf2 : (((fs.map eD).length : Nat) : Int) < 4611686018427387904 := by rw [List.length_map]; omega
  obtain ⟨r2, i2, g2, e2, a2, b2, c2, d2, f2⟩ := draw_ok ns i1 g1 3 (by omega) (by omega) f1 (by omega) (by omega)
  have k1 : -4611686018427387904 ≤ 1 + r2 := by omega
  have k2 : 1 + r2 < 4611686018427387904 := by omega
  have k3 := range_len 0 (1 + r2).toNat
  obtain ⟨ls2, E2, i3, g3, p5, p6, p7, ih1, q1, q2, q3, q4, q5⟩ := goal_loop ns fs hf (some (.own false (.l (ws.map PyData.str)))) none none none none _ rfl (rangeD 0 (1 + r2).toNat) ls E i2 g2 none none none (by omega) (by rw [k3]; omega) f2 (by omega) l1 (by omega) hEg
  rw [k3] at q4
  obtain ⟨r3, i4, g4, e3, a3, b3, c3, d3, f3⟩ := draw_ok ns i3 g3 7 (by omega) (by omega) q5 (by omega) (by omega)
  obtain ⟨il, hil, hilm⟩ := range_ints E2.length
  have hel2 : il.length = E2.length := by
    have := congrArg List.length hil
    rw [range_len, List.length_map] at this
    exact this.symm
  obtain ⟨E3, i5, g5, p9, p10, ih2, s1, s2, s3, s4, s5⟩ := last_loop ns ws (by omega) w1 (2 + r3) (by omega) (by omega) (some (.shr (.tuple (fs.map eD)))) (some (.own false (.l (ls2.map PyData.int)))) p5 p6 p7 none E2.length il E2 i4 g4 none none (by omega) (by omega) f3 hilm rfl q2
  rw [← hil] at ih2
  have m1 : (((E2.map eD).length : Nat) : Int).toNat = E2.length := by rw [List.length_map]; omega
  have m2 : -4611686018427387904 ≤ (((E2.map eD).length : Nat) : Int) := by omega
  have m3 : (((E2.map eD).length : Nat) : Int) < 4611686018427387904 := by rw [List.length_map]; omega
  obtain ⟨es, t1, t2, t3⟩ := trimmed_good E3 (by omega) s2
  refine ⟨es, i5, g5, ?_, t2, by omega, by omega, by omega, s5⟩
  clear w1 l1 hEg q2 s2 hilm t2 hf hE hil q1 hEl hel2 s1 k3
  unfold m__law_goal b__law_goal
  rw [q_run, e0]
  walk_at "gd"
end My

namespace My
open PySem PySem.Spec PyProof.Rows L2 GD

def NM (w : Str) : Prop := 1 ≤ w.length ∧ w.length ≤ 8 ∧ ∀ c ∈ TL.tl w, 97 ≤ c ∧ c ≤ 122
theorem NM.w8 {w : Str} (h : NM w) : W8 w := ⟨h.2.1, fun c hc => by have := h.2.2 c hc; omega⟩
theorem abc_nm0 : ∀ i : Nat, i < 26 → (match atI abc.cps.toList (i : Int) with | some c => decide (97 ≤ c ∧ c ≤ 122) | none => false) = true := by decide +kernel
theorem abc_nm (i : Int) (h : 0 ≤ i) (h2 : i < 26) : ∃ y : Str, dIx (.str abc) (.int i) = some (.str y) ∧ y.length = 1 ∧ ∀ c ∈ TL.tl y, 97 ≤ c ∧ c ≤ 122 := by
  have e := abc_nm0 i.toNat (by omega)
  rw [show ((i.toNat : Nat) : Int) = i by omega] at e
  rw [c_ixS (by decide)]
  cases g : atI abc.cps.toList i with
  | none => rw [g] at e; cases e
  | some c =>
    rw [g] at e
    refine ⟨⟨#[c]⟩, rfl, rfl, fun d hd => ?_⟩
    have : d = c := List.mem_singleton.mp hd
    subst this
    exact of_decide_eq_true e
theorem rep_mem (a : Str) (k : Int) : ∀ c ∈ TL.tl (strRep a k), c ∈ TL.tl a := by
  intro c hc
  unfold strRep at hc
  split at hc
  · exact hc
  · have g : ∀ (n : Nat) (b : Array Nat), c ∈ ((List.replicate n a.cps).foldl (· ++ ·) b).toList → c ∈ b.toList ∨ c ∈ a.cps.toList := by
      intro n
      induction n with
      | zero => exact fun b h => .inl h
      | succ n ih =>
        intro b h
        rw [List.replicate_succ, List.foldl_cons] at h
        rcases ih _ h with h | h
        · rw [Array.toList_append] at h
          exact List.mem_append.mp h
        · exact .inr h
    rcases g k.toNat #[] hc with h | h
    · cases h
    · exact h
theorem rep_len1 (a : Str) (k : Int) (h : 1 ≤ k) (ha : 1 ≤ a.length) : 1 ≤ (strRep a k).length := by
  unfold strRep
  have hlen : ∀ (n : Nat) (b : Array Nat), ((List.replicate n a.cps).foldl (· ++ ·) b).size = b.size + n * a.cps.size := by
    intro n
    induction n with
    | zero => intro b; simp
    | succ n ih => intro b; rw [List.replicate_succ, List.foldl_cons, ih, Array.size_append, Nat.succ_mul]; omega
  split
  · exact ha
  · have e := hlen k.toNat #[]
    show 1 ≤ ((List.replicate k.toNat a.cps).foldl (· ++ ·) #[]).size
    rw [e]
    have : 1 * 1 ≤ k.toNat * a.cps.size := Nat.mul_le_mul (by omega) ha
    simp only [List.size_toArray, List.length_nil]
    omega
theorem pool_nm (ns : List Int) (idx great m : Int) (h0 : 0 ≤ idx) (h1 : idx + 2 < 1048570) (hg : 0 ≤ great) (hm : 1 ≤ m) (hm2 : m ≤ 20) :
    ∃ (ps : List Str) (idx' great' : Int), m__law_pool [.own true (pen ns idx great), .shr (.int m)] = some (.new (.l (ps.map PyData.str)), [some (pen ns idx' great'), none]) ∧ (∀ p ∈ ps, NM p) ∧ (ps.length : Int) = m ∧ idx ≤ idx' ∧ idx' ≤ idx + 2 ∧ 0 ≤ great' := by
  obtain ⟨r1, i1, g1, e1, a1, b1, c1, d1, f1⟩ := draw_ok ns idx great 3 h0 (by omega) hg (by omega) (by omega)
  obtain ⟨r2, i2, g2, e2, a2, b2, c2, d2, f2⟩ := draw_ok ns i1 g1 26 (by omega) (by omega) f1 (by omega) (by omega)
  have e0 : env0 8 [.own true (pen ns idx great), .shr (.int m)] = [some (.own true (pen ns idx great)), some (.shr (.int m)), none, none, none, none, none, none] := rfl
  have k1 : -4611686018427387904 ≤ m := by omega
  have k2 : m < 4611686018427387904 := by omega
  have k3 := range_len 0 m.toNat
  obtain ⟨ps, q1, q2, q3⟩ := comp_ex (vs := [6]) (tg := gN 6) (ft := tYesE) (fe := eOp dIx (eVar 2) (eOp dMod (eX (xOp dAddX (eVar 4) (eOp dMul (eC (.int 5)) (eVar 6)))) (eC (.int 26))))
    (env := [some (.own true (pen ns i2 g2)), some (.shr (.int m)), some (.shr (.str abc)), some (.shr (.int r1)), some (.shr (.int r2)), none, none, none]) PyData.str (fun y => y.length = 1 ∧ ∀ c ∈ TL.tl y, 97 ≤ c ∧ c ≤ 122) (rangeD 0 m.toNat) [] (by rw [k3]; simp; omega) fun d hd => by
      obtain ⟨i, rfl, _, _⟩ := range_mem hd
      obtain ⟨y, hy, hy1, hy2⟩ := abc_nm ((r2 + 5 * i) % 26) (by omega) (by omega)
      refine ⟨y, ⟨hy1, hy2⟩, fun ds acc hacc => ?_⟩
      clear hd hy2
      walk_at "gd"
  rw [List.nil_append] at q3
  obtain ⟨y7, hy7, hl7, hs7⟩ := abc_nm r2 a2 b2
  have hps : (ps.length : Int) = m := by omega
  by_cases w1 : r1 = 1
  · have t1 : decide (r1 = 1) = true := decide_eq_true w1
    obtain ⟨zs, z1, z2, z3⟩ := comp_ex (vs := [7]) (tg := gN 7) (ft := tYesE) (fe := eX (xOp dAddX (eOp dMulS (eOp dIx (eVar 2) (eVar 4)) (eC (.int 7))) (eVar 7)))
      (env := [some (.own true (pen ns i2 g2)), some (.shr (.int m)), some (.shr (.str abc)), some (.shr (.int r1)), some (.shr (.int r2)), some (.shr (.list (ps.map PyData.str))), none, none]) PyData.str NM (ps.map PyData.str) [] (by rw [List.length_map]; simp; omega) fun d hd => by
        obtain ⟨p, hp, rfl⟩ := List.mem_map.mp hd
        have hp1 := (q1 p hp).1
        have hp2 := (q1 p hp).2
        have r7 := rep_len y7 7 (by omega)
        have r71 := rep_len1 y7 7 (by omega) (by omega)
        have hr : (strRep y7 7).length + p.length ≤ 8 := by
          rw [hl7] at r7
          have : (7 : Int).toNat * 1 = 7 := by decide
          omega
        have hadd := c_addS (x := strRep y7 7) (y := p) (by omega)
        have hmul := c_mulS (a := y7) (k := 7) (by omega) (by omega) (by omega)
        refine ⟨strRep y7 7 ++ p, ⟨by rw [len_app]; omega, by rw [len_app]; omega, fun c hc => ?_⟩, fun ds acc hacc => ?_⟩
        · rw [TL.tl_append] at hc
          rcases List.mem_append.mp hc with h | h
          · exact hs7 c (rep_mem _ _ c h)
          · exact hp2 c h
        · clear hd q1 hp2 hs7
          walk_at "gd"
    rw [List.nil_append] at z3
    rw [List.length_map] at z2
    refine ⟨zs, i2, g2, ?_, z1, by omega, by omega, by omega, f2⟩
    clear q1 z1 w1 hs7
    unfold abc at *
    unfold m__law_pool b__law_pool
    rw [q_run, e0]
    walk_at "gd"
  · have t1 : decide (r1 = 1) = false := decide_eq_false w1
    by_cases w2 : r1 = 2
    · have t2 : decide (r1 = 2) = true := decide_eq_true w2
      obtain ⟨zs, z1, z2, z3⟩ := comp_ex (vs := [6]) (tg := gN 6) (ft := tYesE) (fe := eOp dMulS (eOp dIx (eVar 5) (eVar 6)) (eX (xOp dAddX (eC (.int 1)) (eOp dMod (eVar 6) (eC (.int 8))))))
        (env := [some (.own true (pen ns i2 g2)), some (.shr (.int m)), some (.shr (.str abc)), some (.shr (.int r1)), some (.shr (.int r2)), some (.own false (.l (ps.map PyData.str))), none, none]) PyData.str NM (rangeD 0 m.toNat) [] (by rw [k3]; simp; omega) fun d hd => by
          obtain ⟨i, rfl, i0, i1⟩ := range_mem hd
          obtain ⟨p, hp, hat⟩ := str_at ps i i0 (by omega)
          have hp1 := (q1 p hp).1
          have hp2 := (q1 p hp).2
          have hr := rep_len p (1 + i % 8) (by omega)
          have hr1 := rep_len1 p (1 + i % 8) (by omega) (by omega)
          have hmul := c_mulS (a := p) (k := 1 + i % 8) (by omega) (by omega) (by omega)
          rw [hp1] at hr
          refine ⟨strRep p (1 + i % 8), ⟨hr1, by omega, fun c hc => hp2 c (rep_mem _ _ c hc)⟩, fun ds acc hacc => ?_⟩
          clear hd q1 hp2 hs7
          walk_at "gd"
      rw [List.nil_append] at z3
      refine ⟨zs, i2, g2, ?_, z1, by omega, by omega, by omega, f2⟩
      clear q1 z1 w1 w2 hs7
      unfold abc at *
      unfold m__law_pool b__law_pool
      rw [q_run, e0]
      walk_at "gd"
    · have t2 : decide (r1 = 2) = false := decide_eq_false w2
      refine ⟨ps, i2, g2, ?_, fun p hp => ⟨by have := (q1 p hp).1; omega, by have := (q1 p hp).1; omega, (q1 p hp).2⟩, by omega, by omega, by omega, f2⟩
      clear q1 w1 w2 hs7
      unfold abc at *
      unfold m__law_pool b__law_pool
      rw [q_run, e0]
      walk_at "gd"
theorem pair_ok (ns : List Int) (idx great : Int) (h0 : 0 ≤ idx) (h1 : idx + 1200 < 1048000) (hg : 0 ≤ great) :
    ∃ (fs es : List (Option Str)) (idx' great' : Int), m__law_pair [.own true (pen ns idx great), .shr (.int 17)] = some (.val (.tuple [.tuple (fs.map eD), .tuple (es.map eD)]), [some (pen ns idx' great'), none]) ∧ (∀ e ∈ fs, GoodE e) ∧ (∀ e ∈ es, GoodE e) ∧ fs.length ≤ 18 ∧ es.length ≤ 21 ∧ idx ≤ idx' ∧ idx' ≤ idx + 1000 ∧ 0 ≤ great' := by
  have e0 : env0 4 [.own true (pen ns idx great), .shr (.int 17)] = [some (.own true (pen ns idx great)), some (.shr (.int 17)), none, none] := rfl
  obtain ⟨r1, i1, g1, e1, a1, b1, c1, d1, f1⟩ := draw_ok ns idx great 12 h0 (by omega) hg (by omega) (by omega)
  obtain ⟨ps, i2, g2, e2, a2, b2, c2, d2, f2⟩ := pool_nm ns i1 g1 (1 + r1) (by omega) (by omega) f1 (by omega) (by omega)
  have hw : ∀ p ∈ ps, W8 p := fun p hp => (a2 p hp).w8
  obtain ⟨fs, i3, g3, e3, a3, b3, c3, d3, f3⟩ := start_ok ns ps (by omega) (by omega) hw 17 (by omega) (by omega) i2 g2 (by omega) (by omega) f2
  obtain ⟨r4, i4, g4, e4, a4, b4, c4, d4, f4⟩ := draw_ok ns i3 g3 6 (by omega) (by omega) f3 (by omega) (by omega)
  by_cases hz : r4 = 0
  · have t : decide (r4 = 0) = true := decide_eq_true hz
    obtain ⟨es, i5, g5, e5, a5, b5, c5, d5, f5⟩ := start_ok ns ps (by omega) (by omega) hw 17 (by omega) (by omega) i4 g4 (by omega) (by omega) f4
    refine ⟨fs, es, i5, g5, ?_, a3, a5, by omega, by omega, by omega, by omega, f5⟩
    clear a2 hw a3 a5 hz
    unfold m__law_pair b__law_pair
    rw [q_run, e0]
    walk_at "gd"
  · have t : decide (r4 = 0) = false := decide_eq_false hz
    obtain ⟨es, i5, g5, e5, a5, b5, c5, d5, f5⟩ := goal_ok ns fs (by omega) a3 i4 g4 (by omega) (by omega) f4
    refine ⟨fs, es, i5, g5, ?_, a3, a5, by omega, by omega, by omega, by omega, f5⟩
    clear a2 hw a3 a5 hz
    unfold m__law_pair b__law_pair
    rw [q_run, e0]
    walk_at "gd"
end My

namespace My
open PySem PySem.Spec PyProof.Rows L2 GD

theorem comp_flt {A : Type} {vs : List Nat} {tg : D → En → Option En} {ft : EvT} {fe : EvE} {env : En} (f F : A → D) (t : A → Bool) : ∀ (l : List A) (acc : List D), acc.length + l.length ≤ 1000000 →
    (∀ a ∈ l, ∀ ds acc, acc.length ≤ 1000000 → cpG vs tg ft fe ds acc (tg (f a) env) = compE vs tg ft fe ds (if t a = true then acc ++ [F a] else acc) env) → compE vs tg ft fe (l.map f) acc env = some (acc ++ (l.filter t).map F, env)
  | [], acc, _, _ => by simp [compE]
  | a :: l, acc, hl, h => by
    simp only [List.length_cons] at hl
    rw [List.map_cons, q_cpc, h a (List.mem_cons_self ..) _ _ (by omega)]
    by_cases c : t a = true
    · rw [if_pos c, comp_flt f F t l (acc ++ [F a]) (by rw [List.length_append, List.length_singleton]; omega) fun b hb => h b (List.mem_cons_of_mem _ hb), List.filter_cons_of_pos c]
      simp
    · rw [if_neg c, comp_flt f F t l acc (by omega) fun b hb => h b (List.mem_cons_of_mem _ hb), List.filter_cons_of_neg c]
def obj (s : List (Option Str)) (i : Nat) : Option Str := (s[i]?).join
def nI (i : Nat) : D := .int (i : Int)
def occ (g : List (Option Str)) : List Nat := (List.range g.length).filter fun i => (obj g i).isSome
def wrongS (s g : List (Option Str)) : List Nat := (occ g).filter fun i => decide (obj s i ≠ obj g i)
def freshS (s g : List (Option Str)) : List Nat := (wrongS s g).filter fun i => (obj s i).isNone
def heldS (s g : List (Option Str)) : List Nat := (wrongS s g).filter fun i => (obj s i).isSome
theorem obj_lt {s : List (Option Str)} {i : Nat} (h : i < s.length) : s[i]? = some (obj s i) := by
  unfold obj; rw [List.getElem?_eq_getElem h]; rfl
theorem obj_ge {s : List (Option Str)} {i : Nat} (h : s.length ≤ i) : obj s i = none := by
  unfold obj; rw [List.getElem?_eq_none h]; rfl
theorem obj_some {s : List (Option Str)} {i : Nat} (h : (obj s i).isSome = true) : i < s.length := by
  rcases Nat.lt_or_ge i s.length with q | q
  · exact q
  · rw [obj_ge q] at h; cases h
theorem obj_at {s : List (Option Str)} {i : Nat} (h : i < s.length) : atI (s.map eD) (i : Int) = some (eD (obj s i)) := by
  rw [c_at (by omega) (by rw [List.length_map]; omega)]
  have e := obj_lt h
  rw [show ((i : Nat) : Int).toNat = i by omega, List.getElem?_map, e]; rfl
theorem enum_obj (g : List (Option Str)) : enumD (g.map eD) = (List.range g.length).map fun i : Nat => .tuple [.int (i : Int), eD (obj g i)] := by
  unfold enumD
  refine List.ext_getElem? fun i => ?_
  rw [List.getElem?_map, List.getElem?_map, List.getElem?_zipIdx, List.getElem?_map]
  rcases Nat.lt_or_ge i g.length with q | q
  · rw [obj_lt q, List.getElem?_range q]; simp
  · rw [List.getElem?_eq_none q, List.getElem?_eq_none (by simp; exact q)]; rfl
theorem occ_lt {g : List (Option Str)} {i : Nat} (h : i ∈ occ g) : i < g.length := List.mem_range.mp (List.mem_filter.mp h).1
theorem wrong_lt {s g : List (Option Str)} {i : Nat} (h : i ∈ wrongS s g) : i < g.length := occ_lt (List.mem_filter.mp h).1
theorem occ_len (g : List (Option Str)) : (occ g).length ≤ g.length := by
  have := List.length_filter_le (fun i => (obj g i).isSome) (List.range g.length)
  rw [List.length_range] at this
  exact this
theorem wrong_len (s g : List (Option Str)) : (wrongS s g).length ≤ g.length := Nat.le_trans (List.length_filter_le _ _) (occ_len g)
theorem held_len (s g : List (Option Str)) : (heldS s g).length ≤ g.length := Nat.le_trans (List.length_filter_le _ _) (wrong_len s g)
theorem fresh_len (s g : List (Option Str)) : (freshS s g).length ≤ g.length := Nat.le_trans (List.length_filter_le _ _) (wrong_len s g)
theorem eD_ne (a b : Option Str) : dNe (eD a) (eD b) = some (.bool (decide (a ≠ b))) := by
  cases a <;> cases b
  · have h : decide ((none : Option Str) ≠ none) = false := by decide
    rw [h]; rfl
  · rename_i y
    have h : decide ((none : Option Str) ≠ some y) = true := decide_eq_true (by simp)
    rw [h]; rfl
  · rename_i x
    have h : decide (some x ≠ (none : Option Str)) = true := decide_eq_true (by simp)
    rw [h]; rfl
  · rename_i x y
    show dNe (.str x) (.str y) = _
    rw [c_neT]
    by_cases h : x = y
    · subst h; simp
    · have h2 : decide (some x ≠ some y) = true := decide_eq_true (fun q => h (Option.some.inj q))
      rw [h2, decide_eq_false h]; rfl
theorem occupied_ok (g : List (Option Str)) (hl : g.length ≤ 1000) : m_occupied [.shr (.tuple (g.map eD))] = some (.new (.l ((occ g).map nI)), [none]) := by
  have e0 : env0 3 [.shr (.tuple (g.map eD))] = [some (.shr (.tuple (g.map eD))), none, none] := rfl
  have hc := comp_flt (vs := [1, 2]) (tg := gT 2 (gsCons (gN 1) (gsCons (gN 2) gsNil))) (ft := tVal (eNotN (eVar 2))) (fe := eGive 1) (env := [some (.shr (.tuple (g.map eD))), none, none]) (fun i : Nat => .tuple [.int (i : Int), eD (obj g i)]) nI (fun i => (obj g i).isSome) (List.range g.length) [] (by simp; omega) fun i hi ds acc hacc => by
    cases h : obj g i with
    | none =>
      simp only [eD, Option.isSome_none, Bool.false_eq_true, if_false]
      clear hi h
      walk_at "gd"
    | some w =>
      simp only [eD, Option.isSome_some, if_true, nI]
      clear hi h
      walk_at "gd"
  rw [← enum_obj] at hc
  change compE _ _ _ _ _ _ _ = some ([] ++ (occ g).map nI, _) at hc
  rw [List.nil_append] at hc
  unfold m_occupied b_occupied
  rw [q_run, e0]
  walk_at "gd"
theorem at_ok (s : List (Option Str)) (i : Nat) (hl : s.length ≤ 1000) : m_object_at [.shr (.tuple (s.map eD)), .shr (.int (i : Int))] = some (.val (eD (obj s i)), [none, none]) := by
  have e0 : env0 2 [.shr (.tuple (s.map eD)), .shr (.int (i : Int))] = [some (.shr (.tuple (s.map eD))), some (.shr (.int (i : Int)))] := rfl
  have hn : (((s.map eD).length : Nat) : Int) = (s.length : Int) := by rw [List.length_map]
  rcases Nat.lt_or_ge i s.length with q | q
  · have h := obj_at q
    have t : decide ((i : Int) < (((s.map eD).length : Nat) : Int)) = true := decide_eq_true (by omega)
    unfold m_object_at b_object_at
    rw [q_run, e0]
    clear hn
    walk_at "gd"
  · have t : decide ((i : Int) < (((s.map eD).length : Nat) : Int)) = false := decide_eq_false (by omega)
    rw [obj_ge q]
    simp only [eD]
    unfold m_object_at b_object_at
    rw [q_run, e0]
    clear hn
    walk_at "gd"
theorem wrong_ok (s g : List (Option Str)) (h1 : s.length ≤ 1000) (h2 : g.length ≤ 1000) : m_wrong_slots [.shr (.tuple (s.map eD)), .shr (.tuple (g.map eD))] = some (.new (.l ((wrongS s g).map nI)), [none, none]) := by
  have e0 : env0 3 [.shr (.tuple (s.map eD)), .shr (.tuple (g.map eD))] = [some (.shr (.tuple (s.map eD))), some (.shr (.tuple (g.map eD))), none] := rfl
  have ho := occupied_ok g h2
  have hol := occ_len g
  have hc := comp_flt (vs := [2]) (tg := gN 2) (ft := tVal (eOp dNe (eX (xCall m_object_at (aCons (eGive 0) (aCons (eGive 2) aNil)))) (eOp dIx (eVar 1) (eVar 2)))) (fe := eGive 2) (env := [some (.shr (.tuple (s.map eD))), some (.shr (.tuple (g.map eD))), none]) nI nI (fun i => decide (obj s i ≠ obj g i)) (occ g) [] (by simp; omega) fun i hi ds acc hacc => by
    have g1 := at_ok s i h1
    have g2 := obj_at (occ_lt hi)
    have g3 := eD_ne (obj s i) (obj g i)
    generalize hb : decide (obj s i ≠ obj g i) = b at *
    cases b
    · simp only [nI, Bool.false_eq_true, if_false]
      clear hi hb
      walk_at "gd"
    · simp only [nI, if_true]
      clear hi hb
      walk_at "gd"
  change compE _ _ _ _ _ _ _ = some ([] ++ (wrongS s g).map nI, _) at hc
  rw [List.nil_append] at hc
  unfold m_wrong_slots b_wrong_slots
  rw [q_run, e0]
  walk_at "gd"
theorem held_ok (s g : List (Option Str)) (h1 : s.length ≤ 1000) (h2 : g.length ≤ 1000) : m_held_slots [.shr (.tuple (s.map eD)), .shr (.tuple (g.map eD))] = some (.new (.l ((heldS s g).map nI)), [none, none]) := by
  have e0 : env0 3 [.shr (.tuple (s.map eD)), .shr (.tuple (g.map eD))] = [some (.shr (.tuple (s.map eD))), some (.shr (.tuple (g.map eD))), none] := rfl
  have ho := wrong_ok s g h1 h2
  have hol := wrong_len s g
  have hc := comp_flt (vs := [2]) (tg := gN 2) (ft := tVal (eNotN (eX (xCall m_object_at (aCons (eGive 0) (aCons (eGive 2) aNil)))))) (fe := eGive 2) (env := [some (.shr (.tuple (s.map eD))), some (.shr (.tuple (g.map eD))), none]) nI nI (fun i => (obj s i).isSome) (wrongS s g) [] (by simp; omega) fun i hi ds acc hacc => by
    have g1 := at_ok s i h1
    cases h : obj s i with
    | none =>
      rw [h] at g1
      simp only [eD] at g1
      simp only [nI, Option.isSome_none, Bool.false_eq_true, if_false]
      clear hi h
      walk_at "gd"
    | some w =>
      rw [h] at g1
      simp only [eD] at g1
      simp only [nI, Option.isSome_some, if_true]
      clear hi h
      walk_at "gd"
  change compE _ _ _ _ _ _ _ = some ([] ++ (heldS s g).map nI, _) at hc
  rw [List.nil_append] at hc
  unfold m_held_slots b_held_slots
  rw [q_run, e0]
  walk_at "gd"
end My

namespace My
open PySem PySem.Spec PyProof.Rows L2 GD
theorem fresh_ok (s g : List (Option Str)) (h1 : s.length ≤ 1000) (h2 : g.length ≤ 1000) : m_fresh_slots [.shr (.tuple (s.map eD)), .shr (.tuple (g.map eD))] = some (.new (.l ((freshS s g).map nI)), [none, none]) := by
  have e0 : env0 3 [.shr (.tuple (s.map eD)), .shr (.tuple (g.map eD))] = [some (.shr (.tuple (s.map eD))), some (.shr (.tuple (g.map eD))), none] := rfl
  have ho := wrong_ok s g h1 h2
  have hol := wrong_len s g
  have hc := comp_flt (vs := [2]) (tg := gN 2) (ft := tVal (eIsN (eX (xCall m_object_at (aCons (eGive 0) (aCons (eGive 2) aNil)))))) (fe := eGive 2) (env := [some (.shr (.tuple (s.map eD))), some (.shr (.tuple (g.map eD))), none]) nI nI (fun i => (obj s i).isNone) (wrongS s g) [] (by simp; omega) fun i hi ds acc hacc => by
    have g1 := at_ok s i h1
    cases h : obj s i with
    | none =>
      rw [h] at g1
      simp only [eD] at g1
      simp only [nI, Option.isNone_none, if_true]
      clear hi h
      walk_at "gd"
    | some w =>
      rw [h] at g1
      simp only [eD] at g1
      simp only [nI, Option.isNone_some, Bool.false_eq_true, if_false]
      clear hi h
      walk_at "gd"
  change compE _ _ _ _ _ _ _ = some ([] ++ (freshS s g).map nI, _) at hc
  rw [List.nil_append] at hc
  unfold m_fresh_slots b_fresh_slots
  rw [q_run, e0]
  walk_at "gd"
def zI (l : List Nat) : List Int := l.map fun i : Nat => (i : Int)
theorem zI_D (l : List Nat) : l.map nI = (zI l).map PyData.int := by unfold zI; rw [List.map_map]; rfl
def nn (s g : List (Option Str)) (i : Nat) : Bool := (obj s i).isNone && (obj g i).isNone
theorem rng_nI (n : Nat) : rangeD 0 n = (List.range n).map nI := by
  unfold rangeD
  exact List.map_congr_left fun i _ => by rw [Int.zero_add]; rfl
end My

namespace My
open PySem PySem.Spec PyProof.Rows L2 GD
def kI (i : Nat) : L2.Key := .inl (i : Int)
def setD (l : List Nat) (acc : List (L2.Key × D)) : List (L2.Key × D) := l.foldl (fun acc i => putD acc (kI i) (.bool true)) acc
theorem setD_len : ∀ (l : List Nat) (acc : List (L2.Key × D)), (setD l acc).length ≤ acc.length + l.length
  | [], acc => Nat.le_refl _
  | i :: l, acc => by
    have h1 := setD_len l (putD acc (kI i) (.bool true))
    have h2 := putD_len acc (kI i) (.bool true)
    show (setD l (putD acc (kI i) (.bool true))).length ≤ _
    rw [List.length_cons]; omega
theorem kI_inj {i j : Nat} : kI i = kI j ↔ i = j := by
  unfold kI
  constructor
  · intro h; have := Sum.inl.inj h; omega
  · intro h; rw [h]
theorem setD_val : ∀ (l : List Nat) (acc : List (L2.Key × D)) (j : Nat), (valD (setD l acc) (kI j)).isSome = (decide (j ∈ l) || (valD acc (kI j)).isSome)
  | [], acc, j => by simp [setD]
  | i :: l, acc, j => by
    show (valD (setD l (putD acc (kI i) (.bool true))) (kI j)).isSome = _
    rw [setD_val l, valD_put]
    by_cases h : j = i
    · subst h; simp
    · rw [if_neg (fun z => h (kI_inj.mp z))]
      simp [h]
theorem dc_slots {env : En} {v : Nat} (hv : v < env.length) (hn : env[v]? = some none) : ∀ (l : List Nat) (acc : List (L2.Key × D)), acc.length + l.length ≤ 1000000 →
    dcE [v] (gN v) tYesE (eGive v) (eC (.bool true)) (l.map nI) acc env = some (setD l acc, env)
  | [], acc, _ => rfl
  | i :: l, acc, h => by
    have e1 : slOf (env.set v (some (.shr (nI i)))) v = some (.shr (nI i)) := slOf_eq.mpr (List.getElem?_set_self hv)
    have e2 : eGive v (env.set v (some (.shr (nI i)))) = some (.val (nI i), env.set v (some (.shr (nI i)))) := by unfold eGive; rw [e1]
    have e3 : keyOfD (nI i) = some (kI i) := rfl
    have hs : small acc.length = true := decide_eq_true (by rw [List.length_cons] at h; omega)
    have e4 : wipeE (env.set v (some (.shr (nI i)))) [v] = env := by
      show (env.set v (some (.shr (nI i)))).set v none = env
      rw [List.set_set]
      exact List.ext_getElem? fun k => by
        by_cases hk : v = k
        · subst hk; rw [List.getElem?_set_self hv, hn]
        · rw [List.getElem?_set_ne hk]
    have ih := dc_slots hv hn l (putD acc (kI i) (.bool true)) (by have := putD_len acc (kI i) (.bool true); rw [List.length_cons] at h; omega)
    simp only [List.map_cons, dcE, gN, tYesE, Option.bind_some, if_true, e2, rk, e3, eC, hs, e4]
    exact ih
theorem notin_set (i : Nat) (l : List Nat) : dDNotIn (nI i) (Mu.toD (.m (setD l []))) = some (.bool (!decide (i ∈ l))) := by
  unfold dDNotIn
  rw [dictOf_toD]
  show some (PyData.bool (!(valD (setD l []) (kI i)).isSome)) = _
  rw [setD_val]
  simp [valD]
theorem strs_obj (s : List (Option Str)) : ∀ l : List Nat, (∀ i ∈ l, (obj s i).isSome = true) → strsOf (l.map fun i => eD (obj s i)) = some (l.filterMap (obj s))
  | [], _ => rfl
  | i :: l, h => by
    have h1 := h i (List.mem_cons_self ..)
    have ih := strs_obj s l fun j hj => h j (List.mem_cons_of_mem _ hj)
    cases hw : obj s i with
    | none => rw [hw] at h1; cases h1
    | some w =>
      rw [List.map_cons, hw, List.filterMap_cons_some hw]
      show (strsOf _).map _ = _
      rw [ih]; rfl
def keptL (s g : List (Option Str)) : List Nat := (occ s).filter fun i => !decide (i ∈ heldS s g)
def safeN (s g : List (Option Str)) : List Str := (keptL s g).filterMap (obj s) ++ (freshS s g).filterMap (obj g)
theorem occ_some {s : List (Option Str)} {i : Nat} (h : i ∈ occ s) : (obj s i).isSome = true := (List.mem_filter.mp h).2
theorem kept_ok (s g : List (Option Str)) (h1 : s.length ≤ 1000) (h2 : g.length ≤ 1000) (o3 : Option Sl) :
    compE [4] (gN 4) (tVal (eOp dDNotIn (eVar 4) (eVar 2))) (eOp dIx (eVar 0) (eVar 4)) ((occ s).map nI) [] [some (.shr (.tuple (s.map eD))), some (.shr (.tuple (g.map eD))), some (.own false (.m (setD (heldS s g) []))), o3, none]
      = some ((keptL s g).map fun i => eD (obj s i), [some (.shr (.tuple (s.map eD))), some (.shr (.tuple (g.map eD))), some (.own false (.m (setD (heldS s g) []))), o3, none]) := by
  have hc := comp_flt (vs := [4]) (tg := gN 4) (ft := tVal (eOp dDNotIn (eVar 4) (eVar 2))) (fe := eOp dIx (eVar 0) (eVar 4)) (env := [some (.shr (.tuple (s.map eD))), some (.shr (.tuple (g.map eD))), some (.own false (.m (setD (heldS s g) []))), o3, none]) nI (fun i => eD (obj s i)) (fun i => !decide (i ∈ heldS s g)) (occ s) [] (by have := occ_len s; simp; omega) fun i hi ds acc hacc => by
    have a1 := obj_at (occ_lt hi)
    have n1 := notin_set i (heldS s g)
    have ix : dIx (.tuple (s.map eD)) (nI i) = some (eD (obj s i)) := by
      show atI (s.map eD) (i : Int) = _
      exact a1
    clear hi a1
    generalize (!decide (i ∈ heldS s g)) = b at *
    generalize eD (obj s i) = Z at *
    generalize Mu.m (setD (heldS s g) []) = M at *
    generalize nI i = I at *
    generalize PyData.tuple (s.map eD) = S at *
    cases b with
    | true => simp only [if_true]; walk_at "gd"
    | false => simp only [Bool.false_eq_true, if_false]; walk_at "gd"
  rw [List.nil_append] at hc
  exact hc
theorem kept_len (s g : List (Option Str)) : (keptL s g).length ≤ s.length := Nat.le_trans (List.length_filter_le _ _) (occ_len s)
theorem kept_some {s g : List (Option Str)} {i : Nat} (h : i ∈ keptL s g) : (obj s i).isSome = true := occ_some (List.mem_filter.mp h).1
theorem fresh_some {s g : List (Option Str)} {i : Nat} (h : i ∈ freshS s g) : (obj g i).isSome = true := occ_some (List.mem_filter.mp (List.mem_filter.mp h).1).1
theorem fresh_lt {s g : List (Option Str)} {i : Nat} (h : i ∈ freshS s g) : i < g.length := wrong_lt (List.mem_filter.mp h).1
theorem freshc_ok (s g : List (Option Str)) (h2 : g.length ≤ 1000) (o2 o3 : Option Sl) :
    compE [4] (gN 4) tYesE (eOp dIx (eVar 1) (eVar 4)) ((freshS s g).map nI) [] [some (.shr (.tuple (s.map eD))), some (.shr (.tuple (g.map eD))), o2, o3, none]
      = some ((freshS s g).map fun i => eD (obj g i), [some (.shr (.tuple (s.map eD))), some (.shr (.tuple (g.map eD))), o2, o3, none]) := by
  have hc := comp_flt (vs := [4]) (tg := gN 4) (ft := tYesE) (fe := eOp dIx (eVar 1) (eVar 4)) (env := [some (.shr (.tuple (s.map eD))), some (.shr (.tuple (g.map eD))), o2, o3, none]) nI (fun i => eD (obj g i)) (fun _ => true) (freshS s g) [] (by have := fresh_len s g; simp; omega) fun i hi ds acc hacc => by
    have ix : dIx (.tuple (g.map eD)) (nI i) = some (eD (obj g i)) := by
      show atI (g.map eD) (i : Int) = _
      exact obj_at (fresh_lt hi)
    clear hi
    generalize eD (obj g i) = Z at *
    generalize nI i = I at *
    generalize PyData.tuple (g.map eD) = S at *
    simp only [if_true]
    walk_at "gd"
  have hf : (freshS s g).filter (fun _ => true) = freshS s g := List.filter_eq_self.mpr fun _ _ => rfl
  rw [hf, List.nil_append] at hc
  exact hc
theorem nd_len : ∀ {l U : List Nat}, l.Nodup → (∀ x ∈ l, x ∈ U) → l.length ≤ U.length
  | [], U, _, _ => Nat.zero_le _
  | x :: l, U, nd, h => by
    obtain ⟨n1, n2⟩ := List.nodup_cons.mp nd
    have hx := h x List.mem_cons_self
    have := nd_len (U := U.erase x) n2 fun y hy => (List.mem_erase_of_ne (fun e => n1 (by rw [← e]; exact hy))).mpr (h y (List.mem_cons_of_mem _ hy))
    rw [List.length_erase_of_mem hx] at this
    have : 0 < U.length := List.length_pos_of_mem hx
    simp only [List.length_cons]; omega
theorem kept_fresh (s g : List (Option Str)) (h1 : s.length ≤ 70) (h2 : g.length ≤ 70) : (keptL s g).length + (freshS s g).length ≤ 70 := by
  have n1 : (keptL s g).Nodup := by unfold keptL occ; exact (List.nodup_range.filter _).filter _
  have n2 : (freshS s g).Nodup := by unfold freshS wrongS occ; exact ((List.nodup_range.filter _).filter _).filter _
  have n3 : (keptL s g ++ freshS s g).Nodup := List.nodup_append.mpr ⟨n1, n2, fun x hx y hy e => by
    subst e
    have a := kept_some hx
    have b := (List.mem_filter.mp hy).2
    cases h : obj s x with
    | none => rw [h] at a; cases a
    | some w => rw [h] at b; cases b⟩
  have := nd_len (l := keptL s g ++ freshS s g) (U := List.range 70) n3 fun x hx => by
    rcases List.mem_append.mp hx with hx | hx
    · have := occ_lt (List.mem_filter.mp hx).1
      exact List.mem_range.mpr (by omega)
    · have := fresh_lt hx
      exact List.mem_range.mpr (by omega)
  rw [List.length_append, List.length_range] at this
  exact this
theorem safe_ok (s g : List (Option Str)) (h1 : s.length ≤ 70) (h2 : g.length ≤ 70) : m_safe_objects [.shr (.tuple (s.map eD)), .shr (.tuple (g.map eD))] = some (.new (.l ((sortT (safeN s g)).map .str)), [none, none]) := by
  have e0 : env0 5 [.shr (.tuple (s.map eD)), .shr (.tuple (g.map eD))] = [some (.shr (.tuple (s.map eD))), some (.shr (.tuple (g.map eD))), none, none, none] := rfl
  have hh := held_ok s g (by omega) (by omega)
  have hl := held_len s g
  have ho := occupied_ok s (by omega)
  have hf := fresh_ok s g (by omega) (by omega)
  have hd := dc_slots (env := [some (.shr (.tuple (s.map eD))), some (.shr (.tuple (g.map eD))), none, none, none]) (v := 4) (by simp) rfl (heldS s g) [] (by simp; omega)
  have hk := kept_ok s g (by omega) (by omega) none
  have hc := freshc_ok s g (by omega) (some (.own false (.m (setD (heldS s g) [])))) (some (.own false (.l ((keptL s g).map fun i => eD (obj s i)))))
  have s1 := strs_obj s (keptL s g) fun i hi => kept_some hi
  have s2 := strs_obj g (freshS s g) fun i hi => fresh_some hi
  have kfl := kept_fresh s g h1 h2
  have k1 := kept_len s g
  have k2 := fresh_len s g
  have f1 : ∀ (f : Nat → Option Str) (l : List Nat), (l.filterMap f).length ≤ l.length := fun f l => List.length_filterMap_le f l
  have f2 := f1 (obj s) (keptL s g)
  have f3 := f1 (obj g) (freshS s g)
  have t1 : decide (((keptL s g).map fun i => eD (obj s i)).length ≤ 1000) = true := decide_eq_true (by rw [List.length_map]; omega)
  have t2 : decide (((freshS s g).map nI).length ≤ 1000) = true := decide_eq_true (by rw [List.length_map]; omega)
  have t3 : decide (((keptL s g).filterMap (obj s)).length + ((freshS s g).filterMap (obj g)).length ≤ 127) = true := decide_eq_true (by omega)
  have t4 : decide (((keptL s g).filterMap (obj s) ++ (freshS s g).filterMap (obj g)).length ≤ 1000) = true := decide_eq_true (by rw [List.length_append]; omega)
  have a1 : eSetL (aCons (eVar 3) aNil) [some (.shr (.tuple (s.map eD))), some (.shr (.tuple (g.map eD))), some (.own false (.m (setD (heldS s g) []))), some (.own false (.l ((keptL s g).map fun i => eD (obj s i)))), none]
      = some ((keptL s g).filterMap (obj s), [some (.shr (.tuple (s.map eD))), some (.shr (.tuple (g.map eD))), some (.own false (.m (setD (heldS s g) []))), some (.own false (.l ((keptL s g).map fun i => eD (obj s i)))), none]) := by
    have : eA (aCons (eVar 3) aNil) [some (.shr (.tuple (s.map eD))), some (.shr (.tuple (g.map eD))), some (.own false (.m (setD (heldS s g) []))), some (.own false (.l ((keptL s g).map fun i => eD (obj s i)))), none]
      = some ([.list ((keptL s g).map fun i => eD (obj s i))], [some (.shr (.tuple (s.map eD))), some (.shr (.tuple (g.map eD))), some (.own false (.m (setD (heldS s g) []))), some (.own false (.l ((keptL s g).map fun i => eD (obj s i)))), none]) := rfl
    unfold eSetL
    rw [this]
    simp only [Option.bind_some, t1, if_true, s1, Option.map_some]
  have a2 : eSetC [4] (wAny (eX (xCall m_fresh_slots (aCons (eGive 0) (aCons (eGive 1) aNil))))) (gN 4) tYesE (eOp dIx (eVar 1) (eVar 4)) [some (.shr (.tuple (s.map eD))), some (.shr (.tuple (g.map eD))), some (.own false (.m (setD (heldS s g) []))), some (.own false (.l ((keptL s g).map fun i => eD (obj s i)))), none]
      = some ((freshS s g).filterMap (obj g), [some (.shr (.tuple (s.map eD))), some (.shr (.tuple (g.map eD))), some (.own false (.m (setD (heldS s g) []))), some (.own false (.l ((keptL s g).map fun i => eD (obj s i)))), none]) := by
    have : wAny (eX (xCall m_fresh_slots (aCons (eGive 0) (aCons (eGive 1) aNil)))) [some (.shr (.tuple (s.map eD))), some (.shr (.tuple (g.map eD))), some (.own false (.m (setD (heldS s g) []))), some (.own false (.l ((keptL s g).map fun i => eD (obj s i)))), none]
      = some ((freshS s g).map nI, [some (.shr (.tuple (s.map eD))), some (.shr (.tuple (g.map eD))), some (.own false (.m (setD (heldS s g) []))), some (.own false (.l ((keptL s g).map fun i => eD (obj s i)))), none]) := by
      clear hh ho hd hk hc s1 s2 t1 t2 t3 t4 a1
      generalize (freshS s g).map nI = FF at *
      walk_at "gd"
    unfold eSetC
    rw [this]
    simp only [Option.bind_some, t2, if_true]
    have hw : wipeE [some (.shr (.tuple (s.map eD))), some (.shr (.tuple (g.map eD))), some (.own false (.m (setD (heldS s g) []))), some (.own false (.l ((keptL s g).map fun i => eD (obj s i)))), none] [4] = [some (.shr (.tuple (s.map eD))), some (.shr (.tuple (g.map eD))), some (.own false (.m (setD (heldS s g) []))), some (.own false (.l ((keptL s g).map fun i => eD (obj s i)))), none] := rfl
    rw [hw, hc]
    simp only [Option.bind_some, s2, Option.map_some]
  have a3 : eSrtSet (eSBin (fun ks ls => ks ++ ls) (eSetL (aCons (eVar 3) aNil)) (eSetC [4] (wAny (eX (xCall m_fresh_slots (aCons (eGive 0) (aCons (eGive 1) aNil))))) (gN 4) tYesE (eOp dIx (eVar 1) (eVar 4)))) [some (.shr (.tuple (s.map eD))), some (.shr (.tuple (g.map eD))), some (.own false (.m (setD (heldS s g) []))), some (.own false (.l ((keptL s g).map fun i => eD (obj s i)))), none]
      = some (.l ((sortT (safeN s g)).map .str), [some (.shr (.tuple (s.map eD))), some (.shr (.tuple (g.map eD))), some (.own false (.m (setD (heldS s g) []))), some (.own false (.l ((keptL s g).map fun i => eD (obj s i)))), none]) := by
    unfold eSrtSet eSBin
    rw [a1]
    simp only [Option.bind_some, a2, t3, t4, if_true]
    rfl
  clear s1 s2 t1 t2 t3 t4 a1 a2 k1 k2 kfl f1 f2 f3 hl hf hc
  unfold m_safe_objects b_safe_objects
  rw [q_run, e0]
  generalize (sortT (safeN s g)).map PyData.str = SD at *
  generalize setD (heldS s g) [] = MM at *
  generalize ((keptL s g).map fun i => eD (obj s i)) = KK at *
  generalize (occ s).map nI = OO at *
  generalize (heldS s g).map nI = HH at *
  generalize eSrtSet (eSBin (fun ks ls => ks ++ ls) (eSetL (aCons (eVar 3) aNil)) (eSetC [4] (wAny (eX (xCall m_fresh_slots (aCons (eGive 0) (aCons (eGive 1) aNil))))) (gN 4) tYesE (eOp dIx (eVar 1) (eVar 4)))) = ES at *
  walk_at "gd"
end My

namespace My
open PySem PySem.Spec PyProof.Rows L2 GD
end My

namespace My
open PySem PySem.Spec PyProof.Rows L2 GD
theorem insT_len (k : Str) : ∀ l : List Str, (insT k l).length ≤ l.length + 1
  | [] => Nat.le_refl _
  | x :: l => by
    have := insT_len k l
    unfold insT
    split
    · simp
    split
    · simp
    · simp only [List.length_cons]; omega
theorem sortT_le : ∀ l : List Str, (sortT l).length ≤ l.length
  | [] => Nat.le_refl _
  | x :: l => by
    have h1 := sortT_le l
    have h2 := insT_len x (sortT l)
    show (insT x (sortT l)).length ≤ _
    simp only [List.length_cons]; omega
end My

namespace My
open PySem PySem.Spec PyProof.Rows L2 GD
def keysG (A : List (L2.Key × List Int)) : List L2.Key := A.map (·.1)
theorem grp_keys (k : L2.Key) (n : Int) : ∀ A : List (L2.Key × List Int), (k ∈ keysG A ∧ keysG (grpI A k n) = keysG A) ∨ (k ∉ keysG A ∧ keysG (grpI A k n) = keysG A ++ [k])
  | [] => .inr ⟨List.not_mem_nil, rfl⟩
  | p :: r => by
    unfold grpI
    have e2 : keysG (p :: r) = p.1 :: keysG r := rfl
    by_cases h : p.1 = k
    · rw [if_pos h]
      exact .inl ⟨by rw [e2, h]; exact List.mem_cons_self, rfl⟩
    · rw [if_neg h]
      have e : keysG (p :: grpI r k n) = p.1 :: keysG (grpI r k n) := rfl
      rw [e, e2]
      rcases grp_keys k n r with ⟨h2, ih⟩ | ⟨h2, ih⟩
      · exact .inl ⟨List.mem_cons_of_mem _ h2, by rw [ih]⟩
      · exact .inr ⟨fun z => (List.mem_cons.mp z).elim (fun z => h z.symm) h2, by rw [ih]; rfl⟩
theorem grp_mem {k : L2.Key} {n : Int} : ∀ {A : List (L2.Key × List Int)} {p : L2.Key × List Int}, (keysG A).Nodup → p ∈ grpI A k n →
    (p.1 ≠ k ∧ p ∈ A) ∨ (p.1 = k ∧ ((∃ q ∈ A, q.1 = k ∧ p.2 = q.2 ++ [n]) ∨ (k ∉ keysG A ∧ p.2 = [n])))
  | [], p, _, h => by
    rw [List.mem_singleton.mp (show p ∈ [(k, [n])] from h)]
    exact .inr ⟨rfl, .inr ⟨List.not_mem_nil, rfl⟩⟩
  | q :: r, p, nd, h => by
    have nd' : (q.1 :: keysG r).Nodup := nd
    obtain ⟨n1, n2⟩ := List.nodup_cons.mp nd'
    unfold grpI at h
    by_cases e : q.1 = k
    · rw [if_pos e] at h
      rcases List.mem_cons.mp h with rfl | h
      · exact .inr ⟨e, .inl ⟨q, List.mem_cons_self, e, rfl⟩⟩
      · refine .inl ⟨fun z => n1 ?_, List.mem_cons_of_mem _ h⟩
        rw [e, ← z]
        exact List.mem_map_of_mem h
    · rw [if_neg e] at h
      rcases List.mem_cons.mp h with rfl | h
      · exact .inl ⟨e, List.mem_cons_self⟩
      · rcases grp_mem n2 h with ⟨h1, h2⟩ | ⟨h1, ⟨q', h2, h3, h4⟩ | ⟨h2, h3⟩⟩
        · exact .inl ⟨h1, List.mem_cons_of_mem _ h2⟩
        · exact .inr ⟨h1, .inl ⟨q', List.mem_cons_of_mem _ h2, h3, h4⟩⟩
        · exact .inr ⟨h1, .inr ⟨fun z => (List.mem_cons.mp z).elim (fun z => e z.symm) h2, h3⟩⟩
def slotsK (l : List (Nat × L2.Key)) (k : L2.Key) : List Int := (l.filter fun q => decide (q.2 = k)).map fun q => (q.1 : Int)
structure GrpOk (A : List (L2.Key × List Int)) (l : List (Nat × L2.Key)) : Prop where
  nd : (keysG A).Nodup
  val : ∀ p ∈ A, p.2 = slotsK l p.1
  mem : ∀ k, k ∈ keysG A ↔ ∃ q ∈ l, q.2 = k
theorem slotsK_snoc (l : List (Nat × L2.Key)) (i : Nat) (k j : L2.Key) : slotsK (l ++ [(i, k)]) j = if k = j then slotsK l j ++ [(i : Int)] else slotsK l j := by
  unfold slotsK
  rw [List.filter_append, List.map_append]
  by_cases h : k = j
  · subst h; simp
  · simp [h]
theorem slotsK_nil {l : List (Nat × L2.Key)} {k : L2.Key} (h : ¬ ∃ q ∈ l, q.2 = k) : slotsK l k = [] := by
  unfold slotsK
  rw [List.map_eq_nil_iff, List.filter_eq_nil_iff]
  intro q hq
  simp only [decide_eq_true_eq]
  exact fun e => h ⟨q, hq, e⟩
theorem GrpOk.step {A : List (L2.Key × List Int)} {l : List (Nat × L2.Key)} (G : GrpOk A l) (i : Nat) (k : L2.Key) : GrpOk (grpI A k (i : Int)) (l ++ [(i, k)]) where
  nd := by
    rcases grp_keys k (i : Int) A with ⟨h, e⟩ | ⟨h, e⟩ <;> rw [e]
    · exact G.nd
    · exact List.nodup_append.mpr ⟨G.nd, by simp, fun a ha b hb => by
        rw [List.mem_singleton.mp hb]
        exact fun e => h (e ▸ ha)⟩
  val := fun p hp => by
    rw [slotsK_snoc]
    rcases grp_mem G.nd hp with ⟨h1, h2⟩ | ⟨h1, ⟨q, h2, h3, h4⟩ | ⟨h2, h3⟩⟩
    · rw [if_neg (fun z => h1 z.symm)]; exact G.val p h2
    · rw [if_pos h1.symm, h4, G.val q h2, h3, h1]
    · rw [if_pos h1.symm, h3, slotsK_nil (fun z => h2 ((G.mem k).mpr (by rw [← h1]; exact z)))]; rfl
  mem := fun j => by
    have e : (∃ q ∈ l ++ [(i, k)], q.2 = j) ↔ (∃ q ∈ l, q.2 = j) ∨ k = j := by
      constructor
      · rintro ⟨q, hq, e⟩
        rcases List.mem_append.mp hq with hq | hq
        · exact .inl ⟨q, hq, e⟩
        · rw [List.mem_singleton.mp hq] at e; exact .inr e
      · rintro (⟨q, hq, e⟩ | e)
        · exact ⟨q, List.mem_append_left _ hq, e⟩
        · exact ⟨(i, k), List.mem_append_right _ List.mem_cons_self, e⟩
    rw [e, ← G.mem j]
    rcases grp_keys k (i : Int) A with ⟨h, e⟩ | ⟨h, e⟩ <;> rw [e]
    · exact ⟨.inl, fun z => z.elim id fun e => e ▸ h⟩
    · rw [List.mem_append, List.mem_singleton]
      exact or_congr Iff.rfl ⟨Eq.symm, Eq.symm⟩
def grpL (l : List (Nat × L2.Key)) (A : List (L2.Key × List Int)) : List (L2.Key × List Int) := l.foldl (fun A q => grpI A q.2 (q.1 : Int)) A
theorem grpL_ok : ∀ (l pre : List (Nat × L2.Key)) (A : List (L2.Key × List Int)), GrpOk A pre → GrpOk (grpL l A) (pre ++ l)
  | [], pre, A, h => by rw [List.append_nil]; exact h
  | q :: l, pre, A, h => by
    have := grpL_ok l (pre ++ [q]) (grpI A q.2 (q.1 : Int)) (h.step q.1 q.2)
    rw [List.append_assoc] at this
    exact this
theorem grpL_ok0 (l : List (Nat × L2.Key)) : GrpOk (grpL l []) l := by
  have := grpL_ok l [] [] ⟨List.nodup_nil, fun _ h => (List.not_mem_nil h).elim, fun k => ⟨fun h => (List.not_mem_nil h).elim, fun ⟨_, h, _⟩ => (List.not_mem_nil h).elim⟩⟩
  simpa using this
theorem grpL_len : ∀ (l : List (Nat × L2.Key)) (A : List (L2.Key × List Int)), (grpL l A).length ≤ A.length + l.length
  | [], A => Nat.le_refl _
  | q :: l, A => by
    have h1 := grpL_len l (grpI A q.2 (q.1 : Int))
    have h2 : (grpI A q.2 (q.1 : Int)).length ≤ A.length + 1 := by
      rcases grp_keys q.2 (q.1 : Int) A with ⟨_, e⟩ | ⟨_, e⟩ <;> have e := congrArg List.length e <;> simp [keysG] at e <;> omega
    show (grpL l (grpI A q.2 (q.1 : Int))).length ≤ _
    rw [List.length_cons]; omega
theorem grp_look {A : List (L2.Key × List Int)} {l : List (Nat × L2.Key)} (G : GrpOk A l) (k : L2.Key) : ((A.find? fun p => decide (p.1 = k)).map (·.2)).getD [] = slotsK l k := by
  cases h : A.find? fun p => decide (p.1 = k) with
  | none =>
    have : k ∉ keysG A := fun hk => by
      obtain ⟨p, hp, e⟩ := List.mem_map.mp hk
      have := List.find?_eq_none.mp h p hp
      simp at this
      exact this e
    rw [slotsK_nil (fun z => this ((G.mem k).mpr z))]; rfl
  | some p =>
    have h1 := List.mem_of_find?_eq_some h
    have h2 : p.1 = k := by simpa using List.find?_some h
    show p.2 = _
    rw [G.val p h1, h2]
end My

namespace My
open PySem PySem.Spec PyProof.Rows L2 GD
theorem nd_perm {l U : List Nat} (h1 : l.Nodup) (h2 : ∀ x ∈ l, x ∈ U) (h3 : U.length ≤ l.length) (h4 : U.Nodup) : l.Perm U := by
  refine (List.perm_ext_iff_of_nodup h1 h4).mpr fun x => ⟨h2 x, fun hx => ?_⟩
  by_cases h : x ∈ l
  · exact h
  · have := nd_len (l := x :: l) (U := U) (List.nodup_cons.mpr ⟨h, h1⟩) fun y hy => (List.mem_cons.mp hy).elim (fun e => e ▸ hx) (h2 y)
    rw [List.length_cons] at this
    omega
def chase (f : Nat → Option Nat) (i : Nat) : Nat → Nat → Option (List Nat)
  | 0, _ => none
  | k + 1, c => match f c with
    | none => none
    | some d => if d = i then some [c] else (chase f i k d).map (c :: ·)
def PathF (f : Nat → Option Nat) (i : Nat) : List Nat → Prop
  | [] => False
  | [c] => f c = some i
  | c :: d :: l => f c = some d ∧ PathF f i (d :: l)
structure Inj (f : Nat → Option Nat) (U : List Nat) : Prop where
  to : ∀ x y, f x = some y → y ∈ U
  inj : ∀ x x' y, x ∈ U → x' ∈ U → f x = some y → f x' = some y → x = x'
structure Way (f : Nat → Option Nat) (U : List Nat) (i : Nat) (pre : List Nat) (c : Nat) : Prop where
  nd : (pre ++ [c]).Nodup
  sub : ∀ x ∈ pre ++ [c], x ∈ U
  cov : ∀ d ∈ pre ++ [c], d = i ∨ ∃ x ∈ pre, f x = some d
variable {f : Nat → Option Nat} {U : List Nat} {i c d : Nat} {pre l C : List Nat}
theorem Way.start (h : i ∈ U) : Way f U i [] i := ⟨by simp, fun x hx => by rw [List.mem_singleton.mp hx]; exact h, fun x hx => .inl (List.mem_singleton.mp hx)⟩
theorem Way.step (J : Inj f U) (W : Way f U i pre c) (h : f c = some d) (hd : d ≠ i) : Way f U i (pre ++ [c]) d where
  nd := by
    refine List.nodup_append.mpr ⟨W.nd, by simp, fun a ha b hb => ?_⟩
    rw [List.mem_singleton.mp hb]
    rintro rfl
    rcases W.cov a ha with e | ⟨x, hx, e⟩
    · exact hd e
    · have : x = c := J.inj x c a (W.sub x (List.mem_append_left _ hx)) (W.sub c (by simp)) e h
      subst this
      exact (List.nodup_append.mp W.nd).2.2 x hx x List.mem_cons_self rfl
  sub := fun x hx => by
    rcases List.mem_append.mp hx with hx | hx
    · exact W.sub x hx
    · rw [List.mem_singleton.mp hx]; exact J.to c d h
  cov := fun x hx => by
    rcases List.mem_append.mp hx with hx | hx
    · rcases W.cov x hx with e | ⟨y, hy, e⟩
      · exact .inl e
      · exact .inr ⟨y, List.mem_append_left _ hy, e⟩
    · rw [List.mem_singleton.mp hx]; exact .inr ⟨c, by simp, h⟩
theorem Way.len (W : Way f U i pre c) : pre.length + 1 ≤ U.length := by
  have := nd_len W.nd W.sub
  rw [List.length_append] at this
  exact this
theorem chase_ok (J : Inj f U) : ∀ (k c : Nat) (pre l : List Nat), Way f U i pre c → chase f i k c = some l → (pre ++ l).Nodup ∧ (∀ x ∈ l, x ∈ U) ∧ PathF f i l ∧ ∃ r, l = c :: r
  | 0, c, pre, l, _, h => by cases h
  | k + 1, c, pre, l, W, h => by
    unfold chase at h
    cases e : f c with
    | none => rw [e] at h; cases h
    | some d =>
      rw [e] at h
      simp only at h
      by_cases hd : d = i
      · rw [if_pos hd] at h
        cases h
        exact ⟨W.nd, fun x hx => W.sub x (List.mem_append_right _ hx), by rw [← hd]; exact e, [], rfl⟩
      · rw [if_neg hd] at h
        simp only [Option.map_eq_some_iff] at h
        obtain ⟨m, h1, rfl⟩ := h
        obtain ⟨a1, a2, a3, r, rfl⟩ := chase_ok J k d (pre ++ [c]) m (W.step J e hd) h1
        refine ⟨by rw [List.append_assoc] at a1; exact a1, fun x hx => ?_, ⟨e, a3⟩, _, rfl⟩
        rcases List.mem_cons.mp hx with rfl | hx
        · exact W.sub x (by simp)
        · exact a2 x hx
theorem path_closed : ∀ {l : List Nat}, PathF f i l → ∀ y ∈ l, (f y = some i) ∨ ∃ z ∈ l, f y = some z
  | [], h => h.elim
  | [c], h => fun y hy => .inl (by rw [List.mem_singleton.mp hy]; exact h)
  | c :: d :: l, h => fun y hy => by
    rcases List.mem_cons.mp hy with rfl | hy
    · exact .inr ⟨d, by simp, h.1⟩
    · rcases path_closed h.2 y hy with e | ⟨z, hz, e⟩
      · exact .inl e
      · exact .inr ⟨z, List.mem_cons_of_mem _ hz, e⟩
theorem path_reach (hC : ∀ y ∈ C, ∃ z ∈ C, f y = some z) : ∀ {l : List Nat}, PathF f i l → ∀ y ∈ l, y ∈ C → i ∈ C
  | [], h => h.elim
  | [c], h => fun y hy hyC => by
    rw [List.mem_singleton.mp hy] at hyC
    obtain ⟨z, hz, e⟩ := hC _ hyC
    have := h.symm.trans e
    cases this
    exact hz
  | c :: d :: l, h => fun y hy hyC => by
    rcases List.mem_cons.mp hy with rfl | hy
    · obtain ⟨z, hz, e⟩ := hC _ hyC
      have := h.1.symm.trans e
      cases this
      exact path_reach hC h.2 d List.mem_cons_self hz
    · exact path_reach hC h.2 y hy hyC
def pureL (f : Nat → Option Nat) (N : Nat) : List Nat → List (List Nat) → List Nat → List (List Nat)
  | [], found, _ => found
  | i :: l, found, met => if i ∈ met then pureL f N l found met else match chase f i N i with
    | none => pureL f N l found met
    | some c => pureL f N l (found ++ [c]) (met ++ c)
structure Fnd (f : Nat → Option Nat) (U : List Nat) (found : List (List Nat)) (met : List Nat) : Prop where
  eq : met = found.flatten
  nd : met.Nodup
  sub : ∀ x ∈ met, x ∈ U
  cl : ∀ y ∈ met, ∃ z ∈ met, f y = some z
theorem pureL_ok (J : Inj f U) (N : Nat) : ∀ (l : List Nat) (found : List (List Nat)) (met : List Nat), (∀ x ∈ l, x ∈ U) → Fnd f U found met → ∃ met', Fnd f U (pureL f N l found met) met'
  | [], found, met, _, h => ⟨met, h⟩
  | i :: l, found, met, hl, h => by
    have hl' : ∀ x ∈ l, x ∈ U := fun x hx => hl x (List.mem_cons_of_mem _ hx)
    unfold pureL
    split
    · exact pureL_ok J N l found met hl' h
    · rename_i hi
      split
      · exact pureL_ok J N l found met hl' h
      · rename_i c hc
        obtain ⟨a1, a2, a3, r, a4⟩ := chase_ok J N i [] c (Way.start (hl i List.mem_cons_self)) hc
        refine pureL_ok J N l _ _ hl' ⟨by rw [List.flatten_append, h.eq]; simp, ?_, ?_, ?_⟩
        · refine List.nodup_append.mpr ⟨h.nd, a1, fun x hx y hy => ?_⟩
          rintro rfl
          exact hi (path_reach h.cl a3 x hy hx)
        · exact fun x hx => (List.mem_append.mp hx).elim (h.sub x) (a2 x)
        · intro y hy
          rcases List.mem_append.mp hy with hy | hy
          · obtain ⟨z, hz, e⟩ := h.cl y hy
            exact ⟨z, List.mem_append_left _ hz, e⟩
          · rcases path_closed a3 y hy with e | ⟨z, hz, e⟩
            · exact ⟨i, List.mem_append_right _ (by rw [a4]; exact List.mem_cons_self), e⟩
            · exact ⟨z, List.mem_append_right _ hz, e⟩
theorem pureL_nil (J : Inj f U) (N : Nat) (h : ∀ x ∈ l, x ∈ U) : (pureL f N l [] []).flatten.Nodup ∧ ∀ x ∈ (pureL f N l [] []).flatten, x ∈ U := by
  obtain ⟨met, F⟩ := pureL_ok J N l [] [] h ⟨rfl, List.nodup_nil, fun _ h => (List.not_mem_nil h).elim, fun _ h => (List.not_mem_nil h).elim⟩
  rw [← F.eq]
  exact ⟨F.nd, F.sub⟩
end My

namespace My
open PySem PySem.Spec PyProof.Rows L2 GD
def keyE : Option Str → L2.Key
  | some w => .inr w
  | none => .inr ("" : Str)
theorem keyE_of {e : Option Str} (h : e.isSome = true) : keyOfD (eD e) = some (keyE e) := by
  cases e with
  | none => cases h
  | some w => rfl
theorem held_some {s g : List (Option Str)} {i : Nat} (h : i ∈ heldS s g) : (obj s i).isSome = true ∧ (obj g i).isSome = true ∧ i < s.length ∧ i < g.length := by
  have h1 := List.mem_filter.mp h
  have h2 := List.mem_filter.mp h1.1
  have h3 := occ_some h2.1
  exact ⟨h1.2, h3, obj_some h1.2, obj_some h3⟩
def ndI (s g : List (Option Str)) (i : Nat) : D := .tuple [nI i, eD (obj s i), eD (obj g i)]
theorem needs_ok (s g : List (Option Str)) (h1 : s.length ≤ 1000) (h2 : g.length ≤ 1000) : m_needs [.shr (.tuple (s.map eD)), .shr (.tuple (g.map eD))] = some (.new (.l ((heldS s g).map (ndI s g))), [none, none]) := by
  have e0 : env0 3 [.shr (.tuple (s.map eD)), .shr (.tuple (g.map eD))] = [some (.shr (.tuple (s.map eD))), some (.shr (.tuple (g.map eD))), none] := rfl
  have hh := held_ok s g h1 h2
  have hl := held_len s g
  have hc := comp_flt (vs := [2]) (tg := gN 2) (ft := tYesE) (fe := eTup (aCons (eGive 2) (aCons (eOp dIx (eVar 0) (eVar 2)) (aCons (eOp dIx (eVar 1) (eVar 2)) aNil)))) (env := [some (.shr (.tuple (s.map eD))), some (.shr (.tuple (g.map eD))), none]) nI (ndI s g) (fun _ => true) (heldS s g) [] (by simp; omega) fun i hi ds acc hacc => by
    obtain ⟨_, _, l1, l2⟩ := held_some hi
    have x1 : dIx (.tuple (s.map eD)) (nI i) = some (eD (obj s i)) := obj_at l1
    have x2 : dIx (.tuple (g.map eD)) (nI i) = some (eD (obj g i)) := obj_at l2
    unfold ndI
    clear hi l1 l2 hh hl h1 h2
    generalize eD (obj s i) = Y at *
    generalize eD (obj g i) = Z at *
    generalize nI i = I at *
    generalize PyData.tuple (s.map eD) = S at *
    generalize PyData.tuple (g.map eD) = G at *
    simp only [if_true]
    walk_at "gd"
  have hf : (heldS s g).filter (fun _ => true) = heldS s g := List.filter_eq_self.mpr fun _ _ => rfl
  rw [hf, List.nil_append] at hc
  clear hf hl h1 h2
  generalize (heldS s g).map (ndI s g) = NN at *
  generalize (heldS s g).map nI = HH at *
  unfold m_needs b_needs
  rw [q_run, e0]
  walk_at "gd"
abbrev G3 : D → En → Option En := (gT 3 (gsCons (gN 4) (gsCons (gN 5) (gsCons (gN 6) gsNil))))
def byS (s : List (Option Str)) (l : List Nat) : List (Nat × L2.Key) := l.map fun i => (i, keyE (obj s i))
theorem edges_loop (s g : List (Option Str)) (o0 o1 o2 o3 : Option Sl) : ∀ (l : List Nat) (A B : List (L2.Key × List Int)) (o4 o5 o6 : Option Sl), (∀ i ∈ l, (obj s i).isSome = true ∧ (obj g i).isSome = true) →
    ∃ p4 p5 p6 : Option Sl, edgesE G3 4 5 6 (l.map (ndI s g)) A B [o0, o1, o2, o3, o4, o5, o6] = some (grpL (byS s l) A, grpL (byS g l) B, [o0, o1, o2, o3, p4, p5, p6])
  | [], A, B, o4, o5, o6, _ => ⟨o4, o5, o6, rfl⟩
  | i :: l, A, B, o4, o5, o6, h => by
    obtain ⟨a1, a2⟩ := h i List.mem_cons_self
    obtain ⟨p4, p5, p6, ih⟩ := edges_loop s g o0 o1 o2 o3 l (grpI A (keyE (obj s i)) (i : Int)) (grpI B (keyE (obj g i)) (i : Int)) (some (.shr (nI i))) (some (.shr (eD (obj s i)))) (some (.shr (eD (obj g i)))) fun j hj => h j (List.mem_cons_of_mem _ hj)
    refine ⟨p4, p5, p6, ?_⟩
    have e1 : G3 (ndI s g i) [o0, o1, o2, o3, o4, o5, o6] = some [o0, o1, o2, o3, some (.shr (nI i)), some (.shr (eD (obj s i))), some (.shr (eD (obj g i)))] := rfl
    have k1 : keyAt [o0, o1, o2, o3, some (.shr (nI i)), some (.shr (eD (obj s i))), some (.shr (eD (obj g i)))] 5 = some (keyE (obj s i)) := keyE_of a1
    have k2 : keyAt [o0, o1, o2, o3, some (.shr (nI i)), some (.shr (eD (obj s i))), some (.shr (eD (obj g i)))] 6 = some (keyE (obj g i)) := keyE_of a2
    have k3 : intAt [o0, o1, o2, o3, some (.shr (nI i)), some (.shr (eD (obj s i))), some (.shr (eD (obj g i)))] 4 = some (i : Int) := rfl
    rw [List.map_cons]
    unfold edgesE
    simp only [e1, k1, k2, k3, Option.bind_some]
    exact ih
def outG (s g : List (Option Str)) : List (L2.Key × List Int) := grpL (byS s (heldS s g)) []
def inG (s g : List (Option Str)) : List (L2.Key × List Int) := grpL (byS g (heldS s g)) []
theorem edges_ok (s g : List (Option Str)) (h1 : s.length ≤ 1000) (h2 : g.length ≤ 1000) : m_edges_of [.shr (.tuple (s.map eD)), .shr (.tuple (g.map eD))] = some (.val (.tuple [dictI (outG s g), dictI (inG s g)]), [none, none]) := by
  have hn := needs_ok s g h1 h2
  obtain ⟨p4, p5, p6, he⟩ := edges_loop s g (some (.shr (.tuple (s.map eD)))) (some (.shr (.tuple (g.map eD)))) none none (heldS s g) [] [] none none none fun i hi => ⟨(held_some hi).1, (held_some hi).2.1⟩
  have hl := held_len s g
  have sm : small ((heldS s g).map (ndI s g)).length = true := decide_eq_true (by rw [List.length_map]; omega)
  have fw : wAny (eX (xCall m_needs (aCons (eGive 0) (aCons (eGive 1) aNil)))) [some (.shr (.tuple (s.map eD))), some (.shr (.tuple (g.map eD))), none, none, none, none, none]
      = some ((heldS s g).map (ndI s g), [some (.shr (.tuple (s.map eD))), some (.shr (.tuple (g.map eD))), none, none, none, none, none]) := by
    clear he sm hl h1 h2
    generalize (heldS s g).map (ndI s g) = NN at *
    walk_at "gd"
  have hb : b_edges_of [some (.shr (.tuple (s.map eD))), some (.shr (.tuple (g.map eD))), none, none, none, none, none] = some (.rt (.val (.tuple [dictI (outG s g), dictI (inG s g)])), [some (.shr (.tuple (s.map eD))), some (.shr (.tuple (g.map eD))), none, none, p4, p5, p6]) := by
    unfold b_edges_of sEdges
    rw [if_pos (by rfl)]
    show (wAny _ [some (.shr (.tuple (s.map eD))), some (.shr (.tuple (g.map eD))), none, none, none, none, none]).bind _ = _
    rw [fw]
    simp only [Option.bind_some, sm, if_true, he, Option.map_some]
    rfl
  have e0 : env0 7 [.shr (.tuple (s.map eD)), .shr (.tuple (g.map eD))] = [some (.shr (.tuple (s.map eD))), some (.shr (.tuple (g.map eD))), none, none, none, none, none] := rfl
  clear fw he hn
  unfold m_edges_of
  rw [q_run, e0]
  walk_at "gd"
end My

namespace My
open PySem PySem.Spec PyProof.Rows L2 GD
def oI : Option Nat → D
  | none => .none
  | some d => nI d
def cD : Option (List Nat) → D
  | none => .none
  | some l => .tuple (l.map nI)
noncomputable abbrev WC : EvT := (tfAnd (tVal (eNotN (eVar 4))) (tVal (eOp dNe (eVar 4) (eVar 0))))
noncomputable abbrev WB : EvS := (sSeq (sDrop (eMt "list" gApp 3 (aCons (eGive 4) aNil)))
      (sSetX 4 (xE (eGet2 (eVar 2) (eOp dIx (eVar 1) (eVar 4)) (eC .none)))))
theorem ne_nI (a b : Nat) : dNe (nI a) (nI b) = some (.bool (decide (a ≠ b))) := by
  have := c_neI (i := (a : Int)) (j := (b : Int))
  unfold nI
  rw [this]
  by_cases h : a = b
  · subst h; simp
  · have h' : ¬ (a : Int) = (b : Int) := by omega
    simp [h, h']
def SucOk (g : List (Option Str)) (U : List Nat) (f : Nat → Option Nat) (kvs : List (L2.Key × D)) : Prop := ∀ x ∈ U, (obj g x).isSome = true ∧ valD kvs (keyE (obj g x)) = (f x).map nI
theorem get_suc {g : List (Option Str)} {U : List Nat} {f : Nat → Option Nat} {kvs : List (L2.Key × D)} (hv : SucOk g U f kvs) {x : Nat} (hx : x ∈ U) {p : Bool} {env : En} {r : EvE}
    (h2 : slOf env 2 = some (.own p (.m kvs))) (hr : eOp dIx (eVar 1) r env = some (.val (eD (obj g x)), env)) : eGet2 (eVar 2) (eOp dIx (eVar 1) r) (eC .none) env = some (.val (oI (f x)), env) := by
  obtain ⟨a1, a2⟩ := hv x hx
  have h1 : eVar 2 env = some (.slot 2, env) := by rw [q_var, h2]; rfl
  have h4 : rs env (.slot 2) = some (Mu.toD (.m kvs)) := by simp only [rs, h2]
  have h5 : dGet2 (Mu.toD (.m kvs)) (eD (obj g x)) = some ((f x).map nI) := by
    unfold dGet2
    rw [dictOf_toD, keyE_of a1]
    simp only [Option.bind_some, Option.map_some, a2]
  rw [get2_val (fz := eC .none) (z := .none) h1 hr rfl h4 h5]
  · cases f x <;> rfl
  · exact PyData.none
theorem cyc_loop {g : List (Option Str)} {U : List Nat} {f : Nat → Option Nat} {kvs : List (L2.Key × D)} (hv : SucOk g U f kvs) (J : Inj f U) (hg : ∀ x ∈ U, x < g.length) (hU : U.length ≤ 1000) (i : Nat) (p : Bool) : ∀ (k c : Nat) (pre : List Nat) (n : Nat), Way f U i pre c → U.length ≤ k + pre.length → k ≤ n →
    ∃ fd : List Nat, whE WC WB n [some (.shr (nI i)), some (.shr (.tuple (g.map eD))), some (.own p (.m kvs)), some (.own false (.l ((pre ++ [c]).map nI))), some (.shr (oI (f c)))]
      = some (.nx, [some (.shr (nI i)), some (.shr (.tuple (g.map eD))), some (.own p (.m kvs)), some (.own false (.l (fd.map nI))), some (.shr (oI ((chase f i k c).map fun _ => i)))]) ∧ ∀ l, chase f i k c = some l → fd = pre ++ l
  | 0, c, pre, n, W, h, _ => by have := W.len; omega
  | k + 1, c, pre, 0, W, h, hn => by omega
  | k + 1, c, pre, n + 1, W, h, hn => by
    unfold chase
    cases e : f c with
    | none =>
      refine ⟨pre ++ [c], ?_, fun l hl => by cases hl⟩
      simp only [Option.map_none, oI]
      clear W h hn hv hg
      unfold WC WB
      generalize (pre ++ [c]).map nI = F at *
      generalize PyData.tuple (g.map eD) = G at *
      generalize nI i = I at *
      walk_at "gd"
    | some d =>
      simp only
      by_cases hd : d = i
      · rw [if_pos hd]
        refine ⟨pre ++ [c], ?_, fun l hl => by cases hl; rfl⟩
        simp only [Option.map_some, oI]
        have nn := ne_nI d i
        rw [decide_eq_false (fun z => z hd)] at nn
        subst hd
        have nN : isN (nI d) = false := rfl
        clear W h hn hv hg e
        unfold WC WB
        generalize (pre ++ [c]).map nI = F at *
        generalize PyData.tuple (g.map eD) = G at *
        generalize nI d = I at *
        walk_at "gd"
      · rw [if_neg hd]
        have W' := W.step J e hd
        obtain ⟨fd, ih, ih2⟩ := cyc_loop hv J hg hU i p k d (pre ++ [c]) n W' (by rw [List.length_append]; simp; omega) (by omega)
        have hdU := J.to c d e
        refine ⟨fd, ?_, fun l hl => ?_⟩
        · have nn := ne_nI d i
          rw [decide_eq_true hd] at nn
          have wl := W.len
          have ap : gApp (.l ((pre ++ [c]).map nI)) [nI d] = some (.l ((pre ++ [c]).map nI ++ [nI d]), .none) := c_app (by rw [List.length_map, List.length_append]; simp; omega)
          have ap2 : (pre ++ [c]).map nI ++ [nI d] = (pre ++ [c] ++ [d]).map nI := by simp
          have ix : dIx (.tuple (g.map eD)) (nI d) = some (eD (obj g d)) := obj_at (hg d hdU)
          have gx : ∀ o3, eGet2 (eVar 2) (eOp dIx (eVar 1) (eVar 4)) (eC .none) [some (.shr (nI i)), some (.shr (.tuple (g.map eD))), some (.own p (.m kvs)), o3, some (.shr (nI d))] = some (.val (oI (f d)), [some (.shr (nI i)), some (.shr (.tuple (g.map eD))), some (.own p (.m kvs)), o3, some (.shr (nI d))]) := fun o3 => by
            refine get_suc hv hdU (by rfl) ?_
            generalize PyData.tuple (g.map eD) = G at *
            generalize eD (obj g d) = Z at *
            generalize nI d = I2 at *
            generalize nI i = I at *
            clear hv J W W' h hn ih ih2 e nn ap ap2
            walk_at "gd"
          have mm : ((chase f i k d).map (c :: ·)).map (fun _ => i) = (chase f i k d).map fun _ => i := by cases chase f i k d <;> rfl
          rw [mm, ← ih, ← ap2]
          clear mm ih ih2 ap2 ix W W' h hn hv hg e J wl
          rw [show oI (some d) = nI d from rfl]
          have nN : isN (nI d) = false := rfl
          generalize oI (f d) = Q at *
          unfold WC WB at *
          generalize (pre ++ [c]).map nI = F at *
          generalize PyData.tuple (g.map eD) = G at *
          generalize nI d = I2 at *
          generalize nI i = I at *
          walk_at "gd"
        · simp only [Option.map_eq_some_iff] at hl
          obtain ⟨m, h1, rfl⟩ := hl
          rw [ih2 m h1]; simp
end My

namespace My
open PySem PySem.Spec PyProof.Rows L2 GD
theorem cycle_ok {g : List (Option Str)} {U : List Nat} {f : Nat → Option Nat} {kvs : List (L2.Key × D)} (hv : SucOk g U f kvs) (J : Inj f U) (hg : ∀ x ∈ U, x < g.length) (hU : U.length ≤ 1000) {i : Nat} (hi : i ∈ U) :
    m_cycle_from [.shr (nI i), .shr (.tuple (g.map eD)), .own true (.m kvs)] = some (.val (cD (chase f i U.length i)), [none, none, some (.m kvs)]) := by
  have e0 : env0 5 [.shr (nI i), .shr (.tuple (g.map eD)), .own true (.m kvs)] = [some (.shr (nI i)), some (.shr (.tuple (g.map eD))), some (.own true (.m kvs)), none, none] := rfl
  have ix : dIx (.tuple (g.map eD)) (nI i) = some (eD (obj g i)) := obj_at (hg i hi)
  have gx : ∀ o3 o4, eGet2 (eVar 2) (eOp dIx (eVar 1) (eVar 0)) (eC .none) [some (.shr (nI i)), some (.shr (.tuple (g.map eD))), some (.own true (.m kvs)), o3, o4] = some (.val (oI (f i)), [some (.shr (nI i)), some (.shr (.tuple (g.map eD))), some (.own true (.m kvs)), o3, o4]) := fun o3 o4 => by
    refine get_suc hv hi (by rfl) ?_
    generalize PyData.tuple (g.map eD) = G at *
    generalize eD (obj g i) = Z at *
    generalize nI i = I at *
    clear hv J hi
    walk_at "gd"
  obtain ⟨fd, hw, hw2⟩ := cyc_loop hv J hg hU i true U.length i [] fuel (Way.start hi) (by simp) (by unfold fuel; omega)
  have hw : whE WC WB fuel [some (.shr (nI i)), some (.shr (.tuple (g.map eD))), some (.own true (.m kvs)), some (.own false (.l [nI i])), some (.shr (oI (f i)))]
      = some (.nx, [some (.shr (nI i)), some (.shr (.tuple (g.map eD))), some (.own true (.m kvs)), some (.own false (.l (fd.map nI))), some (.shr (oI ((chase f i U.length i).map fun _ => i)))]) := hw
  have nN : isN (nI i) = false := rfl
  unfold m_cycle_from b_cycle_from
  rw [q_run, e0]
  cases h : chase f i U.length i with
  | none =>
    rw [h] at hw
    simp only [Option.map_none, oI, cD] at hw ⊢
    change whE WC WB fuel [some (.shr (nI i)), some (.shr (.tuple (g.map eD))), some (.own true (.m kvs)), some (.own false (.l [nI i])), some (.shr (oI (f i)))] = _ at hw
    clear hw2 h ix hv J hg hi
    unfold WC WB at hw
    generalize whE = WW at *
    generalize oI (f i) = Q at *
    generalize fd.map nI = F at *
    generalize PyData.tuple (g.map eD) = G at *
    generalize nI i = I at *
    walk_at "gd"
  | some l =>
    rw [h] at hw
    have e := hw2 l h
    rw [List.nil_append] at e
    subst e
    simp only [Option.map_some, cD] at hw ⊢
    rw [show oI (some i) = nI i from rfl] at hw
    clear hw2 h ix hv J hg hi
    unfold WC WB at hw
    generalize whE = WW at *
    generalize oI (f i) = Q at *
    have ct : cTuple [.list (fd.map nI)] = some (.tuple (fd.map nI)) := rfl
    generalize fd.map nI = F at *
    generalize PyData.tuple (g.map eD) = G at *
    generalize nI i = I at *
    walk_at "gd"
def setN (l : List Str) (acc : List (L2.Key × D)) : List (L2.Key × D) := l.foldl (fun acc w => putD acc (.inr w) (.bool true)) acc
theorem setN_val : ∀ (l : List Str) (acc : List (L2.Key × D)) (w : Str), (valD (setN l acc) (.inr w)).isSome = (decide (w ∈ l) || (valD acc (.inr w)).isSome)
  | [], acc, w => by simp [setN]
  | x :: l, acc, w => by
    show (valD (setN l (putD acc (.inr x) (.bool true))) (.inr w)).isSome = _
    rw [setN_val l, valD_put]
    by_cases h : w = x
    · subst h; simp
    · rw [if_neg (fun z => h (Sum.inr.inj z))]
      simp [h]
theorem dc_names {env : En} {v : Nat} (hv : v < env.length) (hn : env[v]? = some none) : ∀ (l : List Str) (acc : List (L2.Key × D)), acc.length + l.length ≤ 1000000 →
    dcE [v] (gN v) tYesE (eGive v) (eC (.bool true)) (l.map .str) acc env = some (setN l acc, env)
  | [], acc, _ => rfl
  | i :: l, acc, h => by
    have e1 : slOf (env.set v (some (.shr (.str i)))) v = some (.shr (.str i)) := slOf_eq.mpr (List.getElem?_set_self hv)
    have e2 : eGive v (env.set v (some (.shr (.str i)))) = some (.val (.str i), env.set v (some (.shr (.str i)))) := by unfold eGive; rw [e1]
    have e3 : keyOfD (.str i) = some (.inr i) := rfl
    have hs : small acc.length = true := decide_eq_true (by rw [List.length_cons] at h; omega)
    have e4 : wipeE (env.set v (some (.shr (.str i)))) [v] = env := by
      show (env.set v (some (.shr (.str i)))).set v none = env
      rw [List.set_set]
      exact List.ext_getElem? fun k => by
        by_cases hk : v = k
        · subst hk; rw [List.getElem?_set_self hv, hn]
        · rw [List.getElem?_set_ne hk]
    have ih := dc_names hv hn l (putD acc (.inr i) (.bool true)) (by have := putD_len acc (.inr i) (.bool true); rw [List.length_cons] at h; omega)
    simp only [List.map_cons, dcE, gN, tYesE, Option.bind_some, if_true, e2, rk, e3, eC, hs, e4]
    exact ih
theorem merge_val (k : L2.Key) : ∀ (more kvs : List (L2.Key × D)), (valD (mergeD kvs more) k).isSome = ((valD kvs k).isSome || (valD more k).isSome)
  | [], kvs => by simp [mergeD, valD]
  | p :: more, kvs => by
    show (valD (mergeD (putD kvs p.1 p.2) more) k).isSome = _
    rw [merge_val k more, valD_put]
    by_cases h : p.1 = k
    · rw [valD_eq h, if_pos h.symm]; simp
    · rw [valD_neq h, if_neg (fun z => h z.symm)]
theorem merge_len : ∀ (more kvs : List (L2.Key × D)), (mergeD kvs more).length ≤ kvs.length + more.length
  | [], kvs => Nat.le_refl _
  | p :: more, kvs => by
    have h1 := merge_len more (putD kvs p.1 p.2)
    have h2 := putD_len kvs p.1 p.2
    show (mergeD (putD kvs p.1 p.2) more).length ≤ _
    rw [List.length_cons]; omega
end My

namespace My
open PySem PySem.Spec PyProof.Rows L2 GD
def condK (lg : List (Nat × L2.Key)) (sv : List (L2.Key × D)) (k : L2.Key) (ns : List Int) : Bool := decide (ns.length = 1) && (decide ((slotsK lg k).length = 1) && !(valD sv k).isSome)
def headI (ns : List Int) : D := .int (ns.headD 0)
def sucF (lg : List (Nat × L2.Key)) (sv : List (L2.Key × D)) (A : List (L2.Key × List Int)) (acc : List (L2.Key × D)) : List (L2.Key × D) := A.foldl (fun acc p => if condK lg sv p.1 p.2 = true then putD acc p.1 (headI p.2) else acc) acc
theorem sucF_val (lg : List (Nat × L2.Key)) (sv : List (L2.Key × D)) (k : L2.Key) : ∀ (A : List (L2.Key × List Int)) (acc : List (L2.Key × D)), (keysG A).Nodup →
    (k ∉ keysG A → valD (sucF lg sv A acc) k = valD acc k) ∧ ∀ p ∈ A, p.1 = k → valD (sucF lg sv A acc) k = if condK lg sv k p.2 = true then some (headI p.2) else valD acc k
  | [], acc, _ => ⟨fun _ => rfl, fun p h => (List.not_mem_nil h).elim⟩
  | q :: A, acc, nd => by
    have nd' : (q.1 :: keysG A).Nodup := nd
    obtain ⟨n1, n2⟩ := List.nodup_cons.mp nd'
    have e : sucF lg sv (q :: A) acc = sucF lg sv A (if condK lg sv q.1 q.2 = true then putD acc q.1 (headI q.2) else acc) := rfl
    obtain ⟨i1, i2⟩ := sucF_val lg sv k A (if condK lg sv q.1 q.2 = true then putD acc q.1 (headI q.2) else acc) n2
    have hv : valD (if condK lg sv q.1 q.2 = true then putD acc q.1 (headI q.2) else acc) k = if q.1 = k ∧ condK lg sv q.1 q.2 = true then some (headI q.2) else valD acc k := by
      by_cases c : condK lg sv q.1 q.2 = true
      · rw [if_pos c, valD_put]
        by_cases h : q.1 = k
        · rw [if_pos h.symm, if_pos ⟨h, c⟩]
        · rw [if_neg (fun z => h z.symm), if_neg (fun z => h z.1)]
      · rw [if_neg c, if_neg (fun z => c z.2)]
    rw [e]
    refine ⟨fun h => ?_, fun p hp hk => ?_⟩
    · have h' : k ∉ q.1 :: keysG A := h
      rw [i1 (fun z => h' (List.mem_cons_of_mem _ z)), hv, if_neg]
      exact fun z => h' (by rw [z.1]; exact List.mem_cons_self)
    · rcases List.mem_cons.mp hp with rfl | hp
      · rw [i1 (by rw [← hk]; exact n1), hv]
        subst hk
        by_cases c : condK lg sv p.1 p.2 = true
        · rw [if_pos c, if_pos ⟨rfl, c⟩]
        · rw [if_neg c, if_neg (fun z => c z.2)]
      · have hne : ¬ q.1 = k := fun z => n1 (by rw [z, ← hk]; exact List.mem_map_of_mem hp)
        have hn : ¬ (q.1 = k ∧ condK lg sv q.1 q.2 = true) := fun z => hne z.1
        have hv' := hv
        rw [if_neg hn] at hv'
        rw [i2 p hp hk, hv']
abbrev itG (p : L2.Key × List Int) : D := .tuple [keyD p.1, .list (p.2.map .int)]
abbrev G67 : D → En → Option En := (gT 2 (gsCons (gN 6) (gsCons (gN 7) gsNil)))
noncomputable abbrev SB : EvS := (sIf (tfAnd (tVal (eOp dEq (eCa cLen (aCons (eVar 7) aNil)) (eC (.int 1)))) (tfAnd (tVal (eOp dEq (eCa cLen (aCons (eGet2 (eVar 3) (eVar 6) (eX (xM (eLst aNil)))) aNil)) (eC (.int 1)))) (tVal (eOp dDNotIn (eVar 6) (eVar 4))))) (sDPutE 5 (eVar 6) (eOp dIx (eVar 7) (eC (.int 0)))) sNext)
theorem len1_eq (n : Nat) : dEq (.int (n : Int)) (.int 1) = some (.bool (decide (n = 1))) := by
  have := c_eqI (i := (n : Int)) (j := 1)
  rw [this]
  by_cases h : n = 1
  · subst h; rfl
  · have h' : ¬ (n : Int) = 1 := by omega
    simp [h, h']
theorem keyD_of (k : L2.Key) : keyOfD (keyD k) = some k := by cases k <;> rfl
theorem suc_step {lg : List (Nat × L2.Key)} {B : List (L2.Key × List Int)} (GB : GrpOk B lg) (sv acc : List (L2.Key × D)) (hacc : acc.length ≤ 1000) (p : L2.Key × List Int) (ds : List D) (o0 o1 o2 o6 o7 o8 o9 o10 o11 o12 o13 o14 : Option Sl) :
    forE G67 SB (itG p :: ds) [o0, o1, o2, some (.shr (dictI B)), some (.own false (.m sv)), some (.own false (.m acc)), o6, o7, o8, o9, o10, o11, o12, o13, o14]
      = forE G67 SB ds [o0, o1, o2, some (.shr (dictI B)), some (.own false (.m sv)), some (.own false (.m (if condK lg sv p.1 p.2 = true then putD acc p.1 (headI p.2) else acc))), some (.shr (keyD p.1)), some (.shr (.list (p.2.map .int))), o8, o9, o10, o11, o12, o13, o14] := by
  obtain ⟨k, ns⟩ := p
  have c1 : cLen [.list (ns.map PyData.int)] = some (.int (ns.length : Int)) := by rw [c_lenL, List.length_map]
  have q1 := len1_eq ns.length
  have c2 : cLen [.list ((slotsK lg k).map PyData.int)] = some (.int ((slotsK lg k).length : Int)) := by rw [c_lenL, List.length_map]
  have q2 := len1_eq (slotsK lg k).length
  have q3 : dDNotIn (keyD k) (Mu.toD (.m sv)) = some (.bool (!(valD sv k).isSome)) := by
    unfold dDNotIn
    rw [dictOf_toD, keyD_of]
    rfl
  have gx : ∀ o4 o5, eGet2 (eVar 3) (eVar 6) (eX (xM (eLst aNil))) [o0, o1, o2, some (.shr (dictI B)), o4, o5, some (.shr (keyD k)), some (.shr (.list (ns.map .int))), o8, o9, o10, o11, o12, o13, o14]
      = some (.val (.list ((slotsK lg k).map .int)), [o0, o1, o2, some (.shr (dictI B)), o4, o5, some (.shr (keyD k)), some (.shr (.list (ns.map .int))), o8, o9, o10, o11, o12, o13, o14]) := fun o4 o5 => by
    have h5 : dGet2 (dictI B) (keyD k) = some ((B.find? fun p => decide (p.1 = k)).map fun p => .list (p.2.map .int)) := by
      unfold dGet2 dictI
      have := pairsOf_map (B.map fun p => (p.1, PyData.list (p.2.map .int)))
      rw [List.map_map] at this
      show ((dictOf _).bind fun kvs => (keyOfD (keyD k)).map fun k => valD kvs k) = _
      rw [show dictOf (PyData.dict (B.map fun p => (keyD p.1, PyData.list (p.2.map .int)))) = some (B.map fun p => (p.1, PyData.list (p.2.map .int))) from this, keyD_of]
      simp only [Option.bind_some, Option.map_some]
      rw [valD_map]
    rw [get2_val (r := .val (dictI B)) (fz := eX (xM (eLst aNil))) (z := .list []) (by rfl) (by rfl) (by rfl) rfl h5]
    · have := grp_look GB k
      cases hf : B.find? fun p => decide (p.1 = k) with
      | none => rw [hf] at this; rw [← this]; rfl
      | some p => rw [hf] at this; rw [← this]; rfl
    · exact PyData.none
  have pd := q_dput (p := false) (i := 5) (env := [o0, o1, o2, some (.shr (dictI B)), some (.own false (.m sv)), some (.own false (.m acc)), some (.shr (keyD k)), some (.shr (.list (ns.map .int))), o8, o9, o10, o11, o12, o13, o14]) (fk := eVar 6) (fe := eOp dIx (eVar 7) (eC (.int 0))) (w := headI ns) (kd := keyD k) (k := k) (kvs := acc)
  have hd : ns.length = 1 → dIx (.list (ns.map .int)) (.int 0) = some (headI ns) := fun h => by
    match ns, h with
    | [n], _ => rfl
  change forE G67 SB (.tuple [keyD k, .list (ns.map .int)] :: ds) _ = forE G67 SB ds [o0, o1, o2, some (.shr (dictI B)), some (.own false (.m sv)), some (.own false (.m (if condK lg sv k ns = true then putD acc k (headI ns) else acc))), some (.shr (keyD k)), some (.shr (.list (ns.map .int))), o8, o9, o10, o11, o12, o13, o14]
  unfold condK
  by_cases b1 : ns.length = 1
  · have hd := hd b1
    have pd := pd (by
      clear pd gx q1 q2 q3 c1 c2 b1
      generalize PyData.list (ns.map .int) = L at *
      walk_at "gd") (by rfl) (keyD_of k) (by rfl) (by omega)
    simp only [List.set_cons_succ, List.set_cons_zero] at pd
    rw [decide_eq_true b1] at q1 ⊢
    clear b1 hd GB hacc
    generalize decide ((slotsK lg k).length = 1) = b2 at *
    generalize (valD sv k).isSome = b3 at *
    generalize Mu.m sv = MS at *
    generalize putD acc k (headI ns) = ACC at *
    generalize PyData.list ((slotsK lg k).map .int) = L2 at *
    generalize (((slotsK lg k).length : Nat) : Int) = N2 at *
    generalize ((ns.length : Nat) : Int) = N1 at *
    generalize PyData.list (ns.map .int) = L at *
    generalize keyD k = KK at *
    generalize dictI B = BB at *
    unfold SB G67
    cases b2 <;> cases b3 <;> simp only [Bool.and_true, Bool.and_false, Bool.not_true, Bool.not_false, Bool.true_and, Bool.false_and, Bool.false_eq_true, if_true, if_false] at * <;> walk_at "gd"
  · rw [decide_eq_false b1] at q1 ⊢
    clear b1 hd GB hacc pd q2 c2 gx q3
    generalize ((ns.length : Nat) : Int) = N1 at *
    generalize PyData.list (ns.map .int) = L at *
    generalize keyD k = KK at *
    generalize dictI B = BB at *
    unfold SB G67
    simp only [Bool.false_and, Bool.false_eq_true, if_false]
    walk_at "gd"
end My

namespace My
open PySem PySem.Spec PyProof.Rows L2 GD
theorem suc_loop {lg : List (Nat × L2.Key)} {B : List (L2.Key × List Int)} (GB : GrpOk B lg) (sv : List (L2.Key × D)) (o0 o1 o2 o8 o9 o10 o11 o12 o13 o14 : Option Sl) : ∀ (A : List (L2.Key × List Int)) (acc : List (L2.Key × D)) (o6 o7 : Option Sl), acc.length + A.length ≤ 1000 →
    ∃ p6 p7 : Option Sl, forE G67 SB (A.map itG) [o0, o1, o2, some (.shr (dictI B)), some (.own false (.m sv)), some (.own false (.m acc)), o6, o7, o8, o9, o10, o11, o12, o13, o14]
      = some (.nx, [o0, o1, o2, some (.shr (dictI B)), some (.own false (.m sv)), some (.own false (.m (sucF lg sv A acc))), p6, p7, o8, o9, o10, o11, o12, o13, o14])
  | [], acc, o6, o7, _ => ⟨o6, o7, rfl⟩
  | p :: A, acc, o6, o7, h => by
    rw [List.length_cons] at h
    have hl : (if condK lg sv p.1 p.2 = true then putD acc p.1 (headI p.2) else acc).length ≤ acc.length + 1 := by
      split
      · exact putD_len _ _ _
      · omega
    obtain ⟨p6, p7, ih⟩ := suc_loop GB sv o0 o1 o2 o8 o9 o10 o11 o12 o13 o14 A (if condK lg sv p.1 p.2 = true then putD acc p.1 (headI p.2) else acc) (some (.shr (keyD p.1))) (some (.shr (.list (p.2.map .int)))) (by omega)
    refine ⟨p6, p7, ?_⟩
    rw [List.map_cons, suc_step GB sv acc (by omega)]
    exact ih
def slotsN (l : List (Nat × L2.Key)) (k : L2.Key) : List Nat := (l.filter fun q => decide (q.2 = k)).map (·.1)
theorem slotsKN (l : List (Nat × L2.Key)) (k : L2.Key) : slotsK l k = (slotsN l k).map fun i : Nat => (i : Int) := by unfold slotsK slotsN; rw [List.map_map]; rfl
theorem slotsN_mem {l : List (Nat × L2.Key)} {k : L2.Key} {i : Nat} : i ∈ slotsN l k ↔ (i, k) ∈ l := by
  unfold slotsN
  rw [List.mem_map]
  constructor
  · rintro ⟨q, hq, rfl⟩
    have h := List.mem_filter.mp hq
    have e : q.2 = k := by simpa using h.2
    rw [← e]; exact h.1
  · intro h
    exact ⟨(i, k), List.mem_filter.mpr ⟨h, by simp⟩, rfl⟩
def fol (ls lg : List (Nat × L2.Key)) (sv : List (L2.Key × D)) (k : L2.Key) : Option Nat := if condK lg sv k (slotsK ls k) = true then (slotsN ls k).head? else none
theorem fol_val {ls lg : List (Nat × L2.Key)} {A : List (L2.Key × List Int)} (GA : GrpOk A ls) (sv : List (L2.Key × D)) (k : L2.Key) : valD (sucF lg sv A []) k = (fol ls lg sv k).map nI := by
  obtain ⟨i1, i2⟩ := sucF_val lg sv k A [] GA.nd
  unfold fol
  by_cases hk : k ∈ keysG A
  · obtain ⟨p, hp, e⟩ := List.mem_map.mp hk
    rw [i2 p hp e, GA.val p hp, e]
    split
    · rename_i c
      have h1 : (slotsK ls k).length = 1 := by
        unfold condK at c
        simp only [Bool.and_eq_true, decide_eq_true_eq] at c
        exact c.1
      rw [slotsKN] at h1 ⊢
      rw [List.length_map] at h1
      match slotsN ls k, h1 with
      | [j], _ => rfl
    · rfl
  · rw [i1 hk]
    have : slotsK ls k = [] := slotsK_nil fun z => hk ((GA.mem k).mpr z)
    rw [this]
    rfl
theorem fol_mem {ls lg : List (Nat × L2.Key)} {sv : List (L2.Key × D)} {k : L2.Key} {y : Nat} (h : fol ls lg sv k = some y) : (y, k) ∈ ls ∧ (slotsN lg k).length = 1 := by
  unfold fol at h
  split at h
  · rename_i c
    refine ⟨slotsN_mem.mp (List.mem_of_mem_head? (by rw [h]; rfl)), ?_⟩
    unfold condK at c
    simp only [Bool.and_eq_true, decide_eq_true_eq] at c
    have := c.2.1
    rw [slotsKN, List.length_map] at this
    exact this
  · cases h
def svS (s g : List (Option Str)) : List (L2.Key × D) := setN (sortT (safeN s g)) []
def fF (s g : List (Option Str)) (x : Nat) : Option Nat := fol (byS s (heldS s g)) (byS g (heldS s g)) (svS s g) (keyE (obj g x))
def sucS (s g : List (Option Str)) : List (L2.Key × D) := sucF (byS g (heldS s g)) (svS s g) (outG s g) []
theorem byS_mem {s : List (Option Str)} {l : List Nat} {i : Nat} {k : L2.Key} : (i, k) ∈ byS s l ↔ i ∈ l ∧ k = keyE (obj s i) := by
  unfold byS
  rw [List.mem_map]
  constructor
  · rintro ⟨j, hj, e⟩
    cases e
    exact ⟨hj, rfl⟩
  · rintro ⟨h, rfl⟩
    exact ⟨i, h, rfl⟩
theorem suc_ok (s g : List (Option Str)) : SucOk g (heldS s g) (fF s g) (sucS s g) := fun x hx => ⟨(held_some hx).2.1, fol_val (grpL_ok0 _) _ _⟩
theorem inj_ok (s g : List (Option Str)) : Inj (fF s g) (heldS s g) where
  to := fun x y h => (byS_mem.mp (fol_mem h).1).1
  inj := fun x x' y hx hx' h h' => by
    obtain ⟨a1, a2⟩ := fol_mem h
    obtain ⟨b1, b2⟩ := fol_mem h'
    have e1 := (byS_mem.mp a1).2
    have e2 := (byS_mem.mp b1).2
    have m1 : x ∈ slotsN (byS g (heldS s g)) (keyE (obj g x)) := slotsN_mem.mpr (byS_mem.mpr ⟨hx, rfl⟩)
    have m2 : x' ∈ slotsN (byS g (heldS s g)) (keyE (obj g x)) := slotsN_mem.mpr (byS_mem.mpr ⟨hx', e1.trans e2.symm⟩)
    match slotsN (byS g (heldS s g)) (keyE (obj g x)), a2, m1, m2 with
    | [z], _, m1, m2 => rw [List.mem_singleton.mp m1, List.mem_singleton.mp m2]
def pureC (s g : List (Option Str)) : List (List Nat) := pureL (fF s g) (heldS s g).length (heldS s g) [] []
theorem pureC_ok (s g : List (Option Str)) : (pureC s g).flatten.Nodup ∧ ∀ x ∈ (pureC s g).flatten, x ∈ heldS s g := pureL_nil (inj_ok s g) _ fun _ h => h
abbrev G012 : D → En → Option En := (gT 3 (gsCons (gN 10) (gsCons (gN 11) (gsCons (gN 12) gsNil))))
noncomputable abbrev PB : EvS := (sSeq (sSetX 13 (xIf (tVal (eOp dDIn (eVar 10) (eVar 9))) (xE (eC .none)) (xCall m_cycle_from (aCons (eGive 10) (aCons (eGive 1) (aCons (eVar 5) aNil))))))
      (sIf (tVal (eNotN (eVar 13))) (sSeq (sDrop (eMt "list" gApp 8 (aCons (eGive 13) aNil)))
      (sDrop (eMt "dict" gUpdD 9 (aCons (eX (xM (eDC [14] (wAny (eGive 13)) (gN 14) tYesE (eGive 14) (eC (.bool true))))) aNil)))) sNext))
theorem din_met (met : List (L2.Key × D)) (i : Nat) : dDIn (nI i) (Mu.toD (.m met)) = some (.bool (valD met (kI i)).isSome) := by
  unfold dDIn
  rw [dictOf_toD]
  rfl
theorem pure_in {met : List (L2.Key × D)} {i : Nat} (h : (valD met (kI i)).isSome = true) (X Y : D) (ds : List D) (o0 o1 o2 o3 o4 o5 o8 o10 o11 o12 o13 o6 o7 : Option Sl) :
    forE G012 PB (.tuple [nI i, X, Y] :: ds) [o0, o1, o2, o3, o4, o5, o6, o7, o8, some (.own false (.m met)), o10, o11, o12, o13, none]
      = forE G012 PB ds [o0, o1, o2, o3, o4, o5, o6, o7, o8, some (.own false (.m met)), some (.shr (nI i)), some (.shr X), some (.shr Y), some (.shr .none), none] := by
  have d := din_met met i
  rw [h] at d
  unfold G012 PB
  clear h
  generalize Mu.m met = M at *
  generalize nI i = I at *
  walk_at "gd"
theorem pure_none {met kvs : List (L2.Key × D)} {i : Nat} {G : D} (h : (valD met (kI i)).isSome = false) (hc : m_cycle_from [.shr (nI i), .shr G, .own true (.m kvs)] = some (.val .none, [none, none, some (.m kvs)])) (X Y : D) (ds : List D) (o0 o2 o3 o4 o8 o10 o11 o12 o13 o6 o7 : Option Sl) :
    forE G012 PB (.tuple [nI i, X, Y] :: ds) [o0, some (.shr G), o2, o3, o4, some (.own false (.m kvs)), o6, o7, o8, some (.own false (.m met)), o10, o11, o12, o13, none]
      = forE G012 PB ds [o0, some (.shr G), o2, o3, o4, some (.own false (.m kvs)), o6, o7, o8, some (.own false (.m met)), some (.shr (nI i)), some (.shr X), some (.shr Y), some (.shr .none), none] := by
  have d := din_met met i
  rw [h] at d
  unfold G012 PB
  clear h
  generalize Mu.m met = M at *
  generalize Mu.m kvs = N at *
  generalize nI i = I at *
  walk_at "gd"
theorem pure_some {met kvs : List (L2.Key × D)} {i : Nat} {G : D} {l : List Nat} {fs : List D} (h : (valD met (kI i)).isSome = false) (hc : m_cycle_from [.shr (nI i), .shr G, .own true (.m kvs)] = some (.val (.tuple (l.map nI)), [none, none, some (.m kvs)])) (hf : fs.length ≤ 1000) (hm : met.length + l.length ≤ 100000)
    (X Y : D) (ds : List D) (o0 o2 o3 o4 o10 o11 o12 o13 o6 o7 : Option Sl) :
    forE G012 PB (.tuple [nI i, X, Y] :: ds) [o0, some (.shr G), o2, o3, o4, some (.own false (.m kvs)), o6, o7, some (.own false (.l fs)), some (.own false (.m met)), o10, o11, o12, o13, none]
      = forE G012 PB ds [o0, some (.shr G), o2, o3, o4, some (.own false (.m kvs)), o6, o7, some (.own false (.l (fs ++ [.tuple (l.map nI)]))), some (.own false (.m (mergeD met (setD l [])))), some (.shr (nI i)), some (.shr X), some (.shr Y), some (.shr (.tuple (l.map nI))), none] := by
  have d := din_met met i
  rw [h] at d
  have ap : gApp (.l fs) [.tuple (l.map nI)] = some (.l (fs ++ [.tuple (l.map nI)]), .none) := c_app (by omega)
  have hd := fun o8 o9 => dc_slots (env := [o0, some (.shr G), o2, o3, o4, some (.own false (.m kvs)), o6, o7, o8, o9, some (.shr (nI i)), some (.shr X), some (.shr Y), some (.shr (.tuple (l.map nI))), none]) (v := 14) (by simp) rfl l [] (by simp; omega)
  have sl := setD_len l []
  have up : gUpdD (.m met) [Mu.toD (.m (setD l []))] = some (.m (mergeD met (setD l [])), .none) := by
    show ((dictOf _).bind _) = _
    rw [dictOf_toD]
    simp only [Option.bind_some]
    rw [if_pos (show small (met.length + (setD l []).length) = true from decide_eq_true (by simp at sl; omega))]
  have nN : isN (.tuple (l.map nI)) = false := rfl
  have m0 : ∀ (k : Option (R × En)) (p : Bool), mtR0 "dict" k (some (p, Mu.m met)) = k := fun _ _ => rfl
  rw [c_toDm] at up
  unfold G012 PB
  clear h sl hf hm
  rw [c_toDm] at d
  generalize mergeD met (setD l []) = MM at *
  generalize (setD l []) = SD at *
  generalize hLL : l.map nI = LL at *
  generalize nI i = I at *
  walk_at "gd"
end My

namespace My
open PySem PySem.Spec PyProof.Rows L2 GD
def cT (c : List Nat) : D := .tuple (c.map nI)
theorem pure_loop {s g : List (Option Str)} (hU : (heldS s g).length ≤ 70) (o0 o2 o3 o4 o6 o7 : Option Sl) : ∀ (l : List Nat) (found : List (List Nat)) (met : List Nat) (metD : List (L2.Key × D)) (o10 o11 o12 o13 : Option Sl), (∀ x ∈ l, x ∈ heldS s g) →
    (∀ j, (valD metD (kI j)).isSome = decide (j ∈ met)) → found.length + l.length ≤ 1000 → metD.length + 70 * l.length ≤ 100000 →
    ∃ p9 p10 p11 p12 p13 : Option Sl, forE G012 PB (l.map (ndI s g)) [o0, some (.shr (.tuple (g.map eD))), o2, o3, o4, some (.own false (.m (sucS s g))), o6, o7, some (.own false (.l (found.map cT))), some (.own false (.m metD)), o10, o11, o12, o13, none]
      = some (.nx, [o0, some (.shr (.tuple (g.map eD))), o2, o3, o4, some (.own false (.m (sucS s g))), o6, o7, some (.own false (.l ((pureL (fF s g) (heldS s g).length l found met).map cT))), p9, p10, p11, p12, p13, none])
  | [], found, met, metD, o10, o11, o12, o13, _, _, _, _ => ⟨_, o10, o11, o12, o13, rfl⟩
  | i :: l, found, met, metD, o10, o11, o12, o13, hl, hm, hf, hd => by
    simp only [List.length_cons] at hf hd
    have hi := hl i List.mem_cons_self
    have hl' : ∀ x ∈ l, x ∈ heldS s g := fun x hx => hl x (List.mem_cons_of_mem _ hx)
    have J := inj_ok s g
    have hc := cycle_ok (suc_ok s g) J (fun x hx => (held_some hx).2.2.2) (by omega) hi
    rw [List.map_cons]
    unfold pureL
    by_cases h : i ∈ met
    · rw [if_pos h]
      obtain ⟨p9, p10, p11, p12, p13, ih⟩ := pure_loop hU o0 o2 o3 o4 o6 o7 l found met metD (some (.shr (nI i))) (some (.shr (eD (obj s i)))) (some (.shr (eD (obj g i)))) (some (.shr .none)) hl' hm (by omega) (by omega)
      refine ⟨p9, p10, p11, p12, p13, ?_⟩
      have hv : (valD metD (kI i)).isSome = true := by rw [hm]; exact decide_eq_true h
      exact (pure_in hv _ _ _ _ _ _ _ _ _ _ _ _ _ _ _ _).trans ih
    · rw [if_neg h]
      have hv : (valD metD (kI i)).isSome = false := by rw [hm]; exact decide_eq_false h
      cases e : chase (fF s g) i (heldS s g).length i with
      | none =>
        rw [e] at hc
        obtain ⟨p9, p10, p11, p12, p13, ih⟩ := pure_loop hU o0 o2 o3 o4 o6 o7 l found met metD (some (.shr (nI i))) (some (.shr (eD (obj s i)))) (some (.shr (eD (obj g i)))) (some (.shr .none)) hl' hm (by omega) (by omega)
        refine ⟨p9, p10, p11, p12, p13, ?_⟩
        exact (pure_none hv hc _ _ _ _ _ _ _ _ _ _ _ _ _ _).trans ih
      | some c =>
        rw [e] at hc
        obtain ⟨a1, a2, _, _⟩ := chase_ok J _ i [] c (Way.start hi) e
        have lc := nd_len a1 a2
        simp only [List.nil_append] at lc
        have hm' : ∀ j, (valD (mergeD metD (setD c [])) (kI j)).isSome = decide (j ∈ met ++ c) := fun j => by
          rw [merge_val, setD_val, hm]
          simp [valD]
        have ml := merge_len (setD c []) metD
        have sl := setD_len c []
        simp only [List.length_nil] at sl
        obtain ⟨p9, p10, p11, p12, p13, ih⟩ := pure_loop hU o0 o2 o3 o4 o6 o7 l (found ++ [c]) (met ++ c) (mergeD metD (setD c [])) (some (.shr (nI i))) (some (.shr (eD (obj s i)))) (some (.shr (eD (obj g i)))) (some (.shr (.tuple (c.map nI)))) hl' hm' (by rw [List.length_append]; simp; omega) (by omega)
        refine ⟨p9, p10, p11, p12, p13, ?_⟩
        have st := pure_some (fs := found.map cT) hv hc (by rw [List.length_map]; omega) (by omega) (eD (obj s i)) (eD (obj g i)) (l.map (ndI s g)) o0 o2 o3 o4 o10 o11 o12 o13 o6 o7
        refine st.trans ?_
        rw [List.map_append] at ih
        exact ih
theorem pure_ok (s g : List (Option Str)) (h1 : s.length ≤ 70) (h2 : g.length ≤ 70) : m_pure_cycles [.shr (.tuple (s.map eD)), .shr (.tuple (g.map eD))] = some (.new (.l ((pureC s g).map cT)), [none, none]) := by
  have e0 : env0 15 [.shr (.tuple (s.map eD)), .shr (.tuple (g.map eD))] = [some (.shr (.tuple (s.map eD))), some (.shr (.tuple (g.map eD))), none, none, none, none, none, none, none, none, none, none, none, none, none] := rfl
  have ed := edges_ok s g (by omega) (by omega)
  have sf := safe_ok s g h1 h2
  have nd := needs_ok s g (by omega) (by omega)
  have hl := held_len s g
  have l1 := sortT_le (safeN s g)
  have l2 : (safeN s g).length ≤ 120 := by
    unfold safeN
    rw [List.length_append]
    have k3 := kept_fresh s g h1 h2
    have k1 := List.length_filterMap_le (obj s) (keptL s g)
    have k2 := List.length_filterMap_le (obj g) (freshS s g)
    omega
  have dc := fun o2 o3 => dc_names (env := [some (.shr (.tuple (s.map eD))), some (.shr (.tuple (g.map eD))), o2, o3, none, none, none, none, none, none, none, none, none, none, none]) (v := 6) (by simp) rfl (sortT (safeN s g)) [] (by simp; omega)
  have gl : (outG s g).length ≤ 70 := by
    have := grpL_len (byS s (heldS s g)) []
    unfold outG
    simp only [byS, List.length_map, List.length_nil] at this
    unfold byS; omega
  obtain ⟨p6, p7, sl⟩ := suc_loop (grpL_ok0 (byS g (heldS s g))) (svS s g) (some (.shr (.tuple (s.map eD)))) (some (.shr (.tuple (g.map eD)))) (some (.shr (dictI (outG s g)))) none none none none none none none (outG s g) [] none none (by simp; omega)
  have fi : sForItems 2 G67 SB [some (.shr (.tuple (s.map eD))), some (.shr (.tuple (g.map eD))), some (.shr (dictI (outG s g))), some (.shr (dictI (inG s g))), some (.own false (.m (svS s g))), some (.own false (.m [])), none, none, none, none, none, none, none, none, none]
      = some (.nx, [some (.shr (.tuple (s.map eD))), some (.shr (.tuple (g.map eD))), some (.shr (dictI (outG s g))), some (.shr (dictI (inG s g))), some (.own false (.m (svS s g))), some (.own false (.m (sucS s g))), p6, p7, none, none, none, none, none, none, none]) := by
    have hd : dictOf (dictI (outG s g)) = some ((outG s g).map fun p => (p.1, .list (p.2.map .int))) := by
      have := pairsOf_map ((outG s g).map fun p => (p.1, PyData.list (p.2.map .int)))
      rw [List.map_map] at this
      exact this
    rw [q_forItems (by rfl) hd (List.all_eq_true.mpr fun p hp => by obtain ⟨a, _, rfl⟩ := List.mem_map.mp hp; rfl), List.map_map]
    exact sl
  obtain ⟨p9, p10, p11, p12, p13, pl⟩ := pure_loop (s := s) (g := g) (by omega) (some (.shr (.tuple (s.map eD)))) (some (.shr (dictI (outG s g)))) (some (.shr (dictI (inG s g)))) (some (.own false (.m (svS s g)))) p6 p7 (heldS s g) [] [] [] none none none none (fun _ h => h) (fun j => by simp [valD]) (by simp; omega) (by simp; omega)
  change forE G012 PB ((heldS s g).map (ndI s g)) _ = some (.nx, [_, _, _, _, _, _, _, _, some (.own false (.l ((pureC s g).map cT))), _, _, _, _, _, _]) at pl
  unfold svS at fi pl
  rw [List.map_nil] at pl
  clear sl l1 l2 gl hl h1 h2
  unfold m_pure_cycles b_pure_cycles
  rw [q_run, e0]
  unfold G67 SB at fi
  unfold G012 PB at pl
  generalize (pureC s g).map cT = PC at *
  generalize setN (sortT (safeN s g)) [] = SN at *
  generalize (sortT (safeN s g)).map PyData.str = SD at *
  generalize (heldS s g).map (ndI s g) = NN at *
  generalize sucS s g = SU at *
  generalize dictI (outG s g) = OG at *
  generalize dictI (inG s g) = IG at *
  generalize PyData.tuple (s.map eD) = S at *
  generalize PyData.tuple (g.map eD) = G at *
  walk_at "gd"
end My

namespace My
open PySem PySem.Spec PyProof.Rows L2 GD
variable {f : Nat → Option Nat} {U : List Nat} {i : Nat}
theorem chase_path : ∀ (k c : Nat) (l : List Nat), PathF f i (c :: l) → i ∉ l → l.length < k → chase f i k c = some (c :: l)
  | 0, c, l, _, _, h => absurd h (Nat.not_lt_zero _)
  | k + 1, c, [], h, _, _ => by
    have h : f c = some i := h
    unfold chase
    rw [h]
    simp
  | k + 1, c, d :: l, h, hi, hk => by
    obtain ⟨h1, h2⟩ := h
    have hd : d ≠ i := fun e => hi (by rw [e]; exact List.mem_cons_self)
    unfold chase
    rw [h1]
    simp only
    rw [if_neg hd, chase_path k d l h2 (fun z => hi (List.mem_cons_of_mem _ z)) (by simpa using hk)]
    rfl
structure Rounds (f : Nat → Option Nat) (U : List Nat) (L : List (List Nat)) : Prop where
  path : ∀ c ∈ L, ∃ i r, c = i :: r ∧ PathF f i c ∧ ∀ x ∈ c, i ≤ x
  asc : L.Pairwise fun a b => a.headD 0 < b.headD 0
  nd : L.flatten.Nodup
  sub : ∀ x ∈ L.flatten, x ∈ U
  all : ∀ i ∈ U, ∀ l, PathF f i l → i ∈ l → i ∈ L.flatten
theorem part_nd : ∀ {ls : List (List Nat)} {c : List Nat}, ls.flatten.Nodup → c ∈ ls → c.Nodup
  | l :: ls, c, h, hc => by
    rw [List.flatten_cons] at h
    obtain ⟨h1, h2, _⟩ := List.nodup_append.mp h
    rcases List.mem_cons.mp hc with rfl | hc
    · exact h1
    · exact part_nd h2 hc
theorem pureL_eq (J : Inj f U) (hU : U.Pairwise (· < ·)) {L : List (List Nat)} (R : Rounds f U L) : ∀ (l : List Nat) (found rst : List (List Nat)), (∃ p, U = p ++ l) → L = found ++ rst → (∀ c ∈ rst, c.headD 0 ∈ l) → pureL f U.length l found found.flatten = L
  | [], found, rst, _, hL, hr => by
    cases rst with
    | nil => rw [hL, List.append_nil]; rfl
    | cons c rst => exact absurd (hr c List.mem_cons_self) List.not_mem_nil
  | i :: l, found, rst, ⟨p, hp⟩, hL, hr => by
    have hs : ∃ p, U = p ++ l := ⟨p ++ [i], by rw [hp]; simp⟩
    have hi : i ∈ U := by rw [hp]; simp
    have up : ∀ x ∈ l, i < x := by
      rw [hp] at hU
      exact (List.pairwise_cons.mp (List.pairwise_append.mp hU).2.1).1
    have mf : ∀ c ∈ found, c ∈ L := fun c hc => by rw [hL]; exact List.mem_append_left _ hc
    have mr : ∀ c ∈ rst, c ∈ L := fun c hc => by rw [hL]; exact List.mem_append_right _ hc
    -- who of the others begins at i
    have whose : ∀ c ∈ rst, c.headD 0 ≠ i → c.headD 0 ∈ l := fun c hc hne => by
      rcases List.mem_cons.mp (hr c hc) with e | h
      · exact absurd e hne
      · exact h
    unfold pureL
    by_cases hm : i ∈ found.flatten
    · rw [if_pos hm]
      refine pureL_eq J hU R l found rst hs hL fun c hc => whose c hc fun e => ?_
      obtain ⟨d, hd, hid⟩ := List.mem_flatten.mp hm
      obtain ⟨j, r, rfl, _, _⟩ := R.path c (mr c hc)
      have e : j = i := e
      subst e
      have hnd := R.nd
      rw [hL, List.flatten_append] at hnd
      exact (List.nodup_append.mp hnd).2.2 j hm j (List.mem_flatten.mpr ⟨_, hc, List.mem_cons_self⟩) rfl
    · rw [if_neg hm]
      cases e : chase f i U.length i with
      | none =>
        simp only
        refine pureL_eq J hU R l found rst hs hL fun c hc => whose c hc fun e2 => ?_
        obtain ⟨j, r, rfl, hpth, _⟩ := R.path c (mr c hc)
        have e2 : j = i := e2
        subst e2
        have nd := part_nd R.nd (mr _ hc)
        have len := nd_len nd fun x hx => R.sub x (List.mem_flatten.mpr ⟨_, mr _ hc, hx⟩)
        rw [chase_path U.length j r hpth (List.nodup_cons.mp nd).1 (by rw [List.length_cons] at len; omega)] at e
        cases e
      | some c' =>
        simp only
        obtain ⟨a1, a2, a3, r', a4⟩ := chase_ok J _ i [] c' (Way.start hi) e
        have hin := R.all i hi c' a3 (by rw [a4]; exact List.mem_cons_self)
        rw [hL, List.flatten_append, List.mem_append] at hin
        rcases hin with hin | hin
        · exact absurd hin hm
        obtain ⟨c, hc, hic⟩ := List.mem_flatten.mp hin
        obtain ⟨j, r, rfl, hpth, hmin⟩ := R.path c (mr c hc)
        have hj : j = i := by
          have h1 := hmin i hic
          rcases List.mem_cons.mp (hr _ hc) with e2 | h
          · exact e2
          · have := up _ h
            have : i < j := this
            omega
        subst hj
        have nd := part_nd R.nd (mr _ hc)
        have len := nd_len nd fun x hx => R.sub x (List.mem_flatten.mpr ⟨_, mr _ hc, hx⟩)
        have ch := chase_path U.length j r hpth (List.nodup_cons.mp nd).1 (by rw [List.length_cons] at len; omega)
        have ec : c' = j :: r := by
          rw [e] at ch; exact Option.some.inj ch
        subst ec
        -- it is the first of the others
        match rst, hL, hr, hc, mr, whose with
        | c0 :: rsu, hL, hr, hc, mr, whose =>
          have e0 : c0 = j :: r := by
            rcases List.mem_cons.mp hc with e | h
            · exact e.symm
            · exfalso
              have hasc := R.asc
              rw [hL] at hasc
              have := (List.pairwise_cons.mp (List.pairwise_append.mp hasc).2.1).1 _ h
              have this : c0.headD 0 < j := this
              rcases List.mem_cons.mp (hr c0 List.mem_cons_self) with e | h2
              · omega
              · have := up _ h2
                omega
          subst e0
          have hfl : found.flatten ++ (j :: r) = (found ++ [j :: r]).flatten := by rw [List.flatten_append]; simp
          rw [hfl]
          refine pureL_eq J hU R l (found ++ [j :: r]) rsu hs (by rw [hL]; simp) fun c hc => ?_
          refine whose c (List.mem_cons_of_mem _ hc) fun e2 => ?_
          have hasc := R.asc
          rw [hL] at hasc
          have := (List.pairwise_cons.mp (List.pairwise_append.mp hasc).2.1).1 c hc
          have this : j < c.headD 0 := this
          omega
theorem pureL_rounds (J : Inj f U) (hU : U.Pairwise (· < ·)) {L : List (List Nat)} (R : Rounds f U L) : pureL f U.length U [] [] = L :=
  pureL_eq J hU R U [] L ⟨[], rfl⟩ rfl fun c hc => by
    obtain ⟨i, r, rfl, _, _⟩ := R.path c hc
    exact R.sub i (List.mem_flatten.mpr ⟨_, hc, List.mem_cons_self⟩)
end My

namespace My
open PySem PySem.Spec PyProof.Rows L2 GD
theorem only_one {l : List Nat} {y : Nat} (nd : l.Nodup) (h : ∀ x, x ∈ l ↔ x = y) : l = [y] := by
  match l, nd, h with
  | [], _, h => exact absurd ((h y).mpr rfl) List.not_mem_nil
  | [x], _, h => rw [(h x).mp List.mem_cons_self]
  | x :: z :: l, nd, h =>
    have a := (h x).mp List.mem_cons_self
    have b := (h z).mp (by simp)
    subst a
    subst b
    exact absurd List.mem_cons_self (List.nodup_cons.mp nd).1
theorem held_nd (s g : List (Option Str)) : (heldS s g).Nodup := by unfold heldS wrongS occ; exact ((List.nodup_range.filter _).filter _).filter _
theorem slotsN_byS (t : List (Option Str)) (l : List Nat) (k : L2.Key) : slotsN (byS t l) k = l.filter fun i => decide (keyE (obj t i) = k) := by
  unfold slotsN byS
  rw [List.filter_map, List.map_map]
  induction l with
  | nil => rfl
  | cons i l ih =>
    simp only [List.filter_cons, Function.comp] at ih ⊢
    split
    · rw [List.map_cons, ih]; rfl
    · exact ih
theorem mem_held {s g : List (Option Str)} {x : Nat} : x ∈ heldS s g ↔ (obj s x).isSome = true ∧ (obj g x).isSome = true ∧ obj s x ≠ obj g x := by
  unfold heldS wrongS occ
  rw [List.mem_filter, List.mem_filter, List.mem_filter, List.mem_range, decide_eq_true_eq]
  exact ⟨fun h => ⟨h.2, h.1.1.2, h.1.2⟩, fun h => ⟨⟨⟨obj_some h.2.1, h.2.1⟩, h.2.2⟩, h.1⟩⟩
theorem mem_fresh {s g : List (Option Str)} {x : Nat} : x ∈ freshS s g ↔ obj s x = none ∧ (obj g x).isSome = true := by
  unfold freshS wrongS occ
  rw [List.mem_filter, List.mem_filter, List.mem_filter, List.mem_range, decide_eq_true_eq]
  constructor
  · rintro ⟨⟨⟨_, h2⟩, _⟩, h4⟩
    exact ⟨by simpa using h4, h2⟩
  · rintro ⟨h1, h2⟩
    refine ⟨⟨⟨obj_some h2, h2⟩, fun e => ?_⟩, by rw [h1]; rfl⟩
    rw [← e, h1] at h2
    cases h2
theorem mem_kept {s g : List (Option Str)} {x : Nat} : x ∈ keptL s g ↔ (obj s x).isSome = true ∧ x ∉ heldS s g := by
  unfold keptL occ
  rw [List.mem_filter, List.mem_filter, List.mem_range]
  constructor
  · rintro ⟨⟨_, h2⟩, h3⟩
    exact ⟨h2, by simpa using h3⟩
  · rintro ⟨h1, h2⟩
    exact ⟨⟨obj_some h1, h1⟩, by simpa using h2⟩
theorem safe_kept {s g : List (Option Str)} {x : Nat} {w : Str} (h : obj s x = some w) (hx : x ∉ heldS s g) : w ∈ safeN s g := by
  unfold safeN
  exact List.mem_append_left _ (List.mem_filterMap.mpr ⟨x, mem_kept.mpr ⟨by rw [h]; rfl, hx⟩, h⟩)
theorem safe_fresh {s g : List (Option Str)} {x : Nat} {w : Str} (h : obj g x = some w) (hx : x ∈ freshS s g) : w ∈ safeN s g := by
  unfold safeN
  exact List.mem_append_right _ (List.mem_filterMap.mpr ⟨x, hx, h⟩)
theorem keyE_eq {v : Str} {b : Option Str} (hb : b.isSome = true) (h : keyE b = keyE (some v)) : b = some v := by
  cases b with
  | none => cases hb
  | some w => rw [Sum.inr.inj h]
theorem sv_not {s g : List (Option Str)} {w : Str} : (valD (svS s g) (.inr w)).isSome = false ↔ w ∉ safeN s g := by
  unfold svS
  rw [setN_val]
  simp [mem_sortT, valD]
theorem fol_uniq {s g : List (Option Str)} {x y : Nat} (hg : (obj g x).isSome = true) (h : fF s g x = some y) : y ∈ heldS s g ∧ obj s y = obj g x ∧ (∀ z, obj s z = obj g x → z = y) ∧ ∀ z ∈ freshS s g, obj g z ≠ obj g x := by
  have m := byS_mem.mp (fol_mem h).1
  obtain ⟨hy, e⟩ := m
  have sy := (mem_held.mp hy).1
  cases hv : obj s y with
  | none => rw [hv] at sy; cases sy
  | some v =>
    rw [hv] at e
    have eg := keyE_eq hg e
    have hc : condK (byS g (heldS s g)) (svS s g) (keyE (obj g x)) (slotsK (byS s (heldS s g)) (keyE (obj g x))) = true := by
      unfold fF My.fol at h
      split at h
      · assumption
      · cases h
    unfold condK at hc
    simp only [Bool.and_eq_true, decide_eq_true_eq, Bool.not_eq_true'] at hc
    obtain ⟨c1, c2, c3⟩ := hc
    rw [slotsKN, List.length_map] at c1
    rw [eg] at c3
    have ns : v ∉ safeN s g := sv_not.mp c3
    refine ⟨hy, eg.symm, fun z hz => ?_, fun z hz e2 => ?_⟩
    · rw [eg] at hz
      by_cases q : z ∈ heldS s g
      · have z1 : z ∈ slotsN (byS s (heldS s g)) (keyE (obj g x)) := slotsN_mem.mpr (byS_mem.mpr ⟨q, by rw [eg, hz]⟩)
        have y1 : y ∈ slotsN (byS s (heldS s g)) (keyE (obj g x)) := slotsN_mem.mpr (byS_mem.mpr ⟨hy, by rw [eg, hv]⟩)
        obtain ⟨t, ht⟩ := List.length_eq_one_iff.mp c1
        rw [ht, List.mem_singleton] at z1 y1
        rw [z1, y1]
      · exact absurd (safe_kept hz q) ns
    · rw [eg] at e2
      exact ns (safe_fresh e2 hz)
theorem fol_some {s g : List (Option Str)} {x y : Nat} (hx : x ∈ heldS s g) (hy : y ∈ heldS s g) (e : obj s y = obj g x) (h1 : ∀ z, obj s z = obj g x → z = y) (h2 : ∀ z ∈ heldS s g, obj g z = obj g x → z = x) (h3 : ∀ z ∈ freshS s g, obj g z ≠ obj g x) : fF s g x = some y := by
  cases hw : obj g x with
  | none => have := (mem_held.mp hx).2.1; rw [hw] at this; cases this
  | some w =>
    have o1 : slotsN (byS s (heldS s g)) (keyE (some w)) = [y] := by
      rw [slotsN_byS]
      refine only_one ((held_nd s g).filter _) fun z => ?_
      rw [List.mem_filter, decide_eq_true_eq]
      constructor
      · rintro ⟨hz, ez⟩
        exact h1 z (by rw [hw]; exact keyE_eq (mem_held.mp hz).1 ez)
      · rintro rfl
        exact ⟨hy, by rw [e, hw]⟩
    have o2 : slotsN (byS g (heldS s g)) (keyE (some w)) = [x] := by
      rw [slotsN_byS]
      refine only_one ((held_nd s g).filter _) fun z => ?_
      rw [List.mem_filter, decide_eq_true_eq]
      constructor
      · rintro ⟨hz, ez⟩
        exact h2 z hz (by rw [hw]; exact keyE_eq (mem_held.mp hz).2.1 ez)
      · rintro rfl
        exact ⟨hx, by rw [hw]⟩
    have ns : w ∉ safeN s g := fun h => by
      unfold safeN at h
      rcases List.mem_append.mp h with h | h
      · obtain ⟨i, hi, ei⟩ := List.mem_filterMap.mp h
        have : i = y := h1 i (by rw [ei, hw])
        rw [this] at hi
        exact (mem_kept.mp hi).2 hy
      · obtain ⟨i, hi, ei⟩ := List.mem_filterMap.mp h
        exact h3 i hi (by rw [ei, hw])
    have sv := sv_not.mpr ns
    unfold fF
    rw [hw]
    unfold My.fol
    have ck : condK (byS g (heldS s g)) (svS s g) (keyE (some w)) (slotsK (byS s (heldS s g)) (keyE (some w))) = true := by
      unfold condK
      rw [slotsKN, o1, slotsKN, o2]
      show (_ && (_ && !(valD (svS s g) (.inr w)).isSome)) = true
      rw [sv]
      rfl
    rw [if_pos ck, o1]
    rfl
end My

namespace My
open PySem PySem.Spec PyProof.Rows L2 GD
variable {f : Nat → Option Nat} {U : List Nat} {i c : Nat}
theorem path_app {i b0 : Nat} {b : List Nat} : ∀ (a : List Nat), a ≠ [] → (PathF f i (a ++ (b0 :: b)) ↔ PathF f b0 a ∧ PathF f i (b0 :: b))
  | [], h => absurd rfl h
  | [x], _ => Iff.rfl
  | x :: y :: r, _ => by
    have ih := path_app (i := i) (b0 := b0) (b := b) (y :: r) (by simp)
    show (f x = some y ∧ PathF f i (y :: r ++ b0 :: b)) ↔ (f x = some y ∧ PathF f b0 (y :: r)) ∧ PathF f i (b0 :: b)
    rw [ih, and_assoc]
theorem path_turn {a0 b0 : Nat} {a b : List Nat} (h : PathF f a0 ((a0 :: a) ++ (b0 :: b))) : PathF f b0 ((b0 :: b) ++ (a0 :: a)) := by
  obtain ⟨h1, h2⟩ := (path_app (a0 :: a) (by simp)).mp h
  exact (path_app (b0 :: b) (by simp)).mpr ⟨h2, h1⟩
theorem last_split : ∀ {l : List Nat} {i : Nat}, i ∈ l → ∃ a b, l = a ++ i :: b ∧ i ∉ b
  | x :: l, i, h => by
    by_cases q : i ∈ l
    · obtain ⟨a, b, e, n⟩ := last_split q
      exact ⟨x :: a, b, by rw [e]; rfl, n⟩
    · rcases List.mem_cons.mp h with rfl | h
      · exact ⟨[], l, rfl, q⟩
      · exact absurd h q
theorem path_from {l : List Nat} (h : PathF f i l) (hi : i ∈ l) : ∃ b, PathF f i (i :: b) ∧ i ∉ b ∧ ∀ x ∈ i :: b, x ∈ l := by
  obtain ⟨a, b, e, n⟩ := last_split hi
  have hs : ∀ x ∈ i :: b, x ∈ l := fun x hx => by rw [e]; exact List.mem_append_right _ hx
  cases a with
  | nil =>
    rw [List.nil_append] at e
    rw [e] at h
    exact ⟨b, h, n, hs⟩
  | cons a0 a =>
    rw [e] at h
    exact ⟨b, ((path_app (a0 :: a) (by simp)).mp h).2, n, hs⟩
theorem path_way (J : Inj f U) : ∀ (b : List Nat) (c : Nat) (pre : List Nat), Way f U i pre c → PathF f i (c :: b) → i ∉ b → (pre ++ c :: b).Nodup ∧ ∀ x ∈ c :: b, x ∈ U
  | [], c, pre, W, _, _ => ⟨W.nd, fun x hx => W.sub x (List.mem_append_right _ hx)⟩
  | d :: b, c, pre, W, h, n => by
    obtain ⟨h1, h2⟩ := h
    have hd : d ≠ i := fun e => n (by rw [e]; exact List.mem_cons_self)
    obtain ⟨a1, a2⟩ := path_way J b d (pre ++ [c]) (W.step J h1 hd) h2 fun z => n (List.mem_cons_of_mem _ z)
    refine ⟨by rw [List.append_assoc] at a1; exact a1, fun x hx => ?_⟩
    rcases List.mem_cons.mp hx with rfl | hx
    · exact W.sub x (by simp)
    · exact a2 x hx
structure Part (f : Nat → Option Nat) (U p : List Nat) (found : List (List Nat)) : Prop where
  path : ∀ c ∈ found, ∃ i r, c = i :: r ∧ PathF f i c ∧ ∀ x ∈ c, i ≤ x
  asc : found.Pairwise fun a b => a.headD 0 < b.headD 0
  nd : found.flatten.Nodup
  sub : ∀ x ∈ found.flatten, x ∈ U
  hd : ∀ c ∈ found, c.headD 0 ∈ p
  all : ∀ i ∈ p, ∀ l, PathF f i l → i ∈ l → i ∈ found.flatten
theorem pureL_part (J : Inj f U) (hU : U.Pairwise (· < ·)) : ∀ (l p : List Nat) (found : List (List Nat)), U = p ++ l → Part f U p found → Part f U U (pureL f U.length l found found.flatten)
  | [], p, found, hp, P => by
    rw [List.append_nil] at hp
    subst hp
    exact P
  | i :: l, p, found, hp, P => by
    have hp2 : U = (p ++ [i]) ++ l := by rw [hp]; simp
    have hi : i ∈ U := by rw [hp]; simp
    have dn : ∀ x ∈ p, x < i := by
      rw [hp] at hU
      exact fun x hx => (List.pairwise_append.mp hU).2.2 x hx i List.mem_cons_self
    have hd' : ∀ c ∈ found, c.headD 0 ∈ p ++ [i] := fun c hc => List.mem_append_left _ (P.hd c hc)
    unfold pureL
    by_cases hm : i ∈ found.flatten
    · rw [if_pos hm]
      refine pureL_part J hU l (p ++ [i]) found hp2 ⟨P.path, P.asc, P.nd, P.sub, hd', fun j hj l' h1 h2 => ?_⟩
      rcases List.mem_append.mp hj with hj | hj
      · exact P.all j hj l' h1 h2
      · rw [List.mem_singleton.mp hj]; exact hm
    · rw [if_neg hm]
      have key : ∀ l', PathF f i l' → i ∈ l' → ∃ b, chase f i U.length i = some (i :: b) := fun l' h1 h2 => by
        obtain ⟨b, b1, b2, _⟩ := path_from h1 h2
        obtain ⟨w1, w2⟩ := path_way J b i [] (Way.start hi) b1 b2
        have := nd_len w1 w2
        rw [List.nil_append, List.length_cons] at this
        exact ⟨b, chase_path U.length i b b1 b2 (by omega)⟩
      cases e : chase f i U.length i with
      | none =>
        simp only
        refine pureL_part J hU l (p ++ [i]) found hp2 ⟨P.path, P.asc, P.nd, P.sub, hd', fun j hj l' h1 h2 => ?_⟩
        rcases List.mem_append.mp hj with hj | hj
        · exact P.all j hj l' h1 h2
        · exfalso
          rw [List.mem_singleton.mp hj] at h1 h2
          obtain ⟨b, hb⟩ := key l' h1 h2
          rw [e] at hb
          cases hb
      | some c =>
        simp only
        obtain ⟨a1, a2, a3, r, a4⟩ := chase_ok J _ i [] c (Way.start hi) e
        rw [List.nil_append] at a1
        -- apart from what was found
        have apart : ∀ x ∈ c, x ∉ found.flatten := fun x hx hf => by
          obtain ⟨d, hd, xd⟩ := List.mem_flatten.mp hf
          obtain ⟨j, r', ed, pd, _⟩ := P.path d hd
          have cl : ∀ y ∈ d, ∃ z ∈ d, f y = some z := fun y hy => by
            rcases path_closed pd y hy with h | ⟨z, hz, h⟩
            · exact ⟨j, by rw [ed]; exact List.mem_cons_self, h⟩
            · exact ⟨z, hz, h⟩
          exact hm (List.mem_flatten.mpr ⟨d, hd, path_reach cl a3 x hx xd⟩)
        have mn : ∀ x ∈ c, i ≤ x := fun x hx => by
          have xU := a2 x hx
          rw [hp] at xU
          rcases List.mem_append.mp xU with h | h
          · exfalso
            obtain ⟨aa, bb, ec⟩ := List.append_of_mem hx
            cases aa with
            | nil =>
              rw [List.nil_append, a4] at ec
              have : i = x := (List.cons.inj ec).1
              have := dn x h
              omega
            | cons a0 aa =>
              have e0 : a0 = i := by
                rw [a4] at ec
                exact (List.cons.inj ec).1.symm
              subst e0
              rw [ec] at a3
              exact apart x hx (P.all x h _ (path_turn a3) (by simp))
          · rcases List.mem_cons.mp h with rfl | h
            · exact Nat.le_refl _
            · rw [hp] at hU
              have := (List.pairwise_cons.mp (List.pairwise_append.mp hU).2.1).1 x h
              omega
        have hfl : found.flatten ++ c = (found ++ [c]).flatten := by rw [List.flatten_append]; simp
        rw [hfl]
        refine pureL_part J hU l (p ++ [i]) (found ++ [c]) hp2 ⟨fun d hd => ?_, ?_, ?_, fun x hx => ?_, fun d hd => ?_, fun j hj l' h1 h2 => ?_⟩
        · rcases List.mem_append.mp hd with h | h
          · exact P.path d h
          · rw [List.mem_singleton.mp h]
            exact ⟨i, r, a4, a3, mn⟩
        · refine List.pairwise_append.mpr ⟨P.asc, List.pairwise_singleton _ _, fun a ha b hb => ?_⟩
          rw [List.mem_singleton.mp hb, a4]
          exact dn _ (P.hd a ha)
        · rw [← hfl]
          exact List.nodup_append.mpr ⟨P.nd, a1, fun x hx y hy e => apart y hy (e ▸ hx)⟩
        · rw [← hfl] at hx
          rcases List.mem_append.mp hx with h | h
          · exact P.sub x h
          · exact a2 x h
        · rcases List.mem_append.mp hd with h | h
          · exact hd' d h
          · rw [List.mem_singleton.mp h, a4]
            simp
        · rw [← hfl]
          rcases List.mem_append.mp hj with hj | hj
          · exact List.mem_append_left _ (P.all j hj l' h1 h2)
          · rw [List.mem_singleton.mp hj, a4]
            simp
theorem pureL_is (J : Inj f U) (hU : U.Pairwise (· < ·)) : Rounds f U (pureL f U.length U [] []) := by
  have P := pureL_part J hU U [] [] rfl ⟨fun c h => absurd h List.not_mem_nil, .nil, by simp, fun x h => absurd h (by simp), fun c h => absurd h List.not_mem_nil, fun i h => absurd h List.not_mem_nil⟩
  exact ⟨P.path, P.asc, P.nd, P.sub, P.all⟩
theorem held_up (s g : List (Option Str)) : (heldS s g).Pairwise (· < ·) := by
  unfold heldS wrongS occ
  exact ((List.pairwise_lt_range.filter _).filter _).filter _
theorem pureC_is (s g : List (Option Str)) : Rounds (fF s g) (heldS s g) (pureC s g) := pureL_is (inj_ok s g) (held_up s g)
theorem pureC_eq {s g : List (Option Str)} {L : List (List Nat)} (R : Rounds (fF s g) (heldS s g) L) : pureC s g = L := pureL_rounds (inj_ok s g) (held_up s g) R
theorem fol_iff {s g : List (Option Str)} {x y : Nat} (hx : x ∈ heldS s g) : fF s g x = some y ↔ y ∈ heldS s g ∧ obj s y = obj g x ∧ (∀ z, obj s z = obj g x → z = y) ∧ (∀ z ∈ heldS s g, obj g z = obj g x → z = x) ∧ ∀ z ∈ freshS s g, obj g z ≠ obj g x := by
  constructor
  · intro h
    obtain ⟨h1, h2, h3, h4⟩ := fol_uniq (mem_held.mp hx).2.1 h
    refine ⟨h1, h2, h3, fun z hz e => ?_, h4⟩
    have l1 := (fol_mem h).2
    obtain ⟨t, ht⟩ := List.length_eq_one_iff.mp l1
    have m1 : z ∈ slotsN (byS g (heldS s g)) (keyE (obj g x)) := slotsN_mem.mpr (byS_mem.mpr ⟨hz, by rw [e]⟩)
    have m2 : x ∈ slotsN (byS g (heldS s g)) (keyE (obj g x)) := slotsN_mem.mpr (byS_mem.mpr ⟨hx, rfl⟩)
    rw [ht, List.mem_singleton] at m1 m2
    rw [m1, m2]
  · rintro ⟨h1, h2, h3, h4, h5⟩
    exact fol_some hx h1 h2 h3 h4 h5
end My

namespace My
open PySem PySem.Spec PyProof.Rows L2 GD GDX
section
variable {H : List Nat} {near : Nat → Nat → Bool}
inductive Con (H : List Nat) (near : Nat → Nat → Bool) (x : Nat) : Nat → Prop
  | refl : Con H near x x
  | step {y z : Nat} : Con H near x y → y ∈ H → z ∈ H → near y z = true → Con H near x z
theorem Con.trans {x y z : Nat} (h : Con H near x y) (h' : Con H near y z) : Con H near x z := by
  induction h' with
  | refl => exact h
  | step _ a b c ih => exact .step ih a b c
theorem Con.symm (sy : ∀ x y, near x y = near y x) {x y : Nat} (h : Con H near x y) : Con H near y x := by
  induction h with
  | refl => exact .refl
  | step _ a b c ih => exact Con.trans (.step .refl b a (by rw [sy]; exact c)) ih
theorem Con.inside {O : Nat → Prop} (cl : ∀ x, O x → ∀ y ∈ H, near x y = true → O y) {x y : Nat} (hx : O x) (h : Con H near x y) : O y := by
  induction h with
  | refl => exact hx
  | step _ a b c ih => exact cl _ ih _ b c
def minN : List Nat → Nat
  | [] => 0
  | [a] => a
  | a :: b :: l => min a (minN (b :: l))
theorem minN_le : ∀ {l : List Nat} {x : Nat}, x ∈ l → minN l ≤ x
  | [a], x, h => by rw [List.mem_singleton] at h; subst h; exact Nat.le_refl _
  | a :: b :: l, x, h => by
    show min a (minN (b :: l)) ≤ x
    rcases List.mem_cons.mp h with rfl | h
    · exact Nat.min_le_left _ _
    · exact Nat.le_trans (Nat.min_le_right _ _) (minN_le h)
theorem minN_mem : ∀ {l : List Nat}, l ≠ [] → minN l ∈ l
  | [a], _ => List.mem_cons_self
  | a :: b :: l, _ => by
    show min a (minN (b :: l)) ∈ _
    rcases Nat.le_total a (minN (b :: l)) with h | h
    · rw [Nat.min_eq_left h]; exact List.mem_cons_self
    · rw [Nat.min_eq_right h]; exact List.mem_cons_of_mem _ (minN_mem (by simp))
def updM (H : List Nat) (near : Nat → Nat → Bool) (m : Nat → Nat) (x : Nat) : Nat → Nat := fun z => if z = x then minN ((H.filter (near x)).map m) else m z
def passM (H : List Nat) (near : Nat → Nat → Bool) (l : List Nat) (m : Nat → Nat) : Nat → Nat := l.foldl (updM H near) m
def runM (H : List Nat) (near : Nat → Nat → Bool) : Nat → Nat → Nat
  | 0 => fun x => x
  | n + 1 => passM H near H (runM H near n)
variable (rf : ∀ x, near x x = true)
include rf
theorem upd_le {m : Nat → Nat} {x : Nat} (hx : x ∈ H) (z : Nat) : updM H near m x z ≤ m z := by
  unfold updM
  split
  · rename_i e
    subst e
    exact minN_le (List.mem_map.mpr ⟨z, List.mem_filter.mpr ⟨hx, rf z⟩, rfl⟩)
  · exact Nat.le_refl _
theorem pass_le : ∀ {l : List Nat} {m : Nat → Nat}, (∀ x ∈ l, x ∈ H) → ∀ z, passM H near l m z ≤ m z
  | [], m, _, z => Nat.le_refl _
  | x :: l, m, h, z => Nat.le_trans (pass_le (l := l) (fun y hy => h y (List.mem_cons_of_mem _ hy)) z) (upd_le rf (h x List.mem_cons_self) z)
theorem pass_near : ∀ {l : List Nat} {m : Nat → Nat} {x y : Nat}, (∀ x ∈ l, x ∈ H) → x ∈ l → y ∈ H → near x y = true → passM H near l m x ≤ m y
  | a :: l, m, x, y, h, hx, hy, e => by
    have h' : ∀ x ∈ l, x ∈ H := fun y hy => h y (List.mem_cons_of_mem _ hy)
    by_cases q : x ∈ l
    · exact Nat.le_trans (pass_near (l := l) (m := updM H near m a) h' q hy e) (upd_le rf (h a List.mem_cons_self) y)
    · rcases List.mem_cons.mp hx with rfl | hx
      · refine Nat.le_trans (pass_le rf (l := l) h' x) ?_
        unfold updM
        rw [if_pos rfl]
        exact minN_le (List.mem_map.mpr ⟨y, List.mem_filter.mpr ⟨hy, e⟩, rfl⟩)
      · exact absurd hx q
def InvM (H : List Nat) (near : Nat → Nat → Bool) (m : Nat → Nat) : Prop := ∀ x ∈ H, m x ∈ H ∧ Con H near x (m x)
theorem upd_inv {m : Nat → Nat} (I : InvM H near m) {x : Nat} (hx : x ∈ H) : InvM H near (updM H near m x) := by
  intro z hz
  unfold updM
  split
  · rename_i e
    subst e
    have ne : ((H.filter (near z)).map m) ≠ [] := by
      intro q
      have : m z ∈ ((H.filter (near z)).map m) := List.mem_map.mpr ⟨z, List.mem_filter.mpr ⟨hx, rf z⟩, rfl⟩
      rw [q] at this; cases this
    obtain ⟨y, hy, e⟩ := List.mem_map.mp (minN_mem ne)
    obtain ⟨y1, y2⟩ := List.mem_filter.mp hy
    rw [← e]
    exact ⟨(I y y1).1, Con.trans (.step .refl hz y1 y2) (I y y1).2⟩
  · exact I z hz
theorem pass_inv : ∀ {l : List Nat} {m : Nat → Nat}, (∀ x ∈ l, x ∈ H) → InvM H near m → InvM H near (passM H near l m)
  | [], m, _, I => I
  | x :: l, m, h, I => pass_inv (l := l) (fun y hy => h y (List.mem_cons_of_mem _ hy)) (upd_inv rf I (h x List.mem_cons_self))
theorem run_inv : ∀ n, InvM H near (runM H near n)
  | 0 => fun x hx => ⟨hx, .refl⟩
  | n + 1 => pass_inv rf (fun _ h => h) (run_inv n)
omit rf in
theorem flt_le {p q : Nat → Bool} : ∀ {l : List Nat}, (∀ x ∈ l, p x = true → q x = true) → (l.filter p).length ≤ (l.filter q).length
  | [], _ => Nat.le_refl _
  | a :: l, h => by
    have ih := flt_le (l := l) fun x hx => h x (List.mem_cons_of_mem _ hx)
    rw [List.filter_cons, List.filter_cons]
    cases e : p a with
    | true => rw [h a List.mem_cons_self e]; simpa using ih
    | false =>
      cases q a with
      | true => simp only [if_true, List.length_cons]; have : (if false = true then a :: l.filter p else l.filter p) = l.filter p := if_neg (by decide); rw [this]; omega
      | false => simpa using ih
omit rf in
theorem flt_lt {p q : Nat → Bool} : ∀ {l : List Nat} {x : Nat}, (∀ x ∈ l, p x = true → q x = true) → x ∈ l → p x = false → q x = true → (l.filter p).length + 1 ≤ (l.filter q).length
  | a :: l, x, h, hx, h1, h2 => by
    have h' : ∀ x ∈ l, p x = true → q x = true := fun x hx => h x (List.mem_cons_of_mem _ hx)
    rw [List.filter_cons, List.filter_cons]
    by_cases e : x = a
    · subst e
      rw [h1, h2]
      have := flt_le h'
      simp only [if_true, List.length_cons]
      have e2 : (if false = true then x :: l.filter p else l.filter p) = l.filter p := if_neg (by decide)
      rw [e2]; omega
    · have hx' : x ∈ l := (List.mem_cons.mp hx).resolve_left e
      have ih := flt_lt h' hx' h1 h2
      cases e3 : p a with
      | true => rw [h a List.mem_cons_self e3]; simp only [if_true, List.length_cons]; omega
      | false =>
        have e2 : (if false = true then a :: l.filter p else l.filter p) = l.filter p := if_neg (by decide)
        rw [e2]
        cases q a with
        | true => simp only [if_true, List.length_cons]; omega
        | false => have e4 : (if false = true then a :: l.filter q else l.filter q) = l.filter q := if_neg (by decide)
                   rw [e4]; exact ih
variable (sy : ∀ x y, near x y = near y x)
include sy
theorem run_step {z : Nat} (hz : z ∈ H) (least : ∀ x ∈ H, Con H near z x → z ≤ x) : ∀ n, (∀ x ∈ H, Con H near z x → runM H near n x = z) ∨ n + 1 ≤ (H.filter fun x => decide (runM H near n x = z)).length
  | 0 => .inr (by
    have : z ∈ H.filter fun x => decide (runM H near 0 x = z) := List.mem_filter.mpr ⟨hz, decide_eq_true rfl⟩
    exact List.length_pos_of_mem this)
  | n + 1 => by
    have I := run_inv (H := H) rf n
    have I' := run_inv (H := H) rf (n + 1)
    have down : ∀ x, runM H near (n + 1) x ≤ runM H near n x := pass_le rf (fun _ h => h)
    have low : ∀ x ∈ H, Con H near z x → z ≤ runM H near (n + 1) x := fun x hx c => least _ (I' x hx).1 (c.trans (I' x hx).2)
    have back : ∀ x ∈ H, runM H near n x = z → Con H near z x := fun x hx e => by
      have := (I x hx).2.symm sy
      rw [e] at this; exact this
    rcases run_step hz least n with h | h
    · exact .inl fun x hx c => Nat.le_antisymm (by have := down x; rw [h x hx c] at this; exact this) (low x hx c)
    · by_cases q : ∀ y ∈ H, runM H near n y = z → ∀ x ∈ H, near y x = true → runM H near n x = z
      · refine .inl fun x hx c => ?_
        have zz : z ∈ H ∧ runM H near n z = z ∨ ∀ y ∈ H, runM H near n y ≠ z := by
          by_cases e : runM H near n z = z
          · exact .inl ⟨hz, e⟩
          · right
            intro y hy e'
            have cy := back y hy e'
            have le : ∀ k, runM H near k z ≤ z := fun k => by
              induction k with
              | zero => exact Nat.le_refl _
              | succ k ih => exact Nat.le_trans (pass_le rf (fun _ h => h) z) ih
            exact e (Nat.le_antisymm (le n) (least _ (I z hz).1 (I z hz).2))
        rcases zz with ⟨_, e⟩ | no
        · have := Con.inside (O := fun x => x ∈ H ∧ runM H near n x = z) (fun x o y hy ny => ⟨hy, q x o.1 o.2 y hy ny⟩) ⟨hz, e⟩ c
          exact Nat.le_antisymm (by have d := down x; rw [this.2] at d; exact d) (low x hx c)
        · exfalso
          have : (H.filter fun x => decide (runM H near n x = z)) = [] := List.filter_eq_nil_iff.mpr fun y hy => by simp [no y hy]
          rw [this] at h; simp at h
      · right
        have q' : ∃ y, y ∈ H ∧ runM H near n y = z ∧ ∃ x, x ∈ H ∧ near y x = true ∧ runM H near n x ≠ z := by
          refine Classical.byContradiction fun no => q fun y hy e x hx ny => Classical.byContradiction fun ne => no ⟨y, hy, e, x, hx, ny, ne⟩
        obtain ⟨y, hy, e, x, hx, ny, ne⟩ := q'
        have cx : Con H near z x := .step (back y hy e) hy hx ny
        have ex : runM H near (n + 1) x = z := Nat.le_antisymm (by have d := pass_near (m := runM H near n) rf (fun _ h => h) hx hy (by rw [sy]; exact ny); rw [e] at d; exact d) (low x hx cx)
        have := flt_lt (p := fun x => decide (runM H near n x = z)) (q := fun x => decide (runM H near (n + 1) x = z)) (l := H) (x := x)
          (fun w hw e1 => decide_eq_true (Nat.le_antisymm (by have d := down w; rw [of_decide_eq_true e1] at d; exact d) (low w hw (back w hw (of_decide_eq_true e1))))) hx (decide_eq_false ne) (decide_eq_true ex)
        omega
theorem run_all {z : Nat} (hz : z ∈ H) (least : ∀ x ∈ H, Con H near z x → z ≤ x) {x : Nat} (hx : x ∈ H) (c : Con H near z x) : runM H near H.length x = z := by
  rcases run_step rf sy hz least H.length with h | h
  · exact h x hx c
  · have := List.length_filter_le (fun x => decide (runM H near H.length x = z)) H
    omega
omit rf sy in
theorem least_of {x : Nat} : ∀ (n y : Nat), y ≤ n → y ∈ H → Con H near x y → ∃ z ∈ H, Con H near x z ∧ ∀ w ∈ H, Con H near x w → z ≤ w
  | n, y, hn, hy, c => by
    by_cases q : ∃ w ∈ H, Con H near x w ∧ w < y
    · obtain ⟨w, hw, cw, l⟩ := q
      match n, hn with
      | 0, hn => omega
      | n + 1, hn => exact least_of n w (by omega) hw cw
    · exact ⟨y, hy, c, fun w hw cw => Nat.le_of_not_lt fun l => q ⟨w, hw, cw, l⟩⟩
theorem mark_ok {x : Nat} (hx : x ∈ H) : runM H near H.length x ∈ H ∧ Con H near x (runM H near H.length x) ∧ (∀ w ∈ H, Con H near x w → runM H near H.length x ≤ w) ∧ ∀ w ∈ H, Con H near x w → runM H near H.length w = runM H near H.length x := by
  obtain ⟨z, hz, cz, lz⟩ := least_of x x (Nat.le_refl _) hx (.refl (H := H) (near := near))
  have cz' := cz.symm sy
  have all : ∀ w ∈ H, Con H near x w → runM H near H.length w = z := fun w hw cw => run_all rf sy hz (fun y hy c => lz y hy (cz.trans c)) hw (cz'.trans cw)
  have e := all x hx .refl
  rw [e]
  exact ⟨hz, cz, lz, all⟩
end
end My

namespace My
open PySem PySem.Spec PyProof.Rows L2 GD GDX
section
variable (s g : List (Option Str))
def nearS (x y : Nat) : Bool := (decide (obj s y = obj s x) || decide (obj s y = obj g x)) || (decide (obj g y = obj s x) || decide (obj g y = obj g x))
theorem nearS_iff {x y : Nat} : nearS s g x y = true ↔ (obj s y = obj s x ∨ obj s y = obj g x) ∨ (obj g y = obj s x ∨ obj g y = obj g x) := by
  unfold nearS
  simp only [Bool.or_eq_true, decide_eq_true_eq]
theorem near_rf (x : Nat) : nearS s g x x = true := (nearS_iff s g).mpr (.inl (.inl rfl))
theorem near_sy (x y : Nat) : nearS s g x y = nearS s g y x := by
  rw [Bool.eq_iff_iff, nearS_iff, nearS_iff]
  constructor
  · rintro ((h | h) | (h | h))
    · exact .inl (.inl h.symm)
    · exact .inr (.inl h.symm)
    · exact .inl (.inr h.symm)
    · exact .inr (.inr h.symm)
  · rintro ((h | h) | (h | h))
    · exact .inl (.inl h.symm)
    · exact .inr (.inl h.symm)
    · exact .inl (.inr h.symm)
    · exact .inr (.inr h.symm)
def markS : Nat → Nat := runM (heldS s g) (nearS s g) (heldS s g).length
def clsS (z : Nat) : List Nat := (heldS s g).filter fun x => decide (markS s g x = z)
def pureAt (x : Nat) : Bool := decide (((heldS s g).filter fun y => decide (obj s y = obj s x)).length = 1) && (decide (((heldS s g).filter fun y => decide (obj g y = obj s x)).length = 1) &&
  (decide (((heldS s g).filter fun y => decide (obj s y = obj g x)).length = 1) && (decide (((List.range s.length).filter fun i => decide (obj s i = obj s x) && !decide (i ∈ heldS s g)) = []) &&
  decide (((List.range g.length).filter fun i => decide (obj g i = obj s x) && (obj s i).isNone) = []))))
def pureB (z : Nat) : Bool := (clsS s g z).all (pureAt s g)
def leastS : List Nat := (heldS s g).filter fun z => decide (markS s g z = z)
def nxS (x : Nat) : Nat := (fF s g x).getD 0
def wk (f : Nat → Nat) : Nat → Nat → List Nat
  | 0, c => [c]
  | n + 1, c => c :: wk f n (f c)
def walkS (z : Nat) : List Nat := wk (nxS s g) ((clsS s g z).length - 1) z
def dueS : List (List Nat) := ((leastS s g).filter (pureB s g)).map (walkS s g)
variable {s g}
theorem len1 {l : List Nat} {p : Nat → Bool} (h : (l.filter p).length = 1) {x y : Nat} (hx : x ∈ l) (px : p x = true) (hy : y ∈ l) (py : p y = true) : x = y := by
  match e : l.filter p, h with
  | [a], _ =>
    have h1 : x ∈ [a] := by rw [← e]; exact List.mem_filter.mpr ⟨hx, px⟩
    have h2 : y ∈ [a] := by rw [← e]; exact List.mem_filter.mpr ⟨hy, py⟩
    rw [List.mem_singleton] at h1 h2
    rw [h1, h2]
theorem len1_of {l : List Nat} {p : Nat → Bool} (nd : l.Nodup) {y : Nat} (h : ∀ x, (x ∈ l ∧ p x = true) ↔ x = y) : (l.filter p).length = 1 := by
  rw [only_one (nd.filter p) fun x => by rw [List.mem_filter]; exact h x]; rfl
theorem mark_in {x : Nat} (hx : x ∈ heldS s g) : markS s g x ∈ heldS s g ∧ Con (heldS s g) (nearS s g) x (markS s g x) ∧ (∀ w ∈ heldS s g, Con (heldS s g) (nearS s g) x w → markS s g x ≤ w) ∧ ∀ w ∈ heldS s g, Con (heldS s g) (nearS s g) x w → markS s g w = markS s g x :=
  mark_ok (near_rf s g) (near_sy s g) hx
theorem mem_cls {z x : Nat} : x ∈ clsS s g z ↔ x ∈ heldS s g ∧ markS s g x = z := by
  unfold clsS
  rw [List.mem_filter, decide_eq_true_eq]
theorem mem_least {z : Nat} : z ∈ leastS s g ↔ z ∈ heldS s g ∧ markS s g z = z := by
  unfold leastS
  rw [List.mem_filter, decide_eq_true_eq]
theorem mark_least {x : Nat} (hx : x ∈ heldS s g) : markS s g x ∈ leastS s g := by
  obtain ⟨h1, h2, _, h4⟩ := mark_in hx
  exact mem_least.mpr ⟨h1, h4 _ h1 h2⟩
theorem cls_self {z : Nat} (hz : z ∈ leastS s g) : z ∈ clsS s g z := mem_cls.mpr (mem_least.mp hz)
theorem cls_con {z x : Nat} (hz : z ∈ leastS s g) (hx : x ∈ clsS s g z) : Con (heldS s g) (nearS s g) z x := by
  obtain ⟨h1, h2⟩ := mem_cls.mp hx
  obtain ⟨_, c, _⟩ := mark_in h1
  rw [h2] at c
  exact c.symm (near_sy s g)
theorem cls_near {z x y : Nat} (hx : x ∈ clsS s g z) (hy : y ∈ heldS s g) (n : nearS s g x y = true) : y ∈ clsS s g z := by
  obtain ⟨h1, h2⟩ := mem_cls.mp hx
  obtain ⟨_, _, _, h4⟩ := mark_in h1
  exact mem_cls.mpr ⟨hy, by rw [h4 y hy (.step .refl h1 hy n), h2]⟩
theorem cls_le {z x : Nat} (hx : x ∈ clsS s g z) : z ≤ x := by
  obtain ⟨h1, h2⟩ := mem_cls.mp hx
  have := (mark_in h1).2.2.1 x h1 .refl
  omega
theorem cls_nd (z : Nat) : (clsS s g z).Nodup := (held_nd s g).filter _
theorem orbit_closed {O : List Nat} (hO : ∀ x ∈ O, x ∈ heldS s g) (nxt : ∀ x ∈ O, ∃ y ∈ O, fF s g x = some y) (prv : ∀ x ∈ O, ∃ p ∈ O, fF s g p = some x) : ∀ x, x ∈ O → ∀ y ∈ heldS s g, nearS s g x y = true → y ∈ O := by
  intro x hx y hy n
  obtain ⟨y', h1, h2⟩ := nxt x hx
  obtain ⟨p, p1, p2⟩ := prv x hx
  obtain ⟨_, a2, a3, a4, _⟩ := (fol_iff (hO x hx)).mp h2
  obtain ⟨_, b2, b3, b4, _⟩ := (fol_iff (hO p p1)).mp p2
  rcases (nearS_iff s g).mp n with (e | e) | (e | e)
  · rw [b3 y (e.trans b2)]; exact hx
  · rw [a3 y e]; exact h1
  · rw [b4 y hy (e.trans b2)]; exact p1
  · rw [a4 y hy e]; exact hx
theorem pure_parts {x : Nat} (h : pureAt s g x = true) : ((heldS s g).filter fun y => decide (obj s y = obj s x)).length = 1 ∧ ((heldS s g).filter fun y => decide (obj g y = obj s x)).length = 1 ∧
    ((heldS s g).filter fun y => decide (obj s y = obj g x)).length = 1 ∧ ((List.range s.length).filter fun i => decide (obj s i = obj s x) && !decide (i ∈ heldS s g)) = [] ∧
    ((List.range g.length).filter fun i => decide (obj g i = obj s x) && (obj s i).isNone) = [] := by
  unfold pureAt at h
  simp only [Bool.and_eq_true, decide_eq_true_eq] at h
  exact h
theorem step_pure {z x : Nat} (hp : pureB s g z = true) (hx : x ∈ clsS s g z) : ∃ y ∈ clsS s g z, fF s g x = some y ∧ (clsS s g z).filter (fun w => decide (obj s w = obj g x)) = [y] := by
  have all := List.all_eq_true.mp hp
  obtain ⟨xH, _⟩ := mem_cls.mp hx
  obtain ⟨_, _, c3, _, _⟩ := pure_parts (all x hx)
  obtain ⟨y, hy⟩ : ∃ y, y ∈ (heldS s g).filter fun y => decide (obj s y = obj g x) := List.exists_mem_of_length_pos (by rw [c3]; decide)
  obtain ⟨yH, ye⟩ := List.mem_filter.mp hy
  have ye := of_decide_eq_true ye
  have yC : y ∈ clsS s g z := cls_near hx yH ((nearS_iff s g).mpr (.inl (.inr ye)))
  obtain ⟨_, d2, _, d4, d5⟩ := pure_parts (all y yC)
  have uni : ∀ w, obj s w = obj g x → w = y := fun w hw => by
    by_cases wH : w ∈ heldS s g
    · exact len1 c3 wH (decide_eq_true hw) yH (decide_eq_true ye)
    · exfalso
      have hs : (obj s w).isSome = true := by rw [hw]; exact (mem_held.mp xH).2.1
      have : w ∈ ((List.range s.length).filter fun i => decide (obj s i = obj s y) && !decide (i ∈ heldS s g)) :=
        List.mem_filter.mpr ⟨List.mem_range.mpr (obj_some hs), by simp [hw, ye, wH]⟩
      rw [d4] at this; cases this
  refine ⟨y, yC, (fol_iff xH).mpr ⟨yH, ye, uni, fun w wH hw => len1 d2 wH (decide_eq_true (by rw [hw, ye])) xH (decide_eq_true ye.symm), fun w wF hw => ?_⟩, ?_⟩
  · obtain ⟨f1, f2⟩ := mem_fresh.mp wF
    have : w ∈ ((List.range g.length).filter fun i => decide (obj g i = obj s y) && (obj s i).isNone) :=
      List.mem_filter.mpr ⟨List.mem_range.mpr (obj_some f2), by simp [hw, ye, f1]⟩
    rw [d5] at this; cases this
  · refine only_one ((cls_nd z).filter _) fun w => ?_
    rw [List.mem_filter, decide_eq_true_eq]
    exact ⟨fun h => uni w h.2, fun h => by rw [h]; exact ⟨yC, ye⟩⟩
theorem nx_of {x y : Nat} (h : fF s g x = some y) : nxS s g x = y := by unfold nxS; rw [h]; rfl
theorem wk_head (f : Nat → Nat) (n c : Nat) : ∃ r, wk f n c = c :: r := by cases n <;> exact ⟨_, rfl⟩
theorem wk_len (f : Nat → Nat) : ∀ n c, (wk f n c).length = n + 1
  | 0, _ => rfl
  | n + 1, c => by show (wk f n (f c)).length + 1 = _; rw [wk_len f n]
theorem wk_ok {z : Nat} (hz : z ∈ leastS s g) (hp : pureB s g z = true) : ∀ (n c : Nat) (pre : List Nat), Way (fF s g) (heldS s g) z pre c → (∀ x ∈ pre ++ [c], x ∈ clsS s g z) → z ∈ pre ++ [c] → (∀ x ∈ pre, ∃ y ∈ pre ++ [c], fF s g x = some y) →
    pre.length + 1 + n = (clsS s g z).length → PathF (fF s g) z (wk (nxS s g) n c) ∧ (pre ++ wk (nxS s g) n c).Nodup ∧ ∀ x ∈ pre ++ wk (nxS s g) n c, x ∈ clsS s g z
  | n, c, pre, W, hC, hzp, hn, hl => by
    have J := inj_ok s g
    have cm : c ∈ pre ++ [c] := List.mem_append_right _ List.mem_cons_self
    obtain ⟨d, dC, fd, _⟩ := step_pure hp (hC c cm)
    match n, hl with
    | 0, hl =>
      refine ⟨?_, W.nd, hC⟩
      have pm : (pre ++ [c]).Perm (clsS s g z) := nd_perm W.nd hC (by rw [List.length_append, List.length_singleton]; omega) (cls_nd z)
      have dm : d ∈ pre ++ [c] := pm.mem_iff.mpr dC
      show fF s g c = some z
      rcases W.cov d dm with e | ⟨x, hx, e⟩
      · rw [fd, e]
      · exfalso
        have := J.inj x c d (W.sub x (List.mem_append_left _ hx)) (W.sub c cm) e fd
        subst this
        exact (List.nodup_append.mp W.nd).2.2 x hx x List.mem_cons_self rfl
    | n + 1, hl =>
      have nz : d ≠ z := by
        intro e
        have cl := orbit_closed (s := s) (g := g) (O := pre ++ [c]) W.sub (fun x hx => by
          rcases List.mem_append.mp hx with hx | hx
          · exact hn x hx
          · rw [List.mem_singleton.mp hx]; exact ⟨z, hzp, by rw [fd, e]⟩) (fun x hx => by
          rcases W.cov x hx with e2 | ⟨p, h1, h2⟩
          · exact ⟨c, cm, by rw [fd, e, e2]⟩
          · exact ⟨p, List.mem_append_left _ h1, h2⟩)
        have sub : ∀ x ∈ clsS s g z, x ∈ pre ++ [c] := fun x hx => Con.inside (O := fun x => x ∈ pre ++ [c]) cl hzp (cls_con hz hx)
        have := nd_len (cls_nd (s := s) (g := g) z) sub
        rw [List.length_append, List.length_singleton] at this
        omega
      have W' := Way.step J W fd nz
      have e : nxS s g c = d := nx_of fd
      have hC' : ∀ x ∈ pre ++ [c] ++ [d], x ∈ clsS s g z := fun x hx => by
        rcases List.mem_append.mp hx with hx | hx
        · exact hC x hx
        · rw [List.mem_singleton.mp hx]; exact dC
      obtain ⟨r1, r2, r3⟩ := wk_ok hz hp n d (pre ++ [c]) W' hC' (List.mem_append_left _ hzp) (fun x hx => by
        rcases List.mem_append.mp hx with hx | hx
        · obtain ⟨y, h1, h2⟩ := hn x hx
          exact ⟨y, List.mem_append_left _ h1, h2⟩
        · rw [List.mem_singleton.mp hx]; exact ⟨d, List.mem_append_right _ List.mem_cons_self, fd⟩) (by rw [List.length_append, List.length_singleton]; omega)
      have ew : wk (nxS s g) (n + 1) c = c :: wk (nxS s g) n d := by show c :: wk (nxS s g) n (nxS s g c) = _; rw [e]
      rw [ew]
      have ea : pre ++ c :: wk (nxS s g) n d = pre ++ [c] ++ wk (nxS s g) n d := by simp
      rw [ea]
      refine ⟨?_, r2, r3⟩
      obtain ⟨r, er⟩ := wk_head (nxS s g) n d
      rw [er] at r1 ⊢
      exact ⟨fd, r1⟩
theorem walk_ok {z : Nat} (hz : z ∈ leastS s g) (hp : pureB s g z = true) : PathF (fF s g) z (walkS s g z) ∧ (walkS s g z).Nodup ∧ (∀ x ∈ walkS s g z, x ∈ clsS s g z) ∧ (walkS s g z).length = (clsS s g z).length ∧ ∃ r, walkS s g z = z :: r := by
  have hz' := cls_self hz
  have hl : 0 < (clsS s g z).length := List.length_pos_of_mem hz'
  obtain ⟨h1, h2, h3⟩ := wk_ok hz hp ((clsS s g z).length - 1) z [] (Way.start (mem_least.mp hz).1) (fun x hx => by rw [List.mem_singleton.mp hx]; exact hz') List.mem_cons_self (fun x hx => by cases hx) (by simp; omega)
  exact ⟨h1, h2, h3, by unfold walkS; rw [wk_len]; omega, wk_head _ _ _⟩
theorem path_nxt {f : Nat → Option Nat} {i : Nat} : ∀ {l : List Nat}, PathF f i l → i ∈ l → ∀ x ∈ l, ∃ y ∈ l, f x = some y := fun h hi x hx => by
  rcases path_closed h x hx with e | ⟨z, hz, e⟩
  · exact ⟨i, hi, e⟩
  · exact ⟨z, hz, e⟩
theorem path_prv {f : Nat → Option Nat} {i : Nat} : ∀ {l : List Nat} {c : Nat}, PathF f i (c :: l) → (∃ p ∈ c :: l, f p = some i) ∧ ∀ x ∈ l, ∃ p ∈ c :: l, f p = some x
  | [], c, h => ⟨⟨c, List.mem_cons_self, h⟩, fun x hx => by cases hx⟩
  | d :: l, c, h => by
    obtain ⟨⟨p, h1, h2⟩, h3⟩ := path_prv h.2
    refine ⟨⟨p, List.mem_cons_of_mem _ h1, h2⟩, fun x hx => ?_⟩
    rcases List.mem_cons.mp hx with rfl | hx
    · exact ⟨c, List.mem_cons_self, h.1⟩
    · obtain ⟨q, q1, q2⟩ := h3 x hx
      exact ⟨q, List.mem_cons_of_mem _ q1, q2⟩
theorem path_con {i : Nat} : ∀ {l : List Nat} {c : Nat}, (∀ x ∈ c :: l, x ∈ heldS s g) → PathF (fF s g) i (c :: l) → ∀ x ∈ c :: l, Con (heldS s g) (nearS s g) c x
  | [], c, _, _, x, hx => by rw [List.mem_singleton.mp hx]; exact .refl
  | d :: l, c, hU, h, x, hx => by
    rcases List.mem_cons.mp hx with rfl | hx
    · exact .refl
    · have hU' : ∀ x ∈ d :: l, x ∈ heldS s g := fun x hx => hU x (List.mem_cons_of_mem _ hx)
      have cH := hU c List.mem_cons_self
      obtain ⟨dH, e, _⟩ := (fol_iff cH).mp h.1
      exact Con.trans (.step .refl cH dH ((nearS_iff s g).mpr (.inl (.inr e)))) (path_con hU' h.2 x hx)
theorem due_rounds (s g : List (Option Str)) : Rounds (fF s g) (heldS s g) (dueS s g) where
  path := fun c hc => by
    obtain ⟨z, hz, rfl⟩ := List.mem_map.mp hc
    obtain ⟨z1, z2⟩ := List.mem_filter.mp hz
    obtain ⟨h1, _, h3, _, r, e⟩ := walk_ok z1 z2
    exact ⟨z, r, e, h1, fun x hx => cls_le (h3 x hx)⟩
  asc := by
    unfold dueS
    rw [List.pairwise_map]
    have up : (leastS s g).Pairwise (· < ·) := (held_up s g).filter _
    refine List.Pairwise.imp_of_mem ?_ (up.filter (pureB s g))
    intro a b ha hb lt
    obtain ⟨a1, a2⟩ := List.mem_filter.mp ha
    obtain ⟨b1, b2⟩ := List.mem_filter.mp hb
    obtain ⟨_, _, _, _, r, e⟩ := walk_ok a1 a2
    obtain ⟨_, _, _, _, r', e'⟩ := walk_ok b1 b2
    rw [e, e']
    exact lt
  nd := by
    unfold List.Nodup
    rw [List.pairwise_flatten]
    constructor
    · intro c hc
      obtain ⟨z, hz, rfl⟩ := List.mem_map.mp hc
      obtain ⟨z1, z2⟩ := List.mem_filter.mp hz
      exact (walk_ok z1 z2).2.1
    · unfold dueS
      rw [List.pairwise_map]
      have up : (leastS s g).Pairwise (· < ·) := (held_up s g).filter _
      refine List.Pairwise.imp_of_mem ?_ (up.filter (pureB s g))
      intro a b ha hb lt x hx y hy e
      obtain ⟨a1, a2⟩ := List.mem_filter.mp ha
      obtain ⟨b1, b2⟩ := List.mem_filter.mp hb
      have q1 := (mem_cls.mp ((walk_ok a1 a2).2.2.1 x hx)).2
      have q2 := (mem_cls.mp ((walk_ok b1 b2).2.2.1 y hy)).2
      rw [e] at q1
      omega
  sub := fun x hx => by
    obtain ⟨c, hc, hx⟩ := List.mem_flatten.mp hx
    obtain ⟨z, hz, rfl⟩ := List.mem_map.mp hc
    obtain ⟨z1, z2⟩ := List.mem_filter.mp hz
    exact (mem_cls.mp ((walk_ok z1 z2).2.2.1 x hx)).1
  all := fun i hi l hl il => by
    obtain ⟨b, hb, nb, _⟩ := path_from hl il
    obtain ⟨_, hU⟩ := path_way (inj_ok s g) b i [] (Way.start hi) hb nb
    have hU : ∀ x ∈ i :: b, x ∈ heldS s g := hU
    have nxt := path_nxt hb List.mem_cons_self
    have prv : ∀ x ∈ i :: b, ∃ p ∈ i :: b, fF s g p = some x := fun x hx => by
      obtain ⟨h1, h2⟩ := path_prv hb
      rcases List.mem_cons.mp hx with rfl | hx
      · exact h1
      · exact h2 x hx
    have cl := orbit_closed hU nxt prv
    have con := path_con hU hb
    have z1 : markS s g i ∈ leastS s g := mark_least hi
    have inO : ∀ x ∈ clsS s g (markS s g i), x ∈ i :: b := fun x hx => by
      refine Con.inside (O := fun x => x ∈ i :: b) cl List.mem_cons_self (Con.trans (mark_in hi).2.1 (cls_con z1 hx))
    have z2 : pureB s g (markS s g i) = true := by
      refine List.all_eq_true.mpr fun x hx => ?_
      have xO := inO x hx
      obtain ⟨p, p1, p2⟩ := prv x xO
      obtain ⟨y, y1, y2⟩ := nxt x xO
      have xH := hU x xO
      obtain ⟨yH, a2, a3, a4, a5⟩ := (fol_iff xH).mp y2
      obtain ⟨_, b2, b3, b4, b5⟩ := (fol_iff (hU p p1)).mp p2
      unfold pureAt
      simp only [Bool.and_eq_true, decide_eq_true_eq]
      refine ⟨?_, ?_, ?_, ?_, ?_⟩
      · exact len1_of (held_nd s g) (y := x) fun w => ⟨fun h => b3 w ((of_decide_eq_true h.2).trans b2), fun h => by subst h; exact ⟨xH, decide_eq_true rfl⟩⟩
      · exact len1_of (held_nd s g) (y := p) fun w => ⟨fun h => b4 w h.1 ((of_decide_eq_true h.2).trans b2), fun h => by subst h; exact ⟨hU _ p1, decide_eq_true b2.symm⟩⟩
      · exact len1_of (held_nd s g) (y := y) fun w => ⟨fun h => a3 w (of_decide_eq_true h.2), fun h => by subst h; exact ⟨yH, decide_eq_true a2⟩⟩
      · refine List.filter_eq_nil_iff.mpr fun w _ h => ?_
        simp only [Bool.and_eq_true, decide_eq_true_eq, Bool.not_eq_true', decide_eq_false_iff_not] at h
        exact h.2 (by rw [b3 w (h.1.trans b2)]; exact xH)
      · refine List.filter_eq_nil_iff.mpr fun w _ h => ?_
        simp only [Bool.and_eq_true, decide_eq_true_eq, Option.isNone_iff_eq_none] at h
        refine b5 w (mem_fresh.mpr ⟨h.2, ?_⟩) (h.1.trans b2)
        rw [h.1]; exact (mem_held.mp xH).1
    obtain ⟨_, h2, h3, h4, _⟩ := walk_ok z1 z2
    have pm := nd_perm h2 h3 (Nat.le_of_eq h4.symm) (cls_nd _)
    exact List.mem_flatten.mpr ⟨_, List.mem_map.mpr ⟨_, List.mem_filter.mpr ⟨z1, z2⟩, rfl⟩, pm.mem_iff.mpr (mem_cls.mpr ⟨hi, rfl⟩)⟩
theorem due_pure (s g : List (Option Str)) : pureC s g = dueS s g := pureC_eq (due_rounds s g)
end
end My

namespace My
open PySem PySem.Spec PyProof.Rows L2 GD GDX
theorem for_cons {gg : D → En → Option En} {b : EvS} {x : D} {xs : List D} {env e1 e2 : En} (h1 : gg x env = some e1) (h2 : b e1 = some (.nx, e2)) : forE gg b (x :: xs) env = forE gg b xs e2 := by
  simp only [forE, h1, h2, Option.bind_some]
abbrev EB : EvS := (sIf (tfAnd (tVal (eNotN (eOp dIx (eVar 0) (eVar 3)))) (tfAnd (tVal (eNotN (eOp dIx (eVar 1) (eVar 3)))) (tVal (eOp dNe (eOp dIx (eVar 0) (eVar 3)) (eOp dIx (eVar 1) (eVar 3)))))) (sDrop (eMt "list" gApp 2 (aCons (eTup (aCons (eGive 3) (aCons (eOp dIx (eVar 0) (eVar 3)) (aCons (eOp dIx (eVar 1) (eVar 3)) aNil)))) aNil))) sNext)
def hB (s g : List (Option Str)) (i : Nat) : Bool := (obj s i).isSome && ((obj g i).isSome && decide (obj s i ≠ obj g i))
theorem eb_ok (s g : List (Option Str)) (i : Nat) (l1 : i < s.length) (l2 : i < g.length) (acc : List D) (ha : acc.length ≤ 1000000) :
    EB [some (.shr (.tuple (s.map eD))), some (.shr (.tuple (g.map eD))), some (.own false (.l acc)), some (.shr (nI i))] = some (.nx, [some (.shr (.tuple (s.map eD))), some (.shr (.tuple (g.map eD))), some (.own false (.l (if hB s g i = true then acc ++ [ndI s g i] else acc))), some (.shr (nI i))]) := by
  have x1 : dIx (.tuple (s.map eD)) (nI i) = some (eD (obj s i)) := obj_at l1
  have x2 : dIx (.tuple (g.map eD)) (nI i) = some (eD (obj g i)) := obj_at l2
  have x3 := eD_ne (obj s i) (obj g i)
  unfold ndI hB EB
  clear l1 l2
  generalize obj s i = a at *
  generalize obj g i = b at *
  generalize nI i = I at *
  generalize PyData.tuple (s.map eD) = S at *
  generalize PyData.tuple (g.map eD) = G at *
  cases a with
  | none =>
    simp only [eD, Option.isSome_none, Bool.false_and, Bool.false_eq_true, if_false] at *
    clear x3
    walk_at "gd"
  | some v =>
    cases b with
    | none =>
      simp only [eD, Option.isSome_none, Option.isSome_some, Bool.false_and, Bool.and_false, Bool.false_eq_true, if_false] at *
      clear x3
      walk_at "gd"
    | some w =>
      by_cases e : (some v : Option Str) = some w
      · have t : decide ((some v : Option Str) ≠ some w) = false := decide_eq_false fun q => q e
        rw [t] at x3 ⊢
        simp only [eD, Option.isSome_some, Bool.true_and, Bool.false_eq_true, if_false] at *
        clear e t
        walk_at "gd"
      · have t : decide ((some v : Option Str) ≠ some w) = true := decide_eq_true e
        rw [t] at x3 ⊢
        simp only [eD, Option.isSome_some, Bool.true_and, if_true] at *
        clear e t
        walk_at "gd"
theorem edges_loop2 (s g : List (Option Str)) : ∀ (l : List Nat) (acc : List D) (o3 : Option Sl), (∀ i ∈ l, i < s.length ∧ i < g.length) → acc.length + l.length ≤ 1000000 →
    ∃ p3, forE (gN 3) EB (l.map nI) [some (.shr (.tuple (s.map eD))), some (.shr (.tuple (g.map eD))), some (.own false (.l acc)), o3]
      = some (.nx, [some (.shr (.tuple (s.map eD))), some (.shr (.tuple (g.map eD))), some (.own false (.l (acc ++ (l.filter (hB s g)).map (ndI s g)))), p3])
  | [], acc, o3, _, _ => ⟨o3, by simp [forE]⟩
  | i :: l, acc, o3, h, hl => by
    rw [List.length_cons] at hl
    obtain ⟨l1, l2⟩ := h i List.mem_cons_self
    have hb := eb_ok s g i l1 l2 acc (by omega)
    obtain ⟨p3, ih⟩ := edges_loop2 s g l (if hB s g i = true then acc ++ [ndI s g i] else acc) (some (.shr (nI i))) (fun j hj => h j (List.mem_cons_of_mem _ hj)) (by
      split
      · rw [List.length_append, List.length_singleton]; omega
      · omega)
    refine ⟨p3, ?_⟩
    rw [List.map_cons, for_cons rfl hb, ih, List.filter_cons]
    by_cases c : hB s g i = true
    · rw [if_pos c, if_pos c]; simp
    · rw [if_neg c, if_neg c]
theorem range_flt {p : Nat → Bool} (a : Nat) : ∀ k, (∀ i, a ≤ i → p i = false) → (List.range (a + k)).filter p = (List.range a).filter p
  | 0, _ => rfl
  | k + 1, h => by
    rw [← Nat.add_assoc, List.range_succ, List.filter_append, range_flt a k h]
    have : p (a + k) = false := h _ (by omega)
    simp [this]
theorem held_hB (s g : List (Option Str)) (n : Nat) (h1 : n ≤ g.length) (h2 : ∀ i, n ≤ i → hB s g i = false) : heldS s g = (List.range n).filter (hB s g) := by
  have e : heldS s g = (List.range g.length).filter (hB s g) := by
    unfold heldS wrongS occ
    rw [List.filter_filter, List.filter_filter]
    refine List.filter_congr fun i _ => ?_
    unfold hB
    cases (obj s i).isSome <;> cases (obj g i).isSome <;> cases decide (obj s i ≠ obj g i) <;> rfl
  have q := range_flt (p := hB s g) n (g.length - n) h2
  rw [show n + (g.length - n) = g.length by omega] at q
  rw [e, q]
theorem edges_ok2 (s g : List (Option Str)) (h1 : s.length ≤ 1000) (h2 : g.length ≤ 1000) : m__law_edges [.shr (.tuple (s.map eD)), .shr (.tuple (g.map eD))] = some (.new (.l ((heldS s g).map (ndI s g))), [none, none]) := by
  have e0 : env0 4 [.shr (.tuple (s.map eD)), .shr (.tuple (g.map eD))] = [some (.shr (.tuple (s.map eD))), some (.shr (.tuple (g.map eD))), none, none] := rfl
  have n1 : (((s.map eD).length : Nat) : Int) = (s.length : Int) := by rw [List.length_map]
  have n2 : (((g.map eD).length : Nat) : Int) = (g.length : Int) := by rw [List.length_map]
  obtain ⟨n, hn, l1, l2, l3⟩ : ∃ n : Nat, cMin2 [.int (((s.map eD).length : Nat) : Int), .int (((g.map eD).length : Nat) : Int)] = some (.int (n : Int)) ∧ n ≤ s.length ∧ n ≤ g.length ∧ (s.length ≤ n ∨ g.length ≤ n) := by
    rw [n1, n2, c_min2]
    split
    · exact ⟨g.length, rfl, by omega, by omega, by omega⟩
    · exact ⟨s.length, rfl, by omega, by omega, by omega⟩
  have hr := rng_nI n
  have out : ∀ i, n ≤ i → hB s g i = false := fun i hi => by
    unfold hB
    rcases l3 with l3 | l3
    · rw [obj_ge (s := s) (by omega)]; rfl
    · rw [obj_ge (s := g) (by omega)]; simp
  obtain ⟨p3, hl⟩ := edges_loop2 s g (List.range n) [] none (fun i hi => by have := List.mem_range.mp hi; omega) (by rw [List.length_range]; simp; omega)
  rw [← held_hB s g n l2 out, List.nil_append, ← hr] at hl
  have r1 : -4611686018427387904 ≤ (n : Int) := by omega
  have r2 : (n : Int) < 4611686018427387904 := by omega
  have r3 : rangeD 0 (n : Int).toNat = rangeD 0 n := rfl
  clear n1 n2 l1 l2 l3 out hr h1 h2
  have eb : b__law_edges = (sSeq (sSetX 2 (xM (eLst aNil))) (sSeq (sFor (wRng1 (aCons (eCa cMin2 (aCons (eCa cLen (aCons (eVar 0) aNil)) (aCons (eCa cLen (aCons (eVar 1) aNil)) aNil))) aNil)) (gN 3) EB) (sRetX (xE (eVar 2))))) := rfl
  generalize EB = B at *
  generalize (heldS s g).map (ndI s g) = NN at *
  unfold m__law_edges
  rw [eb, q_run, e0]
  walk_at "gd"
def mD (H : List Nat) (m : Nat → Nat) : List (L2.Key × D) := H.map fun i => (kI i, nI (m i))
theorem mD_val (m : Nat → Nat) (x : Nat) : ∀ H : List Nat, x ∈ H → valD (mD H m) (kI x) = some (nI (m x))
  | a :: H, h => by
    by_cases e : a = x
    · subst e; exact valD_eq rfl
    · have hx : x ∈ H := (List.mem_cons.mp h).resolve_left fun z => e z.symm
      show valD ((kI a, nI (m a)) :: mD H m) (kI x) = _
      rw [valD_neq (fun q => e (kI_inj.mp q))]
      exact mD_val m x H hx
theorem mD_get {H : List Nat} {m : Nat → Nat} {x : Nat} (h : x ∈ H) : dDGet (Mu.toD (.m (mD H m))) (nI x) = some (nI (m x)) := by
  unfold dDGet
  rw [dictOf_toD]
  exact mD_val m x H h
theorem mD_any {H : List Nat} {m : Nat → Nat} {x : Nat} : ((mD H m).any fun kv => decide (kv.1 = kI x)) = decide (x ∈ H) := by
  rw [Bool.eq_iff_iff, List.any_eq_true, decide_eq_true_eq]
  constructor
  · rintro ⟨p, hp, e⟩
    obtain ⟨i, hi, rfl⟩ := List.mem_map.mp hp
    rw [← kI_inj.mp (of_decide_eq_true e)]; exact hi
  · intro h
    exact ⟨_, List.mem_map.mpr ⟨x, h, rfl⟩, decide_eq_true rfl⟩
theorem mD_new {H : List Nat} {m : Nat → Nat} {x : Nat} (h : x ∉ H) : putD (mD H m) (kI x) (nI (m x)) = mD (H ++ [x]) m := by
  unfold putD
  rw [mD_any, if_neg (by simp [h])]
  unfold mD
  rw [List.map_append]; rfl
theorem mD_put {H : List Nat} {m : Nat → Nat} {x v : Nat} (h : x ∈ H) : putD (mD H m) (kI x) (nI v) = mD H (fun z => if z = x then v else m z) := by
  unfold putD
  rw [mD_any, if_pos (by simp [h])]
  unfold mD
  rw [List.map_map]
  refine List.map_congr_left fun i _ => ?_
  show (if kI i = kI x then (kI i, nI v) else (kI i, nI (m i))) = (kI i, nI (if i = x then v else m i))
  by_cases e : i = x
  · subst e; simp
  · rw [if_neg (fun q => e (kI_inj.mp q)), if_neg e]
theorem min_nI : ∀ {l : List Nat}, l ≠ [] → cMinL [.list (l.map nI)] = some (nI (minN l)) := fun {l} h => by
  have e : l.map nI = (zI l).map PyData.int := zI_D l
  have hz : zI l ≠ [] := by unfold zI; intro q; exact h (List.map_eq_nil_iff.mp q)
  rw [e, c_minL hz]
  obtain ⟨q1, q2⟩ := minI_spec (zI l) hz
  have r1 := minN_mem h
  obtain ⟨i, hi, ei⟩ := List.mem_map.mp q1
  have a1 : minI (zI l) ≤ ((minN l : Nat) : Int) := q2 _ (List.mem_map.mpr ⟨_, r1, rfl⟩)
  have a2 := minN_le hi
  show some (PyData.int (minI (zI l))) = some (PyData.int ((minN l : Nat) : Int))
  have : minI (zI l) = ((minN l : Nat) : Int) := by omega
  rw [this]
end My

namespace My
open PySem PySem.Spec PyProof.Rows L2 GD GDX
theorem inF2 {a b c : Option Str} (ha : a.isSome = true) (hb : b.isSome = true) (hc : c.isSome = true) : dInF (eD a) (.tuple [eD b, eD c]) = some (.bool (decide (a = b) || decide (a = c))) := by
  obtain ⟨x, rfl⟩ := Option.isSome_iff_exists.mp ha
  obtain ⟨y, rfl⟩ := Option.isSome_iff_exists.mp hb
  obtain ⟨z, rfl⟩ := Option.isSome_iff_exists.mp hc
  have e := inV_strs x [y, z]
  show some (PyData.bool (inV (.str x) [V.str y, V.str z])) = _
  rw [show inV (.str x) [V.str y, V.str z] = _ from e]
  simp only [List.any_cons, List.any_nil, Bool.or_false, Option.some.injEq]
  have e1 : decide (y = x) = decide (x = y) := by rw [decide_eq_decide]; exact eq_comm
  have e2 : decide (z = x) = decide (x = z) := by rw [decide_eq_decide]; exact eq_comm
  rw [e1, e2]
abbrev G234 : D → En → Option En := (gT 3 (gsCons (gN 2) (gsCons (gN 3) (gsCons (gN 4) gsNil))))
abbrev G789 : D → En → Option En := (gT 3 (gsCons (gN 7) (gsCons (gN 8) (gsCons (gN 9) gsNil))))
abbrev TN : EvT := (tfOr (tVal (eOp dInF (eVar 8) (eTup (aCons (eGive 3) (aCons (eGive 4) aNil))))) (tVal (eOp dInF (eVar 9) (eTup (aCons (eGive 3) (aCons (eGive 4) aNil))))))
abbrev FN : EvE := (eOp dDGet (eVar 1) (eVar 7))
abbrev S6 : EvS := (sSetX 6 (xM (eComp [7, 8, 9] (wAny (eGive 0)) G789 TN FN)))
abbrev P1 : EvS := (sDPutE 1 (eVar 2) (eCa cMinL (aCons (eVar 6) aNil)))
abbrev BB : EvS := sSeq S6 P1
abbrev cE (E : D) (kvs : List (L2.Key × D)) (o2 o3 o4 o5 o6 : Option Sl) : En := [some (.shr E), some (.own false (.m kvs)), o2, o3, o4, o5, o6, none, none, none, none]
theorem near_comp (s g : List (Option Str)) (m : Nat → Nat) (x : Nat) (hx : x ∈ heldS s g) (hl : (heldS s g).length ≤ 1000) (E : D) (o5 o6 : Option Sl) :
    compE [7, 8, 9] G789 TN FN ((heldS s g).map (ndI s g)) [] (cE E (mD (heldS s g) m) (some (.shr (nI x))) (some (.shr (eD (obj s x)))) (some (.shr (eD (obj g x)))) o5 o6)
      = some ((((heldS s g).filter (nearS s g x)).map m).map nI, cE E (mD (heldS s g) m) (some (.shr (nI x))) (some (.shr (eD (obj s x)))) (some (.shr (eD (obj g x)))) o5 o6) := by
  obtain ⟨sx, gx, _⟩ := mem_held.mp hx
  have hc := comp_flt (vs := [7, 8, 9]) (tg := G789) (ft := TN) (fe := FN) (env := cE E (mD (heldS s g) m) (some (.shr (nI x))) (some (.shr (eD (obj s x)))) (some (.shr (eD (obj g x)))) o5 o6) (ndI s g) (fun i => nI (m i)) (nearS s g x) (heldS s g) [] (by simp; omega) fun i hi ds acc hacc => by
    obtain ⟨si, gi, _⟩ := mem_held.mp hi
    have x1 := inF2 si sx gx
    have x2 := inF2 gi sx gx
    have x3 : dDGet (PyData.dict ((mD (heldS s g) m).map fun p => (keyD p.1, p.2))) (nI i) = some (nI (m i)) := mD_get (m := m) hi
    have e : nearS s g x i = ((decide (obj s i = obj s x) || decide (obj s i = obj g x)) || (decide (obj g i = obj s x) || decide (obj g i = obj g x))) := rfl
    rw [e]
    unfold ndI cE TN FN
    clear si gi sx gx hi hx hl e
    generalize (decide (obj s i = obj s x) || decide (obj s i = obj g x)) = b1 at *
    generalize (decide (obj g i = obj s x) || decide (obj g i = obj g x)) = b2 at *
    generalize eD (obj s i) = A at *
    generalize eD (obj g i) = B at *
    generalize eD (obj s x) = A' at *
    generalize eD (obj g x) = B' at *
    generalize nI (m i) = Y at *
    generalize nI i = I at *
    generalize nI x = X at *
    generalize mD (heldS s g) m = M at *
    cases b1 <;> cases b2 <;> simp only [Bool.or_true, Bool.or_false, Bool.false_eq_true, if_true, if_false] <;> walk_at "gd"
  rw [hc, List.nil_append, List.map_map]
  rfl
theorem s6_ok (s g : List (Option Str)) (m : Nat → Nat) (x : Nat) (hx : x ∈ heldS s g) (hl : (heldS s g).length ≤ 1000) (o5 o6 : Option Sl) :
    S6 (cE (.list ((heldS s g).map (ndI s g))) (mD (heldS s g) m) (some (.shr (nI x))) (some (.shr (eD (obj s x)))) (some (.shr (eD (obj g x)))) o5 o6)
      = some (.nx, cE (.list ((heldS s g).map (ndI s g))) (mD (heldS s g) m) (some (.shr (nI x))) (some (.shr (eD (obj s x)))) (some (.shr (eD (obj g x)))) o5 (some (.own false (.l ((((heldS s g).filter (nearS s g x)).map m).map nI))))) := by
  have hc := near_comp s g m x hx hl (.list ((heldS s g).map (ndI s g))) o5 o6
  clear hx hl
  unfold S6 cE at *
  generalize (((heldS s g).filter (nearS s g x)).map m).map nI = R at *
  generalize (heldS s g).map (ndI s g) = E at *
  generalize mD (heldS s g) m = M at *
  generalize eD (obj s x) = A' at *
  generalize eD (obj g x) = B' at *
  generalize nI x = X at *
  generalize TN = T at *
  generalize FN = F at *
  walk_at "gd"
theorem bb_ok (s g : List (Option Str)) (m : Nat → Nat) (x : Nat) (hx : x ∈ heldS s g) (hl : (heldS s g).length ≤ 1000) (o5 o6 : Option Sl) :
    BB (cE (.list ((heldS s g).map (ndI s g))) (mD (heldS s g) m) (some (.shr (nI x))) (some (.shr (eD (obj s x)))) (some (.shr (eD (obj g x)))) o5 o6)
      = some (.nx, cE (.list ((heldS s g).map (ndI s g))) (mD (heldS s g) (updM (heldS s g) (nearS s g) m x)) (some (.shr (nI x))) (some (.shr (eD (obj s x)))) (some (.shr (eD (obj g x)))) o5 (some (.own false (.l ((((heldS s g).filter (nearS s g x)).map m).map nI))))) := by
  have h6 := s6_ok s g m x hx hl o5 o6
  have ne : ((heldS s g).filter (nearS s g x)).map m ≠ [] := by
    intro q
    have : m x ∈ ((heldS s g).filter (nearS s g x)).map m := List.mem_map.mpr ⟨x, List.mem_filter.mpr ⟨hx, near_rf s g x⟩, rfl⟩
    rw [q] at this; cases this
  have hm := min_nI ne
  have hp := mD_put (m := m) (v := minN (((heldS s g).filter (nearS s g x)).map m)) hx
  have e : (fun z => if z = x then minN (((heldS s g).filter (nearS s g x)).map m) else m z) = updM (heldS s g) (nearS s g) m x := rfl
  rw [e] at hp
  have lm : (mD (heldS s g) m).length ≤ 1000000 := by unfold mD; rw [List.length_map]; omega
  show sSeq S6 P1 _ = _
  have hq : P1 (cE (.list ((heldS s g).map (ndI s g))) (mD (heldS s g) m) (some (.shr (nI x))) (some (.shr (eD (obj s x)))) (some (.shr (eD (obj g x)))) o5 (some (.own false (.l ((((heldS s g).filter (nearS s g x)).map m).map nI)))))
      = some (.nx, cE (.list ((heldS s g).map (ndI s g))) (mD (heldS s g) (updM (heldS s g) (nearS s g) m x)) (some (.shr (nI x))) (some (.shr (eD (obj s x)))) (some (.shr (eD (obj g x)))) o5 (some (.own false (.l ((((heldS s g).filter (nearS s g x)).map m).map nI))))) := by
    rw [← hp]
    clear hp e h6 ne
    generalize minN (((heldS s g).filter (nearS s g x)).map m) = V at *
    generalize (((heldS s g).filter (nearS s g x)).map m).map nI = R at *
    generalize (heldS s g).map (ndI s g) = E at *
    generalize mD (heldS s g) m = M at *
    refine q_dput (w := nI V) (kd := nI x) (k := kI x) (kvs := M) (p := false) ?_ rfl rfl rfl lm
    clear lm hx hl
    unfold cE
    generalize nI V = W at *
    walk_at "gd"
  clear hp e hm ne lm
  generalize S6 = A at *
  generalize P1 = B at *
  generalize cE (.list ((heldS s g).map (ndI s g))) (mD (heldS s g) m) (some (.shr (nI x))) (some (.shr (eD (obj s x)))) (some (.shr (eD (obj g x)))) o5 o6 = E1 at *
  generalize cE (.list ((heldS s g).map (ndI s g))) (mD (heldS s g) m) (some (.shr (nI x))) (some (.shr (eD (obj s x)))) (some (.shr (eD (obj g x)))) o5 (some (.own false (.l ((((heldS s g).filter (nearS s g x)).map m).map nI)))) = E2 at *
  walk_at "gd"
theorem inner_loop (s g : List (Option Str)) (hl : (heldS s g).length ≤ 1000) (o5 : Option Sl) : ∀ (l : List Nat) (m : Nat → Nat) (o2 o3 o4 o6 : Option Sl), (∀ x ∈ l, x ∈ heldS s g) →
    ∃ p2 p3 p4 p6, forE G234 BB (l.map (ndI s g)) (cE (.list ((heldS s g).map (ndI s g))) (mD (heldS s g) m) o2 o3 o4 o5 o6)
      = some (.nx, cE (.list ((heldS s g).map (ndI s g))) (mD (heldS s g) (passM (heldS s g) (nearS s g) l m)) p2 p3 p4 o5 p6)
  | [], m, o2, o3, o4, o6, _ => ⟨o2, o3, o4, o6, rfl⟩
  | x :: l, m, o2, o3, o4, o6, h => by
    have hb := bb_ok s g m x (h x List.mem_cons_self) hl o5 o6
    obtain ⟨p2, p3, p4, p6, ih⟩ := inner_loop s g hl o5 l (updM (heldS s g) (nearS s g) m x) (some (.shr (nI x))) (some (.shr (eD (obj s x)))) (some (.shr (eD (obj g x)))) (some (.own false (.l ((((heldS s g).filter (nearS s g x)).map m).map nI)))) fun y hy => h y (List.mem_cons_of_mem _ hy)
    refine ⟨p2, p3, p4, p6, ?_⟩
    rw [List.map_cons, for_cons (e1 := cE (.list ((heldS s g).map (ndI s g))) (mD (heldS s g) m) (some (.shr (nI x))) (some (.shr (eD (obj s x)))) (some (.shr (eD (obj g x)))) o5 o6) rfl hb]
    exact ih
abbrev FI : EvS := (sFor (wAny (eGive 0)) G234 BB)
theorem outer_loop (s g : List (Option Str)) (hl : (heldS s g).length ≤ 1000) : ∀ (l : List Nat) (n : Nat) (o2 o3 o4 o5 o6 : Option Sl),
    ∃ p2 p3 p4 p5 p6, forE (gN 5) FI (l.map (ndI s g)) (cE (.list ((heldS s g).map (ndI s g))) (mD (heldS s g) (runM (heldS s g) (nearS s g) n)) o2 o3 o4 o5 o6)
      = some (.nx, cE (.list ((heldS s g).map (ndI s g))) (mD (heldS s g) (runM (heldS s g) (nearS s g) (n + l.length))) p2 p3 p4 p5 p6)
  | [], n, o2, o3, o4, o5, o6 => ⟨o2, o3, o4, o5, o6, rfl⟩
  | x :: l, n, o2, o3, o4, o5, o6 => by
    obtain ⟨q2, q3, q4, q6, hi⟩ := inner_loop s g hl (some (.shr (ndI s g x))) (heldS s g) (runM (heldS s g) (nearS s g) n) o2 o3 o4 o6 fun y hy => hy
    obtain ⟨p2, p3, p4, p5, p6, ih⟩ := outer_loop s g hl l (n + 1) q2 q3 q4 (some (.shr (ndI s g x))) q6
    refine ⟨p2, p3, p4, p5, p6, ?_⟩
    have hf : FI (cE (.list ((heldS s g).map (ndI s g))) (mD (heldS s g) (runM (heldS s g) (nearS s g) n)) o2 o3 o4 (some (.shr (ndI s g x))) o6) = some (.nx, cE (.list ((heldS s g).map (ndI s g))) (mD (heldS s g) (runM (heldS s g) (nearS s g) (n + 1))) q2 q3 q4 (some (.shr (ndI s g x))) q6) := by
      show sFor (wAny (eGive 0)) G234 BB _ = _
      rw [q_for]
      exact hi
    rw [List.map_cons, for_cons (e1 := cE (.list ((heldS s g).map (ndI s g))) (mD (heldS s g) (runM (heldS s g) (nearS s g) n)) o2 o3 o4 (some (.shr (ndI s g x))) o6) rfl hf, ih, List.length_cons]
    rw [show n + 1 + l.length = n + (l.length + 1) by omega]
theorem init_loop (s g : List (Option Str)) (E : D) : ∀ (l pre : List Nat) (o2 o3 o4 : Option Sl), (pre ++ l).Nodup → pre.length + l.length ≤ 1000 →
    ∃ p2 p3 p4, forE G234 (sDPutE 1 (eVar 2) (eGive 2)) (l.map (ndI s g)) (cE E (mD pre fun x => x) o2 o3 o4 none none) = some (.nx, cE E (mD (pre ++ l) fun x => x) p2 p3 p4 none none)
  | [], pre, o2, o3, o4, _, _ => ⟨o2, o3, o4, by rw [List.append_nil]; rfl⟩
  | x :: l, pre, o2, o3, o4, nd, hl => by
    rw [List.length_cons] at hl
    have ea : pre ++ x :: l = (pre ++ [x]) ++ l := by simp
    have nx : x ∉ pre := fun q => by
      have := (List.nodup_append.mp nd).2.2 x q x List.mem_cons_self
      exact this rfl
    obtain ⟨p2, p3, p4, ih⟩ := init_loop s g E l (pre ++ [x]) (some (.shr (nI x))) (some (.shr (eD (obj s x)))) (some (.shr (eD (obj g x)))) (by rw [← ea]; exact nd) (by rw [List.length_append, List.length_singleton]; omega)
    refine ⟨p2, p3, p4, ?_⟩
    have hp := mD_new (m := fun x => x) nx
    have hq : sDPutE 1 (eVar 2) (eGive 2) (cE E (mD pre fun x => x) (some (.shr (nI x))) (some (.shr (eD (obj s x)))) (some (.shr (eD (obj g x)))) none none) = some (.nx, cE E (mD (pre ++ [x]) fun x => x) (some (.shr (nI x))) (some (.shr (eD (obj s x)))) (some (.shr (eD (obj g x)))) none none) := by
      rw [← hp]
      exact q_dput (w := nI x) (kd := nI x) (k := kI x) (kvs := mD pre fun x => x) (p := false) rfl rfl rfl rfl (by unfold mD; rw [List.length_map]; omega)
    rw [List.map_cons, for_cons (e1 := cE E (mD pre fun x => x) (some (.shr (nI x))) (some (.shr (eD (obj s x)))) (some (.shr (eD (obj g x)))) none none) rfl hq, ih, ea]
end My

namespace My
open PySem PySem.Spec PyProof.Rows L2 GD GDX
theorem eq_nI (a b : Nat) : dEq (nI a) (nI b) = some (.bool (decide (a = b))) := by
  have := c_eqI (i := (a : Int)) (j := (b : Int))
  unfold nI
  rw [this]
  by_cases h : a = b
  · subst h; simp
  · have h' : ¬ (a : Int) = (b : Int) := by omega
    simp [h, h']
theorem memU {k : Int} : ∀ l : List Int, k ∈ sortU l ↔ k ∈ l
  | [] => by simp [sortU]
  | a :: l => by
    show k ∈ insU a (sortU l) ↔ _
    rw [mem_insU, memU l, List.mem_cons]
abbrev INN : EvE := (eX (xM (eComp [2] (eKeysW 1) (gN 2) (tVal (eOp dEq (eOp dDGet (eVar 1) (eVar 2)) (eVar 10))) (eGive 2))))
abbrev sE (E D1 : D) (o2 o3 o4 o5 o6 o10 : Option Sl) : En := [some (.shr E), some (.shr D1), o2, o3, o4, o5, o6, none, none, none, o10]
theorem inn_comp (s g : List (Option Str)) (hl : (heldS s g).length ≤ 1000) (z : Nat) (E : D) (o3 o4 o5 o6 : Option Sl) :
    compE [2] (gN 2) (tVal (eOp dEq (eOp dDGet (eVar 1) (eVar 2)) (eVar 10))) (eGive 2) ((heldS s g).map nI) [] (sE E (Mu.toD (.m (mD (heldS s g) (markS s g)))) none o3 o4 o5 o6 (some (.shr (nI z))))
      = some ((clsS s g z).map nI, sE E (Mu.toD (.m (mD (heldS s g) (markS s g)))) none o3 o4 o5 o6 (some (.shr (nI z)))) := by
  have hc := comp_flt (vs := [2]) (tg := gN 2) (ft := tVal (eOp dEq (eOp dDGet (eVar 1) (eVar 2)) (eVar 10))) (fe := eGive 2) (env := sE E (Mu.toD (.m (mD (heldS s g) (markS s g)))) none o3 o4 o5 o6 (some (.shr (nI z)))) nI nI (fun x => decide (markS s g x = z)) (heldS s g) [] (by simp; omega) fun i hi ds acc hacc => by
    have x1 := mD_get (m := markS s g) hi
    have x2 := eq_nI (markS s g i) z
    clear hi hl
    unfold sE
    generalize Mu.toD (.m (mD (heldS s g) (markS s g))) = M at *
    generalize decide (markS s g i = z) = b at *
    generalize nI (markS s g i) = Y at *
    generalize nI i = I at *
    generalize nI z = Z at *
    cases b <;> simp only [Bool.false_eq_true, if_true, if_false] <;> walk_at "gd"
  rw [hc, List.nil_append]
  rfl
theorem inn_ok (s g : List (Option Str)) (hl : (heldS s g).length ≤ 1000) (z : Nat) (E : D) (o2 o3 o4 o5 o6 : Option Sl) :
    INN (sE E (Mu.toD (.m (mD (heldS s g) (markS s g)))) o2 o3 o4 o5 o6 (some (.shr (nI z))))
      = some (.val (.list ((clsS s g z).map nI)), sE E (Mu.toD (.m (mD (heldS s g) (markS s g)))) none o3 o4 o5 o6 (some (.shr (nI z)))) := by
  have hc := inn_comp s g hl z E o3 o4 o5 o6
  have hk : eKeysW 1 (sE E (Mu.toD (.m (mD (heldS s g) (markS s g)))) o2 o3 o4 o5 o6 (some (.shr (nI z)))) = some ((heldS s g).map nI, sE E (Mu.toD (.m (mD (heldS s g) (markS s g)))) o2 o3 o4 o5 o6 (some (.shr (nI z)))) := by
    have e : eKeysW 1 (sE E (Mu.toD (.m (mD (heldS s g) (markS s g)))) o2 o3 o4 o5 o6 (some (.shr (nI z)))) = (dictOf (Mu.toD (.m (mD (heldS s g) (markS s g))))).map fun kvs => (kvs.map fun p => keyD p.1, sE E (Mu.toD (.m (mD (heldS s g) (markS s g)))) o2 o3 o4 o5 o6 (some (.shr (nI z)))) := rfl
    rw [e, dictOf_toD]
    unfold mD
    rw [Option.map_some, List.map_map]
    rfl
  clear hl
  unfold sE at *
  unfold INN
  generalize Mu.toD (.m (mD (heldS s g) (markS s g))) = M at *
  generalize (clsS s g z).map nI = R at *
  generalize (heldS s g).map nI = H at *
  generalize nI z = Z at *
  generalize eKeysW 1 = KW at *
  generalize (tVal (eOp dEq (eOp dDGet (eVar 1) (eVar 2)) (eVar 10))) = T at *
  walk_at "gd"
theorem out_comp (s g : List (Option Str)) (hl : (heldS s g).length ≤ 1000) (E : D) (o3 o4 o5 o6 : Option Sl) : ∀ (l : List Nat) (acc : List D), acc.length + l.length ≤ 1000000 →
    compE [10] (gN 10) tYesE INN (l.map nI) acc (sE E (Mu.toD (.m (mD (heldS s g) (markS s g)))) none o3 o4 o5 o6 none)
      = some (acc ++ l.map fun z => PyData.list ((clsS s g z).map nI), sE E (Mu.toD (.m (mD (heldS s g) (markS s g)))) none o3 o4 o5 o6 none) := fun l acc ha => by
  have hc := comp_flt (vs := [10]) (tg := gN 10) (ft := tYesE) (fe := INN) (env := sE E (Mu.toD (.m (mD (heldS s g) (markS s g)))) none o3 o4 o5 o6 none) nI (fun z => PyData.list ((clsS s g z).map nI)) (fun _ => true) l acc ha fun z hz ds acc hacc => by
    have hi := inn_ok s g hl z E none o3 o4 o5 o6
    clear hz hl ha
    unfold sE at *
    generalize Mu.toD (.m (mD (heldS s g) (markS s g))) = M at *
    generalize (clsS s g z).map nI = R at *
    generalize nI z = Z at *
    generalize INN = IN at *
    simp only [if_true]
    walk_at "gd"
  rw [hc, List.filter_eq_self.mpr fun _ _ => rfl]
theorem out_comp2 (s g : List (Option Str)) (hl : (heldS s g).length ≤ 1000) (E : D) (o2 o3 o4 o5 o6 : Option Sl) : ∀ (l : List Nat), l.length ≤ 1000 →
    ∃ p2, compE [10] (gN 10) tYesE INN (l.map nI) [] (sE E (Mu.toD (.m (mD (heldS s g) (markS s g)))) o2 o3 o4 o5 o6 none)
      = some (l.map fun z => PyData.list ((clsS s g z).map nI), sE E (Mu.toD (.m (mD (heldS s g) (markS s g)))) p2 o3 o4 o5 o6 none)
  | [], _ => ⟨o2, rfl⟩
  | z :: l, h => by
    rw [List.length_cons] at h
    have hr := out_comp s g hl E o3 o4 o5 o6 l [PyData.list ((clsS s g z).map nI)] (by simp; omega)
    refine ⟨none, ?_⟩
    have hi := inn_ok s g hl z E o2 o3 o4 o5 o6
    rw [List.map_cons, List.map_cons]
    rw [List.singleton_append] at hr
    have hz : ([] : List D).length ≤ 1000000 := by decide
    clear hl h
    unfold sE at *
    generalize Mu.toD (.m (mD (heldS s g) (markS s g))) = M at *
    generalize PyData.list ((clsS s g z).map nI) = R at *
    generalize (l.map fun z => PyData.list ((clsS s g z).map nI)) = RR at *
    generalize l.map nI = L at *
    generalize nI z = Z at *
    generalize INN = IN at *
    rw [q_cpc]
    have e1 : gN 10 Z [some (Sl.shr E), some (Sl.shr M), o2, o3, o4, o5, o6, none, none, none, none] = some [some (Sl.shr E), some (Sl.shr M), o2, o3, o4, o5, o6, none, none, none, some (.shr Z)] := rfl
    rw [e1, q_cpg]
    have e2 : tYesE [some (Sl.shr E), some (Sl.shr M), o2, o3, o4, o5, o6, none, none, none, some (.shr Z)] = some (true, [some (Sl.shr E), some (Sl.shr M), o2, o3, o4, o5, o6, none, none, none, some (.shr Z)]) := rfl
    rw [e2, q_cpt, hi, q_cpe]
    have e3 : rk [some (Sl.shr E), some (Sl.shr M), none, o3, o4, o5, o6, none, none, none, some (.shr Z)] (.val R) = some R := rfl
    rw [e3, q_cpk hz]
    exact hr
theorem least_len (s g : List (Option Str)) : (leastS s g).length ≤ (heldS s g).length := List.length_filter_le _ _
theorem sset_marks (s g : List (Option Str)) (hl : (heldS s g).length < 64) : cSSet [.list ((mD (heldS s g) (markS s g)).map (·.2))] = some (.l ((leastS s g).map nI)) := by
  have e : (mD (heldS s g) (markS s g)).map (·.2) = (zI ((heldS s g).map (markS s g))).map PyData.int := by
    unfold mD zI
    rw [List.map_map, List.map_map, List.map_map]
    rfl
  rw [e, c_sset (by unfold zI; rw [List.length_map, List.length_map]; exact hl), zI_D]
  congr 2
  congr 1
  refine lt_uniq _ _ (sortU_lt _) ?_ fun k => ?_
  · unfold zI
    rw [List.pairwise_map]
    exact List.Pairwise.imp (fun {a b} (h : a < b) => by omega) (((held_up s g).filter _ : (leastS s g).Pairwise (· < ·)))
  · rw [memU]
    unfold zI
    rw [List.mem_map, List.mem_map]
    constructor
    · rintro ⟨v, hv, rfl⟩
      obtain ⟨x, hx, rfl⟩ := List.mem_map.mp hv
      exact ⟨_, mark_least hx, rfl⟩
    · rintro ⟨z, hz, rfl⟩
      obtain ⟨z1, z2⟩ := mem_least.mp hz
      exact ⟨z, List.mem_map.mpr ⟨z, z1, z2⟩, rfl⟩
theorem lv_ok (E : D) (M : List (L2.Key × D)) (hM : M.length ≤ 1000) (o2 o3 o4 o5 o6 : Option Sl) : eListV 1 (cE E M o2 o3 o4 o5 o6) = some (.l (M.map (·.2)), sE E (Mu.toD (.m M)) o2 o3 o4 o5 o6 none) := by
  show listVR2 (some (.val (Mu.toD (.m M)), sE E (Mu.toD (.m M)) o2 o3 o4 o5 o6 none)) = _
  unfold listVR2 listVR
  have hs : small M.length = true := decide_eq_true (by omega)
  simp only [dictOf_toD, Option.bind_some, hs, if_true]
theorem ret_ok (s g : List (Option Str)) (hl : (heldS s g).length < 64) (E : D) (o2 o3 o4 o5 o6 : Option Sl) :
    ∃ e', eComp [10] (wAny (eX (xM (eCaM cSSet (aCons (eX (xM (eListV 1))) aNil))))) (gN 10) tYesE INN (cE E (mD (heldS s g) (markS s g)) o2 o3 o4 o5 o6)
      = some (.l ((leastS s g).map fun z => PyData.list ((clsS s g z).map nI)), e') ∧ ∃ p2, e' = sE E (Mu.toD (.m (mD (heldS s g) (markS s g)))) p2 o3 o4 o5 o6 none := by
  have hm : (mD (heldS s g) (markS s g)).length ≤ 1000 := by unfold mD; rw [List.length_map]; omega
  have hv := lv_ok E (mD (heldS s g) (markS s g)) hm o2 o3 o4 o5 o6
  have hs := sset_marks s g hl
  obtain ⟨p2, ho⟩ := out_comp2 s g (by omega) E o2 o3 o4 o5 o6 (leastS s g) (by have := least_len s g; omega)
  refine ⟨_, ?_, p2, rfl⟩
  clear hl hm
  unfold cE sE at *
  generalize Mu.toD (.m (mD (heldS s g) (markS s g))) = MD at *
  generalize (mD (heldS s g) (markS s g)).map (·.2) = VS at *
  generalize mD (heldS s g) (markS s g) = M at *
  generalize (leastS s g).map (fun z => PyData.list ((clsS s g z).map nI)) = RR at *
  generalize (leastS s g).map nI = L at *
  generalize eListV 1 = LV at *
  generalize INN = IN at *
  walk_at "gd"
theorem comps_ok (s g : List (Option Str)) (hl : (heldS s g).length < 64) : m__law_components [.shr (.list ((heldS s g).map (ndI s g)))] = some (.new (.l ((leastS s g).map fun z => PyData.list ((clsS s g z).map nI))), [none]) := by
  have e0 : env0 11 [.shr (.list ((heldS s g).map (ndI s g)))] = [some (.shr (.list ((heldS s g).map (ndI s g)))), none, none, none, none, none, none, none, none, none, none] := rfl
  obtain ⟨a2, a3, a4, hi⟩ := init_loop s g (.list ((heldS s g).map (ndI s g))) (heldS s g) [] none none none (held_nd s g) (by simp; omega)
  obtain ⟨b2, b3, b4, b5, b6, ho⟩ := outer_loop s g (by omega) (heldS s g) 0 a2 a3 a4 none none
  rw [Nat.zero_add] at ho
  rw [List.nil_append] at hi
  obtain ⟨e', hr, p2, he⟩ := ret_ok s g hl (.list ((heldS s g).map (ndI s g))) b2 b3 b4 b5 b6
  subst he
  have f1 : runM (heldS s g) (nearS s g) 0 = fun x => x := rfl
  have f2 : runM (heldS s g) (nearS s g) (heldS s g).length = markS s g := rfl
  rw [f1, f2] at ho
  have eb : b__law_components = (sSeq (sSetX 1 (xM eD0)) (sSeq (sFor (wAny (eGive 0)) G234 (sDPutE 1 (eVar 2) (eGive 2))) (sSeq (sFor (wAny (eGive 0)) (gN 5) FI) (sRetX (xM (eComp [10] (wAny (eX (xM (eCaM cSSet (aCons (eX (xM (eListV 1))) aNil))))) (gN 10) tYesE INN)))))) := rfl
  have c0 : (mD [] fun x => x) = [] := rfl
  rw [c0] at hi
  clear hl f1 f2 c0
  unfold cE sE at *
  generalize eComp [10] (wAny (eX (xM (eCaM cSSet (aCons (eX (xM (eListV 1))) aNil))))) (gN 10) tYesE INN = CC at *
  generalize (leastS s g).map (fun z => PyData.list ((clsS s g z).map nI)) = RR at *
  generalize Mu.toD (.m (mD (heldS s g) (markS s g))) = MD at *
  generalize mD (heldS s g) (markS s g) = M at *
  generalize mD (heldS s g) (fun x => x) = M0 at *
  generalize (heldS s g).map (ndI s g) = E at *
  generalize (sDPutE 1 (eVar 2) (eGive 2)) = DP at *
  generalize FI = F at *
  generalize G234 = G at *
  unfold m__law_components
  rw [eb, q_run, e0]
  walk_at "gd"
end My

namespace My
open PySem PySem.Spec PyProof.Rows L2 GD GDX
theorem lat_ok (s : List (Option Str)) (i : Nat) (hl : s.length ≤ 1000) : m__law_at [.shr (.tuple (s.map eD)), .shr (.int (i : Int))] = some (.val (eD (obj s i)), [none, none]) := by
  have e0 : env0 2 [.shr (.tuple (s.map eD)), .shr (.int (i : Int))] = [some (.shr (.tuple (s.map eD))), some (.shr (.int (i : Int)))] := rfl
  have hn : (((s.map eD).length : Nat) : Int) = (s.length : Int) := by rw [List.length_map]
  rcases Nat.lt_or_ge i s.length with q | q
  · have h := obj_at q
    have t : decide ((i : Int) ≥ (((s.map eD).length : Nat) : Int)) = false := decide_eq_false (by omega)
    unfold m__law_at b__law_at
    rw [q_run, e0]
    clear hn
    walk_at "gd"
  · have t : decide ((i : Int) ≥ (((s.map eD).length : Nat) : Int)) = true := decide_eq_true (by omega)
    rw [obj_ge q]
    simp only [eD]
    unfold m__law_at b__law_at
    rw [q_run, e0]
    clear hn
    walk_at "gd"
theorem eD_eq (a b : Option Str) : dEq (eD a) (eD b) = some (.bool (decide (a = b))) := by
  cases a <;> cases b
  · have h : decide ((none : Option Str) = none) = true := by decide
    rw [h]; rfl
  · rename_i y
    have h : decide ((none : Option Str) = some y) = false := decide_eq_false (by simp)
    rw [h]; rfl
  · rename_i x
    have h : decide (some x = (none : Option Str)) = false := decide_eq_false (by simp)
    rw [h]; rfl
  · rename_i x y
    show dEq (.str x) (.str y) = _
    rw [c_eqT]
    by_cases h : x = y
    · subst h; simp
    · have h2 : decide (some x = some y) = false := decide_eq_false (fun q => h (Option.some.inj q))
      rw [h2, decide_eq_false h]
theorem lay_flat : ∀ {ds : List D}, (∀ d ∈ ds, ∃ i, d = .int i) → PyData.canLayAll0 ds = true ∧ PyData.depthAll ds ≤ 0
  | [], _ => by simp [PyData.canLayAll0, PyData.depthAll]
  | d :: ds, h => by
    obtain ⟨i, rfl⟩ := h d List.mem_cons_self
    obtain ⟨b1, b2⟩ := lay_flat (ds := ds) fun x hx => h x (List.mem_cons_of_mem _ hx)
    exact ⟨by simp [PyData.canLayAll0, PyData.canLay0, b1], by simp only [PyData.depthAll, PyData.depth]; omega⟩
theorem sh_flat {ds : List D} (h : ∀ d ∈ ds, ∃ i, d = .int i) : SeqAt.shaped (.list ds) = true := by
  obtain ⟨a, b⟩ := lay_flat h
  unfold SeqAt.shaped
  have c1 : PyData.canLay0 (.list ds) = true := by simp [PyData.canLay0, a]
  have c2 : PyData.depth (.list ds) ≤ 64 := by simp only [PyData.depth]; omega
  rw [c1, decide_eq_true c2]
  rfl
theorem sh_nI (l : List Nat) : SeqAt.shaped (.list (l.map nI)) = true := sh_flat fun d hd => by
  obtain ⟨i, _, rfl⟩ := List.mem_map.mp hd
  exact ⟨_, rfl⟩
theorem eqv_int (a b : Nat) : PyData.eqv (.int (a : Int)) (.int (b : Int)) = decide (a = b) := by
  rw [PyData.eqv, Bool.eq_iff_iff, beq_iff_eq, decide_eq_true_eq, Int.ofNat_inj]
theorem any_nI (x : Nat) : ∀ l : List Nat, ((l.map nI).any fun z => PyData.eqv z (nI x)) = decide (x ∈ l)
  | [] => by simp
  | a :: l => by
    rw [List.map_cons, List.any_cons, any_nI x l]
    show (PyData.eqv (.int (a : Int)) (.int (x : Int)) || _) = _
    rw [eqv_int, Bool.eq_iff_iff, Bool.or_eq_true, decide_eq_true_eq, decide_eq_true_eq, decide_eq_true_eq, List.mem_cons]
    exact ⟨fun h => h.imp Eq.symm id, fun h => h.imp Eq.symm id⟩
theorem in_nI (x : Nat) (l : List Nat) : dIn (nI x) (.list (l.map nI)) = some (.bool (decide (x ∈ l))) := by
  rw [c_inL rfl (sh_nI l), any_nI]
theorem notin_nI (x : Nat) (l : List Nat) : dNotIn (nI x) (.list (l.map nI)) = some (.bool (!decide (x ∈ l))) := by
  have h := in_nI x l
  unfold dIn at h
  unfold dNotIn
  rw [Option.map_eq_some_iff] at h
  obtain ⟨b, h1, h2⟩ := h
  rw [h1]
  cases h2
  rfl
abbrev GA : D → En → Option En := (gT 3 (gsCons (gN 8) (gsCons (gN 9) (gsCons (gN 10) gsNil))))
abbrev ones (l : List Nat) : List D := l.map fun _ => PyData.int 1
abbrev pE (S G E C X A B : D) (o7 : Option Sl) : En := [some (.shr S), some (.shr G), some (.shr E), some (.shr C), some (.shr X), some (.shr A), some (.shr B), o7, none, none, none]
abbrev TT1 : EvT := (tVal (eOp dEq (eVar 9) (eVar 5)))
abbrev TT2 : EvT := (tVal (eOp dEq (eVar 10) (eVar 5)))
abbrev TT3 : EvT := (tVal (eOp dEq (eVar 9) (eVar 6)))
abbrev ONE : EvE := (eC (.int 1))
section
variable (s g : List (Option Str)) (hl : (heldS s g).length ≤ 1000) (x : Nat) (S G E C : D) (o7 : Option Sl)
include hl
theorem cnt1 : compE [8, 9, 10] GA TT1 ONE ((heldS s g).map (ndI s g)) [] (pE S G E C (nI x) (eD (obj s x)) (eD (obj g x)) o7) = some (ones ((heldS s g).filter fun y => decide (obj s y = obj s x)), pE S G E C (nI x) (eD (obj s x)) (eD (obj g x)) o7) := by
  have hc := comp_flt (vs := [8, 9, 10]) (tg := GA) (ft := TT1) (fe := ONE) (env := pE S G E C (nI x) (eD (obj s x)) (eD (obj g x)) o7) (ndI s g) (fun _ => PyData.int 1) (fun y => decide (obj s y = obj s x)) (heldS s g) [] (by simp; omega) fun i hi ds acc hacc => by
    have x1 := eD_eq (obj s i) (obj s x)
    unfold ndI
    clear hi hl
    generalize decide (obj s i = obj s x) = b at *
    generalize eD (obj s i) = A at *
    generalize eD (obj g i) = B at *
    generalize eD (obj s x) = A' at *
    generalize eD (obj g x) = B' at *
    generalize nI i = I at *
    generalize nI x = X at *
    cases b <;> simp only [Bool.false_eq_true, if_true, if_false] <;> walk_at "gd"
  exact hc
theorem cnt2 : compE [8, 9, 10] GA TT2 ONE ((heldS s g).map (ndI s g)) [] (pE S G E C (nI x) (eD (obj s x)) (eD (obj g x)) o7) = some (ones ((heldS s g).filter fun y => decide (obj g y = obj s x)), pE S G E C (nI x) (eD (obj s x)) (eD (obj g x)) o7) := by
  have hc := comp_flt (vs := [8, 9, 10]) (tg := GA) (ft := TT2) (fe := ONE) (env := pE S G E C (nI x) (eD (obj s x)) (eD (obj g x)) o7) (ndI s g) (fun _ => PyData.int 1) (fun y => decide (obj g y = obj s x)) (heldS s g) [] (by simp; omega) fun i hi ds acc hacc => by
    have x1 := eD_eq (obj g i) (obj s x)
    unfold ndI
    clear hi hl
    generalize decide (obj g i = obj s x) = b at *
    generalize eD (obj s i) = A at *
    generalize eD (obj g i) = B at *
    generalize eD (obj s x) = A' at *
    generalize eD (obj g x) = B' at *
    generalize nI i = I at *
    generalize nI x = X at *
    cases b <;> simp only [Bool.false_eq_true, if_true, if_false] <;> walk_at "gd"
  exact hc
theorem cnt3 : compE [8, 9, 10] GA TT3 ONE ((heldS s g).map (ndI s g)) [] (pE S G E C (nI x) (eD (obj s x)) (eD (obj g x)) o7) = some (ones ((heldS s g).filter fun y => decide (obj s y = obj g x)), pE S G E C (nI x) (eD (obj s x)) (eD (obj g x)) o7) := by
  have hc := comp_flt (vs := [8, 9, 10]) (tg := GA) (ft := TT3) (fe := ONE) (env := pE S G E C (nI x) (eD (obj s x)) (eD (obj g x)) o7) (ndI s g) (fun _ => PyData.int 1) (fun y => decide (obj s y = obj g x)) (heldS s g) [] (by simp; omega) fun i hi ds acc hacc => by
    have x1 := eD_eq (obj s i) (obj g x)
    unfold ndI
    clear hi hl
    generalize decide (obj s i = obj g x) = b at *
    generalize eD (obj s i) = A at *
    generalize eD (obj g i) = B at *
    generalize eD (obj s x) = A' at *
    generalize eD (obj g x) = B' at *
    generalize nI i = I at *
    generalize nI x = X at *
    cases b <;> simp only [Bool.false_eq_true, if_true, if_false] <;> walk_at "gd"
  exact hc
theorem helds_comp (X A B : D) : compE [8, 9, 10] GA tYesE (eGive 8) ((heldS s g).map (ndI s g)) [] (pE S G E C X A B o7) = some ((heldS s g).map nI, pE S G E C X A B o7) := by
  have hc := comp_flt (vs := [8, 9, 10]) (tg := GA) (ft := tYesE) (fe := eGive 8) (env := pE S G E C X A B o7) (ndI s g) nI (fun _ => true) (heldS s g) [] (by simp; omega) fun i hi ds acc hacc => by
    unfold ndI
    clear hi hl
    generalize eD (obj s i) = A at *
    generalize eD (obj g i) = B at *
    generalize nI i = I at *
    simp only [if_true]
    walk_at "gd"
  rw [hc, List.filter_eq_self.mpr fun _ _ => rfl, List.nil_append]
omit hl in
theorem keep_comp (hs : s.length ≤ 1000) (A : Option Str) (X B : D) (H : List Nat) :
    compE [8] (gN 8) (tfAnd (tVal (eOp dEq (eOp dIx (eVar 0) (eVar 8)) (eVar 5))) (tVal (eOp dNotIn (eVar 8) (eVar 7)))) ONE ((List.range s.length).map nI) [] (pE (.tuple (s.map eD)) G E C X (eD A) B (some (.own false (.l (H.map nI)))))
      = some (ones ((List.range s.length).filter fun i => decide (obj s i = A) && !decide (i ∈ H)), pE (.tuple (s.map eD)) G E C X (eD A) B (some (.own false (.l (H.map nI))))) := by
  have hc := comp_flt (vs := [8]) (tg := gN 8) (ft := tfAnd (tVal (eOp dEq (eOp dIx (eVar 0) (eVar 8)) (eVar 5))) (tVal (eOp dNotIn (eVar 8) (eVar 7)))) (fe := ONE) (env := pE (.tuple (s.map eD)) G E C X (eD A) B (some (.own false (.l (H.map nI))))) nI (fun _ => PyData.int 1) (fun i => decide (obj s i = A) && !decide (i ∈ H)) (List.range s.length) [] (by rw [List.length_range]; simp; omega) fun i hi ds acc hacc => by
    have x0 : dIx (.tuple (s.map eD)) (nI i) = some (eD (obj s i)) := obj_at (List.mem_range.mp hi)
    have x1 := eD_eq (obj s i) A
    have x2 := notin_nI i H
    clear hi hs
    generalize decide (obj s i = A) = b1 at *
    generalize (!decide (i ∈ H)) = b2 at *
    generalize eD (obj s i) = A1 at *
    generalize eD A = A' at *
    generalize PyData.tuple (s.map eD) = SS at *
    generalize H.map nI = HH at *
    generalize nI i = I at *
    cases b1 <;> cases b2 <;> simp only [Bool.false_and, Bool.and_false, Bool.true_and, Bool.false_eq_true, if_true, if_false] <;> walk_at "gd"
  exact hc
omit hl in
theorem free_comp (hs : s.length ≤ 1000) (hg : g.length ≤ 1000) (A : Option Str) (X B : D) :
    compE [8] (gN 8) (tfAnd (tVal (eOp dEq (eOp dIx (eVar 1) (eVar 8)) (eVar 5))) (tVal (eIsN (eX (xCall m__law_at (aCons (eGive 0) (aCons (eGive 8) aNil))))))) ONE ((List.range g.length).map nI) [] (pE (.tuple (s.map eD)) (.tuple (g.map eD)) E C X (eD A) B o7)
      = some (ones ((List.range g.length).filter fun i => decide (obj g i = A) && (obj s i).isNone), pE (.tuple (s.map eD)) (.tuple (g.map eD)) E C X (eD A) B o7) := by
  have hc := comp_flt (vs := [8]) (tg := gN 8) (ft := tfAnd (tVal (eOp dEq (eOp dIx (eVar 1) (eVar 8)) (eVar 5))) (tVal (eIsN (eX (xCall m__law_at (aCons (eGive 0) (aCons (eGive 8) aNil))))))) (fe := ONE) (env := pE (.tuple (s.map eD)) (.tuple (g.map eD)) E C X (eD A) B o7) nI (fun _ => PyData.int 1) (fun i => decide (obj g i = A) && (obj s i).isNone) (List.range g.length) [] (by rw [List.length_range]; simp; omega) fun i hi ds acc hacc => by
    have x0 : dIx (.tuple (g.map eD)) (nI i) = some (eD (obj g i)) := obj_at (List.mem_range.mp hi)
    have x1 := eD_eq (obj g i) A
    have x2 : m__law_at [.shr (.tuple (s.map eD)), .shr (nI i)] = some (.val (eD (obj s i)), [none, none]) := lat_ok s i hs
    clear hi hs hg
    generalize decide (obj g i = A) = b1 at *
    generalize eD (obj g i) = A1 at *
    generalize eD A = A' at *
    generalize PyData.tuple (s.map eD) = SS at *
    generalize PyData.tuple (g.map eD) = GG at *
    generalize nI i = I at *
    cases h : obj s i with
    | none =>
      rw [h] at x2
      simp only [My.eD] at x2
      clear h
      generalize m__law_at = F at *
      cases b1 <;> simp only [Option.isNone_none, Bool.and_true, Bool.false_eq_true, if_true, if_false] <;> walk_at "gd"
    | some w =>
      rw [h] at x2
      simp only [My.eD] at x2
      clear h
      generalize m__law_at = F at *
      cases b1 <;> simp only [Option.isNone_some, Bool.and_false, Bool.false_eq_true, if_true, if_false] <;> walk_at "gd"
  exact hc
end
end My

namespace My
open PySem PySem.Spec PyProof.Rows L2 GD GDX
def nxB (b : Bool) : Fl := if b = true then .nx else .rt (.val (.bool false))
abbrev RF : EvS := (sRetX (xE (eC (.bool false))))
theorem st_gen (CE : EvM) (env : En) (L : List Nat) (h : CE env = some (.l (ones L), env)) : sIf (tVal (eOp dNe (eCa cLen (aCons (eX (xM CE)) aNil)) ONE)) RF sNext env = some (nxB (decide (L.length = 1)), env) := by
  have h1 : cLen [.list (ones L)] = some (.int (L.length : Int)) := by rw [c_lenL, List.length_map]
  have h2 : dNe (.int (L.length : Int)) (.int 1) = some (.bool (!decide (L.length = 1))) := by
    rw [c_neI]
    by_cases e : L.length = 1
    · simp [e]
    · have : ¬ (L.length : Int) = 1 := by omega
      simp [e, this]
  generalize decide (L.length = 1) = b at *
  generalize ones L = OL at *
  generalize PyData.int (L.length : Int) = N at *
  cases b <;> simp only [nxB, Bool.not_true, Bool.not_false, Bool.false_eq_true, if_true, if_false] at * <;> walk_at "gd"
theorem st_gen2 (CE : EvM) (env : En) (L : List Nat) (h : CE env = some (.l (ones L), env)) : sIf (tVal (eOp dNe (eX (xM CE)) (eX (xM (eLst aNil))))) RF sNext env = some (nxB (decide (L = [])), env) := by
  have h2 : dNe (.list (ones L)) (.list []) = some (.bool (!decide (L = []))) := by
    rw [c_neL0 (sh_flat fun d hd => by obtain ⟨i, _, rfl⟩ := List.mem_map.mp hd; exact ⟨_, rfl⟩)]
    cases L <;> rfl
  generalize decide (L = []) = b at *
  generalize ones L = OL at *
  cases b <;> simp only [nxB, Bool.not_true, Bool.not_false, Bool.false_eq_true, if_true, if_false] at * <;> walk_at "gd"
abbrev C1 : EvM := (eComp [8, 9, 10] (wAny (eGive 2)) GA TT1 ONE)
abbrev C2 : EvM := (eComp [8, 9, 10] (wAny (eGive 2)) GA TT2 ONE)
abbrev C3 : EvM := (eComp [8, 9, 10] (wAny (eGive 2)) GA TT3 ONE)
abbrev C4 : EvM := (eComp [8, 9, 10] (wAny (eGive 2)) GA tYesE (eGive 8))
abbrev KT : EvT := (tfAnd (tVal (eOp dEq (eOp dIx (eVar 0) (eVar 8)) (eVar 5))) (tVal (eOp dNotIn (eVar 8) (eVar 7))))
abbrev FT : EvT := (tfAnd (tVal (eOp dEq (eOp dIx (eVar 1) (eVar 8)) (eVar 5))) (tVal (eIsN (eX (xCall m__law_at (aCons (eGive 0) (aCons (eGive 8) aNil)))))))
abbrev C5 : EvM := (eComp [8] (wRng1 (aCons (eCa cLen (aCons (eVar 0) aNil)) aNil)) (gN 8) KT ONE)
abbrev C6 : EvM := (eComp [8] (wRng1 (aCons (eCa cLen (aCons (eVar 1) aNil)) aNil)) (gN 8) FT ONE)
abbrev Z1 : EvS := (sIf (tVal (eOp dNe (eCa cLen (aCons (eX (xM C1)) aNil)) ONE)) RF sNext)
abbrev Z2 : EvS := (sIf (tVal (eOp dNe (eCa cLen (aCons (eX (xM C2)) aNil)) ONE)) RF sNext)
abbrev Z3 : EvS := (sIf (tVal (eOp dNe (eCa cLen (aCons (eX (xM C3)) aNil)) ONE)) RF sNext)
abbrev Z4 : EvS := (sSetX 7 (xM C4))
abbrev Z5 : EvS := (sIf (tVal (eOp dNe (eX (xM C5)) (eX (xM (eLst aNil))))) RF sNext)
abbrev Z6 : EvS := (sIf (tVal (eOp dNe (eX (xM C6)) (eX (xM (eLst aNil))))) RF sNext)
abbrev PBY : EvS := sSeq Z1 (sSeq Z2 (sSeq Z3 (sSeq Z4 (sSeq Z5 Z6))))
theorem comp_any {vs : List Nat} {T : EvT} {F : EvE} {S G C X A B : D} {ES R : List D} {o7 : Option Sl} (hw : wipeE (pE S G (.list ES) C X A B o7) vs = pE S G (.list ES) C X A B o7) (h : compE vs GA T F ES [] (pE S G (.list ES) C X A B o7) = some (R, pE S G (.list ES) C X A B o7)) :
    eComp vs (wAny (eGive 2)) GA T F (pE S G (.list ES) C X A B o7) = some (.l R, pE S G (.list ES) C X A B o7) := by
  show (compE vs GA T F ES [] (wipeE (pE S G (.list ES) C X A B o7) vs)).map _ = _
  rw [hw, h]
  rfl
theorem comp_rng {T : EvT} {F : EvE} {env : En} {n : Nat} {fl : EvA} {R : List D} (hn : n ≤ 1000) (h1 : fl env = some ([.val (.int (n : Int))], env)) (hw : wipeE env [8] = env) (h : compE [8] (gN 8) T F ((List.range n).map nI) [] env = some (R, env)) :
    eComp [8] (wRng1 fl) (gN 8) T F env = some (.l R, env) := by
  rw [← rng_nI] at h
  have r1 : -4611686018427387904 ≤ (n : Int) := by omega
  have r2 : (n : Int) < 4611686018427387904 := by omega
  have e : wRng1 fl env = some (rangeD 0 n, env) := by
    rw [q_r1]
    have : eA fl env = some ([.int (n : Int)], env) := by
      unfold eA
      rw [h1]; rfl
    rw [this, q_r11 r1 r2]
    rfl
  show (wRng1 fl env).bind _ = _
  rw [e, Option.bind_some, hw, h]
  rfl
theorem pb_ok (s g : List (Option Str)) (hs : s.length ≤ 1000) (hg : g.length ≤ 1000) (x : Nat) (C : D) (o7 : Option Sl) :
    ∃ p7, PBY (pE (.tuple (s.map eD)) (.tuple (g.map eD)) (.list ((heldS s g).map (ndI s g))) C (nI x) (eD (obj s x)) (eD (obj g x)) o7) = some (nxB (pureAt s g x), pE (.tuple (s.map eD)) (.tuple (g.map eD)) (.list ((heldS s g).map (ndI s g))) C (nI x) (eD (obj s x)) (eD (obj g x)) p7) := by
  have hl : (heldS s g).length ≤ 1000 := by have := held_len s g; omega
  have h1 := st_gen C1 _ _ (comp_any rfl (cnt1 s g hl x (.tuple (s.map eD)) (.tuple (g.map eD)) (.list ((heldS s g).map (ndI s g))) C o7))
  have h2 := st_gen C2 _ _ (comp_any rfl (cnt2 s g hl x (.tuple (s.map eD)) (.tuple (g.map eD)) (.list ((heldS s g).map (ndI s g))) C o7))
  have h3 := st_gen C3 _ _ (comp_any rfl (cnt3 s g hl x (.tuple (s.map eD)) (.tuple (g.map eD)) (.list ((heldS s g).map (ndI s g))) C o7))
  have h4 : Z4 (pE (.tuple (s.map eD)) (.tuple (g.map eD)) (.list ((heldS s g).map (ndI s g))) C (nI x) (eD (obj s x)) (eD (obj g x)) o7) = some (.nx, pE (.tuple (s.map eD)) (.tuple (g.map eD)) (.list ((heldS s g).map (ndI s g))) C (nI x) (eD (obj s x)) (eD (obj g x)) (some (.own false (.l ((heldS s g).map nI))))) := by
    have c := helds_comp s g hl (.tuple (s.map eD)) (.tuple (g.map eD)) (.list ((heldS s g).map (ndI s g))) C o7 (nI x) (eD (obj s x)) (eD (obj g x))
    generalize (heldS s g).map nI = R at *
    generalize (heldS s g).map (ndI s g) = ES at *
    clear hl hs hg h1 h2 h3
    walk_at "gd"
  have l1 : (eCa cLen (aCons (eVar 0) aNil)) (pE (.tuple (s.map eD)) (.tuple (g.map eD)) (.list ((heldS s g).map (ndI s g))) C (nI x) (eD (obj s x)) (eD (obj g x)) (some (.own false (.l ((heldS s g).map nI))))) = some (.val (.int (s.length : Int)), pE (.tuple (s.map eD)) (.tuple (g.map eD)) (.list ((heldS s g).map (ndI s g))) C (nI x) (eD (obj s x)) (eD (obj g x)) (some (.own false (.l ((heldS s g).map nI))))) := by
    have : (((s.map eD).length : Nat) : Int) = (s.length : Int) := by rw [List.length_map]
    rw [← this]
    rfl
  have l2 : (eCa cLen (aCons (eVar 1) aNil)) (pE (.tuple (s.map eD)) (.tuple (g.map eD)) (.list ((heldS s g).map (ndI s g))) C (nI x) (eD (obj s x)) (eD (obj g x)) (some (.own false (.l ((heldS s g).map nI))))) = some (.val (.int (g.length : Int)), pE (.tuple (s.map eD)) (.tuple (g.map eD)) (.list ((heldS s g).map (ndI s g))) C (nI x) (eD (obj s x)) (eD (obj g x)) (some (.own false (.l ((heldS s g).map nI))))) := by
    have : (((g.map eD).length : Nat) : Int) = (g.length : Int) := by rw [List.length_map]
    rw [← this]
    rfl
  have a1 : (aCons (eCa cLen (aCons (eVar 0) aNil)) aNil) (pE (.tuple (s.map eD)) (.tuple (g.map eD)) (.list ((heldS s g).map (ndI s g))) C (nI x) (eD (obj s x)) (eD (obj g x)) (some (.own false (.l ((heldS s g).map nI))))) = some ([.val (.int (s.length : Int))], pE (.tuple (s.map eD)) (.tuple (g.map eD)) (.list ((heldS s g).map (ndI s g))) C (nI x) (eD (obj s x)) (eD (obj g x)) (some (.own false (.l ((heldS s g).map nI))))) := by
    show ((eCa cLen (aCons (eVar 0) aNil)) _).bind _ = _
    rw [l1]; rfl
  have a2 : (aCons (eCa cLen (aCons (eVar 1) aNil)) aNil) (pE (.tuple (s.map eD)) (.tuple (g.map eD)) (.list ((heldS s g).map (ndI s g))) C (nI x) (eD (obj s x)) (eD (obj g x)) (some (.own false (.l ((heldS s g).map nI))))) = some ([.val (.int (g.length : Int))], pE (.tuple (s.map eD)) (.tuple (g.map eD)) (.list ((heldS s g).map (ndI s g))) C (nI x) (eD (obj s x)) (eD (obj g x)) (some (.own false (.l ((heldS s g).map nI))))) := by
    show ((eCa cLen (aCons (eVar 1) aNil)) _).bind _ = _
    rw [l2]; rfl
  have h5 := st_gen2 C5 _ _ (comp_rng hs a1 rfl (keep_comp s (.tuple (g.map eD)) (.list ((heldS s g).map (ndI s g))) C hs (obj s x) (nI x) (eD (obj g x)) (heldS s g)))
  have h6 := st_gen2 C6 _ _ (comp_rng hg a2 rfl (free_comp s g (.list ((heldS s g).map (ndI s g))) C (some (.own false (.l ((heldS s g).map nI)))) hs hg (obj s x) (nI x) (eD (obj g x))))
  have e : pureAt s g x = (decide (((heldS s g).filter fun y => decide (obj s y = obj s x)).length = 1) && (decide (((heldS s g).filter fun y => decide (obj g y = obj s x)).length = 1) &&
    (decide (((heldS s g).filter fun y => decide (obj s y = obj g x)).length = 1) && (decide (((List.range s.length).filter fun i => decide (obj s i = obj s x) && !decide (i ∈ heldS s g)) = []) &&
    decide (((List.range g.length).filter fun i => decide (obj g i = obj s x) && (obj s i).isNone) = []))))) := rfl
  rw [e]
  have ep : PBY = sSeq Z1 (sSeq Z2 (sSeq Z3 (sSeq Z4 (sSeq Z5 Z6)))) := rfl
  rw [ep]
  clear ep
  change Z1 _ = _ at h1
  change Z2 _ = _ at h2
  change Z3 _ = _ at h3
  change Z5 _ = _ at h5
  change Z6 _ = _ at h6
  clear e a1 a2 l1 l2 hl hs hg
  generalize decide (((heldS s g).filter fun y => decide (obj s y = obj s x)).length = 1) = b1 at *
  generalize decide (((heldS s g).filter fun y => decide (obj g y = obj s x)).length = 1) = b2 at *
  generalize decide (((heldS s g).filter fun y => decide (obj s y = obj g x)).length = 1) = b3 at *
  generalize decide (((List.range s.length).filter fun i => decide (obj s i = obj s x) && !decide (i ∈ heldS s g)) = []) = b4 at *
  generalize decide (((List.range g.length).filter fun i => decide (obj g i = obj s x) && (obj s i).isNone) = []) = b5 at *
  generalize (some (Sl.own false (Mu.l ((heldS s g).map nI)))) = q7 at *
  generalize Z1 = A1 at *
  generalize Z2 = A2 at *
  generalize Z3 = A3 at *
  generalize Z4 = A4 at *
  generalize Z5 = A5 at *
  generalize Z6 = A6 at *
  have r1 : ∀ p : Option Sl, ∃ p7, some p = some p7 := fun p => ⟨p, rfl⟩
  cases b1 with
  | false => exact ⟨o7, by simp only [nxB, Bool.false_and, Bool.false_eq_true, if_false] at *; walk_at "gd"⟩
  | true =>
    cases b2 with
    | false => exact ⟨o7, by simp only [nxB, Bool.false_and, Bool.true_and, Bool.false_eq_true, if_true, if_false] at *; walk_at "gd"⟩
    | true =>
      cases b3 with
      | false => exact ⟨o7, by simp only [nxB, Bool.false_and, Bool.true_and, Bool.false_eq_true, if_true, if_false] at *; walk_at "gd"⟩
      | true =>
        refine ⟨q7, ?_⟩
        cases b4 <;> cases b5 <;> simp only [nxB, Bool.false_and, Bool.and_false, Bool.true_and, Bool.false_eq_true, if_true, if_false] at * <;> walk_at "gd"
end My

namespace My
open PySem PySem.Spec PyProof.Rows L2 GD GDX
abbrev G456 : D → En → Option En := (gT 3 (gsCons (gN 4) (gsCons (gN 5) (gsCons (gN 6) gsNil))))
abbrev LBY : EvS := (sIf (tVal (eOp dIn (eVar 4) (eVar 3))) PBY sNext)
theorem for_cons_rt {gg : D → En → Option En} {b : EvS} {x : D} {xs : List D} {env e1 e2 : En} {r : Ret} (h1 : gg x env = some e1) (h2 : b e1 = some (.rt r, e2)) : forE gg b (x :: xs) env = some (.rt r, e2) := by
  simp only [forE, h1, h2, Option.bind_some]
abbrev lE (s g : List (Option Str)) (C : List Nat) (o4 o5 o6 o7 : Option Sl) : En := [some (.shr (.tuple (s.map eD))), some (.shr (.tuple (g.map eD))), some (.shr (.list ((heldS s g).map (ndI s g)))), some (.shr (.list (C.map nI))), o4, o5, o6, o7, none, none, none]
theorem lb_ok (s g : List (Option Str)) (hs : s.length ≤ 1000) (hg : g.length ≤ 1000) (C : List Nat) (x : Nat) (o7 : Option Sl) :
    ∃ p7, LBY (lE s g C (some (.shr (nI x))) (some (.shr (eD (obj s x)))) (some (.shr (eD (obj g x)))) o7) = some (nxB (!decide (x ∈ C) || pureAt s g x), lE s g C (some (.shr (nI x))) (some (.shr (eD (obj s x)))) (some (.shr (eD (obj g x)))) p7) := by
  have x1 := in_nI x C
  obtain ⟨p7, hb⟩ := pb_ok s g hs hg x (.list (C.map nI)) o7
  have eb : LBY = (sIf (tVal (eOp dIn (eVar 4) (eVar 3))) PBY sNext) := rfl
  rw [eb]
  clear eb hs hg
  unfold lE
  generalize pureAt s g x = b at *
  generalize PBY = B at *
  generalize decide (x ∈ C) = c at *
  generalize PyData.tuple (s.map eD) = SS at *
  generalize PyData.tuple (g.map eD) = GG at *
  generalize (heldS s g).map (ndI s g) = EE at *
  generalize C.map nI = CC at *
  generalize eD (obj s x) = A1 at *
  generalize eD (obj g x) = A2 at *
  generalize nI x = X at *
  cases c with
  | false => exact ⟨o7, by simp only [nxB, Bool.not_false, Bool.true_or, if_true]; clear hb; walk_at "gd"⟩
  | true => exact ⟨p7, by simp only [nxB, Bool.not_true, Bool.false_or] at *; walk_at "gd"⟩
theorem pl_ok (s g : List (Option Str)) (hs : s.length ≤ 1000) (hg : g.length ≤ 1000) (C : List Nat) : ∀ (l : List Nat) (o4 o5 o6 o7 : Option Sl),
    ∃ p4 p5 p6 p7, forE G456 LBY (l.map (ndI s g)) (lE s g C o4 o5 o6 o7) = some (nxB (l.all fun x => !decide (x ∈ C) || pureAt s g x), lE s g C p4 p5 p6 p7)
  | [], o4, o5, o6, o7 => ⟨o4, o5, o6, o7, rfl⟩
  | x :: l, o4, o5, o6, o7 => by
    obtain ⟨q7, hb⟩ := lb_ok s g hs hg C x o7
    obtain ⟨p4, p5, p6, p7, ih⟩ := pl_ok s g hs hg C l (some (.shr (nI x))) (some (.shr (eD (obj s x)))) (some (.shr (eD (obj g x)))) q7
    rw [List.map_cons, List.all_cons]
    cases hq : (!decide (x ∈ C) || pureAt s g x) with
    | true =>
      rw [hq] at hb
      rw [Bool.true_and]
      refine ⟨p4, p5, p6, p7, ?_⟩
      rw [for_cons (e1 := lE s g C (some (.shr (nI x))) (some (.shr (eD (obj s x)))) (some (.shr (eD (obj g x)))) o7) rfl hb]
      exact ih
    | false =>
      rw [hq] at hb
      rw [Bool.false_and]
      exact ⟨_, _, _, _, for_cons_rt (e1 := lE s g C (some (.shr (nI x))) (some (.shr (eD (obj s x)))) (some (.shr (eD (obj g x)))) o7) rfl hb⟩
theorem all_cls (s g : List (Option Str)) (z : Nat) : ((heldS s g).all fun x => !decide (x ∈ clsS s g z) || pureAt s g x) = pureB s g z := by
  unfold pureB
  rw [Bool.eq_iff_iff, List.all_eq_true, List.all_eq_true]
  constructor
  · intro h x hx
    have := h x (mem_cls.mp hx).1
    simpa [hx] using this
  · intro h x _
    by_cases c : x ∈ clsS s g z
    · simp [h x c]
    · simp [c]
theorem is_pure_ok (s g : List (Option Str)) (hs : s.length ≤ 1000) (hg : g.length ≤ 1000) (z : Nat) :
    m__law_is_pure [.shr (.tuple (s.map eD)), .shr (.tuple (g.map eD)), .shr (.list ((heldS s g).map (ndI s g))), .shr (.list ((clsS s g z).map nI))] = some (.val (.bool (pureB s g z)), [none, none, none, none]) := by
  have e0 : env0 11 [.shr (.tuple (s.map eD)), .shr (.tuple (g.map eD)), .shr (.list ((heldS s g).map (ndI s g))), .shr (.list ((clsS s g z).map nI))] = lE s g (clsS s g z) none none none none := rfl
  obtain ⟨p4, p5, p6, p7, hl⟩ := pl_ok s g hs hg (clsS s g z) (heldS s g) none none none none
  rw [all_cls] at hl
  have eb : b__law_is_pure = sSeq (sFor (wAny (eGive 2)) G456 LBY) (sRetX (xE (eC (.bool true)))) := rfl
  clear hs hg
  unfold m__law_is_pure
  rw [eb, q_run, e0]
  unfold lE at *
  generalize pureB s g z = b at *
  generalize (heldS s g).map (ndI s g) = EE at *
  generalize LBY = L at *
  generalize G456 = GG at *
  clear eb e0
  cases b <;> simp only [nxB, Bool.false_eq_true, if_true, if_false] at hl <;> walk_at "gd"
theorem last_at (l : List D) (d : D) : atI (l ++ [d]) (-1) = some d := by
  unfold atI
  have h : ixN (l ++ [d]).length (-1) = some l.length := by
    rw [List.length_append, List.length_singleton]
    unfold ixN
    have h1 : ¬ ((0 : Int) ≤ -1) := by omega
    have h2 : (0 : Int) ≤ -1 + ((l.length + 1 : Nat) : Int) := by omega
    simp only [h1, h2]
    simp
    try omega
  rw [h, Option.bind_some]
  simp
abbrev WCM : EvM := (eComp [4] (wAny (eGive 2)) (gN 4) (tVal (eOp dEq (eOp dIx (eVar 0) (eVar 4)) (eOp dIx (eVar 1) (eOp dIx (eVar 3) (eUn dNeg (eC (.int 1))))))) (eGive 4))
abbrev WCN : EvT := (tVal (eOp dLt (eCa cLen (aCons (eVar 3) aNil)) (eCa cLen (aCons (eVar 2) aNil))))
abbrev WBY : EvS := (sDrop (eMt "list" gApp 3 (aCons (eOp dIx (eX (xM WCM)) (eC (.int 0))) aNil)))
abbrev wE (s g : List (Option Str)) (C L : List Nat) : En := [some (.shr (.tuple (s.map eD))), some (.shr (.tuple (g.map eD))), some (.shr (.list (C.map nI))), some (.own false (.l (L.map nI))), none]
theorem wcm_ok (s g : List (Option Str)) (C pre : List Nat) (c : Nat) (hC : ∀ x ∈ C, x < s.length) (hc : c < g.length) (hl : C.length ≤ 1000) :
    compE [4] (gN 4) (tVal (eOp dEq (eOp dIx (eVar 0) (eVar 4)) (eOp dIx (eVar 1) (eOp dIx (eVar 3) (eUn dNeg (eC (.int 1))))))) (eGive 4) (C.map nI) [] (wE s g C (pre ++ [c])) = some ((C.filter fun w => decide (obj s w = obj g c)).map nI, wE s g C (pre ++ [c])) := by
  have hcc := comp_flt (vs := [4]) (tg := gN 4) (ft := (tVal (eOp dEq (eOp dIx (eVar 0) (eVar 4)) (eOp dIx (eVar 1) (eOp dIx (eVar 3) (eUn dNeg (eC (.int 1)))))))) (fe := eGive 4) (env := wE s g C (pre ++ [c])) nI nI (fun w => decide (obj s w = obj g c)) C [] (by simp; omega) fun i hi ds acc hacc => by
    have x0 : dIx (.tuple (s.map eD)) (nI i) = some (eD (obj s i)) := obj_at (hC i hi)
    have x1 : dIx (.tuple (g.map eD)) (nI c) = some (eD (obj g c)) := obj_at hc
    have x2 : dIx (.list ((pre ++ [c]).map nI)) (.int (-1)) = some (nI c) := by
      rw [List.map_append]
      exact last_at _ _
    have x3 := eD_eq (obj s i) (obj g c)
    have x4 : dNeg (.int 1) = some (.int (-1)) := rfl
    unfold wE
    clear hi hC hc hl
    generalize decide (obj s i = obj g c) = b at *
    generalize eD (obj s i) = A at *
    generalize eD (obj g c) = B at *
    generalize (pre ++ [c]).map nI = L at *
    generalize C.map nI = CC at *
    generalize PyData.tuple (s.map eD) = SS at *
    generalize PyData.tuple (g.map eD) = GG at *
    generalize nI i = I at *
    generalize nI c = X at *
    cases b <;> simp only [Bool.false_eq_true, if_true, if_false] <;> walk_at "gd"
  exact hcc
theorem wby_ok (s g : List (Option Str)) (C pre : List Nat) (c y : Nat) (hC : ∀ x ∈ C, x < s.length) (hc : c < g.length) (hl : C.length ≤ 1000) (hp : pre.length ≤ 1000) (hy : (C.filter fun w => decide (obj s w = obj g c)) = [y]) :
    WBY (wE s g C (pre ++ [c])) = some (.nx, wE s g C (pre ++ [c] ++ [y])) := by
  have h1 := wcm_ok s g C pre c hC hc hl
  rw [hy] at h1
  have h2 : dIx (.list ([y].map nI)) (.int 0) = some (nI y) := rfl
  have h3 : (pre ++ [c] ++ [y]).map nI = (pre ++ [c]).map nI ++ [nI y] := by rw [List.map_append]; rfl
  have h4 : ((pre ++ [c]).map nI).length ≤ 1000000 := by rw [List.length_map, List.length_append, List.length_singleton]; omega
  unfold wE at *
  rw [h3]
  clear hy hC hc hl hp h3
  generalize (pre ++ [c]).map nI = L at *
  generalize [y].map nI = Y at *
  generalize C.map nI = CC at *
  generalize nI y = I at *
  generalize PyData.tuple (s.map eD) = SS at *
  generalize PyData.tuple (g.map eD) = GG at *
  walk_at "gd"
theorem wcn_ok (s g : List (Option Str)) (C L : List Nat) : WCN (wE s g C L) = some (decide (L.length < C.length), wE s g C L) := by
  have h1 : cLen [.list (L.map nI)] = some (.int (L.length : Int)) := by rw [c_lenL, List.length_map]
  have h2 : cLen [.list (C.map nI)] = some (.int (C.length : Int)) := by rw [c_lenL, List.length_map]
  have h3 : dLt (.int (L.length : Int)) (.int (C.length : Int)) = some (.bool (decide (L.length < C.length))) := by
    have : decide ((L.length : Int) < (C.length : Int)) = decide (L.length < C.length) := by rw [decide_eq_decide]; omega
    rw [← this]
    rfl
  unfold wE
  generalize decide (L.length < C.length) = b at *
  generalize L.map nI = LL at *
  generalize C.map nI = CC at *
  generalize PyData.int (L.length : Int) = N1 at *
  generalize PyData.int (C.length : Int) = N2 at *
  walk_at "gd"
theorem walk_loop {s g : List (Option Str)} {z : Nat} (hp : pureB s g z = true) (hl : (clsS s g z).length ≤ 1000) : ∀ (n c : Nat) (pre : List Nat) (m : Nat), c ∈ clsS s g z → pre.length + 1 + n = (clsS s g z).length → n < m →
    whE WCN WBY m (wE s g (clsS s g z) (pre ++ [c])) = some (.nx, wE s g (clsS s g z) (pre ++ wk (nxS s g) n c))
  | n, c, pre, 0, _, _, hm => by omega
  | 0, c, pre, m + 1, hc, hn, hm => by
    have t : decide ((pre ++ [c]).length < (clsS s g z).length) = false := decide_eq_false (by rw [List.length_append, List.length_singleton]; omega)
    rw [q_wh, wcn_ok, t]
    rfl
  | n + 1, c, pre, m + 1, hc, hn, hm => by
    have t : decide ((pre ++ [c]).length < (clsS s g z).length) = true := decide_eq_true (by rw [List.length_append, List.length_singleton]; omega)
    obtain ⟨y, hy, fy, ey⟩ := step_pure hp hc
    have cH := (mem_cls.mp hc).1
    have hb := wby_ok s g (clsS s g z) pre c y (fun x hx => obj_some (mem_held.mp (mem_cls.mp hx).1).1) (obj_some (mem_held.mp cH).2.1) hl (by omega) ey
    have ih := walk_loop hp hl n y (pre ++ [c]) m hy (by rw [List.length_append, List.length_singleton]; omega) (by omega)
    have e : wk (nxS s g) (n + 1) c = c :: wk (nxS s g) n y := by show c :: wk (nxS s g) n (nxS s g c) = _; rw [nx_of fy]
    rw [q_wh, wcn_ok, t, q_wh1, hb, q_wh3, ih, e]
    simp
theorem walked_ok {s g : List (Option Str)} {z : Nat} (hz : z ∈ leastS s g) (hp : pureB s g z = true) (hl : (clsS s g z).length ≤ 1000) :
    m__law_walked [.shr (.tuple (s.map eD)), .shr (.tuple (g.map eD)), .shr (.list ((clsS s g z).map nI))] = some (.val (cT (walkS s g z)), [none, none, none]) := by
  have e0 : env0 5 [.shr (.tuple (s.map eD)), .shr (.tuple (g.map eD)), .shr (.list ((clsS s g z).map nI))] = [some (.shr (.tuple (s.map eD))), some (.shr (.tuple (g.map eD))), some (.shr (.list ((clsS s g z).map nI))), none, none] := rfl
  have zc := cls_self hz
  have ne : clsS s g z ≠ [] := fun q => by rw [q] at zc; cases zc
  have hm := min_nI ne
  have em : minN (clsS s g z) = z := Nat.le_antisymm (minN_le zc) (cls_le (minN_mem ne))
  rw [em] at hm
  have hlen : 0 < (clsS s g z).length := List.length_pos_of_mem zc
  have hf : (1000 : Nat) < fuel := by decide +kernel
  have hw := walk_loop hp hl ((clsS s g z).length - 1) z [] fuel zc (by simp; omega) (by omega)
  rw [List.nil_append, List.nil_append] at hw
  have ew : wk (nxS s g) ((clsS s g z).length - 1) z = walkS s g z := rfl
  rw [ew] at hw
  have hlw : ((walkS s g z).map nI).length ≤ 1000000 := by rw [List.length_map]; unfold walkS; rw [wk_len]; omega
  have eb : b__law_walked = sSeq (sSetX 3 (xM (eLst (aCons (eCa cMinL (aCons (eVar 2) aNil)) aNil)))) (sSeq (whE WCN WBY fuel) (sRetX (xE (eCa cTuple (aCons (eVar 3) aNil))))) := rfl
  have e1 : [z].map nI = [nI z] := rfl
  clear zc ne em hlen ew hp hl hz
  unfold wE at hw
  rw [e1] at hw
  unfold cT m__law_walked
  rw [eb, q_run, e0]
  generalize whE WCN WBY fuel = W at *
  generalize (walkS s g z).map nI = WW at *
  generalize (clsS s g z).map nI = CC at *
  generalize nI z = Z at *
  clear eb e0 e1
  walk_at "gd"
end My

namespace My
open PySem PySem.Spec PyProof.Rows L2 GD GDX
abbrev P4 : EvT := (tVal (eX (xCall m__law_is_pure (aCons (eGive 0) (aCons (eGive 1) (aCons (eGive 2) (aCons (eGive 4) aNil)))))))
abbrev W4 : EvE := (eX (xCall m__law_walked (aCons (eGive 0) (aCons (eGive 1) (aCons (eGive 4) aNil)))))
abbrev dE (s g : List (Option Str)) (o3 : Option Sl) : En := [some (.shr (.tuple (s.map eD))), some (.shr (.tuple (g.map eD))), some (.shr (.list ((heldS s g).map (ndI s g)))), o3, none]
theorem p4_comp (s g : List (Option Str)) (hs : s.length ≤ 1000) (hg : g.length ≤ 1000) (o3 : Option Sl) :
    compE [4] (gN 4) P4 (eGive 4) ((leastS s g).map fun z => PyData.list ((clsS s g z).map nI)) [] (dE s g o3) = some (((leastS s g).filter (pureB s g)).map fun z => PyData.list ((clsS s g z).map nI), dE s g o3) := by
  have hl := least_len s g
  have hh := held_len s g
  have hc := comp_flt (vs := [4]) (tg := gN 4) (ft := P4) (fe := eGive 4) (env := dE s g o3) (fun z => PyData.list ((clsS s g z).map nI)) (fun z => PyData.list ((clsS s g z).map nI)) (pureB s g) (leastS s g) [] (by simp; omega) fun z hz ds acc hacc => by
    have hp := is_pure_ok s g hs hg z
    clear hz hs hg hl hh
    unfold dE
    generalize pureB s g z = b at *
    generalize (clsS s g z).map nI = C at *
    generalize (heldS s g).map (ndI s g) = E at *
    generalize PyData.tuple (s.map eD) = S at *
    generalize PyData.tuple (g.map eD) = G at *
    cases b <;> simp only [Bool.false_eq_true, if_true, if_false] <;> walk_at "gd"
  exact hc
theorem cls_len (s g : List (Option Str)) (z : Nat) : (clsS s g z).length ≤ (heldS s g).length := List.length_filter_le _ _
theorem w4_comp (s g : List (Option Str)) (hg : g.length ≤ 1000) (o3 : Option Sl) :
    compE [4] (gN 4) tYesE W4 (((leastS s g).filter (pureB s g)).map fun z => PyData.list ((clsS s g z).map nI)) [] (dE s g o3) = some ((dueS s g).map cT, dE s g o3) := by
  have hl := least_len s g
  have hh := held_len s g
  have hf := List.length_filter_le (pureB s g) (leastS s g)
  have hc := comp_flt (vs := [4]) (tg := gN 4) (ft := tYesE) (fe := W4) (env := dE s g o3) (fun z => PyData.list ((clsS s g z).map nI)) (fun z => cT (walkS s g z)) (fun _ => true) ((leastS s g).filter (pureB s g)) [] (by simp; omega) fun z hz ds acc hacc => by
    obtain ⟨z1, z2⟩ := List.mem_filter.mp hz
    have hw := walked_ok z1 z2 (by have := cls_len s g z; omega)
    clear hz z1 z2 hg hl hh hf
    unfold dE
    generalize cT (walkS s g z) = R at *
    generalize (clsS s g z).map nI = C at *
    generalize (heldS s g).map (ndI s g) = E at *
    generalize PyData.tuple (s.map eD) = S at *
    generalize PyData.tuple (g.map eD) = G at *
    simp only [if_true]
    walk_at "gd"
  rw [hc, List.filter_eq_self.mpr fun _ _ => rfl, List.nil_append]
  unfold dueS
  rw [List.map_map]
  rfl
theorem srt_due (s g : List (Option Str)) : cSrtD [.list ((dueS s g).map cT)] = some (.l ((dueS s g).map cT)) := by
  have R := due_rounds s g
  have e : (dueS s g).map cT = ((dueS s g).map zI).map tupI := by
    rw [List.map_map]
    refine List.map_congr_left fun c _ => ?_
    show PyData.tuple (c.map nI) = PyData.tuple ((zI c).map .int)
    rw [zI_D]
  rw [e]
  refine c_srtD_asc (fun l hl => ?_) ?_
  · obtain ⟨c, hc, rfl⟩ := List.mem_map.mp hl
    obtain ⟨i, r, rfl, _⟩ := R.path c hc
    simp [zI]
  · rw [List.pairwise_map]
    refine List.Pairwise.imp_of_mem ?_ R.asc
    intro a b ha hb lt
    obtain ⟨i, r, rfl, _⟩ := R.path a ha
    obtain ⟨j, q, rfl, _⟩ := R.path b hb
    show (i : Int) < (j : Int)
    have : i < j := lt
    omega
theorem due_ok (s g : List (Option Str)) (hs : s.length ≤ 60) (hg : g.length ≤ 60) : m__law_due [.shr (.tuple (s.map eD)), .shr (.tuple (g.map eD))] = some (.new (.l ((pureC s g).map cT)), [none, none]) := by
  rw [due_pure]
  have e0 : env0 5 [.shr (.tuple (s.map eD)), .shr (.tuple (g.map eD))] = [some (.shr (.tuple (s.map eD))), some (.shr (.tuple (g.map eD))), none, none, none] := rfl
  have hh := held_len s g
  have h1 := edges_ok2 s g (by omega) (by omega)
  have h2 := comps_ok s g (by omega)
  have h3 := p4_comp s g (by omega) (by omega) none
  have h4 := w4_comp s g (by omega) (some (.shr (.list (((leastS s g).filter (pureB s g)).map fun z => PyData.list ((clsS s g z).map nI)))))
  have h5 := srt_due s g
  have eb : b__law_due = sSeq (sSetX 2 (xCall m__law_edges (aCons (eGive 0) (aCons (eGive 1) aNil)))) (sSeq (sSetX 3 (xM (eComp [4] (wAny (eX (xCall m__law_components (aCons (eGive 2) aNil)))) (gN 4) P4 (eGive 4)))) (sRetX (xM (eCaM cSrtD (aCons (eX (xM (eComp [4] (wAny (eGive 3)) (gN 4) tYesE W4))) aNil))))) := rfl
  clear hh hs hg
  unfold dE at *
  generalize (dueS s g).map cT = R at *
  generalize (((leastS s g).filter (pureB s g)).map fun z => PyData.list ((clsS s g z).map nI)) = Q at *
  generalize ((leastS s g).map fun z => PyData.list ((clsS s g z).map nI)) = L at *
  generalize (heldS s g).map (ndI s g) = E at *
  generalize P4 = P at *
  generalize W4 = W at *
  generalize PyData.tuple (s.map eD) = S at *
  generalize PyData.tuple (g.map eD) = G at *
  unfold m__law_due
  rw [eb, q_run, e0]
  clear eb e0
  walk_at "gd"
end My

namespace My
open PySem PySem.Spec PyProof.Rows L2 GD GDX
structure AX (k n : Nat) (d : D) : Prop where
  nx : noX d = true
  dep : d.depth ≤ k
  sh : d.showable = true
  sho : d.leavesShort 200 = true
  blk : d.bulk ≤ n
theorem AX.mono {k n k' n' : Nat} {d : D} (h : AX k n d) (a : k ≤ k') (b : n ≤ n') : AX k' n' d := ⟨h.nx, Nat.le_trans h.dep a, h.sh, h.sho, Nat.le_trans h.blk b⟩
theorem AX.all {k n : Nat} : ∀ {ds : List D}, (∀ d ∈ ds, AX k n d) → noXs ds = true ∧ PyData.depthAll ds ≤ k ∧ PyData.showableAll ds = true ∧ PyData.leavesShortAll 200 ds = true ∧ PyData.bulkAll ds ≤ (n + 1) * ds.length
  | [], _ => ⟨by rw [noXs], by rw [PyData.depthAll]; omega, by rw [PyData.showableAll], by rw [PyData.leavesShortAll], by rw [PyData.bulkAll]; omega⟩
  | d :: ds, h => by
    obtain ⟨a, b, c, e, f⟩ := AX.all fun x hx => h x (List.mem_cons_of_mem _ hx)
    have g := h d (List.mem_cons_self ..)
    refine ⟨by rw [noXs, a, g.nx]; rfl, by rw [PyData.depthAll]; exact Nat.max_le.mpr ⟨g.dep, b⟩, by rw [PyData.showableAll, c, g.sh]; rfl, by rw [PyData.leavesShortAll, e, g.sho]; rfl, ?_⟩
    rw [PyData.bulkAll, List.length_cons, Nat.mul_succ]
    have := g.blk
    omega
theorem AX.list {k n : Nat} {ds : List D} (h : ∀ d ∈ ds, AX k n d) : AX (k + 1) ((n + 1) * ds.length) (.list ds) := by
  obtain ⟨a, b, c, e, f⟩ := AX.all h
  exact ⟨by rw [noX]; exact a, by rw [PyData.depth]; omega, by rw [PyData.showable]; exact c, by rw [PyData.leavesShort]; exact e, by rw [PyData.bulk]; exact f⟩
theorem AX.tuple {k n : Nat} {ds : List D} (h : ∀ d ∈ ds, AX k n d) : AX (k + 1) ((n + 1) * ds.length) (.tuple ds) := by
  obtain ⟨a, b, c, e, f⟩ := AX.all h
  exact ⟨by rw [noX]; exact a, by rw [PyData.depth]; omega, by rw [PyData.showable]; exact c, by rw [PyData.leavesShort]; exact e, by rw [PyData.bulk]; exact f⟩
theorem AX.ok {k n : Nat} {d : D} (h : AX k n d) (a : k ≤ 60) (b : n ≤ 60000) : okShowX d = true := by
  have h1 := PyData.shown_le_bulk 200 (by decide) d h.sho
  have h2 : (200 + 2) * d.bulk ≤ 202 * n := Nat.mul_le_mul_left _ h.blk
  show (noX d && decide (d.depth ≤ 60) && d.showable && decide (d.shown.length ≤ 16777216)) = true
  rw [h.nx, h.sh, decide_eq_true (Nat.le_trans h.dep a), decide_eq_true (show d.shown.length ≤ 16777216 by omega)]; rfl
theorem AX.int {k : Int} (h : N3 k) : AX 0 0 (.int k) :=
  ⟨by rw [noX], by rw [PyData.depth]; omega, by rw [PyData.showable]; exact decide_eq_true (n3_log h), by
    rw [PyData.leavesShort]
    exact decide_eq_true (Nat.le_trans (n3_len h) (by decide)), by rw [PyData.bulk]; omega⟩
theorem len_flat : ∀ {L : List (List Nat)}, (∀ c ∈ L, c ≠ []) → L.length ≤ L.flatten.length
  | [], _ => by simp
  | c :: L, h => by
    have ih := len_flat (L := L) fun x hx => h x (List.mem_cons_of_mem _ hx)
    have := List.length_pos_iff.mpr (h c List.mem_cons_self)
    rw [List.length_cons, List.flatten_cons, List.length_append]
    omega
theorem show_pure (s g : List (Option Str)) (hg : g.length ≤ 60) : okShowX (.list ((pureC s g).map cT)) = true := by
  obtain ⟨n1, n2⟩ := pureC_ok s g
  have R := pureC_is s g
  have hh := held_len s g
  have hfl := nd_len n1 n2
  have hL := len_flat (L := pureC s g) fun c hc => by
    obtain ⟨i, r, e, _⟩ := R.path c hc
    rw [e]; simp
  have a : AX (1 + 1) ((60 + 1) * ((pureC s g).map cT).length) (.list ((pureC s g).map cT)) := AX.list fun d hd => by
    obtain ⟨c, hc, rfl⟩ := List.mem_map.mp hd
    have sub : ∀ x ∈ c, x ∈ heldS s g := fun x hx => n2 x (List.mem_flatten.mpr ⟨c, hc, hx⟩)
    have lc := nd_len (part_nd n1 hc) sub
    have q : AX (0 + 1) ((0 + 1) * (c.map nI).length) (.tuple (c.map nI)) := AX.tuple fun d hd => by
      obtain ⟨i, hi, rfl⟩ := List.mem_map.mp hd
      have := obj_some (mem_held.mp (sub i hi)).2.1
      exact AX.int ⟨by omega, by omega⟩
    exact q.mono (by omega) (by rw [List.length_map]; omega)
  refine a.ok (by omega) ?_
  rw [List.length_map]
  have : (pureC s g).length ≤ 60 := by omega
  calc (60 + 1) * (pureC s g).length ≤ 61 * 60 := Nat.mul_le_mul_left _ this
    _ ≤ 60000 := by decide
noncomputable abbrev SA : EvS := (sAsg (gT 2 (gsCons (gN 3) (gsCons (gN 4) gsNil))) (eX (xCall m__law_pair (aCons (eVar 1) (aCons (eC (.int 17)) aNil)))))
noncomputable abbrev S7 : EvS := (sSetX 7 (xE (eCa cReprX (aCons (eX (xCall m__law_due (aCons (eGive 5) (aCons (eGive 6) aNil)))) aNil))))
noncomputable abbrev S9 : EvS := (sSetX 9 (xCall m_pure_cycles (aCons (eGive 5) (aCons (eGive 6) aNil))))
abbrev SI : EvS := (sIf (tVal (eOp dNe (eCa cReprX (aCons (eVar 9) aNil)) (eVar 7))) (sRetX (xE (eC (.bool false)))) sNext)
abbrev SD : EvS := (sDrop (eMt "list" gApp 9 (aCons (eTup aNil) aNil)))
noncomputable abbrev RB : EvS := sSeq S9 (sSeq SI SD)
noncomputable abbrev IB : EvS := sSeq S7 (sFor (wRng1 (aCons (eC (.int 2)) aNil)) (gN 8) RB)
noncomputable abbrev SBL : EvS := (sFor (wAny (eTup (aCons (eTup (aCons (eGive 3) (aCons (eGive 4) aNil))) (aCons (eTup (aCons (eGive 4) (aCons (eGive 3) aNil))) (aCons (eTup (aCons (eGive 3) (aCons (eGive 3) aNil))) aNil))))) (gT 2 (gsCons (gN 5) (gsCons (gN 6) gsNil))) IB)
noncomputable abbrev LBB : EvS := sSeq SA SBL
theorem law_split : b_law = sSeq (sFor (wRng1 (aCons (eC (.int 3)) aNil)) (gN 2) LBB) (sRetX (xE (eAnd (eOp dEq (eX (xCallK m_pure_cycles (selA 0 2 true) aNil (aCons (eTup (aCons (eC (.str ("b" : Str))) (aCons (eC (.str ("a" : Str))) (aCons (eC (.str ("a" : Str))) aNil)))) (aCons (eTup (aCons (eC (.str ("a" : Str))) (aCons (eC (.str ("b" : Str))) aNil))) aNil)))) (eX (xM (eLst aNil)))) (eOp dEq (eX (xCall m_pure_cycles (aCons (eTup aNil) (aCons (eTup (aCons (eC (.str ("a" : Str))) aNil)) aNil)))) (eX (xM (eLst aNil))))))) := rfl
theorem sqL {a b : EvS} {e e' : En} (h : a e = some (.nx, e')) : sSeq a b e = b e' := by rw [q_seq, h]; rfl
theorem for_ind {tg : D → En → Option En} {b : EvS} (I : List D → En → Prop) (hs : ∀ d ds env, I (d :: ds) env → ∃ e1, tg d env = some e1 ∧ ∃ e2, b e1 = some (.nx, e2) ∧ I ds e2) :
    ∀ ds env, I ds env → ∃ env', forE tg b ds env = some (.nx, env') ∧ I [] env'
  | [], env, h => ⟨env, rfl, h⟩
  | d :: ds, env, h => by
    obtain ⟨e1, h1, e2, h2, h3⟩ := hs d ds env h
    obtain ⟨e3, h4, h5⟩ := for_ind I hs ds e2 h3
    exact ⟨e3, by rw [q_forc, h1, q_forb, h2, q_fork1, h4], h5⟩
theorem rb_ok (a b : List (Option Str)) (ha : a.length ≤ 60) (hb : b.length ≤ 60) (o0 o1 o2 o3 o4 o8 o9 : Option Sl) :
    RB [o0, o1, o2, o3, o4, some (.shr (.tuple (a.map eD))), some (.shr (.tuple (b.map eD))), some (.shr (.str (PyData.list ((pureC a b).map cT)).shown)), o8, o9]
      = some (.nx, [o0, o1, o2, o3, o4, some (.shr (.tuple (a.map eD))), some (.shr (.tuple (b.map eD))), some (.shr (.str (PyData.list ((pureC a b).map cT)).shown)), o8, some (.own false (.l ((pureC a b).map cT ++ [.tuple []])))]) := by
  have h1 := pure_ok a b (by omega) (by omega)
  have h2 := c_reprX (show_pure a b hb)
  have h3 : dNe (.str (PyData.list ((pureC a b).map cT)).shown) (.str (PyData.list ((pureC a b).map cT)).shown) = some (.bool false) := by rw [c_neT]; simp
  have h4 : ((pureC a b).map cT).length ≤ 1000000 := by
    obtain ⟨n1, n2⟩ := pureC_ok a b
    have R := pureC_is a b
    have := nd_len n1 n2
    have := held_len a b
    have := len_flat (L := pureC a b) fun c hc => by
      obtain ⟨i, r, e, _⟩ := R.path c hc
      rw [e]; simp
    rw [List.length_map]; omega
  clear ha hb
  generalize (PyData.list ((pureC a b).map cT)).shown = r at *
  generalize (pureC a b).map cT = L at *
  generalize PyData.tuple (a.map eD) = A at *
  generalize PyData.tuple (b.map eD) = B at *
  have w1 : S9 [o0, o1, o2, o3, o4, some (.shr A), some (.shr B), some (.shr (.str r)), o8, o9] = some (.nx, [o0, o1, o2, o3, o4, some (.shr A), some (.shr B), some (.shr (.str r)), o8, some (.own false (.l L))]) := by
    unfold S9
    clear h2 h3 h4
    generalize m_pure_cycles = F at *
    walk_at "gd"
  have w2 : SI [o0, o1, o2, o3, o4, some (.shr A), some (.shr B), some (.shr (.str r)), o8, some (.own false (.l L))] = some (.nx, [o0, o1, o2, o3, o4, some (.shr A), some (.shr B), some (.shr (.str r)), o8, some (.own false (.l L))]) := by
    unfold SI
    clear h1 h4 w1
    walk_at "gd"
  have w3 : SD [o0, o1, o2, o3, o4, some (.shr A), some (.shr B), some (.shr (.str r)), o8, some (.own false (.l L))] = some (.nx, [o0, o1, o2, o3, o4, some (.shr A), some (.shr B), some (.shr (.str r)), o8, some (.own false (.l (L ++ [.tuple []])))]) := by
    unfold SD
    clear h1 h2 h3 w1 w2
    walk_at "gd"
  unfold RB
  rw [sqL w1, sqL w2]
  exact w3
theorem ib_ok (a b : List (Option Str)) (ha : a.length ≤ 60) (hb : b.length ≤ 60) (o0 o1 o2 o3 o4 o7 o8 o9 : Option Sl) :
    ∃ p7 p8 p9, IB [o0, o1, o2, o3, o4, some (.shr (.tuple (a.map eD))), some (.shr (.tuple (b.map eD))), o7, o8, o9] = some (.nx, [o0, o1, o2, o3, o4, some (.shr (.tuple (a.map eD))), some (.shr (.tuple (b.map eD))), p7, p8, p9]) := by
  have hd := due_ok a b ha hb
  have h2 := c_reprX (show_pure a b hb)
  have w1 : S7 [o0, o1, o2, o3, o4, some (.shr (.tuple (a.map eD))), some (.shr (.tuple (b.map eD))), o7, o8, o9] = some (.nx, [o0, o1, o2, o3, o4, some (.shr (.tuple (a.map eD))), some (.shr (.tuple (b.map eD))), some (.shr (.str (PyData.list ((pureC a b).map cT)).shown)), o8, o9]) := by
    unfold S7
    clear ha hb
    generalize (PyData.list ((pureC a b).map cT)).shown = r at *
    generalize (pureC a b).map cT = L at *
    generalize PyData.tuple (a.map eD) = A at *
    generalize PyData.tuple (b.map eD) = B at *
    generalize m__law_due = F at *
    walk_at "gd"
  have r1 := rb_ok a b ha hb o0 o1 o2 o3 o4 (some (.shr (.int 0))) o9
  have r2 := rb_ok a b ha hb o0 o1 o2 o3 o4 (some (.shr (.int 1))) (some (.own false (.l ((pureC a b).map cT ++ [.tuple []]))))
  refine ⟨some (.shr (.str (PyData.list ((pureC a b).map cT)).shown)), some (.shr (.int 1)), some (.own false (.l ((pureC a b).map cT ++ [.tuple []]))), ?_⟩
  unfold IB
  rw [sqL w1, q_for]
  have e : (wRng1 (aCons (eC (.int 2)) aNil)) [o0, o1, o2, o3, o4, some (.shr (.tuple (a.map eD))), some (.shr (.tuple (b.map eD))), some (.shr (.str (PyData.list ((pureC a b).map cT)).shown)), o8, o9] = some ([.int 0, .int 1], [o0, o1, o2, o3, o4, some (.shr (.tuple (a.map eD))), some (.shr (.tuple (b.map eD))), some (.shr (.str (PyData.list ((pureC a b).map cT)).shown)), o8, o9]) := rfl
  rw [e, q_for1, for_cons rfl r1, for_cons rfl r2]
  rfl
theorem sb_ok (a b : List (Option Str)) (ha : a.length ≤ 60) (hb : b.length ≤ 60) (o0 o1 o2 o5 o6 o7 o8 o9 : Option Sl) :
    ∃ p5 p6 p7 p8 p9, SBL [o0, o1, o2, some (.shr (.tuple (a.map eD))), some (.shr (.tuple (b.map eD))), o5, o6, o7, o8, o9] = some (.nx, [o0, o1, o2, some (.shr (.tuple (a.map eD))), some (.shr (.tuple (b.map eD))), p5, p6, p7, p8, p9]) := by
  obtain ⟨a7, a8, a9, r1⟩ := ib_ok a b ha hb o0 o1 o2 (some (.shr (.tuple (a.map eD)))) (some (.shr (.tuple (b.map eD)))) o7 o8 o9
  obtain ⟨b7, b8, b9, r2⟩ := ib_ok b a hb ha o0 o1 o2 (some (.shr (.tuple (a.map eD)))) (some (.shr (.tuple (b.map eD)))) a7 a8 a9
  obtain ⟨c7, c8, c9, r3⟩ := ib_ok a a ha ha o0 o1 o2 (some (.shr (.tuple (a.map eD)))) (some (.shr (.tuple (b.map eD)))) b7 b8 b9
  refine ⟨some (.shr (.tuple (a.map eD))), some (.shr (.tuple (a.map eD))), c7, c8, c9, ?_⟩
  unfold SBL
  rw [q_for]
  generalize IB = I at *
  generalize PyData.tuple (a.map eD) = A at *
  generalize PyData.tuple (b.map eD) = B at *
  have e : (wAny (eTup (aCons (eTup (aCons (eGive 3) (aCons (eGive 4) aNil))) (aCons (eTup (aCons (eGive 4) (aCons (eGive 3) aNil))) (aCons (eTup (aCons (eGive 3) (aCons (eGive 3) aNil))) aNil))))) [o0, o1, o2, some (.shr A), some (.shr B), o5, o6, o7, o8, o9] = some ([.tuple [A, B], .tuple [B, A], .tuple [A, A]], [o0, o1, o2, some (.shr A), some (.shr B), o5, o6, o7, o8, o9]) := rfl
  rw [e, q_for1, for_cons rfl r1, for_cons rfl r2, for_cons rfl r3]
  rfl
theorem lbb_ok (ns : List Int) (i g : Int) (d : D) (p3 p4 p5 p6 p7 p8 p9 : Option Sl) (h0 : 0 ≤ i) (h1 : i + 3000 < 900000) (hg : 0 ≤ g) :
    ∃ (i' g' : Int) (q3 q4 q5 q6 q7 q8 q9 : Option Sl), LBB [none, some (.own false (pen ns i g)), some (.shr d), p3, p4, p5, p6, p7, p8, p9] = some (.nx, [none, some (.own false (pen ns i' g')), some (.shr d), q3, q4, q5, q6, q7, q8, q9]) ∧ i ≤ i' ∧ i' ≤ i + 1000 ∧ 0 ≤ g' := by
  obtain ⟨s1, g1, i1, u1, e1, a1, a2, a3, a4, a5, a6, a7⟩ := pair_ok ns i g h0 (by omega) hg
  obtain ⟨q5, q6, q7, q8, q9, hb⟩ := sb_ok s1 g1 (by omega) (by omega) none (some (.own false (pen ns i1 u1))) (some (.shr d)) p5 p6 p7 p8 p9
  have w1 : SA [none, some (.own false (pen ns i g)), some (.shr d), p3, p4, p5, p6, p7, p8, p9] = some (.nx, [none, some (.own false (pen ns i1 u1)), some (.shr d), some (.shr (.tuple (s1.map eD))), some (.shr (.tuple (g1.map eD))), p5, p6, p7, p8, p9]) := by
    clear hb a1 a2 a3 a4 a5 a6 a7 h0 h1 hg
    unfold SA
    generalize PyData.tuple (s1.map eD) = S at *
    generalize PyData.tuple (g1.map eD) = G at *
    walk_at "gd"
  refine ⟨i1, u1, some (.shr (.tuple (s1.map eD))), some (.shr (.tuple (g1.map eD))), q5, q6, q7, q8, q9, ?_, by omega, by omega, a7⟩
  unfold LBB
  rw [sqL w1]
  exact hb
theorem pc1 : pureC [some ("a" : Str), some ("b" : Str)] [some ("b" : Str), some ("a" : Str), some ("a" : Str)] = [] := by decide +kernel
theorem pc2 : pureC [] [some ("a" : Str)] = [] := by decide +kernel
theorem math : ∀ ns : List Int, ns.length ≤ 63 → ∃ env', b_law (penv 10 ns) = some (.rt (.val (.bool true)), env') := by
  intro ns _
  have e0 : penv 10 ns = [none, some (.own false (pen ns 0 0)), none, none, none, none, none, none, none, none] := rfl
  obtain ⟨env', e1, ⟨j, q, p2, p3, p4, p5, p6, p7, p8, p9, rfl, a1, a2, a3⟩⟩ := for_ind (tg := gN 2) (b := LBB)
    (fun ds env => ∃ (j q : Int) (p2 p3 p4 p5 p6 p7 p8 p9 : Option Sl), env = [none, some (.own false (pen ns j q)), p2, p3, p4, p5, p6, p7, p8, p9] ∧ 0 ≤ j ∧ j + 1000 * (ds.length : Int) ≤ 9000 ∧ 0 ≤ q)
    (fun d ds env hI => by
      obtain ⟨j, q, p2, p3, p4, p5, p6, p7, p8, p9, rfl, a1, a2, a3⟩ := hI
      rw [List.length_cons] at a2
      obtain ⟨i2, g2, q3, q4, q5, q6, q7, q8, q9, w, b1, b2, b3⟩ := lbb_ok ns j q d p3 p4 p5 p6 p7 p8 p9 a1 (by omega) a3
      exact ⟨_, rfl, _, w, i2, g2, some (.shr d), q3, q4, q5, q6, q7, q8, q9, rfl, by omega, by omega, b3⟩)
    (rangeD 0 3) [none, some (.own false (pen ns 0 0)), none, none, none, none, none, none, none, none] ⟨0, 0, none, none, none, none, none, none, none, none, rfl, by omega, by rw [range_len]; omega, by omega⟩
  have k1 : m_pure_cycles [.shr (.tuple [.str ("a" : Str), .str ("b" : Str)]), .shr (.tuple [.str ("b" : Str), .str ("a" : Str), .str ("a" : Str)])] = some (.new (.l []), [none, none]) := by
    have := pure_ok [some ("a" : Str), some ("b" : Str)] [some ("b" : Str), some ("a" : Str), some ("a" : Str)] (by decide) (by decide)
    rw [pc1] at this
    exact this
  have k2 : m_pure_cycles [.shr (.tuple []), .shr (.tuple [.str ("a" : Str)])] = some (.new (.l []), [none, none]) := by
    have := pure_ok [] [some ("a" : Str)] (by decide) (by decide)
    rw [pc2] at this
    exact this
  have k3 : dEq (.list []) (.list []) = some (.bool true) := c_eqL0 (ds := []) (sh_flat fun d hd => by cases hd)
  refine ⟨[none, some (.own false (pen ns j q)), p2, p3, p4, p5, p6, p7, p8, p9], ?_⟩
  rw [e0, law_split]
  generalize LBB = BB at *
  generalize m_pure_cycles = F at *
  walk_at "gd"
end My

namespace My
open PySem PySem.Spec PyProof.Rows L2 GD
set_option maxHeartbeats 0 in
theorem all_mk {l : PySem.W.OpenLaw} {w : World} {K : PySem.W.Frag} {h : Heap} {mg : Str → Option Value} {fa f0 f1 f2 f3 f4 f5 f6 f7 f8 f9 f10 f11 f12 f13 f14 f15 f16 f17 f18 f19 f20 f21 f22 f23 : Addr} (X : K.In h) (G : h.Ns mainGlobals mg) (hfa : mg "law" = some (.ref fa))
    {od0 an0 od1 an1 od2 an2 od3 an3 od4 an4 od5 an5 od6 an6 od7 an7 od8 an8 od9 an9 od10 an10 od11 an11 od12 an12 od13 an13 od14 an14 od15 an15 od16 an16 od17 an17 od18 an18 od19 an19 od20 an20 od21 an21 od22 an22 od23 an23 : Option Addr} {sl0 sl1 sl2 sl3 sl4 sl5 sl6 sl7 sl8 sl9 sl10 sl11 sl12 sl13 sl14 sl15 sl16 sl17 sl18 sl19 sl20 sl21 sl22 sl23 : Array (Option Value)} {oc0 kV0 dc0 pm0 cd0 ct0 oc1 kV1 dc1 pm1 cd1 ct1 oc2 kV2 dc2 pm2 cd2 ct2 oc3 kV3 dc3 pm3 cd3 ct3 oc4 kV4 dc4 pm4 cd4 ct4 oc5 kV5 dc5 pm5 cd5 ct5 oc6 kV6 dc6 pm6 cd6 ct6 oc7 kV7 dc7 pm7 cd7 ct7 oc8 kV8 dc8 pm8 cd8 ct8 oc9 kV9 dc9 pm9 cd9 ct9 oc10 kV10 dc10 pm10 cd10 ct10 oc11 kV11 dc11 pm11 cd11 ct11 oc12 kV12 dc12 pm12 cd12 ct12 oc13 kV13 dc13 pm13 cd13 ct13 oc14 kV14 dc14 pm14 cd14 ct14 oc15 kV15 dc15 pm15 cd15 ct15 oc16 kV16 dc16 pm16 cd16 ct16 oc17 kV17 dc17 pm17 cd17 ct17 oc18 kV18 dc18 pm18 cd18 ct18 oc19 kV19 dc19 pm19 cd19 ct19 oc20 kV20 dc20 pm20 cd20 ct20 oc21 kV21 dc21 pm21 cd21 ct21 oc22 kV22 dc22 pm22 cd22 ct22 oc23 kV23 dc23 pm23 cd23 ct23 : Value}
    (a0 : PySem.W.nsIn K mainGlobals "occupied" = some (some (.ref f0))) (l0 : K.lookup f0 = some ⟨oc0, od0, .func (PySem.W.fnOf "occupied" "occupied" (defArgs s_occupied) (defBody s_occupied) (defScope s_occupied) .none kV0 dc0 pm0 an0 cd0 ct0), sl0⟩) (c0 : PySem.W.codeIn K cd0 "occupied" = true) (k0 : PySem.W.keepIn K (.ref f0) = true)
    (a1 : PySem.W.nsIn K mainGlobals "object_at" = some (some (.ref f1))) (l1 : K.lookup f1 = some ⟨oc1, od1, .func (PySem.W.fnOf "object_at" "object_at" (defArgs s_object_at) (defBody s_object_at) (defScope s_object_at) .none kV1 dc1 pm1 an1 cd1 ct1), sl1⟩) (c1 : PySem.W.codeIn K cd1 "object_at" = true) (k1 : PySem.W.keepIn K (.ref f1) = true)
    (a2 : PySem.W.nsIn K mainGlobals "wrong_slots" = some (some (.ref f2))) (l2 : K.lookup f2 = some ⟨oc2, od2, .func (PySem.W.fnOf "wrong_slots" "wrong_slots" (defArgs s_wrong_slots) (defBody s_wrong_slots) (defScope s_wrong_slots) .none kV2 dc2 pm2 an2 cd2 ct2), sl2⟩) (c2 : PySem.W.codeIn K cd2 "wrong_slots" = true) (k2 : PySem.W.keepIn K (.ref f2) = true)
    (a3 : PySem.W.nsIn K mainGlobals "fresh_slots" = some (some (.ref f3))) (l3 : K.lookup f3 = some ⟨oc3, od3, .func (PySem.W.fnOf "fresh_slots" "fresh_slots" (defArgs s_fresh_slots) (defBody s_fresh_slots) (defScope s_fresh_slots) .none kV3 dc3 pm3 an3 cd3 ct3), sl3⟩) (c3 : PySem.W.codeIn K cd3 "fresh_slots" = true) (k3 : PySem.W.keepIn K (.ref f3) = true)
    (a4 : PySem.W.nsIn K mainGlobals "held_slots" = some (some (.ref f4))) (l4 : K.lookup f4 = some ⟨oc4, od4, .func (PySem.W.fnOf "held_slots" "held_slots" (defArgs s_held_slots) (defBody s_held_slots) (defScope s_held_slots) .none kV4 dc4 pm4 an4 cd4 ct4), sl4⟩) (c4 : PySem.W.codeIn K cd4 "held_slots" = true) (k4 : PySem.W.keepIn K (.ref f4) = true)
    (a5 : PySem.W.nsIn K mainGlobals "needs" = some (some (.ref f5))) (l5 : K.lookup f5 = some ⟨oc5, od5, .func (PySem.W.fnOf "needs" "needs" (defArgs s_needs) (defBody s_needs) (defScope s_needs) .none kV5 dc5 pm5 an5 cd5 ct5), sl5⟩) (c5 : PySem.W.codeIn K cd5 "needs" = true) (k5 : PySem.W.keepIn K (.ref f5) = true)
    (a6 : PySem.W.nsIn K mainGlobals "safe_objects" = some (some (.ref f6))) (l6 : K.lookup f6 = some ⟨oc6, od6, .func (PySem.W.fnOf "safe_objects" "safe_objects" (defArgs s_safe_objects) (defBody s_safe_objects) (defScope s_safe_objects) .none kV6 dc6 pm6 an6 cd6 ct6), sl6⟩) (c6 : PySem.W.codeIn K cd6 "safe_objects" = true) (k6 : PySem.W.keepIn K (.ref f6) = true)
    (a7 : PySem.W.nsIn K mainGlobals "edges_of" = some (some (.ref f7))) (l7 : K.lookup f7 = some ⟨oc7, od7, .func (PySem.W.fnOf "edges_of" "edges_of" (defArgs s_edges_of) (defBody s_edges_of) (defScope s_edges_of) .none kV7 dc7 pm7 an7 cd7 ct7), sl7⟩) (c7 : PySem.W.codeIn K cd7 "edges_of" = true) (k7 : PySem.W.keepIn K (.ref f7) = true)
    (a8 : PySem.W.nsIn K mainGlobals "cycle_from" = some (some (.ref f8))) (l8 : K.lookup f8 = some ⟨oc8, od8, .func (PySem.W.fnOf "cycle_from" "cycle_from" (defArgs s_cycle_from) (defBody s_cycle_from) (defScope s_cycle_from) .none kV8 dc8 pm8 an8 cd8 ct8), sl8⟩) (c8 : PySem.W.codeIn K cd8 "cycle_from" = true) (k8 : PySem.W.keepIn K (.ref f8) = true)
    (a9 : PySem.W.nsIn K mainGlobals "pure_cycles" = some (some (.ref f9))) (l9 : K.lookup f9 = some ⟨oc9, od9, .func (PySem.W.fnOf "pure_cycles" "pure_cycles" (defArgs s_pure_cycles) (defBody s_pure_cycles) (defScope s_pure_cycles) .none kV9 dc9 pm9 an9 cd9 ct9), sl9⟩) (c9 : PySem.W.codeIn K cd9 "pure_cycles" = true) (k9 : PySem.W.keepIn K (.ref f9) = true)
    (a10 : PySem.W.nsIn K mainGlobals "_law_pen" = some (some (.ref f10))) (l10 : K.lookup f10 = some ⟨oc10, od10, .func (PySem.W.fnOf "_law_pen" "_law_pen" (defArgs s__law_pen) (defBody s__law_pen) (defScope s__law_pen) .none kV10 dc10 pm10 an10 cd10 ct10), sl10⟩) (c10 : PySem.W.codeIn K cd10 "_law_pen" = true) (k10 : PySem.W.keepIn K (.ref f10) = true)
    (a11 : PySem.W.nsIn K mainGlobals "_law_draw" = some (some (.ref f11))) (l11 : K.lookup f11 = some ⟨oc11, od11, .func (PySem.W.fnOf "_law_draw" "_law_draw" (defArgs s__law_draw) (defBody s__law_draw) (defScope s__law_draw) .none kV11 dc11 pm11 an11 cd11 ct11), sl11⟩) (c11 : PySem.W.codeIn K cd11 "_law_draw" = true) (k11 : PySem.W.keepIn K (.ref f11) = true)
    (a12 : PySem.W.nsIn K mainGlobals "_law_pool" = some (some (.ref f12))) (l12 : K.lookup f12 = some ⟨oc12, od12, .func (PySem.W.fnOf "_law_pool" "_law_pool" (defArgs s__law_pool) (defBody s__law_pool) (defScope s__law_pool) .none kV12 dc12 pm12 an12 cd12 ct12), sl12⟩) (c12 : PySem.W.codeIn K cd12 "_law_pool" = true) (k12 : PySem.W.keepIn K (.ref f12) = true)
    (a13 : PySem.W.nsIn K mainGlobals "_law_trimmed" = some (some (.ref f13))) (l13 : K.lookup f13 = some ⟨oc13, od13, .func (PySem.W.fnOf "_law_trimmed" "_law_trimmed" (defArgs s__law_trimmed) (defBody s__law_trimmed) (defScope s__law_trimmed) .none kV13 dc13 pm13 an13 cd13 ct13), sl13⟩) (c13 : PySem.W.codeIn K cd13 "_law_trimmed" = true) (k13 : PySem.W.keepIn K (.ref f13) = true)
    (a14 : PySem.W.nsIn K mainGlobals "_law_start" = some (some (.ref f14))) (l14 : K.lookup f14 = some ⟨oc14, od14, .func (PySem.W.fnOf "_law_start" "_law_start" (defArgs s__law_start) (defBody s__law_start) (defScope s__law_start) .none kV14 dc14 pm14 an14 cd14 ct14), sl14⟩) (c14 : PySem.W.codeIn K cd14 "_law_start" = true) (k14 : PySem.W.keepIn K (.ref f14) = true)
    (a15 : PySem.W.nsIn K mainGlobals "_law_goal" = some (some (.ref f15))) (l15 : K.lookup f15 = some ⟨oc15, od15, .func (PySem.W.fnOf "_law_goal" "_law_goal" (defArgs s__law_goal) (defBody s__law_goal) (defScope s__law_goal) .none kV15 dc15 pm15 an15 cd15 ct15), sl15⟩) (c15 : PySem.W.codeIn K cd15 "_law_goal" = true) (k15 : PySem.W.keepIn K (.ref f15) = true)
    (a16 : PySem.W.nsIn K mainGlobals "_law_pair" = some (some (.ref f16))) (l16 : K.lookup f16 = some ⟨oc16, od16, .func (PySem.W.fnOf "_law_pair" "_law_pair" (defArgs s__law_pair) (defBody s__law_pair) (defScope s__law_pair) .none kV16 dc16 pm16 an16 cd16 ct16), sl16⟩) (c16 : PySem.W.codeIn K cd16 "_law_pair" = true) (k16 : PySem.W.keepIn K (.ref f16) = true)
    (a17 : PySem.W.nsIn K mainGlobals "_law_at" = some (some (.ref f17))) (l17 : K.lookup f17 = some ⟨oc17, od17, .func (PySem.W.fnOf "_law_at" "_law_at" (defArgs s__law_at) (defBody s__law_at) (defScope s__law_at) .none kV17 dc17 pm17 an17 cd17 ct17), sl17⟩) (c17 : PySem.W.codeIn K cd17 "_law_at" = true) (k17 : PySem.W.keepIn K (.ref f17) = true)
    (a18 : PySem.W.nsIn K mainGlobals "_law_edges" = some (some (.ref f18))) (l18 : K.lookup f18 = some ⟨oc18, od18, .func (PySem.W.fnOf "_law_edges" "_law_edges" (defArgs s__law_edges) (defBody s__law_edges) (defScope s__law_edges) .none kV18 dc18 pm18 an18 cd18 ct18), sl18⟩) (c18 : PySem.W.codeIn K cd18 "_law_edges" = true) (k18 : PySem.W.keepIn K (.ref f18) = true)
    (a19 : PySem.W.nsIn K mainGlobals "_law_components" = some (some (.ref f19))) (l19 : K.lookup f19 = some ⟨oc19, od19, .func (PySem.W.fnOf "_law_components" "_law_components" (defArgs s__law_components) (defBody s__law_components) (defScope s__law_components) .none kV19 dc19 pm19 an19 cd19 ct19), sl19⟩) (c19 : PySem.W.codeIn K cd19 "_law_components" = true) (k19 : PySem.W.keepIn K (.ref f19) = true)
    (a20 : PySem.W.nsIn K mainGlobals "_law_is_pure" = some (some (.ref f20))) (l20 : K.lookup f20 = some ⟨oc20, od20, .func (PySem.W.fnOf "_law_is_pure" "_law_is_pure" (defArgs s__law_is_pure) (defBody s__law_is_pure) (defScope s__law_is_pure) .none kV20 dc20 pm20 an20 cd20 ct20), sl20⟩) (c20 : PySem.W.codeIn K cd20 "_law_is_pure" = true) (k20 : PySem.W.keepIn K (.ref f20) = true)
    (a21 : PySem.W.nsIn K mainGlobals "_law_walked" = some (some (.ref f21))) (l21 : K.lookup f21 = some ⟨oc21, od21, .func (PySem.W.fnOf "_law_walked" "_law_walked" (defArgs s__law_walked) (defBody s__law_walked) (defScope s__law_walked) .none kV21 dc21 pm21 an21 cd21 ct21), sl21⟩) (c21 : PySem.W.codeIn K cd21 "_law_walked" = true) (k21 : PySem.W.keepIn K (.ref f21) = true)
    (a22 : PySem.W.nsIn K mainGlobals "_law_due" = some (some (.ref f22))) (l22 : K.lookup f22 = some ⟨oc22, od22, .func (PySem.W.fnOf "_law_due" "_law_due" (defArgs s__law_due) (defBody s__law_due) (defScope s__law_due) .none kV22 dc22 pm22 an22 cd22 ct22), sl22⟩) (c22 : PySem.W.codeIn K cd22 "_law_due" = true) (k22 : PySem.W.keepIn K (.ref f22) = true)
    (a23 : PySem.W.nsIn K mainGlobals "law" = some (some (.ref f23))) (l23 : K.lookup f23 = some ⟨oc23, od23, .func (PySem.W.fnOf "law" "law" (defArgs s_law) (defBody s_law) (defScope s_law) .none kV23 dc23 pm23 an23 cd23 ct23), sl23⟩) (c23 : PySem.W.codeIn K cd23 "law" = true) (k23 : PySem.W.keepIn K (.ref f23) = true)
    (z0 : PySem.W.nsIn K mainGlobals "abs" = some none)
    (z1 : PySem.W.nsIn K mainGlobals "enumerate" = some none)
    (z2 : PySem.W.nsIn K mainGlobals "int" = some none)
    (z3 : PySem.W.nsIn K mainGlobals "len" = some none)
    (z4 : PySem.W.nsIn K mainGlobals "list" = some none)
    (z5 : PySem.W.nsIn K mainGlobals "min" = some none)
    (z6 : PySem.W.nsIn K mainGlobals "range" = some none)
    (z7 : PySem.W.nsIn K mainGlobals "repr" = some none)
    (z8 : PySem.W.nsIn K mainGlobals "set" = some none)
    (z9 : PySem.W.nsIn K mainGlobals "sorted" = some none)
    (z10 : PySem.W.nsIn K mainGlobals "tuple" = some none)
    (hm : ∀ ns : List Int, ns.length ≤ 63 → ∃ env', b_law (penv 10 ns) = some (.rt (.val (.bool true)), env')) :
    ∃ fd : FuncData, (∀ (s : Shared) (v : Value), BindsTo s fd ⟨[v], []⟩ [("_law_script", v)]) ∧ ∀ base : Heap, K.In base → base.Ns mainGlobals mg → FnG l.prog w K mg base CX0 7 fa fd ["_law_script"] (spLaw K) := by
  have e := hfa.symm.trans (PySem.W.mg_of X G a23)
  cases e
  have F0 := fun_mk (st := s_occupied) l0 c0 k0
  have F1 := fun_mk (st := s_object_at) l1 c1 k1
  have F2 := fun_mk (st := s_wrong_slots) l2 c2 k2
  have F3 := fun_mk (st := s_fresh_slots) l3 c3 k3
  have F4 := fun_mk (st := s_held_slots) l4 c4 k4
  have F5 := fun_mk (st := s_needs) l5 c5 k5
  have F6 := fun_mk (st := s_safe_objects) l6 c6 k6
  have F7 := fun_mk (st := s_edges_of) l7 c7 k7
  have F8 := fun_mk (st := s_cycle_from) l8 c8 k8
  have F9 := fun_mk (st := s_pure_cycles) l9 c9 k9
  have F10 := fun_mk (st := s__law_pen) l10 c10 k10
  have F11 := fun_mk (st := s__law_draw) l11 c11 k11
  have F12 := fun_mk (st := s__law_pool) l12 c12 k12
  have F13 := fun_mk (st := s__law_trimmed) l13 c13 k13
  have F14 := fun_mk (st := s__law_start) l14 c14 k14
  have F15 := fun_mk (st := s__law_goal) l15 c15 k15
  have F16 := fun_mk (st := s__law_pair) l16 c16 k16
  have F17 := fun_mk (st := s__law_at) l17 c17 k17
  have F18 := fun_mk (st := s__law_edges) l18 c18 k18
  have F19 := fun_mk (st := s__law_components) l19 c19 k19
  have F20 := fun_mk (st := s__law_is_pure) l20 c20 k20
  have F21 := fun_mk (st := s__law_walked) l21 c21 k21
  have F22 := fun_mk (st := s__law_due) l22 c22 k22
  have F23 := fun_mk (st := s_law) l23 c23 k23
  refine ⟨_, fun s v => .of_eq rfl, fun base _ _ => Txt.ok_law (T := {
    dummy := (),
    a_occupied := f0,
    d_occupied := _,
    f_occupied := F0,
    g_occupied := PySem.W.mg_of X G a0,
    b_occupied := (F0.binds fun _ _ _ _ _ _ us hl => match us, hl with | [_], _ => rfl),
    a_object_at := f1,
    d_object_at := _,
    f_object_at := F1,
    g_object_at := PySem.W.mg_of X G a1,
    b_object_at := (F1.binds fun _ _ _ _ _ _ us hl => match us, hl with | [_, _], _ => rfl),
    a_wrong_slots := f2,
    d_wrong_slots := _,
    f_wrong_slots := F2,
    g_wrong_slots := PySem.W.mg_of X G a2,
    b_wrong_slots := (F2.binds fun _ _ _ _ _ _ us hl => match us, hl with | [_, _], _ => rfl),
    a_fresh_slots := f3,
    d_fresh_slots := _,
    f_fresh_slots := F3,
    g_fresh_slots := PySem.W.mg_of X G a3,
    b_fresh_slots := (F3.binds fun _ _ _ _ _ _ us hl => match us, hl with | [_, _], _ => rfl),
    a_held_slots := f4,
    d_held_slots := _,
    f_held_slots := F4,
    g_held_slots := PySem.W.mg_of X G a4,
    b_held_slots := (F4.binds fun _ _ _ _ _ _ us hl => match us, hl with | [_, _], _ => rfl),
    a_needs := f5,
    d_needs := _,
    f_needs := F5,
    g_needs := PySem.W.mg_of X G a5,
    b_needs := (F5.binds fun _ _ _ _ _ _ us hl => match us, hl with | [_, _], _ => rfl),
    a_safe_objects := f6,
    d_safe_objects := _,
    f_safe_objects := F6,
    g_safe_objects := PySem.W.mg_of X G a6,
    b_safe_objects := (F6.binds fun _ _ _ _ _ _ us hl => match us, hl with | [_, _], _ => rfl),
    a_edges_of := f7,
    d_edges_of := _,
    f_edges_of := F7,
    g_edges_of := PySem.W.mg_of X G a7,
    b_edges_of := (F7.binds fun _ _ _ _ _ _ us hl => match us, hl with | [_, _], _ => rfl),
    a_cycle_from := f8,
    d_cycle_from := _,
    f_cycle_from := F8,
    g_cycle_from := PySem.W.mg_of X G a8,
    b_cycle_from := (F8.binds fun _ _ _ _ _ _ us hl => match us, hl with | [_, _, _], _ => rfl),
    a_pure_cycles := f9,
    d_pure_cycles := _,
    f_pure_cycles := F9,
    g_pure_cycles := PySem.W.mg_of X G a9,
    b_pure_cycles := (F9.binds fun _ _ _ _ _ _ us hl => match us, hl with | [_, _], _ => rfl),
    k0_pure_cycles_goal_start := (kb_sel F9 rfl (by decide) fun _ _ _ _ _ _ us ws hl hk => match us, ws, hl, hk with | [], [_, _], _, _ => rfl),
    a__law_pen := f10,
    d__law_pen := _,
    f__law_pen := F10,
    g__law_pen := PySem.W.mg_of X G a10,
    b__law_pen := (F10.binds fun _ _ _ _ _ _ us hl => match us, hl with | [_], _ => rfl),
    a__law_draw := f11,
    d__law_draw := _,
    f__law_draw := F11,
    g__law_draw := PySem.W.mg_of X G a11,
    b__law_draw := (F11.binds fun _ _ _ _ _ _ us hl => match us, hl with | [_, _], _ => rfl),
    a__law_pool := f12,
    d__law_pool := _,
    f__law_pool := F12,
    g__law_pool := PySem.W.mg_of X G a12,
    b__law_pool := (F12.binds fun _ _ _ _ _ _ us hl => match us, hl with | [_, _], _ => rfl),
    a__law_trimmed := f13,
    d__law_trimmed := _,
    f__law_trimmed := F13,
    g__law_trimmed := PySem.W.mg_of X G a13,
    b__law_trimmed := (F13.binds fun _ _ _ _ _ _ us hl => match us, hl with | [_], _ => rfl),
    a__law_start := f14,
    d__law_start := _,
    f__law_start := F14,
    g__law_start := PySem.W.mg_of X G a14,
    b__law_start := (F14.binds fun _ _ _ _ _ _ us hl => match us, hl with | [_, _, _], _ => rfl),
    a__law_goal := f15,
    d__law_goal := _,
    f__law_goal := F15,
    g__law_goal := PySem.W.mg_of X G a15,
    b__law_goal := (F15.binds fun _ _ _ _ _ _ us hl => match us, hl with | [_, _], _ => rfl),
    a__law_pair := f16,
    d__law_pair := _,
    f__law_pair := F16,
    g__law_pair := PySem.W.mg_of X G a16,
    b__law_pair := (F16.binds fun _ _ _ _ _ _ us hl => match us, hl with | [_, _], _ => rfl),
    a__law_at := f17,
    d__law_at := _,
    f__law_at := F17,
    g__law_at := PySem.W.mg_of X G a17,
    b__law_at := (F17.binds fun _ _ _ _ _ _ us hl => match us, hl with | [_, _], _ => rfl),
    a__law_edges := f18,
    d__law_edges := _,
    f__law_edges := F18,
    g__law_edges := PySem.W.mg_of X G a18,
    b__law_edges := (F18.binds fun _ _ _ _ _ _ us hl => match us, hl with | [_, _], _ => rfl),
    a__law_components := f19,
    d__law_components := _,
    f__law_components := F19,
    g__law_components := PySem.W.mg_of X G a19,
    b__law_components := (F19.binds fun _ _ _ _ _ _ us hl => match us, hl with | [_], _ => rfl),
    a__law_is_pure := f20,
    d__law_is_pure := _,
    f__law_is_pure := F20,
    g__law_is_pure := PySem.W.mg_of X G a20,
    b__law_is_pure := (F20.binds fun _ _ _ _ _ _ us hl => match us, hl with | [_, _, _, _], _ => rfl),
    a__law_walked := f21,
    d__law_walked := _,
    f__law_walked := F21,
    g__law_walked := PySem.W.mg_of X G a21,
    b__law_walked := (F21.binds fun _ _ _ _ _ _ us hl => match us, hl with | [_, _, _], _ => rfl),
    a__law_due := f22,
    d__law_due := _,
    f__law_due := F22,
    g__law_due := PySem.W.mg_of X G a22,
    b__law_due := (F22.binds fun _ _ _ _ _ _ us hl => match us, hl with | [_, _], _ => rfl),
    n_abs := PySem.W.mg_none_of X G z0,
    n_enumerate := PySem.W.mg_none_of X G z1,
    n_int := PySem.W.mg_none_of X G z2,
    n_len := PySem.W.mg_none_of X G z3,
    n_list := PySem.W.mg_none_of X G z4,
    n_min := PySem.W.mg_none_of X G z5,
    n_range := PySem.W.mg_none_of X G z6,
    n_repr := PySem.W.mg_none_of X G z7,
    n_set := PySem.W.mg_none_of X G z8,
    n_sorted := PySem.W.mg_none_of X G z9,
    n_tuple := PySem.W.mg_none_of X G z10 }) F23 hm⟩
end My
open PySem PySem.W PyProof.Rows
set_option maxHeartbeats 0 in
theorem PySem.Challenge.cw_gapdup_k17_pure_cycles_found_holds : PySem.Challenge.rw_gapdup_k17_pure_cycles_found.Holds := by
  w_on; o_law
  refine PySem.W.holds_open (q := My.zhQ) (loose := My.zhL)
    (Xt := fun s => PySem.W.xlAt My.zhQ [] s && PySem.W.recOk [] s) (XP := PySem.W.XL My.zhQ [])
    (Yf := PySem.W.Hook.obs (PySem.W.kHook My.zhP.heap_1 My.zhA My.zhI))
    (Ya := PySem.W.Hook.val (PySem.W.kHook My.zhP.heap_1 My.zhA My.zhI))
    (YP := PySem.W.Hook.says (PySem.W.kHook My.zhP.heap_1 My.zhA My.zhI)) (N := 2294)
    ?hl (PySem.W.Hook.of _) (PySem.W.Hook.keeps _) (fun s e => PySem.W.xl_of s (Bool.and_eq_true_iff.mp e).1)
    PySem.W.XL.keeps (by rfl) (by rfl) (by rfl) (fun s e => PySem.W.recFacts_of (Bool.and_eq_true_iff.mp e).2)
    (by rfl) (by first | assumption | decide +kernel) (by decide +kernel) ⟨rfl, rfl, rfl, rfl, rfl, by decide +kernel⟩ ?hw ?hc
  case hl =>
    exact HeadRun.left_oneK (M := 1594) (by kernel_rfl) (by rfl) (fun s => by kernel_rfl) (by rfl) My.zhW
  all_goals (try clear said)
  (case hw => w_witness2)
  k_fill
  refine GD.walkG (l := PySem.Challenge.rw_gapdup_k17_pure_cycles_found) (n := 63) (k := 7) (x := "_law_script") (CX := fun _ => L2.CX0) (sp := fun w => My.spLaw _) rfl (by decide) rfl ⟨rfl, by decide, by decide⟩ (fun w h Y => PySem.W.kIn_of Y) ?F (fun _ _ a ns hl _ hS => ⟨a, ns, rfl, hS, hl, rfl⟩) (fun _ _ _ _ _ h => h)
  case F =>
    intro w mg fa h KX G hmg
    refine' My.all_mk KX G hmg ?a0 ?l0 ?c0 ?k0 ?a1 ?l1 ?c1 ?k1 ?a2 ?l2 ?c2 ?k2 ?a3 ?l3 ?c3 ?k3 ?a4 ?l4 ?c4 ?k4 ?a5 ?l5 ?c5 ?k5 ?a6 ?l6 ?c6 ?k6 ?a7 ?l7 ?c7 ?k7 ?a8 ?l8 ?c8 ?k8 ?a9 ?l9 ?c9 ?k9 ?a10 ?l10 ?c10 ?k10 ?a11 ?l11 ?c11 ?k11 ?a12 ?l12 ?c12 ?k12 ?a13 ?l13 ?c13 ?k13 ?a14 ?l14 ?c14 ?k14 ?a15 ?l15 ?c15 ?k15 ?a16 ?l16 ?c16 ?k16 ?a17 ?l17 ?c17 ?k17 ?a18 ?l18 ?c18 ?k18 ?a19 ?l19 ?c19 ?k19 ?a20 ?l20 ?c20 ?k20 ?a21 ?l21 ?c21 ?k21 ?a22 ?l22 ?c22 ?k22 ?a23 ?l23 ?c23 ?k23 ?z0 ?z1 ?z2 ?z3 ?z4 ?z5 ?z6 ?z7 ?z8 ?z9 ?z10 My.math
    (case a0 => k_is); (case l0 => k_is); (case c0 => k_is); (case k0 => k_is); (case a1 => k_is); (case l1 => k_is); (case c1 => k_is); (case k1 => k_is); (case a2 => k_is); (case l2 => k_is); (case c2 => k_is); (case k2 => k_is); (case a3 => k_is); (case l3 => k_is); (case c3 => k_is); (case k3 => k_is); (case a4 => k_is); (case l4 => k_is); (case c4 => k_is); (case k4 => k_is); (case a5 => k_is); (case l5 => k_is); (case c5 => k_is); (case k5 => k_is); (case a6 => k_is); (case l6 => k_is); (case c6 => k_is); (case k6 => k_is); (case a7 => k_is); (case l7 => k_is); (case c7 => k_is); (case k7 => k_is); (case a8 => k_is); (case l8 => k_is); (case c8 => k_is); (case k8 => k_is); (case a9 => k_is); (case l9 => k_is); (case c9 => k_is); (case k9 => k_is); (case a10 => k_is); (case l10 => k_is); (case c10 => k_is); (case k10 => k_is); (case a11 => k_is); (case l11 => k_is); (case c11 => k_is); (case k11 => k_is); (case a12 => k_is); (case l12 => k_is); (case c12 => k_is); (case k12 => k_is); (case a13 => k_is); (case l13 => k_is); (case c13 => k_is); (case k13 => k_is); (case a14 => k_is); (case l14 => k_is); (case c14 => k_is); (case k14 => k_is); (case a15 => k_is); (case l15 => k_is); (case c15 => k_is); (case k15 => k_is); (case a16 => k_is); (case l16 => k_is); (case c16 => k_is); (case k16 => k_is); (case a17 => k_is); (case l17 => k_is); (case c17 => k_is); (case k17 => k_is); (case a18 => k_is); (case l18 => k_is); (case c18 => k_is); (case k18 => k_is); (case a19 => k_is); (case l19 => k_is); (case c19 => k_is); (case k19 => k_is); (case a20 => k_is); (case l20 => k_is); (case c20 => k_is); (case k20 => k_is); (case a21 => k_is); (case l21 => k_is); (case c21 => k_is); (case k21 => k_is); (case a22 => k_is); (case l22 => k_is); (case c22 => k_is); (case k22 => k_is); (case a23 => k_is); (case l23 => k_is); (case c23 => k_is); (case k23 => k_is); (case z0 => k_is); (case z1 => k_is); (case z2 => k_is); (case z3 => k_is); (case z4 => k_is); (case z5 => k_is); (case z6 => k_is); (case z7 => k_is); (case z8 => k_is); (case z9 => k_is); (case z10 => k_is)

