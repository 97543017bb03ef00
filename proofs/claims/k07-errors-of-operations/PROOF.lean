import PyProof.Rows.All
import Wide.All
import OpenK.AllK
import Wide.FinOn
import KE.OsRunLaw
import HandS.ForMost
import HandS.Exc
import HandS.TupAny
import HandS.TupMul
import HandS.IsInst
import HandS.RaiseMore
import HandS.FStr
import HandS.Deep
import HandS.NoneIn
import KE.KUnpackStar
import HandS.Flow
import KE.GoesEnum
import PyProof.Rows.CallKwBuiltin
import HandS.SortKw
import HandS.ListItems
import HandS.Zip
import KE.KDictZip
import PyProof.RowDictHeap
import HandS.Defaults
import HandS.More
import PyProof.EqAt
import HandS.Text
import HandS.TupLe
import PyProof.NeKinds
import HandS.Style
import KE.GoesZip
import KE.GoesMore
import HandS.SetFor
import HandS.Strs
import PyProof.Rows.SortShellAny
import HandS.SetBool
import PyProof.ListRange
import KE.KRevSl
import HandS.Ends
import HandS.ExcValue
import KE.KExcInit
import KE.KTryMore
import HandS.ExcIs
import HandS.ExcField
import PyProof.ExcBaseAll.LookupError
import PyProof.ExcBaseAll.OverflowError
import PyProof.ExcBaseAll.ValueError
import PyProof.ExcBaseAll.RuntimeError
import HandS.TryOnly
import HandS.DictComp
import HandS.SetKeys
import KE.SortCalls
import KE.SortData
import PyProof.ListStr
import HandS.Conv
import KE.DataCmp
import KE.DataMinMax
import HandS.Replace
import KE.DatumIndex
import KE.DatumMore
import HandS.Lambda
import KE.KExcRaise
import KE.DataFind
import KE.GoesNew
import KE.KDictCopyH
import PyProof.ExcBaseAll.IndexError
import PySem.Challenge.RW_gapdup_k07_errors_of_operations
set_option Elab.async false
set_option linter.all false
set_option maxRecDepth 100000
local macro_rules
  | `(tactic| o_head $H:term) => `(tactic| (have hook := $H
                                            exact (by assumption : ∀ r : PySem.W.OpenRow, r.Holds) _))
set_option maxHeartbeats 0 in
theorem My.zhP (h : ∀ r : PySem.W.OpenRow, r.Holds) : PySem.W.OpenRow.Holds (PySem.W.OpenLaw.row PySem.Challenge.rw_gapdup_k07_errors_of_operations) := by
  k_head
namespace My
section
open PySem PySem.W PySem.Calls PyProof.Rows
noncomputable def zhQ : Program :=
  let p := PySem.Challenge.pw_gapdup_k07_errors_of_operations
  { p with main := { p.main with body := p.main.body.drop 43 } }
def zhL : List PySem.Str := (PySem.Challenge.pw_gapdup_k07_errors_of_operations.main.scope.names.map (·.1)).filter fun x => !(x == ("law" : PySem.Str))
def zhA : List Addr :=
  [2, 3, 15, 22, 23, 24, 25, 28, 35, 37, 38, 40, 41, 42, 43, 44, 47, 54, 55, 56, 59, 66, 68, 69, 71, 72, 73, 74, 75, 78, 85, 87, 88, 90, 91, 92, 93, 94, 97, 104,
    106, 107, 109, 110, 111, 112, 113, 116, 123, 125, 126, 128, 129, 130, 131, 132, 133, 136, 143, 145, 146, 148, 149, 150, 151, 152, 153, 156, 163, 165, 166, 168, 169, 170, 171, 172, 173, 176, 178, 179,
    181, 182, 183, 185, 186, 188, 189, 190, 193, 194, 195, 197, 198, 200, 201, 202, 204, 205, 207, 208, 209, 210, 212, 213, 215, 216, 217, 219, 220, 222, 223, 224, 225, 228, 229, 230, 232, 233, 235, 236,
    237, 238, 240, 241, 243, 244, 245, 247, 248, 250, 251, 252, 254, 255, 257, 258, 259, 262, 263, 264, 266, 267, 269, 270, 271, 273, 274, 276, 277, 278, 280, 281, 283, 284, 285, 287, 288, 290, 291, 292,
    295, 296, 297, 300, 301, 302, 304, 305, 307, 308, 309, 311, 312, 314, 315, 316, 319, 320]
theorem zhI (P : Params) : zhA = (My.zhP.heap_1 P).map (·.1) := by kernel_rfl
def zhR (w : World) : Prop :=
  ∀ os : OsState, (HeadRun.endF (HeadRun.stepQ (HeadRun.denQ HeadRun.tabQ) PySem.Challenge.pw_gapdup_k07_errors_of_operations w)
      5926 PySem.Challenge.pw_gapdup_k07_errors_of_operations w os).map (fun s =>
        (HeadRun.looksF PySem.Challenge.pw_gapdup_k07_errors_of_operations (boot_heap w.params) s.abs,
          HeadRun.seenQ zhQ zhL (importedModules PySem.Challenge.pw_gapdup_k07_errors_of_operations.main.body)
            (fun s => xlAt zhQ [] s && recOk [] s) s.abs,
          zhA.map (HeadRun.getT s))) =
    some (true, openGood zhQ zhL, (My.zhP.heap_1 w.params).map fun x => some x.2)
theorem zhF (w : World) : zhR (w.withFollow "special-get-raises" false) := by
  intro os
  kernel_rfl
theorem zhT (w : World) : zhR (w.withFollow "special-get-raises" true) := by
  intro os
  kernel_rfl
theorem zhW (w : World) : zhR w := byRow2 "special-get-raises" (P := zhR) zhF zhT w
end
end My

namespace GD
open PySem PySem.Spec PyProof.Rows L2
def XO (cls : Value) (d : Option Addr) (a : Addr) : HO := .ext fun h => ∃ (oe : Obj) (vs : Array Value), h.get? a = some oe ∧ Zc cls d oe ∧ oe.data = .fields vs
def excD (nm f : Str) (d : PyData) : PyData := .dict [(.none, .str nm), (.str f, d)]
def isExc : PyData → Bool
  | .dict ((.none, _) :: _) => true
  | _ => false
structure FnG (P : Program) (w : World) (K : PySem.W.Frag) (mg : Str → Option Value) (base : Heap)
    (CX : CXT) (k : Nat) (f : Addr) (fd : FuncData) (ps : List Str) (sp : Sp) : Prop where
  len : ∀ vs H Q E, sp vs H Q E → vs.length = ps.length
  run : ∀ (A : Around) (outer : List Env) (s : Shared) (H : Hp) (args : Args) (us : List Value) (vs : List V) (Q : VK) (E : XK),
    A.guards = some [] → Room k A → Env0 P w K mg base A outer s H →
    BindsTo s fd args (ps.zip us) → Vals vs us → sp vs H Q E →
    codeAny (model P w) A (.call (.ref f) args) (CR CX outer P w H s Q E) s
section
variable {P : Program} {w : World} {K : PySem.W.Frag} {mg : Str → Option Value} {base : Heap} {CX : CXT}
variable {j k : Nat} {f : Addr} {fd : FuncData} {ps : List Str} {sp sp' : Sp}
theorem FnG.mono (F : FnG P w K mg base CX j f fd ps sp) (h : j ≤ k) : FnG P w K mg base CX k f fd ps sp where
  len := F.len
  run := fun A outer s H args us vs Q E g hr e b r q => F.run A outer s H args us vs Q E g (hr.mono h) e b r q
end
section
variable {X : Cx} {CX : CXT} {k : Nat} {f : Addr} {fd : FuncData} {ps ks : List Str} {sp : Sp}
variable {dvs : List V} {ds : List Value} {E : XK} {x : Str} {p pos : Pos} {e : Expr} {es : List Expr} {t tk : TA} {kws : List Keyword}
variable {g : List Value → List Value → List Value} {gV : List V → List V → List V}
theorem out_g {pins : List (Addr × Obj)} {σ : L2.St} {H : Hp} {s : Shared} {Q : VK} (hx : Passes CX X E) (I : Inv X pins σ H s)
    (r : Result) (s' : Shared) (hq : CR CX X.stack X.prog X.w H s Q E r s') :
    (match r with
      | .ok (.ret u) => EP X pins σ Q u s'
      | .ok _ => False
      | .error e => X.xe e s') := by
  cases r with
  | error e => exact hx pins σ H s e s' I hq
  | ok fl =>
    cases fl with
    | ret u => exact I.after hq
    | next => exact (show False from hq)
    | brk => exact (show False from hq)
    | cont => exact (show False from hq)
theorem run_g {pins : List (Addr × Obj)} {σ : L2.St} {H : Hp} {s : Shared} {Q : VK} {us : List Value} {vs : List V}
    (F : FnG X.prog X.w X.K X.mg X.base CX k f fd ps sp) (hg : X.A.guards = some []) (hr : Room k X.A) (hb : Binds X.K fd ps ds) (hd : Vals dvs ds)
    (hx : Passes CX X E) (I : Inv X pins σ H s) (r : Vals vs us) (h : sp (vs ++ dvs) H Q E) :
    wpAny (model X.prog X.w) X.A (call (.ref f) us) (EP X pins σ Q) X.xe s := by
  have r2 : Vals (vs ++ dvs) (us ++ ds) := Vals.append r hd
  have hl : (us ++ ds).length = ps.length := (Vals.length r2).symm.trans (F.len _ _ _ _ h)
  refine wpAny_call (codeAny_mono (F.run X.A X.stack s H ⟨us, []⟩ (us ++ ds) (vs ++ dvs) Q E hg hr I.env0 (hb s us I.kIn hl) r2 h) ?_)
  intro r s' hq
  have z := out_g hx I r s' hq
  cases r with
  | error e => exact z
  | ok fl => cases fl <;> first | exact z | exact (show False from z).elim
theorem pe_callG (F : FnG X.prog X.w X.K X.mg X.base CX k f fd ps sp) (hgd : X.A.guards = some []) (hr : Room k X.A) (hg : Gl X x)
    (hm : X.mg x = some (.ref f)) (hk : PySem.W.keepIn X.K (.ref f) = true) (hb : Binds X.K fd ps ds) (hd : Vals dvs ds) (hx : Passes CX X E)
    (ha : PA X (e :: es) t) (hdb : (x == ("__debug__" : Str)) = false := by decide)
    (he : starEach (e :: es) X.env = (false, eval e X.env) :: starEach es X.env := by rfl)
    (hpl : (backTo pos (starEach es X.env)).any (·.1) = false := by rfl) :
    PE X (.Call (.Name x p) (e :: es) [] pos) (tCall sp dvs E t) := by
  constructor
  intro pins s σ H Q I h
  refine wpAny_Call_Name_kw (ld_glob I hg hm ?_ hdb)
  refine PySem.W.callWith_K (h₀ := X.base) I.ok.mod.kin hk (thn (ha.run pos pins s σ H _ I h) ?_) he hpl
  rintro us s1 ⟨vs, H1, I1, r, q⟩
  exact ⟨I1.kIn, run_g F hgd hr hb hd hx I1 r q⟩
theorem run_gk {pins : List (Addr × Obj)} {σ : L2.St} {H : Hp} {s : Shared} {Q : VK} {us ws : List Value} {vs zs : List V}
    (F : FnG X.prog X.w X.K X.mg X.base CX k f fd ps sp) (hgd : X.A.guards = some []) (hr : Room k X.A) (hb : KBinds X.K fd ps ks g gV)
    (hx : Passes CX X E) (I : Inv X pins σ H s) (r : Vals vs us) (rz : Vals zs ws) (h : sp (gV vs zs) H Q E) :
    wpAny (model X.prog X.w) X.A (call (.ref f) us (ks.zip ws)) (EP X pins σ Q) X.xe s := by
  have r2 := hb.rel r rz
  have hl : (g us ws).length = ps.length := (Vals.length r2).symm.trans (F.len _ _ _ _ h)
  refine wpAny_call (codeAny_mono (F.run X.A X.stack s H ⟨us, ks.zip ws⟩ (g us ws) (gV vs zs) Q E hgd hr I.env0 (hb.to s us ws I.kIn hl) r2 h) ?_)
  intro r s' hq
  have z := out_g hx I r s' hq
  cases r with
  | error e => exact z
  | ok fl => cases fl <;> first | exact z | exact (show False from z).elim
end
theorem fn_ofG {CX : CXT} {P : Program} {w : World} {K : PySem.W.Frag} {mg : Str → Option Value} {base : Heap} {k : Nat} {f : Addr}
    {name qual : Str} {params : Arguments} {body : List Stmt} {scope : Scope} {dV kV doc pm cdv ct oc : Value} {an od : Option Addr}
    {osl : Array (Option Value)} {N ps : List Str} {sp : Sp}
    (lk : K.lookup f = some ⟨oc, od, .func (PySem.W.fnOf name qual params body scope dV kV doc pm an cdv ct), osl⟩)
    (hcd : PySem.W.codeIn K cdv qual = true) (S : FnScope N ps scope) (len : ∀ vs H Q E, sp vs H Q E → vs.length = ps.length)
    (hbody : ∀ (A : Around) (outer : List Env) (s : Shared) (H : Hp) (vs : List V) (Q : VK) (E : XK), A.guards = some [] →
      Room k (A.deeper (envOfC qual scope s.heap.objs.size f cdv)) → sp vs H Q E →
      ∃ t, PSs (cxOf CX P w K mg base N qual scope f cdv A outer s H E) body t ∧ t { nx := fun _ H' => Q .non H', rt := Q } (L2.start N vs) H) :
    FnG P w K mg base CX (k + 1) f (PySem.W.fnOf name qual params body scope dV kV doc pm an cdv ct) ps sp := by
  constructor
  · exact len
  intro A outer s H args us vs Q E hg hr e0 hb r hsp
  have hl := len _ _ _ _ hsp
  have keeps : ∀ b o, base.get? b = some o → s.heap.get? b = some o := fun b o e => (e0.bs b o e).1
  have KX : K.In s.heap := e0.mod.kin.keeps keeps
  have lim : s.heap.NoLimit := e0.mod.nolimit.keeps keeps
  have hkind : ∀ y ∈ ps.zip us, scope.names.lookup y.1 = some .local ∨
      (scope.names.lookup y.1 = some .cell ∧ ((cellsFrom (s.heap.objs.size + 1) scope.names []).lookup y.1).isSome = true) := by
    rintro ⟨n, v⟩ hy
    exact (S.par n (List.of_mem_zip hy).1).imp id fun q => ⟨q, PySem.W.cellsFrom_some _ _ _ (.inl q)⟩
  refine codeAny_call_function hr.depth (KX _ _ lk) rfl S.co S.gen rfl (PySem.W.codeRec_of KX hcd) (hb _ _ _ _ ?_)
  refine wpAny_newFunctionEnv_cells S.kind hkind ?_
  rintro env rfl s1 x
  refine ⟨lim.keeps x.toInCall.keep, codeAny_func ?_⟩
  obtain ⟨t, ht, hq⟩ := hbody A outer s H vs Q E hg (hr.deeper _) hsp
  have I := inv_start (E := E) (CX := CX) S hr.hd e0 hl r x
  refine wpAny_mono (ht.run [] s1 (L2.start N vs) H _ I hq) ?_ (fun e s' hs => hs)
  intro fl s' hs
  have fin : ∀ {σ' : L2.St} {H' : Hp} {v : V} {u : Value}, Inv (cxOf CX P w K mg base N qual scope f cdv A outer s H E) [] σ' H' s' →
      RelV v u → Q v H' → CE outer P w H s Q u s' := by
    intro σ' H' v u J rv q
    exact ⟨v, H', J.os, J.bare, J.base, J.hok, rv, q⟩
  cases fl with
  | ret u =>
    rcases hs with ⟨v, σ', H', J, rv, q⟩
    exact fin J rv q
  | next =>
    rcases hs with ⟨σ', H', J, q⟩
    exact fin (v := V.non) (u := Value.none) J rfl q
  | brk =>
    rcases hs with ⟨_, _, _, q⟩
    exact (show False from q).elim
  | cont =>
    rcases hs with ⟨_, _, _, q⟩
    exact (show False from q).elim
theorem okG {P : Program} {w : World} {K : PySem.W.Frag} {mg : Str → Option Value} {base : Heap} {x qual : Str} {st : Stmt} {f : Addr} {fd : FuncData}
    {N ps : List Str} {k : Nat} {sp : Sp} (F : Fun K x qual st f fd) (S : FnScope N ps (defScope st)) (len : ∀ vs H Q E, sp vs H Q E → vs.length = ps.length)
    (hbody : ∀ (cdv : Value) (A : Around) (outer : List Env) (s : Shared) (H : Hp) (vs : List V) (Q : VK) (E : XK), A.guards = some [] →
      Room k (A.deeper (envOfC qual (defScope st) s.heap.objs.size f cdv)) → sp vs H Q E →
      ∃ t, PSs (cxOf CX0 P w K mg base N qual (defScope st) f cdv A outer s H E).nox (defBody st) t ∧
        t { nx := fun _ H' => Q .non H', rt := Q } (L2.start N vs) H) : FnG P w K mg base CX0 (k + 1) f fd ps sp := by
  obtain ⟨oc, od, kV, doc, pm, an, cdv, ct, osl, rfl, lk, hcd⟩ := F.ex
  refine fn_ofG lk hcd S len ?_
  intro A outer s H vs Q E hg hr hsp
  obtain ⟨t, h, q⟩ := hbody cdv A outer s H vs Q E hg hr hsp
  exact ⟨t, PSs.nox h, q⟩
theorem lawG {P : Program} {w : World} {K : PySem.W.Frag} {mg mb : Str → Option Value} {CX : CXT} {k : Nat} {fa a : Addr} {fd : FuncData} {x : Str}
    {sp : Sp} {s₁ : Shared} {vs : List Value} {ns : List Int} (KX : K.In s₁.heap) (hns : s₁.heap.Ns mainGlobals mg) (hb : s₁.heap.Ns builtinsNs mb)
    (hbb : ∀ x : Str, x ≠ "__name__" → mb x = bootBuiltins x) (hlim : s₁.heap.NoLimit) (hg : s₁.gens = #[])
    (ha : s₁.heap.get? a = some { cls := .type "list", data := .seq vs.toArray }) (hi : IntsAre vs ns) (hl : ns.length ≤ sizeLine) (hr : Room k callerA)
    (F : ∀ base : Heap, K.In base → base.Ns mainGlobals mg → FnG P w K mg base CX k fa fd [x] sp)
    (hbind : ∀ (s : Shared) (u : Value), BindsTo s fd ⟨[u], []⟩ [(x, u)])
    (hsp : ∀ H : Hp, Only H → SqL K H a (ns.map V.int) → sp [.ref a] H (fun v _ => v = .bl true) fun _ _ _ => False)
    (hCX : ∀ H e s', CX [] H s₁ (fun _ _ _ => False) e s' → False) :
    codeAny (model P w) callerA (.call (.ref fa) ⟨[.ref a], []⟩)
      (fun r s' => r = .ok (.ret (.bool true)) ∧ OldK s₁.heap s'.heap ∧ s'.os = s₁.os ∧ AllBare s'.gens) s₁ := by
  have rv := vals_ints hi
  have lenV := hi.length
  -- whatever is tracked at the entry: the script or nothing
  have core : ∀ H : Hp, Only H → SqL K H a (ns.map V.int) → HOk P w H s₁.heap → (∀ b, H b ≠ none → b = a) → (H a ≠ none → K.lookup a = none) →
      codeAny (model P w) callerA (.call (.ref fa) ⟨[.ref a], []⟩)
        (fun r s' => r = .ok (.ret (.bool true)) ∧ OldK s₁.heap s'.heap ∧ s'.os = s₁.os ∧ AllBare s'.gens) s₁ := by
    intro H hO hS hok hA hK
    have none_of : ∀ {b : Addr}, b ≠ a → H b = none := by
      intro b hb
      cases q : H b with
      | none => rfl
      | some u => exact absurd (hA b (by rw [q]; exact nofun)) hb
    have not_dict : ∀ {b : Addr} {o : Obj} {es : Array DictEntry} {ep : Nat}, s₁.heap.get? b = some o → o.data = .dict es ep → H b = none := by
      intro b o es ep e d
      refine none_of fun z => ?_
      subst z
      rw [ha] at e
      cases e
      exact nomatch d
    have nsK : ∀ {b : Addr} {m : Str → Option Value}, s₁.heap.Ns b m → (hidT s₁.heap H).Ns b m := by
      rintro b m ⟨o, es, ep, e, d, r⟩
      exact ⟨o, es, ep, hidT_get e (not_dict e d), d, r⟩
    have hKb : K.In (hidT s₁.heap H) := by
      intro b o e
      refine hidT_get (KX b o e) ?_
      cases q : H b with
      | none => rfl
      | some u =>
        have z : b = a := hA b (by rw [q]; exact nofun)
        subst z
        rw [hK (by rw [q]; exact nofun)] at e
        cases e
    have hM : Mod K mg (hidT s₁.heap H) := ⟨hKb, nsK hns, ⟨mb, nsK hb, hbb⟩, Exists.elim hlim fun mc q => ⟨mc, nsK q.1, q.2⟩⟩
    have e0 : Env0 P w K mg (hidT s₁.heap H) callerA [] s₁ H :=
      { frames := rfl, mod := hM, bs := fun b o e => of_hidT e, bsz := Nat.le_of_eq (hidT_size _ _), funs := trivial,
        frf := fun b hb => by simp [frs] at hb, hok := hok, bare := .of_eq hg }
    have run := (F _ hKb (nsK hns)).run callerA [] s₁ H ⟨[.ref a], []⟩ [.ref a] [.ref a] _ _ rfl hr e0 (hbind s₁ (.ref a)) (.cons rfl .nil) (hsp H hO hS)
    refine codeAny_mono run ?_
    intro r s' h
    cases r with
    | error e => exact (hCX H e s' h).elim
    | ok fl =>
      cases fl with
      | next => exact (show False from h).elim
      | brk => exact (show False from h).elim
      | cont => exact (show False from h).elim
      | ret u =>
        rcases h with ⟨v, H', os, bare, un, hok', r', q⟩
        have qv : v = .bl true := q
        subst qv
        have hu : u = Value.bool true := r'
        subst hu
        refine ⟨rfl, OldK.of_keep ?_, os, bare⟩
        intro b o e
        cases q : H b with
        | none => exact un.keep b o e q (by simp [frs]) (by simp)
        | some u =>
          rcases hO b with z | ⟨ob, xs, z⟩
          · rw [q] at z
            cases z
          · have e1 := (hok b _ z).1
            have e2 := (hok' b _ (un.frzs b ob _ z)).1
            rw [e] at e1
            cases e1
            exact e2
  cases hk : K.lookup a with
  | some o =>
    have e := KX a o hk
    rw [ha] at e
    cases e
    have hS : SqL K (fun _ => none) a (ns.map V.int) :=
      .inr ⟨_, vs.toArray, _, hk, rfl, rfl, rfl, by rw [List.size_toArray, lenV]; exact hl, by simpa using rv⟩
    exact core (fun _ => none) (fun _ => .inl rfl) hS (fun b u z => nomatch (show (none : Option HO) = some u from z)) (fun b z => absurd rfl z) fun z => absurd rfl z
  | none =>
    let ob : Obj := { cls := .type "list", data := .seq vs.toArray }
    have here : ∀ {b : Addr}, b = a → (fun b => if b = a then some (HO.frz ob (.lst (ns.map V.int))) else none) b = some (.frz ob (.lst (ns.map V.int))) := fun h => if_pos h
    have off : ∀ {b : Addr}, b ≠ a → (fun b => if b = a then some (HO.frz ob (.lst (ns.map V.int))) else none) b = none := fun h => if_neg h
    refine core (fun b => if b = a then some (.frz ob (.lst (ns.map V.int))) else none) ?_ (.inl (.inr ⟨ob, here rfl⟩)) ?_ ?_ fun _ => hk
    · intro b
      by_cases hb : b = a
      · exact .inr ⟨_, _, here hb⟩
      · exact .inl (off hb)
    · intro b u z
      by_cases hb : b = a
      · have z' := (here hb).symm.trans z
        cases z'
        subst hb
        exact ⟨ha, by rw [List.length_map]; exact hl, vs, _, rv, ha⟩
      · have z' := (off hb).symm.trans z
        cases z'
    · intro b z
      by_cases hb : b = a
      · exact hb
      · exact absurd (off hb) z
theorem walkG {l : PySem.W.OpenLaw} {n k : Nat} {q : Program} {loose : List Str} {XP : (Str → Option Value) → Heap → Prop} {YP : World → Heap → Prop}
    {d : DefRec} {K : Params → PySem.W.Frag} {CX : World → CXT} {sp : World → Sp} {x : Str}
    (hn : l.most = some n) (hn2 : n ≤ sizeLine) (hdf : d.params.defaults = []) (hr : Room k callerA)
    (hY : ∀ (w : World) (h : Heap), YP w h → (K w.params).In h)
    (F : ∀ (w : World) (mg : Str → Option Value) (fa : Addr) (h : Heap), (K w.params).In h → h.Ns mainGlobals mg → mg d.name = some (.ref fa) →
      ∃ fd : FuncData, (∀ (s : Shared) (u : Value), BindsTo s fd ⟨[u], []⟩ [(x, u)]) ∧
        ∀ base : Heap, (K w.params).In base → base.Ns mainGlobals mg → FnG l.prog w (K w.params) mg base (CX w) k fa fd [x] (sp w))
    (hsp : ∀ (w : World) (H : Hp) (a : Addr) (ns : List Int), ns.length ≤ n → Only H → SqL (K w.params) H a (ns.map V.int) →
      sp w [.ref a] H (fun v _ => v = .bl true) fun _ _ _ => False)
    (hCX : ∀ (w : World) (H : Hp) (s : Shared) (e : Value) (s' : Shared), CX w [] H s (fun _ _ _ => False) e s' → False) :
    PySem.W.WalkO q loose XP YP l.row.toRowW d [] (fun f vs => PySem.call f vs) := by
  refine Att.attach_call hn hdf ?_
  intro w s₀ s₁ mg mb fa o pm cd doc a vs ns G Y ho hd hcd hmg hobj hints hlen hg
  have KX := hY w _ Y
  obtain ⟨fd, hb, hF⟩ := F w mg fa _ KX G.T.g hmg
  exact lawG KX G.T.g G.T.b G.T.builtins G.T.nolimit hg hobj hints (Nat.le_trans hlen hn2) hr hF hb
    (fun H hO hS => hsp w H a ns hlen hO hS) fun H e s' => hCX w H s₁ e s'
end GD

namespace GD
open PySem PySem.Spec PyProof.Rows L2
abbrev D := PyData
def keyD : L2.Key → D
  | .inl i => .int i
  | .inr x => .str x
inductive Mu where
  | l (ds : List D)
  | m (kvs : List (L2.Key × D))
  | o (nm lf : Str) (l : Addr) (fs : List (Str × D))
def obD : D := .dict [(.none, .none)]
def Mu.toD : Mu → D
  | .l ds => .list ds
  | .m kvs => .dict (kvs.map fun p => (keyD p.1, p.2))
  | .o .. => obD
def KTp (K : PySem.W.Frag) (a : Addr) (xs : List V) : Prop :=
  ∃ (o : Obj) (its : Array Value) (n : Nat), K.lookup a = some o ∧ o.cls = .type "tuple" ∧ o.data = .seq its n ∧ its.size ≤ sizeLine ∧ Vals xs its.toList
def tabD : List D → Bool
  | [] => true
  | .none :: ds => tabD ds
  | .str _ :: ds => tabD ds
  | _ :: _ => false
def TupN (K : PySem.W.Frag) (O : Addr → Prop) (H : Hp) (a : Addr) : Prop := (∃ o u, H a = some (.frz o (.tup u)) ∧ o.dict = none ∧ ¬ O a) ∨ ∃ o, K.lookup a = some o ∧ o.dict = none
def TpA (K : PySem.W.Frag) (O : Addr → Prop) (H : Hp) (a : Addr) (xs : List V) (ds : List D) : Prop := ((Rd H a (.tup xs) ∧ ¬ O a) ∨ KTp K a xs) ∧ (tabD ds = true → TupN K O H a)
def xDx (f : Str) (dx : Addr) : Option Addr := if f = ("" : Str) then none else some dx
def xH (f : Str) (H : Hp) (dx : Addr) (v : V) : Hp := if f = ("" : Str) then H else upd H dx (.xd [(f, v)])
theorem xDx_ne {f : Str} {dx : Addr} (h : f ≠ ("" : Str)) : xDx f dx = some dx := if_neg h
theorem xH_ne {f : Str} {H : Hp} {dx : Addr} {v : V} (h : f ≠ ("" : Str)) : xH f H dx v = upd H dx (.xd [(f, v)]) := if_neg h
theorem xDx_e {dx : Addr} : xDx ("" : Str) dx = none := if_pos rfl
theorem xH_e {H : Hp} {dx : Addr} {v : V} : xH ("" : Str) H dx v = H := if_pos rfl
theorem xH_at (f : Str) (H : Hp) (dx : Addr) (v : V) : f = ("" : Str) ∨ xH f H dx v dx = some (.xd [(f, v)]) := by
  by_cases h : f = ("" : Str)
  · exact .inl h
  · exact .inr (by rw [xH_ne h]; exact upd_same)
theorem xd_tr {O O' : Addr → Prop} {H H' : Hp} {f : Str} {dx : Addr} {X : HO} (fo : ∀ a o, H a = some o → ¬ O a → ¬ O' a) (k : ∀ a o, ¬ O a → H a = some o → H' a = some o)
    (h2 : f = ("" : Str) ∨ H dx = some X) (n2 : f = ("" : Str) ∨ ¬ O dx) : (f = ("" : Str) ∨ H' dx = some X) ∧ (f = ("" : Str) ∨ ¬ O' dx) := by
  rcases h2 with e | h2
  · exact ⟨.inl e, .inl e⟩
  · rcases n2 with e | n2
    · exact ⟨.inl e, .inl e⟩
    · exact ⟨.inr (k _ _ n2 h2), .inr (fo _ _ h2 n2)⟩
mutual
inductive Rp (K : PySem.W.Frag) (O : Addr → Prop) (H : Hp) : V → D → Prop
  | non : Rp K O H .non .none
  | bl (b : Bool) : Rp K O H (.bl b) (.bool b)
  | int (i : Int) : Rp K O H (.int i) (.int i)
  | str (x : Str) : Rp K O H (.str x) (.str x)
  | lst {a : Addr} {xs : List V} {ds : List D} : H a = some (.lst xs) → ¬ O a → RpAll K O H xs ds → Rp K O H (.ref a) (.list ds)
  | tup {a : Addr} {xs : List V} {ds : List D} : TpA K O H a xs ds → RpAll K O H xs ds → Rp K O H (.ref a) (.tuple ds)
  | dic {a : Addr} {kvs : List (L2.Key × V)} {ds : List D} : Rd H a (.dK kvs) → ¬ O a → RpAll K O H (kvs.map (·.2)) ds → Rp K O H (.ref a) (.dict ((kvs.map fun p => keyD p.1).zip ds))
  | exc {a dx C : Addr} {nm f : Str} {v : V} {d : D} : PySem.W.nsIn K mainGlobals nm = some (some (.ref C)) → H a = some (XO (.ref C) (xDx f dx) a) → ¬ O a → (f = ("" : Str) ∨ H dx = some (.xd [(f, v)])) → (f = ("" : Str) ∨ ¬ O dx) → Rp K O H v d → Rp K O H (.ref a) (excD nm f d)
  | ob (a : Addr) : Rp K O H (.ref a) obD
inductive RpAll (K : PySem.W.Frag) (O : Addr → Prop) (H : Hp) : List V → List D → Prop
  | nil : RpAll K O H [] []
  | cons {v : V} {vs : List V} {d : D} {ds : List D} : Rp K O H v d → RpAll K O H vs ds → RpAll K O H (v :: vs) (d :: ds)
end
theorem rd_live {H : Hp} {a : Addr} {u : HO} (h : Rd H a u) : ∃ o, H a = some o := by
  rcases h with h | ⟨o, h⟩
  · exact ⟨_, h⟩
  · exact ⟨_, h⟩
theorem rd_tr {H H' : Hp} {a : Addr} {u : HO} (k : ∀ o, H a = some o → H' a = some o) (h : Rd H a u) : Rd H' a u := by
  rcases h with h | ⟨o, h⟩
  · exact .inl (k _ h)
  · exact .inr ⟨o, k _ h⟩
section
variable {K : PySem.W.Frag} {O O' : Addr → Prop} {H H' : Hp}
theorem or_tr {a : Addr} {u : HO} {P : Prop} (f : ∀ a o, H a = some o → ¬ O a → ¬ O' a) (k : ∀ a o, ¬ O a → H a = some o → H' a = some o) (h : (Rd H a u ∧ ¬ O a) ∨ P) : (Rd H' a u ∧ ¬ O' a) ∨ P := by
  rcases h with ⟨h, n⟩ | h
  · obtain ⟨o, e⟩ := rd_live h
    exact .inl ⟨rd_tr (fun o q => k a o n q) h, f a o e n⟩
  · exact .inr h
theorem TpA.tr {a : Addr} {xs : List V} {ds : List D} (f : ∀ a o, H a = some o → ¬ O a → ¬ O' a) (k : ∀ a o, ¬ O a → H a = some o → H' a = some o) (h : TpA K O H a xs ds) : TpA K O' H' a xs ds := by
  refine ⟨or_tr f k h.1, fun z => ?_⟩
  rcases h.2 z with ⟨o, u, e, q, n⟩ | q
  · exact .inl ⟨o, u, k a _ n e, q, f a _ e n⟩
  · exact .inr q
mutual
theorem Rp.tr (f : ∀ a o, H a = some o → ¬ O a → ¬ O' a) (k : ∀ a o, ¬ O a → H a = some o → H' a = some o) : ∀ {v : V} {d : D}, Rp K O H v d → Rp K O' H' v d
  | _, _, .non => .non
  | _, _, .bl b => .bl b
  | _, _, .int i => .int i
  | _, _, .str x => .str x
  | _, _, .lst h n r => .lst (k _ _ n h) (f _ _ h n) (RpAll.tr f k r)
  | _, _, .tup h r => .tup (h.tr f k) (RpAll.tr f k r)
  | _, _, .dic h n r => .dic (rd_tr (fun o q => k _ o n q) h) (let ⟨o, e⟩ := rd_live h; f _ o e n) (RpAll.tr f k r)
  | _, _, .exc c h n h2 n2 r => .exc c (k _ _ n h) (f _ _ h n) (xd_tr f k h2 n2).1 (xd_tr f k h2 n2).2 (Rp.tr f k r)
  | _, _, .ob a => .ob a
theorem RpAll.tr (f : ∀ a o, H a = some o → ¬ O a → ¬ O' a) (k : ∀ a o, ¬ O a → H a = some o → H' a = some o) : ∀ {vs : List V} {ds : List D}, RpAll K O H vs ds → RpAll K O' H' vs ds
  | _, _, .nil => .nil
  | _, _, .cons r t => .cons (Rp.tr f k r) (RpAll.tr f k t)
end
theorem Rp.anti (h : ∀ a, O' a → O a) {v : V} {d : D} (r : Rp K O H v d) : Rp K O' H v d := r.tr (fun a _ _ n q => n (h a q)) fun _ _ _ e => e
theorem RpAll.anti (h : ∀ a, O' a → O a) {v : List V} {d : List D} (r : RpAll K O H v d) : RpAll K O' H v d := r.tr (fun a _ _ n q => n (h a q)) fun _ _ _ e => e
theorem RpAll.length : ∀ {vs : List V} {ds : List D}, RpAll K O H vs ds → vs.length = ds.length
  | _, _, .nil => rfl
  | _, _, .cons _ t => congrArg (· + 1) (RpAll.length t)
theorem RpAll.get : ∀ {vs : List V} {ds : List D} {i : Nat} {d : D}, RpAll K O H vs ds → ds[i]? = some d → ∃ v, vs[i]? = some v ∧ Rp K O H v d
  | _, _, _, _, .nil, e => by simp at e
  | _, _, 0, _, .cons r _, e => by simp at e; subst e; exact ⟨_, rfl, r⟩
  | _, _, i + 1, _, .cons _ t, e => by
    obtain ⟨v, h1, h2⟩ := RpAll.get (i := i) t (by simpa using e)
    exact ⟨v, by simpa using h1, h2⟩
theorem RpAll.append : ∀ {vs us : List V} {ds es : List D}, RpAll K O H vs ds → RpAll K O H us es → RpAll K O H (vs ++ us) (ds ++ es)
  | _, _, _, _, .nil, s => s
  | _, _, _, _, .cons r t, s => .cons r (RpAll.append t s)
theorem RpAll.take : ∀ {vs : List V} {ds : List D} (n : Nat), RpAll K O H vs ds → RpAll K O H (vs.take n) (ds.take n)
  | _, _, 0, _ => .nil
  | _, _, _ + 1, .nil => .nil
  | _, _, n + 1, .cons r t => .cons r (RpAll.take n t)
theorem RpAll.drop : ∀ {vs : List V} {ds : List D} (n : Nat), RpAll K O H vs ds → RpAll K O H (vs.drop n) (ds.drop n)
  | _, _, 0, r => r
  | _, _, _ + 1, .nil => .nil
  | _, _, n + 1, .cons _ t => RpAll.drop n t
theorem RpAll.set {v : V} {d : D} (q : Rp K O H v d) : ∀ {vs : List V} {ds : List D} (n : Nat), RpAll K O H vs ds → RpAll K O H (vs.set n v) (ds.set n d)
  | _, _, _, .nil => .nil
  | _, _, 0, .cons _ t => .cons q t
  | _, _, n + 1, .cons r t => .cons r (RpAll.set q n t)
theorem RpAll.one {v : V} {d : D} (q : Rp K O H v d) : RpAll K O H [v] [d] := .cons q .nil
mutual
theorem Rp.dp : ∀ {v : V} {d : D}, Rp K O H v d → d.hasDict = false → Dp K H v d
  | _, _, .non, _ => .non
  | _, _, .bl b, _ => .bl b
  | _, _, .int i, _ => .int i
  | _, _, .str x, _ => .str x
  | _, _, .lst h _ r, s => .lst (.inl (.inl h)) (RpAll.dp r (by simpa [PyData.hasDict] using s))
  | _, _, .tup h r, s => .tup (h.1.imp (·.1) id) (RpAll.dp r (by simpa [PyData.hasDict] using s))
  | _, _, .dic .., s => by simp [PyData.hasDict] at s
  | _, _, .exc .., s => by simp [excD, PyData.hasDict] at s
  | _, _, .ob _, s => by simp [obD, PyData.hasDict] at s
theorem RpAll.dp : ∀ {vs : List V} {ds : List D}, RpAll K O H vs ds → PyData.hasDictAll ds = false → DpAll K H vs ds
  | _, _, .nil, _ => .nil
  | _, _, .cons r t, s => .cons (Rp.dp r (by simp [PyData.hasDictAll] at s; exact s.1)) (RpAll.dp t (by simp [PyData.hasDictAll] at s; exact s.2))
end
end

structure Ext (W : Addr → Prop) (H H' : Hp) : Prop where
  same : ∀ a o, H a = some o → ¬ W a → H' a = some o
  live : ∀ a, H a ≠ none → H' a ≠ none
def MuAt (K : PySem.W.Frag) (O : Addr → Prop) (H : Hp) (a : Addr) : Mu → Prop
  | .l ds => ∃ xs, H a = some (.lst xs) ∧ RpAll K O H xs ds
  | .m kvs => ∃ es : List (L2.Key × V), H a = some (.dK es) ∧ es.map (·.1) = kvs.map (·.1) ∧ RpAll K O H (es.map (·.2)) (kvs.map (·.2))
  | .o nm lf l fs => ∃ (C dx : Addr) (vs : List V), PySem.W.nsIn K mainGlobals nm = some (some (.ref C)) ∧ H a = some (.ins C dx ((fs.map (·.1)).zip vs ++ [(lf, .ref l)])) ∧ RpAll K O H vs (fs.map (·.2))
inductive Sl where
  | shr (d : D)
  | own (p : Bool) (m : Mu)
abbrev En := List (Option Sl)
structure Frm where
  O0 : Addr → Prop
  W0 : Addr → Prop
  H0 : Hp
  vs : List V
def Wr (env : En) (σ : L2.St) (a : Addr) : Prop := ∃ (i : Nat) (p : Bool) (m : Mu), env[i]? = some (some (Sl.own p m)) ∧ σ[i]? = some (some (V.ref a))
def Ow (F : Frm) (T : Addr → Prop) (env : En) (σ : L2.St) (a : Addr) : Prop := F.O0 a ∨ T a ∨ Wr env σ a
structure StOk (K : PySem.W.Frag) (F : Frm) (T : Addr → Prop) (H : Hp) (env : En) (σ : L2.St) : Prop where
  len : env.length = σ.length
  shr : ∀ (i : Nat) (d : D), env[i]? = some (some (Sl.shr d)) → ∃ v, σ[i]? = some (some v) ∧ Rp K (Ow F T env σ) H v d
  own : ∀ (i : Nat) (p : Bool) (m : Mu), env[i]? = some (some (Sl.own p m)) → ∃ a, σ[i]? = some (some (V.ref a)) ∧ MuAt K (Ow F T env σ) H a m ∧ (if p = true then F.W0 a ∧ F.vs[i]? = some (V.ref a) else F.H0 a = none)
  dis : ∀ (i j : Nat) (p q : Bool) (m n : Mu) (a : Addr), env[i]? = some (some (Sl.own p m)) → env[j]? = some (some (Sl.own q n)) → σ[i]? = some (some (V.ref a)) → σ[j]? = some (some (V.ref a)) → i = j
  ext : Ext F.W0 F.H0 H
  dom : ∀ a, F.O0 a → F.H0 a ≠ none
  sub : ∀ a, F.W0 a → F.O0 a
  tdm : ∀ a, T a → H a ≠ none
  tno : ∀ a, T a → ¬ Wr env σ a
structure Stp (env : En) (σ : L2.St) (H : Hp) (env' : En) (H' : Hp) : Prop where
  ext : Ext (Wr env σ) H H'
  wr : ∀ a, Wr env' σ a → Wr env σ a
structure Stq (env : En) (σ : L2.St) (H : Hp) (env' : En) (σ' : L2.St) (H' : Hp) : Prop where
  ext : Ext (Wr env σ) H H'
  wr : ∀ a, Wr env' σ' a → Wr env σ a ∨ H a = none
section
variable {K : PySem.W.Frag} {F : Frm} {T T' : Addr → Prop} {H H1 H2 H' : Hp} {env env1 env2 env' : En} {σ σ1 σ2 σ' : L2.St}
theorem Ext.refl {W : Addr → Prop} : Ext W H H := ⟨fun _ _ e _ => e, fun _ e => e⟩
theorem Ext.new {W : Addr → Prop} {p : Addr} {o : HO} (n : H p = none) : Ext W H (upd H p o) :=
  ⟨fun a u e _ => by rw [upd_ne (ne_of_none e n)]; exact e, fun a e => by
    by_cases h : a = p
    · subst h; rw [upd_same]; simp
    · rw [upd_ne h]; exact e⟩
theorem xH_ext {f : Str} {dx : Addr} {v : V} (n : f = ("" : Str) ∨ H dx = none) : Ext (fun _ => False) H (xH f H dx v) := by
  by_cases h : f = ("" : Str)
  · unfold xH; rw [if_pos h]; exact Ext.refl
  · rw [xH_ne h]
    exact Ext.new (n.elim (fun e => absurd e h) id)
theorem Ext.trans {W W' : Addr → Prop} (a : Ext W H H1) (b : Ext W' H1 H2) (h : ∀ x, W' x → W x ∨ H x = none) : Ext W H H2 :=
  ⟨fun x o e n => b.same x o (a.same x o e n) fun q => (h x q).elim n fun q => (by rw [e] at q; cases q), fun x e => b.live x (a.live x e)⟩
theorem Ext.mono {W W' : Addr → Prop} (a : Ext W H H1) (h : ∀ x, W x → W' x) : Ext W' H H1 := ⟨fun x o e n => a.same x o e fun q => n (h x q), a.live⟩
theorem Stp.refl : Stp env σ H env H := ⟨Ext.refl, fun _ h => h⟩
theorem Stp.trans (a : Stp env σ H env1 H1) (b : Stp env1 σ H1 env2 H2) : Stp env σ H env2 H2 :=
  ⟨a.ext.trans b.ext fun x q => .inl (a.wr x q), fun x q => a.wr x (b.wr x q)⟩
theorem Stp.q (a : Stp env σ H env1 H1) : Stq env σ H env1 σ H1 := ⟨a.ext, fun x q => .inl (a.wr x q)⟩
theorem Stq.refl : Stq env σ H env σ H := ⟨Ext.refl, fun _ h => .inl h⟩
theorem Stq.trans (a : Stq env σ H env1 σ1 H1) (b : Stq env1 σ1 H1 env2 σ2 H2) : Stq env σ H env2 σ2 H2 :=
  ⟨a.ext.trans b.ext a.wr, fun x q => by
    rcases b.wr x q with q | q
    · exact a.wr x q
    · refine .inr ?_
      cases e : H x with
      | none => rfl
      | some o => exact absurd q (a.ext.live x (by rw [e]; simp))⟩
theorem Stp.new {p : Addr} {o : HO} (n : H p = none) : Stp env σ H env (upd H p o) := ⟨Ext.new n, fun _ h => h⟩
theorem StOk.wlive (S : StOk K F T H env σ) {a : Addr} (h : Wr env σ a) : H a ≠ none := by
  obtain ⟨i, p, m, e, q⟩ := h
  obtain ⟨a', e1, mu, _⟩ := S.own i p m e
  rw [q] at e1; cases e1
  cases m with
  | l ds => obtain ⟨xs, h, _⟩ := mu; rw [h]; simp
  | m kvs => obtain ⟨xs, h, _⟩ := mu; rw [h]; simp
  | o nm lf l fs => obtain ⟨C, dx, xs, _, h, _⟩ := mu; rw [h]; simp
theorem StOk.olive (S : StOk K F T H env σ) {a : Addr} (h : Ow F T env σ a) : H a ≠ none := by
  rcases h with h | h | h
  · exact S.ext.live a (S.dom a h)
  · exact S.tdm a h
  · exact S.wlive h
theorem StOk.fresh (S : StOk K F T H env σ) {p : Addr} (n : H p = none) : ¬ Ow F T env σ p := fun h => S.olive h n
theorem StOk.fresh0 (S : StOk K F T H env σ) {p : Addr} (n : H p = none) : F.H0 p = none := by
  cases e : F.H0 p with
  | none => rfl
  | some o => exact absurd n (S.ext.live p (by rw [e]; simp))
theorem Rp.stq {v : V} {d : D} (r : Rp K (Ow F T env σ) H v d) (b : Stq env σ H env' σ' H') : Rp K (Ow F T env' σ') H' v d := r.tr
  (fun a o e n q => by
    rcases q with q | q | q
    · exact n (.inl q)
    · exact n (.inr (.inl q))
    · rcases b.wr a q with q | q
      · exact n (.inr (.inr q))
      · rw [e] at q; cases q)
  fun a o n e => b.ext.same a o e fun q => n (.inr (.inr q))
theorem RpAll.stq {v : List V} {d : List D} (r : RpAll K (Ow F T env σ) H v d) (b : Stq env σ H env' σ' H') : RpAll K (Ow F T env' σ') H' v d := r.tr
  (fun a o e n q => by
    rcases q with q | q | q
    · exact n (.inl q)
    · exact n (.inr (.inl q))
    · rcases b.wr a q with q | q
      · exact n (.inr (.inr q))
      · rw [e] at q; cases q)
  fun a o n e => b.ext.same a o e fun q => n (.inr (.inr q))
theorem Rp.stp {v : V} {d : D} (r : Rp K (Ow F T env σ) H v d) (b : Stp env σ H env' H') : Rp K (Ow F T env' σ) H' v d := r.stq b.q
theorem RpAll.stp {v : List V} {d : List D} (r : RpAll K (Ow F T env σ) H v d) (b : Stp env σ H env' H') : RpAll K (Ow F T env' σ) H' v d := r.stq b.q
theorem MuAt.tr {O O' : Addr → Prop} {a : Addr} {m : Mu} (f : ∀ a o, H a = some o → ¬ O a → ¬ O' a) (k : ∀ a o, ¬ O a → H a = some o → H' a = some o) (ka : ∀ o, H a = some o → H' a = some o) (h : MuAt K O H a m) : MuAt K O' H' a m := by
  cases m with
  | l ds => obtain ⟨xs, e, r⟩ := h; exact ⟨xs, ka _ e, r.tr f k⟩
  | m kvs => obtain ⟨xs, e, g, r⟩ := h; exact ⟨xs, ka _ e, g, r.tr f k⟩
  | o nm lf l fs => obtain ⟨C, dx, xs, c, e, r⟩ := h; exact ⟨C, dx, xs, c, ka _ e, r.tr f k⟩
theorem StOk.anti (S : StOk K F T H env σ) (h : ∀ a, T' a → T a) : StOk K F T' H env σ := by
  have g : ∀ a, Ow F T' env σ a → Ow F T env σ a := fun a q => q.imp id (.imp (h a) id)
  exact ⟨S.len, fun i d e => let ⟨v, e1, r⟩ := S.shr i d e; ⟨v, e1, r.anti g⟩,
    fun i p m e => let ⟨a, e1, r, c⟩ := S.own i p m e; ⟨a, e1, r.tr (fun a _ _ n q => n (g a q)) (fun _ _ _ e => e) (fun _ e => e), c⟩, S.dis, S.ext, S.dom, S.sub, fun a q => S.tdm a (h a q), fun a q => S.tno a (h a q)⟩
theorem StOk.new (S : StOk K F T H env σ) {p : Addr} {o : HO} (n : H p = none) : StOk K F (fun a => T a ∨ a = p) (upd H p o) env σ := by
  have ne : ∀ a u, H a = some u → a ≠ p := fun a u e => ne_of_none e n
  have f : ∀ a u, H a = some u → ¬ Ow F T env σ a → ¬ Ow F (fun a => T a ∨ a = p) env σ a := fun a u e k q => by
    rcases q with q | (q | q) | q
    · exact k (.inl q)
    · exact k (.inr (.inl q))
    · exact ne a u e q
    · exact k (.inr (.inr q))
  have k : ∀ a u, H a = some u → upd H p o a = some u := fun a u e => by rw [upd_ne (ne a u e)]; exact e
  exact ⟨S.len, fun i d e => let ⟨v, e1, r⟩ := S.shr i d e; ⟨v, e1, r.tr f fun a u _ e => k a u e⟩,
    fun i p m e => let ⟨a, e1, r, c⟩ := S.own i p m e; ⟨a, e1, r.tr f (fun a u _ e => k a u e) (k a), c⟩, S.dis,
    S.ext.trans (Ext.new (W := fun _ => False) n) (fun _ q => q.elim), S.dom, S.sub, fun a q => (by
      rcases q with q | rfl
      · exact (Ext.new (W := fun _ => False) n).live a (S.tdm a q)
      · rw [upd_same]; simp), fun a q z => q.elim (fun q => S.tno a q z) fun q => by subst q; exact S.wlive z n⟩
theorem RpAll.new {p : Addr} {o : HO} (n : H p = none) {vs : List V} {ds : List D} (r : RpAll K (Ow F T env σ) H vs ds) : RpAll K (Ow F (fun a => T a ∨ a = p) env σ) (upd H p o) vs ds := r.tr
  (fun a u e k q => by
    rcases q with q | (q | q) | q
    · exact k (.inl q)
    · exact k (.inr (.inl q))
    · exact ne_of_none e n q
    · exact k (.inr (.inr q)))
  fun a u _ e => by rw [upd_ne (ne_of_none e n)]; exact e
theorem Rp.new {p : Addr} {o : HO} (n : H p = none) {v : V} {d : D} (r : Rp K (Ow F T env σ) H v d) : Rp K (Ow F (fun a => T a ∨ a = p) env σ) (upd H p o) v d := by
  cases RpAll.new n (.one r) with
  | cons r _ => exact r
theorem MuAt.rp {O : Addr → Prop} {p : Addr} {m : Mu} (h : MuAt K O H p m) (n : ¬ O p) : Rp K O H (.ref p) m.toD := by
  cases m with
  | l ds => obtain ⟨xs, e, r⟩ := h; exact .lst e n r
  | o nm lf l fs => exact .ob p
  | m kvs =>
    obtain ⟨es, e, g, r⟩ := h
    have q : (kvs.map fun p => (keyD p.1, p.2)) = (es.map fun p => keyD p.1).zip (kvs.map (·.2)) := by
      have g' : (es.map fun p => keyD p.1) = kvs.map fun p => keyD p.1 := by
        have := congrArg (List.map keyD) g
        simpa [List.map_map, Function.comp_def] using this
      rw [g']
      clear r g g' e
      induction kvs with
      | nil => rfl
      | cons x t ih => simp [ih]
    show Rp K O H (.ref p) (.dict _)
    rw [q]
    exact .dic (.inl e) n r
end
end GD

namespace GD
open PySem PySem.Spec PyProof.Rows L2
def tTupF (t : TA) : TE := fun σ H Q => t σ H fun xs H1 => xs.length ≤ sizeLine ∧ ∀ (p : Addr) (o : Obj), H1 p = none → o.dict = none → Q (.ref p) (upd H1 p (.frz o (.tup xs)))
theorem laid_fz {X : Cx} {pins : List (Addr × Obj)} {σ : L2.St} {H : Hp} {s : Shared} {us : List Value} {ys : List V} (I : Inv X pins σ H s) (hz : ys.length ≤ sizeLine) (r : Vals ys us) (tk : Nat) :
    Inv X pins σ (upd H s.heap.objs.size (.frz { cls := .type "tuple", data := .seq us.toArray } (.tup ys))) { s with heap := s.heap.push { cls := .type "tuple", data := .seq us.toArray }, toks := tk } :=
  I.laid (fun b u e => Heap.get?_push_of_some _ e) (Nat.le_refl _) ⟨Heap.get?_push_size _ rfl, hz, us, r, IsTup.new _ _⟩
theorem pe_tupF {X : Cx} {es : List Expr} {t : TA} {pos : Pos} {x1} (h : PA X es t) : PE X (.Tuple es x1 pos) (tTupF t) := by
  constructor
  intro pins s σ H Q I hq
  refine wpAny_Tuple_spliced (thn (h.run pos pins s σ H _ I hq) ?_)
  rintro us s1 ⟨xs, H1, I1, r, z, q⟩
  refine ⟨by rw [← r.length]; exact z, ⟨.ref s1.heap.objs.size, _, laid_fz I1 z r s1.toks, rfl, q _ _ ?_ rfl⟩⟩
  exact I1.hok.fresh (Nat.le_refl _)
theorem TpA.new {K : PySem.W.Frag} {O : Addr → Prop} {H : Hp} {p : Addr} {o : Obj} {xs : List V} {ds : List D} (hd : o.dict = none) (n : ¬ O p) : TpA K O (upd H p (.frz o (.tup xs))) p xs ds :=
  ⟨.inl ⟨.inr ⟨o, upd_same⟩, n⟩, fun _ => .inl ⟨o, _, upd_same, hd, n⟩⟩
theorem TpA.of {K : PySem.W.Frag} {O : Addr → Prop} {H : Hp} {a : Addr} {xs : List V} {ds : List D} (h : (Rd H a (.tup xs) ∧ ¬ O a) ∨ KTp K a xs) (n : tabD ds = false) : TpA K O H a xs ds := ⟨h, fun z => by rw [n] at z; cases z⟩
theorem MuAt.alive {K : PySem.W.Frag} {O : Addr → Prop} {H : Hp} {a : Addr} {m : Mu} (r : MuAt K O H a m) : H a ≠ none := by
  cases m with
  | l ds => obtain ⟨_, h, _⟩ := r; rw [h]; simp
  | m ds => obtain ⟨_, h, _⟩ := r; rw [h]; simp
  | o nm lf l fs => obtain ⟨_, _, _, _, h, _⟩ := r; rw [h]; simp
inductive R where
  | val (d : D)
  | slot (i : Nat)
abbrev EvE := En → Option (R × En)
abbrev EvM := En → Option (Mu × En)
abbrev EvT := En → Option (Bool × En)
abbrev EvA := En → Option (List R × En)
def slOf (env : En) (i : Nat) : Option Sl := (env[i]?).bind id
theorem slOf_eq {env : En} {i : Nat} {s : Sl} : slOf env i = some s ↔ env[i]? = some (some s) := by
  unfold slOf
  cases env[i]? with
  | none => simp
  | some o => cases o <;> simp
def RvOk (K : PySem.W.Frag) (F : Frm) (T : Addr → Prop) (H : Hp) (env : En) (σ : L2.St) (v : V) : R → Prop
  | .val d => Rp K (Ow F T env σ) H v d
  | .slot i => σ[i]? = some (some v)
def rs (env : En) : R → Option D
  | .val d => some d
  | .slot i => match slOf env i with
    | some (.own _ m) => some m.toD
    | some (.shr d) => some d
    | none => none
def rk (env : En) : R → Option D
  | .val d => some d
  | .slot i => match slOf env i with
    | some (.shr d) => some d
    | _ => none
def ExcAt (K : PySem.W.Frag) (O : Addr → Prop) (H : Hp) (v : V) (es : List (D × D)) : Prop :=
  ∃ (a dx C : Addr) (nm f : Str) (x : V) (d : D), v = .ref a ∧ PySem.W.nsIn K mainGlobals nm = some (some (.ref C)) ∧ H a = some (XO (.ref C) (xDx f dx) a) ∧ (f = ("" : Str) ∨ H dx = some (.xd [(f, x)])) ∧ Rp K O H x d ∧ es = [(.none, .str nm), (.str f, d)]
def Lv (K : PySem.W.Frag) (O : Addr → Prop) (H : Hp) (v : V) : D → Prop
  | .list ds => ∃ a xs, v = .ref a ∧ H a = some (.lst xs) ∧ RpAll K O H xs ds
  | .dict es => (∃ a kvs ds, v = .ref a ∧ Rd H a (.dK kvs) ∧ RpAll K O H (kvs.map (·.2)) ds ∧ es = (kvs.map fun p => keyD p.1).zip ds) ∨ ExcAt K O H v es ∨ ((∃ a, v = .ref a) ∧ es = [(.none, .none)])
  | d => Rp K O H v d
theorem Rp.lv {K : PySem.W.Frag} {O : Addr → Prop} {H : Hp} {v : V} {d : D} (r : Rp K O H v d) : Lv K O H v d := by
  cases r with
  | non => exact .non
  | bl b => exact .bl b
  | int i => exact .int i
  | str x => exact .str x
  | lst h _ r => exact ⟨_, _, rfl, h, r⟩
  | tup h r => exact .tup h r
  | dic h n r => exact .inl ⟨_, _, _, rfl, h, r, rfl⟩
  | exc c h n h2 n2 r => exact .inr (.inl ⟨_, _, _, _, _, _, _, rfl, c, h, h2, r, rfl⟩)
  | ob a => exact .inr (.inr ⟨⟨a, rfl⟩, rfl⟩)
theorem dic_zip {kvs : List (L2.Key × D)} {es : List (L2.Key × V)} (g : es.map (·.1) = kvs.map (·.1)) : (kvs.map fun p => (keyD p.1, p.2)) = (es.map fun p => keyD p.1).zip (kvs.map (·.2)) := by
  have g' : (es.map fun p => keyD p.1) = kvs.map fun p => keyD p.1 := by
    have := congrArg (List.map keyD) g
    simpa [List.map_map, Function.comp_def] using this
  rw [g']
  clear g g'
  induction kvs with
  | nil => rfl
  | cons x t ih => simp [ih]
theorem MuAt.lv {K : PySem.W.Frag} {O : Addr → Prop} {H : Hp} {a : Addr} {m : Mu} (r : MuAt K O H a m) : Lv K O H (.ref a) m.toD := by
  cases m with
  | l ds => obtain ⟨xs, e, r⟩ := r; exact ⟨a, xs, rfl, e, r⟩
  | m kvs => obtain ⟨es, e, g, r⟩ := r; exact .inl ⟨a, es, _, rfl, .inl e, r, dic_zip g⟩
  | o nm lf l fs => exact .inr (.inr ⟨⟨a, rfl⟩, rfl⟩)
theorem Lv.dp {K : PySem.W.Frag} {O : Addr → Prop} {H : Hp} {v : V} {d : D} (r : Lv K O H v d) (h : d.hasDict = false) : Dp K H v d := by
  cases d with
  | list ds => obtain ⟨a, xs, rfl, s, r⟩ := r; exact .lst (.inl (.inl s)) (r.dp (by simpa [PyData.hasDict] using h))
  | dict es => simp [PyData.hasDict] at h
  | _ => exact Rp.dp r h
section
variable {K : PySem.W.Frag} {F : Frm} {T : Addr → Prop} {H H' : Hp} {env env' : En} {σ : L2.St} {v : V} {r : R} {d : D}
theorem RvOk.stp (h : RvOk K F T H env σ v r) (b : Stp env σ H env' H') : RvOk K F T H' env' σ v r := by
  cases r with
  | val d => exact Rp.stp h b
  | slot i => exact h
theorem rs_ok (S : StOk K F T H env σ) (h : RvOk K F T H env σ v r) (e : rs env r = some d) : Lv K (Ow F T env σ) H v d := by
  cases r with
  | val d' => simp only [rs, Option.some.injEq] at e; subst e; exact Rp.lv h
  | slot i =>
    unfold rs at e
    cases g : slOf env i with
    | none => simp [g] at e
    | some s =>
      have g' := slOf_eq.mp g
      cases s with
      | shr d' =>
        simp [g] at e; subst e
        obtain ⟨v', e1, r1⟩ := S.shr i _ g'
        rw [show σ[i]? = some (some v) from h] at e1; cases e1
        exact r1.lv
      | own p m =>
        simp [g] at e; subst e
        obtain ⟨a, e1, r1, _⟩ := S.own i _ _ g'
        rw [show σ[i]? = some (some v) from h] at e1; cases e1
        exact r1.lv
theorem rk_ok (S : StOk K F T H env σ) (h : RvOk K F T H env σ v r) (e : rk env r = some d) : Rp K (Ow F T env σ) H v d := by
  cases r with
  | val d' => simp only [rk, Option.some.injEq] at e; subst e; exact h
  | slot i =>
    unfold rk at e
    cases g : slOf env i with
    | none => simp [g] at e
    | some s =>
      have g' := slOf_eq.mp g
      cases s with
      | shr d' =>
        simp [g] at e; subst e
        obtain ⟨v', e1, r1⟩ := S.shr i _ g'
        rw [show σ[i]? = some (some v) from h] at e1; cases e1
        exact r1
      | own p m => simp [g] at e
theorem StOk.lay (S : StOk K F T H env σ) (x : Ext (fun _ => False) H H') : StOk K F T H' env σ := by
  have k : ∀ a o, H a = some o → H' a = some o := fun a o e => x.same a o e id
  exact ⟨S.len, fun i d e => let ⟨v, e1, r⟩ := S.shr i d e; ⟨v, e1, r.tr (fun _ _ _ n => n) fun a o _ e => k a o e⟩,
    fun i p m e => let ⟨a, e1, r, c⟩ := S.own i p m e; ⟨a, e1, r.tr (fun _ _ _ n => n) (fun a o _ e => k a o e) (k a), c⟩, S.dis, S.ext.trans x (fun _ q => q.elim), S.dom, S.sub, fun a q => x.live a (S.tdm a q), S.tno⟩
theorem StOk.lay1 (S : StOk K F T H env σ) {p : Addr} (n : H p = none) (x : Ext (fun _ => False) H H') (l : H' p ≠ none) : StOk K F (fun a => T a ∨ a = p) H' env σ := by
  have k : ∀ a o, H a = some o → H' a = some o := fun a o e => x.same a o e id
  have f : ∀ a u, H a = some u → ¬ Ow F T env σ a → ¬ Ow F (fun a => T a ∨ a = p) env σ a := fun a u e k q => by
    rcases q with q | (q | q) | q
    · exact k (.inl q)
    · exact k (.inr (.inl q))
    · exact ne_of_none e n q
    · exact k (.inr (.inr q))
  exact ⟨S.len, fun i d e => let ⟨v, e1, r⟩ := S.shr i d e; ⟨v, e1, r.tr f fun a u _ e => k a u e⟩,
    fun i p m e => let ⟨a, e1, r, c⟩ := S.own i p m e; ⟨a, e1, r.tr f (fun a u _ e => k a u e) (k a), c⟩, S.dis,
    S.ext.trans x (fun _ q => q.elim), S.dom, S.sub, fun a q => (by
      rcases q with q | rfl
      · exact x.live a (S.tdm a q)
      · exact l), fun a q z => q.elim (fun q => S.tno a q z) fun q => by subst q; exact S.wlive z n⟩
theorem Stp.lay (x : Ext (fun _ => False) H H') : Stp env σ H env H' := ⟨x.mono fun _ q => q.elim, fun _ h => h⟩
theorem owp {p : Addr} (n : H p = none) {vs : List V} {ds : List D} (x : Ext (fun _ => False) H H') (r : RpAll K (Ow F T env σ) H vs ds) : RpAll K (Ow F (fun a => T a ∨ a = p) env σ) H' vs ds := r.tr
  (fun a u e k q => by
    rcases q with q | (q | q) | q
    · exact k (.inl q)
    · exact k (.inr (.inl q))
    · exact ne_of_none e n q
    · exact k (.inr (.inr q)))
  fun a u _ e => x.same a u e id
end
def IE (K : PySem.W.Frag) (t : TE) (f : EvE) : Prop := ∀ F T env σ H r env', StOk K F T H env σ → f env = some (r, env') → ∀ Q : VK,
  (∀ v H', StOk K F T H' env' σ → Stp env σ H env' H' → RvOk K F T H' env' σ v r → Q v H') → t σ H Q
def IM (K : PySem.W.Frag) (t : TE) (f : EvM) : Prop := ∀ F T env σ H m env', StOk K F T H env σ → f env = some (m, env') → ∀ Q : VK,
  (∀ p H', H p = none → StOk K F (fun a => T a ∨ a = p) H' env' σ → Stp env σ H env' H' → MuAt K (Ow F (fun a => T a ∨ a = p) env' σ) H' p m → Q (.ref p) H') → t σ H Q
def IT (K : PySem.W.Frag) (t : TT) (f : EvT) : Prop := ∀ F T env σ H b env', StOk K F T H env σ → f env = some (b, env') → ∀ Q : Bool → Hp → Prop,
  (∀ H', StOk K F T H' env' σ → Stp env σ H env' H' → Q b H') → t σ H Q
def RvAll (K : PySem.W.Frag) (F : Frm) (T : Addr → Prop) (H : Hp) (env : En) (σ : L2.St) : List V → List R → Prop
  | [], [] => True
  | v :: vs, r :: rs => RvOk K F T H env σ v r ∧ RvAll K F T H env σ vs rs
  | _, _ => False
def IA (K : PySem.W.Frag) (t : TA) (f : EvA) : Prop := ∀ F T env σ H rs env', StOk K F T H env σ → f env = some (rs, env') → ∀ Q : List V → Hp → Prop,
  (∀ vs H', StOk K F T H' env' σ → Stp env σ H env' H' → RvAll K F T H' env' σ vs rs → Q vs H') → t σ H Q
section
variable {K : PySem.W.Frag} {F : Frm} {T : Addr → Prop} {H H' : Hp} {env env' : En} {σ : L2.St}
theorem RvAll.stp (b : Stp env σ H env' H') : ∀ {vs : List V} {rs : List R}, RvAll K F T H env σ vs rs → RvAll K F T H' env' σ vs rs
  | [], [], _ => trivial
  | v :: vs, r :: rs, h => ⟨h.1.stp b, RvAll.stp b h.2⟩
  | [], _ :: _, h => h.elim
  | _ :: _, [], h => h.elim
def LvAll (K : PySem.W.Frag) (O : Addr → Prop) (H : Hp) : List V → List D → Prop
  | [], [] => True
  | v :: vs, r :: rs => Lv K O H v r ∧ LvAll K O H vs rs
  | _, _ => False
def rsA (env : En) : List R → Option (List D)
  | [] => some []
  | r :: l => (rs env r).bind fun d => (rsA env l).map fun ds => d :: ds
def rkA (env : En) : List R → Option (List D)
  | [] => some []
  | r :: l => (rk env r).bind fun d => (rkA env l).map fun ds => d :: ds
theorem rsA_ok (S : StOk K F T H env σ) : ∀ {vs : List V} {l : List R} {ds : List D}, RvAll K F T H env σ vs l → rsA env l = some ds → LvAll K (Ow F T env σ) H vs ds
  | [], [], ds, _, e => by simp only [rsA, Option.some.injEq] at e; subst e; trivial
  | v :: vs, r :: l, ds, h, e => by
    simp only [rsA, Option.bind_eq_some_iff, Option.map_eq_some_iff] at e
    obtain ⟨d, e1, ds', e2, rfl⟩ := e
    exact ⟨rs_ok S h.1 e1, rsA_ok S h.2 e2⟩
  | [], _ :: _, _, h, _ => h.elim
  | _ :: _, [], _, h, _ => h.elim
theorem rkA_ok (S : StOk K F T H env σ) : ∀ {vs : List V} {l : List R} {ds : List D}, RvAll K F T H env σ vs l → rkA env l = some ds → RpAll K (Ow F T env σ) H vs ds
  | [], [], ds, _, e => by simp only [rkA, Option.some.injEq] at e; subst e; exact .nil
  | v :: vs, r :: l, ds, h, e => by
    simp only [rkA, Option.bind_eq_some_iff, Option.map_eq_some_iff] at e
    obtain ⟨d, e1, ds', e2, rfl⟩ := e
    exact .cons (rk_ok S h.1 e1) (rkA_ok S h.2 e2)
  | [], _ :: _, _, h, _ => h.elim
  | _ :: _, [], _, h, _ => h.elim
end
section
variable {K : PySem.W.Frag} {ta tb te : TE} {fa fb fe : EvE} {t u : TT} {ft fu : EvT} {tl : TA} {fl : EvA}
def eVar (i : Nat) : EvE := fun env => match slOf env i with
  | some (.shr d) => some (.val d, env)
  | some (.own _ _) => some (.slot i, env)
  | none => none
theorem ie_var {i : Nat} : IE K (tVar i) (eVar i) := by
  intro F T env σ H r env' S e Q q
  unfold eVar at e
  cases g : slOf env i with
  | none => simp [g] at e
  | some s =>
    have g' := slOf_eq.mp g
    cases s with
    | shr d =>
      simp [g] at e
      obtain ⟨rfl, rfl⟩ := e
      obtain ⟨v, e1, r1⟩ := S.shr i _ g'
      exact ⟨v, e1, q v H S Stp.refl r1⟩
    | own p m =>
      simp [g] at e
      obtain ⟨rfl, rfl⟩ := e
      obtain ⟨a, e1, r1, _⟩ := S.own i _ _ g'
      exact ⟨_, e1, q _ H S Stp.refl e1⟩
def eGive (i : Nat) : EvE := fun env => match slOf env i with
  | some (.shr d) => some (.val d, env)
  | some (.own false m) => some (.val m.toD, env.set i (some (.shr m.toD)))
  | _ => none
theorem set_get {α : Type} {l : List α} {i j : Nat} {x y : α} (h : (l.set i x)[j]? = some y) : (i = j ∧ y = x) ∨ (i ≠ j ∧ l[j]? = some y) := by
  by_cases e : i = j
  · subst e
    refine .inl ⟨rfl, ?_⟩
    rw [List.getElem?_set] at h
    simp only [↓reduceIte] at h
    split at h
    · exact (Option.some.inj h).symm
    · cases h
  · rw [List.getElem?_set_ne e] at h
    exact .inr ⟨e, h⟩
theorem give_ok {F : Frm} {T : Addr → Prop} {env : En} {σ : L2.St} {H : Hp} {i : Nat} {m : Mu} (S : StOk K F T H env σ) (g' : env[i]? = some (some (Sl.own false m))) :
    ∃ a, σ[i]? = some (some (V.ref a)) ∧ StOk K F T H (env.set i (some (.shr m.toD))) σ ∧ Stp env σ H (env.set i (some (.shr m.toD))) H ∧ Rp K (Ow F T (env.set i (some (.shr m.toD))) σ) H (.ref a) m.toD := by
  obtain ⟨a, e1, mu, hp⟩ := S.own i _ _ g'
  have sub : ∀ b, Wr (env.set i (some (.shr m.toD))) σ b → Wr env σ b ∧ b ≠ a := by
    rintro b ⟨j, p, n, ej, sj⟩
    rcases set_get ej with ⟨rfl, h⟩ | ⟨hne, h⟩
    · cases h
    · refine ⟨⟨j, p, n, h, sj⟩, fun hb => ?_⟩
      subst hb
      exact hne (S.dis i j _ _ _ _ _ g' h e1 sj)
  have ow : ∀ b, Ow F T (env.set i (some (.shr m.toD))) σ b → Ow F T env σ b := fun b h => h.imp id (.imp id fun q => (sub b q).1)
  have hd : F.H0 a = none := by simpa using hp
  have na : ¬ Ow F T (env.set i (some (.shr m.toD))) σ a := by
    rintro (h | h | h)
    · exact S.dom a h hd
    · exact S.tno a h ⟨i, _, _, g', e1⟩
    · exact (sub a h).2 rfl
  have rp : Rp K (Ow F T (env.set i (some (.shr m.toD))) σ) H (.ref a) m.toD := (mu.tr (fun b _ _ n q => n (ow b q)) (fun _ _ _ e => e) (fun _ e => e)).rp na
  refine ⟨a, e1, ⟨?_, ?_, ?_, ?_, S.ext, S.dom, S.sub, S.tdm, fun b q z => S.tno b q (sub b z).1⟩, ⟨Ext.refl, fun b q => (sub b q).1⟩, rp⟩
  · rw [List.length_set]; exact S.len
  · intro j d h
    rcases set_get h with ⟨rfl, hh⟩ | ⟨_, h⟩
    · cases hh; exact ⟨_, e1, rp⟩
    · obtain ⟨v, e2, r⟩ := S.shr j d h; exact ⟨v, e2, r.anti ow⟩
  · intro j p n h
    rcases set_get h with ⟨rfl, hh⟩ | ⟨_, h⟩
    · cases hh
    · obtain ⟨b, e2, r, c⟩ := S.own j p n h
      exact ⟨b, e2, r.tr (fun b _ _ n q => n (ow b q)) (fun _ _ _ e => e) (fun _ e => e), c⟩
  · intro j k p q n o b h1 h2 s1 s2
    rcases set_get h1 with ⟨rfl, h⟩ | ⟨_, h1⟩
    · cases h
    · rcases set_get h2 with ⟨rfl, h⟩ | ⟨_, h2⟩
      · cases h
      · exact S.dis j k p q n o b h1 h2 s1 s2
theorem ie_give {i : Nat} : IE K (tVar i) (eGive i) := by
  intro F T env σ H r env' S e Q q
  unfold eGive at e
  cases g : slOf env i with
  | none => simp [g] at e
  | some s =>
    have g' := slOf_eq.mp g
    cases s with
    | shr d =>
      simp [g] at e
      obtain ⟨rfl, rfl⟩ := e
      obtain ⟨v, e1, r1⟩ := S.shr i _ g'
      exact ⟨v, e1, q v H S Stp.refl r1⟩
    | own p m =>
      cases p with
      | true => simp [g] at e
      | false =>
        simp [g] at e
        obtain ⟨rfl, rfl⟩ := e
        obtain ⟨a, e1, S', st, rp⟩ := give_ok S g'
        exact ⟨_, e1, q _ H S' st rp⟩
def eC (d : D) : EvE := fun env => some (.val d, env)
theorem ie_non : IE K (tC .non) (eC .none) := fun F T env σ H r env' S e Q q => by cases e; exact q _ H S Stp.refl .non
theorem ie_bl {b : Bool} : IE K (tC (.bl b)) (eC (.bool b)) := fun F T env σ H r env' S e Q q => by cases e; exact q _ H S Stp.refl (.bl b)
theorem ie_int {i : Int} : IE K (tC (.int i)) (eC (.int i)) := fun F T env σ H r env' S e Q q => by cases e; exact q _ H S Stp.refl (.int i)
theorem ie_str {x : Str} : IE K (tC (.str x)) (eC (.str x)) := fun F T env σ H r env' S e Q q => by cases e; exact q _ H S Stp.refl (.str x)
def OpD (K : PySem.W.Frag) (r : R2) (g : D → D → Option D) : Prop := ∀ (O : Addr → Prop) (H : Hp) x y d e z, (∀ a, O a → H a ≠ none) → Lv K O H x d → Lv K O H y e → g d e = some z → ∀ Q : VK,
  (∀ v H', Ext (fun _ => False) H H' → Rp K O H' v z → Q v H') → r x y H Q
def OpM (K : PySem.W.Frag) (r : R2) (g : D → D → Option Mu) : Prop := ∀ (O : Addr → Prop) (H : Hp) x y d e z, (∀ a, O a → H a ≠ none) → Lv K O H x d → Lv K O H y e → g d e = some z → ∀ Q : VK,
  (∀ p H', H p = none → Ext (fun _ => False) H H' → MuAt K (fun a => O a ∨ a = p) H' p z → Q (.ref p) H') → r x y H Q
def e2 (fa fb : EvE) : En → Option (D × D × En) := fun env => (fa env).bind fun p => (fb p.2).bind fun q => (rs q.2 p.1).bind fun d => (rs q.2 q.1).map fun e => (d, e, q.2)
theorem i2 (ha : IE K ta fa) (hb : IE K tb fb) {F : Frm} {T : Addr → Prop} {env env' : En} {σ : L2.St} {H : Hp} {d e : D} (S : StOk K F T H env σ) (h : e2 fa fb env = some (d, e, env')) {R : V → V → Hp → Prop}
    (k : ∀ x y H', StOk K F T H' env' σ → Stp env σ H env' H' → Lv K (Ow F T env' σ) H' x d → Lv K (Ow F T env' σ) H' y e → R x y H') : ta σ H fun x H1 => tb σ H1 fun y H2 => R x y H2 := by
  simp only [e2, Option.bind_eq_some_iff, Option.map_eq_some_iff] at h
  obtain ⟨⟨r1, e1⟩, h1, ⟨r2, e2⟩, h2, d', h3, e', h4, h5⟩ := h
  cases h5
  refine ha F T env σ H r1 e1 S h1 _ fun x H1 S1 s1 v1 => ?_
  refine hb F T e1 σ H1 r2 _ S1 h2 _ fun y H2 S2 s2 v2 => ?_
  exact k x y H2 S2 (s1.trans s2) (rs_ok S2 (v1.stp s2) h3) (rs_ok S2 v2 h4)
def eOp (g : D → D → Option D) (fa fb : EvE) : EvE := fun env => (e2 fa fb env).bind fun p => (g p.1 p.2.1).map fun z => (.val z, p.2.2)
theorem ie_op {r : R2} {g : D → D → Option D} (hr : OpD K r g) (ha : IE K ta fa) (hb : IE K tb fb) : IE K (tOp r ta tb) (eOp g fa fb) := by
  intro F T env σ H r env' S e Q q
  simp only [eOp, Option.bind_eq_some_iff, Option.map_eq_some_iff] at e
  obtain ⟨⟨d, e, e1⟩, h1, z, h2, h3⟩ := e
  cases h3
  refine i2 ha hb S h1 fun x y H' S' st l1 l2 => hr (Ow F T e1 σ) H' x y d e z (fun a h => S'.olive h) l1 l2 h2 Q fun v H2 x r => ?_
  exact q v H2 (S'.lay x) (st.trans (Stp.lay x)) r
def UnD (K : PySem.W.Frag) (r : V → Hp → VK → Prop) (g : D → Option D) : Prop := ∀ (O : Addr → Prop) (H : Hp) x d z, (∀ a, O a → H a ≠ none) → Lv K O H x d → g d = some z → ∀ Q : VK, (∀ v H', Ext (fun _ => False) H H' → Rp K O H' v z → Q v H') → r x H Q
def e1 (fa : EvE) : En → Option (D × En) := fun env => (fa env).bind fun p => (rs p.2 p.1).map fun d => (d, p.2)
theorem i1 (ha : IE K ta fa) {F : Frm} {T : Addr → Prop} {env env' : En} {σ : L2.St} {H : Hp} {d : D} (S : StOk K F T H env σ) (h : e1 fa env = some (d, env')) {R : V → Hp → Prop}
    (k : ∀ x H', StOk K F T H' env' σ → Stp env σ H env' H' → Lv K (Ow F T env' σ) H' x d → R x H') : ta σ H fun x H1 => R x H1 := by
  simp only [e1, Option.bind_eq_some_iff, Option.map_eq_some_iff] at h
  obtain ⟨⟨r1, e1⟩, h1, d', h3, h5⟩ := h
  cases h5
  exact ha F T env σ H r1 e1 S h1 _ fun x H1 S1 s1 v1 => k x H1 S1 s1 (rs_ok S1 v1 h3)
def eUn (g : D → Option D) (fa : EvE) : EvE := fun env => (e1 fa env).bind fun p => (g p.1).map fun z => (.val z, p.2)
theorem ie_un {r : V → Hp → VK → Prop} {g : D → Option D} (hr : UnD K r g) (ha : IE K ta fa) : IE K (tUn r ta) (eUn g fa) := by
  intro F T env σ H r env' S e Q q
  simp only [eUn, Option.bind_eq_some_iff, Option.map_eq_some_iff] at e
  obtain ⟨⟨d, e1⟩, h1, z, h2, h3⟩ := e
  cases h3
  refine i1 ha S h1 fun x H' S' st l1 => hr (Ow F T e1 σ) H' x d z (fun a h => S'.olive h) l1 h2 Q fun v H2 x r => ?_
  exact q v H2 (S'.lay x) (st.trans (Stp.lay x)) r
def aNil : EvA := fun env => some ([], env)
def aCons (fa : EvE) (fl : EvA) : EvA := fun env => (fa env).bind fun p => (fl p.2).map fun q => (p.1 :: q.1, q.2)
theorem ia_nil : IA K tNil aNil := fun F T env σ H r env' S e Q q => by cases e; exact q [] H S Stp.refl trivial
theorem ia_cons (ha : IE K ta fa) (hl : IA K tl fl) : IA K (tCons ta tl) (aCons fa fl) := by
  intro F T env σ H rs env' S e Q q
  simp only [aCons, Option.bind_eq_some_iff, Option.map_eq_some_iff] at e
  obtain ⟨⟨r1, e1⟩, h1, ⟨l, e2⟩, h2, h3⟩ := e
  cases h3
  refine ha F T env σ H r1 e1 S h1 _ fun x H1 S1 s1 v1 => ?_
  refine hl F T e1 σ H1 l _ S1 h2 _ fun vs H2 S2 s2 v2 => ?_
  exact q _ H2 S2 (s1.trans s2) ⟨v1.stp s2, v2⟩
def eA (fl : EvA) : En → Option (List D × En) := fun env => (fl env).bind fun p => (rsA p.2 p.1).map fun ds => (ds, p.2)
def eK (fl : EvA) : En → Option (List D × En) := fun env => (fl env).bind fun p => (rkA p.2 p.1).map fun ds => (ds, p.2)
def small (n : Nat) : Bool := decide (n ≤ 1000000)
theorem small_le {n : Nat} (h : small n = true) : n ≤ sizeLine := Nat.le_trans (of_decide_eq_true h) (by decide)
theorem small_lt {n : Nat} (h : small n = true) : n < sizeLine := Nat.lt_of_le_of_lt (of_decide_eq_true h) (by decide)
def eTup (fl : EvA) : EvE := fun env => (eK fl env).bind fun p => if small p.1.length = true then some (.val (.tuple p.1), p.2) else none
def eLst (fl : EvA) : EvM := fun env => (eK fl env).bind fun p => if small p.1.length = true then some (.l p.1, p.2) else none
theorem ie_tup (hl : IA K tl fl) : IE K (tTupF tl) (eTup fl) := by
  intro F T env σ H r env' S e Q q
  simp only [eTup, eK, Option.bind_eq_some_iff, Option.map_eq_some_iff] at e
  obtain ⟨⟨ds, e1⟩, ⟨⟨l, e2⟩, h1, ds', h2, h3⟩, h4⟩ := e
  cases h3
  split at h4
  · rename_i hs
    cases h4
    refine hl F T env σ H l _ S h1 _ fun vs H1 S1 s1 v1 => ?_
    have ra := rkA_ok S1 v1 h2
    refine ⟨by rw [ra.length]; exact small_le hs, fun p ob np hd => ?_⟩
    have x : Ext (fun _ => False) H1 (upd H1 p (.frz ob (.tup vs))) := Ext.new np
    refine q _ _ (S1.lay x) (s1.trans (Stp.lay x)) (.tup (TpA.new hd (S1.fresh np)) (ra.tr (fun _ _ _ n => n) fun a o _ e => x.same a o e id))
  · cases h4
theorem im_lst (hl : IA K tl fl) : IM K (tLst tl) (eLst fl) := by
  intro F T env σ H r env' S e Q q
  simp only [eLst, eK, Option.bind_eq_some_iff, Option.map_eq_some_iff] at e
  obtain ⟨⟨ds, e1⟩, ⟨⟨l, e2⟩, h1, ds', h2, h3⟩, h4⟩ := e
  cases h3
  split at h4
  · rename_i hs
    cases h4
    refine hl F T env σ H l _ S h1 _ fun vs H1 S1 s1 v1 => ?_
    have ra := rkA_ok S1 v1 h2
    refine ⟨by rw [ra.length]; exact small_le hs, fun p np => ?_⟩
    have x : Ext (fun _ => False) H1 (upd H1 p (.lst vs)) := Ext.new np
    have n0 : H p = none := by
      cases h : H p with
      | none => rfl
      | some o => exact absurd np (s1.ext.live p (by rw [h]; simp))
    exact q _ _ n0 (S1.lay1 np x (by rw [upd_same]; simp)) (s1.trans (Stp.lay x)) ⟨vs, upd_same, owp np x ra⟩
  · cases h4
def CaD (K : PySem.W.Frag) (r : List V → Hp → VK → Prop) (g : List D → Option D) : Prop := ∀ (O : Addr → Prop) (H : Hp) xs ds z, (∀ a, O a → H a ≠ none) → LvAll K O H xs ds → g ds = some z → ∀ Q : VK,
  (∀ v H', Ext (fun _ => False) H H' → Rp K O H' v z → Q v H') → r xs H Q
def CaM (K : PySem.W.Frag) (r : List V → Hp → VK → Prop) (g : List D → Option Mu) : Prop := ∀ (O : Addr → Prop) (H : Hp) xs ds z, (∀ a, O a → H a ≠ none) → LvAll K O H xs ds → g ds = some z → ∀ Q : VK,
  (∀ p H', H p = none → Ext (fun _ => False) H H' → MuAt K (fun a => O a ∨ a = p) H' p z → Q (.ref p) H') → r xs H Q
def eCa (g : List D → Option D) (fl : EvA) : EvE := fun env => (eA fl env).bind fun p => (g p.1).map fun z => (.val z, p.2)
def eCaM (g : List D → Option Mu) (fl : EvA) : EvM := fun env => (eA fl env).bind fun p => (g p.1).map fun z => (z, p.2)
theorem ie_cb {r : List V → Hp → VK → Prop} {g : List D → Option D} (hr : CaD K r g) (hl : IA K tl fl) : IE K (tCB r tl) (eCa g fl) := by
  intro F T env σ H r env' S e Q q
  simp only [eCa, eA, Option.bind_eq_some_iff, Option.map_eq_some_iff] at e
  obtain ⟨⟨ds, e1⟩, ⟨⟨l, e2⟩, h1, ds', h2, h3⟩, z, h4, h5⟩ := e
  cases h3; cases h5
  refine hl F T env σ H l _ S h1 _ fun vs H1 S1 s1 v1 => ?_
  refine hr (Ow F T _ σ) H1 vs ds z (fun a h => S1.olive h) (rsA_ok S1 v1 h2) h4 Q fun v H2 x r => ?_
  exact q v H2 (S1.lay x) (s1.trans (Stp.lay x)) r
theorem im_cb {r : List V → Hp → VK → Prop} {g : List D → Option Mu} (hr : CaM K r g) (hl : IA K tl fl) : IM K (tCB r tl) (eCaM g fl) := by
  intro F T env σ H m env' S e Q q
  simp only [eCaM, eA, Option.bind_eq_some_iff, Option.map_eq_some_iff] at e
  obtain ⟨⟨ds, e1⟩, ⟨⟨l, e2⟩, h1, ds', h2, h3⟩, z, h4, h5⟩ := e
  cases h3; cases h5
  refine hl F T env σ H l _ S h1 _ fun vs H1 S1 s1 v1 => ?_
  refine hr (Ow F T _ σ) H1 vs ds m (fun a h => S1.olive h) (rsA_ok S1 v1 h2) h4 Q fun p H2 n x r => ?_
  have np : H p = none := by
    cases h : H p with
    | none => rfl
    | some o => exact absurd n (s1.ext.live p (by rw [h]; simp))
  have l : H2 p ≠ none := by
    exact r.alive
  exact q p H2 np (S1.lay1 n x l) (s1.trans (Stp.lay x)) (r.tr (fun a _ _ n q => n (by
    rcases q with q | (q | q) | q
    · exact .inl (.inl q)
    · exact .inl (.inr (.inl q))
    · exact .inr q
    · exact .inl (.inr (.inr q)))) (fun _ _ _ e => e) fun _ e => e)
def tVal (fe : EvE) : EvT := fun env => (e1 fe env).bind fun p => match p.1 with
  | .bool b => some (b, p.2)
  | _ => none
theorem it_B (h : IE K te fe) : IT K (tB te) (tVal fe) := by
  intro F T env σ H b env' S e Q q
  simp only [tVal, Option.bind_eq_some_iff] at e
  obtain ⟨⟨d, e1⟩, h1, h2⟩ := e
  refine i1 h S h1 fun x H' S' st l => ?_
  cases d with
  | bool c =>
    simp only [Option.some.injEq, Prod.mk.injEq] at h2
    obtain ⟨rfl, rfl⟩ := h2
    cases (show Rp K _ H' x (.bool c) from l)
    exact ⟨c, rfl, q H' S' st⟩
  | _ => cases h2
theorem it_test (h : IE K te fe) : IT K (tTest te) (tVal fe) := it_B h
def tfAnd (ft fu : EvT) : EvT := fun env => (ft env).bind fun p => if p.1 = true then fu p.2 else some (false, p.2)
def tfOr (ft fu : EvT) : EvT := fun env => (ft env).bind fun p => if p.1 = true then some (true, p.2) else fu p.2
def tfNot (ft : EvT) : EvT := fun env => (ft env).map fun p => (!p.1, p.2)
theorem it_and (h : IT K t ft) (h' : IT K u fu) : IT K (tAnd t u) (tfAnd ft fu) := by
  intro F T env σ H b env' S e Q q
  simp only [tfAnd, Option.bind_eq_some_iff] at e
  obtain ⟨⟨c, e1⟩, h1, h2⟩ := e
  refine h F T env σ H c e1 S h1 _ fun H1 S1 s1 => ?_
  cases c with
  | true =>
    simp only [if_true] at h2 ⊢
    exact h' F T e1 σ H1 b env' S1 h2 Q fun H2 S2 s2 => q H2 S2 (s1.trans s2)
  | false =>
    simp only [Bool.false_eq_true, if_false, Option.some.injEq, Prod.mk.injEq] at h2 ⊢
    obtain ⟨rfl, rfl⟩ := h2
    exact q H1 S1 s1
theorem it_or (h : IT K t ft) (h' : IT K u fu) : IT K (tOr t u) (tfOr ft fu) := by
  intro F T env σ H b env' S e Q q
  simp only [tfOr, Option.bind_eq_some_iff] at e
  obtain ⟨⟨c, e1⟩, h1, h2⟩ := e
  refine h F T env σ H c e1 S h1 _ fun H1 S1 s1 => ?_
  cases c with
  | false =>
    simp only [Bool.false_eq_true, if_false] at h2 ⊢
    exact h' F T e1 σ H1 b env' S1 h2 Q fun H2 S2 s2 => q H2 S2 (s1.trans s2)
  | true =>
    simp only [if_true, Option.some.injEq, Prod.mk.injEq] at h2 ⊢
    obtain ⟨rfl, rfl⟩ := h2
    exact q H1 S1 s1
theorem it_not (h : IT K t ft) : IT K (tNot t) (tfNot ft) := by
  intro F T env σ H b env' S e Q q
  simp only [tfNot, Option.map_eq_some_iff] at e
  obtain ⟨⟨c, e1⟩, h1, h2⟩ := e
  cases h2
  exact h F T env σ H c e1 S h1 _ fun H1 S1 s1 => q H1 S1 s1
def tYesE : EvT := fun env => some (true, env)
theorem it_yes : IT K tYes tYesE := fun F T env σ H b env' S e Q q => by cases e; exact q H S Stp.refl
def eAnd (fa fb : EvE) : EvE := fun env => (e1 fa env).bind fun p => match p.1 with
  | .bool true => fb p.2
  | .bool false => some (.val (.bool false), p.2)
  | _ => none
def eNot (fa : EvE) : EvE := eUn (fun d => match d with | .bool b => some (.bool (!b)) | _ => none) fa
theorem ie_and (ha : IE K ta fa) (hb : IE K tb fb) : IE K (tAndV ta tb) (eAnd fa fb) := by
  intro F T env σ H r env' S e Q q
  simp only [eAnd, Option.bind_eq_some_iff] at e
  obtain ⟨⟨d, e1⟩, h1, h2⟩ := e
  refine i1 ha S h1 fun x H' S' st l => ?_
  cases d with
  | bool c =>
    cases (show Rp K _ H' x (.bool c) from l)
    refine ⟨c, rfl, ?_⟩
    cases c with
    | true => exact hb F T e1 σ H' r env' S' h2 Q fun v H2 S2 s2 r2 => q v H2 S2 (st.trans s2) r2
    | false => cases h2; exact q _ H' S' st (.bl false)
  | _ => cases h2
theorem ie_not (ha : IE K ta fa) : IE K (tNotV ta) (eNot fa) := by
  intro F T env σ H r env' S e Q q
  simp only [eNot, eUn, Option.bind_eq_some_iff, Option.map_eq_some_iff] at e
  obtain ⟨⟨d, e1⟩, h1, z, h2, h3⟩ := e
  refine i1 ha S h1 fun x H' S' st l => ?_
  cases d with
  | bool c =>
    cases (show Rp K _ H' x (.bool c) from l)
    cases h2; cases h3
    exact ⟨c, rfl, q _ H' S' st (.bl _)⟩
  | _ => cases h2
end
end GD

namespace GD
open PySem PySem.Spec PyProof.Rows L2
def T0 : Addr → Prop := fun _ => False
inductive Ret where
  | val (d : D)
  | new (m : Mu)
inductive Fl where
  | nx
  | bk
  | ct
  | rt (r : Ret)
abbrev EvS := En → Option (Fl × En)
def RetOk (K : PySem.W.Frag) (F : Frm) (H' : Hp) (v : V) (env' : En) (σ' : L2.St) : Ret → Prop
  | .val d => StOk K F T0 H' env' σ' ∧ Rp K (Ow F T0 env' σ') H' v d
  | .new m => ∃ p T', v = .ref p ∧ F.H0 p = none ∧ StOk K F T' H' env' σ' ∧ Ow F T' env' σ' p ∧ MuAt K (Ow F T' env' σ') H' p m
def SEnd (K : PySem.W.Frag) (F : Frm) (env : En) (σ : L2.St) (H : Hp) (env' : En) (Dn : Ends) : Fl → Prop
  | .nx => ∀ σ' H', StOk K F T0 H' env' σ' → Stq env σ H env' σ' H' → Dn.nx σ' H'
  | .bk => ∀ σ' H', StOk K F T0 H' env' σ' → Stq env σ H env' σ' H' → Dn.bk σ' H'
  | .ct => ∀ σ' H', StOk K F T0 H' env' σ' → Stq env σ H env' σ' H' → Dn.ct σ' H'
  | .rt r => ∀ v σ' H', RetOk K F H' v env' σ' r → Dn.rt v H'
def IS (K : PySem.W.Frag) (t : TS) (f : EvS) : Prop := ∀ F env σ H fl env', StOk K F T0 H env σ → f env = some (fl, env') → ∀ Dn : Ends, SEnd K F env σ H env' Dn fl → t Dn σ H
section
variable {K : PySem.W.Frag} {te : TE} {fe : EvE} {fm : EvM} {t u : TS} {f g : EvS} {c : TT} {fc : EvT}
theorem SEnd.pre {F : Frm} {env env1 env' : En} {σ σ1 : L2.St} {H H1 : Hp} {Dn : Ends} {fl : Fl} (h : SEnd K F env σ H env' Dn fl) (b : Stq env σ H env1 σ1 H1) : SEnd K F env1 σ1 H1 env' Dn fl := by
  cases fl with
  | nx => exact fun σ' H' S q => h σ' H' S (b.trans q)
  | bk => exact fun σ' H' S q => h σ' H' S (b.trans q)
  | ct => exact fun σ' H' S q => h σ' H' S (b.trans q)
  | rt r => exact h
def sNext : EvS := fun env => some (.nx, env)
theorem is_next : IS K tNext sNext := fun F env σ H fl env' S e Dn h => by cases e; exact h σ H S Stq.refl
def sSeq (f g : EvS) : EvS := fun env => (f env).bind fun p => match p.1 with
  | .nx => g p.2
  | .bk => some (.bk, p.2)
  | .ct => some (.ct, p.2)
  | .rt r => some (.rt r, p.2)
theorem is_seq (h1 : IS K t f) (h2 : IS K u g) : IS K (tSeq t u) (sSeq f g) := by
  intro F env σ H fl env' S e Dn h
  simp only [sSeq, Option.bind_eq_some_iff] at e
  obtain ⟨⟨fl1, e1⟩, a1, a2⟩ := e
  cases fl1 with
  | nx => exact h1 F env σ H .nx e1 S a1 _ fun σ' H' S' q => h2 F e1 σ' H' fl env' S' a2 Dn (h.pre q)
  | bk => cases a2; exact h1 F env σ H .bk e1 S a1 _ h
  | ct => cases a2; exact h1 F env σ H .ct e1 S a1 _ h
  | rt r => cases a2; exact h1 F env σ H (.rt r) e1 S a1 _ h
def sIf (fc : EvT) (f g : EvS) : EvS := fun env => (fc env).bind fun p => if p.1 = true then f p.2 else g p.2
theorem is_if (hc : IT K c fc) (h1 : IS K t f) (h2 : IS K u g) : IS K (tIfS c t u) (sIf fc f g) := by
  intro F env σ H fl env' S e Dn h
  simp only [sIf, Option.bind_eq_some_iff] at e
  obtain ⟨⟨b, e1⟩, a1, a2⟩ := e
  refine hc F T0 env σ H b e1 S a1 _ fun H1 S1 s1 => ?_
  cases b with
  | true =>
    simp only [if_true] at a2 ⊢
    exact h1 F e1 σ H1 fl env' S1 a2 Dn (h.pre s1.q)
  | false =>
    simp only [Bool.false_eq_true, if_false] at a2 ⊢
    exact h2 F e1 σ H1 fl env' S1 a2 Dn (h.pre s1.q)
def sDrop (fe : EvE) : EvS := fun env => (fe env).map fun p => (.nx, p.2)
theorem is_drop (h : IE K te fe) : IS K (tDrop te) (sDrop fe) := by
  intro F env σ H fl env' S e Dn k
  simp only [sDrop, Option.map_eq_some_iff] at e
  obtain ⟨⟨r, e1⟩, a1, a2⟩ := e
  cases a2
  exact h F T0 env σ H r e1 S a1 _ fun v H' S' st _ => k σ H' S' st.q
section
variable {F : Frm} {T : Addr → Prop} {H : Hp} {env : En} {σ : L2.St}
theorem wr_set {i : Nat} {s : Option Sl} {v : V} {b : Addr} (h : Wr (env.set i s) (σ.set i (some v)) b) : Wr env σ b ∨ (∃ p m, s = some (.own p m) ∧ v = .ref b) := by
  obtain ⟨j, p, m, ej, sj⟩ := h
  rcases set_get ej with ⟨rfl, hh⟩ | ⟨hne, h⟩
  · rcases set_get sj with ⟨_, h2⟩ | ⟨hne, _⟩
    · exact .inr ⟨p, m, hh.symm, (Option.some.inj h2).symm⟩
    · exact absurd rfl hne
  · rcases set_get sj with ⟨rfl, _⟩ | ⟨_, h2⟩
    · exact absurd rfl hne
    · exact .inl ⟨j, p, m, h, h2⟩
theorem StOk.setS (S : StOk K F T H env σ) {i : Nat} {v : V} {d : D} (r : Rp K (Ow F T env σ) H v d) : StOk K F T H (env.set i (some (.shr d))) (σ.set i (some v)) := by
  have sub : ∀ b, Wr (env.set i (some (.shr d))) (σ.set i (some v)) b → Wr env σ b := fun b h => (wr_set h).elim id fun ⟨p, m, e, _⟩ => by cases e
  have ow : ∀ b, Ow F T (env.set i (some (.shr d))) (σ.set i (some v)) b → Ow F T env σ b := fun b h => h.imp id (.imp id (sub b))
  have gs : ∀ j k (x y : Option V), i ≠ j → σ[j]? = some x → (σ.set i k)[j]? = some x := fun j k x y h e => by rw [List.getElem?_set_ne h]; exact e
  refine ⟨by simp only [List.length_set]; exact S.len, ?_, ?_, ?_, S.ext, S.dom, S.sub, S.tdm, fun b q z => S.tno b q (sub b z)⟩
  · intro j d' h
    rcases set_get h with ⟨rfl, hh⟩ | ⟨hne, h⟩
    · cases hh
      have hl : i < σ.length := by
        rw [← S.len]
        have := (List.getElem?_eq_some_iff.mp h).1
        simpa using this
      exact ⟨v, by rw [List.getElem?_set_self hl], r.anti ow⟩
    · obtain ⟨w, e2, r⟩ := S.shr j d' h
      exact ⟨w, by rw [List.getElem?_set_ne hne]; exact e2, r.anti ow⟩
  · intro j p n h
    rcases set_get h with ⟨rfl, hh⟩ | ⟨hne, h⟩
    · cases hh
    · obtain ⟨b, e2, r, c⟩ := S.own j p n h
      exact ⟨b, by rw [List.getElem?_set_ne hne]; exact e2, r.tr (fun b _ _ n q => n (ow b q)) (fun _ _ _ e => e) (fun _ e => e), c⟩
  · intro j k p q n o b h1 h2 s1 s2
    rcases set_get h1 with ⟨rfl, hh⟩ | ⟨n1, h1⟩
    · cases hh
    · rcases set_get h2 with ⟨rfl, hh⟩ | ⟨n2, h2⟩
      · cases hh
      · rw [List.getElem?_set_ne n1] at s1
        rw [List.getElem?_set_ne n2] at s2
        exact S.dis j k p q n o b h1 h2 s1 s2
theorem StOk.setS_q (S : StOk K F T H env σ) {i : Nat} {v : V} {d : D} : Stq env σ H (env.set i (some (.shr d))) (σ.set i (some v)) H :=
  ⟨Ext.refl, fun b h => (wr_set h).elim .inl fun ⟨p, m, e, _⟩ => by cases e⟩
theorem StOk.setM {p : Addr} (nT : ¬ T p) (S : StOk K F (fun a => T a ∨ a = p) H env σ) {i : Nat} {m : Mu} (np : F.H0 p = none) (r : MuAt K (Ow F (fun a => T a ∨ a = p) env σ) H p m) :
    StOk K F T H (env.set i (some (.own false m))) (σ.set i (some (.ref p))) := by
  have sub : ∀ b, Wr (env.set i (some (.own false m))) (σ.set i (some (.ref p))) b → Wr env σ b ∨ b = p := fun b h => (wr_set h).elim .inl fun ⟨p, m, e, e2⟩ => by cases e2; exact .inr rfl
  have ow : ∀ b, Ow F T (env.set i (some (.own false m))) (σ.set i (some (.ref p))) b → Ow F (fun a => T a ∨ a = p) env σ b := fun b h => by
    rcases h with h | h | h
    · exact .inl h
    · exact .inr (.inl (.inl h))
    · rcases sub b h with h | h
      · exact .inr (.inr h)
      · exact .inr (.inl (.inr h))
  have nw : ¬ Wr env σ p := S.tno p (.inr rfl)
  refine ⟨by simp only [List.length_set]; exact S.len, ?_, ?_, ?_, S.ext, S.dom, S.sub, fun a h => S.tdm a (.inl h), fun b q z => ?_⟩
  · intro j d' h
    rcases set_get h with ⟨rfl, hh⟩ | ⟨hne, h⟩
    · cases hh
    · obtain ⟨w, e2, r⟩ := S.shr j d' h
      exact ⟨w, by rw [List.getElem?_set_ne hne]; exact e2, r.anti ow⟩
  · intro j q n h
    rcases set_get h with ⟨rfl, hh⟩ | ⟨hne, h⟩
    · cases hh
      have hl : i < σ.length := by
        rw [← S.len]
        have := (List.getElem?_eq_some_iff.mp h).1
        simpa using this
      exact ⟨p, by rw [List.getElem?_set_self hl], r.tr (fun b _ _ n q => n (ow b q)) (fun _ _ _ e => e) (fun _ e => e), by simpa using np⟩
    · obtain ⟨b, e2, r, c⟩ := S.own j q n h
      exact ⟨b, by rw [List.getElem?_set_ne hne]; exact e2, r.tr (fun b _ _ n q => n (ow b q)) (fun _ _ _ e => e) (fun _ e => e), c⟩
  · intro j k q1 q2 n o b h1 h2 s1 s2
    rcases set_get h1 with ⟨rfl, hh1⟩ | ⟨n1, h1⟩
    · rcases set_get h2 with ⟨rfl, hh2⟩ | ⟨n2, h2⟩
      · rfl
      · rcases set_get s1 with ⟨_, e⟩ | ⟨x, _⟩
        · cases e
          rw [List.getElem?_set_ne n2] at s2
          exact absurd ⟨k, q2, o, h2, s2⟩ nw
        · exact absurd rfl x
    · rcases set_get h2 with ⟨rfl, hh2⟩ | ⟨n2, h2⟩
      · rcases set_get s2 with ⟨_, e⟩ | ⟨x, _⟩
        · cases e
          rw [List.getElem?_set_ne n1] at s1
          exact absurd ⟨j, q1, n, h1, s1⟩ nw
        · exact absurd rfl x
      · rw [List.getElem?_set_ne n1] at s1
        rw [List.getElem?_set_ne n2] at s2
        exact S.dis j k q1 q2 n o b h1 h2 s1 s2
  · rcases sub b z with z | z
    · exact S.tno b (.inl q) z
    · subst z
      exact nT q
end
def sRetN : EvS := fun env => some (.rt (.val .none), env)
theorem is_retN : IS K tRetN sRetN := fun F env σ H fl env' S e Dn h => by cases e; exact h .non σ H ⟨S, .non⟩
def sAug (g : D → D → Option D) (i : Nat) (fe : EvE) : EvS := fun env => (fe env).bind fun p => (slOf env i).bind fun s => match s with
  | .shr d => (rs p.2 p.1).bind fun e => (g d e).map fun z => (.nx, p.2.set i (some (.shr z)))
  | _ => none
theorem is_aug {ti : TIp} {gg : D → D → Option D} {i : Nat} (hr : OpD K ti gg) (h : IE K te fe) : IS K (tAug i te ti) (sAug gg i fe) := by
  intro F env σ H fl env' S e Dn k
  simp only [sAug, Option.bind_eq_some_iff] at e
  obtain ⟨⟨r, e1⟩, a1, s, a2, a3⟩ := e
  cases s with
  | own p m => simp at a3
  | shr d =>
    simp only [Option.bind_eq_some_iff, Option.map_eq_some_iff] at a3
    obtain ⟨e', a3, z, a4, a5⟩ := a3
    cases a5
    obtain ⟨x, q1, q2⟩ := S.shr i d (slOf_eq.mp a2)
    refine ⟨x, q1, h F T0 env σ H r e1 S a1 _ fun y H' S' st rv => ?_⟩
    refine hr (Ow F T0 e1 σ) H' x y d e' z (fun a h => S'.olive h) (q2.stp st).lv (rs_ok S' rv a3) a4 _ fun v H2 x2 r2 => ?_
    have S2 := S'.lay x2
    exact k _ H2 (S2.setS r2) ((st.trans (Stp.lay x2)).q.trans S2.setS_q)
theorem own_put {F : Frm} {T : Addr → Prop} {H : Hp} {env : En} {σ : L2.St} {i : Nat} {p : Bool} {m m' : Mu} {a : Addr} {o : HO} (S : StOk K F T H env σ) (g : env[i]? = some (some (Sl.own p m))) (e : σ[i]? = some (some (V.ref a)))
    (r : MuAt K (Ow F T env σ) (upd H a o) a m') : StOk K F T (upd H a o) (env.set i (some (.own p m'))) σ ∧ Stp env σ H (env.set i (some (.own p m'))) (upd H a o) := by
  have wa : Wr env σ a := ⟨i, p, m, g, e⟩
  have hs : ∀ b, Wr (env.set i (some (.own p m'))) σ b ↔ Wr env σ b := fun b => by
    constructor
    · rintro ⟨j, q, n, ej, sj⟩
      rcases set_get ej with ⟨rfl, hh⟩ | ⟨_, h⟩
      · rw [e] at sj; cases sj; exact wa
      · exact ⟨j, q, n, h, sj⟩
    · rintro ⟨j, q, n, ej, sj⟩
      by_cases hj : i = j
      · subst hj
        have hl := (List.getElem?_eq_some_iff.mp g).1
        exact ⟨i, p, m', by rw [List.getElem?_set_self hl], sj⟩
      · exact ⟨j, q, n, by rw [List.getElem?_set_ne hj]; exact ej, sj⟩
  have ow : ∀ b, Ow F T (env.set i (some (.own p m'))) σ b ↔ Ow F T env σ b := fun b => by unfold Ow; rw [hs b]
  have ext : Ext (Wr env σ) H (upd H a o) := ⟨fun b u q n => by
      rw [upd_ne (fun z => n (by subst z; exact wa))]; exact q, fun b q => by
      by_cases z : b = a
      · subst z; rw [upd_same]; simp
      · rw [upd_ne z]; exact q⟩
  have f : ∀ b u, H b = some u → ¬ Ow F T env σ b → ¬ Ow F T (env.set i (some (.own p m'))) σ b := fun b u _ n q => n ((ow b).mp q)
  have kk : ∀ b u, ¬ Ow F T env σ b → H b = some u → upd H a o b = some u := fun b u n q => ext.same b u q fun z => n (.inr (.inr z))
  refine ⟨⟨by rw [List.length_set]; exact S.len, ?_, ?_, ?_, ?_, S.dom, S.sub, fun b q => ext.live b (S.tdm b q), fun b q z => S.tno b q ((hs b).mp z)⟩, ext, fun b q => (hs b).mp q⟩
  · intro j d h
    rcases set_get h with ⟨rfl, hh⟩ | ⟨_, h⟩
    · cases hh
    · obtain ⟨v, e2, r⟩ := S.shr j d h; exact ⟨v, e2, r.tr f kk⟩
  · intro j q n h
    rcases set_get h with ⟨rfl, hh⟩ | ⟨hne, h⟩
    · cases hh
      obtain ⟨b, e2, _, c⟩ := S.own i _ _ g
      rw [e] at e2; cases e2
      exact ⟨a, e, r.tr (fun b _ _ n q => n ((ow b).mp q)) (fun _ _ _ e => e) (fun _ e => e), c⟩
    · obtain ⟨b, e2, r, c⟩ := S.own j q n h
      have hb : b ≠ a := fun z => by subst z; exact hne (S.dis i j _ _ _ _ _ g h e e2)
      exact ⟨b, e2, r.tr f kk (fun u q => by rw [upd_ne hb]; exact q), c⟩
  · intro j k q1 q2 n n2 b h1 h2 s1 s2
    have gg : ∀ j q n, (env.set i (some (Sl.own p m')))[j]? = some (some (Sl.own q n)) → ∃ q n, env[j]? = some (some (Sl.own q n)) := fun j q n h => by
      rcases set_get h with ⟨rfl, hh⟩ | ⟨_, h⟩
      · exact ⟨_, _, g⟩
      · exact ⟨_, _, h⟩
    obtain ⟨_, _, h1⟩ := gg _ _ _ h1
    obtain ⟨_, _, h2⟩ := gg _ _ _ h2
    exact S.dis j k _ _ _ _ b h1 h2 s1 s2
  · refine ⟨fun b u q n => ?_, fun b q => ext.live b (S.ext.live b q)⟩
    obtain ⟨b', e2, _, c⟩ := S.own i _ _ g
    rw [e] at e2; cases e2
    have hb : b ≠ a := by
      rintro rfl
      cases p with
      | true => exact n (by simpa using c.1)
      | false => simp at c; rw [c] at q; cases q
    rw [upd_ne hb]
    exact S.ext.same b u q n
def MtD (K : PySem.W.Frag) (Ty : String) (r : V → List V → Hp → VK → Prop) (g : Mu → List D → Option (Mu × D)) : Prop := ∀ (O : Addr → Prop) (H : Hp) a m vs ds m' z, O a → MuAt K O H a m → RpAll K O H vs ds → g m ds = some (m', z) →
  ∀ Q : VK, (∀ v o, MuAt K O (upd H a o) a m' → Rp K O (upd H a o) v z → Q v (upd H a o)) → r (.ref a) vs H Q
def tyM (Ty : String) : Mu → Bool
  | .l _ => Ty == "list"
  | .m _ => Ty == "dict"
  | .o .. => false
theorem tyM_ok {O : Addr → Prop} {H : Hp} {a : Addr} {m : Mu} {Ty : String} (h : tyM Ty m = true) (r : MuAt K O H a m) : tyV K Ty (.ref a) H := by
  cases m with
  | l ds => obtain ⟨xs, e, _⟩ := r; exact .inl ⟨by simpa [tyM] using h, xs, .inl (.inl e)⟩
  | m kvs => obtain ⟨es, e, _⟩ := r; exact .inr (.inr (.inl ⟨by simpa [tyM] using h, .inl ⟨es, e⟩⟩))
  | o _ _ _ _ => cases h
def ownOf (env : En) (i : Nat) : Option (Bool × Mu) := match slOf env i with
  | some (.own b m) => some (b, m)
  | _ => none
theorem ownOf_eq {env : En} {i : Nat} {b : Bool} {m : Mu} : ownOf env i = some (b, m) → env[i]? = some (some (Sl.own b m)) := by
  unfold ownOf
  intro h
  cases g : slOf env i with
  | none => simp [g] at h
  | some s =>
    cases s with
    | shr d => simp [g] at h
    | own p n =>
      simp [g] at h
      obtain ⟨rfl, rfl⟩ := h
      exact slOf_eq.mp g
def eMt (Ty : String) (g : Mu → List D → Option (Mu × D)) (i : Nat) (fl : EvA) : EvE := fun env => (ownOf env i).bind fun o => if tyM Ty o.2 = true then (eK fl env).bind fun p => (ownOf p.2 i).bind fun q => (g q.2 p.1).map fun z => (.val z.2, p.2.set i (some (.own q.1 z.1))) else none
theorem ie_mt {r : V → List V → Hp → VK → Prop} {g : Mu → List D → Option (Mu × D)} {Ty : String} {i : Nat} {tl : TA} {fl : EvA} (hr : MtD K Ty r g) (hl : IA K tl fl) : IE K (tBM K Ty r (tVar i) tl) (eMt Ty g i fl) := by
  intro F T env σ H r env' S e Q q
  simp only [eMt, Option.bind_eq_some_iff] at e
  obtain ⟨⟨b, m⟩, h1, h2⟩ := e
  split at h2
  · rename_i ht
    simp only [eK, Option.bind_eq_some_iff, Option.map_eq_some_iff] at h2
    obtain ⟨⟨ds, e1⟩, ⟨⟨l, e2⟩, h3, ds', h4, h5⟩, ⟨b2, m2⟩, h6, ⟨m3, z⟩, h7, h8⟩ := h2
    cases h5; cases h8
    have g1 := ownOf_eq h1
    obtain ⟨a, q1, q2, _⟩ := S.own i b m g1
    refine ⟨_, q1, tyM_ok ht q2, hl F T env σ H l _ S h3 _ fun vs H1 S1 st rv => ?_⟩
    have g2 := ownOf_eq h6
    obtain ⟨a', p1, p2, _⟩ := S1.own i b2 m2 g2
    rw [q1] at p1; cases p1
    refine hr (Ow F T _ σ) H1 a m2 vs ds m3 z (.inr (.inr ⟨i, _, _, g2, q1⟩)) p2 (rkA_ok S1 rv h4) h7 Q fun v o mu rz => ?_
    obtain ⟨S2, st2⟩ := own_put S1 g2 q1 mu
    exact q v _ S2 (st.trans st2) (rz.anti fun b hb => hb.imp id (.imp id (st2.wr b)))
  · cases h2
def StD (K : PySem.W.Frag) (ts : TSet) (g : Mu → D → D → Option Mu) : Prop := ∀ (O : Addr → Prop) (H : Hp) a m i d j e m', O a → MuAt K O H a m → Rp K O H i d → Rp K O H j e → g m d e = some m' →
  ∀ Q : Hp → Prop, (∀ o, MuAt K O (upd H a o) a m' → Q (upd H a o)) → ts (.ref a) i j H Q
def sPut (g : Mu → D → D → Option Mu) (i : Nat) (fk fe : EvE) : EvS := fun env => (fe env).bind fun p => (fk p.2).bind fun q => (rk q.2 p.1).bind fun d => (rk q.2 q.1).bind fun k => (ownOf p.2 i).bind fun o => (ownOf q.2 i).bind fun o => (g o.2 k d).map fun m => (.nx, q.2.set i (some (.own o.1 m)))
theorem is_put {ts : TSet} {gg : Mu → D → D → Option Mu} {i : Nat} {tk : TE} {fk : EvE} (hr : StD K ts gg) (hk : IE K tk fk) (he : IE K te fe) : IS K (tAsg te (gSub (tVar i) tk ts)) (sPut gg i fk fe) := by
  intro F env σ H fl env' S e Dn k
  simp only [sPut, Option.bind_eq_some_iff, Option.map_eq_some_iff] at e
  obtain ⟨⟨r, e1⟩, h1, ⟨r2, e2⟩, h2, d, h3, kk, h4, ⟨b0, m0⟩, h5, ⟨b, m⟩, h6, m', h7, h8⟩ := e
  cases h8
  refine he F T0 env σ H r e1 S h1 _ fun v H1 S1 s1 rv => ?_
  obtain ⟨a, q1, _, _⟩ := S1.own i b0 m0 (ownOf_eq h5)
  refine ⟨_, q1, hk F T0 e1 σ H1 r2 e2 S1 h2 _ fun w H2 S2 s2 rw2 => ?_⟩
  have g2 := ownOf_eq h6
  obtain ⟨a', p1, p2, _⟩ := S2.own i b m g2
  rw [q1] at p1; cases p1
  refine hr (Ow F T0 e2 σ) H2 a m w kk v d m' (.inr (.inr ⟨i, _, _, g2, q1⟩)) p2 (rk_ok S2 rw2 h4) (rk_ok S2 (rv.stp s2) h3) h7 _ fun o mu => ?_
  obtain ⟨S3, st3⟩ := own_put S2 g2 q1 mu
  exact k σ _ S3 ((s1.trans s2).trans st3).q
def IG (K : PySem.W.Frag) (js : List Nat) (g : TG) (f : D → En → Option En) : Prop := ∀ F T env σ H v d env', StOk K F T H env σ → Rp K (Ow F T env σ) H v d → f d env = some env' → ∀ Q : L2.St → Hp → Prop,
  (∀ σ', StOk K F T H env' σ' → Stq env σ H env' σ' H → σ'.length = σ.length → (∀ k, k ∉ js → σ'[k]? = σ[k]?) → (∀ k, k ∉ js → env'[k]? = env[k]?) → Q σ' H) → g v σ H Q
def gN (i : Nat) : D → En → Option En := fun d env => some (env.set i (some (.shr d)))
theorem ig_name {i : Nat} : IG K [i] (gName i) (gN i) := fun F T env σ H v d env' S r e Q q => by
  cases e
  exact q _ (S.setS r) S.setS_q (by simp) (fun k hk => by rw [List.getElem?_set_ne (fun z => hk (by simp [z]))]) (fun k hk => by rw [List.getElem?_set_ne (fun z => hk (by simp [z]))])
def JOk (K : PySem.W.Frag) (J : It) (items : List D) (O : Addr → Prop) (H : Hp) : Prop := ∀ (O' : Addr → Prop) (H2 : Hp), (∀ a o, H a = some o → ¬ O a → ¬ O' a) → (∀ a o, ¬ O a → H a = some o → H2 a = some o) → (∀ a, O' a → H2 a ≠ none) →
  (∀ i d, items[i]? = some d → J.go i H2 ∧ ∀ x H', J.yld i H2 x H' → Ext (fun _ => False) H2 H' ∧ Rp K O' H' x d) ∧ ∀ i, items.length ≤ i → J.stop i H2
abbrev EvW := En → Option (List D × En)
def IW (K : PySem.W.Frag) (wi : TI) (f : EvW) : Prop := ∀ F T env σ H items env', StOk K F T H env σ → f env = some (items, env') → ∀ Rr : It → Hp → Prop,
  (∀ J H', StOk K F T H' env' σ → Stp env σ H env' H' → JOk K J items (Ow F T env' σ) H' → Rr J H') → wi σ H Rr
def forE (g : D → En → Option En) (b : EvS) : List D → EvS
  | [], env => some (.nx, env)
  | x :: xs, env => (g x env).bind fun e1 => (b e1).bind fun p => match p.1 with
    | .nx => forE g b xs p.2
    | .ct => forE g b xs p.2
    | .bk => some (.nx, p.2)
    | .rt r => some (.rt r, p.2)
def sFor (fw : EvW) (g : D → En → Option En) (b : EvS) : EvS := fun env => (fw env).bind fun p => forE g b p.1 p.2
theorem is_for {wi : TI} {fw : EvW} {js : List Nat} {gg : TG} {ff : D → En → Option En} (hw : IW K wi fw) (hg : IG K js gg ff) (hb : IS K t f) : IS K (tFor wi gg t) (sFor fw ff f) := by
  intro F env σ H fl env' S e Dn k
  simp only [sFor, Option.bind_eq_some_iff] at e
  obtain ⟨⟨items, e1⟩, a1, a2⟩ := e
  refine hw F T0 env σ H items e1 S a1 _ fun J H1 S1 s1 jo => ?_
  have k1 := k.pre s1.q
  clear k s1 a1 S
  refine ⟨fun i m σ' H' => ∃ e', StOk K F T0 H' e' σ' ∧ Stq e1 σ H1 e' σ' H' ∧ m = items.length - i ∧ i ≤ items.length ∧ forE ff f (items.drop i) e' = some (fl, env'), ⟨_, e1, S1, Stq.refl, rfl, Nat.zero_le _, by simpa using a2⟩, ?_⟩
  rintro i m σ' H' ⟨e', S', st, rfl, hi, he⟩
  obtain ⟨j1, j2⟩ := jo (Ow F T0 e' σ') H' (fun a o q n z => by
      rcases z with z | z | z
      · exact n (.inl z)
      · exact z
      · rcases st.wr a z with z | z
        · exact n (.inr (.inr z))
        · rw [q] at z; cases z) (fun a o n q => st.ext.same a o q fun z => n (.inr (.inr z))) (fun a h => S'.olive h)
  by_cases hlt : i < items.length
  · have gi : items[i]? = some items[i] := List.getElem?_eq_getElem hlt
    obtain ⟨go, yl⟩ := j1 i _ gi
    rw [List.drop_eq_getElem_cons hlt] at he
    simp only [forE, Option.bind_eq_some_iff] at he
    obtain ⟨e2, b1, ⟨fl2, e3⟩, b2, b3⟩ := he
    refine .inr ⟨go, fun σ2 H2 => ∃ e', StOk K F T0 H2 e' σ2 ∧ Stq e1 σ H1 e' σ2 H2 ∧ i + 1 ≤ items.length ∧ forE ff f (items.drop (i + 1)) e' = some (fl, env'), ?_, ?_⟩
    · rintro σ2 H2 ⟨e', c1, c2, c3, c4⟩
      exact ⟨items.length - (i + 1), by omega, e', c1, c2, rfl, c3, c4⟩
    · intro x H2 hy
      obtain ⟨x2, rx⟩ := yl x H2 hy
      have S2 := S'.lay x2
      refine hg F T0 e' σ' H2 x _ e2 S2 rx b1 _ fun σ2 S3 q3 _ _ _ => ?_
      have q4 : Stq e1 σ H1 e2 σ2 H2 := (st.trans (Stp.lay x2).q).trans q3
      refine hb F e2 σ2 H2 fl2 e3 S3 b2 _ ?_
      cases fl2 with
      | nx => exact fun σ3 H3 S4 q5 => ⟨e3, S4, q4.trans q5, hlt, b3⟩
      | ct => exact fun σ3 H3 S4 q5 => ⟨e3, S4, q4.trans q5, hlt, b3⟩
      | bk => cases b3; exact fun σ3 H3 S4 q5 => k1 σ3 H3 S4 (q4.trans q5)
      | rt r => cases b3; exact k1
  · have ei : i = items.length := by omega
    subst ei
    rw [List.drop_length] at he
    cases he
    exact .inl ⟨j2 _ (Nat.le_refl _), k1 σ' H' S' st⟩
def whE (c : EvT) (b : EvS) : Nat → EvS
  | 0, _ => none
  | n + 1, env => (c env).bind fun p => if p.1 = true then (b p.2).bind fun q => match q.1 with
    | .nx => whE c b n q.2
    | .ct => whE c b n q.2
    | .bk => some (.nx, q.2)
    | .rt r => some (.rt r, q.2) else some (.nx, p.2)
theorem is_while {n : Nat} (hc : IT K c fc) (hb : IS K t f) : IS K (tWhile c t) (whE fc f n) := by
  intro F env σ H fl env' S e Dn k
  refine ⟨fun m σ' H' => ∃ e', StOk K F T0 H' e' σ' ∧ Stq env σ H e' σ' H' ∧ whE fc f m e' = some (fl, env'), ⟨n, env, S, Stq.refl, e⟩, ?_⟩
  rintro m σ' H' ⟨e', S', st, he⟩
  cases m with
  | zero => cases he
  | succ m =>
    simp only [whE, Option.bind_eq_some_iff] at he
    obtain ⟨⟨b, e1⟩, a1, a2⟩ := he
    refine hc F T0 e' σ' H' b e1 S' a1 _ fun H1 S1 s1 => ?_
    cases b with
    | false =>
      simp only [Bool.false_eq_true, if_false] at a2 ⊢
      cases a2
      exact k σ' H1 S1 (st.trans s1.q)
    | true =>
      simp only [if_true, Option.bind_eq_some_iff] at a2 ⊢
      obtain ⟨⟨fl2, e3⟩, b2, b3⟩ := a2
      refine ⟨fun σ2 H2 => ∃ e', StOk K F T0 H2 e' σ2 ∧ Stq env σ H e' σ2 H2 ∧ whE fc f m e' = some (fl, env'), fun σ2 H2 h => ⟨m, Nat.lt_succ_self m, h⟩, ?_⟩
      refine hb F e1 σ' H1 fl2 e3 S1 b2 _ ?_
      have q4 := st.trans s1.q
      cases fl2 with
      | nx => exact fun σ3 H3 S4 q5 => ⟨e3, S4, q4.trans q5, b3⟩
      | ct => exact fun σ3 H3 S4 q5 => ⟨e3, S4, q4.trans q5, b3⟩
      | bk => cases b3; exact fun σ3 H3 S4 q5 => k σ3 H3 S4 (q4.trans q5)
      | rt r => cases b3; exact k
end
end GD

namespace GD
open PySem PySem.Spec PyProof.Rows L2
def wipeE (env : En) : List Nat → En
  | [] => env
  | v :: vs => (wipeE env vs).set v none
theorem wipeE_len (env : En) : ∀ vs, (wipeE env vs).length = env.length
  | [] => rfl
  | v :: vs => by unfold wipeE; rw [List.length_set, wipeE_len env vs]
theorem wipeE_some {env : En} {i : Nat} {s : Sl} : ∀ {vs : List Nat}, (wipeE env vs)[i]? = some (some s) → env[i]? = some (some s) ∧ i ∉ vs
  | [], h => ⟨h, by simp⟩
  | v :: vs, h => by
    unfold wipeE at h
    rcases set_get h with ⟨_, h⟩ | ⟨hne, h⟩
    · cases h
    · obtain ⟨h1, h2⟩ := wipeE_some h
      exact ⟨h1, by simp only [List.mem_cons, not_or]; exact ⟨fun e => hne e.symm, h2⟩⟩
section
variable {K : PySem.W.Frag} {F : Frm} {T T' : Addr → Prop} {H H1 H2 H' : Hp} {env env1 env2 env' : En} {σ σ1 σ2 σ' : L2.St}
theorem StOk.re (S : StOk K F T H env σ) (hl : env'.length = σ'.length) (h : ∀ (i : Nat) (s : Sl), env'[i]? = some (some s) → env[i]? = some (some s) ∧ σ'[i]? = σ[i]?) : StOk K F T H env' σ' := by
  have wr : ∀ b, Wr env' σ' b → Wr env σ b := fun b ⟨i, p, m, e, q⟩ => let ⟨e1, e2⟩ := h i _ e; ⟨i, p, m, e1, by rw [← e2]; exact q⟩
  have ow : ∀ b, Ow F T env' σ' b → Ow F T env σ b := fun b q => q.imp id (.imp id (wr b))
  refine ⟨hl, ?_, ?_, ?_, S.ext, S.dom, S.sub, S.tdm, fun b q z => S.tno b q (wr b z)⟩
  · intro i d e
    obtain ⟨e1, e2⟩ := h i _ e
    obtain ⟨v, q, r⟩ := S.shr i d e1
    exact ⟨v, by rw [e2]; exact q, r.anti ow⟩
  · intro i p m e
    obtain ⟨e1, e2⟩ := h i _ e
    obtain ⟨b, q, r, c⟩ := S.own i p m e1
    exact ⟨b, by rw [e2]; exact q, r.tr (fun b _ _ n q => n (ow b q)) (fun _ _ _ e => e) (fun _ e => e), c⟩
  · intro i j p q m n a e1 e2 s1 s2
    obtain ⟨e1, f1⟩ := h i _ e1
    obtain ⟨e2, f2⟩ := h j _ e2
    rw [f1] at s1; rw [f2] at s2
    exact S.dis i j p q m n a e1 e2 s1 s2
theorem wr_re (h : ∀ (i : Nat) (s : Sl), env'[i]? = some (some s) → env[i]? = some (some s) ∧ σ'[i]? = σ[i]?) : ∀ b, Wr env' σ' b → Wr env σ b := fun b ⟨i, p, m, e, q⟩ => let ⟨e1, e2⟩ := h i _ e; ⟨i, p, m, e1, by rw [← e2]; exact q⟩
theorem StOk.updT {p : Addr} {o : HO} (S : StOk K F T H env σ) (tp : T p) (hp : F.H0 p = none) : StOk K F T (upd H p o) env σ := by
  have k : ∀ b u, ¬ Ow F T env σ b → H b = some u → upd H p o b = some u := fun b u n q => by
    rw [upd_ne (fun z => n (by subst z; exact .inr (.inl tp)))]; exact q
  have lv : ∀ a, H a ≠ none → upd H p o a ≠ none := fun a q => by
    by_cases z : a = p
    · subst z; rw [upd_same]; simp
    · rw [upd_ne z]; exact q
  refine ⟨S.len, ?_, ?_, S.dis, ⟨fun a u q n => ?_, fun a q => lv a (S.ext.live a q)⟩, S.dom, S.sub, fun a q => lv a (S.tdm a q), S.tno⟩
  · intro i d e
    obtain ⟨v, q, r⟩ := S.shr i d e
    exact ⟨v, q, r.tr (fun _ _ _ n => n) k⟩
  · intro i q m e
    obtain ⟨b, s, r, c⟩ := S.own i q m e
    have hb : b ≠ p := fun z => by subst z; exact S.tno b tp ⟨i, _, _, e, s⟩
    exact ⟨b, s, r.tr (fun _ _ _ n => n) k (fun u q => by rw [upd_ne hb]; exact q), c⟩
  · have hb : a ≠ p := fun z => by subst z; rw [hp] at q; cases q
    rw [upd_ne hb]
    exact S.ext.same a u q n
end
theorem wipe_eq {σ σ' : L2.St} {vs : List Nat} (hl : σ'.length = σ.length) (h : ∀ k, k ∉ vs → σ'[k]? = σ[k]?) : wipe σ' vs = wipe σ vs := by
  apply List.ext_getElem?
  intro i
  by_cases hi : i ∈ vs
  · have aux : ∀ {τ : L2.St} {vs : List Nat}, i ∈ vs → i < τ.length → (wipe τ vs)[i]? = some none := by
      intro τ vs
      induction vs with
      | nil => intro h; simp at h
      | cons v vs ih =>
        intro h hl
        unfold wipe
        by_cases e : v = i
        · subst e; rw [List.getElem?_set_self (by rw [wipe_length]; exact hl)]
        · rw [List.getElem?_set_ne e]
          exact ih (by simpa [Ne.symm e] using h) hl
    by_cases hlt : i < σ.length
    · rw [aux hi hlt, aux hi (by rw [hl]; exact hlt)]
    · rw [List.getElem?_eq_none (by rw [wipe_length, hl]; omega), List.getElem?_eq_none (by rw [wipe_length]; omega)]
  · rw [wipe_out hi, wipe_out hi, h i hi]
theorem wipe_wipe {σ : L2.St} {vs : List Nat} : wipe (wipe σ vs) vs = wipe σ vs := wipe_eq (wipe_length _ _) fun k hk => wipe_out hk
def compE (vs : List Nat) (g : D → En → Option En) (c : EvT) (e : EvE) : List D → List D → En → Option (List D × En)
  | [], acc, env => some (acc, env)
  | x :: xs, acc, env => (g x env).bind fun e1 => (c e1).bind fun p => if p.1 = true then
      (e p.2).bind fun q => (rk q.2 q.1).bind fun d => if small acc.length = true then compE vs g c e xs (acc ++ [d]) (wipeE q.2 vs) else none
    else compE vs g c e xs acc (wipeE p.2 vs)
def eComp (vs : List Nat) (fw : EvW) (g : D → En → Option En) (c : EvT) (e : EvE) : EvM := fun env => (fw env).bind fun p => (compE vs g c e p.1 [] (wipeE p.2 vs)).map fun q => (.l q.1, q.2)
section
variable {K : PySem.W.Frag} {te : TE} {fe : EvE} {tt : TT} {ft : EvT}
theorem im_comp {wi : TI} {fw : EvW} {js vs : List Nat} {gg : TG} {ff : D → En → Option En} (hw : IW K wi fw) (hg : IG K js gg ff) (ht : IT K tt ft) (he : IE K te fe) (hj : ∀ j ∈ js, j ∈ vs) :
    IM K (tLc wi gg tt te vs) (eComp vs fw ff ft fe) := by
  intro F T env σ H m env' S e Q k
  simp only [eComp, Option.bind_eq_some_iff, Option.map_eq_some_iff] at e
  obtain ⟨⟨items, e1⟩, a1, ⟨ds, e2⟩, a2, a3⟩ := e
  obtain ⟨rfl, hee⟩ : m = .l ds ∧ e2 = env' := by cases a3; exact ⟨rfl, rfl⟩
  subst hee
  clear a3
  refine hw F T env σ H items e1 S a1 _ fun J H1 S1 s1 jo p np => ?_
  have np0 : H p = none := by
    cases h : H p with
    | none => rfl
    | some o => exact absurd np (s1.ext.live p (by rw [h]; simp))
  have nF : F.H0 p = none := S1.fresh0 np
  -- the state of the walk
  refine ⟨fun i mm H3 => ∃ e' acc dacc, StOk K F (fun a => T a ∨ a = p) H3 e' (wipe σ vs) ∧ (∀ (j : Nat) (s : Sl), e'[j]? = some (some s) → j ∉ vs) ∧ Ext (Wr e1 σ) H1 H3 ∧ (∀ a, Wr e' (wipe σ vs) a → Wr e1 σ a) ∧
      H3 p = some (.lst acc) ∧ RpAll K (Ow F (fun a => T a ∨ a = p) e' (wipe σ vs)) H3 acc dacc ∧ mm = items.length - i ∧ i ≤ items.length ∧ compE vs ff ft fe (items.drop i) dacc e' = some (ds, e2), ?_, ?_⟩
  · have S2 : StOk K F (fun a => T a ∨ a = p) (upd H1 p (.lst [])) e1 σ := S1.new np
    have hre : ∀ (i : Nat) (s : Sl), (wipeE e1 vs)[i]? = some (some s) → e1[i]? = some (some s) ∧ (wipe σ vs)[i]? = σ[i]? := fun i s h => ⟨(wipeE_some h).1, wipe_out (wipeE_some h).2⟩
    exact ⟨_, wipeE e1 vs, [], [], S2.re (by rw [wipeE_len, wipe_length]; exact S1.len) hre, fun j s h => (wipeE_some h).2, Ext.new np, wr_re hre, upd_same, .nil, rfl, Nat.zero_le _, by simpa using a2⟩
  · rintro i mm H3 ⟨e', acc, dacc, S', hw', x', wr', hp', ra', rfl, hi, hc⟩
    have hdis : ∀ a, Wr e' (wipe σ vs) a → a ≠ p := fun a h z => by subst z; exact S'.tno a (.inr rfl) h
    obtain ⟨j1, j2⟩ := jo (Ow F (fun a => T a ∨ a = p) e' (wipe σ vs)) H3 (fun a o q n z => by
        rcases z with z | (z | z) | z
        · exact n (.inl z)
        · exact n (.inr (.inl z))
        · subst z; rw [np] at q; cases q
        · exact n (.inr (.inr (wr' a z)))) (fun a o n q => x'.same a o q fun z => n (.inr (.inr z))) (fun a h => S'.olive h)
    by_cases hlt : i < items.length
    · have gi : items[i]? = some items[i] := List.getElem?_eq_getElem hlt
      obtain ⟨go, yl⟩ := j1 i _ gi
      rw [List.drop_eq_getElem_cons hlt] at hc
      simp only [compE, Option.bind_eq_some_iff] at hc
      obtain ⟨e3, b1, ⟨b, e4⟩, b2, b3⟩ := hc
      refine .inr ⟨go, fun H5 => ∃ e' acc dacc, StOk K F (fun a => T a ∨ a = p) H5 e' (wipe σ vs) ∧ (∀ (j : Nat) (s : Sl), e'[j]? = some (some s) → j ∉ vs) ∧ Ext (Wr e1 σ) H1 H5 ∧ (∀ a, Wr e' (wipe σ vs) a → Wr e1 σ a) ∧
        H5 p = some (.lst acc) ∧ RpAll K (Ow F (fun a => T a ∨ a = p) e' (wipe σ vs)) H5 acc dacc ∧ i + 1 ≤ items.length ∧ compE vs ff ft fe (items.drop (i + 1)) dacc e' = some (ds, e2), ?_, ?_⟩
      · rintro H5 ⟨e', acc, dacc, c1, c2, c3, c4, c5, c6, c7, c8⟩
        exact ⟨items.length - (i + 1), by omega, e', acc, dacc, c1, c2, c3, c4, c5, c6, rfl, c7, c8⟩
      intro x H4 hy
      obtain ⟨x2, rx⟩ := yl x H4 hy
      have S4 := S'.lay x2
      refine hg F _ e' (wipe σ vs) H4 x _ e3 S4 rx b1 _ fun σ5 S5 q5 l5 k5 n5 => ?_
      have hk5 : ∀ k, k ∉ vs → σ5[k]? = (wipe σ vs)[k]? := fun k hk => k5 k fun z => hk (hj k z)
      have wq : wipe σ5 vs = wipe σ vs := (wipe_eq l5 hk5).trans wipe_wipe
      have x4 : Ext (Wr e1 σ) H1 H4 := x'.trans x2 fun _ q => q.elim
      have w5 : ∀ a, Wr e3 σ5 a → Wr e1 σ a ∨ H4 a = none := fun a h => (q5.wr a h).imp (wr' a) id
      have w5' : ∀ a, Wr e3 σ5 a → Wr e1 σ a := fun a h => (w5 a h).elim id fun z => absurd z (S5.wlive h)
      refine ⟨wq, ht F _ e3 σ5 H4 b e4 S5 b2 _ fun H6 S6 s6 => ?_⟩
      have ra6 : RpAll K (Ow F (fun a => T a ∨ a = p) e4 σ5) H6 acc dacc := (ra'.stq ((Stp.lay x2).q.trans q5)).stp s6
      have hp4 : H4 p = some (.lst acc) := x2.same p _ hp' id
      have hp6 : H6 p = some (.lst acc) := s6.ext.same p _ hp4 (S5.tno p (.inr rfl))
      have x6 : Ext (Wr e1 σ) H1 H6 := x4.trans s6.ext fun a q => .inl (w5' a q)
      -- back to the block's start
      have back : ∀ {e7 : En} {H7 : Hp} {acc7 : List V} {d7 : List D}, StOk K F (fun a => T a ∨ a = p) H7 e7 σ5 → (∀ a, Wr e7 σ5 a → Wr e1 σ a) → Ext (Wr e1 σ) H1 H7 → H7 p = some (.lst acc7) →
          RpAll K (Ow F (fun a => T a ∨ a = p) e7 σ5) H7 acc7 d7 → compE vs ff ft fe (items.drop (i + 1)) d7 (wipeE e7 vs) = some (ds, e2) →
          ∃ e' acc dacc, StOk K F (fun a => T a ∨ a = p) H7 e' (wipe σ vs) ∧ (∀ (j : Nat) (s : Sl), e'[j]? = some (some s) → j ∉ vs) ∧ Ext (Wr e1 σ) H1 H7 ∧ (∀ a, Wr e' (wipe σ vs) a → Wr e1 σ a) ∧
            H7 p = some (.lst acc) ∧ RpAll K (Ow F (fun a => T a ∨ a = p) e' (wipe σ vs)) H7 acc dacc ∧ i + 1 ≤ items.length ∧ compE vs ff ft fe (items.drop (i + 1)) dacc e' = some (ds, e2) := by
        intro e7 H7 acc7 d7 S7 w7 x7 hp7 ra7 c7
        have hre : ∀ (i : Nat) (s : Sl), (wipeE e7 vs)[i]? = some (some s) → e7[i]? = some (some s) ∧ (wipe σ vs)[i]? = σ5[i]? := fun i s h => ⟨(wipeE_some h).1, (hk5 i (wipeE_some h).2).symm⟩
        have wre := wr_re hre
        exact ⟨wipeE e7 vs, acc7, d7, S7.re (by rw [wipeE_len, wipe_length, S7.len, l5, wipe_length]) hre, fun j s h => (wipeE_some h).2, x7, fun a h => w7 a (wre a h), hp7,
          ra7.anti (fun a h => h.imp id (.imp id (wre a))), hlt, c7⟩
      cases b with
      | false =>
        simp only [Bool.false_eq_true, if_false] at b3 ⊢
        exact back S6 (fun a h => w5' a (s6.wr a h)) x6 hp6 ra6 b3
      | true =>
        simp only [if_true, Option.bind_eq_some_iff] at b3 ⊢
        obtain ⟨⟨r, e7⟩, b4, d, b5, b6⟩ := b3
        split at b6
        · rename_i hs
          refine he F _ e4 σ5 H6 r e7 S6 b4 _ fun y H7 S7 s7 ry => ?_
          have hp7 : H7 p = some (.lst acc) := s7.ext.same p _ hp6 (S6.tno p (.inr rfl))
          have ra7 := ra6.stp s7
          have ry7 := rk_ok S7 ry b5
          refine ⟨acc, hp7, by rw [ra7.length]; exact small_lt hs, ?_⟩
          have x7 : Ext (Wr e1 σ) H1 H7 := x6.trans s7.ext fun a q => .inl (w5' a (s6.wr a q))
          have x8 : Ext (Wr e1 σ) H1 (upd H7 p (.lst (acc ++ [y]))) := ⟨fun a u q n => by
              rw [upd_ne (ne_of_none q np)]; exact x7.same a u q n, fun a q => by
              by_cases z : a = p
              · subst z; rw [upd_same]; simp
              · rw [upd_ne z]; exact x7.live a q⟩
          have S8 : StOk K F (fun a => T a ∨ a = p) (upd H7 p (.lst (acc ++ [y]))) e7 σ5 := S7.updT (.inr rfl) nF
          have ra8 : RpAll K (Ow F (fun a => T a ∨ a = p) e7 σ5) (upd H7 p (.lst (acc ++ [y]))) (acc ++ [y]) (dacc ++ [d]) := (ra7.append (.one ry7)).tr (fun _ _ _ n => n) fun a u n q => by
            rw [upd_ne (fun z => n (by subst z; exact .inr (.inl (.inr rfl))))]; exact q
          exact back S8 (fun a h => w5' a (s6.wr a (s7.wr a h))) x8 upd_same ra8 b6
        · cases b6
    · have ei : i = items.length := by omega
      subst ei
      rw [List.drop_length] at hc
      cases hc
      refine .inl ⟨j2 _ (Nat.le_refl _), ?_⟩
      have hre : ∀ (i : Nat) (s : Sl), e2[i]? = some (some s) → e2[i]? = some (some s) ∧ σ[i]? = (wipe σ vs)[i]? := fun i s h => ⟨h, (wipe_out (hw' i s h)).symm⟩
      have hre2 : ∀ (i : Nat) (s : Sl), e2[i]? = some (some s) → e2[i]? = some (some s) ∧ (wipe σ vs)[i]? = σ[i]? := fun i s h => ⟨h, (wipe_out (hw' i s h))⟩
      have S9 : StOk K F (fun a => T a ∨ a = p) H3 e2 σ := S'.re (by rw [S'.len, wipe_length]) hre
      refine k p H3 np0 S9 (s1.trans ⟨x', fun a h => wr' a (wr_re hre a h)⟩) ⟨acc, hp', ra'.anti fun a h => h.imp id (.imp id (wr_re hre a))⟩
end
end GD

namespace GD
open PySem PySem.Spec PyProof.Rows L2
def ArgOk (K : PySem.W.Frag) (O : Addr → Prop) (H : Hp) (v : V) : Sl → Prop
  | .shr d => Rp K O H v d
  | .own p m => p = true ∧ ∃ a, v = .ref a ∧ O a ∧ MuAt K O H a m
def ArgsOk (K : PySem.W.Frag) (O : Addr → Prop) (H : Hp) : List V → List Sl → Prop
  | [], [] => True
  | v :: vs, s :: ss => ArgOk K O H v s ∧ ArgsOk K O H vs ss
  | _, _ => False
theorem ArgsOk.length {K : PySem.W.Frag} {O : Addr → Prop} {H : Hp} : ∀ {vs : List V} {ss : List Sl}, ArgsOk K O H vs ss → vs.length = ss.length
  | [], [], _ => rfl
  | _ :: _, _ :: _, h => congrArg (· + 1) (ArgsOk.length h.2)
  | [], _ :: _, h => h.elim
  | _ :: _, [], h => h.elim
theorem ArgsOk.get {K : PySem.W.Frag} {O : Addr → Prop} {H : Hp} : ∀ {vs : List V} {ss : List Sl} {i : Nat} {s : Sl}, ArgsOk K O H vs ss → ss[i]? = some s → ∃ v, vs[i]? = some v ∧ ArgOk K O H v s
  | [], [], _, _, _, e => by simp at e
  | v :: _, _ :: _, 0, _, h, e => by simp at e; subst e; exact ⟨v, rfl, h.1⟩
  | _ :: _, _ :: _, i + 1, _, h, e => by
    obtain ⟨v, h1, h2⟩ := ArgsOk.get (i := i) h.2 (by simpa using e)
    exact ⟨v, by simpa using h1, h2⟩
  | [], _ :: _, _, _, h, _ => h.elim
  | _ :: _, [], _, _, h, _ => h.elim
def AW (vs : List V) (ss : List Sl) (a : Addr) : Prop := ∃ (i : Nat) (m : Mu), ss[i]? = some (Sl.own true m) ∧ vs[i]? = some (V.ref a)
def outsE : List Sl → En → Option (List (Option Mu))
  | [], _ => some []
  | .shr _ :: ss, _ :: e => (outsE ss e).map fun l => none :: l
  | .own _ _ :: ss, some (.own true m) :: e => (outsE ss e).map fun l => some m :: l
  | _, _ => none
theorem outsE_get : ∀ {ss : List Sl} {e : En} {outs : List (Option Mu)}, outsE ss e = some outs → (∀ (i : Nat) (m : Mu), outs[i]? = some (some m) → e[i]? = some (some (Sl.own true m))) ∧ (∀ (i : Nat) (p : Bool) (m : Mu), ss[i]? = some (Sl.own p m) → ∃ m', outs[i]? = some (some m'))
  | [], e, outs, h => by simp [outsE] at h; subst h; exact ⟨fun i m h => by simp at h, fun i p m h => by simp at h⟩
  | .shr d :: ss, x :: e, outs, h => by
    simp only [outsE, Option.map_eq_some_iff] at h
    obtain ⟨l, h, rfl⟩ := h
    obtain ⟨h1, h2⟩ := outsE_get h
    exact ⟨fun i m h => by cases i with
      | zero => simp at h
      | succ i => simpa using h1 i m (by simpa using h), fun i p m h => by cases i with
      | zero => simp at h
      | succ i => simpa using h2 i p m (by simpa using h)⟩
  | .own q n :: ss, some (.own true m) :: e, outs, h => by
    simp only [outsE, Option.map_eq_some_iff] at h
    obtain ⟨l, h, rfl⟩ := h
    obtain ⟨h1, h2⟩ := outsE_get h
    exact ⟨fun i m h => by cases i with
      | zero => simp at h; subst h; rfl
      | succ i => simpa using h1 i m (by simpa using h), fun i p m h => by cases i with
      | zero => exact ⟨_, rfl⟩
      | succ i => simpa using h2 i p m (by simpa using h)⟩
  | .shr _ :: _, [], _, h => by simp [outsE] at h
  | .own _ _ :: _, [], _, h => by simp [outsE] at h
  | .own _ _ :: _, none :: _, _, h => by simp [outsE] at h
  | .own _ _ :: _, some (.shr _) :: _, _, h => by simp [outsE] at h
  | .own _ _ :: _, some (.own false _) :: _, _, h => by simp [outsE] at h
abbrev FnS := List Sl → Option (Ret × List (Option Mu))
def env0 (n : Nat) (ss : List Sl) : En := ss.map some ++ List.replicate (n - ss.length) none
def runB (n : Nat) (b : EvS) : FnS := fun ss => (b (env0 n ss)).bind fun p => match p.1 with
  | .rt r => (outsE ss p.2).map fun o => (r, o)
  | .nx => (outsE ss p.2).map fun o => (.val .none, o)
  | _ => none
def OutsOk (K : PySem.W.Frag) (O : Addr → Prop) (H' : Hp) (vs : List V) (outs : List (Option Mu)) : Prop := ∀ (i : Nat) (m : Mu), outs[i]? = some (some m) → ∃ a, vs[i]? = some (V.ref a) ∧ MuAt K O H' a m
def CEnd (K : PySem.W.Frag) (O : Addr → Prop) (H H' : Hp) (vs : List V) (outs : List (Option Mu)) (v : V) : Ret → Prop
  | .val d => Rp K O H' v d ∧ OutsOk K O H' vs outs
  | .new m => ∃ p, v = .ref p ∧ H p = none ∧ MuAt K (fun a => O a ∨ a = p) H' p m ∧ OutsOk K (fun a => O a ∨ a = p) H' vs outs
def Dis (vs : List V) (ss : List Sl) : Prop := ∀ (i j : Nat) (m n : Mu) (a : Addr), ss[i]? = some (Sl.own true m) → ss[j]? = some (Sl.own true n) → vs[i]? = some (V.ref a) → vs[j]? = some (V.ref a) → i = j
def spD (K : PySem.W.Frag) (k : Nat) (M : FnS) : Sp := fun vs H Q _ => ∃ (O : Addr → Prop) (ss : List Sl) (r : Ret) (outs : List (Option Mu)), vs.length = k ∧ (∀ a, O a → H a ≠ none) ∧ ArgsOk K O H vs ss ∧ Dis vs ss ∧ M ss = some (r, outs) ∧
  (∀ (i : Nat) (p : Bool) (m : Mu), ss[i]? = some (Sl.own p m) → ∃ m', outs[i]? = some (some m')) ∧
  ∀ v H', Ext (AW vs ss) H H' → CEnd K O H H' vs outs v r → Q v H'
section
variable {K : PySem.W.Frag}
theorem env0_get {n : Nat} {ss : List Sl} {i : Nat} {s : Sl} (h : (env0 n ss)[i]? = some (some s)) : ss[i]? = some s := by
  unfold env0 at h
  by_cases hi : i < ss.length
  · rw [List.getElem?_append_left (by simpa using hi), List.getElem?_map] at h
    cases e : ss[i]? with
    | none => rw [e] at h; cases h
    | some x => rw [e] at h; cases h; rfl
  · rw [List.getElem?_append_right (by simpa using Nat.le_of_not_lt hi), List.getElem?_replicate] at h
    split at h <;> cases h
theorem start_get {N : List Str} {vs : List V} {i : Nat} {v : V} (h : vs[i]? = some v) : (L2.start N vs)[i]? = some (some v) := by
  unfold L2.start
  have hi := (List.getElem?_eq_some_iff.mp h).1
  rw [List.getElem?_append_left (by simpa using hi), List.getElem?_map, h]
  rfl
theorem body_ok {t : TS} {b : EvS} {N : List Str} {vs : List V} {H : Hp} {Q : VK} {k : Nat} (hb : IS K t b) (hk : k ≤ N.length) (h : ∃ (O : Addr → Prop) (ss : List Sl) (r : Ret) (outs : List (Option Mu)), vs.length = k ∧ (∀ a, O a → H a ≠ none) ∧ ArgsOk K O H vs ss ∧ Dis vs ss ∧ runB N.length b ss = some (r, outs) ∧
      (∀ (i : Nat) (p : Bool) (m : Mu), ss[i]? = some (Sl.own p m) → ∃ m', outs[i]? = some (some m')) ∧ ∀ v H', Ext (AW vs ss) H H' → CEnd K O H H' vs outs v r → Q v H') :
    t { nx := fun _ H' => Q .non H', rt := Q } (L2.start N vs) H := by
  obtain ⟨O, ss, r, outs, hlen, hO, ha, hd, hm, ho, q⟩ := h
  simp only [runB, Option.bind_eq_some_iff] at hm
  obtain ⟨⟨fl, env'⟩, h1, h2⟩ := hm
  have hss := ha.length
  let F : Frm := ⟨O, AW vs ss, H, vs⟩
  have wr0 : ∀ a, Wr (env0 N.length ss) (L2.start N vs) a → AW vs ss a ∧ O a := by
    rintro a ⟨i, p, m, e, s⟩
    have e' := env0_get e
    obtain ⟨v, hv, rfl, b, rfl, hb, _⟩ := ha.get e'
    rw [start_get hv] at s; cases s
    exact ⟨⟨i, m, e', hv⟩, hb⟩
  have S0 : StOk K F T0 H (env0 N.length ss) (L2.start N vs) := by
    refine ⟨?_, ?_, ?_, ?_, Ext.refl, hO, ?_, fun a h => h.elim, fun a h => h.elim⟩
    · simp [env0, L2.start, hss]
    · intro i d e
      obtain ⟨v, hv, r⟩ := ha.get (env0_get e)
      exact ⟨v, start_get hv, Rp.anti (fun a h => h.elim id fun h => h.elim (fun z => z.elim) fun z => (wr0 a z).2) r⟩
    · intro i p m e
      have e' := env0_get e
      obtain ⟨v, hv, rfl, b, rfl, hb, mu⟩ := ha.get e'
      exact ⟨b, start_get hv, mu.tr (fun a _ _ n h => n (h.elim id fun h => h.elim (fun z => z.elim) fun z => (wr0 a z).2)) (fun _ _ _ e => e) (fun _ e => e), by simp only [if_true]; exact ⟨⟨i, m, e', hv⟩, hv⟩⟩
    · intro i j p q m n a e1 e2 s1 s2
      have f1 := env0_get e1
      have f2 := env0_get e2
      obtain ⟨v1, hv1, rfl, b1, rfl, _⟩ := ha.get f1
      obtain ⟨v2, hv2, rfl, b2, rfl, _⟩ := ha.get f2
      rw [start_get hv1] at s1; cases s1
      rw [start_get hv2] at s2; cases s2
      exact hd i j m n _ f1 f2 hv1 hv2
    · rintro a ⟨i, m, e, hv⟩
      obtain ⟨v, hv', _, b, rfl, hb, _⟩ := ha.get e
      rw [hv] at hv'; cases hv'
      exact hb
  -- the ends
  have fin : ∀ (r' : Ret) (o' : List (Option Mu)) (e' : En), outsE ss e' = some o' → ∀ v σ' H', RetOk K F H' v e' σ' r' → Ext (AW vs ss) H H' ∧ CEnd K O H H' vs o' v r' := by
    intro r' o' e' ho' v σ' H' hr
    have ex : ∀ {T'}, StOk K F T' H' e' σ' → Ext (AW vs ss) H H' := fun S => S.ext
    have outs' : ∀ {T'} (O' : Addr → Prop), StOk K F T' H' e' σ' → (∀ a, O' a → Ow F T' e' σ' a) → OutsOk K O' H' vs o' := by
      intro T' O' S hO' i m hm
      obtain ⟨a, s, mu, c⟩ := S.own i true m ((outsE_get ho').1 i m hm)
      exact ⟨a, by simpa using c.2, mu.tr (fun b _ _ n h => n (hO' b h)) (fun _ _ _ e => e) (fun _ e => e)⟩
    cases r' with
    | val d =>
      obtain ⟨S, r⟩ := hr
      exact ⟨ex S, r.anti fun a h => .inl h, outs' O S fun a h => .inl h⟩
    | new m =>
      obtain ⟨p, T', rfl, np, S, op, mu⟩ := hr
      have sub : ∀ a, (O a ∨ a = p) → Ow F T' e' σ' a := fun a h => h.elim .inl fun h => by subst h; exact op
      exact ⟨ex S, p, rfl, np, mu.tr (fun b _ _ n h => n (sub b h)) (fun _ _ _ e => e) (fun _ e => e), outs' _ S sub⟩
  refine hb F (env0 N.length ss) (L2.start N vs) H fl env' S0 h1 _ ?_
  cases fl with
  | nx =>
    simp only [Option.map_eq_some_iff, Prod.mk.injEq] at h2
    obtain ⟨o, h3, rfl, rfl⟩ := h2
    intro σ' H' S' _
    obtain ⟨x, c⟩ := fin (.val .none) o env' h3 .non σ' H' ⟨S', .non⟩
    exact q _ _ x c
  | rt r' =>
    simp only [Option.map_eq_some_iff, Prod.mk.injEq] at h2
    obtain ⟨o, h3, rfl, rfl⟩ := h2
    intro v σ' H' hr
    obtain ⟨x, c⟩ := fin r' o env' h3 v σ' H' hr
    exact q _ _ x c
  | bk => cases h2
  | ct => cases h2
end
def slArgs (env : En) : List R → Option (List Sl)
  | [] => some []
  | .val d :: l => (slArgs env l).map fun s => .shr d :: s
  | .slot i :: l => (slOf env i).bind fun s => (slArgs env l).map fun r => (match s with | .own _ m => .own true m | .shr d => .shr d) :: r
def ownSlots (env : En) : List R → List Nat
  | [] => []
  | .slot i :: l => if (ownOf env i).isSome then i :: ownSlots env l else ownSlots env l
  | .val _ :: l => ownSlots env l
def updO : En → List R → List (Option Mu) → En
  | env, .slot i :: l, some m :: os => updO (match slOf env i with | some (.own p _) => env.set i (some (.own p m)) | _ => env) l os
  | env, _ :: l, _ :: os => updO env l os
  | env, _, _ => env
section
variable {K : PySem.W.Frag} {F : Frm} {T : Addr → Prop} {H H' : Hp} {env env' : En} {σ : L2.St}
theorem updO_len : ∀ {l : List R} {os : List (Option Mu)} {env : En}, (updO env l os).length = env.length
  | .slot i :: l, some m :: os, env => by
    unfold updO
    rw [updO_len]
    split <;> simp
  | .slot i :: l, none :: os, env => by unfold updO; exact updO_len
  | .val _ :: l, _ :: os, env => by unfold updO; exact updO_len
  | [], _, env => by unfold updO; rfl
  | r :: _, [], env => by cases r <;> simp [updO]
theorem updO_get : ∀ {l : List R} {os : List (Option Mu)} {env : En} {j : Nat} {s : Sl}, (updO env l os)[j]? = some (some s) →
    (env[j]? = some (some s) ∧ ∀ (k : Nat) (m : Mu), l[k]? = some (R.slot j) → os[k]? = some (some m) → ∃ d, s = .shr d) ∨ (∃ (p : Bool) (m m' : Mu) (k : Nat), env[j]? = some (some (Sl.own p m)) ∧ s = .own p m' ∧ l[k]? = some (R.slot j) ∧ os[k]? = some (some m'))
  | .slot i :: l, some m :: os, env, j, s, h => by
    unfold updO at h
    rcases updO_get h with ⟨h1, h2⟩ | ⟨p, n, n', k, h1, h2, h3, h4⟩
    · cases g : slOf env i with
      | none =>
        simp only [g] at h1
        refine .inl ⟨h1, fun k m' a b => ?_⟩
        cases k with
        | zero =>
          simp at a; subst a
          have := slOf_eq.mpr h1
          rw [g] at this; cases this
        | succ k => exact h2 k m' (by simpa using a) (by simpa using b)
      | some s' =>
        cases s' with
        | shr d =>
          simp only [g] at h1
          refine .inl ⟨h1, fun k m' a b => ?_⟩
          cases k with
          | zero =>
            simp at a; subst a
            have := slOf_eq.mpr h1
            rw [g] at this; cases this
            exact ⟨d, rfl⟩
          | succ k => exact h2 k m' (by simpa using a) (by simpa using b)
        | own p n =>
          simp only [g] at h1
          rcases set_get h1 with ⟨rfl, hh⟩ | ⟨hne, h1⟩
          · cases hh
            exact .inr ⟨p, n, m, 0, slOf_eq.mp g, rfl, rfl, rfl⟩
          · refine .inl ⟨h1, fun k m' a b => ?_⟩
            cases k with
            | zero => simp at a; exact absurd a hne
            | succ k => exact h2 k m' (by simpa using a) (by simpa using b)
    · have h1' : ∃ n, env[j]? = some (some (Sl.own p n)) := by
        cases g : slOf env i with
        | none => simp only [g] at h1; exact ⟨_, h1⟩
        | some s' =>
          cases s' with
          | shr d => simp only [g] at h1; exact ⟨_, h1⟩
          | own q n2 =>
            simp only [g] at h1
            rcases set_get h1 with ⟨rfl, hh⟩ | ⟨hne, h1⟩
            · cases hh; exact ⟨_, slOf_eq.mp g⟩
            · exact ⟨_, h1⟩
      obtain ⟨n2, h1'⟩ := h1'
      exact .inr ⟨p, n2, n', k + 1, h1', h2, by simpa using h3, by simpa using h4⟩
  | .slot i :: l, none :: os, env, j, s, h => by
    unfold updO at h
    rcases updO_get h with ⟨h1, h2⟩ | ⟨p, n, n', k, h1, h2, h3, h4⟩
    · refine .inl ⟨h1, fun k m' a b => ?_⟩
      cases k with
      | zero => simp at b
      | succ k => exact h2 k m' (by simpa using a) (by simpa using b)
    · exact .inr ⟨p, n, n', k + 1, h1, h2, by simpa using h3, by simpa using h4⟩
  | .val d :: l, o :: os, env, j, s, h => by
    unfold updO at h
    rcases updO_get h with ⟨h1, h2⟩ | ⟨p, n, n', k, h1, h2, h3, h4⟩
    · refine .inl ⟨h1, fun k m' a b => ?_⟩
      cases k with
      | zero => simp at a
      | succ k => exact h2 k m' (by simpa using a) (by simpa using b)
    · exact .inr ⟨p, n, n', k + 1, h1, h2, by simpa using h3, by simpa using h4⟩
  | [], _, env, j, s, h => by unfold updO at h; exact .inl ⟨h, fun k m' a b => by simp at a⟩
  | r :: _, [], env, j, s, h => by cases r <;> (simp only [updO] at h; exact .inl ⟨h, fun k m' a b => by simp at b⟩)
theorem RvAll.get : ∀ {vs : List V} {l : List R} {k : Nat} {r : R}, RvAll K F T H env σ vs l → l[k]? = some r → ∃ v, vs[k]? = some v ∧ RvOk K F T H env σ v r
  | [], [], _, _, _, e => by simp at e
  | v :: _, _ :: _, 0, _, h, e => by simp at e; subst e; exact ⟨v, rfl, h.1⟩
  | _ :: _, _ :: _, i + 1, _, h, e => by
    obtain ⟨v, h1, h2⟩ := RvAll.get (k := i) h.2 (by simpa using e)
    exact ⟨v, by simpa using h1, h2⟩
  | [], _ :: _, _, _, h, _ => h.elim
  | _ :: _, [], _, _, h, _ => h.elim
theorem slArgs_get : ∀ {l : List R} {ss : List Sl}, slArgs env l = some ss → ss.length = l.length ∧ ∀ (k : Nat) (s : Sl), ss[k]? = some s → (∃ d, l[k]? = some (R.val d) ∧ s = .shr d) ∨ (∃ (i : Nat) (p : Bool) (m : Mu), l[k]? = some (R.slot i) ∧ env[i]? = some (some (Sl.own p m)) ∧ s = .own true m) ∨ (∃ (i : Nat) (d : D), l[k]? = some (R.slot i) ∧ env[i]? = some (some (Sl.shr d)) ∧ s = .shr d)
  | [], ss, h => by simp [slArgs] at h; subst h; exact ⟨rfl, fun k s h => by simp at h⟩
  | .val d :: l, ss, h => by
    simp only [slArgs, Option.map_eq_some_iff] at h
    obtain ⟨r, h, rfl⟩ := h
    obtain ⟨h1, h2⟩ := slArgs_get h
    refine ⟨by simp [h1], fun k s hk => ?_⟩
    cases k with
    | zero => simp at hk; exact .inl ⟨d, rfl, hk.symm⟩
    | succ k => simpa using h2 k s (by simpa using hk)
  | .slot i :: l, ss, h => by
    simp only [slArgs, Option.bind_eq_some_iff, Option.map_eq_some_iff] at h
    obtain ⟨s0, h0, r, h, rfl⟩ := h
    obtain ⟨h1, h2⟩ := slArgs_get h
    refine ⟨by simp [h1], fun k s hk => ?_⟩
    cases k with
    | zero =>
      have g := slOf_eq.mp h0
      cases s0 with
      | own p m => simp at hk; exact .inr (.inl ⟨i, p, m, rfl, g, hk.symm⟩)
      | shr d => simp at hk; exact .inr (.inr ⟨i, d, rfl, g, hk.symm⟩)
    | succ k => simpa using h2 k s (by simpa using hk)
theorem slArgs_ok (S : StOk K F T H env σ) : ∀ {vs : List V} {l : List R} {ss : List Sl}, RvAll K F T H env σ vs l → slArgs env l = some ss → ArgsOk K (Ow F T env σ) H vs ss
  | [], [], ss, _, e => by simp [slArgs] at e; subst e; trivial
  | v :: vs, .val d :: l, ss, h, e => by
    simp only [slArgs, Option.map_eq_some_iff] at e
    obtain ⟨r, e, rfl⟩ := e
    exact ⟨h.1, slArgs_ok S h.2 e⟩
  | v :: vs, .slot i :: l, ss, h, e => by
    simp only [slArgs, Option.bind_eq_some_iff, Option.map_eq_some_iff] at e
    obtain ⟨s0, h0, r, e, rfl⟩ := e
    refine ⟨?_, slArgs_ok S h.2 e⟩
    have g := slOf_eq.mp h0
    have hv : σ[i]? = some (some v) := h.1
    cases s0 with
    | own p m =>
      obtain ⟨a, q1, q2, _⟩ := S.own i p m g
      rw [hv] at q1; cases q1
      exact ⟨rfl, a, rfl, .inr (.inr ⟨i, p, m, g, hv⟩), q2⟩
    | shr d =>
      obtain ⟨w, q1, q2⟩ := S.shr i d g
      rw [hv] at q1; cases q1
      exact q2
  | [], _ :: _, _, h, _ => h.elim
  | _ :: _, [], _, h, _ => h.elim
theorem ownSlots_dis : ∀ {l : List R} {i j k : Nat} {p q : Bool} {m n : Mu}, (ownSlots env l).Nodup → l[i]? = some (R.slot k) → l[j]? = some (R.slot k) → env[k]? = some (some (Sl.own p m)) → i = j
  | [], _, _, _, _, _, _, _, _, h, _, _ => by simp at h
  | r :: l, i, j, k, p, q, m, n, nd, h1, h2, g => by
    have gk : (ownOf env k).isSome = true := by
      unfold ownOf; rw [slOf_eq.mpr g]; rfl
    have memk : ∀ {l : List R} {i : Nat}, l[i]? = some (R.slot k) → k ∈ ownSlots env l := by
      intro l
      induction l with
      | nil => intro i h; simp at h
      | cons r l ih =>
        intro i h
        cases i with
        | zero => simp at h; subst h; unfold ownSlots; rw [if_pos gk]; exact List.mem_cons_self
        | succ i =>
          have := ih (i := i) (by simpa using h)
          cases r with
          | val d => unfold ownSlots; exact this
          | slot x => unfold ownSlots; split
                      · exact List.mem_cons_of_mem _ this
                      · exact this
    cases i with
    | zero =>
      cases j with
      | zero => rfl
      | succ j =>
        simp at h1; subst h1
        unfold ownSlots at nd
        rw [if_pos gk] at nd
        exact absurd (memk (by simpa using h2)) (List.nodup_cons.mp nd).1
    | succ i =>
      cases j with
      | zero =>
        simp at h2; subst h2
        unfold ownSlots at nd
        rw [if_pos gk] at nd
        exact absurd (memk (by simpa using h1)) (List.nodup_cons.mp nd).1
      | succ j =>
        have nd' : (ownSlots env l).Nodup := by
          cases r with
          | val d => unfold ownSlots at nd; exact nd
          | slot x =>
            unfold ownSlots at nd
            split at nd
            · exact (List.nodup_cons.mp nd).2
            · exact nd
        exact congrArg (· + 1) (ownSlots_dis (p := p) (q := q) (m := m) (n := n) nd' (by simpa using h1) (by simpa using h2) g)
theorem call_ok {vs : List V} {l : List R} {ss : List Sl} {outs : List (Option Mu)} {T' : Addr → Prop} (S : StOk K F T H env σ) (rv : RvAll K F T H env σ vs l) (hss : slArgs env l = some ss)
    (hou : ∀ (i : Nat) (p : Bool) (m : Mu), ss[i]? = some (Sl.own p m) → ∃ m', outs[i]? = some (some m')) (x : Ext (AW vs ss) H H') (hT : ∀ a, T a → T' a) (hT2 : ∀ a, T' a → T a ∨ H a = none) (hT3 : ∀ a, T' a → H' a ≠ none)
    (ho : OutsOk K (fun a => Ow F T env σ a ∨ T' a) H' vs outs) : StOk K F T' H' (updO env l outs) σ ∧ Stp env σ H (updO env l outs) H' := by
  have aw : ∀ a, AW vs ss a → ∃ (k i : Nat) (p : Bool) (m m' : Mu), l[k]? = some (R.slot i) ∧ env[i]? = some (some (Sl.own p m)) ∧ σ[i]? = some (some (V.ref a)) ∧ outs[k]? = some (some m') := by
    rintro a ⟨k, m, e, hv⟩
    obtain ⟨m', hm'⟩ := hou k true m e
    rcases (slArgs_get hss).2 k _ e with ⟨d, _, h⟩ | ⟨i, p, n, h1, h2, h3⟩ | ⟨i, d, _, _, h⟩
    · cases h
    · obtain ⟨v, hv', r⟩ := rv.get h1
      rw [hv] at hv'; cases hv'
      exact ⟨k, i, p, n, m', h1, h2, r, hm'⟩
    · cases h
  have awr : ∀ a, AW vs ss a → Wr env σ a := fun a h => let ⟨_, i, p, m, _, _, h2, h3, _⟩ := aw a h; ⟨i, p, m, h2, h3⟩
  have x' : Ext (Wr env σ) H H' := x.mono awr
  have wr : ∀ a, Wr (updO env l outs) σ a → Wr env σ a := by
    rintro a ⟨j, p, m, e, s⟩
    rcases updO_get e with ⟨h1, _⟩ | ⟨p', n, n', k, h1, h2, _, _⟩
    · exact ⟨j, p, m, h1, s⟩
    · exact ⟨j, p', n, h1, s⟩
  have ow : ∀ a o, H a = some o → ¬ Ow F T env σ a → ¬ Ow F T' (updO env l outs) σ a := fun a o e n z => by
    rcases z with z | z | z
    · exact n (.inl z)
    · rcases hT2 a z with z | z
      · exact n (.inr (.inl z))
      · rw [e] at z; cases z
    · exact n (.inr (.inr (wr a z)))
  have kk : ∀ a o, ¬ Ow F T env σ a → H a = some o → H' a = some o := fun a o n e => x'.same a o e fun z => n (.inr (.inr z))
  refine ⟨⟨by rw [updO_len]; exact S.len, ?_, ?_, ?_, ?_, S.dom, S.sub, hT3, ?_⟩, x', wr⟩
  · intro i d e
    rcases updO_get e with ⟨h1, _⟩ | ⟨p', n, n', k, _, h2, _, _⟩
    · obtain ⟨v, s, r⟩ := S.shr i d h1
      exact ⟨v, s, r.tr ow kk⟩
    · cases h2
  · intro i p m e
    rcases updO_get e with ⟨h1, h2⟩ | ⟨p', n, n', k, h1, h2, h3, h4⟩
    · obtain ⟨a, s, mu, c⟩ := S.own i p m h1
      refine ⟨a, s, mu.tr ow kk (fun o q => x.same a o q fun z => ?_), c⟩
      obtain ⟨k, j, p2, m2, m', g1, g2, g3, g4⟩ := aw a z
      have ij := S.dis i j _ _ _ _ _ h1 g2 s g3
      subst ij
      obtain ⟨d, hd⟩ := h2 k m' g1 g4
      cases hd
    · cases h2
      obtain ⟨a, s, mu, c⟩ := S.own i _ n h1
      obtain ⟨a', hv, mu'⟩ := ho k _ h4
      obtain ⟨v, hv', r⟩ := rv.get h3
      rw [hv] at hv'; cases hv'
      rw [show σ[i]? = some (some (V.ref a')) from r] at s; cases s
      exact ⟨_, r, mu'.tr (fun b _ _ n z => n (by
        rcases z with z | z | z
        · exact .inl (.inl z)
        · exact .inr z
        · exact .inl (.inr (.inr (wr b z))))) (fun _ _ _ e => e) (fun _ e => e), c⟩
  · intro i j p q m n a e1 e2 s1 s2
    have g1 : ∃ p m, env[i]? = some (some (Sl.own p m)) := by
      rcases updO_get e1 with ⟨h, _⟩ | ⟨_, _, _, _, h, _⟩
      · exact ⟨_, _, h⟩
      · exact ⟨_, _, h⟩
    have g2 : ∃ p m, env[j]? = some (some (Sl.own p m)) := by
      rcases updO_get e2 with ⟨h, _⟩ | ⟨_, _, _, _, h, _⟩
      · exact ⟨_, _, h⟩
      · exact ⟨_, _, h⟩
    obtain ⟨_, _, g1⟩ := g1
    obtain ⟨_, _, g2⟩ := g2
    exact S.dis i j _ _ _ _ a g1 g2 s1 s2
  · refine ⟨fun a o q n => ?_, fun a q => x.live a (S.ext.live a q)⟩
    refine x.same a o (S.ext.same a o q n) fun z => ?_
    obtain ⟨k, j, p2, m2, m', g1, g2, g3, g4⟩ := aw a z
    obtain ⟨b, s, mu, c⟩ := S.own j p2 m2 g2
    rw [g3] at s; cases s
    cases p2 with
    | true => exact n (by simpa using c.1)
    | false => simp at c; rw [c] at q; cases q
  · intro a q z
    rcases hT2 a q with q | q
    · exact S.tno a q (wr a z)
    · exact S.wlive (wr a z) q
theorem call_run {M : FnS} {l : List R} {vs : List V} {ss : List Sl} {z : Ret × List (Option Mu)} {k : Nat} {Q : VK} {E : XK} (S : StOk K F T H env σ) (rv : RvAll K F T H env σ vs l) (hs : slArgs env l = some ss) (nd : (ownSlots env l).Nodup) (hm : M ss = some z)
    (hk : l.length = k) (hou : ∀ (i : Nat) (p : Bool) (m : Mu), ss[i]? = some (Sl.own p m) → ∃ m', z.2[i]? = some (some m'))
    (q : ∀ v H', Ext (AW vs ss) H H' → CEnd K (Ow F T env σ) H H' vs z.2 v z.1 → Q v H') : spD K k M vs H Q E := by
  have ha := slArgs_ok S rv hs
  refine ⟨Ow F T env σ, ss, z.1, z.2, by rw [ha.length, (slArgs_get hs).1, hk], fun a h => S.olive h, ha, ?_, hm, hou, q⟩
  intro i j m n a e1 e2 s1 s2
  have aux : ∀ {i : Nat} {m : Mu}, ss[i]? = some (Sl.own true m) → vs[i]? = some (V.ref a) → ∃ (k : Nat) (p : Bool) (m : Mu), l[i]? = some (R.slot k) ∧ env[k]? = some (some (Sl.own p m)) ∧ σ[k]? = some (some (V.ref a)) := by
    intro i m e hv
    rcases (slArgs_get hs).2 i _ e with ⟨d, _, h⟩ | ⟨k, p, n, h1, h2, _⟩ | ⟨_, d, _, _, h⟩
    · cases h
    · obtain ⟨v, hv', r⟩ := rv.get h1
      rw [hv] at hv'; cases hv'
      exact ⟨k, p, n, h1, h2, r⟩
    · cases h
  obtain ⟨k1, p1, m1, a1, b1, c1⟩ := aux e1 s1
  obtain ⟨k2, p2, m2, a2, b2, c2⟩ := aux e2 s2
  have := S.dis k1 k2 _ _ _ _ _ b1 b2 c1 c2
  subst this
  exact ownSlots_dis (p := p1) (q := p1) (m := m1) (n := m1) nd a1 a2 b1
def ouOk : List Sl → List (Option Mu) → Bool
  | .own _ _ :: ss, some _ :: os => ouOk ss os
  | .own _ _ :: _, _ => false
  | .shr _ :: ss, _ :: os => ouOk ss os
  | .shr _ :: ss, [] => ouOk ss []
  | [], _ => true
theorem ouOk_get : ∀ {ss : List Sl} {os : List (Option Mu)}, ouOk ss os = true → ∀ (i : Nat) (p : Bool) (m : Mu), ss[i]? = some (Sl.own p m) → ∃ m', os[i]? = some (some m')
  | .own _ _ :: ss, some m' :: os, h, i, p, m, e => by
    cases i with
    | zero => exact ⟨m', rfl⟩
    | succ i => simpa using ouOk_get (ss := ss) (os := os) (by simpa [ouOk] using h) i p m (by simpa using e)
  | .own _ _ :: _, none :: _, h, _, _, _, _ => by simp [ouOk] at h
  | .own _ _ :: _, [], h, _, _, _, _ => by simp [ouOk] at h
  | .shr _ :: ss, _ :: os, h, i, p, m, e => by
    cases i with
    | zero => simp at e
    | succ i => simpa using ouOk_get (ss := ss) (os := os) (by simpa [ouOk] using h) i p m (by simpa using e)
  | .shr _ :: ss, [], h, i, p, m, e => by
    cases i with
    | zero => simp at e
    | succ i =>
      obtain ⟨m', hm⟩ := ouOk_get (ss := ss) (os := []) (by simpa [ouOk] using h) i p m (by simpa using e)
      simp at hm
  | [], _, _, i, p, m, e => by simp at e
end
end GD

namespace GD
open PySem PySem.Spec PyProof.Rows L2
section
variable {K : PySem.W.Frag}
theorem Rp.upd {O : Addr → Prop} {H : Hp} {p : Addr} {o : HO} (n : H p = none) {v : V} {d : D} (r : Rp K O H v d) : Rp K O (L2.upd H p o) v d := r.tr (fun _ _ _ n => n) fun a u _ e => by rw [upd_ne (ne_of_none e n)]; exact e
theorem RpAll.upd {O : Addr → Prop} {H : Hp} {p : Addr} {o : HO} (n : H p = none) {v : List V} {d : List D} (r : RpAll K O H v d) : RpAll K O (L2.upd H p o) v d := r.tr (fun _ _ _ n => n) fun a u _ e => by rw [upd_ne (ne_of_none e n)]; exact e
theorem RpAll.updp {O : Addr → Prop} {H : Hp} {p : Addr} {o : HO} (n : H p = none) {v : List V} {d : List D} (r : RpAll K O H v d) : RpAll K (fun a => O a ∨ a = p) (L2.upd H p o) v d := r.tr (fun a u e n2 z => z.elim n2 fun z => ne_of_none e n z) fun a u _ e => by rw [upd_ne (ne_of_none e n)]; exact e
theorem new_tup {O : Addr → Prop} {H : Hp} {p : Addr} {o : Obj} {vs : List V} {ds : List D} (hO : ∀ a, O a → H a ≠ none) (n : H p = none) (hd : o.dict = none) (r : RpAll K O H vs ds) : Rp K O (L2.upd H p (.frz o (.tup vs))) (.ref p) (.tuple ds) :=
  .tup (TpA.new hd fun h => hO p h n) (r.upd n)
theorem new_lst {O : Addr → Prop} {H : Hp} {p : Addr} {vs : List V} {ds : List D} (n : H p = none) (r : RpAll K O H vs ds) : MuAt K (fun a => O a ∨ a = p) (L2.upd H p (.lst vs)) p (.l ds) := ⟨vs, upd_same, r.updp n⟩
theorem ext_new {H : Hp} {p : Addr} {o : HO} (n : H p = none) : Ext (fun _ => False) H (upd H p o) := Ext.new n
theorem Rp.tupI {O : Addr → Prop} {H : Hp} {v : V} {ds : List D} (r : Rp K O H v (.tuple ds)) : ∃ a xs, v = .ref a ∧ SqT K H a xs ∧ RpAll K O H xs ds ∧ TpA K O H a xs ds := by
  cases r with
  | tup h r => exact ⟨_, _, rfl, h.1.imp (·.1) id, r, h⟩
theorem Rp.sc {O : Addr → Prop} {H : Hp} {v : V} {i : Int} (r : Rp K O H v (.int i)) : v = .int i := by cases r; rfl
theorem Rp.scS {O : Addr → Prop} {H : Hp} {v : V} {i : Str} (r : Rp K O H v (.str i)) : v = .str i := by cases r; rfl
theorem Rp.scB {O : Addr → Prop} {H : Hp} {v : V} {i : Bool} (r : Rp K O H v (.bool i)) : v = .bl i := by cases r; rfl
theorem Rp.scN {O : Addr → Prop} {H : Hp} {v : V} (r : Rp K O H v .none) : v = .non := by cases r; rfl
def dI (C : Int → Int → Bool) (g : Int → Int → D) : D → D → Option D
  | .int i, .int j => if C i j = true then some (g i j) else none
  | _, _ => none
theorem od_I {C : Int → Int → Prop} {c : Int → Int → Bool} {g : Int → Int → V} {gd : Int → Int → D} (hc : ∀ i j, c i j = true → C i j) (hg : ∀ O H i j, Rp K O H (g i j) (gd i j)) : OpD K (rI C g) (dI c gd) := by
  intro O H x y d e z hO l1 l2 hz Q q
  cases d with
  | int i =>
    cases e with
    | int j =>
      simp only [dI] at hz
      split at hz
      · rename_i h
        cases hz
        exact ⟨i, j, Rp.sc l1, Rp.sc l2, hc i j h, q _ H Ext.refl (hg _ _ i j)⟩
      · cases hz
    | _ => cases hz
  | _ => cases hz
theorem od_I0 {g : Int → Int → V} {gd : Int → Int → D} (hg : ∀ O H i j, Rp K O H (g i j) (gd i j)) : OpD K (rI0 g) (dI (fun _ _ => true) gd) := by
  intro O H x y d e z hO l1 l2 hz Q q
  cases d with
  | int i =>
    cases e with
    | int j =>
      simp only [dI, if_true] at hz
      cases hz
      exact ⟨i, j, Rp.sc l1, Rp.sc l2, q _ H Ext.refl (hg _ _ i j)⟩
    | _ => cases hz
  | _ => cases hz
def dSub : D → D → Option D := dI (fun _ _ => true) fun i j => .int (i - j)
def dMul : D → D → Option D := dI (fun i j => decide ((-(2 ^ 64) < i ∧ i < 2 ^ 64) ∨ (-(2 ^ 64) < j ∧ j < 2 ^ 64))) fun i j => .int (i * j)
def dMod : D → D → Option D := dI (fun _ j => decide (0 < j)) fun i j => .int (i % j)
def dDiv : D → D → Option D := dI (fun _ j => decide (0 < j ∧ j < 1073741824)) fun i j => .int (i / j)
def dPow : D → D → Option D := dI (fun i j => decide (0 ≤ j ∧ j ≤ 1000000 ∧ i.natAbs < 2 ^ 64)) fun i j => .int (i ^ j.toNat)
theorem od_sub : OpD K (rI0 fun i j => .int (i - j)) dSub := od_I0 fun _ _ _ _ => .int _
theorem od_mul : OpD K (rI CMul fun i j => .int (i * j)) dMul := od_I (C := CMul) (fun i j h => by unfold CMul; simpa using h) fun _ _ _ _ => .int _
theorem od_mod : OpD K (rI (fun _ j => 0 < j) fun i j => .int (i % j)) dMod := od_I (fun _ _ h => of_decide_eq_true h) fun _ _ _ _ => .int _
theorem od_div : OpD K (rI CDiv fun i j => .int (i / j)) dDiv := od_I (C := CDiv) (fun i j h => by unfold CDiv; simpa using h) fun _ _ _ _ => .int _
theorem od_pow : OpD K (rI CPow fun i j => .int (i ^ j.toNat)) dPow := od_I (C := CPow) (fun i j h => by unfold CPow; simpa using h) fun _ _ _ _ => .int _
def dLt : D → D → Option D := dI (fun _ _ => true) fun i j => .bool (decide (i < j))
def dLe : D → D → Option D := dI (fun _ _ => true) fun i j => .bool (decide (i ≤ j))
def dGt : D → D → Option D := dI (fun _ _ => true) fun i j => .bool (decide (j < i))
def dGe : D → D → Option D := dI (fun _ _ => true) fun i j => .bool (decide (j ≤ i))
theorem od_lt : OpD K (rI0 fun i j => .bl (decide (i < j))) dLt := od_I0 fun _ _ _ _ => .bl _
theorem od_le : OpD K (rI0 fun i j => .bl (decide (i ≤ j))) dLe := od_I0 fun _ _ _ _ => .bl _
theorem od_gt : OpD K (rI0 fun i j => .bl (decide (j < i))) dGt := od_I0 fun _ _ _ _ => .bl _
theorem od_ge : OpD K (rI0 fun i j => .bl (decide (j ≤ i))) dGe := od_I0 fun _ _ _ _ => .bl _
def dNeg : D → Option D
  | .int i => some (.int (-i))
  | _ => none
theorem ud_neg : UnD K (rU fun i => .int (-i)) dNeg := by
  intro O H x d z hO l hz Q q
  cases d with
  | int i => cases hz; exact ⟨i, Rp.sc l, q _ H Ext.refl (.int _)⟩
  | _ => cases hz
def rCatF (K : PySem.W.Frag) : R2 := fun x y H Q => ∃ t u xs ys, x = .ref t ∧ y = .ref u ∧ SqT K H t xs ∧ SqT K H u ys ∧ xs.length + ys.length ≤ sizeLine ∧
  (xs = [] → Q (.ref u) H) ∧ (xs ≠ [] → ys = [] → Q (.ref t) H) ∧ (xs ≠ [] → ys ≠ [] → ∀ (p : Addr) (o : Obj), H p = none → o.dict = none → Q (.ref p) (upd H p (.frz o (.tup (xs ++ ys)))))
theorem op_catF {X : Cx} : OpR X (binaryOp .Add) (rCatF X.K) := by
  intro pins s σ H x y v w Q I rx ry h
  obtain ⟨t, u, xs, ys, ex, ey, ht, hu, hz, k0, k1, k2⟩ := h
  by_cases hx : xs = []
  · exact op_catA pins s σ H x y v w Q I rx ry ⟨t, u, xs, ys, ex, ey, ht, hu, hz, k0, fun n => absurd hx n, fun n => absurd hx n⟩
  by_cases hy : ys = []
  · exact op_catA pins s σ H x y v w Q I rx ry ⟨t, u, xs, ys, ex, ey, ht, hu, hz, k0, k1, fun _ n => absurd hy n⟩
  subst ex ey
  cases rx; cases ry
  obtain ⟨its, r1, p1, _⟩ := I.tuple ht
  obtain ⟨jts, r2, p2, _⟩ := I.tuple hu
  refine HT.cat_tup p1 p2 (fun n => hx (r1.nil_iff.mp n)) (fun n => absurd (r2.nil_iff.mp n) hy) (fun _ => ?_) (by rw [← r1.length, ← r2.length]; exact hz)
  have J := laid_fz (us := its ++ jts) I (by rw [List.length_append]; exact hz) (r1.append r2) s.toks
  exact ⟨.ref s.heap.objs.size, _, J, rfl, k2 hx hy _ _ (I.hok.fresh (Nat.le_refl _)) rfl⟩
def rAddA (K : PySem.W.Frag) : R2 := fun x y H Q => rI0 (fun i j => .int (i + j)) x y H Q ∨ (fun x y H Q => (∃ i j, x = .str i ∧ y = .str j ∧ i.length + j.length ≤ sizeLine ∧ Q (.str (i ++ j)) H) ∨ rCatF K x y H Q) x y H Q
theorem op_addA {X : Cx} : OpR X (binaryOp .Add) (rAddA X.K) := OpR.or op_add (OpR.or op_add_str op_catF)
def dAdd : D → D → Option D
  | .int i, .int j => some (.int (i + j))
  | .str a, .str b => if small (a.length + b.length) = true then some (.str (a ++ b)) else none
  | .tuple xs, .tuple ys => if small (xs.length + ys.length) = true then some (.tuple (xs ++ ys)) else none
  | _, _ => none
theorem od_add : OpD K (rAddA K) dAdd := by
  intro O H x y d e z hO l1 l2 hz Q q
  cases d with
  | int i =>
    cases e with
    | int j => cases hz; exact .inl ⟨i, j, Rp.sc l1, Rp.sc l2, q _ H Ext.refl (.int _)⟩
    | _ => cases hz
  | str a =>
    cases e with
    | str b =>
      simp only [dAdd] at hz
      split at hz
      · rename_i h
        cases hz
        exact .inr (.inl ⟨a, b, Rp.scS l1, Rp.scS l2, small_le h, q _ H Ext.refl (.str _)⟩)
      · cases hz
    | _ => cases hz
  | tuple ds =>
    cases e with
    | tuple es =>
      simp only [dAdd] at hz
      split at hz
      · rename_i h
        cases hz
        obtain ⟨a, xs, rfl, s1, r1, c1⟩ := Rp.tupI l1
        obtain ⟨b, ys, rfl, s2, r2, c2⟩ := Rp.tupI l2
        refine .inr (.inr ⟨a, b, xs, ys, rfl, rfl, s1, s2, by rw [r1.length, r2.length]; exact small_le h, fun hx => ?_, fun hx hy => ?_, fun hx hy p ob np hd => ?_⟩)
        · subst hx
          have hd : ds = [] := List.eq_nil_of_length_eq_zero r1.length.symm
          subst hd
          exact q _ H Ext.refl (.tup c2 r2)
        · subst hy
          have hd : es = [] := List.eq_nil_of_length_eq_zero r2.length.symm
          subst hd
          rw [List.append_nil] at q
          exact q _ H Ext.refl (.tup c1 r1)
        · exact q _ _ (ext_new np) (new_tup hO np hd (r1.append r2))
      · cases hz
    | _ => cases hz
  | _ => cases hz
def dAddM : D → D → Option Mu
  | .list xs, .list ys => if small (xs.length + ys.length) = true then some (.l (xs ++ ys)) else none
  | _, _ => none
theorem om_add : OpM K rCat dAddM := by
  intro O H x y d e z hO l1 l2 hz Q q
  cases d with
  | list ds =>
    cases e with
    | list es =>
      simp only [dAddM] at hz
      split at hz
      · rename_i h
        cases hz
        obtain ⟨a, xs, rfl, s1, r1⟩ := l1
        obtain ⟨b, ys, rfl, s2, r2⟩ := l2
        exact ⟨a, b, xs, ys, rfl, rfl, s1, s2, by rw [r1.length, r2.length]; exact small_le h, fun p np => q p _ np (ext_new np) (new_lst np (r1.append r2))⟩
      · cases hz
    | _ => cases hz
  | _ => cases hz
def sc : D → D → Bool
  | .none, .none => true
  | .none, .int _ => true
  | .int _, .none => true
  | .none, .bool _ => true
  | .bool _, .none => true
  | .none, .str _ => true
  | .str _, .none => true
  | .int _, .int _ => true
  | .bool _, .bool _ => true
  | .str _, .str _ => true
  | .int _, .str _ => true
  | .str _, .int _ => true
  | .bool _, .str _ => true
  | .str _, .bool _ => true
  | _, _ => false
def scEq : D → D → Bool
  | .none, .none => true
  | .int i, .int j => decide (i = j)
  | .bool i, .bool j => decide (i = j)
  | .str i, .str j => decide (i = j)
  | _, _ => false
def dEqB (d e : D) : Option Bool := if sc d e = true then some (scEq d e) else if (SeqAt.shaped d && SeqAt.shaped e) = true then some (PyData.eqv d e) else none
def dEq (d e : D) : Option D := (dEqB d e).map .bool
def dNe (d e : D) : Option D := (dEqB d e).map fun b => .bool (!b)
def rEqA (K : PySem.W.Frag) : R2 := fun x y H Q => rEq x y H Q ∨ rEqD K x y H Q
def rNeA (K : PySem.W.Frag) : R2 := fun x y H Q => rNe x y H Q ∨ rNeD K x y H Q
theorem op_eqA {X : Cx} (hu : X.A.units + 64 < cLine) : OpR X (compareOp .Eq) (rEqA X.K) := OpR.or op_eq (op_eqD hu)
theorem op_neA {X : Cx} (hu : X.A.units + 64 < cLine) : OpR X (compareOp .NotEq) (rNeA X.K) := OpR.or op_ne (op_neD hu)
theorem lv_sc {O : Addr → Prop} {H : Hp} {x y : V} {d e : D} (l1 : Lv K O H x d) (l2 : Lv K O H y e) (h : sc d e = true) : scal x y = true ∧ decide (x = y) = scEq d e := by
  cases d <;> cases e <;> first | (cases h; done) | skip
  all_goals
    cases (show Rp K O H x _ from l1)
    cases (show Rp K O H y _ from l2)
    refine ⟨rfl, ?_⟩
    simp [scEq]
theorem nodict_of {d : D} (h : SeqAt.shaped d = true) : d.hasDict = false := PyData.hasDict_of_canLay d (SeqAt.canLay_of_shaped h)
theorem od_eq : OpD K (rEqA K) dEq := by
  intro O H x y d e z hO l1 l2 hz Q q
  simp only [dEq, dEqB, Option.map_eq_some_iff] at hz
  obtain ⟨b, hb, rfl⟩ := hz
  split at hb
  · rename_i h
    cases hb
    obtain ⟨h1, h2⟩ := lv_sc l1 l2 h
    exact .inl ⟨h1, by rw [h2]; exact q _ H Ext.refl (.bl _)⟩
  · split at hb
    · rename_i h
      cases hb
      simp only [Bool.and_eq_true] at h
      exact .inr ⟨d, e, l1.dp (nodict_of h.1), l2.dp (nodict_of h.2), h.1, h.2, q _ H Ext.refl (.bl _)⟩
    · cases hb
theorem od_ne : OpD K (rNeA K) dNe := by
  intro O H x y d e z hO l1 l2 hz Q q
  simp only [dNe, dEqB, Option.map_eq_some_iff] at hz
  obtain ⟨b, hb, rfl⟩ := hz
  split at hb
  · rename_i h
    cases hb
    obtain ⟨h1, h2⟩ := lv_sc l1 l2 h
    exact .inl ⟨h1, by rw [h2]; exact q _ H Ext.refl (.bl _)⟩
  · split at hb
    · rename_i h
      cases hb
      simp only [Bool.and_eq_true] at h
      exact .inr ⟨d, e, l1.dp (nodict_of h.1), l2.dp (nodict_of h.2), h.1, h.2, q _ H Ext.refl (.bl _)⟩
    · cases hb
def dInB : D → D → Option Bool
  | .str i, .str j => some (!(Builtin.Str.occurrences j i 0 j.length 1).isEmpty)
  | d, .list ds => if (SeqAt.shaped d && SeqAt.shaped (.list ds)) = true then some (ds.any fun z => PyData.eqv z d) else none
  | _, _ => none
def dIn (d e : D) : Option D := (dInB d e).map .bool
def dNotIn (d e : D) : Option D := (dInB d e).map fun b => .bool (!b)
def rNotInA (K : PySem.W.Frag) : R2 := fun x y H Q => (∃ i j, x = .str i ∧ y = .str j ∧ Q (.bl (!(!(Builtin.Str.occurrences j i 0 j.length 1).isEmpty))) H) ∨ rNotInD K x y H Q
theorem op_notInA {X : Cx} (hu : X.A.units + 65 < cLine) : OpR X (compareOp .NotIn) (rNotInA X.K) := OpR.or op_notin_str (op_notInD hu)
theorem dInB_case {O : Addr → Prop} {H : Hp} {x y : V} {d e : D} {b : Bool} (l1 : Lv K O H x d) (l2 : Lv K O H y e) (h : dInB d e = some b) :
    (∃ i j, x = .str i ∧ y = .str j ∧ b = !(Builtin.Str.occurrences j i 0 j.length 1).isEmpty) ∨ ∃ ds, Dp K H x d ∧ Dp K H y (.list ds) ∧ SeqAt.shaped d = true ∧ SeqAt.shaped (.list ds) = true ∧ b = ds.any fun z => PyData.eqv z d := by
  cases e with
  | str j =>
    cases d with
    | str i => cases h; exact .inl ⟨i, j, Rp.scS l1, Rp.scS l2, rfl⟩
    | _ => cases h
  | list ds =>
    simp only [dInB] at h
    split at h
    · rename_i hs
      cases h
      simp only [Bool.and_eq_true] at hs
      exact .inr ⟨ds, l1.dp (nodict_of hs.1), l2.dp (nodict_of hs.2), hs.1, hs.2, rfl⟩
    · cases h
  | _ => cases d <;> cases h
theorem od_notIn : OpD K (rNotInA K) dNotIn := by
  intro O H x y d e z hO l1 l2 hz Q q
  simp only [dNotIn, Option.map_eq_some_iff] at hz
  obtain ⟨b, hb, rfl⟩ := hz
  rcases dInB_case l1 l2 hb with ⟨i, j, h1, h2, rfl⟩ | ⟨ds, h1, h2, h3, h4, rfl⟩
  · exact .inl ⟨i, j, h1, h2, q _ H Ext.refl (.bl _)⟩
  · exact .inr ⟨d, ds, h1, h2, h3, h4, q _ H Ext.refl (.bl _)⟩
def isN : D → Bool
  | .none => true
  | _ => false
def eIsN (fa : EvE) : EvE := fun env => (e1 fa env).map fun p => (.val (.bool (isN p.1)), p.2)
def eNotN (fa : EvE) : EvE := fun env => (e1 fa env).map fun p => (.val (.bool (!isN p.1)), p.2)
theorem lv_isN {O : Addr → Prop} {H : Hp} {x : V} {d : D} (l : Lv K O H x d) : decide (x = .non) = isN d := by
  cases d with
  | list ds => obtain ⟨a, xs, rfl, _⟩ := l; rfl
  | dict ds => rcases l with ⟨a, xs, _, rfl, _⟩ | ⟨a, _, _, _, _, _, _, rfl, _⟩ | ⟨⟨a, rfl⟩, _⟩ <;> rfl
  | _ => cases (show Rp K O H x _ from l) <;> rfl
theorem ie_isN {ta : TE} {fa : EvE} (ha : IE K ta fa) : IE K (tIsN ta) (eIsN fa) := by
  intro F T env σ H r env' S e Q q
  simp only [eIsN, Option.map_eq_some_iff] at e
  obtain ⟨⟨d, e1⟩, h1, h2⟩ := e
  cases h2
  refine i1 ha S h1 fun x H' S' st l => ?_
  show Q _ H'
  rw [lv_isN l]
  exact q _ H' S' st (.bl _)
theorem ie_notN {ta : TE} {fa : EvE} (ha : IE K ta fa) : IE K (tNotN ta) (eNotN fa) := by
  intro F T env σ H r env' S e Q q
  simp only [eNotN, Option.map_eq_some_iff] at e
  obtain ⟨⟨d, e1⟩, h1, h2⟩ := e
  cases h2
  refine i1 ha S h1 fun x H' S' st l => ?_
  show Q _ H'
  rw [lv_isN l]
  exact q _ H' S' st (.bl _)
def eChain (g g' : D → D → Option D) (fa fb fc : EvE) : EvE := fun env => (fa env).bind fun p => (fb p.2).bind fun q => (rs q.2 p.1).bind fun d => (rs q.2 q.1).bind fun e => match g d e with
  | some (.bool true) => (fc q.2).bind fun w => (rs w.2 q.1).bind fun e' => (rs w.2 w.1).bind fun c => (g' e' c).map fun z => (.val z, w.2)
  | some (.bool false) => some (.val (.bool false), q.2)
  | _ => none
theorem ie_chain {r r' : R2} {g g' : D → D → Option D} {ta tb tc : TE} {fa fb fc : EvE} (hr : OpD K r g) (hr' : OpD K r' g') (ha : IE K ta fa) (hb : IE K tb fb) (hc : IE K tc fc) : IE K (tChain r r' ta tb tc) (eChain g g' fa fb fc) := by
  intro F T env σ H rr env' S e Q q
  simp only [eChain, Option.bind_eq_some_iff] at e
  obtain ⟨⟨r1, e1⟩, h1, ⟨r2, e2⟩, h2, d, h3, ee, h4, h5⟩ := e
  refine ha F T env σ H r1 e1 S h1 _ fun x H1 S1 s1 v1 => ?_
  refine hb F T e1 σ H1 r2 e2 S1 h2 _ fun y H2 S2 s2 v2 => ?_
  cases hg : g d ee with
  | none => rw [hg] at h5; cases h5
  | some z =>
    refine hr (Ow F T e2 σ) H2 x y d ee z (fun a h => S2.olive h) (rs_ok S2 (v1.stp s2) h3) (rs_ok S2 v2 h4) hg _ fun v H3 x3 rz => ?_
    rw [hg] at h5
    have S3 := S2.lay x3
    have s3 : Stp e2 σ H2 e2 H3 := Stp.lay x3
    cases z with
    | bool b =>
      refine ⟨b, Rp.scB rz, ?_⟩
      cases b with
      | false =>
        simp only [Option.some.injEq, Prod.mk.injEq] at h5
        obtain ⟨rfl, rfl⟩ := h5
        exact q _ H3 S3 ((s1.trans s2).trans s3) (.bl _)
      | true =>
        simp only [Option.bind_eq_some_iff, Option.map_eq_some_iff] at h5
        obtain ⟨⟨r4, e4⟩, h6, e', h7, c, h8, z, h9, h10⟩ := h5
        cases h10
        refine hc F T e2 σ H3 r4 _ S3 h6 _ fun w H4 S4 s4 v4 => ?_
        refine hr' (Ow F T _ σ) H4 y w e' c z (fun a h => S4.olive h) (rs_ok S4 ((v2.stp s3).stp s4) h7) (rs_ok S4 v4 h8) h9 Q fun v H5 x5 rz => ?_
        exact q v H5 (S4.lay x5) ((((s1.trans s2).trans s3).trans s4).trans (Stp.lay x5)) rz
    | _ => cases h5
end
end GD

namespace GD
open PySem PySem.Spec PyProof.Rows L2
section
variable {K : PySem.W.Frag}
theorem atI_get {α : Type} {xs : List α} {i : Int} {x : α} (h : atI xs i = some x) : ∃ j : Nat, ixN xs.length i = some j ∧ xs[j]? = some x := by
  unfold atI at h
  simp only [Option.bind_eq_some_iff] at h
  obtain ⟨j, h1, h2⟩ := h
  exact ⟨j, h1, h2⟩
theorem RpAll.atI {O : Addr → Prop} {H : Hp} {vs : List V} {ds : List D} {i : Int} {d : D} (r : RpAll K O H vs ds) (h : L2.atI ds i = some d) : ∃ v, L2.atI vs i = some v ∧ Rp K O H v d := by
  obtain ⟨j, h1, h2⟩ := atI_get h
  obtain ⟨v, h3, h4⟩ := r.get h2
  refine ⟨v, ?_, h4⟩
  unfold L2.atI
  rw [r.length, h1]
  exact h3
def dIx : D → D → Option D
  | .list ds, .int i => atI ds i
  | .tuple ds, .int i => atI ds i
  | .str x, .int i => if small x.length = true then (atI x.cps.toList i).map fun c => .str ⟨#[c]⟩ else none
  | _, _ => none
theorem od_ix : OpD K (rIx K) dIx := by
  intro O H x y d e z hO l1 l2 hz Q q
  cases e with
  | int i =>
    cases d with
    | list ds =>
      obtain ⟨a, xs, rfl, h, r⟩ := l1
      obtain ⟨v, hv, rv⟩ := r.atI hz
      exact .inl ⟨a, xs, i, v, rfl, Rp.sc l2, .inl (.inl h), hv, q v H Ext.refl rv⟩
    | tuple ds =>
      obtain ⟨a, xs, rfl, h, r, _⟩ := Rp.tupI l1
      obtain ⟨v, hv, rv⟩ := r.atI hz
      exact .inr (.inl ⟨a, xs, i, v, rfl, Rp.sc l2, h, hv, q v H Ext.refl rv⟩)
    | str x =>
      simp only [dIx] at hz
      split at hz
      · rename_i hs
        simp only [Option.map_eq_some_iff] at hz
        obtain ⟨c, hc, rfl⟩ := hz
        exact .inr (.inr ⟨x, i, c, Rp.scS l1, Rp.sc l2, small_le hs, hc, q _ H Ext.refl (.str _)⟩)
      · cases hz
    | _ => cases hz
  | _ => cases d <;> cases hz
abbrev EvO := En → Option (Option Int × En)
def IO (K : PySem.W.Frag) (t : TO) (f : EvO) : Prop := ∀ F T env σ H o env', StOk K F T H env σ → f env = some (o, env') → ∀ Q : Option Int → Hp → Prop, (∀ H', StOk K F T H' env' σ → Stp env σ H env' H' → Q o H') → t σ H Q
def oNone : EvO := fun env => some (none, env)
def oSome (fe : EvE) : EvO := fun env => (e1 fe env).bind fun p => match p.1 with | .int i => some (some i, p.2) | _ => none
theorem io_none : IO K tNoPart oNone := fun F T env σ H o env' S e Q q => by cases e; exact q H S Stp.refl
theorem io_some {te : TE} {fe : EvE} (h : IE K te fe) : IO K (tPart te) (oSome fe) := by
  intro F T env σ H o env' S e Q q
  simp only [oSome, Option.bind_eq_some_iff] at e
  obtain ⟨⟨d, e1⟩, h1, h2⟩ := e
  refine i1 h S h1 fun x H' S' st l => ?_
  cases d with
  | int i =>
    simp only [Option.some.injEq, Prod.mk.injEq] at h2
    obtain ⟨rfl, rfl⟩ := h2
    exact ⟨i, Rp.sc l, q H' S' st⟩
  | _ => cases h2
def cutD (xs : List D) (lo hi : Option Int) : List D := (xs.drop (HT.sIx xs.length 0 lo)).take (HT.sIx xs.length xs.length hi - HT.sIx xs.length 0 lo)
theorem RpAll.cut {O : Addr → Prop} {H : Hp} {vs : List V} {ds : List D} {lo hi : Option Int} (r : RpAll K O H vs ds) : RpAll K O H (cutV vs lo hi) (cutD ds lo hi) := by
  unfold cutV cutD
  rw [r.length]
  exact (r.drop _).take _
abbrev R3 := V → Option Int → Option Int → Hp → VK → Prop
def SlD (K : PySem.W.Frag) (r : R3) (g : D → Option Int → Option Int → Option D) : Prop := ∀ (O : Addr → Prop) (H : Hp) x d lo hi z, (∀ a, O a → H a ≠ none) → Lv K O H x d → g d lo hi = some z → ∀ Q : VK, (∀ v H', Ext (fun _ => False) H H' → Rp K O H' v z → Q v H') → r x lo hi H Q
def SlM (K : PySem.W.Frag) (r : R3) (g : D → Option Int → Option Int → Option Mu) : Prop := ∀ (O : Addr → Prop) (H : Hp) x d lo hi z, (∀ a, O a → H a ≠ none) → Lv K O H x d → g d lo hi = some z → ∀ Q : VK,
  (∀ p H', H p = none → Ext (fun _ => False) H H' → MuAt K (fun a => O a ∨ a = p) H' p z → Q (.ref p) H') → r x lo hi H Q
def e3 (fe : EvE) (fl fh : EvO) : En → Option (D × Option Int × Option Int × En) := fun env => (fe env).bind fun p => (fl p.2).bind fun l => (fh l.2).bind fun h => (rs h.2 p.1).map fun d => (d, l.1, h.1, h.2)
theorem i3 {te : TE} {fe : EvE} {tl th : TO} {fl fh : EvO} (he : IE K te fe) (hl : IO K tl fl) (hh : IO K th fh) {F : Frm} {T : Addr → Prop} {env env' : En} {σ : L2.St} {H : Hp} {d : D} {lo hi : Option Int} (S : StOk K F T H env σ) (h : e3 fe fl fh env = some (d, lo, hi, env'))
    {R : V → Option Int → Option Int → Hp → Prop} (k : ∀ x H', StOk K F T H' env' σ → Stp env σ H env' H' → Lv K (Ow F T env' σ) H' x d → R x lo hi H') : te σ H fun x H1 => tl σ H1 fun l H2 => th σ H2 fun u H3 => R x l u H3 := by
  simp only [e3, Option.bind_eq_some_iff, Option.map_eq_some_iff] at h
  obtain ⟨⟨r1, e1⟩, h1, ⟨l, e2⟩, h2, ⟨u, e3⟩, h3, d', h4, h5⟩ := h
  cases h5
  refine he F T env σ H r1 e1 S h1 _ fun x H1 S1 s1 v1 => ?_
  refine hl F T e1 σ H1 _ e2 S1 h2 _ fun H2 S2 s2 => ?_
  refine hh F T e2 σ H2 _ _ S2 h3 _ fun H3 S3 s3 => ?_
  exact k x H3 S3 ((s1.trans s2).trans s3) (rs_ok S3 ((v1.stp s2).stp s3) h4)
theorem im_of {F : Frm} {T : Addr → Prop} {env env' : En} {σ : L2.St} {H H1 H2 : Hp} {p : Addr} {m : Mu} (S' : StOk K F T H1 env' σ) (st : Stp env σ H env' H1) (n : H1 p = none) (x : Ext (fun _ => False) H1 H2) (r : MuAt K (fun a => Ow F T env' σ a ∨ a = p) H2 p m) :
    H p = none ∧ StOk K F (fun a => T a ∨ a = p) H2 env' σ ∧ Stp env σ H env' H2 ∧ MuAt K (Ow F (fun a => T a ∨ a = p) env' σ) H2 p m := by
  refine ⟨?_, S'.lay1 n x r.alive, st.trans (Stp.lay x), r.tr (fun a _ _ n q => n (by
    rcases q with q | (q | q) | q
    · exact .inl (.inl q)
    · exact .inl (.inr (.inl q))
    · exact .inr q
    · exact .inl (.inr (.inr q)))) (fun _ _ _ e => e) fun _ e => e⟩
  cases h : H p with
  | none => rfl
  | some o => exact absurd n (st.ext.live p (by rw [h]; simp))
def dSlL : D → Option Int → Option Int → Option Mu
  | .list ds, lo, hi => some (.l (cutD ds lo hi))
  | _, _, _ => none
theorem sm_list : SlM K (rSlL K) dSlL := by
  intro O H x d lo hi z hO l hz Q q
  cases d with
  | list ds =>
    cases hz
    obtain ⟨a, xs, rfl, h, r⟩ := l
    exact ⟨a, xs, rfl, .inl (.inl h), fun p np => q p _ np (ext_new np) (new_lst np r.cut)⟩
  | _ => cases hz
def rSlF (K : PySem.W.Frag) : R3 := fun x lo hi H Q => ∃ t xs, x = .ref t ∧ SqT K H t xs ∧
  (HT.sIx xs.length 0 lo = 0 ∧ HT.sIx xs.length xs.length hi = xs.length → Q (.ref t) H) ∧ (¬ (HT.sIx xs.length 0 lo = 0 ∧ HT.sIx xs.length xs.length hi = xs.length) → ∀ (p : Addr) (o : Obj), H p = none → o.dict = none → Q (.ref p) (upd H p (.frz o (.tup (cutV xs lo hi)))))
theorem sl_tupF {X : Cx} : SlR X (rSlF X.K) := by
  intro pins s σ H x v vl vu lo hi sl Q I rx hs pl pu h
  obtain ⟨t, xs, ex, hx, k1, k2⟩ := h
  by_cases hw : HT.sIx xs.length 0 lo = 0 ∧ HT.sIx xs.length xs.length hi = xs.length
  · exact sl_tupA pins s σ H x v vl vu lo hi sl Q I rx hs pl pu ⟨t, xs, ex, hx, k1, fun n => absurd hw n⟩
  subst ex
  cases rx
  obtain ⟨its, r, ht, hz⟩ := id (I.tuple hx)
  have hn : its.toArray.size = xs.length := by rw [List.size_toArray, ← r.length]
  refine ⟨"tuple", _, PyProof.Rows.slot_tuple_getitem.lookup, ht.typeIs, HT.getItem_tuple_cut ht hs pl pu (by rw [hn]; exact hw) ?_ (by rw [hn]; exact hz)⟩
  rw [hn]
  have J := laid_fz I (Nat.le_trans (cutV_length xs lo hi) hz) ((r.drop (HT.sIx xs.length 0 lo)).take (HT.sIx xs.length xs.length hi - HT.sIx xs.length 0 lo)) s.toks
  exact ⟨.ref s.heap.objs.size, _, J, rfl, k2 hw _ _ (I.hok.fresh (Nat.le_refl _)) rfl⟩
def rSlB (K : PySem.W.Frag) : R3 := fun x lo hi H Q => rSlF K x lo hi H Q ∨ rSlS x lo hi H Q
theorem sl_both {X : Cx} : SlR X (rSlB X.K) := SlR.or sl_tupF sl_str
def dSl : D → Option Int → Option Int → Option D
  | .tuple ds, lo, hi => some (.tuple (cutD ds lo hi))
  | .str x, lo, hi => if small x.length = true then some (.str (cutS x lo hi)) else none
  | _, _, _ => none
theorem sd_both : SlD K (rSlB K) dSl := by
  intro O H x d lo hi z hO l hz Q q
  cases d with
  | tuple ds =>
    cases hz
    obtain ⟨a, xs, rfl, h, r, c⟩ := Rp.tupI l
    refine .inl ⟨a, xs, rfl, h, fun hw => ?_, fun _ p ob np hd => q _ _ (ext_new np) (new_tup hO np hd r.cut)⟩
    have e : cutD ds lo hi = ds := by
      unfold cutD
      rw [← r.length, hw.1, hw.2]
      simp [r.length]
    rw [e] at q
    exact q _ H Ext.refl (.tup c r)
  | str x =>
    simp only [dSl] at hz
    split at hz
    · rename_i hs
      cases hz
      exact .inr ⟨x, Rp.scS l, small_le hs, q _ H Ext.refl (.str _)⟩
    · cases hz
  | _ => cases hz
theorem LvAll.one {O : Addr → Prop} {H : Hp} {vs : List V} {d : D} (h : LvAll K O H vs [d]) : ∃ v, vs = [v] ∧ Lv K O H v d := by
  cases vs with
  | nil => exact h.elim
  | cons v vs =>
    cases vs with
    | nil => exact ⟨v, rfl, h.1⟩
    | cons _ _ => exact h.2.elim
theorem LvAll.two {O : Addr → Prop} {H : Hp} {vs : List V} {d e : D} (h : LvAll K O H vs [d, e]) : ∃ v w, vs = [v, w] ∧ Lv K O H v d ∧ Lv K O H w e := by
  cases vs with
  | nil => exact h.elim
  | cons v vs => obtain ⟨w, rfl, h2⟩ := LvAll.one h.2; exact ⟨v, w, rfl, h.1, h2⟩
def rLenA (K : PySem.W.Frag) : List V → Hp → VK → Prop := fun xs H Q => (fun xs H Q => ∃ p ys, xs = [.ref p] ∧ (SqL K H p ys ∨ SqT K H p ys) ∧ Q (.int ys.length) H) xs H Q ∨ ((fun xs H Q => ∃ z, xs = [.str z] ∧ z.length ≤ sizeLine ∧ Q (.int z.length) H) xs H Q ∨ (fun xs H Q => ∃ a kvs, xs = [V.ref a] ∧ H a = some (.dK kvs) ∧ Q (.int kvs.length) H) xs H Q)
theorem call_lenA {X : Cx} : CallR X (.builtin "len") (rLenA X.K) := CallR.or call_len_seq (CallR.or call_len_str call_lenD)
def cLen : List D → Option D
  | [.list ds] => some (.int ds.length)
  | [.tuple ds] => some (.int ds.length)
  | [.str x] => if small x.length = true then some (.int x.length) else none
  | _ => none
theorem cd_len : CaD K (rLenA K) cLen := by
  intro O H xs ds z hO l hz Q q
  match ds, hz, l with
  | [.list ds], hz, l =>
    cases hz
    obtain ⟨v, rfl, a, xs, rfl, h, r⟩ := LvAll.one l
    exact .inl ⟨a, xs, rfl, .inl (.inl (.inl h)), by rw [r.length]; exact q _ H Ext.refl (.int _)⟩
  | [.tuple ds], hz, l =>
    cases hz
    obtain ⟨v, rfl, h⟩ := LvAll.one l
    obtain ⟨a, xs, rfl, h, r, c⟩ := Rp.tupI h
    exact .inl ⟨a, xs, rfl, .inr h, by rw [r.length]; exact q _ H Ext.refl (.int _)⟩
  | [.str x], hz, l =>
    simp only [cLen] at hz
    split at hz
    · rename_i hs
      cases hz
      obtain ⟨v, rfl, h⟩ := LvAll.one l
      cases Rp.scS h
      exact .inr (.inl ⟨x, rfl, small_le hs, q _ H Ext.refl (.int _)⟩)
    · cases hz
def cAbs : List D → Option D
  | [.int i] => some (.int (if i < 0 then -i else i))
  | _ => none
theorem cd_abs : CaD K (fun xs H Q => ∃ i, xs = [.int i] ∧ Q (.int (if i < 0 then -i else i)) H) cAbs := by
  intro O H xs ds z hO l hz Q q
  match ds, hz, l with
  | [.int i], hz, l =>
    cases hz
    obtain ⟨v, rfl, h⟩ := LvAll.one l
    cases Rp.sc h
    exact ⟨i, rfl, q _ H Ext.refl (.int _)⟩
def rIntA : List V → Hp → VK → Prop := fun xs H Q => (fun xs H Q => (∃ i, xs = [.int i] ∧ Q (.int i) H) ∨ ∃ k, xs = [.bl k] ∧ Q (.int (if k then 1 else 0)) H) xs H Q ∨ (fun xs H Q => ∃ a n, xs = [.str a] ∧ PySem.intText? a = some n ∧ a.length ≤ 640 ∧ Q (.int n) H) xs H Q
theorem call_intA {X : Cx} : CallR X (.type "int") rIntA := CallR.or call_int1 call_int_str
def cInt : List D → Option D
  | [.int i] => some (.int i)
  | [.bool k] => some (.int (if k then 1 else 0))
  | [.str x] => if x.length ≤ 640 then (PySem.intText? x).map .int else none
  | _ => none
theorem cd_int : CaD K rIntA cInt := by
  intro O H xs ds z hO l hz Q q
  match ds, hz, l with
  | [.int i], hz, l =>
    cases hz
    obtain ⟨v, rfl, h⟩ := LvAll.one l
    cases Rp.sc h
    exact .inl (.inl ⟨i, rfl, q _ H Ext.refl (.int _)⟩)
  | [.bool k], hz, l =>
    cases hz
    obtain ⟨v, rfl, h⟩ := LvAll.one l
    cases Rp.scB h
    exact .inl (.inr ⟨k, rfl, q _ H Ext.refl (.int _)⟩)
  | [.str x], hz, l =>
    simp only [cInt] at hz
    split at hz
    · rename_i hs
      simp only [Option.map_eq_some_iff] at hz
      obtain ⟨n, hn, rfl⟩ := hz
      obtain ⟨v, rfl, h⟩ := LvAll.one l
      cases Rp.scS h
      exact .inr ⟨x, n, rfl, hn, hs, q _ H Ext.refl (.int _)⟩
    · cases hz
def rStrA : List V → Hp → VK → Prop := fun xs H Q => (fun xs H Q => ∃ i, xs = [.int i] ∧ i.natAbs.log2 < 1920 ∧ Q (.str (toString i)) H) xs H Q ∨ (fun xs H Q => ∃ a, xs = [.str a] ∧ Q (.str a) H) xs H Q
theorem call_strA {X : Cx} : CallR X (.type "str") rStrA := CallR.or call_str_int SkE.call_str_str
def cStr : List D → Option D
  | [.int i] => if i.natAbs.log2 < 1920 then some (.str (toString i)) else none
  | [.str x] => some (.str x)
  | _ => none
theorem cd_str : CaD K rStrA cStr := by
  intro O H xs ds z hO l hz Q q
  match ds, hz, l with
  | [.int i], hz, l =>
    simp only [cStr] at hz
    split at hz
    · rename_i hs
      cases hz
      obtain ⟨v, rfl, h⟩ := LvAll.one l
      cases Rp.sc h
      exact .inl ⟨i, rfl, hs, q _ H Ext.refl (.str _)⟩
    · cases hz
  | [.str x], hz, l =>
    cases hz
    obtain ⟨v, rfl, h⟩ := LvAll.one l
    cases Rp.scS h
    exact .inr ⟨x, rfl, q _ H Ext.refl (.str _)⟩
def cList : List D → Option Mu
  | [.list ds] => some (.l ds)
  | [.tuple ds] => some (.l ds)
  | _ => none
theorem cm_list : CaM K (fun xs H Q => ∃ p ys, xs = [.ref p] ∧ (SqL K H p ys ∨ SqT K H p ys) ∧ ∀ l, H l = none → Q (.ref l) (upd H l (.lst ys))) cList := by
  intro O H xs ds z hO l hz Q q
  match ds, hz, l with
  | [.list ds], hz, l =>
    cases hz
    obtain ⟨v, rfl, a, xs, rfl, h, r⟩ := LvAll.one l
    exact ⟨a, xs, rfl, .inl (.inl (.inl h)), fun p np => q p _ np (ext_new np) (new_lst np r)⟩
  | [.tuple ds], hz, l =>
    cases hz
    obtain ⟨v, rfl, h⟩ := LvAll.one l
    obtain ⟨a, xs, rfl, h, r, c⟩ := Rp.tupI h
    exact ⟨a, xs, rfl, .inr h, fun p np => q p _ np (ext_new np) (new_lst np r)⟩
def cTuple : List D → Option D
  | [.list ds] => some (.tuple ds)
  | [.tuple ds] => some (.tuple ds)
  | _ => none
def rTupF (K : PySem.W.Frag) : List V → Hp → VK → Prop := fun xs H Q => ∃ p ys, xs = [.ref p] ∧ ((SqL K H p ys ∧ ∀ (l : Addr) (o : Obj), H l = none → o.dict = none → Q (.ref l) (upd H l (.frz o (.tup ys)))) ∨ (SqT K H p ys ∧ Q (.ref p) H))
theorem call_tupF {X : Cx} : CallR X (.type "tuple") (rTupF X.K) := by
  intro pins s σ H xs us Q I r h
  obtain ⟨p, ys, ex, h⟩ := h
  rcases h with ⟨hq, k⟩ | h
  · subst ex
    obtain ⟨u, eu, rx⟩ := vals1 r
    subst eu
    cases rx
    obtain ⟨its, rr, pl, hz⟩ := I.list hq
    have hn := rr.length
    refine call_tuple_list pl.isList (fun g kp => ?_) (by simp only [List.size_toArray]; omega)
    have I1 : Inv X pins σ H { s with heap := g } := I.kept (t' := s.toks) kp
    exact ⟨.ref g.objs.size, _, laid_fz I1 hz rr s.toks, rfl, k _ _ (I1.hok.fresh (Nat.le_refl _)) rfl⟩
  · exact call_tuple_of pins s σ H xs us Q I r ⟨p, ys, ex, .inr h⟩
theorem cd_tuple : CaD K (rTupF K) cTuple := by
  intro O H xs ds z hO l hz Q q
  match ds, hz, l with
  | [.list ds], hz, l =>
    cases hz
    obtain ⟨v, rfl, a, xs, rfl, h, r⟩ := LvAll.one l
    exact ⟨a, xs, rfl, .inl ⟨.inl (.inl h), fun p ob np hd => q _ _ (ext_new np) (new_tup hO np hd r)⟩⟩
  | [.tuple ds], hz, l =>
    cases hz
    obtain ⟨v, rfl, h⟩ := LvAll.one l
    obtain ⟨a, xs, rfl, h, r, c⟩ := Rp.tupI h
    exact ⟨a, xs, rfl, .inr ⟨h, q _ H Ext.refl (.tup c r)⟩⟩
def boolsOf : List D → Option (List Bool)
  | [] => some []
  | .bool b :: l => (boolsOf l).map fun bs => b :: bs
  | _ => none
theorem boolsOf_ok {O : Addr → Prop} {H : Hp} : ∀ {vs : List V} {ds : List D} {bs : List Bool}, RpAll K O H vs ds → boolsOf ds = some bs → vs = bs.map V.bl
  | _, _, bs, .nil, h => by simp [boolsOf] at h; subst h; rfl
  | _, d :: ds, bs, .cons r t, h => by
    cases d with
    | bool b =>
      simp only [boolsOf, Option.map_eq_some_iff] at h
      obtain ⟨l, h, rfl⟩ := h
      cases Rp.scB r
      rw [List.map_cons, ← boolsOf_ok t h]
    | _ => simp [boolsOf] at h
def cAll : List D → Option D
  | [.list ds] => (boolsOf ds).map fun bs => .bool (bs.all id)
  | _ => none
def cAny : List D → Option D
  | [.list ds] => (boolsOf ds).map fun bs => .bool (bs.any id)
  | _ => none
theorem cd_all : CaD K (rAll K) cAll := by
  intro O H xs ds z hO l hz Q q
  match ds, hz, l with
  | [.list ds], hz, l =>
    simp only [cAll, Option.map_eq_some_iff] at hz
    obtain ⟨bs, hb, rfl⟩ := hz
    obtain ⟨v, rfl, a, xs, rfl, h, r⟩ := LvAll.one l
    have e := boolsOf_ok r hb
    subst e
    exact ⟨a, bs, rfl, .inl (.inl h), q _ H Ext.refl (.bl _)⟩
theorem cd_any : CaD K (rAny K) cAny := by
  intro O H xs ds z hO l hz Q q
  match ds, hz, l with
  | [.list ds], hz, l =>
    simp only [cAny, Option.map_eq_some_iff] at hz
    obtain ⟨bs, hb, rfl⟩ := hz
    obtain ⟨v, rfl, a, xs, rfl, h, r⟩ := LvAll.one l
    have e := boolsOf_ok r hb
    subst e
    exact ⟨a, bs, rfl, .inl (.inl h), q _ H Ext.refl (.bl _)⟩
def okShow (d : D) : Bool := d.canLay0 && decide (d.depth ≤ 60) && d.showable && d.leavesShort 200 && decide (d.bulk ≤ 60000)
def tyName : D → String
  | .none => "NoneType"
  | .bool _ => "bool"
  | .int _ => "int"
  | .str _ => "str"
  | .list _ => "list"
  | .tuple _ => "tuple"
  | .dict _ => "dict"
def eIsi (T : String) (k : D → Option Bool) (fe : EvE) : EvE := fun env => (e1 fe env).bind fun p => (k p.1).map fun b => (.val (.bool b), p.2)
theorem exc_no {nm f : Str} {d : D} (h : isExc (excD nm f d) = false) : False := by
  unfold excD isExc at h; cases h
theorem lv_ty {O : Addr → Prop} {H : Hp} {x : V} {d : D} (hx : isExc d = false) (l : Lv K O H x d) : TyX K H x (.type (tyName d)) := by
  cases d with
  | none => cases (show Rp K O H x _ from l); exact .base .non
  | bool b => cases (show Rp K O H x _ from l); exact .base (.bl b)
  | int i => cases (show Rp K O H x _ from l); exact .base (.int i)
  | str y => cases (show Rp K O H x _ from l); exact .base (.str y)
  | list ds => obtain ⟨a, xs, rfl, h, _⟩ := l; exact .base (.lst h)
  | tuple ds =>
    obtain ⟨a, xs, rfl, h, _⟩ := Rp.tupI l
    rcases h with (h | ⟨o, h⟩) | ⟨o, its, n, h1, h2, _⟩
    · exact .base (.tup h)
    · exact .fTuple h
    · exact .kTuple h1 h2
  | dict es =>
    rcases l with ⟨a, xs, _, rfl, h, _⟩ | ⟨_, _, _, _, _, _, _, _, _, _, _, _, e⟩ | ⟨_, e⟩
    rotate_left
    · rw [e] at hx
      exact (exc_no hx).elim
    · rw [e] at hx
      cases hx
    rcases h with h | ⟨o, h⟩
    · exact .base (.dK h)
    · exact .fDict h
theorem ie_isi {T : String} {te : TE} {fe : EvE} {k : D → Option Bool} (hk : ∀ d b, k d = some b → isExc d = false ∧ PySem.W.kitOne K (.type (tyName d)) (.type T) = some b) (he : IE K te fe) : IE K (tCB (rIsi K) (tCons te (tCons (tC (.ty T)) tNil))) (eIsi T k fe) := by
  intro F T' env σ H r env' S e Q q
  simp only [eIsi, Option.bind_eq_some_iff, Option.map_eq_some_iff] at e
  obtain ⟨⟨d, e1⟩, h1, b, h2, h3⟩ := e
  cases h3
  exact i1 he S h1 fun x H' S' st l => ⟨x, .ty T, .type (tyName d), .type T, b, rfl, .ty T, lv_ty (hk d b h2).1 l, (hk d b h2).2, q _ H' S' st (.bl _)⟩
def tyOk (T : String) : D → Bool
  | .str _ => T == "str"
  | .int _ => T == "int"
  | .list _ => T == "list"
  | _ => false
abbrev RM := V → List V → Hp → VK → Prop
def BmD (K : PySem.W.Frag) (r : RM) (g : D → List D → Option D) : Prop := ∀ (O : Addr → Prop) (H : Hp) x d vs ds z, (∀ a, O a → H a ≠ none) → Lv K O H x d → LvAll K O H vs ds → g d ds = some z → ∀ Q : VK, (∀ v H', Ext (fun _ => False) H H' → Rp K O H' v z → Q v H') → r x vs H Q
def eB (Ty : String) (fe : EvE) (fl : EvA) : En → Option (D × List D × En) := fun env => (fe env).bind fun p => (rs p.2 p.1).bind fun d0 => if tyOk Ty d0 = true then (fl p.2).bind fun q => (rs q.2 p.1).bind fun d => (rsA q.2 q.1).map fun ds => (d, ds, q.2) else none
theorem tyOk_ok {O : Addr → Prop} {H : Hp} {x : V} {d : D} {Ty : String} (h : tyOk Ty d = true) (l : Lv K O H x d) : tyV K Ty x H := by
  cases d with
  | str y => cases Rp.scS l; exact (show Ty = "str" by simpa [tyOk] using h)
  | int y => cases Rp.sc l; exact (show Ty = "int" by simpa [tyOk] using h)
  | list ds => obtain ⟨a, xs, rfl, e, _⟩ := l; exact .inl ⟨by simpa [tyOk] using h, xs, .inl (.inl e)⟩
  | _ => cases h
theorem ib {Ty : String} {te : TE} {fe : EvE} {tl : TA} {fl : EvA} {r : RM} (he : IE K te fe) (hl : IA K tl fl) {F : Frm} {T : Addr → Prop} {env env' : En} {σ : L2.St} {H : Hp} {d : D} {ds : List D} (S : StOk K F T H env σ) (h : eB Ty fe fl env = some (d, ds, env')) {Q : VK}
    (k : ∀ x vs H', StOk K F T H' env' σ → Stp env σ H env' H' → Lv K (Ow F T env' σ) H' x d → LvAll K (Ow F T env' σ) H' vs ds → r x vs H' Q) : tBM K Ty r te tl σ H Q := by
  simp only [eB, Option.bind_eq_some_iff] at h
  obtain ⟨⟨r1, e1⟩, h1, d0, h2, h3⟩ := h
  split at h3
  · rename_i ht
    simp only [Option.bind_eq_some_iff, Option.map_eq_some_iff] at h3
    obtain ⟨⟨l, e2⟩, h4, d', h5, ds', h6, h7⟩ := h3
    cases h7
    refine he F T env σ H r1 e1 S h1 _ fun x H1 S1 s1 v1 => ?_
    refine ⟨tyOk_ok ht (rs_ok S1 v1 h2), hl F T e1 σ H1 l _ S1 h4 _ fun vs H2 S2 s2 v2 => ?_⟩
    exact k x vs H2 S2 (s1.trans s2) (rs_ok S2 (v1.stp s2) h5) (rsA_ok S2 v2 h6)
  · cases h3
def eBm (Ty : String) (g : D → List D → Option D) (fe : EvE) (fl : EvA) : EvE := fun env => (eB Ty fe fl env).bind fun p => (g p.1 p.2.1).map fun z => (.val z, p.2.2)
theorem ie_bm {Ty : String} {te : TE} {fe : EvE} {tl : TA} {fl : EvA} {r : RM} {g : D → List D → Option D} (hr : BmD K r g) (he : IE K te fe) (hl : IA K tl fl) : IE K (tBM K Ty r te tl) (eBm Ty g fe fl) := by
  intro F T env σ H rr env' S e Q q
  simp only [eBm, Option.bind_eq_some_iff, Option.map_eq_some_iff] at e
  obtain ⟨⟨d, ds, e1⟩, h1, z, h2, h3⟩ := e
  cases h3
  exact ib he hl S h1 fun x vs H' S' st l1 l2 => hr _ H' x d vs ds z (fun a h => S'.olive h) l1 l2 h2 Q fun v H2 x2 rz => q v H2 (S'.lay x2) (st.trans (Stp.lay x2)) rz
def gApp : Mu → List D → Option (Mu × D)
  | .l ds, [d] => if small ds.length = true then some (.l (ds ++ [d]), .none) else none
  | _, _ => none
theorem md_app : MtD K "list" rAppend gApp := by
  intro O H a m vs ds m' z ha mu r hz Q q
  match m, ds, hz, r with
  | .l es, [d], hz, r =>
    simp only [gApp] at hz
    split at hz
    · rename_i hs
      cases hz
      obtain ⟨xs, e, rr⟩ := mu
      cases r with
      | cons r1 rt =>
        cases rt
        refine ⟨a, xs, _, rfl, rfl, e, by rw [rr.length]; exact small_lt hs, q _ _ ⟨_, upd_same, ?_⟩ .non⟩
        exact (rr.append (.one r1)).tr (fun _ _ _ n => n) fun b u n q => by rw [upd_ne (fun z => n (by subst z; exact ha))]; exact q
    · cases hz
def gSetL : Mu → D → D → Option Mu
  | .l ds, .int i, e => (ixN (List.length ds) i).map fun j => Mu.l (List.set ds j e)
  | _, _, _ => none
theorem sd_setL : StD K rSetL gSetL := by
  intro O H a m i d j e m' ha mu r1 r2 hz Q q
  match m, d, hz, r1 with
  | .l ds, .int k, hz, r1 =>
    simp only [gSetL, Option.map_eq_some_iff] at hz
    obtain ⟨n, hn, rfl⟩ := hz
    obtain ⟨xs, h, rr⟩ := mu
    cases Rp.sc r1
    refine ⟨a, xs, k, n, rfl, rfl, h, by rw [rr.length]; exact hn, q _ ⟨_, upd_same, ?_⟩⟩
    exact (rr.set r2 n).tr (fun _ _ _ n => n) fun b u n q => by rw [upd_ne (fun z => n (by subst z; exact ha))]; exact q
theorem tup_tr {O O' : Addr → Prop} {ds : List D} {H H2 : Hp} {a : Addr} {xs : List V} (f : ∀ a o, H a = some o → ¬ O a → ¬ O' a) (k : ∀ a o, ¬ O a → H a = some o → H2 a = some o) (h : TpA K O H a xs ds) : SqT K H2 a xs := (or_tr f k h.1).imp (·.1) id
def rangeD (lo : Int) (n : Nat) : List D := (List.range n).map fun (i : Nat) => PyData.int (lo + (i : Int))
theorem rangeD_get {lo : Int} {n i : Nat} {d : D} (h : (rangeD lo n)[i]? = some d) : i < n ∧ d = .int (lo + i) := by
  unfold rangeD at h
  rw [List.getElem?_map] at h
  simp only [Option.map_eq_some_iff] at h
  obtain ⟨j, h1, rfl⟩ := h
  rw [List.getElem?_eq_some_iff] at h1
  obtain ⟨h2, h3⟩ := h1
  simp at h2 h3
  subst h3
  exact ⟨h2, rfl⟩
theorem rangeD_len {lo : Int} {n : Nat} : (rangeD lo n).length = n := by simp [rangeD]
theorem jok_range {lo : Int} {n : Nat} {O : Addr → Prop} {H : Hp} : JOk K (Itr lo n) (rangeD lo n) O H := fun O' H2 f kk hO => by
  refine ⟨fun i d hi => ?_, fun i hi => by rw [rangeD_len] at hi; exact hi⟩
  obtain ⟨h1, rfl⟩ := rangeD_get hi
  refine ⟨h1, fun x H' y => ?_⟩
  obtain ⟨rfl, rfl⟩ := y
  exact ⟨Ext.refl, .int _⟩
def okR (j : Int) : Bool := decide (-(2 ^ 62) ≤ j ∧ j < 2 ^ 62)
def wRng1 (fl : EvA) : EvW := fun env => (eA fl env).bind fun p => match p.1 with | [.int j] => if okR j = true then some (rangeD 0 j.toNat, p.2) else none | _ => none
theorem iw_rng1 {tl : TA} {fl : EvA} (hl : IA K tl fl) : IW K (iRng1 tl) (wRng1 fl) := by
  intro F T env σ H items env' S e R k
  simp only [wRng1, eA, Option.bind_eq_some_iff, Option.map_eq_some_iff] at e
  obtain ⟨⟨ds, e1⟩, ⟨⟨l, e2⟩, h1, ds', h2, h3⟩, h4⟩ := e
  cases h3
  refine hl F T env σ H l _ S h1 _ fun vs H1 S1 s1 v1 => ?_
  have la := rsA_ok S1 v1 h2
  match ds, h4, la with
  | [.int j], h4, la =>
    simp only at h4
    split at h4
    · rename_i hs
      cases h4
      obtain ⟨v, rfl, h⟩ := LvAll.one la
      cases Rp.sc h
      have hb := of_decide_eq_true hs
      exact ⟨j, rfl, hb.1, hb.2, k _ H1 S1 s1 jok_range⟩
    · cases h4
def wRng2 (fl : EvA) : EvW := fun env => (eA fl env).bind fun p => match p.1 with | [.int i, .int j] => if (okR i && okR j) = true then some (rangeD i (j - i).toNat, p.2) else none | _ => none
theorem iw_rng2 {tl : TA} {fl : EvA} (hl : IA K tl fl) : IW K (iRng2 tl) (wRng2 fl) := by
  intro F T env σ H items env' S e R k
  simp only [wRng2, eA, Option.bind_eq_some_iff, Option.map_eq_some_iff] at e
  obtain ⟨⟨ds, e1⟩, ⟨⟨l, e2⟩, h1, ds', h2, h3⟩, h4⟩ := e
  cases h3
  refine hl F T env σ H l _ S h1 _ fun vs H1 S1 s1 v1 => ?_
  have la := rsA_ok S1 v1 h2
  match ds, h4, la with
  | [.int i, .int j], h4, la =>
    simp only at h4
    split at h4
    · rename_i hs
      cases h4
      obtain ⟨v, w, rfl, h, h'⟩ := LvAll.two la
      cases Rp.sc h
      cases Rp.sc h'
      simp only [Bool.and_eq_true] at hs
      have hb := of_decide_eq_true hs.1
      have hc := of_decide_eq_true hs.2
      exact ⟨i, j, rfl, ⟨hb.1, hb.2, hc.1, hc.2⟩, k _ H1 S1 s1 jok_range⟩
    · cases h4
def signs (x : Str) : List D := x.cps.toList.map fun c => .str ⟨#[c]⟩
end
end GD

namespace GD
open PySem PySem.Spec PyProof.Rows L2
abbrev EvX := En → Option (Sum R Mu × En)
def XEnd (K : PySem.W.Frag) (F : Frm) (T : Addr → Prop) (env : En) (σ : L2.St) (H : Hp) (env' : En) (Q : VK) : Sum R Mu → Prop
  | .inl r => ∀ v H', StOk K F T H' env' σ → Stp env σ H env' H' → RvOk K F T H' env' σ v r → Q v H'
  | .inr m => ∀ p H', H p = none → StOk K F (fun a => T a ∨ a = p) H' env' σ → Stp env σ H env' H' → MuAt K (Ow F (fun a => T a ∨ a = p) env' σ) H' p m → Q (.ref p) H'
def IX (K : PySem.W.Frag) (t : TE) (f : EvX) : Prop := ∀ F T env σ H r env', StOk K F T H env σ → f env = some (r, env') → ∀ Q : VK, XEnd K F T env σ H env' Q r → t σ H Q
section
variable {K : PySem.W.Frag} {te ta tb : TE} {fe : EvE} {fm : EvM} {fx fy : EvX} {tt : TT} {ft : EvT}
def xE (fe : EvE) : EvX := fun env => (fe env).map fun p => (.inl p.1, p.2)
def xM (fm : EvM) : EvX := fun env => (fm env).map fun p => (.inr p.1, p.2)
def eX (fx : EvX) : EvE := fun env => (fx env).map fun p => (match p.1 with | .inl r => r | .inr m => .val m.toD, p.2)
theorem ix_e (h : IE K te fe) : IX K te (xE fe) := by
  intro F T env σ H r env' S e Q q
  simp only [xE, Option.map_eq_some_iff] at e
  obtain ⟨⟨r0, e1⟩, h1, h2⟩ := e
  cases h2
  exact h F T env σ H r0 _ S h1 Q q
theorem ix_m (h : IM K te fm) : IX K te (xM fm) := by
  intro F T env σ H r env' S e Q q
  simp only [xM, Option.map_eq_some_iff] at e
  obtain ⟨⟨r0, e1⟩, h1, h2⟩ := e
  cases h2
  exact h F T env σ H r0 _ S h1 Q q
theorem fresh_rp {F : Frm} {T : Addr → Prop} {env env' : En} {σ : L2.St} {H H' : Hp} {p : Addr} {m : Mu} (S : StOk K F T H env σ) (np : H p = none) (st : Stp env σ H env' H') (mu : MuAt K (Ow F (fun a => T a ∨ a = p) env' σ) H' p m) : Rp K (Ow F T env' σ) H' (.ref p) m.toD := by
  refine (mu.tr (fun b _ _ n q => n (q.imp id (.imp .inl id))) (fun _ _ _ e => e) (fun _ e => e)).rp ?_
  rintro (h | h | h)
  · exact S.fresh np (.inl h)
  · exact S.fresh np (.inr (.inl h))
  · exact S.fresh np (.inr (.inr (st.wr p h)))
theorem ie_x (h : IX K te fx) : IE K te (eX fx) := by
  intro F T env σ H r env' S e Q q
  simp only [eX, Option.map_eq_some_iff] at e
  obtain ⟨⟨r0, e1⟩, h1, h2⟩ := e
  cases h2
  refine h F T env σ H r0 _ S h1 Q ?_
  cases r0 with
  | inl r => exact q
  | inr m => exact fun p H' np S' st mu => q _ H' (S'.anti fun a h => .inl h) st (fresh_rp S np st mu)
def xIf (ft : EvT) (fa fb : EvX) : EvX := fun env => (ft env).bind fun p => if p.1 = true then fa p.2 else fb p.2
theorem ix_if (h : IT K tt ft) (ha : IX K ta fx) (hb : IX K tb fy) : IX K (tIf tt ta tb) (xIf ft fx fy) := by
  intro F T env σ H r env' S e Q q
  simp only [xIf, Option.bind_eq_some_iff] at e
  obtain ⟨⟨c, e1⟩, h1, h2⟩ := e
  refine h F T env σ H c e1 S h1 _ fun H1 S1 s1 => ?_
  have q' : XEnd K F T e1 σ H1 env' Q r := by
    cases r with
    | inl r => exact fun v H' S' st rv => q v H' S' (s1.trans st) rv
    | inr m => exact fun p H' np S' st mu => q p H' (by
        cases h : H p with
        | none => rfl
        | some o => exact absurd np (s1.ext.live p (by rw [h]; simp))) S' (s1.trans st) mu
  cases c with
  | true =>
    simp only [if_true] at h2 ⊢
    exact ha F T e1 σ H1 r env' S1 h2 Q q'
  | false =>
    simp only [Bool.false_eq_true, if_false] at h2 ⊢
    exact hb F T e1 σ H1 r env' S1 h2 Q q'
def OpX (K : PySem.W.Frag) (r : R2) (g : D → D → Option (Sum D Mu)) : Prop := ∀ (O : Addr → Prop) (H : Hp) x y d e z, (∀ a, O a → H a ≠ none) → Lv K O H x d → Lv K O H y e → g d e = some z → ∀ Q : VK,
  (match z with
    | .inl z => ∀ v H', Ext (fun _ => False) H H' → Rp K O H' v z → Q v H'
    | .inr m => ∀ p H', H p = none → Ext (fun _ => False) H H' → MuAt K (fun a => O a ∨ a = p) H' p m → Q (.ref p) H') → r x y H Q
def xOp (g : D → D → Option (Sum D Mu)) (fa fb : EvE) : EvX := fun env => (e2 fa fb env).bind fun p => (g p.1 p.2.1).map fun z => (match z with | .inl d => .inl (.val d) | .inr m => .inr m, p.2.2)
theorem ix_op {r : R2} {g : D → D → Option (Sum D Mu)} {fa fb : EvE} (hr : OpX K r g) (ha : IE K ta fa) (hb : IE K tb fb) : IX K (tOp r ta tb) (xOp g fa fb) := by
  intro F T env σ H r env' S e Q q
  simp only [xOp, Option.bind_eq_some_iff, Option.map_eq_some_iff] at e
  obtain ⟨⟨d, e, e1⟩, h1, z, h2, h3⟩ := e
  cases h3
  refine i2 ha hb S h1 fun x y H' S' st l1 l2 => hr (Ow F T e1 σ) H' x y d e z (fun a h => S'.olive h) l1 l2 h2 Q ?_
  cases z with
  | inl z => exact fun v H2 x r => q v H2 (S'.lay x) (st.trans (Stp.lay x)) r
  | inr m => exact fun p H2 n x r => let ⟨a, b, c, d⟩ := im_of S' st n x r; q p H2 a b c d
theorem ox_or {r r' : R2} {g : D → D → Option D} {g' : D → D → Option Mu} (h : OpD K r g) (h' : OpM K r' g') : OpX K (fun x y H Q => r x y H Q ∨ r' x y H Q) (fun d e => match g d e with | some z => some (.inl z) | none => (g' d e).map .inr) := by
  intro O H x y d e z hO l1 l2 hz Q q
  cases hg : g d e with
  | some z0 =>
    simp only [hg] at hz
    cases hz
    exact .inl (h O H x y d e z0 hO l1 l2 hg Q q)
  | none =>
    simp only [hg, Option.map_eq_some_iff] at hz
    obtain ⟨m, hm, rfl⟩ := hz
    exact .inr (h' O H x y d e m hO l1 l2 hm Q q)
def rAddX (K : PySem.W.Frag) : R2 := fun x y H Q => rAddA K x y H Q ∨ rCat x y H Q
theorem op_addX {X : Cx} : OpR X (binaryOp .Add) (rAddX X.K) := OpR.or op_addA op_cat
def dAddX (d e : D) : Option (Sum D Mu) := match dAdd d e with | some z => some (.inl z) | none => (dAddM d e).map .inr
theorem ox_add : OpX K (rAddX K) dAddX := ox_or od_add om_add
def rSlX (K : PySem.W.Frag) : R3 := fun x lo hi H Q => rSlB K x lo hi H Q ∨ rSlL K x lo hi H Q
theorem sl_any {X : Cx} : SlR X (rSlX X.K) := SlR.or sl_both sl_list
def xSl (fe : EvE) (fl fh : EvO) : EvX := fun env => (e3 fe fl fh env).bind fun p => match dSl p.1 p.2.1 p.2.2.1 with
  | some z => some (.inl (.val z), p.2.2.2)
  | none => (dSlL p.1 p.2.1 p.2.2.1).map fun m => (.inr m, p.2.2.2)
theorem ix_sl {tl th : TO} {fl fh : EvO} (he : IE K te fe) (hl : IO K tl fl) (hh : IO K th fh) : IX K (tSl (rSlX K) te tl th) (xSl fe fl fh) := by
  intro F T env σ H r env' S e Q q
  simp only [xSl, Option.bind_eq_some_iff] at e
  obtain ⟨⟨d, lo, hi, e1⟩, h1, h2⟩ := e
  cases hg : dSl d lo hi with
  | some z =>
    simp only [hg] at h2
    cases h2
    exact i3 he hl hh S h1 fun x H' S' st l => .inl (sd_both _ H' x d lo hi z (fun a h => S'.olive h) l hg Q fun v H2 x2 rz => q v H2 (S'.lay x2) (st.trans (Stp.lay x2)) rz)
  | none =>
    simp only [hg, Option.map_eq_some_iff] at h2
    obtain ⟨m, hm, h3⟩ := h2
    cases h3
    exact i3 he hl hh S h1 fun x H' S' st l => .inr (sm_list _ H' x d lo hi m (fun a h => S'.olive h) l hm Q fun p H2 n x2 rz => let ⟨a, b, c, d⟩ := im_of S' st n x2 rz; q p H2 a b c d)
def xCall (M : FnS) (fl : EvA) : EvX := fun env => (fl env).bind fun q => (slArgs q.2 q.1).bind fun ss => if (ownSlots q.2 q.1).Nodup then (M ss).bind fun z => if ouOk ss z.2 = true then
    (match z.1 with | .val d => some (.inl (.val d), updO q.2 q.1 z.2) | .new m => some (.inr m, updO q.2 q.1 z.2)) else none else none
theorem xcall_run {M : FnS} {k : Nat} {E : XK} {F : Frm} {T : Addr → Prop} {env0 env env' : En} {σ : L2.St} {H0 H : Hp} {l : List R} {vs : List V} {r : Sum R Mu} {Q : VK} (S : StOk K F T H env σ) (s0 : Stp env0 σ H0 env H) (rv : RvAll K F T H env σ vs l) (hk : l.length = k)
    (e : ((slArgs env l).bind fun ss => if (ownSlots env l).Nodup then (M ss).bind fun z => if ouOk ss z.2 = true then
    (match z.1 with | .val d => some (Sum.inl (R.val d), updO env l z.2) | .new m => some (Sum.inr m, updO env l z.2)) else none else none) = some (r, env'))
    (q : XEnd K F T env0 σ H0 env' Q r) : spD K k M vs H Q E := by
  simp only [Option.bind_eq_some_iff] at e
  obtain ⟨ss, h2, h3⟩ := e
  split at h3
  · rename_i nd
    simp only [Option.bind_eq_some_iff] at h3
    obtain ⟨⟨r0, outs⟩, h4, h5⟩ := h3
    split at h5
    · rename_i hou
      have hou' := ouOk_get hou
      refine call_run S rv h2 nd h4 hk hou' fun v H' x c => ?_
      cases r0 with
      | val d =>
        obtain ⟨rd, oo⟩ := c
        simp only [Option.some.injEq, Prod.mk.injEq] at h5
        obtain ⟨rfl, rfl⟩ := h5
        obtain ⟨S2, s2⟩ := call_ok S rv h2 hou' x (T' := T) (fun _ h => h) (fun _ h => .inl h) (fun a h => x.live a (S.tdm a h)) (fun i m hm => let ⟨a, h, mu⟩ := oo i m hm; ⟨a, h, mu.tr (fun b _ _ n z => n (z.elim id fun z => .inr (.inl z))) (fun _ _ _ e => e) fun _ e => e⟩)
        exact q v H' S2 (s0.trans s2) (rd.anti fun b h => h.imp id (.imp id (s2.wr b)))
      | new m0 =>
        obtain ⟨p, rfl, np, mu, oo⟩ := c
        simp only [Option.some.injEq, Prod.mk.injEq] at h5
        obtain ⟨rfl, rfl⟩ := h5
        have np0 : H0 p = none := by
          cases h : H0 p with
          | none => rfl
          | some o => exact absurd np (s0.ext.live p (by rw [h]; simp))
        obtain ⟨S2, s2⟩ := call_ok S rv h2 hou' x (T' := fun a => T a ∨ a = p) (fun _ h => .inl h) (fun a h => h.imp id fun h => by subst h; exact np) (fun a h => h.elim (fun h => x.live a (S.tdm a h)) fun h => by subst h; exact mu.alive)
          (fun i m hm => let ⟨a, h, mu⟩ := oo i m hm; ⟨a, h, mu.tr (fun b _ _ n z => n (by
            rcases z with z | z | z
            · exact .inl z
            · exact .inl (.inr (.inl z))
            · exact .inr z)) (fun _ _ _ e => e) fun _ e => e⟩)
        exact q p H' np0 S2 (s0.trans s2) (mu.tr (fun b _ _ n z => n (by
            rcases z with z | (z | z) | z
            · exact .inl (.inl z)
            · exact .inl (.inr (.inl z))
            · exact .inr z
            · exact .inl (.inr (.inr (s2.wr b z))))) (fun _ _ _ e => e) fun _ e => e)
    · cases h5
  · cases h3
def lenOk (k : Nat) (fl : EvA) : Prop := ∀ env l env', fl env = some (l, env') → l.length = k
theorem len_nil : lenOk 0 aNil := fun env l env' h => by cases h; rfl
theorem len_cons {k : Nat} {fl : EvA} (h : lenOk k fl) : lenOk (k + 1) (aCons fe fl) := fun env l env' e => by
  simp only [aCons, Option.bind_eq_some_iff, Option.map_eq_some_iff] at e
  obtain ⟨⟨r1, e1⟩, h1, ⟨l2, e2⟩, h2, h3⟩ := e
  cases h3
  exact congrArg (· + 1) (h _ _ _ h2)
theorem ix_call {M : FnS} {k : Nat} {E : XK} {t : TA} {fl : EvA} (hl : IA K t fl) (hk : lenOk k fl) : IX K (tCall (spD K k M) [] E t) (xCall M fl) := by
  intro F T env σ H r env' S e Q q
  simp only [xCall, Option.bind_eq_some_iff] at e
  obtain ⟨⟨l, e1⟩, h1, h2⟩ := e
  refine hl F T env σ H l e1 S h1 _ fun vs H1 S1 s1 rv => ?_
  simp only [List.append_nil]
  exact xcall_run S1 s1 rv (hk _ _ _ h1) (by simpa only [Option.bind_eq_some_iff] using h2) q
def xCallK (M : FnS) (pm : List R → List R → List R) (fl fk : EvA) : EvX := fun env => (fl env).bind fun q => (fk q.2).bind fun w => (slArgs w.2 (pm q.1 w.1)).bind fun ss => if (ownSlots w.2 (pm q.1 w.1)).Nodup then (M ss).bind fun z => if ouOk ss z.2 = true then
    (match z.1 with | .val d => some (.inl (.val d), updO w.2 (pm q.1 w.1) z.2) | .new m => some (.inr m, updO w.2 (pm q.1 w.1) z.2)) else none else none
theorem ix_callK {M : FnS} {k : Nat} {E : XK} {t tk : TA} {fl fk : EvA} {gV : List V → List V → List V} {pm : List R → List R → List R} (hl : IA K t fl) (hkw : IA K tk fk)
    (hp : ∀ {F : Frm} {T : Addr → Prop} {H : Hp} {env : En} {σ : L2.St} {vs us : List V} {l w : List R}, RvAll K F T H env σ vs l → RvAll K F T H env σ us w → RvAll K F T H env σ (gV vs us) (pm l w))
    (hk : ∀ env l e1 w e2, fl env = some (l, e1) → fk e1 = some (w, e2) → (pm l w).length = k) : IX K (tCallK (spD K k M) gV E t tk) (xCallK M pm fl fk) := by
  intro F T env σ H r env' S e Q q
  simp only [xCallK, Option.bind_eq_some_iff] at e
  obtain ⟨⟨l, e1⟩, h1, ⟨w, e2⟩, h2, h3⟩ := e
  refine hl F T env σ H l e1 S h1 _ fun vs H1 S1 s1 rv => ?_
  refine hkw F T e1 σ H1 w e2 S1 h2 _ fun us H2 S2 s2 rw2 => ?_
  exact xcall_run S2 (s1.trans s2) (hp (rv.stp s2) rw2) (hk _ _ _ _ _ h1 h2) (by simpa only [Option.bind_eq_some_iff] using h3) q
def sSetX (i : Nat) (fx : EvX) : EvS := fun env => (fx env).bind fun p => match p.1 with
  | .inl r => (rk p.2 r).map fun d => (.nx, p.2.set i (some (.shr d)))
  | .inr m => some (.nx, p.2.set i (some (.own false m)))
theorem is_setX {i : Nat} (h : IX K te fx) : IS K (tAsg te (gName i)) (sSetX i fx) := by
  intro F env σ H fl env' S e Dn k
  simp only [sSetX, Option.bind_eq_some_iff] at e
  obtain ⟨⟨r, e1⟩, a1, a2⟩ := e
  refine h F T0 env σ H r e1 S a1 _ ?_
  cases r with
  | inl r =>
    simp only [Option.map_eq_some_iff] at a2
    obtain ⟨d, a3, a4⟩ := a2
    cases a4
    exact fun v H' S' st rv => k _ H' (S'.setS (rk_ok S' rv a3)) (st.q.trans S'.setS_q)
  | inr m =>
    cases a2
    intro p H' np S' st mu
    refine k _ H' (StOk.setM id S' (S.fresh0 np) mu) ⟨st.ext, fun b hb => ?_⟩
    rcases wr_set hb with hb | ⟨_, _, e, e2⟩
    · exact .inl (st.wr b hb)
    · cases e2; exact .inr np
def sRetX (fx : EvX) : EvS := fun env => (fx env).bind fun p => match p.1 with
  | .inl (.val d) => some (.rt (.val d), p.2)
  | .inl (.slot i) => (match slOf p.2 i with
    | some (.shr d) => some (.rt (.val d), p.2)
    | some (.own false m) => some (.rt (.new m), p.2)
    | _ => none)
  | .inr m => some (.rt (.new m), p.2)
theorem is_retX (h : IX K te fx) : IS K (tRet te) (sRetX fx) := by
  intro F env σ H fl env' S e Dn k
  simp only [sRetX, Option.bind_eq_some_iff] at e
  obtain ⟨⟨r, e1⟩, a1, a2⟩ := e
  refine h F T0 env σ H r e1 S a1 _ ?_
  cases r with
  | inr m => cases a2; exact fun p H' np S' st mu => k _ σ H' ⟨p, _, rfl, S.fresh0 np, S', .inr (.inl (.inr rfl)), mu⟩
  | inl r =>
    intro v H' S' st rv
    cases r with
    | val d => cases a2; exact k v σ H' ⟨S', rv⟩
    | slot i =>
      cases g : slOf e1 i with
      | none => simp [g] at a2
      | some s =>
        have g' := slOf_eq.mp g
        cases s with
        | shr d =>
          simp [g] at a2
          obtain ⟨rfl, rfl⟩ := a2
          obtain ⟨w, q1, q2⟩ := S'.shr i d g'
          rw [show σ[i]? = some (some v) from rv] at q1; cases q1
          exact k v σ H' ⟨S', q2⟩
        | own p m =>
          cases p with
          | true => simp [g] at a2
          | false =>
            simp [g] at a2
            obtain ⟨rfl, rfl⟩ := a2
            obtain ⟨a, q1, q2, q3⟩ := S'.own i false m g'
            rw [show σ[i]? = some (some v) from rv] at q1; cases q1
            exact k _ σ H' ⟨a, T0, rfl, by simpa using q3, S', .inr (.inr ⟨i, _, _, g', rv⟩), q2⟩
end
theorem fnD {P : Program} {w : World} {K : PySem.W.Frag} {mg : Str → Option Value} {base : Heap} {x qual : Str} {st : Stmt} {f : Addr} {fd : FuncData} {N ps : List Str} {k : Nat} {b : EvS} (F : Fun K x qual st f fd) (S : FnScope N ps (defScope st))
    (hbody : ∀ (cdv : Value) (A : Around) (outer : List Env) (s : Shared) (H : Hp) (E : XK), A.guards = some [] → Room k (A.deeper (envOfC qual (defScope st) s.heap.objs.size f cdv)) →
      ∃ t, PSs (cxOf CX0 P w K mg base N qual (defScope st) f cdv A outer s H E).nox (defBody st) t ∧ IS K t b) : FnG P w K mg base CX0 (k + 1) f fd ps (spD K ps.length (runB N.length b)) := by
  refine okG F S (fun vs H Q E h => ?_) (fun cdv A outer s H vs Q E hg hr h => ?_)
  · obtain ⟨O, ss, r, outs, hl, _⟩ := h; exact hl
  · obtain ⟨t, h1, h2⟩ := hbody cdv A outer s H E hg hr
    have hk : ps.length ≤ N.length := by have := congrArg List.length S.pre; rw [List.length_take] at this; omega
    exact ⟨t, h1, body_ok h2 hk h⟩
end GD

namespace GD
open PySem PySem.Spec PyProof.Rows L2
def iAny (K : PySem.W.Frag) (tl : TE) : TI := fun σ H R => tl σ H fun x H1 =>
  (∃ a xs, x = .ref a ∧ SqL K H1 a xs ∧ R (Itl K a) H1) ∨ (∃ a xs, x = .ref a ∧ SqT K H1 a xs ∧ R (Itt K a) H1) ∨ ∃ z, x = .str z ∧ R (Its z) H1
theorem pi_any {X : Cx} {tg l : Expr} {tl : TE} (hl : PE X l tl) : PI X tg l (iAny X.K tl) := by
  constructor
  intro pins s σ H R I h
  refine thn (hl.run pins s σ H _ I h) ?_
  rintro v s1 ⟨x, H1, I1, r1, q1⟩
  rcases q1 with ⟨a, xs, rfl, hq, q⟩ | ⟨a, xs, rfl, hq, q⟩ | ⟨z, rfl, q⟩
  · cases r1
    obtain ⟨its, rv, p, hz⟩ := I1.list hq
    exact wpAny_pyIter_list p.isList (pi_one (tk := s1.toks) I1 _ (turn_list a _) ⟨_, Heap.get?_push_size _ rfl, rfl, rfl⟩ q)
  · cases r1
    obtain ⟨its, rv, p, hz⟩ := I1.tuple hq
    exact wpAny_pyIter_tuple p (pi_one (tk := s1.toks) I1 _ (turn_tuple a _) ⟨_, Heap.get?_push_size _ rfl, rfl, rfl⟩ q)
  · obtain ⟨t, rfl⟩ := r1
    cases ha : z.cps.all (· < 128)
    · exact wpAny_pyIter_wide ha (pi_one (tk := s1.toks) I1 _ (turn_str _ z t "str_iterator" (.inr rfl)) ⟨_, Heap.get?_push_size _ rfl, rfl, rfl⟩ q)
    · exact wpAny_pyIter_ascii ha (pi_one (tk := s1.toks) I1 _ (turn_str _ z t "str_ascii_iterator" (.inl rfl)) ⟨_, Heap.get?_push_size _ rfl, rfl, rfl⟩ q)
def wAny (fe : EvE) : EvW := fun env => (fe env).bind fun p => (rk p.2 p.1).bind fun d => match d with
  | .list ds => some (ds, p.2)
  | .tuple ds => some (ds, p.2)
  | .str x => some (signs x, p.2)
  | _ => none
section
variable {K : PySem.W.Frag}
theorem jok_list {O : Addr → Prop} {H : Hp} {a : Addr} {xs : List V} {ds : List D} (he : H a = some (.lst xs)) (hn : ¬ O a) (hr : RpAll K O H xs ds) : JOk K (Itl K a) ds O H := fun O' H2 f kk hO => by
  have e2 := kk _ _ hn he
  have r2 := RpAll.tr f kk hr
  refine ⟨fun i d hi => ?_, fun i hi => ⟨_, .inl (.inl e2), by rw [r2.length]; exact hi⟩⟩
  obtain ⟨v, hv, rv⟩ := r2.get hi
  refine ⟨⟨_, v, .inl (.inl e2), hv⟩, fun x H' y => ?_⟩
  obtain ⟨rfl, y⟩ := y
  have := y _ (.inl (.inl e2))
  rw [hv] at this; cases this
  exact ⟨Ext.refl, rv⟩
theorem jok_tup {O : Addr → Prop} {H : Hp} {a : Addr} {xs : List V} {ds : List D} (he : TpA K O H a xs ds) (hr : RpAll K O H xs ds) : JOk K (Itt K a) ds O H := fun O' H2 f kk hO => by
  have e2 : SqT K H2 a xs := tup_tr f kk he
  have r2 := RpAll.tr f kk hr
  refine ⟨fun i d hi => ?_, fun i hi => ⟨_, e2, by rw [r2.length]; exact hi⟩⟩
  obtain ⟨v, hv, rv⟩ := r2.get hi
  refine ⟨⟨_, v, e2, hv⟩, fun x H' y => ?_⟩
  obtain ⟨rfl, y⟩ := y
  have := y _ e2
  rw [hv] at this; cases this
  exact ⟨Ext.refl, rv⟩
theorem jok_str {O : Addr → Prop} {H : Hp} {x : Str} : JOk K (Its x) (signs x) O H := fun O' H2 f kk hO => by
  refine ⟨fun i d hi => ?_, fun i hi => ?_⟩
  · unfold signs at hi
    rw [List.getElem?_map] at hi
    simp only [Option.map_eq_some_iff] at hi
    obtain ⟨c, hc, rfl⟩ := hi
    have hlt := (List.getElem?_eq_some_iff.mp hc).1
    refine ⟨(show i < x.cps.size by simpa using hlt), fun y H' hy => ?_⟩
    obtain ⟨rfl, c', hc', rfl⟩ := hy
    rw [← Array.getElem?_toList, hc] at hc'
    cases hc'
    exact ⟨Ext.refl, .str _⟩
  · exact (show x.cps.size ≤ i by simpa [signs] using hi)
theorem iw_any {te : TE} {fe : EvE} (h : IE K te fe) : IW K (iAny K te) (wAny fe) := by
  intro F T env σ H items env' S e R k
  simp only [wAny, Option.bind_eq_some_iff] at e
  obtain ⟨⟨r, e1⟩, h1, d, h2, h3⟩ := e
  refine h F T env σ H r e1 S h1 _ fun v H1 S1 s1 rv => ?_
  have rd := rk_ok S1 rv h2
  cases d with
  | list ds =>
    cases h3
    cases rd with
    | lst he hn hr => exact .inl ⟨_, _, rfl, .inl (.inl he), k _ H1 S1 s1 (jok_list he hn hr)⟩
  | tuple ds =>
    cases h3
    cases rd with
    | tup he hr => exact .inr (.inl ⟨_, _, rfl, he.1.imp (·.1) id, k _ H1 S1 s1 (jok_tup he hr)⟩)
  | str x =>
    cases h3
    exact .inr (.inr ⟨x, Rp.scS rd, k _ H1 S1 s1 jok_str⟩)
  | _ => cases h3
end
def spPen (K : PySem.W.Frag) : Sp := fun vs H Q _ => ∃ (a : Addr) (ns : List Int), vs = [.ref a] ∧ SqL K H a (ns.map V.int) ∧ ns.length ≤ 63 ∧
  ∀ p q H', H p = none → H q = none → p ≠ q → Ext (fun _ => False) H H' → H' q = some (.lst (ns.map V.int)) → H' p = some (.lst [.ref q, .int 0, .int 0]) → Q (.ref p) H'
abbrev tPenArg (K : PySem.W.Frag) : TE := tCB (fun xs H Q => ∃ p ys, xs = [.ref p] ∧ (SqL K H p ys ∨ SqT K H p ys) ∧ ∀ l, H l = none → Q (.ref l) (upd H l (.lst ys))) (tCons (tSl (rSlL K) (tVar 0) tNoPart (tPart (tC (.int 63)))) tNil)
theorem cut63 {xs : List V} (h : xs.length ≤ 63) : cutV xs none (some 63) = xs := by
  unfold cutV
  rw [HT.sIx_none, show (63 : Int) = ((63 : Nat) : Int) from rfl, HT.sIx_nat, List.drop_zero, Nat.min_eq_right h, Nat.sub_zero, List.take_length]
theorem pen_read {K : PySem.W.Frag} {N : List Str} {vs : List V} {H : Hp} {Q : VK} {E : XK} (h : spPen K vs H Q E) :
    tRet (tLst (tCons (tPenArg K) (tCons (tC (.int 0)) (tCons (tC (.int 0)) tNil)))) { nx := fun _ H' => Q .non H', rt := Q } (L2.start N vs) H := by
  obtain ⟨a, ns, rfl, hS, hl, q⟩ := h
  refine ⟨.ref a, start_get rfl, 63, rfl, a, _, rfl, hS, fun c nc => ⟨c, _, rfl, .inl (.inl (.inl upd_same)), fun l nl => ⟨by show 3 ≤ sizeLine; decide, fun p np => ?_⟩⟩⟩
  rw [cut63 (by simpa using hl)] at nl np ⊢
  have nlc : l ≠ c := fun e => by subst e; rw [upd_same] at nl; cases nl
  have npl : p ≠ l := fun e => by subst e; rw [upd_same] at np; cases np
  have npc : p ≠ c := fun e => by subst e; rw [upd_ne npl, upd_same] at np; cases np
  rw [upd_ne npl, upd_ne npc] at np
  rw [upd_ne nlc] at nl
  refine q p l _ np nl npl ?_ ?_ upd_same
  · refine ⟨fun b o e _ => ?_, fun b e => ?_⟩
    · rw [upd_ne (ne_of_none e np), upd_ne (ne_of_none e nl), upd_ne (ne_of_none e nc)]; exact e
    · cases h : H b with
      | none => exact absurd h e
      | some o => rw [upd_ne (ne_of_none h np), upd_ne (ne_of_none h nl), upd_ne (ne_of_none h nc), h]; simp
  · rw [upd_ne npl.symm, upd_same]
def penv (n : Nat) (ns : List Int) : En := none :: some (.own false (.l [.list (ns.map .int), .int 0, .int 0])) :: List.replicate (n - 2) none
theorem ints_rp {K : PySem.W.Frag} {O : Addr → Prop} {H : Hp} : ∀ ns : List Int, RpAll K O H (ns.map V.int) (ns.map .int)
  | [] => .nil
  | n :: ns => .cons (.int n) (ints_rp ns)
theorem law_read {K : PySem.W.Frag} {t : TS} {b : EvS} {N : List Str} {a : Addr} {ns : List Int} {H : Hp} {E : XK} (hN : 2 ≤ N.length) (hb : IS K t b) (hS : SqL K H a (ns.map V.int)) (hl : ns.length ≤ 63)
    (h : ∃ env', b (penv N.length ns) = some (.rt (.val (.bool true)), env')) :
    tSeq (tAsg (tCall (spPen K) [] E (tCons (tVar 0) tNil)) (gName 1)) t { nx := fun _ H' => (fun v (_ : Hp) => v = V.bl true) .non H', rt := fun v _ => v = V.bl true } (L2.start N [.ref a]) H := by
  obtain ⟨env', he⟩ := h
  refine ⟨.ref a, start_get rfl, a, ns, rfl, hS, hl, fun p q H' np nq pq x hq hp => ?_⟩
  let F : Frm := ⟨fun _ => False, fun _ => False, H, [.ref a]⟩
  have hst : (L2.start N [.ref a]).set 1 (some (.ref p)) = some (.ref a) :: some (.ref p) :: List.replicate (N.length - 2) none := by
    unfold L2.start
    obtain ⟨k, hk⟩ : ∃ k, N.length = k + 2 := ⟨N.length - 2, by omega⟩
    rw [hk]
    simp [List.replicate]
  show t _ ((L2.start N [.ref a]).set 1 (some (.ref p))) H'
  rw [hst]
  have own_at : ∀ (i : Nat) (s : Sl), (penv N.length ns)[i]? = some (some s) → i = 1 ∧ s = .own false (.l [.list (ns.map .int), .int 0, .int 0]) := by
    intro i s e
    unfold penv at e
    match i with
    | 0 => simp at e
    | 1 => simp at e; exact ⟨rfl, e.symm⟩
    | i + 2 =>
      rw [List.getElem?_cons_succ, List.getElem?_cons_succ, List.getElem?_replicate] at e
      split at e <;> cases e
  have wr : ∀ b, Wr (penv N.length ns) (some (V.ref a) :: some (.ref p) :: List.replicate (N.length - 2) none) b → b = p := by
    rintro b ⟨i, q, m, e, s⟩
    obtain ⟨rfl, _⟩ := own_at i _ e
    simpa using s.symm
  have ow : ¬ Ow F T0 (penv N.length ns) (some (V.ref a) :: some (.ref p) :: List.replicate (N.length - 2) none) q := by
    rintro (h | h | h)
    · exact h
    · exact h
    · exact pq (wr q h).symm
  have S : StOk K F T0 H' (penv N.length ns) (some (V.ref a) :: some (.ref p) :: List.replicate (N.length - 2) none) := by
    refine ⟨by simp [penv], fun i d e => ?_, fun i q' m e => ?_, fun i j p1 q1 m n a e1 e2 s1 s2 => ?_, x, fun _ h => h.elim, fun _ h => h.elim, fun _ h => h.elim, fun _ h => h.elim⟩
    · have := (own_at i _ e).2; cases this
    · obtain ⟨rfl, hs⟩ := own_at i _ e
      cases hs
      exact ⟨p, rfl, ⟨_, hp, .cons (.lst hq ow (ints_rp ns)) (.cons (.int 0) (.cons (.int 0) .nil))⟩, by simpa using np⟩
    · rw [(own_at i _ e1).1, (own_at j _ e2).1]
  refine hb F _ _ H' _ env' S he _ ?_
  rintro v σ' H2 ⟨_, r⟩
  exact Rp.scB r
end GD

namespace GD
open PySem PySem.Spec PyProof.Rows L2
section
variable {X : Cx} {CX : CXT} {k : Nat} {f : Addr} {fd : FuncData} {ps ks : List Str} {sp : Sp}
variable {E : XK} {x : Str} {p pos : Pos} {e : Expr} {es : List Expr} {t tk : TA} {kws : List Keyword}
variable {g : List Value → List Value → List Value} {gV : List V → List V → List V}
theorem pe_callGK (F : FnG X.prog X.w X.K X.mg X.base CX k f fd ps sp) (hgd : X.A.guards = some []) (hr : Room k X.A) (hg : Gl X x)
    (hm : X.mg x = some (.ref f)) (hk : PySem.W.keepIn X.K (.ref f) = true) (hb : KBinds X.K fd ps ks g gV) (hx : Passes CX X E)
    (ha : PA X (e :: es) t) (hkw : PK X kws tk) (hall : (backToKw pos (keywordEach kws X.env)).all (·.1.isSome) = true := by rfl)
    (hks : (backToKw pos (keywordEach kws X.env)).filterMap (·.1) = ks := by rfl)
    (hdb : (x == ("__debug__" : Str)) = false := by decide)
    (he : starEach (e :: es) X.env = (false, eval e X.env) :: starEach es X.env := by rfl)
    (hpl : ((backTo pos (starEach (e :: es) X.env)).any (·.1) || (backToKw pos (keywordEach kws X.env)).any (·.1.isNone)) = false := by rfl) :
    PE X (.Call (.Name x p) (e :: es) kws pos) (tCallK sp gV E t tk) := by
  constructor
  intro pins s σ H Q I h
  refine wpAny_Call_Name_kw (ld_glob I hg hm ?_ hdb)
  refine PySem.W.callWith_KW (h₀ := X.base) I.ok.mod.kin hk hall (thn (ha.run pos pins s σ H _ I h) ?_) hpl he
  rintro us s1 ⟨vs, H1, I1, r, q⟩
  refine thn (hkw.run pos pins s1 σ H1 _ I1 q) ?_
  rintro ws s2 ⟨zs, H2, I2, rz, q2⟩
  refine ⟨I2.kIn, ?_⟩
  rw [hks]
  exact run_gk F hgd hr hb hx I2 r rz q2
end
def appV : List V → List V → List V := fun a b => a ++ b
def appR : List R → List R → List R := fun a b => a ++ b
theorem appR_ok {K : PySem.W.Frag} {F : Frm} {T : Addr → Prop} {H : Hp} {env : En} {σ : L2.St} : ∀ {vs us : List V} {l w : List R}, RvAll K F T H env σ vs l → RvAll K F T H env σ us w → RvAll K F T H env σ (appV vs us) (appR l w)
  | [], _, [], _, _, h => h
  | _ :: _, _, _ :: _, _, h, q => ⟨h.1, appR_ok (vs := _) h.2 q⟩
  | [], _, _ :: _, _, h, _ => h.elim
  | _ :: _, _, [], _, h, _ => h.elim
end GD

namespace GD
open PySem PySem.Spec PyProof.Rows L2
def exN (kvs : List (D × D)) (b : Bool) : Option Bool := if isExc (.dict kvs) = true then none else some b
theorem exN_ok {kvs : List (D × D)} {b c : Bool} (h : exN kvs b = some c) : isExc (.dict kvs) = false ∧ c = b := by
  unfold exN at h
  split at h
  · cases h
  · rename_i n
    exact ⟨by simpa using n, (Option.some.inj h).symm⟩
def kIs_str : D → Option Bool
  | .str _ => some true
  | .dict kvs => exN kvs false
  | _ => some false
def kIs_tuple : D → Option Bool
  | .tuple _ => some true
  | .dict kvs => exN kvs false
  | _ => some false
def kIs_int : D → Option Bool
  | .int _ => some true
  | .bool _ => some true
  | .dict kvs => exN kvs false
  | _ => some false
def kIs_bool : D → Option Bool
  | .bool _ => some true
  | .dict kvs => exN kvs false
  | _ => some false
section
variable {K : PySem.W.Frag}
theorem kis_str : ∀ d b, kIs_str d = some b → isExc d = false ∧ PySem.W.kitOne K (.type (tyName d)) (.type "str") = some b := by
  intro d b h
  cases d <;> first
    | (cases h; exact ⟨rfl, by kernel_rfl⟩)
    | (obtain ⟨h1, rfl⟩ := exN_ok h; exact ⟨h1, by kernel_rfl⟩)
theorem kis_tuple : ∀ d b, kIs_tuple d = some b → isExc d = false ∧ PySem.W.kitOne K (.type (tyName d)) (.type "tuple") = some b := by
  intro d b h
  cases d <;> first
    | (cases h; exact ⟨rfl, by kernel_rfl⟩)
    | (obtain ⟨h1, rfl⟩ := exN_ok h; exact ⟨h1, by kernel_rfl⟩)
theorem kis_int : ∀ d b, kIs_int d = some b → isExc d = false ∧ PySem.W.kitOne K (.type (tyName d)) (.type "int") = some b := by
  intro d b h
  cases d <;> first
    | (cases h; exact ⟨rfl, by kernel_rfl⟩)
    | (obtain ⟨h1, rfl⟩ := exN_ok h; exact ⟨h1, by kernel_rfl⟩)
theorem kis_bool : ∀ d b, kIs_bool d = some b → isExc d = false ∧ PySem.W.kitOne K (.type (tyName d)) (.type "bool") = some b := by
  intro d b h
  cases d <;> first
    | (cases h; exact ⟨rfl, by kernel_rfl⟩)
    | (obtain ⟨h1, rfl⟩ := exN_ok h; exact ⟨h1, by kernel_rfl⟩)
theorem room65 {k : Nat} {A : Around} (hr : Room k A) : A.units + 65 < cLine := by have := hr.un; omega
theorem pe_gint {X : Cx} {x : Str} {i : Int} {t : Tok} {pos : Pos} (hg : Gl X x) (hm : X.mg x = some (.int i t)) (hd : (x == ("__debug__" : Str)) = false := by decide) : PE X (.Name x pos) (tC (.int i)) := pe_glob hg hm ⟨t, rfl⟩ hd
theorem pe_gstr {X : Cx} {x : Str} {i : Str} {t : Tok} {pos : Pos} (hg : Gl X x) (hm : X.mg x = some (.str i t)) (hd : (x == ("__debug__" : Str)) = false := by decide) : PE X (.Name x pos) (tC (.str i)) := pe_glob hg hm ⟨t, rfl⟩ hd
theorem pe_bty {X : Cx} (Ty : String) {x : Str} {pos : Pos} (hg : Gl X x) (hm : X.mg x = none) (hv : bootBuiltins x = some (.type Ty)) (hn : x ≠ "__name__" := by decide) (hd : (x == ("__debug__" : Str)) = false := by decide) : PE X (.Name x pos) (tC (.ty Ty)) := pe_bltn hg hm hv rfl hn hd
end
end GD

namespace GD
open PySem PySem.Spec PyProof.Rows L2
section
variable {env e env' : En} {f g : EvS} {fe fa fb fc : EvE} {fx fy : EvX} {fm : EvM} {ft fu : EvT} {fl : EvA} {d d' z : D} {r r' : R} {b : Bool} {m : Mu} {ds es : List D} {l : List R} {x : Sum R Mu} {i j : Nat} {s : Sl} {o : Option Sl}
theorem sl_0 {l : En} : slOf (o :: l) 0 = o := by unfold slOf; simp
theorem sl_s {l : En} : slOf (o :: l) (i + 1) = slOf l i := by unfold slOf; simp
def seqR : Option (Fl × En) → EvS → Option (Fl × En)
  | some (.nx, e), g => g e
  | some (.bk, e), _ => some (.bk, e)
  | some (.ct, e), _ => some (.ct, e)
  | some (.rt r, e), _ => some (.rt r, e)
  | none, _ => none
theorem q_seq : sSeq f g env = seqR (f env) g := by
  unfold sSeq; cases h : f env with
  | none => rfl
  | some p => obtain ⟨fl, e⟩ := p; cases fl <;> rfl
theorem q_seq1 : seqR (some (.nx, e)) g = g e := rfl
theorem q_seq2 {q : Ret} : seqR (some (.rt q, e)) g = some (.rt q, e) := rfl
theorem q_seq3 : seqR (some (.bk, e)) g = some (.bk, e) := rfl
theorem q_seq4 : seqR (some (.ct, e)) g = some (.ct, e) := rfl
theorem q_next : sNext env = some (.nx, env) := rfl
theorem q_retN : sRetN env = some (.rt (.val .none), env) := rfl
def ifR : Option (Bool × En) → EvS → EvS → Option (Fl × En)
  | some (true, e), f, _ => f e
  | some (false, e), _, g => g e
  | none, _, _ => none
theorem q_if : sIf ft f g env = ifR (ft env) f g := by
  unfold sIf; cases h : ft env with
  | none => rfl
  | some p => obtain ⟨b, e⟩ := p; cases b <;> rfl
theorem q_if1 : ifR (some (true, e)) f g = f e := rfl
theorem q_if2 : ifR (some (false, e)) f g = g e := rfl
def setR (i : Nat) : Option (Sum R Mu × En) → Option (Fl × En)
  | some (.inl r, e) => (rk e r).map fun d => (.nx, e.set i (some (.shr d)))
  | some (.inr m, e) => some (.nx, e.set i (some (.own false m)))
  | none => none
theorem q_set : sSetX i fx env = setR i (fx env) := by
  unfold sSetX; cases h : fx env with
  | none => rfl
  | some p => obtain ⟨x, e⟩ := p; cases x <;> rfl
theorem q_set1 : setR i (some (.inl (.val d), e)) = some (.nx, e.set i (some (.shr d))) := rfl
theorem q_set2 : setR i (some (.inr m, e)) = some (.nx, e.set i (some (.own false m))) := rfl
theorem q_set3 : setR i (some (.inl (.slot j), e)) = (rk e (.slot j)).map fun d => (.nx, e.set i (some (.shr d))) := rfl
def retR2 (e : En) : Option Sl → Option (Fl × En)
  | some (.shr d) => some (.rt (.val d), e)
  | some (.own false m) => some (.rt (.new m), e)
  | _ => none
def retR : Option (Sum R Mu × En) → Option (Fl × En)
  | some (.inl (.val d), e) => some (.rt (.val d), e)
  | some (.inl (.slot i), e) => retR2 e (slOf e i)
  | some (.inr m, e) => some (.rt (.new m), e)
  | none => none
theorem q_ret : sRetX fx env = retR (fx env) := by
  unfold sRetX; cases h : fx env with
  | none => rfl
  | some p =>
    obtain ⟨x, e⟩ := p
    cases x with
    | inr m => rfl
    | inl r =>
      cases r with
      | val d => rfl
      | slot i =>
        simp only [Option.bind_some, retR]
        cases hs : slOf e i with
        | none => rfl
        | some s => cases s with
          | shr d => rfl
          | own p m => cases p <;> rfl
theorem q_ret1 : retR (some (.inl (.val d), e)) = some (.rt (.val d), e) := rfl
theorem q_ret2 : retR (some (.inl (.slot i), e)) = retR2 e (slOf e i) := rfl
theorem q_ret3 : retR (some (.inr m, e)) = some (.rt (.new m), e) := rfl
theorem q_ret4 : retR2 e (some (.shr d)) = some (.rt (.val d), e) := rfl
theorem q_ret5 : retR2 e (some (.own false m)) = some (.rt (.new m), e) := rfl
def dropR : Option (R × En) → Option (Fl × En)
  | some (_, e) => some (.nx, e)
  | none => none
theorem q_drop : sDrop fe env = dropR (fe env) := by unfold sDrop; cases fe env <;> rfl
theorem q_drop1 : dropR (some (r, e)) = some (.nx, e) := rfl
def putR2 (gp : Mu → D → D → Option Mu) (i : Nat) (r : R) (e0 : En) : Option (R × En) → Option (Fl × En)
  | some (k, e) => (rk e r).bind fun d => (rk e k).bind fun kd => (ownOf e0 i).bind fun _ => (ownOf e i).bind fun o => (gp o.2 kd d).map fun m => (.nx, e.set i (some (.own o.1 m)))
  | none => none
def putR (gp : Mu → D → D → Option Mu) (i : Nat) (fk : EvE) : Option (R × En) → Option (Fl × En)
  | some (r, e) => putR2 gp i r e (fk e)
  | none => none
variable {gp : Mu → D → D → Option Mu} {fk : EvE}
theorem q_put : sPut gp i fk fe env = putR gp i fk (fe env) := by
  unfold sPut; cases h : fe env with
  | none => rfl
  | some p =>
    simp only [Option.bind_some, putR]
    cases h2 : fk p.2 <;> rfl
theorem q_put1 : putR gp i fk (some (r, e)) = putR2 gp i r e (fk e) := rfl
theorem q_put2 {k : D} {e0 : En} : putR2 gp i (.val d) e0 (some (.val k, e)) = (ownOf e0 i).bind fun _ => (ownOf e i).bind fun o => (gp o.2 k d).map fun m => (.nx, e.set i (some (.own o.1 m))) := rfl
theorem q_own {p : Bool} (h : slOf env i = some (.own p m)) : ownOf env i = some (p, m) := by unfold ownOf; rw [h]
theorem q_own0 {p : Bool} {l : En} : ownOf (some (.own p m) :: l) 0 = some (p, m) := q_own sl_0
theorem q_ownS {l : En} : ownOf (o :: l) (i + 1) = ownOf l i := by unfold ownOf; rw [sl_s]
variable {tg : D → En → Option En}
theorem q_gN : gN i d env = some (env.set i (some (.shr d))) := rfl
def augR (gg : D → D → Option D) (i : Nat) : Option Sl → Option (R × En) → Option (Fl × En)
  | some (.shr d), some (r, e) => (rs e r).bind fun y => (gg d y).map fun z => (.nx, e.set i (some (.shr z)))
  | _, _ => none
variable {gg : D → D → Option D}
theorem q_aug : sAug gg i fe env = augR gg i (slOf env i) (fe env) := by
  unfold sAug; cases h : fe env with
  | none => cases slOf env i with
    | none => rfl
    | some s => cases s <;> rfl
  | some p => cases slOf env i with
    | none => rfl
    | some s => cases s <;> rfl
theorem q_aug1 : augR gg i (some (.shr d)) (some (.val d', e)) = (gg d d').map fun z => (.nx, e.set i (some (.shr z))) := rfl
def forR (tg : D → En → Option En) (f : EvS) : Option (List D × En) → Option (Fl × En)
  | some (ds, e) => forE tg f ds e
  | none => none
variable {fw : EvW}
theorem q_for : sFor fw tg f env = forR tg f (fw env) := by unfold sFor; cases h : fw env <;> rfl
theorem q_for1 : forR tg f (some (ds, e)) = forE tg f ds e := rfl
theorem q_for0 : forE tg f [] env = some (.nx, env) := rfl
def forK (tg : D → En → Option En) (f : EvS) (ds : List D) : Option (Fl × En) → Option (Fl × En)
  | some (.nx, e) => forE tg f ds e
  | some (.ct, e) => forE tg f ds e
  | some (.bk, e) => some (.nx, e)
  | some (.rt r, e) => some (.rt r, e)
  | none => none
def forB (tg : D → En → Option En) (f : EvS) (ds : List D) : Option En → Option (Fl × En)
  | some e => forK tg f ds (f e)
  | none => none
theorem q_forc : forE tg f (d :: ds) env = forB tg f ds (tg d env) := by
  unfold forE; cases h : tg d env with
  | none => rfl
  | some e =>
    simp only [Option.bind_some, forB]
    cases h2 : f e with
    | none => rfl
    | some p => obtain ⟨fl, e2⟩ := p; cases fl <;> rfl
theorem q_forb : forB tg f ds (some e) = forK tg f ds (f e) := rfl
theorem q_fork1 : forK tg f ds (some (.nx, e)) = forE tg f ds e := rfl
theorem q_fork2 : forK tg f ds (some (.ct, e)) = forE tg f ds e := rfl
theorem q_fork3 : forK tg f ds (some (.bk, e)) = some (.nx, e) := rfl
theorem q_fork4 {q : Ret} : forK tg f ds (some (.rt q, e)) = some (.rt q, e) := rfl
def whR (c : EvT) (b : EvS) (n : Nat) : Option (Fl × En) → Option (Fl × En)
  | some (.nx, e) => whE c b n e
  | some (.ct, e) => whE c b n e
  | some (.bk, e) => some (.nx, e)
  | some (.rt r, e) => some (.rt r, e)
  | none => none
def whT (c : EvT) (b : EvS) (n : Nat) : Option (Bool × En) → Option (Fl × En)
  | some (true, e) => whR c b n (b e)
  | some (false, e) => some (.nx, e)
  | none => none
theorem q_wh {n : Nat} : whE ft f (n + 1) env = whT ft f n (ft env) := by
  unfold whE; cases h : ft env with
  | none => rfl
  | some p =>
    obtain ⟨b, e⟩ := p
    cases b with
    | false => rfl
    | true =>
      simp only [Option.bind_some, if_true, whT]
      cases h2 : f e with
      | none => rfl
      | some p => obtain ⟨fl, e2⟩ := p; cases fl <;> rfl
theorem q_wh1 {n : Nat} : whT ft f n (some (true, e)) = whR ft f n (f e) := rfl
theorem q_wh2 {n : Nat} : whT ft f n (some (false, e)) = some (.nx, e) := rfl
theorem q_wh3 {n : Nat} : whR ft f n (some (.nx, e)) = whE ft f n e := rfl
theorem q_wh4 {n : Nat} {q : Ret} : whR ft f n (some (.rt q, e)) = some (.rt q, e) := rfl
def varR (env : En) (i : Nat) : Option Sl → Option (R × En)
  | some (.shr d) => some (.val d, env)
  | some (.own _ _) => some (.slot i, env)
  | none => none
theorem q_var : eVar i env = varR env i (slOf env i) := by
  unfold eVar varR; cases slOf env i with
  | none => rfl
  | some s => cases s <;> rfl
theorem q_var1 : varR env i (some (.shr d)) = some (.val d, env) := rfl
theorem q_var2 {p : Bool} : varR env i (some (.own p m)) = some (.slot i, env) := rfl
def giveR (env : En) (i : Nat) : Option Sl → Option (R × En)
  | some (.shr d) => some (.val d, env)
  | some (.own false m) => some (.val m.toD, env.set i (some (.shr m.toD)))
  | _ => none
theorem q_give : eGive i env = giveR env i (slOf env i) := by
  unfold eGive giveR; cases slOf env i with
  | none => rfl
  | some s => cases s with
    | shr d => rfl
    | own p m => cases p <;> rfl
theorem q_give1 : giveR env i (some (.shr d)) = some (.val d, env) := rfl
theorem q_give2 : giveR env i (some (.own false m)) = some (.val m.toD, env.set i (some (.shr m.toD))) := rfl
theorem q_toL : (Mu.l ds).toD = .list ds := rfl
theorem q_c : eC d env = some (.val d, env) := rfl
theorem q_rsv : rs env (.val d) = some d := rfl
def rsR : Option Sl → Option D
  | some (.own _ m) => some m.toD
  | some (.shr d) => some d
  | none => none
theorem q_rss : rs env (.slot i) = rsR (slOf env i) := by
  cases h : slOf env i with
  | none => simp [rs, rsR, h]
  | some s => cases s <;> simp [rs, rsR, h]
theorem q_rss1 {p : Bool} : rsR (some (.own p m)) = some m.toD := rfl
theorem q_rss2 : rsR (some (.shr d)) = some d := rfl
theorem q_rkv : rk env (.val d) = some d := rfl
def eXR : Option (Sum R Mu × En) → Option (R × En)
  | some (.inl r, e) => some (r, e)
  | some (.inr m, e) => some (.val m.toD, e)
  | none => none
theorem q_eX : eX fx env = eXR (fx env) := by
  unfold eX; cases h : fx env with
  | none => rfl
  | some p => obtain ⟨x, e⟩ := p; cases x <;> rfl
theorem q_eX1 : eXR (some (.inl r, e)) = some (r, e) := rfl
theorem q_eX2 : eXR (some (.inr m, e)) = some (.val m.toD, e) := rfl
def xER : Option (R × En) → Option (Sum R Mu × En)
  | some (r, e) => some (.inl r, e)
  | none => none
theorem q_xE : xE fe env = xER (fe env) := by unfold xE; cases fe env <;> rfl
theorem q_xE1 : xER (some (r, e)) = some (.inl r, e) := rfl
def xMR : Option (Mu × En) → Option (Sum R Mu × En)
  | some (r, e) => some (.inr r, e)
  | none => none
theorem q_xM : xM fm env = xMR (fm env) := by unfold xM; cases fm env <;> rfl
theorem q_xM1 : xMR (some (m, e)) = some (.inr m, e) := rfl
def e1R2 (e : En) : Option D → Option (D × En)
  | some d => some (d, e)
  | none => none
def e1R : Option (R × En) → Option (D × En)
  | some (r, e) => e1R2 e (rs e r)
  | none => none
theorem q_e1 : e1 fa env = e1R (fa env) := by
  unfold e1; cases h : fa env with
  | none => rfl
  | some p => simp only [Option.bind_some, e1R]; cases rs p.2 p.1 <;> rfl
theorem q_e11 : e1R (some (r, e)) = e1R2 e (rs e r) := rfl
theorem q_e12 : e1R2 e (some d) = some (d, e) := rfl
def e2R3 (e : En) : Option D → Option D → Option (D × D × En)
  | some d, some d' => some (d, d', e)
  | _, _ => none
def e2R2 (r : R) : Option (R × En) → Option (D × D × En)
  | some (r', e) => e2R3 e (rs e r) (rs e r')
  | none => none
def e2R (fb : EvE) : Option (R × En) → Option (D × D × En)
  | some (r, e) => e2R2 r (fb e)
  | none => none
theorem q_e2 : e2 fa fb env = e2R fb (fa env) := by
  unfold e2; cases h : fa env with
  | none => rfl
  | some p =>
    simp only [Option.bind_some, e2R]
    cases h2 : fb p.2 with
    | none => rfl
    | some q => simp only [Option.bind_some, e2R2]; cases rs q.2 p.1 <;> cases rs q.2 q.1 <;> rfl
theorem q_e21 : e2R fb (some (r, e)) = e2R2 r (fb e) := rfl
theorem q_e22 : e2R2 r (some (r', e)) = e2R3 e (rs e r) (rs e r') := rfl
theorem q_e23 : e2R3 e (some d) (some d') = some (d, d', e) := rfl
def vR (e : En) : Option D → Option (R × En)
  | some d => some (.val d, e)
  | none => none
theorem q_v : vR e (some d) = some (.val d, e) := rfl
def opR (gg : D → D → Option D) : Option (D × D × En) → Option (R × En)
  | some (d, d', e) => vR e (gg d d')
  | none => none
theorem q_op : eOp gg fa fb env = opR gg (e2 fa fb env) := by
  unfold eOp; cases h : e2 fa fb env with
  | none => rfl
  | some p => simp only [Option.bind_some, opR]; cases gg p.1 p.2.1 <;> rfl
theorem q_op1 : opR gg (some (d, d', e)) = vR e (gg d d') := rfl
def xopR2 (e : En) : Option (Sum D Mu) → Option (Sum R Mu × En)
  | some (.inl d) => some (.inl (.val d), e)
  | some (.inr m) => some (.inr m, e)
  | none => none
def xopR (gg : D → D → Option (Sum D Mu)) : Option (D × D × En) → Option (Sum R Mu × En)
  | some (d, d', e) => xopR2 e (gg d d')
  | none => none
variable {gx : D → D → Option (Sum D Mu)}
theorem q_xop : xOp gx fa fb env = xopR gx (e2 fa fb env) := by
  unfold xOp; cases h : e2 fa fb env with
  | none => rfl
  | some p =>
    simp only [Option.bind_some, xopR]
    cases gx p.1 p.2.1 with
    | none => rfl
    | some z => cases z <;> rfl
theorem q_xop1 : xopR gx (some (d, d', e)) = xopR2 e (gx d d') := rfl
theorem q_xop2 : xopR2 e (some (.inl d)) = some (.inl (.val d), e) := rfl
theorem q_xop3 : xopR2 e (some (.inr m)) = some (.inr m, e) := rfl
variable {g1 : D → Option D}
def unR (g1 : D → Option D) : Option (D × En) → Option (R × En)
  | some (d, e) => vR e (g1 d)
  | none => none
theorem q_un : eUn g1 fa env = unR g1 (e1 fa env) := by
  unfold eUn; cases h : e1 fa env with
  | none => rfl
  | some p => simp only [Option.bind_some, unR]; cases g1 p.1 <;> rfl
theorem q_un1 : unR g1 (some (d, e)) = vR e (g1 d) := rfl
def tvR : Option (D × En) → Option (Bool × En)
  | some (.bool b, e) => some (b, e)
  | _ => none
theorem q_tv : tVal fe env = tvR (e1 fe env) := by
  unfold tVal; cases h : e1 fe env with
  | none => rfl
  | some p => obtain ⟨d, e⟩ := p; cases d <;> rfl
theorem q_tv1 : tvR (some (.bool b, e)) = some (b, e) := rfl
def andR (fu : EvT) : Option (Bool × En) → Option (Bool × En)
  | some (true, e) => fu e
  | some (false, e) => some (false, e)
  | none => none
theorem q_and : tfAnd ft fu env = andR fu (ft env) := by
  unfold tfAnd; cases h : ft env with
  | none => rfl
  | some p => obtain ⟨b, e⟩ := p; cases b <;> rfl
theorem q_and1 : andR fu (some (true, e)) = fu e := rfl
theorem q_and2 : andR fu (some (false, e)) = some (false, e) := rfl
def orR (fu : EvT) : Option (Bool × En) → Option (Bool × En)
  | some (true, e) => some (true, e)
  | some (false, e) => fu e
  | none => none
theorem q_or : tfOr ft fu env = orR fu (ft env) := by
  unfold tfOr; cases h : ft env with
  | none => rfl
  | some p => obtain ⟨b, e⟩ := p; cases b <;> rfl
theorem q_or1 : orR fu (some (true, e)) = some (true, e) := rfl
theorem q_or2 : orR fu (some (false, e)) = fu e := rfl
def notR : Option (Bool × En) → Option (Bool × En)
  | some (b, e) => some (!b, e)
  | none => none
theorem q_not : tfNot ft env = notR (ft env) := by unfold tfNot; cases ft env <;> rfl
theorem q_not1 : notR (some (b, e)) = some (!b, e) := rfl
theorem q_yes : tYesE env = some (true, env) := rfl
def xifR (fx fy : EvX) : Option (Bool × En) → Option (Sum R Mu × En)
  | some (true, e) => fx e
  | some (false, e) => fy e
  | none => none
theorem q_xif : xIf ft fx fy env = xifR fx fy (ft env) := by
  unfold xIf; cases h : ft env with
  | none => rfl
  | some p => obtain ⟨b, e⟩ := p; cases b <;> rfl
theorem q_xif1 : xifR fx fy (some (true, e)) = fx e := rfl
theorem q_xif2 : xifR fx fy (some (false, e)) = fy e := rfl
def isNR (k : Bool) : Option (D × En) → Option (R × En)
  | some (d, e) => some (.val (.bool (if k then !isN d else isN d)), e)
  | none => none
theorem q_isN : eIsN fa env = isNR false (e1 fa env) := by unfold eIsN; cases e1 fa env <;> rfl
theorem q_notN : eNotN fa env = isNR true (e1 fa env) := by unfold eNotN; cases e1 fa env <;> rfl
theorem q_isN1 : isNR false (some (d, e)) = some (.val (.bool (isN d)), e) := rfl
theorem q_isN2 : isNR true (some (d, e)) = some (.val (.bool (!isN d)), e) := rfl
theorem q_n0 : isN .none = true := rfl
theorem q_n1 {k : Int} : isN (.int k) = false := rfl
theorem q_n2 {k : Str} : isN (.str k) = false := rfl
theorem q_n3 : isN (.list ds) = false := rfl
theorem q_n4 : isN (.tuple ds) = false := rfl
theorem q_n5 : isN (.bool b) = false := rfl
theorem q_nil : aNil env = some ([], env) := rfl
def consR2 (r : R) : Option (List R × En) → Option (List R × En)
  | some (l, e) => some (r :: l, e)
  | none => none
def consR (fl : EvA) : Option (R × En) → Option (List R × En)
  | some (r, e) => consR2 r (fl e)
  | none => none
theorem q_cons : aCons fa fl env = consR fl (fa env) := by
  unfold aCons; cases h : fa env with
  | none => rfl
  | some p => simp only [Option.bind_some, consR]; cases fl p.2 <;> rfl
theorem q_cons1 : consR fl (some (r, e)) = consR2 r (fl e) := rfl
theorem q_cons2 : consR2 r (some (l, e)) = some (r :: l, e) := rfl
def laR (e : En) : Option (List D) → Option (List D × En)
  | some ds => some (ds, e)
  | none => none
theorem q_la : laR e (some ds) = some (ds, e) := rfl
def eAR : Option (List R × En) → Option (List D × En)
  | some (l, e) => laR e (rsA e l)
  | none => none
theorem q_eA : eA fl env = eAR (fl env) := by
  unfold eA; cases h : fl env with
  | none => rfl
  | some p => simp only [Option.bind_some, eAR]; cases rsA p.2 p.1 <;> rfl
theorem q_eA1 : eAR (some (l, e)) = laR e (rsA e l) := rfl
def eKR : Option (List R × En) → Option (List D × En)
  | some (l, e) => laR e (rkA e l)
  | none => none
theorem q_eK : eK fl env = eKR (fl env) := by
  unfold eK; cases h : fl env with
  | none => rfl
  | some p => simp only [Option.bind_some, eKR]; cases rkA p.2 p.1 <;> rfl
theorem q_eK1 : eKR (some (l, e)) = laR e (rkA e l) := rfl
def lcR : Option D → Option (List D) → Option (List D)
  | some d, some ds => some (d :: ds)
  | _, _ => none
theorem q_lc : lcR (some d) (some ds) = some (d :: ds) := rfl
theorem q_rsA0 : rsA env [] = some [] := rfl
theorem q_rsA : rsA env (r :: l) = lcR (rs env r) (rsA env l) := by rw [rsA]; cases rs env r <;> cases rsA env l <;> rfl
theorem q_rkA0 : rkA env [] = some [] := rfl
theorem q_rkA : rkA env (r :: l) = lcR (rk env r) (rkA env l) := by rw [rkA]; cases rk env r <;> cases rkA env l <;> rfl
def tupR : Option (List D × En) → Option (R × En)
  | some (ds, e) => if small ds.length = true then some (.val (.tuple ds), e) else none
  | none => none
theorem q_tup : eTup fl env = tupR (eK fl env) := by unfold eTup; cases eK fl env <;> rfl
theorem q_tup1 (h : ds.length ≤ 1000000) : tupR (some (ds, e)) = some (.val (.tuple ds), e) := if_pos (decide_eq_true h)
def lstR : Option (List D × En) → Option (Mu × En)
  | some (ds, e) => if small ds.length = true then some (.l ds, e) else none
  | none => none
theorem q_lst : eLst fl env = lstR (eK fl env) := by unfold eLst; cases eK fl env <;> rfl
theorem q_lst1 (h : ds.length ≤ 1000000) : lstR (some (ds, e)) = some (.l ds, e) := if_pos (decide_eq_true h)
variable {gc : List D → Option D} {gm : List D → Option Mu}
def caR (gc : List D → Option D) : Option (List D × En) → Option (R × En)
  | some (ds, e) => vR e (gc ds)
  | none => none
theorem q_ca : eCa gc fl env = caR gc (eA fl env) := by
  unfold eCa; cases h : eA fl env with
  | none => rfl
  | some p => simp only [Option.bind_some, caR]; cases gc p.1 <;> rfl
theorem q_ca1 : caR gc (some (ds, e)) = vR e (gc ds) := rfl
def mR (e : En) : Option Mu → Option (Mu × En)
  | some m => some (m, e)
  | none => none
theorem q_m : mR e (some m) = some (m, e) := rfl
def camR (gm : List D → Option Mu) : Option (List D × En) → Option (Mu × En)
  | some (ds, e) => mR e (gm ds)
  | none => none
theorem q_cam : eCaM gm fl env = camR gm (eA fl env) := by
  unfold eCaM; cases h : eA fl env with
  | none => rfl
  | some p => simp only [Option.bind_some, camR]; cases gm p.1 <;> rfl
theorem q_cam1 : camR gm (some (ds, e)) = mR e (gm ds) := rfl
def isiR2 (e : En) : Option Bool → Option (R × En)
  | some b => some (.val (.bool b), e)
  | none => none
theorem q_isi2 : isiR2 e (some b) = some (.val (.bool b), e) := rfl
def isiR (k : D → Option Bool) : Option (D × En) → Option (R × En)
  | some (d, e) => isiR2 e (k d)
  | none => none
theorem q_isi {T : String} {k : D → Option Bool} : eIsi T k fe env = isiR k (e1 fe env) := by
  unfold eIsi; cases h : e1 fe env with
  | none => rfl
  | some p => simp only [Option.bind_some, isiR]; cases k p.1 <;> rfl
theorem q_isi1 {k : D → Option Bool} : isiR k (some (d, e)) = isiR2 e (k d) := rfl
variable {gt : Mu → List D → Option (Mu × D)}
def mtR3 (i : Nat) (p : Bool) (e : En) : Option (Mu × D) → Option (R × En)
  | some (m, z) => some (.val z, e.set i (some (.own p m)))
  | none => none
def mtR2 (gt : Mu → List D → Option (Mu × D)) (i : Nat) : Option (Bool × Mu) → Option (List D × En) → Option (R × En)
  | some (p, m), some (ds, e) => mtR3 i p e (gt m ds)
  | _, _ => none
def mtR (gt : Mu → List D → Option (Mu × D)) (i : Nat) : Option (List D × En) → Option (R × En)
  | some (ds, e) => mtR2 gt i (ownOf e i) (some (ds, e))
  | none => none
def mtR0 (Ty : String) (k : Option (R × En)) : Option (Bool × Mu) → Option (R × En)
  | some (_, m) => if tyM Ty m = true then k else none
  | none => none
theorem q_mt {Ty : String} : eMt Ty gt i fl env = mtR0 Ty (mtR gt i (eK fl env)) (ownOf env i) := by
  unfold eMt; cases h : ownOf env i with
  | none => rfl
  | some o =>
    obtain ⟨b, m⟩ := o
    show (if tyM Ty m = true then _ else none) = (if tyM Ty m = true then _ else none)
    congr 1
    cases h2 : eK fl env with
    | none => rfl
    | some p =>
      simp only [Option.bind_some, mtR]
      cases h3 : ownOf p.2 i with
      | none => rfl
      | some o => simp only [Option.bind_some, mtR2]; cases gt o.2 p.1 <;> rfl
theorem q_mt0 {k : Option (R × En)} {p : Bool} : mtR0 "list" k (some (p, .l ds)) = k := rfl
theorem q_mt1 : mtR gt i (some (ds, e)) = mtR2 gt i (ownOf e i) (some (ds, e)) := rfl
theorem q_mt2 {p : Bool} : mtR2 gt i (some (p, m)) (some (ds, e)) = mtR3 i p e (gt m ds) := rfl
theorem q_mt3 {p : Bool} : mtR3 i p e (some (m, z)) = some (.val z, e.set i (some (.own p m))) := rfl
def eBR2 (r : R) : Option (List R × En) → Option (D × List D × En)
  | some (l, e) => (rs e r).bind fun d => (rsA e l).map fun ds => (d, ds, e)
  | none => none
def eBR1 (Ty : String) (fl : EvA) (r : R) (e : En) : Option D → Option (D × List D × En)
  | some d => if tyOk Ty d = true then eBR2 r (fl e) else none
  | none => none
def eBR (Ty : String) (fl : EvA) : Option (R × En) → Option (D × List D × En)
  | some (r, e) => eBR1 Ty fl r e (rs e r)
  | none => none
theorem q_eB {Ty : String} : eB Ty fe fl env = eBR Ty fl (fe env) := by
  unfold eB; cases h : fe env with
  | none => rfl
  | some p =>
    simp only [Option.bind_some, eBR]
    cases h2 : rs p.2 p.1 with
    | none => rfl
    | some d =>
      simp only [Option.bind_some, eBR1]
      congr 1
      cases fl p.2 <;> rfl
theorem q_eB1 {Ty : String} : eBR Ty fl (some (r, e)) = eBR1 Ty fl r e (rs e r) := rfl
theorem q_eBs {y : Str} : eBR1 "str" fl r e (some (.str y)) = eBR2 r (fl e) := rfl
theorem q_eBl : eBR1 "list" fl r e (some (.list ds)) = eBR2 r (fl e) := rfl
def eBR3 (e : En) : Option D → Option (List D) → Option (D × List D × En)
  | some d, some ds => some (d, ds, e)
  | _, _ => none
theorem q_eB2 : eBR2 r (some (l, e)) = eBR3 e (rs e r) (rsA e l) := by
  show ((rs e r).bind fun d => Option.map (fun ds => (d, ds, e)) (rsA e l)) = _
  cases rs e r <;> cases rsA e l <;> rfl
theorem q_eB3 : eBR3 e (some d) (some ds) = some (d, ds, e) := rfl
variable {gb : D → List D → Option D} {gbm : D → List D → Option Mu}
def bmR (gb : D → List D → Option D) : Option (D × List D × En) → Option (R × En)
  | some (d, ds, e) => vR e (gb d ds)
  | none => none
theorem q_bm {Ty : String} : eBm Ty gb fe fl env = bmR gb (eB Ty fe fl env) := by
  unfold eBm; cases h : eB Ty fe fl env with
  | none => rfl
  | some p => simp only [Option.bind_some, bmR]; cases gb p.1 p.2.1 <;> rfl
theorem q_bm1 : bmR gb (some (d, ds, e)) = vR e (gb d ds) := rfl
variable {M : FnS} {ss : List Sl} {outs : List (Option Mu)}
def cR3 (e : En) (l : List R) (ss : List Sl) : Option (Ret × List (Option Mu)) → Option (Sum R Mu × En)
  | some (q, outs) => if ouOk ss outs = true then (match q with | .val d => some (.inl (.val d), updO e l outs) | .new m => some (.inr m, updO e l outs)) else none
  | none => none
def cR2 (M : FnS) (e : En) (l : List R) : Option (List Sl) → Option (Sum R Mu × En)
  | some ss => if (ownSlots e l).Nodup then cR3 e l ss (M ss) else none
  | none => none
def cR (M : FnS) : Option (List R × En) → Option (Sum R Mu × En)
  | some (l, e) => cR2 M e l (slArgs e l)
  | none => none
theorem q_call : xCall M fl env = cR M (fl env) := by
  unfold xCall; cases h : fl env with
  | none => rfl
  | some p =>
    simp only [Option.bind_some, cR]
    cases slArgs p.2 p.1 with
    | none => rfl
    | some ss => simp only [Option.bind_some, cR2]; congr 1; cases M ss <;> rfl
theorem q_call1 : cR M (some (l, e)) = cR2 M e l (slArgs e l) := rfl
def cN (e : En) (l : List R) (ss : List Sl) (o : Option (Ret × List (Option Mu))) : Bool → Option (Sum R Mu × En)
  | true => cR3 e l ss o
  | false => none
def nd (l : List Nat) : Bool := decide l.Nodup
theorem q_call2 : cR2 M e l (some ss) = cN e l ss (M ss) (nd (ownSlots e l)) := by
  show (if (ownSlots e l).Nodup then cR3 e l ss (M ss) else none) = _
  by_cases h : (ownSlots e l).Nodup
  · rw [if_pos h, show nd (ownSlots e l) = true from decide_eq_true h]; rfl
  · rw [if_neg h, show nd (ownSlots e l) = false from decide_eq_false h]; rfl
theorem q_cN {o : Option (Ret × List (Option Mu))} : cN e l ss o true = cR3 e l ss o := rfl
theorem q_nd0 : nd [] = true := rfl
theorem q_nd1 : nd [i] = true := decide_eq_true (by simp)
def cO (q : Ret) (e : En) : Bool → Option (Sum R Mu × En)
  | true => match q with | .val d => some (.inl (.val d), e) | .new m => some (.inr m, e)
  | false => none
theorem q_call3 {q : Ret} : cR3 e l ss (some (q, outs)) = cO q (updO e l outs) (ouOk ss outs) := by
  show (if ouOk ss outs = true then _ else none) = _
  cases h : ouOk ss outs <;> cases q <;> rfl
theorem q_cO1 : cO (.val d) e true = some (.inl (.val d), e) := rfl
theorem q_cO2 : cO (.new m) e true = some (.inr m, e) := rfl
def ckR2 (M : FnS) (pm : List R → List R → List R) (l : List R) : Option (List R × En) → Option (Sum R Mu × En)
  | some (w, e) => cR2 M e (pm l w) (slArgs e (pm l w))
  | none => none
def ckR (M : FnS) (pm : List R → List R → List R) (fk : EvA) : Option (List R × En) → Option (Sum R Mu × En)
  | some (l, e) => ckR2 M pm l (fk e)
  | none => none
variable {pm : List R → List R → List R} {fkA : EvA}
theorem q_callK : xCallK M pm fl fkA env = ckR M pm fkA (fl env) := by
  unfold xCallK; cases h : fl env with
  | none => rfl
  | some p =>
    simp only [Option.bind_some, ckR]
    cases h2 : fkA p.2 with
    | none => rfl
    | some w =>
      simp only [Option.bind_some, ckR2]
      cases slArgs w.2 (pm p.1 w.1) with
      | none => rfl
      | some ss => simp only [Option.bind_some, cR2]; congr 1; cases M ss <;> rfl
theorem q_callK1 : ckR M pm fkA (some (l, e)) = ckR2 M pm l (fkA e) := rfl
theorem q_callK2 {w : List R} : ckR2 M pm l (some (w, e)) = cR2 M e (pm l w) (slArgs e (pm l w)) := rfl
theorem q_appR {w : List R} : appR l w = l ++ w := rfl
def slR : Option Sl → Option (List Sl) → Option (List Sl)
  | some (.own _ m), some l => some (.own true m :: l)
  | some (.shr d), some l => some (.shr d :: l)
  | _, _ => none
theorem q_sa0 : slArgs env [] = some [] := rfl
theorem q_sa1 : slArgs env (.val d :: l) = slR (some (.shr d)) (slArgs env l) := by rw [slArgs]; cases slArgs env l <;> rfl
theorem q_sa2 : slArgs env (.slot i :: l) = slR (slOf env i) (slArgs env l) := by
  rw [slArgs]; cases h : slOf env i with
  | none => rfl
  | some s => cases s <;> cases slArgs env l <;> rfl
theorem q_sa3 {ll : List Sl} {p : Bool} : slR (some (.own p m)) (some ll) = some (.own true m :: ll) := rfl
theorem q_sa4 {ll : List Sl} : slR (some (.shr d)) (some ll) = some (.shr d :: ll) := rfl
theorem q_os0 : ownSlots env [] = [] := rfl
theorem q_os1 : ownSlots env (.val d :: l) = ownSlots env l := rfl
def osR (i : Nat) (t : List Nat) : Option (Bool × Mu) → List Nat
  | some _ => i :: t
  | none => t
theorem q_os2 : ownSlots env (.slot i :: l) = osR i (ownSlots env l) (ownOf env i) := by rw [ownSlots]; cases ownOf env i <;> rfl
theorem q_os3 {t : List Nat} {p : Bool × Mu} : osR i t (some p) = i :: t := rfl
theorem q_ou0 : ouOk [] outs = true := by cases outs <;> rfl
theorem q_ou1 {o : Option Mu} : ouOk (.shr d :: ss) (o :: outs) = ouOk ss outs := rfl
theorem q_ou2 {p : Bool} {m' : Mu} : ouOk (.own p m :: ss) (some m' :: outs) = ouOk ss outs := rfl
theorem q_up0 : updO env [] outs = env := by cases outs <;> rfl
theorem q_up1 {o : Option Mu} : updO env (.val d :: l) (o :: outs) = updO env l outs := rfl
def upR (e : En) (i : Nat) (l : List R) (m : Mu) (outs : List (Option Mu)) : Option Sl → En
  | some (.own p _) => updO (e.set i (some (.own p m))) l outs
  | some (.shr _) => updO e l outs
  | none => updO e l outs
theorem q_up2 : updO env (.slot i :: l) (some m :: outs) = upR env i l m outs (slOf env i) := by
  rw [updO]; cases h : slOf env i with
  | none => rfl
  | some s => cases s <;> rfl
theorem q_up3 {p : Bool} {m0 : Mu} : upR env i l m outs (some (.own p m0)) = updO (env.set i (some (.own p m))) l outs := rfl
def cmR2 : Option (List D × En) → Option (Mu × En)
  | some (ds, e) => some (.l ds, e)
  | none => none
def cmR (vs : List Nat) (tg : D → En → Option En) (ft : EvT) (fe : EvE) : Option (List D × En) → Option (Mu × En)
  | some (ds, e) => cmR2 (compE vs tg ft fe ds [] (wipeE e vs))
  | none => none
theorem q_comp {vs : List Nat} : eComp vs fw tg ft fe env = cmR vs tg ft fe (fw env) := by
  unfold eComp; cases h : fw env with
  | none => rfl
  | some p => simp only [Option.bind_some, cmR]; cases compE vs tg ft fe p.1 [] (wipeE p.2 vs) <;> rfl
theorem q_comp1 {vs : List Nat} : cmR vs tg ft fe (some (ds, e)) = cmR2 (compE vs tg ft fe ds [] (wipeE e vs)) := rfl
theorem q_comp2 : cmR2 (some (ds, e)) = some (.l ds, e) := rfl
def cpK (vs : List Nat) (tg : D → En → Option En) (ft : EvT) (fe : EvE) (ds acc : List D) (e : En) : Option D → Option (List D × En)
  | some d => if small acc.length = true then compE vs tg ft fe ds (acc ++ [d]) (wipeE e vs) else none
  | none => none
def cpE (vs : List Nat) (tg : D → En → Option En) (ft : EvT) (fe : EvE) (ds acc : List D) : Option (R × En) → Option (List D × En)
  | some (r, e) => cpK vs tg ft fe ds acc e (rk e r)
  | none => none
def cpT (vs : List Nat) (tg : D → En → Option En) (ft : EvT) (fe : EvE) (ds acc : List D) : Option (Bool × En) → Option (List D × En)
  | some (true, e) => cpE vs tg ft fe ds acc (fe e)
  | some (false, e) => compE vs tg ft fe ds acc (wipeE e vs)
  | none => none
def cpG (vs : List Nat) (tg : D → En → Option En) (ft : EvT) (fe : EvE) (ds acc : List D) : Option En → Option (List D × En)
  | some e => cpT vs tg ft fe ds acc (ft e)
  | none => none
section
variable {vs : List Nat} {acc : List D}
theorem q_cp0 : compE vs tg ft fe [] acc env = some (acc, env) := rfl
theorem q_cpc : compE vs tg ft fe (d :: ds) acc env = cpG vs tg ft fe ds acc (tg d env) := by
  rw [compE]; cases h : tg d env with
  | none => rfl
  | some e =>
    simp only [Option.bind_some, cpG]
    cases h2 : ft e with
    | none => rfl
    | some p =>
      obtain ⟨b, e2⟩ := p
      cases b with
      | false => rfl
      | true =>
        simp only [Option.bind_some, cpT, if_true]
        cases h3 : fe e2 with
        | none => rfl
        | some q => simp only [Option.bind_some, cpE]; cases h4 : rk q.2 q.1 <;> rfl
theorem q_cpg : cpG vs tg ft fe ds acc (some e) = cpT vs tg ft fe ds acc (ft e) := rfl
theorem q_cpt : cpT vs tg ft fe ds acc (some (true, e)) = cpE vs tg ft fe ds acc (fe e) := rfl
theorem q_cpf : cpT vs tg ft fe ds acc (some (false, e)) = compE vs tg ft fe ds acc (wipeE e vs) := rfl
theorem q_cpe : cpE vs tg ft fe ds acc (some (r, e)) = cpK vs tg ft fe ds acc e (rk e r) := rfl
theorem q_cpk (h : acc.length ≤ 1000000) : cpK vs tg ft fe ds acc e (some d) = compE vs tg ft fe ds (acc ++ [d]) (wipeE e vs) := if_pos (decide_eq_true h)
end
theorem q_wi0 : wipeE env [] = env := rfl
theorem q_wi1 {v : Nat} {vs : List Nat} : wipeE env (v :: vs) = (wipeE env vs).set v none := rfl
def waR2 (e : En) : Option D → Option (List D × En)
  | some (.list ds) => some (ds, e)
  | some (.tuple ds) => some (ds, e)
  | some (.str x) => some (signs x, e)
  | _ => none
def waR : Option (R × En) → Option (List D × En)
  | some (r, e) => waR2 e (rk e r)
  | none => none
theorem q_wa : wAny fe env = waR (fe env) := by
  unfold wAny; cases h : fe env with
  | none => rfl
  | some p =>
    simp only [Option.bind_some, waR]
    cases rk p.2 p.1 with
    | none => rfl
    | some d => cases d <;> rfl
theorem q_wa1 : waR (some (r, e)) = waR2 e (rk e r) := rfl
theorem q_wa2 : waR2 e (some (.list ds)) = some (ds, e) := rfl
theorem q_wa3 : waR2 e (some (.tuple ds)) = some (ds, e) := rfl
theorem q_wa4 {y : Str} : waR2 e (some (.str y)) = some (signs y, e) := rfl
def r1R1 (e : En) : List D → Option (List D × En)
  | [.int j] => if okR j = true then some (rangeD 0 j.toNat, e) else none
  | _ => none
def r1R : Option (List D × En) → Option (List D × En)
  | some (l, e) => r1R1 e l
  | none => none
theorem q_r1 : wRng1 fl env = r1R (eA fl env) := by unfold wRng1; cases eA fl env <;> rfl
theorem q_r11 {k : Int} (h : -4611686018427387904 ≤ k) (h2 : k < 4611686018427387904) : r1R (some ([.int k], e)) = some (rangeD 0 k.toNat, e) := if_pos (decide_eq_true ⟨h, h2⟩)
def r2R2 (e : En) : List D → Option (List D × En)
  | [.int i, .int j] => if (okR i && okR j) = true then some (rangeD i (j - i).toNat, e) else none
  | _ => none
def r2R : Option (List D × En) → Option (List D × En)
  | some (l, e) => r2R2 e l
  | none => none
theorem q_r2 : wRng2 fl env = r2R (eA fl env) := by unfold wRng2; cases eA fl env <;> rfl
theorem q_r21 {i k : Int} (h : -4611686018427387904 ≤ k) (h2 : k < 4611686018427387904) (h3 : -4611686018427387904 ≤ i) (h4 : i < 4611686018427387904) : r2R (some ([.int i, .int k], e)) = some (rangeD i (k - i).toNat, e) :=
  if_pos (by rw [show okR i = true from decide_eq_true ⟨h3, h4⟩, show okR k = true from decide_eq_true ⟨h, h2⟩]; rfl)
theorem q_oN : oNone env = some (none, env) := rfl
def oSR : Option (D × En) → Option (Option Int × En)
  | some (.int i, e) => some (some i, e)
  | _ => none
theorem q_oS : oSome fe env = oSR (e1 fe env) := by
  unfold oSome; cases h : e1 fe env with
  | none => rfl
  | some p => obtain ⟨d, e⟩ := p; cases d <;> rfl
theorem q_oS1 {k : Int} : oSR (some (.int k, e)) = some (some k, e) := rfl
def slR4 (e : En) (lo hi : Option Int) : Option D → Option (Sum R Mu × En)
  | some d => match dSl d lo hi with
    | some z => some (.inl (.val z), e)
    | none => (dSlL d lo hi).map fun m => (.inr m, e)
  | none => none
def slR3 (r : R) (lo : Option Int) : Option (Option Int × En) → Option (Sum R Mu × En)
  | some (hi, e) => slR4 e lo hi (rs e r)
  | none => none
def slR2 (fh : EvO) (r : R) : Option (Option Int × En) → Option (Sum R Mu × En)
  | some (lo, e) => slR3 r lo (fh e)
  | none => none
def slR1 (fl fh : EvO) : Option (R × En) → Option (Sum R Mu × En)
  | some (r, e) => slR2 fh r (fl e)
  | none => none
variable {flo fhi : EvO}
theorem q_sl : xSl fe flo fhi env = slR1 flo fhi (fe env) := by
  unfold xSl e3; cases h : fe env with
  | none => rfl
  | some p =>
    simp only [Option.bind_some, slR1]
    cases h2 : flo p.2 with
    | none => rfl
    | some l =>
      simp only [Option.bind_some, slR2]
      cases h3 : fhi l.2 with
      | none => rfl
      | some u =>
        simp only [Option.bind_some, slR3]
        cases h4 : rs u.2 p.1 with
        | none => rfl
        | some d => simp only [Option.map_some, Option.bind_some, slR4] <;> rfl
theorem q_sl1 : slR1 flo fhi (some (r, e)) = slR2 fhi r (flo e) := rfl
theorem q_sl2 {lo : Option Int} : slR2 fhi r (some (lo, e)) = slR3 r lo (fhi e) := rfl
theorem q_sl3 {lo hi : Option Int} : slR3 r lo (some (hi, e)) = slR4 e lo hi (rs e r) := rfl
theorem q_slL {lo hi : Option Int} : slR4 e lo hi (some (.list ds)) = some (.inr (.l (cutD ds lo hi)), e) := rfl
theorem q_slT {lo hi : Option Int} : slR4 e lo hi (some (.tuple ds)) = some (.inl (.val (.tuple (cutD ds lo hi))), e) := rfl
theorem q_slS {lo hi : Option Int} {y : Str} (h : y.length ≤ 1000000) : slR4 e lo hi (some (.str y)) = some (.inl (.val (.str (cutS y lo hi))), e) := by
  have h2 : small y.length = true := decide_eq_true h
  simp [slR4, dSl, h2]
def chR3 (e : En) : Option D → Option D → (D → D → Option D) → Option (R × En)
  | some d, some c, g2 => vR e (g2 d c)
  | _, _, _ => none
def chR2 (g2 : D → D → Option D) (r : R) : Option (R × En) → Option (R × En)
  | some (w, e) => chR3 e (rs e r) (rs e w) g2
  | none => none
def chR1 (g2 : D → D → Option D) (fc : EvE) (r : R) (e : En) : Option D → Option (R × En)
  | some (.bool true) => chR2 g2 r (fc e)
  | some (.bool false) => some (.val (.bool false), e)
  | _ => none
def chR0 (g1 g2 : D → D → Option D) (fc : EvE) (r r' : R) (e : En) : Option D → Option D → Option (R × En)
  | some d, some d' => chR1 g2 fc r' e (g1 d d')
  | _, _ => none
def chRb (g1 g2 : D → D → Option D) (fc : EvE) (r : R) : Option (R × En) → Option (R × En)
  | some (r', e) => chR0 g1 g2 fc r r' e (rs e r) (rs e r')
  | none => none
def chRa (g1 g2 : D → D → Option D) (fb fc : EvE) : Option (R × En) → Option (R × En)
  | some (r, e) => chRb g1 g2 fc r (fb e)
  | none => none
variable {h1 h2 : D → D → Option D}
theorem q_ch : eChain h1 h2 fa fb fc env = chRa h1 h2 fb fc (fa env) := by
  unfold eChain; cases ha : fa env with
  | none => rfl
  | some p =>
    simp only [Option.bind_some, chRa]
    cases hb : fb p.2 with
    | none => rfl
    | some q =>
      simp only [Option.bind_some, chRb]
      cases rs q.2 p.1 with
      | none => rfl
      | some d =>
        cases rs q.2 q.1 with
        | none => rfl
        | some d' =>
          simp only [Option.bind_some, chR0]
          cases h1 d d' with
          | none => rfl
          | some z =>
            cases z with
            | bool b =>
              cases b with
              | false => rfl
              | true =>
                simp only [chR1]
                cases fc q.2 with
                | none => rfl
                | some w =>
                  simp only [Option.bind_some, chR2]
                  cases rs w.2 q.1 with
                  | none => rfl
                  | some e' =>
                    cases rs w.2 w.1 with
                    | none => rfl
                    | some c => simp only [Option.bind_some, chR3]; cases h2 e' c <;> rfl
            | _ => rfl
theorem q_cha : chRa h1 h2 fb fc (some (r, e)) = chRb h1 h2 fc r (fb e) := rfl
theorem q_chb : chRb h1 h2 fc r (some (r', e)) = chR0 h1 h2 fc r r' e (rs e r) (rs e r') := rfl
theorem q_ch0 : chR0 h1 h2 fc r r' e (some d) (some d') = chR1 h2 fc r' e (h1 d d') := rfl
theorem q_ch1 : chR1 h2 fc r e (some (.bool true)) = chR2 h2 r (fc e) := rfl
theorem q_ch2 : chR1 h2 fc r e (some (.bool false)) = some (.val (.bool false), e) := rfl
theorem q_ch3 {w : R} : chR2 h2 r (some (w, e)) = chR3 e (rs e r) (rs e w) h2 := rfl
theorem q_ch4 : chR3 e (some d) (some d') h2 = vR e (h2 d d') := rfl
def landR (fb : EvE) : Option (D × En) → Option (R × En)
  | some (.bool true, e) => fb e
  | some (.bool false, e) => some (.val (.bool false), e)
  | _ => none
theorem q_land : eAnd fa fb env = landR fb (e1 fa env) := by
  unfold eAnd; cases h : e1 fa env with
  | none => rfl
  | some p =>
    obtain ⟨d, e⟩ := p
    cases d with
    | bool b => cases b <;> rfl
    | _ => rfl
theorem q_land1 : landR fb (some (.bool true, e)) = fb e := rfl
theorem q_land2 : landR fb (some (.bool false, e)) = some (.val (.bool false), e) := rfl
def lnotR : Option (D × En) → Option (R × En)
  | some (.bool b, e) => some (.val (.bool (!b)), e)
  | _ => none
theorem q_lnot : eNot fa env = lnotR (e1 fa env) := by
  unfold eNot eUn; cases h : e1 fa env with
  | none => rfl
  | some p => obtain ⟨d, e⟩ := p; cases d <;> rfl
theorem q_lnot1 : lnotR (some (.bool b, e)) = some (.val (.bool (!b)), e) := rfl
theorem c_sub {i j : Int} : dSub (.int i) (.int j) = some (.int (i - j)) := rfl
theorem c_lt {i j : Int} : dLt (.int i) (.int j) = some (.bool (decide (i < j))) := rfl
theorem c_le {i j : Int} : dLe (.int i) (.int j) = some (.bool (decide (i ≤ j))) := rfl
theorem c_gt {i j : Int} : dGt (.int i) (.int j) = some (.bool (decide (j < i))) := rfl
theorem c_ge {i j : Int} : dGe (.int i) (.int j) = some (.bool (decide (j ≤ i))) := rfl
theorem c_neg {i : Int} : dNeg (.int i) = some (.int (-i)) := rfl
theorem c_mod {i j : Int} (h : 0 < j) : dMod (.int i) (.int j) = some (.int (i % j)) := by simp [dMod, dI, h]
theorem c_div {i j : Int} (h : 0 < j) (h2 : j < 1073741824) : dDiv (.int i) (.int j) = some (.int (i / j)) := by simp [dDiv, dI, h, h2]
theorem c_pow {i j : Int} (h : 0 ≤ j) (h1 : j ≤ 1000000) (h2 : i.natAbs < 18446744073709551616) : dPow (.int i) (.int j) = some (.int (i ^ j.toNat)) := by simp [dPow, dI, h, h1, h2]
theorem c_mulL {i j : Int} (h : -18446744073709551616 < i) (h2 : i < 18446744073709551616) : dMul (.int i) (.int j) = some (.int (i * j)) := by simp [dMul, dI, h, h2]
theorem c_mulR {i j : Int} (h : -18446744073709551616 < j) (h2 : j < 18446744073709551616) : dMul (.int i) (.int j) = some (.int (i * j)) := by simp [dMul, dI, h, h2]
theorem c_eqI {i j : Int} : dEq (.int i) (.int j) = some (.bool (decide (i = j))) := rfl
theorem c_neI {i j : Int} : dNe (.int i) (.int j) = some (.bool (!decide (i = j))) := rfl
theorem c_eqT {i j : Str} : dEq (.str i) (.str j) = some (.bool (decide (i = j))) := rfl
theorem c_neT {i j : Str} : dNe (.str i) (.str j) = some (.bool (!decide (i = j))) := rfl
theorem c_eqS (h : sc d d' = false) (h1 : SeqAt.shaped d = true) (h2 : SeqAt.shaped d' = true) : dEq d d' = some (.bool (PyData.eqv d d')) := by simp [dEq, dEqB, h, h1, h2]
theorem c_neS (h : sc d d' = false) (h1 : SeqAt.shaped d = true) (h2 : SeqAt.shaped d' = true) : dNe d d' = some (.bool (!PyData.eqv d d')) := by simp [dNe, dEqB, h, h1, h2]
theorem c_scL : sc (.list ds) (.list es) = false := rfl
theorem c_scT : sc (.tuple ds) (.tuple es) = false := rfl
theorem c_eqL0 (h : SeqAt.shaped (.list ds) = true) : dEq (.list ds) (.list []) = some (.bool ds.isEmpty) := by
  rw [c_eqS rfl h (by decide)]; cases ds <;> simp [PyData.eqv, PyData.eqvAll]
theorem c_neL0 (h : SeqAt.shaped (.list ds) = true) : dNe (.list ds) (.list []) = some (.bool (!ds.isEmpty)) := by
  rw [c_neS rfl h (by decide)]; cases ds <;> simp [PyData.eqv, PyData.eqvAll]
theorem c_inL (h1 : SeqAt.shaped d = true) (h2 : SeqAt.shaped (.list ds) = true) : dIn d (.list ds) = some (.bool (ds.any fun z => PyData.eqv z d)) := by cases d <;> simp_all [dIn, dInB]
theorem c_inS {x y : Str} : dIn (.str x) (.str y) = some (.bool (!(Builtin.Str.occurrences y x 0 y.length 1).isEmpty)) := rfl
theorem c_addI {i j : Int} : dAddX (.int i) (.int j) = some (.inl (.int (i + j))) := rfl
theorem c_addS {x y : Str} (h : x.length + y.length ≤ 1000000) : dAddX (.str x) (.str y) = some (.inl (.str (x ++ y))) := by simp [dAddX, dAdd, small, h]
theorem c_addT (h : ds.length + es.length ≤ 1000000) : dAddX (.tuple ds) (.tuple es) = some (.inl (.tuple (ds ++ es))) := by simp [dAddX, dAdd, small, h]
theorem c_addL (h : ds.length + es.length ≤ 1000000) : dAddX (.list ds) (.list es) = some (.inr (.l (ds ++ es))) := by simp [dAddX, dAdd, dAddM, small, h]
theorem c_app (h : ds.length ≤ 1000000) : gApp (.l ds) [d] = some (.l (ds ++ [d]), .none) := by simp [gApp, small, h]
theorem c_strI {i : Int} (h : i.natAbs.log2 < 1920) : cStr [.int i] = some (.str (toString i)) := by simp [cStr, h]
theorem c_strS {y : Str} : cStr [.str y] = some (.str y) := rfl
theorem c_intI {i : Int} : cInt [.int i] = some (.int i) := rfl
theorem c_intB : cInt [.bool b] = some (.int (if b then 1 else 0)) := rfl
theorem c_intS {y : Str} {n : Int} (h : PySem.intText? y = some n) (h2 : y.length ≤ 640) : cInt [.str y] = some (.int n) := by simp [cInt, h, h2]
theorem c_abs {i : Int} : cAbs [.int i] = some (.int (if i < 0 then -i else i)) := rfl
theorem c_lenL : cLen [.list ds] = some (.int ds.length) := rfl
theorem c_lenT : cLen [.tuple ds] = some (.int ds.length) := rfl
theorem c_lenS {x : Str} (h : x.length ≤ 1000000) : cLen [.str x] = some (.int x.length) := by simp [cLen, small, h]
theorem c_listL : cList [.list ds] = some (.l ds) := rfl
theorem c_listT : cList [.tuple ds] = some (.l ds) := rfl
theorem c_tupL : cTuple [.list ds] = some (.tuple ds) := rfl
theorem c_tupT : cTuple [.tuple ds] = some (.tuple ds) := rfl
theorem c_ixL {i : Int} : dIx (.list ds) (.int i) = atI ds i := rfl
theorem c_ixT {i : Int} : dIx (.tuple ds) (.int i) = atI ds i := rfl
theorem c_ixS {i : Int} {y : Str} (h : y.length ≤ 1000000) : dIx (.str y) (.int i) = (atI y.cps.toList i).map fun c => .str ⟨#[c]⟩ := by simp [dIx, small, h]
theorem c_at {i : Int} (h : 0 ≤ i) (h2 : i < ds.length) : atI ds i = ds[i.toNat]? := by simp [atI, ixN, h, h2]
theorem c_set {i : Int} (h : 0 ≤ i) (h2 : i < ds.length) : gSetL (.l ds) (.int i) d = some (.l (ds.set i.toNat d)) := by simp [gSetL, ixN, h, h2]
def runR (ss : List Sl) : Option (Fl × En) → Option (Ret × List (Option Mu))
  | some (.rt r, e) => (outsE ss e).map fun o => (r, o)
  | some (.nx, e) => (outsE ss e).map fun o => (.val .none, o)
  | _ => none
theorem q_run {n : Nat} {bb : EvS} : runB n bb ss = runR ss (bb (env0 n ss)) := by
  unfold runB; cases h : bb (env0 n ss) with
  | none => rfl
  | some p => obtain ⟨fl, e⟩ := p; cases fl <;> rfl
theorem q_run1 {q : Ret} : runR ss (some (.rt q, e)) = (outsE ss e).map fun o => (q, o) := rfl
theorem q_run2 : runR ss (some (.nx, e)) = (outsE ss e).map fun o => (.val .none, o) := rfl
theorem q_ouE0 : outsE [] env = some [] := by cases env <;> rfl
theorem q_ouE1 {o : Option Sl} : outsE (.shr d :: ss) (o :: env) = (outsE ss env).map fun l => none :: l := rfl
theorem q_ouE2 {p : Bool} {m' : Mu} : outsE (.own p m :: ss) (some (.own true m') :: env) = (outsE ss env).map fun l => some m' :: l := rfl
end
end GD

namespace GD
open PySem PySem.Spec PyProof.Rows L2
section
variable {X : Cx}
end
section
variable {K : PySem.W.Frag} {te : TE} {fe : EvE}
def cMax2 : List D → Option D
  | [.int i, .int j] => some (.int (if j > i then j else i))
  | _ => none
theorem cd_max2 : CaD K (fun xs H Q => ∃ i j, xs = [.int i, .int j] ∧ Q (.int (if j > i then j else i)) H) cMax2 := by
  intro O H xs ds z hO l hz Q q
  match ds, hz, l with
  | [.int i, .int j], hz, l =>
    cases hz
    obtain ⟨v, w, rfl, h, h2⟩ := LvAll.two l
    cases Rp.sc h
    cases Rp.sc h2
    exact ⟨i, j, rfl, q _ H Ext.refl (.int _)⟩
theorem c_max2 {i j : Int} : cMax2 [.int i, .int j] = some (.int (if j > i then j else i)) := rfl
end
end GD

namespace GD
open PySem PySem.Spec PyProof.Rows L2
def strRep (a : Str) (k : Int) : Str := if (k == 1 || a.length == 0) = true then a else ⟨(List.replicate k.toNat a.cps).foldl (· ++ ·) #[]⟩
def rRepS : R2 := fun x y H Q => ∃ a k, x = .str a ∧ y = .int k ∧ 1 ≤ k ∧ k ≤ 1000 ∧ a.length ≤ 1000 ∧ Q (.str (strRep a k)) H
theorem op_repS {X : Cx} : OpR X (binaryOp .Mult) rRepS := by
  intro pins s σ H x y v u Q I rx ry h
  obtain ⟨a, k, rfl, rfl, h1, h2, h3, q⟩ := h
  obtain ⟨t, rfl⟩ := rx
  obtain ⟨t', rfl⟩ := ry
  have hk : ¬ k < 1 := by omega
  have hdiv : (9223372036854775 : Int) ≤ (2 ^ 63 - 1) / k := by
    rw [Int.le_ediv_iff_mul_le (by omega)]
    have : 9223372036854775 * k ≤ 9223372036854775 * 1000 := Int.mul_le_mul_of_nonneg_left h2 (by omega)
    omega
  have hmul : a.length * k.toNat ≤ 1000 * 1000 := Nat.mul_le_mul h3 (by omega)
  refine PySem.P.mul_str (by
    rw [decide_eq_false (show ¬ k < -(2 ^ 63 : Int) by omega), decide_eq_false (show ¬ k ≥ (2 ^ 63 : Int) by omega)]; rfl) (fun _ _ => by omega) (fun _ _ => ?_) ?_
  · unfold Builtin.Str.tooLong; rw [sizeLine_eq]; exact decide_eq_false (by omega)
  · rw [if_neg hk]
    unfold strRep at q
    by_cases hc : (k == 1 || a.length == 0) = true
    · rw [if_pos hc] at q ⊢
      exact ⟨.str a, H, I, ⟨_, rfl⟩, q⟩
    · rw [if_neg hc] at q ⊢
      refine ⟨?_, .str _, H, I.tok _, ⟨_, rfl⟩, q⟩
      have hlen : ∀ (n : Nat) (b : Array Nat), ((List.replicate n a.cps).foldl (· ++ ·) b).size = b.size + n * a.cps.size := by
        intro n
        induction n with
        | zero => intro b; simp
        | succ n ih => intro b; rw [List.replicate_succ, List.foldl_cons, ih, Array.size_append, Nat.succ_mul]; omega
      have e := hlen k.toNat #[]
      have h4 : k.toNat * a.cps.size ≤ 1000 * 1000 := Nat.mul_le_mul (by omega) h3
      show ((List.replicate k.toNat a.cps).foldl (· ++ ·) #[]).size ≤ sizeLine
      rw [e, sizeLine_eq]
      simp only [List.size_toArray, List.length_nil]
      omega
section
variable {K : PySem.W.Frag} {ta tb : TE} {fa fb : EvE}
def dMulS : D → D → Option D
  | .str a, .int k => if decide (1 ≤ k ∧ k ≤ 1000 ∧ a.length ≤ 1000) = true then some (.str (strRep a k)) else none
  | _, _ => none
theorem od_mulS : OpD K rRepS dMulS := by
  intro O H x y d e z hO l1 l2 hz Q q
  match d, e, hz, l1, l2 with
  | .str a, .int k, hz, l1, l2 =>
    simp only [dMulS] at hz
    split at hz
    · rename_i h
      cases hz
      have h := of_decide_eq_true h
      cases Rp.scS l1
      cases Rp.sc l2
      exact ⟨a, k, rfl, rfl, h.1, h.2.1, h.2.2, q _ H Ext.refl (.str _)⟩
    · cases hz
def truD : D → Option Bool
  | .none => some false
  | .bool b => some b
  | .int i => some (i != 0)
  | .str y => if small y.length = true then some ((y.length : Int) != 0) else none
  | _ => none
def orTR2 (fb : EvE) (d : D) (e : En) : Option Bool → Option (R × En)
  | some true => some (.val d, e)
  | some false => fb e
  | none => none
def orTR (fb : EvE) : Option (R × En) → Option (R × En)
  | some (.val d, e) => orTR2 fb d e (truD d)
  | _ => none
def eOrT (fa fb : EvE) : EvE := fun env => orTR fb (fa env)
theorem truD_ok {O : Addr → Prop} {H : Hp} {v : V} {d : D} {k : Bool} (r : Rp K O H v d) (h : truD d = some k) : TruV K v H k := by
  match d, h with
  | .none, h => cases Rp.scN r; cases h; rfl
  | .bool b, h => cases Rp.scB r; cases h; rfl
  | .int i, h => cases Rp.sc r; cases h; rfl
  | .str y, h =>
    cases Rp.scS r
    simp only [truD] at h
    split at h
    · rename_i hs; cases h; exact ⟨small_le hs, rfl⟩
    · cases h
theorem ie_orT (ha : IE K ta fa) (hb : IE K tb fb) : IE K (tOrT K ta tb) (eOrT fa fb) := by
  intro F T env σ H r env' S e Q q
  simp only [eOrT] at e
  cases a1 : fa env with
  | none => rw [a1] at e; cases e
  | some p =>
    obtain ⟨r1, e1⟩ := p
    rw [a1] at e
    cases r1 with
    | slot i => cases e
    | val d =>
      simp only [orTR] at e
      cases ht : truD d with
      | none => rw [ht] at e; cases e
      | some k =>
        rw [ht] at e
        refine ha F T env σ H (.val d) e1 S a1 _ fun v H1 S1 st rv => ⟨k, truD_ok rv ht, ?_⟩
        cases k with
        | true => cases e; exact q v H1 S1 st rv
        | false => exact hb F T e1 σ H1 r env' S1 e Q fun w H2 S2 st2 rw2 => q w H2 S2 (st.trans st2) rw2
theorem q_orT {env : En} : eOrT fa fb env = orTR fb (fa env) := rfl
theorem q_orT1 {d : D} {e : En} : orTR fb (some (.val d, e)) = orTR2 fb d e (truD d) := rfl
theorem q_orT2 {d : D} {e : En} : orTR2 fb d e (some true) = some (.val d, e) := rfl
theorem q_orT3 {d : D} {e : En} : orTR2 fb d e (some false) = fb e := rfl
theorem c_truN : truD .none = some false := rfl
theorem c_truS {y : Str} (h : y.length ≤ 1000000) : truD (.str y) = some ((y.length : Int) != 0) := if_pos (decide_eq_true h)
theorem c_mulS {a : Str} {k : Int} (h : 1 ≤ k) (h2 : k ≤ 1000) (h3 : a.length ≤ 1000) : dMulS (.str a) (.int k) = some (.str (strRep a k)) := if_pos (decide_eq_true ⟨h, h2, h3⟩)
end
section
variable {K : PySem.W.Frag}
def dAddI : D → D → Option D := dI (fun _ _ => true) fun i j => .int (i + j)
theorem od_addI : OpD K (rI0 fun i j => .int (i + j)) dAddI := od_I0 fun _ _ _ _ => .int _
theorem c_addII {i j : Int} : dAddI (.int i) (.int j) = some (.int (i + j)) := rfl
end
def ordA {α : Type} (rev : Bool) (ws : List α) : List α := if rev = true then ws.reverse else ws
def selA {α : Type} (a b : Nat) (rev : Bool) (us ws : List α) : List α := if (decide (us.length = a) && decide (ws.length = b)) = true then us ++ ordA rev ws else []
theorem RvAll.len {K : PySem.W.Frag} {F : Frm} {T : Addr → Prop} {H : Hp} {env : En} {σ : L2.St} : ∀ {us : List V} {w : List R}, RvAll K F T H env σ us w → us.length = w.length
  | [], [], _ => rfl
  | u :: us, r :: w, h => by rw [List.length_cons, List.length_cons, RvAll.len h.2]
  | [], _ :: _, h => h.elim
  | _ :: _, [], h => h.elim
theorem RvAll.rev {K : PySem.W.Frag} {F : Frm} {T : Addr → Prop} {H : Hp} {env : En} {σ : L2.St} : ∀ {us : List V} {w : List R}, RvAll K F T H env σ us w → RvAll K F T H env σ us.reverse w.reverse
  | [], [], _ => trivial
  | u :: us, r :: w, h => by
    rw [List.reverse_cons, List.reverse_cons]
    exact appR_ok (vs := us.reverse) (us := [u]) (l := w.reverse) (w := [r]) (RvAll.rev h.2) ⟨h.1, trivial⟩
  | [], _ :: _, h => h.elim
  | _ :: _, [], h => h.elim
theorem selR_ok {a b : Nat} {rev : Bool} {K : PySem.W.Frag} {F : Frm} {T : Addr → Prop} {H : Hp} {env : En} {σ : L2.St} {vs us : List V} {l w : List R} (h : RvAll K F T H env σ vs l) (q : RvAll K F T H env σ us w) : RvAll K F T H env σ (selA a b rev vs us) (selA a b rev l w) := by
  unfold selA
  rw [h.len, q.len]
  split
  · refine appR_ok h ?_
    unfold ordA
    cases rev with
    | true => exact q.rev
    | false => exact q
  · trivial
theorem vals_rev : ∀ {us : List V} {ws : List Value}, Vals us ws → Vals us.reverse ws.reverse
  | _, _, .nil => .nil
  | _, _, .cons r t => by
    rw [List.reverse_cons, List.reverse_cons]
    exact (vals_rev t).append (.cons r .nil)
theorem kb_sel {a b : Nat} {rev : Bool} {K : PySem.W.Frag} {x qual : Str} {st : Stmt} {f : Addr} {fd : FuncData} {ps ks : List Str} (F : Fun K x qual st f fd) (hp : ps.length = a + b) (hp0 : 0 < a + b)
    (h : ∀ (kV doc pm : Value) (an : Option Addr) (cdv ct : Value) (us ws : List Value), us.length = a → ws.length = b → bindArgs (PySem.W.fnOf x qual (defArgs st) (defBody st) (defScope st) .none kV doc pm an cdv ct) ⟨us, ks.zip ws⟩ = pure (ps.zip (us ++ ordA rev ws))) :
    KBinds K fd ps ks (selA a b rev) (selA a b rev) := by
  obtain ⟨oc, od, kV, doc, pm, an, cdv, ct, osl, rfl, lk, hcd⟩ := F.ex
  refine ⟨fun s us ws _ hl => ?_, fun r q => ?_⟩
  · unfold selA at hl ⊢
    by_cases hc : (decide (us.length = a) && decide (ws.length = b)) = true
    · rw [if_pos hc]
      rw [Bool.and_eq_true] at hc
      exact .of_eq (h kV doc pm an cdv ct us ws (of_decide_eq_true hc.1) (of_decide_eq_true hc.2))
    · rw [if_neg hc] at hl
      simp only [List.length_nil] at hl
      omega
  · unfold selA
    rw [r.length, q.length]
    split
    · refine Vals.append r ?_
      unfold ordA
      cases rev with
      | true => exact vals_rev q
      | false => exact q
    · exact .nil
theorem lenS {a b c : Nat} {rev : Bool} {fl fk : EvA} (h : lenOk a fl) (h' : lenOk b fk) (e : a + b = c) : ∀ env l e1 w e2, fl env = some (l, e1) → fk e1 = some (w, e2) → (selA a b rev l w).length = c := fun env l e1 w e2 p q => by
  have h1 := h _ _ _ p
  have h2 := h' _ _ _ q
  unfold selA
  rw [if_pos (by rw [decide_eq_true h1, decide_eq_true h2]; rfl), List.length_append]
  unfold ordA
  cases rev
  · rw [if_neg (by simp), h1, h2, e]
  · rw [if_pos rfl, List.length_reverse, h1, h2, e]
section
variable {α : Type} {x y z : α}
theorem q_s01 : selA 0 1 false [] [x] = [x] := by
  unfold selA ordA; simp
theorem q_s11 : selA 1 1 false [x] [y] = [x, y] := by
  unfold selA ordA; simp
theorem q_s02 : selA 0 2 false [] [x, y] = [x, y] := by
  unfold selA ordA; simp
theorem q_s02r : selA 0 2 true [] [x, y] = [y, x] := by
  unfold selA ordA; simp
theorem q_s12 : selA 1 2 false [x] [y, z] = [x, y, z] := by
  unfold selA ordA; simp
theorem q_s12r : selA 1 2 true [x] [y, z] = [x, z, y] := by
  unfold selA ordA; simp
theorem q_s21 : selA 2 1 false [x, y] [z] = [x, y, z] := by
  unfold selA ordA; simp
theorem q_s03 : selA 0 3 false [] [x, y, z] = [x, y, z] := by
  unfold selA ordA; simp
theorem q_s03r : selA 0 3 true [] [x, y, z] = [z, y, x] := by
  unfold selA ordA; simp
end
end GD

namespace GD
open PySem PySem.Spec PyProof.Rows L2
section
variable {prog : Program} {w : World} {A : Around} {E : Value → Shared → Prop} {s : Shared}
end
section
variable {K : PySem.W.Frag}
end
end GD

namespace GD
open PySem PySem.Spec PyProof.Rows L2
section
variable {K : PySem.W.Frag}
theorem RpAll.rev {O : Addr → Prop} {H : Hp} : ∀ {vs : List V} {ds : List D}, RpAll K O H vs ds → RpAll K O H vs.reverse ds.reverse
  | _, _, .nil => .nil
  | _, _, .cons r t => by
    rw [List.reverse_cons, List.reverse_cons]
    exact (RpAll.rev t).append (.cons r .nil)
def repD (n : Nat) (ds : List D) : List D := (List.replicate n ds).flatten
theorem RpAll.rep {O : Addr → Prop} {H : Hp} {vs : List V} {ds : List D} (r : RpAll K O H vs ds) : ∀ n : Nat, RpAll K O H (List.replicate n vs).flatten (repD n ds)
  | 0 => .nil
  | n + 1 => by
    unfold repD
    rw [List.replicate_succ, List.replicate_succ, List.flatten_cons, List.flatten_cons]
    exact r.append (RpAll.rep r n)
def dMulL : D → D → Option Mu
  | .list ds, .int k => if decide (-1000000 ≤ k ∧ k ≤ 1000000 ∧ ds.length * k.toNat ≤ 1000000) = true then some (.l (repD k.toNat ds)) else none
  | _, _ => none
theorem om_mul : OpM K rRep dMulL := by
  intro O H x y d e z hO l1 l2 hz Q q
  match d, e, hz, l1, l2 with
  | .list ds, .int k, hz, l1, l2 =>
    simp only [dMulL] at hz
    split at hz
    · rename_i h
      cases hz
      have h := of_decide_eq_true h
      obtain ⟨a, xs, rfl, s1, r1⟩ := l1
      cases Rp.sc l2
      exact ⟨a, k, xs, rfl, rfl, s1, by omega, by omega, by rw [r1.length, sizeLine_eq]; omega, fun p np => q p _ np (ext_new np) (new_lst np (RpAll.rep r1 k.toNat))⟩
    · cases hz
def dMulX (d e : D) : Option (Sum D Mu) := (dMulL d e).map .inr
theorem ox_mul : OpX K rRep dMulX := by
  intro O H x y d e z hO l1 l2 hz Q q
  simp only [dMulX, Option.map_eq_some_iff] at hz
  obtain ⟨m, hm, rfl⟩ := hz
  exact om_mul O H x y d e m hO l1 l2 hm Q q
theorem c_mulX {ds : List D} {k : Int} (h : -1000000 ≤ k) (h2 : k ≤ 1000000) (h3 : ds.length * k.toNat ≤ 1000000) : dMulX (.list ds) (.int k) = some (.inr (.l (repD k.toNat ds))) := by
  have e : dMulL (.list ds) (.int k) = some (.l (repD k.toNat ds)) := if_pos (decide_eq_true ⟨h, h2, h3⟩)
  unfold dMulX
  rw [e]; rfl
end
end GD

namespace GD
open PySem PySem.Spec PyProof.Rows L2
section
variable {prog : Program} {w : World} {A : Around} {E : Value → Shared → Prop} {s : Shared}
end
section
variable {prog : Program} {w : World} {A : Around} {R : Result → Shared → Prop} {I : Addr} {fp wr : List Addr} {n : Nat} {P : Nat → Value → Prop} {St : Nat → Heap → Prop} {d : Value}
end
section
variable {prog : Program} {w : World} {A : Around} {E : Value → Shared → Prop} {s : Shared}
end
section
variable {X : Cx} {K : PySem.W.Frag}
section
variable {g : List D → List D → Option D} {fl fk : EvA} {env e : En} {l w : List R} {ds es : List D}
end
end
end GD

set_option maxHeartbeats 2000000
namespace GD
open PySem PySem.Spec PyProof.Rows L2
section
variable {prog : Program} {w : World} {A : Around} {E : Value → Shared → Prop} {s : Shared} {z TI TO T i1 i2 l1 l2 S : Addr} {f : Bool} {oT : Obj} {xs ys : Array Value} {x y : Value} {i : Nat}
def ZSt (h : Heap) (z TI TO i1 i2 l1 l2 S : Addr) (xs ys : Array Value) (i : Nat) : Prop :=
  IsPair h TI (.ref i1) (.ref i2) ∧ h.IsTupleIter i1 l1 i ∧ h.IsTupleIter i2 l2 i ∧ h.IsTuple l1 xs ∧ h.IsTuple l2 ys ∧ ((IsZip h z TI TO .none ∧ ∃ a b, IsPair h TO a b) ∨ ∃ T f oT, IsZipHeld h z TI TO T f ∧ h.get? T = some oT ∧ T ≠ z ∧ T ≠ i1 ∧ T ≠ i2 ∧ T ≠ S)
structure ZOff (z TI TO i1 i2 l1 l2 S : Addr) : Prop where
  a : z ≠ S
  b : TI ≠ S
  c : TO ≠ S
  d : i1 ≠ S
  e : i2 ≠ S
  f : l1 ≠ S
  g : l2 ≠ S
theorem ZSt.frame {h h' : Heap} (O : ZOff z TI TO i1 i2 l1 l2 S) (st : ZSt h z TI TO i1 i2 l1 l2 S xs ys i) (k : ∀ b o, b ≠ S → h.get? b = some o → h'.get? b = some o) : ZSt h' z TI TO i1 i2 l1 l2 S xs ys i := by
  obtain ⟨a1, a2, a3, a4, a5, a6⟩ := st
  refine ⟨k _ _ O.b a1, a2.at fun o e => k _ o O.d e, a3.at fun o e => k _ o O.e e, a4.at fun o e => k _ o O.f e, a5.at fun o e => k _ o O.g e, ?_⟩
  rcases a6 with ⟨a6, a, b, a7⟩ | ⟨T, f, oT, a6, a7, r1, r2, r3, r4⟩
  · exact .inl ⟨k _ _ O.a a6, a, b, k _ _ O.c a7⟩
  · exact .inr ⟨T, f, oT, k _ _ O.a a6, k _ _ r4 a7, r1, r2, r3, r4⟩
end
structure LzG (xs ys : Array Value) (lo : Addr) (h : Heap) (as : List Addr) : Prop where
  rise : as.Pairwise (· < ·)
  above : ∀ a ∈ as, lo < a
  pairs : ∀ (j : Nat) (a : Addr), as[j]? = some a → ∃ x y, xs[j]? = some x ∧ ys[j]? = some y ∧ IsPair h a x y
theorem LzG.at {xs ys : Array Value} {lo : Addr} {h h' : Heap} {as : List Addr} (g : LzG xs ys lo h as) (k : ∀ b o, lo < b → h.get? b = some o → h'.get? b = some o) : LzG xs ys lo h' as :=
  ⟨g.rise, g.above, fun j a hj => let ⟨x, y, e1, e2, e3⟩ := g.pairs j a hj; ⟨x, y, e1, e2, k a _ (g.above a (List.mem_of_getElem? hj)) e3⟩⟩
section
variable {prog : Program} {w : World} {A : Around} {s : Shared} {R : Result → Shared → Prop} {z TI TO i1 i2 l1 l2 S : Addr} {xs ys : Array Value}
end
end GD

set_option maxHeartbeats 2000000
namespace GD
open PySem PySem.Spec PyProof.Rows L2
section
variable {prog : Program} {w : World} {A : Around} {E : Value → Shared → Prop} {s : Shared} {R : Result → Shared → Prop} {z TI TO i1 i2 l1 l2 S : Addr} {xs ys : Array Value}
end
section
variable {X : Cx}
end
section
variable {K : PySem.W.Frag}
end
end GD

namespace GD
open PySem PySem.Spec PyProof.Rows L2
section
variable {K : PySem.W.Frag}
end
end GD

namespace GD
open PySem PySem.Spec PyProof.Rows L2 PyProof.V PySem.SeqAt
def look : List (Str × Int) → Str → Option Int
  | [], _ => none
  | (k, i) :: r, x => if k = x then some i else look r x
def tabIs : List DictEntry → List (Str × Int) → Prop
  | [], [] => True
  | e :: r, (k, i) :: q => (∃ t, e.key = .str k t) ∧ (∃ t, e.val = .int i t) ∧ tabIs r q
  | _, _ => False
structure KTab (K : PySem.W.Frag) (w : World) (d : Addr) (tb : List (Str × Int)) : Prop where
  ex : ∃ es n, KDict K w d es n ∧ tabIs es.toList tb
theorem tab_find : ∀ {es : List DictEntry} {tb : List (Str × Int)} (x : Str), tabIs es tb → (match look tb x with
    | some i => ∃ e t, es.find? (·.key.isStr x) = some e ∧ e.val = .int i t
    | none => es.find? (·.key.isStr x) = none) ∧ es.any (·.refKey) = false
  | [], [], x, _ => ⟨rfl, rfl⟩
  | e :: r, (k, i) :: q, x, ⟨⟨t, hk⟩, ⟨u, hv⟩, hr⟩ => by
    obtain ⟨h1, h2⟩ := tab_find (es := r) x hr
    refine ⟨?_, by rw [List.any_cons, h2]; simp [DictEntry.refKey, hk]⟩
    have hs : e.key.isStr x = decide (k = x) := by rw [hk]; exact (PySem.W.isStr_of x _).trans (show (k == x) = decide (k = x) from Bool.eq_iff_iff.mpr (by simp))
    unfold look
    by_cases c : k = x
    · rw [if_pos c]
      exact ⟨e, u, by rw [List.find?_cons, hs, decide_eq_true c], hv⟩
    · rw [if_neg c]
      have c2 : (e.key.isStr x) = false := by rw [hs, decide_eq_false c]
      cases z : look q x with
      | none =>
        rw [z] at h1
        show (e :: r).find? _ = none
        rw [List.find?_cons, c2]; exact h1
      | some j =>
        rw [z] at h1
        obtain ⟨e', t', h3, h4⟩ := h1
        exact ⟨e', t', by rw [List.find?_cons, c2]; exact h3, h4⟩
  | [], _ :: _, _, h => h.elim
  | _ :: _, [], _, h => h.elim
theorem KTab.at {K : PySem.W.Frag} {w : World} {d : Addr} {tb : List (Str × Int)} (T : KTab K w d tb) (x : Str) : ∃ es n, KDict K w d es n ∧ ∃ r, PySem.W.nsIn K d x = some r ∧ (match look tb x with
    | some i => ∃ t, r = some (.int i t)
    | none => r = none) := by
  obtain ⟨es, n, D, ht⟩ := T.ex
  obtain ⟨h1, h2⟩ := tab_find x ht
  refine ⟨es, n, D, ?_⟩
  unfold PySem.W.nsIn
  rw [D.at_]
  dsimp only
  cases z : look tb x with
  | none =>
    rw [z] at h1
    refine ⟨none, ?_, rfl⟩
    have h1' : es.toList.find? (·.key.isStr x) = none := h1
    rw [h1']; dsimp only; rw [h2]; rfl
  | some i =>
    rw [z] at h1
    obtain ⟨e, t, h3, h4⟩ := h1
    refine ⟨some e.val, ?_, t, by rw [h4]⟩
    rw [h3]
def rKGet (tb : List (Str × Int)) : R2 := fun y z H Q => ∃ k j, y = .str k ∧ z = .int j ∧ Q (.int ((look tb k).getD j)) H
theorem pe_kget {X : Cx} {x : Str} {d : Addr} {tb : List (Str × Int)} {e f : Expr} {ty tx : TE} {p apos cpos : Pos} (hg : Gl X x) (hm : X.mg x = some (.ref d)) (T : KTab X.K X.w d tb) (he : PE X e ty) (hf : PE X f tx) (m : M2 X (.Name x p) "get" apos e f cpos)
    (hdb : (x == ("__debug__" : Str)) = false := by decide) : PE X (.Call (.Attribute (.Name x p) "get" apos) [e, f] [] cpos) (tOp (rKGet tb) ty tx) := by
  refine ⟨fun pins s σ H Q I h => ?_⟩
  obtain ⟨es, n, D, _⟩ := T.at ("" : Str)
  have hD := PySem.W.mapOf_K (prog := X.prog) (w := X.w) I.kIn D.at_ D.lit
  refine wpAny_Call_method m.base m.few m.line PySem.F.plainAttrs_dict PySem.F.slot_dict_get PySem.F.type_dict_get (ld_glob I hg hm ?_ hdb)
  refine ⟨hD.typeIs, hD.noDict, ?_⟩
  rw [m.trees]
  refine Calls.callWith_builtin rfl (Calls.evalArgs_plain (Calls.spliced_cons (thn (he.run pins s σ H _ I h) fun u s2 ⟨y, H2, I2, ry, q2⟩ =>
    Calls.spliced_cons (thn (hf.run pins s2 σ H2 _ I2 q2) fun fv s3 ⟨z, H3, I3, rz, k, j, ey, ez, q3⟩ => Calls.spliced_nil ?_))))
  subst ey ez
  obtain ⟨t, rfl⟩ := ry
  obtain ⟨es, n, D, r, hr, hz⟩ := T.at k
  have hD2 := PySem.W.mapOf_K (prog := X.prog) (w := X.w) I3.kIn D.at_ D.lit
  refine call_meetsIn PySem.F.slot_dict_get hD2.typeIs PySem.F.entry_dict_get (PySem.F.args_dict_get_3 _ _ _) (meets_dict_get_default (PySem.strKind X.prog X.w) d (PySem.strKind_is X.prog X.w k t) D.low fv) ⟨_, hD2, ?_⟩
  rw [PySem.W.find_K D.at_ hr]
  cases c : look tb k with
  | none =>
    rw [c] at hz q3
    rw [hz]
    exact ⟨.int j, H3, I3.tok _, rz, q3⟩
  | some i =>
    rw [c] at hz q3
    obtain ⟨t2, rfl⟩ := hz
    exact ⟨.int i, H3, I3.tok _, ⟨t2, rfl⟩, q3⟩
section
variable {K : PySem.W.Frag}
def dKGet (tb : List (Str × Int)) : D → D → Option D
  | .str k, .int j => some (.int ((look tb k).getD j))
  | _, _ => none
theorem od_kget {tb : List (Str × Int)} : OpD K (rKGet tb) (dKGet tb) := by
  intro O H x y d e z hO l1 l2 hz Q q
  match d, e, hz, l1, l2 with
  | .str k, .int j, hz, l1, l2 =>
    cases hz
    cases Rp.scS l1
    cases Rp.sc l2
    exact ⟨k, j, rfl, rfl, q _ H Ext.refl (.int _)⟩
theorem c_kget {tb : List (Str × Int)} {k : Str} {j : Int} : dKGet tb (.str k) (.int j) = some (.int ((look tb k).getD j)) := rfl
end
section
variable {K : PySem.W.Frag}
def eD0 : EvM := fun env => some (.m [], env)
theorem im_d0 : IM K tDNewK eD0 := by
  intro F T env σ H m env' S e Q q
  cases e
  intro p np
  have x : Ext (fun _ => False) H (upd H p (.dK [])) := Ext.new np
  exact q p _ np (S.lay1 np x (by rw [upd_same]; simp)) (Stp.lay x) ⟨[], upd_same, rfl, .nil⟩
theorem q_d0 {env : En} : eD0 env = some (.m [], env) := rfl
theorem c_d0 : Mu.toD (.m []) = .dict [] := rfl
theorem c_d1 {k : Str} {i : Int} : Mu.toD (.m [(Sum.inr k, .int i)]) = .dict [(.str k, .int i)] := rfl
end
def atom : D → Bool
  | .none => true
  | .bool _ => true
  | .int _ => true
  | .str _ => true
  | _ => false
def atomKv : List (D × D) → Bool
  | [] => true
  | p :: r => atom p.2 && atomKv r
section
variable {X : Cx} {pins : List (Addr × Obj)} {σ : L2.St} {H : Hp} {s : Shared} {O : Addr → Prop}
theorem reads_atom : ∀ {d : D} {v : V} {u : Value}, Rp X.K O H v d → RelV v u → atom d = true → Reads s.heap u d []
  | .none, _, _, h, r, _ => by cases h; cases r; exact .none
  | .bool b, _, _, h, r, _ => by cases h; cases r; exact .bool b
  | .int i, _, _, h, r, _ => by cases h; obtain ⟨t, rfl⟩ := r; exact .int i t
  | .str x, _, _, h, r, _ => by cases h; obtain ⟨t, rfl⟩ := r; exact .str x t
theorem pairs_atom : ∀ {kvs : List (L2.Key × V)} {vs : List (L2.Key × Value)} {ds : List D}, KV kvs vs → RpAll X.K O H (kvs.map (·.2)) ds → atomKv ((kvs.map fun p => keyD p.1).zip ds) = true → PairsRead s.heap keyD vs ((kvs.map fun p => keyD p.1).zip ds) []
  | [], _, _, .nil, .nil, _ => .nil
  | p :: kvs, (k, v) :: vs, d :: ds, .cons h t, .cons r rs, ha => by
    simp only [List.map_cons, List.zip_cons_cons, atomKv, Bool.and_eq_true] at ha
    obtain ⟨h1, h2⟩ := h
    have h1' : p.1 = k := h1
    subst h1'
    have := PairsRead.cons (enc := keyD) (k := p.1) (reads_atom (s := s) r h2 ha.1) (pairs_atom t rs ha.2)
    exact this
theorem key_reads (P : Program) (w : World) (h : Heap) (k : L2.Key) (key : Value) (e : (mixKind P w).is k key = true) : Reads h key (keyD k) [] := by
  rcases keyIs_shape (show keyIs k key = true from e) with ⟨i, t, rfl, rfl⟩ | ⟨x, t, rfl, rfl⟩
  · exact .int i t
  · exact .str x t
theorem reads_dic (I : Inv X pins σ H s) {a : Addr} {kvs : List (L2.Key × V)} {ds : List D} (rd : Rd H a (.dK kvs)) (r : RpAll X.K O H (kvs.map (·.2)) ds) (ha : atomKv ((kvs.map fun p => keyD p.1).zip ds) = true) :
    ∃ as, Reads s.heap (.ref a) (.dict ((kvs.map fun p => keyD p.1).zip ds)) as ∧ sysModules ∉ as := by
  obtain ⟨z, hd, vs, kv, dd⟩ := dk_rd I.hok rd
  refine ⟨_, reads_dictOf (enc := keyD) (key_reads X.prog X.w s.heap) dd (pairs_atom kv r ha), fun h => ?_⟩
  rw [List.mem_singleton] at h
  rw [← h] at hd
  simp at hd
end
section
variable {K : PySem.W.Frag}
end
section
variable {X : Cx}
def rEq0 (K : PySem.W.Frag) : R2 := fun x y H Q => ∃ a b xs, x = .ref a ∧ y = .ref b ∧ SqT K H a xs ∧ SqT K H b [] ∧ Q (.bl xs.isEmpty) H
theorem op_eq0 (hu : X.A.units + 64 < cLine) : OpR X (compareOp .Eq) (rEq0 X.K) := by
  intro pins s σ H x y v u Q I rx ry h
  obtain ⟨a, b, xs, rfl, rfl, h1, h2, q⟩ := h
  cases rx
  cases ry
  obtain ⟨its, rv, pa, _⟩ := I.tuple h1
  obtain ⟨its2, rv2, pb, _⟩ := I.tuple h2
  cases rv2
  refine eq_tupleAt (e := fun _ => true) (show s.heap.IsTuple a its.toArray from pa) (show s.heap.IsTuple b ([] : List Value).toArray from pb) (by omega) (fun j h1 h2 => absurd h2 (by simp)) ?_
  have e : ((List.range (min its.toArray.size ([] : List Value).toArray.size)).all (fun _ => true) && its.toArray.size == ([] : List Value).toArray.size) = xs.isEmpty := by
    have := rv.length
    cases xs with
    | nil => cases rv; rfl
    | cons x xs => cases its with
      | nil => cases rv
      | cons => simp
  rw [e]
  exact ⟨.bl xs.isEmpty, H, I, rfl, q⟩
def rEqA0 (K : PySem.W.Frag) : R2 := fun x y H Q => rEqA K x y H Q ∨ rEq0 K x y H Q
theorem op_eqA0 (hu : X.A.units + 64 < cLine) : OpR X (compareOp .Eq) (rEqA0 X.K) := OpR.or (op_eqA hu) (op_eq0 hu)
end
section
variable {K : PySem.W.Frag}
def dEq0 : D → D → Option D
  | .tuple ds, .tuple [] => some (.bool ds.isEmpty)
  | d, e => dEq d e
theorem od_eq0 : OpD K (rEqA0 K) dEq0 := by
  intro O H x y d e z hO l1 l2 hz Q q
  unfold dEq0 at hz
  split at hz
  · rename_i ds
    cases hz
    obtain ⟨a, xs, rfl, h1, r1, _⟩ := Rp.tupI (show Rp K O H x (.tuple ds) from l1)
    obtain ⟨b, ys, rfl, h2, r2, _⟩ := Rp.tupI (show Rp K O H y (.tuple []) from l2)
    cases r2
    have e : xs.isEmpty = ds.isEmpty := by cases r1 <;> rfl
    refine .inr ⟨a, b, xs, rfl, rfl, h1, h2, ?_⟩
    rw [e]
    exact q _ H Ext.refl (.bl _)
  · exact .inl (od_eq O H x y d e z hO l1 l2 hz Q q)
theorem c_eq0 {ds : List D} : dEq0 (.tuple ds) (.tuple []) = some (.bool ds.isEmpty) := rfl
end
end GD

namespace GD
open PySem PySem.Spec PyProof.Rows L2
structure KwD (K : PySem.W.Frag) (x qual : Str) (st : Stmt) (fd : FuncData) (nm : Str) (u : Value) : Prop where
  ex : ∃ (D : Addr) (doc pm : Value) (an : Option Addr) (cdv ct : Value), fd = PySem.W.fnOf x qual (defArgs st) (defBody st) (defScope st) .none (.ref D) doc pm an cdv ct ∧ PySem.W.nsIn K D nm = some (some u)
theorem KwD.binds {K : PySem.W.Frag} {x qual : Str} {st : Stmt} {fd : FuncData} {nm : Str} {u : Value} {ps : List Str} (F : KwD K x qual st fd nm u) (n : Nat) (hn : n + 1 = ps.length)
    (h : ∀ (D : Addr) (doc pm : Value) (an : Option Addr) (cdv ct : Value) (us : List Value) (v : Value), us.length = n → KwChain D [(nm, v)] (bindArgs (PySem.W.fnOf x qual (defArgs st) (defBody st) (defScope st) .none (.ref D) doc pm an cdv ct) ⟨us, []⟩) (ps.zip (us ++ [v]))) : Binds K fd ps [u] := by
  obtain ⟨D, doc, pm, an, cdv, ct, rfl, hu⟩ := F.ex
  intro s us X hl
  refine BindsTo.of_looks fun M => KwChain.looks X (fun q hq => ?_) (h D doc pm an cdv ct us u (by rw [List.length_append, List.length_singleton] at hl; omega))
  rw [List.mem_singleton.mp hq]; exact hu
section
variable {α : Type} {x y z d : α}
end
section
variable {M : FnS} {dd : List D} {fl : EvA} {env e : En} {l : List R}
end
section
variable {K : PySem.W.Frag}
end
end GD

set_option maxHeartbeats 4000000
namespace GD
open PySem PySem.Spec PyProof.Rows L2
section
variable {K : PySem.W.Frag}
end
section
variable {prog : Program} {w : World} {A : Around} {E : Value → Shared → Prop} {s : Shared}
end
section
variable {X : Cx} {K : PySem.W.Frag}
end
end GD

namespace GD
open PySem PySem.Spec PyProof.Rows L2 PySem.SeqAt
section
variable {K : PySem.W.Frag}
end
section
variable {prog : Program} {w : World} {h₀ : Heap} {a : Addr} {A : Around} {E : Value → Shared → Prop} {s : Shared} {Q : Value → Shared → Prop}
end
section
variable {X : Cx}
end
section
variable {K : PySem.W.Frag}
end
end GD

namespace GD
open PySem PySem.Spec PyProof.Rows L2 PySem.SeqAt
section
variable {X : Cx}
def rL0 (K : PySem.W.Frag) (f : Bool → Bool) : R2 := fun x y H Q => ∃ a b xs, x = .ref a ∧ y = .ref b ∧ SqL K H a xs ∧ SqL K H b [] ∧ Q (.bl (f xs.isEmpty)) H
theorem op_eqL0 (hu : X.A.units + 64 < cLine) : OpR X (compareOp .Eq) (rL0 X.K id) := by
  intro pins s σ H x y v u Q I rx ry h
  obtain ⟨a, b, xs, rfl, rfl, h1, h2, q⟩ := h
  cases rx
  cases ry
  obtain ⟨its, rv, pa, _⟩ := I.list h1
  obtain ⟨its2, rv2, pb, _⟩ := I.list h2
  cases rv2
  cases rv with
  | nil => exact eq_listAt (e := fun _ => true) pa.isList pb.isList rfl (by omega) (fun j h1 h2 => absurd h2 (by simp)) ⟨.bl true, H, I, rfl, q⟩
  | cons r rr => exact eq_list_lengthsAt pa.isList pb.isList (by simp) (by omega) ⟨.bl false, H, I, rfl, q⟩
end
section
variable {K : PySem.W.Frag}
def dL0 (f : Bool → Bool) : D → D → Option D
  | .list ds, .list [] => some (.bool (f ds.isEmpty))
  | _, _ => none
theorem od_L0 {f : Bool → Bool} : OpD K (rL0 K f) (dL0 f) := by
  intro O H x y d e z hO l1 l2 hz Q q
  match d, e, hz, l1, l2 with
  | .list ds, .list [], hz, l1, l2 =>
    cases hz
    obtain ⟨a, xs, rfl, h1, r1⟩ := l1
    obtain ⟨b, ys, rfl, h2, r2⟩ := l2
    cases r2
    have e : xs.isEmpty = ds.isEmpty := by cases r1 <;> rfl
    refine ⟨a, b, xs, rfl, rfl, .inl (.inl h1), .inl (.inl h2), ?_⟩
    rw [e]
    exact q _ H Ext.refl (.bl _)
def dEqL0 : D → D → Option D := dL0 id
theorem od_eqL0 : OpD K (rL0 K id) dEqL0 := od_L0
theorem c_eqL0x {ds : List D} : dEqL0 (.list ds) (.list []) = some (.bool ds.isEmpty) := rfl
end
end GD

set_option maxHeartbeats 4000000
namespace GD
open PySem PySem.Spec PyProof.Rows L2
section
variable {prog : Program} {w : World} {A : Around} {E : Value → Shared → Prop} {s : Shared}
end
section
variable {X : Cx}
end
section
variable {K : PySem.W.Frag}
theorem RpAll.reverse {O : Addr → Prop} {H : Hp} : ∀ {vs : List V} {ds : List D}, RpAll K O H vs ds → RpAll K O H vs.reverse ds.reverse
  | [], [], h => h
  | v :: vs, d :: ds, h => by
    cases h with
    | cons h1 h2 =>
      rw [List.reverse_cons, List.reverse_cons]
      exact RpAll.append (RpAll.reverse h2) (.cons h1 .nil)
  | [], _ :: _, h => nomatch h
  | _ :: _, [], h => nomatch h
def sPar (i j : Nat) (fa : EvA) : EvS := fun env => (fa env).bind fun p => match p.1 with
  | [r, s] => (rk p.2 r).bind fun d => (rk p.2 s).map fun e => (.nx, (p.2.set i (some (.shr d))).set j (some (.shr e)))
  | _ => none
theorem is_par {i j : Nat} {ta : TA} {fa : EvA} (h : IA K ta fa) : IS K (tPar i j ta) (sPar i j fa) := by
  intro F env σ H fl env' S e Dn k
  simp only [sPar, Option.bind_eq_some_iff] at e
  obtain ⟨⟨rs, e1⟩, a1, a2⟩ := e
  refine h F T0 env σ H rs e1 S a1 _ fun vs H' S' st rv => ?_
  match rs, vs, a2, rv with
  | [r, s], [v, w], a2, rv =>
    simp only [Option.bind_eq_some_iff, Option.map_eq_some_iff] at a2
    obtain ⟨d, h1, d2, h2, h3⟩ := a2
    cases h3
    have r1 := rk_ok S' rv.1 h1
    have r2 := rk_ok S' rv.2.1 h2
    have S1 := S'.setS (i := i) r1
    have ow : ∀ b, Ow F T0 (e1.set i (some (.shr d))) (σ.set i (some v)) b → Ow F T0 e1 σ b := fun b h => h.imp id (.imp id fun h => (wr_set h).elim id fun ⟨p, m, e, _⟩ => by cases e)
    refine ⟨v, w, rfl, k _ H' (S1.setS (r2.anti ow)) (st.q.trans (S'.setS_q.trans S1.setS_q))⟩
  | [], _, a2, _ => cases a2
  | [_], _, a2, _ => cases a2
  | _ :: _ :: _ :: _, _, a2, _ => cases a2
  | [_, _], [], _, rv => exact rv.elim
  | [_, _], [_], _, rv => exact rv.2.elim
  | [_, _], _ :: _ :: _ :: _, _, rv => exact rv.2.2.elim
variable {i j : Nat} {fa : EvA} {env e : En} {rs : List R} {r s : R}
def parR (i j : Nat) : Option (List R × En) → Option (Fl × En)
  | some ([r, s], e) => (rk e r).bind fun d => (rk e s).map fun d' => (.nx, (e.set i (some (.shr d))).set j (some (.shr d')))
  | _ => none
theorem q_par : sPar i j fa env = parR i j (fa env) := by
  unfold sPar parR
  cases h : fa env with
  | none => rfl
  | some p =>
    obtain ⟨rs, e⟩ := p
    match rs with
    | [r, s] => rfl
    | [] => rfl
    | [_] => rfl
    | _ :: _ :: _ :: _ => rfl
theorem q_par1 {d d' : D} : parR i j (some ([.val d, .val d'], e)) = some (.nx, (e.set i (some (.shr d))).set j (some (.shr d'))) := rfl
end
end GD

set_option maxHeartbeats 4000000
namespace GD
open PySem PySem.Spec PyProof.Rows L2
def ixOf (d : D) : List D → Option Nat
  | [] => none
  | z :: l => if PyData.eqv z d = true then some 0 else (ixOf d l).map (· + 1)
theorem ixOf_ok {d : D} : ∀ {ds : List D} {j : Nat}, ixOf d ds = some j → ∃ z, ds[j]? = some z ∧ PyData.eqv z d = true ∧ ∀ (m : Nat) (z' : D), m < j → ds[m]? = some z' → PyData.eqv z' d = false
  | [], j, h => by cases h
  | y :: l, j, h => by
    unfold ixOf at h
    split at h
    · rename_i c
      cases h
      exact ⟨y, rfl, c, fun m z' hm => absurd hm (Nat.not_lt_zero _)⟩
    · rename_i c
      cases h1 : ixOf d l with
      | none => rw [h1] at h; cases h
      | some k =>
        rw [h1] at h; cases h
        obtain ⟨z, a, b, e⟩ := ixOf_ok h1
        refine ⟨z, by simpa using a, b, fun m z' hm hz => ?_⟩
        cases m with
        | zero => cases hz; simpa using c
        | succ m => exact e m z' (Nat.lt_of_succ_lt_succ hm) (by simpa using hz)
section
variable {K : PySem.W.Frag}
def mIndex : D → List D → Option D
  | .list ds, [d] => if (SeqAt.shaped (.list ds) && SeqAt.shaped d) = true then (ixOf d ds).map fun j => .int (j : Nat) else none
  | _, _ => none
theorem bm_index : BmD K (rIndexD K) mIndex := by
  intro O H x d vs ds z hO l1 l2 hz Q q
  match d, ds, hz, l1, l2 with
  | .list es, [d], hz, l1, l2 =>
    simp only [mIndex] at hz
    split at hz
    · rename_i hs
      rw [Bool.and_eq_true] at hs
      cases h1 : ixOf d es with
      | none => rw [h1] at hz; cases hz
      | some j =>
        rw [h1] at hz; cases hz
        obtain ⟨v, rfl, h⟩ := LvAll.one l2
        obtain ⟨y, e1, e2, e3⟩ := ixOf_ok h1
        obtain ⟨a, xs, rfl, s1, r1⟩ := id l1
        exact ⟨a, v, d, es, j, y, rfl, rfl, Lv.dp l1 (nodict_of hs.1), Lv.dp h (nodict_of hs.2), hs.1, hs.2, e1, e2, e3, q _ H Ext.refl (.int _)⟩
    · cases hz
theorem c_index {ds : List D} {d : D} {j : Nat} (h1 : SeqAt.shaped (.list ds) = true) (h2 : SeqAt.shaped d = true) (h : ixOf d ds = some j) : mIndex (.list ds) [d] = some (.int (j : Nat)) := by
  show (if (SeqAt.shaped (.list ds) && SeqAt.shaped d) = true then (ixOf d ds).map fun j => PyData.int (j : Nat) else none) = _
  rw [if_pos (by rw [h1, h2]; rfl), h]; rfl
end
section
variable {prog : Program} {w : World} {A : Around}
end
theorem five {c z TI TO i1 i2 : Addr} (h : c ∈ [z, TI, TO, i1, i2]) : c = z ∨ c = TI ∨ c = TO ∨ c = i1 ∨ c = i2 := by simpa using h
section
variable {K : PySem.W.Frag}
end
end GD

namespace GD
open PySem PySem.Spec PyProof.Rows L2
section
variable {K : PySem.W.Frag} {te : TE} {fe : EvE} {tt tt1 : TT} {ft ft1 : EvT}
end

section
variable {vs vs1 : List Nat} {fw fw1 : EvW} {tg tg1 : D → En → Option En} {ft ft1 : EvT} {fe : EvE} {env e : En} {ds acc its : List D} {d : D}
end
end GD

namespace GD
open PySem PySem.Spec PyProof.Rows L2
section
variable {K : PySem.W.Frag}
end
end GD

namespace GD
open PySem PySem.Spec PyProof.Rows L2
section
variable {K : PySem.W.Frag}
end
end GD

namespace GD
open PySem PySem.Spec PyProof.Rows L2
section
variable {K : PySem.W.Frag}
end
end GD

namespace GD
open PySem PySem.Spec PyProof.Rows L2
section
variable {P : Program} {w : World} {A : Around} {E : Value → Shared → Prop} {s : Shared}
end
end GD

namespace GD
open PySem PySem.Spec PyProof.Rows L2
section
variable {X : Cx}
def rSetL (K : PySem.W.Frag) (w : World) : List V → Hp → VK → Prop := fun vs H Q => ∃ (a : Addr) (ns : List Int), vs = [V.ref a] ∧ SqL K H a (ns.map V.int) ∧ ns.length ≤ 1000 ∧
  ∀ (p : Addr) (c : Nat), H p = none → c ≤ ns.length → Q (.ref p) (upd H p (SetO w p (fun j => decide (j ∈ ns)) c))
variable {K : PySem.W.Frag} {w : World}
end
end GD

namespace GD
open PySem PySem.Spec PyProof.Rows L2
section
variable {P : Program} {w : World} {K' : Type} [DecidableEq K'] (kd : PySem.KeyKind P w K') (kf : Int × Value → K')
def GoodG (e : Int × Value) : Prop := kd.is (kf e) e.2 = true ∧ e.1 = kd.hash (kf e) ∧ e.2.scannable = true
def SG (h : Heap) (a : Addr) (ks : List K') : Prop := ∃ (o : Obj) (ys : Array (Int × Value)) (ep : Nat) (tb : SetTable), h.get? a = some o ∧ o.ExactSet ∧ o.data = .set ys ep tb ∧ (∀ e ∈ ys.toList, GoodG kd kf e) ∧ (ys.toList.map kf).Perm ks ∧ ks.Nodup ∧
  ys.size < scanBound ∧ tb.fits ys.size = true ∧ Ris tb.place.toList ∧ (w.params.followText "set-order" = true ∨ tb.led = true)
variable {kd kf} {A : Around} {E : Value → Shared → Prop} {s : Shared} {a : Addr} {ks : List K'}
theorem SG.at {h h' : Heap} (R : SG kd kf h a ks) (kp : ∀ o, h.get? a = some o → h'.get? a = some o) : SG kd kf h' a ks := by
  obtain ⟨o, ys, ep, tb, ho, r⟩ := R
  exact ⟨o, ys, ep, tb, kp o ho, r⟩
end
end GD

namespace GD
open PySem PySem.Spec PyProof.Rows L2
section
variable {K' : Type} [DecidableEq K']
end
section
variable {P : Program} {w : World} {K' : Type} [DecidableEq K'] {kd : PySem.KeyKind P w K'} {kf : Int × Value → K'} {A : Around} {E : Value → Shared → Prop} {s : Shared}
end
end GD

namespace GD
open PySem PySem.Spec PyProof.Rows L2
def kfS (e : Int × Value) : Str := match e.2 with
  | .str x _ => x
  | _ => ("" : Str)
section
variable {P : Program} {w : World} {A : Around} {E : Value → Shared → Prop} {s : Shared} {a : Addr} {ks : List Str}
end
end GD

namespace GD
open PySem PySem.Spec PyProof.Rows L2
section
variable {X : Cx}
end
end GD

namespace GD
open PySem PySem.Spec PyProof.Rows L2
def ltT (x y : Str) : Prop := ltCps x.cps.toList y.cps.toList = true
instance (x y : Str) : Decidable (ltT x y) := inferInstanceAs (Decidable (_ = true))
section
variable {X : Cx}
end
end GD

namespace GD
open PySem PySem.Spec PyProof.Rows L2
section
variable {P : Program} {w : World} {K : PySem.W.Frag} {te : TE} {fe : EvE} {tt : TT} {ft : EvT}
end
end GD

namespace GD
open PySem PySem.Spec PyProof.Rows L2
section
variable {env e : En} {fw : EvW} {tg : D → En → Option En} {ft : EvT} {fe : EvE} {ds : List D} {vs : List Nat}
end
section
variable {K : PySem.W.Frag}
end
end GD

namespace GD
open PySem PySem.Spec PyProof.Rows L2
section
variable {X : Cx}
end
end GD

namespace GD
open PySem PySem.Spec PyProof.Rows L2
section
variable {K : PySem.W.Frag}
theorem lv_new {O : Addr → Prop} {H : Hp} {x : V} {d : D} {p : Addr} {o : HO} (np : H p = none) (l : Lv K O H x d) : Lv K O (upd H p o) x d := by
  cases d with
  | list ds =>
    obtain ⟨a, xs, rfl, h, r⟩ := l
    exact ⟨a, xs, rfl, by rw [upd_ne (ne_of_none h np)]; exact h, r.upd np⟩
  | none => exact (show Rp K O H x _ from l).upd np
  | bool b => exact (show Rp K O H x _ from l).upd np
  | int i => exact (show Rp K O H x _ from l).upd np
  | str y => exact (show Rp K O H x _ from l).upd np
  | tuple ds => exact (show Rp K O H x _ from l).upd np
  | dict ds =>
    rcases l with ⟨a, kvs, es, rfl, h, r, e⟩ | ⟨a, dx, C, nm, f, y, d, rfl, c, h, h2, r, e⟩ | ⟨⟨a, rfl⟩, e⟩
    · exact .inl ⟨a, kvs, es, rfl, rd_tr (fun o q => by rw [upd_ne (ne_of_none q np)]; exact q) h, r.upd np, e⟩
    · exact .inr (.inl ⟨a, dx, C, nm, f, y, d, rfl, c, by rw [upd_ne (ne_of_none h np)]; exact h, h2.imp id fun h2 => by rw [upd_ne (ne_of_none h2 np)]; exact h2, r.upd np, e⟩)
    · exact .inr (.inr ⟨⟨a, rfl⟩, e⟩)
end
end GD

namespace GD
open PySem PySem.Spec PyProof.Rows L2
section
variable {K : PySem.W.Frag}
end
end GD

namespace GD
open PySem PySem.Spec PyProof.Rows L2
section
variable {K : PySem.W.Frag}
end
section
variable {X : Cx}
variable {K : PySem.W.Frag} {P : Program} {w : World}
end
end GD

namespace GD
open PySem PySem.Spec PyProof.Rows L2
section
variable {K : PySem.W.Frag}
end
end GD

set_option maxHeartbeats 4000000
namespace GD
open PySem PySem.Spec PyProof.Rows L2
section
variable {X : Cx}
end
section
variable {K : PySem.W.Frag}
end
end GD

namespace GD
open PySem PySem.Spec PyProof.Rows L2
section
variable {K : PySem.W.Frag} {F : Frm} {T : Addr → Prop} {H H' : Hp} {env env' : En} {σ σ' : L2.St}
theorem StOk.drop (S : StOk K F T H env σ) (hT : ∀ a, T a → F.H0 a = none) (x : Ext T H H') : StOk K F T0 H' env σ := by
  have g : ∀ a, Ow F T0 env σ a → Ow F T env σ a := fun a q => q.imp id (.imp (fun h => h.elim) id)
  have k : ∀ a o, ¬ Ow F T env σ a → H a = some o → H' a = some o := fun a o n e => x.same a o e fun t => n (.inr (.inl t))
  refine ⟨S.len, fun j d e => ?_, fun j p m e => ?_, S.dis, ⟨fun a o e n => ?_, fun a e => x.live a (S.ext.live a e)⟩, S.dom, S.sub, fun a h => h.elim, fun a h => h.elim⟩
  · obtain ⟨u, e2, r⟩ := S.shr j d e
    exact ⟨u, e2, r.tr (fun a _ _ n q => n (g a q)) k⟩
  · obtain ⟨a, e2, r, c⟩ := S.own j p m e
    have nt : ¬ T a := fun t => S.tno a t ⟨j, p, m, e, e2⟩
    exact ⟨a, e2, r.tr (fun a _ _ n q => n (g a q)) k (fun o e => x.same a o e nt), c⟩
  · exact x.same a o (S.ext.same a o e n) fun t => by rw [hT a t] at e; cases e
end
section
variable {K : PySem.W.Frag}
def rowD (n : List Int) : D := .list (n.map .int)
def NN (n1 n2 n3 n4 : List Int) (k : Int) : D := .list [rowD n1, rowD n2, rowD n3, rowD n4, .int k]
structure NestOk (f1 f2 f3 f4 f5 : EvX) (env : En) (n1 n2 n3 n4 : List Int) (k : Int) (s : Str) : Prop where
  e1 : f1 env = some (.inr (.l (n1.map .int)), env)
  e2 : f2 env = some (.inr (.l (n2.map .int)), env)
  e3 : f3 env = some (.inr (.l (n3.map .int)), env)
  e4 : f4 (env.set 4 none) = some (.inr (.l (n4.map .int)), env.set 4 none)
  e5 : f5 (env.set 4 none) = some (.inl (.val (.int k)), env.set 4 none)
  s2 : env[2]? = some (some (.shr (.str s)))
  ok : okShow (NN n1 n2 n3 n4 k) = true
  sh : (NN n1 n2 n3 n4 k).shown = s
  len : 5 < env.length
  l1 : n1.length ≤ 1000
  l2 : n2.length ≤ 1000
  l3 : n3.length ≤ 1000
  l4 : n4.length ≤ 1000
end
end GD

set_option maxHeartbeats 2000000
namespace GDX
open PySem PySem.W PySem.Calls PyProof.Rows PySem.HandSPX Builtin.ObjectAttr
section
variable {prog : Program} {w : World} {A : Around} {E : Value → Shared → Prop} {R : Result → Shared → Prop} {hp : Heap} {g : Array GenState} {d : Drawn} {t : Nat} {os : OsState}
theorem store1 {K : Frag} {B : String} {bmB : List Value} {name : Str} {tk : Tok} {v : Value} {x C t0 : Addr} (SF : StoreFacts B bmB "object.__setattr__" "object") (X : K.In hp) (hx : hp.get? x = some (excObj C t0 none .none))
    (ov : excOver K C bmB = true) (ht : takerIn K C name = some none) (hh : hasDictIn K C = true)
    (hq : ∀ h' tk' dx, (∀ b o, b ≠ x → hp.get? b = some o → h'.get? b = some o) → hp.objs.size ≤ dx → dx ≠ x → h'.get? x = some (excObj C t0 (some dx) .none) →
      h'.Ns1 dx (fun y => if y = name then some v else none) → R (.ok (.ret .none)) ⟨h', g, d, tk', os⟩) :
    codeAny (model prog w) A (.call (.builtin "object.__setattr__") ⟨[.ref x, .str name tk, v], []⟩) R ⟨hp, g, d, t, os⟩ := by
  refine osa_openX (s := ⟨hp, g, d, t, os⟩) (od := none) SF X ⟨hx, rfl, rfl, trivial⟩ ov ht fun _ => ?_
  obtain ⟨cdx, hcx, hdx⟩ := any_some hh
  have hne : x ≠ hp.objs.size := Nat.ne_of_lt (Heap.lt_size hx)
  refine wpAny_bind (wpAny_pure (wpAny_bind (instanceDict_exc (s := ⟨hp, g, d, t, os⟩) hx (looks_clsIn X hcx) hdx ?_)))
  generalize hh1 : (hp.push (PySem.W.dictOf [] 0)).update x (fun o => { o with dict := some hp.objs.size }) = h1
  have old : ∀ b o, b ≠ x → hp.get? b = some o → h1.get? b = some o := fun b o hb e => by
    rw [← hh1, Heap.get?_update_ne _ _ _ _ hb]
    exact Heap.get?_push_of_some _ e
  have nsd : h1.Ns hp.objs.size (fun _ => none) := by
    refine ⟨PySem.W.dictOf [] 0, #[], 0, ?_, rfl, fun e he => absurd he (by simp), fun _ => rfl⟩
    rw [← hh1, Heap.get?_update_ne _ _ _ _ hne.symm]
    exact Heap.get?_push_at rfl rfl
  have hx1 : h1.get? x = some (excObj C t0 (some hp.objs.size) .none) := by
    rw [← hh1]
    exact Heap.get?_update_self _ (Heap.get?_push_of_some _ hx) rfl
  show wpAny _ _ (storeInDict hp.objs.size (.str name tk) name v) _ _ _
  refine PySem.HandSPX.store_in_new nsd fun h2 tk2 n2 sb => ?_
  exact hq h2 tk2 hp.objs.size (fun b o hb e => (sb.2 b (Nat.ne_of_lt (Heap.lt_size e))).trans (old b o hb e)) (Nat.le_refl _) hne.symm ((sb.2 x hne).trans hx1) n2
end

namespace XS
def iA (p1 p2 : Pos) : Arguments := { posonlyargs := [], args := [{ arg := "self", annotation := none, pos := p1 }, { arg := "slot", annotation := none, pos := p2 }], vararg := none, kwonlyargs := [], kw_defaults := [], kwarg := none, defaults := [] }
def iB (q1 q2 q3 q4 : Pos) : List Stmt := [.Assign [.Attribute (.Name "self" q1) "slot" q2] (.Name "slot" q3) q4]
def iS : Scope := { kind := .function, names := [(PySem.Str.ofString "self", .local), (PySem.Str.ofString "slot", .local)], isGenerator := false, isCoroutine := false, more := [] }
structure XT (K : Frag) (mg : Str → Option Value) (nm : Str) (bmB : List Value) (newId : String) (C fI : Addr) : Prop where
  gC : mg nm = some (.ref C)
  ini : excInitIn K C bmB newId = true
  ov : excOver K C bmB = true
  sa : findIn K (.ref C) "__setattr__" = some (some (.builtin "object.__setattr__"))
  ga : findIn K (.ref C) "__getattribute__" = some (some (.builtin "BaseException.__getattribute__"))
  gg : findIn K (.ref C) "__getattr__" = some none
  noN : findIn K (.ref C) "slot" = some none
  iC : findIn K (.ref C) "__init__" = some (some (.ref fI))
  tC : typeIn K (.ref fI) = some (.type "function")
  kC : keepIn K (.ref C) = true
  exC : subIn K (.ref C) (.type "BaseException") = some true
  tyC : typeIn K (.ref C) = some (.type "type")
  hdC : hasDictIn K C = true
  fn : ∃ (st : Stmt) (qn : Str) (oc : Value) (od : Option Addr) (kV doc pm : Value) (an : Option Addr) (cdv ct : Value) (osl : Array (Option Value)),
    K.lookup fI = some ⟨oc, od, .func (fnOf "__init__" qn (L2.defArgs st) (L2.defBody st) (L2.defScope st) .none kV doc pm an cdv ct), osl⟩ ∧ codeIn K cdv qn = true ∧
      (∃ p1 p2 : Pos, L2.defArgs st = iA p1 p2) ∧ (∃ q1 q2 q3 q4 : Pos, L2.defBody st = iB q1 q2 q3 q4) ∧ L2.defScope st = iS
structure IEnd (h h' : Heap) (x C dx t1 : Addr) (v : Value) : Prop where
  keep : ∀ b o, b ≠ x → h.get? b = some o → h'.get? b = some o
  obj : h'.get? x = some (excObj C t1 (some dx) .none)
  big : h.objs.size ≤ dx
  ne : dx ≠ x
  ns : h'.Ns1 dx (fun y => if y = "slot" then some v else none)
structure Made (h h' : Heap) (e C d : Addr) (v : Value) : Prop where
  keep : ∀ b o, h.get? b = some o → h'.get? b = some o
  new : h.objs.size ≤ e
  obj : ∃ t1 : Addr, h'.get? e = some (excObj C t1 (some d) .none)
  big : h.objs.size ≤ d
  ne : d ≠ e
  ns : h'.Ns1 d (fun y => if y = "slot" then some v else none)
theorem ldC {M : Model} {s : Shared} {name : Str} {scope : Scope} {L a : Addr} {cd : Value} {m : Str → Option Value} {x : Str} {pos : Pos} {v : Value} {Q : Value → Shared → Prop} {A : Around} {E : Value → Shared → Prop} (hn : s.heap.Ns L m) (hv : m x = some v) (h : Q v s)
    (hk : scope.kind = .function := by rfl) (hl : (envOfC name scope L a cd).kindOf x = some .local := by rfl) (hd : (x == ("__debug__" : Str)) = false := by decide) :
    wpAny M A (eval (.Name x pos) (envOfC name scope L a cd)) Q E s := wpAny_Name (wpAny_loadName_local hk hl hn hv h) hd
section
variable {prog : Program} {w : World} {A : Around} {E : Value → Shared → Prop} {R : Result → Shared → Prop} {s : Shared} {K : Frag} {mg : Str → Option Value} {nm : Str} {bmB : List Value} {B newId initId : String} {C fI : Addr}
theorem init_runs (SF : StoreFacts B bmB "object.__setattr__" "object") (T : XT K mg nm bmB newId C fI) {x t0 : Addr} {v : Value} (X : K.In s.heap) (hlim : s.heap.NoLimit) (hx : s.heap.get? x = some (excO C t0)) (hroom : A.depth < recursionLimit)
    (hq : ∀ h' tk dx, IEnd s.heap h' x C dx t0 v → R (.ok (.ret .none)) { s with heap := h', toks := tk }) :
    codeAny (model prog w) A (.call (.ref fI) ⟨[.ref x, v], []⟩) R s := by
  obtain ⟨st, qn, oc, od, kV, doc, pm, an, cdv, ct, osl, ho, hcd, ⟨p1, p2, eA⟩, ⟨q1, q2, q3, q4, eB⟩, eS⟩ := T.fn
  rw [eA, eB, eS] at ho
  refine Att.call_fn (binds := [("self", .ref x), ("slot", v)]) X hlim ho hcd hroom (BindsTo.of_eq (by first | rfl | with_unfolding_all rfl)) (by first | rfl | decide | with_unfolding_all rfl) (fun s₁ IC => ?_) rfl rfl rfl
  obtain ⟨h₁, tk₁, rfl⟩ := IC.toInCall.same
  have k : ∀ b o, s.heap.get? b = some o → h₁.get? b = some o := IC.toInCall.keep
  have hn := IC.toInCall.ns
  have X₁ : K.In h₁ := X.keeps k
  have hx₁ := k _ _ hx
  show wpAny _ _ (execs _ _) _ _ _
  refine wpAny_execs_cons (plainObj_wpAny_Assign_Attribute ?_)
  refine ldC (v := v) hn (by first | rfl | with_unfolding_all rfl | kernel_rfl) (ldC (v := .ref x) hn (by first | rfl | with_unfolding_all rfl | kernel_rfl) ?_)
  refine set_plain X₁ (ox := excO C t0) (od := none) ⟨hx₁, rfl, rfl, trivial⟩ T.sa ?_
  refine store1 SF X₁ hx₁ T.ov (by unfold takerIn; rw [T.noN]; rfl) T.hdC fun h₃ tk₃ dx k₃ dn dne hx₃ hn₃ => ?_
  show wpAny _ _ (execs _ _) _ _ _
  have z : s.heap.objs.size < h₁.objs.size := hn.lt
  exact wpAny_execs_nil (hq h₃ tk₃ dx ⟨fun b o hb e => k₃ b o hb (k b o e), hx₃, Nat.le_of_lt (Nat.lt_of_lt_of_le z dn), dne, hn₃⟩)
theorem made (FB : ExcBaseFacts B newId initId bmB) (SF : StoreFacts B bmB "object.__setattr__" "object") (T : XT K mg nm bmB newId C fI) {v : Value} (X : K.In s.heap) (hlim : s.heap.NoLimit) (hroom : A.depth + 1 < recursionLimit)
    (hq : ∀ h' tk e d, Made s.heap h' e C d v → R (.ok (.ret (.ref e))) { s with heap := h', toks := tk }) :
    codeAny (model prog w) A (.call (.ref C) ⟨[v], []⟩) R s := by
  obtain ⟨nmC, N, qC, bs, bm, hdct, sn, sub, ab, col, dd, k0, k1, k2, k3, k5, hC, hT⟩ := excInit_of X T.ini
  obtain ⟨hp, g, dr, tk, os⟩ := s
  have k : ∀ b o, hp.get? b = some o → ((hp.push (kdv_tup [v])).push (excO C hp.objs.size)).get? b = some o := fun b o e => Heap.get?_push_of_some _ (Heap.get?_push_of_some _ e)
  have hget : ((hp.push (kdv_tup [v])).push (excO C hp.objs.size)).get? (hp.objs.size + 1) = some (excO C hp.objs.size) := by heap_get
  refine call_own FB hT hC (looks_findIn X T.iC) (fun self => bind_fn X self T.tC) (by rw [sizeLine_eq]; exact (by decide : 1 ≤ 16777216)) ?_
  refine init_runs (s := ⟨(hp.push (kdv_tup [v])).push (excO C hp.objs.size), g, dr, tk, os⟩) SF T (X.keeps k) (hlim.keeps k) hget ?_ fun h' tk' dx ⟨k', hx, dn, dne, hns⟩ => ?_
  · show A.depth + 1 < recursionLimit
    exact hroom
  · have old : ∀ b o, hp.get? b = some o → h'.get? b = some o := fun b o e => k' b o (Nat.ne_of_lt (Nat.lt_succ_of_lt (Heap.lt_size e))) (k b o e)
    have z : hp.objs.size + 1 + 1 ≤ dx := by
      first
        | (simpa only [Heap.size_push] using dn)
        | exact dn
        | (have q := dn; rw [Heap.size_push, Heap.size_push] at q; exact q)
    exact ⟨rfl, hq h' tk' (hp.objs.size + 1) dx ⟨old, Nat.le_succ _, ⟨_, hx⟩, Nat.le_trans (Nat.le_trans (Nat.le_succ _) (Nat.le_succ _)) z, dne, hns⟩⟩
end
end XS

namespace XL
def iA (p1 p2 : Pos) : Arguments := { posonlyargs := [], args := [{ arg := "self", annotation := none, pos := p1 }, { arg := "limit", annotation := none, pos := p2 }], vararg := none, kwonlyargs := [], kw_defaults := [], kwarg := none, defaults := [] }
def iB (q1 q2 q3 q4 : Pos) : List Stmt := [.Assign [.Attribute (.Name "self" q1) "limit" q2] (.Name "limit" q3) q4]
def iS : Scope := { kind := .function, names := [(PySem.Str.ofString "self", .local), (PySem.Str.ofString "limit", .local)], isGenerator := false, isCoroutine := false, more := [] }
structure XT (K : Frag) (mg : Str → Option Value) (nm : Str) (bmB : List Value) (newId : String) (C fI : Addr) : Prop where
  gC : mg nm = some (.ref C)
  ini : excInitIn K C bmB newId = true
  ov : excOver K C bmB = true
  sa : findIn K (.ref C) "__setattr__" = some (some (.builtin "object.__setattr__"))
  ga : findIn K (.ref C) "__getattribute__" = some (some (.builtin "BaseException.__getattribute__"))
  gg : findIn K (.ref C) "__getattr__" = some none
  noN : findIn K (.ref C) "limit" = some none
  iC : findIn K (.ref C) "__init__" = some (some (.ref fI))
  tC : typeIn K (.ref fI) = some (.type "function")
  kC : keepIn K (.ref C) = true
  exC : subIn K (.ref C) (.type "BaseException") = some true
  tyC : typeIn K (.ref C) = some (.type "type")
  hdC : hasDictIn K C = true
  fn : ∃ (st : Stmt) (qn : Str) (oc : Value) (od : Option Addr) (kV doc pm : Value) (an : Option Addr) (cdv ct : Value) (osl : Array (Option Value)),
    K.lookup fI = some ⟨oc, od, .func (fnOf "__init__" qn (L2.defArgs st) (L2.defBody st) (L2.defScope st) .none kV doc pm an cdv ct), osl⟩ ∧ codeIn K cdv qn = true ∧
      (∃ p1 p2 : Pos, L2.defArgs st = iA p1 p2) ∧ (∃ q1 q2 q3 q4 : Pos, L2.defBody st = iB q1 q2 q3 q4) ∧ L2.defScope st = iS
structure IEnd (h h' : Heap) (x C dx t1 : Addr) (v : Value) : Prop where
  keep : ∀ b o, b ≠ x → h.get? b = some o → h'.get? b = some o
  obj : h'.get? x = some (excObj C t1 (some dx) .none)
  big : h.objs.size ≤ dx
  ne : dx ≠ x
  ns : h'.Ns1 dx (fun y => if y = "limit" then some v else none)
structure Made (h h' : Heap) (e C d : Addr) (v : Value) : Prop where
  keep : ∀ b o, h.get? b = some o → h'.get? b = some o
  new : h.objs.size ≤ e
  obj : ∃ t1 : Addr, h'.get? e = some (excObj C t1 (some d) .none)
  big : h.objs.size ≤ d
  ne : d ≠ e
  ns : h'.Ns1 d (fun y => if y = "limit" then some v else none)
theorem ldC {M : Model} {s : Shared} {name : Str} {scope : Scope} {L a : Addr} {cd : Value} {m : Str → Option Value} {x : Str} {pos : Pos} {v : Value} {Q : Value → Shared → Prop} {A : Around} {E : Value → Shared → Prop} (hn : s.heap.Ns L m) (hv : m x = some v) (h : Q v s)
    (hk : scope.kind = .function := by rfl) (hl : (envOfC name scope L a cd).kindOf x = some .local := by rfl) (hd : (x == ("__debug__" : Str)) = false := by decide) :
    wpAny M A (eval (.Name x pos) (envOfC name scope L a cd)) Q E s := wpAny_Name (wpAny_loadName_local hk hl hn hv h) hd
section
variable {prog : Program} {w : World} {A : Around} {E : Value → Shared → Prop} {R : Result → Shared → Prop} {s : Shared} {K : Frag} {mg : Str → Option Value} {nm : Str} {bmB : List Value} {B newId initId : String} {C fI : Addr}
theorem init_runs (SF : StoreFacts B bmB "object.__setattr__" "object") (T : XT K mg nm bmB newId C fI) {x t0 : Addr} {v : Value} (X : K.In s.heap) (hlim : s.heap.NoLimit) (hx : s.heap.get? x = some (excO C t0)) (hroom : A.depth < recursionLimit)
    (hq : ∀ h' tk dx, IEnd s.heap h' x C dx t0 v → R (.ok (.ret .none)) { s with heap := h', toks := tk }) :
    codeAny (model prog w) A (.call (.ref fI) ⟨[.ref x, v], []⟩) R s := by
  obtain ⟨st, qn, oc, od, kV, doc, pm, an, cdv, ct, osl, ho, hcd, ⟨p1, p2, eA⟩, ⟨q1, q2, q3, q4, eB⟩, eS⟩ := T.fn
  rw [eA, eB, eS] at ho
  refine Att.call_fn (binds := [("self", .ref x), ("limit", v)]) X hlim ho hcd hroom (BindsTo.of_eq (by first | rfl | with_unfolding_all rfl)) (by first | rfl | decide | with_unfolding_all rfl) (fun s₁ IC => ?_) rfl rfl rfl
  obtain ⟨h₁, tk₁, rfl⟩ := IC.toInCall.same
  have k : ∀ b o, s.heap.get? b = some o → h₁.get? b = some o := IC.toInCall.keep
  have hn := IC.toInCall.ns
  have X₁ : K.In h₁ := X.keeps k
  have hx₁ := k _ _ hx
  show wpAny _ _ (execs _ _) _ _ _
  refine wpAny_execs_cons (plainObj_wpAny_Assign_Attribute ?_)
  refine ldC (v := v) hn (by first | rfl | with_unfolding_all rfl | kernel_rfl) (ldC (v := .ref x) hn (by first | rfl | with_unfolding_all rfl | kernel_rfl) ?_)
  refine set_plain X₁ (ox := excO C t0) (od := none) ⟨hx₁, rfl, rfl, trivial⟩ T.sa ?_
  refine store1 SF X₁ hx₁ T.ov (by unfold takerIn; rw [T.noN]; rfl) T.hdC fun h₃ tk₃ dx k₃ dn dne hx₃ hn₃ => ?_
  show wpAny _ _ (execs _ _) _ _ _
  have z : s.heap.objs.size < h₁.objs.size := hn.lt
  exact wpAny_execs_nil (hq h₃ tk₃ dx ⟨fun b o hb e => k₃ b o hb (k b o e), hx₃, Nat.le_of_lt (Nat.lt_of_lt_of_le z dn), dne, hn₃⟩)
theorem made (FB : ExcBaseFacts B newId initId bmB) (SF : StoreFacts B bmB "object.__setattr__" "object") (T : XT K mg nm bmB newId C fI) {v : Value} (X : K.In s.heap) (hlim : s.heap.NoLimit) (hroom : A.depth + 1 < recursionLimit)
    (hq : ∀ h' tk e d, Made s.heap h' e C d v → R (.ok (.ret (.ref e))) { s with heap := h', toks := tk }) :
    codeAny (model prog w) A (.call (.ref C) ⟨[v], []⟩) R s := by
  obtain ⟨nmC, N, qC, bs, bm, hdct, sn, sub, ab, col, dd, k0, k1, k2, k3, k5, hC, hT⟩ := excInit_of X T.ini
  obtain ⟨hp, g, dr, tk, os⟩ := s
  have k : ∀ b o, hp.get? b = some o → ((hp.push (kdv_tup [v])).push (excO C hp.objs.size)).get? b = some o := fun b o e => Heap.get?_push_of_some _ (Heap.get?_push_of_some _ e)
  have hget : ((hp.push (kdv_tup [v])).push (excO C hp.objs.size)).get? (hp.objs.size + 1) = some (excO C hp.objs.size) := by heap_get
  refine call_own FB hT hC (looks_findIn X T.iC) (fun self => bind_fn X self T.tC) (by rw [sizeLine_eq]; exact (by decide : 1 ≤ 16777216)) ?_
  refine init_runs (s := ⟨(hp.push (kdv_tup [v])).push (excO C hp.objs.size), g, dr, tk, os⟩) SF T (X.keeps k) (hlim.keeps k) hget ?_ fun h' tk' dx ⟨k', hx, dn, dne, hns⟩ => ?_
  · show A.depth + 1 < recursionLimit
    exact hroom
  · have old : ∀ b o, hp.get? b = some o → h'.get? b = some o := fun b o e => k' b o (Nat.ne_of_lt (Nat.lt_succ_of_lt (Heap.lt_size e))) (k b o e)
    have z : hp.objs.size + 1 + 1 ≤ dx := by
      first
        | (simpa only [Heap.size_push] using dn)
        | exact dn
        | (have q := dn; rw [Heap.size_push, Heap.size_push] at q; exact q)
    exact ⟨rfl, hq h' tk' (hp.objs.size + 1) dx ⟨old, Nat.le_succ _, ⟨_, hx⟩, Nat.le_trans (Nat.le_trans (Nat.le_succ _) (Nat.le_succ _)) z, dne, hns⟩⟩
end
end XL

end GDX
namespace GDX
open PySem PySem.Spec PyProof.Rows L2
def tMkF (C : Addr) (f : Str) (ta : TA) : L2.St → Hp → XK → Prop := fun σ H Q => ta σ H fun vs H1 => ∃ v, vs = [v] ∧ ∀ d, H1 d = none → Q (.ref C) (some d) (upd H1 d (.xd [(f, v)]))

namespace XS
theorem relO_f {v : V} {v' : Value} (r : RelV v v') (f : Str) : RelO (List.lookup f [(("slot" : Str), v)]) (if f = "slot" then some v' else none) := by
  by_cases hw : f = "slot"
  · subst hw
    rw [if_pos rfl]
    have q : List.lookup ("slot" : Str) [(("slot" : Str), v)] = some v := by simp [List.lookup]
    rw [q]
    exact r
  · rw [if_neg hw]
    have qw : (f == ("slot" : Str)) = false := by simpa using hw
    have q2 : List.lookup f [(("slot" : Str), v)] = none := by simp [List.lookup, qw]
    rw [q2]
    trivial
section
variable {X : Cx} {C fI : Addr} {nm : Str} {bmB : List Value} {B newId initId : String}
theorem pmk {a : Expr} {ta : TA} {p pos : Pos} {k : Nat} (FB : ExcBaseFacts B newId initId bmB) (SF : StoreFacts B bmB "object.__setattr__" "object") (T : XT X.K X.mg nm bmB newId C fI) (hr : Room k X.A) (ha : PA X [a] ta) (hg : Gl X nm)
    (hdb : (nm == ("__debug__" : Str)) = false := by decide)
    (he : starEach (a :: []) X.env = (false, eval a X.env) :: starEach [] X.env := by rfl) (hpl : (backTo pos (starEach [] X.env)).any (·.1) = false := by rfl) :
    PMk X (.Call (.Name nm p) [a] [] pos) (tMkF C "slot" ta) := by
  intro pins s σ H Q I h
  refine wpAny_Call_Name_kw (ld_glob I hg T.gC ?_ hdb)
  refine PySem.W.callWith_K (h₀ := X.base) I.ok.mod.kin T.kC (thn (ha.run pos pins s σ H _ I h) fun us s1 hh => ?_) he hpl
  obtain ⟨vs, H1, I1, r1, v, ev, q1⟩ := hh
  subst ev
  refine ⟨I1.kIn, ?_⟩
  cases r1 with
  | cons rv rn =>
    rename_i v' us'
    cases rn
    show wpAny _ _ (call (.ref C) [v']) _ _ _
    have hlim := I1.nolimit
    obtain ⟨hp, g, dr, tk, os⟩ := s1
    refine wpAny_call (made FB SF T I1.kIn hlim (by have := hr.dp; omega) fun h' tk' e d M => ?_)
    show MkP X pins σ Q (.ref e) ⟨h', g, dr, tk', os⟩
    obtain ⟨t1, hoe⟩ := M.obj
    have hns := M.ns
    obtain ⟨G', g1, g2⟩ := restrict h' fun b => decide (b ≠ e)
    have gk : ∀ b, b ≠ e → G'.get? b = h'.get? b := fun b hb => g1 b (decide_eq_true hb)
    have ge : G'.get? e = none := g2 e (by simp)
    have old : ∀ b o, hp.get? b = some o → G'.get? b = some o := fun b o q => (gk b (Nat.ne_of_lt (Nat.lt_of_lt_of_le (Heap.lt_size q) M.new))).trans (M.keep b o q)
    have ob : ObjOk X.prog X.w (upd H1 d (.xd [(("slot" : Str), v)])) G' d (.xd [(("slot" : Str), v)]) :=
      ⟨_, hns.at (fun o q => (gk d M.ne).trans q), fun f => relO_f rv f⟩
    have J : Inv X pins σ (upd H1 d (.xd [(("slot" : Str), v)])) ⟨G', g, dr, tk', os⟩ := I1.laid (t' := tk') old M.big ob
    refine ⟨e, _, _, ⟨G', g, dr, tk', os⟩, _, .ref C, some d, rfl, J, fun b o q => ?_, ge, hoe, ⟨rfl, rfl⟩, rfl, rfl, ?_, rfl, I1.bare, raises_own T.exC T.tyC, q1 d (I1.hok.fresh M.big)⟩
    · by_cases hb : b = e
      · have q' : G'.get? b = some o := q
        rw [hb, ge] at q'; cases q'
      · exact (gk b hb).symm.trans q
    · rw [upd_ne (Ne.symm M.ne)]
      exact I1.hok.fresh M.new
end
end XS

namespace XL
theorem relO_f {v : V} {v' : Value} (r : RelV v v') (f : Str) : RelO (List.lookup f [(("limit" : Str), v)]) (if f = "limit" then some v' else none) := by
  by_cases hw : f = "limit"
  · subst hw
    rw [if_pos rfl]
    have q : List.lookup ("limit" : Str) [(("limit" : Str), v)] = some v := by simp [List.lookup]
    rw [q]
    exact r
  · rw [if_neg hw]
    have qw : (f == ("limit" : Str)) = false := by simpa using hw
    have q2 : List.lookup f [(("limit" : Str), v)] = none := by simp [List.lookup, qw]
    rw [q2]
    trivial
section
variable {X : Cx} {C fI : Addr} {nm : Str} {bmB : List Value} {B newId initId : String}
theorem pmk {a : Expr} {ta : TA} {p pos : Pos} {k : Nat} (FB : ExcBaseFacts B newId initId bmB) (SF : StoreFacts B bmB "object.__setattr__" "object") (T : XT X.K X.mg nm bmB newId C fI) (hr : Room k X.A) (ha : PA X [a] ta) (hg : Gl X nm)
    (hdb : (nm == ("__debug__" : Str)) = false := by decide)
    (he : starEach (a :: []) X.env = (false, eval a X.env) :: starEach [] X.env := by rfl) (hpl : (backTo pos (starEach [] X.env)).any (·.1) = false := by rfl) :
    PMk X (.Call (.Name nm p) [a] [] pos) (tMkF C "limit" ta) := by
  intro pins s σ H Q I h
  refine wpAny_Call_Name_kw (ld_glob I hg T.gC ?_ hdb)
  refine PySem.W.callWith_K (h₀ := X.base) I.ok.mod.kin T.kC (thn (ha.run pos pins s σ H _ I h) fun us s1 hh => ?_) he hpl
  obtain ⟨vs, H1, I1, r1, v, ev, q1⟩ := hh
  subst ev
  refine ⟨I1.kIn, ?_⟩
  cases r1 with
  | cons rv rn =>
    rename_i v' us'
    cases rn
    show wpAny _ _ (call (.ref C) [v']) _ _ _
    have hlim := I1.nolimit
    obtain ⟨hp, g, dr, tk, os⟩ := s1
    refine wpAny_call (made FB SF T I1.kIn hlim (by have := hr.dp; omega) fun h' tk' e d M => ?_)
    show MkP X pins σ Q (.ref e) ⟨h', g, dr, tk', os⟩
    obtain ⟨t1, hoe⟩ := M.obj
    have hns := M.ns
    obtain ⟨G', g1, g2⟩ := restrict h' fun b => decide (b ≠ e)
    have gk : ∀ b, b ≠ e → G'.get? b = h'.get? b := fun b hb => g1 b (decide_eq_true hb)
    have ge : G'.get? e = none := g2 e (by simp)
    have old : ∀ b o, hp.get? b = some o → G'.get? b = some o := fun b o q => (gk b (Nat.ne_of_lt (Nat.lt_of_lt_of_le (Heap.lt_size q) M.new))).trans (M.keep b o q)
    have ob : ObjOk X.prog X.w (upd H1 d (.xd [(("limit" : Str), v)])) G' d (.xd [(("limit" : Str), v)]) :=
      ⟨_, hns.at (fun o q => (gk d M.ne).trans q), fun f => relO_f rv f⟩
    have J : Inv X pins σ (upd H1 d (.xd [(("limit" : Str), v)])) ⟨G', g, dr, tk', os⟩ := I1.laid (t' := tk') old M.big ob
    refine ⟨e, _, _, ⟨G', g, dr, tk', os⟩, _, .ref C, some d, rfl, J, fun b o q => ?_, ge, hoe, ⟨rfl, rfl⟩, rfl, rfl, ?_, rfl, I1.bare, raises_own T.exC T.tyC, q1 d (I1.hok.fresh M.big)⟩
    · by_cases hb : b = e
      · have q' : G'.get? b = some o := q
        rw [hb, ge] at q'; cases q'
      · exact (gk b hb).symm.trans q
    · rw [upd_ne (Ne.symm M.ne)]
      exact I1.hok.fresh M.new
end
end XL
end GDX

set_option maxHeartbeats 2000000
namespace GDX
open PySem PySem.Spec PyProof.Rows L2 GD
theorem xo_ok {P : Program} {w : World} {H : Hp} {h : Heap} {a : Addr} {cls : Value} {d : Option Addr} {oe : Obj} {vs : Array Value} (e : h.get? a = some oe) (z : Zc cls d oe) (f : oe.data = .fields vs) : ObjOk P w H h a (XO cls d a) :=
  ⟨⟨oe, vs, e, z, f⟩, ⟨oe, e⟩, fun _ _ ⟨oe', vs', e', zf⟩ kp => ⟨oe', vs', kp oe' e', zf⟩⟩
theorem xo_get {P : Program} {w : World} {H : Hp} {h : Heap} {a : Addr} {cls : Value} {d : Option Addr} (hok : HOk P w H h) (e : H a = some (XO cls d a)) : ∃ (oe : Obj) (vs : Array Value), h.get? a = some oe ∧ Zc cls d oe ∧ oe.data = .fields vs := (hok a _ e).1
section
variable {X : Cx} {pins : List (Addr × Obj)} {σ : L2.St} {H : Hp} {s : Shared}
theorem track {a : Addr} {cls : Value} {d : Option Addr} {oe : Obj} {vs : Array Value} (I : Inv X pins σ H s) (ha : s.heap.get? a = some oe) (hz : Zc cls d oe) (hv : oe.data = .fields vs) (na : H a = none) (n0 : X.s_0.heap.get? a = none) (nL : a ≠ X.env.locals)
    (np : ∀ p ∈ X.pn ++ pins, p.1 ≠ a) : Inv X pins σ (upd H a (XO cls d a)) s := by
  have other : ∀ {b : Addr} {u : HO}, H b = some u → upd H a (XO cls d a) b = some u := fun e => by rw [upd_ne (ne_of_none e na)]; exact e
  have nC : ∀ x c, X.env.cells.lookup x = some c → c ≠ a := fun x c e z => by
    obtain ⟨v, o, ho, hc⟩ := I.cell x c e
    rw [z, ha] at ho
    cases ho
    rw [hv] at hc
    cases hc
  refine { ok := I.ok, os := I.os, bare := I.bare, base := ?_, loc := I.loc, cell := I.cell, free := ?_, freeC := fun x c e => ?_, pin := fun p hp => ?_, hok := fun b u e => ?_, len := I.len }
  · refine { keep := I.base.keep, slot := I.base.slot, free := fun b o e n nx => ?_, there := I.base.there, tups := fun b xs e => other (I.base.tups b xs e), frzs := fun b o u e => other (I.base.frzs b o u e), tbls := fun b ps e => ?_ }
    · rw [upd_ne (fun z => by rw [z, n0] at e; cases e)]
      exact I.base.free b o e n nx
    · obtain ⟨m, q⟩ := I.base.tbls b ps e
      exact ⟨m, other q⟩
  · rw [upd_ne nL.symm]
    exact I.free
  · rw [upd_ne (nC x c e)]
    exact I.freeC x c e
  · obtain ⟨p1, p2, p3⟩ := I.pin p hp
    exact ⟨p1, by rw [upd_ne (np p hp)]; exact p2, p3⟩
  · by_cases hb : b = a
    · subst hb
      rw [upd_same] at e
      cases e
      exact xo_ok ha hz hv
    · rw [upd_ne hb] at e
      exact (I.hok b u e).stay (fun _ _ _ q => q) (fun _ q => other q) fun _ _ q => other q
end
theorem fly_keeps {B h h' : Heap} {l : List Env} {a : Addr} {Z : Obj → Prop} (x : HandSPX.FlyingZ B l a Z h) (k : ∀ b o, h.get? b = some o → h'.get? b = some o) : HandSPX.FlyingZ B l a Z h' := by
  obtain ⟨x1, x2, x3, oe, vs, T, oT, ts, y1, y2, y3, y4, y5, y6, y7, y8⟩ := x
  exact ⟨fun b o e => k b o (x1 b o e), x2, x3.of_keeps fun b o e _ => ⟨o, k b o e, rfl⟩, oe, vs, T, oT, ts, k _ _ y1, y2, y3, y4, y5, y6, k _ _ y7, y8⟩
theorem into {X : Cx} {pins : List (Addr × Obj)} {σ : L2.St} {H : Hp} {s : Shared} (I : Inv X pins σ H s) (a : Addr) : Inv (X.suite a (X.pn ++ pins)) [] σ H s :=
  { ok := I.ok.suite _ _, os := I.os, bare := I.bare, base := I.base, loc := I.loc, cell := I.cell, free := I.free, freeC := I.freeC, pin := fun p hp => I.pin p (by rwa [List.append_nil] at hp), hok := I.hok, len := I.len }
theorem outof {X : Cx} {pins pn' : List (Addr × Obj)} {σ : L2.St} {H : Hp} {s : Shared} {a : Addr} (I : Inv (X.suite a (X.pn ++ pins)) pn' σ H s) (ok : X.Ok) : Inv X pins σ H s :=
  { ok := ok, os := I.os, bare := I.bare, base := I.base, loc := I.loc, cell := I.cell, free := I.free, freeC := I.freeC, pin := fun p hp => I.pin p (List.mem_append_left _ hp), hok := I.hok, len := I.len }
section
variable {X : Cx} {x1 x2 n : Str} {c1 c2 : Value} {i kk : Nat} {body suite : List Stmt} {b₀ : Stmt} {p1 p2 tp pos pos' : Pos} {tb : WX → TS} {ts : TS}
theorem ld_cls {Y : Cx} {pins : List (Addr × Obj)} {σ : L2.St} {H : Hp} {s : Shared} {x : Str} {c : Value} {p : Pos} {Q : Value → Shared → Prop} {E : Value → Shared → Prop} (hc : Names Y x c) (I : Inv Y pins σ H s) (q : Q c s) : wpAny (model Y.prog Y.w) Y.A (eval (.Name x p) Y.env) Q E s := by
  obtain ⟨g1, g2, m | ⟨m1, m2, m3⟩⟩ := hc
  · exact ld_glob I g1 m q g2
  · exact ld_blt I g1 m1 m2 q m3 g2
end
end GDX

set_option maxHeartbeats 2000000
namespace PySem.W
open PySem PySem.Spec PySem.Calls PyProof.Rows
section
variable {prog : Program} {w : World} {A : Around} {E : Value → Shared → Prop} {s : Shared} {K : Frag} {x C : Addr} {ox : Obj} {od : Option Obj}
theorem gd_findD {name : Str} {a g : Value} (hc : (clsIn K C).isSome = true) (ha : findIn K (.ref C) name = some (some a)) (hg : specialIn K a "__get__" = some (some g)) (ht : takesIn K a = some true) : findObj K C od name = some (.bind g a) := by
  cases hcd : clsIn K C with
  | none => rw [hcd] at hc; cases hc
  | some cd =>
    unfold findObj
    rw [hcd, Option.bind_some, ha, Option.bind_some]
    simp [hg, ht]
theorem gd_class (T : L2.ExcC K C) {Q : Option Value → Shared → Prop} (X : K.In s.heap) (I : InstAt s.heap x ox C od) (h : Q (some (.ref C)) { s with toks := s.toks + 1 }) : wpAny (model prog w) A (getAttr? (.ref x) "__class__") Q E s := by
  have fo : findObj K C od "__class__" = some (.bind (.builtin "getset_descriptor.__get__") (.builtin "object.__class__")) := gd_findD (by obtain ⟨cd, e, _⟩ := any_some T.hd; rw [e]; rfl) T.ha T.hn T.ht
  obtain ⟨hp, gs, dr, tk, os⟩ := s
  have k0 := I.type (M := model prog w)
  have k1 := looks_findIn (M := model prog w) X T.hg
  have k2 := looks_findIn (M := model prog w) X T.hk
  have k3 := looks_find (M := model prog w) X I fo
  have ks : Looks (model prog w) hp (isInstance (.ref x) (.type "BaseException")) true := k0.andThen (looks_subIn X T.hs)
  have n1 : (false && onTheHeap (Value.builtin "BaseException.__getattribute__")) = false := rfl
  have n2 : (onTheHeap (Value.ref C) && Value.builtin "BaseException.__getattribute__" == Value.builtin "object.__getattribute__") = false := by
    have : (Value.builtin "BaseException.__getattribute__" == Value.builtin "object.__getattribute__") = false := by decide +kernel
    rw [this]
    rfl
  unfold getAttr? getAttrBy? getAttrBy
  refine wpAny_bind (wpAny_mkText (wpAny_bind (wpAny_attempt (wpAny_holding (wpAny_bind (k0.at (wpAny_bind (k1.at ?_))))))))
  show wpAny _ _ (ite ((onTheHeap (Value.ref C) && Value.builtin "BaseException.__getattribute__" == Value.builtin "object.__getattribute__") = true) _ _) _ _ _
  rw [n2, if_neg Bool.false_ne_true]
  unfold getAttrByItsOwn hookBefore
  refine wpAny_bind ?_
  rw [if_pos (show onTheHeap (Value.ref C) = true from rfl)]
  refine k2.at (wpAny_bind (wpAny_attempt (wpAny_holding ?_)))
  unfold callGetattribute
  rw [n1, if_neg Bool.false_ne_true]
  unfold boundAndCalled
  rw [PySem.F.excAttr_ValueError.ga.bind (.ref x)]
  refine wpAny_bind (wpAny_pure ?_)
  show wpAny _ _ (call (.builtin "BaseException.__getattribute__") [.ref x, .str "__class__" tk]) _ _ _
  refine wpAny_call (codeAny_call_builtin PySem.F.excAttr_ValueError.ga.plain PySem.F.entry_bexc_ga ?_)
  have args := PySem.F.args_bexc_ga (.ref x) (.str "__class__" tk)
  refine @check_slot (model prog w) _ _ ⟨hp, gs, dr, tk + 1, os⟩ "BaseException.__getattribute__" "BaseException" "__getattribute__" (.ref x) [.str "__class__" tk] [] _ (by decide +kernel) (by decide +kernel) ks args ?_
  unfold Builtin.«object.__getattribute__»
  refine wpAny_bind (wpAny_of_eq (a := ((.ref x : Value), [(.str "__class__" tk : Value)])) (by first | rfl | (simp only [slotArgs]; rfl)) ?_)
  refine wpAny_bind (wpAny_pure (wpAny_bind (k0.at (wpAny_bind (k3.at ?_)))))
  show wpAny _ _ (holding [Value.builtin "object.__class__"] (call (.builtin "getset_descriptor.__get__") [.builtin "object.__class__", .ref x, .ref C]) >>= ret) _ _ _
  refine wpAny_bind (wpAny_holding (wpAny_call (class_get (s := ⟨hp, gs, dr, tk + 1, os⟩) X I T.hm (wpAny_pure ?_))))
  show wpAny _ _ (handedOut (Value.ref C)) _ _ _
  rw [handedOut_of (v := Value.ref C) rfl]
  first
    | exact wpAny_pure (wpAny_pure h)
    | exact wpAny_pure h
    | exact wpAny_pure (wpAny_bind (wpAny_pure (wpAny_pure h)))
theorem gd_kitx (T : L2.ExcC K C) : KitX K (.ref x) (.ref C) (fun h => InstAt h x ox C od) where
  ty := fun _ _ _ I => I.type
  ca := fun X I k => gd_class T X I k
  it := fun _ _ X _ => by
    obtain ⟨cd, e, _⟩ := any_some T.hd
    unfold clsIn at e
    split at e
    · rename_i ho
      intro A' Q' E' s' kp q
      unfold isType loadHead
      exact wpAny_bind (wpAny_loadPart (kp _ _ (X _ _ ho)) (wpAny_pure q))
    · cases e
  ne := fun h tp dd its n sl X ht => by
    obtain ⟨cd, e, _⟩ := any_some T.hd
    refine Bool.eq_false_iff.mpr fun q => ?_
    obtain rfl : C = tp := Value.ref.inj (beq_iff_eq.mp q)
    unfold clsIn at e
    split at e
    · rename_i ho
      have := (X _ _ ho).symm.trans ht
      cases this
    · cases e
end
end PySem.W
namespace GDX
open PySem PySem.Spec PyProof.Rows L2 GD
section
variable {X : Cx}
theorem inst_of0 {pins : List (Addr × Obj)} {σ : L2.St} {H : Hp} {s : Shared} {a C : Addr} {dxo : Option Addr} (I : Inv X pins σ H s) (h : H a = some (XO (.ref C) dxo a)) (hd : ∀ dx, dxo = some dx → ∃ fs, H dx = some (.xd fs)) :
    ∃ (oe : Obj) (od : Option Obj), PySem.W.InstAt s.heap a oe C od := by
  obtain ⟨oe, vs, e, z, v⟩ := xo_get I.hok h
  cases dxo with
  | none => exact ⟨oe, none, ⟨e, z.1, by unfold PySem.W.notCls; rw [v] <;> rfl, by rw [z.2]; trivial⟩⟩
  | some dx =>
    obtain ⟨fs, hd⟩ := hd dx rfl
    have hx : ObjOk X.prog X.w H s.heap dx (.xd fs) := I.hok dx _ hd
    obtain ⟨mA, hns, hr⟩ := hx
    obtain ⟨od, ho, hl⟩ := lookIn_ns hns
    exact ⟨oe, some od, ⟨e, z.1, by unfold PySem.W.notCls; rw [v] <;> rfl, by rw [z.2]; exact ho⟩⟩
theorem inst_of {pins : List (Addr × Obj)} {σ : L2.St} {H : Hp} {s : Shared} {a C dx : Addr} {fs : List (Str × V)} (I : Inv X pins σ H s) (h : H a = some (XO (.ref C) (some dx) a)) (hd : H dx = some (.xd fs)) :
    ∃ (oe od : Obj) (mA : Str → Option Value), PySem.W.InstAt s.heap a oe C (some od) ∧ (∀ n, PySem.W.lookIn n od = some (mA n)) ∧ ∀ f, RelO (fs.lookup f) (mA f) := by
  obtain ⟨oe, vs, e, z, v⟩ := xo_get I.hok h
  have hx : ObjOk X.prog X.w H s.heap dx (.xd fs) := I.hok dx _ hd
  obtain ⟨mA, hns, hr⟩ := hx
  obtain ⟨od, ho, hl⟩ := lookIn_ns hns
  exact ⟨oe, od, mA, ⟨e, z.1, by unfold PySem.W.notCls; rw [v] <;> rfl, by rw [z.2]; exact ho⟩, hl, hr⟩
def tXF (K : PySem.W.Frag) (n : Str) (te : TE) : TE := fun σ H Q => te σ H fun x H1 => ∃ (a C dx : Addr) (fs : List (Str × V)) (v : V), x = .ref a ∧ H1 a = some (XO (.ref C) (some dx) a) ∧ H1 dx = some (.xd fs) ∧ fs.lookup n = some v ∧
  XfC K C ∧ PySem.W.findIn K (.ref C) n = some none ∧ Q v H1
theorem pe_xF {e : Expr} {te : TE} {pos : Pos} {n : Str} (he : PE X e te) (hb : attributeBase e n X.env (eval e X.env) = eval e X.env := by rfl) : PE X (.Attribute e n pos) (tXF X.K n te) := by
  constructor
  intro pins s σ H Q I h
  refine attr_of hb (thn (he.run pins s σ H _ I h) fun u s1 hh => ?_)
  obtain ⟨x, H1, I1, rx, a, C, dx, fs, v, rfl, ea, ed, el, T, hno, q⟩ := hh
  obtain rfl : u = Value.ref a := rx
  obtain ⟨oe, od, mA, J, hl, hr⟩ := inst_of I1 ea ed
  obtain ⟨u, hu, ru⟩ := RelO.some_of (v := v) (o := mA n) (by rw [← el]; exact hr n)
  exact HandSPX.exc_get I1.kIn J T.ga T.gg T.exC (PySem.W.findObj_own T.hdC hno rfl (by rw [hl, hu])) (handed_of ru) ⟨v, H1, I1.tok _, ru, q⟩
def rIsX (K : PySem.W.Frag) : List V → Hp → VK → Prop := fun xs H Q => ∃ (a C : Addr) (dxo : Option Addr) (c : V) (cv : Value) (b : Bool), xs = [.ref a, c] ∧ H a = some (XO (.ref C) dxo a) ∧ (∀ dx, dxo = some dx → ∃ fs, H dx = some (.xd fs)) ∧ (∀ u, RelV c u → u = cv) ∧ ExcC K C ∧
  PySem.W.kitOne K (.ref C) cv = some b ∧ Q (.bl b) H
theorem call_isX : CallR X (.builtin "isinstance") (rIsX X.K) := by
  intro pins s σ H xs us Q I r h
  obtain ⟨a, C, dxo, c, cv, b, rfl, ea, ed, hcv, T, e, q⟩ := h
  match us, r with
  | [_, t], .cons rx (.cons rt .nil) =>
    obtain rfl : _ = Value.ref a := rx
    obtain rfl := hcv t rt
    obtain ⟨oe, od, J⟩ := inst_of0 I ea ed
    exact PySem.W.kia_one (PySem.W.gd_kitx T) I.kIn J e (fun z => nomatch z) fun tk => ⟨.bl b, H, I.kept (t' := tk) fun _ _ z => z, rfl, q⟩
theorem pe_gcls {x : Str} {C : Addr} {pos : Pos} (hg : Gl X x) (hm : X.mg x = some (.ref C)) (hd : (x == ("__debug__" : Str)) = false := by decide) : PE X (.Name x pos) (tC (.ref C)) := pe_glob hg hm rfl hd
end
end GDX

set_option maxHeartbeats 2000000
namespace GD
open PySem PySem.Spec PyProof.Rows L2 GDX
inductive FlX where
  | fl (f : Fl)
  | rs (nm f : Str) (d : D)
abbrev EvSX := En → Option (FlX × En)
def ZEnd (K : PySem.W.Frag) (F : Frm) (env : En) (σ : L2.St) (H : Hp) (env' : En) (W : WX) (Dn : Ends) : FlX → Prop
  | .fl f => SEnd K F env σ H env' Dn f
  | .rs nm f d => ∀ (C : Addr) (v : V) (σ' : L2.St) (H' : Hp) (dx : Addr), PySem.W.nsIn K mainGlobals nm = some (some (.ref C)) → StOk K F T0 H' env' σ' → Rp K (Ow F T0 env' σ') H' v d → (f = ("" : Str) ∨ H' dx = none) →
    W (.ref C) (xDx f dx) σ' (xH f H' dx v)
def ISX (K : PySem.W.Frag) (t : WX → TS) (f : EvSX) : Prop := ∀ F env σ H fl env', StOk K F T0 H env σ → f env = some (fl, env') → ∀ (W : WX) (Dn : Ends), ZEnd K F env σ H env' W Dn fl → t W Dn σ H
section
variable {K : PySem.W.Frag} {t u : WX → TS} {f g : EvSX}
theorem ZEnd.pre {F : Frm} {env env1 env' : En} {σ σ1 : L2.St} {H H1 : Hp} {W : WX} {Dn : Ends} {fl : FlX} (h : ZEnd K F env σ H env' W Dn fl) (b : Stq env σ H env1 σ1 H1) : ZEnd K F env1 σ1 H1 env' W Dn fl := by
  cases fl with
  | fl f => exact SEnd.pre h b
  | rs nm f d => exact h
def sOf (f : EvS) : EvSX := fun env => (f env).map fun p => (.fl p.1, p.2)
def sxSeq (f g : EvSX) : EvSX := fun env => (f env).bind fun p => match p.1 with
  | .fl .nx => g p.2
  | r => some (r, p.2)
def sxIf (fc : EvT) (f g : EvSX) : EvSX := fun env => (fc env).bind fun p => if p.1 = true then f p.2 else g p.2
def tRz (C : Addr) (f : Str) (ta : TA) (W : WX) : TS := fun _ σ H => tMkF C f ta σ H fun cls d H' => W cls d σ H'
def sxRz (nm f : Str) (fa : EvA) : EvSX := fun env => (fa env).bind fun p => match p.1 with
  | [r] => (rk p.2 r).map fun d => (.rs nm f d, p.2)
  | _ => none
end
inductive RX where
  | ret (d : D)
  | rs (nm f : Str) (d : D)
abbrev FnX := List D → Option RX
def spX (K : PySem.W.Frag) (k : Nat) (M : FnX) : Sp := fun vs H Q E => ∃ (O : Addr → Prop) (ds : List D) (rx : RX), vs.length = k ∧ (∀ a, O a → H a ≠ none) ∧ RpAll K O H vs ds ∧ M ds = some rx ∧
  (∀ d, rx = .ret d → ∀ v H', Ext (fun _ => False) H H' → Rp K O H' v d → Q v H') ∧
  (∀ nm f d, rx = .rs nm f d → ∀ (C : Addr) v H' dx, PySem.W.nsIn K mainGlobals nm = some (some (.ref C)) → Ext (fun _ => False) H H' → (f = ("" : Str) ∨ H' dx = none) → Rp K O H' v d → E (.ref C) (xDx f dx) (xH f H' dx v))
section
variable {K : PySem.W.Frag}
theorem start_ok {O : Addr → Prop} {H : Hp} {vs : List V} {ds : List D} {N : List Str} (hO : ∀ a, O a → H a ≠ none) (r : RpAll K O H vs ds) : StOk K ⟨O, fun _ => False, H, vs⟩ T0 H (env0 N.length (ds.map Sl.shr)) (L2.start N vs) := by
  have hl := r.length
  have getD : ∀ (i : Nat) (s : Sl), (env0 N.length (ds.map Sl.shr))[i]? = some (some s) → ∃ d, ds[i]? = some d ∧ s = .shr d := fun i s e => by
    have e' := env0_get e
    rw [List.getElem?_map, Option.map_eq_some_iff] at e'
    obtain ⟨d, e1, e2⟩ := e'
    exact ⟨d, e1, e2.symm⟩
  have noWr : ∀ a, ¬ Wr (env0 N.length (ds.map Sl.shr)) (L2.start N vs) a := fun a ⟨i, p, m, e, _⟩ => by
    obtain ⟨d, _, e2⟩ := getD i _ e
    cases e2
  refine ⟨by simp [env0, L2.start, hl], fun i d e => ?_, fun i p m e => ?_, fun i j p q m n a e _ _ _ => ?_, Ext.refl, hO, fun a h => h.elim, fun a h => h.elim, fun a h => h.elim⟩
  · obtain ⟨d', e1, e2⟩ := getD i _ e
    cases e2
    obtain ⟨v, hv, rv⟩ := r.get e1
    exact ⟨v, start_get hv, rv.anti fun a h => h.elim id fun h => h.elim (fun z => z.elim) fun z => absurd z (noWr a)⟩
  · obtain ⟨d', _, e2⟩ := getD i _ e
    cases e2
  · obtain ⟨d', _, e2⟩ := getD i _ e
    cases e2
end
def tCKS (sp : Sp) (gV : List V → List V → List V) (W : WX) (t tk : TA) : TE := fun σ H Q => t σ H fun vs H1 => tk σ H1 fun zs H2 => sp (gV vs zs) H2 Q (WE W σ)
section
variable {X : Cx} {W : WX} {k : Nat} {f : Addr} {fd : FuncData} {ps ks : List Str} {sp : Sp} {x : Str} {p pos : Pos} {e : Expr} {es : List Expr} {t tk : TA} {kws : List Keyword} {g : List Value → List Value → List Value} {gV : List V → List V → List V}
theorem run_gkS {pins : List (Addr × Obj)} {σ : L2.St} {H : Hp} {s : Shared} {Q : VK} {us ws : List Value} {vs zs : List V} (F : FnG X.prog X.w X.K X.mg X.base (L2.CX X.prog X.w) k f fd ps sp) (hgd : X.A.guards = some []) (hr : Room k X.A) (hb : KBinds X.K fd ps ks g gV)
    (tkW : Takes X W) (I : Inv X pins σ H s) (r : Vals vs us) (rz : Vals zs ws) (h : sp (gV vs zs) H Q (WE W σ)) : wpAny (model X.prog X.w) X.A (call (.ref f) us (ks.zip ws)) (EP X pins σ Q) X.xe s := by
  have rel := hb.rel r rz
  have len : (g us ws).length = ps.length := (Vals.length rel).symm.trans (F.len _ _ _ _ h)
  refine wpAny_call (codeAny_mono (F.run X.A X.stack s H ⟨us, ks.zip ws⟩ (g us ws) (gV vs zs) Q (WE W σ) hgd hr I.env0 (hb.to s us ws I.kIn len) rel h) fun r s' hq => ?_)
  match r, hq with
  | .error er, hq => exact passAt tkW σ pins H s er s' I hq
  | .ok (.ret u), hq => exact I.after hq
  | .ok .next, hq => exact (show False from hq).elim
  | .ok .brk, hq => exact (show False from hq).elim
  | .ok .cont, hq => exact (show False from hq).elim
theorem pe_callKS (F : FnG X.prog X.w X.K X.mg X.base (L2.CX X.prog X.w) k f fd ps sp) (hgd : X.A.guards = some []) (hr : Room k X.A) (hg : Gl X x)
    (hm : X.mg x = some (.ref f)) (hk : PySem.W.keepIn X.K (.ref f) = true) (hb : KBinds X.K fd ps ks g gV) (tkW : Takes X W)
    (ha : PA X (e :: es) t) (hkw : PK X kws tk) (hall : (backToKw pos (keywordEach kws X.env)).all (·.1.isSome) = true := by rfl)
    (hks : (backToKw pos (keywordEach kws X.env)).filterMap (·.1) = ks := by rfl)
    (hdb : (x == ("__debug__" : Str)) = false := by decide)
    (he : starEach (e :: es) X.env = (false, eval e X.env) :: starEach es X.env := by rfl)
    (hpl : ((backTo pos (starEach (e :: es) X.env)).any (·.1) || (backToKw pos (keywordEach kws X.env)).any (·.1.isNone)) = false := by rfl) :
    PE X (.Call (.Name x p) (e :: es) kws pos) (tCKS sp gV W t tk) := by
  constructor
  intro pins s σ H Q I h
  refine wpAny_Call_Name_kw (ld_glob I hg hm ?_ hdb)
  refine PySem.W.callWith_KW (h₀ := X.base) I.ok.mod.kin hk hall (thn (ha.run pos pins s σ H _ I h) ?_) hpl he
  rintro us s1 ⟨vs, H1, I1, r, q⟩
  refine thn (hkw.run pos pins s1 σ H1 _ I1 q) ?_
  rintro ws s2 ⟨zs, H2, I2, rz, q2⟩
  refine ⟨I2.kIn, ?_⟩
  rw [hks]
  exact run_gkS F hgd hr hb tkW I2 r rz q2
end
section
variable {X : Cx} {x1 x2 n : Str} {c1 c2 : Value} {i j k kk : Nat} {body suite : List Stmt} {b₀ : Stmt} {p1 p2 tp pos pos' : Pos} {M : FnX} {gV : List V → List V → List V} {ta tk : TA} {ts : TS}
end
section
variable {K : PySem.W.Frag}
theorem gone_re {e : En} {σ : L2.St} (i : Nat) : ∀ (j : Nat) (s : Sl), (e.set i none)[j]? = some (some s) → e[j]? = some (some s) ∧ (σ.set i none)[j]? = σ[j]? := fun j s h => by
  by_cases z : i = j
  · subst z
    rcases Nat.lt_or_ge i e.length with c | c
    · rw [List.getElem?_set_self c] at h; cases h
    · rw [List.getElem?_eq_none (by rw [List.length_set]; exact c)] at h; cases h
  · rw [List.getElem?_set_ne z] at h
    exact ⟨h, List.getElem?_set_ne z⟩
end
def excNm : D → Option Str
  | .dict [(.none, .str nm), (.str _, _)] => some nm
  | _ => none
def excFd (nms : List Str) (n : Str) : D → Option D
  | .dict [(.none, .str nm), (.str f, d)] => if (nms.contains nm && f == n) = true then some d else none
  | _ => none
def eIsX (k : Str → Option Bool) (fe : EvE) : EvE := fun env => (e1 fe env).bind fun p => ((excNm p.1).bind k).map fun b => (.val (.bool b), p.2)
def eXF (nms : List Str) (n : Str) (fe : EvE) : EvE := fun env => (e1 fe env).bind fun p => (excFd nms n p.1).map fun d => (.val d, p.2)
section
variable {K : PySem.W.Frag} {O : Addr → Prop} {H : Hp} {x : V}
theorem exc_lv {es : List (D × D)} {nm f : Str} {d : D} (l : Lv K O H x (.dict es)) (e : es = [(.none, .str nm), (.str f, d)]) :
    ∃ (a dx C : Addr) (y : V), x = .ref a ∧ PySem.W.nsIn K mainGlobals nm = some (some (.ref C)) ∧ H a = some (XO (.ref C) (xDx f dx) a) ∧ (f = ("" : Str) ∨ H dx = some (.xd [(f, y)])) ∧ Rp K O H y d := by
  rcases l with ⟨a, kvs, ds, rfl, _, _, z⟩ | ⟨a, dx, C, nm', f', y, d', rfl, c, h1, h2, r, z⟩ | ⟨_, z⟩
  rotate_right
  · rw [e] at z
    cases z
  · rw [e] at z
    cases kvs with
    | nil => cases z
    | cons q kvs =>
      cases ds with
      | nil => cases z
      | cons d' ds =>
        rw [List.map_cons, List.zip_cons_cons] at z
        have z1 : PyData.none = keyD q.1 := congrArg Prod.fst (List.cons.inj z).1
        cases hq : q.1 with
        | inl i => rw [hq] at z1; cases z1
        | inr i => rw [hq] at z1; cases z1
  · rw [e] at z
    cases z
    exact ⟨a, dx, C, y, rfl, c, h1, h2, r⟩
theorem xd_live {H : Hp} {f : Str} {dx dx' : Addr} {y : V} (e : xDx f dx = some dx') (hd : f = ("" : Str) ∨ H dx = some (.xd [(f, y)])) : ∃ fs, H dx' = some (.xd fs) := by
  rcases hd with rfl | hd
  · rw [xDx_e] at e; cases e
  · unfold xDx at e
    split at e
    · cases e
    · cases e; exact ⟨_, hd⟩
theorem excNm_of {d : D} {nm : Str} (h : excNm d = some nm) : ∃ f d', d = .dict [(.none, .str nm), (.str f, d')] := by
  unfold excNm at h
  split at h
  · cases h; exact ⟨_, _, rfl⟩
  · cases h
theorem excFd_of {d d1 : D} {nms : List Str} {n : Str} (h : excFd nms n d = some d1) : ∃ nm, nms.contains nm = true ∧ d = .dict [(.none, .str nm), (.str n, d1)] := by
  unfold excFd at h
  split at h
  · split at h
    · rename_i hn
      cases h
      rw [Bool.and_eq_true, beq_iff_eq] at hn
      obtain ⟨hn, rfl⟩ := hn
      exact ⟨_, hn, rfl⟩
    · cases h
  · cases h
theorem ie_isX {c : V} {cv : Value} {k : Str → Option Bool} {te : TE} {fe : EvE} (hcv : ∀ u, RelV c u → u = cv) (hk : ∀ nm b C, k nm = some b → PySem.W.nsIn K mainGlobals nm = some (some (.ref C)) → ExcC K C ∧ PySem.W.kitOne K (.ref C) cv = some b) (he : IE K te fe) :
    IE K (tCB (rIsX K) (tCons te (tCons (tC c) tNil))) (eIsX k fe) := by
  intro F T env σ H r env' S e Q q
  simp only [eIsX, Option.bind_eq_some_iff, Option.map_eq_some_iff] at e
  obtain ⟨⟨d, e1⟩, h1, b, ⟨nm, h2, h2'⟩, h3⟩ := e
  cases h3
  refine i1 he S h1 fun x H' S' st l => ?_
  obtain ⟨f', d', rfl⟩ := excNm_of h2
  obtain ⟨a, dx, C, y, rfl, hC, ha, hd, _⟩ := exc_lv l rfl
  obtain ⟨T1, T2⟩ := hk nm b C h2' hC
  exact ⟨a, C, xDx f' dx, c, cv, b, rfl, ha, fun dx' e => (xd_live e hd), hcv, T1, T2, q _ H' S' st (.bl b)⟩
theorem ie_xF {nms : List Str} {n : Str} {te : TE} {fe : EvE} (hk : ∀ nm C, nms.contains nm = true → PySem.W.nsIn K mainGlobals nm = some (some (.ref C)) → XfC K C ∧ PySem.W.findIn K (.ref C) n = some none) (he : IE K te fe) (hne : n ≠ ("" : Str) := by decide +kernel) : IE K (tXF K n te) (eXF nms n fe) := by
  intro F T env σ H r env' S e Q q
  simp only [eXF, Option.bind_eq_some_iff, Option.map_eq_some_iff] at e
  obtain ⟨⟨d, e1⟩, h1, d1, h2, h3⟩ := e
  cases h3
  refine i1 he S h1 fun x H' S' st l => ?_
  obtain ⟨nm', hn, rfl⟩ := excFd_of h2
  obtain ⟨a, dx, C, y, rfl, hC, ha, hd, ry⟩ := exc_lv l rfl
  obtain ⟨T1, T2⟩ := hk _ C hn hC
  exact ⟨a, C, dx, _, y, rfl, by rw [xDx_ne hne] at ha; exact ha, hd.elim (fun e => absurd e hne) id, by simp [List.lookup], T1, T2, q _ H' S' st ry⟩
end
end GD

namespace GD
open PySem PySem.Spec PyProof.Rows L2 GDX
section
variable {X : Cx} {W : WX} {a : Expr} {ta : TA} {C fI : Addr} {nm : Str} {p pos pos2 : Pos} {k : Nat}
abbrev mroLE : List Value := [.type "LookupError", .type "Exception", .type "BaseException", .type "object"]
abbrev mroOE : List Value := [.type "OverflowError", .type "ArithmeticError", .type "Exception", .type "BaseException", .type "object"]
theorem ps_rzLE (T : XS.XT X.K X.mg nm mroLE "LookupError.__new__" C fI) (hc : X.calm = true) (hr : Room k X.A) (tk : Takes X W) (ha : PA X [a] ta) (hg : Gl X nm) (hdb : (nm == ("__debug__" : Str)) = false := by decide)
    (he : starEach (a :: []) X.env = (false, eval a X.env) :: starEach [] X.env := by rfl) (hpl : (backTo pos (starEach [] X.env)).any (·.1) = false := by rfl) :
    PS X (.Raise (some (.Call (.Name nm p) [a] [] pos)) none pos2) (tRz C "slot" ta W) := ps_raise hc tk (XS.pmk PySem.F.excBase_LookupError PySem.F.store_LookupError T hr ha hg hdb he hpl)
theorem ps_rzOE (T : XL.XT X.K X.mg nm mroOE "OverflowError.__new__" C fI) (hc : X.calm = true) (hr : Room k X.A) (tk : Takes X W) (ha : PA X [a] ta) (hg : Gl X nm) (hdb : (nm == ("__debug__" : Str)) = false := by decide)
    (he : starEach (a :: []) X.env = (false, eval a X.env) :: starEach [] X.env := by rfl) (hpl : (backTo pos (starEach [] X.env)).any (·.1) = false := by rfl) :
    PS X (.Raise (some (.Call (.Name nm p) [a] [] pos)) none pos2) (tRz C "limit" ta W) := ps_raise hc tk (XL.pmk PySem.F.excBase_OverflowError PySem.F.store_OverflowError T hr ha hg hdb he hpl)
end
section
variable {K : PySem.W.Frag} {cls : Value} {A B C : Addr} {x y b : Bool}
theorem kit_own (hd : PySem.W.hasDictIn K B = true) (ht : PySem.W.typeIn K (.ref B) = some (.type "type")) (hs : PySem.W.subIn K (.ref A) (.ref A) = some true) (h : PySem.W.subIn K (.ref A) (.ref B) = some b) : PySem.W.kitOne K (.ref A) (.ref B) = some b := by
  unfold PySem.W.kitOne
  by_cases e : A = B
  · subst e
    rw [hs] at h
    cases h
    rw [if_pos (by simp)]
  · rw [if_neg (by simpa using e)]
    obtain ⟨cd, hc, _⟩ := PySem.W.any_some hd
    show (if ((PySem.W.clsIn K B).isSome && PySem.W.typeIn K (.ref B) == some (.type "type")) = true then PySem.W.subIn K (.ref A) (.ref B) else none) = some b
    rw [hc, ht, if_pos (by rfl)]
    exact h
end
section
variable {f g : EvSX} {fs : EvS} {fc : EvT} {fa fk : EvA} {env e : En} {nm n fd : Str} {d : D} {r : R} {l w : List R} {M : FnX} {nms : List Str} {gR : List R → List R → List R} {i j : Nat} {ds : List D} {fe : EvE} {k : Str → Option Bool} {b : Bool} {fl : Fl}
def ofR : Option (Fl × En) → Option (FlX × En)
  | some (fl, e) => some (.fl fl, e)
  | none => none
theorem q_of : sOf fs env = ofR (fs env) := by
  unfold sOf; cases fs env with | none => rfl | some p => rfl
theorem q_of1 : ofR (some (fl, e)) = some (.fl fl, e) := rfl
def sxR (g : EvSX) : Option (FlX × En) → Option (FlX × En)
  | some (.fl .nx, e) => g e
  | r => r
theorem q_sxs : sxSeq f g env = sxR g (f env) := by
  unfold sxSeq
  cases f env with
  | none => rfl
  | some p =>
    obtain ⟨q, e⟩ := p
    match q with
    | .fl .nx => rfl
    | .fl .bk => rfl
    | .fl .ct => rfl
    | .fl (.rt r) => rfl
    | .rs a b c => rfl
theorem q_sxs1 : sxR g (some (.fl .nx, e)) = g e := rfl
theorem q_sxs2 {r : Ret} : sxR g (some (.fl (.rt r), e)) = some (.fl (.rt r), e) := rfl
theorem q_sxs3 : sxR g (some (.rs nm fd d, e)) = some (.rs nm fd d, e) := rfl
def sxiR (f g : EvSX) : Option (Bool × En) → Option (FlX × En)
  | some (true, e) => f e
  | some (false, e) => g e
  | none => none
theorem q_sxi : sxIf fc f g env = sxiR f g (fc env) := by
  unfold sxIf
  cases fc env with
  | none => rfl
  | some p => obtain ⟨b, e⟩ := p; cases b <;> rfl
theorem q_sxi1 : sxiR f g (some (true, e)) = f e := rfl
theorem q_sxi2 : sxiR f g (some (false, e)) = g e := rfl
def rzR2 (nm fd : Str) (e : En) : Option D → Option (FlX × En)
  | some d => some (.rs nm fd d, e)
  | none => none
def rzR (nm fd : Str) : Option (List R × En) → Option (FlX × En)
  | some ([r], e) => rzR2 nm fd e (rk e r)
  | _ => none
theorem q_rz : sxRz nm fd fa env = rzR nm fd (fa env) := by
  unfold sxRz
  cases fa env with
  | none => rfl
  | some p =>
    obtain ⟨l, e⟩ := p
    match l with
    | [] => rfl
    | [r] => show (rk e r).map _ = rzR2 nm fd e (rk e r); cases rk e r <;> rfl
    | _ :: _ :: _ => rfl
theorem q_rz1 : rzR nm fd (some ([r], e)) = rzR2 nm fd e (rk e r) := rfl
theorem q_rz2 : rzR2 nm fd e (some d) = some (.rs nm fd d, e) := rfl
def tryR5 (i : Nat) : Option (Fl × En) → Option (Fl × En)
  | some (.nx, e) => some (.nx, e.set i none)
  | some (.rt (.val d), e) => some (.rt (.val d), e.set i none)
  | _ => none
theorem q_try6 : tryR5 i (some (.nx, e)) = some (.nx, e.set i none) := rfl
theorem q_try7 : tryR5 i (some (.rt (.val d), e)) = some (.rt (.val d), e.set i none) := rfl
def isXR2 (e : En) : Option Bool → Option (R × En)
  | some b => some (.val (.bool b), e)
  | none => none
def isXR (k : Str → Option Bool) : Option (D × En) → Option (R × En)
  | some (d, e) => isXR2 e ((excNm d).bind k)
  | none => none
theorem q_isX : eIsX k fe env = isXR k (e1 fe env) := by
  unfold eIsX isXR
  cases e1 fe env with
  | none => rfl
  | some p =>
    simp only [Option.bind_some]
    cases (excNm p.1).bind k <;> rfl
theorem q_isX1 : isXR k (some (d, e)) = isXR2 e ((excNm d).bind k) := rfl
theorem q_isX2 : isXR2 e (some b) = some (.val (.bool b), e) := rfl
theorem c_excNm : excNm (excD nm fd d) = some nm := rfl
def xFR2 (e : En) : Option D → Option (R × En)
  | some d => some (.val d, e)
  | none => none
def xFR (nms : List Str) (n : Str) : Option (D × En) → Option (R × En)
  | some (d, e) => xFR2 e (excFd nms n d)
  | none => none
theorem q_xF : eXF nms n fe env = xFR nms n (e1 fe env) := by
  unfold eXF xFR
  cases e1 fe env with
  | none => rfl
  | some p =>
    simp only [Option.bind_some]
    cases excFd nms n p.1 <;> rfl
theorem q_xF1 : xFR nms n (some (d, e)) = xFR2 e (excFd nms n d) := rfl
theorem q_xF2 : xFR2 e (some d) = some (.val d, e) := rfl
theorem c_excFd (h : nms.contains nm = true) : excFd nms n (excD nm n d) = some d := by
  show (if (nms.contains nm && n == n) = true then some d else none) = some d
  rw [h]
  simp
theorem c_isNX : isN (excD nm fd d) = false := rfl
end
end GD
namespace GD
open PySem PySem.Spec PySem.W PyProof.Rows
section
variable {K : Frag} {nm q : Str} {C N : Addr} {bs bm : List Value} {sn : List Str} {sub : List Value} {ab : Bool} {col : Option Bool} {dd : Option Addr} {k0 k1 k2 k3 k5 : Option Value} {newId : String}
theorem tail_LE : excTail mroLE mroLE = true := by decide +kernel
theorem tail_OE : excTail mroOE mroOE = true := by decide +kernel
theorem ini_of (ht : excTail bm bm = true) (h : K.lookup C = some (excClassObj nm q C N bs bm true sn sub ab col dd k0 k1 k2 k3 k5 newId)) : excInitIn K C bm newId = true := by
  unfold excInitIn
  rw [h]
  show (C == C && newId == newId && !false && excTail bm bm) = true
  rw [ht]
  simp
theorem ov_of (ht : excTail bm bm = true) (h : K.lookup C = some (excClassObj nm q C N bs bm true sn sub ab col dd k0 k1 k2 k3 k5 newId)) : excOver K C bm = true := by
  have hc : clsIn K C = some { name := nm, bases := bs, mro := .ref C :: bm, ns := N, qualname := q, hasDict := true, slotNames := sn, subclasses := sub, abstract := ab, collection := col, hasDel := false } := by
    unfold clsIn
    rw [h] <;> rfl
  unfold excOver
  rw [hc]
  show (C == C && excTail bm bm) = true
  rw [ht]
  simp
end
end GD

set_option maxHeartbeats 2000000
namespace GD
open PySem PySem.Spec PyProof.Rows L2 GDX
def RetN (K : PySem.W.Frag) (P : List V → V → Prop) (F : Frm) (H' : Hp) (v : V) (env' : En) (σ' : L2.St) : Ret → Prop
  | .val d => RetOk K F H' v env' σ' (.val d)
  | .new m => ∃ (t : Addr) (xs : List V) (x : V), v = .ref t ∧ H' t = some (.tup xs) ∧ P xs x ∧ RetOk K F H' x env' σ' (.new m)
def NEnd (K : PySem.W.Frag) (P : List V → V → Prop) (F : Frm) (env : En) (σ : L2.St) (H : Hp) (env' : En) (Dn : Ends) : Fl → Prop
  | .rt r => ∀ v σ' H', RetN K P F H' v env' σ' r → Dn.rt v H'
  | fl => SEnd K F env σ H env' Dn fl
section
variable {K : PySem.W.Frag} {P : List V → V → Prop} {t u : TS} {f g : EvS}
theorem NEnd.pre {F : Frm} {env env1 env' : En} {σ σ1 : L2.St} {H H1 : Hp} {Dn : Ends} {fl : Fl} (h : NEnd K P F env σ H env' Dn fl) (b : Stq env σ H env1 σ1 H1) : NEnd K P F env1 σ1 H1 env' Dn fl := by
  cases fl with
  | rt r => exact h
  | nx => exact SEnd.pre (fl := .nx) h b
  | bk => exact SEnd.pre (fl := .bk) h b
  | ct => exact SEnd.pre (fl := .ct) h b
end
abbrev FnN := List D → Option Mu
def P0 (xs : List V) (x : V) : Prop := ∃ y, xs = [x, y]
section
variable {K : PySem.W.Frag}
end
end GD

namespace GD
open PySem PySem.Spec PyProof.Rows L2 GDX
section
variable {f fs : EvS} {fa fk : EvA} {fe : EvE} {env e : En} {nm n fd : Str} {d : D} {r : R} {l w : List R} {M : FnX} {N : FnN} {nms : List Str} {gR : List R → List R → List R} {i j : Nat} {ds : List D} {m m' : Mu} {fl : Fl}
end
end GD

set_option maxHeartbeats 4000000
namespace GD
open PySem PySem.Spec PyProof.Rows L2
section
variable {K : PySem.W.Frag}
end
end GD

set_option maxHeartbeats 4000000
namespace PySem.W
open PySem PySem.Spec PySem.Calls PyProof.Rows
section
variable {M : Model} {K : Frag}
theorem exm_loop1 {cls : Value} {A : Around} {E : Value → Shared → Prop} {s : Shared} : ∀ (cs : List Value) (b : Bool) (f : Value → PUnit → Sem (ForInStep PUnit)) (Q : PUnit → Shared → Prop), exmAny K cls cs = some b → K.In s.heap →
    (∀ c, (∀ (A : Around) (Q : Bool → Shared → Prop) (E : Value → Shared → Prop), Q true s → wpAny M A (isExcClass c) Q E s) → ∀ Q' : ForInStep PUnit → Shared → Prop, Q' (.yield ⟨⟩) s → wpAny M A (f c ⟨⟩) Q' E s) → Q ⟨⟩ s → wpAny M A (forIn cs PUnit.unit f) Q E s
  | [], b, f, Q, _, _, _, q => by
    rw [List.forIn_nil]
    exact wpAny_pure q
  | c :: cs, b, f, Q, h, X, hf, q => by
    obtain ⟨b1, d1, x1, y1, z1⟩ := exmAny_cons h
    obtain ⟨e1, _⟩ := exm_cls (M := M) X x1
    rw [List.forIn_cons]
    refine wpAny_bind (hf c (fun A Q E q => e1.at q) _ ?_)
    exact exm_loop1 cs d1 f Q y1 X hf q
theorem exm_loop2 {cls : Value} {A : Around} {E : Value → Shared → Prop} {s : Shared} (r0 : (Option Bool × Unit)) : ∀ (cs : List Value) (b : Bool) (f : Value → (Option Bool × Unit) → Sem (ForInStep ((Option Bool × Unit)))) (Q : (Option Bool × Unit) → Shared → Prop), exmAny K cls cs = some b → K.In s.heap →
    (∀ c v, exmOne K cls c = some v → ∀ Q' : ForInStep ((Option Bool × Unit)) → Shared → Prop, (v = true → Q' (.done (some true, ())) s) → (v = false → Q' (.yield r0) s) → wpAny M A (f c r0) Q' E s) →
    (b = true → Q (some true, ()) s) → (b = false → Q r0 s) → wpAny M A (forIn cs r0 f) Q E s
  | [], b, f, Q, h, _, _, _, q => by
    rw [List.forIn_nil]
    have : some false = some b := h
    exact wpAny_pure (q (Option.some.inj this).symm)
  | c :: cs, b, f, Q, h, X, hf, qt, qf => by
    obtain ⟨b1, d1, x1, y1, rfl⟩ := exmAny_cons h
    rw [List.forIn_cons]
    refine wpAny_bind (hf c b1 x1 _ (fun e => ?_) fun e => ?_)
    · subst e
      exact wpAny_pure (qt rfl)
    · subst e
      rw [Bool.false_or] at qt qf
      exact exm_loop2 r0 cs d1 f Q y1 X hf qt qf
theorem exm_tupN {cs : List Value} {cls : Value} {tp e : Addr} {b : Bool} {h : Heap} (X : K.In h) (LT : Looks M h (typeOf (.ref e)) cls) (hp : h.get? tp = some { cls := .type "tuple", data := .seq cs.toArray }) (hx : exmAny K cls cs = some b) :
    Looks M h (excMatches (.ref e) (.ref tp)) b := by
  intro A Q E s k₀ q
  obtain ⟨hh, g, d, tk, os⟩ := s
  have k : ∀ b o, h.get? b = some o → hh.get? b = some o := k₀
  have LT0 : Looks M h (isInstance (.ref tp) (.type "tuple")) true := ((Looks.ld hp).andThen .now).andThen (Looks.of_pure isSubtype_tuple_tuple)
  have LT := LT.keeps k
  have LT0 := LT0.keeps k
  have hp' := k _ _ hp
  have X' := X.keeps k
  unfold excMatches
  refine wpAny_bind (LT0.at ?_)
  dsimp only
  rw [if_pos rfl]
  first
    | refine wpAny_bind (wpAny_seqItems hp' rfl ?_)
    | refine wpAny_bind (wpAny_bind (wpAny_seqItems hp' rfl (wpAny_pure ?_)))
  dsimp only [Option.getD_some, Option.getD]
  refine wpAny_bind (wpAny_pure ?_)
  refine (wpAny_bind (exm_loop1 (s := { heap := hh, gens := g, drawn := d, toks := tk, os := os }) cs b _ _ hx X' (fun c hc Q' q' => ?_) ?_))
  · refine wpAny_bind (hc _ _ _ ?_)
    simp only [Bool.not_true, Bool.false_eq_true, if_false]
    exact wpAny_pure q'
  · refine wpAny_bind (LT.at ?_)
    refine wpAny_bind (exm_loop2 (s := { heap := hh, gens := g, drawn := d, toks := tk, os := os }) _ cs b _ _ hx X' (fun c v hv Q' qt qf => ?_) (fun e => ?_) (fun e => ?_))
    · refine wpAny_bind ((exm_cls (M := M) X' hv).2.at ?_)
      cases v with
      | true => exact wpAny_pure (qt rfl)
      | false => exact wpAny_pure (qf rfl)
    · subst e
      exact wpAny_pure q
    · subst e
      exact wpAny_pure q
end
end PySem.W
namespace GDX
open PySem PySem.Spec PyProof.Rows L2 GD
inductive NamesEx (X : Cx) : List Expr → List Value → Prop
  | nil : NamesEx X [] []
  | cons {x : Str} {c : Value} {p : Pos} {es : List Expr} {cs : List Value} : Names X x c → NamesEx X es cs → NamesEx X (.Name x p :: es) (c :: cs)
theorem NamesEx.to {X Y : Cx} (f : ∀ x c, Names X x c → Names Y x c) : ∀ {es : List Expr} {cs : List Value}, NamesEx X es cs → NamesEx Y es cs
  | _, _, .nil => .nil
  | _, _, .cons h t => .cons (f _ _ h) (NamesEx.to f t)
theorem NamesEx.len {X : Cx} : ∀ {es : List Expr} {cs : List Value}, NamesEx X es cs → es.length = cs.length
  | _, _, .nil => rfl
  | _, _, .cons _ t => congrArg (· + 1) (NamesEx.len t)
theorem names_eval {Y : Cx} {pins : List (Addr × Obj)} {σ : L2.St} {H : Hp} {s : Shared} {pos : Pos} {E : Value → Shared → Prop} (I : Inv Y pins σ H s) : ∀ {es : List Expr} {cs : List Value} {Q : List Value → Shared → Prop}, NamesEx Y es cs → Q cs s →
    wpAny (model Y.prog Y.w) Y.A (spliced (backTo pos (starEach es Y.env))) Q E s
  | _, _, _, .nil, q => wpAny_items_nil q
  | _, _, _, .cons h t, q => wpAny_items_cons (ld_cls h I (names_eval I t q))
def wTrN (K : PySem.W.Frag) (cs : List Value) (i : Nat) (ts : TS) (D : Ends) : WX := fun cls d σ H => PySem.W.exmAny K cls cs = some true ∧ ∀ a, H a = none →
  ts { nx := fun σ' H' => D.nx (σ'.set i none) H', rt := D.rt, bk := fun σ' H' => D.bk (σ'.set i none) H', ct := fun σ' H' => D.ct (σ'.set i none) H' } (σ.set i (some (.ref a))) (upd H a (XO cls d a))
section
variable {X : Cx} {x1 n : Str} {c1 : Value} {cs : List Value} {elts : List Expr} {i kk : Nat} {body suite : List Stmt} {b₀ : Stmt} {p1 tp pos pos' : Pos} {tb : WX → TS} {ts : TS}
theorem ps_tryN (hs : X.stack = X.env :: X.outer) (hf : X.env.frame = some X.env.locals) (hex : X.ex = []) (hN : X.N.Nodup) (hi : X.N[i]? = some n) (hln : X.env.kindOf n = some .local) (hcs : cs.length ≤ 20) (nn : NamesEx X elts cs)
    (hb : ∀ (W : WX) (pn : List (Addr × Obj)) (xe : Value → Shared → Prop), Takes (X.tr pn xe) W → PassesOwn (model X.prog X.w) X.A X.env xe → PSs (X.tr pn xe) body (tb W))
    (hsu : ∀ (a : Addr) (pn : List (Addr × Obj)), PSs (X.suite a pn) (b₀ :: suite) ts) :
    PS X (.Try body [.ExceptHandler (some (.Tuple elts kk tp)) (some n) (b₀ :: suite) pos'] [] [] pos) (fun D σ H => tb (wTrN X.K cs i ts D) D σ H) := by
  constructor
  intro pins s σ H D I h
  have okX := I.ok
  have frames : X.A.frames = some (X.env :: X.outer) := okX.frames.trans (congrArg some hs)
  refine wpAny_Try_except (wpAny_mono ((hb (wTrN X.K cs i ts D) (X.pn ++ pins) (fun u s₁ => wpAny (model X.prog X.w) X.A (noteFrame u X.env) (fun _ s₂ => wpAny (model X.prog X.w) X.A (setFlight u none) (fun _ s₃ =>
    wpAny (model X.prog X.w) X.A (handleBy u X.env [.ExceptHandler (some (.Tuple elts kk tp)) (some n) (b₀ :: suite) pos']) (SP X pins D) X.xe s₃) X.xe s₂) X.xe s₁) (fun u s' caught => ?_) PassesOwn.looking).run [] s σ H D (I.toTry _) h) (fun fl s1 out => ?_) fun _ _ z => z)
  · obtain ⟨a, B, sI, pins', σ', H', cls, d, rfl, JT, ground, slots, sky, na, os, gens, hm, good⟩ := caught
    have J : Inv X pins σ' H' sI := JT.ofTry okX
    rw [show X.stack = X.env :: X.outer from hs] at sky
    show wpAny (model X.prog X.w) X.A (noteFrame (.ref a) X.env) _ _ _
    refine Sky.land Zc.steady frames hf sky fun h3 f3 u3 => ?_
    have JL : Inv X pins σ' H' { s' with heap := h3 } := J.landed ground f3.1 (slots.trans u3) os gens
    obtain ⟨oe3, vs3, g3, z3, d3⟩ := f3.there
    have noFrame : a ∉ frs (X.env :: X.outer) := fun m => by
      obtain ⟨_, ob, e1, e2⟩ := f3.2.2.1.mem m
      rw [g3] at e1
      cases e1
      exact e2 _ d3
    have nL : a ≠ X.env.locals := fun z => noFrame (List.mem_filterMap.mpr ⟨X.env, List.mem_cons_self, by rw [hf, z]⟩)
    have nF : a ∉ X.fs := fun m => by
      obtain ⟨v, hv, e⟩ := List.mem_filterMap.mp m
      exact noFrame (List.mem_filterMap.mpr ⟨v, List.mem_cons_of_mem _ hv, e⟩)
    have newI : ∀ o, sI.heap.get? a ≠ some o := fun o e => by
      have := ground a o e (by rw [hs]; exact noFrame)
      rw [f3.2.1] at this
      cases this
    have n0 : X.s_0.heap.get? a = none := by
      cases e : X.s_0.heap.get? a with
      | none => rfl
      | some o =>
        obtain ⟨o', e'⟩ := J.base.there a o e (by rw [hex]; exact fun z => nomatch z)
        exact absurd e' (newI o')
    have np : ∀ p ∈ X.pn ++ pins, p.1 ≠ a := fun p hp z => newI p.2 (by rw [← z]; exact (J.pin p hp).1)
    have S3 := JL.suite g3 d3 na nL nF
    refine wpAny_handleBy_cons (codeAny_handlers_test ?_) (by intro q; cases q)
    have ty3 : PySem.W.Looks (model X.prog X.w) h3 (typeOf (.ref a)) cls := fun A Q E st kp q => wpAny_typeOf_ref (kp _ _ g3) (by rw [z3.1]; exact q)
    have m1 : NamesEx (X.suite a ((a, oe3) :: (X.pn ++ pins))) elts cs := NamesEx.to (X := X) (Y := X.suite a ((a, oe3) :: (X.pn ++ pins))) (fun x c h => h) nn
    refine wpAny_Tuple (names_eval S3 m1 ⟨by rw [sizeLine_eq]; omega, ?_⟩)
    have kp : ∀ b o, h3.get? b = some o → (h3.push { cls := .type "tuple", data := .seq cs.toArray }).get? b = some o := fun _ _ e => Heap.get?_push_of_some _ e
    refine (PySem.W.exm_tupN (JL.kIn.keeps kp) (ty3.keeps kp) (Heap.get?_push_size h3 rfl) hm).here ?_
    have f5 := fly_keeps f3 kp
    have u5 := (slots.trans u3).trans (Heap.UpToSlots.of_keeps kp)
    refine codeAny_handlers_suite_as (HandSPX.lands_againZ f5 fun h6 f6 u6 => ?_)
    have J6 : Inv X pins σ' H' { s' with heap := h6 } := J.landed ground f6.1 (u5.trans u6) os gens
    obtain ⟨oe6, vs6, g6, z6, d6⟩ := f6.there
    refine store_ok (X := X.suite a (X.pn ++ pins)) (v := .ref a) (into (track J6 g6 z6 d6 na n0 nL np) a) hN hi (.inl hln) rfl (fun s7 I7 => ?_) (.inr hln)
    refine wpAny_mono ((hsu a (X.pn ++ pins)).run [] s7 _ _ _ I7 (good a na)) (fun fl s8 out => ?_) fun _ _ z => False.elim z
    have back : ∀ {σ8 : L2.St} {H8 : Hp} {Q : Shared → Prop}, Inv (X.suite a (X.pn ++ pins)) [] σ8 H8 s8 → (∀ s9, Inv X pins (σ8.set i none) H8 s9 → Q s9) →
        wpAny (model X.prog X.w) X.A (do bindName X.env n .none; unbindBehindTheSuite X.env n pos') (fun _ s9 => Q s9) X.xe s8 := fun {σ8 H8 Q} I8 k => gone_ok (outof I8 okX) hN hi hln k
    cases fl with
    | next =>
      obtain ⟨_, _, I8, q⟩ := out
      exact back I8 fun s9 I9 => ⟨_, _, I9, q⟩
    | brk =>
      obtain ⟨_, _, I8, q⟩ := out
      exact back I8 fun s9 I9 => ⟨_, _, I9, q⟩
    | cont =>
      obtain ⟨_, _, I8, q⟩ := out
      exact back I8 fun s9 I9 => ⟨_, _, I9, q⟩
    | ret u =>
      obtain ⟨_, _, _, I8, r8, q⟩ := out
      exact back I8 fun s9 I9 => ⟨_, _, _, I9, r8, q⟩
  · cases fl with
    | next =>
      obtain ⟨_, _, J, q⟩ := out
      exact wpAny_execs_nil ⟨_, _, J.ofTry okX, q⟩
    | brk =>
      obtain ⟨_, _, J, q⟩ := out
      exact ⟨_, _, J.ofTry okX, q⟩
    | cont =>
      obtain ⟨_, _, J, q⟩ := out
      exact ⟨_, _, J.ofTry okX, q⟩
    | ret u =>
      obtain ⟨_, _, _, J, r, q⟩ := out
      exact ⟨_, _, _, J.ofTry okX, r, q⟩
end
end GDX

set_option maxHeartbeats 2000000
namespace GDX
open PySem PySem.W PySem.Calls PyProof.Rows PySem.HandSPX Builtin.ObjectAttr

namespace XN
def iA (p1 p2 : Pos) : Arguments := { posonlyargs := [], args := [{ arg := "self", annotation := none, pos := p1 }, { arg := "line", annotation := none, pos := p2 }], vararg := none, kwonlyargs := [], kw_defaults := [], kwarg := none, defaults := [] }
def iB (q1 q2 q3 q4 : Pos) : List Stmt := [.Assign [.Attribute (.Name "self" q1) "line" q2] (.Name "line" q3) q4]
def iS : Scope := { kind := .function, names := [(PySem.Str.ofString "self", .local), (PySem.Str.ofString "line", .local)], isGenerator := false, isCoroutine := false, more := [] }
structure XT (K : Frag) (mg : Str → Option Value) (nm : Str) (bmB : List Value) (newId : String) (C fI : Addr) : Prop where
  gC : mg nm = some (.ref C)
  ini : excInitIn K C bmB newId = true
  ov : excOver K C bmB = true
  sa : findIn K (.ref C) "__setattr__" = some (some (.builtin "object.__setattr__"))
  ga : findIn K (.ref C) "__getattribute__" = some (some (.builtin "BaseException.__getattribute__"))
  gg : findIn K (.ref C) "__getattr__" = some none
  noN : findIn K (.ref C) "line" = some none
  iC : findIn K (.ref C) "__init__" = some (some (.ref fI))
  tC : typeIn K (.ref fI) = some (.type "function")
  kC : keepIn K (.ref C) = true
  exC : subIn K (.ref C) (.type "BaseException") = some true
  tyC : typeIn K (.ref C) = some (.type "type")
  hdC : hasDictIn K C = true
  fn : ∃ (st : Stmt) (qn : Str) (oc : Value) (od : Option Addr) (kV doc pm : Value) (an : Option Addr) (cdv ct : Value) (osl : Array (Option Value)),
    K.lookup fI = some ⟨oc, od, .func (fnOf "__init__" qn (L2.defArgs st) (L2.defBody st) (L2.defScope st) .none kV doc pm an cdv ct), osl⟩ ∧ codeIn K cdv qn = true ∧
      (∃ p1 p2 : Pos, L2.defArgs st = iA p1 p2) ∧ (∃ q1 q2 q3 q4 : Pos, L2.defBody st = iB q1 q2 q3 q4) ∧ L2.defScope st = iS
structure IEnd (h h' : Heap) (x C dx t1 : Addr) (v : Value) : Prop where
  keep : ∀ b o, b ≠ x → h.get? b = some o → h'.get? b = some o
  obj : h'.get? x = some (excObj C t1 (some dx) .none)
  big : h.objs.size ≤ dx
  ne : dx ≠ x
  ns : h'.Ns1 dx (fun y => if y = "line" then some v else none)
structure Made (h h' : Heap) (e C d : Addr) (v : Value) : Prop where
  keep : ∀ b o, h.get? b = some o → h'.get? b = some o
  new : h.objs.size ≤ e
  obj : ∃ t1 : Addr, h'.get? e = some (excObj C t1 (some d) .none)
  big : h.objs.size ≤ d
  ne : d ≠ e
  ns : h'.Ns1 d (fun y => if y = "line" then some v else none)
theorem ldC {M : Model} {s : Shared} {name : Str} {scope : Scope} {L a : Addr} {cd : Value} {m : Str → Option Value} {x : Str} {pos : Pos} {v : Value} {Q : Value → Shared → Prop} {A : Around} {E : Value → Shared → Prop} (hn : s.heap.Ns L m) (hv : m x = some v) (h : Q v s)
    (hk : scope.kind = .function := by rfl) (hl : (envOfC name scope L a cd).kindOf x = some .local := by rfl) (hd : (x == ("__debug__" : Str)) = false := by decide) :
    wpAny M A (eval (.Name x pos) (envOfC name scope L a cd)) Q E s := wpAny_Name (wpAny_loadName_local hk hl hn hv h) hd
section
variable {prog : Program} {w : World} {A : Around} {E : Value → Shared → Prop} {R : Result → Shared → Prop} {s : Shared} {K : Frag} {mg : Str → Option Value} {nm : Str} {bmB : List Value} {B newId initId : String} {C fI : Addr}
theorem init_runs (SF : StoreFacts B bmB "object.__setattr__" "object") (T : XT K mg nm bmB newId C fI) {x t0 : Addr} {v : Value} (X : K.In s.heap) (hlim : s.heap.NoLimit) (hx : s.heap.get? x = some (excO C t0)) (hroom : A.depth < recursionLimit)
    (hq : ∀ h' tk dx, IEnd s.heap h' x C dx t0 v → R (.ok (.ret .none)) { s with heap := h', toks := tk }) :
    codeAny (model prog w) A (.call (.ref fI) ⟨[.ref x, v], []⟩) R s := by
  obtain ⟨st, qn, oc, od, kV, doc, pm, an, cdv, ct, osl, ho, hcd, ⟨p1, p2, eA⟩, ⟨q1, q2, q3, q4, eB⟩, eS⟩ := T.fn
  rw [eA, eB, eS] at ho
  refine Att.call_fn (binds := [("self", .ref x), ("line", v)]) X hlim ho hcd hroom (BindsTo.of_eq (by first | rfl | with_unfolding_all rfl)) (by first | rfl | decide | with_unfolding_all rfl) (fun s₁ IC => ?_) rfl rfl rfl
  obtain ⟨h₁, tk₁, rfl⟩ := IC.toInCall.same
  have k : ∀ b o, s.heap.get? b = some o → h₁.get? b = some o := IC.toInCall.keep
  have hn := IC.toInCall.ns
  have X₁ : K.In h₁ := X.keeps k
  have hx₁ := k _ _ hx
  show wpAny _ _ (execs _ _) _ _ _
  refine wpAny_execs_cons (plainObj_wpAny_Assign_Attribute ?_)
  refine ldC (v := v) hn (by first | rfl | with_unfolding_all rfl | kernel_rfl) (ldC (v := .ref x) hn (by first | rfl | with_unfolding_all rfl | kernel_rfl) ?_)
  refine set_plain X₁ (ox := excO C t0) (od := none) ⟨hx₁, rfl, rfl, trivial⟩ T.sa ?_
  refine store1 SF X₁ hx₁ T.ov (by unfold takerIn; rw [T.noN]; rfl) T.hdC fun h₃ tk₃ dx k₃ dn dne hx₃ hn₃ => ?_
  show wpAny _ _ (execs _ _) _ _ _
  have z : s.heap.objs.size < h₁.objs.size := hn.lt
  exact wpAny_execs_nil (hq h₃ tk₃ dx ⟨fun b o hb e => k₃ b o hb (k b o e), hx₃, Nat.le_of_lt (Nat.lt_of_lt_of_le z dn), dne, hn₃⟩)
theorem made (FB : ExcBaseFacts B newId initId bmB) (SF : StoreFacts B bmB "object.__setattr__" "object") (T : XT K mg nm bmB newId C fI) {v : Value} (X : K.In s.heap) (hlim : s.heap.NoLimit) (hroom : A.depth + 1 < recursionLimit)
    (hq : ∀ h' tk e d, Made s.heap h' e C d v → R (.ok (.ret (.ref e))) { s with heap := h', toks := tk }) :
    codeAny (model prog w) A (.call (.ref C) ⟨[v], []⟩) R s := by
  obtain ⟨nmC, N, qC, bs, bm, hdct, sn, sub, ab, col, dd, k0, k1, k2, k3, k5, hC, hT⟩ := excInit_of X T.ini
  obtain ⟨hp, g, dr, tk, os⟩ := s
  have k : ∀ b o, hp.get? b = some o → ((hp.push (kdv_tup [v])).push (excO C hp.objs.size)).get? b = some o := fun b o e => Heap.get?_push_of_some _ (Heap.get?_push_of_some _ e)
  have hget : ((hp.push (kdv_tup [v])).push (excO C hp.objs.size)).get? (hp.objs.size + 1) = some (excO C hp.objs.size) := by heap_get
  refine call_own FB hT hC (looks_findIn X T.iC) (fun self => bind_fn X self T.tC) (by rw [sizeLine_eq]; exact (by decide : 1 ≤ 16777216)) ?_
  refine init_runs (s := ⟨(hp.push (kdv_tup [v])).push (excO C hp.objs.size), g, dr, tk, os⟩) SF T (X.keeps k) (hlim.keeps k) hget ?_ fun h' tk' dx ⟨k', hx, dn, dne, hns⟩ => ?_
  · show A.depth + 1 < recursionLimit
    exact hroom
  · have old : ∀ b o, hp.get? b = some o → h'.get? b = some o := fun b o e => k' b o (Nat.ne_of_lt (Nat.lt_succ_of_lt (Heap.lt_size e))) (k b o e)
    have z : hp.objs.size + 1 + 1 ≤ dx := by
      first
        | (simpa only [Heap.size_push] using dn)
        | exact dn
        | (have q := dn; rw [Heap.size_push, Heap.size_push] at q; exact q)
    exact ⟨rfl, hq h' tk' (hp.objs.size + 1) dx ⟨old, Nat.le_succ _, ⟨_, hx⟩, Nat.le_trans (Nat.le_trans (Nat.le_succ _) (Nat.le_succ _)) z, dne, hns⟩⟩
end
end XN

namespace XI
def iA (p1 p2 : Pos) : Arguments := { posonlyargs := [], args := [{ arg := "self", annotation := none, pos := p1 }, { arg := "index", annotation := none, pos := p2 }], vararg := none, kwonlyargs := [], kw_defaults := [], kwarg := none, defaults := [] }
def iB (q1 q2 q3 q4 : Pos) : List Stmt := [.Assign [.Attribute (.Name "self" q1) "index" q2] (.Name "index" q3) q4]
def iS : Scope := { kind := .function, names := [(PySem.Str.ofString "self", .local), (PySem.Str.ofString "index", .local)], isGenerator := false, isCoroutine := false, more := [] }
structure XT (K : Frag) (mg : Str → Option Value) (nm : Str) (bmB : List Value) (newId : String) (C fI : Addr) : Prop where
  gC : mg nm = some (.ref C)
  ini : excInitIn K C bmB newId = true
  ov : excOver K C bmB = true
  sa : findIn K (.ref C) "__setattr__" = some (some (.builtin "object.__setattr__"))
  ga : findIn K (.ref C) "__getattribute__" = some (some (.builtin "BaseException.__getattribute__"))
  gg : findIn K (.ref C) "__getattr__" = some none
  noN : findIn K (.ref C) "index" = some none
  iC : findIn K (.ref C) "__init__" = some (some (.ref fI))
  tC : typeIn K (.ref fI) = some (.type "function")
  kC : keepIn K (.ref C) = true
  exC : subIn K (.ref C) (.type "BaseException") = some true
  tyC : typeIn K (.ref C) = some (.type "type")
  hdC : hasDictIn K C = true
  fn : ∃ (st : Stmt) (qn : Str) (oc : Value) (od : Option Addr) (kV doc pm : Value) (an : Option Addr) (cdv ct : Value) (osl : Array (Option Value)),
    K.lookup fI = some ⟨oc, od, .func (fnOf "__init__" qn (L2.defArgs st) (L2.defBody st) (L2.defScope st) .none kV doc pm an cdv ct), osl⟩ ∧ codeIn K cdv qn = true ∧
      (∃ p1 p2 : Pos, L2.defArgs st = iA p1 p2) ∧ (∃ q1 q2 q3 q4 : Pos, L2.defBody st = iB q1 q2 q3 q4) ∧ L2.defScope st = iS
structure IEnd (h h' : Heap) (x C dx t1 : Addr) (v : Value) : Prop where
  keep : ∀ b o, b ≠ x → h.get? b = some o → h'.get? b = some o
  obj : h'.get? x = some (excObj C t1 (some dx) .none)
  big : h.objs.size ≤ dx
  ne : dx ≠ x
  ns : h'.Ns1 dx (fun y => if y = "index" then some v else none)
structure Made (h h' : Heap) (e C d : Addr) (v : Value) : Prop where
  keep : ∀ b o, h.get? b = some o → h'.get? b = some o
  new : h.objs.size ≤ e
  obj : ∃ t1 : Addr, h'.get? e = some (excObj C t1 (some d) .none)
  big : h.objs.size ≤ d
  ne : d ≠ e
  ns : h'.Ns1 d (fun y => if y = "index" then some v else none)
theorem ldC {M : Model} {s : Shared} {name : Str} {scope : Scope} {L a : Addr} {cd : Value} {m : Str → Option Value} {x : Str} {pos : Pos} {v : Value} {Q : Value → Shared → Prop} {A : Around} {E : Value → Shared → Prop} (hn : s.heap.Ns L m) (hv : m x = some v) (h : Q v s)
    (hk : scope.kind = .function := by rfl) (hl : (envOfC name scope L a cd).kindOf x = some .local := by rfl) (hd : (x == ("__debug__" : Str)) = false := by decide) :
    wpAny M A (eval (.Name x pos) (envOfC name scope L a cd)) Q E s := wpAny_Name (wpAny_loadName_local hk hl hn hv h) hd
section
variable {prog : Program} {w : World} {A : Around} {E : Value → Shared → Prop} {R : Result → Shared → Prop} {s : Shared} {K : Frag} {mg : Str → Option Value} {nm : Str} {bmB : List Value} {B newId initId : String} {C fI : Addr}
theorem init_runs (SF : StoreFacts B bmB "object.__setattr__" "object") (T : XT K mg nm bmB newId C fI) {x t0 : Addr} {v : Value} (X : K.In s.heap) (hlim : s.heap.NoLimit) (hx : s.heap.get? x = some (excO C t0)) (hroom : A.depth < recursionLimit)
    (hq : ∀ h' tk dx, IEnd s.heap h' x C dx t0 v → R (.ok (.ret .none)) { s with heap := h', toks := tk }) :
    codeAny (model prog w) A (.call (.ref fI) ⟨[.ref x, v], []⟩) R s := by
  obtain ⟨st, qn, oc, od, kV, doc, pm, an, cdv, ct, osl, ho, hcd, ⟨p1, p2, eA⟩, ⟨q1, q2, q3, q4, eB⟩, eS⟩ := T.fn
  rw [eA, eB, eS] at ho
  refine Att.call_fn (binds := [("self", .ref x), ("index", v)]) X hlim ho hcd hroom (BindsTo.of_eq (by first | rfl | with_unfolding_all rfl)) (by first | rfl | decide | with_unfolding_all rfl) (fun s₁ IC => ?_) rfl rfl rfl
  obtain ⟨h₁, tk₁, rfl⟩ := IC.toInCall.same
  have k : ∀ b o, s.heap.get? b = some o → h₁.get? b = some o := IC.toInCall.keep
  have hn := IC.toInCall.ns
  have X₁ : K.In h₁ := X.keeps k
  have hx₁ := k _ _ hx
  show wpAny _ _ (execs _ _) _ _ _
  refine wpAny_execs_cons (plainObj_wpAny_Assign_Attribute ?_)
  refine ldC (v := v) hn (by first | rfl | with_unfolding_all rfl | kernel_rfl) (ldC (v := .ref x) hn (by first | rfl | with_unfolding_all rfl | kernel_rfl) ?_)
  refine set_plain X₁ (ox := excO C t0) (od := none) ⟨hx₁, rfl, rfl, trivial⟩ T.sa ?_
  refine store1 SF X₁ hx₁ T.ov (by unfold takerIn; rw [T.noN]; rfl) T.hdC fun h₃ tk₃ dx k₃ dn dne hx₃ hn₃ => ?_
  show wpAny _ _ (execs _ _) _ _ _
  have z : s.heap.objs.size < h₁.objs.size := hn.lt
  exact wpAny_execs_nil (hq h₃ tk₃ dx ⟨fun b o hb e => k₃ b o hb (k b o e), hx₃, Nat.le_of_lt (Nat.lt_of_lt_of_le z dn), dne, hn₃⟩)
theorem made (FB : ExcBaseFacts B newId initId bmB) (SF : StoreFacts B bmB "object.__setattr__" "object") (T : XT K mg nm bmB newId C fI) {v : Value} (X : K.In s.heap) (hlim : s.heap.NoLimit) (hroom : A.depth + 1 < recursionLimit)
    (hq : ∀ h' tk e d, Made s.heap h' e C d v → R (.ok (.ret (.ref e))) { s with heap := h', toks := tk }) :
    codeAny (model prog w) A (.call (.ref C) ⟨[v], []⟩) R s := by
  obtain ⟨nmC, N, qC, bs, bm, hdct, sn, sub, ab, col, dd, k0, k1, k2, k3, k5, hC, hT⟩ := excInit_of X T.ini
  obtain ⟨hp, g, dr, tk, os⟩ := s
  have k : ∀ b o, hp.get? b = some o → ((hp.push (kdv_tup [v])).push (excO C hp.objs.size)).get? b = some o := fun b o e => Heap.get?_push_of_some _ (Heap.get?_push_of_some _ e)
  have hget : ((hp.push (kdv_tup [v])).push (excO C hp.objs.size)).get? (hp.objs.size + 1) = some (excO C hp.objs.size) := by heap_get
  refine call_own FB hT hC (looks_findIn X T.iC) (fun self => bind_fn X self T.tC) (by rw [sizeLine_eq]; exact (by decide : 1 ≤ 16777216)) ?_
  refine init_runs (s := ⟨(hp.push (kdv_tup [v])).push (excO C hp.objs.size), g, dr, tk, os⟩) SF T (X.keeps k) (hlim.keeps k) hget ?_ fun h' tk' dx ⟨k', hx, dn, dne, hns⟩ => ?_
  · show A.depth + 1 < recursionLimit
    exact hroom
  · have old : ∀ b o, hp.get? b = some o → h'.get? b = some o := fun b o e => k' b o (Nat.ne_of_lt (Nat.lt_succ_of_lt (Heap.lt_size e))) (k b o e)
    have z : hp.objs.size + 1 + 1 ≤ dx := by
      first
        | (simpa only [Heap.size_push] using dn)
        | exact dn
        | (have q := dn; rw [Heap.size_push, Heap.size_push] at q; exact q)
    exact ⟨rfl, hq h' tk' (hp.objs.size + 1) dx ⟨old, Nat.le_succ _, ⟨_, hx⟩, Nat.le_trans (Nat.le_trans (Nat.le_succ _) (Nat.le_succ _)) z, dne, hns⟩⟩
end
end XI

namespace XP
def iA (p1 p2 : Pos) : Arguments := { posonlyargs := [], args := [{ arg := "self", annotation := none, pos := p1 }, { arg := "step", annotation := none, pos := p2 }], vararg := none, kwonlyargs := [], kw_defaults := [], kwarg := none, defaults := [] }
def iB (q1 q2 q3 q4 : Pos) : List Stmt := [.Assign [.Attribute (.Name "self" q1) "step" q2] (.Name "step" q3) q4]
def iS : Scope := { kind := .function, names := [(PySem.Str.ofString "self", .local), (PySem.Str.ofString "step", .local)], isGenerator := false, isCoroutine := false, more := [] }
structure XT (K : Frag) (mg : Str → Option Value) (nm : Str) (bmB : List Value) (newId : String) (C fI : Addr) : Prop where
  gC : mg nm = some (.ref C)
  ini : excInitIn K C bmB newId = true
  ov : excOver K C bmB = true
  sa : findIn K (.ref C) "__setattr__" = some (some (.builtin "object.__setattr__"))
  ga : findIn K (.ref C) "__getattribute__" = some (some (.builtin "BaseException.__getattribute__"))
  gg : findIn K (.ref C) "__getattr__" = some none
  noN : findIn K (.ref C) "step" = some none
  iC : findIn K (.ref C) "__init__" = some (some (.ref fI))
  tC : typeIn K (.ref fI) = some (.type "function")
  kC : keepIn K (.ref C) = true
  exC : subIn K (.ref C) (.type "BaseException") = some true
  tyC : typeIn K (.ref C) = some (.type "type")
  hdC : hasDictIn K C = true
  fn : ∃ (st : Stmt) (qn : Str) (oc : Value) (od : Option Addr) (kV doc pm : Value) (an : Option Addr) (cdv ct : Value) (osl : Array (Option Value)),
    K.lookup fI = some ⟨oc, od, .func (fnOf "__init__" qn (L2.defArgs st) (L2.defBody st) (L2.defScope st) .none kV doc pm an cdv ct), osl⟩ ∧ codeIn K cdv qn = true ∧
      (∃ p1 p2 : Pos, L2.defArgs st = iA p1 p2) ∧ (∃ q1 q2 q3 q4 : Pos, L2.defBody st = iB q1 q2 q3 q4) ∧ L2.defScope st = iS
structure IEnd (h h' : Heap) (x C dx t1 : Addr) (v : Value) : Prop where
  keep : ∀ b o, b ≠ x → h.get? b = some o → h'.get? b = some o
  obj : h'.get? x = some (excObj C t1 (some dx) .none)
  big : h.objs.size ≤ dx
  ne : dx ≠ x
  ns : h'.Ns1 dx (fun y => if y = "step" then some v else none)
structure Made (h h' : Heap) (e C d : Addr) (v : Value) : Prop where
  keep : ∀ b o, h.get? b = some o → h'.get? b = some o
  new : h.objs.size ≤ e
  obj : ∃ t1 : Addr, h'.get? e = some (excObj C t1 (some d) .none)
  big : h.objs.size ≤ d
  ne : d ≠ e
  ns : h'.Ns1 d (fun y => if y = "step" then some v else none)
theorem ldC {M : Model} {s : Shared} {name : Str} {scope : Scope} {L a : Addr} {cd : Value} {m : Str → Option Value} {x : Str} {pos : Pos} {v : Value} {Q : Value → Shared → Prop} {A : Around} {E : Value → Shared → Prop} (hn : s.heap.Ns L m) (hv : m x = some v) (h : Q v s)
    (hk : scope.kind = .function := by rfl) (hl : (envOfC name scope L a cd).kindOf x = some .local := by rfl) (hd : (x == ("__debug__" : Str)) = false := by decide) :
    wpAny M A (eval (.Name x pos) (envOfC name scope L a cd)) Q E s := wpAny_Name (wpAny_loadName_local hk hl hn hv h) hd
section
variable {prog : Program} {w : World} {A : Around} {E : Value → Shared → Prop} {R : Result → Shared → Prop} {s : Shared} {K : Frag} {mg : Str → Option Value} {nm : Str} {bmB : List Value} {B newId initId : String} {C fI : Addr}
theorem init_runs (SF : StoreFacts B bmB "object.__setattr__" "object") (T : XT K mg nm bmB newId C fI) {x t0 : Addr} {v : Value} (X : K.In s.heap) (hlim : s.heap.NoLimit) (hx : s.heap.get? x = some (excO C t0)) (hroom : A.depth < recursionLimit)
    (hq : ∀ h' tk dx, IEnd s.heap h' x C dx t0 v → R (.ok (.ret .none)) { s with heap := h', toks := tk }) :
    codeAny (model prog w) A (.call (.ref fI) ⟨[.ref x, v], []⟩) R s := by
  obtain ⟨st, qn, oc, od, kV, doc, pm, an, cdv, ct, osl, ho, hcd, ⟨p1, p2, eA⟩, ⟨q1, q2, q3, q4, eB⟩, eS⟩ := T.fn
  rw [eA, eB, eS] at ho
  refine Att.call_fn (binds := [("self", .ref x), ("step", v)]) X hlim ho hcd hroom (BindsTo.of_eq (by first | rfl | with_unfolding_all rfl)) (by first | rfl | decide | with_unfolding_all rfl) (fun s₁ IC => ?_) rfl rfl rfl
  obtain ⟨h₁, tk₁, rfl⟩ := IC.toInCall.same
  have k : ∀ b o, s.heap.get? b = some o → h₁.get? b = some o := IC.toInCall.keep
  have hn := IC.toInCall.ns
  have X₁ : K.In h₁ := X.keeps k
  have hx₁ := k _ _ hx
  show wpAny _ _ (execs _ _) _ _ _
  refine wpAny_execs_cons (plainObj_wpAny_Assign_Attribute ?_)
  refine ldC (v := v) hn (by first | rfl | with_unfolding_all rfl | kernel_rfl) (ldC (v := .ref x) hn (by first | rfl | with_unfolding_all rfl | kernel_rfl) ?_)
  refine set_plain X₁ (ox := excO C t0) (od := none) ⟨hx₁, rfl, rfl, trivial⟩ T.sa ?_
  refine store1 SF X₁ hx₁ T.ov (by unfold takerIn; rw [T.noN]; rfl) T.hdC fun h₃ tk₃ dx k₃ dn dne hx₃ hn₃ => ?_
  show wpAny _ _ (execs _ _) _ _ _
  have z : s.heap.objs.size < h₁.objs.size := hn.lt
  exact wpAny_execs_nil (hq h₃ tk₃ dx ⟨fun b o hb e => k₃ b o hb (k b o e), hx₃, Nat.le_of_lt (Nat.lt_of_lt_of_le z dn), dne, hn₃⟩)
theorem made (FB : ExcBaseFacts B newId initId bmB) (SF : StoreFacts B bmB "object.__setattr__" "object") (T : XT K mg nm bmB newId C fI) {v : Value} (X : K.In s.heap) (hlim : s.heap.NoLimit) (hroom : A.depth + 1 < recursionLimit)
    (hq : ∀ h' tk e d, Made s.heap h' e C d v → R (.ok (.ret (.ref e))) { s with heap := h', toks := tk }) :
    codeAny (model prog w) A (.call (.ref C) ⟨[v], []⟩) R s := by
  obtain ⟨nmC, N, qC, bs, bm, hdct, sn, sub, ab, col, dd, k0, k1, k2, k3, k5, hC, hT⟩ := excInit_of X T.ini
  obtain ⟨hp, g, dr, tk, os⟩ := s
  have k : ∀ b o, hp.get? b = some o → ((hp.push (kdv_tup [v])).push (excO C hp.objs.size)).get? b = some o := fun b o e => Heap.get?_push_of_some _ (Heap.get?_push_of_some _ e)
  have hget : ((hp.push (kdv_tup [v])).push (excO C hp.objs.size)).get? (hp.objs.size + 1) = some (excO C hp.objs.size) := by heap_get
  refine call_own FB hT hC (looks_findIn X T.iC) (fun self => bind_fn X self T.tC) (by rw [sizeLine_eq]; exact (by decide : 1 ≤ 16777216)) ?_
  refine init_runs (s := ⟨(hp.push (kdv_tup [v])).push (excO C hp.objs.size), g, dr, tk, os⟩) SF T (X.keeps k) (hlim.keeps k) hget ?_ fun h' tk' dx ⟨k', hx, dn, dne, hns⟩ => ?_
  · show A.depth + 1 < recursionLimit
    exact hroom
  · have old : ∀ b o, hp.get? b = some o → h'.get? b = some o := fun b o e => k' b o (Nat.ne_of_lt (Nat.lt_succ_of_lt (Heap.lt_size e))) (k b o e)
    have z : hp.objs.size + 1 + 1 ≤ dx := by
      first
        | (simpa only [Heap.size_push] using dn)
        | exact dn
        | (have q := dn; rw [Heap.size_push, Heap.size_push] at q; exact q)
    exact ⟨rfl, hq h' tk' (hp.objs.size + 1) dx ⟨old, Nat.le_succ _, ⟨_, hx⟩, Nat.le_trans (Nat.le_trans (Nat.le_succ _) (Nat.le_succ _)) z, dne, hns⟩⟩
end
end XP

end GDX
namespace GDX
open PySem PySem.Spec PyProof.Rows L2

namespace XN
theorem relO_f {v : V} {v' : Value} (r : RelV v v') (f : Str) : RelO (List.lookup f [(("line" : Str), v)]) (if f = "line" then some v' else none) := by
  by_cases hw : f = "line"
  · subst hw
    rw [if_pos rfl]
    have q : List.lookup ("line" : Str) [(("line" : Str), v)] = some v := by simp [List.lookup]
    rw [q]
    exact r
  · rw [if_neg hw]
    have qw : (f == ("line" : Str)) = false := by simpa using hw
    have q2 : List.lookup f [(("line" : Str), v)] = none := by simp [List.lookup, qw]
    rw [q2]
    trivial
section
variable {X : Cx} {C fI : Addr} {nm : Str} {bmB : List Value} {B newId initId : String}
theorem pmk {a : Expr} {ta : TA} {p pos : Pos} {k : Nat} (FB : ExcBaseFacts B newId initId bmB) (SF : StoreFacts B bmB "object.__setattr__" "object") (T : XT X.K X.mg nm bmB newId C fI) (hr : Room k X.A) (ha : PA X [a] ta) (hg : Gl X nm)
    (hdb : (nm == ("__debug__" : Str)) = false := by decide)
    (he : starEach (a :: []) X.env = (false, eval a X.env) :: starEach [] X.env := by rfl) (hpl : (backTo pos (starEach [] X.env)).any (·.1) = false := by rfl) :
    PMk X (.Call (.Name nm p) [a] [] pos) (tMkF C "line" ta) := by
  intro pins s σ H Q I h
  refine wpAny_Call_Name_kw (ld_glob I hg T.gC ?_ hdb)
  refine PySem.W.callWith_K (h₀ := X.base) I.ok.mod.kin T.kC (thn (ha.run pos pins s σ H _ I h) fun us s1 hh => ?_) he hpl
  obtain ⟨vs, H1, I1, r1, v, ev, q1⟩ := hh
  subst ev
  refine ⟨I1.kIn, ?_⟩
  cases r1 with
  | cons rv rn =>
    rename_i v' us'
    cases rn
    show wpAny _ _ (call (.ref C) [v']) _ _ _
    have hlim := I1.nolimit
    obtain ⟨hp, g, dr, tk, os⟩ := s1
    refine wpAny_call (made FB SF T I1.kIn hlim (by have := hr.dp; omega) fun h' tk' e d M => ?_)
    show MkP X pins σ Q (.ref e) ⟨h', g, dr, tk', os⟩
    obtain ⟨t1, hoe⟩ := M.obj
    have hns := M.ns
    obtain ⟨G', g1, g2⟩ := restrict h' fun b => decide (b ≠ e)
    have gk : ∀ b, b ≠ e → G'.get? b = h'.get? b := fun b hb => g1 b (decide_eq_true hb)
    have ge : G'.get? e = none := g2 e (by simp)
    have old : ∀ b o, hp.get? b = some o → G'.get? b = some o := fun b o q => (gk b (Nat.ne_of_lt (Nat.lt_of_lt_of_le (Heap.lt_size q) M.new))).trans (M.keep b o q)
    have ob : ObjOk X.prog X.w (upd H1 d (.xd [(("line" : Str), v)])) G' d (.xd [(("line" : Str), v)]) :=
      ⟨_, hns.at (fun o q => (gk d M.ne).trans q), fun f => relO_f rv f⟩
    have J : Inv X pins σ (upd H1 d (.xd [(("line" : Str), v)])) ⟨G', g, dr, tk', os⟩ := I1.laid (t' := tk') old M.big ob
    refine ⟨e, _, _, ⟨G', g, dr, tk', os⟩, _, .ref C, some d, rfl, J, fun b o q => ?_, ge, hoe, ⟨rfl, rfl⟩, rfl, rfl, ?_, rfl, I1.bare, raises_own T.exC T.tyC, q1 d (I1.hok.fresh M.big)⟩
    · by_cases hb : b = e
      · have q' : G'.get? b = some o := q
        rw [hb, ge] at q'; cases q'
      · exact (gk b hb).symm.trans q
    · rw [upd_ne (Ne.symm M.ne)]
      exact I1.hok.fresh M.new
end
end XN

namespace XI
theorem relO_f {v : V} {v' : Value} (r : RelV v v') (f : Str) : RelO (List.lookup f [(("index" : Str), v)]) (if f = "index" then some v' else none) := by
  by_cases hw : f = "index"
  · subst hw
    rw [if_pos rfl]
    have q : List.lookup ("index" : Str) [(("index" : Str), v)] = some v := by simp [List.lookup]
    rw [q]
    exact r
  · rw [if_neg hw]
    have qw : (f == ("index" : Str)) = false := by simpa using hw
    have q2 : List.lookup f [(("index" : Str), v)] = none := by simp [List.lookup, qw]
    rw [q2]
    trivial
section
variable {X : Cx} {C fI : Addr} {nm : Str} {bmB : List Value} {B newId initId : String}
theorem pmk {a : Expr} {ta : TA} {p pos : Pos} {k : Nat} (FB : ExcBaseFacts B newId initId bmB) (SF : StoreFacts B bmB "object.__setattr__" "object") (T : XT X.K X.mg nm bmB newId C fI) (hr : Room k X.A) (ha : PA X [a] ta) (hg : Gl X nm)
    (hdb : (nm == ("__debug__" : Str)) = false := by decide)
    (he : starEach (a :: []) X.env = (false, eval a X.env) :: starEach [] X.env := by rfl) (hpl : (backTo pos (starEach [] X.env)).any (·.1) = false := by rfl) :
    PMk X (.Call (.Name nm p) [a] [] pos) (tMkF C "index" ta) := by
  intro pins s σ H Q I h
  refine wpAny_Call_Name_kw (ld_glob I hg T.gC ?_ hdb)
  refine PySem.W.callWith_K (h₀ := X.base) I.ok.mod.kin T.kC (thn (ha.run pos pins s σ H _ I h) fun us s1 hh => ?_) he hpl
  obtain ⟨vs, H1, I1, r1, v, ev, q1⟩ := hh
  subst ev
  refine ⟨I1.kIn, ?_⟩
  cases r1 with
  | cons rv rn =>
    rename_i v' us'
    cases rn
    show wpAny _ _ (call (.ref C) [v']) _ _ _
    have hlim := I1.nolimit
    obtain ⟨hp, g, dr, tk, os⟩ := s1
    refine wpAny_call (made FB SF T I1.kIn hlim (by have := hr.dp; omega) fun h' tk' e d M => ?_)
    show MkP X pins σ Q (.ref e) ⟨h', g, dr, tk', os⟩
    obtain ⟨t1, hoe⟩ := M.obj
    have hns := M.ns
    obtain ⟨G', g1, g2⟩ := restrict h' fun b => decide (b ≠ e)
    have gk : ∀ b, b ≠ e → G'.get? b = h'.get? b := fun b hb => g1 b (decide_eq_true hb)
    have ge : G'.get? e = none := g2 e (by simp)
    have old : ∀ b o, hp.get? b = some o → G'.get? b = some o := fun b o q => (gk b (Nat.ne_of_lt (Nat.lt_of_lt_of_le (Heap.lt_size q) M.new))).trans (M.keep b o q)
    have ob : ObjOk X.prog X.w (upd H1 d (.xd [(("index" : Str), v)])) G' d (.xd [(("index" : Str), v)]) :=
      ⟨_, hns.at (fun o q => (gk d M.ne).trans q), fun f => relO_f rv f⟩
    have J : Inv X pins σ (upd H1 d (.xd [(("index" : Str), v)])) ⟨G', g, dr, tk', os⟩ := I1.laid (t' := tk') old M.big ob
    refine ⟨e, _, _, ⟨G', g, dr, tk', os⟩, _, .ref C, some d, rfl, J, fun b o q => ?_, ge, hoe, ⟨rfl, rfl⟩, rfl, rfl, ?_, rfl, I1.bare, raises_own T.exC T.tyC, q1 d (I1.hok.fresh M.big)⟩
    · by_cases hb : b = e
      · have q' : G'.get? b = some o := q
        rw [hb, ge] at q'; cases q'
      · exact (gk b hb).symm.trans q
    · rw [upd_ne (Ne.symm M.ne)]
      exact I1.hok.fresh M.new
end
end XI

namespace XP
theorem relO_f {v : V} {v' : Value} (r : RelV v v') (f : Str) : RelO (List.lookup f [(("step" : Str), v)]) (if f = "step" then some v' else none) := by
  by_cases hw : f = "step"
  · subst hw
    rw [if_pos rfl]
    have q : List.lookup ("step" : Str) [(("step" : Str), v)] = some v := by simp [List.lookup]
    rw [q]
    exact r
  · rw [if_neg hw]
    have qw : (f == ("step" : Str)) = false := by simpa using hw
    have q2 : List.lookup f [(("step" : Str), v)] = none := by simp [List.lookup, qw]
    rw [q2]
    trivial
section
variable {X : Cx} {C fI : Addr} {nm : Str} {bmB : List Value} {B newId initId : String}
theorem pmk {a : Expr} {ta : TA} {p pos : Pos} {k : Nat} (FB : ExcBaseFacts B newId initId bmB) (SF : StoreFacts B bmB "object.__setattr__" "object") (T : XT X.K X.mg nm bmB newId C fI) (hr : Room k X.A) (ha : PA X [a] ta) (hg : Gl X nm)
    (hdb : (nm == ("__debug__" : Str)) = false := by decide)
    (he : starEach (a :: []) X.env = (false, eval a X.env) :: starEach [] X.env := by rfl) (hpl : (backTo pos (starEach [] X.env)).any (·.1) = false := by rfl) :
    PMk X (.Call (.Name nm p) [a] [] pos) (tMkF C "step" ta) := by
  intro pins s σ H Q I h
  refine wpAny_Call_Name_kw (ld_glob I hg T.gC ?_ hdb)
  refine PySem.W.callWith_K (h₀ := X.base) I.ok.mod.kin T.kC (thn (ha.run pos pins s σ H _ I h) fun us s1 hh => ?_) he hpl
  obtain ⟨vs, H1, I1, r1, v, ev, q1⟩ := hh
  subst ev
  refine ⟨I1.kIn, ?_⟩
  cases r1 with
  | cons rv rn =>
    rename_i v' us'
    cases rn
    show wpAny _ _ (call (.ref C) [v']) _ _ _
    have hlim := I1.nolimit
    obtain ⟨hp, g, dr, tk, os⟩ := s1
    refine wpAny_call (made FB SF T I1.kIn hlim (by have := hr.dp; omega) fun h' tk' e d M => ?_)
    show MkP X pins σ Q (.ref e) ⟨h', g, dr, tk', os⟩
    obtain ⟨t1, hoe⟩ := M.obj
    have hns := M.ns
    obtain ⟨G', g1, g2⟩ := restrict h' fun b => decide (b ≠ e)
    have gk : ∀ b, b ≠ e → G'.get? b = h'.get? b := fun b hb => g1 b (decide_eq_true hb)
    have ge : G'.get? e = none := g2 e (by simp)
    have old : ∀ b o, hp.get? b = some o → G'.get? b = some o := fun b o q => (gk b (Nat.ne_of_lt (Nat.lt_of_lt_of_le (Heap.lt_size q) M.new))).trans (M.keep b o q)
    have ob : ObjOk X.prog X.w (upd H1 d (.xd [(("step" : Str), v)])) G' d (.xd [(("step" : Str), v)]) :=
      ⟨_, hns.at (fun o q => (gk d M.ne).trans q), fun f => relO_f rv f⟩
    have J : Inv X pins σ (upd H1 d (.xd [(("step" : Str), v)])) ⟨G', g, dr, tk', os⟩ := I1.laid (t' := tk') old M.big ob
    refine ⟨e, _, _, ⟨G', g, dr, tk', os⟩, _, .ref C, some d, rfl, J, fun b o q => ?_, ge, hoe, ⟨rfl, rfl⟩, rfl, rfl, ?_, rfl, I1.bare, raises_own T.exC T.tyC, q1 d (I1.hok.fresh M.big)⟩
    · by_cases hb : b = e
      · have q' : G'.get? b = some o := q
        rw [hb, ge] at q'; cases q'
      · exact (gk b hb).symm.trans q
    · rw [upd_ne (Ne.symm M.ne)]
      exact I1.hok.fresh M.new
end
end XP
end GDX
namespace GD
open PySem PySem.Spec PyProof.Rows L2 GDX
section
variable {X : Cx} {W : WX} {a : Expr} {ta : TA} {C fI : Addr} {nm : Str} {p pos pos2 : Pos} {k : Nat}
abbrev mroVE : List Value := [.type "ValueError", .type "Exception", .type "BaseException", .type "object"]
theorem tail_VE : PySem.W.excTail mroVE mroVE = true := by rfl
theorem ps_rzVlimit (T : XL.XT X.K X.mg nm mroVE "ValueError.__new__" C fI) (hc : X.calm = true) (hr : Room k X.A) (tk : Takes X W) (ha : PA X [a] ta) (hg : Gl X nm) (hdb : (nm == ("__debug__" : Str)) = false := by decide)
    (he : starEach (a :: []) X.env = (false, eval a X.env) :: starEach [] X.env := by rfl) (hpl : (backTo pos (starEach [] X.env)).any (·.1) = false := by rfl) :
    PS X (.Raise (some (.Call (.Name nm p) [a] [] pos)) none pos2) (tRz C "limit" ta W) := ps_raise hc tk (XL.pmk PySem.F.excBase_ValueError PySem.F.store_ValueError T hr ha hg hdb he hpl)
end
end GD

set_option maxHeartbeats 2000000
namespace GD
open PySem PySem.Spec PyProof.Rows L2 GDX
def YEnd (K : PySem.W.Frag) (F : Frm) (env : En) (σ : L2.St) (H : Hp) (env' : En) (W : WX) (Dn : Ends) : FlX → Prop
  | .fl f => SEnd K F env σ H env' Dn f
  | .rs nm f d => ∀ (C : Addr) (v : V) (σ' : L2.St) (H' : Hp) (dx : Addr), PySem.W.nsIn K mainGlobals nm = some (some (.ref C)) → StOk K F T0 H' env' σ' → Stq env σ H env' σ' H' → Rp K (Ow F T0 env' σ') H' v d → (f = ("" : Str) ∨ H' dx = none) →
    W (.ref C) (xDx f dx) σ' (xH f H' dx v)
def ISY (K : PySem.W.Frag) (t : WX → TS) (f : EvSX) : Prop := ∀ F env σ H fl env', StOk K F T0 H env σ → f env = some (fl, env') → ∀ (W : WX) (Dn : Ends), YEnd K F env σ H env' W Dn fl → t W Dn σ H
section
variable {K : PySem.W.Frag} {t u : WX → TS} {f g : EvSX}
theorem YEnd.pre {F : Frm} {env env1 env' : En} {σ σ1 : L2.St} {H H1 : Hp} {W : WX} {Dn : Ends} {fl : FlX} (h : YEnd K F env σ H env' W Dn fl) (b : Stq env σ H env1 σ1 H1) : YEnd K F env1 σ1 H1 env' W Dn fl := by
  cases fl with
  | fl f => exact SEnd.pre h b
  | rs nm f d => exact fun C v σ' H' dx hC S q r n => h C v σ' H' dx hC S (b.trans q) r n
theorem isx_y (h : ISY K t f) : ISX K t f := by
  intro F env σ H fl env' S e W Dn k
  refine h F env σ H fl env' S e W Dn ?_
  cases fl with
  | fl f => exact k
  | rs nm f d => exact fun C v σ' H' dx hC S q r n => k C v σ' H' dx hC S r n
theorem isy_of {t : TS} {f : EvS} (h : IS K t f) : ISY K (fun _ => t) (sOf f) := by
  intro F env σ H fl env' S e W Dn k
  simp only [sOf, Option.map_eq_some_iff] at e
  obtain ⟨⟨f0, e1⟩, a1, a2⟩ := e
  cases a2
  exact h F env σ H f0 _ S a1 Dn k
theorem isy_seq (h1 : ISY K t f) (h2 : ISY K u g) : ISY K (fun W => tSeq (t W) (u W)) (sxSeq f g) := by
  intro F env σ H fl env' S e W Dn k
  simp only [sxSeq, Option.bind_eq_some_iff] at e
  obtain ⟨⟨f0, e1⟩, a1, a2⟩ := e
  match f0, a2 with
  | .fl .nx, a2 => exact h1 F env σ H _ e1 S a1 W _ fun σ' H' S' q => h2 F e1 σ' H' fl env' S' a2 W Dn (k.pre q)
  | .fl .bk, a2 => cases a2; exact h1 F env σ H _ e1 S a1 W _ k
  | .fl .ct, a2 => cases a2; exact h1 F env σ H _ e1 S a1 W _ k
  | .fl (.rt r), a2 => cases a2; exact h1 F env σ H _ e1 S a1 W _ k
  | .rs nm f d, a2 => cases a2; exact h1 F env σ H _ e1 S a1 W _ k
theorem isy_if {c : TT} {fc : EvT} (hc : IT K c fc) (h1 : ISY K t f) (h2 : ISY K u g) : ISY K (fun W => tIfS c (t W) (u W)) (sxIf fc f g) := by
  intro F env σ H fl env' S e W Dn k
  simp only [sxIf, Option.bind_eq_some_iff] at e
  obtain ⟨⟨b, e1⟩, a1, a2⟩ := e
  refine hc F T0 env σ H b e1 S a1 _ fun H1 S1 s1 => ?_
  cases b with
  | true =>
    rw [if_pos rfl] at a2
    rw [if_pos rfl]
    exact h1 F e1 σ H1 fl env' S1 a2 W Dn (k.pre s1.q)
  | false =>
    rw [if_neg Bool.false_ne_true] at a2
    rw [if_neg Bool.false_ne_true]
    exact h2 F e1 σ H1 fl env' S1 a2 W Dn (k.pre s1.q)
theorem isy_rz {C : Addr} {nm fd : Str} {ta : TA} {fa : EvA} (hC : PySem.W.nsIn K mainGlobals nm = some (some (.ref C))) (h : IA K ta fa) (hf : fd ≠ ("" : Str) := by decide +kernel) : ISY K (tRz C fd ta) (sxRz nm fd fa) := by
  intro F env σ H fl env' S e W Dn k
  simp only [sxRz, Option.bind_eq_some_iff] at e
  obtain ⟨⟨l, e1⟩, a1, a2⟩ := e
  match l, a2 with
  | [r], a2 =>
    simp only [Option.map_eq_some_iff] at a2
    obtain ⟨d, a3, a4⟩ := a2
    cases a4
    refine h F T0 env σ H _ _ S a1 _ fun vs H1 S1 s1 rv => ?_
    match vs, rv with
    | [v], ⟨rv, _⟩ => exact ⟨v, rfl, fun dx nd => by have z := k C v σ H1 dx hC S1 s1.q (rk_ok S1 rv a3) (.inr nd); rwa [xDx_ne hf, xH_ne hf] at z⟩
end
inductive ER where
  | v (d : D)
  | rs (nm f : Str) (d : D)
abbrev EvER := En → Option (ER × En)
def EREnd (K : PySem.W.Frag) (F : Frm) (env : En) (σ : L2.St) (H : Hp) (env' : En) (W : WX) (Q : VK) : ER → Prop
  | .v d => ∀ x H', StOk K F T0 H' env' σ → Stp env σ H env' H' → Rp K (Ow F T0 env' σ) H' x d → Q x H'
  | .rs nm f d => ∀ (C : Addr) (v : V) (H' : Hp) (dx : Addr), PySem.W.nsIn K mainGlobals nm = some (some (.ref C)) → StOk K F T0 H' env' σ → Stp env σ H env' H' → Rp K (Ow F T0 env' σ) H' v d → (f = ("" : Str) ∨ H' dx = none) → W (.ref C) (xDx f dx) σ (xH f H' dx v)
def IER (K : PySem.W.Frag) (t : WX → TE) (f : EvER) : Prop := ∀ F env σ H r env', StOk K F T0 H env σ → f env = some (r, env') → ∀ (W : WX) (Q : VK), EREnd K F env σ H env' W Q r → t W σ H Q
def xCallX (M : FnX) (gR : List R → List R → List R) (fa fk : EvA) : EvER := fun env => (fa env).bind fun p => (fk p.2).bind fun q => (rkA q.2 (gR p.1 q.1)).bind fun ds => (M ds).map fun rx => (match rx with
  | .ret d => ER.v d
  | .rs nm f d => ER.rs nm f d, q.2)
def tCXS (sp : Sp) (dvs : List V) (W : WX) (t : TA) : TE := fun σ H Q => t σ H fun vs H1 => sp (vs ++ dvs) H1 Q (WE W σ)
section
variable {K : PySem.W.Frag} {k : Nat} {M : FnX} {gV : List V → List V → List V} {gR : List R → List R → List R} {ta tk : TA} {fa fk : EvA}
theorem spX_in {F : Frm} {env e2 : En} {σ : L2.St} {H H2 : Hp} {vs : List V} {l : List R} {ds : List D} {rx : RX} {W : WX} {Q : VK} (S2 : StOk K F T0 H2 e2 σ) (st : Stp env σ H e2 H2) (rr : RvAll K F T0 H2 e2 σ vs l) (len : l.length = k) (a3 : rkA e2 l = some ds) (a4 : M ds = some rx)
    (kk : EREnd K F env σ H e2 W Q (match rx with | .ret d => ER.v d | .rs nm f d => ER.rs nm f d)) : spX K k M vs H2 Q (WE W σ) := by
  have rp := rkA_ok S2 rr a3
  refine ⟨Ow F T0 e2 σ, ds, rx, rr.len.trans len, fun a h => S2.olive h, rp, a4, fun d hr v H3 x rd => ?_, fun nm f d hr C v H3 dx hC x nd rd => ?_⟩
  · subst hr
    exact kk v H3 (S2.lay x) (st.trans (Stp.lay x)) rd
  · subst hr
    exact kk C v H3 dx hC (S2.lay x) (st.trans (Stp.lay x)) rd nd
theorem ier_callK (ha : IA K ta fa) (hk : IA K tk fk)
    (hp : ∀ {F : Frm} {T : Addr → Prop} {H : Hp} {env : En} {σ : L2.St} {vs us : List V} {l w : List R}, RvAll K F T H env σ vs l → RvAll K F T H env σ us w → RvAll K F T H env σ (gV vs us) (gR l w))
    (hlen : ∀ env l e1 w e2, fa env = some (l, e1) → fk e1 = some (w, e2) → (gR l w).length = k) : IER K (fun W => tCKS (spX K k M) gV W ta tk) (xCallX M gR fa fk) := by
  intro F env σ H r env' S e W Q kk
  simp only [xCallX, Option.bind_eq_some_iff, Option.map_eq_some_iff] at e
  obtain ⟨⟨l, e1⟩, a1, ⟨w, e2⟩, a2, ds, a3, rx, a4, a5⟩ := e
  cases a5
  refine ha F T0 env σ H l e1 S a1 _ fun vs H1 S1 s1 rv => ?_
  refine hk F T0 e1 σ H1 w e2 S1 a2 _ fun us H2 S2 s2 rw2 => ?_
  exact spX_in S2 (s1.trans s2) (hp (rv.stp s2) rw2) (hlen _ _ _ _ _ a1 a2) a3 a4 (by cases rx <;> exact kk)
def gR0 (l _w : List R) : List R := l
theorem ier_call (ha : IA K ta fa) (hlen : lenOk k fa) : IER K (fun W => tCXS (spX K k M) [] W ta) (xCallX M gR0 fa aNil) := by
  intro F env σ H r env' S e W Q kk
  simp only [xCallX, aNil, gR0, Option.bind_eq_some_iff, Option.map_eq_some_iff] at e
  obtain ⟨⟨l, e1⟩, a1, ⟨w, e2⟩, a2, ds, a3, rx, a4, a5⟩ := e
  cases a2
  cases a5
  refine ha F T0 env σ H l e1 S a1 _ fun vs H1 S1 s1 rv => ?_
  rw [List.append_nil]
  exact spX_in S1 s1 rv (hlen _ _ _ a1) a3 a4 (by cases rx <;> exact kk)
end
section
variable {K : PySem.W.Frag} {te : WX → TE} {fe : EvER}
def sxDrop (fe : EvER) : EvSX := fun env => (fe env).map fun p => (match p.1 with
  | .v _ => FlX.fl .nx
  | .rs nm f d => .rs nm f d, p.2)
theorem isy_drop (h : IER K te fe) : ISY K (fun W => tDrop (te W)) (sxDrop fe) := by
  intro F env σ H fl env' S e W Dn k
  simp only [sxDrop, Option.map_eq_some_iff] at e
  obtain ⟨⟨r, e1⟩, a1, a2⟩ := e
  cases a2
  refine h F env σ H r e1 S a1 W _ ?_
  cases r with
  | v d => exact fun x H' S' st rx => k σ H' S' st.q
  | rs nm f d => exact fun C v H' dx hC S' st rv nd => k C v σ H' dx hC S' st.q rv nd
end
def sTryG (fb : EvSX) (nms : List Str) (i : Nat) (fs : EvS) : EvS := fun env => (fb env).bind fun p => match p.1 with
  | .fl f => some (f, p.2)
  | .rs nm f d => if nms.contains nm = true then (fs (p.2.set i (some (.shr (excD nm f d))))).bind fun r => match r.1 with
    | .nx => some (.nx, r.2.set i none)
    | .rt (.val d) => some (.rt (.val d), r.2.set i none)
    | _ => none
    else none
theorem is_tryG {K : PySem.W.Frag} {cs : List Value} {i : Nat} {nms : List Str} {tb : WX → TS} {fb : EvSX} {ts : TS} {fs : EvS} (hb : ISY K tb fb) (hs : IS K ts fs)
    (hc : ∀ nm C, nms.contains nm = true → PySem.W.nsIn K mainGlobals nm = some (some (.ref C)) → PySem.W.exmAny K (.ref C) cs = some true) :
    IS K (fun D σ H => tb (wTrN K cs i ts D) D σ H) (sTryG fb nms i fs) := by
  intro F env σ H fl env' S e Dn hD
  simp only [sTryG, Option.bind_eq_some_iff] at e
  obtain ⟨⟨fl0, e2⟩, a1, a5⟩ := e
  refine hb F env σ H fl0 e2 S a1 _ Dn ?_
  cases fl0 with
  | fl f0 => cases a5; exact hD
  | rs nm f d =>
    intro C v σ2 H3 dx hC S3 st0 rd nd
    dsimp only at a5
    split at a5
    case isFalse => cases a5
    case isTrue hn =>
    simp only [Option.bind_eq_some_iff] at a5
    obtain ⟨⟨fl1, e3⟩, a6, a7⟩ := a5
    refine ⟨hc nm C hn hC, fun a na => ?_⟩
    have y1 : Ext (fun _ => False) H3 (xH f H3 dx v) := xH_ext nd
    have y2 : Ext (fun _ => False) (xH f H3 dx v) (upd (xH f H3 dx v) a (XO (.ref C) (xDx f dx) a)) := Ext.new na
    have S4 := S3.lay y1
    have S5 := S4.lay y2
    have kp := fun b o (q : H3 b = some o) => y2.same b o (y1.same b o q id) id
    have hdx : f = ("" : Str) ∨ (upd (xH f H3 dx v) a (XO (.ref C) (xDx f dx) a)) dx = some (.xd [(f, v)]) := (xH_at f H3 dx v).imp id fun z => y2.same dx _ z id
    have na' : ¬ Ow F T0 e2 σ2 a := fun q => S4.olive q na
    have nd' : f = ("" : Str) ∨ ¬ Ow F T0 e2 σ2 dx := nd.imp id fun nd q => S3.olive q nd
    have hexc : Rp K (Ow F T0 e2 σ2) (upd (xH f H3 dx v) a (XO (.ref C) (xDx f dx) a)) (.ref a) (excD nm f d) := .exc hC upd_same na' hdx nd' (rd.tr (fun _ _ _ n => n) fun b o _ q => kp b o q)
    generalize hH5 : upd (xH f H3 dx v) a (XO (.ref C) (xDx f dx) a) = H5 at *
    have st5 : Stq env σ H e2 σ2 H5 := (st0.trans (Stp.lay y1).q).trans (Stp.lay y2).q
    refine hs F _ _ H5 fl1 e3 (S5.setS hexc) a6 _ ?_
    have fin : ∀ {T' : Addr → Prop} {σ' : L2.St} {H' : Hp}, StOk K F T' H' e3 σ' → StOk K F T' H' (e3.set i none) (σ'.set i none) := fun S' => S'.re (by rw [List.length_set, List.length_set]; exact S'.len) (gone_re i)
    match fl1, a7 with
    | .nx, a7 =>
      cases a7
      exact fun σ' H' S' q => hD _ H' (fin S') ((st5.trans S5.setS_q).trans (q.trans ⟨Ext.refl, fun b hb => .inl (wr_re (gone_re i) b hb)⟩))
    | .rt (.val r), a7 =>
      cases a7
      exact fun v' σ' H' hr => hD v' (σ'.set i none) H' ⟨fin hr.1, hr.2.anti fun b hb => hb.imp id (.imp id (wr_re (gone_re i) b))⟩
    | .rt (.new m), a7 => cases a7
    | .bk, a7 => cases a7
    | .ct, a7 => cases a7
end GD

set_option maxHeartbeats 2000000
namespace GD
open PySem PySem.Spec PyProof.Rows L2 GDX
section
variable {X : Cx} {W : WX} {k : Nat} {f : Addr} {fd : FuncData} {ps : List Str} {sp : Sp} {dvs : List V} {ds : List Value} {x : Str} {p pos : Pos} {e : Expr} {es : List Expr} {t : TA}
theorem run_gXS {pins : List (Addr × Obj)} {σ : L2.St} {H : Hp} {s : Shared} {Q : VK} {us : List Value} {vs : List V} (F : FnG X.prog X.w X.K X.mg X.base (L2.CX X.prog X.w) k f fd ps sp) (hgd : X.A.guards = some []) (hr : Room k X.A) (hb : Binds X.K fd ps ds) (hd : Vals dvs ds)
    (tkW : Takes X W) (I : Inv X pins σ H s) (r : Vals vs us) (h : sp (vs ++ dvs) H Q (WE W σ)) : wpAny (model X.prog X.w) X.A (call (.ref f) us) (EP X pins σ Q) X.xe s := by
  have r2 : Vals (vs ++ dvs) (us ++ ds) := Vals.append r hd
  have hl : (us ++ ds).length = ps.length := (Vals.length r2).symm.trans (F.len _ _ _ _ h)
  refine wpAny_call (codeAny_mono (F.run X.A X.stack s H ⟨us, []⟩ (us ++ ds) (vs ++ dvs) Q (WE W σ) hgd hr I.env0 (hb s us I.kIn hl) r2 h) fun r s' hq => ?_)
  match r, hq with
  | .error er, hq => exact passAt tkW σ pins H s er s' I hq
  | .ok (.ret u), hq => exact I.after hq
  | .ok .next, hq => exact (show False from hq).elim
  | .ok .brk, hq => exact (show False from hq).elim
  | .ok .cont, hq => exact (show False from hq).elim
theorem pe_callXS (F : FnG X.prog X.w X.K X.mg X.base (L2.CX X.prog X.w) k f fd ps sp) (hgd : X.A.guards = some []) (hr : Room k X.A) (hg : Gl X x)
    (hm : X.mg x = some (.ref f)) (hk : PySem.W.keepIn X.K (.ref f) = true) (hb : Binds X.K fd ps ds) (hd : Vals dvs ds) (tkW : Takes X W)
    (ha : PA X (e :: es) t) (hdb : (x == ("__debug__" : Str)) = false := by decide)
    (he : starEach (e :: es) X.env = (false, eval e X.env) :: starEach es X.env := by rfl)
    (hpl : (backTo pos (starEach es X.env)).any (·.1) = false := by rfl) :
    PE X (.Call (.Name x p) (e :: es) [] pos) (tCXS sp dvs W t) := by
  constructor
  intro pins s σ H Q I h
  refine wpAny_Call_Name_kw (ld_glob I hg hm ?_ hdb)
  refine PySem.W.callWith_K (h₀ := X.base) I.ok.mod.kin hk (thn (ha.run pos pins s σ H _ I h) ?_) he hpl
  rintro us s1 ⟨vs, H1, I1, r, q⟩
  exact ⟨I1.kIn, run_gXS F hgd hr hb hd tkW I1 r q⟩
end
section
variable {K : PySem.W.Frag}
theorem kitAny0 {t : Value} : PySem.W.kitAny K t [] = some false := rfl
theorem kitAnyC {t c : Value} {cs : List Value} {b r : Bool} (h : PySem.W.kitOne K t c = some b) (hr : PySem.W.kitAny K t cs = some r) : PySem.W.kitAny K t (c :: cs) = some (b || r) := by
  unfold PySem.W.kitAny
  rw [h]
  cases b with
  | true => rfl
  | false => exact hr
theorem exm0 {t : Value} : PySem.W.exmAny K t [] = some false := rfl
theorem exmC {t c : Value} {cs : List Value} {b r : Bool} (h : PySem.W.exmOne K t c = some b) (hr : PySem.W.exmAny K t cs = some r) : PySem.W.exmAny K t (c :: cs) = some (b || r) := by
  rw [PySem.W.exmAny, h, hr]
end
end GD
namespace GD
open PySem PySem.Spec PySem.W PyProof.Rows
section
variable {K : PySem.W.Frag} {nm q : Str} {C N : Addr} {bs bm bmB : List Value} {sn : List Str} {sub : List Value} {ab : Bool} {col : Option Bool} {dd : Option Addr} {k0 k1 k2 k3 k5 : Option Value} {newId : String}
theorem ini_of2 (ht : excTail bmB bm = true) (h : K.lookup C = some (excClassObj nm q C N bs bm true sn sub ab col dd k0 k1 k2 k3 k5 newId)) : excInitIn K C bmB newId = true := by
  unfold excInitIn
  rw [h]
  show (C == C && newId == newId && !false && excTail bmB bm) = true
  rw [ht]
  simp
theorem ov_of2 (ht : excTail bmB bm = true) (h : K.lookup C = some (excClassObj nm q C N bs bm true sn sub ab col dd k0 k1 k2 k3 k5 newId)) : excOver K C bmB = true := by
  have hc : clsIn K C = some { name := nm, bases := bs, mro := .ref C :: bm, ns := N, qualname := q, hasDict := true, slotNames := sn, subclasses := sub, abstract := ab, collection := col, hasDel := false } := by
    unfold clsIn
    rw [h] <;> rfl
  unfold excOver
  rw [hc]
  show (C == C && excTail bmB bm) = true
  rw [ht]
  simp
theorem tail_TE {c : Addr} : excTail mroVE (.ref c :: mroVE) = true := tail_VE
end
end GD
namespace GD
open PySem PySem.Spec PyProof.Rows L2 GDX
section
variable {f g : EvSX} {fb : EvSX} {fs : EvS} {fa fk : EvA} {fw : EvW} {tg : D → En → Option En} {fe : EvER} {env e : En} {nm n fd : Str} {d : D} {r : R} {rt : Ret} {l w : List R} {M : FnX} {nms : List Str} {gR : List R → List R → List R} {i j : Nat} {ds : List D} {rx : RX} {fl : Fl}
def cxR4 (e : En) : Option RX → Option (ER × En)
  | some (.ret d) => some (.v d, e)
  | some (.rs nm f d) => some (.rs nm f d, e)
  | none => none
def cxR3 (M : FnX) (e : En) : Option (List D) → Option (ER × En)
  | some ds => cxR4 e (M ds)
  | none => none
def cxR2 (M : FnX) (gR : List R → List R → List R) (l : List R) : Option (List R × En) → Option (ER × En)
  | some (w, e) => cxR3 M e (rkA e (gR l w))
  | none => none
def cxR (M : FnX) (gR : List R → List R → List R) (fk : EvA) : Option (List R × En) → Option (ER × En)
  | some (l, e) => cxR2 M gR l (fk e)
  | none => none
theorem q_cx : xCallX M gR fa fk env = cxR M gR fk (fa env) := by
  unfold xCallX cxR
  cases fa env with
  | none => rfl
  | some p =>
    obtain ⟨l, e⟩ := p
    simp only [Option.bind_some]
    unfold cxR2
    cases fk e with
    | none => rfl
    | some q =>
      obtain ⟨w, e2⟩ := q
      simp only [Option.bind_some]
      unfold cxR3
      cases rkA e2 (gR l w) with
      | none => rfl
      | some ds =>
        simp only [Option.bind_some]
        unfold cxR4
        cases M ds with
        | none => rfl
        | some rx => cases rx <;> rfl
theorem q_cx1 : cxR M gR fk (some (l, e)) = cxR2 M gR l (fk e) := rfl
theorem q_cx2 : cxR2 M gR l (some (w, e)) = cxR3 M e (rkA e (gR l w)) := rfl
theorem q_cx3 : cxR3 M e (some ds) = cxR4 e (M ds) := rfl
theorem q_cx4 : cxR4 e (some (.ret d)) = some (.v d, e) := rfl
theorem q_cx5 : cxR4 e (some (.rs nm fd d)) = some (.rs nm fd d, e) := rfl
theorem q_gR0 : gR0 l w = l := rfl
def dropXR : Option (ER × En) → Option (FlX × En)
  | some (.v _, e) => some (.fl .nx, e)
  | some (.rs nm f d, e) => some (.rs nm f d, e)
  | none => none
theorem q_dropX : sxDrop fe env = dropXR (fe env) := by
  unfold sxDrop dropXR
  cases fe env with
  | none => rfl
  | some p => obtain ⟨r, e⟩ := p; cases r <;> rfl
theorem q_dropX1 : dropXR (some (.v d, e)) = some (.fl .nx, e) := rfl
theorem q_dropX2 : dropXR (some (.rs nm fd d, e)) = some (.rs nm fd d, e) := rfl
def tgR (nms : List Str) (i : Nat) (fs : EvS) : Option (FlX × En) → Option (Fl × En)
  | some (.fl f, e) => some (f, e)
  | some (.rs nm f d, e) => if nms.contains nm = true then tryR5 i (fs (e.set i (some (.shr (excD nm f d))))) else none
  | none => none
theorem q_tg : sTryG fb nms i fs env = tgR nms i fs (fb env) := by
  unfold sTryG tgR
  cases fb env with
  | none => rfl
  | some p =>
    obtain ⟨fl0, e2⟩ := p
    cases fl0 with
    | fl f => rfl
    | rs nm fd d =>
      simp only [Option.bind_some]
      split
      · unfold tryR5
        cases fs (e2.set i (some (.shr (excD nm fd d)))) with
        | none => rfl
        | some r =>
          obtain ⟨fl, e3⟩ := r
          match fl with
          | .nx => rfl
          | .bk => rfl
          | .ct => rfl
          | .rt (.val d) => rfl
          | .rt (.new m) => rfl
      · rfl
theorem q_tg1 : tgR nms i fs (some (.fl fl, e)) = some (fl, e) := rfl
theorem q_tg2 (h : nms.contains nm = true) : tgR nms i fs (some (.rs nm fd d, e)) = tryR5 i (fs (e.set i (some (.shr (excD nm fd d))))) := if_pos h
end
end GD

namespace GD
open PySem PySem.Spec PyProof.Rows L2 GDX
def tTryG (K : PySem.W.Frag) (cs : List Value) (i : Nat) (tb : WX → TS) (ts : TS) : TS := fun D σ H => tb (wTrN K cs i ts D) D σ H
section
variable {X : Cx} {x1 n : Str} {c1 : Value} {cs : List Value} {elts : List Expr} {i kk : Nat} {body suite : List Stmt} {b₀ : Stmt} {p1 tp pos pos' : Pos} {tb : WX → TS} {ts : TS}
theorem ps_tryG (hs : X.stack = X.env :: X.outer) (hf : X.env.frame = some X.env.locals) (hex : X.ex = []) (hN : X.N.Nodup) (hi : X.N[i]? = some n) (hln : X.env.kindOf n = some .local) (hcs : cs.length ≤ 20) (nn : NamesEx X elts cs)
    (hb : ∀ (W : WX) (pn : List (Addr × Obj)) (xe : Value → Shared → Prop), Takes (X.tr pn xe) W → PassesOwn (model X.prog X.w) X.A X.env xe → PSs (X.tr pn xe) body (tb W))
    (hsu : ∀ (a : Addr) (pn : List (Addr × Obj)), PSs (X.suite a pn) (b₀ :: suite) ts) :
    PS X (.Try body [.ExceptHandler (some (.Tuple elts kk tp)) (some n) (b₀ :: suite) pos'] [] [] pos) (tTryG X.K cs i tb ts) := ps_tryN hs hf hex hN hi hln hcs nn hb hsu
end
theorem is_tG {K : PySem.W.Frag} {cs : List Value} {i : Nat} {nms : List Str} {tb : WX → TS} {fb : EvSX} {ts : TS} {fs : EvS} (hb : ISY K tb fb) (hs : IS K ts fs)
    (hc : ∀ nm C, nms.contains nm = true → PySem.W.nsIn K mainGlobals nm = some (some (.ref C)) → PySem.W.exmAny K (.ref C) cs = some true) :
    IS K (tTryG K cs i tb ts) (sTryG fb nms i fs) := is_tryG hb hs hc
end GD

namespace GD
open PySem PySem.Spec PyProof.Rows L2 GDX
def runY (n : Nat) (b : EvSX) : FnX := fun ds => (b (env0 n (ds.map Sl.shr))).bind fun p => match p.1 with
  | .fl (.rt (.val d)) => some (.ret d)
  | .fl (.rt (.new m)) => some (.ret m.toD)
  | .fl .nx => some (.ret .none)
  | .rs nm f d => some (.rs nm f d)
  | _ => none
section
variable {K : PySem.W.Frag}
theorem body_okY {t : WX → TS} {b : EvSX} {N : List Str} {vs : List V} {H : Hp} {Q : VK} {E : XK} {k : Nat} (hb : ISX K t b) (h : spX K k (runY N.length b) vs H Q E) :
    t (fun cls d _ H => E cls d H) { nx := fun _ H' => Q .non H', rt := Q } (L2.start N vs) H := by
  obtain ⟨O, ds, rx, hl, hO, r, hm, q1, q2⟩ := h
  simp only [runY, Option.bind_eq_some_iff] at hm
  obtain ⟨⟨fl, env'⟩, h1, h2⟩ := hm
  have x : ∀ {T' : Addr → Prop} {H' : Hp} {e' : En} {σ' : L2.St}, StOk K ⟨O, fun _ => False, H, vs⟩ T' H' e' σ' → Ext (fun _ => False) H H' := fun S => S.ext
  refine hb ⟨O, fun _ => False, H, vs⟩ _ _ H fl env' (start_ok hO r) h1 _ _ ?_
  match fl, h2 with
  | .fl .nx, h2 =>
    cases h2
    exact fun σ' H' S' _ => q1 _ rfl _ _ (x S') .non
  | .fl (.rt (.val d)), h2 =>
    cases h2
    exact fun v σ' H' hr => q1 _ rfl _ _ (x hr.1) (hr.2.anti fun a h => .inl h)
  | .fl (.rt (.new m)), h2 =>
    cases h2
    intro v σ' H' hr
    obtain ⟨p, T', rfl, n0, S, _, mu⟩ := hr
    exact q1 _ rfl _ _ (x S) ((mu.tr (O' := O) (fun a _ _ n q => n (.inl q)) (fun _ _ _ e => e) (fun _ e => e)).rp fun q => hO p q n0)
  | .rs nm f d, h2 =>
    cases h2
    exact fun C v σ' H' dx hC S' rv nd => q2 _ _ _ rfl C v H' dx hC (x S') nd (rv.anti fun a h => .inl h)
  | .fl .bk, h2 => cases h2
  | .fl .ct, h2 => cases h2
end
theorem fnY {P : Program} {w : World} {K : PySem.W.Frag} {mg : Str → Option Value} {base : Heap} {x qual : Str} {st : Stmt} {f : Addr} {fd : FuncData} {N ps : List Str} {k : Nat} {b : EvSX} (F : Fun K x qual st f fd) (S : FnScope N ps (defScope st))
    (hbody : ∀ (cdv : Value) (A : Around) (outer : List Env) (s : Shared) (H : Hp) (E : XK), A.guards = some [] → Room k (A.deeper (envOfC qual (defScope st) s.heap.objs.size f cdv)) →
      ∃ t : WX → TS, (∀ W, Takes (cxOf (L2.CX P w) P w K mg base N qual (defScope st) f cdv A outer s H E) W → PSs (cxOf (L2.CX P w) P w K mg base N qual (defScope st) f cdv A outer s H E) (defBody st) (t W)) ∧ ISX K t b) : FnG P w K mg base (L2.CX P w) (k + 1) f fd ps (spX K ps.length (runY N.length b)) := by
  obtain ⟨oc, od, kV, doc, pm, an, cdv, ct, osl, rfl, lk, hcd⟩ := F.ex
  refine fn_ofG lk hcd S (fun vs H Q E h => ?_) fun A outer s H vs Q E hg hr h => ?_
  · obtain ⟨O, ds, rx, hl, _⟩ := h
    exact hl
  · obtain ⟨t, h1, h2⟩ := hbody cdv A outer s H E hg hr
    exact ⟨_, h1 _ (takes_of rfl rfl rfl rfl), body_okY h2 h⟩
section
variable {e : En} {ds : List D} {d : D} {nm fd : Str} {m : Mu}
def runYR : Option (FlX × En) → Option RX
  | some (.fl (.rt (.val d)), _) => some (.ret d)
  | some (.fl (.rt (.new m)), _) => some (.ret m.toD)
  | some (.fl .nx, _) => some (.ret .none)
  | some (.rs nm f d, _) => some (.rs nm f d)
  | _ => none
theorem q_runY {m : Nat} {bx : EvSX} : runY m bx ds = runYR (bx (env0 m (ds.map Sl.shr))) := by
  unfold runY
  cases bx (env0 m (ds.map Sl.shr)) with
  | none => rfl
  | some p =>
    obtain ⟨q, e⟩ := p
    match q with
    | .fl .nx => rfl
    | .fl .bk => rfl
    | .fl .ct => rfl
    | .fl (.rt (.val d)) => rfl
    | .fl (.rt (.new m)) => rfl
    | .rs a b c => rfl
theorem q_runY1 : runYR (some (.fl (.rt (.val d)), e)) = some (.ret d) := rfl
theorem q_runY2 : runYR (some (.fl .nx, e)) = some (.ret .none) := rfl
theorem q_runY3 : runYR (some (.rs nm fd d, e)) = some (.rs nm fd d) := rfl
theorem q_runY4 : runYR (some (.fl (.rt (.new m)), e)) = some (.ret m.toD) := rfl
end
end GD

set_option maxHeartbeats 2000000
namespace GD
open PySem PySem.Spec PyProof.Rows L2 GDX
def P1 (w : Str) (xs : List V) (x : V) : Prop := xs = [.str w, x]
abbrev FnM := List D → Option (Sum D Mu)
section
variable {K : PySem.W.Frag}
end
section
variable {fa : EvA} {dds : List D} {fm : EvM} {f2 f3 : EvS} {env e : En} {l : List R} {ds es : List D} {d : D} {m : Mu} {M : FnM} {j k : Nat} {w s : Str} {b : EvS}
end
end GD
namespace GD
open PySem PySem.Spec PyProof.Rows L2
end GD

namespace GD
open PySem PySem.Spec PyProof.Rows L2
section
variable {K : PySem.W.Frag}
end
end GD

namespace GD
open PySem PySem.Spec PyProof.Rows L2
end GD

namespace GD
open PySem PySem.Spec PyProof.Rows L2 PySem.SeqAt
mutual
inductive RdsD (h : Heap) : Value → PyData → Prop
  | base {v : Value} {d : PyData} {as : List Addr} : Reads h v d as → (d.hasDict = true → sysModules ∉ as) → RdsD h v d
  | list {a : Addr} {o : Obj} {vs : Array Value} {n : Nat} {xs : List PyData} : h.get? a = some o → o.cls = .type "list" → o.data = .seq vs n → RdsDAll h vs.toList xs → RdsD h (.ref a) (.list xs)
  | tuple {a : Addr} {o : Obj} {vs : Array Value} {n : Nat} {xs : List PyData} : h.get? a = some o → o.cls = .type "tuple" → o.data = .seq vs n → RdsDAll h vs.toList xs → RdsD h (.ref a) (.tuple xs)
inductive RdsDAll (h : Heap) : List Value → List PyData → Prop
  | nil : RdsDAll h [] []
  | cons {v : Value} {vs : List Value} {d : PyData} {ds : List PyData} : RdsD h v d → RdsDAll h vs ds → RdsDAll h (v :: vs) (d :: ds)
end
mutual
theorem RdsD.rd {h : Heap} : ∀ {v : Value} {d : PyData}, RdsD h v d → ∃ as, Reads h v d as
  | _, _, .base r _ => ⟨_, r⟩
  | _, _, .list h1 h2 h3 h4 => let ⟨_, r⟩ := RdsDAll.rd h4; ⟨_, .list h1 h2 h3 r⟩
  | _, _, .tuple h1 h2 h3 h4 => let ⟨_, r⟩ := RdsDAll.rd h4; ⟨_, .tuple h1 h2 h3 r⟩
theorem RdsDAll.rd {h : Heap} : ∀ {vs : List Value} {ds : List PyData}, RdsDAll h vs ds → ∃ as, ReadsAll h vs ds as
  | _, _, .nil => ⟨_, .nil⟩
  | _, _, .cons r t => let ⟨_, r1⟩ := RdsD.rd r; let ⟨_, r2⟩ := RdsDAll.rd t; ⟨_, .cons r1 r2⟩
end
section
variable {prog : Program} {w : World} {h₀ : Heap}
mutual
theorem reprK_of : ∀ {v : Value} {d : PyData}, RdsD h₀ v d → d.showable = true → d.shown.length ≤ sizeLine → ∃ bs, ReadAtMost h₀ d.depth bs ∧ ReprK prog w bs h₀ d.depth v d.shown
  | _, _, .base r hsm, hs, hz => ReprK.of_reads r hs hsm hz
  | _, _, .list (a := a) (vs := vs) (xs := xs) h1 h2 h3 h4, hs, hz => by
    have hz' : (listText (PyData.shownAll xs)).length ≤ sizeLine := by simpa only [PyData.shown] using hz
    obtain ⟨bs, hb, hk⟩ := reprAllK_of h4 (by simpa [PyData.showable] using hs) (fun t ht => Nat.le_trans (listText_mem_le ht) hz')
    obtain ⟨as, r4⟩ := RdsDAll.rd h4
    have r : Reads h₀ (.ref a) (.list xs) _ := .list h1 h2 h3 r4
    have hna : a ∉ bs := not_mem_of_deeper r (by simp only [PyData.depth]; omega) hb
    refine ⟨a :: bs, ReadAtMost.cons r (by simp only [PyData.depth]; omega) hb, ?_⟩
    simp only [PyData.depth, PyData.shown]
    obtain ⟨l⟩ := vs
    cases l with
    | nil =>
      have h4' : RdsDAll h₀ [] xs := h4
      cases h4'
      simp only [PyData.shownAll, listText_nil]
      exact ReprK.listEmpty h1 h2 h3
    | cons x l => exact ReprK.list h1 h2 h3 hna (by simpa using hk.length_eq) (fun i y e => hk.item i y (by simpa using e))
  | _, _, .tuple (a := a) (vs := vs) (xs := xs) h1 h2 h3 h4, hs, hz => by
    have hz' : (tupleText (PyData.shownAll xs)).length ≤ sizeLine := by simpa only [PyData.shown] using hz
    obtain ⟨bs, hb, hk⟩ := reprAllK_of h4 (by simpa [PyData.showable] using hs) (fun t ht => Nat.le_trans (tupleText_mem_le ht) hz')
    obtain ⟨as, r4⟩ := RdsDAll.rd h4
    have r : Reads h₀ (.ref a) (.tuple xs) _ := .tuple h1 h2 h3 r4
    have hna : a ∉ bs := not_mem_of_deeper r (by simp only [PyData.depth]; omega) hb
    refine ⟨a :: bs, ReadAtMost.cons r (by simp only [PyData.depth]; omega) hb, ?_⟩
    simp only [PyData.depth, PyData.shown]
    exact ReprK.tuple h1 h2 h3 hna hk
theorem reprAllK_of : ∀ {vs : List Value} {ds : List PyData}, RdsDAll h₀ vs ds → PyData.showableAll ds = true → (∀ t ∈ PyData.shownAll ds, t.length ≤ sizeLine) →
    ∃ bs, ReadAtMost h₀ (PyData.depthAll ds) bs ∧ ReprAllK prog w bs h₀ (PyData.depthAll ds) vs (PyData.shownAll ds)
  | _, _, .nil, _, _ => ⟨[], (fun _ h => nomatch h), by simp only [PyData.shownAll]; exact .nil⟩
  | _, _, .cons (d := d) (ds := ds) r rs, hs, hz => by
    have hs' : d.showable = true ∧ PyData.showableAll ds = true := by simpa [PyData.showableAll] using hs
    obtain ⟨b1, hb1, k1⟩ := reprK_of r hs'.1 (hz _ (by simp only [PyData.shownAll]; exact List.mem_cons_self ..))
    obtain ⟨b2, hb2, k2⟩ := reprAllK_of rs hs'.2 (fun t ht => hz t (by simp only [PyData.shownAll]; exact List.mem_cons_of_mem _ ht))
    refine ⟨b1 ++ b2, ?_, ?_⟩
    · intro b hm
      simp only [PyData.depthAll]
      rcases List.mem_append.mp hm with hm | hm
      · obtain ⟨d', as', r', hd'⟩ := hb1 b hm
        exact ⟨d', as', r', Nat.le_trans hd' (Nat.le_max_left _ _)⟩
      · obtain ⟨d', as', r', hd'⟩ := hb2 b hm
        exact ⟨d', as', r', Nat.le_trans hd' (Nat.le_max_right _ _)⟩
    · simp only [PyData.depthAll, PyData.shownAll]
      exact .cons ((k1.more fun b hb => List.mem_append_left _ hb).level_le (Nat.le_max_left _ _)) (k2.more_le (fun b hb => List.mem_append_right _ hb) (Nat.le_max_right _ _))
end
variable {a : Addr} {A : Around} {E : Value → Shared → Prop} {s : Shared} {Q : Value → Shared → Prop}
theorem shows_of {d : PyData} (r : RdsD h₀ (.ref a) d) (hs : d.showable = true) (hsz : d.shown.length ≤ sizeLine) : ∃ T idr, ShowsBy prog w h₀ a d T idr := by
  cases r with
  | base r hsm => exact showsBy_of_reads r hs hsm hsz
  | list h1 h2 h3 h4 =>
    rename_i o vs n xs
    have hz' : (listText (PyData.shownAll xs)).length ≤ sizeLine := by simpa only [PyData.shown] using hsz
    obtain ⟨bs, hb, hk⟩ := reprAllK_of (prog := prog) (w := w) h4 (by simpa [PyData.showable] using hs) (fun t ht => Nat.le_trans (listText_mem_le ht) hz')
    obtain ⟨as, r4⟩ := RdsDAll.rd h4
    have hna : a ∉ bs := not_mem_of_deeper (.list h1 h2 h3 r4) (by simp only [PyData.depth]; omega) hb
    refine ⟨"list", "list.__repr__", F.slot_list_repr.toG, F.slot_list_str, F.slot_list_format, fun s hk0 => ⟨o, hk0 _ _ h1, h2⟩, fun A E s Q hg hu hk0 hQ => ?_⟩
    simp only [PyData.depth] at hu
    simp only [PyData.shown] at hQ
    obtain ⟨l⟩ := vs
    cases l with
    | nil =>
      have h4' : RdsDAll h₀ [] xs := h4
      cases h4'
      simp only [PyData.shownAll, listText_nil] at hQ
      exact call_list_repr_empty ⟨o, hk0 _ _ h1, h2⟩ (hk0 _ _ h1) h3 (hQ s.heap _ _ fun _ _ e => e)
    | cons x l =>
      exact call_list_reprK h1 h2 h3 hna (by simpa using hk.length_eq) (fun i y e => hk.item i y (by simpa using e)) hg (fun b _ => Clear.nil b) hu hk0 hQ hz'
  | tuple h1 h2 h3 h4 =>
    rename_i o vs n xs
    have hz' : (tupleText (PyData.shownAll xs)).length ≤ sizeLine := by simpa only [PyData.shown] using hsz
    obtain ⟨bs, hb, hk⟩ := reprAllK_of (prog := prog) (w := w) h4 (by simpa [PyData.showable] using hs) (fun t ht => Nat.le_trans (tupleText_mem_le ht) hz')
    obtain ⟨as, r4⟩ := RdsDAll.rd h4
    have hna : a ∉ bs := not_mem_of_deeper (.tuple h1 h2 h3 r4) (by simp only [PyData.depth]; omega) hb
    refine ⟨"tuple", "tuple.__repr__", F.slot_tuple_repr, F.slot_tuple_str, F.slot_tuple_format, fun s hk0 => ⟨o, hk0 _ _ h1, h2⟩, fun A E s Q hg hu hk0 hQ => ?_⟩
    simp only [PyData.depth] at hu
    simp only [PyData.shown] at hQ
    exact call_tuple_reprK h1 h2 h3 hna hk hg (fun b _ => Clear.nil b) hu hk0 hQ hz'
theorem repr_rds {d : PyData} (r : RdsD h₀ (.ref a) d) (hs : d.showable = true) (hg : A.guards = some []) (hu : A.units + (d.depth + 1) < cLine) (hk0 : ∀ b o, h₀.get? b = some o → s.heap.get? b = some o)
    (hQ : ∀ h' u tk, (∀ b o, s.heap.get? b = some o → h'.get? b = some o) → Q (.str d.shown u) { s with heap := h', toks := tk }) (hsz : d.shown.length ≤ sizeLine) : wpAny (model prog w) A (call (.builtin "repr") [.ref a]) Q E s := by
  obtain ⟨T, idr, S⟩ := shows_of (prog := prog) (w := w) r hs hsz
  exact call_repr_slot (by omega) (S.typeIs s hk0) S.slotRepr (S.call A.in1 E s _ hg (by show A.units + 1 + d.depth < cLine; omega) hk0 fun h' u tk hk => ⟨_, _, rfl, hQ h' u tk hk⟩)
end
mutual
def noX : D → Bool
  | .none => true
  | .bool _ => true
  | .int _ => true
  | .str _ => true
  | .list ds => noXs ds
  | .tuple ds => noXs ds
  | .dict kvs => !isExc (.dict kvs) && atomKv kvs
def noXs : List D → Bool
  | [] => true
  | d :: ds => noX d && noXs ds
end
section
variable {X : Cx} {pins : List (Addr × Obj)} {σ : L2.St} {H : Hp} {s : Shared} {O : Addr → Prop}
mutual
theorem Rp.rdsD (I : Inv X pins σ H s) : ∀ (d : D) (v : V) (u : Value), Rp X.K O H v d → RelV v u → noX d = true → RdsD s.heap u d
  | .none, _, _, h, r, _ => by cases h; cases r; exact .base .none (fun h => by simp [PyData.hasDict] at h)
  | .bool b, _, _, h, r, _ => by cases h; cases r; exact .base (.bool b) (fun h => by simp [PyData.hasDict] at h)
  | .int i, _, _, h, r, _ => by cases h; obtain ⟨t, rfl⟩ := r; exact .base (.int i t) (fun h => by simp [PyData.hasDict] at h)
  | .str x, _, _, h, r, _ => by cases h; obtain ⟨t, rfl⟩ := r; exact .base (.str x t) (fun h => by simp [PyData.hasDict] at h)
  | .list ds, _, _, h, r, n => by
    cases h with
    | lst hH _ ra =>
      cases r
      rw [noX] at n
      obtain ⟨its, rv, ⟨o, m, ho, hc, _, hdat⟩, _⟩ := I.list (X := X) (.inl (.inl hH))
      exact .list ho hc hdat (by simpa using RpAll.rdsD I ds _ its ra rv n)
  | .tuple ds, _, _, h, r, n => by
    obtain ⟨a, xs, rfl, hs, ha, _⟩ := Rp.tupI h
    cases r
    rw [noX] at n
    obtain ⟨its, rv, ⟨o, ho, hc, m, hd⟩, _⟩ := I.tuple hs
    exact .tuple ho hc hd (RpAll.rdsD I ds _ its ha rv n)
  | .dict kvs, _, _, h, r, n => by
    rw [noX, Bool.and_eq_true] at n
    cases h with
    | dic rd _ ra =>
      cases r
      obtain ⟨as, q1, q2⟩ := reads_dic I rd ra n.2
      exact .base q1 fun _ => q2
    | exc _ _ _ _ _ _ => exact (exc_no ((Bool.not_eq_true' _).mp n.1)).elim
    | ob _ => exact absurd n.1 (by decide)
theorem RpAll.rdsD (I : Inv X pins σ H s) : ∀ (ds : List D) (vs : List V) (us : List Value), RpAll X.K O H vs ds → Vals vs us → noXs ds = true → RdsDAll s.heap us ds
  | [], _, _, h, r, _ => by cases h; cases r; exact .nil
  | d :: ds, _, _, h, r, n => by
    rw [noXs, Bool.and_eq_true] at n
    cases h with
    | cons h1 h2 =>
      cases r with
      | cons r1 r2 => exact .cons (Rp.rdsD I d _ _ h1 r1 n.1) (RpAll.rdsD I ds _ _ h2 r2 n.2)
end
def okShowX (d : D) : Bool := noX d && decide (d.depth ≤ 60) && d.showable && decide (d.shown.length ≤ 16777216)
def rReprX (K : PySem.W.Frag) : List V → Hp → VK → Prop := fun xs H Q => ∃ x d O, xs = [x] ∧ Lv K O H x d ∧ okShowX d = true ∧ Q (.str d.shown) H
theorem call_reprX (hg : X.A.guards = some []) (hu : X.A.units + 64 < cLine) : CallR X (.builtin "repr") (rReprX X.K) := by
  intro pins s σ H xs us Q I rr h
  obtain ⟨x, d, O, rfl, hd, ok, q⟩ := h
  cases rr with
  | @cons _ u _ _ rx rt =>
    cases rt
    simp only [okShowX, Bool.and_eq_true, decide_eq_true_eq] at ok
    obtain ⟨⟨⟨o1, o2⟩, o3⟩, o4⟩ := ok
    have hz : d.shown.length ≤ sizeLine := Nat.le_trans o4 (by decide)
    match d, hd, o1, o2, o3, hz, q with
    | .none, hd, _, _, _, _, q => cases Rp.scN (show Rp X.K O H x .none from hd); cases rx; exact PySem.P.repr_of_none ⟨.str _, H, I.tok _, ⟨_, rfl⟩, q⟩
    | .bool b, hd, _, _, _, _, q => cases Rp.scB (show Rp X.K O H x (.bool b) from hd); cases rx; exact PySem.P.repr_of_bool ⟨.str _, H, I.tok _, ⟨_, rfl⟩, by cases b <;> exact q⟩
    | .int i, hd, _, _, o3, _, q => cases Rp.sc (show Rp X.K O H x (.int i) from hd); obtain ⟨t, rfl⟩ := rx; exact PySem.P.repr_of_int (by simpa [PyData.showable] using o3) ⟨.str _, H, I.tok _, ⟨_, rfl⟩, q⟩
    | .str y, hd, _, _, _, hz, q => cases Rp.scS (show Rp X.K O H x (.str y) from hd); obtain ⟨t, rfl⟩ := rx; exact PySem.P.repr_of_str ⟨.str _, H, I.tok _, ⟨_, rfl⟩, q⟩ hz
    | .list ds, hd, o1, o2, o3, hz, q =>
      obtain ⟨a, ys, rfl, hH, ra⟩ := hd
      cases rx
      rw [noX] at o1
      obtain ⟨its, rv, ⟨o, n, ho, hc, _, hdat⟩, _⟩ := I.list (X := X) (xs := ys) (.inl (.inl hH))
      exact repr_rds (.list ho hc hdat (by simpa using RpAll.rdsD I ds ys its ra rv o1)) o3 hg (by omega) (fun _ _ e => e) (fun h' t tk hk => ⟨.str _, H, I.kept (t' := tk) hk, ⟨t, rfl⟩, q⟩) hz
    | .tuple ds, hd, o1, o2, o3, hz, q =>
      have r := Rp.rdsD I (.tuple ds) x u hd rx o1
      obtain ⟨a, xs, rfl, _, _, _⟩ := Rp.tupI (show Rp X.K O H x (.tuple ds) from hd)
      cases rx
      exact repr_rds r o3 hg (by omega) (fun _ _ e => e) (fun h' t tk hk => ⟨.str _, H, I.kept (t' := tk) hk, ⟨t, rfl⟩, q⟩) hz
    | .dict kvs, hd, o1, o2, o3, hz, q =>
      rw [noX, Bool.and_eq_true] at o1
      rcases hd with ⟨a, es, ds, rfl, rd, ra, rfl⟩ | ⟨_, _, _, _, _, _, _, _, _, _, _, _, e⟩ | ⟨_, e⟩
      rotate_left
      · have o := o1.1
        rw [e] at o
        exact (exc_no ((Bool.not_eq_true' _).mp o)).elim
      · have o := o1.1
        rw [e] at o
        cases o
      cases rx
      obtain ⟨as, r, hn⟩ := reads_dic I rd ra o1.2
      exact repr_rds (.base r fun _ => hn) o3 hg (by omega) (fun _ _ e => e) (fun h' t tk hk => ⟨.str _, H, I.kept (t' := tk) hk, ⟨t, rfl⟩, q⟩) hz
end
section
variable {K : PySem.W.Frag}
def cReprX : List D → Option D
  | [d] => if okShowX d = true then some (.str d.shown) else none
  | _ => none
theorem cd_reprX : CaD K (rReprX K) cReprX := by
  intro O H xs ds z hO l hz Q q
  match ds, hz, l with
  | [d], hz, l =>
    simp only [cReprX] at hz
    split at hz
    · rename_i hs
      cases hz
      obtain ⟨v, rfl, h⟩ := LvAll.one l
      exact ⟨v, d, O, rfl, h, hs, q _ H Ext.refl (.str _)⟩
    · cases hz
theorem c_reprX {d : D} (h : okShowX d = true) : cReprX [d] = some (.str d.shown) := by simp [cReprX, h]
end
end GD

namespace GD
open PySem PySem.Spec PyProof.Rows L2 GDX
section
variable {K : PySem.W.Frag}
theorem c_d1s {k v : Str} : Mu.toD (.m [(Sum.inr k, .str v)]) = .dict [(.str k, .str v)] := rfl
theorem kit_bt {C : Addr} {T : String} {b : Bool} (h1 : PySem.W.kitMeta T = true) (h2 : PySem.W.subIn K (.ref C) (.type T) = some b) : PySem.W.kitOne K (.ref C) (.type T) = some b := by
  unfold PySem.W.kitOne
  have hne : ¬ ((Value.ref C == Value.type T) = true) := fun q => Value.noConfusion (beq_iff_eq.mp q)
  rw [if_neg hne]
  show (if PySem.W.kitMeta T = true then PySem.W.subIn K (.ref C) (.type T) else none) = some b
  rw [if_pos h1]
  exact h2
end
section
variable {M : FnX} {fa : EvA} {env e : En} {l : List R} {ds : List D} {d : D} {nm fd : Str}
end
end GD

namespace L2
open PySem PySem.Spec PyProof.Rows
section
variable {prog : Program} {w : World} {A : Around} {E : Value → Shared → Prop} {s : Shared}
end
section
variable {X : Cx}
end
end L2
namespace GD
open PySem PySem.Spec PyProof.Rows L2
section
variable {K : PySem.W.Frag}
end
section
variable {fm : EvM} {fl fh : EvE} {i : Nat} {env e e0 : En} {es ds : List D} {r1 r2 : R} {a c : Int} {b b0 : Bool} {m0 : Mu} {d1 d2 : Option D} {o1 o2 : Option (Bool × Mu)}
end
end GD

namespace GD
open PySem PySem.Spec PyProof.Rows L2
def KEnd (K : PySem.W.Frag) (js : List Nat) (F : Frm) (env : En) (σ : L2.St) (H : Hp) (env' : En) (Dn : Ends) : Fl → Prop
  | .nx => ∀ σ' H', StOk K F T0 H' env' σ' → Stq env σ H env' σ' H' → σ'.length = σ.length → (∀ k, k ∉ js → σ'[k]? = σ[k]?) → Dn.nx σ' H'
  | .bk => ∀ σ' H', StOk K F T0 H' env' σ' → Stq env σ H env' σ' H' → σ'.length = σ.length → (∀ k, k ∉ js → σ'[k]? = σ[k]?) → Dn.bk σ' H'
  | .ct => ∀ σ' H', StOk K F T0 H' env' σ' → Stq env σ H env' σ' H' → σ'.length = σ.length → (∀ k, k ∉ js → σ'[k]? = σ[k]?) → Dn.ct σ' H'
  | .rt r => ∀ v σ' H', RetOk K F H' v env' σ' r → Dn.rt v H'
section
variable {K : PySem.W.Frag} {js ks : List Nat} {te : TE} {fe : EvE} {t u : TS} {f g : EvS} {c : TT} {fc : EvT}
theorem KEnd.pre {F : Frm} {env env1 env' : En} {σ σ1 : L2.St} {H H1 : Hp} {Dn : Ends} {fl : Fl} (h : KEnd K js F env σ H env' Dn fl) (b : Stq env σ H env1 σ1 H1) (hl : σ1.length = σ.length) (hk : ∀ k, k ∉ js → σ1[k]? = σ[k]?) : KEnd K js F env1 σ1 H1 env' Dn fl := by
  cases fl with
  | nx => exact fun σ' H' S q l k => h σ' H' S (b.trans q) (l.trans hl) fun n m => (k n m).trans (hk n m)
  | bk => exact fun σ' H' S q l k => h σ' H' S (b.trans q) (l.trans hl) fun n m => (k n m).trans (hk n m)
  | ct => exact fun σ' H' S q l k => h σ' H' S (b.trans q) (l.trans hl) fun n m => (k n m).trans (hk n m)
  | rt r => exact h
end
end GD

namespace GD
open PySem PySem.Spec PyProof.Rows L2 GDX
def scalD : D → Bool
  | .none => true
  | .bool _ => true
  | .int _ => true
  | .str _ => true
  | _ => false
def flatD : D → Bool
  | .tuple ds => ds.all scalD
  | d => scalD d
section
variable {K : PySem.W.Frag} {O O' : Addr → Prop} {H : Hp}
theorem Rp.scal {v : V} {d : D} (h : scalD d = true) (r : Rp K O H v d) : Rp K O' H v d := by
  cases r with
  | non => exact .non
  | bl b => exact .bl b
  | int i => exact .int i
  | str x => exact .str x
  | _ => cases h
theorem RpAll.scal : ∀ {vs : List V} {ds : List D}, ds.all scalD = true → RpAll K O H vs ds → RpAll K O' H vs ds
  | _, [], _, .nil => .nil
  | _, d :: ds, h, .cons r t => by
    rw [List.all_cons, Bool.and_eq_true] at h
    exact .cons (Rp.scal h.1 r) (RpAll.scal h.2 t)
end
section
variable {M : FnX} {fa fl fk : EvA} {env e : En} {l w : List R} {pm : List R → List R → List R}
end
end GD

namespace GD
open PySem PySem.Spec PyProof.Rows L2 GDX
section
variable {K : PySem.W.Frag} {js ks : List Nat} {te : TE} {fx : EvX} {t1 t2 t3 t r : TS} {f g : EvS}
theorem ie_isXB {T : String} {k : Str → Option Bool} {te : TE} {fe : EvE} (hk : ∀ nm b C, k nm = some b → PySem.W.nsIn K mainGlobals nm = some (some (.ref C)) → ExcC K C ∧ PySem.W.kitOne K (.ref C) (.type T) = some b) (he : IE K te fe) :
    IE K (tCB (rIsX K) (tCons te (tCons (tC (.ty T)) tNil))) (eIsX k fe) := ie_isX (c := .ty T) (cv := .type T) (fun _ h => h) hk he
end
end GD

set_option maxHeartbeats 4000000
namespace GD
open PySem PySem.Spec PyProof.Rows L2
section
variable {X : Cx}
end
section
variable {K : PySem.W.Frag} {ta tb te : TE} {fa fb fe : EvE}
end
end GD

namespace GD
open PySem PySem.Spec PyProof.Rows L2
def keyOfD : D → Option L2.Key
  | .int i => some (.inl i)
  | .str x => some (.inr x)
  | _ => none
def putD (kvs : List (L2.Key × D)) (k : L2.Key) (d : D) : List (L2.Key × D) :=
  if (kvs.any fun kv => decide (kv.1 = k)) = true then kvs.map (fun kv => if kv.1 = k then (kv.1, d) else kv) else kvs ++ [(k, d)]
def valD (kvs : List (L2.Key × D)) (k : L2.Key) : Option D := (kvs.find? fun kv => decide (kv.1 = k)).map (·.2)
structure KR (K : PySem.W.Frag) (O : Addr → Prop) (H : Hp) (es : List (L2.Key × V)) (kvs : List (L2.Key × D)) : Prop where
  keys : es.map (·.1) = kvs.map (·.1)
  vals : RpAll K O H (es.map (·.2)) (kvs.map (·.2))
section
variable {K : PySem.W.Frag} {O O' : Addr → Prop} {H H' : Hp}
theorem KR.nil : KR K O H [] [] := ⟨rfl, .nil⟩
theorem KR.cons {k : L2.Key} {v : V} {d : D} {es : List (L2.Key × V)} {kvs : List (L2.Key × D)} (r : Rp K O H v d) (t : KR K O H es kvs) : KR K O H ((k, v) :: es) ((k, d) :: kvs) :=
  ⟨by simp [t.keys], .cons r t.vals⟩
theorem KR.inv {es : List (L2.Key × V)} {kvs : List (L2.Key × D)} (h : KR K O H es kvs) : (es = [] ∧ kvs = []) ∨ ∃ k v d es' kvs', es = (k, v) :: es' ∧ kvs = (k, d) :: kvs' ∧ Rp K O H v d ∧ KR K O H es' kvs' := by
  obtain ⟨hk, hv⟩ := h
  cases es with
  | nil =>
    cases kvs with
    | nil => exact .inl ⟨rfl, rfl⟩
    | cons q kvs => simp at hk
  | cons p es =>
    cases kvs with
    | nil => simp at hk
    | cons q kvs =>
      obtain ⟨k, v⟩ := p
      obtain ⟨k', d⟩ := q
      simp only [List.map_cons, List.cons.injEq] at hk
      obtain ⟨rfl, hk⟩ := hk
      cases hv with
      | cons r t => exact .inr ⟨k, v, d, es, kvs, rfl, rfl, r, hk, t⟩
theorem KR.length {es : List (L2.Key × V)} {kvs : List (L2.Key × D)} (h : KR K O H es kvs) : es.length = kvs.length := by
  have := congrArg List.length h.keys
  simpa using this
theorem KR.any {es : List (L2.Key × V)} {kvs : List (L2.Key × D)} (h : KR K O H es kvs) (k : L2.Key) : (es.any fun kv => decide (kv.1 = k)) = kvs.any fun kv => decide (kv.1 = k) := by
  have e1 : ∀ {α : Type} (l : List (L2.Key × α)), (l.any fun kv => decide (kv.1 = k)) = (l.map (·.1)).any fun x => decide (x = k) := fun l => by rw [List.any_map]; rfl
  rw [e1, e1, h.keys]
theorem KR.append : ∀ {es es' : List (L2.Key × V)} {kvs kvs' : List (L2.Key × D)}, KR K O H es kvs → KR K O H es' kvs' → KR K O H (es ++ es') (kvs ++ kvs') := by
  intro es es' kvs kvs' h h'
  refine ⟨by simp [h.keys, h'.keys], ?_⟩
  rw [List.map_append, List.map_append]
  exact h.vals.append h'.vals
theorem KR.mapPut {k : L2.Key} {v : V} {d : D} (r : Rp K O H v d) : ∀ {es : List (L2.Key × V)} {kvs : List (L2.Key × D)}, KR K O H es kvs →
    KR K O H (es.map fun kv => if kv.1 = k then (kv.1, v) else kv) (kvs.map fun kv => if kv.1 = k then (kv.1, d) else kv)
  | [], kvs, h => by
    rcases h.inv with ⟨_, rfl⟩ | ⟨_, _, _, _, _, h, _⟩
    · exact .nil
    · cases h
  | p :: es, kvs, h => by
    rcases h.inv with ⟨h, _⟩ | ⟨k', w, e, es', kvs', h1, rfl, r', t⟩
    · cases h
    · cases h1
      have ih := KR.mapPut (k := k) r t
      simp only [List.map_cons]
      by_cases hk : k' = k
      · simp only [hk, if_true]
        exact KR.cons r ih
      · simp only [if_neg hk]
        exact KR.cons r' ih
theorem KR.put {k : L2.Key} {v : V} {d : D} {es : List (L2.Key × V)} {kvs : List (L2.Key × D)} (h : KR K O H es kvs) (r : Rp K O H v d) : KR K O H (putK es k v) (putD kvs k d) := by
  unfold putK putD
  rw [h.any]
  split
  · exact h.mapPut r
  · exact h.append (.cons r .nil)
theorem KR.val {k : L2.Key} : ∀ {es : List (L2.Key × V)} {kvs : List (L2.Key × D)}, KR K O H es kvs → (valV es k = none ∧ valD kvs k = none) ∨ ∃ v d, valV es k = some v ∧ valD kvs k = some d ∧ Rp K O H v d
  | [], kvs, h => by
    rcases h.inv with ⟨_, rfl⟩ | ⟨_, _, _, _, _, h, _⟩
    · exact .inl ⟨rfl, rfl⟩
    · cases h
  | p :: es, kvs, h => by
    rcases h.inv with ⟨h, _⟩ | ⟨k', w, e, es', kvs', h1, rfl, r', t⟩
    · cases h
    · cases h1
      unfold valV valD
      rw [List.find?_cons, List.find?_cons]
      by_cases hk : k' = k
      · simp only [hk, decide_true]
        exact .inr ⟨w, e, rfl, rfl, r'⟩
      · simp only [decide_eq_false hk]
        exact KR.val t
theorem KR.tr (f : ∀ a o, H a = some o → ¬ O a → ¬ O' a) (k : ∀ a o, ¬ O a → H a = some o → H' a = some o) {es : List (L2.Key × V)} {kvs : List (L2.Key × D)} (h : KR K O H es kvs) : KR K O' H' es kvs := ⟨h.keys, h.vals.tr f k⟩
theorem KR.anti (f : ∀ a, O' a → O a) {es : List (L2.Key × V)} {kvs : List (L2.Key × D)} (h : KR K O H es kvs) : KR K O' H es kvs := ⟨h.keys, h.vals.anti f⟩
end
def pairsOf : List (D × D) → Option (List (L2.Key × D))
  | [] => some []
  | p :: l => (keyOfD p.1).bind fun k => (pairsOf l).map fun r => (k, p.2) :: r
def dictOf : D → Option (List (L2.Key × D))
  | .dict es => pairsOf es
  | _ => none
section
variable {K : PySem.W.Frag} {O : Addr → Prop} {H : Hp}
end
end GD

set_option maxHeartbeats 4000000
namespace GD
open PySem PySem.Spec PyProof.Rows L2
section
variable {K : PySem.W.Frag} {tk tv : TE} {fk fv : EvE} {tt : TT} {ft : EvT}
end
end GD

set_option maxHeartbeats 4000000
namespace GD
open PySem PySem.Spec PyProof.Rows L2
structure Sw (H H' : Hp) (d : Addr) (kv : List (L2.Key × V)) : Prop where
  off : ∀ a, a ≠ d → H' a = H a
  rd : Rd H d (.dK kv)
  rd' : Rd H' d (.dK kv)
section
variable {K : PySem.W.Frag} {O : Addr → Prop} {H H' : Hp} {d : Addr} {kv : List (L2.Key × V)}
theorem Sw.ne (w : Sw H H' d kv) {a : Addr} {u : HO} (h : H a = some u) (n1 : ∀ es, u ≠ .dK es) (n2 : ∀ o es, u ≠ .frz o (.dK es)) : a ≠ d := by
  rintro rfl
  rcases w.rd with q | ⟨o', q⟩ <;> rw [h] at q <;> cases q
  · exact n1 _ rfl
  · exact n2 _ _ rfl
theorem Sw.live (w : Sw H H' d kv) {a : Addr} (h : H a ≠ none) : H' a ≠ none := by
  by_cases e : a = d
  · subst e
    rcases w.rd' with q | ⟨o, q⟩ <;> rw [q] <;> simp
  · rw [w.off _ e]; exact h
end
def Frm.at (F : Frm) (d : Addr) (u : HO) : Frm := ⟨F.O0, F.W0, upd F.H0 d u, F.vs⟩
section
variable {K : PySem.W.Frag} {F : Frm} {T : Addr → Prop} {H H' : Hp} {env : En} {σ : L2.St} {d : Addr} {kv : List (L2.Key × V)} {u : HO}
end
section
variable {K : PySem.W.Frag} {t : TS} {f : EvS}
end
end GD

set_option maxHeartbeats 4000000
namespace GD
open PySem PySem.Spec PyProof.Rows L2
inductive Grel (H : Hp) : List (L2.Key × V) → List Addr → List (L2.Key × List Int) → Prop
  | nil : Grel H [] [] []
  | cons {k : L2.Key} {l : Addr} {ns : List Int} {es : List (L2.Key × V)} {L : List Addr} {A : List (L2.Key × List Int)} : H l = some (.lst (ns.map V.int)) → Grel H es L A → Grel H ((k, .ref l) :: es) (l :: L) ((k, ns) :: A)
section
variable {H H' : Hp}
theorem Grel.keep {es : List (L2.Key × V)} {L : List Addr} {A : List (L2.Key × List Int)} (h : Grel H es L A) : (∀ l ∈ L, H' l = H l) → Grel H' es L A := by
  induction h with
  | nil => intro _; exact .nil
  | cons e _ ih => intro q; exact .cons (by rw [q _ (List.mem_cons_self ..)]; exact e) (ih fun l hl => q l (List.mem_cons_of_mem _ hl))
theorem Grel.len {es : List (L2.Key × V)} {L : List Addr} {A : List (L2.Key × List Int)} (h : Grel H es L A) : es.length = A.length := by
  induction h with
  | nil => rfl
  | cons _ _ ih => simp [ih]
theorem Grel.live {es : List (L2.Key × V)} {L : List Addr} {A : List (L2.Key × List Int)} (h : Grel H es L A) : ∀ l ∈ L, ∃ ns, H l = some (.lst (List.map V.int ns)) := by
  induction h with
  | nil => intro l hl; simp at hl
  | cons e _ ih =>
    intro l hl
    rcases List.mem_cons.mp hl with rfl | hl
    · exact ⟨_, e⟩
    · exact ih l hl
end
structure Gp (F : Frm) (T : Addr → Prop) (H : Hp) (d : Addr) (L : List Addr) (A : List (L2.Key × List Int)) : Prop where
  rel : ∃ es, H d = some (.dK es) ∧ Grel H es L A
  nd : L.Nodup
  apart : T d ∧ F.H0 d = none ∧ ∀ l ∈ L, T l ∧ F.H0 l = none
theorem Gp.keep {F : Frm} {T T' : Addr → Prop} {H H' : Hp} {d : Addr} {L : List Addr} {A : List (L2.Key × List Int)} (g : Gp F T H d L A) (h : ∀ a, a = d ∨ a ∈ L → H' a = H a) (t : ∀ a, T a → T' a) : Gp F T' H' d L A := by
  obtain ⟨⟨es, e, r⟩, nd, a1, a2, a3⟩ := g
  exact ⟨⟨es, by rw [h d (.inl rfl)]; exact e, r.keep fun l hl => h l (.inr hl)⟩, nd, t _ a1, a2, fun l hl => ⟨t _ (a3 l hl).1, (a3 l hl).2⟩⟩
section
variable {K : PySem.W.Frag} {F : Frm}
end
end GD

set_option maxHeartbeats 4000000
namespace GD
open PySem PySem.Spec PyProof.Rows L2
section
variable {K : PySem.W.Frag}
end
end GD

set_option maxHeartbeats 4000000
namespace GD
open PySem PySem.Spec PyProof.Rows L2
section
variable {X : Cx}
end
section
variable {K : PySem.W.Frag} {O : Addr → Prop} {H : Hp}
end
end GD

set_option maxHeartbeats 4000000
namespace GD
open PySem
namespace Lay
def stp (m i : Nat) : Nat := (i * 5 + 1) % (m + 1)
def prb (m : Nat) : Nat → Nat × Nat → Nat × Nat
  | 0, p => p
  | n + 1, p => prb m n ((p.1 * 5 + 1 + p.2 / 32) % (m + 1), p.2 / 32)
theorem find_range {n : Nat} {f : Nat → Bool} (hn : 0 < n) (h : (List.range n).find? f = none) : f 0 = false := by
  have := List.find?_eq_none.mp h 0 (List.mem_range.mpr hn)
  simpa using this
theorem runEnd_ge (m i : Nat) : i ≤ SetTable.runEnd m i := by
  unfold SetTable.runEnd
  split <;> omega
theorem free_none {m : Nat} {owner : Array (Option Nat)} : ∀ (f i p : Nat), SetTable.layClean.free m owner f i p = none → ∀ n, n < f → (owner.getD (prb m n (i, p)).1 (some 0)).isNone = false
  | 0, i, p, _, n, hn => absurd hn (Nat.not_lt_zero n)
  | f + 1, i, p, h, n, hn => by
    unfold SetTable.layClean.free at h
    split at h
    · cases h
    · rename_i hf
      cases n with
      | zero => exact find_range (by have := runEnd_ge m i; omega) hf
      | succ n => exact free_none f _ _ h n (Nat.lt_of_succ_lt_succ hn)
end Lay
end GD

set_option maxHeartbeats 4000000
namespace GD
open PySem PySem.Spec PyProof.Rows L2
section
variable {P : Program} {w : World} {A : Around} {E : Value → Shared → Prop} {s : Shared} {a o f : Addr} {ks ls : List Str}
structure SRaw (w : World) (h : Heap) (a : Addr) (ob : Obj) (ys : Array (Int × Value)) (ep : Nat) (tb : SetTable) : Prop where
  ho : h.get? a = some ob
  hex : ob.ExactSet
  hd : ob.data = .set ys ep tb
  b : ys.size < scanBound
  f : tb.fits ys.size = true
  r : Ris tb.place.toList
  l : w.params.followText "set-order" = true ∨ tb.led = true
structure STx (P : Program) (w : World) (ys : Array (Int × Value)) (ks : List Str) : Prop where
  g : ∀ e ∈ ys.toList, GoodG (PySem.strKind P w) kfS e
  pm : (ys.toList.map kfS).Perm ks
  nd : ks.Nodup
theorem STx.len {ys : Array (Int × Value)} (T : STx P w ys ks) : ys.size = ks.length := by rw [← T.pm.length_eq, List.length_map, Array.length_toList]
theorem STx.str {ys : Array (Int × Value)} (T : STx P w ys ks) {e : Int × Value} (he : e ∈ ys.toList) : ∃ x t, e.2 = .str x t ∧ x ∈ ks ∧ e.1 = (PySem.strKind P w).hash x := by
  obtain ⟨h1, h2, _⟩ := T.g e he
  obtain ⟨t, ht⟩ := Value.isStrOf_shape h1
  exact ⟨kfS e, t, ht, T.pm.mem_iff.mp (List.mem_map_of_mem he), h2⟩
theorem SRaw.at {h h' : Heap} {ob : Obj} {ys : Array (Int × Value)} {ep : Nat} {tb : SetTable} (R : SRaw w h a ob ys ep tb) (kp : h'.get? a = some ob) : SRaw w h' a ob ys ep tb := ⟨kp, R.hex, R.hd, R.b, R.f, R.r, R.l⟩
end
end GD

set_option maxHeartbeats 4000000
namespace GD
open PySem PySem.Spec PyProof.Rows L2
section
variable {P : Program} {w : World} {A : Around} {E : Value → Shared → Prop} {s : Shared} {a o f : Addr} {ks ls : List Str}
end
end GD

set_option maxHeartbeats 4000000
namespace GD
open PySem PySem.Spec PyProof.Rows L2
section
variable {P : Program} {w : World} {A : Around} {E : Value → Shared → Prop} {s : Shared} {a b o f : Addr} {ks ls : List Str}
end
end GD

set_option maxHeartbeats 4000000
namespace GD
open PySem PySem.Spec PyProof.Rows L2
section
variable {P : Program} {w : World} {A : Around} {E : Value → Shared → Prop} {s : Shared} {a b o f : Addr} {ks ls : List Str}
end
end GD

set_option maxHeartbeats 4000000
namespace GD
open PySem PySem.Spec PyProof.Rows L2
section
variable {P : Program} {w : World} {A : Around} {E : Value → Shared → Prop} {s : Shared} {a b o f : Addr} {ks ls : List Str}
end
end GD

set_option maxHeartbeats 4000000
namespace GD
open PySem PySem.Spec PyProof.Rows L2
section
variable {X : Cx}
end
abbrev EvSet := En → Option (List Str × En)
section
variable {P : Program} {w : World} {K : PySem.W.Frag} {ta tb te : TE} {fa fb : EvSet} {fe : EvE}
end
end GD

set_option maxHeartbeats 4000000
namespace GD
open PySem PySem.Spec PyProof.Rows L2
section
variable {env e e0 e3 : En} {fw : EvW} {tg : D → En → Option En} {ft : EvT} {fe fk fv fz fd : EvE} {ds : List D} {vs : List Nat} {r r1 r2 r3 : R} {d d0 kd v z : D} {i : Nat}
theorem c_toDm {kvs : List (L2.Key × D)} : Mu.toD (.m kvs) = .dict (kvs.map fun p => (keyD p.1, p.2)) := rfl
end
section
variable {env e e0 : En} {fd fk fz : EvE} {d d0 kd v z : D} {i : Nat} {p : Bool} {m : Mu}
end
end GD

set_option maxHeartbeats 4000000
namespace GD
open PySem PySem.Spec PyProof.Rows L2
section
variable {K : PySem.W.Frag}
end
end GD

set_option maxHeartbeats 4000000
namespace GD
open PySem PySem.Spec PyProof.Rows L2
section
variable {K : PySem.W.Frag}
end
end GD

set_option maxHeartbeats 4000000
namespace GD
open PySem PySem.Spec PyProof.Rows L2
section
variable {P : Program} {w : World} {A : Around} {E : Value → Shared → Prop} {s : Shared}
end
end GD

set_option maxHeartbeats 4000000
namespace GD
open PySem PySem.Spec PyProof.Rows L2
section
variable {P : Program} {w : World} {A : Around} {E : Value → Shared → Prop} {s : Shared}
end
end GD

set_option maxHeartbeats 4000000
namespace GD
open PySem PySem.Spec PyProof.Rows L2
section
variable {X : Cx} {pins : List (Addr × Obj)} {σ : L2.St} {H : Hp} {s : Shared}
end
section
variable {K : PySem.W.Frag}
end
end GD

set_option maxHeartbeats 4000000
namespace GD
open PySem PySem.Spec PyProof.Rows L2
section
variable {P : Program} {w : World} {A : Around} {E : Value → Shared → Prop} {s : Shared}
end
section
variable {X : Cx}
end
end GD

set_option maxHeartbeats 4000000
namespace GD
open PySem PySem.Spec PyProof.Rows L2
section
variable {P : Program} {w : World} {K : PySem.W.Frag} {ta tb te : TE} {fa fb : EvSet} {fe : EvE}
end
end GD

set_option maxHeartbeats 400000
namespace GD
open PySem PySem.Spec PyProof.Rows L2
section
variable {K : PySem.W.Frag} {te : TE} {fe : EvE}
end
end GD

set_option maxHeartbeats 400000
namespace GD
open PySem PySem.Spec PyProof.Rows L2
section
variable {K : PySem.W.Frag}
end
end GD

set_option maxHeartbeats 1000000
namespace GD
open PySem PySem.Spec PyProof.Rows L2
open PySem.W (EachIs AllAlike Sortable SortsAt dataKind sortVals alike)
section
variable {X : Cx}
end
end GD

set_option maxHeartbeats 1000000
namespace GD
open PySem PySem.Spec PyProof.Rows L2
open PySem.W (EachIs AllAlike Sortable SortsAt alike)
section
variable {K : PySem.W.Frag}
end
def tupI (l : List Int) : D := .tuple (l.map .int)
end GD

namespace GD
open PySem PySem.Spec PyProof.Rows L2
end GD

namespace GD
open PySem PySem.Spec PyProof.Rows L2
section
variable {K : PySem.W.Frag}
end
end GD

namespace GD
open PySem PySem.Spec PyProof.Rows L2
end GD

set_option maxHeartbeats 4000000
namespace GD
open PySem PySem.Spec PyProof.Rows L2
section
variable {X : Cx}
end
section
variable {P : Program} {w : World} {K : PySem.W.Frag} {ta tb te : TE} {fe : EvE}
end
end GD

namespace GD
open PySem PySem.Spec PyProof.Rows L2
section
variable {K : PySem.W.Frag} {te tk tx : TE} {fe fk fx : EvE}
end
end GD

namespace GD
open PySem PySem.Spec PyProof.Rows L2
section
variable {P : Program} {w : World} {K : PySem.W.Frag} {ta tb te : TE} {fa fb fe : EvE}
end
end GD

namespace GD
open PySem PySem.Spec PyProof.Rows L2
end GD

namespace GD
open PySem PySem.Spec PyProof.Rows L2
open PySem.W (alike dataLt)
section
variable {K : PySem.W.Frag}
end
end GD

namespace GD
open PySem PySem.Spec PyProof.Rows L2
section
variable {K : PySem.W.Frag}
end
end GD

namespace GD
end GD

namespace GD
open PySem PySem.Spec PyProof.Rows L2 GDX
def tupAt (H : Hp) (a : Addr) : Prop := (∃ xs, H a = some (.tup xs)) ∨ ∃ o u, H a = some (.frz o u)
theorem rd_tupAt {H : Hp} {a : Addr} {xs : List V} (h : Rd H a (.tup xs)) : tupAt H a := h.imp (fun e => ⟨xs, e⟩) fun ⟨o, e⟩ => ⟨o, _, e⟩
def NewP (H : Hp) (a : Addr) : Prop := H a ≠ none ∧ ¬ tupAt H a
section
variable {K : PySem.W.Frag} {O O' : Addr → Prop} {H H' : Hp}
theorem Rp.flatN {v : V} {d : D} (ho : ∀ b, O' b → O b ∨ ¬ tupAt H b) (h : flatD d = true) (r : Rp K O H v d) : Rp K O' H v d := by
  cases r with
  | tup hs t =>
    refine .tup ⟨hs.1.imp (fun q => ⟨q.1, fun z => (ho _ z).elim q.2 fun n => n (rd_tupAt q.1)⟩) id, fun z => ?_⟩ (RpAll.scal h t)
    rcases hs.2 z with ⟨o, u, e, h1, n⟩ | h1
    · exact .inl ⟨o, u, e, h1, fun z => (ho _ z).elim n fun n => n (.inr ⟨o, _, e⟩)⟩
    · exact .inr h1
  | non => exact .non
  | bl b => exact .bl b
  | int i => exact .int i
  | str x => exact .str x
  | _ => cases h
theorem RpAll.flatN (ho : ∀ b, O' b → O b ∨ ¬ tupAt H b) : ∀ {vs : List V} {ds : List D}, ds.all flatD = true → RpAll K O H vs ds → RpAll K O' H vs ds
  | _, [], _, .nil => .nil
  | _, d :: ds, h, .cons r t => by
    rw [List.all_cons, Bool.and_eq_true] at h
    exact .cons (Rp.flatN ho h.1 r) (RpAll.flatN ho h.2 t)
theorem tupAt.ext {W : Addr → Prop} (x : Ext W H H') {a : Addr} (n : ¬ W a) (h : tupAt H a) : tupAt H' a := by
  rcases h with ⟨xs, h⟩ | ⟨o, u, h⟩
  · exact .inl ⟨xs, x.same a _ h n⟩
  · exact .inr ⟨o, u, x.same a _ h n⟩
abbrev EvF := En → Option (D × En)
def PartsN (K : PySem.W.Frag) (Hb H : Hp) (v : V) (es : List D) (n : Nat) : Prop := ∃ (t : Addr) (xs : List V), v = .ref t ∧ SqT K H t xs ∧ ∀ (i : Nat) (ds : List D), es[i]? = some (.list ds) → ds.all flatD = true →
  ∃ (p : Addr) (ys : List V) (ds' : List D), xs[i]? = some (.ref p) ∧ Hb p = none ∧ H p = some (.lst ys) ∧ RpAll K (NewP H) H ys ds' ∧ ds'.all flatD = true ∧ ds'.length ≤ ds.length + n
theorem rpN_ext {W : Addr → Prop} (x : Ext W H H') (hw : ∀ a, W a → ¬ tupAt H a) {ys : List V} {ds : List D} (r : RpAll K (NewP H) H ys ds) (hf : ds.all flatD = true) : RpAll K (NewP H') H' ys ds := by
  have r1 : RpAll K (fun a => NewP H a ∨ H a = none) H ys ds := r.flatN (fun b hb => hb.imp id fun z q => by
    rcases q with ⟨xs, q⟩ | ⟨o, u, q⟩ <;> (rw [z] at q; cases q)) hf
  refine r1.tr (fun a o e n z => z.2 ?_) fun a o n e => x.same a o e ?_
  · have ht : tupAt H a := Classical.byContradiction fun q => n (.inl ⟨by rw [e]; simp, q⟩)
    exact fun z => hw a z ht
  · have ht : tupAt H a := Classical.byContradiction fun q => n (.inl ⟨by rw [e]; simp, q⟩)
    exact ht.ext x fun z => hw a z ht
theorem sqT_ext {W : Addr → Prop} (x : Ext W H H') (hw : ∀ a, W a → ¬ tupAt H a) {t : Addr} {xs : List V} (h : SqT K H t xs) : SqT K H' t xs := by
  rcases h with h | h
  · have ht : tupAt H t := rd_tupAt h
    have nw : ¬ W t := fun z => hw t z ht
    rcases h with h | ⟨o, h⟩
    · exact .inl (.inl (x.same t _ h nw))
    · exact .inl (.inr ⟨o, x.same t _ h nw⟩)
  · exact .inr h
theorem PartsN.lay {Hb : Hp} {v : V} {es : List D} {n : Nat} (x : Ext (fun _ => False) H H') (P : PartsN K Hb H v es n) : PartsN K Hb H' v es n := by
  obtain ⟨t, xs, rfl, ht, h⟩ := P
  refine ⟨t, xs, rfl, sqT_ext x (fun _ z => z.elim) ht, fun i ds hi hf => ?_⟩
  obtain ⟨p, ys, ds', a1, a2, a3, a4, a5, a6⟩ := h i ds hi hf
  exact ⟨p, ys, ds', a1, a2, x.same p _ a3 id, rpN_ext x (fun _ z => z.elim) a4 a5, a5, a6⟩
end
section
variable {fc : EvF} {bs : List Bool} {js ks is : List Nat} {f : EvS} {j : Nat} {ft : EvT} {env e e1 e2 e3 : En} {d : D} {b : Bool} {M : FnX} {fl fk : EvA} {pm : List R → List R → List R} {ds : List D} {l w : List R} {nm fd : Str}
end
end GD

namespace GD
open PySem PySem.Spec PyProof.Rows L2
section
variable {X : Cx}
end
section
variable {K : PySem.W.Frag}
end
section
variable {g : D → List D → Option D} {fe : EvE} {fl : EvA} {env e : En} {r : R} {d : D} {l : List R} {ds : List D}
end
end GD

namespace GD
open PySem PySem.Spec PyProof.Rows L2 GDX
section
variable {K : PySem.W.Frag}
end
section
variable {M : FnX} {fa : EvA} {env e : En} {l : List R} {dd ds : List D}
end
end GD

namespace GD
open PySem PySem.Spec PyProof.Rows L2
section
variable {X : Cx} {CX : CXT} {k1 k2 : Nat} {f1 f2 : Addr} {fd1 fd2 : FuncData} {ps1 ps2 : List Str} {sp1 sp2 : Sp} {E : XK} {pos : Pos} {e func : Expr} {es : List Expr} {t : TA} {tf : TE}
end
section
variable {K : PySem.W.Frag}
end
section
variable {fi : EvE} {M1 M2 : FnS} {fa : EvA} {env e : En} {r : R}
end
end GD

namespace GD
open PySem PySem.Spec PyProof.Rows L2
section
variable {K : PySem.W.Frag} {t1 t2 : TE} {f1 f2 : EvM}
end
section
variable {i j : Nat} {f1 f2 : EvM} {env e : En} {m m' : Mu}
end
end GD

namespace GD
open PySem PySem.Spec PyProof.Rows L2 GDX
section
variable {X : Cx}
end
section
variable {K : PySem.W.Frag} {te : TE} {fe : EvE}
end
section
variable {K : PySem.W.Frag} {O O' : Addr → Prop} {H H' : Hp}
def PartsL (K : PySem.W.Frag) (Hb H : Hp) (v : V) (es : List D) (n : Nat) : Prop := ∃ (t : Addr) (xs : List V), v = .ref t ∧ SqT K H t xs ∧ xs.length = es.length ∧
  (∀ (i : Nat) (d : D), es[i]? = some d → scalD d = true → ∃ x, xs[i]? = some x ∧ ∀ (O : Addr → Prop) (H : Hp), Rp K O H x d) ∧
  ∀ (i : Nat) (ds : List D), es[i]? = some (.list ds) → ds.all flatD = true →
  ∃ (p : Addr) (ys : List V) (ds' : List D), xs[i]? = some (.ref p) ∧ Hb p = none ∧ H p = some (.lst ys) ∧ RpAll K (NewP H) H ys ds' ∧ ds'.all flatD = true ∧ ds'.length ≤ ds.length + n
theorem PartsL.lay {Hb : Hp} {v : V} {es : List D} {n : Nat} (x : Ext (fun _ => False) H H') (P : PartsL K Hb H v es n) : PartsL K Hb H' v es n := by
  obtain ⟨t, xs, rfl, ht, hl, hs, h⟩ := P
  refine ⟨t, xs, rfl, sqT_ext x (fun _ z => z.elim) ht, hl, hs, fun i ds hi hf => ?_⟩
  obtain ⟨p, ys, ds', a1, a2, a3, a4, a5, a6⟩ := h i ds hi hf
  exact ⟨p, ys, ds', a1, a2, x.same p _ a3 id, rpN_ext x (fun _ z => z.elim) a4 a5, a5, a6⟩
theorem PartsL.more {Hb : Hp} {v : V} {es : List D} {n : Nat} (P : PartsL K Hb H v es n) : PartsL K Hb H v es (n + 1) := by
  obtain ⟨t, xs, rfl, ht, hl, hs, h⟩ := P
  refine ⟨t, xs, rfl, ht, hl, hs, fun i ds hi hf => ?_⟩
  obtain ⟨p, ys, ds', a1, a2, a3, a4, a5, a6⟩ := h i ds hi hf
  exact ⟨p, ys, ds', a1, a2, a3, a4, a5, by omega⟩
end
section
variable {fc : EvF} {bs : List Bool} {js : List Nat} {f : EvS} {j jp : Nat} {env e e1 e2 : En} {d : D} {b : Bool} {M : FnS} {fl fk : EvA} {pm : List R → List R → List R}
end
end GD

set_option maxHeartbeats 2000000
namespace GD
open PySem PySem.Spec PyProof.Rows L2
end GD

set_option maxHeartbeats 2000000
namespace GD
open PySem PySem.Spec PyProof.Rows L2 GDX
abbrev TbL := List (Addr × Str)
def InT (T : TbL) (a : Addr) : Prop := ∃ p ∈ T, p.1 = a
structure Ste (T : TbL) (env : En) (σ : L2.St) (H : Hp) (env' : En) (H' : Hp) : Prop where
  ext : Ext (fun a => Wr env σ a ∨ InT T a) H H'
  wr : ∀ a, Wr env' σ a → Wr env σ a
structure Stt (T : TbL) (env : En) (σ : L2.St) (H : Hp) (env' : En) (σ' : L2.St) (H' : Hp) : Prop where
  ext : Ext (fun a => Wr env σ a ∨ InT T a) H H'
  wr : ∀ a, Wr env' σ' a → Wr env σ a ∨ H a = none
section
variable {K : PySem.W.Frag} {T : TbL} {F : Frm} {Tm : Addr → Prop} {H H1 H2 H' : Hp} {env env1 env2 env' : En} {σ σ1 σ2 σ' : L2.St}
theorem Stp.t (a : Stp env σ H env' H') : Ste T env σ H env' H' := ⟨a.ext.mono fun x h => .inl h, a.wr⟩
theorem Stq.t (a : Stq env σ H env' σ' H') : Stt T env σ H env' σ' H' := ⟨a.ext.mono fun x h => .inl h, a.wr⟩
theorem Ste.q (a : Ste T env σ H env' H') : Stt T env σ H env' σ H' := ⟨a.ext, fun x h => .inl (a.wr x h)⟩
theorem Ste.trans (a : Ste T env σ H env1 H1) (b : Ste T env1 σ H1 env2 H2) : Ste T env σ H env2 H2 :=
  ⟨a.ext.trans b.ext fun x h => .inl (h.imp (a.wr x) id), fun x h => a.wr x (b.wr x h)⟩
theorem Stt.trans (a : Stt T env σ H env1 σ1 H1) (b : Stt T env1 σ1 H1 env2 σ2 H2) : Stt T env σ H env2 σ2 H2 := by
  refine ⟨a.ext.trans b.ext fun x h => ?_, fun x h => ?_⟩
  · rcases h with h | h
    · exact (a.wr x h).imp .inl id
    · exact .inl (.inr h)
  · rcases b.wr x h with h | h
    · exact a.wr x h
    · refine .inr ?_
      cases q : H x with
      | none => rfl
      | some o => exact absurd h (a.ext.live x (by rw [q]; simp))
theorem Stt.refl : Stt T env σ H env σ H := ⟨Ext.refl, fun _ h => .inl h⟩
end
def SEndT (K : PySem.W.Frag) (T : TbL) (F : Frm) (env : En) (σ : L2.St) (H : Hp) (env' : En) (Dn : Ends) : Fl → Prop
  | .nx => ∀ σ' H', StOk K F T0 H' env' σ' → LamX.Tabs T H' → Stt T env σ H env' σ' H' → Dn.nx σ' H'
  | .bk => ∀ σ' H', StOk K F T0 H' env' σ' → LamX.Tabs T H' → Stt T env σ H env' σ' H' → Dn.bk σ' H'
  | .ct => ∀ σ' H', StOk K F T0 H' env' σ' → LamX.Tabs T H' → Stt T env σ H env' σ' H' → Dn.ct σ' H'
  | .rt r => ∀ v σ' H', RetOk K F H' v env' σ' r → Dn.rt v H'
section
variable {K : PySem.W.Frag} {T : TbL} {t u : TS} {f g : EvS} {c : TT} {fc : EvT} {ta tb : TE} {fa fb : EvE}
theorem SEndT.pre {F : Frm} {env env1 env' : En} {σ σ1 : L2.St} {H H1 : Hp} {Dn : Ends} {fl : Fl} (h : SEndT K T F env σ H env' Dn fl) (b : Stt T env σ H env1 σ1 H1) : SEndT K T F env1 σ1 H1 env' Dn fl := by
  cases fl with
  | nx => exact fun σ' H' S tt q => h σ' H' S tt (b.trans q)
  | bk => exact fun σ' H' S tt q => h σ' H' S tt (b.trans q)
  | ct => exact fun σ' H' S tt q => h σ' H' S tt (b.trans q)
  | rt r => exact h
end
end GD

set_option maxHeartbeats 4000000
namespace GD
open PySem PySem.Spec PyProof.Rows L2 GDX
open LamX (CodeO TabS Tabs LamS lamEnv lamCx TabB)
section
variable {X : Cx} {pins : List (Addr × Obj)} {σ : L2.St} {H : Hp} {s : Shared}
end
end GD

set_option maxHeartbeats 4000000
namespace GD
open PySem PySem.Spec PyProof.Rows L2 GDX
open LamX (CodeO TabS Tabs LamS lamEnv lamCx TabB)
section
variable {K : PySem.W.Frag} {T : TbL} {F : Frm} {Tm : Addr → Prop} {H H1 : Hp} {env : En} {σ : L2.St}
end
section
variable {K : PySem.W.Frag} {C : Frm → L2.St → Prop} {te : WX → TE} {fe : EvER} {t u : TS} {f g : EvS}
end
end GD

set_option maxHeartbeats 4000000
namespace GD
open PySem PySem.Spec PyProof.Rows L2 GDX
open LamX (CodeO TabS Tabs LamS lamEnv lamCx TabB)
section
variable {e : En} {d : D} {m : Mu} {b : RX → EvS} {rx : RX} {n : Nat}
end
section
variable {M : RX → Option D} {fb : EvER} {env : En} {fe : EvER} {rx : RX} {w : Str}
end
end GD

set_option maxHeartbeats 4000000
namespace GD
open PySem PySem.Spec PyProof.Rows L2 GDX
inductive RX2 where
  | ret (r : Ret)
  | rs (nm f : Str) (d : D)
abbrev FnX2 := List D → Option RX2
section
variable {K : PySem.W.Frag}
end
section
variable {X : Cx} {d : Addr} {tb : List (Str × Int)}
end
section
variable {K : PySem.W.Frag} {te : TE} {fe : EvE} {tb : List (Str × Int)} {d : Addr}
end
section
variable {e env : En} {ds : List D} {d : D} {nm fd k : Str} {m : Mu} {l : List R} {tb : List (Str × Int)} {fe : EvE} {fa : EvA} {M : FnX2} {r : Ret} {i : Int} {kvs : List (Str × Int)}
end
end GD

namespace GD
open PySem PySem.Spec PyProof.Rows L2
section
variable {X : Cx}
end
section
variable {K : PySem.W.Frag} {te : TE} {fe : EvE}
end
end GD

set_option maxHeartbeats 4000000
namespace GDX
open PySem PySem.Spec PyProof.Rows L2
namespace XP
variable {X : Cx} {C fI : Addr} {nm : Str} {bmB : List Value} {B newId initId : String}
end XP
end GDX
namespace GD
open PySem PySem.Spec PyProof.Rows L2 GDX
section
variable {X : Cx} {W : WX} {a : Expr} {ta : TA} {C fI : Addr} {nm : Str} {p pos p2 pos2 : Pos} {k i : Nat} {x : Str}
end
end GD

namespace GD
open PySem PySem.Spec PyProof.Rows L2
def rCntB (K : PySem.W.Frag) : V → List V → Hp → VK → Prop := fun x vs H Q => ∃ (p : Addr) (bs : List Bool) (b : Bool), x = .ref p ∧ vs = [.bl b] ∧ SqL K H p (bs.map .bl) ∧ Q (.int ((bs.countP fun y => decide (y = b) : Nat) : Int)) H
theorem reads_bs (h : Heap) : ∀ {bs : List Bool} {its : List Value}, Vals (bs.map V.bl) its → ReadsAll h its (bs.map PyData.bool) (bs.map fun _ => ([] : List Addr)).flatten
  | [], _, .nil => .nil
  | b :: bs, _, .cons r t => by
    obtain rfl := (show _ = Value.bool b from r)
    have := reads_bs h t
    exact ReadsAll.cons (.bool b) this
theorem plain_bs : ∀ bs : List Bool, PyData.plainAll (bs.map PyData.bool) = true
  | [] => rfl
  | b :: bs => by rw [List.map_cons, PyData.plainAll, plain_bs bs]; rfl
theorem mt_cntB {X : Cx} (hu : X.A.units + 64 < cLine) : MtR X "list.count" (rCntB X.K) := by
  intro pins s σ H x xs v us Q I rx rxs h
  obtain ⟨p, bs, b, rfl, rfl, hl, q⟩ := h
  cases rx
  obtain ⟨u, rfl, ru⟩ := Vals.one rxs
  obtain rfl := (show u = Value.bool b from ru)
  obtain ⟨its, rv, pl, hz⟩ := I.list hl
  refine PySem.SeqAt.count_list_data (vs := its.toArray) (xs := bs.map .bool) (d := .bool b) pl.isList (by simpa using reads_bs s.heap rv) (.bool b) (plain_bs bs) rfl ?_ ⟨.int _, H, I.tok _, ⟨s.toks, ?_⟩, q⟩
  · have : PyData.depth (.bool b) = 0 := by rw [PyData.depth]
    rw [this, Nat.min_zero]
    omega
  · rw [List.countP_map]
    have e : ((fun y => PyData.eqv y (.bool b)) ∘ PyData.bool) = fun y => decide (y = b) := by
      funext y
      cases y <;> cases b <;> rfl
    rw [e]
def mCntB : D → List D → Option D
  | .list ds, [.bool b] => (boolsOf ds).map fun bs => .int ((bs.countP fun y => decide (y = b) : Nat) : Int)
  | _, _ => none
theorem bm_cntB {K : PySem.W.Frag} : BmD K (rCntB K) mCntB := by
  intro O H x d vs ds z hO l1 l2 hz Q q
  match d, ds, hz, l1, l2 with
  | .list es, [.bool b], hz, l1, l2 =>
    simp only [mCntB, Option.map_eq_some_iff] at hz
    obtain ⟨bs, hb, rfl⟩ := hz
    obtain ⟨v, rfl, h⟩ := LvAll.one l2
    obtain ⟨a, xs, rfl, s1, r1⟩ := l1
    have e := boolsOf_ok r1 hb
    subst e
    obtain rfl := (show v = V.bl b from by cases h; rfl)
    exact ⟨a, bs, b, rfl, rfl, .inl (.inl s1), q _ H Ext.refl (.int _)⟩
end GD

set_option maxHeartbeats 4000000
namespace GD
open PySem PySem.Spec PyProof.Rows L2
structure RepOk (its : List Value) (k : Int) : Prop where
  ne : its ≠ []
  lo : 2 ≤ k
  hi : k ≤ 1000
  len : its.length ≤ 1000
theorem RepOk.full {its : List Value} {k : Int} (h : RepOk its k) : its.toArray.isEmpty = false := by
  have := h.ne
  cases its with
  | nil => exact absurd rfl this
  | cons a b => rfl
section
variable {K : PySem.W.Frag}
end
section
variable {K : PySem.W.Frag} {k m : Nat} {M : FnX} {fa : EvA} {ta : TA} {dds : List D} {dvs : List V}
end
end GD

set_option maxHeartbeats 4000000
namespace GD
open PySem PySem.Spec PyProof.Rows L2
section
variable {K : PySem.W.Frag} {C : Frm → L2.St → Prop} {te : WX → TE} {fe : EvER}
variable {fa : EvE} {env e : En} {r : R} {nm f : Str} {d : D}
end
section
variable {X : Cx} {pins : List (Addr × Obj)} {σ : L2.St} {H : Hp} {s : Shared} {Q : VK}
end
section
variable {K : PySem.W.Frag}
end
end GD

set_option maxHeartbeats 4000000
namespace GD
open PySem PySem.Spec PyProof.Rows L2
structure ClsO (K : PySem.W.Frag) (nm : Str) (C : Addr) : Prop where
  at_ : PySem.W.nsIn K mainGlobals nm = some (some (.ref C))
  cl : Cls K C
abbrev EvSO := Addr → List D → En → Option (Fl × List D × En)
def OF (F : Frm) (l : Addr) : Prop := F.O0 l ∧ F.W0 l
def LAt (K : PySem.W.Frag) (O : Addr → Prop) (H : Hp) (l : Addr) (st : List D) : Prop := ∃ xs, H l = some (.lst xs) ∧ RpAll K O H xs st
structure OSt (K : PySem.W.Frag) (F : Frm) (l : Addr) (H : Hp) (env : En) (σ : L2.St) (st : List D) : Prop where
  S : StOk K F T0 H env σ
  nw : ¬ Wr env σ l
  h : LAt K (Ow F T0 env σ) H l st
structure OStq (l : Addr) (env : En) (σ : L2.St) (H : Hp) (env' : En) (σ' : L2.St) (H' : Hp) : Prop where
  ext : Ext (fun a => Wr env σ a ∨ a = l) H H'
  wr : ∀ a, Wr env' σ' a → Wr env σ a ∨ H a = none
section
variable {K : PySem.W.Frag} {F : Frm} {l : Addr} {H H1 H2 H' : Hp} {env env1 env2 env' : En} {σ σ1 σ2 σ' : L2.St} {st st' : List D}
theorem OStq.refl : OStq l env σ H env σ H := ⟨Ext.refl, fun _ h => .inl h⟩
theorem _root_.GD.Stq.o (q : Stq env σ H env' σ' H') : OStq l env σ H env' σ' H' := ⟨q.ext.mono fun _ h => .inl h, q.wr⟩
theorem OStq.trans (a : OStq l env σ H env1 σ1 H1) (b : OStq l env1 σ1 H1 env2 σ2 H2) : OStq l env σ H env2 σ2 H2 :=
  ⟨a.ext.trans b.ext fun x h => h.elim (fun q => (a.wr x q).elim (fun z => .inl (.inl z)) .inr) fun q => .inl (.inr q), fun x q => by
    rcases b.wr x q with q | q
    · exact a.wr x q
    · refine .inr ?_
      cases e : H x with
      | none => rfl
      | some o => exact absurd q (a.ext.live x (by rw [e]; simp))⟩
theorem LAt.alive {O : Addr → Prop} (h : LAt K O H l st) : H l ≠ none := by
  obtain ⟨xs, e, _⟩ := h
  rw [e]
  simp
theorem OSt.pure (P : OSt K F l H env σ st) (S' : StOk K F T0 H' env' σ') (q : Stq env σ H env' σ' H') : OSt K F l H' env' σ' st := by
  refine ⟨S', fun z => ?_, ?_⟩
  · rcases q.wr l z with z | z
    · exact P.nw z
    · exact P.h.alive z
  · obtain ⟨xs, e, r⟩ := P.h
    exact ⟨xs, q.ext.same l _ e P.nw, r.stq q⟩
theorem OSt.put (O : OF F l) (P : OSt K F l H env σ st) {u : HO} (hu : ∀ a, Wr env σ a → a ≠ l := fun a z e => P.nw (e ▸ z)) : StOk K F T0 (upd H l u) env σ ∧ OStq l env σ H env σ (upd H l u) := by
  have S := P.S
  have kk : ∀ b o, ¬ Ow F T0 env σ b → H b = some o → upd H l u b = some o := fun b o n e => by rw [upd_ne (fun z => n (by subst z; exact .inl O.1))]; exact e
  have ext : Ext (fun a => Wr env σ a ∨ a = l) H (upd H l u) := ⟨fun b o e n => by rw [upd_ne (fun z => n (.inr z))]; exact e, fun b e => by
    by_cases z : b = l
    · subst z; rw [upd_same]; simp
    · rw [upd_ne z]; exact e⟩
  refine ⟨⟨S.len, fun i d e => let ⟨v, e1, r⟩ := S.shr i d e; ⟨v, e1, r.tr (fun _ _ _ n => n) kk⟩, fun i p m e => ?_, S.dis, ⟨fun b o e n => ?_, fun b e => ext.live b (S.ext.live b e)⟩, S.dom, S.sub, fun a h => h.elim, fun a h => h.elim⟩, ext, fun _ h => .inl h⟩
  · obtain ⟨a, e1, r, c⟩ := S.own i p m e
    exact ⟨a, e1, r.tr (fun _ _ _ n => n) kk (fun o q => by rw [upd_ne (hu a ⟨i, p, m, e, e1⟩)]; exact q), c⟩
  · rw [upd_ne (fun z => n (by subst z; exact O.2))]
    exact S.ext.same b o e n
end
def OEnd (K : PySem.W.Frag) (F : Frm) (l : Addr) (env : En) (σ : L2.St) (H : Hp) (st' : List D) (env' : En) (Dn : Ends) : Fl → Prop
  | .nx => ∀ σ' H', OSt K F l H' env' σ' st' → OStq l env σ H env' σ' H' → Dn.nx σ' H'
  | .bk => ∀ σ' H', OSt K F l H' env' σ' st' → OStq l env σ H env' σ' H' → Dn.bk σ' H'
  | .ct => ∀ σ' H', OSt K F l H' env' σ' st' → OStq l env σ H env' σ' H' → Dn.ct σ' H'
  | .rt (.val d) => ∀ v σ' H', OSt K F l H' env' σ' st' → Rp K (Ow F T0 env' σ') H' v d → Dn.rt v H'
  | .rt (.new m) => ∀ σ' H', OSt K F l H' env' σ' st' → m = .l st' → Dn.rt (.ref l) H'
section
variable {K : PySem.W.Frag} {t u : TS} {f g : EvSO} {c : TT} {fc : EvT} {te : TE} {fe : EvE}
theorem OEnd.pre {F : Frm} {l : Addr} {env env1 env' : En} {σ σ1 : L2.St} {H H1 : Hp} {st' : List D} {Dn : Ends} {fl : Fl} (h : OEnd K F l env σ H st' env' Dn fl) (b : OStq l env σ H env1 σ1 H1) : OEnd K F l env1 σ1 H1 st' env' Dn fl := by
  cases fl with
  | nx => exact fun σ' H' S q => h σ' H' S (b.trans q)
  | bk => exact fun σ' H' S q => h σ' H' S (b.trans q)
  | ct => exact fun σ' H' S q => h σ' H' S (b.trans q)
  | rt r => cases r <;> exact h
end
end GD

set_option maxHeartbeats 4000000
namespace GD
open PySem PySem.Spec PyProof.Rows L2
section
variable {K : PySem.W.Frag}
section
variable {F : Frm} {H H' : Hp} {env : En} {σ : L2.St} {l : Addr} {st : List D}
theorem RvAll.put (O : OF F l) {u : HO} : ∀ {vs : List V} {L : List R}, RvAll K F T0 H env σ vs L → RvAll K F T0 (upd H l u) env σ vs L
  | [], [], _ => trivial
  | v :: vs, r :: rs, h => ⟨by
      cases r with
      | val d => exact Rp.tr (fun _ _ _ n => n) (fun b o n e => by rw [upd_ne (fun z => n (by subst z; exact .inl O.1))]; exact e) h.1
      | slot i => exact h.1, RvAll.put O h.2⟩
  | [], _ :: _, h => h.elim
  | _ :: _, [], h => h.elim
end
end
end GD

set_option maxHeartbeats 4000000
namespace GD
open PySem PySem.Spec PyProof.Rows L2
section
variable {X : Cx} {CX : CXT} {k : Nat} {f C : Addr} {fd : FuncData} {ps : List Str} {sp : Sp} {dvs : List V} {ds : List Value} {E : XK} {x m : Str} {p pos apos : Pos} {e o : Expr} {es : List Expr} {ta : TE} {t : TA}
end
section
variable {K : PySem.W.Frag} {F : Frm} {l : Addr} {H : Hp} {env : En} {σ : L2.St}
end
end GD

set_option maxHeartbeats 4000000
namespace GDX
open PySem PySem.Spec PyProof.Rows L2
abbrev two (a x : Expr) (fs : List Expr) (b y : Expr) (gs : List Expr) : List Comprehension := [⟨a, x, fs, 0⟩, ⟨b, y, gs, 0⟩]
section
variable {pg : Program} {w : World} {A : Around} {R : Result → Shared → Prop} {ke ve a x b y : Expr} {fs gs : List Expr} {sc : Scope} {ps : Pos} {i dv : Value} {d : Addr} {en : Env} {s : Shared}
end
section
variable {X : Cx}
end
end GDX
namespace GD
open PySem PySem.Spec PyProof.Rows L2 GDX
section
variable {K : PySem.W.Frag} {tk tv : TE} {fk fv : EvE} {tt tt1 : TT} {ft ft1 : EvT}
end
end GD

set_option maxHeartbeats 4000000
namespace GD
open PySem PySem.Spec PyProof.Rows L2 GDX
section
variable {K : PySem.W.Frag}
end
section
variable {p : Bool} {l : Addr} {now goal machine d : D} {env : En} {i : Nat}
end
end GD

namespace GD
open PySem PySem.Spec PyProof.Rows L2
section
variable {K : PySem.W.Frag}
end
end GD

namespace GD
open PySem PySem.Spec PyProof.Rows L2
section
variable {K : PySem.W.Frag}
end
section
variable {M : FnS} {fl : EvA} {env : En}
end
end GD

namespace GD
open PySem PySem.Spec PyProof.Rows L2
section
variable {K : PySem.W.Frag} {t1 t2 : TE} {f1 : EvE} {f2 : EvM}
end
section
variable {i j : Nat} {f1 : EvE} {f2 : EvM} {env e : En} {r : R} {d : D} {m : Mu}
end
end GD

set_option maxHeartbeats 4000000
namespace GD
open PySem PySem.Spec PyProof.Rows L2
section
variable {K : PySem.W.Frag}
variable {te : TE} {fe : EvE} {tt : TT} {ft : EvT}
end
end GD

set_option maxHeartbeats 4000000
namespace GD
open PySem PySem.Spec PyProof.Rows L2
section
variable {K : PySem.W.Frag}
end
end GD

set_option maxHeartbeats 4000000
namespace GD
open PySem PySem.Spec PyProof.Rows L2
section
variable {K : PySem.W.Frag} {td ty tx : TE} {fd fk fz : EvE}
end
end GD

set_option maxHeartbeats 4000000
namespace GD
open PySem PySem.Spec PyProof.Rows L2
section
variable {K : PySem.W.Frag}
end
end GD

set_option maxHeartbeats 2000000
namespace GD
open PySem PySem.Spec PyProof.Rows L2 GDX
structure X0T (K : PySem.W.Frag) (mg : Str → Option Value) (nm : Str) (bmB : List Value) (newId : String) (C : Addr) : Prop where
  gC : mg nm = some (.ref C)
  kC : PySem.W.keepIn K (.ref C) = true
  q : PySem.W.excIn K C bmB newId = true
  exC : PySem.W.subIn K (.ref C) (.type "BaseException") = some true
  tyC : PySem.W.typeIn K (.ref C) = some (.type "type")
  hdC : PySem.W.hasDictIn K C = true
def tRz0 (C : Addr) (W : WX) : TS := fun _ σ H => W (.ref C) none σ H
section
variable {X : Cx} {C : Addr} {bmB : List Value} {B newId initId : String} {x : Str} {p pos pos2 : Pos}
theorem pmk_own0 (F : ExcBaseFacts B newId initId bmB) (q : PySem.W.excIn X.K C bmB newId = true) (gC : X.mg x = some (.ref C)) (kC : PySem.W.keepIn X.K (.ref C) = true) (r : Raises X (.ref C)) (hg : Gl X x)
    (hdb : (x == ("__debug__" : Str)) = false := by decide) : PMk X (.Call (.Name x p) [] [] pos) (fun _ H Q => Q (.ref C) none H) := by
  intro pins s σ H Q I h
  refine wpAny_Call_Name_kw (ld_glob I hg gC ?_ hdb)
  refine PySem.W.callWith_K0 I.kIn kC ?_
  show wpAny _ _ (call (.ref C) []) _ _ _
  obtain ⟨hp, g, dr, tk, os⟩ := s
  obtain ⟨bm, N, nm, qn, bs, hdct, sn, sub, ab, col, dd, k0, k1, k2, k3, k5, mN, hC, hN, hni, T⟩ := exc_obj I.kIn q
  refine wpAny_call_exc_subT F T hC hN hni (fun h' e hm => ?_) (by show 0 ≤ sizeLine; omega)
  exact mk_of I hm r h (I.hok.gone hm.new)
theorem ps_rz0 {W : WX} (F : ExcBaseFacts B newId initId bmB) (T : X0T X.K X.mg x bmB newId C) (hc : X.calm = true) (tk : Takes X W) (hg : Gl X x) (hdb : (x == ("__debug__" : Str)) = false := by decide) :
    PS X (.Raise (some (.Call (.Name x p) [] [] pos)) none pos2) (tRz0 C W) := ps_raise hc tk (pmk_own0 F T.q T.gC T.kC (raises_own T.exC T.tyC) hg hdb)
end
def sxRz0 (nm : Str) : EvSX := fun env => some (.rs nm ("" : Str) .none, env)
section
variable {K : PySem.W.Frag} {C : Addr} {nm : Str}
theorem isy_rz0 (hC : PySem.W.nsIn K mainGlobals nm = some (some (.ref C))) : ISY K (tRz0 C) (sxRz0 nm) := by
  intro F env σ H fl env' S e W Dn k
  cases e
  have z := k C .non σ H 0 hC S Stq.refl .non (.inl rfl)
  rwa [xDx_e, xH_e] at z
end
theorem q_rz0 {nm : Str} {e : En} : sxRz0 nm e = some (.rs nm ("" : Str) .none, e) := rfl
abbrev ClsR := Addr ⊕ String
def clV : ClsR → V
  | .inl c => .ref c
  | .inr t => .ty t
def clU : ClsR → Value
  | .inl c => .ref c
  | .inr t => .type t
def rIsXM (K : PySem.W.Frag) : List V → Hp → VK → Prop := fun xs H Q => ∃ (a C : Addr) (dxo : Option Addr) (tp : Addr) (cs : List ClsR) (b : Bool), xs = [.ref a, .ref tp] ∧ H a = some (XO (.ref C) dxo a) ∧ (∀ dx, dxo = some dx → ∃ fs, H dx = some (.xd fs)) ∧ H tp = some (.tup (cs.map clV)) ∧ ExcC K C ∧
  PySem.W.kitAny K (.ref C) (cs.map clU) = some b ∧ Q (.bl b) H
theorem cls_vals : ∀ {cs : List ClsR} {us : List Value}, Vals (cs.map clV) us → us = cs.map clU
  | [], _, .nil => rfl
  | .inl c :: cs, _, .cons r t => by rw [List.map_cons, ← cls_vals t, show _ = Value.ref c from r]; rfl
  | .inr c :: cs, _, .cons r t => by rw [List.map_cons, ← cls_vals t, show _ = Value.type c from r]; rfl
theorem call_isXM {X : Cx} : CallR X (.builtin "isinstance") (rIsXM X.K) := by
  intro pins s σ H xs us Q I r h
  obtain ⟨a, C, dxo, tp, cs, b, rfl, ea, ed, hT, T, e, q⟩ := h
  match us, r with
  | [_, t], .cons rx (.cons rt .nil) =>
    obtain rfl : _ = Value.ref a := rx
    obtain rfl : t = Value.ref tp := rt
    obtain ⟨oe, od, J⟩ := inst_of0 I ea ed
    obtain ⟨_, its, rv, o, h1, h2, n, h3⟩ := (show ObjOk X.prog X.w H s.heap tp (.tup (cs.map clV)) from I.hok tp _ hT)
    have e3 := cls_vals rv
    obtain ⟨oc, od2, dt, sl⟩ := o
    simp only at h2 h3
    subst h2 h3
    first
      | (rw [← e3] at e; exact PySem.W.kia_tup (PySem.W.gd_kitx T) I.kIn J h1 e (fun z => nomatch z) fun tk => ⟨.bl b, H, I.kept (t' := tk) fun _ _ z => z, rfl, q⟩)
      | (subst e3; exact PySem.W.kia_tup (PySem.W.gd_kitx T) I.kIn J h1 e (fun z => nomatch z) fun tk => ⟨.bl b, H, I.kept (t' := tk) fun _ _ z => z, rfl, q⟩)
def taCsM : List ClsR → TA
  | [] => tNil
  | c :: cs => tCons (tC (clV c)) (taCsM cs)
theorem taCsM_run : ∀ (cs : List ClsR) (σ : L2.St) (H : Hp) (Q : List V → Hp → Prop), Q (cs.map clV) H → taCsM cs σ H Q
  | [], _, _, _, q => q
  | c :: cs, σ, H, Q, q => taCsM_run cs σ H _ q
section
variable {K : PySem.W.Frag}
theorem ie_isXM {cs : List ClsR} {k : Str → Option Bool} {te : TE} {fe : EvE} (hl : cs.length ≤ 20) (hk : ∀ nm b C, k nm = some b → PySem.W.nsIn K mainGlobals nm = some (some (.ref C)) → ExcC K C ∧ PySem.W.kitAny K (.ref C) (cs.map clU) = some b) (he : IE K te fe) :
    IE K (tCB (rIsXM K) (tCons te (tCons (tTup (taCsM cs)) tNil))) (eIsX k fe) := by
  intro F T env σ H r env' S e Q q
  simp only [eIsX, Option.bind_eq_some_iff, Option.map_eq_some_iff] at e
  obtain ⟨⟨d, e1⟩, h1, b, ⟨nm, h2, h2'⟩, h3⟩ := e
  cases h3
  refine i1 he S h1 fun x H' S' st l => ?_
  obtain ⟨f', d', rfl⟩ := excNm_of h2
  refine taCsM_run cs σ H' _ ⟨by rw [List.length_map, sizeLine_eq]; omega, fun p np => ?_⟩
  obtain ⟨a, dx, C, y, rfl, hC, ha, hd, _⟩ := exc_lv (lv_new (o := .tup (cs.map clV)) np l) rfl
  obtain ⟨T1, T2⟩ := hk nm b C h2' hC
  have x : Ext (fun _ => False) H' (upd H' p (.tup (cs.map clV))) := Ext.new np
  exact ⟨a, C, xDx f' dx, p, cs, b, rfl, ha, fun dx' e => xd_live e hd, upd_same, T1, T2, q _ _ (S'.lay x) (st.trans (Stp.lay x)) (.bl b)⟩
end
end GD

set_option maxHeartbeats 2000000
namespace GD
open PySem PySem.Spec PyProof.Rows L2 GDX
section
variable {K : PySem.W.Frag} {te : WX → TE} {fe : EvER}
def sxRetSel (x y : Str) (k : D → Option Bool) (fe : EvER) : EvSX := fun env => (fe env).bind fun p => match p.1 with
  | .v d => (k d).map fun b => (FlX.fl (.rt (.val (.str (if b = true then y else x)))), p.2)
  | .rs nm f d => some (.rs nm f d, p.2)
theorem isy_retSel {x y T : String} {a b : Str} {k : D → Option Bool} (hk : ∀ d b, k d = some b → isExc d = false ∧ PySem.W.kitOne K (.type (tyName d)) (.type T) = some b) (h : IER K te fe) :
    ISY K (fun W => tRet (tOp (rIx K) (tLst (tCons (tC (.str a)) (tCons (tC (.str b)) tNil))) (tCB rIntA (tCons (tCB (rIsi K) (tCons (te W) (tCons (tC (.ty T)) tNil))) tNil)))) (sxRetSel a b k fe) := by
  intro F env σ H fl env' S e W Dn kk
  simp only [sxRetSel, Option.bind_eq_some_iff] at e
  obtain ⟨⟨r, e1⟩, a1, a2⟩ := e
  refine ⟨by show 2 ≤ sizeLine; rw [sizeLine_eq]; decide, fun p np => ?_⟩
  have y0 : Ext (fun _ => False) H (upd H p (.lst [.str a, .str b])) := Ext.new np
  have S0 := S.lay y0
  have r0 : Rp K (Ow F T0 env σ) (upd H p (.lst [.str a, .str b])) (.ref p) (.list [.str a, .str b]) := .lst upd_same (S.fresh np) (.cons (.str a) (.one (.str b)))
  refine h F env σ _ r e1 S0 a1 W _ ?_
  have st0 : Stp env σ H env (upd H p (.lst [.str a, .str b])) := Stp.lay y0
  cases r with
  | rs nm f d =>
    cases a2
    exact fun C v H' dx hC S' st rv nd => kk C v σ H' dx hC S' (st0.trans st).q rv nd
  | v d =>
    simp only [Option.map_eq_some_iff] at a2
    obtain ⟨bb, h2, h3⟩ := a2
    cases h3
    intro x H' S' st rx
    have r1 := r0.stp st
    refine ⟨x, .ty T, .type (tyName d), .type T, bb, rfl, .ty T, lv_ty (hk d bb h2).1 rx.lv, (hk d bb h2).2, ?_⟩
    refine .inl (.inr ⟨bb, rfl, ?_⟩)
    refine od_ix (Ow F T0 _ σ) H' _ _ (.list [.str a, .str b]) (.int (if bb then 1 else 0)) (.str (if bb = true then b else a)) (fun a h => S'.olive h) r1.lv (Rp.lv (.int _)) (by cases bb <;> rfl) _ fun v H2 x2 rv => ?_
    exact kk v σ H2 ⟨S'.lay x2, rv⟩
def selR1 (x y : Str) (k : D → Option Bool) : Option (ER × En) → Option (FlX × En)
  | some (.v d, e) => (k d).map fun b => (FlX.fl (.rt (.val (.str (if b = true then y else x)))), e)
  | some (.rs nm f d, e) => some (.rs nm f d, e)
  | none => none
theorem q_rsel {x y : Str} {k : D → Option Bool} {env : En} : sxRetSel x y k fe env = selR1 x y k (fe env) := by
  unfold sxRetSel
  cases fe env with
  | none => rfl
  | some p => obtain ⟨r, e⟩ := p; cases r <;> rfl
theorem q_selv {x y : Str} {k : D → Option Bool} {d : D} {e : En} : selR1 x y k (some (.v d, e)) = (k d).map fun b => (FlX.fl (.rt (.val (.str (if b = true then y else x)))), e) := rfl
theorem q_selr {x y nm f : Str} {k : D → Option Bool} {d : D} {e : En} : selR1 x y k (some (.rs nm f d, e)) = some (.rs nm f d, e) := rfl
end
end GD

namespace My
open PySem PySem.Spec PyProof.Rows L2 GD GDX
def topS (i : Nat) : Stmt := PySem.Challenge.pw_gapdup_k07_errors_of_operations.main.body.getD i (.Pass ⟨0, 0, 0, 0⟩)
def fuel : Nat := 100000
abbrev s_is_integer : Stmt := topS 11
abbrev N_is_integer : List Str := ["value"]
theorem sc_is_integer : FnScope N_is_integer ["value"] (defScope s_is_integer) := ⟨rfl, rfl, rfl, by decide +kernel, rfl, by decide +kernel, by decide +kernel⟩
abbrev s_is_between : Stmt := topS 12
abbrev N_is_between : List Str := ["value", "least", "most"]
theorem sc_is_between : FnScope N_is_between ["value", "least", "most"] (defScope s_is_between) := ⟨rfl, rfl, rfl, by decide +kernel, rfl, by decide +kernel, by decide +kernel⟩
abbrev s_check_limit : Stmt := topS 15
abbrev N_check_limit : List Str := ["limit", "tables", "table"]
theorem sc_check_limit : FnScope N_check_limit ["limit", "tables"] (defScope s_check_limit) := ⟨rfl, rfl, rfl, by decide +kernel, rfl, by decide +kernel, by decide +kernel⟩
abbrev s_trimmed : Stmt := topS 17
abbrev N_trimmed : List Str := ["entries", "size"]
theorem sc_trimmed : FnScope N_trimmed ["entries"] (defScope s_trimmed) := ⟨rfl, rfl, rfl, by decide +kernel, rfl, by decide +kernel, by decide +kernel⟩
abbrev s_object_at : Stmt := topS 18
abbrev N_object_at : List Str := ["table", "slot"]
theorem sc_object_at : FnScope N_object_at ["table", "slot"] (defScope s_object_at) := ⟨rfl, rfl, rfl, by decide +kernel, rfl, by decide +kernel, by decide +kernel⟩
abbrev s_free_slot : Stmt := topS 19
abbrev N_free_slot : List Str := ["table", "start", "slot"]
theorem sc_free_slot : FnScope N_free_slot ["table", "start"] (defScope s_free_slot) := ⟨rfl, rfl, rfl, by decide +kernel, rfl, by decide +kernel, by decide +kernel⟩
abbrev s_with_entry : Stmt := topS 20
abbrev N_with_entry : List Str := ["table", "slot", "entry", "entries"]
theorem sc_with_entry : FnScope N_with_entry ["table", "slot", "entry"] (defScope s_with_entry) := ⟨rfl, rfl, rfl, by decide +kernel, rfl, by decide +kernel, by decide +kernel⟩
abbrev s_is_operation : Stmt := topS 28
abbrev N_is_operation : List Str := ["value", "one"]
theorem sc_is_operation : FnScope N_is_operation ["value"] (defScope s_is_operation) := ⟨rfl, rfl, rfl, by decide +kernel, rfl, by decide +kernel, by decide +kernel⟩
abbrev s_landing : Stmt := topS 29
abbrev N_landing : List Str := ["table", "operation"]
theorem sc_landing : FnScope N_landing ["table", "operation"] (defScope s_landing) := ⟨rfl, rfl, rfl, by decide +kernel, rfl, by decide +kernel, by decide +kernel⟩
abbrev s_apply : Stmt := topS 30
abbrev N_apply : List Str := ["table", "operation", "limit", "name", "slot"]
theorem sc_apply : FnScope N_apply ["table", "operation", "limit"] (defScope s_apply) := ⟨rfl, rfl, rfl, by decide +kernel, rfl, by decide +kernel, by decide +kernel⟩
abbrev s__law_pen : Stmt := topS 32
abbrev N__law_pen : List Str := ["_law_script"]
theorem sc__law_pen : FnScope N__law_pen ["_law_script"] (defScope s__law_pen) := ⟨rfl, rfl, rfl, by decide +kernel, rfl, by decide +kernel, by decide +kernel⟩
abbrev s__law_draw : Stmt := topS 33
abbrev N__law_draw : List Str := ["_law_pen_here", "_law_bound", "_law_digit", "_law_index", "_law_cell", "_law_great", "_law_mixed"]
theorem sc__law_draw : FnScope N__law_draw ["_law_pen_here", "_law_bound"] (defScope s__law_draw) := ⟨rfl, rfl, rfl, by decide +kernel, rfl, by decide +kernel, by decide +kernel⟩
abbrev s__law_pool : Stmt := topS 34
abbrev N__law_pool : List Str := ["_law_pen_here", "_law_many", "_law_letters", "_law_way", "_law_first", "_law_some", "_law_k", "_law_letter"]
theorem sc__law_pool : FnScope N__law_pool ["_law_pen_here", "_law_many"] (defScope s__law_pool) := ⟨rfl, rfl, rfl, by decide +kernel, rfl, by decide +kernel, by decide +kernel⟩
abbrev s__law_trimmed : Stmt := topS 35
abbrev N__law_trimmed : List Str := ["_law_entries", "_law_size"]
theorem sc__law_trimmed : FnScope N__law_trimmed ["_law_entries"] (defScope s__law_trimmed) := ⟨rfl, rfl, rfl, by decide +kernel, rfl, by decide +kernel, by decide +kernel⟩
abbrev s__law_table : Stmt := topS 36
abbrev N__law_table : List Str := ["_law_pen_here", "_law_pool_here", "_law_most", "_law_entries", "_law_slot", "_law_name"]
theorem sc__law_table : FnScope N__law_table ["_law_pen_here", "_law_pool_here", "_law_most"] (defScope s__law_table) := ⟨rfl, rfl, rfl, by decide +kernel, rfl, by decide +kernel, by decide +kernel⟩
abbrev s__law_heard : Stmt := topS 37
abbrev N__law_heard : List Str := ["_law_table_here", "_law_operation_here", "_law_cap", "_law_caught", "error", "_law_marks", "_law_bases", "_law_at"]
theorem sc__law_heard : FnScope N__law_heard ["_law_table_here", "_law_operation_here", "_law_cap"] (defScope s__law_heard) := ⟨rfl, rfl, rfl, by decide +kernel, rfl, by decide +kernel, by decide +kernel⟩
abbrev s__law_is_integer : Stmt := topS 38
abbrev N__law_is_integer : List Str := ["_law_value", "_law_least", "_law_most"]
theorem sc__law_is_integer : FnScope N__law_is_integer ["_law_value", "_law_least", "_law_most"] (defScope s__law_is_integer) := ⟨rfl, rfl, rfl, by decide +kernel, rfl, by decide +kernel, by decide +kernel⟩
abbrev s__law_is_operation : Stmt := topS 39
abbrev N__law_is_operation : List Str := ["_law_value", "_law_forms", "_law_one"]
theorem sc__law_is_operation : FnScope N__law_is_operation ["_law_value"] (defScope s__law_is_operation) := ⟨rfl, rfl, rfl, by decide +kernel, rfl, by decide +kernel, by decide +kernel⟩
abbrev s__law_due : Stmt := topS 40
abbrev N__law_due : List Str := ["_law_table_here", "_law_operation_here", "_law_cap", "_law_slot", "_law_start", "_law_open_slots", "_law_one"]
theorem sc__law_due : FnScope N__law_due ["_law_table_here", "_law_operation_here", "_law_cap"] (defScope s__law_due) := ⟨rfl, rfl, rfl, by decide +kernel, rfl, by decide +kernel, by decide +kernel⟩
abbrev s__law_operation : Stmt := topS 41
abbrev N__law_operation : List Str := ["_law_pen_here", "_law_table_here", "_law_slot", "_law_second", "_law_some", "_law_rare"]
theorem sc__law_operation : FnScope N__law_operation ["_law_pen_here", "_law_table_here"] (defScope s__law_operation) := ⟨rfl, rfl, rfl, by decide +kernel, rfl, by decide +kernel, by decide +kernel⟩
abbrev s__law_limit : Stmt := topS 42
abbrev N__law_limit : List Str := ["_law_pen_here", "_law_table_here", "_law_size", "_law_some", "_law_rare"]
theorem sc__law_limit : FnScope N__law_limit ["_law_pen_here", "_law_table_here"] (defScope s__law_limit) := ⟨rfl, rfl, rfl, by decide +kernel, rfl, by decide +kernel, by decide +kernel⟩
abbrev s_law : Stmt := topS 43
abbrev N_law : List Str := ["_law_script", "_law_pen_here", "_law_turn", "_law_pool_here", "_law_table_here", "_law_k", "_law_operation_here", "_law_cap", "_law_kept", "_law_entry"]
theorem sc_law : FnScope N_law ["_law_script"] (defScope s_law) := ⟨rfl, rfl, rfl, by decide +kernel, rfl, by decide +kernel, by decide +kernel⟩
def tb_LENGTHS : List (Str × Int) := [("dup", 2), ("dup_from", 3), ("dup2", 3), ("close", 2)]
abbrev sI_InvalidLimit : Stmt := (match topS 5 with | .ClassDef _ _ _ body _ _ _ _ _ _ _ => body.getD 0 (.Pass ⟨0, 0, 0, 0⟩) | x => x)
abbrev sI_FreeSlot : Stmt := (match topS 7 with | .ClassDef _ _ _ body _ _ _ _ _ _ _ => body.getD 0 (.Pass ⟨0, 0, 0, 0⟩) | x => x)
abbrev sI_TableFull : Stmt := (match topS 8 with | .ClassDef _ _ _ body _ _ _ _ _ _ _ => body.getD 0 (.Pass ⟨0, 0, 0, 0⟩) | x => x)
def isxk_FreeSlot : Str → Option Bool := fun nm => if nm = "InvalidOperation" then some false else if nm = "InvalidLimit" then some false else if nm = "FreeSlot" then some true else if nm = "TableFull" then some false else none
def isxk_InvalidLimit : Str → Option Bool := fun nm => if nm = "InvalidOperation" then some false else if nm = "InvalidLimit" then some true else if nm = "FreeSlot" then some false else if nm = "TableFull" then some false else none
def isxk_InvalidOperation : Str → Option Bool := fun nm => if nm = "InvalidOperation" then some true else if nm = "InvalidLimit" then some false else if nm = "FreeSlot" then some false else if nm = "TableFull" then some false else none
def isxk_TableFull : Str → Option Bool := fun nm => if nm = "InvalidOperation" then some false else if nm = "InvalidLimit" then some false else if nm = "FreeSlot" then some false else if nm = "TableFull" then some true else none
def isxk_TableError : Str → Option Bool := fun nm => if nm = "InvalidOperation" then some true else if nm = "InvalidLimit" then some true else if nm = "FreeSlot" then some false else if nm = "TableFull" then some false else none
def isxkB_LookupError : Str → Option Bool := fun nm => if nm = "InvalidOperation" then some false else if nm = "InvalidLimit" then some false else if nm = "FreeSlot" then some true else if nm = "TableFull" then some false else none
def isxkB_ValueError : Str → Option Bool := fun nm => if nm = "InvalidOperation" then some true else if nm = "InvalidLimit" then some true else if nm = "FreeSlot" then some false else if nm = "TableFull" then some false else none
def isxkB_OverflowError : Str → Option Bool := fun nm => if nm = "InvalidOperation" then some false else if nm = "InvalidLimit" then some false else if nm = "FreeSlot" then some false else if nm = "TableFull" then some true else none
def isxk_InvalidScript_InvalidTable_InvalidText_StepFailed_KeyError_IndexError_RuntimeError : Str → Option Bool := fun nm => if nm = "InvalidOperation" then some false else if nm = "InvalidLimit" then some false else if nm = "FreeSlot" then some false else if nm = "TableFull" then some false else none
def b_is_integer : EvS := (sRetX (xE (eAnd (eIsi "int" kIs_int (eVar 0)) (eNot (eIsi "bool" kIs_bool (eVar 0))))))
def m_is_integer : FnS := runB 1 b_is_integer
def b_is_between : EvS := (sRetX (xE (eAnd (eX (xCall m_is_integer (aCons (eGive 0) aNil))) (eChain dLe dLe (eVar 1) (eVar 0) (eVar 2)))))
def m_is_between : FnS := runB 3 b_is_between
def b_check_limit : EvSX := (sxSeq (sOf (sIf (tVal (eIsN (eVar 0))) sRetN sNext))
      (sxIf (tfOr (tfNot (tVal (eX (xCall m_is_between (aCons (eGive 0) (aCons (eC (.int 1)) (aCons (eC (.int 100)) aNil))))))) (tVal (eCa cAny (aCons (eX (xM (eComp [2] (wAny (eGive 1)) (gN 2) tYesE (eOp dGt (eCa cLen (aCons (eVar 2) aNil)) (eVar 0))))) aNil)))) (sxRz "InvalidLimit" "limit" (aCons (eGive 0) aNil)) (sOf sNext)))
def m_check_limit : FnX := runY 3 b_check_limit
def b_trimmed : EvS := (sSeq (sSetX 1 (xE (eCa cLen (aCons (eVar 0) aNil))))
      (sSeq (whE (tfAnd (tVal (eOp dGt (eVar 1) (eC (.int 0)))) (tVal (eIsN (eOp dIx (eVar 0) (eOp dSub (eVar 1) (eC (.int 1))))))) (sAug dSub 1 (eC (.int 1))) fuel)
      (sRetX (xE (eCa cTuple (aCons (eX (xSl (eVar 0) oNone (oSome (eVar 1)))) aNil))))))
def m_trimmed : FnS := runB 2 b_trimmed
def b_object_at : EvS := (sRetX (xIf (tVal (eOp dLt (eVar 1) (eCa cLen (aCons (eVar 0) aNil)))) (xE (eOp dIx (eVar 0) (eVar 1))) (xE (eC .none))))
def m_object_at : FnS := runB 2 b_object_at
def b_free_slot : EvS := (sSeq (sSetX 2 (xE (eGive 1)))
      (sSeq (whE (tVal (eNotN (eX (xCall m_object_at (aCons (eGive 0) (aCons (eGive 2) aNil)))))) (sAug dAddI 2 (eC (.int 1))) fuel)
      (sRetX (xE (eVar 2)))))
def m_free_slot : FnS := runB 3 b_free_slot
def b_with_entry : EvS := (sSeq (sSetX 3 (xOp dAddX (eX (xM (eCaM cList (aCons (eVar 0) aNil)))) (eX (xOp dMulX (eX (xM (eLst (aCons (eC .none) aNil)))) (eOp dSub (eX (xOp dAddX (eVar 1) (eC (.int 1)))) (eCa cLen (aCons (eVar 0) aNil)))))))
      (sSeq (sPut gSetL 3 (eVar 1) (eGive 2))
      (sRetX (xCall m_trimmed (aCons (eVar 3) aNil)))))
def m_with_entry : FnS := runB 4 b_with_entry
def b_is_operation : EvS := (sSeq (sIf (tfOr (tfNot (tVal (eIsi "tuple" kIs_tuple (eVar 0)))) (tfOr (tVal (eOp dEq0 (eVar 0) (eTup aNil))) (tfNot (tVal (eIsi "str" kIs_str (eOp dIx (eVar 0) (eC (.int 0)))))))) (sRetX (xE (eC (.bool false)))) sNext)
      (sRetX (xE (eAnd (eOp dEq (eCa cLen (aCons (eVar 0) aNil)) (eOp (dKGet tb_LENGTHS) (eOp dIx (eVar 0) (eC (.int 0))) (eC (.int 0)))) (eCa cAll (aCons (eX (xM (eComp [1] (wAny (eX (xSl (eVar 0) (oSome (eC (.int 1))) oNone))) (gN 1) tYesE (eX (xCall m_is_between (aCons (eGive 1) (aCons (eC (.int 0)) (aCons (eC (.int 999)) aNil)))))))) aNil))))))
def m_is_operation : FnS := runB 2 b_is_operation
def b_landing : EvS := (sSeq (sIf (tVal (eOp dEq (eOp dIx (eVar 1) (eC (.int 0))) (eC (.str ("close" : Str))))) (sRetX (xE (eC .none))) sNext)
      (sSeq (sIf (tVal (eOp dEq (eOp dIx (eVar 1) (eC (.int 0))) (eC (.str ("dup2" : Str))))) (sRetX (xE (eOp dIx (eVar 1) (eC (.int 2))))) sNext)
      (sRetX (xCallK m_free_slot (selA 1 1 false) (aCons (eGive 0) aNil) (aCons (eX (xIf (tVal (eOp dEq (eOp dIx (eVar 1) (eC (.int 0))) (eC (.str ("dup_from" : Str))))) (xE (eOp dIx (eVar 1) (eC (.int 2)))) (xE (eC (.int 0))))) aNil)))))
def m_landing : FnS := runB 2 b_landing
def b_apply : EvSX := (sxSeq (sxIf (tfNot (tVal (eX (xCall m_is_operation (aCons (eGive 1) aNil))))) (sxRz0 "InvalidOperation") (sOf sNext))
      (sxSeq (sxDrop (xCallX m_check_limit gR0 (aCons (eGive 2) (aCons (eX (xM (eLst (aCons (eGive 0) aNil)))) aNil)) aNil))
      (sxSeq (sOf (sSetX 3 (xCall m_object_at (aCons (eGive 0) (aCons (eOp dIx (eVar 1) (eC (.int 1))) aNil)))))
      (sxSeq (sxIf (tVal (eIsN (eVar 3))) (sxRz "FreeSlot" "slot" (aCons (eOp dIx (eVar 1) (eC (.int 1))) aNil)) (sOf sNext))
      (sxSeq (sOf (sSetX 4 (xCall m_landing (aCons (eGive 0) (aCons (eGive 1) aNil)))))
      (sxSeq (sOf (sIf (tVal (eIsN (eVar 4))) (sRetX (xCall m_with_entry (aCons (eGive 0) (aCons (eOp dIx (eVar 1) (eC (.int 1))) (aCons (eC .none) aNil))))) sNext))
      (sxSeq (sxIf (tfAnd (tVal (eNotN (eVar 2))) (tVal (eOp dGe (eVar 4) (eVar 2)))) (sxRz "TableFull" "limit" (aCons (eGive 2) aNil)) (sOf sNext))
      (sOf (sRetX (xCall m_with_entry (aCons (eGive 0) (aCons (eGive 4) (aCons (eGive 3) aNil)))))))))))))
def m_apply : FnX := runY 5 b_apply
def b__law_draw : EvS := (sSeq (sIf (tVal (eOp dGt (eOp dIx (eVar 0) (eC (.int 2))) (eC (.int 0)))) (sSeq (sSetX 2 (xE (eOp dMod (eOp dIx (eVar 0) (eC (.int 2))) (eVar 1))))
      (sSeq (sPut gSetL 0 (eC (.int 2)) (eOp dDiv (eOp dIx (eVar 0) (eC (.int 2))) (eVar 1)))
      (sRetX (xE (eVar 2))))) sNext)
      (sSeq (sSetX 3 (xE (eOp dIx (eVar 0) (eC (.int 1)))))
      (sSeq (sPut gSetL 0 (eC (.int 1)) (eX (xOp dAddX (eVar 3) (eC (.int 1)))))
      (sSeq (sSetX 4 (xOp dAddX (eOp dMul (eC (.int 40487)) (eVar 3)) (eC (.int 73))))
      (sSeq (sIf (tVal (eOp dNe (eOp dIx (eVar 0) (eC (.int 0))) (eX (xM (eLst aNil))))) (sSetX 4 (xE (eOp dIx (eOp dIx (eVar 0) (eC (.int 0))) (eOp dMod (eVar 3) (eCa cLen (aCons (eOp dIx (eVar 0) (eC (.int 0))) aNil)))))) sNext)
      (sSeq (sIf (tfAnd (tVal (eOp dLt (eVar 3) (eCa cLen (aCons (eOp dIx (eVar 0) (eC (.int 0))) aNil)))) (tVal (eOp dGe (eCa cAbs (aCons (eVar 4) aNil)) (eOp dPow (eC (.int 10)) (eC (.int 18)))))) (sSeq (sSetX 5 (xOp dAddX (eOp dMul (eC (.int 2)) (eCa cAbs (aCons (eVar 4) aNil))) (eCa cInt (aCons (eOp dLt (eVar 4) (eC (.int 0))) aNil))))
      (sSeq (sPut gSetL 0 (eC (.int 2)) (eOp dDiv (eVar 5) (eVar 1)))
      (sRetX (xE (eOp dMod (eVar 5) (eVar 1)))))) sNext)
      (sSeq (sSetX 6 (xE (eOp dMod (eOp dPow (eX (xOp dAddX (eX (xOp dAddX (eOp dMod (eVar 4) (eC (.int 2147483549))) (eOp dMul (eC (.int 30011)) (eVar 3)))) (eC (.int 59)))) (eC (.int 5))) (eC (.int 2147483579)))))
      (sSeq (sSetX 6 (xE (eOp dMod (eOp dPow (eX (xOp dAddX (eOp dMul (eVar 6) (eX (xOp dAddX (eOp dMul (eC (.int 2)) (eVar 3)) (eC (.int 11))))) (eC (.int 70003)))) (eC (.int 3))) (eC (.int 2147483629)))))
      (sRetX (xE (eOp dMod (eOp dDiv (eVar 6) (eC (.int 16))) (eVar 1))))))))))))
def m__law_draw : FnS := runB 7 b__law_draw
def b__law_pool : EvS := (sSeq (sSetX 2 (xE (eC (.str ("abcdefghijklmnopqrstuvwxyz" : Str)))))
      (sSeq (sSetX 3 (xCall m__law_draw (aCons (eVar 0) (aCons (eC (.int 3)) aNil))))
      (sSeq (sSetX 4 (xCall m__law_draw (aCons (eVar 0) (aCons (eC (.int 26)) aNil))))
      (sSeq (sSetX 5 (xM (eComp [6] (wRng1 (aCons (eVar 1) aNil)) (gN 6) tYesE (eOp dIx (eVar 2) (eOp dMod (eX (xOp dAddX (eVar 4) (eOp dMul (eC (.int 5)) (eVar 6)))) (eC (.int 26)))))))
      (sSeq (sIf (tVal (eOp dEq (eVar 3) (eC (.int 1)))) (sRetX (xM (eComp [7] (wAny (eGive 5)) (gN 7) tYesE (eX (xOp dAddX (eOp dMulS (eOp dIx (eVar 2) (eVar 4)) (eC (.int 7))) (eVar 7)))))) sNext)
      (sSeq (sIf (tVal (eOp dEq (eVar 3) (eC (.int 2)))) (sRetX (xM (eComp [6] (wRng1 (aCons (eVar 1) aNil)) (gN 6) tYesE (eOp dMulS (eOp dIx (eVar 5) (eVar 6)) (eX (xOp dAddX (eC (.int 1)) (eOp dMod (eVar 6) (eC (.int 8))))))))) sNext)
      (sRetX (xE (eVar 5)))))))))
def m__law_pool : FnS := runB 8 b__law_pool
def b__law_trimmed : EvS := (sSeq (sSetX 1 (xE (eCa cLen (aCons (eVar 0) aNil))))
      (sSeq (whE (tfAnd (tVal (eOp dGt (eVar 1) (eC (.int 0)))) (tVal (eIsN (eOp dIx (eVar 0) (eOp dSub (eVar 1) (eC (.int 1))))))) (sSetX 1 (xE (eOp dSub (eVar 1) (eC (.int 1))))) fuel)
      (sRetX (xE (eCa cTuple (aCons (eX (xSl (eVar 0) oNone (oSome (eVar 1)))) aNil))))))
def m__law_trimmed : FnS := runB 2 b__law_trimmed
def b__law_table : EvS := (sSeq (sSetX 3 (xM (eLst aNil)))
      (sSeq (sFor (wRng1 (aCons (eX (xCall m__law_draw (aCons (eVar 0) (aCons (eX (xOp dAddX (eVar 2) (eC (.int 1)))) aNil)))) aNil)) (gN 4) (sSeq (sSetX 5 (xE (eOp dIx (eVar 1) (eX (xCall m__law_draw (aCons (eVar 0) (aCons (eCa cLen (aCons (eVar 1) aNil)) aNil)))))))
      (sDrop (eMt "list" gApp 3 (aCons (eOp dIx (eX (xM (eLst (aCons (eC .none) (aCons (eGive 5) (aCons (eGive 5) aNil)))))) (eX (xCall m__law_draw (aCons (eVar 0) (aCons (eC (.int 3)) aNil))))) aNil)))))
      (sRetX (xCall m__law_trimmed (aCons (eVar 3) aNil)))))
def m__law_table : FnS := runB 6 b__law_table
def b__law_heard : EvS := (sSeq (sSetX 3 (xE (eC .none)))
      (sSeq (sTryG (sxRetSel "other" "table" kIs_tuple (xCallX m_apply (selA 2 1 false) (aCons (eGive 0) (aCons (eGive 1) aNil)) (aCons (eGive 2) aNil))) ["InvalidOperation", "InvalidLimit", "FreeSlot", "TableFull"] 4 (sSetX 3 (xE (eGive 4))))
      (sSeq (sSetX 5 (xM (eLst (aCons (eIsX isxk_InvalidOperation (eVar 3)) (aCons (eIsX isxk_InvalidLimit (eVar 3)) (aCons (eIsX isxk_FreeSlot (eVar 3)) aNil))))))
      (sSeq (sDrop (eMt "list" gApp 5 (aCons (eIsX isxk_TableFull (eVar 3)) aNil)))
      (sSeq (sSetX 6 (xM (eLst (aCons (eIsX isxk_TableError (eVar 3)) (aCons (eIsX isxkB_ValueError (eVar 3)) (aCons (eIsX isxkB_LookupError (eVar 3)) aNil))))))
      (sSeq (sDrop (eMt "list" gApp 6 (aCons (eIsX isxkB_OverflowError (eVar 3)) aNil)))
      (sSeq (sIf (tVal (eIsX isxk_InvalidScript_InvalidTable_InvalidText_StepFailed_KeyError_IndexError_RuntimeError (eVar 3))) (sRetX (xE (eC (.str ("other" : Str))))) sNext)
      (sSeq (sIf (tVal (eOp dNe (eBm "list" mCntB (eVar 5) (aCons (eC (.bool true)) aNil)) (eC (.int 1)))) (sRetX (xE (eC (.str ("other" : Str))))) sNext)
      (sSeq (sSetX 7 (xE (eBm "list" mIndex (eVar 5) (aCons (eC (.bool true)) aNil))))
      (sSeq (sIf (tVal (eOp dNe (eVar 6) (eX (xM (eLst (aCons (eOp dLt (eVar 7) (eC (.int 2))) (aCons (eOp dLt (eVar 7) (eC (.int 2))) (aCons (eOp dEq (eVar 7) (eC (.int 2))) (aCons (eOp dEq (eVar 7) (eC (.int 3))) aNil))))))))) (sRetX (xE (eC (.str ("other" : Str))))) sNext)
      (sSeq (sIf (tVal (eOp dEq (eVar 7) (eC (.int 0)))) (sRetX (xE (eC (.str ("operation" : Str))))) sNext)
      (sSeq (sIf (tVal (eOp dEq (eVar 7) (eC (.int 1)))) (sRetX (xOp dAddX (eC (.str ("limit " : Str))) (eCa cReprX (aCons (eXF ["InvalidLimit", "TableFull"] "limit" (eVar 3)) aNil)))) sNext)
      (sRetX (xIf (tVal (eOp dEq (eVar 7) (eC (.int 2)))) (xOp dAddX (eC (.str ("free " : Str))) (eCa cReprX (aCons (eXF ["FreeSlot"] "slot" (eVar 3)) aNil))) (xOp dAddX (eC (.str ("full " : Str))) (eCa cReprX (aCons (eXF ["InvalidLimit", "TableFull"] "limit" (eVar 3)) aNil)))))))))))))))))
def m__law_heard : FnS := runB 8 b__law_heard
def b__law_is_integer : EvS := (sRetX (xE (eAnd (eIsi "int" kIs_int (eVar 0)) (eAnd (eNot (eIsi "bool" kIs_bool (eVar 0))) (eChain dLe dLe (eVar 1) (eVar 0) (eVar 2))))))
def m__law_is_integer : FnS := runB 3 b__law_is_integer
def b__law_is_operation : EvS := (sSeq (sIf (tfOr (tfNot (tVal (eIsi "tuple" kIs_tuple (eVar 0)))) (tfOr (tVal (eOp dEq0 (eVar 0) (eTup aNil))) (tfNot (tVal (eIsi "str" kIs_str (eOp dIx (eVar 0) (eC (.int 0)))))))) (sRetX (xE (eC (.bool false)))) sNext)
      (sSeq (sSetX 1 (xM (eLst (aCons (eTup (aCons (eC (.str ("dup" : Str))) (aCons (eC (.int 2)) aNil))) (aCons (eTup (aCons (eC (.str ("close" : Str))) (aCons (eC (.int 2)) aNil))) (aCons (eTup (aCons (eC (.str ("dup_from" : Str))) (aCons (eC (.int 3)) aNil))) (aCons (eTup (aCons (eC (.str ("dup2" : Str))) (aCons (eC (.int 3)) aNil))) aNil)))))))
      (sSeq (sIf (tVal (eOp dNotIn (eTup (aCons (eOp dIx (eVar 0) (eC (.int 0))) (aCons (eCa cLen (aCons (eVar 0) aNil)) aNil))) (eVar 1))) (sRetX (xE (eC (.bool false)))) sNext)
      (sRetX (xE (eOp dEqL0 (eX (xM (eComp [2] (wAny (eX (xSl (eVar 0) (oSome (eC (.int 1))) oNone))) (gN 2) (tfNot (tVal (eX (xCall m__law_is_integer (aCons (eGive 2) (aCons (eC (.int 0)) (aCons (eC (.int 999)) aNil))))))) (eGive 2)))) (eX (xM (eLst aNil)))))))))
def m__law_is_operation : FnS := runB 3 b__law_is_operation
def b__law_due : EvS := (sSeq (sIf (tfNot (tVal (eX (xCall m__law_is_operation (aCons (eGive 1) aNil))))) (sRetX (xE (eC (.str ("operation" : Str))))) sNext)
      (sSeq (sIf (tfAnd (tVal (eNotN (eVar 2))) (tfNot (tVal (eX (xCall m__law_is_integer (aCons (eGive 2) (aCons (eCa cMax2 (aCons (eC (.int 1)) (aCons (eCa cLen (aCons (eVar 0) aNil)) aNil))) (aCons (eC (.int 100)) aNil)))))))) (sRetX (xOp dAddX (eC (.str ("limit " : Str))) (eCa cReprX (aCons (eVar 2) aNil)))) sNext)
      (sSeq (sSetX 3 (xE (eOp dIx (eVar 1) (eC (.int 1)))))
      (sSeq (sIf (tfOr (tVal (eOp dGe (eVar 3) (eCa cLen (aCons (eVar 0) aNil)))) (tVal (eIsN (eOp dIx (eVar 0) (eVar 3))))) (sRetX (xOp dAddX (eC (.str ("free " : Str))) (eCa cReprX (aCons (eVar 3) aNil)))) sNext)
      (sSeq (sIf (tfOr (tVal (eOp dEq (eOp dIx (eVar 1) (eC (.int 0))) (eC (.str ("close" : Str))))) (tVal (eIsN (eVar 2)))) (sRetX (xE (eC (.str ("table" : Str))))) sNext)
      (sSeq (sSetX 4 (xE (eC (.int 0))))
      (sSeq (sIf (tVal (eOp dNe (eOp dIx (eVar 1) (eC (.int 0))) (eC (.str ("dup" : Str))))) (sSetX 4 (xE (eOp dIx (eVar 1) (eC (.int 2))))) sNext)
      (sSeq (sIf (tVal (eOp dEq (eOp dIx (eVar 1) (eC (.int 0))) (eC (.str ("dup2" : Str))))) (sRetX (xE (eOp dIx (eX (xM (eLst (aCons (eC (.str ("table" : Str))) (aCons (eX (xOp dAddX (eC (.str ("full " : Str))) (eCa cReprX (aCons (eVar 2) aNil)))) aNil))))) (eCa cInt (aCons (eOp dGe (eVar 4) (eVar 2)) aNil))))) sNext)
      (sSeq (sSetX 5 (xM (eComp [6] (wRng2 (aCons (eVar 4) (aCons (eVar 2) aNil))) (gN 6) (tfOr (tVal (eOp dGe (eVar 6) (eCa cLen (aCons (eVar 0) aNil)))) (tVal (eIsN (eOp dIx (eVar 0) (eVar 6))))) (eGive 6))))
      (sRetX (xE (eOp dIx (eX (xM (eLst (aCons (eC (.str ("table" : Str))) (aCons (eX (xOp dAddX (eC (.str ("full " : Str))) (eCa cReprX (aCons (eVar 2) aNil)))) aNil))))) (eCa cInt (aCons (eOp dEqL0 (eVar 5) (eX (xM (eLst aNil)))) aNil))))))))))))))
def m__law_due : FnS := runB 7 b__law_due
def b__law_operation : EvS := (sSeq (sSetX 2 (xCall m__law_draw (aCons (eVar 0) (aCons (eX (xOp dAddX (eCa cLen (aCons (eVar 1) aNil)) (eC (.int 2)))) aNil))))
      (sSeq (sSetX 3 (xE (eOp dIx (eX (xM (eLst (aCons (eX (xCall m__law_draw (aCons (eVar 0) (aCons (eX (xOp dAddX (eCa cLen (aCons (eVar 1) aNil)) (eC (.int 2)))) aNil)))) (aCons (eCa cLen (aCons (eVar 1) aNil)) (aCons (eC (.int 99)) (aCons (eC (.int 0)) aNil))))))) (eX (xCall m__law_draw (aCons (eVar 0) (aCons (eC (.int 4)) aNil)))))))
      (sSeq (sSetX 4 (xM (eLst (aCons (eTup (aCons (eC (.str ("dup" : Str))) (aCons (eGive 2) aNil))) (aCons (eTup (aCons (eC (.str ("dup" : Str))) (aCons (eGive 2) aNil))) (aCons (eTup (aCons (eC (.str ("close" : Str))) (aCons (eGive 2) aNil))) (aCons (eTup (aCons (eC (.str ("dup_from" : Str))) (aCons (eGive 2) (aCons (eGive 3) aNil)))) (aCons (eTup (aCons (eC (.str ("dup2" : Str))) (aCons (eGive 2) (aCons (eGive 3) aNil)))) aNil))))))))
      (sSeq (sSetX 4 (xOp dAddX (eVar 4) (eX (xM (eLst (aCons (eTup (aCons (eC (.str ("dup2" : Str))) (aCons (eGive 2) (aCons (eGive 2) aNil)))) (aCons (eTup (aCons (eC (.str ("dup" : Str))) (aCons (eC (.bool true)) aNil))) (aCons (eTup (aCons (eC (.str ("dup" : Str))) (aCons (eUn dNeg (eC (.int 1))) aNil))) (aCons (eTup (aCons (eC (.str ("close" : Str))) (aCons (eC (.int 1000)) aNil))) (aCons (eTup (aCons (eC (.str ("dup_from" : Str))) (aCons (eGive 2) aNil))) (aCons (eX (xM (eLst (aCons (eC (.str ("dup" : Str))) (aCons (eGive 2) aNil))))) aNil)))))))))))
      (sSeq (sSetX 4 (xOp dAddX (eVar 4) (eX (xM (eLst (aCons (eTup (aCons (eC (.str ("dup" : Str))) (aCons (eGive 2) (aCons (eGive 3) aNil)))) (aCons (eTup (aCons (eC (.str ("shut" : Str))) (aCons (eGive 2) aNil))) (aCons (eC .none) (aCons (eTup aNil) (aCons (eC (.int 0)) (aCons (eTup (aCons (eC (.str ("dup" : Str))) (aCons (eCa cStr (aCons (eVar 2) aNil)) aNil))) (aCons (eTup (aCons (eC (.str ("dup2" : Str))) (aCons (eGive 2) (aCons (eC .none) aNil)))) (aCons (eC (.str ("dup" : Str))) aNil)))))))))))))
      (sSeq (sSetX 4 (xOp dAddX (eVar 4) (eX (xM (eLst (aCons (eTup (aCons (eX (xM eD0)) (aCons (eC (.int 0)) aNil))) (aCons (eTup (aCons (eX (xM (eLst aNil))) (aCons (eGive 2) aNil))) (aCons (eTup (aCons (eTup (aCons (eC (.str ("dup" : Str))) (aCons (eGive 2) aNil))) (aCons (eGive 2) aNil))) (aCons (eX (xM eD0)) aNil)))))))))
      (sSeq (sSetX 5 (xCall m__law_draw (aCons (eVar 0) (aCons (eC (.int 3)) aNil))))
      (sRetX (xE (eOp dIx (eVar 4) (eX (xCall m__law_draw (aCons (eVar 0) (aCons (eOp dIx (eX (xM (eLst (aCons (eC (.int 6)) (aCons (eC (.int 6)) (aCons (eC (.int 23)) aNil)))))) (eVar 5)) aNil))))))))))))))
def m__law_operation : FnS := runB 6 b__law_operation
def b__law_limit : EvS := (sSeq (sSetX 2 (xE (eCa cLen (aCons (eVar 1) aNil))))
      (sSeq (sSetX 3 (xM (eLst (aCons (eC .none) (aCons (eGive 2) (aCons (eGive 2) (aCons (eX (xOp dAddX (eVar 2) (eC (.int 1)))) (aCons (eCa cMax2 (aCons (eC (.int 1)) (aCons (eVar 2) aNil))) (aCons (eC (.int 100)) (aCons (eOp dSub (eVar 2) (eC (.int 1))) (aCons (eC (.int 0)) (aCons (eUn dNeg (eC (.int 1))) (aCons (eC (.int 101)) (aCons (eC (.bool true)) (aCons (eC (.bool false)) (aCons (eC (.str ("9" : Str))) (aCons (eTup aNil) (aCons (eX (xM (eLst (aCons (eGive 2) aNil)))) aNil))))))))))))))))))
      (sSeq (sSetX 3 (xOp dAddX (eVar 3) (eX (xM (eLst (aCons (eOp dPow (eC (.int 10)) (eC (.int 50))) (aCons (eX (xM eD0)) aNil)))))))
      (sSeq (sSetX 4 (xCall m__law_draw (aCons (eVar 0) (aCons (eC (.int 3)) aNil))))
      (sRetX (xE (eOp dIx (eVar 3) (eX (xCall m__law_draw (aCons (eVar 0) (aCons (eOp dIx (eX (xM (eLst (aCons (eC (.int 6)) (aCons (eC (.int 6)) (aCons (eC (.int 17)) aNil)))))) (eVar 4)) aNil)))))))))))
def m__law_limit : FnS := runB 5 b__law_limit
def b_law : EvS := (sSeq (sFor (wRng1 (aCons (eC (.int 4)) aNil)) (gN 2) (sSeq (sSetX 3 (xCall m__law_pool (aCons (eVar 1) (aCons (eX (xOp dAddX (eC (.int 1)) (eX (xCall m__law_draw (aCons (eVar 1) (aCons (eC (.int 3)) aNil)))))) aNil))))
      (sSeq (sSetX 4 (xCall m__law_table (aCons (eVar 1) (aCons (eGive 3) (aCons (eC (.int 9)) aNil)))))
      (sSeq (sIf (tVal (eOp dEq (eX (xCall m__law_draw (aCons (eVar 1) (aCons (eC (.int 2)) aNil)))) (eC (.int 0)))) (sSetX 4 (xE (eCa cTuple (aCons (eX (xM (eComp [9] (wAny (eGive 4)) (gN 9) tYesE (eOrT (eVar 9) (eOp dIx (eVar 3) (eC (.int 0))))))) aNil)))) sNext)
      (sFor (wRng1 (aCons (eC (.int 10)) aNil)) (gN 5) (sSeq (sPar 6 7 (aCons (eX (xCall m__law_operation (aCons (eVar 1) (aCons (eGive 4) aNil)))) (aCons (eX (xCall m__law_limit (aCons (eVar 1) (aCons (eGive 4) aNil)))) aNil)))
      (sSeq (sSetX 8 (xE (eCa cReprX (aCons (eTup (aCons (eGive 4) (aCons (eGive 6) (aCons (eGive 7) aNil)))) aNil))))
      (sSeq (sIf (tVal (eOp dNe (eX (xCall m__law_heard (aCons (eGive 4) (aCons (eGive 6) (aCons (eGive 7) aNil))))) (eX (xCall m__law_due (aCons (eGive 4) (aCons (eGive 6) (aCons (eGive 7) aNil))))))) (sRetX (xE (eC (.bool false)))) sNext)
      (sIf (tVal (eOp dNe (eCa cReprX (aCons (eTup (aCons (eGive 4) (aCons (eGive 6) (aCons (eGive 7) aNil)))) aNil)) (eVar 8))) (sRetX (xE (eC (.bool false)))) sNext)))))))))
      (sRetX (xE (eAnd (eOp dEq (eX (xCall m__law_heard (aCons (eTup (aCons (eC (.str ("a" : Str))) aNil)) (aCons (eTup (aCons (eC (.str ("dup2" : Str))) (aCons (eC (.int 0)) (aCons (eC (.int 0)) aNil)))) (aCons (eC (.int 1)) aNil))))) (eC (.str ("table" : Str)))) (eOp dEq (eX (xCall m__law_heard (aCons (eTup aNil) (aCons (eTup (aCons (eC (.str ("close" : Str))) (aCons (eC (.int 0)) aNil))) (aCons (eC (.bool true)) aNil))))) (eC (.str ("limit True" : Str))))))))
set_option maxHeartbeats 0 in
set_option genInjectivity false in
structure Txt (P : Program) (w : World) (K : PySem.W.Frag) (mg : Str → Option Value) (base : Heap) where
  dummy : Unit
  a_is_integer : Addr
  d_is_integer : FuncData
  f_is_integer : Fun K "is_integer" "is_integer" s_is_integer a_is_integer d_is_integer
  g_is_integer : mg "is_integer" = some (.ref a_is_integer)
  b_is_integer : Binds K d_is_integer ["value"] []
  a_is_between : Addr
  d_is_between : FuncData
  f_is_between : Fun K "is_between" "is_between" s_is_between a_is_between d_is_between
  g_is_between : mg "is_between" = some (.ref a_is_between)
  b_is_between : Binds K d_is_between ["value", "least", "most"] []
  a_check_limit : Addr
  d_check_limit : FuncData
  f_check_limit : Fun K "check_limit" "check_limit" s_check_limit a_check_limit d_check_limit
  g_check_limit : mg "check_limit" = some (.ref a_check_limit)
  b_check_limit : Binds K d_check_limit ["limit", "tables"] []
  a_trimmed : Addr
  d_trimmed : FuncData
  f_trimmed : Fun K "trimmed" "trimmed" s_trimmed a_trimmed d_trimmed
  g_trimmed : mg "trimmed" = some (.ref a_trimmed)
  b_trimmed : Binds K d_trimmed ["entries"] []
  a_object_at : Addr
  d_object_at : FuncData
  f_object_at : Fun K "object_at" "object_at" s_object_at a_object_at d_object_at
  g_object_at : mg "object_at" = some (.ref a_object_at)
  b_object_at : Binds K d_object_at ["table", "slot"] []
  a_free_slot : Addr
  d_free_slot : FuncData
  f_free_slot : Fun K "free_slot" "free_slot" s_free_slot a_free_slot d_free_slot
  g_free_slot : mg "free_slot" = some (.ref a_free_slot)
  k1_free_slot_start : KBinds K d_free_slot ["table", "start"] ["start"] (selA 1 1 false) (selA 1 1 false)
  a_with_entry : Addr
  d_with_entry : FuncData
  f_with_entry : Fun K "with_entry" "with_entry" s_with_entry a_with_entry d_with_entry
  g_with_entry : mg "with_entry" = some (.ref a_with_entry)
  b_with_entry : Binds K d_with_entry ["table", "slot", "entry"] []
  a_is_operation : Addr
  d_is_operation : FuncData
  f_is_operation : Fun K "is_operation" "is_operation" s_is_operation a_is_operation d_is_operation
  g_is_operation : mg "is_operation" = some (.ref a_is_operation)
  b_is_operation : Binds K d_is_operation ["value"] []
  a_landing : Addr
  d_landing : FuncData
  f_landing : Fun K "landing" "landing" s_landing a_landing d_landing
  g_landing : mg "landing" = some (.ref a_landing)
  b_landing : Binds K d_landing ["table", "operation"] []
  a_apply : Addr
  d_apply : FuncData
  f_apply : Fun K "apply" "apply" s_apply a_apply d_apply
  g_apply : mg "apply" = some (.ref a_apply)
  k2_apply_limit : KBinds K d_apply ["table", "operation", "limit"] ["limit"] (selA 2 1 false) (selA 2 1 false)
  a__law_pen : Addr
  d__law_pen : FuncData
  f__law_pen : Fun K "_law_pen" "_law_pen" s__law_pen a__law_pen d__law_pen
  g__law_pen : mg "_law_pen" = some (.ref a__law_pen)
  b__law_pen : Binds K d__law_pen ["_law_script"] []
  a__law_draw : Addr
  d__law_draw : FuncData
  f__law_draw : Fun K "_law_draw" "_law_draw" s__law_draw a__law_draw d__law_draw
  g__law_draw : mg "_law_draw" = some (.ref a__law_draw)
  b__law_draw : Binds K d__law_draw ["_law_pen_here", "_law_bound"] []
  a__law_pool : Addr
  d__law_pool : FuncData
  f__law_pool : Fun K "_law_pool" "_law_pool" s__law_pool a__law_pool d__law_pool
  g__law_pool : mg "_law_pool" = some (.ref a__law_pool)
  b__law_pool : Binds K d__law_pool ["_law_pen_here", "_law_many"] []
  a__law_trimmed : Addr
  d__law_trimmed : FuncData
  f__law_trimmed : Fun K "_law_trimmed" "_law_trimmed" s__law_trimmed a__law_trimmed d__law_trimmed
  g__law_trimmed : mg "_law_trimmed" = some (.ref a__law_trimmed)
  b__law_trimmed : Binds K d__law_trimmed ["_law_entries"] []
  a__law_table : Addr
  d__law_table : FuncData
  f__law_table : Fun K "_law_table" "_law_table" s__law_table a__law_table d__law_table
  g__law_table : mg "_law_table" = some (.ref a__law_table)
  b__law_table : Binds K d__law_table ["_law_pen_here", "_law_pool_here", "_law_most"] []
  a__law_heard : Addr
  d__law_heard : FuncData
  f__law_heard : Fun K "_law_heard" "_law_heard" s__law_heard a__law_heard d__law_heard
  g__law_heard : mg "_law_heard" = some (.ref a__law_heard)
  b__law_heard : Binds K d__law_heard ["_law_table_here", "_law_operation_here", "_law_cap"] []
  a__law_is_integer : Addr
  d__law_is_integer : FuncData
  f__law_is_integer : Fun K "_law_is_integer" "_law_is_integer" s__law_is_integer a__law_is_integer d__law_is_integer
  g__law_is_integer : mg "_law_is_integer" = some (.ref a__law_is_integer)
  b__law_is_integer : Binds K d__law_is_integer ["_law_value", "_law_least", "_law_most"] []
  a__law_is_operation : Addr
  d__law_is_operation : FuncData
  f__law_is_operation : Fun K "_law_is_operation" "_law_is_operation" s__law_is_operation a__law_is_operation d__law_is_operation
  g__law_is_operation : mg "_law_is_operation" = some (.ref a__law_is_operation)
  b__law_is_operation : Binds K d__law_is_operation ["_law_value"] []
  a__law_due : Addr
  d__law_due : FuncData
  f__law_due : Fun K "_law_due" "_law_due" s__law_due a__law_due d__law_due
  g__law_due : mg "_law_due" = some (.ref a__law_due)
  b__law_due : Binds K d__law_due ["_law_table_here", "_law_operation_here", "_law_cap"] []
  a__law_operation : Addr
  d__law_operation : FuncData
  f__law_operation : Fun K "_law_operation" "_law_operation" s__law_operation a__law_operation d__law_operation
  g__law_operation : mg "_law_operation" = some (.ref a__law_operation)
  b__law_operation : Binds K d__law_operation ["_law_pen_here", "_law_table_here"] []
  a__law_limit : Addr
  d__law_limit : FuncData
  f__law_limit : Fun K "_law_limit" "_law_limit" s__law_limit a__law_limit d__law_limit
  g__law_limit : mg "_law_limit" = some (.ref a__law_limit)
  b__law_limit : Binds K d__law_limit ["_law_pen_here", "_law_table_here"] []
  n_IndexError : mg "IndexError" = none
  n_KeyError : mg "KeyError" = none
  n_LookupError : mg "LookupError" = none
  n_OverflowError : mg "OverflowError" = none
  n_RuntimeError : mg "RuntimeError" = none
  n_ValueError : mg "ValueError" = none
  n_abs : mg "abs" = none
  n_all : mg "all" = none
  n_any : mg "any" = none
  n_bool : mg "bool" = none
  n_int : mg "int" = none
  n_isinstance : mg "isinstance" = none
  n_len : mg "len" = none
  n_list : mg "list" = none
  n_max : mg "max" = none
  n_range : mg "range" = none
  n_repr : mg "repr" = none
  n_str : mg "str" = none
  n_tuple : mg "tuple" = none
  t_MOST_LIMIT : Tok
  c_MOST_LIMIT : mg "MOST_LIMIT" = some (.int 100 t_MOST_LIMIT)
  t_DUP : Tok
  c_DUP : mg "DUP" = some (.str "dup" t_DUP)
  t_DUP_FROM : Tok
  c_DUP_FROM : mg "DUP_FROM" = some (.str "dup_from" t_DUP_FROM)
  t_DUP_ONTO : Tok
  c_DUP_ONTO : mg "DUP_ONTO" = some (.str "dup2" t_DUP_ONTO)
  t_CLOSE : Tok
  c_CLOSE : mg "CLOSE" = some (.str "close" t_CLOSE)
  t_MOST_NUMBER : Tok
  c_MOST_NUMBER : mg "MOST_NUMBER" = some (.int 999 t_MOST_NUMBER)
  at_LENGTHS : Addr
  m_LENGTHS : mg "LENGTHS" = some (.ref at_LENGTHS)
  k_LENGTHS : KTab K w at_LENGTHS tb_LENGTHS
  c_InvalidOperation : Addr
  c_InvalidLimit : Addr
  i_InvalidLimit : Addr
  c_FreeSlot : Addr
  i_FreeSlot : Addr
  c_TableFull : Addr
  i_TableFull : Addr
  c_TableError : Addr
  gc_TableError : mg "TableError" = some (.ref c_TableError)
  hd_TableError : PySem.W.hasDictIn K c_TableError = true
  ty_TableError : PySem.W.typeIn K (.ref c_TableError) = some (.type "type")
  ex_TableError : PySem.W.subIn K (.ref c_TableError) (.type "BaseException") = some true
  c_StepFailed : Addr
  gc_StepFailed : mg "StepFailed" = some (.ref c_StepFailed)
  hd_StepFailed : PySem.W.hasDictIn K c_StepFailed = true
  ty_StepFailed : PySem.W.typeIn K (.ref c_StepFailed) = some (.type "type")
  ex_StepFailed : PySem.W.subIn K (.ref c_StepFailed) (.type "BaseException") = some true
  c_InvalidScript : Addr
  gc_InvalidScript : mg "InvalidScript" = some (.ref c_InvalidScript)
  hd_InvalidScript : PySem.W.hasDictIn K c_InvalidScript = true
  ty_InvalidScript : PySem.W.typeIn K (.ref c_InvalidScript) = some (.type "type")
  ex_InvalidScript : PySem.W.subIn K (.ref c_InvalidScript) (.type "BaseException") = some true
  c_InvalidTable : Addr
  gc_InvalidTable : mg "InvalidTable" = some (.ref c_InvalidTable)
  hd_InvalidTable : PySem.W.hasDictIn K c_InvalidTable = true
  ty_InvalidTable : PySem.W.typeIn K (.ref c_InvalidTable) = some (.type "type")
  ex_InvalidTable : PySem.W.subIn K (.ref c_InvalidTable) (.type "BaseException") = some true
  c_InvalidText : Addr
  gc_InvalidText : mg "InvalidText" = some (.ref c_InvalidText)
  hd_InvalidText : PySem.W.hasDictIn K c_InvalidText = true
  ty_InvalidText : PySem.W.typeIn K (.ref c_InvalidText) = some (.type "type")
  ex_InvalidText : PySem.W.subIn K (.ref c_InvalidText) (.type "BaseException") = some true
  ns_InvalidOperation : PySem.W.nsIn K mainGlobals "InvalidOperation" = some (some (.ref c_InvalidOperation))
  x_InvalidOperation : X0T K mg "InvalidOperation" [.type "ValueError", .type "Exception", .type "BaseException", .type "object"] "ValueError.__new__" c_InvalidOperation
  ec_InvalidOperation : ExcC K c_InvalidOperation
  sb_InvalidOperation_LookupError : PySem.W.subIn K (.ref c_InvalidOperation) (.type "LookupError") = some false
  sb_InvalidOperation_ValueError : PySem.W.subIn K (.ref c_InvalidOperation) (.type "ValueError") = some true
  sb_InvalidOperation_OverflowError : PySem.W.subIn K (.ref c_InvalidOperation) (.type "OverflowError") = some false
  sb_InvalidOperation_KeyError : PySem.W.subIn K (.ref c_InvalidOperation) (.type "KeyError") = some false
  sb_InvalidOperation_IndexError : PySem.W.subIn K (.ref c_InvalidOperation) (.type "IndexError") = some false
  sb_InvalidOperation_RuntimeError : PySem.W.subIn K (.ref c_InvalidOperation) (.type "RuntimeError") = some false
  sub_InvalidOperation_InvalidOperation : PySem.W.subIn K (.ref c_InvalidOperation) (.ref c_InvalidOperation) = some true
  sub_InvalidOperation_InvalidLimit : PySem.W.subIn K (.ref c_InvalidOperation) (.ref c_InvalidLimit) = some false
  sub_InvalidOperation_FreeSlot : PySem.W.subIn K (.ref c_InvalidOperation) (.ref c_FreeSlot) = some false
  sub_InvalidOperation_TableFull : PySem.W.subIn K (.ref c_InvalidOperation) (.ref c_TableFull) = some false
  sub_InvalidOperation_TableError : PySem.W.subIn K (.ref c_InvalidOperation) (.ref c_TableError) = some true
  sub_InvalidOperation_StepFailed : PySem.W.subIn K (.ref c_InvalidOperation) (.ref c_StepFailed) = some false
  sub_InvalidOperation_InvalidScript : PySem.W.subIn K (.ref c_InvalidOperation) (.ref c_InvalidScript) = some false
  sub_InvalidOperation_InvalidTable : PySem.W.subIn K (.ref c_InvalidOperation) (.ref c_InvalidTable) = some false
  sub_InvalidOperation_InvalidText : PySem.W.subIn K (.ref c_InvalidOperation) (.ref c_InvalidText) = some false
  ns_InvalidLimit : PySem.W.nsIn K mainGlobals "InvalidLimit" = some (some (.ref c_InvalidLimit))
  x_InvalidLimit : XL.XT K mg "InvalidLimit" mroVE "ValueError.__new__" c_InvalidLimit i_InvalidLimit
  ec_InvalidLimit : ExcC K c_InvalidLimit
  xf_c_InvalidLimit : XfC K c_InvalidLimit
  sb_InvalidLimit_LookupError : PySem.W.subIn K (.ref c_InvalidLimit) (.type "LookupError") = some false
  sb_InvalidLimit_ValueError : PySem.W.subIn K (.ref c_InvalidLimit) (.type "ValueError") = some true
  sb_InvalidLimit_OverflowError : PySem.W.subIn K (.ref c_InvalidLimit) (.type "OverflowError") = some false
  sb_InvalidLimit_KeyError : PySem.W.subIn K (.ref c_InvalidLimit) (.type "KeyError") = some false
  sb_InvalidLimit_IndexError : PySem.W.subIn K (.ref c_InvalidLimit) (.type "IndexError") = some false
  sb_InvalidLimit_RuntimeError : PySem.W.subIn K (.ref c_InvalidLimit) (.type "RuntimeError") = some false
  sub_InvalidLimit_InvalidOperation : PySem.W.subIn K (.ref c_InvalidLimit) (.ref c_InvalidOperation) = some false
  sub_InvalidLimit_InvalidLimit : PySem.W.subIn K (.ref c_InvalidLimit) (.ref c_InvalidLimit) = some true
  sub_InvalidLimit_FreeSlot : PySem.W.subIn K (.ref c_InvalidLimit) (.ref c_FreeSlot) = some false
  sub_InvalidLimit_TableFull : PySem.W.subIn K (.ref c_InvalidLimit) (.ref c_TableFull) = some false
  sub_InvalidLimit_TableError : PySem.W.subIn K (.ref c_InvalidLimit) (.ref c_TableError) = some true
  sub_InvalidLimit_StepFailed : PySem.W.subIn K (.ref c_InvalidLimit) (.ref c_StepFailed) = some false
  sub_InvalidLimit_InvalidScript : PySem.W.subIn K (.ref c_InvalidLimit) (.ref c_InvalidScript) = some false
  sub_InvalidLimit_InvalidTable : PySem.W.subIn K (.ref c_InvalidLimit) (.ref c_InvalidTable) = some false
  sub_InvalidLimit_InvalidText : PySem.W.subIn K (.ref c_InvalidLimit) (.ref c_InvalidText) = some false
  ns_FreeSlot : PySem.W.nsIn K mainGlobals "FreeSlot" = some (some (.ref c_FreeSlot))
  x_FreeSlot : XS.XT K mg "FreeSlot" mroLE "LookupError.__new__" c_FreeSlot i_FreeSlot
  ec_FreeSlot : ExcC K c_FreeSlot
  xf_c_FreeSlot : XfC K c_FreeSlot
  sb_FreeSlot_LookupError : PySem.W.subIn K (.ref c_FreeSlot) (.type "LookupError") = some true
  sb_FreeSlot_ValueError : PySem.W.subIn K (.ref c_FreeSlot) (.type "ValueError") = some false
  sb_FreeSlot_OverflowError : PySem.W.subIn K (.ref c_FreeSlot) (.type "OverflowError") = some false
  sb_FreeSlot_KeyError : PySem.W.subIn K (.ref c_FreeSlot) (.type "KeyError") = some false
  sb_FreeSlot_IndexError : PySem.W.subIn K (.ref c_FreeSlot) (.type "IndexError") = some false
  sb_FreeSlot_RuntimeError : PySem.W.subIn K (.ref c_FreeSlot) (.type "RuntimeError") = some false
  sub_FreeSlot_InvalidOperation : PySem.W.subIn K (.ref c_FreeSlot) (.ref c_InvalidOperation) = some false
  sub_FreeSlot_InvalidLimit : PySem.W.subIn K (.ref c_FreeSlot) (.ref c_InvalidLimit) = some false
  sub_FreeSlot_FreeSlot : PySem.W.subIn K (.ref c_FreeSlot) (.ref c_FreeSlot) = some true
  sub_FreeSlot_TableFull : PySem.W.subIn K (.ref c_FreeSlot) (.ref c_TableFull) = some false
  sub_FreeSlot_TableError : PySem.W.subIn K (.ref c_FreeSlot) (.ref c_TableError) = some false
  sub_FreeSlot_StepFailed : PySem.W.subIn K (.ref c_FreeSlot) (.ref c_StepFailed) = some false
  sub_FreeSlot_InvalidScript : PySem.W.subIn K (.ref c_FreeSlot) (.ref c_InvalidScript) = some false
  sub_FreeSlot_InvalidTable : PySem.W.subIn K (.ref c_FreeSlot) (.ref c_InvalidTable) = some false
  sub_FreeSlot_InvalidText : PySem.W.subIn K (.ref c_FreeSlot) (.ref c_InvalidText) = some false
  ns_TableFull : PySem.W.nsIn K mainGlobals "TableFull" = some (some (.ref c_TableFull))
  x_TableFull : XL.XT K mg "TableFull" mroOE "OverflowError.__new__" c_TableFull i_TableFull
  ec_TableFull : ExcC K c_TableFull
  xf_c_TableFull : XfC K c_TableFull
  sb_TableFull_LookupError : PySem.W.subIn K (.ref c_TableFull) (.type "LookupError") = some false
  sb_TableFull_ValueError : PySem.W.subIn K (.ref c_TableFull) (.type "ValueError") = some false
  sb_TableFull_OverflowError : PySem.W.subIn K (.ref c_TableFull) (.type "OverflowError") = some true
  sb_TableFull_KeyError : PySem.W.subIn K (.ref c_TableFull) (.type "KeyError") = some false
  sb_TableFull_IndexError : PySem.W.subIn K (.ref c_TableFull) (.type "IndexError") = some false
  sb_TableFull_RuntimeError : PySem.W.subIn K (.ref c_TableFull) (.type "RuntimeError") = some false
  sub_TableFull_InvalidOperation : PySem.W.subIn K (.ref c_TableFull) (.ref c_InvalidOperation) = some false
  sub_TableFull_InvalidLimit : PySem.W.subIn K (.ref c_TableFull) (.ref c_InvalidLimit) = some false
  sub_TableFull_FreeSlot : PySem.W.subIn K (.ref c_TableFull) (.ref c_FreeSlot) = some false
  sub_TableFull_TableFull : PySem.W.subIn K (.ref c_TableFull) (.ref c_TableFull) = some true
  sub_TableFull_TableError : PySem.W.subIn K (.ref c_TableFull) (.ref c_TableError) = some false
  sub_TableFull_StepFailed : PySem.W.subIn K (.ref c_TableFull) (.ref c_StepFailed) = some false
  sub_TableFull_InvalidScript : PySem.W.subIn K (.ref c_TableFull) (.ref c_InvalidScript) = some false
  sub_TableFull_InvalidTable : PySem.W.subIn K (.ref c_TableFull) (.ref c_InvalidTable) = some false
  sub_TableFull_InvalidText : PySem.W.subIn K (.ref c_TableFull) (.ref c_InvalidText) = some false
section
variable {P : Program} {w : World} {K : PySem.W.Frag} {mg : Str → Option Value} {base : Heap}
theorem Txt.isx_FreeSlot (T : Txt P w K mg base) : ∀ nm b C, isxk_FreeSlot nm = some b → PySem.W.nsIn K mainGlobals nm = some (some (.ref C)) → ExcC K C ∧ PySem.W.kitOne K (.ref C) (.ref T.c_FreeSlot) = some b := by
  intro nm b C h hC
  unfold isxk_FreeSlot at h
  split at h
  · rename_i e; subst e; cases h; rw [T.ns_InvalidOperation] at hC; cases hC
    exact ⟨T.ec_InvalidOperation, kit_own T.x_FreeSlot.hdC T.x_FreeSlot.tyC T.sub_InvalidOperation_InvalidOperation T.sub_InvalidOperation_FreeSlot⟩
  split at h
  · rename_i e; subst e; cases h; rw [T.ns_InvalidLimit] at hC; cases hC
    exact ⟨T.ec_InvalidLimit, kit_own T.x_FreeSlot.hdC T.x_FreeSlot.tyC T.sub_InvalidLimit_InvalidLimit T.sub_InvalidLimit_FreeSlot⟩
  split at h
  · rename_i e; subst e; cases h; rw [T.ns_FreeSlot] at hC; cases hC
    exact ⟨T.ec_FreeSlot, kit_own T.x_FreeSlot.hdC T.x_FreeSlot.tyC T.sub_FreeSlot_FreeSlot T.sub_FreeSlot_FreeSlot⟩
  split at h
  · rename_i e; subst e; cases h; rw [T.ns_TableFull] at hC; cases hC
    exact ⟨T.ec_TableFull, kit_own T.x_FreeSlot.hdC T.x_FreeSlot.tyC T.sub_TableFull_TableFull T.sub_TableFull_FreeSlot⟩
  · cases h
theorem Txt.isx_InvalidLimit (T : Txt P w K mg base) : ∀ nm b C, isxk_InvalidLimit nm = some b → PySem.W.nsIn K mainGlobals nm = some (some (.ref C)) → ExcC K C ∧ PySem.W.kitOne K (.ref C) (.ref T.c_InvalidLimit) = some b := by
  intro nm b C h hC
  unfold isxk_InvalidLimit at h
  split at h
  · rename_i e; subst e; cases h; rw [T.ns_InvalidOperation] at hC; cases hC
    exact ⟨T.ec_InvalidOperation, kit_own T.x_InvalidLimit.hdC T.x_InvalidLimit.tyC T.sub_InvalidOperation_InvalidOperation T.sub_InvalidOperation_InvalidLimit⟩
  split at h
  · rename_i e; subst e; cases h; rw [T.ns_InvalidLimit] at hC; cases hC
    exact ⟨T.ec_InvalidLimit, kit_own T.x_InvalidLimit.hdC T.x_InvalidLimit.tyC T.sub_InvalidLimit_InvalidLimit T.sub_InvalidLimit_InvalidLimit⟩
  split at h
  · rename_i e; subst e; cases h; rw [T.ns_FreeSlot] at hC; cases hC
    exact ⟨T.ec_FreeSlot, kit_own T.x_InvalidLimit.hdC T.x_InvalidLimit.tyC T.sub_FreeSlot_FreeSlot T.sub_FreeSlot_InvalidLimit⟩
  split at h
  · rename_i e; subst e; cases h; rw [T.ns_TableFull] at hC; cases hC
    exact ⟨T.ec_TableFull, kit_own T.x_InvalidLimit.hdC T.x_InvalidLimit.tyC T.sub_TableFull_TableFull T.sub_TableFull_InvalidLimit⟩
  · cases h
theorem Txt.isx_InvalidOperation (T : Txt P w K mg base) : ∀ nm b C, isxk_InvalidOperation nm = some b → PySem.W.nsIn K mainGlobals nm = some (some (.ref C)) → ExcC K C ∧ PySem.W.kitOne K (.ref C) (.ref T.c_InvalidOperation) = some b := by
  intro nm b C h hC
  unfold isxk_InvalidOperation at h
  split at h
  · rename_i e; subst e; cases h; rw [T.ns_InvalidOperation] at hC; cases hC
    exact ⟨T.ec_InvalidOperation, kit_own T.x_InvalidOperation.hdC T.x_InvalidOperation.tyC T.sub_InvalidOperation_InvalidOperation T.sub_InvalidOperation_InvalidOperation⟩
  split at h
  · rename_i e; subst e; cases h; rw [T.ns_InvalidLimit] at hC; cases hC
    exact ⟨T.ec_InvalidLimit, kit_own T.x_InvalidOperation.hdC T.x_InvalidOperation.tyC T.sub_InvalidLimit_InvalidLimit T.sub_InvalidLimit_InvalidOperation⟩
  split at h
  · rename_i e; subst e; cases h; rw [T.ns_FreeSlot] at hC; cases hC
    exact ⟨T.ec_FreeSlot, kit_own T.x_InvalidOperation.hdC T.x_InvalidOperation.tyC T.sub_FreeSlot_FreeSlot T.sub_FreeSlot_InvalidOperation⟩
  split at h
  · rename_i e; subst e; cases h; rw [T.ns_TableFull] at hC; cases hC
    exact ⟨T.ec_TableFull, kit_own T.x_InvalidOperation.hdC T.x_InvalidOperation.tyC T.sub_TableFull_TableFull T.sub_TableFull_InvalidOperation⟩
  · cases h
theorem Txt.isx_TableFull (T : Txt P w K mg base) : ∀ nm b C, isxk_TableFull nm = some b → PySem.W.nsIn K mainGlobals nm = some (some (.ref C)) → ExcC K C ∧ PySem.W.kitOne K (.ref C) (.ref T.c_TableFull) = some b := by
  intro nm b C h hC
  unfold isxk_TableFull at h
  split at h
  · rename_i e; subst e; cases h; rw [T.ns_InvalidOperation] at hC; cases hC
    exact ⟨T.ec_InvalidOperation, kit_own T.x_TableFull.hdC T.x_TableFull.tyC T.sub_InvalidOperation_InvalidOperation T.sub_InvalidOperation_TableFull⟩
  split at h
  · rename_i e; subst e; cases h; rw [T.ns_InvalidLimit] at hC; cases hC
    exact ⟨T.ec_InvalidLimit, kit_own T.x_TableFull.hdC T.x_TableFull.tyC T.sub_InvalidLimit_InvalidLimit T.sub_InvalidLimit_TableFull⟩
  split at h
  · rename_i e; subst e; cases h; rw [T.ns_FreeSlot] at hC; cases hC
    exact ⟨T.ec_FreeSlot, kit_own T.x_TableFull.hdC T.x_TableFull.tyC T.sub_FreeSlot_FreeSlot T.sub_FreeSlot_TableFull⟩
  split at h
  · rename_i e; subst e; cases h; rw [T.ns_TableFull] at hC; cases hC
    exact ⟨T.ec_TableFull, kit_own T.x_TableFull.hdC T.x_TableFull.tyC T.sub_TableFull_TableFull T.sub_TableFull_TableFull⟩
  · cases h
theorem Txt.isx_TableError (T : Txt P w K mg base) : ∀ nm b C, isxk_TableError nm = some b → PySem.W.nsIn K mainGlobals nm = some (some (.ref C)) → ExcC K C ∧ PySem.W.kitOne K (.ref C) (.ref T.c_TableError) = some b := by
  intro nm b C h hC
  unfold isxk_TableError at h
  split at h
  · rename_i e; subst e; cases h; rw [T.ns_InvalidOperation] at hC; cases hC
    exact ⟨T.ec_InvalidOperation, kit_own T.hd_TableError T.ty_TableError T.sub_InvalidOperation_InvalidOperation T.sub_InvalidOperation_TableError⟩
  split at h
  · rename_i e; subst e; cases h; rw [T.ns_InvalidLimit] at hC; cases hC
    exact ⟨T.ec_InvalidLimit, kit_own T.hd_TableError T.ty_TableError T.sub_InvalidLimit_InvalidLimit T.sub_InvalidLimit_TableError⟩
  split at h
  · rename_i e; subst e; cases h; rw [T.ns_FreeSlot] at hC; cases hC
    exact ⟨T.ec_FreeSlot, kit_own T.hd_TableError T.ty_TableError T.sub_FreeSlot_FreeSlot T.sub_FreeSlot_TableError⟩
  split at h
  · rename_i e; subst e; cases h; rw [T.ns_TableFull] at hC; cases hC
    exact ⟨T.ec_TableFull, kit_own T.hd_TableError T.ty_TableError T.sub_TableFull_TableFull T.sub_TableFull_TableError⟩
  · cases h
theorem Txt.isxB_LookupError (T : Txt P w K mg base) : ∀ nm b C, isxkB_LookupError nm = some b → PySem.W.nsIn K mainGlobals nm = some (some (.ref C)) → ExcC K C ∧ PySem.W.kitOne K (.ref C) (.type "LookupError") = some b := by
  intro nm b C h hC
  unfold isxkB_LookupError at h
  split at h
  · rename_i e; subst e; cases h; rw [T.ns_InvalidOperation] at hC; cases hC
    exact ⟨T.ec_InvalidOperation, kit_bt (by decide) T.sb_InvalidOperation_LookupError⟩
  split at h
  · rename_i e; subst e; cases h; rw [T.ns_InvalidLimit] at hC; cases hC
    exact ⟨T.ec_InvalidLimit, kit_bt (by decide) T.sb_InvalidLimit_LookupError⟩
  split at h
  · rename_i e; subst e; cases h; rw [T.ns_FreeSlot] at hC; cases hC
    exact ⟨T.ec_FreeSlot, kit_bt (by decide) T.sb_FreeSlot_LookupError⟩
  split at h
  · rename_i e; subst e; cases h; rw [T.ns_TableFull] at hC; cases hC
    exact ⟨T.ec_TableFull, kit_bt (by decide) T.sb_TableFull_LookupError⟩
  · cases h
theorem Txt.isxB_ValueError (T : Txt P w K mg base) : ∀ nm b C, isxkB_ValueError nm = some b → PySem.W.nsIn K mainGlobals nm = some (some (.ref C)) → ExcC K C ∧ PySem.W.kitOne K (.ref C) (.type "ValueError") = some b := by
  intro nm b C h hC
  unfold isxkB_ValueError at h
  split at h
  · rename_i e; subst e; cases h; rw [T.ns_InvalidOperation] at hC; cases hC
    exact ⟨T.ec_InvalidOperation, kit_bt (by decide) T.sb_InvalidOperation_ValueError⟩
  split at h
  · rename_i e; subst e; cases h; rw [T.ns_InvalidLimit] at hC; cases hC
    exact ⟨T.ec_InvalidLimit, kit_bt (by decide) T.sb_InvalidLimit_ValueError⟩
  split at h
  · rename_i e; subst e; cases h; rw [T.ns_FreeSlot] at hC; cases hC
    exact ⟨T.ec_FreeSlot, kit_bt (by decide) T.sb_FreeSlot_ValueError⟩
  split at h
  · rename_i e; subst e; cases h; rw [T.ns_TableFull] at hC; cases hC
    exact ⟨T.ec_TableFull, kit_bt (by decide) T.sb_TableFull_ValueError⟩
  · cases h
theorem Txt.isxB_OverflowError (T : Txt P w K mg base) : ∀ nm b C, isxkB_OverflowError nm = some b → PySem.W.nsIn K mainGlobals nm = some (some (.ref C)) → ExcC K C ∧ PySem.W.kitOne K (.ref C) (.type "OverflowError") = some b := by
  intro nm b C h hC
  unfold isxkB_OverflowError at h
  split at h
  · rename_i e; subst e; cases h; rw [T.ns_InvalidOperation] at hC; cases hC
    exact ⟨T.ec_InvalidOperation, kit_bt (by decide) T.sb_InvalidOperation_OverflowError⟩
  split at h
  · rename_i e; subst e; cases h; rw [T.ns_InvalidLimit] at hC; cases hC
    exact ⟨T.ec_InvalidLimit, kit_bt (by decide) T.sb_InvalidLimit_OverflowError⟩
  split at h
  · rename_i e; subst e; cases h; rw [T.ns_FreeSlot] at hC; cases hC
    exact ⟨T.ec_FreeSlot, kit_bt (by decide) T.sb_FreeSlot_OverflowError⟩
  split at h
  · rename_i e; subst e; cases h; rw [T.ns_TableFull] at hC; cases hC
    exact ⟨T.ec_TableFull, kit_bt (by decide) T.sb_TableFull_OverflowError⟩
  · cases h
theorem Txt.isx_InvalidScript_InvalidTable_InvalidText_StepFailed_KeyError_IndexError_RuntimeError (T : Txt P w K mg base) : ∀ nm b C, isxk_InvalidScript_InvalidTable_InvalidText_StepFailed_KeyError_IndexError_RuntimeError nm = some b → PySem.W.nsIn K mainGlobals nm = some (some (.ref C)) → ExcC K C ∧ PySem.W.kitAny K (.ref C) (([.inl T.c_InvalidScript, .inl T.c_InvalidTable, .inl T.c_InvalidText, .inl T.c_StepFailed, .inr "KeyError", .inr "IndexError", .inr "RuntimeError"] : List ClsR).map clU) = some b := by
  intro nm b C h hC
  unfold isxk_InvalidScript_InvalidTable_InvalidText_StepFailed_KeyError_IndexError_RuntimeError at h
  split at h
  · rename_i e; subst e; cases h; rw [T.ns_InvalidOperation] at hC; cases hC
    exact ⟨T.ec_InvalidOperation, (kitAnyC (kit_own T.hd_InvalidScript T.ty_InvalidScript T.sub_InvalidOperation_InvalidOperation T.sub_InvalidOperation_InvalidScript) (kitAnyC (kit_own T.hd_InvalidTable T.ty_InvalidTable T.sub_InvalidOperation_InvalidOperation T.sub_InvalidOperation_InvalidTable) (kitAnyC (kit_own T.hd_InvalidText T.ty_InvalidText T.sub_InvalidOperation_InvalidOperation T.sub_InvalidOperation_InvalidText) (kitAnyC (kit_own T.hd_StepFailed T.ty_StepFailed T.sub_InvalidOperation_InvalidOperation T.sub_InvalidOperation_StepFailed) (kitAnyC (kit_bt (by decide) T.sb_InvalidOperation_KeyError) (kitAnyC (kit_bt (by decide) T.sb_InvalidOperation_IndexError) (kitAnyC (kit_bt (by decide) T.sb_InvalidOperation_RuntimeError) kitAny0)))))))⟩
  split at h
  · rename_i e; subst e; cases h; rw [T.ns_InvalidLimit] at hC; cases hC
    exact ⟨T.ec_InvalidLimit, (kitAnyC (kit_own T.hd_InvalidScript T.ty_InvalidScript T.sub_InvalidLimit_InvalidLimit T.sub_InvalidLimit_InvalidScript) (kitAnyC (kit_own T.hd_InvalidTable T.ty_InvalidTable T.sub_InvalidLimit_InvalidLimit T.sub_InvalidLimit_InvalidTable) (kitAnyC (kit_own T.hd_InvalidText T.ty_InvalidText T.sub_InvalidLimit_InvalidLimit T.sub_InvalidLimit_InvalidText) (kitAnyC (kit_own T.hd_StepFailed T.ty_StepFailed T.sub_InvalidLimit_InvalidLimit T.sub_InvalidLimit_StepFailed) (kitAnyC (kit_bt (by decide) T.sb_InvalidLimit_KeyError) (kitAnyC (kit_bt (by decide) T.sb_InvalidLimit_IndexError) (kitAnyC (kit_bt (by decide) T.sb_InvalidLimit_RuntimeError) kitAny0)))))))⟩
  split at h
  · rename_i e; subst e; cases h; rw [T.ns_FreeSlot] at hC; cases hC
    exact ⟨T.ec_FreeSlot, (kitAnyC (kit_own T.hd_InvalidScript T.ty_InvalidScript T.sub_FreeSlot_FreeSlot T.sub_FreeSlot_InvalidScript) (kitAnyC (kit_own T.hd_InvalidTable T.ty_InvalidTable T.sub_FreeSlot_FreeSlot T.sub_FreeSlot_InvalidTable) (kitAnyC (kit_own T.hd_InvalidText T.ty_InvalidText T.sub_FreeSlot_FreeSlot T.sub_FreeSlot_InvalidText) (kitAnyC (kit_own T.hd_StepFailed T.ty_StepFailed T.sub_FreeSlot_FreeSlot T.sub_FreeSlot_StepFailed) (kitAnyC (kit_bt (by decide) T.sb_FreeSlot_KeyError) (kitAnyC (kit_bt (by decide) T.sb_FreeSlot_IndexError) (kitAnyC (kit_bt (by decide) T.sb_FreeSlot_RuntimeError) kitAny0)))))))⟩
  split at h
  · rename_i e; subst e; cases h; rw [T.ns_TableFull] at hC; cases hC
    exact ⟨T.ec_TableFull, (kitAnyC (kit_own T.hd_InvalidScript T.ty_InvalidScript T.sub_TableFull_TableFull T.sub_TableFull_InvalidScript) (kitAnyC (kit_own T.hd_InvalidTable T.ty_InvalidTable T.sub_TableFull_TableFull T.sub_TableFull_InvalidTable) (kitAnyC (kit_own T.hd_InvalidText T.ty_InvalidText T.sub_TableFull_TableFull T.sub_TableFull_InvalidText) (kitAnyC (kit_own T.hd_StepFailed T.ty_StepFailed T.sub_TableFull_TableFull T.sub_TableFull_StepFailed) (kitAnyC (kit_bt (by decide) T.sb_TableFull_KeyError) (kitAnyC (kit_bt (by decide) T.sb_TableFull_IndexError) (kitAnyC (kit_bt (by decide) T.sb_TableFull_RuntimeError) kitAny0)))))))⟩
  · cases h
theorem Txt.te_TableError_FreeSlot_TableFull_StepFailed (T : Txt P w K mg base) : ∀ nm C, (["InvalidOperation", "InvalidLimit", "FreeSlot", "TableFull"] : List Str).contains nm = true → PySem.W.nsIn K mainGlobals nm = some (some (.ref C)) → PySem.W.exmAny K (.ref C) [.ref T.c_TableError, .ref T.c_FreeSlot, .ref T.c_TableFull, .ref T.c_StepFailed] = some true := by
  intro nm C h hC
  have h2 : nm = "InvalidOperation" ∨ nm = "InvalidLimit" ∨ nm = "FreeSlot" ∨ nm = "TableFull" := by simpa using h
  rcases h2 with rfl | rfl | rfl | rfl
  · rw [T.ns_InvalidOperation] at hC; cases hC
    exact (exmC (PySem.W.exm_ref T.ex_TableError T.hd_TableError T.ty_TableError T.sub_InvalidOperation_TableError) (exmC (PySem.W.exm_ref T.x_FreeSlot.exC T.x_FreeSlot.hdC T.x_FreeSlot.tyC T.sub_InvalidOperation_FreeSlot) (exmC (PySem.W.exm_ref T.x_TableFull.exC T.x_TableFull.hdC T.x_TableFull.tyC T.sub_InvalidOperation_TableFull) (exmC (PySem.W.exm_ref T.ex_StepFailed T.hd_StepFailed T.ty_StepFailed T.sub_InvalidOperation_StepFailed) exm0))))
  · rw [T.ns_InvalidLimit] at hC; cases hC
    exact (exmC (PySem.W.exm_ref T.ex_TableError T.hd_TableError T.ty_TableError T.sub_InvalidLimit_TableError) (exmC (PySem.W.exm_ref T.x_FreeSlot.exC T.x_FreeSlot.hdC T.x_FreeSlot.tyC T.sub_InvalidLimit_FreeSlot) (exmC (PySem.W.exm_ref T.x_TableFull.exC T.x_TableFull.hdC T.x_TableFull.tyC T.sub_InvalidLimit_TableFull) (exmC (PySem.W.exm_ref T.ex_StepFailed T.hd_StepFailed T.ty_StepFailed T.sub_InvalidLimit_StepFailed) exm0))))
  · rw [T.ns_FreeSlot] at hC; cases hC
    exact (exmC (PySem.W.exm_ref T.ex_TableError T.hd_TableError T.ty_TableError T.sub_FreeSlot_TableError) (exmC (PySem.W.exm_ref T.x_FreeSlot.exC T.x_FreeSlot.hdC T.x_FreeSlot.tyC T.sub_FreeSlot_FreeSlot) (exmC (PySem.W.exm_ref T.x_TableFull.exC T.x_TableFull.hdC T.x_TableFull.tyC T.sub_FreeSlot_TableFull) (exmC (PySem.W.exm_ref T.ex_StepFailed T.hd_StepFailed T.ty_StepFailed T.sub_FreeSlot_StepFailed) exm0))))
  · rw [T.ns_TableFull] at hC; cases hC
    exact (exmC (PySem.W.exm_ref T.ex_TableError T.hd_TableError T.ty_TableError T.sub_TableFull_TableError) (exmC (PySem.W.exm_ref T.x_FreeSlot.exC T.x_FreeSlot.hdC T.x_FreeSlot.tyC T.sub_TableFull_FreeSlot) (exmC (PySem.W.exm_ref T.x_TableFull.exC T.x_TableFull.hdC T.x_TableFull.tyC T.sub_TableFull_TableFull) (exmC (PySem.W.exm_ref T.ex_StepFailed T.hd_StepFailed T.ty_StepFailed T.sub_TableFull_StepFailed) exm0))))
theorem Txt.xf_limit (T : Txt P w K mg base) : ∀ nm C, (["InvalidLimit", "TableFull"] : List Str).contains nm = true → PySem.W.nsIn K mainGlobals nm = some (some (.ref C)) → XfC K C ∧ PySem.W.findIn K (.ref C) "limit" = some none := by
  intro nm C h hC
  have h2 : nm = "InvalidLimit" ∨ nm = "TableFull" := by simpa using h
  rcases h2 with rfl | rfl
  · rw [T.ns_InvalidLimit] at hC; cases hC
    exact ⟨T.xf_c_InvalidLimit, T.x_InvalidLimit.noN⟩
  · rw [T.ns_TableFull] at hC; cases hC
    exact ⟨T.xf_c_TableFull, T.x_TableFull.noN⟩
theorem Txt.xf_slot (T : Txt P w K mg base) : ∀ nm C, (["FreeSlot"] : List Str).contains nm = true → PySem.W.nsIn K mainGlobals nm = some (some (.ref C)) → XfC K C ∧ PySem.W.findIn K (.ref C) "slot" = some none := by
  intro nm C h hC
  have h2 : nm = "FreeSlot" := by simpa using h
  subst h2; rw [T.ns_FreeSlot] at hC; cases hC
  exact ⟨T.xf_c_FreeSlot, T.x_FreeSlot.noN⟩
theorem Txt.ok_is_integer (T : Txt P w K mg base) : FnG P w K mg base CX0 1 T.a_is_integer T.d_is_integer ["value"] (spD K 1 m_is_integer) := by
  refine fnD T.f_is_integer sc_is_integer fun cdv A outer s H E hg hr => ?_
  have hu64 := hr.units
  have hu65 := room65 hr
  exact ⟨_, (pss_one (ps_ret (pe_and (pe_callB call_isi (by rfl) T.n_isinstance (by decide +kernel) (pa_cons (pv 0) (pa_cons (pe_bty "int" (by rfl) T.n_int (by decide +kernel)) pa_nil))) (pe_one (pe_not (pe_callB call_isi (by rfl) T.n_isinstance (by decide +kernel) (pa_cons (pv 0) (pa_cons (pe_bty "bool" (by rfl) T.n_bool (by decide +kernel)) pa_nil)))))))),
    (is_retX (ix_e (ie_and (ie_isi (T := "int") kis_int (ie_var (i := 0))) (ie_not (ie_isi (T := "bool") kis_bool (ie_var (i := 0)))))))⟩
theorem Txt.ok_is_between (T : Txt P w K mg base) : FnG P w K mg base CX0 2 T.a_is_between T.d_is_between ["value", "least", "most"] (spD K 3 m_is_between) := by
  refine fnD T.f_is_between sc_is_between fun cdv A outer s H E hg hr => ?_
  have hu64 := hr.units
  have hu65 := room65 hr
  exact ⟨_, (pss_one (ps_ret (pe_and (pe_callG T.ok_is_integer hg (hr.mono (by decide)) (by rfl) T.g_is_integer T.f_is_integer.kp T.b_is_integer .nil pass0 (pa_cons (pv 0) pa_nil)) (pe_one (pe_chain op_le op_le (pv 1) (pv 0) (pv 2)))))),
    (is_retX (ix_e (ie_and (ie_x (ix_call (ia_cons (ie_give (i := 0)) ia_nil) (len_cons len_nil))) (ie_chain od_le od_le (ie_var (i := 1)) (ie_var (i := 0)) (ie_var (i := 2))))))⟩
theorem Txt.ok_check_limit (T : Txt P w K mg base) : FnG P w K mg base (L2.CX P w) 3 T.a_check_limit T.d_check_limit ["limit", "tables"] (spX K 2 m_check_limit) := by
  refine fnY T.f_check_limit sc_check_limit fun cdv A outer s H E hg hr => ?_
  have hu64 := hr.units
  have hu65 := room65 hr
  exact ⟨_, fun W tkW => (pss_cons (ps_if (pt_cmp (pc_isN (pv 0))) (pss_one ps_retN) pss_nil)
      (pss_one (ps_if (PW.pt (pw_or (pt_not (pt_val (pe_callG T.ok_is_between hg (hr.mono (by decide)) (by rfl) T.g_is_between T.f_is_between.kp T.b_is_between .nil pass0 (pa_cons (pv 0) (pa_cons pe_int (pa_cons (pe_gint (by rfl) T.c_MOST_LIMIT) pa_nil)))))) (pw_or1 (pt_val (pe_callB (cr_any rfl) (by rfl) T.n_any (by decide +kernel) (pa_cons (pe_lc (own := [("table", 2)]) rfl sc_check_limit.nd (pi_any (pv 1)) (blkOk_by (N := N_check_limit) (sc := defScope s_check_limit) (by decide +kernel)) (fun _ _ _ _ _ => (pg_name (i := 2) sc_check_limit.nd rfl (by first | exact Or.inl rfl | exact Or.inr rfl))) (fun _ _ _ _ _ => pts_nil) (fun _ _ _ _ _ => (pe_cmpR op_gt (pe_callB call_lenA (by rfl) T.n_len (by decide +kernel) (pa_cons (pv 2) pa_nil)) (pv 0) (nomark _)))) pa_nil)))))) (pss_one (ps_rzVlimit T.x_InvalidLimit rfl hr tkW (pa_cons (pv 0) pa_nil) (by rfl))) pss_nil))),
    (isx_y (isy_seq (isy_of (is_if (it_B (ie_isN (ie_var (i := 0)))) is_retN is_next))
      (isy_if (it_or (it_not (it_B (ie_x (ix_call (ia_cons (ie_give (i := 0)) (ia_cons ie_int (ia_cons (ie_int (i := 100)) ia_nil))) (len_cons (len_cons (len_cons len_nil))))))) (it_B (ie_cb cd_any (ia_cons (ie_x (ix_m (im_comp (iw_any (ie_give (i := 1))) (ig_name (i := 2)) it_yes (ie_op od_gt (ie_cb cd_len (ia_cons (ie_var (i := 2)) ia_nil)) (ie_var (i := 0))) (by decide)))) ia_nil)))) (isy_rz T.ns_InvalidLimit (ia_cons (ie_give (i := 0)) ia_nil)) (isy_of is_next))))⟩
theorem Txt.ok_trimmed (T : Txt P w K mg base) : FnG P w K mg base CX0 1 T.a_trimmed T.d_trimmed ["entries"] (spD K 1 m_trimmed) := by
  refine fnD T.f_trimmed sc_trimmed fun cdv A outer s H E hg hr => ?_
  have hu64 := hr.units
  have hu65 := room65 hr
  exact ⟨_, (pss_cons (ps_set (i := 1) sc_trimmed.nd rfl (by first | exact Or.inl rfl | exact Or.inr rfl) (pe_callB call_lenA (by rfl) T.n_len (by decide +kernel) (pa_cons (pv 0) pa_nil)))
      (pss_cons (ps_while PassesOwn.never (PW.pt (pw_and (pt_cmpR op_gt (pv 1) pe_int (nomark _)) (pw_and1 (pt_cmp (pc_isN (pe_ix ix_seq (pv 0) (pe_op op_sub (pv 1) pe_int) (fun _ _ => rfl))))))) (pss_one (ps_aug (i := 1) sc_trimmed.nd rfl (by first | exact Or.inl rfl | exact Or.inr rfl) pe_int iop_sub)))
      (pss_one (ps_ret (pe_callTy call_tupF (by rfl) T.n_tuple (by decide +kernel) (pa_cons (pe_slice sl_any (pv 0) po_none (po_some (pv 1))) pa_nil)))))),
    (is_seq (is_setX (i := 1) (ix_e (ie_cb cd_len (ia_cons (ie_var (i := 0)) ia_nil))))
      (is_seq (is_while (n := fuel) (it_and (it_test (ie_op od_gt (ie_var (i := 1)) ie_int)) (it_B (ie_isN (ie_op od_ix (ie_var (i := 0)) (ie_op od_sub (ie_var (i := 1)) ie_int))))) (is_aug (i := 1) od_sub ie_int))
      (is_retX (ix_e (ie_cb cd_tuple (ia_cons (ie_x (ix_sl (ie_var (i := 0)) io_none (io_some (ie_var (i := 1))))) ia_nil))))))⟩
theorem Txt.ok_object_at (T : Txt P w K mg base) : FnG P w K mg base CX0 1 T.a_object_at T.d_object_at ["table", "slot"] (spD K 2 m_object_at) := by
  refine fnD T.f_object_at sc_object_at fun cdv A outer s H E hg hr => ?_
  have hu64 := hr.units
  have hu65 := room65 hr
  exact ⟨_, (pss_one (ps_ret (pe_ifExp (pt_cmpR op_lt (pv 1) (pe_callB call_lenA (by rfl) T.n_len (by decide +kernel) (pa_cons (pv 0) pa_nil)) (nomark _)) (pe_ix ix_seq (pv 0) (pv 1) (fun _ _ => rfl)) pe_non))),
    (is_retX (ix_if (it_test (ie_op od_lt (ie_var (i := 1)) (ie_cb cd_len (ia_cons (ie_var (i := 0)) ia_nil)))) (ix_e (ie_op od_ix (ie_var (i := 0)) (ie_var (i := 1)))) (ix_e ie_non)))⟩
theorem Txt.ok_free_slot (T : Txt P w K mg base) : FnG P w K mg base CX0 2 T.a_free_slot T.d_free_slot ["table", "start"] (spD K 2 m_free_slot) := by
  refine fnD T.f_free_slot sc_free_slot fun cdv A outer s H E hg hr => ?_
  have hu64 := hr.units
  have hu65 := room65 hr
  exact ⟨_, (pss_cons (ps_set (i := 2) sc_free_slot.nd rfl (by first | exact Or.inl rfl | exact Or.inr rfl) (pv 1))
      (pss_cons (ps_while PassesOwn.never (pt_cmp (pc_notN (pe_callG T.ok_object_at hg (hr.mono (by decide)) (by rfl) T.g_object_at T.f_object_at.kp T.b_object_at .nil pass0 (pa_cons (pv 0) (pa_cons (pv 2) pa_nil))))) (pss_one (ps_aug (i := 2) sc_free_slot.nd rfl (by first | exact Or.inl rfl | exact Or.inr rfl) pe_int iop_add)))
      (pss_one (ps_ret (pv 2))))),
    (is_seq (is_setX (i := 2) (ix_e (ie_give (i := 1))))
      (is_seq (is_while (n := fuel) (it_B (ie_notN (ie_x (ix_call (ia_cons (ie_give (i := 0)) (ia_cons (ie_give (i := 2)) ia_nil)) (len_cons (len_cons len_nil)))))) (is_aug (i := 2) od_addI ie_int))
      (is_retX (ix_e (ie_var (i := 2))))))⟩
theorem Txt.ok_with_entry (T : Txt P w K mg base) : FnG P w K mg base CX0 2 T.a_with_entry T.d_with_entry ["table", "slot", "entry"] (spD K 3 m_with_entry) := by
  refine fnD T.f_with_entry sc_with_entry fun cdv A outer s H E hg hr => ?_
  have hu64 := hr.units
  have hu65 := room65 hr
  exact ⟨_, (pss_cons (ps_set (i := 3) sc_with_entry.nd rfl (by first | exact Or.inl rfl | exact Or.inr rfl) (pe_op op_addX (pe_callTy call_list_of (by rfl) T.n_list (by decide +kernel) (pa_cons (pv 0) pa_nil)) (pe_op op_rep (pe_lst (pa_cons pe_non pa_nil)) (pe_op op_sub (pe_op op_addX (pv 1) pe_int) (pe_callB call_lenA (by rfl) T.n_len (by decide +kernel) (pa_cons (pv 0) pa_nil))))))
      (pss_cons (ps_asg (pv 2) (pg_sub (pv 3) (pv 1) set_list))
      (pss_one (ps_ret (pe_callG T.ok_trimmed hg (hr.mono (by decide)) (by rfl) T.g_trimmed T.f_trimmed.kp T.b_trimmed .nil pass0 (pa_cons (pv 3) pa_nil)))))),
    (is_seq (is_setX (i := 3) (ix_op ox_add (ie_x (ix_m (im_cb cm_list (ia_cons (ie_var (i := 0)) ia_nil)))) (ie_x (ix_op ox_mul (ie_x (ix_m (im_lst (ia_cons ie_non ia_nil)))) (ie_op od_sub (ie_x (ix_op ox_add (ie_var (i := 1)) ie_int)) (ie_cb cd_len (ia_cons (ie_var (i := 0)) ia_nil)))))))
      (is_seq (is_put (i := 3) sd_setL (ie_var (i := 1)) (ie_give (i := 2)))
      (is_retX (ix_call (ia_cons (ie_var (i := 3)) ia_nil) (len_cons len_nil)))))⟩
theorem Txt.ok_is_operation (T : Txt P w K mg base) : FnG P w K mg base CX0 3 T.a_is_operation T.d_is_operation ["value"] (spD K 1 m_is_operation) := by
  refine fnD T.f_is_operation sc_is_operation fun cdv A outer s H E hg hr => ?_
  have hu64 := hr.units
  have hu65 := room65 hr
  exact ⟨_, (pss_cons (ps_if (PW.pt (pw_or (pt_not (pt_val (pe_callB call_isi (by rfl) T.n_isinstance (by decide +kernel) (pa_cons (pv 0) (pa_cons (pe_bty "tuple" (by rfl) T.n_tuple (by decide +kernel)) pa_nil))))) (pw_or (pt_cmpR (op_eqA0 hu64) (pv 0) (pe_tupF pa_nil) (nomark _)) (pw_or1 (pt_not (pt_val (pe_callB call_isi (by rfl) T.n_isinstance (by decide +kernel) (pa_cons (pe_ix ix_seq (pv 0) pe_int (fun _ _ => rfl)) (pa_cons (pe_bty "str" (by rfl) T.n_str (by decide +kernel)) pa_nil))))))))) (pss_one (ps_ret pe_bl)) pss_nil)
      (pss_one (ps_ret (pe_and (pe_cmpR (op_eqA hu64) (pe_callB call_lenA (by rfl) T.n_len (by decide +kernel) (pa_cons (pv 0) pa_nil)) (pe_kget (by rfl) T.m_LENGTHS T.k_LENGTHS (pe_ix ix_seq (pv 0) pe_int (fun _ _ => rfl)) pe_int ⟨rfl, rfl, rfl, rfl⟩) (nomark _)) (pe_one (pe_callB (cr_all rfl) (by rfl) T.n_all (by decide +kernel) (pa_cons (pe_lc (own := [("one", 1)]) rfl sc_is_operation.nd (pi_any (pe_slice sl_any (pv 0) (po_some pe_int) po_none)) (blkOk_by (N := N_is_operation) (sc := defScope s_is_operation) (by decide +kernel)) (fun _ _ _ _ _ => (pg_name (i := 1) sc_is_operation.nd rfl (by first | exact Or.inl rfl | exact Or.inr rfl))) (fun _ _ _ _ _ => pts_nil) (fun _ _ _ _ _ => (pe_callG T.ok_is_between hg (hr.mono (by decide)) (by rfl) T.g_is_between T.f_is_between.kp T.b_is_between .nil pass0 (pa_cons (pv 1) (pa_cons pe_int (pa_cons (pe_gint (by rfl) T.c_MOST_NUMBER) pa_nil)))))) pa_nil))))))),
    (is_seq (is_if (it_or (it_not (it_B (ie_isi (T := "tuple") kis_tuple (ie_var (i := 0))))) (it_or (it_test (ie_op od_eq0 (ie_var (i := 0)) (ie_tup ia_nil))) (it_not (it_B (ie_isi (T := "str") kis_str (ie_op od_ix (ie_var (i := 0)) ie_int)))))) (is_retX (ix_e ie_bl)) is_next)
      (is_retX (ix_e (ie_and (ie_op od_eq (ie_cb cd_len (ia_cons (ie_var (i := 0)) ia_nil)) (ie_op od_kget (ie_op od_ix (ie_var (i := 0)) ie_int) ie_int)) (ie_cb cd_all (ia_cons (ie_x (ix_m (im_comp (iw_any (ie_x (ix_sl (ie_var (i := 0)) (io_some ie_int) io_none))) (ig_name (i := 1)) it_yes (ie_x (ix_call (ia_cons (ie_give (i := 1)) (ia_cons ie_int (ia_cons (ie_int (i := 999)) ia_nil))) (len_cons (len_cons (len_cons len_nil))))) (by decide)))) ia_nil))))))⟩
theorem Txt.ok_landing (T : Txt P w K mg base) : FnG P w K mg base CX0 3 T.a_landing T.d_landing ["table", "operation"] (spD K 2 m_landing) := by
  refine fnD T.f_landing sc_landing fun cdv A outer s H E hg hr => ?_
  have hu64 := hr.units
  have hu65 := room65 hr
  exact ⟨_, (pss_cons (ps_if (pt_cmpR (op_eqA hu64) (pe_ix ix_seq (pv 1) pe_int (fun _ _ => rfl)) (pe_gstr (by rfl) T.c_CLOSE) (nomark _)) (pss_one (ps_ret pe_non)) pss_nil)
      (pss_cons (ps_if (pt_cmpR (op_eqA hu64) (pe_ix ix_seq (pv 1) pe_int (fun _ _ => rfl)) (pe_gstr (by rfl) T.c_DUP_ONTO) (nomark _)) (pss_one (ps_ret (pe_ix ix_seq (pv 1) pe_int (fun _ _ => rfl)))) pss_nil)
      (pss_one (ps_ret (pe_callGK T.ok_free_slot hg (hr.mono (by decide)) (by rfl) T.g_free_slot T.f_free_slot.kp T.k1_free_slot_start pass0 (pa_cons (pv 0) pa_nil) (pk_cons (pe_ifExp (pt_cmpR (op_eqA hu64) (pe_ix ix_seq (pv 1) pe_int (fun _ _ => rfl)) (pe_gstr (by rfl) T.c_DUP_FROM) (nomark _)) (pe_ix ix_seq (pv 1) pe_int (fun _ _ => rfl)) pe_int) pk_nil)))))),
    (is_seq (is_if (it_test (ie_op od_eq (ie_op od_ix (ie_var (i := 1)) ie_int) (ie_str (x := "close")))) (is_retX (ix_e ie_non)) is_next)
      (is_seq (is_if (it_test (ie_op od_eq (ie_op od_ix (ie_var (i := 1)) ie_int) (ie_str (x := "dup2")))) (is_retX (ix_e (ie_op od_ix (ie_var (i := 1)) ie_int))) is_next)
      (is_retX (ix_callK (ia_cons (ie_give (i := 0)) ia_nil) (ia_cons (ie_x (ix_if (it_test (ie_op od_eq (ie_op od_ix (ie_var (i := 1)) ie_int) (ie_str (x := "dup_from")))) (ix_e (ie_op od_ix (ie_var (i := 1)) ie_int)) (ix_e ie_int))) ia_nil) selR_ok (lenS (len_cons len_nil) (len_cons len_nil) rfl)))))⟩
theorem Txt.ok_apply (T : Txt P w K mg base) : FnG P w K mg base (L2.CX P w) 4 T.a_apply T.d_apply ["table", "operation", "limit"] (spX K 3 m_apply) := by
  refine fnY T.f_apply sc_apply fun cdv A outer s H E hg hr => ?_
  have hu64 := hr.units
  have hu65 := room65 hr
  exact ⟨_, fun W tkW => (pss_cons (ps_if (pt_not (pt_val (pe_callG T.ok_is_operation hg (hr.mono (by decide)) (by rfl) T.g_is_operation T.f_is_operation.kp T.b_is_operation .nil pass0 (pa_cons (pv 1) pa_nil)))) (pss_one (ps_rz0 PySem.F.excBase_ValueError T.x_InvalidOperation rfl tkW (by rfl))) pss_nil)
      (pss_cons (ps_expr (pe_callXS T.ok_check_limit hg (hr.mono (by decide)) (by rfl) T.g_check_limit T.f_check_limit.kp T.b_check_limit .nil tkW (pa_cons (pv 2) (pa_cons (pe_lst (pa_cons (pv 0) pa_nil)) pa_nil))))
      (pss_cons (ps_set (i := 3) sc_apply.nd rfl (by first | exact Or.inl rfl | exact Or.inr rfl) (pe_callG T.ok_object_at hg (hr.mono (by decide)) (by rfl) T.g_object_at T.f_object_at.kp T.b_object_at .nil pass0 (pa_cons (pv 0) (pa_cons (pe_ix ix_seq (pv 1) pe_int (fun _ _ => rfl)) pa_nil))))
      (pss_cons (ps_if (pt_cmp (pc_isN (pv 3))) (pss_one (ps_rzLE T.x_FreeSlot rfl hr tkW (pa_cons (pe_ix ix_seq (pv 1) pe_int (fun _ _ => rfl)) pa_nil) (by rfl))) pss_nil)
      (pss_cons (ps_set (i := 4) sc_apply.nd rfl (by first | exact Or.inl rfl | exact Or.inr rfl) (pe_callG T.ok_landing hg (hr.mono (by decide)) (by rfl) T.g_landing T.f_landing.kp T.b_landing .nil pass0 (pa_cons (pv 0) (pa_cons (pv 1) pa_nil))))
      (pss_cons (ps_if (pt_cmp (pc_isN (pv 4))) (pss_one (ps_ret (pe_callG T.ok_with_entry hg (hr.mono (by decide)) (by rfl) T.g_with_entry T.f_with_entry.kp T.b_with_entry .nil pass0 (pa_cons (pv 0) (pa_cons (pe_ix ix_seq (pv 1) pe_int (fun _ _ => rfl)) (pa_cons pe_non pa_nil)))))) pss_nil)
      (pss_cons (ps_if (PW.pt (pw_and (pt_cmp (pc_notN (pv 2))) (pw_and1 (pt_cmpR op_ge (pv 4) (pv 2) (nomark _))))) (pss_one (ps_rzOE T.x_TableFull rfl hr tkW (pa_cons (pv 2) pa_nil) (by rfl))) pss_nil)
      (pss_one (ps_ret (pe_callG T.ok_with_entry hg (hr.mono (by decide)) (by rfl) T.g_with_entry T.f_with_entry.kp T.b_with_entry .nil pass0 (pa_cons (pv 0) (pa_cons (pv 4) (pa_cons (pv 3) pa_nil))))))))))))),
    (isx_y (isy_seq (isy_if (it_not (it_B (ie_x (ix_call (ia_cons (ie_give (i := 1)) ia_nil) (len_cons len_nil))))) (isy_rz0 T.ns_InvalidOperation) (isy_of is_next))
      (isy_seq (isy_drop (ier_call (ia_cons (ie_give (i := 2)) (ia_cons (ie_x (ix_m (im_lst (ia_cons (ie_give (i := 0)) ia_nil)))) ia_nil)) (len_cons (len_cons len_nil))))
      (isy_seq (isy_of (is_setX (i := 3) (ix_call (ia_cons (ie_give (i := 0)) (ia_cons (ie_op od_ix (ie_var (i := 1)) ie_int) ia_nil)) (len_cons (len_cons len_nil)))))
      (isy_seq (isy_if (it_B (ie_isN (ie_var (i := 3)))) (isy_rz T.ns_FreeSlot (ia_cons (ie_op od_ix (ie_var (i := 1)) ie_int) ia_nil)) (isy_of is_next))
      (isy_seq (isy_of (is_setX (i := 4) (ix_call (ia_cons (ie_give (i := 0)) (ia_cons (ie_give (i := 1)) ia_nil)) (len_cons (len_cons len_nil)))))
      (isy_seq (isy_of (is_if (it_B (ie_isN (ie_var (i := 4)))) (is_retX (ix_call (ia_cons (ie_give (i := 0)) (ia_cons (ie_op od_ix (ie_var (i := 1)) ie_int) (ia_cons ie_non ia_nil))) (len_cons (len_cons (len_cons len_nil))))) is_next))
      (isy_seq (isy_if (it_and (it_B (ie_notN (ie_var (i := 2)))) (it_test (ie_op od_ge (ie_var (i := 4)) (ie_var (i := 2))))) (isy_rz T.ns_TableFull (ia_cons (ie_give (i := 2)) ia_nil)) (isy_of is_next))
      (isy_of (is_retX (ix_call (ia_cons (ie_give (i := 0)) (ia_cons (ie_give (i := 4)) (ia_cons (ie_give (i := 3)) ia_nil))) (len_cons (len_cons (len_cons len_nil))))))))))))))⟩
theorem Txt.ok__law_pen (T : Txt P w K mg base) : FnG P w K mg base CX0 1 T.a__law_pen T.d__law_pen ["_law_script"] (spPen K) := by
  refine okG T.f__law_pen sc__law_pen (fun vs H Q E h => ?_) (fun cdv A outer s H vs Q E hg hr h => ?_)
  · obtain ⟨a, ns, rfl, _⟩ := h; rfl
  · exact ⟨_, pss_one (ps_ret (pe_lst (pa_cons (pe_callTy call_list_of (by rfl) T.n_list (by decide +kernel) (pa_cons (pe_slice sl_list (pv 0) po_none (po_some pe_int)) pa_nil)) (pa_cons pe_int (pa_cons pe_int pa_nil))))), pen_read h⟩
theorem Txt.ok__law_draw (T : Txt P w K mg base) : FnG P w K mg base CX0 1 T.a__law_draw T.d__law_draw ["_law_pen_here", "_law_bound"] (spD K 2 m__law_draw) := by
  refine fnD T.f__law_draw sc__law_draw fun cdv A outer s H E hg hr => ?_
  have hu64 := hr.units
  have hu65 := room65 hr
  exact ⟨_, (pss_cons (ps_if (pt_cmpR op_gt (pe_ix ix_seq (pv 0) pe_int (fun _ _ => rfl)) pe_int (nomark _)) (pss_cons (ps_set (i := 2) sc__law_draw.nd rfl (by first | exact Or.inl rfl | exact Or.inr rfl) (pe_op op_mod (pe_ix ix_seq (pv 0) pe_int (fun _ _ => rfl)) (pv 1)))
      (pss_cons (ps_asg (pe_op op_fdiv (pe_ix ix_seq (pv 0) pe_int (fun _ _ => rfl)) (pv 1)) (pg_sub (pv 0) pe_int set_list))
      (pss_one (ps_ret (pv 2))))) pss_nil)
      (pss_cons (ps_set (i := 3) sc__law_draw.nd rfl (by first | exact Or.inl rfl | exact Or.inr rfl) (pe_ix ix_seq (pv 0) pe_int (fun _ _ => rfl)))
      (pss_cons (ps_asg (pe_op op_addX (pv 3) pe_int) (pg_sub (pv 0) pe_int set_list))
      (pss_cons (ps_set (i := 4) sc__law_draw.nd rfl (by first | exact Or.inl rfl | exact Or.inr rfl) (pe_op op_addX (pe_op op_mul pe_int (pv 3)) pe_int))
      (pss_cons (ps_if (pt_cmpR (op_neA hu64) (pe_ix ix_seq (pv 0) pe_int (fun _ _ => rfl)) (pe_lst pa_nil) (nomark _)) (pss_one (ps_set (i := 4) sc__law_draw.nd rfl (by first | exact Or.inl rfl | exact Or.inr rfl) (pe_ix ix_seq (pe_ix ix_seq (pv 0) pe_int (fun _ _ => rfl)) (pe_op op_mod (pv 3) (pe_callB call_lenA (by rfl) T.n_len (by decide +kernel) (pa_cons (pe_ix ix_seq (pv 0) pe_int (fun _ _ => rfl)) pa_nil))) (fun _ _ => rfl)))) pss_nil)
      (pss_cons (ps_if (PW.pt (pw_and (pt_cmpR op_lt (pv 3) (pe_callB call_lenA (by rfl) T.n_len (by decide +kernel) (pa_cons (pe_ix ix_seq (pv 0) pe_int (fun _ _ => rfl)) pa_nil)) (nomark _)) (pw_and1 (pt_cmpR op_ge (pe_callB call_abs (by rfl) T.n_abs (by decide +kernel) (pa_cons (pv 4) pa_nil)) (pe_op op_pow pe_int pe_int) (nomark _))))) (pss_cons (ps_set (i := 5) sc__law_draw.nd rfl (by first | exact Or.inl rfl | exact Or.inr rfl) (pe_op op_addX (pe_op op_mul pe_int (pe_callB call_abs (by rfl) T.n_abs (by decide +kernel) (pa_cons (pv 4) pa_nil))) (pe_callTy call_intA (by rfl) T.n_int (by decide +kernel) (pa_cons (pe_cmpR op_lt (pv 4) pe_int (nomark _)) pa_nil))))
      (pss_cons (ps_asg (pe_op op_fdiv (pv 5) (pv 1)) (pg_sub (pv 0) pe_int set_list))
      (pss_one (ps_ret (pe_op op_mod (pv 5) (pv 1)))))) pss_nil)
      (pss_cons (ps_set (i := 6) sc__law_draw.nd rfl (by first | exact Or.inl rfl | exact Or.inr rfl) (pe_op op_mod (pe_op op_pow (pe_op op_addX (pe_op op_addX (pe_op op_mod (pv 4) pe_int) (pe_op op_mul pe_int (pv 3))) pe_int) pe_int) pe_int))
      (pss_cons (ps_set (i := 6) sc__law_draw.nd rfl (by first | exact Or.inl rfl | exact Or.inr rfl) (pe_op op_mod (pe_op op_pow (pe_op op_addX (pe_op op_mul (pv 6) (pe_op op_addX (pe_op op_mul pe_int (pv 3)) pe_int)) pe_int) pe_int) pe_int))
      (pss_one (ps_ret (pe_op op_mod (pe_op op_fdiv (pv 6) pe_int) (pv 1)))))))))))),
    (is_seq (is_if (it_test (ie_op od_gt (ie_op od_ix (ie_var (i := 0)) ie_int) ie_int)) (is_seq (is_setX (i := 2) (ix_e (ie_op od_mod (ie_op od_ix (ie_var (i := 0)) ie_int) (ie_var (i := 1)))))
      (is_seq (is_put (i := 0) sd_setL ie_int (ie_op od_div (ie_op od_ix (ie_var (i := 0)) ie_int) (ie_var (i := 1))))
      (is_retX (ix_e (ie_var (i := 2)))))) is_next)
      (is_seq (is_setX (i := 3) (ix_e (ie_op od_ix (ie_var (i := 0)) ie_int)))
      (is_seq (is_put (i := 0) sd_setL ie_int (ie_x (ix_op ox_add (ie_var (i := 3)) ie_int)))
      (is_seq (is_setX (i := 4) (ix_op ox_add (ie_op od_mul ie_int (ie_var (i := 3))) ie_int))
      (is_seq (is_if (it_test (ie_op od_ne (ie_op od_ix (ie_var (i := 0)) ie_int) (ie_x (ix_m (im_lst ia_nil))))) (is_setX (i := 4) (ix_e (ie_op od_ix (ie_op od_ix (ie_var (i := 0)) ie_int) (ie_op od_mod (ie_var (i := 3)) (ie_cb cd_len (ia_cons (ie_op od_ix (ie_var (i := 0)) ie_int) ia_nil)))))) is_next)
      (is_seq (is_if (it_and (it_test (ie_op od_lt (ie_var (i := 3)) (ie_cb cd_len (ia_cons (ie_op od_ix (ie_var (i := 0)) ie_int) ia_nil)))) (it_test (ie_op od_ge (ie_cb cd_abs (ia_cons (ie_var (i := 4)) ia_nil)) (ie_op od_pow ie_int ie_int)))) (is_seq (is_setX (i := 5) (ix_op ox_add (ie_op od_mul ie_int (ie_cb cd_abs (ia_cons (ie_var (i := 4)) ia_nil))) (ie_cb cd_int (ia_cons (ie_op od_lt (ie_var (i := 4)) ie_int) ia_nil))))
      (is_seq (is_put (i := 0) sd_setL ie_int (ie_op od_div (ie_var (i := 5)) (ie_var (i := 1))))
      (is_retX (ix_e (ie_op od_mod (ie_var (i := 5)) (ie_var (i := 1))))))) is_next)
      (is_seq (is_setX (i := 6) (ix_e (ie_op od_mod (ie_op od_pow (ie_x (ix_op ox_add (ie_x (ix_op ox_add (ie_op od_mod (ie_var (i := 4)) ie_int) (ie_op od_mul ie_int (ie_var (i := 3))))) ie_int)) ie_int) ie_int)))
      (is_seq (is_setX (i := 6) (ix_e (ie_op od_mod (ie_op od_pow (ie_x (ix_op ox_add (ie_op od_mul (ie_var (i := 6)) (ie_x (ix_op ox_add (ie_op od_mul ie_int (ie_var (i := 3))) ie_int))) ie_int)) ie_int) ie_int)))
      (is_retX (ix_e (ie_op od_mod (ie_op od_div (ie_var (i := 6)) ie_int) (ie_var (i := 1)))))))))))))⟩
theorem Txt.ok__law_pool (T : Txt P w K mg base) : FnG P w K mg base CX0 2 T.a__law_pool T.d__law_pool ["_law_pen_here", "_law_many"] (spD K 2 m__law_pool) := by
  refine fnD T.f__law_pool sc__law_pool fun cdv A outer s H E hg hr => ?_
  have hu64 := hr.units
  have hu65 := room65 hr
  exact ⟨_, (pss_cons (ps_set (i := 2) sc__law_pool.nd rfl (by first | exact Or.inl rfl | exact Or.inr rfl) pe_str)
      (pss_cons (ps_set (i := 3) sc__law_pool.nd rfl (by first | exact Or.inl rfl | exact Or.inr rfl) (pe_callG T.ok__law_draw hg (hr.mono (by decide)) (by rfl) T.g__law_draw T.f__law_draw.kp T.b__law_draw .nil pass0 (pa_cons (pv 0) (pa_cons pe_int pa_nil))))
      (pss_cons (ps_set (i := 4) sc__law_pool.nd rfl (by first | exact Or.inl rfl | exact Or.inr rfl) (pe_callG T.ok__law_draw hg (hr.mono (by decide)) (by rfl) T.g__law_draw T.f__law_draw.kp T.b__law_draw .nil pass0 (pa_cons (pv 0) (pa_cons pe_int pa_nil))))
      (pss_cons (ps_set (i := 5) sc__law_pool.nd rfl (by first | exact Or.inl rfl | exact Or.inr rfl) (pe_lc (own := [("_law_k", 6)]) rfl sc__law_pool.nd (pi_range1 (by rfl) T.n_range (pa_cons (pv 1) pa_nil)) (blkOk_by (N := N__law_pool) (sc := defScope s__law_pool) (by decide +kernel)) (fun _ _ _ _ _ => (pg_name (i := 6) sc__law_pool.nd rfl (by first | exact Or.inl rfl | exact Or.inr rfl))) (fun _ _ _ _ _ => pts_nil) (fun _ _ _ _ _ => (pe_ix ix_seq (pv 2) (pe_op op_mod (pe_op op_addX (pv 4) (pe_op op_mul pe_int (pv 6))) pe_int) (fun _ _ => rfl)))))
      (pss_cons (ps_if (pt_cmpR (op_eqA hu64) (pv 3) pe_int (nomark _)) (pss_one (ps_ret (pe_lc (own := [("_law_letter", 7)]) rfl sc__law_pool.nd (pi_any (pv 5)) (blkOk_by (N := N__law_pool) (sc := defScope s__law_pool) (by decide +kernel)) (fun _ _ _ _ _ => (pg_name (i := 7) sc__law_pool.nd rfl (by first | exact Or.inl rfl | exact Or.inr rfl))) (fun _ _ _ _ _ => pts_nil) (fun _ _ _ _ _ => (pe_op op_addX (pe_op op_repS (pe_ix ix_seq (pv 2) (pv 4) (fun _ _ => rfl)) pe_int) (pv 7)))))) pss_nil)
      (pss_cons (ps_if (pt_cmpR (op_eqA hu64) (pv 3) pe_int (nomark _)) (pss_one (ps_ret (pe_lc (own := [("_law_k", 6)]) rfl sc__law_pool.nd (pi_range1 (by rfl) T.n_range (pa_cons (pv 1) pa_nil)) (blkOk_by (N := N__law_pool) (sc := defScope s__law_pool) (by decide +kernel)) (fun _ _ _ _ _ => (pg_name (i := 6) sc__law_pool.nd rfl (by first | exact Or.inl rfl | exact Or.inr rfl))) (fun _ _ _ _ _ => pts_nil) (fun _ _ _ _ _ => (pe_op op_repS (pe_ix ix_seq (pv 5) (pv 6) (fun _ _ => rfl)) (pe_op op_addX pe_int (pe_op op_mod (pv 6) pe_int))))))) pss_nil)
      (pss_one (ps_ret (pv 5))))))))),
    (is_seq (is_setX (i := 2) (ix_e ie_str))
      (is_seq (is_setX (i := 3) (ix_call (ia_cons (ie_var (i := 0)) (ia_cons ie_int ia_nil)) (len_cons (len_cons len_nil))))
      (is_seq (is_setX (i := 4) (ix_call (ia_cons (ie_var (i := 0)) (ia_cons ie_int ia_nil)) (len_cons (len_cons len_nil))))
      (is_seq (is_setX (i := 5) (ix_m (im_comp (iw_rng1 (ia_cons (ie_var (i := 1)) ia_nil)) (ig_name (i := 6)) it_yes (ie_op od_ix (ie_var (i := 2)) (ie_op od_mod (ie_x (ix_op ox_add (ie_var (i := 4)) (ie_op od_mul ie_int (ie_var (i := 6))))) ie_int)) (by decide))))
      (is_seq (is_if (it_test (ie_op od_eq (ie_var (i := 3)) ie_int)) (is_retX (ix_m (im_comp (iw_any (ie_give (i := 5))) (ig_name (i := 7)) it_yes (ie_x (ix_op ox_add (ie_op od_mulS (ie_op od_ix (ie_var (i := 2)) (ie_var (i := 4))) ie_int) (ie_var (i := 7)))) (by decide)))) is_next)
      (is_seq (is_if (it_test (ie_op od_eq (ie_var (i := 3)) ie_int)) (is_retX (ix_m (im_comp (iw_rng1 (ia_cons (ie_var (i := 1)) ia_nil)) (ig_name (i := 6)) it_yes (ie_op od_mulS (ie_op od_ix (ie_var (i := 5)) (ie_var (i := 6))) (ie_x (ix_op ox_add ie_int (ie_op od_mod (ie_var (i := 6)) ie_int)))) (by decide)))) is_next)
      (is_retX (ix_e (ie_var (i := 5))))))))))⟩
theorem Txt.ok__law_trimmed (T : Txt P w K mg base) : FnG P w K mg base CX0 1 T.a__law_trimmed T.d__law_trimmed ["_law_entries"] (spD K 1 m__law_trimmed) := by
  refine fnD T.f__law_trimmed sc__law_trimmed fun cdv A outer s H E hg hr => ?_
  have hu64 := hr.units
  have hu65 := room65 hr
  exact ⟨_, (pss_cons (ps_set (i := 1) sc__law_trimmed.nd rfl (by first | exact Or.inl rfl | exact Or.inr rfl) (pe_callB call_lenA (by rfl) T.n_len (by decide +kernel) (pa_cons (pv 0) pa_nil)))
      (pss_cons (ps_while PassesOwn.never (PW.pt (pw_and (pt_cmpR op_gt (pv 1) pe_int (nomark _)) (pw_and1 (pt_cmp (pc_isN (pe_ix ix_seq (pv 0) (pe_op op_sub (pv 1) pe_int) (fun _ _ => rfl))))))) (pss_one (ps_set (i := 1) sc__law_trimmed.nd rfl (by first | exact Or.inl rfl | exact Or.inr rfl) (pe_op op_sub (pv 1) pe_int))))
      (pss_one (ps_ret (pe_callTy call_tupF (by rfl) T.n_tuple (by decide +kernel) (pa_cons (pe_slice sl_any (pv 0) po_none (po_some (pv 1))) pa_nil)))))),
    (is_seq (is_setX (i := 1) (ix_e (ie_cb cd_len (ia_cons (ie_var (i := 0)) ia_nil))))
      (is_seq (is_while (n := fuel) (it_and (it_test (ie_op od_gt (ie_var (i := 1)) ie_int)) (it_B (ie_isN (ie_op od_ix (ie_var (i := 0)) (ie_op od_sub (ie_var (i := 1)) ie_int))))) (is_setX (i := 1) (ix_e (ie_op od_sub (ie_var (i := 1)) ie_int))))
      (is_retX (ix_e (ie_cb cd_tuple (ia_cons (ie_x (ix_sl (ie_var (i := 0)) io_none (io_some (ie_var (i := 1))))) ia_nil))))))⟩
theorem Txt.ok__law_table (T : Txt P w K mg base) : FnG P w K mg base CX0 2 T.a__law_table T.d__law_table ["_law_pen_here", "_law_pool_here", "_law_most"] (spD K 3 m__law_table) := by
  refine fnD T.f__law_table sc__law_table fun cdv A outer s H E hg hr => ?_
  have hu64 := hr.units
  have hu65 := room65 hr
  exact ⟨_, (pss_cons (ps_set (i := 3) sc__law_table.nd rfl (by first | exact Or.inl rfl | exact Or.inr rfl) (pe_lst pa_nil))
      (pss_cons (ps_for PassesOwn.never rfl (pi_range1 (by rfl) T.n_range (pa_cons (pe_callG T.ok__law_draw hg (hr.mono (by decide)) (by rfl) T.g__law_draw T.f__law_draw.kp T.b__law_draw .nil pass0 (pa_cons (pv 0) (pa_cons (pe_op op_addX (pv 2) pe_int) pa_nil))) pa_nil)) (pg_name (i := 4) sc__law_table.nd rfl (by first | exact Or.inl rfl | exact Or.inr rfl)) (pss_cons (ps_set (i := 5) sc__law_table.nd rfl (by first | exact Or.inl rfl | exact Or.inr rfl) (pe_ix ix_seq (pv 1) (pe_callG T.ok__law_draw hg (hr.mono (by decide)) (by rfl) T.g__law_draw T.f__law_draw.kp T.b__law_draw .nil pass0 (pa_cons (pv 0) (pa_cons (pe_callB call_lenA (by rfl) T.n_len (by decide +kernel) (pa_cons (pv 1) pa_nil)) pa_nil))) (fun _ _ => rfl)))
      (pss_one (ps_expr (pe_bm PySem.F.plainAttrs_list PySem.F.slot_list_append PySem.F.type_list_append mt_append (pv 3) (pa_cons (pe_ix ix_seq (pe_lst (pa_cons pe_non (pa_cons (pv 5) (pa_cons (pv 5) pa_nil)))) (pe_callG T.ok__law_draw hg (hr.mono (by decide)) (by rfl) T.g__law_draw T.f__law_draw.kp T.b__law_draw .nil pass0 (pa_cons (pv 0) (pa_cons pe_int pa_nil))) (fun _ _ => rfl)) pa_nil))))))
      (pss_one (ps_ret (pe_callG T.ok__law_trimmed hg (hr.mono (by decide)) (by rfl) T.g__law_trimmed T.f__law_trimmed.kp T.b__law_trimmed .nil pass0 (pa_cons (pv 3) pa_nil)))))),
    (is_seq (is_setX (i := 3) (ix_m (im_lst ia_nil)))
      (is_seq (is_for (iw_rng1 (ia_cons (ie_x (ix_call (ia_cons (ie_var (i := 0)) (ia_cons (ie_x (ix_op ox_add (ie_var (i := 2)) ie_int)) ia_nil)) (len_cons (len_cons len_nil)))) ia_nil)) (ig_name (i := 4)) (is_seq (is_setX (i := 5) (ix_e (ie_op od_ix (ie_var (i := 1)) (ie_x (ix_call (ia_cons (ie_var (i := 0)) (ia_cons (ie_cb cd_len (ia_cons (ie_var (i := 1)) ia_nil)) ia_nil)) (len_cons (len_cons len_nil)))))))
      (is_drop (ie_mt (i := 3) md_app (ia_cons (ie_op od_ix (ie_x (ix_m (im_lst (ia_cons ie_non (ia_cons (ie_give (i := 5)) (ia_cons (ie_give (i := 5)) ia_nil)))))) (ie_x (ix_call (ia_cons (ie_var (i := 0)) (ia_cons ie_int ia_nil)) (len_cons (len_cons len_nil))))) ia_nil)))))
      (is_retX (ix_call (ia_cons (ie_var (i := 3)) ia_nil) (len_cons len_nil)))))⟩
theorem Txt.ok__law_heard (T : Txt P w K mg base) : FnG P w K mg base CX0 5 T.a__law_heard T.d__law_heard ["_law_table_here", "_law_operation_here", "_law_cap"] (spD K 3 m__law_heard) := by
  refine fnD T.f__law_heard sc__law_heard fun cdv A outer s H E hg hr => ?_
  have hu64 := hr.units
  have hu65 := room65 hr
  exact ⟨_, (pss_cons (ps_set (i := 3) sc__law_heard.nd rfl (by first | exact Or.inl rfl | exact Or.inr rfl) pe_non)
      (pss_cons (ps_tryG (i := 4) (cs := [.ref T.c_TableError, .ref T.c_FreeSlot, .ref T.c_TableFull, .ref T.c_StepFailed]) rfl rfl rfl sc__law_heard.nd rfl rfl (Nat.le_of_ble_eq_true rfl) (.cons ⟨by rfl, by decide, Or.inl T.gc_TableError⟩ (.cons ⟨by rfl, by decide, Or.inl T.x_FreeSlot.gC⟩ (.cons ⟨by rfl, by decide, Or.inl T.x_TableFull.gC⟩ (.cons ⟨by rfl, by decide, Or.inl T.gc_StepFailed⟩ .nil)))) (fun W pn xe tkW _ => (pss_one (ps_ret (pe_ix ix_seq (pe_lst (pa_cons pe_str (pa_cons pe_str pa_nil))) (pe_callTy call_intA (by rfl) T.n_int (by decide +kernel) (pa_cons (pe_callB call_isi (by rfl) T.n_isinstance (by decide +kernel) (pa_cons (pe_callKS T.ok_apply hg (hr.mono (by decide)) (by rfl) T.g_apply T.f_apply.kp T.k2_apply_limit tkW (pa_cons (pv 0) (pa_cons (pv 1) pa_nil)) (pk_cons (pv 2) pk_nil)) (pa_cons (pe_bty "tuple" (by rfl) T.n_tuple (by decide +kernel)) pa_nil))) pa_nil)) (fun _ _ => rfl))))) (fun a pn => (pss_one (ps_set (i := 3) sc__law_heard.nd rfl (by first | exact Or.inl rfl | exact Or.inr rfl) (pv 4)))))
      (pss_cons (ps_set (i := 5) sc__law_heard.nd rfl (by first | exact Or.inl rfl | exact Or.inr rfl) (pe_lst (pa_cons (pe_callB call_isX (by rfl) T.n_isinstance (by decide +kernel) (pa_cons (pv 3) (pa_cons (pe_gcls (by rfl) T.x_InvalidOperation.gC) pa_nil))) (pa_cons (pe_callB call_isX (by rfl) T.n_isinstance (by decide +kernel) (pa_cons (pv 3) (pa_cons (pe_gcls (by rfl) T.x_InvalidLimit.gC) pa_nil))) (pa_cons (pe_callB call_isX (by rfl) T.n_isinstance (by decide +kernel) (pa_cons (pv 3) (pa_cons (pe_gcls (by rfl) T.x_FreeSlot.gC) pa_nil))) pa_nil)))))
      (pss_cons (ps_expr (pe_bm PySem.F.plainAttrs_list PySem.F.slot_list_append PySem.F.type_list_append mt_append (pv 5) (pa_cons (pe_callB call_isX (by rfl) T.n_isinstance (by decide +kernel) (pa_cons (pv 3) (pa_cons (pe_gcls (by rfl) T.x_TableFull.gC) pa_nil))) pa_nil)))
      (pss_cons (ps_set (i := 6) sc__law_heard.nd rfl (by first | exact Or.inl rfl | exact Or.inr rfl) (pe_lst (pa_cons (pe_callB call_isX (by rfl) T.n_isinstance (by decide +kernel) (pa_cons (pv 3) (pa_cons (pe_gcls (by rfl) T.gc_TableError) pa_nil))) (pa_cons (pe_callB call_isX (by rfl) T.n_isinstance (by decide +kernel) (pa_cons (pv 3) (pa_cons (pe_bty "ValueError" (by rfl) T.n_ValueError (by decide +kernel)) pa_nil))) (pa_cons (pe_callB call_isX (by rfl) T.n_isinstance (by decide +kernel) (pa_cons (pv 3) (pa_cons (pe_bty "LookupError" (by rfl) T.n_LookupError (by decide +kernel)) pa_nil))) pa_nil)))))
      (pss_cons (ps_expr (pe_bm PySem.F.plainAttrs_list PySem.F.slot_list_append PySem.F.type_list_append mt_append (pv 6) (pa_cons (pe_callB call_isX (by rfl) T.n_isinstance (by decide +kernel) (pa_cons (pv 3) (pa_cons (pe_bty "OverflowError" (by rfl) T.n_OverflowError (by decide +kernel)) pa_nil))) pa_nil)))
      (pss_cons (ps_if (pt_val (pe_callB call_isXM (by rfl) T.n_isinstance (by decide +kernel) (pa_cons (pv 3) (pa_cons (pe_tup (pa_cons (pe_gcls (by rfl) T.gc_InvalidScript) (pa_cons (pe_gcls (by rfl) T.gc_InvalidTable) (pa_cons (pe_gcls (by rfl) T.gc_InvalidText) (pa_cons (pe_gcls (by rfl) T.gc_StepFailed) (pa_cons (pe_bty "KeyError" (by rfl) T.n_KeyError (by decide +kernel)) (pa_cons (pe_bty "IndexError" (by rfl) T.n_IndexError (by decide +kernel)) (pa_cons (pe_bty "RuntimeError" (by rfl) T.n_RuntimeError (by decide +kernel)) pa_nil)))))))) pa_nil)))) (pss_one (ps_ret pe_str)) pss_nil)
      (pss_cons (ps_if (pt_cmpR (op_neA hu64) (pe_bm PySem.F.plainAttrs_list PySem.F.slot_list_count PySem.F.type_list_count (mt_cntB hu64) (pv 5) (pa_cons pe_bl pa_nil)) pe_int (nomark _)) (pss_one (ps_ret pe_str)) pss_nil)
      (pss_cons (ps_set (i := 7) sc__law_heard.nd rfl (by first | exact Or.inl rfl | exact Or.inr rfl) (pe_bm PySem.F.plainAttrs_list PySem.F.slot_list_index PySem.F.type_list_index (mt_indexD hu65) (pv 5) (pa_cons pe_bl pa_nil)))
      (pss_cons (ps_if (pt_cmpR (op_neA hu64) (pv 6) (pe_lst (pa_cons (pe_cmpR op_lt (pv 7) pe_int (nomark _)) (pa_cons (pe_cmpR op_lt (pv 7) pe_int (nomark _)) (pa_cons (pe_cmpR (op_eqA hu64) (pv 7) pe_int (nomark _)) (pa_cons (pe_cmpR (op_eqA hu64) (pv 7) pe_int (nomark _)) pa_nil))))) (nomark _)) (pss_one (ps_ret pe_str)) pss_nil)
      (pss_cons (ps_if (pt_cmpR (op_eqA hu64) (pv 7) pe_int (nomark _)) (pss_one (ps_ret pe_str)) pss_nil)
      (pss_cons (ps_if (pt_cmpR (op_eqA hu64) (pv 7) pe_int (nomark _)) (pss_one (ps_ret (pe_op op_addX pe_str (pe_callB (call_reprX hg hu64) (by rfl) T.n_repr (by decide +kernel) (pa_cons (pe_xF (pv 3)) pa_nil))))) pss_nil)
      (pss_one (ps_ret (pe_ifExp (pt_cmpR (op_eqA hu64) (pv 7) pe_int (nomark _)) (pe_op op_addX pe_str (pe_callB (call_reprX hg hu64) (by rfl) T.n_repr (by decide +kernel) (pa_cons (pe_xF (pv 3)) pa_nil))) (pe_op op_addX pe_str (pe_callB (call_reprX hg hu64) (by rfl) T.n_repr (by decide +kernel) (pa_cons (pe_xF (pv 3)) pa_nil)))))))))))))))))),
    (is_seq (is_setX (i := 3) (ix_e ie_non))
      (is_seq (is_tG (nms := ["InvalidOperation", "InvalidLimit", "FreeSlot", "TableFull"]) (isy_retSel (x := "") (y := "") (T := "tuple") kis_tuple (ier_callK (ia_cons (ie_give (i := 0)) (ia_cons (ie_give (i := 1)) ia_nil)) (ia_cons (ie_give (i := 2)) ia_nil) selR_ok (lenS (len_cons (len_cons len_nil)) (len_cons len_nil) rfl))) (is_setX (i := 3) (ix_e (ie_give (i := 4)))) T.te_TableError_FreeSlot_TableFull_StepFailed)
      (is_seq (is_setX (i := 5) (ix_m (im_lst (ia_cons (ie_isX (c := .ref T.c_InvalidOperation) (fun _ h => h) T.isx_InvalidOperation (ie_var (i := 3))) (ia_cons (ie_isX (c := .ref T.c_InvalidLimit) (fun _ h => h) T.isx_InvalidLimit (ie_var (i := 3))) (ia_cons (ie_isX (c := .ref T.c_FreeSlot) (fun _ h => h) T.isx_FreeSlot (ie_var (i := 3))) ia_nil))))))
      (is_seq (is_drop (ie_mt (i := 5) md_app (ia_cons (ie_isX (c := .ref T.c_TableFull) (fun _ h => h) T.isx_TableFull (ie_var (i := 3))) ia_nil)))
      (is_seq (is_setX (i := 6) (ix_m (im_lst (ia_cons (ie_isX (c := .ref T.c_TableError) (fun _ h => h) T.isx_TableError (ie_var (i := 3))) (ia_cons (ie_isXB (T := "ValueError") T.isxB_ValueError (ie_var (i := 3))) (ia_cons (ie_isXB (T := "LookupError") T.isxB_LookupError (ie_var (i := 3))) ia_nil))))))
      (is_seq (is_drop (ie_mt (i := 6) md_app (ia_cons (ie_isXB (T := "OverflowError") T.isxB_OverflowError (ie_var (i := 3))) ia_nil)))
      (is_seq (is_if (it_B (ie_isXM (cs := [.inl T.c_InvalidScript, .inl T.c_InvalidTable, .inl T.c_InvalidText, .inl T.c_StepFailed, .inr "KeyError", .inr "IndexError", .inr "RuntimeError"]) (Nat.le_of_ble_eq_true rfl) T.isx_InvalidScript_InvalidTable_InvalidText_StepFailed_KeyError_IndexError_RuntimeError (ie_var (i := 3)))) (is_retX (ix_e ie_str)) is_next)
      (is_seq (is_if (it_test (ie_op od_ne (ie_bm (Ty := "list") bm_cntB (ie_var (i := 5)) (ia_cons ie_bl ia_nil)) ie_int)) (is_retX (ix_e ie_str)) is_next)
      (is_seq (is_setX (i := 7) (ix_e (ie_bm (Ty := "list") bm_index (ie_var (i := 5)) (ia_cons ie_bl ia_nil))))
      (is_seq (is_if (it_test (ie_op od_ne (ie_var (i := 6)) (ie_x (ix_m (im_lst (ia_cons (ie_op od_lt (ie_var (i := 7)) ie_int) (ia_cons (ie_op od_lt (ie_var (i := 7)) ie_int) (ia_cons (ie_op od_eq (ie_var (i := 7)) ie_int) (ia_cons (ie_op od_eq (ie_var (i := 7)) ie_int) ia_nil))))))))) (is_retX (ix_e ie_str)) is_next)
      (is_seq (is_if (it_test (ie_op od_eq (ie_var (i := 7)) ie_int)) (is_retX (ix_e ie_str)) is_next)
      (is_seq (is_if (it_test (ie_op od_eq (ie_var (i := 7)) ie_int)) (is_retX (ix_op ox_add ie_str (ie_cb cd_reprX (ia_cons (ie_xF (nms := ["InvalidLimit", "TableFull"]) T.xf_limit (ie_var (i := 3))) ia_nil)))) is_next)
      (is_retX (ix_if (it_test (ie_op od_eq (ie_var (i := 7)) ie_int)) (ix_op ox_add ie_str (ie_cb cd_reprX (ia_cons (ie_xF (nms := ["FreeSlot"]) T.xf_slot (ie_var (i := 3))) ia_nil))) (ix_op ox_add ie_str (ie_cb cd_reprX (ia_cons (ie_xF (nms := ["InvalidLimit", "TableFull"]) T.xf_limit (ie_var (i := 3))) ia_nil)))))))))))))))))⟩
theorem Txt.ok__law_is_integer (T : Txt P w K mg base) : FnG P w K mg base CX0 1 T.a__law_is_integer T.d__law_is_integer ["_law_value", "_law_least", "_law_most"] (spD K 3 m__law_is_integer) := by
  refine fnD T.f__law_is_integer sc__law_is_integer fun cdv A outer s H E hg hr => ?_
  have hu64 := hr.units
  have hu65 := room65 hr
  exact ⟨_, (pss_one (ps_ret (pe_and (pe_callB call_isi (by rfl) T.n_isinstance (by decide +kernel) (pa_cons (pv 0) (pa_cons (pe_bty "int" (by rfl) T.n_int (by decide +kernel)) pa_nil))) (pe_and (pe_not (pe_callB call_isi (by rfl) T.n_isinstance (by decide +kernel) (pa_cons (pv 0) (pa_cons (pe_bty "bool" (by rfl) T.n_bool (by decide +kernel)) pa_nil)))) (pe_one (pe_chain op_le op_le (pv 1) (pv 0) (pv 2))))))),
    (is_retX (ix_e (ie_and (ie_isi (T := "int") kis_int (ie_var (i := 0))) (ie_and (ie_not (ie_isi (T := "bool") kis_bool (ie_var (i := 0)))) (ie_chain od_le od_le (ie_var (i := 1)) (ie_var (i := 0)) (ie_var (i := 2)))))))⟩
theorem Txt.ok__law_is_operation (T : Txt P w K mg base) : FnG P w K mg base CX0 2 T.a__law_is_operation T.d__law_is_operation ["_law_value"] (spD K 1 m__law_is_operation) := by
  refine fnD T.f__law_is_operation sc__law_is_operation fun cdv A outer s H E hg hr => ?_
  have hu64 := hr.units
  have hu65 := room65 hr
  exact ⟨_, (pss_cons (ps_if (PW.pt (pw_or (pt_not (pt_val (pe_callB call_isi (by rfl) T.n_isinstance (by decide +kernel) (pa_cons (pv 0) (pa_cons (pe_bty "tuple" (by rfl) T.n_tuple (by decide +kernel)) pa_nil))))) (pw_or (pt_cmpR (op_eqA0 hu64) (pv 0) (pe_tupF pa_nil) (nomark _)) (pw_or1 (pt_not (pt_val (pe_callB call_isi (by rfl) T.n_isinstance (by decide +kernel) (pa_cons (pe_ix ix_seq (pv 0) pe_int (fun _ _ => rfl)) (pa_cons (pe_bty "str" (by rfl) T.n_str (by decide +kernel)) pa_nil))))))))) (pss_one (ps_ret pe_bl)) pss_nil)
      (pss_cons (ps_set (i := 1) sc__law_is_operation.nd rfl (by first | exact Or.inl rfl | exact Or.inr rfl) (pe_lst (pa_cons (pe_tupF (pa_cons pe_str (pa_cons pe_int pa_nil))) (pa_cons (pe_tupF (pa_cons pe_str (pa_cons pe_int pa_nil))) (pa_cons (pe_tupF (pa_cons pe_str (pa_cons pe_int pa_nil))) (pa_cons (pe_tupF (pa_cons pe_str (pa_cons pe_int pa_nil))) pa_nil))))))
      (pss_cons (ps_if (pt_cmpR (op_notInA hu65) (pe_tupF (pa_cons (pe_ix ix_seq (pv 0) pe_int (fun _ _ => rfl)) (pa_cons (pe_callB call_lenA (by rfl) T.n_len (by decide +kernel) (pa_cons (pv 0) pa_nil)) pa_nil))) (pv 1) rfl) (pss_one (ps_ret pe_bl)) pss_nil)
      (pss_one (ps_ret (pe_cmpR (op_eqL0 hu64) (pe_lc (own := [("_law_one", 2)]) rfl sc__law_is_operation.nd (pi_any (pe_slice sl_any (pv 0) (po_some pe_int) po_none)) (blkOk_by (N := N__law_is_operation) (sc := defScope s__law_is_operation) (by decide +kernel)) (fun _ _ _ _ _ => (pg_name (i := 2) sc__law_is_operation.nd rfl (by first | exact Or.inl rfl | exact Or.inr rfl))) (fun _ _ _ _ _ => (pts_one (pt_not (pt_val (pe_callG T.ok__law_is_integer hg (hr.mono (by decide)) (by rfl) T.g__law_is_integer T.f__law_is_integer.kp T.b__law_is_integer .nil pass0 (pa_cons (pv 2) (pa_cons pe_int (pa_cons pe_int pa_nil)))))))) (fun _ _ _ _ _ => (pv 2))) (pe_lst pa_nil) (nomark _))))))),
    (is_seq (is_if (it_or (it_not (it_B (ie_isi (T := "tuple") kis_tuple (ie_var (i := 0))))) (it_or (it_test (ie_op od_eq0 (ie_var (i := 0)) (ie_tup ia_nil))) (it_not (it_B (ie_isi (T := "str") kis_str (ie_op od_ix (ie_var (i := 0)) ie_int)))))) (is_retX (ix_e ie_bl)) is_next)
      (is_seq (is_setX (i := 1) (ix_m (im_lst (ia_cons (ie_tup (ia_cons ie_str (ia_cons ie_int ia_nil))) (ia_cons (ie_tup (ia_cons ie_str (ia_cons ie_int ia_nil))) (ia_cons (ie_tup (ia_cons ie_str (ia_cons ie_int ia_nil))) (ia_cons (ie_tup (ia_cons ie_str (ia_cons ie_int ia_nil))) ia_nil)))))))
      (is_seq (is_if (it_test (ie_op od_notIn (ie_tup (ia_cons (ie_op od_ix (ie_var (i := 0)) ie_int) (ia_cons (ie_cb cd_len (ia_cons (ie_var (i := 0)) ia_nil)) ia_nil))) (ie_var (i := 1)))) (is_retX (ix_e ie_bl)) is_next)
      (is_retX (ix_e (ie_op od_eqL0 (ie_x (ix_m (im_comp (iw_any (ie_x (ix_sl (ie_var (i := 0)) (io_some ie_int) io_none))) (ig_name (i := 2)) (it_not (it_B (ie_x (ix_call (ia_cons (ie_give (i := 2)) (ia_cons ie_int (ia_cons ie_int ia_nil))) (len_cons (len_cons (len_cons len_nil))))))) (ie_give (i := 2)) (by decide)))) (ie_x (ix_m (im_lst ia_nil)))))))))⟩
theorem Txt.ok__law_due (T : Txt P w K mg base) : FnG P w K mg base CX0 3 T.a__law_due T.d__law_due ["_law_table_here", "_law_operation_here", "_law_cap"] (spD K 3 m__law_due) := by
  refine fnD T.f__law_due sc__law_due fun cdv A outer s H E hg hr => ?_
  have hu64 := hr.units
  have hu65 := room65 hr
  exact ⟨_, (pss_cons (ps_if (pt_not (pt_val (pe_callG T.ok__law_is_operation hg (hr.mono (by decide)) (by rfl) T.g__law_is_operation T.f__law_is_operation.kp T.b__law_is_operation .nil pass0 (pa_cons (pv 1) pa_nil)))) (pss_one (ps_ret pe_str)) pss_nil)
      (pss_cons (ps_if (PW.pt (pw_and (pt_cmp (pc_notN (pv 2))) (pw_and1 (pt_not (pt_val (pe_callG T.ok__law_is_integer hg (hr.mono (by decide)) (by rfl) T.g__law_is_integer T.f__law_is_integer.kp T.b__law_is_integer .nil pass0 (pa_cons (pv 2) (pa_cons (pe_callB (call_max2 rfl) (by rfl) T.n_max (by decide +kernel) (pa_cons pe_int (pa_cons (pe_callB call_lenA (by rfl) T.n_len (by decide +kernel) (pa_cons (pv 0) pa_nil)) pa_nil))) (pa_cons pe_int pa_nil))))))))) (pss_one (ps_ret (pe_op op_addX pe_str (pe_callB (call_reprX hg hu64) (by rfl) T.n_repr (by decide +kernel) (pa_cons (pv 2) pa_nil))))) pss_nil)
      (pss_cons (ps_set (i := 3) sc__law_due.nd rfl (by first | exact Or.inl rfl | exact Or.inr rfl) (pe_ix ix_seq (pv 1) pe_int (fun _ _ => rfl)))
      (pss_cons (ps_if (PW.pt (pw_or (pt_cmpR op_ge (pv 3) (pe_callB call_lenA (by rfl) T.n_len (by decide +kernel) (pa_cons (pv 0) pa_nil)) (nomark _)) (pw_or1 (pt_cmp (pc_isN (pe_ix ix_seq (pv 0) (pv 3) (fun _ _ => rfl))))))) (pss_one (ps_ret (pe_op op_addX pe_str (pe_callB (call_reprX hg hu64) (by rfl) T.n_repr (by decide +kernel) (pa_cons (pv 3) pa_nil))))) pss_nil)
      (pss_cons (ps_if (PW.pt (pw_or (pt_cmpR (op_eqA hu64) (pe_ix ix_seq (pv 1) pe_int (fun _ _ => rfl)) pe_str (nomark _)) (pw_or1 (pt_cmp (pc_isN (pv 2)))))) (pss_one (ps_ret pe_str)) pss_nil)
      (pss_cons (ps_set (i := 4) sc__law_due.nd rfl (by first | exact Or.inl rfl | exact Or.inr rfl) pe_int)
      (pss_cons (ps_if (pt_cmpR (op_neA hu64) (pe_ix ix_seq (pv 1) pe_int (fun _ _ => rfl)) pe_str (nomark _)) (pss_one (ps_set (i := 4) sc__law_due.nd rfl (by first | exact Or.inl rfl | exact Or.inr rfl) (pe_ix ix_seq (pv 1) pe_int (fun _ _ => rfl)))) pss_nil)
      (pss_cons (ps_if (pt_cmpR (op_eqA hu64) (pe_ix ix_seq (pv 1) pe_int (fun _ _ => rfl)) pe_str (nomark _)) (pss_one (ps_ret (pe_ix ix_seq (pe_lst (pa_cons pe_str (pa_cons (pe_op op_addX pe_str (pe_callB (call_reprX hg hu64) (by rfl) T.n_repr (by decide +kernel) (pa_cons (pv 2) pa_nil))) pa_nil))) (pe_callTy call_intA (by rfl) T.n_int (by decide +kernel) (pa_cons (pe_cmpR op_ge (pv 4) (pv 2) (nomark _)) pa_nil)) (fun _ _ => rfl)))) pss_nil)
      (pss_cons (ps_setLc (i := 5) (own := [("_law_one", 6)]) rfl sc__law_due.nd rfl rfl (sw_true rfl rfl rfl (by decide +kernel)) (pi_range2 (by rfl) T.n_range (pa_cons (pv 4) (pa_cons (pv 2) pa_nil))) (blkOk_by (N := N__law_due) (sc := defScope s__law_due) (by decide +kernel)) (fun _ _ _ _ _ => (pg_name (i := 6) sc__law_due.nd rfl (by first | exact Or.inl rfl | exact Or.inr rfl))) (fun _ _ _ _ _ => (pts_one (PW.pt (pw_or (pt_cmpR op_ge (pv 6) (pe_callB call_lenA (by rfl) T.n_len (by decide +kernel) (pa_cons (pv 0) pa_nil)) (nomark _)) (pw_or1 (pt_cmp (pc_isN (pe_ix ix_seq (pv 0) (pv 6) (fun _ _ => rfl))))))))) (fun _ _ _ _ _ => (pv 6)))
      (pss_one (ps_ret (pe_ix ix_seq (pe_lst (pa_cons pe_str (pa_cons (pe_op op_addX pe_str (pe_callB (call_reprX hg hu64) (by rfl) T.n_repr (by decide +kernel) (pa_cons (pv 2) pa_nil))) pa_nil))) (pe_callTy call_intA (by rfl) T.n_int (by decide +kernel) (pa_cons (pe_cmpR (op_eqL0 hu64) (pv 5) (pe_lst pa_nil) (nomark _)) pa_nil)) (fun _ _ => rfl))))))))))))),
    (is_seq (is_if (it_not (it_B (ie_x (ix_call (ia_cons (ie_give (i := 1)) ia_nil) (len_cons len_nil))))) (is_retX (ix_e ie_str)) is_next)
      (is_seq (is_if (it_and (it_B (ie_notN (ie_var (i := 2)))) (it_not (it_B (ie_x (ix_call (ia_cons (ie_give (i := 2)) (ia_cons (ie_cb cd_max2 (ia_cons ie_int (ia_cons (ie_cb cd_len (ia_cons (ie_var (i := 0)) ia_nil)) ia_nil))) (ia_cons ie_int ia_nil))) (len_cons (len_cons (len_cons len_nil)))))))) (is_retX (ix_op ox_add ie_str (ie_cb cd_reprX (ia_cons (ie_var (i := 2)) ia_nil)))) is_next)
      (is_seq (is_setX (i := 3) (ix_e (ie_op od_ix (ie_var (i := 1)) ie_int)))
      (is_seq (is_if (it_or (it_test (ie_op od_ge (ie_var (i := 3)) (ie_cb cd_len (ia_cons (ie_var (i := 0)) ia_nil)))) (it_B (ie_isN (ie_op od_ix (ie_var (i := 0)) (ie_var (i := 3)))))) (is_retX (ix_op ox_add ie_str (ie_cb cd_reprX (ia_cons (ie_var (i := 3)) ia_nil)))) is_next)
      (is_seq (is_if (it_or (it_test (ie_op od_eq (ie_op od_ix (ie_var (i := 1)) ie_int) ie_str)) (it_B (ie_isN (ie_var (i := 2))))) (is_retX (ix_e ie_str)) is_next)
      (is_seq (is_setX (i := 4) (ix_e ie_int))
      (is_seq (is_if (it_test (ie_op od_ne (ie_op od_ix (ie_var (i := 1)) ie_int) ie_str)) (is_setX (i := 4) (ix_e (ie_op od_ix (ie_var (i := 1)) ie_int))) is_next)
      (is_seq (is_if (it_test (ie_op od_eq (ie_op od_ix (ie_var (i := 1)) ie_int) ie_str)) (is_retX (ix_e (ie_op od_ix (ie_x (ix_m (im_lst (ia_cons ie_str (ia_cons (ie_x (ix_op ox_add ie_str (ie_cb cd_reprX (ia_cons (ie_var (i := 2)) ia_nil)))) ia_nil))))) (ie_cb cd_int (ia_cons (ie_op od_ge (ie_var (i := 4)) (ie_var (i := 2))) ia_nil))))) is_next)
      (is_seq (is_setX (i := 5) (ix_m (im_comp (iw_rng2 (ia_cons (ie_var (i := 4)) (ia_cons (ie_var (i := 2)) ia_nil))) (ig_name (i := 6)) (it_or (it_test (ie_op od_ge (ie_var (i := 6)) (ie_cb cd_len (ia_cons (ie_var (i := 0)) ia_nil)))) (it_B (ie_isN (ie_op od_ix (ie_var (i := 0)) (ie_var (i := 6)))))) (ie_give (i := 6)) (by decide))))
      (is_retX (ix_e (ie_op od_ix (ie_x (ix_m (im_lst (ia_cons ie_str (ia_cons (ie_x (ix_op ox_add ie_str (ie_cb cd_reprX (ia_cons (ie_var (i := 2)) ia_nil)))) ia_nil))))) (ie_cb cd_int (ia_cons (ie_op od_eqL0 (ie_var (i := 5)) (ie_x (ix_m (im_lst ia_nil)))) ia_nil))))))))))))))⟩
theorem Txt.ok__law_operation (T : Txt P w K mg base) : FnG P w K mg base CX0 2 T.a__law_operation T.d__law_operation ["_law_pen_here", "_law_table_here"] (spD K 2 m__law_operation) := by
  refine fnD T.f__law_operation sc__law_operation fun cdv A outer s H E hg hr => ?_
  have hu64 := hr.units
  have hu65 := room65 hr
  exact ⟨_, (pss_cons (ps_set (i := 2) sc__law_operation.nd rfl (by first | exact Or.inl rfl | exact Or.inr rfl) (pe_callG T.ok__law_draw hg (hr.mono (by decide)) (by rfl) T.g__law_draw T.f__law_draw.kp T.b__law_draw .nil pass0 (pa_cons (pv 0) (pa_cons (pe_op op_addX (pe_callB call_lenA (by rfl) T.n_len (by decide +kernel) (pa_cons (pv 1) pa_nil)) pe_int) pa_nil))))
      (pss_cons (ps_set (i := 3) sc__law_operation.nd rfl (by first | exact Or.inl rfl | exact Or.inr rfl) (pe_ix ix_seq (pe_lst (pa_cons (pe_callG T.ok__law_draw hg (hr.mono (by decide)) (by rfl) T.g__law_draw T.f__law_draw.kp T.b__law_draw .nil pass0 (pa_cons (pv 0) (pa_cons (pe_op op_addX (pe_callB call_lenA (by rfl) T.n_len (by decide +kernel) (pa_cons (pv 1) pa_nil)) pe_int) pa_nil))) (pa_cons (pe_callB call_lenA (by rfl) T.n_len (by decide +kernel) (pa_cons (pv 1) pa_nil)) (pa_cons pe_int (pa_cons pe_int pa_nil))))) (pe_callG T.ok__law_draw hg (hr.mono (by decide)) (by rfl) T.g__law_draw T.f__law_draw.kp T.b__law_draw .nil pass0 (pa_cons (pv 0) (pa_cons pe_int pa_nil))) (fun _ _ => rfl)))
      (pss_cons (ps_set (i := 4) sc__law_operation.nd rfl (by first | exact Or.inl rfl | exact Or.inr rfl) (pe_lst (pa_cons (pe_tupF (pa_cons pe_str (pa_cons (pv 2) pa_nil))) (pa_cons (pe_tupF (pa_cons pe_str (pa_cons (pv 2) pa_nil))) (pa_cons (pe_tupF (pa_cons pe_str (pa_cons (pv 2) pa_nil))) (pa_cons (pe_tupF (pa_cons pe_str (pa_cons (pv 2) (pa_cons (pv 3) pa_nil)))) (pa_cons (pe_tupF (pa_cons pe_str (pa_cons (pv 2) (pa_cons (pv 3) pa_nil)))) pa_nil)))))))
      (pss_cons (ps_set (i := 4) sc__law_operation.nd rfl (by first | exact Or.inl rfl | exact Or.inr rfl) (pe_op op_addX (pv 4) (pe_lst (pa_cons (pe_tupF (pa_cons pe_str (pa_cons (pv 2) (pa_cons (pv 2) pa_nil)))) (pa_cons (pe_tupF (pa_cons pe_str (pa_cons pe_bl pa_nil))) (pa_cons (pe_tupF (pa_cons pe_str (pa_cons (pe_un un_neg pe_int) pa_nil))) (pa_cons (pe_tupF (pa_cons pe_str (pa_cons pe_int pa_nil))) (pa_cons (pe_tupF (pa_cons pe_str (pa_cons (pv 2) pa_nil))) (pa_cons (pe_lst (pa_cons pe_str (pa_cons (pv 2) pa_nil))) pa_nil)))))))))
      (pss_cons (ps_set (i := 4) sc__law_operation.nd rfl (by first | exact Or.inl rfl | exact Or.inr rfl) (pe_op op_addX (pv 4) (pe_lst (pa_cons (pe_tupF (pa_cons pe_str (pa_cons (pv 2) (pa_cons (pv 3) pa_nil)))) (pa_cons (pe_tupF (pa_cons pe_str (pa_cons (pv 2) pa_nil))) (pa_cons pe_non (pa_cons (pe_tupF pa_nil) (pa_cons pe_int (pa_cons (pe_tupF (pa_cons pe_str (pa_cons (pe_callTy call_strA (by rfl) T.n_str (by decide +kernel) (pa_cons (pv 2) pa_nil)) pa_nil))) (pa_cons (pe_tupF (pa_cons pe_str (pa_cons (pv 2) (pa_cons pe_non pa_nil)))) (pa_cons pe_str pa_nil)))))))))))
      (pss_cons (ps_set (i := 4) sc__law_operation.nd rfl (by first | exact Or.inl rfl | exact Or.inr rfl) (pe_op op_addX (pv 4) (pe_lst (pa_cons (pe_tupF (pa_cons pe_dnewK (pa_cons pe_int pa_nil))) (pa_cons (pe_tupF (pa_cons (pe_lst pa_nil) (pa_cons (pv 2) pa_nil))) (pa_cons (pe_tupF (pa_cons (pe_tupF (pa_cons pe_str (pa_cons (pv 2) pa_nil))) (pa_cons (pv 2) pa_nil))) (pa_cons pe_dnewK pa_nil)))))))
      (pss_cons (ps_set (i := 5) sc__law_operation.nd rfl (by first | exact Or.inl rfl | exact Or.inr rfl) (pe_callG T.ok__law_draw hg (hr.mono (by decide)) (by rfl) T.g__law_draw T.f__law_draw.kp T.b__law_draw .nil pass0 (pa_cons (pv 0) (pa_cons pe_int pa_nil))))
      (pss_one (ps_ret (pe_ix ix_seq (pv 4) (pe_callG T.ok__law_draw hg (hr.mono (by decide)) (by rfl) T.g__law_draw T.f__law_draw.kp T.b__law_draw .nil pass0 (pa_cons (pv 0) (pa_cons (pe_ix ix_seq (pe_lst (pa_cons pe_int (pa_cons pe_int (pa_cons pe_int pa_nil)))) (pv 5) (fun _ _ => rfl)) pa_nil))) (fun _ _ => rfl))))))))))),
    (is_seq (is_setX (i := 2) (ix_call (ia_cons (ie_var (i := 0)) (ia_cons (ie_x (ix_op ox_add (ie_cb cd_len (ia_cons (ie_var (i := 1)) ia_nil)) ie_int)) ia_nil)) (len_cons (len_cons len_nil))))
      (is_seq (is_setX (i := 3) (ix_e (ie_op od_ix (ie_x (ix_m (im_lst (ia_cons (ie_x (ix_call (ia_cons (ie_var (i := 0)) (ia_cons (ie_x (ix_op ox_add (ie_cb cd_len (ia_cons (ie_var (i := 1)) ia_nil)) ie_int)) ia_nil)) (len_cons (len_cons len_nil)))) (ia_cons (ie_cb cd_len (ia_cons (ie_var (i := 1)) ia_nil)) (ia_cons ie_int (ia_cons ie_int ia_nil))))))) (ie_x (ix_call (ia_cons (ie_var (i := 0)) (ia_cons ie_int ia_nil)) (len_cons (len_cons len_nil)))))))
      (is_seq (is_setX (i := 4) (ix_m (im_lst (ia_cons (ie_tup (ia_cons ie_str (ia_cons (ie_give (i := 2)) ia_nil))) (ia_cons (ie_tup (ia_cons ie_str (ia_cons (ie_give (i := 2)) ia_nil))) (ia_cons (ie_tup (ia_cons ie_str (ia_cons (ie_give (i := 2)) ia_nil))) (ia_cons (ie_tup (ia_cons ie_str (ia_cons (ie_give (i := 2)) (ia_cons (ie_give (i := 3)) ia_nil)))) (ia_cons (ie_tup (ia_cons ie_str (ia_cons (ie_give (i := 2)) (ia_cons (ie_give (i := 3)) ia_nil)))) ia_nil))))))))
      (is_seq (is_setX (i := 4) (ix_op ox_add (ie_var (i := 4)) (ie_x (ix_m (im_lst (ia_cons (ie_tup (ia_cons ie_str (ia_cons (ie_give (i := 2)) (ia_cons (ie_give (i := 2)) ia_nil)))) (ia_cons (ie_tup (ia_cons ie_str (ia_cons ie_bl ia_nil))) (ia_cons (ie_tup (ia_cons ie_str (ia_cons (ie_un ud_neg ie_int) ia_nil))) (ia_cons (ie_tup (ia_cons ie_str (ia_cons ie_int ia_nil))) (ia_cons (ie_tup (ia_cons ie_str (ia_cons (ie_give (i := 2)) ia_nil))) (ia_cons (ie_x (ix_m (im_lst (ia_cons ie_str (ia_cons (ie_give (i := 2)) ia_nil))))) ia_nil)))))))))))
      (is_seq (is_setX (i := 4) (ix_op ox_add (ie_var (i := 4)) (ie_x (ix_m (im_lst (ia_cons (ie_tup (ia_cons ie_str (ia_cons (ie_give (i := 2)) (ia_cons (ie_give (i := 3)) ia_nil)))) (ia_cons (ie_tup (ia_cons ie_str (ia_cons (ie_give (i := 2)) ia_nil))) (ia_cons ie_non (ia_cons (ie_tup ia_nil) (ia_cons ie_int (ia_cons (ie_tup (ia_cons ie_str (ia_cons (ie_cb cd_str (ia_cons (ie_var (i := 2)) ia_nil)) ia_nil))) (ia_cons (ie_tup (ia_cons ie_str (ia_cons (ie_give (i := 2)) (ia_cons ie_non ia_nil)))) (ia_cons ie_str ia_nil)))))))))))))
      (is_seq (is_setX (i := 4) (ix_op ox_add (ie_var (i := 4)) (ie_x (ix_m (im_lst (ia_cons (ie_tup (ia_cons (ie_x (ix_m im_d0)) (ia_cons ie_int ia_nil))) (ia_cons (ie_tup (ia_cons (ie_x (ix_m (im_lst ia_nil))) (ia_cons (ie_give (i := 2)) ia_nil))) (ia_cons (ie_tup (ia_cons (ie_tup (ia_cons ie_str (ia_cons (ie_give (i := 2)) ia_nil))) (ia_cons (ie_give (i := 2)) ia_nil))) (ia_cons (ie_x (ix_m im_d0)) ia_nil)))))))))
      (is_seq (is_setX (i := 5) (ix_call (ia_cons (ie_var (i := 0)) (ia_cons ie_int ia_nil)) (len_cons (len_cons len_nil))))
      (is_retX (ix_e (ie_op od_ix (ie_var (i := 4)) (ie_x (ix_call (ia_cons (ie_var (i := 0)) (ia_cons (ie_op od_ix (ie_x (ix_m (im_lst (ia_cons ie_int (ia_cons ie_int (ia_cons ie_int ia_nil)))))) (ie_var (i := 5))) ia_nil)) (len_cons (len_cons len_nil))))))))))))))⟩
theorem Txt.ok__law_limit (T : Txt P w K mg base) : FnG P w K mg base CX0 2 T.a__law_limit T.d__law_limit ["_law_pen_here", "_law_table_here"] (spD K 2 m__law_limit) := by
  refine fnD T.f__law_limit sc__law_limit fun cdv A outer s H E hg hr => ?_
  have hu64 := hr.units
  have hu65 := room65 hr
  exact ⟨_, (pss_cons (ps_set (i := 2) sc__law_limit.nd rfl (by first | exact Or.inl rfl | exact Or.inr rfl) (pe_callB call_lenA (by rfl) T.n_len (by decide +kernel) (pa_cons (pv 1) pa_nil)))
      (pss_cons (ps_set (i := 3) sc__law_limit.nd rfl (by first | exact Or.inl rfl | exact Or.inr rfl) (pe_lst (pa_cons pe_non (pa_cons (pv 2) (pa_cons (pv 2) (pa_cons (pe_op op_addX (pv 2) pe_int) (pa_cons (pe_callB (call_max2 rfl) (by rfl) T.n_max (by decide +kernel) (pa_cons pe_int (pa_cons (pv 2) pa_nil))) (pa_cons pe_int (pa_cons (pe_op op_sub (pv 2) pe_int) (pa_cons pe_int (pa_cons (pe_un un_neg pe_int) (pa_cons pe_int (pa_cons pe_bl (pa_cons pe_bl (pa_cons pe_str (pa_cons (pe_tupF pa_nil) (pa_cons (pe_lst (pa_cons (pv 2) pa_nil)) pa_nil)))))))))))))))))
      (pss_cons (ps_set (i := 3) sc__law_limit.nd rfl (by first | exact Or.inl rfl | exact Or.inr rfl) (pe_op op_addX (pv 3) (pe_lst (pa_cons (pe_op op_pow pe_int pe_int) (pa_cons pe_dnewK pa_nil)))))
      (pss_cons (ps_set (i := 4) sc__law_limit.nd rfl (by first | exact Or.inl rfl | exact Or.inr rfl) (pe_callG T.ok__law_draw hg (hr.mono (by decide)) (by rfl) T.g__law_draw T.f__law_draw.kp T.b__law_draw .nil pass0 (pa_cons (pv 0) (pa_cons pe_int pa_nil))))
      (pss_one (ps_ret (pe_ix ix_seq (pv 3) (pe_callG T.ok__law_draw hg (hr.mono (by decide)) (by rfl) T.g__law_draw T.f__law_draw.kp T.b__law_draw .nil pass0 (pa_cons (pv 0) (pa_cons (pe_ix ix_seq (pe_lst (pa_cons pe_int (pa_cons pe_int (pa_cons pe_int pa_nil)))) (pv 4) (fun _ _ => rfl)) pa_nil))) (fun _ _ => rfl)))))))),
    (is_seq (is_setX (i := 2) (ix_e (ie_cb cd_len (ia_cons (ie_var (i := 1)) ia_nil))))
      (is_seq (is_setX (i := 3) (ix_m (im_lst (ia_cons ie_non (ia_cons (ie_give (i := 2)) (ia_cons (ie_give (i := 2)) (ia_cons (ie_x (ix_op ox_add (ie_var (i := 2)) ie_int)) (ia_cons (ie_cb cd_max2 (ia_cons ie_int (ia_cons (ie_var (i := 2)) ia_nil))) (ia_cons ie_int (ia_cons (ie_op od_sub (ie_var (i := 2)) ie_int) (ia_cons ie_int (ia_cons (ie_un ud_neg ie_int) (ia_cons ie_int (ia_cons ie_bl (ia_cons ie_bl (ia_cons ie_str (ia_cons (ie_tup ia_nil) (ia_cons (ie_x (ix_m (im_lst (ia_cons (ie_give (i := 2)) ia_nil)))) ia_nil))))))))))))))))))
      (is_seq (is_setX (i := 3) (ix_op ox_add (ie_var (i := 3)) (ie_x (ix_m (im_lst (ia_cons (ie_op od_pow ie_int ie_int) (ia_cons (ie_x (ix_m im_d0)) ia_nil)))))))
      (is_seq (is_setX (i := 4) (ix_call (ia_cons (ie_var (i := 0)) (ia_cons ie_int ia_nil)) (len_cons (len_cons len_nil))))
      (is_retX (ix_e (ie_op od_ix (ie_var (i := 3)) (ie_x (ix_call (ia_cons (ie_var (i := 0)) (ia_cons (ie_op od_ix (ie_x (ix_m (im_lst (ia_cons ie_int (ia_cons ie_int (ia_cons ie_int ia_nil)))))) (ie_var (i := 4))) ia_nil)) (len_cons (len_cons len_nil)))))))))))⟩
def spLaw (K : PySem.W.Frag) : Sp := fun vs H Q _ => ∃ (a : Addr) (ns : List Int), vs = [.ref a] ∧ SqL K H a (ns.map V.int) ∧ ns.length ≤ 63 ∧ Q = fun v _ => v = .bl true
theorem Txt.ok_law (T : Txt P w K mg base) {f : Addr} {fd : FuncData} (F : Fun K "law" "law" s_law f fd)
    (hm : ∀ ns : List Int, ns.length ≤ 63 → ∃ env', b_law (penv 10 ns) = some (.rt (.val (.bool true)), env')) : FnG P w K mg base CX0 6 f fd ["_law_script"] (spLaw K) := by
  refine okG F sc_law (fun vs H Q E h => ?_) (fun cdv A outer s H vs Q E hg hr h => ?_)
  · obtain ⟨a, ns, rfl, _⟩ := h; rfl
  obtain ⟨a, ns, rfl, hS, hl, rfl⟩ := h
  have hu64 := hr.units
  have hu65 := room65 hr
  exact ⟨_, pss_cons (ps_set (i := 1) sc_law.nd rfl (by first | exact Or.inl rfl | exact Or.inr rfl) (pe_callG T.ok__law_pen hg (hr.mono (by decide)) (by rfl) T.g__law_pen T.f__law_pen.kp T.b__law_pen .nil pass0 (pa_cons (pv 0) pa_nil)))
      (pss_cons (ps_for PassesOwn.never rfl (pi_range1 (by rfl) T.n_range (pa_cons pe_int pa_nil)) (pg_name (i := 2) sc_law.nd rfl (by first | exact Or.inl rfl | exact Or.inr rfl)) (pss_cons (ps_set (i := 3) sc_law.nd rfl (by first | exact Or.inl rfl | exact Or.inr rfl) (pe_callG T.ok__law_pool hg (hr.mono (by decide)) (by rfl) T.g__law_pool T.f__law_pool.kp T.b__law_pool .nil pass0 (pa_cons (pv 1) (pa_cons (pe_op op_addX pe_int (pe_callG T.ok__law_draw hg (hr.mono (by decide)) (by rfl) T.g__law_draw T.f__law_draw.kp T.b__law_draw .nil pass0 (pa_cons (pv 1) (pa_cons pe_int pa_nil)))) pa_nil))))
      (pss_cons (ps_set (i := 4) sc_law.nd rfl (by first | exact Or.inl rfl | exact Or.inr rfl) (pe_callG T.ok__law_table hg (hr.mono (by decide)) (by rfl) T.g__law_table T.f__law_table.kp T.b__law_table .nil pass0 (pa_cons (pv 1) (pa_cons (pv 3) (pa_cons pe_int pa_nil)))))
      (pss_cons (ps_if (pt_cmpR (op_eqA hu64) (pe_callG T.ok__law_draw hg (hr.mono (by decide)) (by rfl) T.g__law_draw T.f__law_draw.kp T.b__law_draw .nil pass0 (pa_cons (pv 1) (pa_cons pe_int pa_nil))) pe_int (nomark _)) (pss_one (ps_set (i := 4) sc_law.nd rfl (by first | exact Or.inl rfl | exact Or.inr rfl) (pe_callTy call_tupF (by rfl) T.n_tuple (by decide +kernel) (pa_cons (pe_lc (own := [("_law_entry", 9)]) rfl sc_law.nd (pi_any (pv 4)) (blkOk_by (N := N_law) (sc := defScope s_law) (by decide +kernel)) (fun _ _ _ _ _ => (pg_name (i := 9) sc_law.nd rfl (by first | exact Or.inl rfl | exact Or.inr rfl))) (fun _ _ _ _ _ => pts_nil) (fun _ _ _ _ _ => (pe_orT (pv 9) (pe_one (pe_ix ix_seq (pv 3) pe_int (fun _ _ => rfl)))))) pa_nil)))) pss_nil)
      (pss_one (ps_for PassesOwn.never rfl (pi_range1 (by rfl) T.n_range (pa_cons pe_int pa_nil)) (pg_name (i := 5) sc_law.nd rfl (by first | exact Or.inl rfl | exact Or.inr rfl)) (pss_cons (ps_par (i := 6) (j := 7) (by rfl) sc_law.nd rfl rfl (by decide) rfl rfl (pa_cons (pe_callG T.ok__law_operation hg (hr.mono (by decide)) (by rfl) T.g__law_operation T.f__law_operation.kp T.b__law_operation .nil pass0 (pa_cons (pv 1) (pa_cons (pv 4) pa_nil))) (pa_cons (pe_callG T.ok__law_limit hg (hr.mono (by decide)) (by rfl) T.g__law_limit T.f__law_limit.kp T.b__law_limit .nil pass0 (pa_cons (pv 1) (pa_cons (pv 4) pa_nil))) pa_nil)) (by rfl))
      (pss_cons (ps_set (i := 8) sc_law.nd rfl (by first | exact Or.inl rfl | exact Or.inr rfl) (pe_callB (call_reprX hg hu64) (by rfl) T.n_repr (by decide +kernel) (pa_cons (pe_tupF (pa_cons (pv 4) (pa_cons (pv 6) (pa_cons (pv 7) pa_nil)))) pa_nil)))
      (pss_cons (ps_if (pt_cmpR (op_neA hu64) (pe_callG T.ok__law_heard hg (hr.mono (by decide)) (by rfl) T.g__law_heard T.f__law_heard.kp T.b__law_heard .nil pass0 (pa_cons (pv 4) (pa_cons (pv 6) (pa_cons (pv 7) pa_nil)))) (pe_callG T.ok__law_due hg (hr.mono (by decide)) (by rfl) T.g__law_due T.f__law_due.kp T.b__law_due .nil pass0 (pa_cons (pv 4) (pa_cons (pv 6) (pa_cons (pv 7) pa_nil)))) (nomark _)) (pss_one (ps_ret pe_bl)) pss_nil)
      (pss_one (ps_if (pt_cmpR (op_neA hu64) (pe_callB (call_reprX hg hu64) (by rfl) T.n_repr (by decide +kernel) (pa_cons (pe_tupF (pa_cons (pv 4) (pa_cons (pv 6) (pa_cons (pv 7) pa_nil)))) pa_nil)) (pv 8) (nomark _)) (pss_one (ps_ret pe_bl)) pss_nil)))))))))))
      (pss_one (ps_ret (pe_and (pe_cmpR (op_eqA hu64) (pe_callG T.ok__law_heard hg (hr.mono (by decide)) (by rfl) T.g__law_heard T.f__law_heard.kp T.b__law_heard .nil pass0 (pa_cons (pe_tupF (pa_cons pe_str pa_nil)) (pa_cons (pe_tupF (pa_cons pe_str (pa_cons pe_int (pa_cons pe_int pa_nil)))) (pa_cons pe_int pa_nil)))) pe_str (nomark _)) (pe_one (pe_cmpR (op_eqA hu64) (pe_callG T.ok__law_heard hg (hr.mono (by decide)) (by rfl) T.g__law_heard T.f__law_heard.kp T.b__law_heard .nil pass0 (pa_cons (pe_tupF pa_nil) (pa_cons (pe_tupF (pa_cons pe_str (pa_cons pe_int pa_nil))) (pa_cons pe_bl pa_nil)))) pe_str (nomark _))))))),
    law_read (K := K) (N := N_law) (by decide) (b := b_law) ((is_seq (is_for (iw_rng1 (ia_cons ie_int ia_nil)) (ig_name (i := 2)) (is_seq (is_setX (i := 3) (ix_call (ia_cons (ie_var (i := 1)) (ia_cons (ie_x (ix_op ox_add ie_int (ie_x (ix_call (ia_cons (ie_var (i := 1)) (ia_cons ie_int ia_nil)) (len_cons (len_cons len_nil)))))) ia_nil)) (len_cons (len_cons len_nil))))
      (is_seq (is_setX (i := 4) (ix_call (ia_cons (ie_var (i := 1)) (ia_cons (ie_give (i := 3)) (ia_cons ie_int ia_nil))) (len_cons (len_cons (len_cons len_nil)))))
      (is_seq (is_if (it_test (ie_op od_eq (ie_x (ix_call (ia_cons (ie_var (i := 1)) (ia_cons ie_int ia_nil)) (len_cons (len_cons len_nil)))) ie_int)) (is_setX (i := 4) (ix_e (ie_cb cd_tuple (ia_cons (ie_x (ix_m (im_comp (iw_any (ie_give (i := 4))) (ig_name (i := 9)) it_yes (ie_orT (ie_var (i := 9)) (ie_op od_ix (ie_var (i := 3)) ie_int)) (by decide)))) ia_nil)))) is_next)
      (is_for (iw_rng1 (ia_cons ie_int ia_nil)) (ig_name (i := 5)) (is_seq (is_par (i := 6) (j := 7) (ia_cons (ie_x (ix_call (ia_cons (ie_var (i := 1)) (ia_cons (ie_give (i := 4)) ia_nil)) (len_cons (len_cons len_nil)))) (ia_cons (ie_x (ix_call (ia_cons (ie_var (i := 1)) (ia_cons (ie_give (i := 4)) ia_nil)) (len_cons (len_cons len_nil)))) ia_nil)))
      (is_seq (is_setX (i := 8) (ix_e (ie_cb cd_reprX (ia_cons (ie_tup (ia_cons (ie_give (i := 4)) (ia_cons (ie_give (i := 6)) (ia_cons (ie_give (i := 7)) ia_nil)))) ia_nil))))
      (is_seq (is_if (it_test (ie_op od_ne (ie_x (ix_call (ia_cons (ie_give (i := 4)) (ia_cons (ie_give (i := 6)) (ia_cons (ie_give (i := 7)) ia_nil))) (len_cons (len_cons (len_cons len_nil))))) (ie_x (ix_call (ia_cons (ie_give (i := 4)) (ia_cons (ie_give (i := 6)) (ia_cons (ie_give (i := 7)) ia_nil))) (len_cons (len_cons (len_cons len_nil))))))) (is_retX (ix_e ie_bl)) is_next)
      (is_if (it_test (ie_op od_ne (ie_cb cd_reprX (ia_cons (ie_tup (ia_cons (ie_give (i := 4)) (ia_cons (ie_give (i := 6)) (ia_cons (ie_give (i := 7)) ia_nil)))) ia_nil)) (ie_var (i := 8)))) (is_retX (ix_e ie_bl)) is_next)))))))))
      (is_retX (ix_e (ie_and (ie_op od_eq (ie_x (ix_call (ia_cons (ie_tup (ia_cons ie_str ia_nil)) (ia_cons (ie_tup (ia_cons ie_str (ia_cons ie_int (ia_cons ie_int ia_nil)))) (ia_cons ie_int ia_nil))) (len_cons (len_cons (len_cons len_nil))))) ie_str) (ie_op od_eq (ie_x (ix_call (ia_cons (ie_tup ia_nil) (ia_cons (ie_tup (ia_cons ie_str (ia_cons ie_int ia_nil))) (ia_cons ie_bl ia_nil))) (len_cons (len_cons (len_cons len_nil))))) ie_str)))))) hS hl (hm ns hl)⟩
end
end My

local macro_rules | `(tactic| walk_at "gd") => `(tactic| simp (config := { implicitDefEqProofs := false }) only [GD.sl_0, GD.sl_s, GD.q_seq, GD.q_seq1, GD.q_seq2, GD.q_seq3, GD.q_seq4, GD.q_next, GD.q_retN, GD.q_if, GD.q_if1, GD.q_if2, GD.q_set, GD.q_set1, GD.q_set2, GD.q_set3, GD.q_ret, GD.q_ret1, GD.q_ret2, GD.q_ret3, GD.q_ret4, GD.q_ret5, GD.q_drop, GD.q_drop1, GD.q_put, GD.q_put1, GD.q_put2, GD.q_own0, GD.q_ownS, GD.q_gN, GD.q_aug, GD.q_aug1, GD.q_for, GD.q_for1, GD.q_for0, GD.q_forc, GD.q_forb, GD.q_fork1, GD.q_fork2, GD.q_fork3, GD.q_fork4, GD.q_wh, GD.q_wh1, GD.q_wh2, GD.q_wh3, GD.q_wh4, GD.q_var, GD.q_var1, GD.q_var2, GD.q_give, GD.q_give1, GD.q_give2, GD.q_toL, GD.q_c, GD.q_rsv, GD.q_rss, GD.q_rss1, GD.q_rss2, GD.q_rkv, GD.q_eX, GD.q_eX1, GD.q_eX2, GD.q_xE, GD.q_xE1, GD.q_xM, GD.q_xM1, GD.q_e1, GD.q_e11, GD.q_e12, GD.q_e2, GD.q_e21, GD.q_e22, GD.q_e23, GD.q_v, GD.q_op, GD.q_op1, GD.q_xop, GD.q_xop1, GD.q_xop2, GD.q_xop3, GD.q_un, GD.q_un1, GD.q_tv, GD.q_tv1, GD.q_and, GD.q_and1, GD.q_and2, GD.q_or, GD.q_or1, GD.q_or2, GD.q_not, GD.q_not1, GD.q_yes, GD.q_xif, GD.q_xif1, GD.q_xif2, GD.q_isN, GD.q_notN, GD.q_isN1, GD.q_isN2, GD.q_n0, GD.q_n1, GD.q_n2, GD.q_n3, GD.q_n4, GD.q_n5, GD.q_nil, GD.q_cons, GD.q_cons1, GD.q_cons2, GD.q_la, GD.q_eA, GD.q_eA1, GD.q_eK, GD.q_eK1, GD.q_lc, GD.q_rsA0, GD.q_rsA, GD.q_rkA0, GD.q_rkA, GD.q_tup, GD.q_tup1, GD.q_lst, GD.q_lst1, GD.q_ca, GD.q_ca1, GD.q_m, GD.q_cam, GD.q_cam1, GD.q_isi2, GD.q_isi, GD.q_isi1, GD.q_mt, GD.q_mt0, GD.q_mt1, GD.q_mt2, GD.q_mt3, GD.q_eB, GD.q_eB1, GD.q_eBs, GD.q_eBl, GD.q_eB2, GD.q_eB3, GD.q_bm, GD.q_bm1, GD.q_call, GD.q_call1, GD.q_call2, GD.q_cN, GD.q_nd0, GD.q_nd1, GD.q_call3, GD.q_cO1, GD.q_cO2, GD.q_callK, GD.q_callK1, GD.q_callK2, GD.q_appR, GD.q_sa0, GD.q_sa1, GD.q_sa2, GD.q_sa3, GD.q_sa4, GD.q_os0, GD.q_os1, GD.q_os2, GD.q_os3, GD.q_ou0, GD.q_ou1, GD.q_ou2, GD.q_up0, GD.q_up1, GD.q_up2, GD.q_up3, GD.q_comp, GD.q_comp1, GD.q_comp2, GD.q_cp0, GD.q_cpc, GD.q_cpg, GD.q_cpt, GD.q_cpf, GD.q_cpe, GD.q_cpk, GD.q_wi0, GD.q_wi1, GD.q_wa, GD.q_wa1, GD.q_wa2, GD.q_wa3, GD.q_wa4, GD.q_r1, GD.q_r11, GD.q_r2, GD.q_r21, GD.q_oN, GD.q_oS, GD.q_oS1, GD.q_sl, GD.q_sl1, GD.q_sl2, GD.q_sl3, GD.q_slL, GD.q_slT, GD.q_slS, GD.q_ch, GD.q_cha, GD.q_chb, GD.q_ch0, GD.q_ch1, GD.q_ch2, GD.q_ch3, GD.q_ch4, GD.q_land, GD.q_land1, GD.q_land2, GD.q_lnot, GD.q_lnot1, GD.c_sub, GD.c_lt, GD.c_le, GD.c_gt, GD.c_ge, GD.c_neg, GD.c_mod, GD.c_div, GD.c_pow, GD.c_mulL, GD.c_mulR, GD.c_eqI, GD.c_neI, GD.c_eqT, GD.c_neT, GD.c_scL, GD.c_scT, GD.c_eqL0, GD.c_neL0, GD.c_inL, GD.c_inS, GD.c_addI, GD.c_addS, GD.c_addT, GD.c_addL, GD.c_app, GD.c_strI, GD.c_strS, GD.c_intI, GD.c_intB, GD.c_intS, GD.c_abs, GD.c_lenL, GD.c_lenT, GD.c_lenS, GD.c_listL, GD.c_listT, GD.c_tupL, GD.c_tupT, GD.c_ixL, GD.c_ixT, GD.c_ixS, GD.c_at, GD.c_set, GD.q_run, GD.q_run1, GD.q_run2, GD.q_ouE0, GD.q_ouE1, GD.q_ouE2, GD.c_max2, GD.q_orT, GD.q_orT1, GD.q_orT2, GD.q_orT3, GD.c_truN, GD.c_truS, GD.c_mulS, GD.c_addII, GD.q_s01, GD.q_s11, GD.q_s02, GD.q_s02r, GD.q_s12, GD.q_s12r, GD.q_s21, GD.q_s03, GD.q_s03r, GD.c_mulX, GD.c_kget, GD.q_d0, GD.c_d0, GD.c_d1, GD.c_eq0, GD.c_eqL0x, GD.q_par, GD.q_par1, GD.c_index, GD.q_of, GD.q_of1, GD.q_sxs, GD.q_sxs1, GD.q_sxs2, GD.q_sxs3, GD.q_sxi, GD.q_sxi1, GD.q_sxi2, GD.q_rz, GD.q_rz1, GD.q_rz2, GD.q_try6, GD.q_try7, GD.q_isX, GD.q_isX1, GD.q_isX2, GD.c_excNm, GD.q_xF, GD.q_xF1, GD.q_xF2, GD.c_excFd, GD.c_isNX, GD.q_cx, GD.q_cx1, GD.q_cx2, GD.q_cx3, GD.q_cx4, GD.q_cx5, GD.q_gR0, GD.q_dropX, GD.q_dropX1, GD.q_dropX2, GD.q_tg, GD.q_tg1, GD.q_tg2, GD.q_runY, GD.q_runY1, GD.q_runY2, GD.q_runY3, GD.q_runY4, GD.c_reprX, GD.c_d1s, GD.c_toDm, GD.q_rz0, GD.q_rsel, GD.q_selv, GD.q_selr, Bool.false_eq_true, Bool.and_true, Bool.true_and, Option.bind_some, Option.map_some, Option.bind_none, Option.map_none, List.set_cons_zero, List.set_cons_succ, List.length_cons, List.length_nil, ite_true, ite_false, if_true, if_false, reduceIte, decide_true, decide_false, Int.reduceLT, Int.reduceLE, Int.reduceNeg, Nat.reduceAdd, Nat.reduceLT, Int.toNat_zero, Nat.reduceLeDiff, Nat.zero_le, Nat.le_refl, List.isEmpty_iff, Int.reduceToNat, Int.reducePow, Int.reduceMul, Int.reduceAdd, Nat.reduceMul, List.map_nil, List.map_cons, List.isEmpty_nil, List.isEmpty_cons, Int.natAbs_natCast, Bool.not_true, Bool.not_false, eq_self, List.nil_append, List.cons_append, *])
namespace My
open PySem PySem.Spec PyProof.Rows L2 GD

def pen (ns : List Int) (idx great : Int) : Mu := .l [.list (ns.map .int), .int idx, .int great]
theorem pen_def (ns : List Int) (idx great : Int) : pen ns idx great = .l [.list (ns.map .int), .int idx, .int great] := rfl
theorem at2 (a b c : D) : atI [a, b, c] 2 = some c := rfl
theorem at1 (a b c : D) : atI [a, b, c] 1 = some b := rfl
theorem at0 (a b c : D) : atI [a, b, c] 0 = some a := rfl
theorem st2 (a b c d : D) : gSetL (.l [a, b, c]) (.int 2) d = some (.l [a, b, d]) := rfl
theorem st1 (a b c d : D) : gSetL (.l [a, b, c]) (.int 1) d = some (.l [a, d, c]) := rfl
theorem draw_great (ns : List Int) (idx great b : Int) (hg : 0 < great) (hb : 0 < b) (hb2 : b < 1073741824) :
    m__law_draw [.own true (pen ns idx great), .shr (.int b)] = some (.val (.int (great % b)), [some (pen ns idx (great / b)), none]) := by
  have e0 : env0 7 [.own true (pen ns idx great), .shr (.int b)] = [some (.own true (pen ns idx great)), some (.shr (.int b)), none, none, none, none, none] := rfl
  unfold m__law_draw b__law_draw
  rw [q_run, e0]
  simp only [pen_def]
  have h1 := at2
  have h2 := st2
  walk_at "gd"
theorem gr0 (g : Int) (h : g = 0) : decide (0 < g) = false := by subst h; rfl
def mixA (c idx : Int) : Int := c % 2147483549 + 30011 * idx + 59
def mixB (c idx : Int) : Int := mixA c idx ^ 5 % 2147483579
def mixC (c idx : Int) : Int := mixB c idx * (2 * idx + 11) + 70003
def mixD (c idx : Int) : Int := mixC c idx ^ 3 % 2147483629
theorem sq_le (idx : Int) (h : 0 ≤ idx) (h2 : idx < 1048576) : 0 ≤ idx * idx ∧ idx * idx ≤ 1048576 * 1048576 :=
  ⟨Int.mul_nonneg h h, Int.mul_le_mul (by omega) (by omega) h (by omega)⟩
theorem mixC_lt (c idx : Int) (h : 0 ≤ idx) (h2 : idx < 1048576) : (mixC c idx).natAbs < 18446744073709551616 := by
  have hb : 0 ≤ mixB c idx ∧ mixB c idx < 2147483579 := by unfold mixB; omega
  have h3 := sq_le idx h h2
  have h4 : 0 ≤ mixB c idx * (2 * idx + 11) := Int.mul_nonneg hb.1 (by omega)
  have h5 : mixB c idx * (2 * idx + 11) ≤ 2147483579 * (2 * 1048576 + 11) := Int.mul_le_mul (by omega) (by omega) (by omega) (by omega)
  unfold mixC; omega
theorem depth_ints (ns : List Int) : PyData.depthAll (ns.map .int) ≤ 1 := by induction ns <;> simp_all [PyData.depthAll, PyData.depth]
theorem lay_ints (ns : List Int) : PyData.canLayAll0 (ns.map .int) = true := by induction ns <;> simp_all [PyData.canLayAll0, PyData.canLay0]
theorem shaped_ints (ns : List Int) : SeqAt.shaped (.list (ns.map .int)) = true := by
  have := depth_ints ns
  simp [SeqAt.shaped, PyData.canLay0, PyData.depth, lay_ints]; omega
theorem atI_ints (ns : List Int) (k : Int) (h : 0 ≤ k) (h2 : k < ns.length) : ∃ c : Int, atI (ns.map PyData.int) k = some (PyData.int c) := by
  rw [c_at h (by simpa using h2)]
  have : k.toNat < ns.length := by omega
  exact ⟨ns[k.toNat], by simp [this]⟩
theorem draw_ok (ns : List Int) (idx great b : Int) (h0 : 0 ≤ idx) (h1 : idx < 1048576) (hg : 0 ≤ great) (hb : 0 < b) (hb2 : b < 1073741824) :
    ∃ r idx' great', m__law_draw [.own true (pen ns idx great), .shr (.int b)] = some (.val (.int r), [some (pen ns idx' great'), none]) ∧ 0 ≤ r ∧ r < b ∧ idx ≤ idx' ∧ idx' ≤ idx + 1 ∧ 0 ≤ great' := by
  by_cases hg2 : 0 < great
  · exact ⟨_, _, _, draw_great ns idx great b hg2 hb hb2, Int.emod_nonneg _ (by omega), Int.emod_lt_of_pos _ hb, by omega, by omega, Int.ediv_nonneg hg (by omega)⟩
  have e0 : env0 7 [.own true (pen ns idx great), .shr (.int b)] = [some (.own true (pen ns idx great)), some (.shr (.int b)), none, none, none, none, none] := rfl
  unfold m__law_draw b__law_draw
  rw [q_run, e0]
  simp only [pen_def]
  have i1 := at2
  have i2 := at1
  have i3 := at0
  have j1 := st1
  have j2 := st2
  have hs := shaped_ints ns
  have a1 : ∀ c : Int, (c % 2147483549 + 30011 * idx + 59).natAbs < 18446744073709551616 := fun c => by omega
  have eB : ∀ c : Int, (c % 2147483549 + 30011 * idx + 59) ^ 5 % 2147483579 = mixB c idx := fun c => rfl
  have hB1 : ∀ c, -18446744073709551616 < mixB c idx := fun c => by unfold mixB; omega
  have hB2 : ∀ c, mixB c idx < 18446744073709551616 := fun c => by unfold mixB; omega
  have hC : ∀ c, mixB c idx * (2 * idx + 11) + 70003 = mixC c idx := fun c => rfl
  have hC1 := fun c => mixC_lt c idx h0 h1
  have hD : ∀ c, mixC c idx ^ 3 % 2147483629 = mixD c idx := fun c => rfl
  have h7 : -18446744073709551616 < 70121 * idx := by omega
  have h8 : 70121 * idx < 18446744073709551616 := by omega
  have hgr := gr0 great (by omega)
  have fin : ∀ c : Int, ∃ r idx' great', (some (Ret.val (.int (mixD c idx / 16 % b)), [some (Mu.l [.list (ns.map .int), .int (idx + 1), .int great]), none]) : Option (Ret × List (Option Mu))) = some (.val (.int r), [some (pen ns idx' great'), none]) ∧ 0 ≤ r ∧ r < b ∧ idx ≤ idx' ∧ idx' ≤ idx + 1 ∧ 0 ≤ great' :=
    fun c => ⟨_, _, _, rfl, Int.emod_nonneg _ (by omega), Int.emod_lt_of_pos _ hb, by omega, by omega, hg⟩
  have hp : dPow (.int 10) (.int 18) = some (.int 1000000000000000000) := rfl
  by_cases hn : ns = []
  · subst hn
    have hs0 : dNe (.list []) (.list []) = some (.bool false) := c_neL0 (by decide)
    have hl : decide (idx < ((0 : Nat) : Int)) = false := by simp; omega
    walk_at "gd"
    exact fin _
  · have hl0 : 0 < ns.length := by cases ns <;> simp_all
    have hl1 : (0 : Int) < ((List.map PyData.int ns).length : Int) := by simp; exact hl0
    obtain ⟨c, hc⟩ := atI_ints ns (idx % ((List.map PyData.int ns).length : Int)) (Int.emod_nonneg _ (by omega)) (by simpa using Int.emod_lt_of_pos idx hl1)
    have hne : (List.map PyData.int ns).isEmpty = false := by cases ns <;> simp_all
    by_cases hx : idx < ((List.map PyData.int ns).length : Int)
    · have hx' : decide (idx < ((List.map PyData.int ns).length : Int)) = true := decide_eq_true hx
      by_cases hy : 1000000000000000000 ≤ (if c < 0 then -c else c)
      · have hy' : decide (1000000000000000000 ≤ (if c < 0 then -c else c)) = true := decide_eq_true hy
        have hz : (0 : Int) ≤ (if c < 0 then -c else c) := by omega
        have hw : (0 : Int) ≤ (if decide (c < 0) = true then 1 else 0) := by split <;> omega
        clear fin
        walk_at "gd"
        exact ⟨_, _, _, rfl, Int.emod_nonneg _ (by omega), Int.emod_lt_of_pos _ hb, by omega, by omega, Int.ediv_nonneg (by omega) (by omega)⟩
      · have hy' : decide (1000000000000000000 ≤ (if c < 0 then -c else c)) = false := decide_eq_false hy
        walk_at "gd"
        exact fin _
    · have hx' : decide (idx < ((List.map PyData.int ns).length : Int)) = false := decide_eq_false hx
      walk_at "gd"
      exact fin _
end My

namespace My
open PySem PySem.Spec PyProof.Rows L2 GD GDX



def nT (k : Int) : Str := Str.ofString (toString k)
structure OS (k n : Nat) (d : D) : Prop where
  lay : d.canLay0 = true
  dep : d.depth ≤ k
  sh : d.showable = true
  sho : d.leavesShort 200 = true
  blk : d.bulk ≤ n
theorem OS.mono {k n k' n' : Nat} {d : D} (h : OS k n d) (a : k ≤ k') (b : n ≤ n') : OS k' n' d := ⟨h.lay, Nat.le_trans h.dep a, h.sh, h.sho, Nat.le_trans h.blk b⟩
theorem OS.all {k n : Nat} : ∀ {ds : List D}, (∀ d ∈ ds, OS k n d) → PyData.canLayAll0 ds = true ∧ PyData.depthAll ds ≤ k ∧ PyData.showableAll ds = true ∧ PyData.leavesShortAll 200 ds = true ∧ PyData.bulkAll ds ≤ (n + 1) * ds.length
  | [], _ => ⟨by rw [PyData.canLayAll0], by rw [PyData.depthAll]; omega, by rw [PyData.showableAll], by rw [PyData.leavesShortAll], by rw [PyData.bulkAll]; omega⟩
  | d :: ds, h => by
    obtain ⟨a, b, c, e, f⟩ := OS.all fun x hx => h x (List.mem_cons_of_mem _ hx)
    have g := h d (List.mem_cons_self ..)
    refine ⟨by rw [PyData.canLayAll0, a, g.lay]; rfl, by rw [PyData.depthAll]; exact Nat.max_le.mpr ⟨g.dep, b⟩, by rw [PyData.showableAll, c, g.sh]; rfl, by rw [PyData.leavesShortAll, e, g.sho]; rfl, ?_⟩
    rw [PyData.bulkAll, List.length_cons, Nat.mul_succ]
    have := g.blk
    omega
theorem OS.list {k n : Nat} {ds : List D} (h : ∀ d ∈ ds, OS k n d) : OS (k + 1) ((n + 1) * ds.length) (.list ds) := by
  obtain ⟨a, b, c, e, f⟩ := OS.all h
  exact ⟨by rw [PyData.canLay0]; exact a, by rw [PyData.depth]; omega, by rw [PyData.showable]; exact c, by rw [PyData.leavesShort]; exact e, by rw [PyData.bulk]; exact f⟩
theorem OS.tuple {k n : Nat} {ds : List D} (h : ∀ d ∈ ds, OS k n d) : OS (k + 1) ((n + 1) * ds.length) (.tuple ds) := by
  obtain ⟨a, b, c, e, f⟩ := OS.all h
  exact ⟨by rw [PyData.canLay0]; exact a, by rw [PyData.depth]; omega, by rw [PyData.showable]; exact c, by rw [PyData.leavesShort]; exact e, by rw [PyData.bulk]; exact f⟩
theorem OS.none : OS 0 0 .none := ⟨by rw [PyData.canLay0], by rw [PyData.depth]; omega, by rw [PyData.showable], by rw [PyData.leavesShort], by rw [PyData.bulk]; omega⟩
theorem OS.str {x : Str} (h : ∀ c ∈ TL.tl x, c < 128) : OS 0 x.length (.str x) := by
  refine ⟨?_, by rw [PyData.depth]; omega, by rw [PyData.showable], ?_, by rw [PyData.bulk]; exact Nat.le_refl _⟩
  · rw [PyData.canLay0, PyData.strOk, Array.all_eq_true']
    intro c hc
    have := h c (Array.mem_toList_iff.mpr hc)
    exact decide_eq_true (by omega)
  · rw [PyData.leavesShort, List.all_eq_true]
    intro c hc
    exact decide_eq_true (Nat.lt_of_lt_of_le (h c hc) (by decide))
theorem OS.ok {k n : Nat} {d : D} (h : OS k n d) (a : k ≤ 60) (b : n ≤ 60000) : okShow d = true := by
  unfold okShow
  rw [h.lay, h.sh, h.sho, decide_eq_true (Nat.le_trans h.dep a), decide_eq_true (Nat.le_trans h.blk b)]; rfl
theorem OS.shaped {k n : Nat} {d : D} (h : OS k n d) (a : k ≤ 60) : SeqAt.shaped d = true := by
  unfold SeqAt.shaped
  rw [h.lay, decide_eq_true (Nat.le_trans h.dep (Nat.le_trans a (by decide)))]; rfl
def N3 (k : Int) : Prop := 0 ≤ k ∧ k ≤ 999
theorem n3_len {k : Int} (h : N3 k) : (nT k).length ≤ 3 := by
  obtain ⟨m, rfl⟩ := Int.eq_ofNat_of_zero_le h.1
  have e : (nT (m : Int)).length = (TL.numL m).length := by rw [TL.len_tl]; exact congrArg List.length (TL.tl_num m)
  rw [e]
  have := h.2
  exact TL.numL_len (by decide) (by omega)
theorem n3_log {k : Int} (h : N3 k) : k.natAbs.log2 < 1920 := by
  have h1 : k.natAbs < 1024 := by have := h.1; have := h.2; omega
  by_cases h0 : k.natAbs = 0
  · rw [h0]; decide
  · have := (Nat.log2_lt h0 (k := 10)).mpr h1; omega
theorem n3_signs {k : Int} (h : N3 k) : ∀ c ∈ TL.tl (nT k), c < 128 := by
  obtain ⟨m, rfl⟩ := Int.eq_ofNat_of_zero_le h.1
  have e : TL.tl (nT (m : Int)) = TL.numL m := TL.tl_num m
  rw [e]; intro c hc
  have := TL.numL_digits m c hc
  omega
theorem OS.int {k : Int} (h : N3 k) : OS 0 0 (.int k) :=
  ⟨by rw [PyData.canLay0], by rw [PyData.depth]; omega, by rw [PyData.showable]; exact decide_eq_true (n3_log h), by
    rw [PyData.leavesShort]
    exact decide_eq_true (Nat.le_trans (n3_len h) (by decide)), by rw [PyData.bulk]; omega⟩
def W8 (w : Str) : Prop := w.length ≤ 8 ∧ ∀ c ∈ TL.tl w, c < 128
def eD : Option Str → D
  | none => .none
  | some w => .str w
def GoodE (e : Option Str) : Prop := ∀ w, e = some w → W8 w
theorem OS.word {w : Str} (h : W8 w) : OS 0 8 (.str w) := (OS.str h.2).mono (Nat.le_refl _) h.1
theorem OS.entry {e : Option Str} (h : GoodE e) : OS 0 8 (eD e) := by
  cases e with
  | none => exact OS.none.mono (Nat.le_refl _) (by omega)
  | some w => exact OS.word (h w rfl)
theorem comp_all {A : Type} {vs : List Nat} {tg : D → En → Option En} {ft : EvT} {fe : EvE} {env : En} (f F : A → D) : ∀ (l : List A) (acc : List D), acc.length + l.length ≤ 1000000 →
    (∀ a ∈ l, ∀ ds acc, acc.length ≤ 1000000 → cpG vs tg ft fe ds acc (tg (f a) env) = compE vs tg ft fe ds (acc ++ [F a]) env) → compE vs tg ft fe (l.map f) acc env = some (acc ++ l.map F, env)
  | [], acc, _, _ => by simp [compE]
  | a :: l, acc, hl, h => by
    simp only [List.length_cons] at hl
    rw [List.map_cons, q_cpc, h a (List.mem_cons_self ..) _ _ (by omega), comp_all f F l (acc ++ [F a]) (by rw [List.length_append, List.length_singleton]; omega) fun b hb => h b (List.mem_cons_of_mem _ hb)]
    simp

end My

namespace My
open PySem PySem.Spec PyProof.Rows L2 GD


def PW (w : Str) : Prop := w.length ≤ 16
theorem comp_ex {A : Type} {vs : List Nat} {tg : D → En → Option En} {ft : EvT} {fe : EvE} {env : En} (F : A → D) (P : A → Prop) : ∀ (l acc : List D), acc.length + l.length ≤ 1000000 →
    (∀ d ∈ l, ∃ z, P z ∧ ∀ ds acc, acc.length ≤ 1000000 → cpG vs tg ft fe ds acc (tg d env) = compE vs tg ft fe ds (acc ++ [F z]) env) → ∃ zs : List A, (∀ z ∈ zs, P z) ∧ zs.length = l.length ∧ compE vs tg ft fe l acc env = some (acc ++ zs.map F, env)
  | [], acc, _, _ => ⟨[], fun z h => (by cases h), rfl, by simp [compE]⟩
  | d :: l, acc, hl, h => by
    simp only [List.length_cons] at hl
    obtain ⟨z, hz, hc⟩ := h d (List.mem_cons_self ..)
    obtain ⟨zs, h1, h2, h3⟩ := comp_ex F P l (acc ++ [F z]) (by rw [List.length_append, List.length_singleton]; omega) fun b hb => h b (List.mem_cons_of_mem _ hb)
    refine ⟨z :: zs, fun y hy => ?_, by rw [List.length_cons, List.length_cons, h2], ?_⟩
    · rcases List.mem_cons.mp hy with rfl | hy
      · exact hz
      · exact h1 y hy
    · rw [q_cpc, hc _ _ (by omega), h3]; simp
theorem range_mem {n : Nat} {d : D} (h : d ∈ rangeD 0 n) : ∃ i : Int, d = .int i ∧ 0 ≤ i ∧ i < n := by
  unfold rangeD at h
  obtain ⟨i, hi, rfl⟩ := List.mem_map.mp h
  have := List.mem_range.mp hi
  exact ⟨0 + (i : Int), rfl, by omega, by omega⟩
theorem range_len (a : Int) (n : Nat) : (rangeD a n).length = n := by simp [rangeD]
def abc : Str := ("abcdefghijklmnopqrstuvwxyz" : Str)
theorem rep_len (a : Str) (k : Int) (h : 1 ≤ k) : (strRep a k).length ≤ k.toNat * a.length := by
  unfold strRep
  have hlen : ∀ (n : Nat) (b : Array Nat), ((List.replicate n a.cps).foldl (· ++ ·) b).size = b.size + n * a.cps.size := by
    intro n
    induction n with
    | zero => intro b; simp
    | succ n ih => intro b; rw [List.replicate_succ, List.foldl_cons, ih, Array.size_append, Nat.succ_mul]; omega
  split
  · have h1 : 1 ≤ k.toNat := by omega
    have : 1 * a.length ≤ k.toNat * a.length := Nat.mul_le_mul h1 (Nat.le_refl _)
    omega
  · have e := hlen k.toNat #[]
    show ((List.replicate k.toNat a.cps).foldl (· ++ ·) #[]).size ≤ k.toNat * a.cps.size
    rw [e]
    simp only [List.size_toArray, List.length_nil]
    omega
theorem len_app (x y : Str) : (x ++ y).length = x.length + y.length := by rw [TL.len_tl, TL.tl_append, List.length_append, ← TL.len_tl, ← TL.len_tl]
theorem str_at (ps : List Str) (i : Int) (h : 0 ≤ i) (h2 : i < ps.length) : ∃ p ∈ ps, atI (ps.map PyData.str) i = some (.str p) := by
  rw [c_at h (by rw [List.length_map]; exact h2)]
  have hlt : i.toNat < ps.length := by omega
  exact ⟨ps[i.toNat], List.getElem_mem hlt, by simp [hlt]⟩
theorem ent_at (es : List (Option Str)) (i : Int) (h : 0 ≤ i) (h2 : i < es.length) : ∃ e, es[i.toNat]? = some e ∧ atI (es.map eD) i = some (eD e) := by
  rw [c_at h (by rw [List.length_map]; exact h2)]
  have hlt : i.toNat < es.length := by omega
  exact ⟨es[i.toNat], by simp [hlt], by simp [hlt]⟩
theorem trim_loop (es : List (Option Str)) : ∀ (n : Nat), n ≤ es.length → ∀ f, n < f → ∃ m : Nat, m ≤ n ∧
    whE (tfAnd (tVal (eOp dGt (eVar 1) (eC (.int 0)))) (tVal (eIsN (eOp dIx (eVar 0) (eOp dSub (eVar 1) (eC (.int 1))))))) (sSetX 1 (xE (eOp dSub (eVar 1) (eC (.int 1))))) f [some (.own true (.l (es.map eD))), some (.shr (.int n))]
      = some (.nx, [some (.own true (.l (es.map eD))), some (.shr (.int m))])
  | n, hn, f, hf => by
    obtain ⟨f, rfl⟩ : ∃ n, f = n + 1 := ⟨f - 1, by omega⟩
    by_cases hz : n = 0
    · subst hz
      refine ⟨0, Nat.le_refl _, ?_⟩
      have t : decide ((0 : Int) < ((0 : Nat) : Int)) = false := by decide
      clear hn hf
      walk_at "gd"
    · have t : decide ((0 : Int) < (n : Int)) = true := decide_eq_true (by omega)
      obtain ⟨e, _, hat⟩ := ent_at es ((n : Int) - 1) (by omega) (by omega)
      cases e with
      | none =>
        obtain ⟨m, hm, ih⟩ := trim_loop es (n - 1) (by omega) f (by omega)
        refine ⟨m, by omega, ?_⟩
        have ec : (n : Int) - 1 = ((n - 1 : Nat) : Int) := by omega
        rw [← ih]
        rw [← ec] at ih ⊢
        clear ih hn hf hz ec
        simp only [eD] at *
        walk_at "gd"
      | some w =>
        refine ⟨n, Nat.le_refl _, ?_⟩
        clear hn hf hz
        simp only [eD] at *
        walk_at "gd"
theorem cut_take (ds : List D) (m : Nat) (h : m ≤ ds.length) : GD.cutD ds none (some (m : Int)) = ds.take m := by
  unfold GD.cutD
  rw [HT.sIx_nat, HT.sIx_none]
  rw [Nat.min_eq_left h]; simp
end My

namespace My
open PySem PySem.Spec PyProof.Rows L2 GD


def NM (w : Str) : Prop := 1 ≤ w.length ∧ w.length ≤ 8 ∧ ∀ c ∈ TL.tl w, 97 ≤ c ∧ c ≤ 122
theorem NM.w8 {w : Str} (h : NM w) : W8 w := ⟨h.2.1, fun c hc => by have := h.2.2 c hc; omega⟩
theorem abc_nm0 : ∀ i : Nat, i < 26 → (match atI abc.cps.toList (i : Int) with | some c => decide (97 ≤ c ∧ c ≤ 122) | none => false) = true := by decide +kernel
theorem abc_nm (i : Int) (h : 0 ≤ i) (h2 : i < 26) : ∃ y : Str, dIx (.str abc) (.int i) = some (.str y) ∧ y.length = 1 ∧ ∀ c ∈ TL.tl y, 97 ≤ c ∧ c ≤ 122 := by
  have e := abc_nm0 i.toNat (by omega)
  rw [show ((i.toNat : Nat) : Int) = i by omega] at e
  rw [c_ixS (by decide)]
  cases g : atI abc.cps.toList i with
  | none => rw [g] at e; cases e
  | some c =>
    rw [g] at e
    refine ⟨⟨#[c]⟩, rfl, rfl, fun d hd => ?_⟩
    have : d = c := List.mem_singleton.mp hd
    subst this
    exact of_decide_eq_true e
theorem rep_mem (a : Str) (k : Int) : ∀ c ∈ TL.tl (strRep a k), c ∈ TL.tl a := by
  intro c hc
  unfold strRep at hc
  split at hc
  · exact hc
  · have g : ∀ (n : Nat) (b : Array Nat), c ∈ ((List.replicate n a.cps).foldl (· ++ ·) b).toList → c ∈ b.toList ∨ c ∈ a.cps.toList := by
      intro n
      induction n with
      | zero => exact fun b h => .inl h
      | succ n ih =>
        intro b h
        rw [List.replicate_succ, List.foldl_cons] at h
        rcases ih _ h with h | h
        · rw [Array.toList_append] at h
          exact List.mem_append.mp h
        · exact .inr h
    rcases g k.toNat #[] hc with h | h
    · cases h
    · exact h
theorem rep_len1 (a : Str) (k : Int) (h : 1 ≤ k) (ha : 1 ≤ a.length) : 1 ≤ (strRep a k).length := by
  unfold strRep
  have hlen : ∀ (n : Nat) (b : Array Nat), ((List.replicate n a.cps).foldl (· ++ ·) b).size = b.size + n * a.cps.size := by
    intro n
    induction n with
    | zero => intro b; simp
    | succ n ih => intro b; rw [List.replicate_succ, List.foldl_cons, ih, Array.size_append, Nat.succ_mul]; omega
  split
  · exact ha
  · have e := hlen k.toNat #[]
    show 1 ≤ ((List.replicate k.toNat a.cps).foldl (· ++ ·) #[]).size
    rw [e]
    have : 1 * 1 ≤ k.toNat * a.cps.size := Nat.mul_le_mul (by omega) ha
    simp only [List.size_toArray, List.length_nil]
    omega
theorem pool_nm (ns : List Int) (idx great m : Int) (h0 : 0 ≤ idx) (h1 : idx + 2 < 1048570) (hg : 0 ≤ great) (hm : 1 ≤ m) (hm2 : m ≤ 20) :
    ∃ (ps : List Str) (idx' great' : Int), m__law_pool [.own true (pen ns idx great), .shr (.int m)] = some (.new (.l (ps.map PyData.str)), [some (pen ns idx' great'), none]) ∧ (∀ p ∈ ps, NM p) ∧ (ps.length : Int) = m ∧ idx ≤ idx' ∧ idx' ≤ idx + 2 ∧ 0 ≤ great' := by
  obtain ⟨r1, i1, g1, e1, a1, b1, c1, d1, f1⟩ := draw_ok ns idx great 3 h0 (by omega) hg (by omega) (by omega)
  obtain ⟨r2, i2, g2, e2, a2, b2, c2, d2, f2⟩ := draw_ok ns i1 g1 26 (by omega) (by omega) f1 (by omega) (by omega)
  have e0 : env0 8 [.own true (pen ns idx great), .shr (.int m)] = [some (.own true (pen ns idx great)), some (.shr (.int m)), none, none, none, none, none, none] := rfl
  have k1 : -4611686018427387904 ≤ m := by omega
  have k2 : m < 4611686018427387904 := by omega
  have k3 := range_len 0 m.toNat
  obtain ⟨ps, q1, q2, q3⟩ := comp_ex (vs := [6]) (tg := gN 6) (ft := tYesE) (fe := eOp dIx (eVar 2) (eOp dMod (eX (xOp dAddX (eVar 4) (eOp dMul (eC (.int 5)) (eVar 6)))) (eC (.int 26))))
    (env := [some (.own true (pen ns i2 g2)), some (.shr (.int m)), some (.shr (.str abc)), some (.shr (.int r1)), some (.shr (.int r2)), none, none, none]) PyData.str (fun y => y.length = 1 ∧ ∀ c ∈ TL.tl y, 97 ≤ c ∧ c ≤ 122) (rangeD 0 m.toNat) [] (by rw [k3]; simp; omega) fun d hd => by
      obtain ⟨i, rfl, _, _⟩ := range_mem hd
      obtain ⟨y, hy, hy1, hy2⟩ := abc_nm ((r2 + 5 * i) % 26) (by omega) (by omega)
      refine ⟨y, ⟨hy1, hy2⟩, fun ds acc hacc => ?_⟩
      clear hd hy2
      walk_at "gd"
  rw [List.nil_append] at q3
  obtain ⟨y7, hy7, hl7, hs7⟩ := abc_nm r2 a2 b2
  have hps : (ps.length : Int) = m := by omega
  by_cases w1 : r1 = 1
  · have t1 : decide (r1 = 1) = true := decide_eq_true w1
    obtain ⟨zs, z1, z2, z3⟩ := comp_ex (vs := [7]) (tg := gN 7) (ft := tYesE) (fe := eX (xOp dAddX (eOp dMulS (eOp dIx (eVar 2) (eVar 4)) (eC (.int 7))) (eVar 7)))
      (env := [some (.own true (pen ns i2 g2)), some (.shr (.int m)), some (.shr (.str abc)), some (.shr (.int r1)), some (.shr (.int r2)), some (.shr (.list (ps.map PyData.str))), none, none]) PyData.str NM (ps.map PyData.str) [] (by rw [List.length_map]; simp; omega) fun d hd => by
        obtain ⟨p, hp, rfl⟩ := List.mem_map.mp hd
        have hp1 := (q1 p hp).1
        have hp2 := (q1 p hp).2
        have r7 := rep_len y7 7 (by omega)
        have r71 := rep_len1 y7 7 (by omega) (by omega)
        have hr : (strRep y7 7).length + p.length ≤ 8 := by
          rw [hl7] at r7
          have : (7 : Int).toNat * 1 = 7 := by decide
          omega
        have hadd := c_addS (x := strRep y7 7) (y := p) (by omega)
        have hmul := c_mulS (a := y7) (k := 7) (by omega) (by omega) (by omega)
        refine ⟨strRep y7 7 ++ p, ⟨by rw [len_app]; omega, by rw [len_app]; omega, fun c hc => ?_⟩, fun ds acc hacc => ?_⟩
        · rw [TL.tl_append] at hc
          rcases List.mem_append.mp hc with h | h
          · exact hs7 c (rep_mem _ _ c h)
          · exact hp2 c h
        · clear hd q1 hp2 hs7
          walk_at "gd"
    rw [List.nil_append] at z3
    rw [List.length_map] at z2
    refine ⟨zs, i2, g2, ?_, z1, by omega, by omega, by omega, f2⟩
    clear q1 z1 w1 hs7
    unfold abc at *
    unfold m__law_pool b__law_pool
    rw [q_run, e0]
    walk_at "gd"
  · have t1 : decide (r1 = 1) = false := decide_eq_false w1
    by_cases w2 : r1 = 2
    · have t2 : decide (r1 = 2) = true := decide_eq_true w2
      obtain ⟨zs, z1, z2, z3⟩ := comp_ex (vs := [6]) (tg := gN 6) (ft := tYesE) (fe := eOp dMulS (eOp dIx (eVar 5) (eVar 6)) (eX (xOp dAddX (eC (.int 1)) (eOp dMod (eVar 6) (eC (.int 8))))))
        (env := [some (.own true (pen ns i2 g2)), some (.shr (.int m)), some (.shr (.str abc)), some (.shr (.int r1)), some (.shr (.int r2)), some (.own false (.l (ps.map PyData.str))), none, none]) PyData.str NM (rangeD 0 m.toNat) [] (by rw [k3]; simp; omega) fun d hd => by
          obtain ⟨i, rfl, i0, i1⟩ := range_mem hd
          obtain ⟨p, hp, hat⟩ := str_at ps i i0 (by omega)
          have hp1 := (q1 p hp).1
          have hp2 := (q1 p hp).2
          have hr := rep_len p (1 + i % 8) (by omega)
          have hr1 := rep_len1 p (1 + i % 8) (by omega) (by omega)
          have hmul := c_mulS (a := p) (k := 1 + i % 8) (by omega) (by omega) (by omega)
          rw [hp1] at hr
          refine ⟨strRep p (1 + i % 8), ⟨hr1, by omega, fun c hc => hp2 c (rep_mem _ _ c hc)⟩, fun ds acc hacc => ?_⟩
          clear hd q1 hp2 hs7
          walk_at "gd"
      rw [List.nil_append] at z3
      refine ⟨zs, i2, g2, ?_, z1, by omega, by omega, by omega, f2⟩
      clear q1 z1 w1 w2 hs7
      unfold abc at *
      unfold m__law_pool b__law_pool
      rw [q_run, e0]
      walk_at "gd"
    · have t2 : decide (r1 = 2) = false := decide_eq_false w2
      refine ⟨ps, i2, g2, ?_, fun p hp => ⟨by have := (q1 p hp).1; omega, by have := (q1 p hp).1; omega, (q1 p hp).2⟩, by omega, by omega, by omega, f2⟩
      clear q1 w1 w2 hs7
      unfold abc at *
      unfold m__law_pool b__law_pool
      rw [q_run, e0]
      walk_at "gd"
theorem bools_map {A : Type} (f : A → Bool) : ∀ l : List A, boolsOf (l.map fun a => PyData.bool (f a)) = some (l.map f)
  | [] => rfl
  | a :: l => by rw [List.map_cons]; simp [boolsOf, bools_map f l]
theorem all_map {A : Type} (f : A → Bool) (l : List A) : cAll [.list (l.map fun a => PyData.bool (f a))] = some (.bool (l.all f)) := by
  show (boolsOf _).map (fun bs => PyData.bool (bs.all id)) = _
  rw [bools_map, Option.map_some]
  have : ∀ l : List A, (l.map f).all id = l.all f := fun l => by induction l <;> simp_all
  rw [this]
theorem at0x (d : D) (r : List D) : atI (d :: r) 0 = some d := by
  unfold atI ixN; simp
theorem any_at (ds : List D) (i : Int) (h : 0 ≤ i) (h2 : i < ds.length) : ∃ d ∈ ds, atI ds i = some d := by
  rw [c_at h h2]
  have hlt : i.toNat < ds.length := by omega
  exact ⟨ds[i.toNat], List.getElem_mem hlt, by simp [hlt]⟩
def GN (e : Option Str) : Prop := ∀ w, e = some w → NM w
theorem GN.good {e : Option Str} (h : GN e) : GoodE e := fun w hw => (h w hw).w8
theorem trimmed_nm (es : List (Option Str)) (hl : es.length ≤ 1000) (hg : ∀ e ∈ es, GN e) :
    ∃ es' : List (Option Str), m__law_trimmed [.own true (.l (es.map eD))] = some (.val (.tuple (es'.map eD)), [some (.l (es.map eD))]) ∧ (∀ e ∈ es', GN e) ∧ es'.length ≤ es.length := by
  have e0 : env0 2 [.own true (.l (es.map eD))] = [some (.own true (.l (es.map eD))), none] := rfl
  obtain ⟨m, hm, ih⟩ := trim_loop es es.length (Nat.le_refl _) fuel (by unfold fuel; omega)
  have hc := cut_take (es.map eD) m (by rw [List.length_map]; omega)
  have hl2 : ((es.map eD).length : Int) = (es.length : Int) := by rw [List.length_map]
  rw [← hl2] at ih
  refine ⟨es.take m, ?_, fun e he => hg e (List.mem_of_mem_take he), by rw [List.length_take]; omega⟩
  rw [← List.map_take] at hc
  clear hg hl2
  unfold m__law_trimmed b__law_trimmed
  rw [q_run, e0]
  walk_at "gd"
theorem table_loop (ns : List Int) (ps : List Str) (hp0 : 0 < ps.length) (hpl : ps.length ≤ 20) (hp : ∀ p ∈ ps, NM p) (o2 : Option Sl) : ∀ (ds : List D) (es : List (Option Str)) (idx great : Int) (o4 o5 : Option Sl), 0 ≤ idx → idx + 2 * ds.length < 1048000 → 0 ≤ great → es.length + ds.length ≤ 1000 → (∀ e ∈ es, GN e) →
    ∃ (es' : List (Option Str)) (idx' great' : Int) (p4 p5 : Option Sl), forE (gN 4) (sSeq (sSetX 5 (xE (eOp dIx (eVar 1) (eX (xCall m__law_draw (aCons (eVar 0) (aCons (eCa cLen (aCons (eVar 1) aNil)) aNil)))))))
      (sDrop (eMt "list" gApp 3 (aCons (eOp dIx (eX (xM (eLst (aCons (eC .none) (aCons (eGive 5) (aCons (eGive 5) aNil)))))) (eX (xCall m__law_draw (aCons (eVar 0) (aCons (eC (.int 3)) aNil))))) aNil))))
      ds [some (.own true (pen ns idx great)), some (.shr (.list (ps.map PyData.str))), o2, some (.own false (.l (es.map eD))), o4, o5]
      = some (.nx, [some (.own true (pen ns idx' great')), some (.shr (.list (ps.map PyData.str))), o2, some (.own false (.l (es'.map eD))), p4, p5]) ∧ (∀ e ∈ es', GN e) ∧ es'.length = es.length + ds.length ∧ idx ≤ idx' ∧ idx' ≤ idx + 2 * ds.length ∧ 0 ≤ great' := by
  intro ds
  induction ds with
  | nil => exact fun es idx great o4 o5 h0 h1 hg hl he => ⟨es, idx, great, o4, o5, rfl, he, by simp, by simp, by simp, hg⟩
  | cons d ds rec =>
    intro es idx great o4 o5 h0 h1 hg hl he
    simp only [List.length_cons] at h1 hl
    have hlen : ((ps.map PyData.str).length : Int) = (ps.length : Int) := by rw [List.length_map]
    obtain ⟨r1, i1, g1, e1, a1, b1, c1, d1, f1⟩ := draw_ok ns idx great ((ps.map PyData.str).length : Int) h0 (by omega) hg (by omega) (by omega)
    obtain ⟨w, hwm, hat⟩ := str_at ps r1 a1 (by omega)
    obtain ⟨r2, i2, g2, e2, a2, b2, c2, d2, f2⟩ := draw_ok ns i1 g1 3 (by omega) (by omega) f1 (by omega) (by omega)
    have hx : ∃ e, GN e ∧ atI [PyData.none, .str w, .str w] r2 = some (eD e) := by
      have : r2 = 0 ∨ r2 = 1 ∨ r2 = 2 := by omega
      rcases this with h | h | h <;> subst h
      · exact ⟨none, fun w hw => (by cases hw), rfl⟩
      · exact ⟨some w, fun w' hw' => (by cases hw'; exact hp w hwm), rfl⟩
      · exact ⟨some w, fun w' hw' => (by cases hw'; exact hp w hwm), rfl⟩
    obtain ⟨e, hge, hae⟩ := hx
    have hn : (es.map eD).length ≤ 1000000 := by rw [List.length_map]; omega
    obtain ⟨es', i3, g3, p4, p5, ih, u1, u2, u3, u4, u5⟩ := rec (es ++ [e]) i2 g2 (some (.shr d)) (some (.shr (.str w))) (by omega) (by omega) f2 (by rw [List.length_append, List.length_singleton]; omega) (fun x hx => by
      rcases List.mem_append.mp hx with h | h
      · exact he x h
      · rw [List.mem_singleton.mp h]; exact hge)
    rw [List.length_append, List.length_singleton] at u2
    refine ⟨es', i3, g3, p4, p5, ?_, u1, by rw [List.length_cons]; omega, by omega, by rw [List.length_cons]; omega, u5⟩
    rw [← ih]
    have hm : (es ++ [e]).map eD = es.map eD ++ [eD e] := by simp
    rw [hm]
    clear ih rec he hp u1 hm hge hwm hlen
    walk_at "gd"
theorem table_draw (ns : List Int) (ps : List Str) (hp0 : 0 < ps.length) (hpl : ps.length ≤ 20) (hp : ∀ p ∈ ps, NM p) (idx great : Int) (h0 : 0 ≤ idx) (h1 : idx + 50 < 1048000) (hg : 0 ≤ great) :
    ∃ (es : List (Option Str)) (idx' great' : Int), m__law_table [.own true (pen ns idx great), .shr (.list (ps.map PyData.str)), .shr (.int 9)] = some (.val (.tuple (es.map eD)), [some (pen ns idx' great'), none, none]) ∧ (∀ e ∈ es, GN e) ∧ es.length ≤ 12 ∧ idx ≤ idx' ∧ idx' ≤ idx + 40 ∧ 0 ≤ great' := by
  have e0 : env0 6 [.own true (pen ns idx great), .shr (.list (ps.map PyData.str)), .shr (.int 9)] = [some (.own true (pen ns idx great)), some (.shr (.list (ps.map PyData.str))), some (.shr (.int 9)), none, none, none] := rfl
  obtain ⟨r2, i2, g2, e2, a2, b2, c2, d2, f2⟩ := draw_ok ns idx great 10 h0 (by omega) hg (by omega) (by omega)
  have k1 : -4611686018427387904 ≤ r2 := by omega
  have k2 : r2 < 4611686018427387904 := by omega
  have k3 := range_len 0 r2.toNat
  obtain ⟨es0, i3, g3, p4, p5, ih, u1, u2, u3, u4, u5⟩ := table_loop ns ps hp0 hpl hp (some (.shr (.int 9))) (rangeD 0 r2.toNat) [] i2 g2 none none (by omega) (by rw [k3]; omega) f2 (by rw [k3]; simp; omega) (fun e h => by cases h)
  rw [k3] at u2 u4
  simp only [List.length_nil, List.map_nil] at u2 ih
  obtain ⟨es, t1, t2, t3⟩ := trimmed_nm es0 (by omega) u1
  refine ⟨es, i3, g3, ?_, t2, by omega, by omega, by omega, u5⟩
  clear hp u1 t2 k3
  unfold m__law_table b__law_table
  rw [q_run, e0]
  walk_at "gd"
end My

namespace My
open PySem PySem.Spec PyProof.Rows L2 GD GDX

def free (es : List (Option Str)) (s : Nat) : Bool := match es[s]? with
  | some (some _) => false
  | _ => true
def ff (es : List (Option Str)) : Nat → Nat → Nat
  | 0, s => s
  | n + 1, s => if free es s = true then s else ff es n (s + 1)
theorem object_ok (es : List (Option Str)) (s : Nat) : ∃ d, m_object_at [.shr (.tuple (es.map eD)), .shr (.int (s : Int))] = some (.val d, [none, none]) ∧ (free es s = true → d = .none) ∧ (free es s = false → ∃ w, d = .str w) := by
  have e0 : env0 2 [.shr (.tuple (es.map eD)), .shr (.int (s : Int))] = [some (.shr (.tuple (es.map eD))), some (.shr (.int (s : Int)))] := rfl
  unfold m_object_at b_object_at
  rw [q_run, e0]
  by_cases h : s < es.length
  · have t : decide ((s : Int) < ((es.map eD).length : Int)) = true := decide_eq_true (by rw [List.length_map]; omega)
    obtain ⟨e, he, hat⟩ := ent_at es (s : Int) (by omega) (by omega)
    rw [show ((s : Int)).toNat = s by omega] at he
    refine ⟨eD e, ?_, fun hf => ?_, fun hf => ?_⟩
    · walk_at "gd"
    · unfold free at hf
      rw [he] at hf
      cases e with
      | none => rfl
      | some w => cases hf
    · unfold free at hf
      rw [he] at hf
      cases e with
      | none => cases hf
      | some w => exact ⟨w, rfl⟩
  · have t : decide ((s : Int) < ((es.map eD).length : Int)) = false := decide_eq_false (by rw [List.length_map]; omega)
    have hn : es[s]? = none := List.getElem?_eq_none (by omega)
    refine ⟨.none, ?_, fun _ => rfl, fun hf => ?_⟩
    · walk_at "gd"
    · unfold free at hf
      rw [hn] at hf
      cases hf
theorem free_out (es : List (Option Str)) (s : Nat) (h : es.length ≤ s) : free es s = true := by
  unfold free
  rw [List.getElem?_eq_none h]
theorem free_loop (es : List (Option Str)) (o : Option Sl) : ∀ (n s f : Nat), es.length ≤ s + n → n < f →
    whE (tVal (eNotN (eX (xCall m_object_at (aCons (eGive 0) (aCons (eGive 2) aNil)))))) (sAug dAddI 2 (eC (.int 1))) f [some (.shr (.tuple (es.map eD))), o, some (.shr (.int (s : Int)))]
      = some (.nx, [some (.shr (.tuple (es.map eD))), o, some (.shr (.int (ff es n s : Nat)))])
  | 0, s, f, h, hf => by
    obtain ⟨f, rfl⟩ : ∃ n, f = n + 1 := ⟨f - 1, by omega⟩
    obtain ⟨d, hd, h1, h2⟩ := object_ok es s
    have hd0 := h1 (free_out es s h)
    subst hd0
    unfold ff
    clear h hf h1 h2
    walk_at "gd"
  | n + 1, s, f, h, hf => by
    obtain ⟨f, rfl⟩ : ∃ n, f = n + 1 := ⟨f - 1, by omega⟩
    obtain ⟨d, hd, h1, h2⟩ := object_ok es s
    unfold ff
    cases hfr : free es s with
    | true =>
      have hd0 := h1 hfr
      subst hd0
      rw [if_pos rfl]
      clear h hf h1 h2
      walk_at "gd"
    | false =>
      obtain ⟨w, rfl⟩ := h2 hfr
      rw [if_neg (by simp)]
      have ih := free_loop es o n (s + 1) f (by omega) (by omega)
      have ec : (((s + 1 : Nat) : Int)) = (s : Int) + 1 := by omega
      rw [ec] at ih
      rw [← ih]
      clear ih h hf h1 h2 hfr ec
      walk_at "gd"
theorem free_slot_ok (es : List (Option Str)) (s : Nat) (hl : es.length ≤ 3000) : m_free_slot [.shr (.tuple (es.map eD)), .shr (.int (s : Int))] = some (.val (.int (ff es (es.length - s) s : Nat)), [none, none]) := by
  have e0 : env0 3 [.shr (.tuple (es.map eD)), .shr (.int (s : Int))] = [some (.shr (.tuple (es.map eD))), some (.shr (.int (s : Int))), none] := rfl
  have ih := free_loop es (some (.shr (.int (s : Int)))) (es.length - s) s fuel (by omega) (by unfold fuel; omega)
  unfold m_free_slot b_free_slot
  rw [q_run, e0]
  walk_at "gd"
theorem range_cons (a : Int) (n : Nat) : rangeD a (n + 1) = .int a :: rangeD (a + 1) n := by
  unfold rangeD
  rw [List.range_succ_eq_map, List.map_cons, List.map_map]
  congr 1
  · simp
  · refine List.map_congr_left fun i _ => ?_
    simp only [Function.comp]
    congr 1
    omega
def T (es : List (Option Str)) : D := .tuple (es.map eD)
def fv (es : List (Option Str)) (s : Nat) : Int := (ff es (es.length - s) s : Nat)
theorem slot_T (es : List (Option Str)) (s : Nat) (hl : es.length ≤ 2900) : m_free_slot [.shr (T es), .shr (.int (s : Int))] = some (.val (.int (fv es s)), [none, none]) := by
  have h := free_slot_ok es s (by omega)
  unfold T fv
  exact h
theorem slot_T0 (es : List (Option Str)) (hl : es.length ≤ 2900) (z : Int) (hz : z = 0) : m_free_slot [.shr (T es), .shr (.int z)] = some (.val (.int (fv es 0)), [none, none]) := by
  have e : z = ((0 : Nat) : Int) := by omega
  rw [e]
  exact slot_T es 0 hl
theorem ff_le (es : List (Option Str)) : ∀ n s, s ≤ ff es n s ∧ ff es n s ≤ s + n
  | 0, s => ⟨Nat.le_refl _, Nat.le_refl _⟩
  | n + 1, s => by
    unfold ff
    have := ff_le es n (s + 1)
    split <;> omega
theorem w_ne : decide (("dup" : Str) = ("close" : Str)) = false ∧ decide (("dup" : Str) = ("dup2" : Str)) = false ∧ decide (("dup" : Str) = ("dup_from" : Str)) = false ∧ decide (("dup_from" : Str) = ("close" : Str)) = false ∧ decide (("dup_from" : Str) = ("dup2" : Str)) = false ∧ decide (("dup_from" : Str) = ("dup" : Str)) = false ∧ decide (("dup2" : Str) = ("close" : Str)) = false := by decide +kernel
theorem at20 (a b : D) : atI [a, b] 0 = some a := rfl
theorem at30 (a b c : D) : atI [a, b, c] 0 = some a := rfl
theorem at32 (a b c : D) : atI [a, b, c] 2 = some c := rfl
theorem land_gen (M : FnS) (es : List (Option Str)) (a : D) (s : Nat) (v0 vs : Int) (f0 : M [.shr (T es), .shr (.int 0)] = some (.val (.int v0), [none, none])) (fs : M [.shr (T es), .shr (.int (s : Int))] = some (.val (.int vs), [none, none])) (b : EvS) (hb : b = (sSeq (sIf (tVal (eOp dEq (eOp dIx (eVar 1) (eC (.int 0))) (eC (.str ("close" : Str))))) (sRetX (xE (eC .none))) sNext)
      (sSeq (sIf (tVal (eOp dEq (eOp dIx (eVar 1) (eC (.int 0))) (eC (.str ("dup2" : Str))))) (sRetX (xE (eOp dIx (eVar 1) (eC (.int 2))))) sNext)
      (sRetX (xCallK M (selA 1 1 false) (aCons (eGive 0) aNil) (aCons (eX (xIf (tVal (eOp dEq (eOp dIx (eVar 1) (eC (.int 0))) (eC (.str ("dup_from" : Str))))) (xE (eOp dIx (eVar 1) (eC (.int 2)))) (xE (eC (.int 0))))) aNil)))))) :
    runB 2 b [.shr (T es), .shr (.tuple [.str ("dup" : Str), a])] = some (.val (.int v0), [none, none]) ∧
    runB 2 b [.shr (T es), .shr (.tuple [.str ("close" : Str), a])] = some (.val .none, [none, none]) ∧
    runB 2 b [.shr (T es), .shr (.tuple [.str ("dup_from" : Str), a, .int (s : Int)])] = some (.val (.int vs), [none, none]) ∧
    runB 2 b [.shr (T es), .shr (.tuple [.str ("dup2" : Str), a, .int (s : Int)])] = some (.val (.int (s : Int)), [none, none]) := by
  obtain ⟨n1, n2, n3, n4, n5, n6, n7⟩ := w_ne
  have a0 := at20
  have a1 := at30
  have a2 := at32
  have e0 : ∀ o, env0 2 [.shr (T es), .shr o] = [some (.shr (T es)), some (.shr o)] := fun _ => rfl
  subst hb
  refine ⟨?_, ?_, ?_, ?_⟩ <;> (rw [q_run, e0]; walk_at "gd")
theorem land_all (es : List (Option Str)) (a : D) (s : Nat) (hl : es.length ≤ 2900) (hs : s ≤ 999) :
    m_landing [.shr (T es), .shr (.tuple [.str ("dup" : Str), a])] = some (.val (.int (fv es 0)), [none, none]) ∧
    m_landing [.shr (T es), .shr (.tuple [.str ("close" : Str), a])] = some (.val .none, [none, none]) ∧
    m_landing [.shr (T es), .shr (.tuple [.str ("dup_from" : Str), a, .int (s : Int)])] = some (.val (.int (fv es s)), [none, none]) ∧
    m_landing [.shr (T es), .shr (.tuple [.str ("dup2" : Str), a, .int (s : Int)])] = some (.val (.int (s : Int)), [none, none]) := by
  have h := land_gen m_free_slot es a s (fv es 0) (fv es s) (slot_T0 es hl 0 rfl) (slot_T es s hl) b_landing (by unfold b_landing; rfl)
  unfold m_landing
  exact h

end My

namespace My
open PySem PySem.Spec PyProof.Rows L2 GD GDX

theorem comp_flt {A : Type} {vs : List Nat} {tg : D → En → Option En} {ft : EvT} {fe : EvE} {env : En} (f F : A → D) (t : A → Bool) : ∀ (l : List A) (acc : List D), acc.length + l.length ≤ 1000000 →
    (∀ a ∈ l, ∀ ds acc, acc.length ≤ 1000000 → cpG vs tg ft fe ds acc (tg (f a) env) = compE vs tg ft fe ds (if t a = true then acc ++ [F a] else acc) env) → compE vs tg ft fe (l.map f) acc env = some (acc ++ (l.filter t).map F, env)
  | [], acc, _, _ => by simp [compE]
  | a :: l, acc, hl, h => by
    simp only [List.length_cons] at hl
    rw [List.map_cons, q_cpc, h a (List.mem_cons_self ..) _ _ (by omega)]
    by_cases c : t a = true
    · rw [if_pos c, comp_flt f F t l (acc ++ [F a]) (by rw [List.length_append, List.length_singleton]; omega) fun b hb => h b (List.mem_cons_of_mem _ hb), List.filter_cons_of_pos c]
      simp
    · rw [if_neg c, comp_flt f F t l acc (by omega) fun b hb => h b (List.mem_cons_of_mem _ hb), List.filter_cons_of_neg c]
theorem cut_drop (ds : List D) (m : Nat) (h : m ≤ ds.length) : GD.cutD ds (some (m : Int)) none = ds.drop m := by
  unfold GD.cutD
  rw [HT.sIx_nat, HT.sIx_none]
  rw [Nat.min_eq_left h]
  exact List.take_of_length_le (by rw [List.length_drop]; omega)
theorem cut_tail (d : D) (r : List D) : GD.cutD (d :: r) (some 1) none = r := cut_drop (d :: r) 1 (by simp)
def isNum : D → Bool
  | .int i => decide (0 ≤ i) && decide (i ≤ 999)
  | _ => false
def isOp : D → Bool
  | .tuple (.str w :: r) => decide (((r.length + 1 : Nat) : Int) = (look tb_LENGTHS w).getD 0) && r.all isNum
  | _ => false
theorem integer_ok (d : D) (hx : isExc d = false) : m_is_integer [.shr d] = some (.val (.bool (match d with | .int _ => true | _ => false)), [none]) := by
  have e0 : env0 1 [.shr d] = [some (.shr d)] := rfl
  cases d with
  | int i =>
    have k1 : kIs_int (.int i) = some true := rfl
    have k2 : kIs_bool (.int i) = some false := rfl
    unfold m_is_integer b_is_integer
    rw [q_run, e0]
    walk_at "gd"
  | bool b =>
    have k1 : kIs_int (.bool b) = some true := rfl
    have k2 : kIs_bool (.bool b) = some true := rfl
    unfold m_is_integer b_is_integer
    rw [q_run, e0]
    walk_at "gd"
  | none =>
    have k1 : kIs_int .none = some false := rfl
    unfold m_is_integer b_is_integer
    rw [q_run, e0]
    walk_at "gd"
  | str y =>
    have k1 : kIs_int (.str y) = some false := rfl
    unfold m_is_integer b_is_integer
    rw [q_run, e0]
    walk_at "gd"
  | list y =>
    have k1 : kIs_int (.list y) = some false := rfl
    unfold m_is_integer b_is_integer
    rw [q_run, e0]
    walk_at "gd"
  | tuple y =>
    have k1 : kIs_int (.tuple y) = some false := rfl
    unfold m_is_integer b_is_integer
    rw [q_run, e0]
    walk_at "gd"
  | dict y =>
    have k1 : kIs_int (.dict y) = some false := by
      show exN y false = _
      unfold exN
      rw [hx]; rfl
    unfold m_is_integer b_is_integer
    rw [q_run, e0]
    walk_at "gd"
theorem between_ok (d : D) (hx : isExc d = false) : m_is_between [.shr d, .shr (.int 0), .shr (.int 999)] = some (.val (.bool (isNum d)), [none, none, none]) := by
  have e0 : env0 3 [.shr d, .shr (.int 0), .shr (.int 999)] = [some (.shr d), some (.shr (.int 0)), some (.shr (.int 999))] := rfl
  have h := integer_ok d hx
  cases d with
  | int i =>
    simp only [isNum] at *
    by_cases a : 0 ≤ i
    · have t1 : decide (0 ≤ i) = true := decide_eq_true a
      rw [t1, Bool.true_and]
      clear a
      unfold m_is_between b_is_between
      rw [q_run, e0]
      walk_at "gd"
    · have t1 : decide (0 ≤ i) = false := decide_eq_false a
      rw [t1, Bool.false_and]
      clear a
      unfold m_is_between b_is_between
      rw [q_run, e0]
      walk_at "gd"
  | _ =>
    simp only [isNum] at *
    unfold m_is_between b_is_between
    rw [q_run, e0]
    walk_at "gd"
theorem op_not (d : D) (k1 : kIs_tuple d = some false) : m_is_operation [.shr d] = some (.val (.bool false), [none]) := by
  have e0 : env0 2 [.shr d] = [some (.shr d), none] := rfl
  unfold m_is_operation b_is_operation
  rw [q_run, e0]
  walk_at "gd"
theorem op_hd (x : D) (r : List D) (k2 : kIs_str x = some false) : m_is_operation [.shr (.tuple (x :: r))] = some (.val (.bool false), [none]) := by
  have e0 : env0 2 [.shr (.tuple (x :: r))] = [some (.shr (.tuple (x :: r))), none] := rfl
  have k1 : kIs_tuple (.tuple (x :: r)) = some true := rfl
  have a0 := at0x x r
  have he : (x :: r).isEmpty = false := rfl
  unfold m_is_operation b_is_operation
  rw [q_run, e0]
  walk_at "gd"
theorem op_str (w : Str) (r : List D) (hr : r.length ≤ 1000) (hx : ∀ d ∈ r, isExc d = false) : m_is_operation [.shr (.tuple (.str w :: r))] = some (.val (.bool (isOp (.tuple (.str w :: r)))), [none]) := by
  have e0 : env0 2 [.shr (.tuple (.str w :: r))] = [some (.shr (.tuple (.str w :: r))), none] := rfl
  have k1 : kIs_tuple (.tuple (.str w :: r)) = some true := rfl
  have k2 : kIs_str (.str w) = some true := rfl
  have a0 := at0x (.str w) r
  have he : (PyData.str w :: r).isEmpty = false := rfl
  have hcut := cut_tail (.str w) r
  have hall := all_map isNum r
  have hc := comp_all (vs := [1]) (tg := gN 1) (ft := tYesE) (fe := eX (xCall m_is_between (aCons (eGive 1) (aCons (eC (.int 0)) (aCons (eC (.int 999)) aNil))))) (env := [some (.shr (.tuple (.str w :: r))), none]) (fun d => d) (fun d => .bool (isNum d)) r [] (by simp; omega) fun d hd ds acc hacc => by
    have hb := between_ok d (hx d hd)
    clear hd
    walk_at "gd"
  rw [List.map_id', List.nil_append] at hc
  have hrl : (r.map fun d => PyData.bool (isNum d)).length ≤ 1000000 := by rw [List.length_map]; omega
  simp only [isOp]
  cases ht : decide (((r.length + 1 : Nat) : Int) = (look tb_LENGTHS w).getD 0) with
  | true =>
    rw [Bool.true_and]
    unfold m_is_operation b_is_operation
    rw [q_run, e0]
    walk_at "gd"
  | false =>
    rw [Bool.false_and]
    unfold m_is_operation b_is_operation
    rw [q_run, e0]
    walk_at "gd"

end My

namespace My
open PySem PySem.Spec PyProof.Rows L2 GD GDX


def keep (es : List (Option Str)) : Nat → Nat
  | 0 => 0
  | n + 1 => if (es.getD n none).isNone = true then keep es n else n + 1
theorem keep_le (es : List (Option Str)) : ∀ n, keep es n ≤ n
  | 0 => Nat.le_refl _
  | n + 1 => by unfold keep; have := keep_le es n; split <;> omega
def trimE (es : List (Option Str)) : List (Option Str) := es.take (keep es es.length)
theorem trimE_len (es : List (Option Str)) : (trimE es).length ≤ es.length := by unfold trimE; rw [List.length_take]; omega
theorem trimE_mem (es : List (Option Str)) {e : Option Str} (h : e ∈ trimE es) : e ∈ es := List.mem_of_mem_take h
def putE (es : List (Option Str)) (n s : Nat) (e : Option Str) : List (Option Str) := (es ++ List.replicate n none).set s e
theorem putE_len (es : List (Option Str)) (n s : Nat) (e : Option Str) : (putE es n s e).length = es.length + n := by unfold putE; rw [List.length_set, List.length_append, List.length_replicate]
theorem putE_mem (es : List (Option Str)) (n s : Nat) (e : Option Str) {x : Option Str} (h : x ∈ putE es n s e) : x ∈ es ∨ x = none ∨ x = e := by
  unfold putE at h
  rcases List.mem_or_eq_of_mem_set h with q | q
  · rcases List.mem_append.mp q with q | q
    · exact .inl q
    · exact .inr (.inl (List.eq_of_mem_replicate q))
  · exact .inr (.inr q)
theorem keep_loop (B : EvS) (es : List (Option Str)) (hB : ∀ n : Int, B [some (.own true (.l (es.map eD))), some (.shr (.int n))] = some (.nx, [some (.own true (.l (es.map eD))), some (.shr (.int (n - 1)))])) :
    ∀ (n : Nat), n ≤ es.length → ∀ f, n < f →
    whE (tfAnd (tVal (eOp dGt (eVar 1) (eC (.int 0)))) (tVal (eIsN (eOp dIx (eVar 0) (eOp dSub (eVar 1) (eC (.int 1))))))) B f [some (.own true (.l (es.map eD))), some (.shr (.int n))]
      = some (.nx, [some (.own true (.l (es.map eD))), some (.shr (.int (keep es n : Nat)))])
  | 0, hn, f, hf => by
    obtain ⟨f, rfl⟩ : ∃ n, f = n + 1 := ⟨f - 1, by omega⟩
    unfold keep
    have t : decide ((0 : Int) < ((0 : Nat) : Int)) = false := by decide
    clear hn hf hB
    walk_at "gd"
  | n + 1, hn, f, hf => by
    obtain ⟨f, rfl⟩ : ∃ n, f = n + 1 := ⟨f - 1, by omega⟩
    have t : decide ((0 : Int) < ((n + 1 : Nat) : Int)) = true := decide_eq_true (by omega)
    obtain ⟨e, he, hat⟩ := ent_at es (((n + 1 : Nat) : Int) - 1) (by omega) (by omega)
    rw [show (((n + 1 : Nat) : Int) - 1).toNat = n by omega] at he
    have hgd : es.getD n none = e := by rw [List.getD_eq_getElem?_getD, he]; rfl
    unfold keep
    rw [hgd]
    cases e with
    | none =>
      have ih := keep_loop B es hB n (by omega) f (by omega)
      rw [show (if (none : Option Str).isNone = true then keep es n else n + 1) = keep es n from rfl, ← ih]
      have ec : ((n + 1 : Nat) : Int) - 1 = ((n : Nat) : Int) := by omega
      have hb := hB ((n + 1 : Nat) : Int)
      rw [ec] at hb hat
      have es1 : dSub (.int ((n + 1 : Nat) : Int)) (.int 1) = some (.int ((n : Nat) : Int)) := by rw [c_sub, ec]
      clear ih hn hf ec hB hgd he
      simp only [eD] at *
      walk_at "gd"
    | some w =>
      rw [show (if (some w : Option Str).isNone = true then keep es n else n + 1) = n + 1 from rfl]
      have ec : ((n + 1 : Nat) : Int) - 1 = ((n : Nat) : Int) := by omega
      rw [ec] at hat
      have es1 : dSub (.int ((n + 1 : Nat) : Int)) (.int 1) = some (.int ((n : Nat) : Int)) := by rw [c_sub, ec]
      clear hn hf hB hgd he ec
      simp only [eD] at *
      walk_at "gd"
theorem trim_ok (es : List (Option Str)) (hl : es.length ≤ 6000) : m_trimmed [.own true (.l (es.map eD))] = some (.val (T (trimE es)), [some (.l (es.map eD))]) := by
  have e0 : env0 2 [.own true (.l (es.map eD))] = [some (.own true (.l (es.map eD))), none] := rfl
  have hB : ∀ n : Int, (sAug dSub 1 (eC (.int 1))) [some (.own true (.l (es.map eD))), some (.shr (.int n))] = some (.nx, [some (.own true (.l (es.map eD))), some (.shr (.int (n - 1)))]) := fun n => by walk_at "gd"
  have ih := keep_loop _ es hB es.length (Nat.le_refl _) fuel (by unfold fuel; omega)
  have hk := keep_le es es.length
  have hc := cut_take (es.map eD) (keep es es.length) (by rw [List.length_map]; omega)
  have hl2 : ((es.map eD).length : Int) = (es.length : Int) := by rw [List.length_map]
  rw [← hl2] at ih
  have hT : T (trimE es) = .tuple ((es.map eD).take (keep es es.length)) := by unfold T trimE; rw [List.map_take]
  rw [hT]
  clear hl2 hB hk hT
  unfold m_trimmed b_trimmed
  rw [q_run, e0]
  walk_at "gd"
theorem rep_none (n : Nat) : repD n [.none] = (List.replicate n (none : Option Str)).map eD := by
  unfold repD
  induction n with
  | zero => rfl
  | succ n ih => rw [List.replicate_succ, List.flatten_cons, ih, List.replicate_succ, List.map_cons]; rfl
theorem set_map (es : List (Option Str)) (n s : Nat) (e : Option Str) : ((es.map eD) ++ repD n [.none]).set s (eD e) = (putE es n s e).map eD := by
  unfold putE
  rw [rep_none, ← List.map_append, List.map_set]
theorem rep_len1n (n : Nat) : (repD n [PyData.none]).length = n := by rw [rep_none, List.length_map, List.length_replicate]
theorem with_ok (es : List (Option Str)) (s : Nat) (e : Option Str) (hl : es.length ≤ 2900) (hs : s ≤ 2900) :
    m_with_entry [.shr (T es), .shr (.int (s : Int)), .shr (eD e)] = some (.val (T (trimE (putE es (s + 1 - es.length) s e))), [none, none, none]) := by
  have e0 : env0 4 [.shr (T es), .shr (.int (s : Int)), .shr (eD e)] = [some (.shr (.tuple (es.map eD))), some (.shr (.int (s : Int))), some (.shr (eD e)), none] := rfl
  have hlm : ((es.map eD).length : Int) = (es.length : Int) := by rw [List.length_map]
  have hn : ((s : Int) + 1 - ((es.map eD).length : Int)).toNat = s + 1 - es.length := by rw [hlm]; omega
  have m1 : dMulX (.list [.none]) (.int ((s : Int) + 1 - ((es.map eD).length : Int))) = some (.inr (.l (repD (s + 1 - es.length) [.none]))) := by
    rw [c_mulX (by omega) (by omega) (by rw [hn]; show 1 * _ ≤ _; omega), hn]
  have hrl := rep_len1n (s + 1 - es.length)
  have a1 := c_addL (ds := es.map eD) (es := repD (s + 1 - es.length) [.none]) (by rw [List.length_map, hrl]; omega)
  have p1 : gSetL (.l (es.map eD ++ repD (s + 1 - es.length) [.none])) (.int (s : Int)) (eD e) = some (.l ((putE es (s + 1 - es.length) s e).map eD)) := by
    rw [c_set (by omega) (by rw [List.length_append, List.length_map, hrl]; omega), show ((s : Int)).toNat = s by omega, set_map]
  have t1 := trim_ok (putE es (s + 1 - es.length) s e) (by rw [putE_len]; omega)
  clear hl hs hn hrl hlm
  unfold m_with_entry b_with_entry
  rw [q_run, e0]
  walk_at "gd"

end My

namespace My
open PySem PySem.Spec PyProof.Rows L2 GD GDX


theorem obj_at (es : List (Option Str)) (a : Nat) (w : Str) (h : es[a]? = some (some w)) : m_object_at [.shr (T es), .shr (.int (a : Int))] = some (.val (.str w), [none, none]) := by
  have hlt : a < es.length := by
    rcases Nat.lt_or_ge a es.length with q | q
    · exact q
    · rw [List.getElem?_eq_none q] at h; cases h
  have e0 : env0 2 [.shr (T es), .shr (.int (a : Int))] = [some (.shr (.tuple (es.map eD))), some (.shr (.int (a : Int)))] := rfl
  have t : decide ((a : Int) < ((es.map eD).length : Int)) = true := decide_eq_true (by rw [List.length_map]; omega)
  obtain ⟨e, he, hat⟩ := ent_at es (a : Int) (by omega) (by omega)
  rw [show ((a : Int)).toNat = a by omega, h] at he
  cases he
  simp only [eD] at hat
  clear h hlt
  unfold m_object_at b_object_at
  rw [q_run, e0]
  walk_at "gd"
theorem int_true (c : Int) : m_is_integer [.shr (.int c)] = some (.val (.bool true), [none]) := integer_ok (.int c) rfl
theorem btw_ok (c : Int) (h1 : 1 ≤ c) (h2 : c ≤ 100) : m_is_between [.shr (.int c), .shr (.int 1), .shr (.int 100)] = some (.val (.bool true), [none, none, none]) := by
  have e0 : env0 3 [.shr (.int c), .shr (.int 1), .shr (.int 100)] = [some (.shr (.int c)), some (.shr (.int 1)), some (.shr (.int 100))] := rfl
  have t := int_true c
  have d1 : decide (1 ≤ c) = true := decide_eq_true h1
  have d2 : decide (c ≤ 100) = true := decide_eq_true h2
  clear h1 h2
  unfold m_is_between b_is_between
  rw [q_run, e0]
  walk_at "gd"
end My

namespace My
open PySem PySem.Spec PyProof.Rows L2 GD GDX


theorem look_dup : look tb_LENGTHS ("dup" : Str) = some 2 := by decide +kernel
theorem look_from : look tb_LENGTHS ("dup_from" : Str) = some 3 := by decide +kernel
theorem look_dup2 : look tb_LENGTHS ("dup2" : Str) = some 3 := by decide +kernel
theorem look_close : look tb_LENGTHS ("close" : Str) = some 2 := by decide +kernel
theorem num_ok (a : Nat) (h : a ≤ 999) : isNum (.int (a : Int)) = true := by
  show (decide (0 ≤ (a : Int)) && decide ((a : Int) ≤ 999)) = true
  rw [decide_eq_true (show (0 : Int) ≤ (a : Int) by omega), decide_eq_true (show (a : Int) ≤ 999 by omega)]; rfl
theorem is2 (w : Str) (h : look tb_LENGTHS w = some 2) (a : Nat) (ha : a ≤ 999) : m_is_operation [.shr (.tuple [.str w, .int (a : Int)])] = some (.val (.bool true), [none]) := by
  have := op_str w [.int (a : Int)] (Nat.le_of_ble_eq_true rfl) (fun d hd => by cases List.mem_singleton.mp hd; rfl)
  rw [this]
  have e : isOp (.tuple [.str w, .int (a : Int)]) = true := by
    show (decide ((((1 : Nat) + 1 : Nat) : Int) = (look tb_LENGTHS w).getD 0) && [PyData.int (a : Int)].all isNum) = true
    rw [h, List.all_cons, num_ok a ha]; rfl
  rw [e]
theorem is3 (w : Str) (h : look tb_LENGTHS w = some 3) (a s : Nat) (ha : a ≤ 999) (hs : s ≤ 999) : m_is_operation [.shr (.tuple [.str w, .int (a : Int), .int (s : Int)])] = some (.val (.bool true), [none]) := by
  have := op_str w [.int (a : Int), .int (s : Int)] (Nat.le_of_ble_eq_true rfl) (fun d hd => by
    rcases List.mem_cons.mp hd with rfl | hd
    · rfl
    · cases List.mem_singleton.mp hd; rfl)
  rw [this]
  have e : isOp (.tuple [.str w, .int (a : Int), .int (s : Int)]) = true := by
    show (decide ((((2 : Nat) + 1 : Nat) : Int) = (look tb_LENGTHS w).getD 0) && [PyData.int (a : Int), .int (s : Int)].all isNum) = true
    rw [h, List.all_cons, List.all_cons, num_ok a ha, num_ok s hs]; rfl
  rw [e]
end My

namespace My
open PySem PySem.Spec PyProof.Rows L2 GD GDX

inductive Op where
  | dup (a : Nat)
  | frm (a b : Nat)
  | onto (a b : Nat)
  | cls (a : Nat)
  deriving DecidableEq
def Op.src : Op → Nat
  | .dup a => a
  | .frm a _ => a
  | .onto a _ => a
  | .cls a => a
def Op.sec : Op → Nat
  | .dup _ => 0
  | .frm _ b => b
  | .onto _ b => b
  | .cls _ => 0
def opD : Op → D
  | .dup a => .tuple [.str ("dup" : Str), .int (a : Int)]
  | .frm a b => .tuple [.str ("dup_from" : Str), .int (a : Int), .int (b : Int)]
  | .onto a b => .tuple [.str ("dup2" : Str), .int (a : Int), .int (b : Int)]
  | .cls a => .tuple [.str ("close" : Str), .int (a : Int)]
def ent (es : List (Option Str)) (i : Nat) : Option Str := es.getD i none
def put (es : List (Option Str)) (p : Nat) (e : Option Str) : List (Option Str) := trimE (putE es (p + 1 - es.length) p e)
def ffn (es : List (Option Str)) (b : Nat) : Nat := ff es (es.length - b) b
def landN (es : List (Option Str)) : Op → Option Nat
  | .dup _ => some (ffn es 0)
  | .frm _ b => some (ffn es b)
  | .onto _ b => some b
  | .cls _ => none
def over : Option Nat → Nat → Bool
  | none, _ => false
  | some c, p => decide (c ≤ p)
inductive Res where
  | ok (t : List (Option Str))
  | free
  | full
def step (cap : Option Nat) (es : List (Option Str)) (o : Op) : Res := match ent es o.src with
  | none => .free
  | some w => match landN es o with
    | none => .ok (put es o.src none)
    | some p => if over cap p = true then .full else .ok (put es p (some w))
def capD : Option Nat → D
  | none => .none
  | some c => .int (c : Int)
def fin (cap : Option Nat) : List (Option Str) → List Op → D
  | _, [] => .none
  | es, o :: r => match step cap es o with
    | .ok t => fin cap t r
    | .free => excD ("FreeSlot" : Str) ("slot" : Str) (.int (o.src : Int))
    | .full => excD ("TableFull" : Str) ("limit" : Str) (capD cap)
def resX (cap : Option Nat) (o : Op) : Res → RX
  | .ok t => .ret (T t)
  | .free => .rs ("FreeSlot" : Str) ("slot" : Str) (.int (o.src : Int))
  | .full => .rs ("TableFull" : Str) ("limit" : Str) (capD cap)
theorem put_len (es : List (Option Str)) (p : Nat) (e : Option Str) : (put es p e).length ≤ max es.length (p + 1) := by
  unfold put
  have := trimE_len (putE es (p + 1 - es.length) p e)
  rw [putE_len] at this
  omega
theorem ffn_le (es : List (Option Str)) (b : Nat) : b ≤ ffn es b ∧ ffn es b ≤ max es.length b := by
  have := ff_le es (es.length - b) b
  unfold ffn
  omega
theorem ff_free (es : List (Option Str)) : ∀ n s, es.length ≤ s + n → free es (ff es n s) = true
  | 0, s, h => free_out es s (by omega)
  | n + 1, s, h => by
    unfold ff
    split
    · assumption
    · exact ff_free es n (s + 1) (by omega)
theorem free_ent {es : List (Option Str)} {s : Nat} (h : free es s = true) : ent es s = none := by
  unfold free at h
  unfold ent
  rw [List.getD_eq_getElem?_getD]
  split at h
  · cases h
  · rename_i hn
    cases e : es[s]? with
    | none => rfl
    | some x =>
      cases x with
      | none => rfl
      | some w => exact absurd e (hn w)
theorem ffn_free (es : List (Option Str)) (b : Nat) : ent es (ffn es b) = none := free_ent (ff_free es _ _ (by omega))
theorem ent_some {es : List (Option Str)} {i : Nat} {w : Str} (h : ent es i = some w) : es[i]? = some (some w) ∧ i < es.length := by
  unfold ent at h
  rw [List.getD_eq_getElem?_getD] at h
  cases e : es[i]? with
  | none => rw [e] at h; cases h
  | some x =>
    rw [e] at h
    have h' : x = some w := h
    subst h'
    exact ⟨rfl, (List.getElem?_eq_some_iff.mp e).1⟩
theorem ent_good {es : List (Option Str)} (hg : ∀ e ∈ es, GoodE e) (i : Nat) : GoodE (ent es i) := fun w h => hg _ (List.mem_of_getElem? (ent_some h).1) w rfl
theorem put_good {es : List (Option Str)} (hg : ∀ e ∈ es, GoodE e) (p : Nat) {e : Option Str} (he : GoodE e) : ∀ x ∈ put es p e, GoodE x := fun x hx => by
  rcases putE_mem _ _ _ _ (trimE_mem _ hx) with h | h | h
  · exact hg x h
  · subst h; exact fun w h => by cases h
  · subst h; exact he
structure Okt (cap : Option Nat) (n : Nat) (es : List (Option Str)) : Prop where
  len : es.length ≤ n
  good : ∀ e ∈ es, GoodE e
  cap : ∀ c, cap = some c → 1 ≤ c ∧ c ≤ 100 ∧ es.length ≤ c
def Bdo (o : Op) : Prop := o.src ≤ 999 ∧ o.sec ≤ 999
theorem Okt.step {cap : Option Nat} {n : Nat} {es t : List (Option Str)} {o : Op} (h : Okt cap n es) (hb : Bdo o) (hn : 999 ≤ n) (e : step cap es o = .ok t) : Okt cap (n + 1) t := by
  unfold My.step at e
  cases hw : ent es o.src with
  | none => rw [hw] at e; cases e
  | some w =>
    rw [hw] at e
    have hs := (ent_some hw).2
    have hl := h.len
    have hgw : GoodE (some w) := hw ▸ ent_good h.good o.src
    cases hp : landN es o with
    | none =>
      rw [hp] at e
      cases e
      have h1 := put_len es o.src none
      exact ⟨by omega, put_good h.good _ (fun w h => by cases h), fun c hc => by have := h.cap c hc; omega⟩
    | some p =>
      rw [hp] at e
      dsimp only at e
      split at e
      · cases e
      · rename_i ho
        cases e
        have h1 := put_len es p (some w)
        have hpn : p ≤ n := by
          have hb2 := hb.2
          cases o with
          | dup a => have := ffn_le es 0; cases hp; omega
          | frm a b => have := ffn_le es b; have hb' : b ≤ 999 := hb2; cases hp; omega
          | onto a b => have hb' : b ≤ 999 := hb2; cases hp; omega
          | cls a => cases hp
        refine ⟨by omega, put_good h.good _ hgw, fun c hc => ?_⟩
        subst hc
        have := h.cap c rfl
        have hpc : p < c := by
          have : ¬ c ≤ p := fun q => ho (decide_eq_true q)
          omega
        omega

end My

namespace My
open PySem PySem.Spec PyProof.Rows L2 GD GDX

theorem opn (o : Op) (hb : Bdo o) : m_is_operation [.shr (opD o)] = some (.val (.bool true), [none]) := by
  obtain ⟨h1, h2⟩ := hb
  cases o with
  | dup a => exact is2 _ look_dup a h1
  | frm a b => exact is3 _ look_from a b h1 (Nat.le_trans h2 (by omega))
  | onto a b => exact is3 _ look_dup2 a b h1 (Nat.le_trans h2 (by omega))
  | cls a => exact is2 _ look_close a h1
theorem obj_ent (es : List (Option Str)) (i : Nat) : m_object_at [.shr (T es), .shr (.int (i : Int))] = some (.val (eD (ent es i)), [none, none]) := by
  obtain ⟨d, h, h1, h2⟩ := object_ok es i
  cases e : ent es i with
  | some w =>
    exact obj_at es i w (ent_some e).1
  | none =>
    have hf : free es i = true := by
      unfold free
      split
      · rename_i w hw
        unfold ent at e
        rw [List.getD_eq_getElem?_getD, hw] at e
        cases e
      · rfl
    rw [h1 hf] at h
    exact h
def nD : Option Nat → D
  | none => .none
  | some p => .int (p : Int)
theorem land_ok (es : List (Option Str)) (o : Op) (hl : es.length ≤ 2900) (hb : Bdo o) : m_landing [.shr (T es), .shr (opD o)] = some (.val (nD (landN es o)), [none, none]) := by
  obtain ⟨h1, h2⟩ := hb
  cases o with
  | dup a => exact (land_all es _ 0 hl (by omega)).1
  | frm a b =>
    have hb : b ≤ 999 := h2
    exact (land_all es _ b hl (by omega)).2.2.1
  | onto a b =>
    have hb : b ≤ 999 := h2
    exact (land_all es _ b hl (by omega)).2.2.2
  | cls a => exact (land_all es _ 0 hl (by omega)).2.1
theorem op_src (o : Op) : dIx (opD o) (.int 1) = some (.int (o.src : Int)) := by cases o <;> rfl
theorem landN_le (es : List (Option Str)) (o : Op) (hb : Bdo o) (p : Nat) (h : landN es o = some p) : p ≤ max es.length 999 := by
  obtain ⟨h1, h2⟩ := hb
  cases o with
  | dup a => have := ffn_le es 0; cases h; omega
  | frm a b => have := ffn_le es b; have hb' : b ≤ 999 := h2; cases h; omega
  | onto a b => have hb' : b ≤ 999 := h2; cases h; omega
  | cls a => cases h

abbrev badL (c : D) : RX := .rs ("InvalidLimit" : Str) ("limit" : Str) c
theorem chk_none (ts : D) : m_check_limit [.none, ts] = some (.ret .none) := by
  have e0 : env0 3 ([.none, ts].map Sl.shr) = [some (.shr .none), some (.shr ts), none] := rfl
  unfold m_check_limit b_check_limit
  rw [q_runY, e0]
  walk_at "gd"
def ANYL : EvE := (eCa cAny (aCons (eX (xM (eComp [2] (wAny (eGive 1)) (gN 2) tYesE (eOp dGt (eCa cLen (aCons (eVar 2) aNil)) (eVar 0))))) aNil))
theorem anyl_eq : (eCa cAny (aCons (eX (xM (eComp [2] (wAny (eGive 1)) (gN 2) tYesE (eOp dGt (eCa cLen (aCons (eVar 2) aNil)) (eVar 0))))) aNil)) = ANYL := rfl
theorem anyl_ok (c : Int) (ds : List D) : ANYL [some (.shr (.int c)), some (.shr (.list [.tuple ds])), none]
    = some (.val (.bool (decide (c < (ds.length : Int)))), [some (.shr (.int c)), some (.shr (.list [.tuple ds])), none]) := by
  have z : ([] : List D).length ≤ 1000000 := Nat.zero_le _
  have q : ∀ b1 : Bool, cAny [.list [.bool b1]] = some (.bool b1) := fun b1 => by cases b1 <;> rfl
  unfold ANYL
  walk_at "gd"
theorem chk_some (ds : List D) (c : Int) (h1 : 1 ≤ c) (h2 : c ≤ 100) : m_check_limit [.int c, .list [.tuple ds]] = some (if c < (ds.length : Int) then badL (.int c) else .ret .none) := by
  have e0 : env0 3 ([.int c, .list [.tuple ds]].map Sl.shr) = [some (.shr (.int c)), some (.shr (.list [.tuple ds])), none] := rfl
  have t := btw_ok c h1 h2
  have a := anyl_ok c ds
  have hn : isN (.int c) = false := rfl
  clear h1 h2
  unfold m_check_limit b_check_limit
  rw [anyl_eq, q_runY, e0]
  by_cases h : c < (ds.length : Int)
  · rw [decide_eq_true h] at a
    rw [if_pos h]
    clear h
    generalize PyData.list [.tuple ds] = L at *
    generalize ANYL = AN at *
    walk_at "gd"
  · rw [decide_eq_false h] at a
    rw [if_neg h]
    clear h
    generalize PyData.list [.tuple ds] = L at *
    generalize ANYL = AN at *
    walk_at "gd"
theorem chk_bad (c ts : D) (hn : isN c = false) (h : m_is_between [.shr c, .shr (.int 1), .shr (.int 100)] = some (.val (.bool false), [none, none, none])) : m_check_limit [c, ts] = some (badL c) := by
  have e0 : env0 3 ([c, ts].map Sl.shr) = [some (.shr c), some (.shr ts), none] := rfl
  unfold m_check_limit b_check_limit
  rw [q_runY, e0]
  walk_at "gd"
theorem chk_ok {cap : Option Nat} {n : Nat} {es : List (Option Str)} (h : Okt cap n es) : m_check_limit [capD cap, .list [T es]] = some (.ret .none) := by
  cases cap with
  | none => exact chk_none _
  | some c =>
    have := h.cap c rfl
    have e := chk_some (es.map eD) (c : Int) (by omega) (by omega)
    rw [if_neg (by rw [List.length_map]; omega)] at e
    exact e
theorem apply_ok (cap : Option Nat) (es : List (Option Str)) (o : Op) (h : Okt cap 2300 es) (hb : Bdo o) : m_apply [T es, opD o, capD cap] = some (resX cap o (step cap es o)) := by
  have f1 := opn o hb
  have f2 := chk_ok h
  have f3 := obj_ent es o.src
  have hl := h.len
  have f4 := land_ok es o (by omega) hb
  have f5 := op_src o
  have e0 : env0 5 ([T es, opD o, capD cap].map Sl.shr) = [some (.shr (T es)), some (.shr (opD o)), some (.shr (capD cap)), none, none] := rfl
  unfold m_apply b_apply
  rw [q_runY, e0]
  unfold step
  have hsrc := hb.1
  cases hw : ent es o.src with
  | none =>
    rw [hw] at f3
    simp only [eD, resX] at f3 ⊢
    clear f4 hl h hb hw hsrc
    generalize opD o = dop at *
    generalize T es = ts at *
    generalize capD cap = cd at *
    walk_at "gd"
  | some w =>
    rw [hw] at f3
    have hs := (ent_some hw).2
    have f6 := with_ok es o.src none (by omega) (by omega)
    have hp := landN_le es o hb
    simp only [eD] at f3 f6
    cases hq : landN es o with
    | none =>
      rw [hq] at f4
      simp only [nD] at f4
      show _ = some (resX cap o (.ok (put es o.src none)))
      simp only [resX]
      unfold put
      generalize trimE (putE es (o.src + 1 - es.length) o.src none) = R at *
      clear hl h hb hw hsrc hs hp hq
      generalize opD o = dop at *
      generalize T es = ts at *
      generalize T R = tr at *
      generalize capD cap = cd at *
      walk_at "gd"
    | some p =>
      rw [hq] at f4
      simp only [nD] at f4
      have hple := hp p hq
      have f7 := with_ok es p (some w) (by omega) (by omega)
      simp only [eD] at f7
      show _ = some (resX cap o (if over cap p = true then .full else .ok (put es p (some w))))
      unfold put
      generalize trimE (putE es (p + 1 - es.length) p (some w)) = R at *
      cases cap with
      | none =>
        rw [if_neg (by unfold over; exact Bool.false_ne_true)]
        simp only [resX, capD] at f2 ⊢
        clear hl h hb hw hsrc hs hp hq hple f6
        generalize opD o = dop at *
        generalize T es = ts at *
        generalize T R = tr at *
        walk_at "gd"
      | some c =>
        by_cases hc : c ≤ p
        · rw [if_pos (show over (some c) p = true from decide_eq_true hc)]
          have t : decide ((p : Int) ≥ (c : Int)) = true := decide_eq_true (by omega)
          simp only [resX, capD] at f2 ⊢
          clear hl h hb hw hsrc hs hp hq hple f6 f7 hc
          generalize opD o = dop at *
          generalize T es = ts at *
          walk_at "gd"
        · rw [if_neg (show ¬ over (some c) p = true from fun q => hc (of_decide_eq_true q))]
          have t : decide ((p : Int) ≥ (c : Int)) = false := decide_eq_false (by omega)
          simp only [resX, capD] at f2 ⊢
          clear hl h hb hw hsrc hs hp hq hple f6 hc
          generalize opD o = dop at *
          generalize T es = ts at *
          generalize T R = tr at *
          walk_at "gd"

end My

namespace My
open PySem PySem.Spec PyProof.Rows L2 GD GDX
structure Vd (d : D) : Prop where
  hx : isExc d = false
  ht : ∀ r, d = .tuple r → r.length ≤ 900 ∧ ∀ e ∈ r, isExc e = false
  hs : ∀ w r, d = .tuple (.str w :: r) → ∀ n : Nat, n ≤ 999 → SeqAt.shaped (.tuple [.str w, .int (n : Int)]) = true
theorem kt_dict {y : List (D × D)} (hx : isExc (.dict y) = false) : kIs_tuple (.dict y) = some false := by
  show exN y false = _
  unfold exN
  rw [hx]; rfl
theorem ks_dict {y : List (D × D)} (hx : isExc (.dict y) = false) : kIs_str (.dict y) = some false := by
  show exN y false = _
  unfold exN
  rw [hx]; rfl
theorem op_nil : m_is_operation [.shr (.tuple [])] = some (.val (.bool false), [none]) := by
  have e0 : env0 2 [.shr (.tuple [])] = [some (.shr (.tuple [])), none] := rfl
  have k1 : kIs_tuple (.tuple []) = some true := rfl
  unfold m_is_operation b_is_operation
  rw [q_run, e0]
  walk_at "gd"
theorem op_all (d : D) (h : Vd d) : m_is_operation [.shr d] = some (.val (.bool (isOp d)), [none]) := by
  cases d with
  | tuple ds =>
    obtain ⟨hl, hx⟩ := h.ht ds rfl
    cases ds with
    | nil => exact op_nil
    | cons x r =>
      simp only [List.length_cons] at hl
      have hx0 := hx x (List.mem_cons_self ..)
      cases x with
      | str w => exact op_str w r (by omega) fun d hd => hx d (List.mem_cons_of_mem _ hd)
      | dict y => exact op_hd _ r (ks_dict hx0)
      | _ => exact op_hd _ r rfl
  | dict y => exact op_not _ (kt_dict h.hx)
  | _ => exact op_not _ rfl
def inZ (a b : Int) : D → Bool
  | .int i => decide (a ≤ i) && decide (i ≤ b)
  | _ => false
theorem inZ_num (d : D) : inZ 0 999 d = isNum d := by cases d <;> rfl
theorem law_int_ok (d : D) (a b : Int) (hx : isExc d = false) : m__law_is_integer [.shr d, .shr (.int a), .shr (.int b)] = some (.val (.bool (inZ a b d)), [none, none, none]) := by
  have e0 : env0 3 [.shr d, .shr (.int a), .shr (.int b)] = [some (.shr d), some (.shr (.int a)), some (.shr (.int b))] := rfl
  cases d with
  | int i =>
    have k1 : kIs_int (.int i) = some true := rfl
    have k2 : kIs_bool (.int i) = some false := rfl
    simp only [inZ]
    by_cases h : a ≤ i
    · have t1 : decide (a ≤ i) = true := decide_eq_true h
      rw [t1, Bool.true_and]
      clear h
      unfold m__law_is_integer b__law_is_integer
      rw [q_run, e0]
      walk_at "gd"
    · have t1 : decide (a ≤ i) = false := decide_eq_false h
      rw [t1, Bool.false_and]
      clear h
      unfold m__law_is_integer b__law_is_integer
      rw [q_run, e0]
      walk_at "gd"
  | bool y =>
    have k1 : kIs_int (.bool y) = some true := rfl
    have k2 : kIs_bool (.bool y) = some true := rfl
    unfold m__law_is_integer b__law_is_integer
    rw [q_run, e0]
    walk_at "gd"
    rfl
  | none =>
    have k1 : kIs_int .none = some false := rfl
    unfold m__law_is_integer b__law_is_integer
    rw [q_run, e0]
    walk_at "gd"
    rfl
  | str y =>
    have k1 : kIs_int (.str y) = some false := rfl
    unfold m__law_is_integer b__law_is_integer
    rw [q_run, e0]
    walk_at "gd"
    rfl
  | list y =>
    have k1 : kIs_int (.list y) = some false := rfl
    unfold m__law_is_integer b__law_is_integer
    rw [q_run, e0]
    walk_at "gd"
    rfl
  | tuple y =>
    have k1 : kIs_int (.tuple y) = some false := rfl
    unfold m__law_is_integer b__law_is_integer
    rw [q_run, e0]
    walk_at "gd"
    rfl
  | dict y =>
    have k1 : kIs_int (.dict y) = some false := by
      show exN y false = _
      unfold exN
      rw [hx]; rfl
    unfold m__law_is_integer b__law_is_integer
    rw [q_run, e0]
    walk_at "gd"
    rfl
def FORMS : List D := [.tuple [.str ("dup" : Str), .int 2], .tuple [.str ("close" : Str), .int 2], .tuple [.str ("dup_from" : Str), .int 3], .tuple [.str ("dup2" : Str), .int 3]]
theorem lk_ok (w : Str) : (look tb_LENGTHS w).getD 0 = if w = ("dup" : Str) then 2 else if w = ("dup_from" : Str) then 3 else if w = ("dup2" : Str) then 3 else if w = ("close" : Str) then 2 else 0 := by
  have e : ∀ a : Str, (a = w) = (w = a) := fun a => propext eq_comm
  unfold tb_LENGTHS look look look look look
  simp only [e]
  split
  · rfl
  · split
    · rfl
    · split
      · rfl
      · split <;> rfl
theorem forms_ne : ("dup" : Str) ≠ ("dup_from" : Str) ∧ ("dup" : Str) ≠ ("dup2" : Str) ∧ ("dup" : Str) ≠ ("close" : Str) ∧ ("dup_from" : Str) ≠ ("dup2" : Str) ∧ ("dup_from" : Str) ≠ ("close" : Str) ∧ ("dup2" : Str) ≠ ("close" : Str) := by decide +kernel
theorem forms_ok (w : Str) (n : Nat) (hn : 1 ≤ n) : (FORMS.any fun z => PyData.eqv z (.tuple [.str w, .int (n : Int)])) = decide ((n : Int) = (look tb_LENGTHS w).getD 0) := by
  have ev : ∀ (a : Str) (k : Int), PyData.eqv (.tuple [.str a, .int k]) (.tuple [.str w, .int (n : Int)]) = (decide (a = w) && decide (k = (n : Int))) := fun a k => by
    simp only [PyData.eqv, PyData.eqvAll, Bool.and_true]
    rw [Bool.eq_iff_iff]
    simp
  rw [lk_ok]
  unfold FORMS
  simp only [List.any_cons, List.any_nil, ev, Bool.or_false]
  obtain ⟨a1, a2, a3, a4, a5, a6⟩ := forms_ne
  rw [Bool.eq_iff_iff]
  simp only [Bool.or_eq_true, Bool.and_eq_true, decide_eq_true_eq]
  by_cases h1 : w = ("dup" : Str)
  · subst h1
    rw [if_pos rfl]
    constructor
    · rintro (h | h | h | h)
      · exact h.2.symm
      · exact absurd h.1.symm a3
      · exact absurd h.1.symm a1
      · exact absurd h.1.symm a2
    · exact fun h => .inl ⟨rfl, h.symm⟩
  · rw [if_neg h1]
    by_cases h2 : w = ("dup_from" : Str)
    · subst h2
      rw [if_pos rfl]
      constructor
      · rintro (h | h | h | h)
        · exact absurd h.1 a1
        · exact absurd h.1.symm a5
        · exact h.2.symm
        · exact absurd h.1.symm a4
      · exact fun h => .inr (.inr (.inl ⟨rfl, h.symm⟩))
    · rw [if_neg h2]
      by_cases h3 : w = ("dup2" : Str)
      · subst h3
        rw [if_pos rfl]
        constructor
        · rintro (h | h | h | h)
          · exact absurd h.1 a2
          · exact absurd h.1.symm a6
          · exact absurd h.1 a4
          · exact h.2.symm
        · exact fun h => .inr (.inr (.inr ⟨rfl, h.symm⟩))
      · rw [if_neg h3]
        by_cases h4 : w = ("close" : Str)
        · subst h4
          rw [if_pos rfl]
          constructor
          · rintro (h | h | h | h)
            · exact absurd h.1 a3
            · exact h.2.symm
            · exact absurd h.1 a5
            · exact absurd h.1 a6
          · exact fun h => .inr (.inl ⟨rfl, h.symm⟩)
        · rw [if_neg h4]
          constructor
          · rintro (h | h | h | h)
            · exact absurd h.1.symm h1
            · exact absurd h.1.symm h4
            · exact absurd h.1.symm h2
            · exact absurd h.1.symm h3
          · exact fun h => by omega
theorem lop_not (d : D) (k1 : kIs_tuple d = some false) : m__law_is_operation [.shr d] = some (.val (.bool false), [none]) := by
  have e0 : env0 3 [.shr d] = [some (.shr d), none, none] := rfl
  unfold m__law_is_operation b__law_is_operation
  rw [q_run, e0]
  walk_at "gd"
theorem lop_nil : m__law_is_operation [.shr (.tuple [])] = some (.val (.bool false), [none]) := by
  have e0 : env0 3 [.shr (.tuple [])] = [some (.shr (.tuple [])), none, none] := rfl
  have k1 : kIs_tuple (.tuple []) = some true := rfl
  unfold m__law_is_operation b__law_is_operation
  rw [q_run, e0]
  walk_at "gd"
theorem lop_hd (x : D) (r : List D) (k2 : kIs_str x = some false) : m__law_is_operation [.shr (.tuple (x :: r))] = some (.val (.bool false), [none]) := by
  have e0 : env0 3 [.shr (.tuple (x :: r))] = [some (.shr (.tuple (x :: r))), none, none] := rfl
  have k1 : kIs_tuple (.tuple (x :: r)) = some true := rfl
  have a0 := at0x x r
  have he : (x :: r).isEmpty = false := rfl
  unfold m__law_is_operation b__law_is_operation
  rw [q_run, e0]
  walk_at "gd"
theorem forms_sh : SeqAt.shaped (.list FORMS) = true := by decide +kernel
theorem lop_str (w : Str) (r : List D) (hr : r.length ≤ 900) (hx : ∀ d ∈ r, isExc d = false) (hs : SeqAt.shaped (.tuple [.str w, .int (((r.length + 1 : Nat)) : Int)]) = true) :
    m__law_is_operation [.shr (.tuple (.str w :: r))] = some (.val (.bool (isOp (.tuple (.str w :: r)))), [none]) := by
  have e0 : env0 3 [.shr (.tuple (.str w :: r))] = [some (.shr (.tuple (.str w :: r))), none, none] := rfl
  have k1 : kIs_tuple (.tuple (.str w :: r)) = some true := rfl
  have k2 : kIs_str (.str w) = some true := rfl
  have a0 := at0x (.str w) r
  have he : (PyData.str w :: r).isEmpty = false := rfl
  have hcut := cut_tail (.str w) r
  have hf := forms_ok w (r.length + 1) (by omega)
  have hn : dNotIn (.tuple [.str w, .int (((r.length + 1 : Nat)) : Int)]) (.list FORMS) = some (.bool (!(FORMS.any fun z => PyData.eqv z (.tuple [.str w, .int (((r.length + 1 : Nat)) : Int)])))) := by
    have := c_inL (d := .tuple [.str w, .int (((r.length + 1 : Nat)) : Int)]) (ds := FORMS) hs forms_sh
    unfold dIn at this
    unfold dNotIn
    cases h : dInB (.tuple [.str w, .int (((r.length + 1 : Nat)) : Int)]) (.list FORMS) with
    | none => rw [h] at this; cases this
    | some b => rw [h] at this; cases this; rfl
  rw [hf] at hn
  have ln : ((PyData.str w :: r).length : Int) = (((r.length + 1 : Nat)) : Int) := by simp
  have hc := comp_flt (vs := [2]) (tg := gN 2) (ft := tfNot (tVal (eX (xCall m__law_is_integer (aCons (eGive 2) (aCons (eC (.int 0)) (aCons (eC (.int 999)) aNil))))))) (fe := eGive 2) (env := [some (.shr (.tuple (.str w :: r))), some (.own false (.l FORMS)), none]) (fun d => d) (fun d => d) (fun d => !isNum d) r [] (by simp; omega) (fun d hd ds acc hacc => by
    have hb := law_int_ok d 0 999 (hx d hd)
    rw [inZ_num] at hb
    clear hd hn
    cases q : isNum d with
    | true =>
      rw [q] at hb
      have z : (if (!true) = true then acc ++ [d] else acc) = acc := rfl
      rw [z]
      walk_at "gd"
    | false =>
      rw [q] at hb
      have z : (if (!false) = true then acc ++ [d] else acc) = acc ++ [d] := rfl
      rw [z]
      walk_at "gd")
  rw [List.map_id', List.nil_append] at hc
  have hiff : (r.filter fun d => !isNum d).map (fun d => d) = [] ↔ r.all isNum = true := by
    rw [List.map_id', List.filter_eq_nil_iff, List.all_eq_true]
    constructor
    · intro h d hd
      have := h d hd
      simpa using this
    · intro h d hd
      simp [h d hd]
  simp only [isOp]
  cases ht : decide (((r.length + 1 : Nat) : Int) = (look tb_LENGTHS w).getD 0) with
  | false =>
    rw [ht] at hn
    rw [Bool.false_and]
    clear hc hiff ht hf
    unfold m__law_is_operation b__law_is_operation
    rw [q_run, e0]
    simp only [FORMS] at hn
    walk_at "gd"
  | true =>
    rw [ht] at hn
    rw [Bool.true_and]
    generalize hR : (r.filter fun d => !isNum d).map (fun d => d) = R at *
    have hd : dEqL0 (.list R) (.list []) = some (.bool (r.all isNum)) := by
      rw [c_eqL0x]
      cases R with
      | nil => rw [hiff.mp rfl]; rfl
      | cons x t =>
        have : r.all isNum = false := by
          cases q : r.all isNum with
          | false => rfl
          | true => cases hiff.mpr q
        rw [this]; rfl
    clear hiff ht hf hR
    unfold m__law_is_operation b__law_is_operation
    rw [q_run, e0]
    simp only [FORMS] at hn hc
    walk_at "gd"
theorem lop_all (d : D) (h : Vd d) : m__law_is_operation [.shr d] = some (.val (.bool (isOp d)), [none]) := by
  cases d with
  | tuple ds =>
    obtain ⟨hl, hx⟩ := h.ht ds rfl
    cases ds with
    | nil => exact lop_nil
    | cons x r =>
      simp only [List.length_cons] at hl
      have hx0 := hx x (List.mem_cons_self ..)
      cases x with
      | str w => exact lop_str w r (by omega) (fun d hd => hx d (List.mem_cons_of_mem _ hd)) (h.hs w r rfl _ (by omega))
      | dict y => exact lop_hd _ r (ks_dict hx0)
      | _ => exact lop_hd _ r rfl
  | dict y => exact lop_not _ (kt_dict h.hx)
  | _ => exact lop_not _ rfl
end My

namespace My
open PySem PySem.Spec PyProof.Rows L2 GD GDX
theorem btw_no (c : D) (hx : isExc c = false) (h : inZ 1 100 c = false) : m_is_between [.shr c, .shr (.int 1), .shr (.int 100)] = some (.val (.bool false), [none, none, none]) := by
  have e0 : env0 3 [.shr c, .shr (.int 1), .shr (.int 100)] = [some (.shr c), some (.shr (.int 1)), some (.shr (.int 100))] := rfl
  have hi := integer_ok c hx
  cases c with
  | int i =>
    simp only [inZ] at *
    by_cases a : 1 ≤ i
    · have t1 : decide (1 ≤ i) = true := decide_eq_true a
      rw [t1, Bool.true_and] at h
      clear a
      unfold m_is_between b_is_between
      rw [q_run, e0]
      walk_at "gd"
    · have t1 : decide (1 ≤ i) = false := decide_eq_false a
      clear a h
      unfold m_is_between b_is_between
      rw [q_run, e0]
      walk_at "gd"
  | _ =>
    simp only at hi
    clear h
    unfold m_is_between b_is_between
    rw [q_run, e0]
    walk_at "gd"
theorem chk_all (es : List (Option Str)) (c : D) (hx : isExc c = false) (hn : isN c = false) : m_check_limit [c, .list [T es]] = some (if inZ (max 1 (es.length : Int)) 100 c = true then .ret .none else badL c) := by
  cases h : inZ 1 100 c with
  | false =>
    rw [chk_bad c _ hn (btw_no c hx h)]
    have : inZ (max 1 (es.length : Int)) 100 c = false := by
      cases c with
      | int i =>
        simp only [inZ, Bool.and_eq_false_iff, decide_eq_false_iff_not] at h ⊢
        omega
      | _ => rfl
    rw [this]; rfl
  | true =>
    cases c with
    | int i =>
      simp only [inZ, Bool.and_eq_true, decide_eq_true_eq] at h
      have e := chk_some (es.map eD) i (by omega) (by omega)
      rw [List.length_map] at e
      show m_check_limit [.int i, .list [.tuple (es.map eD)]] = _
      rw [e]
      by_cases q : i < (es.length : Int)
      · rw [if_pos q]
        have : inZ (max 1 (es.length : Int)) 100 (.int i) = false := by
          simp only [inZ, Bool.and_eq_false_iff, decide_eq_false_iff_not]; omega
        rw [this]; rfl
      · rw [if_neg q]
        have : inZ (max 1 (es.length : Int)) 100 (.int i) = true := by
          simp only [inZ, Bool.and_eq_true, decide_eq_true_eq]; omega
        rw [this]; rfl
    | _ => cases h
theorem app_op (E d c : D) (h : m_is_operation [.shr d] = some (.val (.bool false), [none])) : m_apply [E, d, c] = some (.rs ("InvalidOperation" : Str) ("" : Str) .none) := by
  have e0 : env0 5 ([E, d, c].map Sl.shr) = [some (.shr E), some (.shr d), some (.shr c), none, none] := rfl
  unfold m_apply b_apply
  rw [q_runY, e0]
  walk_at "gd"
theorem app_cap (E d c : D) (h : m_is_operation [.shr d] = some (.val (.bool true), [none])) (h2 : m_check_limit [c, .list [E]] = some (badL c)) : m_apply [E, d, c] = some (badL c) := by
  have e0 : env0 5 ([E, d, c].map Sl.shr) = [some (.shr E), some (.shr d), some (.shr c), none, none] := rfl
  unfold m_apply b_apply
  rw [q_runY, e0]
  walk_at "gd"
abbrev s3 (E d c : D) : List Sl := [.shr E, .shr d, .shr c]
theorem heard_ret (E d c : D) (ts : List D) (h : m_apply [E, d, c] = some (.ret (.tuple ts))) : m__law_heard (s3 E d c) = some (.val (.str ("table" : Str)), [none, none, none]) := by
  have e0 : env0 8 (s3 E d c) = [some (.shr E), some (.shr d), some (.shr c), none, none, none, none, none] := rfl
  have k : kIs_tuple (.tuple ts) = some true := rfl
  unfold m__law_heard b__law_heard
  rw [q_run, e0]
  walk_at "gd"
theorem heard_rs (E d c v : D) (nm f out R : Str) (h : m_apply [E, d, c] = some (.rs nm f v)) (hR : cReprX [v] = some (.str R)) (hl : R.length ≤ 900000)
    (hh : (nm = "InvalidOperation" ∧ f = "" ∧ out = ("operation" : Str)) ∨ (nm = "InvalidLimit" ∧ f = "limit" ∧ out = ("limit " : Str) ++ R) ∨ (nm = "FreeSlot" ∧ f = "slot" ∧ out = ("free " : Str) ++ R) ∨ (nm = "TableFull" ∧ f = "limit" ∧ out = ("full " : Str) ++ R)) :
    m__law_heard (s3 E d c) = some (.val (.str out), [none, none, none]) := by
  have e0 : env0 8 (s3 E d c) = [some (.shr E), some (.shr d), some (.shr c), none, none, none, none, none] := rfl
  have c1 : ∀ a b c e : Bool, mCntB (.list [.bool a, .bool b, .bool c, .bool e]) [.bool true] = some (.int (([a, b, c, e].countP fun y => decide (y = true) : Nat) : Int)) := fun a b c e => rfl
  have n1 : (([true, false, false, false].countP fun y => decide (y = true) : Nat) : Int) = 1 := rfl
  have n2 : (([false, true, false, false].countP fun y => decide (y = true) : Nat) : Int) = 1 := rfl
  have n3 : (([false, false, true, false].countP fun y => decide (y = true) : Nat) : Int) = 1 := rfl
  have n4 : (([false, false, false, true].countP fun y => decide (y = true) : Nat) : Int) = 1 := rfl
  have l6 : ("limit " : Str).length + R.length ≤ 1000000 := by
    rw [show ("limit " : Str).length = 6 by decide +kernel]; omega
  have l5 : ("free " : Str).length + R.length ≤ 1000000 := by
    rw [show ("free " : Str).length = 5 by decide +kernel]; omega
  have l7 : ("full " : Str).length + R.length ≤ 1000000 := by
    rw [show ("full " : Str).length = 5 by decide +kernel]; omega
  have hc : (["InvalidOperation", "InvalidLimit", "FreeSlot", "TableFull"] : List Str).contains nm = true := by
    rcases hh with ⟨rfl, _⟩ | ⟨rfl, _⟩ | ⟨rfl, _⟩ | ⟨rfl, _⟩ <;> decide +kernel
  rcases hh with ⟨rfl, rfl, rfl⟩ | ⟨rfl, rfl, rfl⟩ | ⟨rfl, rfl, rfl⟩ | ⟨rfl, rfl, rfl⟩
  · have j1 : isxk_InvalidOperation ("InvalidOperation" : Str) = some true := by decide +kernel
    have j2 : isxk_InvalidLimit ("InvalidOperation" : Str) = some false := by decide +kernel
    have j3 : isxk_FreeSlot ("InvalidOperation" : Str) = some false := by decide +kernel
    have j4 : isxk_TableFull ("InvalidOperation" : Str) = some false := by decide +kernel
    have j5 : isxk_TableError ("InvalidOperation" : Str) = some true := by decide +kernel
    have j6 : isxkB_ValueError ("InvalidOperation" : Str) = some true := by decide +kernel
    have j7 : isxkB_LookupError ("InvalidOperation" : Str) = some false := by decide +kernel
    have j8 : isxkB_OverflowError ("InvalidOperation" : Str) = some false := by decide +kernel
    have j9 : isxk_InvalidScript_InvalidTable_InvalidText_StepFailed_KeyError_IndexError_RuntimeError ("InvalidOperation" : Str) = some false := by decide +kernel
    have ix : mIndex (.list [.bool true, .bool false, .bool false, .bool false]) [.bool true] = some (.int 0) := by rfl
    have e00 : decide ((0 : Int) = 0) = true := by decide
    have e01 : decide ((0 : Int) = 1) = false := by decide
    have e02 : decide ((0 : Int) = 2) = false := by decide
    have e03 : decide ((0 : Int) = 3) = false := by decide
    have q : dNe (.list [.bool true, .bool true, .bool false, .bool false]) (.list [.bool true, .bool true, .bool false, .bool false]) = some (.bool false) := by rfl
    unfold m__law_heard b__law_heard
    rw [q_run, e0]
    walk_at "gd"
  · have j1 : isxk_InvalidOperation ("InvalidLimit" : Str) = some false := by decide +kernel
    have j2 : isxk_InvalidLimit ("InvalidLimit" : Str) = some true := by decide +kernel
    have j3 : isxk_FreeSlot ("InvalidLimit" : Str) = some false := by decide +kernel
    have j4 : isxk_TableFull ("InvalidLimit" : Str) = some false := by decide +kernel
    have j5 : isxk_TableError ("InvalidLimit" : Str) = some true := by decide +kernel
    have j6 : isxkB_ValueError ("InvalidLimit" : Str) = some true := by decide +kernel
    have j7 : isxkB_LookupError ("InvalidLimit" : Str) = some false := by decide +kernel
    have j8 : isxkB_OverflowError ("InvalidLimit" : Str) = some false := by decide +kernel
    have j9 : isxk_InvalidScript_InvalidTable_InvalidText_StepFailed_KeyError_IndexError_RuntimeError ("InvalidLimit" : Str) = some false := by decide +kernel
    have ix : mIndex (.list [.bool false, .bool true, .bool false, .bool false]) [.bool true] = some (.int 1) := by rfl
    have e10 : decide ((1 : Int) = 0) = false := by decide
    have e11 : decide ((1 : Int) = 1) = true := by decide
    have e12 : decide ((1 : Int) = 2) = false := by decide
    have e13 : decide ((1 : Int) = 3) = false := by decide
    have q : dNe (.list [.bool true, .bool true, .bool false, .bool false]) (.list [.bool true, .bool true, .bool false, .bool false]) = some (.bool false) := by rfl
    have hc2 : (["InvalidLimit", "TableFull"] : List Str).contains ("InvalidLimit" : Str) = true := by decide +kernel
    unfold m__law_heard b__law_heard
    rw [q_run, e0]
    walk_at "gd"
  · have j1 : isxk_InvalidOperation ("FreeSlot" : Str) = some false := by decide +kernel
    have j2 : isxk_InvalidLimit ("FreeSlot" : Str) = some false := by decide +kernel
    have j3 : isxk_FreeSlot ("FreeSlot" : Str) = some true := by decide +kernel
    have j4 : isxk_TableFull ("FreeSlot" : Str) = some false := by decide +kernel
    have j5 : isxk_TableError ("FreeSlot" : Str) = some false := by decide +kernel
    have j6 : isxkB_ValueError ("FreeSlot" : Str) = some false := by decide +kernel
    have j7 : isxkB_LookupError ("FreeSlot" : Str) = some true := by decide +kernel
    have j8 : isxkB_OverflowError ("FreeSlot" : Str) = some false := by decide +kernel
    have j9 : isxk_InvalidScript_InvalidTable_InvalidText_StepFailed_KeyError_IndexError_RuntimeError ("FreeSlot" : Str) = some false := by decide +kernel
    have ix : mIndex (.list [.bool false, .bool false, .bool true, .bool false]) [.bool true] = some (.int 2) := by rfl
    have e20 : decide ((2 : Int) = 0) = false := by decide
    have e21 : decide ((2 : Int) = 1) = false := by decide
    have e22 : decide ((2 : Int) = 2) = true := by decide
    have e23 : decide ((2 : Int) = 3) = false := by decide
    have q : dNe (.list [.bool false, .bool false, .bool true, .bool false]) (.list [.bool false, .bool false, .bool true, .bool false]) = some (.bool false) := by rfl
    have hc2 : (["FreeSlot"] : List Str).contains ("FreeSlot" : Str) = true := by decide +kernel
    unfold m__law_heard b__law_heard
    rw [q_run, e0]
    walk_at "gd"
  · have j1 : isxk_InvalidOperation ("TableFull" : Str) = some false := by decide +kernel
    have j2 : isxk_InvalidLimit ("TableFull" : Str) = some false := by decide +kernel
    have j3 : isxk_FreeSlot ("TableFull" : Str) = some false := by decide +kernel
    have j4 : isxk_TableFull ("TableFull" : Str) = some true := by decide +kernel
    have j5 : isxk_TableError ("TableFull" : Str) = some false := by decide +kernel
    have j6 : isxkB_ValueError ("TableFull" : Str) = some false := by decide +kernel
    have j7 : isxkB_LookupError ("TableFull" : Str) = some false := by decide +kernel
    have j8 : isxkB_OverflowError ("TableFull" : Str) = some true := by decide +kernel
    have j9 : isxk_InvalidScript_InvalidTable_InvalidText_StepFailed_KeyError_IndexError_RuntimeError ("TableFull" : Str) = some false := by decide +kernel
    have ix : mIndex (.list [.bool false, .bool false, .bool false, .bool true]) [.bool true] = some (.int 3) := by rfl
    have e30 : decide ((3 : Int) = 0) = false := by decide
    have e31 : decide ((3 : Int) = 1) = false := by decide
    have e32 : decide ((3 : Int) = 2) = false := by decide
    have e33 : decide ((3 : Int) = 3) = true := by decide
    have q : dNe (.list [.bool false, .bool false, .bool false, .bool true]) (.list [.bool false, .bool false, .bool false, .bool true]) = some (.bool false) := by rfl
    have hc2 : (["InvalidLimit", "TableFull"] : List Str).contains ("TableFull" : Str) = true := by decide +kernel
    unfold m__law_heard b__law_heard
    rw [q_run, e0]
    walk_at "gd"
end My

namespace My
open PySem PySem.Spec PyProof.Rows L2 GD GDX
def word : Op → Str
  | .dup _ => ("dup" : Str)
  | .frm _ _ => ("dup_from" : Str)
  | .onto _ _ => ("dup2" : Str)
  | .cls _ => ("close" : Str)
theorem op_word (o : Op) : dIx (opD o) (.int 0) = some (.str (word o)) := by cases o <;> rfl
theorem len_T (es : List (Option Str)) : cLen [T es] = some (.int (es.length : Int)) := by
  have : ((es.map eD).length : Int) = (es.length : Int) := by rw [List.length_map]
  rw [← this]; rfl
theorem ix_T (es : List (Option Str)) (i : Int) : dIx (T es) (.int i) = atI (es.map eD) i := rfl
def flo (es : List (Option Str)) : Nat → Nat → List D
  | 0, _ => []
  | n + 1, s => if ent es s = none then .int (s : Int) :: flo es n (s + 1) else flo es n (s + 1)
abbrev TFO : EvT := tfOr (tVal (eOp dGe (eVar 6) (eCa cLen (aCons (eVar 0) aNil)))) (tVal (eIsN (eOp dIx (eVar 0) (eVar 6))))
theorem open_comp (es : List (Option Str)) (hle : es.length ≤ 1000) (o1 o2 o3 o4 o5 : Option Sl) : ∀ (n s : Nat) (acc : List D), s + n ≤ 2000 → acc.length + n ≤ 5000 →
    compE [6] (gN 6) TFO (eGive 6) (rangeD (s : Int) n) acc [some (.shr (T es)), o1, o2, o3, o4, o5, none] = some (acc ++ flo es n s, [some (.shr (T es)), o1, o2, o3, o4, o5, none])
  | 0, s, acc, h, hl => by
    unfold flo
    simp [rangeD, compE]
  | n + 1, s, acc, h, hl => by
    have ec : (((s + 1 : Nat) : Int)) = (s : Int) + 1 := by omega
    have ha : acc.length ≤ 1000000 := by omega
    have ln := len_T es
    have ixT := ix_T es
    rw [range_cons]
    unfold flo
    by_cases hx : es.length ≤ s
    · have t : decide ((s : Int) ≥ (es.length : Int)) = true := decide_eq_true (by omega)
      have hn : ent es s = none := by unfold ent; rw [List.getD_eq_getElem?_getD, List.getElem?_eq_none hx]; rfl
      have ih := open_comp es hle o1 o2 o3 o4 o5 n (s + 1) (acc ++ [.int (s : Int)]) (by omega) (by rw [List.length_append, List.length_singleton]; omega)
      rw [if_pos hn]
      rw [ec, List.append_assoc] at ih
      rw [show acc ++ .int (s : Int) :: flo es n (s + 1) = acc ++ ([.int (s : Int)] ++ flo es n (s + 1)) from rfl, ← ih]
      clear ih h hl hx hn ec hle
      unfold TFO
      walk_at "gd"
    · have t : decide ((s : Int) ≥ (es.length : Int)) = false := decide_eq_false (by omega)
      obtain ⟨e, he, hat⟩ := ent_at es (s : Int) (by omega) (by omega)
      rw [show ((s : Int)).toNat = s by omega] at he
      have hee : ent es s = e := by unfold ent; rw [List.getD_eq_getElem?_getD, he]; rfl
      cases e with
      | none =>
        have ih := open_comp es hle o1 o2 o3 o4 o5 n (s + 1) (acc ++ [.int (s : Int)]) (by omega) (by rw [List.length_append, List.length_singleton]; omega)
        rw [if_pos hee]
        rw [ec, List.append_assoc] at ih
        rw [show acc ++ .int (s : Int) :: flo es n (s + 1) = acc ++ ([.int (s : Int)] ++ flo es n (s + 1)) from rfl, ← ih]
        clear ih h hl hx hee he ec hle
        simp only [eD] at hat
        unfold TFO
        walk_at "gd"
      | some w =>
        have ih := open_comp es hle o1 o2 o3 o4 o5 n (s + 1) acc (by omega) (by omega)
        rw [if_neg (by rw [hee]; exact fun q => by cases q)]
        rw [ec] at ih
        rw [← ih]
        have hw : isN (.str w) = false := rfl
        clear ih h hl hx hee he ec hle
        simp only [eD] at hat
        unfold TFO
        walk_at "gd"
theorem flo_nil (es : List (Option Str)) : ∀ n s, flo es n s = [] ↔ ∀ i, s ≤ i → i < s + n → ent es i ≠ none
  | 0, s => ⟨fun _ i h1 h2 => by omega, fun _ => rfl⟩
  | n + 1, s => by
    unfold flo
    by_cases h : ent es s = none
    · rw [if_pos h]
      exact ⟨fun q => (by cases q), fun q => absurd h (q s (Nat.le_refl _) (by omega))⟩
    · rw [if_neg h, flo_nil es n (s + 1)]
      constructor
      · intro q i h1 h2
        by_cases e : i = s
        · subst e; exact h
        · exact q i (by omega) (by omega)
      · exact fun q i h1 h2 => q i (by omega) (by omega)
theorem free_none {es : List (Option Str)} {s : Nat} (h : ¬ free es s = true) : ent es s ≠ none := by
  intro e
  apply h
  unfold free
  split
  · rename_i w hw
    unfold ent at e
    rw [List.getD_eq_getElem?_getD, hw] at e
    cases e
  · rfl
theorem ff_least (es : List (Option Str)) : ∀ n s i, s ≤ i → i < ff es n s → ent es i ≠ none
  | 0, s, i, h1, h2 => by unfold ff at h2; omega
  | n + 1, s, i, h1, h2 => by
    unfold ff at h2
    split at h2
    · omega
    · rename_i hf
      by_cases e : i = s
      · subst e; exact free_none hf
      · exact ff_least es n (s + 1) i (by omega) h2
theorem full_iff (es : List (Option Str)) (b c : Nat) : (flo es (c - b) b).isEmpty = decide (c ≤ ffn es b) := by
  rw [Bool.eq_iff_iff, List.isEmpty_iff, decide_eq_true_eq, flo_nil]
  have h0 := ffn_le es b
  constructor
  · intro q
    rcases Nat.lt_or_ge (ffn es b) c with h | h
    · exact absurd (ffn_free es b) (q _ h0.1 (by omega))
    · exact h
  · intro q i h1 h2
    exact ff_least es (es.length - b) b i h1 (by unfold ffn at q; omega)
theorem due_op (E d c : D) (h : m__law_is_operation [.shr d] = some (.val (.bool false), [none])) : m__law_due (s3 E d c) = some (.val (.str ("operation" : Str)), [none, none, none]) := by
  have e0 : env0 7 (s3 E d c) = [some (.shr E), some (.shr d), some (.shr c), none, none, none, none] := rfl
  unfold m__law_due b__law_due
  rw [q_run, e0]
  walk_at "gd"
theorem max_len (n : Nat) : cMax2 [.int 1, .int (n : Int)] = some (.int (max 1 (n : Int))) := by
  show some (PyData.int (if (n : Int) > 1 then (n : Int) else 1)) = _
  congr 2
  split <;> omega
theorem due_cap (es : List (Option Str)) (d c : D) (R : Str) (h : m__law_is_operation [.shr d] = some (.val (.bool true), [none])) (hn : isN c = false) (hx : isExc c = false) (hz : inZ (max 1 (es.length : Int)) 100 c = false) (hR : cReprX [c] = some (.str R)) (hl : R.length ≤ 900000) :
    m__law_due (s3 (T es) d c) = some (.val (.str (("limit " : Str) ++ R)), [none, none, none]) := by
  have e0 : env0 7 (s3 (T es) d c) = [some (.shr (T es)), some (.shr d), some (.shr c), none, none, none, none] := rfl
  have f := law_int_ok c (max 1 (es.length : Int)) 100 hx
  rw [hz] at f
  have mx := max_len es.length
  have ln := len_T es
  have ixT := ix_T es
  have l6 : ("limit " : Str).length + R.length ≤ 1000000 := by
    rw [show ("limit " : Str).length = 6 by decide +kernel]; omega
  clear hz hl hx
  unfold m__law_due b__law_due
  rw [q_run, e0]
  walk_at "gd"
def outS (cap : Option Nat) (es : List (Option Str)) (o : Op) (R1 R2 : Str) : Str := match step cap es o with
  | .ok _ => ("table" : Str)
  | .free => ("free " : Str) ++ R1
  | .full => ("full " : Str) ++ R2
theorem due_ok (cap : Option Nat) (es : List (Option Str)) (o : Op) (R1 R2 : Str) (hk : Okt cap 300 es) (hb : Bdo o) (h : m__law_is_operation [.shr (opD o)] = some (.val (.bool true), [none])) (hR1 : cReprX [.int (o.src : Int)] = some (.str R1)) (hR2 : cReprX [capD cap] = some (.str R2))
    (hl1 : R1.length ≤ 900000) (hl2 : R2.length ≤ 900000) : m__law_due (s3 (T es) (opD o) (capD cap)) = some (.val (.str (outS cap es o R1 R2)), [none, none, none]) := by
  have e0 : env0 7 (s3 (T es) (opD o) (capD cap)) = [some (.shr (T es)), some (.shr (opD o)), some (.shr (capD cap)), none, none, none, none] := rfl
  have ln := len_T es
  have ixT := ix_T es
  have l5 : ("free " : Str).length + R1.length ≤ 1000000 := by
    rw [show ("free " : Str).length = 5 by decide +kernel]; omega
  have l7 : ("full " : Str).length + R2.length ≤ 1000000 := by
    rw [show ("full " : Str).length = 5 by decide +kernel]; omega
  have hlen := hk.len
  have hsrc := op_src o
  have hwd := op_word o
  have hb1 := hb.1
  have hb2 := hb.2
  -- the limit is one
  have hcap : ∀ c, cap = some c → m__law_is_integer [.shr (.int (c : Int)), .shr (.int (max 1 (es.length : Int))), .shr (.int 100)] = some (.val (.bool true), [none, none, none]) := fun c hc => by
    have f := law_int_ok (.int (c : Int)) (max 1 (es.length : Int)) 100 rfl
    have := hk.cap c hc
    have z : inZ (max 1 (es.length : Int)) 100 (.int (c : Int)) = true := by
      simp only [inZ, Bool.and_eq_true, decide_eq_true_eq]; omega
    rw [z] at f
    exact f
  have mx := max_len es.length
  cases hw : ent es o.src with
  | none =>
    have zz : outS cap es o R1 R2 = ("free " : Str) ++ R1 := by unfold outS step; rw [hw]
    rw [zz]
    clear zz
    by_cases hx : es.length ≤ o.src
    · have t : decide ((o.src : Int) ≥ (es.length : Int)) = true := decide_eq_true (by omega)
      cases cap with
      | none =>
        have n0 : isN PyData.none = true := rfl
        clear hk hb hw hlen hb1 hb2 hcap hx
        simp only [capD] at hR2 ⊢
        generalize opD o = dop at *
        unfold m__law_due b__law_due
        rw [q_run, show env0 7 (s3 (T es) dop .none) = [some (.shr (T es)), some (.shr dop), some (.shr .none), none, none, none, none] from rfl]
        walk_at "gd"
      | some c =>
        have hc := hcap c rfl
        have n0 : isN (PyData.int (c : Int)) = false := rfl
        clear hk hb hw hlen hb1 hb2 hcap hx
        simp only [capD] at hR2 ⊢
        generalize opD o = dop at *
        unfold m__law_due b__law_due
        rw [q_run, show env0 7 (s3 (T es) dop (.int (c : Int))) = [some (.shr (T es)), some (.shr dop), some (.shr (.int (c : Int))), none, none, none, none] from rfl]
        walk_at "gd"
    · have t : decide ((o.src : Int) ≥ (es.length : Int)) = false := decide_eq_false (by omega)
      obtain ⟨e, he, hat⟩ := ent_at es (o.src : Int) (by omega) (by omega)
      rw [show ((o.src : Int)).toNat = o.src by omega] at he
      have hee : ent es o.src = e := by unfold ent; rw [List.getD_eq_getElem?_getD, he]; rfl
      rw [hw] at hee
      subst hee
      simp only [eD] at hat
      cases cap with
      | none =>
        have n0 : isN PyData.none = true := rfl
        clear hk hb hw hlen hb1 hb2 hcap hx he
        simp only [capD] at hR2 ⊢
        generalize opD o = dop at *
        unfold m__law_due b__law_due
        rw [q_run, show env0 7 (s3 (T es) dop .none) = [some (.shr (T es)), some (.shr dop), some (.shr .none), none, none, none, none] from rfl]
        walk_at "gd"
      | some c =>
        have hc := hcap c rfl
        have n0 : isN (PyData.int (c : Int)) = false := rfl
        have n1 : isN PyData.none = true := rfl
        clear hk hb hw hlen hb1 hb2 hcap hx he
        simp only [capD] at hR2 ⊢
        generalize opD o = dop at *
        unfold m__law_due b__law_due
        rw [q_run, show env0 7 (s3 (T es) dop (.int (c : Int))) = [some (.shr (T es)), some (.shr dop), some (.shr (.int (c : Int))), none, none, none, none] from rfl]
        walk_at "gd"
  | some w =>
    have hs := (ent_some hw)
    have t : decide ((o.src : Int) ≥ (es.length : Int)) = false := decide_eq_false (by have := hs.2; omega)
    obtain ⟨e, he, hat⟩ := ent_at es (o.src : Int) (by omega) (by have := hs.2; omega)
    rw [show ((o.src : Int)).toNat = o.src by omega, hs.1] at he
    cases he
    simp only [eD] at hat
    have nw : isN (.str w) = false := rfl
    cases cap with
    | none =>
      have n0 : isN PyData.none = true := rfl
      have z : outS none es o R1 R2 = ("table" : Str) := by
        unfold outS step
        rw [hw]
        cases landN es o with
        | none => rfl
        | some p => rfl
      rw [z]
      clear z hk hb hw hlen hb1 hb2 hcap hs
      simp only [capD] at hR2 ⊢
      generalize opD o = dop at *
      unfold m__law_due b__law_due
      rw [q_run, show env0 7 (s3 (T es) dop .none) = [some (.shr (T es)), some (.shr dop), some (.shr .none), none, none, none, none] from rfl]
      by_cases hcl : word o = ("close" : Str)
      · have q := decide_eq_true hcl
        clear hcl
        generalize word o = wo at *
        walk_at "gd"
      · have q := decide_eq_false hcl
        clear hcl
        generalize word o = wo at *
        walk_at "gd"
    | some c =>
      have hc := hcap c rfl
      have hcc := hk.cap c rfl
      have n0 : isN (PyData.int (c : Int)) = false := rfl
      have a0 : ∀ x y : D, atI [x, y] 0 = some x := fun _ _ => rfl
      have a1 : ∀ x y : D, atI [x, y] 1 = some y := fun _ _ => rfl
      have i1 : (if true = true then (1 : Int) else 0) = 1 := rfl
      have i0 : (if false = true then (1 : Int) else 0) = 0 := rfl
      have w1 : decide (("close" : Str) = ("close" : Str)) = true := decide_eq_true rfl
      have w2 : decide (("dup" : Str) = ("close" : Str)) = false := by decide +kernel
      have w3 : decide (("dup_from" : Str) = ("close" : Str)) = false := by decide +kernel
      have w4 : decide (("dup2" : Str) = ("close" : Str)) = false := by decide +kernel
      have w5 : decide (("dup" : Str) = ("dup" : Str)) = true := decide_eq_true rfl
      have w6 : decide (("dup_from" : Str) = ("dup" : Str)) = false := by decide +kernel
      have w7 : decide (("dup2" : Str) = ("dup" : Str)) = false := by decide +kernel
      have w8 : decide (("dup2" : Str) = ("dup2" : Str)) = true := decide_eq_true rfl
      have w9 : decide (("dup" : Str) = ("dup2" : Str)) = false := by decide +kernel
      have wa : decide (("dup_from" : Str) = ("dup2" : Str)) = false := by decide +kernel
      have zf : ∀ p, landN es o = some p → c ≤ p → outS (some c) es o R1 R2 = ("full " : Str) ++ R2 := fun p h1 h2 => by
        unfold outS step
        rw [hw, h1]
        dsimp only
        rw [if_pos (show over (some c) p = true from decide_eq_true h2)]
      have zt : ∀ p, landN es o = some p → ¬ c ≤ p → outS (some c) es o R1 R2 = ("table" : Str) := fun p h1 h2 => by
        unfold outS step
        rw [hw, h1]
        dsimp only
        rw [if_neg (show ¬ over (some c) p = true from fun q => h2 (of_decide_eq_true q))]
      have zc : landN es o = none → outS (some c) es o R1 R2 = ("table" : Str) := fun h1 => by
        unfold outS step
        rw [hw, h1]
      simp only [capD] at hR2 ⊢
      unfold m__law_due b__law_due
      rw [q_run, show env0 7 (s3 (T es) (opD o) (.int (c : Int))) = [some (.shr (T es)), some (.shr (opD o)), some (.shr (.int (c : Int))), none, none, none, none] from rfl]
      have core : ∀ b : Nat, b ≤ 999 → compE [6] (gN 6) TFO (eGive 6) (rangeD (b : Int) (c - b)) [] [some (.shr (T es)), some (.shr (opD o)), some (.shr (.int (c : Int))), some (.shr (.int (o.src : Int))), some (.shr (.int (b : Int))), none, none]
          = some (flo es (c - b) b, [some (.shr (T es)), some (.shr (opD o)), some (.shr (.int (c : Int))), some (.shr (.int (o.src : Int))), some (.shr (.int (b : Int))), none, none]) := fun b hb => by
        have := open_comp es (by omega) (some (.shr (opD o))) (some (.shr (.int (c : Int)))) (some (.shr (.int (o.src : Int)))) (some (.shr (.int (b : Int)))) none (c - b) b [] (by omega) (by simp; omega)
        rw [List.nil_append] at this
        exact this
      have g1 : -4611686018427387904 ≤ (c : Int) := by omega
      have g2 : (c : Int) < 4611686018427387904 := by omega
      have g3 : -4611686018427387904 ≤ (0 : Int) := by omega
      have g4 : (0 : Int) < 4611686018427387904 := by omega
      have sub : ∀ b : Nat, ((c : Int) - (b : Int)).toNat = c - b := fun b => by omega
      cases o with
      | cls s =>
        rw [zc rfl]
        simp only [word] at hwd
        clear zf zt zc core hk hb hw hlen hb1 hb2 hcap hs hcc
        generalize opD (.cls s) = dop at *
        walk_at "gd"
      | onto s b =>
        have h2 : dIx (opD (.onto s b)) (.int 2) = some (.int (b : Int)) := rfl
        simp only [word] at hwd
        by_cases hq : c ≤ b
        · have q : decide ((b : Int) ≥ (c : Int)) = true := decide_eq_true (by omega)
          rw [zf b rfl hq]
          clear zf zt zc core hk hb hw hlen hb1 hb2 hcap hs hcc hq
          generalize opD (.onto s b) = dop at *
          walk_at "gd"
        · have q : decide ((b : Int) ≥ (c : Int)) = false := decide_eq_false (by omega)
          rw [zt b rfl hq]
          clear zf zt zc core hk hb hw hlen hb1 hb2 hcap hs hcc hq
          generalize opD (.onto s b) = dop at *
          walk_at "gd"
      | dup s =>
        have co := core 0 (by omega)
        have sb := sub 0
        have z0 : ((0 : Nat) : Int) = 0 := rfl
        rw [z0] at co sb
        clear z0
        have fe := full_iff es 0 c
        simp only [word] at hwd
        clear core sub
        by_cases hq : c ≤ ffn es 0
        · rw [decide_eq_true hq] at fe
          rw [zf _ rfl hq]
          clear zf zt zc hk hb hw hlen hb1 hb2 hcap hs hcc hq
          generalize opD (.dup s) = dop at *
          generalize flo es (c - 0) 0 = FL at *
          walk_at "gd"
        · rw [decide_eq_false hq] at fe
          rw [zt _ rfl hq]
          clear zf zt zc hk hb hw hlen hb1 hb2 hcap hs hcc hq
          generalize opD (.dup s) = dop at *
          generalize flo es (c - 0) 0 = FL at *
          walk_at "gd"
      | frm s b =>
        have h2 : dIx (opD (.frm s b)) (.int 2) = some (.int (b : Int)) := rfl
        have hb3 : b ≤ 999 := hb2
        have g5 : -4611686018427387904 ≤ (b : Int) := by omega
        have g6 : (b : Int) < 4611686018427387904 := by omega
        clear hb3
        have co := core b hb2
        have sb := sub b
        have fe := full_iff es b c
        simp only [word] at hwd
        clear core sub
        by_cases hq : c ≤ ffn es b
        · rw [decide_eq_true hq] at fe
          rw [zf _ rfl hq]
          clear zf zt zc hk hb hw hlen hb1 hb2 hcap hs hcc hq
          generalize opD (.frm s b) = dop at *
          generalize flo es (c - b) b = FL at *
          walk_at "gd"
        · rw [decide_eq_false hq] at fe
          rw [zt _ rfl hq]
          clear zf zt zc hk hb hw hlen hb1 hb2 hcap hs hcc hq
          generalize opD (.frm s b) = dop at *
          generalize flo es (c - b) b = FL at *
          walk_at "gd"
end My

namespace My
open PySem PySem.Spec PyProof.Rows L2 GD GDX
theorem os_int {a : Nat} (h : a ≤ 999) : OS 0 8 (.int (a : Int)) := (OS.int ⟨by omega, by omega⟩).mono (Nat.le_refl _) (by omega)
theorem os_word {w : Str} (hw : w.length ≤ 8) (hc : ∀ c ∈ TL.tl w, c < 128) : OS 0 8 (.str w) := (OS.str hc).mono (Nat.le_refl _) hw
theorem entries_OS {es : List (Option Str)} (hy : ∀ e ∈ es, GoodE e) : ∀ d ∈ es.map eD, OS 0 8 d := fun d hd => by
  obtain ⟨e, he, rfl⟩ := List.mem_map.mp hd
  exact OS.entry (hy e he)
theorem os_nat (i : Nat) (h : i ≤ 100000) : OS 0 8 (.int (i : Int)) := by
  refine ⟨by rw [PyData.canLay0], by rw [PyData.depth]; omega, ?_, ?_, by rw [PyData.bulk]; omega⟩
  · rw [PyData.showable]
    refine decide_eq_true ?_
    have h1 : ((i : Int)).natAbs < 131072 := by omega
    by_cases hz : ((i : Int)).natAbs = 0
    · rw [hz]; decide
    · have := (Nat.log2_lt hz (k := 17)).mpr h1; omega
  · have hl : (nT (i : Int)).length ≤ 6 := by
      rw [TL.len_tl, show TL.tl (nT (i : Int)) = TL.numL i from TL.tl_num i]
      exact TL.numL_len (by decide) (by omega)
    rw [PyData.leavesShort]
    exact decide_eq_true (Nat.le_trans hl (by decide))
structure AX (k n : Nat) (d : D) : Prop where
  nx : noX d = true
  dep : d.depth ≤ k
  sh : d.showable = true
  sho : d.leavesShort 200 = true
  blk : d.bulk ≤ n
theorem AX.mono {k n k' n' : Nat} {d : D} (h : AX k n d) (a : k ≤ k') (b : n ≤ n') : AX k' n' d := ⟨h.nx, Nat.le_trans h.dep a, h.sh, h.sho, Nat.le_trans h.blk b⟩
theorem AX.all {k n : Nat} : ∀ {ds : List D}, (∀ d ∈ ds, AX k n d) → noXs ds = true ∧ PyData.depthAll ds ≤ k ∧ PyData.showableAll ds = true ∧ PyData.leavesShortAll 200 ds = true ∧ PyData.bulkAll ds ≤ (n + 1) * ds.length
  | [], _ => ⟨by rw [noXs], by rw [PyData.depthAll]; omega, by rw [PyData.showableAll], by rw [PyData.leavesShortAll], by rw [PyData.bulkAll]; omega⟩
  | d :: ds, h => by
    obtain ⟨a, b, c, e, f⟩ := AX.all fun x hx => h x (List.mem_cons_of_mem _ hx)
    have g := h d (List.mem_cons_self ..)
    refine ⟨by rw [noXs, a, g.nx]; rfl, by rw [PyData.depthAll]; exact Nat.max_le.mpr ⟨g.dep, b⟩, by rw [PyData.showableAll, c, g.sh]; rfl, by rw [PyData.leavesShortAll, e, g.sho]; rfl, ?_⟩
    rw [PyData.bulkAll, List.length_cons, Nat.mul_succ]
    have := g.blk
    omega
theorem AX.list {k n : Nat} {ds : List D} (h : ∀ d ∈ ds, AX k n d) : AX (k + 1) ((n + 1) * ds.length) (.list ds) := by
  obtain ⟨a, b, c, e, f⟩ := AX.all h
  exact ⟨by rw [noX]; exact a, by rw [PyData.depth]; omega, by rw [PyData.showable]; exact c, by rw [PyData.leavesShort]; exact e, by rw [PyData.bulk]; exact f⟩
theorem AX.tuple {k n : Nat} {ds : List D} (h : ∀ d ∈ ds, AX k n d) : AX (k + 1) ((n + 1) * ds.length) (.tuple ds) := by
  obtain ⟨a, b, c, e, f⟩ := AX.all h
  exact ⟨by rw [noX]; exact a, by rw [PyData.depth]; omega, by rw [PyData.showable]; exact c, by rw [PyData.leavesShort]; exact e, by rw [PyData.bulk]; exact f⟩
theorem AX.ok {k n : Nat} {d : D} (h : AX k n d) (a : k ≤ 60) (b : n ≤ 80000) : okShowX d = true := by
  have h1 := PyData.shown_le_bulk 200 (by decide) d h.sho
  have h2 : (200 + 2) * d.bulk ≤ 202 * n := Nat.mul_le_mul_left _ h.blk
  show (noX d && decide (d.depth ≤ 60) && d.showable && decide (d.shown.length ≤ 16777216)) = true
  rw [h.nx, h.sh, decide_eq_true (Nat.le_trans h.dep a), decide_eq_true (show d.shown.length ≤ 16777216 by omega)]; rfl
theorem AX.none : AX 0 0 .none := ⟨by rw [noX], by rw [PyData.depth]; omega, by rw [PyData.showable], by rw [PyData.leavesShort], by rw [PyData.bulk]; omega⟩
theorem AX.str {x : Str} (h : ∀ c ∈ TL.tl x, c < 128) : AX 0 x.length (.str x) := by
  refine ⟨by rw [noX], by rw [PyData.depth]; omega, by rw [PyData.showable], ?_, by rw [PyData.bulk]; exact Nat.le_refl _⟩
  rw [PyData.leavesShort, List.all_eq_true]
  intro c hc
  exact decide_eq_true (Nat.lt_of_lt_of_le (h c hc) (by decide))
def axB (k n : Nat) (d : D) : Bool := noX d && decide (d.depth ≤ k) && d.showable && d.leavesShort 200 && decide (d.bulk ≤ n)
theorem axB_ok {k n : Nat} {d : D} (h : axB k n d = true) : AX k n d := by
  simp only [axB, Bool.and_eq_true, decide_eq_true_eq] at h
  exact ⟨h.1.1.1.1, h.1.1.1.2, h.1.1.2, h.1.2, h.2⟩
mutual
theorem lay_noX : ∀ d : D, d.canLay0 = true → noX d = true
  | .none, _ => by rw [noX]
  | .bool _, _ => by rw [noX]
  | .int _, _ => by rw [noX]
  | .str _, _ => by rw [noX]
  | .list ds, h => by rw [noX]; exact lay_noXs ds (by rw [PyData.canLay0] at h; exact h)
  | .tuple ds, h => by rw [noX]; exact lay_noXs ds (by rw [PyData.canLay0] at h; exact h)
  | .dict _, h => by rw [PyData.canLay0] at h; cases h
theorem lay_noXs : ∀ ds : List D, PyData.canLayAll0 ds = true → noXs ds = true
  | [], _ => by rw [noXs]
  | d :: ds, h => by
    rw [PyData.canLayAll0, Bool.and_eq_true] at h
    rw [noXs, lay_noX d h.1, lay_noXs ds h.2]; rfl
end
theorem OS.ax {k n : Nat} {d : D} (h : OS k n d) : AX k n d := ⟨lay_noX _ h.lay, h.dep, h.sh, h.sho, h.blk⟩
theorem os_Tn {es : List (Option Str)} (h : ∀ e ∈ es, GoodE e) : OS 1 (9 * es.length) (T es) := by
  have := OS.tuple (k := 0) (n := 8) (entries_OS h)
  rw [List.length_map] at this
  exact this
theorem ax_int (i : Int) (h : -1 ≤ i) (h2 : i ≤ 1000) : AX 0 60 (.int i) := by
  by_cases c : i = -1
  · rw [c]; exact axB_ok (by decide +kernel)
  · have := (os_nat i.toNat (by omega)).ax
    rw [Int.toNat_of_nonneg (by omega)] at this
    exact this.mono (by omega) (by omega)
def five : List Str := [("dup" : Str), ("close" : Str), ("dup_from" : Str), ("dup2" : Str), ("shut" : Str)]
theorem five_ok : ∀ w ∈ five, w.length ≤ 8 ∧ ∀ c ∈ TL.tl w, c < 128 := by
  intro w hw
  unfold five at hw
  simp only [List.mem_cons, List.not_mem_nil, or_false] at hw
  rcases hw with rfl | rfl | rfl | rfl | rfl <;> exact ⟨by decide +kernel, by decide +kernel⟩
theorem vd_tup {w : Str} {r : List D} (hw : w ∈ five) (hl : r.length ≤ 3) (hr : ∀ e ∈ r, isExc e = false) : Vd (.tuple (.str w :: r)) where
  hx := rfl
  ht := fun q e => by
    cases e
    refine ⟨by simp only [List.length_cons]; omega, fun e he => ?_⟩
    rcases List.mem_cons.mp he with rfl | he
    · rfl
    · exact hr e he
  hs := fun w' r' e n hn => by
    cases e
    refine (OS.tuple (k := 0) (n := 8) fun d hd => ?_).shaped (by omega)
    simp only [List.mem_cons, List.not_mem_nil, or_false] at hd
    rcases hd with rfl | rfl
    · exact os_word (five_ok _ hw).1 (five_ok _ hw).2
    · exact os_int hn
theorem vd_odd {x : D} {r : List D} (hs : ∀ w, x ≠ .str w) (hl : r.length ≤ 3) (hx : isExc x = false) (hr : ∀ e ∈ r, isExc e = false) : Vd (.tuple (x :: r)) where
  hx := rfl
  ht := fun q e => by
    cases e
    refine ⟨by simp only [List.length_cons]; omega, fun e he => ?_⟩
    rcases List.mem_cons.mp he with rfl | he
    · exact hx
    · exact hr e he
  hs := fun w' r' e n hn => by
    cases e
    exact absurd rfl (hs w')
theorem vd_oth {d : D} (hx : isExc d = false) (ht : ∀ r, d ≠ .tuple r) : Vd d := ⟨hx, fun r e => absurd e (ht r), fun w r e => absurd e (ht _)⟩
theorem vd_nil : Vd (.tuple []) := ⟨rfl, fun r e => by cases e; exact ⟨by simp, fun e he => by cases he⟩, fun w r e => by cases e⟩
theorem op_of {d : D} (h : isOp d = true) : ∃ o, d = opD o ∧ Bdo o := by
  match d, h with
  | .tuple (.str w :: r), h =>
    simp only [isOp, Bool.and_eq_true, decide_eq_true_eq, List.all_eq_true] at h
    obtain ⟨h1, h2⟩ := h
    rw [lk_ok] at h1
    have num : ∀ e ∈ r, ∃ a : Nat, e = .int (a : Int) ∧ a ≤ 999 := fun e he => by
      have := h2 e he
      match e, this with
      | .int i, this =>
        simp only [isNum, Bool.and_eq_true, decide_eq_true_eq] at this
        exact ⟨i.toNat, by congr 1; omega, by omega⟩
    have one : r.length = 1 → ∃ a : Nat, r = [.int (a : Int)] ∧ a ≤ 999 := fun e => by
      match r, e, num with
      | [x], _, num =>
        obtain ⟨a, rfl, ha⟩ := num x (by simp)
        exact ⟨a, rfl, ha⟩
    have two : r.length = 2 → ∃ a b : Nat, r = [.int (a : Int), .int (b : Int)] ∧ a ≤ 999 ∧ b ≤ 999 := fun e => by
      match r, e, num with
      | [x, y], _, num =>
        obtain ⟨a, rfl, ha⟩ := num x (by simp)
        obtain ⟨b, rfl, hb⟩ := num y (by simp)
        exact ⟨a, b, rfl, ha, hb⟩
    by_cases c1 : w = ("dup" : Str)
    · rw [if_pos c1] at h1
      obtain ⟨a, rfl, ha⟩ := one (by omega)
      subst c1
      exact ⟨.dup a, rfl, ha, Nat.zero_le _⟩
    · rw [if_neg c1] at h1
      by_cases c2 : w = ("dup_from" : Str)
      · rw [if_pos c2] at h1
        obtain ⟨a, b, rfl, ha, hb⟩ := two (by omega)
        subst c2
        exact ⟨.frm a b, rfl, ha, hb⟩
      · rw [if_neg c2] at h1
        by_cases c3 : w = ("dup2" : Str)
        · rw [if_pos c3] at h1
          obtain ⟨a, b, rfl, ha, hb⟩ := two (by omega)
          subst c3
          exact ⟨.onto a b, rfl, ha, hb⟩
        · rw [if_neg c3] at h1
          by_cases c4 : w = ("close" : Str)
          · rw [if_pos c4] at h1
            obtain ⟨a, rfl, ha⟩ := one (by omega)
            subst c4
            exact ⟨.cls a, rfl, ha, Nat.zero_le _⟩
          · rw [if_neg c4] at h1
            omega
def vA (s t : Int) : List D := [.tuple [.str ("dup" : Str), .int s], .tuple [.str ("dup" : Str), .int s], .tuple [.str ("close" : Str), .int s], .tuple [.str ("dup_from" : Str), .int s, .int t], .tuple [.str ("dup2" : Str), .int s, .int t]]
def vB (s : Int) : List D := [.tuple [.str ("dup2" : Str), .int s, .int s], .tuple [.str ("dup" : Str), .bool true], .tuple [.str ("dup" : Str), .int (-1)], .tuple [.str ("close" : Str), .int 1000], .tuple [.str ("dup_from" : Str), .int s], .list [.str ("dup" : Str), .int s]]
def vC (s t : Int) (S : Str) : List D := [.tuple [.str ("dup" : Str), .int s, .int t], .tuple [.str ("shut" : Str), .int s], .none, .tuple [], .int 0, .tuple [.str ("dup" : Str), .str S], .tuple [.str ("dup2" : Str), .int s, .none], .str ("dup" : Str)]
def vE (s : Int) : List D := [.tuple [.dict [], .int 0], .tuple [.list [], .int s], .tuple [.tuple [.str ("dup" : Str), .int s], .int s], .dict []]
def vals (s t : Int) (S : Str) : List D := ((vA s t ++ vB s) ++ vC s t S) ++ vE s
theorem vals_len (s t : Int) (S : Str) : (vals s t S).length = 23 := rfl
theorem ax_w {w : Str} (h : w ∈ five) : AX 0 60 (.str w) := (AX.str (five_ok w h).2).mono (by omega) (by have := (five_ok w h).1; omega)
theorem ax_t {k : Nat} {ds : List D} (hl : ds.length ≤ 3) (h : ∀ d ∈ ds, AX k 200 d) : AX (k + 1) 700 (.tuple ds) := (AX.tuple h).mono (by omega) (by
  have : (200 + 1) * ds.length ≤ (200 + 1) * 3 := Nat.mul_le_mul_left _ hl
  omega)
theorem ax_l {k : Nat} {ds : List D} (hl : ds.length ≤ 3) (h : ∀ d ∈ ds, AX k 200 d) : AX (k + 1) 700 (.list ds) := (AX.list h).mono (by omega) (by
  have : (200 + 1) * ds.length ≤ (200 + 1) * 3 := Nat.mul_le_mul_left _ hl
  omega)
theorem ax_tw {k : Nat} {w : Str} {r : List D} (hw : w ∈ five) (hl : r.length ≤ 2) (h : ∀ d ∈ r, AX k 200 d) : AX (k + 1) 700 (.tuple (.str w :: r)) := ax_t (by simp only [List.length_cons]; omega) fun d hd => by
  rcases List.mem_cons.mp hd with rfl | hd
  · exact (ax_w hw).mono (Nat.zero_le _) (by omega)
  · exact h d hd
theorem ax_e : AX 1 10 (.dict []) := axB_ok (by decide +kernel)
theorem ax_e2 : AX 1 0 (.list []) := axB_ok (by decide +kernel)
theorem ax_bool (b : Bool) : AX 0 60 (.bool b) := by cases b <;> exact axB_ok (by decide +kernel)
theorem vals_ok (s t : Int) (S : Str) (hs : 0 ≤ s) (hs2 : s ≤ 100) (ht : 0 ≤ t) (ht2 : t ≤ 100) (hS : S.length ≤ 60) (hS2 : ∀ c ∈ TL.tl S, c < 128) : ∀ d ∈ vals s t S, Vd d ∧ AX 3 800 d := by
  have wd : ("dup" : Str) ∈ five := by unfold five; simp
  have wc : ("close" : Str) ∈ five := by unfold five; simp
  have wf : ("dup_from" : Str) ∈ five := by unfold five; simp
  have w2 : ("dup2" : Str) ∈ five := by unfold five; simp
  have ws : ("shut" : Str) ∈ five := by unfold five; simp
  have is : AX 0 200 (.int s) := (ax_int s (by omega) (by omega)).mono (Nat.le_refl _) (by omega)
  have it : AX 0 200 (.int t) := (ax_int t (by omega) (by omega)).mono (Nat.le_refl _) (by omega)
  have io : ∀ i : Int, -1 ≤ i → i ≤ 1000 → AX 0 200 (.int i) := fun i a b => (ax_int i a b).mono (Nat.le_refl _) (by omega)
  have one : ∀ {w : Str} {x : D}, w ∈ five → isExc x = false → AX 0 200 x → Vd (.tuple [.str w, x]) ∧ AX 3 800 (.tuple [.str w, x]) := fun hw hx ha => ⟨vd_tup hw (by simp) (fun e he => by
    simp only [List.mem_cons, List.not_mem_nil, or_false] at he; subst he; exact hx), (ax_tw hw (by simp) fun d hd => by
    simp only [List.mem_cons, List.not_mem_nil, or_false] at hd; subst hd; exact ha).mono (by omega) (by omega)⟩
  have two : ∀ {w : Str} {x y : D}, w ∈ five → isExc x = false → AX 0 200 x → isExc y = false → AX 0 200 y → Vd (.tuple [.str w, x, y]) ∧ AX 3 800 (.tuple [.str w, x, y]) := fun hw hx ha hy hb => ⟨vd_tup hw (by simp) (fun e he => by
    simp only [List.mem_cons, List.not_mem_nil, or_false] at he; rcases he with rfl | rfl; exact hx; exact hy), (ax_tw hw (by simp) fun d hd => by
    simp only [List.mem_cons, List.not_mem_nil, or_false] at hd; rcases hd with rfl | rfl; exact ha; exact hb).mono (by omega) (by omega)⟩
  intro d hd
  unfold vals vA vB vC vE at hd
  simp only [List.cons_append, List.nil_append, List.mem_cons, List.not_mem_nil, or_false] at hd
  rcases hd with rfl | rfl | rfl | rfl | rfl | rfl | rfl | rfl | rfl | rfl | rfl | rfl | rfl | rfl | rfl | rfl | rfl | rfl | rfl | rfl | rfl | rfl | rfl
  · exact one wd rfl is
  · exact one wd rfl is
  · exact one wc rfl is
  · exact two wf rfl is rfl it
  · exact two w2 rfl is rfl it
  · exact two w2 rfl is rfl is
  · exact one wd rfl ((ax_bool true).mono (Nat.le_refl _) (by omega))
  · exact one wd rfl (io _ (by omega) (by omega))
  · exact one wc rfl (io _ (by omega) (by omega))
  · exact one wf rfl is
  · exact ⟨vd_oth rfl (fun r e => (by cases e)), (ax_l (k := 0) (by simp) fun d hd => by
      simp only [List.mem_cons, List.not_mem_nil, or_false] at hd
      rcases hd with rfl | rfl
      · exact (ax_w wd).mono (Nat.le_refl _) (by omega)
      · exact is).mono (by omega) (by omega)⟩
  · exact two wd rfl is rfl it
  · exact one ws rfl is
  · exact ⟨vd_oth rfl (fun r e => (by cases e)), AX.none.mono (by omega) (by omega)⟩
  · exact ⟨vd_nil, (ax_t (k := 0) (by simp) fun d hd => by cases hd).mono (by omega) (by omega)⟩
  · exact ⟨vd_oth rfl (fun r e => (by cases e)), (io 0 (by omega) (by omega)).mono (by omega) (by omega)⟩
  · exact one wd rfl ((AX.str hS2).mono (Nat.le_refl _) (by omega))
  · exact two w2 rfl is rfl (AX.none.mono (Nat.le_refl _) (by omega))
  · exact ⟨vd_oth rfl (fun r e => (by cases e)), (ax_w wd).mono (by omega) (by omega)⟩
  · exact ⟨vd_odd (fun w e => by cases e) (by simp) rfl (fun e he => by
      simp only [List.mem_cons, List.not_mem_nil, or_false] at he; subst he; rfl), (ax_t (k := 1) (by simp) fun d hd => by
      simp only [List.mem_cons, List.not_mem_nil, or_false] at hd
      rcases hd with rfl | rfl
      · exact ax_e.mono (Nat.le_refl _) (by omega)
      · exact (io 0 (by omega) (by omega)).mono (by omega) (by omega)).mono (by omega) (by omega)⟩
  · exact ⟨vd_odd (fun w e => by cases e) (by simp) rfl (fun e he => by
      simp only [List.mem_cons, List.not_mem_nil, or_false] at he; subst he; rfl), (ax_t (k := 1) (by simp) fun d hd => by
      simp only [List.mem_cons, List.not_mem_nil, or_false] at hd
      rcases hd with rfl | rfl
      · exact ax_e2.mono (Nat.le_refl _) (by omega)
      · exact is.mono (by omega) (by omega)).mono (by omega) (by omega)⟩
  · have a1 : AX 1 200 (.tuple [.str ("dup" : Str), .int s]) := by
      have := AX.tuple (k := 0) (n := 60) (ds := [.str ("dup" : Str), .int s]) fun d hd => by
        simp only [List.mem_cons, List.not_mem_nil, or_false] at hd
        rcases hd with rfl | rfl
        · exact ax_w wd
        · exact ax_int s (by omega) (by omega)
      exact this.mono (Nat.le_refl _) (by simp)
    exact ⟨vd_odd (fun w e => by cases e) (by simp) rfl (fun e he => by
      simp only [List.mem_cons, List.not_mem_nil, or_false] at he; subst he; rfl), (ax_t (k := 1) (by simp) fun d hd => by
      simp only [List.mem_cons, List.not_mem_nil, or_false] at hd
      rcases hd with rfl | rfl
      · exact a1
      · exact is.mono (by omega) (by omega)).mono (by omega) (by omega)⟩
  · exact ⟨vd_oth rfl (fun r e => (by cases e)), ax_e.mono (by omega) (by omega)⟩
def big50 : Int := 10 ^ 50
theorem pow50 : dPow (.int 10) (.int 50) = some (.int big50) := rfl
def cA (n : Int) : List D := [.none, .int n, .int n, .int (n + 1), .int (if n > 1 then n else 1), .int 100, .int (n - 1), .int 0, .int (-1), .int 101, .bool true, .bool false, .str ("9" : Str), .tuple [], .list [.int n]]
def cB : List D := [.int big50, .dict []]
theorem caps_len (n : Int) : (cA n ++ cB).length = 17 := rfl
theorem caps_ok (n : Int) (h0 : 0 ≤ n) (h1 : n ≤ 60) : ∀ d ∈ cA n ++ cB, isExc d = false ∧ AX 3 800 d := by
  have io : ∀ i : Int, -1 ≤ i → i ≤ 1000 → isExc (.int i) = false ∧ AX 3 800 (.int i) := fun i a b => ⟨rfl, (ax_int i a b).mono (by omega) (by omega)⟩
  intro d hd
  unfold cA cB at hd
  simp only [List.cons_append, List.nil_append, List.mem_cons, List.not_mem_nil, or_false] at hd
  rcases hd with rfl | rfl | rfl | rfl | rfl | rfl | rfl | rfl | rfl | rfl | rfl | rfl | rfl | rfl | rfl | rfl | rfl
  · exact ⟨rfl, AX.none.mono (by omega) (by omega)⟩
  · exact io _ (by omega) (by omega)
  · exact io _ (by omega) (by omega)
  · exact io _ (by omega) (by omega)
  · exact io _ (by split <;> omega) (by split <;> omega)
  · exact io _ (by omega) (by omega)
  · exact io _ (by omega) (by omega)
  · exact io _ (by omega) (by omega)
  · exact io _ (by omega) (by omega)
  · exact io _ (by omega) (by omega)
  · exact ⟨rfl, (ax_bool true).mono (by omega) (by omega)⟩
  · exact ⟨rfl, (ax_bool false).mono (by omega) (by omega)⟩
  · exact ⟨rfl, axB_ok (by decide +kernel)⟩
  · exact ⟨rfl, axB_ok (by decide +kernel)⟩
  · exact ⟨rfl, (ax_l (k := 0) (by simp) fun d hd => by
      simp only [List.mem_cons, List.not_mem_nil, or_false] at hd
      subst hd
      exact (ax_int n (by omega) (by omega)).mono (Nat.le_refl _) (by omega)).mono (by omega) (by omega)⟩
  · exact ⟨rfl, axB_ok (by decide +kernel)⟩
  · exact ⟨rfl, ax_e.mono (by omega) (by omega)⟩
end My

namespace My
open PySem PySem.Spec PyProof.Rows L2 GD GDX
theorem op_walk (P0 P1 P2 P3 P4 P5 : Mu) (es : List (Option Str)) (n s u v r m k t : Int) (S : Str) (d : D) (hn : (es.length : Int) = n) (hn0 : 0 ≤ n) (hn1 : n ≤ 60)
    (e1 : m__law_draw [.own true P0, .shr (.int (n + 2))] = some (.val (.int s), [some P1, none])) (e2 : m__law_draw [.own true P1, .shr (.int (n + 2))] = some (.val (.int u), [some P2, none]))
    (e3 : m__law_draw [.own true P2, .shr (.int 4)] = some (.val (.int v), [some P3, none])) (e4 : m__law_draw [.own true P3, .shr (.int 3)] = some (.val (.int r), [some P4, none]))
    (e5 : m__law_draw [.own true P4, .shr (.int m)] = some (.val (.int k), [some P5, none])) (h3 : atI [PyData.int u, .int n, .int 99, .int 0] v = some (.int t)) (h4 : atI [PyData.int 6, .int 6, .int 23] r = some (.int m))
    (hS : cStr [.int s] = some (.str S)) (hat : atI (vals s t S) k = some d) :
    m__law_operation [.own true P0, .shr (T es)] = some (.val d, [some P5, none]) := by
  have e0 : env0 6 [.own true P0, .shr (T es)] = [some (.own true P0), some (.shr (T es)), none, none, none, none] := rfl
  have ln := len_T es
  rw [hn] at ln
  have hi2 : dAddX (.int n) (.int 2) = some (.inl (.int (n + 2))) := c_addI
  have ha : dAddX (.list (vA s t)) (.list (vB s)) = some (.inr (.l (vA s t ++ vB s))) := rfl
  have hb : dAddX (.list (vA s t ++ vB s)) (.list (vC s t S)) = some (.inr (.l ((vA s t ++ vB s) ++ vC s t S))) := rfl
  have hc : dAddX (.list ((vA s t ++ vB s) ++ vC s t S)) (.list (vE s)) = some (.inr (.l (((vA s t ++ vB s) ++ vC s t S) ++ vE s))) := rfl
  unfold vals at hat
  generalize hA : vA s t ++ vB s = AB at *
  generalize hB : AB ++ vC s t S = ABC at *
  generalize hC : ABC ++ vE s = ABCE at *
  unfold vA vB at ha
  unfold vC at hb
  unfold vE at hc
  clear hA hB hC hn
  unfold m__law_operation b__law_operation
  rw [q_run, e0]
  generalize dAddX = AD at *
  clear hn0 hn1
  generalize T es = TT at *
  walk_at "gd"
theorem op_draw (ns : List Int) (es : List (Option Str)) (hl : es.length ≤ 60) (idx great : Int) (h0 : 0 ≤ idx) (h1 : idx + 10 < 1048000) (hg : 0 ≤ great) :
    ∃ (d : D) (idx' great' : Int), m__law_operation [.own true (pen ns idx great), .shr (T es)] = some (.val d, [some (pen ns idx' great'), none]) ∧ Vd d ∧ AX 3 800 d ∧ idx ≤ idx' ∧ idx' ≤ idx + 10 ∧ 0 ≤ great' := by
  obtain ⟨s, i1, g1, e1, a1, b1, c1, d1, f1⟩ := draw_ok ns idx great ((es.length : Int) + 2) h0 (by omega) hg (by omega) (by omega)
  obtain ⟨u, i2, g2, e2, a2, b2, c2, d2, f2⟩ := draw_ok ns i1 g1 ((es.length : Int) + 2) (by omega) (by omega) f1 (by omega) (by omega)
  obtain ⟨v, i3, g3, e3, a3, b3, c3, d3, f3⟩ := draw_ok ns i2 g2 4 (by omega) (by omega) f2 (by omega) (by omega)
  obtain ⟨r, i4, g4, e4, a4, b4, c4, d4, f4⟩ := draw_ok ns i3 g3 3 (by omega) (by omega) f3 (by omega) (by omega)
  obtain ⟨x, hx, h3⟩ := any_at [PyData.int u, .int (es.length : Int), .int 99, .int 0] v a3 (by simp; omega)
  obtain ⟨y, hy, h4⟩ := any_at [PyData.int 6, .int 6, .int 23] r a4 (by simp; omega)
  have hx' : ∃ t : Int, x = .int t ∧ 0 ≤ t ∧ t ≤ 100 := by
    simp only [List.mem_cons, List.not_mem_nil, or_false] at hx
    rcases hx with rfl | rfl | rfl | rfl
    · exact ⟨_, rfl, by omega, by omega⟩
    · exact ⟨_, rfl, by omega, by omega⟩
    · exact ⟨_, rfl, by omega, by omega⟩
    · exact ⟨_, rfl, by omega, by omega⟩
  have hy' : ∃ m : Int, y = .int m ∧ 6 ≤ m ∧ m ≤ 23 := by
    simp only [List.mem_cons, List.not_mem_nil, or_false] at hy
    rcases hy with rfl | rfl | rfl <;> exact ⟨_, rfl, by omega, by omega⟩
  obtain ⟨t, rfl, t0, t1⟩ := hx'
  obtain ⟨m, rfl, m0, m1⟩ := hy'
  obtain ⟨k, i5, g5, e5, a5, b5, c5, d5, f5⟩ := draw_ok ns i4 g4 m (by omega) (by omega) f4 (by omega) (by omega)
  have n3 : N3 s := ⟨a1, by omega⟩
  obtain ⟨d, hd, hat⟩ := any_at (vals s t (nT s)) k a5 (by rw [vals_len]; omega)
  have hv := vals_ok s t (nT s) a1 (by omega) t0 t1 (by have := n3_len n3; omega) (n3_signs n3) d hd
  exact ⟨d, i5, g5, op_walk _ _ _ _ _ _ es _ s u v r m k t (nT s) d rfl (by omega) (by omega) e1 e2 e3 e4 e5 h3 h4 (c_strI (n3_log n3)) hat, hv.1, hv.2, by omega, by omega, f5⟩
theorem lim_walk (P0 P1 P2 : Mu) (es : List (Option Str)) (n r m k : Int) (d : D) (hn : (es.length : Int) = n) (hn0 : 0 ≤ n) (hn1 : n ≤ 60)
    (e1 : m__law_draw [.own true P0, .shr (.int 3)] = some (.val (.int r), [some P1, none])) (e2 : m__law_draw [.own true P1, .shr (.int m)] = some (.val (.int k), [some P2, none]))
    (h4 : atI [PyData.int 6, .int 6, .int 17] r = some (.int m)) (hat : atI (cA n ++ cB) k = some d) :
    m__law_limit [.own true P0, .shr (T es)] = some (.val d, [some P2, none]) := by
  have e0 : env0 5 [.own true P0, .shr (T es)] = [some (.own true P0), some (.shr (T es)), none, none, none] := rfl
  have ln := len_T es
  rw [hn] at ln
  have g1 : -4611686018427387904 ≤ n := by omega
  have g2 : n < 4611686018427387904 := by omega
  have hp := pow50
  have hi1 : dAddX (.int n) (.int 1) = some (.inl (.int (n + 1))) := c_addI
  have ha : dAddX (.list (cA n)) (.list cB) = some (.inr (.l (cA n ++ cB))) := rfl
  generalize hA : cA n ++ cB = AB at *
  unfold cA cB at ha
  clear hA hn
  unfold m__law_limit b__law_limit
  rw [q_run, e0]
  generalize dAddX = AD at *
  clear hn0 hn1
  generalize T es = TT at *
  walk_at "gd"
theorem lim_draw (ns : List Int) (es : List (Option Str)) (hl : es.length ≤ 60) (idx great : Int) (h0 : 0 ≤ idx) (h1 : idx + 10 < 1048000) (hg : 0 ≤ great) :
    ∃ (c : D) (idx' great' : Int), m__law_limit [.own true (pen ns idx great), .shr (T es)] = some (.val c, [some (pen ns idx' great'), none]) ∧ isExc c = false ∧ AX 3 800 c ∧ idx ≤ idx' ∧ idx' ≤ idx + 10 ∧ 0 ≤ great' := by
  obtain ⟨r, i1, g1, e1, a1, b1, c1, d1, f1⟩ := draw_ok ns idx great 3 h0 (by omega) hg (by omega) (by omega)
  obtain ⟨y, hy, h4⟩ := any_at [PyData.int 6, .int 6, .int 17] r a1 (by simp; omega)
  have hy' : ∃ m : Int, y = .int m ∧ 6 ≤ m ∧ m ≤ 17 := by
    simp only [List.mem_cons, List.not_mem_nil, or_false] at hy
    rcases hy with rfl | rfl | rfl <;> exact ⟨_, rfl, by omega, by omega⟩
  obtain ⟨m, rfl, m0, m1⟩ := hy'
  obtain ⟨k, i2, g2, e2, a2, b2, c2, d2, f2⟩ := draw_ok ns i1 g1 m (by omega) (by omega) f1 (by omega) (by omega)
  obtain ⟨d, hd, hat⟩ := any_at (cA (es.length : Int) ++ cB) k a2 (by rw [caps_len]; omega)
  have hv := caps_ok (es.length : Int) (by omega) (by omega) d hd
  exact ⟨d, i2, g2, lim_walk _ _ _ es _ r m k d rfl (by omega) (by omega) e1 e2 h4 hat, hv.1, hv.2, by omega, by omega, f2⟩
theorem ax_repr {k n : Nat} {d : D} (h : AX k n d) (a : k ≤ 60) (b : n ≤ 4000) : ∃ R : Str, cReprX [d] = some (.str R) ∧ R.length ≤ 900000 := by
  refine ⟨d.shown, c_reprX (h.ok a (by omega)), ?_⟩
  have h1 := PyData.shown_le_bulk 200 (by decide) d h.sho
  have h2 : (200 + 2) * d.bulk ≤ 202 * n := Nat.mul_le_mul_left _ h.blk
  omega
theorem one_ok (es : List (Option Str)) (hg : ∀ e ∈ es, GoodE e) (hl : es.length ≤ 60) (d c : D) (hd : Vd d) (hc : isExc c = false) (ac : AX 3 800 c) :
    ∃ Z : Str, m__law_heard (s3 (T es) d c) = some (.val (.str Z), [none, none, none]) ∧ m__law_due (s3 (T es) d c) = some (.val (.str Z), [none, none, none]) := by
  have o1 := op_all d hd
  have o2 := lop_all d hd
  obtain ⟨R, hR, hRl⟩ := ax_repr ac (by omega) (by omega)
  obtain ⟨RN, hRN, hRNl⟩ := ax_repr AX.none (by omega) (by omega)
  cases io : isOp d with
  | false =>
    rw [io] at o1 o2
    exact ⟨_, heard_rs (T es) d c .none _ _ _ RN (app_op _ d c o1) hRN hRNl (.inl ⟨rfl, rfl, rfl⟩), due_op _ d c o2⟩
  | true =>
    rw [io] at o1 o2
    obtain ⟨o, rfl, hb⟩ := op_of io
    -- a limit that is one
    have good : ∀ cap : Option Nat, (∀ q, cap = some q → 1 ≤ q ∧ q ≤ 100 ∧ es.length ≤ q) → capD cap = c → ∃ Z : Str, m__law_heard (s3 (T es) (opD o) c) = some (.val (.str Z), [none, none, none]) ∧ m__law_due (s3 (T es) (opD o) c) = some (.val (.str Z), [none, none, none]) := fun cap hq e => by
      subst e
      have hk : Okt cap 300 es := ⟨by omega, hg, hq⟩
      have hk2 : Okt cap 2300 es := ⟨by omega, hg, hq⟩
      have ap := apply_ok cap es o hk2 hb
      obtain ⟨R1, hR1, hR1l⟩ := ax_repr (ax_int (o.src : Int) (by omega) (by have := hb.1; omega)) (by omega) (by omega)
      have due := due_ok cap es o R1 R hk hb o2 hR1 hR hR1l hRl
      refine ⟨_, ?_, due⟩
      unfold outS
      cases hst : step cap es o with
      | ok t =>
        rw [hst] at ap
        exact heard_ret _ _ _ (t.map eD) ap
      | free =>
        rw [hst] at ap
        exact heard_rs _ _ _ _ _ _ _ R1 ap hR1 hR1l (.inr (.inr (.inl ⟨rfl, rfl, rfl⟩)))
      | full =>
        rw [hst] at ap
        exact heard_rs _ _ _ _ _ _ _ R ap hR hRl (.inr (.inr (.inr ⟨rfl, rfl, rfl⟩)))
    cases hn : isN c with
    | true =>
      have : c = .none := by cases c <;> first | rfl | cases hn
      exact good none (fun q e => by cases e) this.symm
    | false =>
      have ck := chk_all es c hc hn
      cases hz : inZ (max 1 (es.length : Int)) 100 c with
      | false =>
        rw [hz] at ck
        exact ⟨_, heard_rs (T es) (opD o) c c _ _ _ R (app_cap _ _ _ o1 ck) hR hRl (.inr (.inl ⟨rfl, rfl, rfl⟩)), due_cap es (opD o) c R o2 hn hc hz hR hRl⟩
      | true =>
        match c, hz with
        | .int i, hz =>
          simp only [inZ, Bool.and_eq_true, decide_eq_true_eq] at hz
          refine good (some i.toNat) (fun q e => by cases e; omega) ?_
          show PyData.int ((i.toNat : Nat) : Int) = .int i
          congr 1
          omega
end My

namespace My
open PySem PySem.Spec PyProof.Rows L2 GD GDX
theorem for_ind {tg : D → En → Option En} {b : EvS} (I : List D → En → Prop) (hs : ∀ d ds env, I (d :: ds) env → ∃ e1, tg d env = some e1 ∧ ∃ e2, b e1 = some (.nx, e2) ∧ I ds e2) :
    ∀ ds env, I ds env → ∃ env', forE tg b ds env = some (.nx, env') ∧ I [] env'
  | [], env, h => ⟨env, rfl, h⟩
  | d :: ds, env, h => by
    obtain ⟨e1, h1, e2, h2, h3⟩ := hs d ds env h
    obtain ⟨e3, h4, h5⟩ := for_ind I hs ds e2 h3
    exact ⟨e3, by rw [q_forc, h1, q_forb, h2, q_fork1, h4], h5⟩
theorem sq {a b : EvS} {e e' : En} (h : a e = some (.nx, e')) : sSeq a b e = b e' := by rw [q_seq, h, q_seq1]
noncomputable def I1 : EvS := (sPar 6 7 (aCons (eX (xCall m__law_operation (aCons (eVar 1) (aCons (eGive 4) aNil)))) (aCons (eX (xCall m__law_limit (aCons (eVar 1) (aCons (eGive 4) aNil)))) aNil)))
noncomputable def I2 : EvS := (sSetX 8 (xE (eCa cReprX (aCons (eTup (aCons (eGive 4) (aCons (eGive 6) (aCons (eGive 7) aNil)))) aNil))))
noncomputable def I3 : EvS := (sIf (tVal (eOp dNe (eX (xCall m__law_heard (aCons (eGive 4) (aCons (eGive 6) (aCons (eGive 7) aNil))))) (eX (xCall m__law_due (aCons (eGive 4) (aCons (eGive 6) (aCons (eGive 7) aNil))))))) (sRetX (xE (eC (.bool false)))) sNext)
noncomputable def I4 : EvS := (sIf (tVal (eOp dNe (eCa cReprX (aCons (eTup (aCons (eGive 4) (aCons (eGive 6) (aCons (eGive 7) aNil)))) aNil)) (eVar 8))) (sRetX (xE (eC (.bool false)))) sNext)
noncomputable def IN : EvS := sSeq I1 (sSeq I2 (sSeq I3 I4))
noncomputable def L1 : EvS := (sSetX 3 (xCall m__law_pool (aCons (eVar 1) (aCons (eX (xOp dAddX (eC (.int 1)) (eX (xCall m__law_draw (aCons (eVar 1) (aCons (eC (.int 3)) aNil)))))) aNil))))
noncomputable def L2' : EvS := (sSetX 4 (xCall m__law_table (aCons (eVar 1) (aCons (eGive 3) (aCons (eC (.int 9)) aNil)))))
noncomputable def CO : EvM := (eComp [9] (wAny (eGive 4)) (gN 9) tYesE (eOrT (eVar 9) (eOp dIx (eVar 3) (eC (.int 0)))))
noncomputable def L3 : EvS := (sIf (tVal (eOp dEq (eX (xCall m__law_draw (aCons (eVar 1) (aCons (eC (.int 2)) aNil)))) (eC (.int 0)))) (sSetX 4 (xE (eCa cTuple (aCons (eX (xM CO)) aNil)))) sNext)
noncomputable def L4 : EvS := sFor (wRng1 (aCons (eC (.int 10)) aNil)) (gN 5) IN
noncomputable def TURN : EvS := sSeq L1 (sSeq L2' (sSeq L3 L4))
noncomputable def FIN : EvS := (sRetX (xE (eAnd (eOp dEq (eX (xCall m__law_heard (aCons (eTup (aCons (eC (.str ("a" : Str))) aNil)) (aCons (eTup (aCons (eC (.str ("dup2" : Str))) (aCons (eC (.int 0)) (aCons (eC (.int 0)) aNil)))) (aCons (eC (.int 1)) aNil))))) (eC (.str ("table" : Str)))) (eOp dEq (eX (xCall m__law_heard (aCons (eTup aNil) (aCons (eTup (aCons (eC (.str ("close" : Str))) (aCons (eC (.int 0)) aNil))) (aCons (eC (.bool true)) aNil))))) (eC (.str ("limit True" : Str)))))))
theorem law_split : b_law = sSeq (sFor (wRng1 (aCons (eC (.int 4)) aNil)) (gN 2) TURN) FIN := rfl
theorem ne_str (Z : Str) : dNe (.str Z) (.str Z) = some (.bool false) := by simp [dNe, dEqB, sc, scEq]
theorem i1_ok (P0 P1 P2 : Mu) (t d c : D) (o0 o2 o3 o5 o6 o7 o8 o9 : Option Sl) (e1 : m__law_operation [.own true P0, .shr t] = some (.val d, [some P1, none])) (e2 : m__law_limit [.own true P1, .shr t] = some (.val c, [some P2, none])) :
    I1 [o0, some (.own false P0), o2, o3, some (.shr t), o5, o6, o7, o8, o9] = some (.nx, [o0, some (.own false P2), o2, o3, some (.shr t), o5, some (.shr d), some (.shr c), o8, o9]) := by
  unfold I1
  walk_at "gd"
theorem i2_ok (Y : Str) (t d c : D) (p o0 o2 o3 o5 o8 o9 : Option Sl) (hY : cReprX [.tuple [t, d, c]] = some (.str Y)) :
    I2 [o0, p, o2, o3, some (.shr t), o5, some (.shr d), some (.shr c), o8, o9] = some (.nx, [o0, p, o2, o3, some (.shr t), o5, some (.shr d), some (.shr c), some (.shr (.str Y)), o9]) := by
  unfold I2
  walk_at "gd"
theorem i3_ok (Z : Str) (t d c : D) (p o0 o2 o3 o5 o8 o9 : Option Sl) (h1 : m__law_heard (s3 t d c) = some (.val (.str Z), [none, none, none])) (h2 : m__law_due (s3 t d c) = some (.val (.str Z), [none, none, none])) :
    I3 [o0, p, o2, o3, some (.shr t), o5, some (.shr d), some (.shr c), o8, o9] = some (.nx, [o0, p, o2, o3, some (.shr t), o5, some (.shr d), some (.shr c), o8, o9]) := by
  have n := ne_str Z
  unfold I3
  walk_at "gd"
theorem i4_ok (Y : Str) (t d c : D) (p o0 o2 o3 o5 o9 : Option Sl) (hY : cReprX [.tuple [t, d, c]] = some (.str Y)) :
    I4 [o0, p, o2, o3, some (.shr t), o5, some (.shr d), some (.shr c), some (.shr (.str Y)), o9] = some (.nx, [o0, p, o2, o3, some (.shr t), o5, some (.shr d), some (.shr c), some (.shr (.str Y)), o9]) := by
  have n := ne_str Y
  unfold I4
  walk_at "gd"
def PI (ns : List Int) (t : D) (o0 o2 o3 o9 : Option Sl) (i0 : Int) (ds : List D) (env : En) : Prop :=
  ∃ (i g : Int) (o5 o6 o7 o8 : Option Sl), env = [o0, some (.own false (pen ns i g)), o2, o3, some (.shr t), o5, o6, o7, o8, o9] ∧ i0 ≤ i ∧ i + 20 * ds.length ≤ i0 + 200 ∧ 0 ≤ g
theorem in_loop (ns : List Int) (es : List (Option Str)) (hg : ∀ e ∈ es, GoodE e) (hl : es.length ≤ 60) (i g : Int) (h0 : 0 ≤ i) (h1 : i + 400 < 1048000) (g0 : 0 ≤ g) (o0 o2 o3 o5 o6 o7 o8 o9 : Option Sl) :
    ∃ (i' g' : Int) (p5 p6 p7 p8 : Option Sl), L4 [o0, some (.own false (pen ns i g)), o2, o3, some (.shr (T es)), o5, o6, o7, o8, o9] = some (.nx, [o0, some (.own false (pen ns i' g')), o2, o3, some (.shr (T es)), p5, p6, p7, p8, o9]) ∧ i ≤ i' ∧ i' ≤ i + 200 ∧ 0 ≤ g' := by
  have axT := (os_Tn hg).ax
  obtain ⟨env', e1, ⟨j, q, p5, p6, p7, p8, rfl, a1, a2, a3⟩⟩ := for_ind (tg := gN 5) (b := IN) (PI ns (T es) o0 o2 o3 o9 i) (fun d ds env => by
    rintro ⟨j, q, p5, p6, p7, p8, rfl, a1, a2, a3⟩
    simp only [List.length_cons] at a2
    refine ⟨[o0, some (.own false (pen ns j q)), o2, o3, some (.shr (T es)), some (.shr d), p6, p7, p8, o9], rfl, ?_⟩
    obtain ⟨v, j1, q1, f1, hv, av, b1, b2, b3⟩ := op_draw ns es hl j q (by omega) (by omega) a3
    obtain ⟨c, j2, q2, f2, hc, ac, c1, c2, c3⟩ := lim_draw ns es hl j1 q1 (by omega) (by omega) b3
    obtain ⟨Z, z1, z2⟩ := one_ok es hg hl v c hv hc ac
    have axA : AX 4 2500 (.tuple [T es, v, c]) := by
      have := AX.tuple (k := 3) (n := 800) (ds := [T es, v, c]) fun x hx => by
        simp only [List.mem_cons, List.not_mem_nil, or_false] at hx
        rcases hx with rfl | rfl | rfl
        · exact axT.mono (by omega) (by omega)
        · exact av
        · exact ac
      exact this.mono (Nat.le_refl _) (by simp)
    obtain ⟨Y, hY, _⟩ := ax_repr axA (by omega) (by omega)
    refine ⟨[o0, some (.own false (pen ns j2 q2)), o2, o3, some (.shr (T es)), some (.shr d), some (.shr v), some (.shr c), some (.shr (.str Y)), o9], ?_, j2, q2, _, _, _, _, rfl, by omega, by omega, c3⟩
    unfold IN
    rw [sq (i1_ok _ _ _ (T es) v c o0 o2 o3 _ p6 p7 p8 o9 f1 f2), sq (i2_ok Y (T es) v c _ o0 o2 o3 _ p8 o9 hY), sq (i3_ok Z (T es) v c _ o0 o2 o3 _ _ o9 z1 z2), i4_ok Y (T es) v c _ o0 o2 o3 _ o9 hY]) (rangeD 0 10) [o0, some (.own false (pen ns i g)), o2, o3, some (.shr (T es)), o5, o6, o7, o8, o9] ⟨i, g, _, _, _, _, rfl, by omega, by rw [range_len]; omega, g0⟩
  simp only [List.length_nil] at a2
  refine ⟨j, q, p5, p6, p7, p8, ?_, a1, by omega, a3⟩
  unfold L4
  generalize IN = FF at *
  clear a1 a2 a3 axT hg
  walk_at "gd"
theorem l1_ok (P0 P1 P2 : Mu) (r : Int) (ps : List D) (o0 o2 o3 o4 o5 o6 o7 o8 o9 : Option Sl) (e1 : m__law_draw [.own true P0, .shr (.int 3)] = some (.val (.int r), [some P1, none])) (e2 : m__law_pool [.own true P1, .shr (.int (1 + r))] = some (.new (.l ps), [some P2, none])) :
    L1 [o0, some (.own false P0), o2, o3, o4, o5, o6, o7, o8, o9] = some (.nx, [o0, some (.own false P2), o2, some (.own false (.l ps)), o4, o5, o6, o7, o8, o9]) := by
  have hi : dAddX (.int 1) (.int r) = some (.inl (.int (1 + r))) := c_addI
  generalize dAddX = AD at hi
  unfold L1
  walk_at "gd"
theorem l2_ok (P0 P1 : Mu) (t : D) (ps : List D) (o0 o2 o4 o5 o6 o7 o8 o9 : Option Sl) (e1 : m__law_table [.own true P0, .shr (.list ps), .shr (.int 9)] = some (.val t, [some P1, none, none])) :
    L2' [o0, some (.own false P0), o2, some (.own false (.l ps)), o4, o5, o6, o7, o8, o9] = some (.nx, [o0, some (.own false P1), o2, some (.shr (.list ps)), some (.shr t), o5, o6, o7, o8, o9]) := by
  unfold L2'
  walk_at "gd"
def fillE (p : Str) (e : Option Str) : Option Str := some (e.getD p)
theorem co_ok (ps : List Str) (p : Str) (hp : ps.head? = some p) (es : List (Option Str)) (hl : es.length ≤ 60) (he : ∀ e ∈ es, GN e) (P o0 o2 o5 o6 o7 o8 : Option Sl) :
    compE [9] (gN 9) tYesE (eOrT (eVar 9) (eOp dIx (eVar 3) (eC (.int 0)))) (es.map eD) [] [o0, P, o2, some (.shr (.list (ps.map PyData.str))), some (.shr (T es)), o5, o6, o7, o8, none]
      = some ((es.map (fillE p)).map eD, [o0, P, o2, some (.shr (.list (ps.map PyData.str))), some (.shr (T es)), o5, o6, o7, o8, none]) := by
  have a0 : atI (ps.map PyData.str) 0 = some (.str p) := by
    cases ps with
    | nil => cases hp
    | cons x r => cases hp; exact at0x _ _
  have hc := comp_all (vs := [9]) (tg := gN 9) (ft := tYesE) (fe := eOrT (eVar 9) (eOp dIx (eVar 3) (eC (.int 0)))) (env := [o0, P, o2, some (.shr (.list (ps.map PyData.str))), some (.shr (T es)), o5, o6, o7, o8, none]) eD (fun e => eD (fillE p e)) es [] (by simp; omega) (fun e hm ds acc hacc => by
    have hgn := he e hm
    generalize T es = TT at *
    cases e with
    | none =>
      have t : truD PyData.none = some false := rfl
      clear hm hgn
      simp only [eD, fillE, Option.getD]
      walk_at "gd"
    | some w =>
      have hw := hgn w rfl
      have t : truD (.str w) = some true := by
        show (if small w.length = true then some ((w.length : Int) != 0) else none) = some true
        rw [if_pos (show small w.length = true from decide_eq_true (by have := hw.2.1; omega))]
        have h9 := hw.1
        have h8 : ((w.length : Int) != 0) = true := by
          rw [bne_iff_ne]; omega
        rw [h8]
      clear hm hgn hw
      simp only [eD, fillE, Option.getD]
      walk_at "gd")
  rw [List.nil_append] at hc
  rw [List.map_map]
  exact hc
theorem l3_ok (P0 P1 : Mu) (r : Int) (ps : List Str) (p : Str) (hp : ps.head? = some p) (es : List (Option Str)) (hl : es.length ≤ 60) (he : ∀ e ∈ es, GN e) (o0 o2 o5 o6 o7 o8 : Option Sl)
    (e1 : m__law_draw [.own true P0, .shr (.int 2)] = some (.val (.int r), [some P1, none])) :
    L3 [o0, some (.own false P0), o2, some (.shr (.list (ps.map PyData.str))), some (.shr (T es)), o5, o6, o7, o8, none]
      = some (.nx, [o0, some (.own false P1), o2, some (.shr (.list (ps.map PyData.str))), some (.shr (T (if r = 0 then es.map (fillE p) else es))), o5, o6, o7, o8, none]) := by
  by_cases h : r = 0
  · subst h
    rw [if_pos rfl]
    have co := co_ok ps p hp es hl he (some (.own false P1)) o0 o2 o5 o6 o7 o8
    have hT : T es = .tuple (es.map eD) := rfl
    have hT2 : T (es.map (fillE p)) = .tuple ((es.map (fillE p)).map eD) := rfl
    rw [hT] at co
    rw [hT, hT2]
    have t : decide ((0 : Int) = 0) = true := rfl
    generalize (es.map (fillE p)).map eD = FE at *
    generalize es.map eD = EE at *
    clear he hp hl hT hT2
    unfold L3 CO
    walk_at "gd"
  · rw [if_neg h]
    have t : decide (r = 0) = false := decide_eq_false h
    clear he hp hl h
    generalize T es = TT
    unfold L3
    walk_at "gd"
theorem turn_ok (ns : List Int) (i g : Int) (h0 : 0 ≤ i) (h1 : i + 1000 < 1048000) (hg : 0 ≤ g) (o0 o2 o3 o4 o5 o6 o7 o8 : Option Sl) :
    ∃ (i' g' : Int) (p3 p4 p5 p6 p7 p8 : Option Sl), TURN [o0, some (.own false (pen ns i g)), o2, o3, o4, o5, o6, o7, o8, none] = some (.nx, [o0, some (.own false (pen ns i' g')), o2, p3, p4, p5, p6, p7, p8, none]) ∧ i ≤ i' ∧ i' ≤ i + 400 ∧ 0 ≤ g' := by
  obtain ⟨r, i1, g1, e1, a1, b1, c1, d1, f1⟩ := draw_ok ns i g 3 h0 (by omega) hg (by omega) (by omega)
  obtain ⟨ps, i2, g2, e2, hp, hpl, a2, b2, c2⟩ := pool_nm ns i1 g1 (1 + r) (by omega) (by omega) f1 (by omega) (by omega)
  obtain ⟨es, i3, g3, e3, he, hel, a3, b3, c3⟩ := table_draw ns ps (by omega) (by omega) hp i2 g2 (by omega) (by omega) c2
  obtain ⟨r2, i4, g4, e4, a4, b4, c4, d4, f4⟩ := draw_ok ns i3 g3 2 (by omega) (by omega) c3 (by omega) (by omega)
  obtain ⟨p, hps⟩ : ∃ p, ps.head? = some p := by
    cases ps with
    | nil => simp at hpl; omega
    | cons x l => exact ⟨x, rfl⟩
  have hpn : NM p := hp p (List.mem_of_mem_head? hps)
  have hfe : ∀ e ∈ (if r2 = 0 then es.map (fillE p) else es), GN e := by
    split
    · intro e hm
      obtain ⟨x, hx, rfl⟩ := List.mem_map.mp hm
      intro w hw
      cases x with
      | none => cases hw; exact hpn
      | some y => cases hw; exact he _ hx _ rfl
    · exact he
  have hfl : (if r2 = 0 then es.map (fillE p) else es).length ≤ 60 := by
    split
    · rw [List.length_map]; omega
    · omega
  obtain ⟨i5, g5, p5, p6, p7, p8, e5, a5, b5, c5⟩ := in_loop ns (if r2 = 0 then es.map (fillE p) else es) (fun e h => (hfe e h).good) hfl i4 g4 (by omega) (by omega) f4 o0 o2 (some (.shr (.list (ps.map PyData.str)))) o5 o6 o7 o8 none
  refine ⟨i5, g5, some (.shr (.list (ps.map PyData.str))), some (.shr (T (if r2 = 0 then es.map (fillE p) else es))), p5, p6, p7, p8, ?_, by omega, by omega, c5⟩
  unfold TURN
  rw [sq (l1_ok _ _ _ r (ps.map PyData.str) o0 o2 o3 o4 o5 o6 o7 o8 none e1 e2), sq (l2_ok _ _ (T es) (ps.map PyData.str) o0 o2 o4 o5 o6 o7 o8 none e3), sq (l3_ok _ _ r2 ps p hps es (by omega) he o0 o2 o5 o6 o7 o8 e4), e5]
theorem law_loop (ns : List Int) : ∀ (ds : List D) (i g : Int) (o0 o2 o3 o4 o5 o6 o7 o8 : Option Sl), 0 ≤ i → i + 1000 * (ds.length + 1) < 1048000 → 0 ≤ g →
    ∃ (i' g' : Int) (p2 p3 p4 p5 p6 p7 p8 : Option Sl), forE (gN 2) TURN ds [o0, some (.own false (pen ns i g)), o2, o3, o4, o5, o6, o7, o8, none] = some (.nx, [o0, some (.own false (pen ns i' g')), p2, p3, p4, p5, p6, p7, p8, none]) := by
  intro ds
  induction ds with
  | nil => exact fun i g o0 o2 o3 o4 o5 o6 o7 o8 h0 h1 hg => ⟨i, g, o2, o3, o4, o5, o6, o7, o8, rfl⟩
  | cons d ds rec =>
    intro i g o0 o2 o3 o4 o5 o6 o7 o8 h0 h1 hg
    simp only [List.length_cons] at h1
    obtain ⟨i2, g2, p3, p4, p5, p6, p7, p8, e2, a2, b2, c2⟩ := turn_ok ns i g h0 (by omega) hg o0 (some (.shr d)) o3 o4 o5 o6 o7 o8
    obtain ⟨i3, g3, q2, q3, q4, q5, q6, q7, q8, ih⟩ := rec i2 g2 o0 (some (.shr d)) p3 p4 p5 p6 p7 p8 (by omega) (by omega) c2
    refine ⟨i3, g3, q2, q3, q4, q5, q6, q7, q8, Eq.trans ?_ ih⟩
    generalize TURN = FF at e2 ⊢
    clear ih rec
    walk_at "gd"
theorem fin_ok (env : En) : FIN env = some (.rt (.val (.bool true)), env) := by
  have s1 : m__law_heard (s3 (.tuple [.str ("a" : Str)]) (.tuple [.str ("dup2" : Str), .int 0, .int 0]) (.int 1)) = some (.val (.str ("table" : Str)), [none, none, none]) := by
    have ap := apply_ok (some 1) [some ("a" : Str)] (.onto 0 0) ⟨by decide, fun e he w hw => by
      simp only [List.mem_cons, List.not_mem_nil, or_false] at he
      subst he
      cases hw
      exact ⟨by decide +kernel, by decide +kernel⟩, fun c hc => by cases hc; exact ⟨by decide, by decide, by decide⟩⟩ ⟨by decide, by decide⟩
    exact heard_ret _ _ _ _ ap
  have s2 : m__law_heard (s3 (.tuple []) (.tuple [.str ("close" : Str), .int 0]) (.bool true)) = some (.val (.str ("limit True" : Str)), [none, none, none]) := by
    have ck := chk_all [] (.bool true) rfl rfl
    have rp : cReprX [PyData.bool true] = some (.str ("True" : Str)) := by
      rw [c_reprX ((ax_bool true).ok (by omega) (by omega))]
      congr 2
    have e : ("limit True" : Str) = ("limit " : Str) ++ ("True" : Str) := by decide +kernel
    rw [e]
    exact heard_rs _ _ _ _ _ _ _ ("True" : Str) (app_cap _ _ _ (is2 _ look_close 0 (by omega)) ck) rp (by decide +kernel) (.inr (.inl ⟨rfl, rfl, rfl⟩))
  have q1 : dEq (.str ("table" : Str)) (.str ("table" : Str)) = some (.bool true) := by simp [dEq, dEqB, sc, scEq]
  have q2 : dEq (.str ("limit True" : Str)) (.str ("limit True" : Str)) = some (.bool true) := by simp [dEq, dEqB, sc, scEq]
  unfold FIN
  walk_at "gd"
theorem math : ∀ ns : List Int, ns.length ≤ 63 → ∃ env', b_law (penv 10 ns) = some (.rt (.val (.bool true)), env') := by
  intro ns _
  have e0 : penv 10 ns = [none, some (.own false (pen ns 0 0)), none, none, none, none, none, none, none, none] := rfl
  obtain ⟨i2, g2, p2, p3, p4, p5, p6, p7, p8, ih⟩ := law_loop ns (rangeD 0 4) 0 0 none none none none none none none none (by omega) (by rw [range_len]; omega) (by omega)
  refine ⟨[none, some (.own false (pen ns i2 g2)), p2, p3, p4, p5, p6, p7, p8, none], ?_⟩
  rw [law_split, e0]
  have hf : sFor (wRng1 (aCons (eC (.int 4)) aNil)) (gN 2) TURN [none, some (.own false (pen ns 0 0)), none, none, none, none, none, none, none, none] = some (.nx, [none, some (.own false (pen ns i2 g2)), p2, p3, p4, p5, p6, p7, p8, none]) := by
    generalize TURN = FF at ih ⊢
    walk_at "gd"
  rw [sq hf]
  exact fin_ok _
end My

namespace My
open PySem PySem.Spec PyProof.Rows L2 GD GDX
set_option maxHeartbeats 0 in
theorem all_mk {l : PySem.W.OpenLaw} {w : World} {K : PySem.W.Frag} {h : Heap} {mg : Str → Option Value} {fa f0 f1 f2 f3 f4 f5 f6 f7 f8 f9 f10 f11 f12 f13 f14 f15 f16 f17 f18 f19 f20 f21 : Addr} (X : K.In h) (G : h.Ns mainGlobals mg) (hfa : mg "law" = some (.ref fa))
    {od0 an0 od1 an1 od2 an2 od3 an3 od4 an4 od5 an5 od6 an6 od7 an7 od8 an8 od9 an9 od10 an10 od11 an11 od12 an12 od13 an13 od14 an14 od15 an15 od16 an16 od17 an17 od18 an18 od19 an19 od20 an20 od21 an21 : Option Addr} {sl0 sl1 sl2 sl3 sl4 sl5 sl6 sl7 sl8 sl9 sl10 sl11 sl12 sl13 sl14 sl15 sl16 sl17 sl18 sl19 sl20 sl21 : Array (Option Value)} {oc0 kV0 dc0 pm0 cd0 ct0 oc1 kV1 dc1 pm1 cd1 ct1 oc2 kV2 dc2 pm2 cd2 ct2 oc3 kV3 dc3 pm3 cd3 ct3 oc4 kV4 dc4 pm4 cd4 ct4 oc5 kV5 dc5 pm5 cd5 ct5 oc6 kV6 dc6 pm6 cd6 ct6 oc7 kV7 dc7 pm7 cd7 ct7 oc8 kV8 dc8 pm8 cd8 ct8 oc9 kV9 dc9 pm9 cd9 ct9 oc10 kV10 dc10 pm10 cd10 ct10 oc11 kV11 dc11 pm11 cd11 ct11 oc12 kV12 dc12 pm12 cd12 ct12 oc13 kV13 dc13 pm13 cd13 ct13 oc14 kV14 dc14 pm14 cd14 ct14 oc15 kV15 dc15 pm15 cd15 ct15 oc16 kV16 dc16 pm16 cd16 ct16 oc17 kV17 dc17 pm17 cd17 ct17 oc18 kV18 dc18 pm18 cd18 ct18 oc19 kV19 dc19 pm19 cd19 ct19 oc20 kV20 dc20 pm20 cd20 ct20 oc21 kV21 dc21 pm21 cd21 ct21 : Value} {t_MOST_LIMIT t_DUP t_DUP_FROM t_DUP_ONTO t_CLOSE t_MOST_NUMBER : Tok}
    (a0 : PySem.W.nsIn K mainGlobals "is_integer" = some (some (.ref f0))) (l0 : K.lookup f0 = some ⟨oc0, od0, .func (PySem.W.fnOf "is_integer" "is_integer" (defArgs s_is_integer) (defBody s_is_integer) (defScope s_is_integer) .none kV0 dc0 pm0 an0 cd0 ct0), sl0⟩) (c0 : PySem.W.codeIn K cd0 "is_integer" = true) (k0 : PySem.W.keepIn K (.ref f0) = true)
    (a1 : PySem.W.nsIn K mainGlobals "is_between" = some (some (.ref f1))) (l1 : K.lookup f1 = some ⟨oc1, od1, .func (PySem.W.fnOf "is_between" "is_between" (defArgs s_is_between) (defBody s_is_between) (defScope s_is_between) .none kV1 dc1 pm1 an1 cd1 ct1), sl1⟩) (c1 : PySem.W.codeIn K cd1 "is_between" = true) (k1 : PySem.W.keepIn K (.ref f1) = true)
    (a2 : PySem.W.nsIn K mainGlobals "check_limit" = some (some (.ref f2))) (l2 : K.lookup f2 = some ⟨oc2, od2, .func (PySem.W.fnOf "check_limit" "check_limit" (defArgs s_check_limit) (defBody s_check_limit) (defScope s_check_limit) .none kV2 dc2 pm2 an2 cd2 ct2), sl2⟩) (c2 : PySem.W.codeIn K cd2 "check_limit" = true) (k2 : PySem.W.keepIn K (.ref f2) = true)
    (a3 : PySem.W.nsIn K mainGlobals "trimmed" = some (some (.ref f3))) (l3 : K.lookup f3 = some ⟨oc3, od3, .func (PySem.W.fnOf "trimmed" "trimmed" (defArgs s_trimmed) (defBody s_trimmed) (defScope s_trimmed) .none kV3 dc3 pm3 an3 cd3 ct3), sl3⟩) (c3 : PySem.W.codeIn K cd3 "trimmed" = true) (k3 : PySem.W.keepIn K (.ref f3) = true)
    (a4 : PySem.W.nsIn K mainGlobals "object_at" = some (some (.ref f4))) (l4 : K.lookup f4 = some ⟨oc4, od4, .func (PySem.W.fnOf "object_at" "object_at" (defArgs s_object_at) (defBody s_object_at) (defScope s_object_at) .none kV4 dc4 pm4 an4 cd4 ct4), sl4⟩) (c4 : PySem.W.codeIn K cd4 "object_at" = true) (k4 : PySem.W.keepIn K (.ref f4) = true)
    (a5 : PySem.W.nsIn K mainGlobals "free_slot" = some (some (.ref f5))) (l5 : K.lookup f5 = some ⟨oc5, od5, .func (PySem.W.fnOf "free_slot" "free_slot" (defArgs s_free_slot) (defBody s_free_slot) (defScope s_free_slot) .none kV5 dc5 pm5 an5 cd5 ct5), sl5⟩) (c5 : PySem.W.codeIn K cd5 "free_slot" = true) (k5 : PySem.W.keepIn K (.ref f5) = true)
    (a6 : PySem.W.nsIn K mainGlobals "with_entry" = some (some (.ref f6))) (l6 : K.lookup f6 = some ⟨oc6, od6, .func (PySem.W.fnOf "with_entry" "with_entry" (defArgs s_with_entry) (defBody s_with_entry) (defScope s_with_entry) .none kV6 dc6 pm6 an6 cd6 ct6), sl6⟩) (c6 : PySem.W.codeIn K cd6 "with_entry" = true) (k6 : PySem.W.keepIn K (.ref f6) = true)
    (a7 : PySem.W.nsIn K mainGlobals "is_operation" = some (some (.ref f7))) (l7 : K.lookup f7 = some ⟨oc7, od7, .func (PySem.W.fnOf "is_operation" "is_operation" (defArgs s_is_operation) (defBody s_is_operation) (defScope s_is_operation) .none kV7 dc7 pm7 an7 cd7 ct7), sl7⟩) (c7 : PySem.W.codeIn K cd7 "is_operation" = true) (k7 : PySem.W.keepIn K (.ref f7) = true)
    (a8 : PySem.W.nsIn K mainGlobals "landing" = some (some (.ref f8))) (l8 : K.lookup f8 = some ⟨oc8, od8, .func (PySem.W.fnOf "landing" "landing" (defArgs s_landing) (defBody s_landing) (defScope s_landing) .none kV8 dc8 pm8 an8 cd8 ct8), sl8⟩) (c8 : PySem.W.codeIn K cd8 "landing" = true) (k8 : PySem.W.keepIn K (.ref f8) = true)
    (a9 : PySem.W.nsIn K mainGlobals "apply" = some (some (.ref f9))) (l9 : K.lookup f9 = some ⟨oc9, od9, .func (PySem.W.fnOf "apply" "apply" (defArgs s_apply) (defBody s_apply) (defScope s_apply) .none kV9 dc9 pm9 an9 cd9 ct9), sl9⟩) (c9 : PySem.W.codeIn K cd9 "apply" = true) (k9 : PySem.W.keepIn K (.ref f9) = true)
    (a10 : PySem.W.nsIn K mainGlobals "_law_pen" = some (some (.ref f10))) (l10 : K.lookup f10 = some ⟨oc10, od10, .func (PySem.W.fnOf "_law_pen" "_law_pen" (defArgs s__law_pen) (defBody s__law_pen) (defScope s__law_pen) .none kV10 dc10 pm10 an10 cd10 ct10), sl10⟩) (c10 : PySem.W.codeIn K cd10 "_law_pen" = true) (k10 : PySem.W.keepIn K (.ref f10) = true)
    (a11 : PySem.W.nsIn K mainGlobals "_law_draw" = some (some (.ref f11))) (l11 : K.lookup f11 = some ⟨oc11, od11, .func (PySem.W.fnOf "_law_draw" "_law_draw" (defArgs s__law_draw) (defBody s__law_draw) (defScope s__law_draw) .none kV11 dc11 pm11 an11 cd11 ct11), sl11⟩) (c11 : PySem.W.codeIn K cd11 "_law_draw" = true) (k11 : PySem.W.keepIn K (.ref f11) = true)
    (a12 : PySem.W.nsIn K mainGlobals "_law_pool" = some (some (.ref f12))) (l12 : K.lookup f12 = some ⟨oc12, od12, .func (PySem.W.fnOf "_law_pool" "_law_pool" (defArgs s__law_pool) (defBody s__law_pool) (defScope s__law_pool) .none kV12 dc12 pm12 an12 cd12 ct12), sl12⟩) (c12 : PySem.W.codeIn K cd12 "_law_pool" = true) (k12 : PySem.W.keepIn K (.ref f12) = true)
    (a13 : PySem.W.nsIn K mainGlobals "_law_trimmed" = some (some (.ref f13))) (l13 : K.lookup f13 = some ⟨oc13, od13, .func (PySem.W.fnOf "_law_trimmed" "_law_trimmed" (defArgs s__law_trimmed) (defBody s__law_trimmed) (defScope s__law_trimmed) .none kV13 dc13 pm13 an13 cd13 ct13), sl13⟩) (c13 : PySem.W.codeIn K cd13 "_law_trimmed" = true) (k13 : PySem.W.keepIn K (.ref f13) = true)
    (a14 : PySem.W.nsIn K mainGlobals "_law_table" = some (some (.ref f14))) (l14 : K.lookup f14 = some ⟨oc14, od14, .func (PySem.W.fnOf "_law_table" "_law_table" (defArgs s__law_table) (defBody s__law_table) (defScope s__law_table) .none kV14 dc14 pm14 an14 cd14 ct14), sl14⟩) (c14 : PySem.W.codeIn K cd14 "_law_table" = true) (k14 : PySem.W.keepIn K (.ref f14) = true)
    (a15 : PySem.W.nsIn K mainGlobals "_law_heard" = some (some (.ref f15))) (l15 : K.lookup f15 = some ⟨oc15, od15, .func (PySem.W.fnOf "_law_heard" "_law_heard" (defArgs s__law_heard) (defBody s__law_heard) (defScope s__law_heard) .none kV15 dc15 pm15 an15 cd15 ct15), sl15⟩) (c15 : PySem.W.codeIn K cd15 "_law_heard" = true) (k15 : PySem.W.keepIn K (.ref f15) = true)
    (a16 : PySem.W.nsIn K mainGlobals "_law_is_integer" = some (some (.ref f16))) (l16 : K.lookup f16 = some ⟨oc16, od16, .func (PySem.W.fnOf "_law_is_integer" "_law_is_integer" (defArgs s__law_is_integer) (defBody s__law_is_integer) (defScope s__law_is_integer) .none kV16 dc16 pm16 an16 cd16 ct16), sl16⟩) (c16 : PySem.W.codeIn K cd16 "_law_is_integer" = true) (k16 : PySem.W.keepIn K (.ref f16) = true)
    (a17 : PySem.W.nsIn K mainGlobals "_law_is_operation" = some (some (.ref f17))) (l17 : K.lookup f17 = some ⟨oc17, od17, .func (PySem.W.fnOf "_law_is_operation" "_law_is_operation" (defArgs s__law_is_operation) (defBody s__law_is_operation) (defScope s__law_is_operation) .none kV17 dc17 pm17 an17 cd17 ct17), sl17⟩) (c17 : PySem.W.codeIn K cd17 "_law_is_operation" = true) (k17 : PySem.W.keepIn K (.ref f17) = true)
    (a18 : PySem.W.nsIn K mainGlobals "_law_due" = some (some (.ref f18))) (l18 : K.lookup f18 = some ⟨oc18, od18, .func (PySem.W.fnOf "_law_due" "_law_due" (defArgs s__law_due) (defBody s__law_due) (defScope s__law_due) .none kV18 dc18 pm18 an18 cd18 ct18), sl18⟩) (c18 : PySem.W.codeIn K cd18 "_law_due" = true) (k18 : PySem.W.keepIn K (.ref f18) = true)
    (a19 : PySem.W.nsIn K mainGlobals "_law_operation" = some (some (.ref f19))) (l19 : K.lookup f19 = some ⟨oc19, od19, .func (PySem.W.fnOf "_law_operation" "_law_operation" (defArgs s__law_operation) (defBody s__law_operation) (defScope s__law_operation) .none kV19 dc19 pm19 an19 cd19 ct19), sl19⟩) (c19 : PySem.W.codeIn K cd19 "_law_operation" = true) (k19 : PySem.W.keepIn K (.ref f19) = true)
    (a20 : PySem.W.nsIn K mainGlobals "_law_limit" = some (some (.ref f20))) (l20 : K.lookup f20 = some ⟨oc20, od20, .func (PySem.W.fnOf "_law_limit" "_law_limit" (defArgs s__law_limit) (defBody s__law_limit) (defScope s__law_limit) .none kV20 dc20 pm20 an20 cd20 ct20), sl20⟩) (c20 : PySem.W.codeIn K cd20 "_law_limit" = true) (k20 : PySem.W.keepIn K (.ref f20) = true)
    (a21 : PySem.W.nsIn K mainGlobals "law" = some (some (.ref f21))) (l21 : K.lookup f21 = some ⟨oc21, od21, .func (PySem.W.fnOf "law" "law" (defArgs s_law) (defBody s_law) (defScope s_law) .none kV21 dc21 pm21 an21 cd21 ct21), sl21⟩) (c21 : PySem.W.codeIn K cd21 "law" = true) (k21 : PySem.W.keepIn K (.ref f21) = true)
    (z0 : PySem.W.nsIn K mainGlobals "IndexError" = some none)
    (z1 : PySem.W.nsIn K mainGlobals "KeyError" = some none)
    (z2 : PySem.W.nsIn K mainGlobals "LookupError" = some none)
    (z3 : PySem.W.nsIn K mainGlobals "OverflowError" = some none)
    (z4 : PySem.W.nsIn K mainGlobals "RuntimeError" = some none)
    (z5 : PySem.W.nsIn K mainGlobals "ValueError" = some none)
    (z6 : PySem.W.nsIn K mainGlobals "abs" = some none)
    (z7 : PySem.W.nsIn K mainGlobals "all" = some none)
    (z8 : PySem.W.nsIn K mainGlobals "any" = some none)
    (z9 : PySem.W.nsIn K mainGlobals "bool" = some none)
    (z10 : PySem.W.nsIn K mainGlobals "int" = some none)
    (z11 : PySem.W.nsIn K mainGlobals "isinstance" = some none)
    (z12 : PySem.W.nsIn K mainGlobals "len" = some none)
    (z13 : PySem.W.nsIn K mainGlobals "list" = some none)
    (z14 : PySem.W.nsIn K mainGlobals "max" = some none)
    (z15 : PySem.W.nsIn K mainGlobals "range" = some none)
    (z16 : PySem.W.nsIn K mainGlobals "repr" = some none)
    (z17 : PySem.W.nsIn K mainGlobals "str" = some none)
    (z18 : PySem.W.nsIn K mainGlobals "tuple" = some none)
    (y0 : PySem.W.nsIn K mainGlobals "MOST_LIMIT" = some (some (.int 100 t_MOST_LIMIT)))
    (y1 : PySem.W.nsIn K mainGlobals "DUP" = some (some (.str "dup" t_DUP)))
    (y2 : PySem.W.nsIn K mainGlobals "DUP_FROM" = some (some (.str "dup_from" t_DUP_FROM)))
    (y3 : PySem.W.nsIn K mainGlobals "DUP_ONTO" = some (some (.str "dup2" t_DUP_ONTO)))
    (y4 : PySem.W.nsIn K mainGlobals "CLOSE" = some (some (.str "close" t_CLOSE)))
    (y5 : PySem.W.nsIn K mainGlobals "MOST_NUMBER" = some (some (.int 999 t_MOST_NUMBER)))
    {at_LENGTHS : Addr} {es_LENGTHS : Array DictEntry} {nn_LENGTHS : Nat} (ta0 : PySem.W.nsIn K mainGlobals "LENGTHS" = some (some (.ref at_LENGTHS))) (tl0 : K.lookup at_LENGTHS = some ⟨.type "dict", none, .dict es_LENGTHS nn_LENGTHS, #[]⟩) (tk0 : PySem.W.KeysLit w.params es_LENGTHS.toList) (to0 : (at_LENGTHS == sysModules) = false) (te0 : GD.tabIs es_LENGTHS.toList tb_LENGTHS)
    (csp : PySem.W.specialIn K (.builtin "object.__class__") "__get__" = some (some (.builtin "getset_descriptor.__get__"))) (ctk : PySem.W.takesIn K (.builtin "object.__class__") = some true)
    {xc0 xc1 xi1 xc2 xi2 xc3 xi3 yc0 yc1 yc2 yc3 yc4 : Addr}
    (ya0 : PySem.W.nsIn K mainGlobals "TableError" = some (some (.ref yc0))) (yh0 : PySem.W.hasDictIn K yc0 = true) (yt0 : PySem.W.typeIn K (.ref yc0) = some (.type "type")) (ye0 : PySem.W.subIn K (.ref yc0) (.type "BaseException") = some true)
    (ya1 : PySem.W.nsIn K mainGlobals "StepFailed" = some (some (.ref yc1))) (yh1 : PySem.W.hasDictIn K yc1 = true) (yt1 : PySem.W.typeIn K (.ref yc1) = some (.type "type")) (ye1 : PySem.W.subIn K (.ref yc1) (.type "BaseException") = some true)
    (ya2 : PySem.W.nsIn K mainGlobals "InvalidScript" = some (some (.ref yc2))) (yh2 : PySem.W.hasDictIn K yc2 = true) (yt2 : PySem.W.typeIn K (.ref yc2) = some (.type "type")) (ye2 : PySem.W.subIn K (.ref yc2) (.type "BaseException") = some true)
    (ya3 : PySem.W.nsIn K mainGlobals "InvalidTable" = some (some (.ref yc3))) (yh3 : PySem.W.hasDictIn K yc3 = true) (yt3 : PySem.W.typeIn K (.ref yc3) = some (.type "type")) (ye3 : PySem.W.subIn K (.ref yc3) (.type "BaseException") = some true)
    (ya4 : PySem.W.nsIn K mainGlobals "InvalidText" = some (some (.ref yc4))) (yh4 : PySem.W.hasDictIn K yc4 = true) (yt4 : PySem.W.typeIn K (.ref yc4) = some (.type "type")) (ye4 : PySem.W.subIn K (.ref yc4) (.type "BaseException") = some true)
    (xa0 : PySem.W.nsIn K mainGlobals "InvalidOperation" = some (some (.ref xc0)))
    (xq0 : PySem.W.excIn K xc0 [.type "ValueError", .type "Exception", .type "BaseException", .type "object"] "ValueError.__new__" = true)
    (xkc0 : PySem.W.keepIn K (.ref xc0) = true)
    (xex0 : PySem.W.subIn K (.ref xc0) (.type "BaseException") = some true)
    (xty0 : PySem.W.typeIn K (.ref xc0) = some (.type "type"))
    (xhd0 : PySem.W.hasDictIn K xc0 = true)
    (xga0 : PySem.W.findIn K (.ref xc0) "__getattribute__" = some (some (.builtin "BaseException.__getattribute__")))
    (xgg0 : PySem.W.findIn K (.ref xc0) "__getattr__" = some none)
    (xcl0 : PySem.W.findIn K (.ref xc0) "__class__" = some (some (.builtin "object.__class__")))
    (xmo0 : PySem.W.mroIn K xc0 (.type "object") = some true)
    {xnm1 xq1 : Str} {xN1 : Addr} {xbs1 xsub1 : List Value} {xsn1 : List Str} {xab1 : Bool} {xcol1 : Option Bool} {xdd1 : Option Addr} {xm01 xm11 xm21 xm31 xm51 : Option Value}
    {xoc1 xkV1 xdc1 xpm1 xcd1 xct1 : Value} {xod1 xan1 : Option Addr} {xsl1 : Array (Option Value)}
    (xa1 : PySem.W.nsIn K mainGlobals "InvalidLimit" = some (some (.ref xc1)))
    (xL1 : K.lookup xc1 = some (excClassObj xnm1 xq1 xc1 xN1 xbs1 [.ref yc0, .type "ValueError", .type "Exception", .type "BaseException", .type "object"] true xsn1 xsub1 xab1 xcol1 xdd1 xm01 xm11 xm21 xm31 xm51 "ValueError.__new__"))
    (xsa1 : PySem.W.findIn K (.ref xc1) "__setattr__" = some (some (.builtin "object.__setattr__")))
    (xga1 : PySem.W.findIn K (.ref xc1) "__getattribute__" = some (some (.builtin "BaseException.__getattribute__")))
    (xgg1 : PySem.W.findIn K (.ref xc1) "__getattr__" = some none)
    (xno1 : PySem.W.findIn K (.ref xc1) "limit" = some none)
    (xic1 : PySem.W.findIn K (.ref xc1) "__init__" = some (some (.ref xi1)))
    (xtc1 : PySem.W.typeIn K (.ref xi1) = some (.type "function"))
    (xkc1 : PySem.W.keepIn K (.ref xc1) = true)
    (xex1 : PySem.W.subIn K (.ref xc1) (.type "BaseException") = some true)
    (xty1 : PySem.W.typeIn K (.ref xc1) = some (.type "type"))
    (xhd1 : PySem.W.hasDictIn K xc1 = true)
    (xcl1 : PySem.W.findIn K (.ref xc1) "__class__" = some (some (.builtin "object.__class__")))
    (xmo1 : PySem.W.mroIn K xc1 (.type "object") = some true)
    (xl1 : K.lookup xi1 = some ⟨xoc1, xod1, .func (PySem.W.fnOf "__init__" "InvalidLimit.__init__" (defArgs sI_InvalidLimit) (defBody sI_InvalidLimit) (defScope sI_InvalidLimit) .none xkV1 xdc1 xpm1 xan1 xcd1 xct1), xsl1⟩)
    (xco1 : PySem.W.codeIn K xcd1 "InvalidLimit.__init__" = true)
    {xnm2 xq2 : Str} {xN2 : Addr} {xbs2 xsub2 : List Value} {xsn2 : List Str} {xab2 : Bool} {xcol2 : Option Bool} {xdd2 : Option Addr} {xm02 xm12 xm22 xm32 xm52 : Option Value}
    {xoc2 xkV2 xdc2 xpm2 xcd2 xct2 : Value} {xod2 xan2 : Option Addr} {xsl2 : Array (Option Value)}
    (xa2 : PySem.W.nsIn K mainGlobals "FreeSlot" = some (some (.ref xc2)))
    (xL2 : K.lookup xc2 = some (excClassObj xnm2 xq2 xc2 xN2 xbs2 [.type "LookupError", .type "Exception", .type "BaseException", .type "object"] true xsn2 xsub2 xab2 xcol2 xdd2 xm02 xm12 xm22 xm32 xm52 "LookupError.__new__"))
    (xsa2 : PySem.W.findIn K (.ref xc2) "__setattr__" = some (some (.builtin "object.__setattr__")))
    (xga2 : PySem.W.findIn K (.ref xc2) "__getattribute__" = some (some (.builtin "BaseException.__getattribute__")))
    (xgg2 : PySem.W.findIn K (.ref xc2) "__getattr__" = some none)
    (xno2 : PySem.W.findIn K (.ref xc2) "slot" = some none)
    (xic2 : PySem.W.findIn K (.ref xc2) "__init__" = some (some (.ref xi2)))
    (xtc2 : PySem.W.typeIn K (.ref xi2) = some (.type "function"))
    (xkc2 : PySem.W.keepIn K (.ref xc2) = true)
    (xex2 : PySem.W.subIn K (.ref xc2) (.type "BaseException") = some true)
    (xty2 : PySem.W.typeIn K (.ref xc2) = some (.type "type"))
    (xhd2 : PySem.W.hasDictIn K xc2 = true)
    (xcl2 : PySem.W.findIn K (.ref xc2) "__class__" = some (some (.builtin "object.__class__")))
    (xmo2 : PySem.W.mroIn K xc2 (.type "object") = some true)
    (xl2 : K.lookup xi2 = some ⟨xoc2, xod2, .func (PySem.W.fnOf "__init__" "FreeSlot.__init__" (defArgs sI_FreeSlot) (defBody sI_FreeSlot) (defScope sI_FreeSlot) .none xkV2 xdc2 xpm2 xan2 xcd2 xct2), xsl2⟩)
    (xco2 : PySem.W.codeIn K xcd2 "FreeSlot.__init__" = true)
    {xnm3 xq3 : Str} {xN3 : Addr} {xbs3 xsub3 : List Value} {xsn3 : List Str} {xab3 : Bool} {xcol3 : Option Bool} {xdd3 : Option Addr} {xm03 xm13 xm23 xm33 xm53 : Option Value}
    {xoc3 xkV3 xdc3 xpm3 xcd3 xct3 : Value} {xod3 xan3 : Option Addr} {xsl3 : Array (Option Value)}
    (xa3 : PySem.W.nsIn K mainGlobals "TableFull" = some (some (.ref xc3)))
    (xL3 : K.lookup xc3 = some (excClassObj xnm3 xq3 xc3 xN3 xbs3 [.type "OverflowError", .type "ArithmeticError", .type "Exception", .type "BaseException", .type "object"] true xsn3 xsub3 xab3 xcol3 xdd3 xm03 xm13 xm23 xm33 xm53 "OverflowError.__new__"))
    (xsa3 : PySem.W.findIn K (.ref xc3) "__setattr__" = some (some (.builtin "object.__setattr__")))
    (xga3 : PySem.W.findIn K (.ref xc3) "__getattribute__" = some (some (.builtin "BaseException.__getattribute__")))
    (xgg3 : PySem.W.findIn K (.ref xc3) "__getattr__" = some none)
    (xno3 : PySem.W.findIn K (.ref xc3) "limit" = some none)
    (xic3 : PySem.W.findIn K (.ref xc3) "__init__" = some (some (.ref xi3)))
    (xtc3 : PySem.W.typeIn K (.ref xi3) = some (.type "function"))
    (xkc3 : PySem.W.keepIn K (.ref xc3) = true)
    (xex3 : PySem.W.subIn K (.ref xc3) (.type "BaseException") = some true)
    (xty3 : PySem.W.typeIn K (.ref xc3) = some (.type "type"))
    (xhd3 : PySem.W.hasDictIn K xc3 = true)
    (xcl3 : PySem.W.findIn K (.ref xc3) "__class__" = some (some (.builtin "object.__class__")))
    (xmo3 : PySem.W.mroIn K xc3 (.type "object") = some true)
    (xl3 : K.lookup xi3 = some ⟨xoc3, xod3, .func (PySem.W.fnOf "__init__" "TableFull.__init__" (defArgs sI_TableFull) (defBody sI_TableFull) (defScope sI_TableFull) .none xkV3 xdc3 xpm3 xan3 xcd3 xct3), xsl3⟩)
    (xco3 : PySem.W.codeIn K xcd3 "TableFull.__init__" = true)
    (xs0_0 : PySem.W.subIn K (.ref xc0) (.ref xc0) = some true)
    (xs0_1 : PySem.W.subIn K (.ref xc0) (.ref xc1) = some false)
    (xs0_2 : PySem.W.subIn K (.ref xc0) (.ref xc2) = some false)
    (xs0_3 : PySem.W.subIn K (.ref xc0) (.ref xc3) = some false)
    (xs0_4 : PySem.W.subIn K (.ref xc0) (.ref yc0) = some true)
    (xs0_5 : PySem.W.subIn K (.ref xc0) (.ref yc1) = some false)
    (xs0_6 : PySem.W.subIn K (.ref xc0) (.ref yc2) = some false)
    (xs0_7 : PySem.W.subIn K (.ref xc0) (.ref yc3) = some false)
    (xs0_8 : PySem.W.subIn K (.ref xc0) (.ref yc4) = some false)
    (xs1_0 : PySem.W.subIn K (.ref xc1) (.ref xc0) = some false)
    (xs1_1 : PySem.W.subIn K (.ref xc1) (.ref xc1) = some true)
    (xs1_2 : PySem.W.subIn K (.ref xc1) (.ref xc2) = some false)
    (xs1_3 : PySem.W.subIn K (.ref xc1) (.ref xc3) = some false)
    (xs1_4 : PySem.W.subIn K (.ref xc1) (.ref yc0) = some true)
    (xs1_5 : PySem.W.subIn K (.ref xc1) (.ref yc1) = some false)
    (xs1_6 : PySem.W.subIn K (.ref xc1) (.ref yc2) = some false)
    (xs1_7 : PySem.W.subIn K (.ref xc1) (.ref yc3) = some false)
    (xs1_8 : PySem.W.subIn K (.ref xc1) (.ref yc4) = some false)
    (xs2_0 : PySem.W.subIn K (.ref xc2) (.ref xc0) = some false)
    (xs2_1 : PySem.W.subIn K (.ref xc2) (.ref xc1) = some false)
    (xs2_2 : PySem.W.subIn K (.ref xc2) (.ref xc2) = some true)
    (xs2_3 : PySem.W.subIn K (.ref xc2) (.ref xc3) = some false)
    (xs2_4 : PySem.W.subIn K (.ref xc2) (.ref yc0) = some false)
    (xs2_5 : PySem.W.subIn K (.ref xc2) (.ref yc1) = some false)
    (xs2_6 : PySem.W.subIn K (.ref xc2) (.ref yc2) = some false)
    (xs2_7 : PySem.W.subIn K (.ref xc2) (.ref yc3) = some false)
    (xs2_8 : PySem.W.subIn K (.ref xc2) (.ref yc4) = some false)
    (xs3_0 : PySem.W.subIn K (.ref xc3) (.ref xc0) = some false)
    (xs3_1 : PySem.W.subIn K (.ref xc3) (.ref xc1) = some false)
    (xs3_2 : PySem.W.subIn K (.ref xc3) (.ref xc2) = some false)
    (xs3_3 : PySem.W.subIn K (.ref xc3) (.ref xc3) = some true)
    (xs3_4 : PySem.W.subIn K (.ref xc3) (.ref yc0) = some false)
    (xs3_5 : PySem.W.subIn K (.ref xc3) (.ref yc1) = some false)
    (xs3_6 : PySem.W.subIn K (.ref xc3) (.ref yc2) = some false)
    (xs3_7 : PySem.W.subIn K (.ref xc3) (.ref yc3) = some false)
    (xs3_8 : PySem.W.subIn K (.ref xc3) (.ref yc4) = some false)
    (xb0_LookupError : PySem.W.subIn K (.ref xc0) (.type "LookupError") = some false)
    (xb0_ValueError : PySem.W.subIn K (.ref xc0) (.type "ValueError") = some true)
    (xb0_OverflowError : PySem.W.subIn K (.ref xc0) (.type "OverflowError") = some false)
    (xb0_KeyError : PySem.W.subIn K (.ref xc0) (.type "KeyError") = some false)
    (xb0_IndexError : PySem.W.subIn K (.ref xc0) (.type "IndexError") = some false)
    (xb0_RuntimeError : PySem.W.subIn K (.ref xc0) (.type "RuntimeError") = some false)
    (xb1_LookupError : PySem.W.subIn K (.ref xc1) (.type "LookupError") = some false)
    (xb1_ValueError : PySem.W.subIn K (.ref xc1) (.type "ValueError") = some true)
    (xb1_OverflowError : PySem.W.subIn K (.ref xc1) (.type "OverflowError") = some false)
    (xb1_KeyError : PySem.W.subIn K (.ref xc1) (.type "KeyError") = some false)
    (xb1_IndexError : PySem.W.subIn K (.ref xc1) (.type "IndexError") = some false)
    (xb1_RuntimeError : PySem.W.subIn K (.ref xc1) (.type "RuntimeError") = some false)
    (xb2_LookupError : PySem.W.subIn K (.ref xc2) (.type "LookupError") = some true)
    (xb2_ValueError : PySem.W.subIn K (.ref xc2) (.type "ValueError") = some false)
    (xb2_OverflowError : PySem.W.subIn K (.ref xc2) (.type "OverflowError") = some false)
    (xb2_KeyError : PySem.W.subIn K (.ref xc2) (.type "KeyError") = some false)
    (xb2_IndexError : PySem.W.subIn K (.ref xc2) (.type "IndexError") = some false)
    (xb2_RuntimeError : PySem.W.subIn K (.ref xc2) (.type "RuntimeError") = some false)
    (xb3_LookupError : PySem.W.subIn K (.ref xc3) (.type "LookupError") = some false)
    (xb3_ValueError : PySem.W.subIn K (.ref xc3) (.type "ValueError") = some false)
    (xb3_OverflowError : PySem.W.subIn K (.ref xc3) (.type "OverflowError") = some true)
    (xb3_KeyError : PySem.W.subIn K (.ref xc3) (.type "KeyError") = some false)
    (xb3_IndexError : PySem.W.subIn K (.ref xc3) (.type "IndexError") = some false)
    (xb3_RuntimeError : PySem.W.subIn K (.ref xc3) (.type "RuntimeError") = some false)
    (hm : ∀ ns : List Int, ns.length ≤ 63 → ∃ env', b_law (penv 10 ns) = some (.rt (.val (.bool true)), env')) :
    ∃ fd : FuncData, (∀ (s : Shared) (v : Value), BindsTo s fd ⟨[v], []⟩ [("_law_script", v)]) ∧ ∀ base : Heap, K.In base → base.Ns mainGlobals mg → FnG l.prog w K mg base CX0 6 fa fd ["_law_script"] (spLaw K) := by
  have e := hfa.symm.trans (PySem.W.mg_of X G a21)
  cases e
  have F0 := fun_mk (st := s_is_integer) l0 c0 k0
  have F1 := fun_mk (st := s_is_between) l1 c1 k1
  have F2 := fun_mk (st := s_check_limit) l2 c2 k2
  have F3 := fun_mk (st := s_trimmed) l3 c3 k3
  have F4 := fun_mk (st := s_object_at) l4 c4 k4
  have F5 := fun_mk (st := s_free_slot) l5 c5 k5
  have F6 := fun_mk (st := s_with_entry) l6 c6 k6
  have F7 := fun_mk (st := s_is_operation) l7 c7 k7
  have F8 := fun_mk (st := s_landing) l8 c8 k8
  have F9 := fun_mk (st := s_apply) l9 c9 k9
  have F10 := fun_mk (st := s__law_pen) l10 c10 k10
  have F11 := fun_mk (st := s__law_draw) l11 c11 k11
  have F12 := fun_mk (st := s__law_pool) l12 c12 k12
  have F13 := fun_mk (st := s__law_trimmed) l13 c13 k13
  have F14 := fun_mk (st := s__law_table) l14 c14 k14
  have F15 := fun_mk (st := s__law_heard) l15 c15 k15
  have F16 := fun_mk (st := s__law_is_integer) l16 c16 k16
  have F17 := fun_mk (st := s__law_is_operation) l17 c17 k17
  have F18 := fun_mk (st := s__law_due) l18 c18 k18
  have F19 := fun_mk (st := s__law_operation) l19 c19 k19
  have F20 := fun_mk (st := s__law_limit) l20 c20 k20
  have F21 := fun_mk (st := s_law) l21 c21 k21
  refine ⟨_, fun s v => .of_eq rfl, fun base _ _ => Txt.ok_law (T := {
    dummy := (),
    a_is_integer := f0,
    d_is_integer := _,
    f_is_integer := F0,
    g_is_integer := PySem.W.mg_of X G a0,
    b_is_integer := (F0.binds fun _ _ _ _ _ _ us hl => match us, hl with | [_], _ => rfl),
    a_is_between := f1,
    d_is_between := _,
    f_is_between := F1,
    g_is_between := PySem.W.mg_of X G a1,
    b_is_between := (F1.binds fun _ _ _ _ _ _ us hl => match us, hl with | [_, _, _], _ => rfl),
    a_check_limit := f2,
    d_check_limit := _,
    f_check_limit := F2,
    g_check_limit := PySem.W.mg_of X G a2,
    b_check_limit := (F2.binds fun _ _ _ _ _ _ us hl => match us, hl with | [_, _], _ => rfl),
    a_trimmed := f3,
    d_trimmed := _,
    f_trimmed := F3,
    g_trimmed := PySem.W.mg_of X G a3,
    b_trimmed := (F3.binds fun _ _ _ _ _ _ us hl => match us, hl with | [_], _ => rfl),
    a_object_at := f4,
    d_object_at := _,
    f_object_at := F4,
    g_object_at := PySem.W.mg_of X G a4,
    b_object_at := (F4.binds fun _ _ _ _ _ _ us hl => match us, hl with | [_, _], _ => rfl),
    a_free_slot := f5,
    d_free_slot := _,
    f_free_slot := F5,
    g_free_slot := PySem.W.mg_of X G a5,
    k1_free_slot_start := (kb_sel F5 rfl (by decide) fun _ _ _ _ _ _ us ws hl hk => match us, ws, hl, hk with | [_], [_], _, _ => rfl),
    a_with_entry := f6,
    d_with_entry := _,
    f_with_entry := F6,
    g_with_entry := PySem.W.mg_of X G a6,
    b_with_entry := (F6.binds fun _ _ _ _ _ _ us hl => match us, hl with | [_, _, _], _ => rfl),
    a_is_operation := f7,
    d_is_operation := _,
    f_is_operation := F7,
    g_is_operation := PySem.W.mg_of X G a7,
    b_is_operation := (F7.binds fun _ _ _ _ _ _ us hl => match us, hl with | [_], _ => rfl),
    a_landing := f8,
    d_landing := _,
    f_landing := F8,
    g_landing := PySem.W.mg_of X G a8,
    b_landing := (F8.binds fun _ _ _ _ _ _ us hl => match us, hl with | [_, _], _ => rfl),
    a_apply := f9,
    d_apply := _,
    f_apply := F9,
    g_apply := PySem.W.mg_of X G a9,
    k2_apply_limit := (kb_sel F9 rfl (by decide) fun _ _ _ _ _ _ us ws hl hk => match us, ws, hl, hk with | [_, _], [_], _, _ => rfl),
    a__law_pen := f10,
    d__law_pen := _,
    f__law_pen := F10,
    g__law_pen := PySem.W.mg_of X G a10,
    b__law_pen := (F10.binds fun _ _ _ _ _ _ us hl => match us, hl with | [_], _ => rfl),
    a__law_draw := f11,
    d__law_draw := _,
    f__law_draw := F11,
    g__law_draw := PySem.W.mg_of X G a11,
    b__law_draw := (F11.binds fun _ _ _ _ _ _ us hl => match us, hl with | [_, _], _ => rfl),
    a__law_pool := f12,
    d__law_pool := _,
    f__law_pool := F12,
    g__law_pool := PySem.W.mg_of X G a12,
    b__law_pool := (F12.binds fun _ _ _ _ _ _ us hl => match us, hl with | [_, _], _ => rfl),
    a__law_trimmed := f13,
    d__law_trimmed := _,
    f__law_trimmed := F13,
    g__law_trimmed := PySem.W.mg_of X G a13,
    b__law_trimmed := (F13.binds fun _ _ _ _ _ _ us hl => match us, hl with | [_], _ => rfl),
    a__law_table := f14,
    d__law_table := _,
    f__law_table := F14,
    g__law_table := PySem.W.mg_of X G a14,
    b__law_table := (F14.binds fun _ _ _ _ _ _ us hl => match us, hl with | [_, _, _], _ => rfl),
    a__law_heard := f15,
    d__law_heard := _,
    f__law_heard := F15,
    g__law_heard := PySem.W.mg_of X G a15,
    b__law_heard := (F15.binds fun _ _ _ _ _ _ us hl => match us, hl with | [_, _, _], _ => rfl),
    a__law_is_integer := f16,
    d__law_is_integer := _,
    f__law_is_integer := F16,
    g__law_is_integer := PySem.W.mg_of X G a16,
    b__law_is_integer := (F16.binds fun _ _ _ _ _ _ us hl => match us, hl with | [_, _, _], _ => rfl),
    a__law_is_operation := f17,
    d__law_is_operation := _,
    f__law_is_operation := F17,
    g__law_is_operation := PySem.W.mg_of X G a17,
    b__law_is_operation := (F17.binds fun _ _ _ _ _ _ us hl => match us, hl with | [_], _ => rfl),
    a__law_due := f18,
    d__law_due := _,
    f__law_due := F18,
    g__law_due := PySem.W.mg_of X G a18,
    b__law_due := (F18.binds fun _ _ _ _ _ _ us hl => match us, hl with | [_, _, _], _ => rfl),
    a__law_operation := f19,
    d__law_operation := _,
    f__law_operation := F19,
    g__law_operation := PySem.W.mg_of X G a19,
    b__law_operation := (F19.binds fun _ _ _ _ _ _ us hl => match us, hl with | [_, _], _ => rfl),
    a__law_limit := f20,
    d__law_limit := _,
    f__law_limit := F20,
    g__law_limit := PySem.W.mg_of X G a20,
    b__law_limit := (F20.binds fun _ _ _ _ _ _ us hl => match us, hl with | [_, _], _ => rfl),
    at_LENGTHS := at_LENGTHS,
    m_LENGTHS := PySem.W.mg_of X G ta0,
    k_LENGTHS := ⟨⟨_, _, ⟨tl0, tk0, to0⟩, te0⟩⟩,
    n_IndexError := PySem.W.mg_none_of X G z0,
    n_KeyError := PySem.W.mg_none_of X G z1,
    n_LookupError := PySem.W.mg_none_of X G z2,
    n_OverflowError := PySem.W.mg_none_of X G z3,
    n_RuntimeError := PySem.W.mg_none_of X G z4,
    n_ValueError := PySem.W.mg_none_of X G z5,
    n_abs := PySem.W.mg_none_of X G z6,
    n_all := PySem.W.mg_none_of X G z7,
    n_any := PySem.W.mg_none_of X G z8,
    n_bool := PySem.W.mg_none_of X G z9,
    n_int := PySem.W.mg_none_of X G z10,
    n_isinstance := PySem.W.mg_none_of X G z11,
    n_len := PySem.W.mg_none_of X G z12,
    n_list := PySem.W.mg_none_of X G z13,
    n_max := PySem.W.mg_none_of X G z14,
    n_range := PySem.W.mg_none_of X G z15,
    n_repr := PySem.W.mg_none_of X G z16,
    n_str := PySem.W.mg_none_of X G z17,
    n_tuple := PySem.W.mg_none_of X G z18,
    t_MOST_LIMIT := t_MOST_LIMIT,
    c_MOST_LIMIT := PySem.W.mg_of X G y0,
    t_DUP := t_DUP,
    c_DUP := PySem.W.mg_of X G y1,
    t_DUP_FROM := t_DUP_FROM,
    c_DUP_FROM := PySem.W.mg_of X G y2,
    t_DUP_ONTO := t_DUP_ONTO,
    c_DUP_ONTO := PySem.W.mg_of X G y3,
    t_CLOSE := t_CLOSE,
    c_CLOSE := PySem.W.mg_of X G y4,
    t_MOST_NUMBER := t_MOST_NUMBER,
    c_MOST_NUMBER := PySem.W.mg_of X G y5,
    c_InvalidOperation := xc0,
    ns_InvalidOperation := xa0,
    x_InvalidOperation := { gC := PySem.W.mg_of X G xa0, kC := xkc0, q := xq0, exC := xex0, tyC := xty0, hdC := xhd0 },
    ec_InvalidOperation := ⟨xga0, xgg0, xex0, xhd0, xcl0, csp, ctk, xmo0⟩,
    sb_InvalidOperation_LookupError := xb0_LookupError,
    sb_InvalidOperation_ValueError := xb0_ValueError,
    sb_InvalidOperation_OverflowError := xb0_OverflowError,
    sb_InvalidOperation_KeyError := xb0_KeyError,
    sb_InvalidOperation_IndexError := xb0_IndexError,
    sb_InvalidOperation_RuntimeError := xb0_RuntimeError,
    sub_InvalidOperation_InvalidOperation := xs0_0,
    sub_InvalidOperation_InvalidLimit := xs0_1,
    sub_InvalidOperation_FreeSlot := xs0_2,
    sub_InvalidOperation_TableFull := xs0_3,
    sub_InvalidOperation_TableError := xs0_4,
    sub_InvalidOperation_StepFailed := xs0_5,
    sub_InvalidOperation_InvalidScript := xs0_6,
    sub_InvalidOperation_InvalidTable := xs0_7,
    sub_InvalidOperation_InvalidText := xs0_8,
    c_InvalidLimit := xc1,
    i_InvalidLimit := xi1,
    ns_InvalidLimit := xa1,
    x_InvalidLimit := { gC := PySem.W.mg_of X G xa1, ini := ini_of2 tail_TE xL1, ov := ov_of2 tail_TE xL1, sa := xsa1, ga := xga1, gg := xgg1, noN := xno1, iC := xic1, tC := xtc1, kC := xkc1, exC := xex1, tyC := xty1, hdC := xhd1, fn := ⟨sI_InvalidLimit, _, _, _, _, _, _, _, _, _, _, xl1, xco1, ⟨_, _, rfl⟩, ⟨_, _, _, _, rfl⟩, rfl⟩ },
    ec_InvalidLimit := ⟨xga1, xgg1, xex1, xhd1, xcl1, csp, ctk, xmo1⟩,
    xf_c_InvalidLimit := ⟨xga1, xgg1, xex1, xhd1⟩,
    sb_InvalidLimit_LookupError := xb1_LookupError,
    sb_InvalidLimit_ValueError := xb1_ValueError,
    sb_InvalidLimit_OverflowError := xb1_OverflowError,
    sb_InvalidLimit_KeyError := xb1_KeyError,
    sb_InvalidLimit_IndexError := xb1_IndexError,
    sb_InvalidLimit_RuntimeError := xb1_RuntimeError,
    sub_InvalidLimit_InvalidOperation := xs1_0,
    sub_InvalidLimit_InvalidLimit := xs1_1,
    sub_InvalidLimit_FreeSlot := xs1_2,
    sub_InvalidLimit_TableFull := xs1_3,
    sub_InvalidLimit_TableError := xs1_4,
    sub_InvalidLimit_StepFailed := xs1_5,
    sub_InvalidLimit_InvalidScript := xs1_6,
    sub_InvalidLimit_InvalidTable := xs1_7,
    sub_InvalidLimit_InvalidText := xs1_8,
    c_FreeSlot := xc2,
    i_FreeSlot := xi2,
    ns_FreeSlot := xa2,
    x_FreeSlot := { gC := PySem.W.mg_of X G xa2, ini := ini_of tail_LE xL2, ov := ov_of tail_LE xL2, sa := xsa2, ga := xga2, gg := xgg2, noN := xno2, iC := xic2, tC := xtc2, kC := xkc2, exC := xex2, tyC := xty2, hdC := xhd2, fn := ⟨sI_FreeSlot, _, _, _, _, _, _, _, _, _, _, xl2, xco2, ⟨_, _, rfl⟩, ⟨_, _, _, _, rfl⟩, rfl⟩ },
    ec_FreeSlot := ⟨xga2, xgg2, xex2, xhd2, xcl2, csp, ctk, xmo2⟩,
    xf_c_FreeSlot := ⟨xga2, xgg2, xex2, xhd2⟩,
    sb_FreeSlot_LookupError := xb2_LookupError,
    sb_FreeSlot_ValueError := xb2_ValueError,
    sb_FreeSlot_OverflowError := xb2_OverflowError,
    sb_FreeSlot_KeyError := xb2_KeyError,
    sb_FreeSlot_IndexError := xb2_IndexError,
    sb_FreeSlot_RuntimeError := xb2_RuntimeError,
    sub_FreeSlot_InvalidOperation := xs2_0,
    sub_FreeSlot_InvalidLimit := xs2_1,
    sub_FreeSlot_FreeSlot := xs2_2,
    sub_FreeSlot_TableFull := xs2_3,
    sub_FreeSlot_TableError := xs2_4,
    sub_FreeSlot_StepFailed := xs2_5,
    sub_FreeSlot_InvalidScript := xs2_6,
    sub_FreeSlot_InvalidTable := xs2_7,
    sub_FreeSlot_InvalidText := xs2_8,
    c_TableFull := xc3,
    i_TableFull := xi3,
    ns_TableFull := xa3,
    x_TableFull := { gC := PySem.W.mg_of X G xa3, ini := ini_of tail_OE xL3, ov := ov_of tail_OE xL3, sa := xsa3, ga := xga3, gg := xgg3, noN := xno3, iC := xic3, tC := xtc3, kC := xkc3, exC := xex3, tyC := xty3, hdC := xhd3, fn := ⟨sI_TableFull, _, _, _, _, _, _, _, _, _, _, xl3, xco3, ⟨_, _, rfl⟩, ⟨_, _, _, _, rfl⟩, rfl⟩ },
    ec_TableFull := ⟨xga3, xgg3, xex3, xhd3, xcl3, csp, ctk, xmo3⟩,
    xf_c_TableFull := ⟨xga3, xgg3, xex3, xhd3⟩,
    sb_TableFull_LookupError := xb3_LookupError,
    sb_TableFull_ValueError := xb3_ValueError,
    sb_TableFull_OverflowError := xb3_OverflowError,
    sb_TableFull_KeyError := xb3_KeyError,
    sb_TableFull_IndexError := xb3_IndexError,
    sb_TableFull_RuntimeError := xb3_RuntimeError,
    sub_TableFull_InvalidOperation := xs3_0,
    sub_TableFull_InvalidLimit := xs3_1,
    sub_TableFull_FreeSlot := xs3_2,
    sub_TableFull_TableFull := xs3_3,
    sub_TableFull_TableError := xs3_4,
    sub_TableFull_StepFailed := xs3_5,
    sub_TableFull_InvalidScript := xs3_6,
    sub_TableFull_InvalidTable := xs3_7,
    sub_TableFull_InvalidText := xs3_8,
    c_TableError := yc0,
    gc_TableError := PySem.W.mg_of X G ya0,
    hd_TableError := yh0,
    ty_TableError := yt0,
    ex_TableError := ye0,
    c_StepFailed := yc1,
    gc_StepFailed := PySem.W.mg_of X G ya1,
    hd_StepFailed := yh1,
    ty_StepFailed := yt1,
    ex_StepFailed := ye1,
    c_InvalidScript := yc2,
    gc_InvalidScript := PySem.W.mg_of X G ya2,
    hd_InvalidScript := yh2,
    ty_InvalidScript := yt2,
    ex_InvalidScript := ye2,
    c_InvalidTable := yc3,
    gc_InvalidTable := PySem.W.mg_of X G ya3,
    hd_InvalidTable := yh3,
    ty_InvalidTable := yt3,
    ex_InvalidTable := ye3,
    c_InvalidText := yc4,
    gc_InvalidText := PySem.W.mg_of X G ya4,
    hd_InvalidText := yh4,
    ty_InvalidText := yt4,
    ex_InvalidText := ye4 }) F21 hm⟩
end My
open PySem PySem.W PyProof.Rows
set_option maxHeartbeats 0 in
theorem PySem.Challenge.cw_gapdup_k07_errors_of_operations_holds : PySem.Challenge.rw_gapdup_k07_errors_of_operations.Holds := by
  w_on; o_law
  refine PySem.W.holds_open (q := My.zhQ) (loose := My.zhL)
    (Xt := fun s => PySem.W.xlAt My.zhQ [] s && PySem.W.recOk [] s) (XP := PySem.W.XL My.zhQ [])
    (Yf := PySem.W.Hook.obs (PySem.W.kHook My.zhP.heap_1 My.zhA My.zhI))
    (Ya := PySem.W.Hook.val (PySem.W.kHook My.zhP.heap_1 My.zhA My.zhI))
    (YP := PySem.W.Hook.says (PySem.W.kHook My.zhP.heap_1 My.zhA My.zhI)) (N := 6626)
    ?hl (PySem.W.Hook.of _) (PySem.W.Hook.keeps _) (fun s e => PySem.W.xl_of s (Bool.and_eq_true_iff.mp e).1)
    PySem.W.XL.keeps (by rfl) (by rfl) (by rfl) (fun s e => PySem.W.recFacts_of (Bool.and_eq_true_iff.mp e).2)
    (by rfl) (by first | assumption | decide +kernel) (by decide +kernel) ⟨rfl, rfl, rfl, rfl, rfl, by decide +kernel⟩ ?hw ?hc
  case hl =>
    exact HeadRun.left_oneK (M := 5926) (by kernel_rfl) (by rfl) (fun s => by kernel_rfl) (by rfl) My.zhW
  all_goals (try clear said)
  (case hw => w_witness2)
  k_fill
  refine GD.walkG (l := PySem.Challenge.rw_gapdup_k07_errors_of_operations) (n := 63) (k := 6) (x := "_law_script") (CX := fun _ => L2.CX0) (sp := fun w => My.spLaw _) rfl (by decide) rfl ⟨rfl, by decide, by decide⟩ (fun w h Y => PySem.W.kIn_of Y) ?F (fun _ _ a ns hl _ hS => ⟨a, ns, rfl, hS, hl, rfl⟩) (fun _ _ _ _ _ h => h)
  case F =>
    intro w mg fa h KX G hmg
    refine' My.all_mk KX G hmg ?a0 ?l0 ?c0 ?k0 ?a1 ?l1 ?c1 ?k1 ?a2 ?l2 ?c2 ?k2 ?a3 ?l3 ?c3 ?k3 ?a4 ?l4 ?c4 ?k4 ?a5 ?l5 ?c5 ?k5 ?a6 ?l6 ?c6 ?k6 ?a7 ?l7 ?c7 ?k7 ?a8 ?l8 ?c8 ?k8 ?a9 ?l9 ?c9 ?k9 ?a10 ?l10 ?c10 ?k10 ?a11 ?l11 ?c11 ?k11 ?a12 ?l12 ?c12 ?k12 ?a13 ?l13 ?c13 ?k13 ?a14 ?l14 ?c14 ?k14 ?a15 ?l15 ?c15 ?k15 ?a16 ?l16 ?c16 ?k16 ?a17 ?l17 ?c17 ?k17 ?a18 ?l18 ?c18 ?k18 ?a19 ?l19 ?c19 ?k19 ?a20 ?l20 ?c20 ?k20 ?a21 ?l21 ?c21 ?k21 ?z0 ?z1 ?z2 ?z3 ?z4 ?z5 ?z6 ?z7 ?z8 ?z9 ?z10 ?z11 ?z12 ?z13 ?z14 ?z15 ?z16 ?z17 ?z18 ?y0 ?y1 ?y2 ?y3 ?y4 ?y5 ?ta0 ?tl0 ?tk0 ?to0 ?te0 ?csp ?ctk ?ya0 ?yh0 ?yt0 ?ye0 ?ya1 ?yh1 ?yt1 ?ye1 ?ya2 ?yh2 ?yt2 ?ye2 ?ya3 ?yh3 ?yt3 ?ye3 ?ya4 ?yh4 ?yt4 ?ye4 ?xa0 ?xq0 ?xkc0 ?xex0 ?xty0 ?xhd0 ?xga0 ?xgg0 ?xcl0 ?xmo0 ?xa1 ?xL1 ?xsa1 ?xga1 ?xgg1 ?xno1 ?xic1 ?xtc1 ?xkc1 ?xex1 ?xty1 ?xhd1 ?xcl1 ?xmo1 ?xl1 ?xco1 ?xa2 ?xL2 ?xsa2 ?xga2 ?xgg2 ?xno2 ?xic2 ?xtc2 ?xkc2 ?xex2 ?xty2 ?xhd2 ?xcl2 ?xmo2 ?xl2 ?xco2 ?xa3 ?xL3 ?xsa3 ?xga3 ?xgg3 ?xno3 ?xic3 ?xtc3 ?xkc3 ?xex3 ?xty3 ?xhd3 ?xcl3 ?xmo3 ?xl3 ?xco3 ?xs0_0 ?xs0_1 ?xs0_2 ?xs0_3 ?xs0_4 ?xs0_5 ?xs0_6 ?xs0_7 ?xs0_8 ?xs1_0 ?xs1_1 ?xs1_2 ?xs1_3 ?xs1_4 ?xs1_5 ?xs1_6 ?xs1_7 ?xs1_8 ?xs2_0 ?xs2_1 ?xs2_2 ?xs2_3 ?xs2_4 ?xs2_5 ?xs2_6 ?xs2_7 ?xs2_8 ?xs3_0 ?xs3_1 ?xs3_2 ?xs3_3 ?xs3_4 ?xs3_5 ?xs3_6 ?xs3_7 ?xs3_8 ?xb0_LookupError ?xb0_ValueError ?xb0_OverflowError ?xb0_KeyError ?xb0_IndexError ?xb0_RuntimeError ?xb1_LookupError ?xb1_ValueError ?xb1_OverflowError ?xb1_KeyError ?xb1_IndexError ?xb1_RuntimeError ?xb2_LookupError ?xb2_ValueError ?xb2_OverflowError ?xb2_KeyError ?xb2_IndexError ?xb2_RuntimeError ?xb3_LookupError ?xb3_ValueError ?xb3_OverflowError ?xb3_KeyError ?xb3_IndexError ?xb3_RuntimeError My.math
    (case a0 => k_is); (case l0 => k_is); (case c0 => k_is); (case k0 => k_is); (case a1 => k_is); (case l1 => k_is); (case c1 => k_is); (case k1 => k_is); (case a2 => k_is); (case l2 => k_is); (case c2 => k_is); (case k2 => k_is); (case a3 => k_is); (case l3 => k_is); (case c3 => k_is); (case k3 => k_is); (case a4 => k_is); (case l4 => k_is); (case c4 => k_is); (case k4 => k_is); (case a5 => k_is); (case l5 => k_is); (case c5 => k_is); (case k5 => k_is); (case a6 => k_is); (case l6 => k_is); (case c6 => k_is); (case k6 => k_is); (case a7 => k_is); (case l7 => k_is); (case c7 => k_is); (case k7 => k_is); (case a8 => k_is); (case l8 => k_is); (case c8 => k_is); (case k8 => k_is); (case a9 => k_is); (case l9 => k_is); (case c9 => k_is); (case k9 => k_is); (case a10 => k_is); (case l10 => k_is); (case c10 => k_is); (case k10 => k_is); (case a11 => k_is); (case l11 => k_is); (case c11 => k_is); (case k11 => k_is); (case a12 => k_is); (case l12 => k_is); (case c12 => k_is); (case k12 => k_is); (case a13 => k_is); (case l13 => k_is); (case c13 => k_is); (case k13 => k_is); (case a14 => k_is); (case l14 => k_is); (case c14 => k_is); (case k14 => k_is); (case a15 => k_is); (case l15 => k_is); (case c15 => k_is); (case k15 => k_is); (case a16 => k_is); (case l16 => k_is); (case c16 => k_is); (case k16 => k_is); (case a17 => k_is); (case l17 => k_is); (case c17 => k_is); (case k17 => k_is); (case a18 => k_is); (case l18 => k_is); (case c18 => k_is); (case k18 => k_is); (case a19 => k_is); (case l19 => k_is); (case c19 => k_is); (case k19 => k_is); (case a20 => k_is); (case l20 => k_is); (case c20 => k_is); (case k20 => k_is); (case a21 => k_is); (case l21 => k_is); (case c21 => k_is); (case k21 => k_is); (case z0 => k_is); (case z1 => k_is); (case z2 => k_is); (case z3 => k_is); (case z4 => k_is); (case z5 => k_is); (case z6 => k_is); (case z7 => k_is); (case z8 => k_is); (case z9 => k_is); (case z10 => k_is); (case z11 => k_is); (case z12 => k_is); (case z13 => k_is); (case z14 => k_is); (case z15 => k_is); (case z16 => k_is); (case z17 => k_is); (case z18 => k_is); (case y0 => k_is); (case y1 => k_is); (case y2 => k_is); (case y3 => k_is); (case y4 => k_is); (case y5 => k_is); (case ta0 => k_is); (case tl0 => k_is); (case tk0 => k_keys); (case to0 => decide); (case te0 => repeat (first | exact True.intro | refine ⟨⟨_, rfl⟩, ⟨_, rfl⟩, ?_⟩)); (case csp => k_is); (case ctk => k_is); (case ya0 => k_is); (case yh0 => k_is); (case yt0 => k_is); (case ye0 => k_is); (case ya1 => k_is); (case yh1 => k_is); (case yt1 => k_is); (case ye1 => k_is); (case ya2 => k_is); (case yh2 => k_is); (case yt2 => k_is); (case ye2 => k_is); (case ya3 => k_is); (case yh3 => k_is); (case yt3 => k_is); (case ye3 => k_is); (case ya4 => k_is); (case yh4 => k_is); (case yt4 => k_is); (case ye4 => k_is); (case xa0 => k_is); (case xq0 => k_exc); (case xkc0 => k_is); (case xex0 => k_is); (case xty0 => k_is); (case xhd0 => k_is); (case xga0 => k_is); (case xgg0 => k_is); (case xcl0 => k_is); (case xmo0 => k_is); (case xa1 => k_is); (case xL1 => k_is); (case xsa1 => k_is); (case xga1 => k_is); (case xgg1 => k_is); (case xno1 => k_is); (case xic1 => k_is); (case xtc1 => k_is); (case xkc1 => k_is); (case xex1 => k_is); (case xty1 => k_is); (case xhd1 => k_is); (case xcl1 => k_is); (case xmo1 => k_is); (case xl1 => k_is); (case xco1 => k_is); (case xa2 => k_is); (case xL2 => k_is); (case xsa2 => k_is); (case xga2 => k_is); (case xgg2 => k_is); (case xno2 => k_is); (case xic2 => k_is); (case xtc2 => k_is); (case xkc2 => k_is); (case xex2 => k_is); (case xty2 => k_is); (case xhd2 => k_is); (case xcl2 => k_is); (case xmo2 => k_is); (case xl2 => k_is); (case xco2 => k_is); (case xa3 => k_is); (case xL3 => k_is); (case xsa3 => k_is); (case xga3 => k_is); (case xgg3 => k_is); (case xno3 => k_is); (case xic3 => k_is); (case xtc3 => k_is); (case xkc3 => k_is); (case xex3 => k_is); (case xty3 => k_is); (case xhd3 => k_is); (case xcl3 => k_is); (case xmo3 => k_is); (case xl3 => k_is); (case xco3 => k_is); (case xs0_0 => k_is); (case xs0_1 => k_is); (case xs0_2 => k_is); (case xs0_3 => k_is); (case xs0_4 => k_is); (case xs0_5 => k_is); (case xs0_6 => k_is); (case xs0_7 => k_is); (case xs0_8 => k_is); (case xs1_0 => k_is); (case xs1_1 => k_is); (case xs1_2 => k_is); (case xs1_3 => k_is); (case xs1_4 => k_is); (case xs1_5 => k_is); (case xs1_6 => k_is); (case xs1_7 => k_is); (case xs1_8 => k_is); (case xs2_0 => k_is); (case xs2_1 => k_is); (case xs2_2 => k_is); (case xs2_3 => k_is); (case xs2_4 => k_is); (case xs2_5 => k_is); (case xs2_6 => k_is); (case xs2_7 => k_is); (case xs2_8 => k_is); (case xs3_0 => k_is); (case xs3_1 => k_is); (case xs3_2 => k_is); (case xs3_3 => k_is); (case xs3_4 => k_is); (case xs3_5 => k_is); (case xs3_6 => k_is); (case xs3_7 => k_is); (case xs3_8 => k_is); (case xb0_LookupError => k_is); (case xb0_ValueError => k_is); (case xb0_OverflowError => k_is); (case xb0_KeyError => k_is); (case xb0_IndexError => k_is); (case xb0_RuntimeError => k_is); (case xb1_LookupError => k_is); (case xb1_ValueError => k_is); (case xb1_OverflowError => k_is); (case xb1_KeyError => k_is); (case xb1_IndexError => k_is); (case xb1_RuntimeError => k_is); (case xb2_LookupError => k_is); (case xb2_ValueError => k_is); (case xb2_OverflowError => k_is); (case xb2_KeyError => k_is); (case xb2_IndexError => k_is); (case xb2_RuntimeError => k_is); (case xb3_LookupError => k_is); (case xb3_ValueError => k_is); (case xb3_OverflowError => k_is); (case xb3_KeyError => k_is); (case xb3_IndexError => k_is); (case xb3_RuntimeError => k_is)

