import PyProof.Rows.All
import Wide.All
import OpenK.AllK
import Wide.FinOn
import HandS.ForMost
import HandS.Exc
import HandS.TryOnly
import HandS.IsInst
import HandS.RaiseMore
import HandS.TupAny
import HandS.TupMul
import HandS.Flow
import HandS.Style
import HandS.Wide
import HandS.Codes
import HandS.Deep
import HandS.Lambda
import PyProof.TupleOfStr
import PyProof.ListStr
import HandS.Walk
import HandS.NoneIn
import HandS.Conv
import HandS.Defaults
import PyProof.Draws
import PyProof.EnumMake
import HandS.Zip0
import HandS.Replace
import PyProof.StrLawsFirst
import HandS.ExcInit
import HandS.WordsExc
import KE.KExcInit
import PyProof.ExcBaseAll.OverflowError
import PyProof.ExcBaseAll.LookupError
import PyProof.ExcBaseAll.IndexError
import PyProof.ExcBaseAll.RuntimeError
import PyProof.ExcBaseAll.ValueError
import KE.KExcIs
import HandS.ExcField
import HandS.ExcIs
import HandS.More
import KE.KRevSl
import HandS.Iter
import HandS.List
import HandS.Text
import KE.KxIndex
import HandS.Dict
import HandS.Strs
import HandS.SetFor
import PyProof.Rows.TupMore
import PyProof.ZipIter
import HandS.SetBool
import PyProof.Rows.SortShellAny
import KE.KWords
import PyProof.StrLawsTight
import HandS.ExcOwn
import HandS.ExcValue
import HandS.TryMany
import KE.KIsAll
import KE.KLam
import HandS.EndTab
import PyProof.StrLawsRepr
import PySem.Challenge.RW_mustoccur_k69_isolated_variables_and_fra
set_option Elab.async false
set_option linter.all false
set_option maxRecDepth 100000
set_option maxHeartbeats 4000000

namespace M
open PySem PySem.Spec PyProof.Rows L2
/-! ### promises of a def, asked only where no repr runs around (so that repr of data may be asked within) -/
structure FnG (P : Program) (w : World) (K : PySem.W.Frag) (mg : Str → Option Value) (base : Heap) (CX : CXT) (k : Nat) (f : Addr) (fd : FuncData) (ps : List Str) (sp : Sp) : Prop where
  len : ∀ vs H Q E, sp vs H Q E → vs.length = ps.length
  run : ∀ (A : Around) (outer : List Env) (s : Shared) (H : Hp) (args : Args) (us : List Value) (vs : List V) (Q : VK) (E : XK), Room k A → A.guards = some [] →
    Env0 P w K mg base A outer s H → BindsTo s fd args (ps.zip us) → Vals vs us → sp vs H Q E → codeAny (model P w) A (.call (.ref f) args) (CR CX outer P w H s Q E) s
section
variable {P : Program} {w : World} {K : PySem.W.Frag} {mg : Str → Option Value} {base : Heap} {CX : CXT} {k : Nat} {f : Addr} {fd : FuncData} {ps : List Str} {sp : Sp}
theorem FnG.imp {sp' : Sp} (F : FnG P w K mg base CX k f fd ps sp) (h : ∀ vs H Q E, sp' vs H Q E → sp vs H Q E) : FnG P w K mg base CX k f fd ps sp' :=
  ⟨fun vs H Q E q => F.len vs H Q E (h vs H Q E q), fun A outer s H args us vs Q E hr hg e b r q => F.run A outer s H args us vs Q E hr hg e b r (h vs H Q E q)⟩
theorem FnG.mono {j : Nat} (F : FnG P w K mg base CX j f fd ps sp) (h : j ≤ k) : FnG P w K mg base CX k f fd ps sp :=
  ⟨F.len, fun A outer s H args us vs Q E hr => F.run A outer s H args us vs Q E (hr.mono h)⟩
/-- a def by its body -/
theorem Fun.okGC {x qual : Str} {st : Stmt} {N : List Str} (F : Fun K x qual st f fd) (S : FnScope N ps (defScope st)) (len : ∀ vs H Q E, sp vs H Q E → vs.length = ps.length)
    (body : ∀ (cdv : Value) (hcv : fd.code = cdv) (A : Around) (outer : List Env) (s : Shared) (H : Hp) (vs : List V) (Q : VK) (E : XK), Room k (A.deeper (envOfC qual (defScope st) s.heap.objs.size f cdv)) → A.guards = some [] → sp vs H Q E →
      ∃ t, PSs (cxOf CX P w K mg base N qual (defScope st) f cdv A outer s H E) (defBody st) t ∧ t { nx := fun _ H' => Q .non H', rt := Q } (start N vs) H) : FnG P w K mg base CX (k + 1) f fd ps sp := by
  obtain ⟨oc, od, kV, doc, pm, an, cdv, ct, osl, rfl, lk, hcd⟩ := F.ex
  constructor
  · exact len
  · intro A outer s H args us vs Q E room quiet e0 bnd rel want
    have count := len vs H Q E want
    have up : ∀ b o, base.get? b = some o → s.heap.get? b = some o := fun b o z => (e0.bs b o z).1
    have KX : K.In s.heap := e0.mod.kin.keeps up
    have places : ∀ y ∈ ps.zip us, (defScope st).names.lookup y.1 = some .local ∨ ((defScope st).names.lookup y.1 = some .cell ∧ ((cellsFrom (s.heap.objs.size + 1) (defScope st).names []).lookup y.1).isSome = true) := by
      rintro ⟨n, v⟩ hy
      rcases S.par n (List.of_mem_zip hy).1 with z | z
      · exact Or.inl z
      · exact Or.inr ⟨z, PySem.W.cellsFrom_some _ _ _ (Or.inl z)⟩
    refine codeAny_call_function room.depth (KX _ _ lk) rfl S.co S.gen rfl (PySem.W.codeRec_of KX hcd) (bnd _ _ _ _ ?_)
    refine wpAny_newFunctionEnv_cells S.kind places fun env he s1 inside => ?_
    subst he
    refine ⟨(e0.mod.nolimit.keeps up).keeps inside.toInCall.keep, codeAny_func ?_⟩
    obtain ⟨t, ht, hq⟩ := body cdv rfl A outer s H vs Q E (room.deeper _) quiet want
    have I := inv_start (CX := CX) (E := E) S room.hd e0 count rel inside
    refine wpAny_mono (ht.run [] s1 (start N vs) H _ I hq) ?_ (fun e s2 z => z)
    intro fl s2 z
    match fl, z with
    | .ret u, ⟨v, σ2, H2, J, rv, q⟩ => exact ⟨v, H2, J.os, J.bare, J.base, J.hok, rv, q⟩
    | .next, ⟨σ2, H2, J, q⟩ => exact ⟨V.non, H2, J.os, J.bare, J.base, J.hok, rfl, q⟩
    | .brk, ⟨_, _, _, q⟩ => exact q.elim
    | .cont, ⟨_, _, _, q⟩ => exact q.elim
theorem Fun.okG {x qual : Str} {st : Stmt} {N : List Str} (F : Fun K x qual st f fd) (S : FnScope N ps (defScope st)) (len : ∀ vs H Q E, sp vs H Q E → vs.length = ps.length)
    (body : ∀ (cdv : Value) (A : Around) (outer : List Env) (s : Shared) (H : Hp) (vs : List V) (Q : VK) (E : XK), Room k (A.deeper (envOfC qual (defScope st) s.heap.objs.size f cdv)) → A.guards = some [] → sp vs H Q E →
      ∃ t, PSs (cxOf CX P w K mg base N qual (defScope st) f cdv A outer s H E) (defBody st) t ∧ t { nx := fun _ H' => Q .non H', rt := Q } (start N vs) H) : FnG P w K mg base CX (k + 1) f fd ps sp :=
  Fun.okGC F S len fun cdv _ => body cdv
/-- a def that lets nothing out, its code object told -/
theorem Fun.okGC0 {x qual : Str} {st : Stmt} {N : List Str} (F : Fun K x qual st f fd) (S : FnScope N ps (defScope st)) (len : ∀ vs H Q E, sp vs H Q E → vs.length = ps.length)
    (body : ∀ (cdv : Value) (hcv : fd.code = cdv) (A : Around) (outer : List Env) (s : Shared) (H : Hp) (vs : List V) (Q : VK) (E : XK), Room k (A.deeper (envOfC qual (defScope st) s.heap.objs.size f cdv)) → A.guards = some [] → sp vs H Q E →
      ∃ t, PSs (cxOf CX0 P w K mg base N qual (defScope st) f cdv A outer s H E).nox (defBody st) t ∧ t { nx := fun _ H' => Q .non H', rt := Q } (start N vs) H) : FnG P w K mg base CX0 (k + 1) f fd ps sp := by
  refine Fun.okGC F S len fun cdv hcv A outer s H vs Q E hr hg h => ?_
  obtain ⟨t, a, b⟩ := body cdv hcv A outer s H vs Q E hr hg h
  exact ⟨t, a.nox, b⟩
/-- a def that lets nothing out -/
theorem Fun.okG0 {x qual : Str} {st : Stmt} {N : List Str} (F : Fun K x qual st f fd) (S : FnScope N ps (defScope st)) (len : ∀ vs H Q E, sp vs H Q E → vs.length = ps.length)
    (body : ∀ (cdv : Value) (A : Around) (outer : List Env) (s : Shared) (H : Hp) (vs : List V) (Q : VK) (E : XK), Room k (A.deeper (envOfC qual (defScope st) s.heap.objs.size f cdv)) → A.guards = some [] → sp vs H Q E →
      ∃ t, PSs (cxOf CX0 P w K mg base N qual (defScope st) f cdv A outer s H E).nox (defBody st) t ∧ t { nx := fun _ H' => Q .non H', rt := Q } (start N vs) H) : FnG P w K mg base CX0 (k + 1) f fd ps sp := by
  refine Fun.okG F S len fun cdv A outer s H vs Q E hr hg h => ?_
  obtain ⟨t, a, b⟩ := body cdv A outer s H vs Q E hr hg h
  exact ⟨t, a.nox, b⟩
end
/-! ### a def of the text, with its promise, as callers take it -/
structure Cl (P : Program) (w : World) (K : PySem.W.Frag) (mg : Str → Option Value) (base : Heap) (CX : CXT) (k : Nat) (x : Str) (ps : List Str) (sp : Sp) : Prop where
  ex : ∃ (f : Addr) (fd : FuncData), FnG P w K mg base CX k f fd ps sp ∧ mg x = some (.ref f) ∧ PySem.W.keepIn K (.ref f) = true ∧ Binds K fd ps []
section
variable {P : Program} {w : World} {K : PySem.W.Frag} {mg : Str → Option Value} {base : Heap} {CX : CXT} {k : Nat} {x : Str} {ps : List Str} {sp : Sp}
theorem Cl.of {f : Addr} {fd : FuncData} (F : FnG P w K mg base CX k f fd ps sp) (g : mg x = some (.ref f)) (kp : PySem.W.keepIn K (.ref f) = true) (b : Binds K fd ps []) : Cl P w K mg base CX k x ps sp := ⟨f, fd, F, g, kp, b⟩
theorem Cl.imp {sp' : Sp} (c : Cl P w K mg base CX k x ps sp) (h : ∀ vs H Q E, sp' vs H Q E → sp vs H Q E) : Cl P w K mg base CX k x ps sp' := by
  obtain ⟨f, fd, F, g, kp, b⟩ := c.ex
  exact ⟨f, fd, F.imp h, g, kp, b⟩
end
section
variable {X : Cx} {CX : CXT} {k j : Nat} {f : Addr} {fd : FuncData} {ps : List Str} {sp : Sp} {E : XK} {x : Str} {p pos : Pos} {e : Expr} {es : List Expr} {t : TA}
theorem goes_fn {pins : List (Addr × Obj)} {σ : L2.St} {H : Hp} {s : Shared} {Q : VK} {us : List Value} {vs : List V} (F : FnG X.prog X.w X.K X.mg X.base CX k f fd ps sp) (hr : Room k X.A) (hg : X.A.guards = some []) (hb : Binds X.K fd ps []) (hx : Passes CX X E)
    (I : Inv X pins σ H s) (r : Vals vs us) (h : sp (vs ++ []) H Q E) : wpAny (model X.prog X.w) X.A (call (.ref f) us) (EP X pins σ Q) X.xe s := by
  rw [List.append_nil] at h
  have count := F.len vs H Q E h
  rw [r.length] at count
  have bnd := hb s us I.kIn (by rw [List.append_nil]; exact count)
  rw [List.append_nil] at bnd
  refine wpAny_call (codeAny_mono (F.run X.A X.stack s H ⟨us, []⟩ us vs Q E hr hg I.env0 bnd r h) ?_)
  intro res s2 z
  match res, z with
  | .error e, z => exact hx pins σ H s e s2 I z
  | .ok (.ret u), z => exact I.after z
  | .ok .next, z => exact False.elim z
  | .ok .brk, z => exact False.elim z
  | .ok .cont, z => exact False.elim z
theorem pe_cl (c : Cl X.prog X.w X.K X.mg X.base CX k x ps sp) (hr : Room j X.A) (hgd : X.A.guards = some []) (hk : k ≤ j) (hg : Gl X x) (hx : Passes CX X E) (ha : PA X (e :: es) t)
    (hdb : (x == ("__debug__" : Str)) = false := by decide) (he : starEach (e :: es) X.env = (false, eval e X.env) :: starEach es X.env := by rfl) (hpl : (backTo pos (starEach es X.env)).any (·.1) = false := by rfl) :
    PE X (.Call (.Name x p) (e :: es) [] pos) (tCall sp [] E t) := by
  obtain ⟨f, fd, F, g, kp, b⟩ := c.ex
  constructor
  intro pins s σ H Q I want
  refine wpAny_Call_Name_kw (ld_glob I hg g ?_ hdb)
  refine PySem.W.callWith_K (h₀ := X.base) I.ok.mod.kin kp (thn (ha.run pos pins s σ H _ I want) ?_) he hpl
  rintro us s1 ⟨vs, H1, I1, r, q⟩
  exact ⟨I1.kIn, goes_fn F (hr.mono hk) hgd b hx I1 r q⟩
theorem pe_cl0 (c : Cl X.prog X.w X.K X.mg X.base CX k x ps sp) (hr : Room j X.A) (hgd : X.A.guards = some []) (hk : k ≤ j) (hg : Gl X x) (hx : Passes CX X E) (hdb : (x == ("__debug__" : Str)) = false := by decide) :
    PE X (.Call (.Name x p) [] [] pos) (tCall sp [] E tNil) := by
  obtain ⟨f, fd, F, g, kp, b⟩ := c.ex
  constructor
  intro pins s σ H Q I want
  refine wpAny_Call_Name_kw (ld_glob I hg g ?_ hdb)
  exact PySem.W.callWith_K0 I.kIn kp (goes_fn (us := []) F (hr.mono hk) hgd b hx I .nil want)
/-- a constant of the module -/
theorem pe_globS {v : V} (hg : Gl X x) (hm : ∃ u, X.mg x = some u ∧ RelV v u) (hd : (x == ("__debug__" : Str)) = false := by decide) : PE X (.Name x pos) (tC v) := by
  obtain ⟨u, hu, r⟩ := hm
  exact pe_glob hg hu r hd
end
/-! ### kinds of any value -/
def kinds : List String := ["NoneType", "bool", "int", "str", "list", "tuple", "dict"]
theorem kit_int : ∀ t ∈ kinds, kitB t "int" = some (decide (t = "int" ∨ t = "bool")) := by decide +kernel
theorem kit_bool : ∀ t ∈ kinds, kitB t "bool" = some (decide (t = "bool")) := by decide +kernel
theorem kit_str : ∀ t ∈ kinds, kitB t "str" = some (decide (t = "str")) := by decide +kernel
theorem kit_list : ∀ t ∈ kinds, kitB t "list" = some (decide (t = "list")) := by decide +kernel
theorem kit_tuple : ∀ t ∈ kinds, kitB t "tuple" = some (decide (t = "tuple")) := by decide +kernel
theorem kit_dict : ∀ t ∈ kinds, kitB t "dict" = some (decide (t = "dict")) := by decide +kernel
/-- the kind of a value -/
def Kd (K : PySem.W.Frag) (H : Hp) (x : V) (t : String) : Prop := t ∈ kinds ∧ TyX K H x (.type t)
theorem Kd.int {K : PySem.W.Frag} {H : Hp} {i : Int} : Kd K H (.int i) "int" := ⟨by decide, .base (.int i)⟩
/-! ### heaps -/
/-- all that was tracked, but at d, is as it was -/
def But (d : Addr) (H H' : Hp) : Prop := ∀ b o, b ≠ d → H b = some o → H' b = some o
theorem same_upd {H : Hp} {p : Addr} {o : HO} (h : H p = none) : Same H (upd H p o) := fun b x e => by
  rw [upd_ne (ne_of_none e h)]
  exact e
theorem Same.but {d : Addr} {H H' : Hp} (s : Same H H') : But d H H' := fun b o _ e => s b o e
theorem But.refl {d : Addr} (H : Hp) : But d H H := fun _ _ _ e => e
theorem But.trans {d : Addr} {H H1 H2 : Hp} (a : But d H H1) (b : But d H1 H2) : But d H H2 := fun x o n e => b x o n (a x o n e)
theorem but_upd {d : Addr} {H : Hp} {o : HO} : But d H (upd H d o) := fun b x n e => by
  rw [upd_ne n]
  exact e
theorem But.seq {K : PySem.W.Frag} {d : Addr} {H H' : Hp} {a : Addr} {xs : List V} (e : But d H H') (n : a ≠ d) (h : SqL K H a xs) : SqL K H' a xs := by
  rcases h with (h | ⟨o, h⟩) | h
  · exact .inl (.inl (e _ _ n h))
  · exact .inl (.inr ⟨o, e _ _ n h⟩)
  · exact .inr h
end M

namespace M
open PySem PySem.Spec PyProof.Rows L2
/-! ### the law's own call, over FnG -/
section
variable {P : Program} {w : World} {K : PySem.W.Frag} {mg mb : Str → Option Value} {k : Nat} {fa a : Addr} {fd : FuncData} {x : Str} {sp : Sp} {s₁ : Shared} {vs : List Value} {ns : List Int}
/-- from any first heap H of tracked things: it tracks nothing, or the script alone -/
theorem law_from (KX : K.In s₁.heap) (glob : s₁.heap.Ns mainGlobals mg) (blt : s₁.heap.Ns builtinsNs mb) (ask : ∀ y : Str, y ≠ "__name__" → mb y = bootBuiltins y) (free : s₁.heap.NoLimit) (none_runs : s₁.gens = #[])
    (script : s₁.heap.get? a = some { cls := .type "list", data := .seq vs.toArray }) (hr : Room k callerA)
    (F : ∀ base : Heap, K.In base → base.Ns mainGlobals mg → FnG P w K mg base CX0 k fa fd [x] sp) (bind : ∀ (s : Shared) (u : Value), BindsTo s fd ⟨[u], []⟩ [(x, u)])
    (H : Hp) (only : Only H) (ok : HOk P w H s₁.heap) (one : ∀ b, H b ≠ none → b = a) (off : H a ≠ none → K.lookup a = none)
    (want : sp [.ref a] H (fun v _ => v = .bl true) fun _ _ _ => False) :
    codeAny (model P w) callerA (.call (.ref fa) ⟨[.ref a], []⟩) (fun r s' => r = .ok (.ret (.bool true)) ∧ OldK s₁.heap s'.heap ∧ s'.os = s₁.os ∧ AllBare s'.gens) s₁ := by
  -- what is no dict of the heap's is hidden from the base when it is tracked
  have stays : ∀ {b : Addr} {o : Obj}, s₁.heap.get? b = some o → H b = none → (hidT s₁.heap H).get? b = some o := fun z n => hidT_get z n
  have not_script : ∀ {b : Addr} {o : Obj} {es : Array DictEntry} {n : Nat}, s₁.heap.get? b = some o → o.data = .dict es n → H b = none := by
    intro b o es n z d
    cases q : H b with
    | none => rfl
    | some u =>
      have z2 := one b (by rw [q]; intro h; cases h)
      subst z2
      have z3 := script.symm.trans z
      cases z3
      cases d
  have names : ∀ {b : Addr} {m : Str → Option Value}, s₁.heap.Ns b m → (hidT s₁.heap H).Ns b m := by
    rintro b m ⟨o, es, n, z, d, rest⟩
    exact ⟨o, es, n, stays z (not_script z d), d, rest⟩
  have kin : K.In (hidT s₁.heap H) := by
    intro b o z
    refine stays (KX b o z) ?_
    cases q : H b with
    | none => rfl
    | some u =>
      have z2 := one b (by rw [q]; intro h; cases h)
      subst z2
      have z3 := off (by rw [q]; intro h; cases h)
      rw [z3] at z
      cases z
  have md : Mod K mg (hidT s₁.heap H) := by
    obtain ⟨mc, f1, f2⟩ := free
    exact ⟨kin, names glob, ⟨mb, names blt, ask⟩, ⟨mc, names f1, f2⟩⟩
  have e0 : Env0 P w K mg (hidT s₁.heap H) callerA [] s₁ H := by
    refine ⟨rfl, md, fun b o z => of_hidT z, Nat.le_of_eq (hidT_size _ _), trivial, ?_, ok, .of_eq none_runs⟩
    intro b hb
    cases hb
  refine codeAny_mono ((F _ kin (names glob)).run callerA [] s₁ H ⟨[.ref a], []⟩ [.ref a] [.ref a] _ _ hr rfl e0 (bind s₁ (.ref a)) (.cons rfl .nil) want) ?_
  intro res s' z
  match res, z with
  | .error e, z => exact False.elim z
  | .ok .next, z => exact False.elim z
  | .ok .brk, z => exact False.elim z
  | .ok .cont, z => exact False.elim z
  | .ok (.ret u), ⟨v, H', hos, bare, un, hok', rel, hv⟩ =>
    have hv : v = .bl true := hv
    subst hv
    have hu : u = Value.bool true := rel
    subst hu
    refine ⟨rfl, OldK.of_keep ?_, hos, bare⟩
    intro b o z
    cases q : H b with
    | none => exact un.keep b o z q (fun h => nomatch h) (fun h => nomatch h)
    | some u =>
      rcases only b with n | ⟨ob, xs, t⟩
      · rw [n] at q
        cases q
      · have t2 := un.frzs b ob _ t
        have g1 := (ok b _ t).1
        have g2 := (hok' b _ t2).1
        rw [g1] at z
        cases z
        exact g2
theorem law_call' (KX : K.In s₁.heap) (glob : s₁.heap.Ns mainGlobals mg) (blt : s₁.heap.Ns builtinsNs mb) (ask : ∀ y : Str, y ≠ "__name__" → mb y = bootBuiltins y) (free : s₁.heap.NoLimit) (none_runs : s₁.gens = #[])
    (script : s₁.heap.get? a = some { cls := .type "list", data := .seq vs.toArray }) (nums : IntsAre vs ns) (few : ns.length ≤ sizeLine) (hr : Room k callerA)
    (F : ∀ base : Heap, K.In base → base.Ns mainGlobals mg → FnG P w K mg base CX0 k fa fd [x] sp) (bind : ∀ (s : Shared) (u : Value), BindsTo s fd ⟨[u], []⟩ [(x, u)])
    (want : ∀ H : Hp, Only H → SqL K H a (ns.map V.int) → sp [.ref a] H (fun v _ => v = .bl true) fun _ _ _ => False) :
    codeAny (model P w) callerA (.call (.ref fa) ⟨[.ref a], []⟩) (fun r s' => r = .ok (.ret (.bool true)) ∧ OldK s₁.heap s'.heap ∧ s'.os = s₁.os ∧ AllBare s'.gens) s₁ := by
  have rel := vals_ints nums
  have long := nums.length
  cases hk : K.lookup a with
  | some o =>
    have z := script.symm.trans (KX a o hk)
    cases z
    refine law_from KX glob blt ask free none_runs script hr F bind (fun _ => none) (fun _ => Or.inl rfl) (fun b u z => nomatch z) (fun b z => absurd rfl z) (fun z => absurd rfl z) (want _ (fun _ => Or.inl rfl) (Or.inr ?_))
    exact ⟨_, vs.toArray, _, hk, rfl, rfl, rfl, by rw [List.size_toArray, long]; exact few, by simpa using rel⟩
  | none =>
    have at_a : (fun b => if b = a then some (HO.frz { cls := .type "list", data := .seq vs.toArray } (.lst (ns.map V.int))) else none : Hp) a = some (HO.frz { cls := .type "list", data := .seq vs.toArray } (.lst (ns.map V.int))) := if_pos rfl
    have off_a : ∀ b, b ≠ a → (fun b => if b = a then some (HO.frz { cls := .type "list", data := .seq vs.toArray } (.lst (ns.map V.int))) else none : Hp) b = none := fun b n => if_neg n
    have on : Only (fun b => if b = a then some (HO.frz { cls := .type "list", data := .seq vs.toArray } (.lst (ns.map V.int))) else none : Hp) := by
      intro b
      by_cases n : b = a
      · subst n
        exact Or.inr ⟨_, _, at_a⟩
      · exact Or.inl (off_a b n)
    refine law_from KX glob blt ask free none_runs script hr F bind _ on ?_ ?_ (fun _ => hk) (want _ on (Or.inl (Or.inr ⟨_, at_a⟩)))
    · intro b u z
      by_cases n : b = a
      · subst n
        rw [at_a] at z
        cases z
        exact ⟨script, by rw [List.length_map]; exact few, vs, _, rel, script⟩
      · rw [off_a b n] at z
        cases z
    · intro b z
      by_cases n : b = a
      · exact n
      · exact absurd (off_a b n) z
end
/-- the goal that k_head leaves, from the law's promise -/
theorem walk_G {l : PySem.W.OpenLaw} {n k : Nat} {q : Program} {loose : List Str} {XP : (Str → Option Value) → Heap → Prop} {YP : World → Heap → Prop} {d : DefRec} {K : Params → PySem.W.Frag} {sp : PySem.W.Frag → Sp} {x : Str}
    (hn : l.most = some n) (hn2 : n ≤ sizeLine) (hdf : d.params.defaults = []) (hr : Room k callerA) (hY : ∀ (w : World) (h : Heap), YP w h → (K w.params).In h)
    (F : ∀ (w : World) (mg : Str → Option Value) (fa : Addr) (h : Heap), (K w.params).In h → h.Ns mainGlobals mg → mg d.name = some (.ref fa) →
      ∃ fd : FuncData, (∀ (s : Shared) (u : Value), BindsTo s fd ⟨[u], []⟩ [(x, u)]) ∧ ∀ base : Heap, (K w.params).In base → base.Ns mainGlobals mg → FnG l.prog w (K w.params) mg base CX0 k fa fd [x] (sp (K w.params)))
    (want : ∀ (K : PySem.W.Frag) (H : Hp) (a : Addr) (ns : List Int), ns.length ≤ n → Only H → SqL K H a (ns.map V.int) → sp K [.ref a] H (fun v _ => v = .bl true) fun _ _ _ => False) :
    PySem.W.WalkO q loose XP YP l.row.toRowW d [] (fun f vs => PySem.call f vs) := by
  refine Att.attach_call hn hdf ?_
  intro w s₀ s₁ mg mb fa o pm cd doc a vs ns G Y ho hd hcd hmg hobj hints hlen hgens
  obtain ⟨fd, hb, hF⟩ := F w mg fa _ (hY w _ Y) G.T.g hmg
  exact law_call' (hY w _ Y) G.T.g G.T.b G.T.builtins G.T.nolimit hgens hobj hints (Nat.le_trans hlen hn2) hr hF hb fun H hO hS => want _ H a ns hlen hO hS
end M

namespace L2
open PySem PySem.Spec PyProof.Rows
theorem tuple_mul1 (l : Addr) (items : Array Value) (n : Nat) (dd : Option Addr) (sl : Array (Option Value)) (x : Int) (u : Tok) (c0 : (decide (x < -(2 ^ 63)) || decide (x ≥ 2 ^ 63)) = false) (c1 : (items.isEmpty || x == 1) = true) :
    Meets (Builtin.«tuple.__mul__» ⟨[.ref l, .int x u], []⟩) (fun _ R s => s.heap.get? l = some { cls := .type "tuple", dict := dd, data := .seq items n, slots := sl } ∧ R (.ok (.ret (.ref l))) s) :=
  .of_wp fun prog w A R s h => by
    obtain ⟨hp, g, d, tk, os⟩ := s
    obtain ⟨hl, h⟩ := h
    have f1 := AutoSeq1.idx_int
    wp_walk using wpAny_loadPart' hl
    repeat (first
      | (refine wpAny_ite_false (decide_eq_false (by rw [c0]; exact Bool.false_ne_true)) ?_; wp_walk using wpAny_loadPart' hl)
      | (refine wpAny_ite_true (decide_eq_true c1) ?_; wp_walk using wpAny_loadPart' hl))
    exact ⟨_, rfl, h⟩
theorem tuple_mul0 (l : Addr) (items : Array Value) (n : Nat) (dd : Option Addr) (sl : Array (Option Value)) (x : Int) (u : Tok) (c0 : (decide (x < -(2 ^ 63)) || decide (x ≥ 2 ^ 63)) = false) (c1 : (items.isEmpty || x == 1) = false) (c2 : (decide (x ≤ 0) || items.isEmpty) = true) :
    Meets (Builtin.«tuple.__mul__» ⟨[.ref l, .int x u], []⟩) (fun _ R s => s.heap.get? l = some { cls := .type "tuple", dict := dd, data := .seq items n, slots := sl } ∧
      R (.ok (.ret (Value.ref s.heap.objs.size))) { s with heap := s.heap.push { cls := Value.type "tuple", data := Data.seq #[] }, toks := s.toks }) :=
  .of_wp fun prog w A R s h => by
    obtain ⟨hp, g, d, tk, os⟩ := s
    obtain ⟨hl, h⟩ := h
    have f1 := AutoSeq1.idx_int
    wp_walk using wpAny_loadPart' hl
    repeat (first
      | (refine wpAny_ite_false (decide_eq_false (by rw [c0]; exact Bool.false_ne_true)) ?_; wp_walk using wpAny_loadPart' hl)
      | (refine wpAny_ite_false (decide_eq_false (by rw [c1]; exact Bool.false_ne_true)) ?_; wp_walk using wpAny_loadPart' hl)
      | (refine wpAny_ite_true (decide_eq_true c2) ?_; wp_walk using wpAny_loadPart' hl))
    exact ⟨_, rfl, h⟩
def rRepT2 (K : PySem.W.Frag) : R2 := fun x y H Q => ∃ l k xs, x = .ref l ∧ y = .int k ∧ SqT K H l xs ∧ -(2 ^ 63) ≤ k ∧ k ≤ 100000 ∧ xs.length ≤ 100000 ∧ xs.length * k.toNat ≤ 1000000 ∧
  ((xs = [] ∨ k = 1) → Q (.ref l) H) ∧ (¬ (xs = [] ∨ k = 1) → ∀ p, H p = none → Q (.ref p) (upd H p (.tup (List.replicate k.toNat xs).flatten)))
section
variable {X : Cx}
theorem op_repT2 : OpR X (binaryOp .Mult) (rRepT2 X.K) := by
  intro pins s σ H x y v u Q I rx ry h
  obtain ⟨l, k, xs, rfl, rfl, hT, h1, h2, hz, hm0, q1, q2⟩ := h
  cases rx
  obtain ⟨t, rfl⟩ := ry
  obtain ⟨its, r, ⟨⟨cls, dd, data, sl⟩, ho, hc, n, hd⟩, hs⟩ := I.tuple hT
  simp only at hc hd
  subst hc hd
  have hle : its.length = xs.length := r.length.symm
  have hsz0 : its.toArray.size = xs.length := by rw [List.size_toArray, hle]
  have c0 : (decide (k < -(2 ^ 63)) || decide (k ≥ 2 ^ 63)) = false := by
    rw [decide_eq_false (by omega), decide_eq_false (by omega)] <;> rfl
  have hE : its.toArray.isEmpty = xs.isEmpty := by
    cases its <;> cases xs <;> first | rfl | (simp at hle; done)
  refine wpAny_binaryOp_repeat_ref (T := "tuple") (U := "int") (by decide) ⟨_, ho, rfl⟩ (fun s' => typeIs_int s' k t) noFill_tuple_mul F.fills_int_mul F.slot_int_rmul repeat_tuple F.slot_int_index.lookup
    (call_meets F.slot_int_rmul (typeIs_int s k t) F.entry_int_rmul (F.args_int_rmul_2 _ _) (int_rmul_tuple k t l its.toArray n dd sl) ⟨ho, rfl, ⟨_, ho, rfl⟩, ?_⟩)
  by_cases ce : xs = [] ∨ k = 1
  · have c1 : (its.toArray.isEmpty || k == 1) = true := by
      rw [hE]
      rcases ce with z | z
      · rw [z]; rfl
      · rw [z]; simp
    exact call_meets F.slot_tuple_mul ⟨_, ho, rfl⟩ F.entry_tuple_mul (F.args_tuple_mul_2 _ _) (tuple_mul1 l its.toArray n dd sl k t c0 c1) ⟨ho, .ref l, H, I, rfl, q1 ce⟩
  · have hne : xs ≠ [] := fun z => ce (.inl z)
    have hk : k ≠ 1 := fun z => ce (.inr z)
    have hE2 : its.toArray.isEmpty = false := by
      rw [hE]
      cases xs with
      | nil => exact absurd rfl hne
      | cons a b => rfl
    have c1 : (its.toArray.isEmpty || k == 1) = false := by
      rw [hE2, Bool.false_or]
      exact beq_eq_false_iff_ne.mpr hk
    by_cases c : k ≤ 0
    · have c2 : (decide (k ≤ 0) || its.toArray.isEmpty) = true := by rw [decide_eq_true c, Bool.true_or]
      have ek : k.toNat = 0 := by omega
      rw [ek] at q2
      refine call_meets F.slot_tuple_mul ⟨_, ho, rfl⟩ F.entry_tuple_mul (F.args_tuple_mul_2 _ _) (tuple_mul0 l its.toArray n dd sl k t c0 c1 c2) ⟨ho, ?_⟩
      refine ⟨.ref s.heap.objs.size, _, I.laid (t' := s.toks) (fun c o e => Heap.get?_push_of_some _ e) (Nat.le_refl _) (show ObjOk X.prog X.w _ _ _ (.tup []) from ⟨Nat.zero_le _, [], .nil, IsTup.new _ _⟩), rfl, q2 ce _ (I.hok.fresh (Nat.le_refl _))⟩
    · have c2 : (decide (k ≤ 0) || its.toArray.isEmpty) = false := by
        rw [hE2, Bool.or_false]
        exact decide_eq_false c
      have hm : ((its.toArray.size : Nat) : Int) * k ≤ 1000000 := by
        rw [hsz0]
        have e : ((xs.length * k.toNat : Nat) : Int) = (xs.length : Int) * k := by rw [Int.natCast_mul, Int.toNat_of_nonneg (by omega)]
        omega
      have flen : (List.replicate k.toNat its).flatten.length ≤ sizeLine := by
        rw [PyProof.Rows.lm_len_rep_flat, hle, sizeLine_eq]
        rw [Nat.mul_comm]
        omega
      have c4 : Builtin.Tuple.tupleTooMany (((its.toArray.size : Nat) : Int) * k) = false := by
        unfold Builtin.Tuple.tupleTooMany
        rw [sizeLine_eq]
        exact decide_eq_false (by omega)
      refine call_meets F.slot_tuple_mul ⟨_, ho, rfl⟩ F.entry_tuple_mul (F.args_tuple_mul_2 _ _) (tuple_mulW l its.toArray n dd sl k t c0 c1 c2 (by omega) c4 (by rw [size_rep, List.size_toArray]; exact flen)) ⟨ho, ?_⟩
      rw [size_rep]
      have rr : Vals (List.replicate k.toNat xs).flatten (List.replicate k.toNat its).flatten := by
        generalize k.toNat = m
        induction m with
        | zero => exact .nil
        | succ m ih => rw [List.replicate_succ, List.replicate_succ, List.flatten_cons, List.flatten_cons]; exact r.append ih
      refine ⟨.ref s.heap.objs.size, _, I.laid (t' := s.toks) (fun c o e => Heap.get?_push_of_some _ e) (Nat.le_refl _) (show ObjOk X.prog X.w _ _ _ (.tup (List.replicate k.toNat xs).flatten) from ⟨by rw [rr.length]; exact flen, _, rr, IsTup.new _ _⟩), rfl, q2 ce _ (I.hok.fresh (Nat.le_refl _))⟩
end
end L2

/-! A small language of deep values: what a def of the text says, without the heap. -/
namespace Y
open PySem L2
abbrev D := PyData
/-- a value told by a predicate that stays -/
structure Gv where
  P : PySem.W.Frag → Hp → (Addr → Prop) → V → Prop
  keep : ∀ (K : PySem.W.Frag) (H H' : Hp) (Z Z' : Addr → Prop) (v : V), (∀ b o, ¬ Z b → H b = some o → H' b = some o) → (∀ b, Z' b → Z b ∨ H b = none) → P K H Z v → P K H' Z' v
/-- how a value came: shared (never changed any more), own (new), bor (an own one of a slot, looked at), gen (told by a predicate) -/
inductive Kd where | shr | own | bor | gen (g : Gv)
def Kd.nb : Kd → Prop
  | .shr => True
  | .own => True
  | _ => False
theorem Kd.nb.ne {k : Kd} (h : k.nb) : k ≠ .bor := by
  intro e
  subst e
  exact h
/-- a field of an object that is being made -/
inductive Fd where | val (d : D) | own (d : D)
structure Exc where
  cls : Str
  fs : List (Str × D)
/-- a slot of the frame -/
inductive Sl where | emp | val (d : D) | own (d : D) | pen | scr (n : Nat) | gen (g : Gv) | obj (nm : List Str) (fs : List (Str × Fd)) | exc (e : Exc)
inductive Ar where | v (d : D) | pen | scr (n : Nat) | gen (g : Gv)
abbrev VQ := D → Kd → Prop
abbrev XQ := Exc → Prop
/-- a def's promise: the arguments, what is wanted of the answer, of an error -/
abbrev Ct := List Ar → VQ → XQ → Prop
abbrev En := List Sl
/-- what an operation answers: under a condition, a value and its kind -/
abbrev Rz := Option (Prop × D × Kd)
def Rz.to (r : Rz) (Q : VQ) : Prop := match r with
  | some (c, d, k) => c ∧ Q d k
  | none => False
theorem Rz.mono {r : Rz} {Q Q' : VQ} (h : ∀ d k, Q d k → Q' d k) : r.to Q → r.to Q' := by
  unfold Rz.to
  split
  · exact fun q => ⟨q.1, h _ _ q.2⟩
  · exact id

inductive Bt where
  | len | abs | min2 | max2 | sum | any | all | isi (t : String) | repr | int | str | list | tuple | sorted | bool | min1 | max1
inductive Mt where
  | sindex | lindex | tindex | join | scount
mutual
inductive Tg where | nm (i : Nat) | tp (ts : Tgs)
inductive Tgs where | nil | cons (t : Tg) (ts : Tgs)
end
/-! ### operations -/
def strL (s : Str) : List Nat := s.cps.toList
def CMul (i j : Int) : Prop := (-(2 ^ 64) < i ∧ i < 2 ^ 64) ∨ (-(2 ^ 64) < j ∧ j < 2 ^ 64)
def bin : Operator → D → D → Rz
  | .Add, .int i, .int j => some (True, .int (i + j), .shr)
  | .Sub, .int i, .int j => some (True, .int (i - j), .shr)
  | .Mult, .int i, .int j => some (CMul i j, .int (i * j), .shr)
  | .FloorDiv, .int i, .int j => some (0 < j ∧ j < 1073741824, .int (i / j), .shr)
  | .Mod, .int i, .int j => some (0 < j, .int (i % j), .shr)
  | .Pow, .int i, .int j => some (0 ≤ j ∧ j ≤ 1000000 ∧ i.natAbs < 2 ^ 64, .int (i ^ j.toNat), .shr)
  | .LShift, .int i, .int j => some (0 ≤ j ∧ j ≤ 1000000 ∧ i.natAbs < 2 ^ 64, .int (i * 2 ^ j.toNat), .shr)
  | .RShift, .int i, .int j => some (0 ≤ j, .int (i / 2 ^ j.toNat), .shr)
  | .Add, .str a, .str b => some (a.length + b.length ≤ sizeLine, .str (a ++ b), .shr)
  | .Add, .list a, .list b => some (a.length + b.length ≤ sizeLine, .list (a ++ b), .own)
  | .Add, .tuple a, .tuple b => some (a.length + b.length ≤ sizeLine, .tuple (a ++ b), .shr)
  | .Mult, .tuple a, .int k => some (-(2 ^ 63) ≤ k ∧ k ≤ 100000 ∧ a.length ≤ 100000 ∧ a.length * k.toNat ≤ 1000000, .tuple (List.replicate k.toNat a).flatten, .shr)
  | .Mult, .list a, .int k => some (-(2 ^ 63) ≤ k ∧ k < 2 ^ 63 ∧ a.length * k.toNat ≤ sizeLine, .list (List.replicate k.toNat a).flatten, .own)
  | _, _, _ => none
def scal : D → Bool
  | .none => true | .bool _ => true | .int _ => true | .str _ => true | _ => false
/-- == (data without dicts) -/
def eqD (d e : D) : Option (Prop × Bool) := some (SeqAt.shaped d = true ∧ SeqAt.shaped e = true, PyData.eqv d e)
def inD (x : D) : D → Option (Prop × Bool)
  | .str z => match x with
    | .str y => some (y.cps.size = 1, decide (y.cps.getD 0 0 ∈ z.cps.toList))
    | _ => none
  | .list ds => some (SeqAt.shaped x = true ∧ SeqAt.shaped (.list ds) = true, ds.any fun z => PyData.eqv z x)
  | .tuple ds => some (scal x = true ∧ ds.all scal = true, ds.any fun z => PyData.eqv z x)
  | _ => none
def noneD : D → Bool | .none => true | _ => false
def cmpD : CmpOp → D → D → Option (Prop × Bool)
  | .Eq, d, e => eqD d e
  | .NotEq, d, e => (eqD d e).map fun p => (p.1, !p.2)
  | .Lt, .int i, .int j => some (True, decide (i < j))
  | .LtE, .int i, .int j => some (True, decide (i ≤ j))
  | .Gt, .int i, .int j => some (True, decide (j < i))
  | .GtE, .int i, .int j => some (True, decide (j ≤ i))
  | .In, d, e => inD d e
  | .NotIn, d, e => (inD d e).map fun p => (p.1, !p.2)
  | .Is, d, .none => some (True, noneD d)
  | .IsNot, d, .none => some (True, !noneD d)
  | _, _, _ => none
def cmpR (o : CmpOp) (d e : D) : Rz := (cmpD o d e).map fun p => (p.1, .bool p.2, .shr)
def truD : D → Option (Prop × Bool)
  | .none => some (True, false)
  | .bool b => some (True, b)
  | .int i => some (True, i != 0)
  | .str s => some (s.length ≤ sizeLine, (s.length : Int) != 0)
  | .list ds => some (True, !ds.isEmpty)
  | .tuple ds => some (True, !ds.isEmpty)
  | _ => none
def ixD : D → D → Rz
  | .list ds, .int i => (L2.atI ds i).map fun d => (True, d, .shr)
  | .tuple ds, .int i => (L2.atI ds i).map fun d => (True, d, .shr)
  | .str z, .int i => (L2.atI z.cps.toList i).map fun c => (z.length ≤ sizeLine, .str ⟨#[c]⟩, .shr)
  | _, _ => none
def cutL {α : Type} (xs : List α) (lo hi : Option Int) : List α := (xs.drop (HT.sIx xs.length 0 lo)).take (HT.sIx xs.length xs.length hi - HT.sIx xs.length 0 lo)
def slD : D → Option Int → Option Int → Rz
  | .list ds, lo, hi => some (True, .list (cutL ds lo hi), .own)
  | .tuple ds, lo, hi => some (True, .tuple (cutL ds lo hi), .shr)
  | .str z, lo, hi => some (z.length ≤ sizeLine, .str (L2.cutS z lo hi), .shr)
  | _, _, _ => none
def boolsD : List D → Option (List Bool)
  | [] => some []
  | .bool b :: ds => (boolsD ds).map (b :: ·)
  | _ :: _ => none
def intsD : List D → Option (List Int)
  | [] => some []
  | .int i :: ds => (intsD ds).map (i :: ·)
  | _ :: _ => none
def strsD : List D → Option (List Str)
  | [] => some []
  | .str i :: ds => (strsD ds).map (i :: ·)
  | _ :: _ => none
def tyD : D → String
  | .none => "NoneType" | .bool _ => "bool" | .int _ => "int" | .str _ => "str" | .list _ => "list" | .tuple _ => "tuple" | .dict _ => "dict"
def isiD (t : String) (d : D) : Bool := tyD d == t || (t == "int" && tyD d == "bool")
def kindsD : List String := ["bool", "int", "str", "list", "tuple", "dict"]
/-- none, a bool, an int, a text or {} -/
def flatD : D → Bool
  | .none | .bool _ | .int _ | .str _ => true
  | .dict ps => ps.isEmpty
  | _ => false
def isKeyB : D → Bool
  | .int _ => true
  | .str _ => true
  | _ => false
mutual
/-- the keys of all dicts are ints and texts -/
def keyB : D → Bool
  | .list ds => keyAllB ds
  | .tuple ds => keyAllB ds
  | .dict ps => keyKvB ps
  | _ => true
def keyAllB : List D → Bool
  | [] => true
  | d :: ds => keyB d && keyAllB ds
def keyKvB : List (D × D) → Bool
  | [] => true
  | (k, d) :: ps => isKeyB k && (keyB d && keyKvB ps)
end
theorem flat_key {d : D} (h : flatD d = true) : keyB d = true := by
  cases d with
  | list ds => cases h
  | tuple ds => cases h
  | dict ps =>
    rw [List.isEmpty_iff.mp (show ps.isEmpty = true from h)]
    simp [keyB, keyKvB]
  | _ => simp [keyB]
theorem flats_key : ∀ {ds : List D}, ds.all flatD = true → keyAllB ds = true
  | [], _ => by simp [keyAllB]
  | d :: ds, h => by
    rw [List.all_cons, Bool.and_eq_true] at h
    simp [keyAllB, flat_key h.1, flats_key h.2]
/-- repr knows it: no dict, or dicts whose keys are ints and texts -/
def repD (d : D) : Bool := !d.hasDict || (match d with | .dict ps => ps.isEmpty | .list ds => ds.all flatD | .tuple ds => ds.all flatD | _ => false) || keyB d
theorem repD_of {d : D} (h : d.hasDict = false) : repD d = true := by unfold repD; rw [h]; rfl
theorem repD_key {d : D} (h : keyB d = true) : repD d = true := by unfold repD; rw [h, Bool.or_true]
theorem repD_cases {d : D} (h : repD d = true) : d.hasDict = false ∨ keyB d = true := by
  unfold repD at h
  rw [Bool.or_eq_true, Bool.or_eq_true] at h
  rcases h with (h | h) | h
  · exact .inl (by simpa using h)
  · split at h
    · rw [List.isEmpty_iff.mp h]
      exact .inr (by simp [keyB, keyKvB])
    · exact .inr (by simpa only [keyB] using flats_key h)
    · exact .inr (by simpa only [keyB] using flats_key h)
    · cases h
  · exact .inr h
def btD : Bt → List D → Rz
  | .len, [.str z] => some (z.length ≤ sizeLine, .int z.length, .shr)
  | .len, [.list ds] => some (True, .int ds.length, .shr)
  | .len, [.tuple ds] => some (True, .int ds.length, .shr)
  | .abs, [.int i] => some (True, .int (if i < 0 then -i else i), .shr)
  | .min2, [.int i, .int j] => some (True, .int (if j < i then j else i), .shr)
  | .max2, [.int i, .int j] => some (True, .int (if j > i then j else i), .shr)
  | .sum, [.list ds] => (intsD ds).map fun l => (True, .int l.sum, .shr)
  | .max1, [.list ds] => ((intsD ds).bind List.max?).map fun m => (True, .int m, .shr)
  | .min1, [.list ds] => ((intsD ds).bind List.min?).map fun m => (True, .int m, .shr)
  | .any, [.list ds] => (boolsD ds).map fun l => (True, .bool (l.any id), .shr)
  | .all, [.list ds] => (boolsD ds).map fun l => (True, .bool (l.all id), .shr)
  | .isi t, [d] => some (t ∈ kindsD, .bool (isiD t d), .shr)
  | .repr, [d] => some (repD d = true ∧ d.showable = true ∧ d.shown.length ≤ sizeLine ∧ d.depth ≤ 64, .str d.shown, .shr)
  | .int, [.int i] => some (True, .int i, .shr)
  | .int, [.bool b] => some (True, .int (if b then 1 else 0), .shr)
  | .int, [.str s] => (PySem.intText? s).map fun n => (s.length ≤ 640, .int n, .shr)
  | .str, [.int i] => some (i.natAbs.log2 < 1920, .str (toString i), .shr)
  | .list, [.list ds] => some (True, .list ds, .own)
  | .list, [.tuple ds] => some (True, .list ds, .own)
  | .list, [.str z] => some (z.length ≤ 4194304, .list (z.cps.toList.map fun c => .str ⟨#[c]⟩), .own)
  | .tuple, [.str z] => some (z.length ≤ 4194304, .tuple (z.cps.toList.map fun c => .str ⟨#[c]⟩), .shr)
  | .tuple, [.list ds] => some (True, .tuple ds, .shr)
  | .tuple, [.tuple ds] => some (True, .tuple ds, .shr)
  | _, _ => none
def recvB : Mt → D → Bool
  | .join, .str _ => true
  | .sindex, .str _ => true
  | .scount, .str _ => true
  | .lindex, .list _ => true
  | .tindex, .tuple _ => true
  | _, _ => false
def mtD : Mt → D → List D → Rz
  | .sindex, .str a, [.str b] => (a.cps.toList.findIdx? (· == b.cps.getD 0 0)).map fun j => (b.cps.size = 1, .int (j : Nat), .shr)
  | .tindex, .tuple ds, [.int z] => (intsD ds).bind fun ns => (ns.findIdx? (· == z)).map fun j => (True, .int (j : Nat), .shr)
  | .lindex, .list ds, [d] => (ds.findIdx? fun z => PyData.eqv z d).map fun j => (SeqAt.shaped (.list ds) = true ∧ SeqAt.shaped d = true, .int (j : Nat), .shr)
  | .join, .str a, [.list ds] => (strsD ds).map fun ys => ((ys.map Str.length).sum + a.length * ys.length ≤ 16777216, .str (Txt.join a ys), .shr)
  | _, _, _ => none

/-- a range that may be laid -/
def RgC (a b : Int) : Prop := -(2 ^ 62) ≤ a ∧ a < 2 ^ 62 ∧ -(2 ^ 62) ≤ b ∧ b < 2 ^ 62 ∧ (b - a).toNat ≤ 2 ^ 24
/-! ### places of targets -/
mutual
def setTg : Tg → D → En → Option En
  | .nm i, d, ρ => some (ρ.set i (.val d))
  | .tp ts, .tuple ds, ρ => setTgs ts ds ρ
  | .tp ts, .list ds, ρ => setTgs ts ds ρ
  | .tp _, _, _ => none
def setTgs : Tgs → List D → En → Option En
  | .nil, [], ρ => some ρ
  | .cons t ts, d :: ds, ρ => match setTg t d ρ with | some ρ' => setTgs ts ds ρ' | none => none
  | _, _, _ => none
end
mutual
def Tg.ixs : Tg → List Nat | .nm i => [i] | .tp ts => ts.ixs
def Tgs.ixs : Tgs → List Nat | .nil => [] | .cons t ts => t.ixs ++ ts.ixs
end
def Tgs.len : Tgs → Nat | .nil => 0 | .cons _ ts => ts.len + 1
def wipeE (ρ : En) : List Nat → En
  | [] => ρ
  | v :: vs => (wipeE ρ vs).set v .emp
/-- a comprehension: each item in turn -/
def wComp (B : D → (Option D → Prop) → Prop) : List D → List D → (List D → Prop) → Prop
  | [], acc, R => R acc
  | d :: ds, acc, R => B d fun o => wComp B ds (match o with | some r => acc ++ [r] | none => acc) R
def rng (lo : Int) : Nat → List D
  | 0 => []
  | n + 1 => .int lo :: rng (lo + 1) n
def enumL (ds : List D) : List D := (ds.zipIdx).map fun p => .tuple [.int p.2, p.1]
def zipL (a b : List D) : List D := (a.zip b).map fun p => .tuple [p.1, p.2]
/-- what is walked over, by kind -/
def itemsD : D → Option (List D)
  | .list ds => some ds
  | .tuple ds => some ds
  | .str z => some (z.cps.toList.map fun c => .str ⟨#[c]⟩)
  | _ => none
def listD : D → Option (List D)
  | .list ds => some ds
  | _ => none
/-- what is counted through -/
def listS : D → Option (List D)
  | .list ds => some ds
  | .tuple ds => some ds
  | .str z => some (z.cps.toList.map fun c => .str ⟨#[c]⟩)
  | _ => none

end Y

namespace Y
open PySem L2
def CMono (C : Str → Ct) : Prop := ∀ (f : Str) (as : List Ar) (Q Q' : VQ) (E E' : XQ), (∀ d k, Q d k → Q' d k) → (∀ e, E e → E' e) → C f as Q E → C f as Q' E'
theorem wComp_mono {B B' : D → (Option D → Prop) → Prop} (hB : ∀ d (R R' : Option D → Prop), (∀ o, R o → R' o) → B d R → B' d R') : ∀ (ds acc : List D) (R R' : List D → Prop), (∀ l, R l → R' l) → wComp B ds acc R → wComp B' ds acc R'
  | [], acc, R, R', h, q => h _ q
  | d :: ds, acc, R, R', h, q => hB d _ _ (fun o z => wComp_mono hB ds _ R R' h z) q
/-! ### statements -/
structure Pq where
  nx : En → Prop
  rt : VQ
  bk : En → Prop
  ct : En → Prop
  ex : XQ
structure Pq.Le (P P' : Pq) : Prop where
  nx : ∀ ρ, P.nx ρ → P'.nx ρ
  rt : ∀ d k, P.rt d k → P'.rt d k
  bk : ∀ ρ, P.bk ρ → P'.bk ρ
  ct : ∀ ρ, P.ct ρ → P'.ct ρ
  ex : ∀ e, P.ex e → P'.ex e
def dem1 : Sl → Sl
  | .own d => .val d
  | s => s
/-- own slots that get shared -/
def dem (ρ : En) : List Nat → En
  | [] => ρ
  | i :: is => dem (ρ.set i (dem1 (ρ.getD i .emp))) is
/-- the slot for a value -/
def slK (d : D) : Kd → Sl
  | .own => .own d
  | _ => .val d
/-- a loop over items -/
def wFor (t : Tg) (B : En → Pq → Prop) : List D → En → Pq → Prop
  | [], ρ, P => P.nx ρ
  | d :: ds, ρ, P => match setTg t d ρ with
    | some ρ' => B ρ' { P with nx := fun ρ2 => wFor t B ds ρ2 P, ct := fun ρ2 => wFor t B ds ρ2 P, bk := P.nx }
    | none => False
/-- so many turns at most -/
def LOOPN : Nat := 2 ^ 200
theorem loopn {m : Nat} (h : m ≤ 2 ^ 64) : m ≤ LOOPN := Nat.le_trans h (by decide +kernel)
/-- a while: the invariant W by a measure -/
def wWhile (T : En → (Bool → Prop) → Prop) (B : En → Pq → Prop) (ρ : En) (P : Pq) : Prop :=
  ∃ W : Nat → En → Prop, (∃ m, m ≤ LOOPN ∧ W m ρ) ∧ ∀ m ρ, W m ρ → T ρ fun b => (b = true → B ρ { P with nx := fun ρ2 => ∃ m', m' < m ∧ W m' ρ2, ct := fun ρ2 => ∃ m', m' < m ∧ W m' ρ2, bk := P.nx }) ∧ (b = false → P.nx ρ)
theorem Pq.Le.refl (P : Pq) : P.Le P := ⟨fun _ z => z, fun _ _ z => z, fun _ z => z, fun _ z => z, fun _ z => z⟩
theorem Pq.Le.sub {P P' : Pq} (h : P.Le P') {n n' b b' c c' : En → Prop} (hn : ∀ ρ, n ρ → n' ρ) (hb : ∀ ρ, b ρ → b' ρ) (hc : ∀ ρ, c ρ → c' ρ) : Pq.Le ⟨n, P.rt, b, c, P.ex⟩ ⟨n', P'.rt, b', c', P'.ex⟩ := ⟨hn, h.rt, hb, hc, h.ex⟩
def MonoB (B : En → Pq → Prop) : Prop := ∀ ρ P P', Pq.Le P P' → B ρ P → B ρ P'
theorem wFor_mono {t : Tg} {B : En → Pq → Prop} (mB : MonoB B) : ∀ (ds : List D) (ρ : En) (P P' : Pq), P.Le P' → wFor t B ds ρ P → wFor t B ds ρ P'
  | [], ρ, P, P', h, q => h.nx _ q
  | d :: ds, ρ, P, P', h, q => by
    simp only [wFor] at q ⊢
    split at q
    · exact mB _ _ _ (h.sub (fun ρ z => wFor_mono mB ds ρ P P' h z) h.nx (fun ρ z => wFor_mono mB ds ρ P P' h z)) q
    · exact q.elim
theorem wWhile_mono {T T' : En → (Bool → Prop) → Prop} {B : En → Pq → Prop} (mB : MonoB B) (mT : ∀ ρ Q Q', (∀ b, Q b → Q' b) → T ρ Q → T' ρ Q') {ρ : En} {P P' : Pq} (h : P.Le P') (q : wWhile T B ρ P) : wWhile T' B ρ P' := by
  obtain ⟨W, h0, h1⟩ := q
  exact ⟨W, h0, fun m ρ w => mT _ _ _ (fun b z => ⟨fun e => mB _ _ _ (h.sub (fun _ z => z) h.nx (fun _ z => z)) (z.1 e), fun e => h.nx _ (z.2 e)⟩) (h1 m ρ w)⟩
/-- a loop by an invariant -/
theorem wFor_inv {t : Tg} {B : En → Pq → Prop} (mB : MonoB B) {P : Pq} : ∀ (ds : List D) (ρ : En) (I : Nat → En → Prop), I 0 ρ → (∀ (i : Nat) (d : D) (ρ : En), ds[i]? = some d → I i ρ → ∃ ρ', setTg t d ρ = some ρ' ∧ B ρ' { P with nx := I (i + 1), ct := I (i + 1), bk := P.nx }) → (∀ ρ, I ds.length ρ → P.nx ρ) → wFor t B ds ρ P
  | [], ρ, I, h0, hs, he => he ρ h0
  | d :: ds, ρ, I, h0, hs, he => by
    obtain ⟨ρ', e, q⟩ := hs 0 d ρ rfl h0
    simp only [wFor, e]
    have go : ∀ ρ2, I 1 ρ2 → wFor t B ds ρ2 P := fun ρ2 h => wFor_inv mB ds ρ2 (fun i => I (i + 1)) h (fun i d ρ hd hi => hs (i + 1) d ρ (by simpa using hd) hi) fun ρ h => he ρ (by simpa using h)
    exact mB _ _ _ ((Pq.Le.refl P).sub (n' := fun ρ2 => wFor t B ds ρ2 P) (c' := fun ρ2 => wFor t B ds ρ2 P) go (fun _ z => z) go) q
end Y

namespace Y
open PySem PySem.Spec PyProof.Rows L2 M
/-! ### what a value denotes; Z: the addresses that may still change -/
def KTup (K : PySem.W.Frag) (a : Addr) (xs : List V) : Prop :=
  ∃ (o : Obj) (its : Array Value) (n : Nat), K.lookup a = some o ∧ o.cls = .type "tuple" ∧ o.data = .seq its n ∧ its.size ≤ sizeLine ∧ Vals xs its.toList
def LstAt (H : Hp) (Z : Addr → Prop) (a : Addr) (xs : List V) : Prop := ¬ Z a ∧ H a = some (.lst xs)
def TupAt (K : PySem.W.Frag) (H : Hp) (Z : Addr → Prop) (a : Addr) (xs : List V) : Prop := (¬ Z a ∧ Rd H a (.tup xs)) ∨ KTup K a xs
theorem TupAt.sq {K : PySem.W.Frag} {H : Hp} {Z : Addr → Prop} {a : Addr} {xs : List V} (h : TupAt K H Z a xs) : SqT K H a xs := h.elim (fun z => .inl z.2) .inr
def kD : Key → D
  | .inl i => .int i
  | .inr s => .str s
mutual
inductive Dn (K : PySem.W.Frag) (H : Hp) (Z : Addr → Prop) : V → D → Prop
  | non : Dn K H Z .non .none
  | bl (b : Bool) : Dn K H Z (.bl b) (.bool b)
  | int (i : Int) : Dn K H Z (.int i) (.int i)
  | str (x : Str) : Dn K H Z (.str x) (.str x)
  | lst {a : Addr} {xs : List V} {ds : List D} : LstAt H Z a xs → DnL K H Z xs ds → Dn K H Z (.ref a) (.list ds)
  | tup {a : Addr} {xs : List V} {ds : List D} : TupAt K H Z a xs → DnL K H Z xs ds → Dn K H Z (.ref a) (.tuple ds)
  | dk {a : Addr} {kvs : List (Key × V)} {ps : List (D × D)} : ¬ Z a → H a = some (.dK kvs) → DnK K H Z kvs ps → Dn K H Z (.ref a) (.dict ps)
  | dt {a : Addr} {kvs : List (List Key × V)} {ps : List (D × D)} : ¬ Z a → H a = some (.dT kvs) → DnT K H Z kvs ps → Dn K H Z (.ref a) (.dict ps)
inductive DnL (K : PySem.W.Frag) (H : Hp) (Z : Addr → Prop) : List V → List D → Prop
  | nil : DnL K H Z [] []
  | cons {v : V} {vs : List V} {d : D} {ds : List D} : Dn K H Z v d → DnL K H Z vs ds → DnL K H Z (v :: vs) (d :: ds)
inductive DnK (K : PySem.W.Frag) (H : Hp) (Z : Addr → Prop) : List (Key × V) → List (D × D) → Prop
  | nil : DnK K H Z [] []
  | cons {k : Key} {v : V} {vs : List (Key × V)} {d : D} {ds : List (D × D)} : Dn K H Z v d → DnK K H Z vs ds → DnK K H Z ((k, v) :: vs) ((kD k, d) :: ds)
inductive DnT (K : PySem.W.Frag) (H : Hp) (Z : Addr → Prop) : List (List Key × V) → List (D × D) → Prop
  | nil : DnT K H Z [] []
  | cons {k : List Key} {v : V} {vs : List (List Key × V)} {d : D} {ds : List (D × D)} : Dn K H Z v d → DnT K H Z vs ds → DnT K H Z ((k, v) :: vs) ((.tuple (k.map kD), d) :: ds)
end
section
variable {K : PySem.W.Frag} {H H' : Hp} {Z Z' : Addr → Prop}
theorem rd_keep {a : Addr} {u : HO} (k : ∀ b o, ¬ Z b → H b = some o → H' b = some o) (hz : ¬ Z a) (r : Rd H a u) : Rd H' a u := by
  rcases r with r | ⟨o, r⟩
  · exact .inl (k _ _ hz r)
  · exact .inr ⟨o, k _ _ hz r⟩
theorem rd_there {a : Addr} {u : HO} (r : Rd H a u) : H a ≠ none := by
  rcases r with r | ⟨o, r⟩ <;> (rw [r]; exact fun z => nomatch z)
section
variable (k : ∀ b o, ¬ Z b → H b = some o → H' b = some o) (hz : ∀ b, Z' b → Z b ∨ H b = none)
include k hz
theorem nz_keep {a : Addr} {u : HO} (h : ¬ Z a) (r : Rd H a u) : ¬ Z' a := fun z => (hz a z).elim h (rd_there r)
theorem nz_keepH {a : Addr} {u : HO} (h : ¬ Z a) (r : H a = some u) : ¬ Z' a := nz_keep k hz h (.inl r)
theorem lst_keep {a : Addr} {xs : List V} (h : LstAt H Z a xs) : LstAt H' Z' a xs := ⟨nz_keepH k hz h.1 h.2, k _ _ h.1 h.2⟩
theorem tup_keep {a : Addr} {xs : List V} (h : TupAt K H Z a xs) : TupAt K H' Z' a xs := h.elim (fun z => .inl ⟨nz_keep k hz z.1 z.2, rd_keep k z.1 z.2⟩) .inr
mutual
theorem Dn.keep : ∀ (d : D) (v : V), Dn K H Z v d → Dn K H' Z' v d
  | .none, _, h => by cases h; exact .non
  | .bool b, _, h => by cases h; exact .bl b
  | .int i, _, h => by cases h; exact .int i
  | .str x, _, h => by cases h; exact .str x
  | .list ds, _, h => by
    cases h with
    | lst s a => exact .lst (lst_keep k hz s) (DnL.keep ds _ a)
  | .tuple ds, _, h => by
    cases h with
    | tup s a => exact .tup (tup_keep k hz s) (DnL.keep ds _ a)
  | .dict ps, _, h => by
    cases h with
    | dk n r a => exact .dk (nz_keepH k hz n r) (k _ _ n r) (DnK.keep ps _ a)
    | dt n r a => exact .dt (nz_keepH k hz n r) (k _ _ n r) (DnT.keep ps _ a)
theorem DnL.keep : ∀ (ds : List D) (vs : List V), DnL K H Z vs ds → DnL K H' Z' vs ds
  | [], _, h => by cases h; exact .nil
  | d :: ds, _, h => by
    cases h with
    | cons a b => exact .cons (Dn.keep d _ a) (DnL.keep ds _ b)
theorem DnK.keep : ∀ (ps : List (D × D)) (kvs : List (Key × V)), DnK K H Z kvs ps → DnK K H' Z' kvs ps
  | [], _, h => by cases h; exact .nil
  | (_, d) :: ds, _, h => by
    cases h with
    | cons a b => exact .cons (Dn.keep d _ a) (DnK.keep ds _ b)
theorem DnT.keep : ∀ (ps : List (D × D)) (kvs : List (List Key × V)), DnT K H Z kvs ps → DnT K H' Z' kvs ps
  | [], _, h => by cases h; exact .nil
  | (_, d) :: ds, _, h => by
    cases h with
    | cons a b => exact .cons (Dn.keep d _ a) (DnT.keep ds _ b)
end
end
theorem Dn.weak {v : V} {d : D} (h : Dn K H Z v d) (hz : ∀ b, Z' b → Z b) : Dn K H Z' v d := Dn.keep (fun _ _ _ e => e) (fun b z => .inl (hz b z)) d v h
theorem Dn.same {v : V} {d : D} (h : Dn K H Z v d) (s : Same H H') : Dn K H' Z v d := Dn.keep (fun b o _ e => s b o e) (fun b z => .inl z) d v h
theorem DnL.same {v : List V} {d : List D} (h : DnL K H Z v d) (s : Same H H') : DnL K H' Z v d := DnL.keep (fun b o _ e => s b o e) (fun b z => .inl z) d v h
theorem DnL.weak {v : List V} {d : List D} (h : DnL K H Z v d) (hz : ∀ b, Z' b → Z b) : DnL K H Z' v d := DnL.keep (fun _ _ _ e => e) (fun b z => .inl (hz b z)) d v h
theorem Dn.scal_any {v : V} {d : D} (h : Dn K H Z v d) (s : scal d = true) : Dn K H' Z' v d := by
  cases d <;> first | (cases h; constructor; done) | cases s
theorem DnL.length {v : List V} {d : List D} (h : DnL K H Z v d) : v.length = d.length := by
  induction d generalizing v with
  | nil => cases h; rfl
  | cons d ds ih => cases h with | cons a b => simp [ih b]
theorem DnL.append : ∀ {v w : List V} {d e : List D}, DnL K H Z v d → DnL K H Z w e → DnL K H Z (v ++ w) (d ++ e)
  | _, _, [], _, h, h' => by cases h; exact h'
  | _, _, d :: ds, _, h, h' => by cases h with | cons a b => exact .cons a (DnL.append b h')
theorem DnL.get : ∀ {v : List V} {d : List D} {i : Nat} {x : D}, DnL K H Z v d → d[i]? = some x → ∃ u, v[i]? = some u ∧ Dn K H Z u x
  | _, [], _, _, h, e => by simp at e
  | _, d :: ds, 0, x, h, e => by cases h with | cons a b => simp at e; subst e; exact ⟨_, rfl, a⟩
  | _, d :: ds, i + 1, x, h, e => by
    cases h with
    | cons a b =>
      obtain ⟨u, h1, h2⟩ := DnL.get (i := i) (x := x) b (by simpa using e)
      exact ⟨u, by simpa using h1, h2⟩
theorem DnL.getV : ∀ {v : List V} {d : List D} {i : Nat} {x : V}, DnL K H Z v d → v[i]? = some x → ∃ u, d[i]? = some u ∧ Dn K H Z x u
  | _, [], _, _, h, e => by cases h; simp at e
  | _, d :: ds, 0, x, h, e => by cases h with | cons a b => simp at e; subst e; exact ⟨_, rfl, a⟩
  | _, d :: ds, i + 1, x, h, e => by
    cases h with
    | cons a b =>
      obtain ⟨u, h1, h2⟩ := DnL.getV (i := i) (x := x) b (by simpa using e)
      exact ⟨u, by simpa using h1, h2⟩
theorem DnL.take : ∀ {v : List V} {d : List D} (n : Nat), DnL K H Z v d → DnL K H Z (v.take n) (d.take n)
  | _, _, 0, _ => .nil
  | _, [], n + 1, h => by cases h; exact .nil
  | _, d :: ds, n + 1, h => by cases h with | cons a b => exact .cons a (DnL.take n b)
theorem DnL.drop : ∀ {v : List V} {d : List D} (n : Nat), DnL K H Z v d → DnL K H Z (v.drop n) (d.drop n)
  | _, _, 0, h => h
  | _, [], n + 1, h => by cases h; exact .nil
  | _, d :: ds, n + 1, h => by cases h with | cons a b => exact DnL.drop n b
theorem DnL.setAt : ∀ {v : List V} {d : List D} (n : Nat) {x : V} {y : D}, DnL K H Z v d → Dn K H Z x y → DnL K H Z (v.set n x) (d.set n y)
  | _, [], n, _, _, h, h' => by cases h; exact .nil
  | _, d :: ds, 0, _, _, h, h' => by cases h with | cons a b => exact .cons h' b
  | _, d :: ds, n + 1, _, _, h, h' => by cases h with | cons a b => exact .cons a (DnL.setAt n b h')
theorem DnL.reverse {v : List V} {d : List D} (h : DnL K H Z v d) : DnL K H Z v.reverse d.reverse := by
  induction d generalizing v with
  | nil => cases h; exact .nil
  | cons d ds ih =>
    cases h with
    | cons a b =>
      rw [List.reverse_cons, List.reverse_cons]
      exact DnL.append (ih b) (.cons a .nil)
theorem DnL.rep {v : List V} {d : List D} (h : DnL K H Z v d) : ∀ n : Nat, DnL K H Z (List.replicate n v).flatten (List.replicate n d).flatten
  | 0 => .nil
  | n + 1 => by
    rw [List.replicate_succ, List.replicate_succ, List.flatten_cons, List.flatten_cons]
    exact DnL.append h (DnL.rep h n)
theorem DnL.isEmpty {v : List V} {d : List D} (h : DnL K H Z v d) : v.isEmpty = d.isEmpty := by
  cases d <;> cases h <;> rfl
mutual
theorem Dn.dp : ∀ (d : D) (v : V), Dn K H Z v d → d.hasDict = false → Dp K H v d
  | .none, _, h, _ => by cases h; exact .non
  | .bool b, _, h, _ => by cases h; exact .bl b
  | .int i, _, h, _ => by cases h; exact .int i
  | .str x, _, h, _ => by cases h; exact .str x
  | .list ds, _, h, n => by
    cases h with
    | lst s a => exact .lst (SqL.of s.2) (DnL.dp ds _ a (by simpa only [PyData.hasDict] using n))
  | .tuple ds, _, h, n => by
    cases h with
    | tup s a => exact .tup s.sq (DnL.dp ds _ a (by simpa only [PyData.hasDict] using n))
  | .dict ps, _, h, n => by simp [PyData.hasDict] at n
theorem DnL.dp : ∀ (ds : List D) (vs : List V), DnL K H Z vs ds → PyData.hasDictAll ds = false → DpAll K H vs ds
  | [], _, h, _ => by cases h; exact .nil
  | d :: ds, _, h, n => by
    simp only [PyData.hasDictAll, Bool.or_eq_false_iff] at n
    cases h with
    | cons a b => exact .cons (Dn.dp d _ a n.1) (DnL.dp ds _ b n.2)
end
end

/-! ### own containers; what may be read -/
def OwnAt (K : PySem.W.Frag) (H : Hp) (Z : Addr → Prop) (a : Addr) (d : D) : Prop :=
  (∃ xs ds, d = .list ds ∧ H a = some (.lst xs) ∧ DnL K H Z xs ds) ∨
  (∃ kvs ps, d = .dict ps ∧ H a = some (.dK kvs) ∧ DnK K H Z kvs ps) ∨
  (∃ kvs ps, d = .dict ps ∧ H a = some (.dT kvs) ∧ DnT K H Z kvs ps ∧ ps ≠ [])
/-- may be read: shared, or an own container at its address -/
def Dr (K : PySem.W.Frag) (pn : List Addr) (H : Hp) (Z : Addr → Prop) (v : V) (d : D) : Prop := Dn K H Z v d ∨ ∃ a, v = .ref a ∧ a ∉ pn ∧ OwnAt K H Z a d
section
variable {K : PySem.W.Frag} {H H' : Hp} {Z Z' : Addr → Prop} {pn : List Addr}
theorem OwnAt.there {a : Addr} {d : D} (h : OwnAt K H Z a d) : H a ≠ none := by
  rcases h with ⟨_, _, _, e, _⟩ | ⟨_, _, _, e, _⟩ | ⟨_, _, _, e, _⟩ <;> (rw [e]; exact fun z => nomatch z)
theorem OwnAt.keep {a : Addr} {d : D} (k : ∀ b o, ¬ Z b → H b = some o → H' b = some o) (hz : ∀ b, Z' b → Z b ∨ H b = none) (ha : ∀ o, H a = some o → H' a = some o) (h : OwnAt K H Z a d) : OwnAt K H' Z' a d := by
  rcases h with ⟨xs, ds, e, h1, h2⟩ | ⟨xs, ds, e, h1, h2⟩ | ⟨xs, ds, e, h1, h2⟩
  · exact .inl ⟨xs, ds, e, ha _ h1, DnL.keep k hz _ _ h2⟩
  · exact .inr (.inl ⟨xs, ds, e, ha _ h1, DnK.keep k hz _ _ h2⟩)
  · exact .inr (.inr ⟨xs, ds, e, ha _ h1, DnT.keep k hz _ _ h2.1, h2.2⟩)
theorem OwnAt.dn {a : Addr} {d : D} (h : OwnAt K H Z a d) (n : ¬ Z a) : Dn K H Z (.ref a) d := by
  rcases h with ⟨xs, ds, rfl, h1, h2⟩ | ⟨xs, ds, rfl, h1, h2⟩ | ⟨xs, ds, rfl, h1, h2⟩
  · exact .lst ⟨n, h1⟩ h2
  · exact .dk n h1 h2
  · exact .dt n h1 h2.1
theorem Dr.list {v : V} {ds : List D} (h : Dr K pn H Z v (.list ds)) : ∃ a xs, v = .ref a ∧ H a = some (.lst xs) ∧ DnL K H Z xs ds := by
  rcases h with h | ⟨a, rfl, _, h⟩
  · cases h with | lst s b => exact ⟨_, _, rfl, s.2, b⟩
  · rcases h with ⟨xs, ds', e, h1, h2⟩ | ⟨xs, ds, e, _⟩ | ⟨xs, ds, e, _⟩
    · cases e; exact ⟨a, xs, rfl, h1, h2⟩
    · cases e
    · cases e
theorem Dr.tup {v : V} {ds : List D} (h : Dr K pn H Z v (.tuple ds)) : ∃ a xs, v = .ref a ∧ TupAt K H Z a xs ∧ DnL K H Z xs ds := by
  rcases h with h | ⟨a, rfl, _, h⟩
  · cases h with | tup s b => exact ⟨_, _, rfl, s, b⟩
  · rcases h with ⟨xs, ds', e, _⟩ | ⟨xs, ds, e, _⟩ | ⟨xs, ds, e, _⟩ <;> cases e
theorem Dr.int {v : V} {i : Int} (h : Dr K pn H Z v (.int i)) : v = .int i := by
  rcases h with h | ⟨a, rfl, _, h⟩
  · cases h; rfl
  · rcases h with ⟨xs, ds', e, _⟩ | ⟨xs, ds, e, _⟩ | ⟨xs, ds, e, _⟩ <;> cases e
theorem Dr.str {v : V} {i : Str} (h : Dr K pn H Z v (.str i)) : v = .str i := by
  rcases h with h | ⟨a, rfl, _, h⟩
  · cases h; rfl
  · rcases h with ⟨xs, ds', e, _⟩ | ⟨xs, ds, e, _⟩ | ⟨xs, ds, e, _⟩ <;> cases e
theorem Dr.bl {v : V} {i : Bool} (h : Dr K pn H Z v (.bool i)) : v = .bl i := by
  rcases h with h | ⟨a, rfl, _, h⟩
  · cases h; rfl
  · rcases h with ⟨xs, ds', e, _⟩ | ⟨xs, ds, e, _⟩ | ⟨xs, ds, e, _⟩ <;> cases e
theorem Dr.non {v : V} (h : Dr K pn H Z v .none) : v = .non := by
  rcases h with h | ⟨a, rfl, _, h⟩
  · cases h; rfl
  · rcases h with ⟨xs, ds', e, _⟩ | ⟨xs, ds, e, _⟩ | ⟨xs, ds, e, _⟩ <;> cases e
theorem Dr.dp {v : V} {d : D} (h : Dr K pn H Z v d) (n : d.hasDict = false) : Dp K H v d := by
  rcases h with h | ⟨a, rfl, _, h⟩
  · exact Dn.dp d v h n
  · rcases h with ⟨xs, ds, rfl, h1, h2⟩ | ⟨xs, ds, rfl, _⟩ | ⟨xs, ds, rfl, _⟩
    · exact .lst (SqL.of h1) (DnL.dp ds _ h2 (by simpa only [PyData.hasDict] using n))
    · simp [PyData.hasDict] at n
    · simp [PyData.hasDict] at n
end
end Y

namespace L2
open PySem PySem.Spec PyProof.Rows
theorem PE.weak {X : Cx} {e : Expr} {t t' : TE} (h : PE X e t) (w : ∀ σ H Q, t' σ H Q → t σ H Q) : PE X e t' := ⟨fun pins s σ H Q I q => h.run pins s σ H Q I (w σ H Q q)⟩
end L2
namespace Y
open PySem PySem.Spec PyProof.Rows L2 M
/-! ### the pen of the draws; steps of the heap -/
abbrev penO (nx : Str) (c : Addr) (i r : Int) : HO := .dK [(Sum.inr "cells", .ref c), (Sum.inr nx, .int i), (Sum.inr "rest", .int r)]
abbrev NX : Str := "index"
/-- the name of the lambdas that the code object with the table at a makes -/
abbrev LQ : Addr → Str := fun _ => "law.<locals>.<lambda>"
/-- so many draws at most -/
def LIM : Nat := 2 ^ 400000
/-- t draws are left -/
def Bd (t : Nat) (pn : List Addr) (H : Hp) : Prop := t ≤ LIM ∧ ∀ d ∈ pn, ∀ c i r, H d = some (penO NX c i r) → i + (t : Int) ≤ (LIM : Int)
theorem Bd.less {t t' : Nat} {pn : List Addr} {H : Hp} (b : Bd t pn H) (h : t' ≤ t) : Bd t' pn H := ⟨Nat.le_trans h b.1, fun d hd c i r e => by have := b.2 d hd c i r e; omega⟩
def IsPen (H : Hp) (d : Addr) : Prop := ∃ c i r, H d = some (penO NX c i r)
/-- a pen goes on; a table of code objects grows -/
structure PenStep (H H' : Hp) (d : Addr) : Prop where
  go : ∀ c i r, 0 ≤ i → 0 ≤ r → H d = some (penO NX c i r) → ∃ i' r', 0 ≤ i' ∧ 0 ≤ r' ∧ H' d = some (penO NX c i' r')
  is : IsPen H d → IsPen H' d
  tab : LamX.TabS H d (LQ d) → LamX.TabS H' d (LQ d)
structure HStep (t : Nat) (pn : List Addr) (H H' : Hp) : Prop where
  keep : ∀ b o, b ∉ pn → H b = some o → H' b = some o
  pen : ∀ d ∈ pn, PenStep H H' d
  there : ∀ b, H b ≠ none → H' b ≠ none
  bd : Bd t pn H'
theorem PenStep.refl (H : Hp) (d : Addr) : PenStep H H d := ⟨fun c i r h1 h2 e => ⟨i, r, h1, h2, e⟩, id, id⟩
theorem PenStep.trans {H H1 H2 : Hp} {d : Addr} (a : PenStep H H1 d) (b : PenStep H1 H2 d) : PenStep H H2 d := ⟨fun c i r h1 h2 e => by
  obtain ⟨i', r', h1', h2', e'⟩ := a.go c i r h1 h2 e
  exact b.go c i' r' h1' h2' e', fun z => b.is (a.is z), fun z => b.tab (a.tab z)⟩
theorem PenStep.same {H H' : Hp} {d : Addr} (s : Same H H') : PenStep H H' d := ⟨fun c i r h1 h2 e => ⟨i, r, h1, h2, s _ _ e⟩, fun ⟨c, i, r, e⟩ => ⟨c, i, r, s _ _ e⟩, fun t => t.ext fun b o e => s b o e⟩
/-- no code object that the kit follows -/
def NoExt (H : Hp) (a : Addr) : Prop := ∀ q, H a ≠ some (LamX.CodeO a q)
theorem tabs_upd {H : Hp} {a d : Addr} {o : HO} {q : Str} (n : d ≠ a) (x : NoExt H a) (t : LamX.TabS H d q) : LamX.TabS (upd H a o) d q := by
  obtain ⟨ps, h1, h2, h3⟩ := t
  refine ⟨ps, by rw [upd_ne n]; exact h1, h2, fun pos cv e => ?_⟩
  obtain ⟨c, e1, e2⟩ := h3 pos cv e
  refine ⟨c, e1, ?_⟩
  rw [upd_ne (fun z => x _ (by rw [← z]; exact e2))]
  exact e2
theorem PenStep.upd {H H1 : Hp} {a d : Addr} {o : HO} (p : PenStep H H1 d) (n : d ≠ a) (x : NoExt H1 a) : PenStep H (L2.upd H1 a o) d :=
  p.trans ⟨fun c i r h1 h2 e => ⟨i, r, h1, h2, by rw [upd_ne n]; exact e⟩, fun ⟨c, i, r, e⟩ => ⟨c, i, r, by rw [upd_ne n]; exact e⟩, fun t => tabs_upd n x t⟩
theorem HStep.refl {t : Nat} {pn : List Addr} {H : Hp} (b : Bd t pn H) : HStep t pn H H := ⟨fun _ _ _ e => e, fun _ _ => PenStep.refl _ _, fun _ e => e, b⟩
theorem HStep.trans {s t : Nat} {pn : List Addr} {H H1 H2 : Hp} (a : HStep s pn H H1) (b : HStep t pn H1 H2) : HStep t pn H H2 :=
  ⟨fun x o n e => b.keep x o n (a.keep x o n e), fun d hd => (a.pen d hd).trans (b.pen d hd), fun x e => b.there x (a.there x e), b.bd⟩
theorem HStep.less {s t : Nat} {pn : List Addr} {H H1 : Hp} (a : HStep s pn H H1) (h : t ≤ s) : HStep t pn H H1 := ⟨a.keep, a.pen, a.there, a.bd.less h⟩
theorem Same.there {H H' : Hp} (s : Same H H') : ∀ b, H b ≠ none → H' b ≠ none := fun b h => by
  cases e : H b with
  | none => exact absurd e h
  | some o => rw [s b o e]; exact fun z => nomatch z
theorem Bd.same {t : Nat} {pn : List Addr} {H H' : Hp} (b : Bd t pn H) (pt : ∀ a ∈ pn, H a ≠ none) (s : Same H H') : Bd t pn H' := ⟨b.1, fun d hd c i r e => by
  cases q : H d with
  | none => exact absurd q (pt d hd)
  | some o =>
    have := s d o q
    rw [e] at this
    cases this
    exact b.2 d hd c i r q⟩
theorem HStep.of_same {t : Nat} {pn : List Addr} {H H' : Hp} (b : Bd t pn H) (pt : ∀ a ∈ pn, H a ≠ none) (s : Same H H') : HStep t pn H H' :=
  ⟨fun b o _ e => s b o e, fun d _ => .same s, Same.there s, b.same pt s⟩
theorem HStep.free {t : Nat} {pn : List Addr} {H H' : Hp} (s : HStep t pn H H') {a : Addr} (h : H' a = none) : H a = none := by
  cases e : H a with
  | none => rfl
  | some o => exact absurd h (s.there a (by rw [e]; exact fun z => nomatch z))
def Zp (Z : Addr → Prop) (a : Addr) : Addr → Prop := fun b => Z b ∨ b = a
def PenOk (K : PySem.W.Frag) (H : Hp) (Z : Addr → Prop) (d : Addr) : Prop := ∃ c i r, ∃ ns : List Int, 0 ≤ i ∧ 0 ≤ r ∧ H d = some (penO NX c i r) ∧ Dn K H Z (.ref c) (.list (ns.map PyData.int))
def TabA (H : Hp) (a : Addr) : Prop := LamX.TabS H a (LQ a)
def PenX (K : PySem.W.Frag) (H : Hp) (Z : Addr → Prop) (d : Addr) : Prop := PenOk K H Z d ∨ TabA H d
theorem PenX.pen {K : PySem.W.Frag} {H : Hp} {Z : Addr → Prop} {d : Addr} (p : PenX K H Z d) (h : IsPen H d) : PenOk K H Z d := by
  rcases p with p | ⟨ps, e, _⟩
  · exact p
  · obtain ⟨c', i, r, e'⟩ := h
    rw [e] at e'
    cases e'
theorem PenOk.is {K : PySem.W.Frag} {H : Hp} {Z : Addr → Prop} {d : Addr} (p : PenOk K H Z d) : IsPen H d := by
  obtain ⟨c, i, r, ns, h1, h2, e, hn⟩ := p
  exact ⟨c, i, r, e⟩
theorem PenX.move {K : PySem.W.Frag} {H H' : Hp} {Z Z' : Addr → Prop} {d : Addr} (p : PenX K H Z d) (s : PenStep H H' d) (k : ∀ b o, ¬ Z b → H b = some o → H' b = some o) (hz : ∀ b, Z' b → Z b ∨ H b = none) : PenX K H' Z' d := by
  rcases p with ⟨c, i, r, ns, h1, h2, e, hn⟩ | t
  · obtain ⟨i', r', h1', h2', e'⟩ := s.go c i r h1 h2 e
    exact .inl ⟨c, i', r', ns, h1', h2', e', Dn.keep k hz _ _ hn⟩
  · exact .inr (s.tab t)
theorem PenX.weak {K : PySem.W.Frag} {H : Hp} {Z Z' : Addr → Prop} {d : Addr} (p : PenX K H Z d) (hz : ∀ b, Z' b → Z b) : PenX K H Z' d := p.move (.refl _ _) (fun _ _ _ e => e) fun b z => .inl (hz b z)
theorem ins_noext {H : Hp} {a C dx : Addr} {fvs : List (Str × V)} (h : H a = some (.ins C dx fvs)) : NoExt H a := fun P z => by rw [h] at z; cases z
theorem OwnAt.noext {K : PySem.W.Frag} {H : Hp} {Z : Addr → Prop} {a : Addr} {d : D} (h : OwnAt K H Z a d) : NoExt H a := fun P z => by
  rcases h with ⟨_, _, _, e, _⟩ | ⟨_, _, _, e, _⟩ | ⟨_, _, _, e, _⟩ <;> (rw [e] at z; cases z)
/-! ### frames -/
/-- the script: a list that is known, of ints -/
def Scr (K : PySem.W.Frag) (H : Hp) (Z : Addr → Prop) (a : Addr) (ns : List Int) : Prop := (¬ Z a ∧ Rd H a (.lst (ns.map V.int))) ∨
  ∃ (o : Obj) (its : Array Value) (n : Nat), K.lookup a = some o ∧ o.cls = .type "list" ∧ o.dict = none ∧ o.data = .seq its n ∧ its.size ≤ sizeLine ∧ Vals (ns.map V.int) its.toList
theorem Scr.sq {K : PySem.W.Frag} {H : Hp} {Z : Addr → Prop} {a : Addr} {ns : List Int} (h : Scr K H Z a ns) : SqL K H a (ns.map V.int) := h.elim (fun z => .inl z.2) .inr
theorem Scr.keep {K : PySem.W.Frag} {H H' : Hp} {Z Z' : Addr → Prop} {a : Addr} {ns : List Int} (k : ∀ b o, ¬ Z b → H b = some o → H' b = some o) (hz : ∀ b, Z' b → Z b ∨ H b = none) (h : Scr K H Z a ns) : Scr K H' Z' a ns :=
  h.elim (fun z => .inl ⟨nz_keep k hz z.1 z.2, rd_keep k z.1 z.2⟩) .inr
/-! ### exceptions: what is wanted of those that leave -/
structure Xw where
  mg : Str → Option Value
  E : XQ
  W : Value → Option Addr → Hp → Prop
  kn : Hp → (Addr → Prop) → List Addr → List Addr → Prop
/-- nothing leaves -/
abbrev Xw.no (m : Str → Option Value) : Xw := ⟨m, fun _ => False, fun _ _ _ => False, fun _ _ _ _ => True⟩
/-- nothing leaves, and pens may be made -/
def XwFree (x : Xw) : Prop := (∀ e, ¬ x.E e) ∧ ∀ H B d pn mu, x.kn H B pn mu → x.kn H B (d :: pn) mu
abbrev Xw.ne (x : Xw) : Xw := ⟨x.mg, fun _ => False, fun _ _ _ => False, x.kn⟩
/-- an exception's data: its class, its dict -/
def ExR (K : PySem.W.Frag) (mg : Str → Option Value) (H : Hp) (Z : Addr → Prop) (e : Exc) (cls : Value) (d : Option Addr) : Prop :=
  mg e.cls = some cls ∧ ∃ dd fvs, d = some dd ∧ ¬ Z dd ∧ H dd = some (.xd fvs) ∧ ∀ f x, e.fs.lookup f = some x → ∃ v, fvs.lookup f = some v ∧ Dn K H Z v x
theorem ExR.keep {K : PySem.W.Frag} {mg : Str → Option Value} {H H' : Hp} {Z Z' : Addr → Prop} {e : Exc} {cls : Value} {d : Option Addr} (k : ∀ b o, ¬ Z b → H b = some o → H' b = some o) (hz : ∀ b, Z' b → Z b ∨ H b = none) (h : ExR K mg H Z e cls d) : ExR K mg H' Z' e cls d := by
  obtain ⟨h1, dd, fvs, e1, n, hd, hf⟩ := h
  refine ⟨h1, dd, fvs, e1, nz_keepH k hz n hd, k _ _ n hd, fun f x hx => ?_⟩
  obtain ⟨v, e2, n2⟩ := hf f x hx
  exact ⟨v, e2, Dn.keep k hz _ _ n2⟩
/-- a caught exception -/
def exk (a : Addr) (cls : Value) (d : Option Addr) : HO := .ext fun h => ∃ o vs, h.get? a = some o ∧ o.cls = cls ∧ o.dict = d ∧ o.data = .fields vs
def ExS (K : PySem.W.Frag) (mg : Str → Option Value) (H : Hp) (Z : Addr → Prop) (e : Exc) (sv : Option (Option V)) : Prop := ∃ a cls d, sv = some (some (.ref a)) ∧ ¬ Z a ∧ H a = some (exk a cls d) ∧ ExR K mg H Z e cls d
theorem ExS.keep {K : PySem.W.Frag} {mg : Str → Option Value} {H H' : Hp} {Z Z' : Addr → Prop} {e : Exc} {sv : Option (Option V)} (k : ∀ b o, ¬ Z b → H b = some o → H' b = some o) (hz : ∀ b, Z' b → Z b ∨ H b = none) (h : ExS K mg H Z e sv) : ExS K mg H' Z' e sv := by
  obtain ⟨a, cls, d, e1, n, h1, h2⟩ := h
  exact ⟨a, cls, d, e1, nz_keepH k hz n h1, k _ _ n h1, h2.keep k hz⟩
def SlOk (K : PySem.W.Frag) (xw : Xw) (H0 H : Hp) (Z : Addr → Prop) (pn : List Addr) (sv : Option (Option V)) : Sl → Prop
  | .emp => True
  | .val d => ∃ v, sv = some (some v) ∧ Dn K H Z v d
  | .own d => ∃ a, sv = some (some (.ref a)) ∧ Z a ∧ H0 a = none ∧ a ∉ pn ∧ OwnAt K H Z a d
  | .pen => ∃ a, sv = some (some (.ref a)) ∧ a ∈ pn ∧ IsPen H a
  | .scr n => ∃ a ns, sv = some (some (.ref a)) ∧ Scr K H Z a ns ∧ n = List.length ns
  | .gen g => ∃ v, sv = some (some v) ∧ g.P K H Z v
  | .obj _ _ => True
  | .exc e => ExS K xw.mg H Z e sv
/-- what stays over a def's run: values that are kept, objects that it may change -/
structure Fx where
  vs : List (V × D)
  mu : List Addr
abbrev Fx.nil : Fx := ⟨[], []⟩
abbrev Fx.add (fv : List (V × D)) (fr : Fx) : Fx := ⟨fv ++ fr.vs, fr.mu⟩
/-- from a def's entry on -/
structure HSt (t : Nat) (mu pn : List Addr) (H H' : Hp) : Prop where
  keep : ∀ b o, b ∉ pn → b ∉ mu → H b = some o → H' b = some o
  pen : ∀ d ∈ pn, PenStep H H' d
  there : ∀ b, H b ≠ none → H' b ≠ none
  bd : Bd t pn H'
theorem HStep.st {t : Nat} {mu pn : List Addr} {H H' : Hp} (s : HStep t pn H H') : HSt t mu pn H H' := ⟨fun b o n _ => s.keep b o n, s.pen, s.there, s.bd⟩
theorem HSt.to {t : Nat} {pn : List Addr} {H H' : Hp} (s : HSt t [] pn H H') : HStep t pn H H' := ⟨fun b o n => s.keep b o n (fun z => nomatch z), s.pen, s.there, s.bd⟩
theorem HSt.trans {s t : Nat} {mu pn : List Addr} {H H1 H2 : Hp} (a : HSt s mu pn H H1) (b : HStep t pn H1 H2) : HSt t mu pn H H2 :=
  ⟨fun x o n m e => b.keep x o n (a.keep x o n m e), fun d hd => (a.pen d hd).trans (b.pen d hd), fun x e => b.there x (a.there x e), b.bd⟩
theorem HSt.less {s t : Nat} {mu pn : List Addr} {H H1 : Hp} (a : HSt s mu pn H H1) (h : t ≤ s) : HSt t mu pn H H1 := ⟨a.keep, a.pen, a.there, a.bd.less h⟩
theorem HSt.free {t : Nat} {mu pn : List Addr} {H H' : Hp} (s : HSt t mu pn H H') {a : Addr} (h : H' a = none) : H a = none := by
  cases e : H a with
  | none => rfl
  | some o => exact absurd h (s.there a (by rw [e]; exact fun z => nomatch z))
/-- own by a slot -/
def NOf (ρ : En) (σ : L2.St) (b : Addr) : Prop := ∃ (j : Nat) (e : D), ρ[j]? = some (Sl.own e) ∧ σ[j]? = some (some (V.ref b))
/-- an object whose fields may be set -/
structure ObAt (K : PySem.W.Frag) (H0 H : Hp) (Z : Addr → Prop) (pn mu : List Addr) (NO : Addr → Prop) (nm : List Str) (fs : List (Str × Fd)) (x dx C : Addr) (fvs : List (Str × V)) : Prop where
  cl : Cls K C
  na : ∀ f ∈ nm, NoAttr K C f
  mu : x ∈ mu
  z : Z x
  t0 : H0 x ≠ none
  np : x ∉ pn
  no : ¬ NO x
  at_ : H x = some (.ins C dx fvs)
  few : fvs.map (·.1) = fs.map (·.1)
  val : ∀ f d, fs.lookup f = some (.val d) → ∃ v, fvs.lookup f = some v ∧ Dn K H Z v d
  own : ∀ f d, fs.lookup f = some (.own d) → ∃ b, fvs.lookup f = some (.ref b) ∧ Z b ∧ H0 b = none ∧ b ∉ pn ∧ ¬ NO b ∧ OwnAt K H Z b d
  inj : ∀ f f' d d' b, fs.lookup f = some (.own d) → fs.lookup f' = some (.own d') → fvs.lookup f = some (.ref b) → fvs.lookup f' = some (.ref b) → f = f'
def ObOk (K : PySem.W.Frag) (H0 H : Hp) (Z : Addr → Prop) (pn mu : List Addr) (NO : Addr → Prop) (sv : Option (Option V)) (nm : List Str) (fs : List (Str × Fd)) : Prop := ∃ x dx C fvs, sv = some (some (.ref x)) ∧ ObAt K H0 H Z pn mu NO nm fs x dx C fvs
theorem ObOk.keep {K : PySem.W.Frag} {H0 H H' : Hp} {Z Z' : Addr → Prop} {pn pn' mu : List Addr} {NO NO' : Addr → Prop} {sv : Option (Option V)} {nm : List Str} {fs : List (Str × Fd)} (h : ObOk K H0 H Z pn mu NO sv nm fs)
    (k : ∀ b o, ¬ Z b → H b = some o → H' b = some o) (hz : ∀ b, Z' b → Z b ∨ H b = none) (g : ∀ b o, Z b → b ∉ pn → ¬ NO b → H b = some o → Z' b ∧ b ∉ pn' ∧ H' b = some o) (no : ∀ b, H b ≠ none → NO' b → NO b) : ObOk K H0 H' Z' pn' mu NO' sv nm fs := by
  obtain ⟨x, dx, C, fvs, e, o⟩ := h
  obtain ⟨g1, g2, g3⟩ := g x _ o.z o.np o.no o.at_
  refine ⟨x, dx, C, fvs, e, o.cl, o.na, o.mu, g1, o.t0, g2, fun z => o.no (no x (by rw [o.at_]; exact fun z => nomatch z) z), g3, o.few, fun f d hf => ?_, fun f d hf => ?_, o.inj⟩
  · obtain ⟨v, e1, n⟩ := o.val f d hf
    exact ⟨v, e1, Dn.keep k hz _ _ n⟩
  · obtain ⟨b, e1, h1, h2, h3, h4, h5⟩ := o.own f d hf
    obtain ⟨u, eu⟩ := Option.ne_none_iff_exists'.mp h5.there
    obtain ⟨g1, g2, g3⟩ := g b u h1 h3 h4 eu
    exact ⟨b, e1, g1, h2, g2, fun z => h4 (no b h5.there z), h5.keep k hz fun o' e' => (g b o' h1 h3 h4 e').2.2⟩
structure EnvOk (K : PySem.W.Frag) (xw : Xw) (H0 : Hp) (B : Addr → Prop) (pn : List Addr) (fx : Fx) (Z : Addr → Prop) (t : Nat) (σ : L2.St) (ρ : En) (H : Hp) : Prop where
  xo : ∀ e, xw.E e → pn = [] ∧ ∀ cls d H', HSt 0 fx.mu [] H0 H' → ExR K xw.mg H' B e cls d → xw.W cls d H'
  step : HSt t fx.mu pn H0 H
  zt : ∀ a, Z a → H a ≠ none
  bz : ∀ a, B a → Z a
  zb : ∀ a, Z a → B a ∨ H0 a = none
  kn : xw.kn H0 B pn fx.mu
  bt : ∀ a, B a → H0 a ≠ none
  pz : ∀ a ∈ pn, Z a ∧ PenX K H Z a
  len : ρ.length = σ.length
  sl : ∀ (i : Nat) (s : Sl), ρ[i]? = some s → SlOk K xw H0 H Z pn (σ[i]?) s
  inj : ∀ (i j : Nat) (d e : D) (a : Addr), ρ[i]? = some (.own d) → ρ[j]? = some (.own e) → σ[i]? = some (some (.ref a)) → σ[j]? = some (some (.ref a)) → i = j
  fr : ∀ p ∈ fx.vs, Dn K H Z p.1 p.2
  ob : ∀ (i : Nat) (nm : List Str) (fs : List (Str × Fd)), ρ[i]? = some (.obj nm fs) → i = 0 ∧ ObOk K H0 H Z pn fx.mu (NOf ρ σ) (σ[i]?) nm fs
section
variable {K : PySem.W.Frag} {xw : Xw} {H0 H H' : Hp} {B Z : Addr → Prop} {pn : List Addr} {fr : Fx} {σ : L2.St} {ρ : En} {t t' : Nat}
theorem keepZ (s : HStep t pn H H') (hz : ∀ a ∈ pn, Z a) : ∀ b o, ¬ Z b → H b = some o → H' b = some o := fun b o n e => s.keep b o (fun z => n (hz b z)) e
theorem PenX.step {d : Addr} (p : PenX K H Z d) (hd : d ∈ pn) (s : HStep t' pn H H') (hz : ∀ a ∈ pn, Z a) : PenX K H' Z d := p.move (s.pen d hd) (keepZ s hz) fun b z => .inl z
theorem OwnAt.step {a : Addr} {d : D} (h : OwnAt K H Z a d) (n : a ∉ pn) (s : HStep t' pn H H') (hz : ∀ a ∈ pn, Z a) : OwnAt K H' Z a d :=
  h.keep (keepZ s hz) (fun b z => .inl z) fun o e => s.keep a o n e
theorem Dr.step {v : V} {d : D} (h : Dr K pn H Z v d) (s : HStep t' pn H H') (hz : ∀ a ∈ pn, Z a) : Dr K pn H' Z v d := by
  rcases h with h | ⟨a, e, n, h⟩
  · exact .inl (Dn.keep (keepZ s hz) (fun b z => .inl z) _ _ h)
  · exact .inr ⟨a, e, n, h.step n s hz⟩
theorem EnvOk.to (ok : EnvOk K xw H0 B pn fr Z t σ ρ H) (s : HStep t' pn H H') : EnvOk K xw H0 B pn fr Z t' σ ρ H' := by
  have hz : ∀ a ∈ pn, Z a := fun a ha => (ok.pz a ha).1
  refine ⟨ok.xo, ok.step.trans s, fun a h => s.there a (ok.zt a h), ok.bz, ok.zb, ok.kn, ok.bt, fun a ha => ⟨hz a ha, (ok.pz a ha).2.step ha s hz⟩, ok.len, fun i sl e => ?_, ok.inj, fun p hp => Dn.keep (keepZ s hz) (fun b z => .inl z) _ _ (ok.fr p hp), fun i C fs e => ⟨(ok.ob i C fs e).1, (ok.ob i C fs e).2.keep (keepZ s hz) (fun b z => .inl z) (fun b o h1 h2 _ h4 => ⟨h1, h2, s.keep b o h2 h4⟩) fun b _ z => z⟩⟩
  have h := ok.sl i sl e
  cases sl with
  | emp => trivial
  | val d => obtain ⟨v, e1, h1⟩ := h; exact ⟨v, e1, Dn.keep (keepZ s hz) (fun b z => .inl z) _ _ h1⟩
  | own d => obtain ⟨a, e1, h1, h2, h3, h4⟩ := h; exact ⟨a, e1, h1, h2, h3, h4.step h3 s hz⟩
  | pen => obtain ⟨a, e1, h1, h2⟩ := h; exact ⟨a, e1, h1, (s.pen a h1).is h2⟩
  | scr n => obtain ⟨a, ns, e1, h1, h2⟩ := h; exact ⟨a, ns, e1, h1.keep (keepZ s hz) (fun b z => .inl z), h2⟩
  | gen g => obtain ⟨v, e1, h1⟩ := h; exact ⟨v, e1, g.keep _ _ _ _ _ _ (keepZ s hz) (fun b z => .inl z) h1⟩
  | obj _ _ => trivial
  | exc e => exact ExS.keep (keepZ s hz) (fun b z => .inl z) h
theorem EnvOk.bd (ok : EnvOk K xw H0 B pn fr Z t σ ρ H) : Bd t pn H := ok.step.bd
theorem EnvOk.lt (ok : EnvOk K xw H0 B pn fr Z t σ ρ H) (h : t' ≤ t) : EnvOk K xw H0 B pn fr Z t' σ ρ H := ⟨ok.xo, ok.step.less h, ok.zt, ok.bz, ok.zb, ok.kn, ok.bt, ok.pz, ok.len, ok.sl, ok.inj, ok.fr, ok.ob⟩
theorem EnvOk.pnz (ok : EnvOk K xw H0 B pn fr Z t σ ρ H) : ∀ a ∈ pn, Z a := fun a ha => (ok.pz a ha).1
theorem EnvOk.pnt (ok : EnvOk K xw H0 B pn fr Z t σ ρ H) : ∀ a ∈ pn, H a ≠ none := fun a ha => ok.zt a (ok.pz a ha).1
theorem EnvOk.ss (ok : EnvOk K xw H0 B pn fr Z t σ ρ H) (s : Same H H') : HStep t pn H H' := HStep.of_same ok.bd ok.pnt s
/-- where nothing leaves -/
theorem EnvOk.ne (ok : EnvOk K xw H0 B pn fr Z t σ ρ H) : EnvOk K xw.ne H0 B pn fr Z t σ ρ H := ⟨fun _ z => z.elim, ok.step, ok.zt, ok.bz, ok.zb, ok.kn, ok.bt, ok.pz, ok.len, ok.sl, ok.inj, ok.fr, ok.ob⟩
/-- a new address is banned from now on -/
theorem EnvOk.more (ok : EnvOk K xw H0 B pn fr Z t σ ρ H) {a : Addr} (hn : H a = none) (s : HStep t' pn H H') (ht : H' a ≠ none) : EnvOk K xw H0 B pn fr (Zp Z a) t' σ ρ H' := by
  have hz := ok.pnz
  have kp : ∀ {v d}, Dn K H Z v d → Dn K H' (Zp Z a) v d := fun {v d} h => Dn.keep (keepZ s hz) (fun b z => z.elim .inl fun e => .inr (by rw [e]; exact hn)) _ _ h
  refine ⟨ok.xo, ok.step.trans s, fun b h => h.elim (fun z => s.there b (ok.zt b z)) fun e => by rw [e]; exact ht, fun b h => .inl (ok.bz b h), fun b h => h.elim (ok.zb b) (fun e => .inr (by rw [e]; exact ok.step.free hn)), ok.kn, ok.bt, fun b hb => ⟨.inl (hz b hb), ?_⟩, ok.len, fun i sl e => ?_, ok.inj, fun p hp => kp (ok.fr p hp), fun i C fs e => ⟨(ok.ob i C fs e).1, (ok.ob i C fs e).2.keep (keepZ s hz) (fun b z => z.elim .inl fun e => .inr (by rw [e]; exact hn)) (fun b o h1 h2 _ h4 => ⟨.inl h1, h2, s.keep b o h2 h4⟩) fun b _ z => z⟩⟩
  · exact (ok.pz b hb).2.move (s.pen b hb) (keepZ s hz) fun b z => z.elim .inl fun e => .inr (by rw [e]; exact hn)
  · have h := ok.sl i sl e
    cases sl with
    | emp => trivial
    | val d => obtain ⟨v, e1, h1⟩ := h; exact ⟨v, e1, kp h1⟩
    | own d =>
      obtain ⟨b, e1, h1, h2, h3, h4⟩ := h
      exact ⟨b, e1, .inl h1, h2, h3, h4.keep (keepZ s hz) (fun c z => z.elim .inl fun e => .inr (by rw [e]; exact hn)) fun o q => s.keep b o h3 q⟩
    | pen => obtain ⟨b, e1, h1, h2⟩ := h; exact ⟨b, e1, h1, (s.pen b h1).is h2⟩
    | scr n => obtain ⟨b, ns, e1, h1, h2⟩ := h; exact ⟨b, ns, e1, h1.keep (keepZ s hz) (fun c z => z.elim .inl fun e => .inr (by rw [e]; exact hn)), h2⟩
    | gen g => obtain ⟨v, e1, h1⟩ := h; exact ⟨v, e1, g.keep _ _ _ _ _ _ (keepZ s hz) (fun c z => z.elim .inl fun e => .inr (by rw [e]; exact hn)) h1⟩
    | obj _ _ => trivial
    | exc e => exact ExS.keep (keepZ s hz) (fun c z => z.elim .inl fun e => .inr (by rw [e]; exact hn)) h
end
/-! ### results -/
def RX (K : PySem.W.Frag) (pn : List Addr) (Hs H' : Hp) (Z : Addr → Prop) (v : V) (d : D) : Kd → Prop
  | .shr => Dn K H' Z v d
  | .own => ∃ a, v = .ref a ∧ Hs a = none ∧ OwnAt K H' (Zp Z a) a d
  | .bor => ∃ a, v = .ref a ∧ a ∉ pn ∧ OwnAt K H' Z a d
  | .gen _ => False
section
variable {K : PySem.W.Frag} {xw : Xw} {Hs H H' : Hp} {Z : Addr → Prop} {pn : List Addr} {v : V} {d : D} {k : Kd}
theorem OwnAt.less {a b : Addr} {d : D} (h : OwnAt K H (Zp Z b) a d) : OwnAt K H Z a d := h.keep (fun _ _ _ e => e) (fun c z => .inl (.inl z)) fun _ e => e
theorem RX.dr (h : RX K pn Hs H' Z v d k) (pt : ∀ a ∈ pn, Hs a ≠ none) : Dr K pn H' Z v d := by
  cases k with
  | shr => exact .inl h
  | own => obtain ⟨a, e, n, o⟩ := h; exact .inr ⟨a, e, fun z => pt a z n, o.less⟩
  | bor => obtain ⟨a, e, n, o⟩ := h; exact .inr ⟨a, e, n, o⟩
  | gen _ => exact h.elim
theorem RX.dn (h : RX K pn Hs H' Z v d k) (hk : k ≠ .bor) (zt : ∀ a, Z a → Hs a ≠ none) : Dn K H' Z v d := by
  cases k with
  | shr => exact h
  | own => obtain ⟨a, e, n, o⟩ := h; subst e; exact o.less.dn fun z => zt a z n
  | bor => exact absurd rfl hk
  | gen _ => exact h.elim
theorem RX.back {t : Nat} {H0 : Hp} (h : RX K pn Hs H' Z v d k) (s : HStep t pn H0 Hs) : RX K pn H0 H' Z v d k := by
  cases k with
  | shr => exact h
  | own => obtain ⟨a, e, n, o⟩ := h; exact ⟨a, e, s.free n, o⟩
  | bor => exact h
  | gen _ => exact h
theorem RX.backS {t : Nat} {mu : List Addr} {H0 : Hp} (h : RX K pn Hs H' Z v d k) (s : HSt t mu pn H0 Hs) : RX K pn H0 H' Z v d k := by
  cases k with
  | shr => exact h
  | own => obtain ⟨a, e, n, o⟩ := h; exact ⟨a, e, s.free n, o⟩
  | bor => exact h
  | gen _ => exact h
end
def tX (K : PySem.W.Frag) (xw : Xw) (c : Nat) (w : En → VQ → Prop) : TE := fun σ H Q => ∃ H0 B pn fr ρ Z t, EnvOk K xw H0 B pn fr Z (c + t) σ ρ H ∧ w ρ fun d k => ∀ v H', HStep t pn H H' → RX K pn H H' Z v d k → Q v H'
def MonoW (w : En → VQ → Prop) : Prop := ∀ ρ Q Q', (∀ d k, Q d k → Q' d k) → w ρ Q → w ρ Q'
/-- a two-place operation by deep values -/
def rD2 (K : PySem.W.Frag) (g : D → D → Rz) : R2 := fun x y H Q => ∃ pn Z d e, (∀ a, Z a → H a ≠ none) ∧ Dr K pn H Z x d ∧ Dr K pn H Z y e ∧ (g d e).to fun r k => ∀ v H', Same H H' → RX K pn H H' Z v r k → Q v H'
theorem same_refl (H : Hp) : Same H H := fun _ _ e => e
/-- one after another -/
theorem tX_two {K : PySem.W.Frag} {xw : Xw} {ca cb : Nat} {wa wb : En → VQ → Prop} (ma : MonoW wa) (mb : MonoW wb) {g : D → Kd → D → Kd → VQ → Prop} {σ : L2.St} {H : Hp} {Q : VK} {R : V → V → Hp → Prop}
    (h : tX K xw (ca + cb) (fun ρ Q => wa ρ fun x k => wb ρ fun y k' => g x k y k' Q) σ H Q)
    (hR : ∀ pn Z x y d k e k' H2, (∀ a, Z a → H2 a ≠ none) → Dr K pn H2 Z x d → Dr K pn H2 Z y e → (g d k e k' fun r kd => ∀ v H', Same H2 H' → RX K pn H2 H' Z v r kd → Q v H') → R x y H2)
    (mg : ∀ d k e k' Q Q', (∀ r kd, Q r kd → Q' r kd) → g d k e k' Q → g d k e k' Q') :
    tX K xw ca wa σ H fun x H1 => tX K xw cb wb σ H1 fun y H2 => R x y H2 := by
  obtain ⟨H0, B, pn, fr, ρ, Z, t, ok, w⟩ := h
  refine ⟨H0, B, pn, fr, ρ, Z, cb + t, ok.lt (by omega), ma _ _ _ (fun d k q x H1 s1 r1 => ⟨H0, B, pn, fr, ρ, Z, t, ok.to s1, mb _ _ _ (fun e k' q2 y H2 s2 r2 => ?_) q⟩) w⟩
  have ok1 := ok.to s1
  have ok2 := ok1.to s2
  refine hR pn Z x y d k e k' H2 ok2.zt ((r1.dr ok.pnt).step s2 ok.pnz) (r2.dr ok1.pnt) (mg _ _ _ _ _ _ (fun r kd z v H' s3 rx => z v H' ((s1.trans s2).trans (HStep.of_same ok2.bd ok2.pnt s3)) (rx.back (s1.trans s2))) q2)
theorem tX_op {K : PySem.W.Frag} {xw : Xw} {ca cb : Nat} {wa wb : En → VQ → Prop} (ma : MonoW wa) (mb : MonoW wb) {g : D → D → Rz} {σ : L2.St} {H : Hp} {Q : VK}
    (h : tX K xw (ca + cb) (fun ρ Q => wa ρ fun x _ => wb ρ fun y _ => (g x y).to Q) σ H Q) : tOp (rD2 K g) (tX K xw ca wa) (tX K xw cb wb) σ H Q :=
  tX_two ma mb (g := fun x _ y _ Q => (g x y).to Q) h (fun pn Z x y d k e k' H2 zt r1 r2 q => ⟨pn, Z, d, e, zt, r1, r2, q⟩) fun _ _ _ _ _ _ h => Rz.mono h
/-! ### operators -/
section
variable {X : Cx} {xw : Xw} {K : PySem.W.Frag}
theorem OpR.d2 {f : Value → Value → Sem Value} {g : D → D → Rz}
    (h : ∀ (x y : V) (H : Hp) (pn : List Addr) (Z : Addr → Prop) (d e : D) (Q : VK), (∀ a, Z a → H a ≠ none) → Dr X.K pn H Z x d → Dr X.K pn H Z y e → ((g d e).to fun r k => ∀ v H', Same H H' → RX X.K pn H H' Z v r k → Q v H') → ∃ r : R2, OpR X f r ∧ r x y H Q) : OpR X f (rD2 X.K g) := by
  intro pins s σ H x y v u Q I rx ry q
  obtain ⟨pn, Z, d, e, zt, h1, h2, q⟩ := q
  obtain ⟨r, o, q'⟩ := h x y H pn Z d e Q zt h1 h2 q
  exact o pins s σ H x y v u Q I rx ry q'
theorem zp_new {Z : Addr → Prop} {H : Hp} {p : Addr} (np : H p = none) : ∀ b, Zp Z p b → Z b ∨ H b = none := fun b z => z.elim .inl fun e => .inr (by rw [e]; exact np)
/-- a new list is own -/
theorem rx_lst {K : PySem.W.Frag} {pn : List Addr} {Z : Addr → Prop} {H : Hp} {p : Addr} {xs : List V} {ds : List D} (np : H p = none) (h : DnL K H Z xs ds) : RX K pn H (upd H p (.lst xs)) Z (.ref p) (.list ds) .own :=
  ⟨p, rfl, np, .inl ⟨xs, ds, rfl, upd_same, DnL.keep (fun b o _ e => M.same_upd np b o e) (zp_new np) _ _ h⟩⟩
/-- a new tuple -/
theorem rx_tup {K : PySem.W.Frag} {pn : List Addr} {Z : Addr → Prop} {H : Hp} {p : Addr} {xs : List V} {ds : List D} (zt : ∀ a, Z a → H a ≠ none) (np : H p = none) (h : DnL K H Z xs ds) : RX K pn H (upd H p (.tup xs)) Z (.ref p) (.tuple ds) .shr :=
  .tup (.inl ⟨fun z => zt p z np, .inl upd_same⟩) (h.same (M.same_upd np))
theorem op_addD : OpR X (binaryOp .Add) (rD2 X.K (bin .Add)) := by
  refine OpR.d2 fun x y H pn Z d e Q zt h1 h2 q => ?_
  cases d <;> cases e <;> first
    | exact q.elim
    | (have e1 := h1.int; have e2 := h2.int; subst e1 e2; exact ⟨_, op_add, _, _, rfl, rfl, q.2 _ H (same_refl H) (.int _)⟩)
    | (have e1 := h1.str; have e2 := h2.str; subst e1 e2; exact ⟨_, op_add_str, _, _, rfl, rfl, q.1, q.2 _ H (same_refl H) (.str _)⟩)
    | (obtain ⟨a, xs, rfl, s1, n1⟩ := h1.list
       obtain ⟨b, ys, rfl, s2, n2⟩ := h2.list
       have l1 := n1.length
       have l2 := n2.length
       exact ⟨_, op_cat, _, _, _, _, rfl, rfl, s1, s2, by have := q.1; omega, fun p np => q.2 _ _ (M.same_upd np) (rx_lst np (n1.append n2))⟩)
    | (obtain ⟨a, xs, rfl, s1, n1⟩ := h1.tup
       obtain ⟨b, ys, rfl, s2, n2⟩ := h2.tup
       have l1 := n1.length
       have l2 := n2.length
       refine ⟨_, op_catA, _, _, _, _, rfl, rfl, s1.sq, s2.sq, by have := q.1; omega, fun ex => ?_, fun _ ey => ?_, fun _ _ p np => q.2 _ _ (M.same_upd np) (rx_tup zt np (n1.append n2))⟩
       · subst ex
         cases n1
         exact q.2 _ _ (same_refl H) (.tup s2 n2)
       · subst ey
         cases n2
         refine q.2 _ _ (same_refl H) ?_
         rw [List.append_nil]
         exact .tup s1 n1)
theorem op_intD {f : Value → Value → Sem Value} {o : Operator} {c : Int → Int → Prop} {g : Int → Int → Int} (ho : ∀ i j : Int, bin o (.int i) (.int j) = some (c i j, .int (g i j), .shr)) (hn : ∀ d e, bin o d e = none ∨ ∃ i j : Int, d = .int i ∧ e = .int j)
    (h : OpR X f (rI c fun i j => .int (g i j))) : OpR X f (rD2 X.K (bin o)) := by
  refine OpR.d2 fun x y H pn Z d e Q zt h1 h2 q => ?_
  rcases hn d e with z | ⟨i, j, rfl, rfl⟩
  · rw [z] at q; exact q.elim
  · rw [ho] at q
    have e1 := h1.int
    have e2 := h2.int
    subst e1 e2
    exact ⟨_, h, _, _, rfl, rfl, q.1, q.2 _ H (same_refl H) (.int _)⟩
theorem op_mulD : OpR X (binaryOp .Mult) (rD2 X.K (bin .Mult)) := by
  refine OpR.d2 fun x y H pn Z d e Q zt h1 h2 q => ?_
  cases d <;> cases e <;> first
    | exact q.elim
    | (have e1 := h1.int; have e2 := h2.int; subst e1 e2; exact ⟨_, op_mul, _, _, rfl, rfl, q.1, q.2 _ H (same_refl H) (.int _)⟩)
    | (obtain ⟨a, xs, rfl, s1, n1⟩ := h1.list
       have e2 := h2.int
       subst e2
       have l1 := n1.length
       obtain ⟨q1, q2, q3⟩ := q.1
       exact ⟨_, op_rep, _, _, _, rfl, rfl, s1, q1, q2, by rw [l1]; exact q3, fun p np => q.2 _ _ (M.same_upd np) (rx_lst np (n1.rep _))⟩)
    | (obtain ⟨a, xs, rfl, s1, n1⟩ := h1.tup
       have e2 := h2.int
       subst e2
       have l1 := n1.length
       obtain ⟨q1, q2, q3, q4⟩ := q.1
       refine ⟨_, op_repT2, a, _, xs, rfl, rfl, s1.sq, q1, q2, by rw [l1]; exact q3, by rw [l1]; exact q4, fun ce => ?_, fun _ p np => q.2 _ _ (M.same_upd np) (rx_tup zt np (n1.rep _))⟩
       refine q.2 _ H (same_refl H) (.tup s1 ?_)
       rcases ce with z | z
       · subst z
         cases n1
         simp only [List.flatten_replicate_nil]
         exact .nil
       · subst z
         show DnL X.K H Z xs (List.replicate 1 _).flatten
         simp only [List.replicate_one, List.flatten_cons, List.flatten_nil, List.append_nil]
         exact n1)
theorem rI0_of {f : Value → Value → Sem Value} {g : Int → Int → V} (h : OpR X f (rI0 g)) : OpR X f (rI (fun _ _ => True) g) := fun pins s σ H x y v u Q I rx ry q => by
  obtain ⟨i, j, e1, e2, _, q⟩ := q
  exact h pins s σ H x y v u Q I rx ry ⟨i, j, e1, e2, q⟩
theorem op_binD : ∀ o : Operator, OpR X (binaryOp o) (rD2 X.K (bin o))
  | .Add => op_addD
  | .Mult => op_mulD
  | .Sub => op_intD (fun _ _ => rfl) (fun d e => by cases d <;> cases e <;> first | exact .inl rfl | exact .inr ⟨_, _, rfl, rfl⟩) (rI0_of op_sub)
  | .FloorDiv => op_intD (fun _ _ => rfl) (fun d e => by cases d <;> cases e <;> first | exact .inl rfl | exact .inr ⟨_, _, rfl, rfl⟩) op_fdiv
  | .Mod => op_intD (fun _ _ => rfl) (fun d e => by cases d <;> cases e <;> first | exact .inl rfl | exact .inr ⟨_, _, rfl, rfl⟩) op_mod
  | .Pow => op_intD (fun _ _ => rfl) (fun d e => by cases d <;> cases e <;> first | exact .inl rfl | exact .inr ⟨_, _, rfl, rfl⟩) op_pow
  | .LShift => op_intD (fun _ _ => rfl) (fun d e => by cases d <;> cases e <;> first | exact .inl rfl | exact .inr ⟨_, _, rfl, rfl⟩) op_shl
  | .RShift => op_intD (fun _ _ => rfl) (fun d e => by cases d <;> cases e <;> first | exact .inl rfl | exact .inr ⟨_, _, rfl, rfl⟩) op_shr
  | .MatMult | .Div | .BitOr | .BitXor | .BitAnd => OpR.d2 fun x y H pn Z d e Q zt h1 h2 q => by cases d <;> cases e <;> exact q.elim
end
end Y

namespace Y
open PySem PySem.Spec PyProof.Rows L2 M
section
variable {X : Cx} {xw : Xw}
/-! ### comparisons -/
theorem noneD_of {K : PySem.W.Frag} {pn : List Addr} {H : Hp} {Z : Addr → Prop} {v : V} {d : D} (h : Dr K pn H Z v d) : decide (v = .non) = noneD d := by
  cases d with
  | none => rw [h.non]; rfl
  | bool b => rw [h.bl]; rfl
  | int b => rw [h.int]; rfl
  | str b => rw [h.str]; rfl
  | list b => obtain ⟨a, xs, rfl, _⟩ := h.list; rfl
  | tuple b => obtain ⟨a, xs, rfl, _⟩ := h.tup; rfl
  | dict b =>
    have e : ∃ a, v = V.ref a := by
      rcases h with h | ⟨a, rfl, _⟩
      · cases h <;> exact ⟨_, rfl⟩
      · exact ⟨_, rfl⟩
    obtain ⟨a, rfl⟩ := e
    rfl
theorem op_cB {f : Value → Value → Sem Value} {g : D → D → Option (Prop × Bool)}
    (h : ∀ (x y : V) (H : Hp) (pn : List Addr) (Z : Addr → Prop) (d e : D) (p : Prop) (b : Bool) (Q : VK), Dr X.K pn H Z x d → Dr X.K pn H Z y e → g d e = some (p, b) → p → Q (.bl b) H → ∃ r : R2, OpR X f r ∧ r x y H Q) :
    OpR X f (rD2 X.K fun d e => (g d e).map fun p => (p.1, .bool p.2, .shr)) := by
  refine OpR.d2 fun x y H pn Z d e Q zt h1 h2 q => ?_
  cases eg : g d e with
  | none => rw [eg] at q; exact q.elim
  | some pb =>
    obtain ⟨p, b⟩ := pb
    rw [eg] at q
    exact h x y H pn Z d e p b Q h1 h2 eg q.1 (q.2 _ H (same_refl H) (.bl _))
theorem shaped_nd {d : D} (h : SeqAt.shaped d = true) : d.hasDict = false := PyData.hasDict_of_canLay d (SeqAt.canLay_of_shaped h)
theorem op_eqY (hu : X.A.units + 64 < cLine) : OpR X (compareOp .Eq) (rD2 X.K (cmpR .Eq)) := by
  refine op_cB (g := cmpD .Eq) fun x y H pn Z d e p b Q h1 h2 eg hp q => ?_
  cases eg
  exact ⟨_, op_eqD hu, d, e, h1.dp (shaped_nd hp.1), h2.dp (shaped_nd hp.2), hp.1, hp.2, q⟩
theorem op_neY (hu : X.A.units + 64 < cLine) : OpR X (compareOp .NotEq) (rD2 X.K (cmpR .NotEq)) := by
  refine op_cB (g := cmpD .NotEq) fun x y H pn Z d e p b Q h1 h2 eg hp q => ?_
  cases eg
  exact ⟨_, op_neD hu, d, e, h1.dp (shaped_nd hp.1), h2.dp (shaped_nd hp.2), hp.1, hp.2, q⟩
theorem op_icY {o : CmpOp} {c : Int → Int → Bool} (ho : ∀ i j : Int, cmpD o (.int i) (.int j) = some (True, c i j)) (hn : ∀ d e, cmpD o d e = none ∨ ∃ i j : Int, d = .int i ∧ e = .int j)
    (h : OpR X (compareOp o) (rI0 fun i j => .bl (c i j))) : OpR X (compareOp o) (rD2 X.K (cmpR o)) := by
  refine op_cB (g := cmpD o) fun x y H pn Z d e p b Q h1 h2 eg hp q => ?_
  rcases hn d e with z | ⟨i, j, rfl, rfl⟩
  · rw [z] at eg; cases eg
  · rw [ho] at eg
    cases eg
    have e1 := h1.int
    have e2 := h2.int
    subst e1 e2
    exact ⟨_, h, _, _, rfl, rfl, q⟩
theorem str1 {y : Str} (h : y.cps.size = 1) : y = ⟨#[y.cps.getD 0 0]⟩ := by
  obtain ⟨⟨l⟩⟩ := y
  match l, h with
  | [c], _ => rfl
theorem scal_flat {K : PySem.W.Frag} {H : Hp} {Z : Addr → Prop} {v : V} {d : D} (h : Dn K H Z v d) (s : scal d = true) : flatV v = true := by
  cases d <;> first | (cases h; rfl) | cases s
theorem scal_eqv {K : PySem.W.Frag} {H : Hp} {Z : Addr → Prop} {v w : V} {d e : D} (h : Dn K H Z v d) (s : scal d = true) (h' : Dn K H Z w e) (s' : scal e = true) : eqV v w = PyData.eqv d e := by
  cases d <;> first
    | (simp [scal] at s; done)
    | (cases e <;> first | (simp [scal] at s'; done) | (cases h; cases h'; simp only [eqV, PyData.eqv]))
theorem scal_any {K : PySem.W.Frag} {H : Hp} {Z : Addr → Prop} {w : V} {e : D} (h' : Dn K H Z w e) (s' : scal e = true) : ∀ {ds : List D} {xs : List V}, DnL K H Z xs ds → ds.all scal = true → xs.all flatV = true ∧ inV w xs = ds.any fun z => PyData.eqv z e
  | [], _, h, _ => by cases h; exact ⟨rfl, rfl⟩
  | d :: ds, _, h, s => by
    rw [List.all_cons, Bool.and_eq_true] at s
    cases h with
    | cons a b =>
      obtain ⟨i1, i2⟩ := scal_any h' s' b s.2
      refine ⟨by rw [List.all_cons, scal_flat a s.1, i1]; rfl, ?_⟩
      unfold inV at i2 ⊢
      rw [List.any_cons, List.any_cons, i2, scal_eqv a s.1 h' s']
theorem Dr.sc {K : PySem.W.Frag} {pn : List Addr} {H : Hp} {Z : Addr → Prop} {v : V} {d : D} (h : Dr K pn H Z v d) (s : scal d = true) : Dn K H Z v d := by
  rcases h with h | ⟨a, rfl, _, ⟨_, _, rfl, _⟩ | ⟨_, _, rfl, _⟩ | ⟨_, _, rfl, _⟩⟩
  · exact h
  · cases s
  · cases s
  · cases s
theorem in_caseY (hu : X.A.units + 65 < cLine) {x y : V} {H : Hp} {pn : List Addr} {Z : Addr → Prop} {d e : D} {p : Prop} {b : Bool} {Q : Bool → Prop} (h1 : Dr X.K pn H Z x d) (h2 : Dr X.K pn H Z y e) (eg : inD d e = some (p, b)) (hp : p) (q : Q b) :
    (∃ (c : Nat) (z : Str), x = .str ⟨#[c]⟩ ∧ y = .str z ∧ Q (decide (c ∈ z.cps.toList))) ∨ (∃ d ds, Dp X.K H x d ∧ Dp X.K H y (.list ds) ∧ SeqAt.shaped d = true ∧ SeqAt.shaped (.list ds) = true ∧ Q (ds.any fun z => PyData.eqv z d)) ∨
    (∃ p xs, y = .ref p ∧ (SqL X.K H p xs ∨ SqT X.K H p xs) ∧ flatV x = true ∧ xs.all flatV = true ∧ Q (inV x xs)) := by
  cases e with
  | str z =>
    cases d with
    | str y' =>
      cases eg
      have e1 := h1.str
      have e2 := h2.str
      subst e1 e2
      exact .inl ⟨_, z, congrArg V.str (str1 hp), rfl, q⟩
    | _ => cases eg
  | list ds =>
    cases eg
    exact .inr (.inl ⟨d, ds, h1.dp (shaped_nd hp.1), h2.dp (shaped_nd hp.2), hp.1, hp.2, q⟩)
  | tuple ds =>
    cases eg
    obtain ⟨a, xs, rfl, s1, n1⟩ := h2.tup
    obtain ⟨i1, i2⟩ := scal_any (h1.sc hp.1) hp.1 n1 hp.2
    exact .inr (.inr ⟨a, xs, rfl, .inr s1.sq, scal_flat (h1.sc hp.1) hp.1, i1, by rw [i2]; exact q⟩)
  | _ => cases eg
theorem op_inY (hu : X.A.units + 65 < cLine) : OpR X (compareOp .In) (rD2 X.K (cmpR .In)) := by
  refine op_cB (g := cmpD .In) fun x y H pn Z d e p b Q h1 h2 eg hp q => ?_
  rcases in_caseY hu (Q := fun b => Q (.bl b) H) h1 h2 eg hp q with h | h | h
  · exact ⟨_, op_in_sign, h⟩
  · exact ⟨_, op_inD hu, h⟩
  · exact ⟨_, op_in_seq, h⟩
theorem op_niY (hu : X.A.units + 65 < cLine) : OpR X (compareOp .NotIn) (rD2 X.K (cmpR .NotIn)) := by
  refine op_cB (g := cmpD .NotIn) fun x y H pn Z d e p b Q h1 h2 eg hp q => ?_
  have eg' : (inD d e).map (fun p => (p.1, !p.2)) = some (p, b) := eg
  cases ei : inD d e with
  | none => rw [ei] at eg'; cases eg'
  | some pb =>
    obtain ⟨p', b'⟩ := pb
    rw [ei] at eg'
    cases eg'
    rcases in_caseY hu (Q := fun b => Q (.bl (!b)) H) h1 h2 ei hp q with h | h | h
    · exact ⟨_, op_notIn_sign, h⟩
    · exact ⟨_, op_notInD hu, h⟩
    · exact ⟨_, op_notIn_seq, h⟩
theorem op_isY : OpR X (compareOp .Is) (rD2 X.K (cmpR .Is)) := by
  refine op_cB (g := cmpD .Is) fun x y H pn Z d e p b Q h1 h2 eg hp q => ?_
  cases e with
  | none =>
    have e2 := h2.non
    subst e2
    refine ⟨_, op_isN, rfl, ?_⟩
    rw [noneD_of h1]
    have : some (True, noneD d) = some (p, b) := eg
    cases this
    exact q
  | _ => cases d <;> cases eg
theorem op_inotY : OpR X (compareOp .IsNot) (rD2 X.K (cmpR .IsNot)) := by
  refine op_cB (g := cmpD .IsNot) fun x y H pn Z d e p b Q h1 h2 eg hp q => ?_
  cases e with
  | none =>
    have e2 := h2.non
    subst e2
    refine ⟨_, op_notN, rfl, ?_⟩
    rw [noneD_of h1]
    have : some (True, !noneD d) = some (p, b) := eg
    cases this
    exact q
  | _ => cases d <;> cases eg
theorem op_cmpY (hu : X.A.units + 65 < cLine) : ∀ o : CmpOp, OpR X (compareOp o) (rD2 X.K (cmpR o))
  | .Eq => op_eqY (by omega)
  | .NotEq => op_neY (by omega)
  | .Lt => op_icY (fun _ _ => rfl) (fun d e => by cases d <;> cases e <;> first | exact .inl rfl | exact .inr ⟨_, _, rfl, rfl⟩) op_lt
  | .LtE => op_icY (fun _ _ => rfl) (fun d e => by cases d <;> cases e <;> first | exact .inl rfl | exact .inr ⟨_, _, rfl, rfl⟩) op_le
  | .Gt => op_icY (fun _ _ => rfl) (fun d e => by cases d <;> cases e <;> first | exact .inl rfl | exact .inr ⟨_, _, rfl, rfl⟩) op_gt
  | .GtE => op_icY (fun _ _ => rfl) (fun d e => by cases d <;> cases e <;> first | exact .inl rfl | exact .inr ⟨_, _, rfl, rfl⟩) op_ge
  | .In => op_inY hu
  | .NotIn => op_niY hu
  | .Is => op_isY
  | .IsNot => op_inotY
/-! ### subscripts, slices -/
theorem IxR.d2 {g : D → D → Rz}
    (h : ∀ (x y : V) (H : Hp) (pn : List Addr) (Z : Addr → Prop) (d e : D) (Q : VK), (∀ a, Z a → H a ≠ none) → Dr X.K pn H Z x d → Dr X.K pn H Z y e → ((g d e).to fun r k => ∀ v H', Same H H' → RX X.K pn H H' Z v r k → Q v H') → ∃ r : R2, IxR X r ∧ r x y H Q) : IxR X (rD2 X.K g) := by
  intro value slice pins s σ H x y v u Q I rx ry q hs
  obtain ⟨pn, Z, d, e, zt, h1, h2, q⟩ := q
  obtain ⟨r, o, q'⟩ := h x y H pn Z d e Q zt h1 h2 q
  exact o value slice pins s σ H x y v u Q I rx ry q' hs
theorem atI_dn {K : PySem.W.Frag} {H : Hp} {Z : Addr → Prop} {xs : List V} {ds : List D} {i : Int} {d : D} (h : DnL K H Z xs ds) (e : atI ds i = some d) : ∃ v, atI xs i = some v ∧ Dn K H Z v d := by
  unfold atI at e ⊢
  rw [h.length]
  cases q : ixN ds.length i with
  | none => rw [q] at e; cases e
  | some j =>
    rw [q] at e
    exact h.get e
theorem ix_Y : IxR X (rD2 X.K ixD) := by
  refine IxR.d2 fun x y H pn Z d e Q zt h1 h2 q => ?_
  cases e with
  | int i =>
    have e2 := h2.int
    subst e2
    cases d with
    | list ds =>
      obtain ⟨a, xs, rfl, s1, n1⟩ := h1.list
      simp only [ixD] at q
      cases eg : atI ds i with
      | none => rw [eg] at q; exact q.elim
      | some d =>
        rw [eg] at q
        obtain ⟨v, e1, n⟩ := atI_dn n1 eg
        exact ⟨_, ix_list, _, _, _, _, rfl, rfl, SqL.of s1, e1, q.2 _ H (same_refl H) n⟩
    | tuple ds =>
      obtain ⟨a, xs, rfl, s1, n1⟩ := h1.tup
      simp only [ixD] at q
      cases eg : atI ds i with
      | none => rw [eg] at q; exact q.elim
      | some d =>
        rw [eg] at q
        obtain ⟨v, e1, n⟩ := atI_dn n1 eg
        exact ⟨_, ix_tup, _, _, _, _, rfl, rfl, s1.sq, e1, q.2 _ H (same_refl H) n⟩
    | str z =>
      have e1 := h1.str
      subst e1
      simp only [ixD] at q
      cases eg : atI z.cps.toList i with
      | none => rw [eg] at q; exact q.elim
      | some c =>
        rw [eg] at q
        exact ⟨_, ix_str, _, _, _, rfl, rfl, q.1, eg, q.2 _ H (same_refl H) (.str _)⟩
    | _ => exact q.elim
  | _ => cases d <;> exact q.elim
def rSlD (K : PySem.W.Frag) : V → Option Int → Option Int → Hp → VK → Prop := fun x lo hi H Q => ∃ pn Z d, (∀ a, Z a → H a ≠ none) ∧ Dr K pn H Z x d ∧ (slD d lo hi).to fun r k => ∀ v H', Same H H' → RX K pn H H' Z v r k → Q v H'
theorem cut_dn {K : PySem.W.Frag} {H : Hp} {Z : Addr → Prop} {xs : List V} {ds : List D} (h : DnL K H Z xs ds) (lo hi : Option Int) : DnL K H Z (cutV xs lo hi) (cutL ds lo hi) := by
  unfold cutV cutL
  rw [h.length]
  exact (h.drop _).take _
theorem sl_Y : SlR X (rSlD X.K) := by
  intro pins s σ H x v vl vu lo hi sl Q I rx hs pl pu h
  obtain ⟨pn, Z, d, zt, h1, q⟩ := h
  cases d with
  | list ds =>
    obtain ⟨a, xs, rfl, s1, n1⟩ := h1.list
    exact sl_list pins s σ H _ v vl vu lo hi sl Q I rx hs pl pu ⟨a, xs, rfl, SqL.of s1, fun p np => q.2 _ _ (M.same_upd np) (rx_lst np (cut_dn n1 lo hi))⟩
  | tuple ds =>
    obtain ⟨a, xs, rfl, s1, n1⟩ := h1.tup
    refine sl_tupA pins s σ H _ v vl vu lo hi sl Q I rx hs pl pu ⟨a, xs, rfl, s1.sq, fun hw => q.2 _ _ (same_refl H) ?_, fun _ p np => q.2 _ _ (M.same_upd np) (rx_tup zt np (cut_dn n1 lo hi))⟩
    have e : cutL ds lo hi = ds := by
      unfold cutL
      rw [n1.length] at hw
      rw [hw.1, hw.2]
      simp
    rw [e]
    exact .tup s1 n1
  | str z =>
    have e1 := h1.str
    subst e1
    exact sl_str pins s σ H _ v vl vu lo hi sl Q I rx hs pl pu ⟨z, rfl, q.1, q.2 _ _ (same_refl H) (.str _)⟩
  | _ => exact q.elim
end
end Y

namespace L2
open PySem PySem.Spec PyProof.Rows
theorem PT.weak {e : Expr} {t t' : TT} {X : Cx} (h : PT X e t) (w : ∀ σ H Q, t' σ H Q → t σ H Q) : PT X e t' := ⟨fun pins s σ H Q I q => h.run pins s σ H Q I (w σ H Q q)⟩
theorem PW.weak {e : Expr} {t t' : TT} {X : Cx} (h : PW X e t) (w : ∀ σ H Q, t' σ H Q → t σ H Q) : PW X e t' := ⟨fun wh pins s σ H Q I q => h.run wh pins s σ H Q I (w σ H Q q)⟩
theorem PO.weak {e : Option Expr} {t t' : TO} {X : Cx} (h : PO X e t) (w : ∀ σ H Q, t' σ H Q → t σ H Q) : PO X e t' := ⟨fun pins s σ H Q I q => h.run pins s σ H Q I (w σ H Q q)⟩
theorem PA.weak {e : List Expr} {t t' : TA} {X : Cx} (h : PA X e t) (w : ∀ σ H Q, t' σ H Q → t σ H Q) : PA X e t' := ⟨fun pos pins s σ H Q I q => h.run pos pins s σ H Q I (w σ H Q q)⟩
end L2
namespace Y
open PySem PySem.Spec PyProof.Rows L2 M
/-! ### expressions by deep values -/
section
variable {X : Cx} {xw : Xw}
/-- no value of an exception is wanted -/
abbrev XF : XQ := fun _ => False
/-- a constant -/
theorem y_con {e : Expr} {v : V} {d : D} (h : PE X e (tC v)) (hd : ∀ H Z, Dn X.K H Z v d) : PE X e (tX X.K xw 0 fun _ Q => Q d .shr) :=
  h.weak fun σ H Q ⟨_, _, _, _, _, _, t, ok, w⟩ => w v H (HStep.refl (ok.bd.less (by omega))) (hd _ _)
theorem y_var {i : Nat} {x : Str} {pos : Pos} (hN : X.N[i]? = some x) (hv : Vis X.env.scope x) (hd : (x == ("__debug__" : Str)) = false) (hcd : (x == ("__classdict__" : Str)) = false) :
    PE X (.Name x pos) (tX X.K xw 0 fun ρ Q => match ρ[i]? with | some (.val d) => Q d .shr | _ => False) := by
  refine PE.weak (pe_var hN hv hd hcd) fun σ H Q ⟨H0, B, pn, fr, ρ, Z, t, ok, w⟩ => ?_
  dsimp only at w
  split at w
  · rename_i d e
    obtain ⟨v, e1, n⟩ := ok.sl i _ e
    exact ⟨v, e1, w v H (HStep.refl (ok.bd.less (by omega))) n⟩
  · exact w.elim
theorem y_bor {i : Nat} {x : Str} {pos : Pos} (hN : X.N[i]? = some x) (hv : Vis X.env.scope x) (hd : (x == ("__debug__" : Str)) = false) (hcd : (x == ("__classdict__" : Str)) = false) :
    PE X (.Name x pos) (tX X.K xw 0 fun ρ Q => match ρ[i]? with | some (.val d) => Q d .shr | some (.own d) => Q d .bor | _ => False) := by
  refine PE.weak (pe_var hN hv hd hcd) fun σ H Q ⟨H0, B, pn, fr, ρ, Z, t, ok, w⟩ => ?_
  dsimp only at w
  split at w
  · rename_i d e
    obtain ⟨v, e1, n⟩ := ok.sl i _ e
    exact ⟨v, e1, w v H (HStep.refl (ok.bd.less (by omega))) n⟩
  · rename_i d e
    obtain ⟨a, e1, _, _, h3, h4⟩ := ok.sl i _ e
    exact ⟨.ref a, e1, w _ H (HStep.refl (ok.bd.less (by omega))) ⟨a, rfl, h3, h4⟩⟩
  · exact w.elim
theorem y_bin {ca cb : Nat} {o : Operator} {a b : Expr} {wa wb : En → VQ → Prop} {pos : Pos} (ma : MonoW wa) (mb : MonoW wb) (ha : PE X a (tX X.K xw ca wa)) (hb : PE X b (tX X.K xw cb wb)) :
    PE X (.BinOp a o b pos) (tX X.K xw (ca + cb) fun ρ Q => wa ρ fun x _ => wb ρ fun y _ => (bin o x y).to Q) := (pe_op (op_binD o) ha hb).weak fun _ _ _ h => tX_op ma mb h
theorem y_cmp {ca cb : Nat} (hu : X.A.units + 65 < cLine) {o : CmpOp} {a b : Expr} {wa wb : En → VQ → Prop} {pos : Pos} (hm : behindInMarks o b = false) (ma : MonoW wa) (mb : MonoW wb) (ha : PE X a (tX X.K xw ca wa)) (hb : PE X b (tX X.K xw cb wb)) :
    PE X (.Compare a [o] [b] pos) (tX X.K xw (ca + cb) fun ρ Q => wa ρ fun x _ => wb ρ fun y _ => (cmpR o x y).to Q) := (pe_cmpR (op_cmpY hu o) ha hb hm).weak fun _ _ _ h => tX_op ma mb h
theorem y_ix {ca cb : Nat} {a b : Expr} {wa wb : En → VQ → Prop} {pos : Pos} (hp : PlainIx b) (ma : MonoW wa) (mb : MonoW wb) (ha : PE X a (tX X.K xw ca wa)) (hb : PE X b (tX X.K xw cb wb)) :
    PE X (.Subscript a b pos) (tX X.K xw (ca + cb) fun ρ Q => wa ρ fun x _ => wb ρ fun y _ => (ixD x y).to Q) := (pe_ix ix_Y ha hb hp).weak fun _ _ _ h => tX_op ma mb h
/-- one operand -/
theorem tX_one {K : PySem.W.Frag} {xw : Xw} {ca : Nat} {wa : En → VQ → Prop} (ma : MonoW wa) {g : D → Kd → VQ → Prop} {σ : L2.St} {H : Hp} {Q : VK} {R : V → Hp → Prop}
    (h : tX K xw ca (fun ρ Q => wa ρ fun x k => g x k Q) σ H Q)
    (hR : ∀ pn Z x d k H2, (∀ a, Z a → H2 a ≠ none) → Dr K pn H2 Z x d → (k ≠ .bor → Dn K H2 Z x d) → (g d k fun r kd => ∀ v H', Same H2 H' → RX K pn H2 H' Z v r kd → Q v H') → R x H2)
    (mg : ∀ d k Q Q', (∀ r kd, Q r kd → Q' r kd) → g d k Q → g d k Q') : tX K xw ca wa σ H R := by
  obtain ⟨H0, B, pn, fr, ρ, Z, t, ok, w⟩ := h
  refine ⟨H0, B, pn, fr, ρ, Z, t, ok, ma _ _ _ (fun d k q x H1 s1 r1 => ?_) w⟩
  exact hR pn Z x d k H1 (ok.to s1).zt (r1.dr ok.pnt) (fun hk => r1.dn hk ok.zt) (mg _ _ _ _ (fun r kd z v H' s3 rx => z v H' (s1.trans (HStep.of_same (ok.to s1).bd (ok.to s1).pnt s3)) (rx.back s1)) q)
theorem y_neg {ca : Nat} {a : Expr} {wa : En → VQ → Prop} {pos : Pos} (ma : MonoW wa) (ha : PE X a (tX X.K xw ca wa)) :
    PE X (.UnaryOp .USub a pos) (tX X.K xw (ca) fun ρ Q => wa ρ fun x _ => match x with | .int i => Q (.int (-i)) .shr | _ => False) := by
  refine (pe_un un_neg ha).weak fun σ H Q h => ?_
  refine tX_one ma (g := fun x _ Q => match x with | .int i => Q (.int (-i)) .shr | _ => False) h (fun pn Z x d k H2 zt r1 _ q => ?_) fun d k Q Q' h q => ?_
  · split at q
    · exact ⟨_, r1.int, q _ H2 (same_refl H2) (.int _)⟩
    · exact q.elim
  · split at q
    · exact h _ _ q
    · exact q
theorem y_nt {ca : Nat} {a : Expr} {wa : En → VQ → Prop} {pos : Pos} (ma : MonoW wa) (ha : PE X a (tX X.K xw ca wa)) :
    PE X (.UnaryOp .Not a pos) (tX X.K xw (ca) fun ρ Q => wa ρ fun x _ => match x with | .bool b => Q (.bool (!b)) .shr | _ => False) := by
  refine (pe_not ha).weak fun σ H Q h => ?_
  refine tX_one ma (g := fun x _ Q => match x with | .bool b => Q (.bool (!b)) .shr | _ => False) h (fun pn Z x d k H2 zt r1 _ q => ?_) fun d k Q Q' h q => ?_
  · split at q
    · exact ⟨_, r1.bl, q _ H2 (same_refl H2) (.bl _)⟩
    · exact q.elim
  · split at q
    · exact h _ _ q
    · exact q
/-- tests -/
abbrev tT (K : PySem.W.Frag) (xw : Xw) (c : Nat) (w : En → (Bool → Prop) → Prop) : TT := fun σ H Q => ∃ H0 B pn fr ρ Z t, EnvOk K xw H0 B pn fr Z (c + t) σ ρ H ∧ w ρ fun b => ∀ H', HStep t pn H H' → Q b H'
def MonoT (w : En → (Bool → Prop) → Prop) : Prop := ∀ ρ Q Q', (∀ b, Q b → Q' b) → w ρ Q → w ρ Q'
theorem tru_Y {K : PySem.W.Frag} {pn : List Addr} {H : Hp} {Z : Addr → Prop} {v : V} {d : D} {p : Prop} {b : Bool} (h : Dr K pn H Z v d) (e : truD d = some (p, b)) (hp : p) : TruV K v H b := by
  cases d with
  | none => cases e; rw [h.non]; exact rfl
  | bool c => cases e; rw [h.bl]; exact rfl
  | int c => cases e; rw [h.int]; exact rfl
  | str c => cases e; rw [h.str]; exact ⟨hp, rfl⟩
  | list ds =>
    cases e
    obtain ⟨a, xs, rfl, s1, n1⟩ := h.list
    exact .inl ⟨xs, SqL.of s1, by rw [n1.isEmpty]⟩
  | tuple ds =>
    cases e
    obtain ⟨a, xs, rfl, s1, n1⟩ := h.tup
    exact .inr (.inl ⟨xs, s1.sq, by rw [n1.isEmpty]⟩)
  | dict _ => cases e
def PlainT (e : Expr) : Prop := ∀ (env : Env) whole, isTrue e env whole = (do let v ← whole; standAt e.pos; holding [v] (truthy v))
theorem t_of {ca : Nat} {e : Expr} {wa : En → VQ → Prop} (ma : MonoW wa) (he : PlainT e) (h : PE X e (tX X.K xw ca wa)) : PT X e (tT X.K xw (ca) fun ρ Q => wa ρ fun x _ => match truD x with | some (p, b) => p ∧ Q b | none => False) := by
  refine PT.weak (pt_truth h (he _)) fun σ H Q ⟨H0, B, pn, fr, ρ, Z, t, ok, w⟩ => ?_
  refine ⟨H0, B, pn, fr, ρ, Z, t, ok, ma _ _ _ (fun d k q x H1 s1 r1 => ?_) w⟩
  dsimp only at q
  split at q
  · rename_i p b e
    exact ⟨b, tru_Y (r1.dr ok.pnt) e q.1, q.2 H1 s1⟩
  · exact q.elim
theorem cmpR_bool {o : CmpOp} {x y : D} {Q : VQ} (h : (cmpR o x y).to Q) : ∃ p b, cmpD o x y = some (p, b) ∧ p ∧ Q (.bool b) .shr := by
  unfold cmpR at h
  cases e : cmpD o x y with
  | none => rw [e] at h; exact h.elim
  | some pb => rw [e] at h; exact ⟨pb.1, pb.2, rfl, h.1, h.2⟩
/-- a comparison as a test -/
theorem t_cmp {ca cb : Nat} (hu : X.A.units + 65 < cLine) {o : CmpOp} {a b : Expr} {wa wb : En → VQ → Prop} {pos : Pos} (hm : behindInMarks o b = false) (ma : MonoW wa) (mb : MonoW wb) (ha : PE X a (tX X.K xw ca wa)) (hb : PE X b (tX X.K xw cb wb)) :
    PT X (.Compare a [o] [b] pos) (tT X.K xw (ca + cb) fun ρ Q => wa ρ fun x _ => wb ρ fun y _ => (cmpR o x y).to fun d _ => match truD d with | some (p, b) => p ∧ Q b | none => False) := by
  refine PT.weak (pt_cmpR (op_cmpY hu o) ha hb hm) fun σ H Q ⟨H0, B, pn, fr, ρ, Z, t, ok, w⟩ => ?_
  refine tX_op ma mb (Q := fun x H' => ∃ k, x = .bl k ∧ Q k H') ⟨H0, B, pn, fr, ρ, Z, t, ok, ma _ _ _ (fun d k q => mb _ _ _ (fun e k' q => ?_) q) w⟩
  obtain ⟨p, b, e1, hp, q⟩ := cmpR_bool q
  unfold cmpR
  rw [e1]
  refine ⟨hp, fun v H' s r => ?_⟩
  cases r
  exact ⟨b, rfl, q.2 H' s⟩
theorem t_nt {ca : Nat} {a : Expr} {wa : En → (Bool → Prop) → Prop} {pos : Pos} (h : PT X a (tT X.K xw ca wa)) : PT X (.UnaryOp .Not a pos) (tT X.K xw (ca) fun ρ Q => wa ρ fun b => Q (!b)) := by
  refine PT.weak (pt_not h) fun σ H Q ⟨H0, B, pn, fr, ρ, Z, t, ok, w⟩ => ⟨H0, B, pn, fr, ρ, Z, t, ok, w⟩
theorem t_and1 {ca : Nat} {a : Expr} {wa : En → (Bool → Prop) → Prop} {pos : Pos} (h : PT X a (tT X.K xw ca wa)) : PW X (.BoolOp .And [a] pos) (tT X.K xw ca wa) := pw_and1 h
theorem t_or1 {ca : Nat} {a : Expr} {wa : En → (Bool → Prop) → Prop} {pos : Pos} (h : PT X a (tT X.K xw ca wa)) : PW X (.BoolOp .Or [a] pos) (tT X.K xw ca wa) := pw_or1 h
theorem t_and {ca cb : Nat} {a b : Expr} {rest : List Expr} {wa wb : En → (Bool → Prop) → Prop} {pos : Pos} (ma : MonoT wa) (mb : MonoT wb) (ha : PT X a (tT X.K xw ca wa)) (hb : PW X (.BoolOp .And (b :: rest) pos) (tT X.K xw cb wb)) :
    PW X (.BoolOp .And (a :: b :: rest) pos) (tT X.K xw (ca + cb) fun ρ Q => wa ρ fun c => (c = true → wb ρ Q) ∧ (c = false → Q false)) := by
  refine PW.weak (pw_and ha hb) fun σ H Q ⟨H0, B, pn, fr, ρ, Z, t, ok, w⟩ => ?_
  refine ⟨H0, B, pn, fr, ρ, Z, (cb + t), ok.lt (by omega), ma _ _ _ (fun c q H1 s1 => ?_) w⟩
  cases c with
  | true => exact ⟨H0, B, pn, fr, ρ, Z, _, ok.to s1, mb _ _ _ (fun b z H' s => z H' (s1.trans s)) (q.1 rfl)⟩
  | false => exact q.2 rfl H1 (s1.less (by omega))
theorem t_or {ca cb : Nat} {a b : Expr} {rest : List Expr} {wa wb : En → (Bool → Prop) → Prop} {pos : Pos} (ma : MonoT wa) (mb : MonoT wb) (ha : PT X a (tT X.K xw ca wa)) (hb : PW X (.BoolOp .Or (b :: rest) pos) (tT X.K xw cb wb)) :
    PW X (.BoolOp .Or (a :: b :: rest) pos) (tT X.K xw (ca + cb) fun ρ Q => wa ρ fun c => (c = true → Q true) ∧ (c = false → wb ρ Q)) := by
  refine PW.weak (pw_or ha hb) fun σ H Q ⟨H0, B, pn, fr, ρ, Z, t, ok, w⟩ => ?_
  refine ⟨H0, B, pn, fr, ρ, Z, (cb + t), ok.lt (by omega), ma _ _ _ (fun c q H1 s1 => ?_) w⟩
  cases c with
  | true => exact q.1 rfl H1 (s1.less (by omega))
  | false => exact ⟨H0, B, pn, fr, ρ, Z, _, ok.to s1, mb _ _ _ (fun b z H' s => z H' (s1.trans s)) (q.2 rfl)⟩
/-- and, or as values; a if t else b -/
theorem y_and {ca cb : Nat} {a b : Expr} {rest : List Expr} {wa wb : En → VQ → Prop} {pos : Pos} (ma : MonoW wa) (mb : MonoW wb) (ha : PE X a (tX X.K xw ca wa)) (hb : PE X (.BoolOp .And (b :: rest) pos) (tX X.K xw cb wb)) :
    PE X (.BoolOp .And (a :: b :: rest) pos) (tX X.K xw (ca + cb) fun ρ Q => wa ρ fun x _ => match x with | .bool c => (c = true → wb ρ Q) ∧ (c = false → Q (.bool false) .shr) | _ => False) := by
  refine PE.weak (pe_and ha hb) fun σ H Q ⟨H0, B, pn, fr, ρ, Z, t, ok, w⟩ => ?_
  refine ⟨H0, B, pn, fr, ρ, Z, (cb + t), ok.lt (by omega), ma _ _ _ (fun d k q x H1 s1 r1 => ?_) w⟩
  dsimp only at q
  split at q
  · rename_i c
    refine ⟨c, (r1.dr ok.pnt).bl, ?_⟩
    cases c with
    | true => exact ⟨H0, B, pn, fr, ρ, Z, _, ok.to s1, mb _ _ _ (fun r kd z v H' s rx => z v H' (s1.trans s) (rx.back s1)) (q.1 rfl)⟩
    | false => exact q.2 rfl _ H1 (s1.less (by omega)) (.bl _)
  · exact q.elim
theorem y_or {ca cb : Nat} {a b : Expr} {rest : List Expr} {wa wb : En → VQ → Prop} {pos : Pos} (ma : MonoW wa) (mb : MonoW wb) (ha : PE X a (tX X.K xw ca wa)) (hb : PE X (.BoolOp .Or (b :: rest) pos) (tX X.K xw cb wb)) :
    PE X (.BoolOp .Or (a :: b :: rest) pos) (tX X.K xw (ca + cb) fun ρ Q => wa ρ fun x _ => match x with | .bool c => (c = true → Q (.bool true) .shr) ∧ (c = false → wb ρ Q) | _ => False) := by
  refine PE.weak (pe_or ha hb) fun σ H Q ⟨H0, B, pn, fr, ρ, Z, t, ok, w⟩ => ?_
  refine ⟨H0, B, pn, fr, ρ, Z, (cb + t), ok.lt (by omega), ma _ _ _ (fun d k q x H1 s1 r1 => ?_) w⟩
  dsimp only at q
  split at q
  · rename_i c
    refine ⟨c, (r1.dr ok.pnt).bl, ?_⟩
    cases c with
    | true => exact q.1 rfl _ H1 (s1.less (by omega)) (.bl _)
    | false => exact ⟨H0, B, pn, fr, ρ, Z, _, ok.to s1, mb _ _ _ (fun r kd z v H' s rx => z v H' (s1.trans s) (rx.back s1)) (q.2 rfl)⟩
  · exact q.elim
theorem y_ite {cc ca cb : Nat} {c a b : Expr} {wc : En → (Bool → Prop) → Prop} {wa wb : En → VQ → Prop} {pos : Pos} (mc : MonoT wc) (ma : MonoW wa) (mb : MonoW wb) (hc : PT X c (tT X.K xw cc wc)) (ha : PE X a (tX X.K xw ca wa)) (hb : PE X b (tX X.K xw cb wb)) :
    PE X (.IfExp c a b pos) (tX X.K xw (cc + ca + cb) fun ρ Q => wc ρ fun t => (t = true → wa ρ Q) ∧ (t = false → wb ρ Q)) := by
  refine PE.weak (pe_ifExp hc ha hb) fun σ H Q ⟨H0, B, pn, fr, ρ, Z, t, ok, w⟩ => ?_
  refine ⟨H0, B, pn, fr, ρ, Z, (ca + (cb + t)), ok.lt (by omega), mc _ _ _ (fun c q H1 s1 => ?_) w⟩
  cases c with
  | true => exact ⟨H0, B, pn, fr, ρ, Z, t, (ok.to s1).lt (by omega), ma _ _ _ (fun r kd z v H' s rx => z v H' (s1.trans s) (rx.back s1)) (q.1 rfl)⟩
  | false => exact ⟨H0, B, pn, fr, ρ, Z, t, (ok.to s1).lt (by omega), mb _ _ _ (fun r kd z v H' s rx => z v H' (s1.trans s) (rx.back s1)) (q.2 rfl)⟩
/-- a < b < c -/
theorem y_chn {ca cb cc : Nat} (hu : X.A.units + 65 < cLine) {o o' : CmpOp} {a b c : Expr} {wa wb wc : En → VQ → Prop} {pos : Pos} (hm : lastMarks [o, o'] [b, c] = false) (ma : MonoW wa) (mb : MonoW wb) (mc : MonoW wc)
    (ha : PE X a (tX X.K xw ca wa)) (hb : PE X b (tX X.K xw cb wb)) (hc : PE X c (tX X.K xw cc wc)) :
    PE X (.Compare a [o, o'] [b, c] pos) (tX X.K xw (ca + cb + cc) fun ρ Q => wa ρ fun x _ => wb ρ fun y _ => match cmpD o x y with
      | some (p, r) => p ∧ (r = true → wc ρ fun z _ => (cmpR o' y z).to Q) ∧ (r = false → Q (.bool false) .shr)
      | none => False) := by
  refine PE.weak (pe_chain (op_cmpY hu o) (op_cmpY hu o') ha hb hc hm) fun σ H Q ⟨H0, B, pn, fr, ρ, Z, t, ok, w⟩ => ?_
  refine ⟨H0, B, pn, fr, ρ, Z, (cb + (cc + t)), ok.lt (by omega), ma _ _ _ (fun d k q x H1 s1 r1 => ⟨H0, B, pn, fr, ρ, Z, _, ok.to s1, mb _ _ _ (fun e k' q y H2 s2 r2 => ?_) q⟩) w⟩
  have ok1 := ok.to s1
  have ok2 := ok1.to s2
  dsimp only at q
  split at q
  · rename_i p r e1
    refine ⟨pn, Z, d, e, ok2.zt, (r1.dr ok.pnt).step s2 ok.pnz, r2.dr ok1.pnt, ?_⟩
    unfold cmpR
    rw [e1]
    refine ⟨q.1, fun v H3 s3 r3 => ?_⟩
    cases r3
    have s3' : HStep (cc + t) pn H2 H3 := HStep.of_same ok2.bd ok2.pnt s3
    refine ⟨r, rfl, ?_⟩
    cases r with
    | false => exact q.2.2 rfl _ H3 (((s1.trans s2).trans s3').less (by omega)) (.bl _)
    | true =>
      refine ⟨H0, B, pn, fr, ρ, Z, _, ok2.to s3', mc _ _ _ (fun f k3 q3 z H4 s4 r4 => ?_) (q.2.1 rfl)⟩
      refine ⟨pn, Z, e, f, ((ok2.to s3').to s4).zt, ((r2.dr ok1.pnt).step s3' ok.pnz).step s4 ok.pnz, r4.dr (ok2.to s3').pnt, Rz.mono (fun r kd z v H' s rx => z v H' ((((s1.trans s2).trans s3').trans s4).trans (HStep.of_same ((ok2.to s3').to s4).bd ((ok2.to s3').to s4).pnt s)) (rx.back (((s1.trans s2).trans s3').trans s4))) q3⟩
  · exact q.elim
/-- a slice -/
abbrev tO (K : PySem.W.Frag) (xw : Xw) (c : Nat) (w : En → (Option Int → Prop) → Prop) : TO := fun σ H Q => ∃ H0 B pn fr ρ Z t, EnvOk K xw H0 B pn fr Z (c + t) σ ρ H ∧ w ρ fun b => ∀ H', HStep t pn H H' → Q b H'
def MonoO (w : En → (Option Int → Prop) → Prop) : Prop := ∀ ρ Q Q', (∀ b, Q b → Q' b) → w ρ Q → w ρ Q'
theorem o_no : PO X none (tO X.K xw 0 fun _ Q => Q none) := PO.weak po_none fun σ H Q ⟨_, _, _, _, _, _, t, ok, w⟩ => w H (HStep.refl (ok.bd.less (by omega)))
theorem o_so {ca : Nat} {e : Expr} {wa : En → VQ → Prop} (ma : MonoW wa) (h : PE X e (tX X.K xw ca wa)) : PO X (some e) (tO X.K xw (ca) fun ρ Q => wa ρ fun x _ => match x with | .int i => Q (some i) | _ => False) := by
  refine PO.weak (po_some h) fun σ H Q ⟨H0, B, pn, fr, ρ, Z, t, ok, w⟩ => ⟨H0, B, pn, fr, ρ, Z, t, ok, ma _ _ _ (fun d k q x H1 s1 r1 => ?_) w⟩
  dsimp only at q
  split at q
  · exact ⟨_, (r1.dr ok.pnt).int, q H1 s1⟩
  · exact q.elim
theorem y_sl {ca cl ch : Nat} {a : Expr} {lo hi : Option Expr} {wa : En → VQ → Prop} {wl wh : En → (Option Int → Prop) → Prop} {p pos : Pos} (ma : MonoW wa) (ml : MonoO wl) (mh : MonoO wh) (ha : PE X a (tX X.K xw ca wa)) (hl : PO X lo (tO X.K xw cl wl)) (hh : PO X hi (tO X.K xw ch wh)) :
    PE X (.Subscript a (.Slice lo hi none p) pos) (tX X.K xw (ca + cl + ch) fun ρ Q => wa ρ fun x _ => wl ρ fun l => wh ρ fun h => (slD x l h).to Q) := by
  refine PE.weak (pe_slice sl_Y ha hl hh) fun σ H Q ⟨H0, B, pn, fr, ρ, Z, t, ok, w⟩ => ?_
  refine ⟨H0, B, pn, fr, ρ, Z, (cl + (ch + t)), ok.lt (by omega), ma _ _ _ (fun d k q x H1 s1 r1 => ⟨H0, B, pn, fr, ρ, Z, _, ok.to s1, ml _ _ _ (fun l q H2 s2 => ⟨H0, B, pn, fr, ρ, Z, _, (ok.to s1).to s2, mh _ _ _ (fun u q H3 s3 => ?_) q⟩) q⟩) w⟩
  refine ⟨pn, Z, d, (((ok.to s1).to s2).to s3).zt, ((r1.dr ok.pnt).step s2 ok.pnz).step s3 ok.pnz, Rz.mono (fun r kd z v H' s rx => z v H' (((s1.trans s2).trans s3).trans (HStep.of_same (((ok.to s1).to s2).to s3).bd (((ok.to s1).to s2).to s3).pnt s)) (rx.back ((s1.trans s2).trans s3))) q⟩
/-- items of displays; arguments of built-ins -/
abbrev tA (K : PySem.W.Frag) (xw : Xw) (b : Bool) (c : Nat) (w : En → (List D → Prop) → Prop) : TA := fun σ H Q => ∃ H0 B pn fr ρ Z t, EnvOk K xw H0 B pn fr Z (c + t) σ ρ H ∧ w ρ fun ds => ∀ vs H', HStep t pn H H' → ArL K b pn H' Z vs ds → Q vs H'
where ArL (K : PySem.W.Frag) (b : Bool) (pn : List Addr) (H : Hp) (Z : Addr → Prop) : List V → List D → Prop
  | [], [] => True
  | v :: vs, d :: ds => (if b then Dn K H Z v d else Dr K pn H Z v d) ∧ ArL K b pn H Z vs ds
  | _, _ => False
def MonoL (w : En → (List D → Prop) → Prop) : Prop := ∀ ρ Q Q', (∀ b, Q b → Q' b) → w ρ Q → w ρ Q'
theorem a_nil {b : Bool} : PA X [] (tA X.K xw b 0 fun _ Q => Q []) := PA.weak pa_nil fun σ H Q ⟨_, _, _, _, _, _, t, ok, w⟩ => w [] H (HStep.refl (ok.bd.less (by omega))) trivial
theorem a_consT {ca cs : Nat} {e : Expr} {es : List Expr} {wa : En → VQ → Prop} {ws : En → (List D → Prop) → Prop} (hs : starEach (e :: es) X.env = (false, eval e X.env) :: starEach es X.env) (ma : MonoW wa) (ms : MonoL ws) (ha : PE X e (tX X.K xw ca wa)) (hb : PA X es (tA X.K xw true cs ws)) :
    PA X (e :: es) (tA X.K xw true (ca + cs) fun ρ Q => wa ρ fun x k => k ≠ .bor ∧ ws ρ fun xs => Q (x :: xs)) := by
  refine PA.weak (pa_cons ha hb hs) fun σ H Q ⟨H0, B, pn, fr, ρ, Z, t, ok, w⟩ => ?_
  refine ⟨H0, B, pn, fr, ρ, Z, (cs + t), ok.lt (by omega), ma _ _ _ (fun d k q0 x H1 s1 r1 => ⟨H0, B, pn, fr, ρ, Z, _, ok.to s1, ms _ _ _ (fun ds q vs H2 s2 r2 => ?_) q0.2⟩) w⟩
  exact q (x :: vs) H2 (s1.trans s2) ⟨Dn.keep (keepZ s2 ok.pnz) (fun b z => .inl z) _ _ (r1.dn q0.1 ok.zt), r2⟩
theorem a_consF {ca cs : Nat} {e : Expr} {es : List Expr} {wa : En → VQ → Prop} {ws : En → (List D → Prop) → Prop} (hs : starEach (e :: es) X.env = (false, eval e X.env) :: starEach es X.env) (ma : MonoW wa) (ms : MonoL ws) (ha : PE X e (tX X.K xw ca wa)) (hb : PA X es (tA X.K xw false cs ws)) :
    PA X (e :: es) (tA X.K xw false (ca + cs) fun ρ Q => wa ρ fun x _ => ws ρ fun xs => Q (x :: xs)) := by
  refine PA.weak (pa_cons ha hb hs) fun σ H Q ⟨H0, B, pn, fr, ρ, Z, t, ok, w⟩ => ?_
  refine ⟨H0, B, pn, fr, ρ, Z, (cs + t), ok.lt (by omega), ma _ _ _ (fun d k q x H1 s1 r1 => ⟨H0, B, pn, fr, ρ, Z, _, ok.to s1, ms _ _ _ (fun ds q vs H2 s2 r2 => ?_) q⟩) w⟩
  exact q (x :: vs) H2 (s1.trans s2) ⟨(r1.dr ok.pnt).step s2 ok.pnz, r2⟩
end
end Y

/-! RP: repr of data of any depth; only of the dicts is it asked that they are not the table of modules -/
namespace Y
open PySem PySem.Spec PyProof.Rows L2 M
mutual
inductive RdN (h : Heap) : Value → D → Prop
  | non : RdN h .none .none
  | bl (b : Bool) : RdN h (.bool b) (.bool b)
  | int (i : Int) (t : Tok) : RdN h (.int i t) (.int i)
  | str (x : Str) (t : Tok) : RdN h (.str x t) (.str x)
  | lst {a : Addr} {o : Obj} {vs : Array Value} {n : Nat} {ds : List D} : h.get? a = some o → o.cls = .type "list" → o.data = .seq vs n → RdNs h vs.toList ds → RdN h (.ref a) (.list ds)
  | tup {a : Addr} {o : Obj} {vs : Array Value} {n : Nat} {ds : List D} : h.get? a = some o → o.cls = .type "tuple" → o.data = .seq vs n → RdNs h vs.toList ds → RdN h (.ref a) (.tuple ds)
  | dct {a : Addr} {o : Obj} {es : Array DictEntry} {n : Nat} {ps : List (D × D)} : (a == sysModules) = false → h.get? a = some o → o.cls = .type "dict" → o.data = .dict es n → RdNs h (es.toList.map (·.key)) (ps.map (·.1)) → RdNs h (es.toList.map (·.val)) (ps.map (·.2)) → RdN h (.ref a) (.dict ps)
inductive RdNs (h : Heap) : List Value → List D → Prop
  | nil : RdNs h [] []
  | cons {v : Value} {vs : List Value} {d : D} {ds : List D} : RdN h v d → RdNs h vs ds → RdNs h (v :: vs) (d :: ds)
end
mutual
theorem RdN.reads {h : Heap} : ∀ {v : Value} {d : D}, RdN h v d → ∃ as, Reads h v d as
  | _, _, .non => ⟨_, .none⟩
  | _, _, .bl b => ⟨_, .bool b⟩
  | _, _, .int i t => ⟨_, .int i t⟩
  | _, _, .str x t => ⟨_, .str x t⟩
  | _, _, .lst h1 h2 h3 h4 => let ⟨_, r⟩ := RdNs.reads h4; ⟨_, .list h1 h2 h3 r⟩
  | _, _, .tup h1 h2 h3 h4 => let ⟨_, r⟩ := RdNs.reads h4; ⟨_, .tuple h1 h2 h3 r⟩
  | _, _, .dct _ h1 h2 h3 h4 h5 => let ⟨_, r⟩ := RdNs.reads h4; let ⟨_, q⟩ := RdNs.reads h5; ⟨_, .dict h1 h2 h3 r q⟩
theorem RdNs.reads {h : Heap} : ∀ {vs : List Value} {ds : List D}, RdNs h vs ds → ∃ as, ReadsAll h vs ds as
  | _, _, .nil => ⟨_, .nil⟩
  | _, _, .cons a b => let ⟨_, r⟩ := RdN.reads a; let ⟨_, q⟩ := RdNs.reads b; ⟨_, .cons r q⟩
end
section
variable {P : Program} {w : World} {h : Heap}
/-- what repr needs to know -/
def Shw (P : Program) (w : World) (h : Heap) (n : Nat) (v : Value) (z : Str) : Prop := ∃ bs, ReadAtMost h n bs ∧ ReprK P w bs h n v z
def Shws (P : Program) (w : World) (h : Heap) (n : Nat) (vs : List Value) (zs : List Str) : Prop := ∃ bs, ReadAtMost h n bs ∧ ReprAllK P w bs h n vs zs
theorem shw_is {n : Nat} {v : Value} {z : Str} (r : ReprIs P w v z) : Shw P w h n v z := ⟨[], (fun _ z => nomatch z), .of_is r _ _ _⟩
theorem ents_of {a : Addr} {o : Obj} {es : Array DictEntry} {n : Nat} {ps : List (D × D)} (r : RdN h (.ref a) (.dict ps)) (hs : (PyData.dict ps).showable = true) (hz : (PyData.dict ps).shown.length ≤ sizeLine)
    (k1 : PyData.showableAll (ps.map (·.1)) = true → (∀ t ∈ PyData.shownAll (ps.map (·.1)), t.length ≤ sizeLine) → Shws P w h (PyData.depthAll (ps.map (·.1))) (es.toList.map (·.key)) (PyData.shownAll (ps.map (·.1))))
    (k2 : PyData.showableAll (ps.map (·.2)) = true → (∀ t ∈ PyData.shownAll (ps.map (·.2)), t.length ≤ sizeLine) → Shws P w h (PyData.depthAll (ps.map (·.2))) (es.toList.map (·.val)) (PyData.shownAll (ps.map (·.2)))) :
    ∃ bs, ReadAtMost h (PyData.depthKv ps) bs ∧ a ∉ bs ∧ ReprEntriesK P w bs h (PyData.depthKv ps) es.toList (PyData.shownKv ps) := by
  have z : (dictText (PyData.shownKv ps)).length ≤ sizeLine := by simpa only [PyData.shown] using hz
  obtain ⟨s1, s2⟩ := PyData.showableKv_split ps (by simpa [PyData.showable] using hs)
  have sz : ∀ p ∈ PyData.shownKv ps, p.length ≤ sizeLine := fun p hp => Nat.le_trans (dictText_mem_le hp) z
  obtain ⟨b1, m1, k1⟩ := k1 s1 fun t ht => let ⟨p, hp, hl⟩ := PyData.shownKv_key_le ps t ht; Nat.le_trans hl (sz p hp)
  obtain ⟨b2, m2, k2⟩ := k2 s2 fun t ht => let ⟨p, hp, hl⟩ := PyData.shownKv_val_le ps t ht; Nat.le_trans hl (sz p hp)
  have b := (m1.mono (PyData.depthAll_keys_le ps)).append (m2.mono (PyData.depthAll_vals_le ps))
  obtain ⟨as, r⟩ := r.reads
  refine ⟨b1 ++ b2, b, not_mem_of_deeper r (by simp only [PyData.depth]; omega) b, ?_⟩
  rw [PyData.shownKv_eq]
  exact ReprEntriesK.of_two es.toList _ _ (k1.more_le (fun b m => List.mem_append_left _ m) (PyData.depthAll_keys_le ps)) (k2.more_le (fun b m => List.mem_append_right _ m) (PyData.depthAll_vals_le ps))
mutual
theorem RdN.shw : ∀ {v : Value} {d : D}, RdN h v d → d.showable = true → d.shown.length ≤ sizeLine → Shw P w h d.depth v d.shown
  | _, _, .non, _, _ => by simp only [PyData.shown]; exact shw_is ReprIs.none
  | _, _, .bl b, _, _ => by simp only [PyData.shown]; exact shw_is (ReprIs.bool b)
  | _, _, .int i t, hs, _ => by simp only [PyData.shown]; exact shw_is (ReprIs.int t (by simpa [PyData.showable] using hs))
  | _, _, .str x t, _, hz => by simp only [PyData.shown]; exact shw_is (ReprIs.str x t (by simpa only [PyData.shown] using hz))
  | _, _, .lst (a := a) (vs := vs) (ds := ds) h1 h2 h3 h4, hs, hz => by
    have z : (listText (PyData.shownAll ds)).length ≤ sizeLine := by simpa only [PyData.shown] using hz
    obtain ⟨bs, b, k⟩ := RdNs.shw h4 (by simpa [PyData.showable] using hs) fun t ht => Nat.le_trans (listText_mem_le ht) z
    obtain ⟨as, r⟩ := RdN.reads (.lst h1 h2 h3 h4)
    have na : a ∉ bs := not_mem_of_deeper r (by simp only [PyData.depth]; omega) b
    refine ⟨a :: bs, ReadAtMost.cons r (by simp only [PyData.depth]; omega) b, ?_⟩
    simp only [PyData.depth, PyData.shown]
    obtain ⟨l⟩ := vs
    cases l with
    | nil =>
      cases (show RdNs h [] ds from h4)
      simp only [PyData.shownAll, listText_nil]
      exact ReprK.listEmpty h1 h2 h3
    | cons x l => exact ReprK.list h1 h2 h3 na (by simpa using k.length_eq) fun i y e => k.item i y (by simpa using e)
  | _, _, .tup (a := a) (vs := vs) (ds := ds) h1 h2 h3 h4, hs, hz => by
    have z : (tupleText (PyData.shownAll ds)).length ≤ sizeLine := by simpa only [PyData.shown] using hz
    obtain ⟨bs, b, k⟩ := RdNs.shw h4 (by simpa [PyData.showable] using hs) fun t ht => Nat.le_trans (tupleText_mem_le ht) z
    obtain ⟨as, r⟩ := RdN.reads (.tup h1 h2 h3 h4)
    have na : a ∉ bs := not_mem_of_deeper r (by simp only [PyData.depth]; omega) b
    refine ⟨a :: bs, ReadAtMost.cons r (by simp only [PyData.depth]; omega) b, ?_⟩
    simp only [PyData.depth, PyData.shown]
    exact ReprK.tuple h1 h2 h3 na k
  | _, _, .dct (a := a) (o := o) (n := n) (es := es) (ps := ps) h0 h1 h2 h3 h4 h5, hs, hz => by
    obtain ⟨bs, b, na, k⟩ := ents_of (P := P) (w := w) (o := o) (n := n) (.dct h0 h1 h2 h3 h4 h5) hs hz (RdNs.shw h4) (RdNs.shw h5)
    obtain ⟨as, r⟩ := RdN.reads (.dct h0 h1 h2 h3 h4 h5)
    refine ⟨a :: bs, ReadAtMost.cons r (by simp only [PyData.depth]; omega) b, ?_⟩
    simp only [PyData.depth, PyData.shown]
    exact ReprK.dict h1 h2 h3 h0 na k
theorem RdNs.shw : ∀ {vs : List Value} {ds : List D}, RdNs h vs ds → PyData.showableAll ds = true → (∀ t ∈ PyData.shownAll ds, t.length ≤ sizeLine) → Shws P w h (PyData.depthAll ds) vs (PyData.shownAll ds)
  | _, _, .nil, _, _ => ⟨[], (fun _ z => nomatch z), by simp only [PyData.shownAll]; exact .nil⟩
  | _, _, .cons (d := d) (ds := ds) r rs, hs, hz => by
    have hs' : d.showable = true ∧ PyData.showableAll ds = true := by simpa [PyData.showableAll] using hs
    obtain ⟨b1, m1, k1⟩ := RdN.shw r hs'.1 (hz _ (by simp only [PyData.shownAll]; exact List.mem_cons_self))
    obtain ⟨b2, m2, k2⟩ := RdNs.shw rs hs'.2 fun t ht => hz t (by simp only [PyData.shownAll]; exact List.mem_cons_of_mem _ ht)
    refine ⟨b1 ++ b2, ?_, ?_⟩
    · simp only [PyData.depthAll]
      exact (m1.mono (Nat.le_max_left _ _)).append (m2.mono (Nat.le_max_right _ _))
    · simp only [PyData.depthAll, PyData.shownAll]
      exact .cons ((k1.more fun b m => List.mem_append_left _ m).level_le (Nat.le_max_left _ _)) (k2.more_le (fun b m => List.mem_append_right _ m) (Nat.le_max_right _ _))
end
end
theorem repr_n {P : Program} {w : World} {A : Around} {E : Value → Shared → Prop} {s : Shared} {Q : Value → Shared → Prop} {a : Addr} {d : D} (r : RdN s.heap (.ref a) d) (hs : d.showable = true) (hg : A.guards = some []) (hu : A.units + (d.depth + 1) < cLine)
    (hQ : ∀ h' u tk, (∀ b o, s.heap.get? b = some o → h'.get? b = some o) → Q (.str d.shown u) { s with heap := h', toks := tk }) (hsz : d.shown.length ≤ sizeLine) : wpAny (model P w) A (call (.builtin "repr") [.ref a]) Q E s := by
  obtain ⟨as, rd⟩ := r.reads
  cases r with
  | @lst _ o vs n ds h1 h2 h3 h4 =>
    have z : (listText (PyData.shownAll ds)).length ≤ sizeLine := by simpa only [PyData.shown] using hsz
    obtain ⟨bs, b, k⟩ := RdNs.shw (P := P) (w := w) h4 (by simpa [PyData.showable] using hs) fun t ht => Nat.le_trans (listText_mem_le ht) z
    have na : a ∉ bs := not_mem_of_deeper rd (by simp only [PyData.depth]; omega) b
    refine call_repr_slot (T := "list") (idr := "list.__repr__") (by omega) ⟨o, h1, h2⟩ F.slot_list_repr.toG ?_
    simp only [PyData.depth] at hu
    simp only [PyData.shown] at hQ
    obtain ⟨l⟩ := vs
    cases l with
    | nil =>
      cases (show RdNs s.heap [] ds from h4)
      simp only [PyData.shownAll, listText_nil] at hQ
      exact call_list_repr_empty ⟨o, h1, h2⟩ h1 h3 ⟨_, _, rfl, hQ s.heap _ _ fun _ _ e => e⟩
    | cons x l => exact call_list_reprK h1 h2 h3 na (by simpa using k.length_eq) (fun i y e => k.item i y (by simpa using e)) hg (fun b _ => Clear.nil b) (by show A.units + 1 + _ < cLine; omega) (fun _ _ z => z) (fun h' u tk k => ⟨_, _, rfl, hQ h' u tk k⟩) z
  | @tup _ o vs n ds h1 h2 h3 h4 =>
    have z : (tupleText (PyData.shownAll ds)).length ≤ sizeLine := by simpa only [PyData.shown] using hsz
    obtain ⟨bs, b, k⟩ := RdNs.shw (P := P) (w := w) h4 (by simpa [PyData.showable] using hs) fun t ht => Nat.le_trans (tupleText_mem_le ht) z
    have na : a ∉ bs := not_mem_of_deeper rd (by simp only [PyData.depth]; omega) b
    refine call_repr_slot (T := "tuple") (idr := "tuple.__repr__") (by omega) ⟨o, h1, h2⟩ F.slot_tuple_repr ?_
    simp only [PyData.depth] at hu
    simp only [PyData.shown] at hQ
    exact call_tuple_reprK h1 h2 h3 na k hg (fun b _ => Clear.nil b) (by show A.units + 1 + _ < cLine; omega) (fun _ _ z => z) (fun h' u tk k => ⟨_, _, rfl, hQ h' u tk k⟩) z
  | @dct _ o es n ps h0 h1 h2 h3 h4 h5 =>
    have z : (dictText (PyData.shownKv ps)).length ≤ sizeLine := by simpa only [PyData.shown] using hsz
    obtain ⟨bs, b, na, k⟩ := ents_of (P := P) (w := w) (o := o) (n := n) (.dct h0 h1 h2 h3 h4 h5) hs hsz (RdNs.shw h4) (RdNs.shw h5)
    refine call_repr_slot (T := "dict") (idr := "dict.__repr__") (by omega) ⟨o, h1, h2⟩ F.slot_dict_repr ?_
    simp only [PyData.depth] at hu
    simp only [PyData.shown] at hQ
    exact call_dict_reprK h1 h2 h3 h0 na k hg (fun b _ => Clear.nil b) (by show A.units + 1 + _ < cLine; omega) (fun _ _ z => z) (fun h' u tk k => ⟨_, _, rfl, hQ h' u tk k⟩) z
end Y

namespace Y
open PySem PySem.Spec PyProof.Rows L2 M
/-! ### repr of data (no dicts) -/
def rRepr (K : PySem.W.Frag) : List V → Hp → VK → Prop := fun xs H Q => ∃ x d, xs = [x] ∧ Dp K H x d ∧ d.hasDict = false ∧ d.showable = true ∧ d.shown.length ≤ sizeLine ∧ d.depth ≤ 64 ∧ Q (.str d.shown) H
section
variable {X : Cx} {xw : Xw} {j : Nat}
theorem call_repr (hg : X.A.guards = some []) (hr : Room j X.A) : CallR X (.builtin "repr") (rRepr X.K) := by
  intro pins s σ H xs us Q I r h
  obtain ⟨x, d, rfl, dp, nd, show1, size, deep, q⟩ := h
  obtain ⟨u, rfl, ru⟩ := vals1 r
  cases dp with
  | non =>
    cases (show u = Value.none from ru)
    exact PySem.P.repr_of_none ⟨.str _, H, I.tok _, ⟨_, rfl⟩, by simpa [PyData.shown] using q⟩
  | bl b =>
    cases (show u = Value.bool b from ru)
    exact PySem.P.repr_of_bool ⟨.str _, H, I.tok _, ⟨_, rfl⟩, by simpa [PyData.shown] using q⟩
  | int i =>
    obtain ⟨t, rfl⟩ := ru
    exact PySem.P.repr_of_int (by simpa [PyData.showable] using show1) ⟨.str _, H, I.tok _, ⟨_, rfl⟩, by simpa [PyData.shown] using q⟩
  | str z =>
    obtain ⟨t, rfl⟩ := ru
    exact PySem.P.repr_of_str ⟨.str _, H, I.tok _, ⟨_, rfl⟩, by simpa [PyData.shown] using q⟩ (by simpa [PyData.shown] using size)
  | @lst a ys ds hs ha =>
    cases (show u = Value.ref a from ru)
    obtain ⟨as, rd⟩ := Dp.reads I _ _ _ (Dp.lst hs ha) (show RelV (.ref a) (Value.ref a) from rfl)
    exact repr_of_reads' rd show1 (fun z => by rw [nd] at z; cases z) hg (by have := hr.un; omega) (fun _ _ z => z) (fun h' u tk k => ⟨.str _, H, I.kept k, ⟨_, rfl⟩, q⟩) size
  | @tup a ys ds hs ha =>
    cases (show u = Value.ref a from ru)
    obtain ⟨as, rd⟩ := Dp.reads I _ _ _ (Dp.tup hs ha) (show RelV (.ref a) (Value.ref a) from rfl)
    exact repr_of_reads' rd show1 (fun z => by rw [nd] at z; cases z) hg (by have := hr.un; omega) (fun _ _ z => z) (fun h' u tk k => ⟨.str _, H, I.kept k, ⟨_, rfl⟩, q⟩) size
/-! ### displays -/
theorem arl_dn {K : PySem.W.Frag} {pn : List Addr} {H : Hp} {Z : Addr → Prop} : ∀ {vs : List V} {ds : List D}, tA.ArL K true pn H Z vs ds → DnL K H Z vs ds
  | [], [], _ => .nil
  | v :: vs, d :: ds, h => .cons h.1 (arl_dn h.2)
  | [], _ :: _, h => h.elim
  | _ :: _, [], h => h.elim
theorem y_tup {cs : Nat} {es : List Expr} {ws : En → (List D → Prop) → Prop} {k : Nat} {pos : Pos} (ms : MonoL ws) (hl : ∀ ρ Q, ws ρ Q → ws ρ fun ds => ds.length ≤ sizeLine ∧ Q ds) (h : PA X es (tA X.K xw true cs ws)) :
    PE X (.Tuple es k pos) (tX X.K xw (cs) fun ρ Q => ws ρ fun ds => Q (.tuple ds) .shr) := by
  refine PE.weak (pe_tup h) fun σ H Q ⟨H0, B, pn, fr, ρ, Z, tb, ok, w⟩ => ⟨H0, B, pn, fr, ρ, Z, tb, ok, ms _ _ _ (fun ds q vs H1 s1 r1 => ?_) (hl _ _ w)⟩
  have n := arl_dn r1
  exact ⟨by rw [n.length]; exact q.1, fun p np => q.2 _ _ (s1.trans ((ok.to s1).ss (M.same_upd np))) (rx_tup (pn := pn) (ok.to s1).zt np n)⟩
theorem y_lst {cs : Nat} {es : List Expr} {ws : En → (List D → Prop) → Prop} {pos : Pos} (ms : MonoL ws) (hl : ∀ ρ Q, ws ρ Q → ws ρ fun ds => ds.length ≤ sizeLine ∧ Q ds) (h : PA X es (tA X.K xw true cs ws)) :
    PE X (.List es pos) (tX X.K xw (cs) fun ρ Q => ws ρ fun ds => Q (.list ds) .own) := by
  refine PE.weak (pe_lst h) fun σ H Q ⟨H0, B, pn, fr, ρ, Z, tb, ok, w⟩ => ⟨H0, B, pn, fr, ρ, Z, tb, ok, ms _ _ _ (fun ds q vs H1 s1 r1 => ?_) (hl _ _ w)⟩
  have n := arl_dn r1
  exact ⟨by rw [n.length]; exact q.1, fun p np => q.2 _ _ (s1.trans ((ok.to s1).ss (M.same_upd np))) (RX.back (rx_lst (pn := pn) np n) s1)⟩
/-! ### built-ins -/
def rB (K : PySem.W.Frag) (b : Bt) : List V → Hp → VK → Prop := fun xs H Q => ∃ pn Z ds, (∀ a, Z a → H a ≠ none) ∧ tA.ArL K false pn H Z xs ds ∧ (btD b ds).to fun r k => ∀ v H', Same H H' → RX K pn H H' Z v r k → Q v H'
theorem CallR.d {f : Value} {b : Bt}
    (h : ∀ (xs : List V) (H : Hp) (pn : List Addr) (Z : Addr → Prop) (ds : List D) (Q : VK), (∀ a, Z a → H a ≠ none) → tA.ArL X.K false pn H Z xs ds → ((btD b ds).to fun r k => ∀ v H', Same H H' → RX X.K pn H H' Z v r k → Q v H') → ∃ r, CallR X f r ∧ r xs H Q) : CallR X f (rB X.K b) := by
  intro pins s σ H xs us Q I r q
  obtain ⟨pn, Z, ds, zt, h1, q⟩ := q
  obtain ⟨r', o, q'⟩ := h xs H pn Z ds Q zt h1 q
  exact o pins s σ H xs us Q I r q'
theorem arl1 {K : PySem.W.Frag} {pn : List Addr} {H : Hp} {Z : Addr → Prop} {vs : List V} {d : D} (h : tA.ArL K false pn H Z vs [d]) : ∃ v, vs = [v] ∧ Dr K pn H Z v d := by
  match vs, h with
  | [v], h => exact ⟨v, rfl, h.1⟩
  | [], h => exact h.elim
  | _ :: _ :: _, h => exact h.2.elim
theorem arl2 {K : PySem.W.Frag} {pn : List Addr} {H : Hp} {Z : Addr → Prop} {vs : List V} {d e : D} (h : tA.ArL K false pn H Z vs [d, e]) : ∃ v w, vs = [v, w] ∧ Dr K pn H Z v d ∧ Dr K pn H Z w e := by
  match vs, h with
  | [v, w], h => exact ⟨v, w, rfl, h.1, h.2.1⟩
  | [], h => exact h.elim
  | [_], h => exact h.2.elim
  | _ :: _ :: _ :: _, h => exact h.2.2.elim
theorem ints_vals {K : PySem.W.Frag} {H : Hp} {Z : Addr → Prop} : ∀ {xs : List V} {ds : List D} {l : List Int}, DnL K H Z xs ds → intsD ds = some l → xs = l.map V.int
  | _, [], l, h, e => by cases h; cases e; rfl
  | _, d :: ds, l, h, e => by
    cases h with
    | cons a b =>
      cases d <;> first
        | (simp [intsD] at e; done)
        | (simp only [intsD] at e
           cases q : intsD ds with
           | none => rw [q] at e; cases e
           | some l' =>
             rw [q] at e
             cases e
             cases a
             rw [ints_vals b q]
             rfl)
theorem bools_vals {K : PySem.W.Frag} {H : Hp} {Z : Addr → Prop} : ∀ {xs : List V} {ds : List D} {l : List Bool}, DnL K H Z xs ds → boolsD ds = some l → xs = l.map V.bl
  | _, [], l, h, e => by cases h; cases e; rfl
  | _, d :: ds, l, h, e => by
    cases h with
    | cons a b =>
      cases d <;> first
        | (simp [boolsD] at e; done)
        | (simp only [boolsD] at e
           cases q : boolsD ds with
           | none => rw [q] at e; cases e
           | some l' =>
             rw [q] at e
             cases e
             cases a
             rw [bools_vals b q]
             rfl)
theorem strs_vals {K : PySem.W.Frag} {H : Hp} {Z : Addr → Prop} : ∀ {xs : List V} {ds : List D} {l : List Str}, DnL K H Z xs ds → strsD ds = some l → xs = l.map V.str
  | _, [], l, h, e => by cases h; cases e; rfl
  | _, d :: ds, l, h, e => by
    cases h with
    | cons a b =>
      cases d <;> first
        | (simp [strsD] at e; done)
        | (simp only [strsD] at e
           cases q : strsD ds with
           | none => rw [q] at e; cases e
           | some l' =>
             rw [q] at e
             cases e
             cases a
             rw [strs_vals b q]
             rfl)
/-- the built-in behind a word -/
def bval : Bt → Value
  | .len => .builtin "len" | .abs => .builtin "abs" | .min2 => .builtin "min" | .max2 => .builtin "max" | .min1 => .builtin "min" | .max1 => .builtin "max"
  | .sum => .builtin "sum" | .any => .builtin "any" | .all => .builtin "all" | .isi _ => .builtin "isinstance" | .repr => .builtin "repr" | .sorted => .builtin "sorted"
  | .int => .type "int" | .str => .type "str" | .list => .type "list" | .tuple => .type "tuple" | .bool => .type "bool"
theorem call_len_Y : CallR X (.builtin "len") (rB X.K .len) := by
  refine CallR.d fun xs H pn Z ds Q zt h q => ?_
  match ds, h, q with
  | [.str z], h, q =>
    obtain ⟨v, rfl, h9⟩ := arl1 h
    rw [h9.str]
    exact ⟨_, call_len_str, z, rfl, q.1, q.2 _ H (same_refl H) (.int _)⟩
  | [.list ds], h, q =>
    obtain ⟨v, rfl, h9⟩ := arl1 h
    obtain ⟨a, ys, rfl, s1, n1⟩ := h9.list
    exact ⟨_, call_len_seq, a, ys, rfl, .inl (SqL.of s1), q.2 _ H (same_refl H) (by rw [n1.length]; exact .int _)⟩
  | [.tuple ds], h, q =>
    obtain ⟨v, rfl, h9⟩ := arl1 h
    obtain ⟨a, ys, rfl, s1, n1⟩ := h9.tup
    exact ⟨_, call_len_seq, a, ys, rfl, .inr s1.sq, q.2 _ H (same_refl H) (by rw [n1.length]; exact .int _)⟩
  | [], _, q | [.none], _, q | [.bool _], _, q | [.int _], _, q | [.dict _], _, q => exact q.elim
  | d :: _ :: _, _, q => cases d <;> exact q.elim
theorem call_int1_Y {f : Value} {b : Bt} {g : Int → D} {gv : Int → V} (hb : ∀ i, btD b [.int i] = some (True, g i, .shr)) (hn : ∀ ds, btD b ds = none ∨ ∃ i : Int, ds = [.int i]) (hv : ∀ i H Z, Dn X.K H Z (gv i) (g i))
    (h : CallR X f fun xs H Q => ∃ i, xs = [.int i] ∧ Q (gv i) H) : CallR X f (rB X.K b) := by
  refine CallR.d fun xs H pn Z ds Q zt h1 q => ?_
  rcases hn ds with e | ⟨i, rfl⟩
  · rw [e] at q; exact q.elim
  · rw [hb] at q
    obtain ⟨v, rfl, h9⟩ := arl1 h1
    rw [h9.int]
    exact ⟨_, h, i, rfl, q.2 _ H (same_refl H) (hv _ _ _)⟩
theorem call_int2_Y {f : Value} {b : Bt} {g : Int → Int → Int} (hb : ∀ i j, btD b [.int i, .int j] = some (True, .int (g i j), .shr)) (hn : ∀ ds, btD b ds = none ∨ ∃ i j : Int, ds = [.int i, .int j])
    (h : CallR X f fun xs H Q => ∃ i j, xs = [.int i, .int j] ∧ Q (.int (g i j)) H) : CallR X f (rB X.K b) := by
  refine CallR.d fun xs H pn Z ds Q zt h1 q => ?_
  rcases hn ds with e | ⟨i, j, rfl⟩
  · rw [e] at q; exact q.elim
  · rw [hb] at q
    obtain ⟨v, w, rfl, h8, h9⟩ := arl2 h1
    rw [h8.int, h9.int]
    exact ⟨_, h, i, j, rfl, q.2 _ H (same_refl H) (.int _)⟩
theorem call_sum_Y (hc : X.calm = true) : CallR X (.builtin "sum") (rB X.K .sum) := by
  refine CallR.d fun xs H pn Z ds Q zt h q => ?_
  match ds, h, q with
  | [.list ds], h, q =>
    obtain ⟨v, rfl, h9⟩ := arl1 h
    obtain ⟨a, ys, rfl, s1, n1⟩ := h9.list
    simp only [btD] at q
    cases e : intsD ds with
    | none => rw [e] at q; exact q.elim
    | some l =>
      rw [e] at q
      have ev := ints_vals n1 e
      subst ev
      exact ⟨_, cr_sum hc, a, l, rfl, SqL.of s1, q.2 _ H (same_refl H) (.int _)⟩
  | [], _, q | [.none], _, q | [.bool _], _, q | [.int _], _, q | [.str _], _, q | [.tuple _], _, q | [.dict _], _, q => exact q.elim
  | d :: _ :: _, _, q => cases d <;> exact q.elim
theorem max_iff {l : List Int} {m : Int} : l.max? = some m ↔ m ∈ l ∧ ∀ y, y ∈ l → y ≤ m := List.max?_eq_some_iff
theorem min_iff {l : List Int} {m : Int} : l.min? = some m ↔ m ∈ l ∧ ∀ y, y ∈ l → m ≤ y := List.min?_eq_some_iff
theorem call_max1_Y (hc : X.calm = true) : CallR X (.builtin "max") (rB X.K .max1) := by
  refine CallR.d fun xs H pn Z ds Q zt h q => ?_
  match ds, h, q with
  | [.list ds], h, q =>
    obtain ⟨v, rfl, h9⟩ := arl1 h
    obtain ⟨a, ys, rfl, s1, n1⟩ := h9.list
    simp only [btD] at q
    cases e : intsD ds with
    | none => rw [e] at q; exact q.elim
    | some l =>
      rw [e] at q
      dsimp only [Option.bind_some] at q
      have ev := ints_vals n1 e
      subst ev
      cases em : l.max? with
      | none => rw [em] at q; exact q.elim
      | some m =>
        rw [em] at q
        refine ⟨_, cr_max hc, a, l, rfl, SqL.of s1, ?_, fun m' h1 h2 => ?_⟩
        · exact List.length_pos_of_mem (max_iff.mp em).1
        · have : m' = m := Option.some.inj ((max_iff.mpr ⟨h1, h2⟩).symm.trans em)
          subst this
          exact q.2 _ H (same_refl H) (.int _)
  | [], _, q | [.none], _, q | [.bool _], _, q | [.int _], _, q | [.str _], _, q | [.tuple _], _, q | [.dict _], _, q => exact q.elim
  | d :: _ :: _, _, q => cases d <;> exact q.elim
theorem call_min1_Y (hc : X.calm = true) : CallR X (.builtin "min") (rB X.K .min1) := by
  refine CallR.d fun xs H pn Z ds Q zt h q => ?_
  match ds, h, q with
  | [.list ds], h, q =>
    obtain ⟨v, rfl, h9⟩ := arl1 h
    obtain ⟨a, ys, rfl, s1, n1⟩ := h9.list
    simp only [btD] at q
    cases e : intsD ds with
    | none => rw [e] at q; exact q.elim
    | some l =>
      rw [e] at q
      dsimp only [Option.bind_some] at q
      have ev := ints_vals n1 e
      subst ev
      cases em : l.min? with
      | none => rw [em] at q; exact q.elim
      | some m =>
        rw [em] at q
        refine ⟨_, cr_min hc, a, l, rfl, SqL.of s1, ?_, fun m' h1 h2 => ?_⟩
        · exact List.length_pos_of_mem (min_iff.mp em).1
        · have : m' = m := Option.some.inj ((min_iff.mpr ⟨h1, h2⟩).symm.trans em)
          subst this
          exact q.2 _ H (same_refl H) (.int _)
  | [], _, q | [.none], _, q | [.bool _], _, q | [.int _], _, q | [.str _], _, q | [.tuple _], _, q | [.dict _], _, q => exact q.elim
  | d :: _ :: _, _, q => cases d <;> exact q.elim
theorem call_any_Y (hc : X.calm = true) : CallR X (.builtin "any") (rB X.K .any) := by
  refine CallR.d fun xs H pn Z ds Q zt h q => ?_
  match ds, h, q with
  | [.list ds], h, q =>
    obtain ⟨v, rfl, h9⟩ := arl1 h
    obtain ⟨a, ys, rfl, s1, n1⟩ := h9.list
    simp only [btD] at q
    cases e : boolsD ds with
    | none => rw [e] at q; exact q.elim
    | some l =>
      rw [e] at q
      have ev := bools_vals n1 e
      subst ev
      exact ⟨_, cr_any hc, a, l, rfl, SqL.of s1, q.2 _ H (same_refl H) (.bl _)⟩
  | [], _, q | [.none], _, q | [.bool _], _, q | [.int _], _, q | [.str _], _, q | [.tuple _], _, q | [.dict _], _, q => exact q.elim
  | d :: _ :: _, _, q => cases d <;> exact q.elim
theorem call_all_Y (hc : X.calm = true) : CallR X (.builtin "all") (rB X.K .all) := by
  refine CallR.d fun xs H pn Z ds Q zt h q => ?_
  match ds, h, q with
  | [.list ds], h, q =>
    obtain ⟨v, rfl, h9⟩ := arl1 h
    obtain ⟨a, ys, rfl, s1, n1⟩ := h9.list
    simp only [btD] at q
    cases e : boolsD ds with
    | none => rw [e] at q; exact q.elim
    | some l =>
      rw [e] at q
      have ev := bools_vals n1 e
      subst ev
      exact ⟨_, cr_all hc, a, l, rfl, SqL.of s1, q.2 _ H (same_refl H) (.bl _)⟩
  | [], _, q | [.none], _, q | [.bool _], _, q | [.int _], _, q | [.str _], _, q | [.tuple _], _, q | [.dict _], _, q => exact q.elim
  | d :: _ :: _, _, q => cases d <;> exact q.elim
theorem key_rdn {h : Heap} {k : Key} {u : Value} (e : keyIs k u = true) : RdN h u (kD k) := by
  rcases keyIs_shape e with ⟨i, t, rfl, rfl⟩ | ⟨x, t, rfl, rfl⟩
  · exact .int i t
  · exact .str x t
section
variable {pins : List (Addr × Obj)} {σ : L2.St} {s : Shared} {H : Hp} {Z : Addr → Prop} (I : Inv X pins σ H s)
include I
theorem dk_rdn {a : Addr} {kvs : List (Key × V)} {ps : List (D × D)} (e : H a = some (.dK kvs)) (hp : ∀ us : List (Key × Value), KV kvs us → RdNs s.heap (us.map (·.2)) (ps.map (·.2))) (hk : ps.map (·.1) = kvs.map fun q => kD q.1) : RdN s.heap (.ref a) (.dict ps) := by
  obtain ⟨_, hd, us, rel, o, es, ep, ho, ex, hdd, _, pr, _⟩ := dk_of I.hok e
  have ks : ∀ {es : List DictEntry} {us : List (Key × Value)}, Pairs (mixKind X.prog X.w) es us → RdNs s.heap (es.map (·.key)) (us.map fun q => kD q.1) := fun h => by
    induction h with
    | nil => exact .nil
    | cons h1 h2 _ ih => exact .cons (key_rdn h1) ih
  have vs : ∀ {es : List DictEntry} {us : List (Key × Value)}, Pairs (mixKind X.prog X.w) es us → es.map (·.val) = us.map (·.2) := fun h => by
    induction h with
    | nil => rfl
    | cons h1 h2 _ ih => rw [List.map_cons, List.map_cons, h2, ih]
  have kk : ∀ {kvs : List (Key × V)} {us : List (Key × Value)}, KV kvs us → (kvs.map fun q => kD q.1) = us.map fun q => kD q.1 := fun h => by
    induction h with
    | nil => rfl
    | cons h1 _ ih => rw [List.map_cons, List.map_cons, h1.1, ih]
  refine .dct hd ho ex.1 hdd ?_ ?_
  · rw [hk, kk rel]
    exact ks pr
  · rw [vs pr]
    exact hp us rel
theorem dt0_rdn {a : Addr} (e : H a = some (.dT [])) : RdN s.heap (.ref a) (.dict []) := by
  obtain ⟨_, hd, vs, rel, dd⟩ := dt_of I.hok e
  obtain ⟨o, es, ep, ho, ex, hdd, pr, _, _⟩ := dd
  have h0 : vs = [] := List.length_eq_zero_iff.mp (by rw [← rel.length]; rfl)
  have he : es.toList = [] := by rw [pr, h0]; rfl
  exact .dct hd ho ex.1 hdd (by rw [he]; exact .nil) (by rw [he]; exact .nil)
theorem dnk_keys : ∀ {kvs : List (Key × V)} {ps : List (D × D)}, DnK X.K H Z kvs ps → ps.map (·.1) = kvs.map fun q => kD q.1
  | _, _, .nil => rfl
  | _, _, .cons _ h => by rw [List.map_cons, List.map_cons, dnk_keys h]
mutual
theorem dn_rdn : ∀ (d : D) (v : V) (u : Value), Dn X.K H Z v d → keyB d = true → RelV v u → RdN s.heap u d
  | .none, _, _, h, _, r => by
    cases h
    cases r
    exact .non
  | .bool b, _, _, h, _, r => by
    cases h
    cases r
    exact .bl b
  | .int i, _, _, h, _, r => by
    cases h
    obtain ⟨t, rfl⟩ := r
    exact .int i t
  | .str x, _, _, h, _, r => by
    cases h
    obtain ⟨t, rfl⟩ := r
    exact .str x t
  | .list ds, _, u, h, e, r => by
    cases h with
    | lst l n =>
      cases (show u = Value.ref _ from r)
      obtain ⟨its, rv, ⟨o, k, ho, hc, _, hd⟩, _⟩ := I.list (SqL.of l.2)
      exact .lst ho hc hd (dn_rdns ds _ its n (by simpa only [keyB] using e) rv)
  | .tuple ds, _, u, h, e, r => by
    cases h with
    | tup l n =>
      cases (show u = Value.ref _ from r)
      obtain ⟨its, rv, ⟨o, ho, hc, k, hd⟩, _⟩ := I.tuple l.sq
      exact .tup ho hc hd (dn_rdns ds _ its n (by simpa only [keyB] using e) rv)
  | .dict ps, _, u, h, e, r => by
    cases h with
    | dk n e1 k =>
      cases (show u = Value.ref _ from r)
      exact dk_rdn I e1 (fun us rel => dn_rdnk ps _ us k (by simpa only [keyB] using e) rel) (dnk_keys I k)
    | dt n e1 k =>
      cases (show u = Value.ref _ from r)
      cases k with
      | nil => exact dt0_rdn I e1
      | cons _ _ => simp [keyB, keyKvB, isKeyB] at e
theorem dn_rdns : ∀ (ds : List D) (vs : List V) (us : List Value), DnL X.K H Z vs ds → keyAllB ds = true → Vals vs us → RdNs s.heap us ds
  | [], _, _, h, _, r => by
    cases h
    cases r
    exact .nil
  | d :: ds, _, _, h, e, r => by
    rw [keyAllB, Bool.and_eq_true] at e
    cases h with
    | cons h1 h2 =>
      cases r with
      | cons r1 r2 => exact .cons (dn_rdn d _ _ h1 e.1 r1) (dn_rdns ds _ _ h2 e.2 r2)
theorem dn_rdnk : ∀ (ps : List (D × D)) (kvs : List (Key × V)) (us : List (Key × Value)), DnK X.K H Z kvs ps → keyKvB ps = true → KV kvs us → RdNs s.heap (us.map (·.2)) (ps.map (·.2))
  | [], _, _, h, _, r => by
    cases h
    cases r
    exact .nil
  | (k, d) :: ps, _, _, h, e, r => by
    rw [keyKvB, Bool.and_eq_true, Bool.and_eq_true] at e
    cases h with
    | cons h1 h2 =>
      cases r with
      | cons r1 r2 => exact .cons (dn_rdn d _ _ h1 e.2.1 r1.2) (dn_rdnk ps _ _ h2 e.2.2 r2)
end
theorem dr_rdn {pn : List Addr} {d : D} {v : V} {u : Value} (h : Dr X.K pn H Z v d) (e : keyB d = true) (r : RelV v u) : RdN s.heap u d := by
  rcases h with h | ⟨a, rfl, _, h⟩
  · exact dn_rdn I d v u h e r
  · cases (show u = Value.ref a from r)
    rcases h with ⟨xs, ds, rfl, h1, h2⟩ | ⟨xs, ps, rfl, h1, h2⟩ | ⟨xs, ps, rfl, h1, h2⟩
    · obtain ⟨its, rv, ⟨o, k, ho, hc, _, hd⟩, _⟩ := I.list (SqL.of h1)
      exact .lst ho hc hd (dn_rdns I ds _ its h2 (by simpa only [keyB] using e) rv)
    · exact dk_rdn I h1 (fun us rel => dn_rdnk I ps _ us h2 (by simpa only [keyB] using e) rel) (dnk_keys I h2)
    · obtain ⟨h2, ne⟩ := h2
      cases h2 with
      | nil => exact absurd rfl ne
      | cons _ _ => simp [keyB, keyKvB, isKeyB] at e
end
def rReprE (K : PySem.W.Frag) : List V → Hp → VK → Prop := fun xs H Q => ∃ v d pn Z, xs = [v] ∧ Dr K pn H Z v d ∧ keyB d = true ∧ d.showable = true ∧ d.shown.length ≤ sizeLine ∧ d.depth ≤ 64 ∧ Q (.str d.shown) H
theorem call_reprE (hg : X.A.guards = some []) (hr : Room j X.A) : CallR X (.builtin "repr") (fun xs H Q => rReprE X.K xs H Q ∧ ∃ a, xs = [.ref a]) := by
  intro pins s σ H xs us Q I r h
  obtain ⟨⟨v, d, pn, Z, rfl, h9, em, q2, q3, q4, q⟩, a, e⟩ := h
  injection e with e
  subst e
  obtain ⟨u, rfl, ru⟩ := vals1 r
  have hu : X.A.units + (d.depth + 1) < cLine := by have := hr.un; omega
  have rd := dr_rdn I h9 em ru
  cases (show u = Value.ref a from ru)
  exact repr_n rd q2 hg hu (fun h' u tk k => ⟨.str _, H, I.kept k, ⟨_, rfl⟩, q⟩) q3
theorem call_repr_Y (hg : X.A.guards = some []) (hr : Room j X.A) : CallR X (.builtin "repr") (rB X.K .repr) := by
  refine CallR.d fun xs H pn Z ds Q zt h q => ?_
  match ds, h, q with
  | [d], h, q =>
    obtain ⟨v, rfl, h9⟩ := arl1 h
    obtain ⟨⟨q1, q2, q3, q4⟩, q5⟩ := q
    by_cases e0 : d.hasDict = false
    · exact ⟨_, call_repr hg hr, v, d, rfl, h9.dp e0, e0, q2, q3, q4, q5 _ H (same_refl H) (.str _)⟩
    · have e := (repD_cases q1).resolve_left e0
      have ha : ∃ a, [v] = [V.ref a] := by
        rcases h9 with h | ⟨a, rfl, _⟩
        · cases h with
          | lst _ _ => exact ⟨_, rfl⟩
          | tup _ _ => exact ⟨_, rfl⟩
          | dk _ _ _ => exact ⟨_, rfl⟩
          | dt _ _ _ => exact ⟨_, rfl⟩
          | _ => exact absurd (by simp [PyData.hasDict]) e0
        · exact ⟨a, rfl⟩
      exact ⟨_, call_reprE hg hr, ⟨v, d, pn, Z, rfl, h9, e, q2, q3, q4, q5 _ H (same_refl H) (.str _)⟩, ha⟩
  | [], _, q | _ :: _ :: _, _, q => exact q.elim
theorem call_tint_Y : CallR X (.type "int") (rB X.K .int) := by
  refine CallR.d fun xs H pn Z ds Q zt h q => ?_
  match ds, h, q with
  | [.int i], h, q =>
    obtain ⟨v, rfl, h9⟩ := arl1 h
    rw [h9.int]
    exact ⟨_, call_int1, .inl ⟨i, rfl, q.2 _ H (same_refl H) (.int _)⟩⟩
  | [.bool i], h, q =>
    obtain ⟨v, rfl, h9⟩ := arl1 h
    rw [h9.bl]
    exact ⟨_, call_int1, .inr ⟨i, rfl, q.2 _ H (same_refl H) (.int _)⟩⟩
  | [.str i], h, q =>
    obtain ⟨v, rfl, h9⟩ := arl1 h
    rw [h9.str]
    simp only [btD] at q
    cases e : PySem.intText? i with
    | none => rw [e] at q; exact q.elim
    | some n =>
      rw [e] at q
      exact ⟨_, call_int_str, i, n, rfl, e, q.1, q.2 _ H (same_refl H) (.int _)⟩
  | [], _, q | [.none], _, q | [.list _], _, q | [.tuple _], _, q | [.dict _], _, q => exact q.elim
  | d :: _ :: _, _, q => cases d <;> exact q.elim
theorem call_tstr_Y : CallR X (.type "str") (rB X.K .str) := by
  refine CallR.d fun xs H pn Z ds Q zt h q => ?_
  match ds, h, q with
  | [.int i], h, q =>
    obtain ⟨v, rfl, h9⟩ := arl1 h
    rw [h9.int]
    exact ⟨_, call_str_int, i, rfl, q.1, q.2 _ H (same_refl H) (.str _)⟩
  | [], _, q | [.none], _, q | [.bool _], _, q | [.str _], _, q | [.list _], _, q | [.tuple _], _, q | [.dict _], _, q => exact q.elim
  | d :: _ :: _, _, q => cases d <;> exact q.elim
theorem signs_vals {z : Str} {acc : Array Value} (h : ItemsOf (SignAt z) acc z.cps.size) : Vals (z.cps.toList.map fun c => V.str ⟨#[c]⟩) acc.toList := by
  have go : ∀ (l : List Nat) (us : List Value), l.length = us.length → (∀ (i : Nat) (u : Value), us[i]? = some u → ∃ c t, l[i]? = some c ∧ u = .str ⟨#[c]⟩ t) → Vals (l.map fun c => V.str ⟨#[c]⟩) us := by
    intro l
    induction l with
    | nil => intro us e _; cases us with | nil => exact .nil | cons _ _ => cases e
    | cons c l ih =>
      intro us e q
      cases us with
      | nil => cases e
      | cons u us =>
        obtain ⟨c', t, e1, e2⟩ := q 0 u rfl
        have e1 : c' = c := (Option.some.inj e1).symm
        subst e1
        refine .cons ⟨t, e2⟩ (ih us (by simpa using e) fun i u hu => ?_)
        exact q (i + 1) u (by simpa using hu)
  refine go _ _ (by rw [Array.length_toList, Array.length_toList]; exact h.1.symm) fun i u hu => ?_
  obtain ⟨c, t, e1, e2⟩ := h.2 i u (by rw [← Array.getElem?_toList]; exact hu)
  exact ⟨c, t, by rw [Array.getElem?_toList]; exact e1, e2⟩
theorem sg_dn {K : PySem.W.Frag} {H : Hp} {Z : Addr → Prop} : ∀ l : List Nat, DnL K H Z (l.map fun c => V.str ⟨#[c]⟩) (l.map fun c => PyData.str ⟨#[c]⟩)
  | [] => .nil
  | c :: l => .cons (.str _) (sg_dn l)
theorem call_tstr_list (hc : X.calm = true) : CallR X (.type "list") (fun xs H Q => ∃ z : Str, xs = [.str z] ∧ z.length ≤ 4194304 ∧ ∀ l, H l = none → Q (.ref l) (upd H l (.lst (z.cps.toList.map fun c => V.str ⟨#[c]⟩)))) := by
  intro pins s σ H xs us Q I r h
  obtain ⟨z, rfl, hz, q⟩ := h
  obtain ⟨u, rfl, t, rfl⟩ := vals1 r
  have zl : z.cps.size ≤ 4194304 := hz
  have zs : z.cps.size ≤ sizeLine := by rw [sizeLine_eq]; omega
  refine call_list_str (I.ok.hd hc) z t (fun h' tk acc c' kp e ia => ?_) zs
  have r' := signs_vals ia
  have hl : (z.cps.toList.map fun c => V.str ⟨#[c]⟩).length ≤ sizeLine := by rw [List.length_map, Array.length_toList]; exact zs
  exact ⟨.ref s.heap.objs.size, _, I.laid kp (Nat.le_refl _) (show ObjOk X.prog X.w _ h' _ (.lst _) from ⟨hl, acc.toList, c', r', by rw [Array.toArray_toList]; exact e⟩), rfl, q _ (I.hok.fresh (Nat.le_refl _))⟩
theorem call_tstr_tup (hc : X.calm = true) : CallR X (.type "tuple") (fun xs H Q => ∃ z : Str, xs = [.str z] ∧ z.length ≤ 4194304 ∧ ∀ l, H l = none → Q (.ref l) (upd H l (.tup (z.cps.toList.map fun c => V.str ⟨#[c]⟩)))) := by
  intro pins s σ H xs us Q I r h
  obtain ⟨z, rfl, hz, q⟩ := h
  obtain ⟨u, rfl, t, rfl⟩ := vals1 r
  have zl : z.cps.size ≤ 4194304 := hz
  have zs : z.cps.size ≤ sizeLine := by rw [sizeLine_eq]; omega
  refine call_tuple_str (I.ok.hd hc) z t (fun h' tk acc kp ia => ?_) zs
  have r' := signs_vals ia
  have hl : (z.cps.toList.map fun c => V.str ⟨#[c]⟩).length ≤ sizeLine := by rw [List.length_map, Array.length_toList]; exact zs
  have I1 : Inv X pins σ H { s with heap := h', toks := tk } := I.kept (t' := tk) kp
  have I2 : Inv X pins σ (upd H h'.objs.size (.tup _)) { s with heap := h'.push { cls := .type "tuple", data := .seq acc.toList.toArray }, toks := tk } :=
    I1.laid (t' := tk) (fun b o e => Heap.get?_push_of_some _ e) (Nat.le_refl _) (show ObjOk X.prog X.w _ _ _ (.tup _) from ⟨hl, acc.toList, r', IsTup.new _ _⟩)
  rw [Array.toArray_toList] at I2
  exact ⟨.ref h'.objs.size, _, I2, rfl, q _ (I1.hok.fresh (Nat.le_refl _))⟩
theorem call_tlist_Y (hc : X.calm = true) : CallR X (.type "list") (rB X.K .list) := by
  refine CallR.d fun xs H pn Z ds Q zt h q => ?_
  match ds, h, q with
  | [.list ds], h, q =>
    obtain ⟨v, rfl, h9⟩ := arl1 h
    obtain ⟨a, ys, rfl, s1, n1⟩ := h9.list
    exact ⟨_, call_list_of, a, ys, rfl, .inl (SqL.of s1), fun p np => q.2 _ _ (M.same_upd np) (rx_lst np n1)⟩
  | [.tuple ds], h, q =>
    obtain ⟨v, rfl, h9⟩ := arl1 h
    obtain ⟨a, ys, rfl, s1, n1⟩ := h9.tup
    exact ⟨_, call_list_of, a, ys, rfl, .inr s1.sq, fun p np => q.2 _ _ (M.same_upd np) (rx_lst np n1)⟩
  | [.str z], h, q =>
    obtain ⟨v, rfl, h9⟩ := arl1 h
    rw [h9.str]
    exact ⟨_, call_tstr_list hc, z, rfl, q.1, fun p np => q.2 _ _ (M.same_upd np) (rx_lst np (sg_dn _))⟩
  | [], _, q | [.none], _, q | [.bool _], _, q | [.int _], _, q | [.dict _], _, q => exact q.elim
  | d :: _ :: _, _, q => cases d <;> exact q.elim
theorem call_ttuple_Y (hc : X.calm = true) : CallR X (.type "tuple") (rB X.K .tuple) := by
  refine CallR.d fun xs H pn Z ds Q zt h q => ?_
  match ds, h, q with
  | [.list ds], h, q =>
    obtain ⟨v, rfl, h9⟩ := arl1 h
    obtain ⟨a, ys, rfl, s1, n1⟩ := h9.list
    exact ⟨_, call_tuple_of, a, ys, rfl, .inl ⟨SqL.of s1, fun p np => q.2 _ _ (M.same_upd np) (rx_tup zt np n1)⟩⟩
  | [.tuple ds], h, q =>
    obtain ⟨v, rfl, h9⟩ := arl1 h
    obtain ⟨a, ys, rfl, s1, n1⟩ := h9.tup
    exact ⟨_, call_tuple_of, a, ys, rfl, .inr ⟨s1.sq, q.2 _ _ (same_refl H) (.tup s1 n1)⟩⟩
  | [.str z], h, q =>
    obtain ⟨v, rfl, h9⟩ := arl1 h
    rw [h9.str]
    exact ⟨_, call_tstr_tup hc, z, rfl, q.1, fun p np => q.2 _ _ (M.same_upd np) (rx_tup zt np (sg_dn _))⟩
  | [], _, q | [.none], _, q | [.bool _], _, q | [.int _], _, q | [.dict _], _, q => exact q.elim
  | d :: _ :: _, _, q => cases d <;> exact q.elim
theorem call_none_Y {f : Value} {b : Bt} (h : ∀ ds, btD b ds = none) : CallR X f (rB X.K b) := CallR.d fun xs H pn Z ds Q zt h1 q => by rw [h] at q; exact q.elim
def plainB : Bt → Bool | .isi _ => false | _ => true
theorem call_Y (hc : X.calm = true) (hg : X.A.guards = some []) (hr : Room j X.A) : ∀ b : Bt, plainB b = true → CallR X (bval b) (rB X.K b)
  | .len, _ => call_len_Y
  | .abs, _ => call_int1_Y (gv := fun i => .int (if i < 0 then -i else i)) (fun _ => rfl) (fun ds => by rcases ds with _ | ⟨d, _ | _⟩ <;> first | exact .inl rfl | (cases d <;> first | exact .inl rfl | exact .inr ⟨_, rfl⟩)) (fun _ _ _ => .int _) call_abs
  | .min2, _ => call_int2_Y (fun _ _ => rfl) (fun ds => by rcases ds with _ | ⟨d, _ | ⟨e, _ | _⟩⟩ <;> first | exact .inl rfl | (cases d <;> first | exact .inl rfl | (cases e <;> first | exact .inl rfl | exact .inr ⟨_, _, rfl⟩))) (call_min2 hc)
  | .max2, _ => call_int2_Y (fun _ _ => rfl) (fun ds => by rcases ds with _ | ⟨d, _ | ⟨e, _ | _⟩⟩ <;> first | exact .inl rfl | (cases d <;> first | exact .inl rfl | (cases e <;> first | exact .inl rfl | exact .inr ⟨_, _, rfl⟩))) (call_max2 hc)
  | .sum, _ => call_sum_Y hc
  | .any, _ => call_any_Y hc
  | .all, _ => call_all_Y hc
  | .repr, _ => call_repr_Y hg hr
  | .int, _ => call_tint_Y
  | .str, _ => call_tstr_Y
  | .list, _ => call_tlist_Y hc
  | .tuple, _ => call_ttuple_Y hc
  | .max1, _ => call_max1_Y hc
  | .min1, _ => call_min1_Y hc
  | .sorted, _ | .bool, _ => call_none_Y fun ds => by rcases ds with _ | ⟨d, _ | _⟩ <;> first | rfl | (cases d <;> rfl)
  | .isi _, h => nomatch h
theorem tA_call {cs : Nat} {ws : En → (List D → Prop) → Prop} (ms : MonoL ws) {b : Bt} {σ : L2.St} {H : Hp} {Q : VK} (h : tX X.K xw (cs) (fun ρ Q => ws ρ fun ds => (btD b ds).to Q) σ H Q) : tCB (rB X.K b) (tA X.K xw false cs ws) σ H Q := by
  obtain ⟨H0, B, pn, fr, ρ, Z, tb, ok, w⟩ := h
  refine ⟨H0, B, pn, fr, ρ, Z, tb, ok, ms _ _ _ (fun ds q vs H1 s1 r1 => ?_) w⟩
  exact ⟨pn, Z, ds, (ok.to s1).zt, r1, Rz.mono (fun r k z v H' s rx => z v H' (s1.trans ((ok.to s1).ss s)) (rx.back s1)) q⟩
theorem y_bt {cs : Nat} (hc : X.calm = true) (hg : X.A.guards = some []) (hr : Room j X.A) {b : Bt} (hb : plainB b = true) {x : Str} {p pos : Pos} {e : Expr} {es : List Expr} {ws : En → (List D → Prop) → Prop} (gl : Gl X x) (hm : X.mg x = none) (hv : bootBuiltins x = some (bval b)) (hn : x ≠ "__name__")
    (hd : (x == ("__debug__" : Str)) = false) (he : starEach (e :: es) X.env = (false, eval e X.env) :: starEach es X.env) (hpl : (backTo pos (starEach es X.env)).any (·.1) = false) (ms : MonoL ws) (h : PA X (e :: es) (tA X.K xw false cs ws)) :
    PE X (.Call (.Name x p) (e :: es) [] pos) (tX X.K xw (cs) fun ρ Q => ws ρ fun ds => (btD b ds).to Q) := by
  have cr := call_Y hc hg hr b hb
  cases b <;> first
    | (simp [plainB] at hb; done)
    | exact (pe_callB cr gl hm hv h hn hd he hpl).weak fun _ _ _ z => tA_call ms z
    | exact (pe_callTy cr gl hm hv h hn hd he hpl).weak fun _ _ _ z => tA_call ms z
/-- isinstance(e, T) -/
theorem kitB_D : ∀ t ∈ kindsD, ∀ n ∈ ["NoneType", "bool", "int", "str", "list", "tuple", "dict"], kitB n t = some (n == t || (t == "int" && n == "bool")) := by decide +kernel
theorem tyD_mem (d : D) : tyD d ∈ ["NoneType", "bool", "int", "str", "list", "tuple", "dict"] := by cases d <;> simp [tyD]
theorem dr_ty {K : PySem.W.Frag} {pn : List Addr} {H : Hp} {Z : Addr → Prop} {v : V} {d : D} (h : Dr K pn H Z v d) : TyX K H v (.type (tyD d)) := by
  cases d with
  | none => rw [h.non]; exact .base .non
  | bool b => rw [h.bl]; exact .base (.bl _)
  | int b => rw [h.int]; exact .base (.int _)
  | str b => rw [h.str]; exact .base (.str _)
  | list b => obtain ⟨a, xs, rfl, s1, _⟩ := h.list; exact .base (.lst s1)
  | tuple b =>
    obtain ⟨a, xs, rfl, s1, _⟩ := h.tup
    rcases s1 with ⟨_, s1 | ⟨o, s1⟩⟩ | ⟨o, its, n, s1, s2, _⟩
    · exact .base (.tup s1)
    · exact .fTuple s1
    · exact .kTuple s1 s2
  | dict b =>
    rcases h with h | ⟨a, rfl, _, ⟨_, _, e, _⟩ | ⟨kvs, ps, e, h1, _⟩ | ⟨kvs, ps, e, h1, _⟩⟩
    · cases h with
      | dk n r a => exact .base (.dK r)
      | dt n r a => exact .base (.dT r)
    · cases e
    · exact .base (.dK h1)
    · exact .base (.dT h1)
theorem y_isi {ca : Nat} {t : String} {ty : Str} {p pos p2 : Pos} {e : Expr} {wa : En → VQ → Prop} (ht : t ∈ kindsD) (gl : Gl X "isinstance") (hm : X.mg "isinstance" = none) (hc2 : PE X (.Name ty p2) (tC (.ty t)))
    (he : starEach [e, .Name ty p2] X.env = (false, eval e X.env) :: starEach [.Name ty p2] X.env) (ma : MonoW wa) (h : PE X e (tX X.K xw ca wa)) :
    PE X (.Call (.Name "isinstance" p) [e, .Name ty p2] [] pos) (tX X.K xw (ca) fun ρ Q => wa ρ fun x _ => (btD (.isi t) [x]).to Q) := by
  refine (pe_callB call_isi gl hm (by decide +kernel) (pa_cons h (pa_cons hc2 pa_nil) he) (he := he)).weak fun σ H Q ⟨H0, B, pn, fr, ρ, Z, tb, ok, w⟩ => ?_
  refine ⟨H0, B, pn, fr, ρ, Z, tb, ok, ma _ _ _ (fun d k q x H1 s1 r1 => ?_) w⟩
  exact ⟨x, .ty t, _, _, _, rfl, .ty t, dr_ty (r1.dr ok.pnt), kit_ty (kitB_D t ht _ (tyD_mem d)), q.2 _ H1 s1 (.bl _)⟩
end
end Y

namespace L2
open PySem PySem.Spec PyProof.Rows
theorem PI.weak {X : Cx} {tg it : Expr} {t t' : TI} (h : PI X tg it t) (w : ∀ σ H R, t' σ H R → t σ H R) : PI X tg it t' := ⟨fun pins s σ H R I q => h.run pins s σ H R I (w σ H R q)⟩
end L2
namespace Y
open PySem PySem.Spec PyProof.Rows L2 M
/-! ### slots stored -/
section
variable {K : PySem.W.Frag} {xw : Xw} {H0 H H' : Hp} {B Z : Addr → Prop} {pn : List Addr} {tb tb2 : Nat} {fr : Fx} {σ : L2.St} {ρ : En}
theorem getset {α : Type} {l : List α} {i j : Nat} {x y : α} (h : (l.set i x)[j]? = some y) : (i = j ∧ y = x ∧ i < l.length) ∨ (i ≠ j ∧ l[j]? = some y) := by
  by_cases e : i = j
  · subst e
    by_cases hl : i < l.length
    · rw [List.getElem?_set_self hl] at h
      exact .inl ⟨rfl, (Option.some.inj h).symm, hl⟩
    · rw [List.getElem?_eq_none (by simpa using hl)] at h
      cases h
  · rw [List.getElem?_set_ne e] at h
    exact .inr ⟨e, h⟩
/-- a slot gets something that is not own -/
theorem EnvOk.put (ok : EnvOk K xw H0 B pn fr Z tb σ ρ H) (i : Nat) (ov : Option V) (s : Sl) (hs : SlOk K xw H0 H Z pn (some ov) s) (no : ∀ d, s ≠ .own d) (nb : ∀ nm fs, s ≠ .obj nm fs) : EnvOk K xw H0 B pn fr Z tb (σ.set i ov) (ρ.set i s) H := by
  refine ⟨ok.xo, ok.step, ok.zt, ok.bz, ok.zb, ok.kn, ok.bt, ok.pz, by simpa using ok.len, fun j t e => ?_, fun j k d e a h1 h2 h3 h4 => ?_, ok.fr, fun j C fs e => ?_⟩
  rotate_left 2
  · rcases getset e with ⟨_, z, _⟩ | ⟨ne, e⟩
    · exact absurd z.symm (nb C fs)
    · rw [List.getElem?_set_ne ne]
      refine ⟨(ok.ob j C fs e).1, (ok.ob j C fs e).2.keep (fun _ _ _ e => e) (fun _ z => .inl z) (fun b o h1 h2 _ h4 => ⟨h1, h2, h4⟩) fun b _ ⟨l, e1, h1, h2⟩ => ?_⟩
      rcases getset h1 with ⟨_, z, _⟩ | ⟨nl, h1⟩
      · exact absurd z.symm (no e1)
      · rw [List.getElem?_set_ne nl] at h2
        exact ⟨l, e1, h1, h2⟩
  · rcases getset e with ⟨rfl, rfl, hl⟩ | ⟨ne, e⟩
    · rw [List.getElem?_set_self (by rw [← ok.len]; exact hl)]
      exact hs
    · rw [List.getElem?_set_ne ne]
      exact ok.sl j t e
  · rcases getset h1 with ⟨_, z, _⟩ | ⟨n1, h1⟩
    · exact absurd z.symm (no d)
    · rcases getset h2 with ⟨_, z, _⟩ | ⟨n2, h2⟩
      · exact absurd z.symm (no e)
      · rw [List.getElem?_set_ne n1] at h3
        rw [List.getElem?_set_ne n2] at h4
        exact ok.inj j k d e a h1 h2 h3 h4
theorem EnvOk.val (ok : EnvOk K xw H0 B pn fr Z tb σ ρ H) (i : Nat) {v : V} {d : D} (h : Dn K H Z v d) : EnvOk K xw H0 B pn fr Z tb (σ.set i (some v)) (ρ.set i (.val d)) H :=
  ok.put i (some v) (.val d) ⟨v, rfl, h⟩ (fun _ z => nomatch z) fun _ _ z => nomatch z
theorem EnvOk.emp (ok : EnvOk K xw H0 B pn fr Z tb σ ρ H) (i : Nat) : EnvOk K xw H0 B pn fr Z tb (σ.set i none) (ρ.set i .emp) H := ok.put i none .emp trivial (fun _ z => nomatch z) fun _ _ z => nomatch z
theorem EnvOk.wipe (ok : EnvOk K xw H0 B pn fr Z tb σ ρ H) : ∀ vs : List Nat, EnvOk K xw H0 B pn fr Z tb (L2.wipe σ vs) (wipeE ρ vs) H
  | [] => ok
  | v :: vs => (EnvOk.wipe ok vs).emp v
theorem wipe_set {σ : L2.St} {i : Nat} {x : Option V} : ∀ {vs : List Nat}, i ∈ vs → L2.wipe (σ.set i x) vs = L2.wipe σ vs
  | [], h => by cases h
  | v :: vs, h => by
    unfold L2.wipe
    by_cases e : i ∈ vs
    · rw [wipe_set e]
    · have ev : i = v := by
        rcases List.mem_cons.mp h with z | z
        · exact z
        · exact absurd z e
      subst ev
      have : L2.wipe (σ.set i x) vs = (L2.wipe σ vs).set i x := by
        clear h
        induction vs with
        | nil => rfl
        | cons w ws ih =>
          simp only [List.mem_cons, not_or] at e
          unfold L2.wipe
          rw [ih e.2, List.set_comm _ _ e.1]
      rw [this, List.set_set]
theorem wipe_idem {σ : L2.St} {vs : List Nat} : L2.wipe (L2.wipe σ vs) vs = L2.wipe σ vs := by
  have go : ∀ ws : List Nat, (∀ w ∈ ws, w ∈ vs) → L2.wipe (L2.wipe σ ws) vs = L2.wipe σ vs := by
    intro ws
    induction ws with
    | nil => intro _; rfl
    | cons w ws ih =>
      intro h
      show L2.wipe ((L2.wipe σ ws).set w none) vs = _
      rw [wipe_set (h w List.mem_cons_self)]
      exact ih fun x hx => h x (List.mem_cons_of_mem _ hx)
  exact go vs fun _ h => h
def gTu (K : PySem.W.Frag) (n : Nat) (t : TGs) : TG := fun v σ H Q => gTup K n t v σ H Q ∨ gUnl K n t v σ H Q
theorem pg_tu {X : Cx} {es : List Expr} {k : Nat} {pos : Pos} {t : TGs} {n : Nat} (hc : X.calm = true) (h : PGs X es t) (hn : (assignEach es X.env).length = n) (hst : (assignEach es X.env).findIdx? (·.1) = none) : PG X (.Tuple es k pos) (gTu X.K n t) :=
  ⟨fun pins s σ H v u Q I r hw => hw.elim (fun z => (pg_tup hc h hn hst).run pins s σ H v u Q I r z) (fun z => (pg_unl hc h hn hst).run pins s σ H v u Q I r z)⟩
mutual
def gT (K : PySem.W.Frag) : Tg → TG
  | .nm i => gName i
  | .tp ts => gTu K ts.len (gTs K ts)
def gTs (K : PySem.W.Frag) : Tgs → TGs
  | .nil => gNil
  | .cons t ts => gCons (gT K t) (gTs K ts)
end
theorem setTgs_len : ∀ (ts : Tgs) (ds : List D) (ρ ρ' : En), setTgs ts ds ρ = some ρ' → ds.length = ts.len
  | .nil, [], _, _, _ => rfl
  | .nil, _ :: _, _, _, e => by simp only [setTgs] at e; cases e
  | .cons _ _, [], _, _, e => by simp only [setTgs] at e; cases e
  | .cons t ts, d :: ds, ρ, ρ', e => by
    simp only [setTgs] at e
    split at e
    · simp [Tgs.len, setTgs_len ts ds _ ρ' e]
    · cases e
mutual
theorem tg_okV : ∀ (t : Tg) (vs : List Nat) (d : D) (x : V) (σ : L2.St) (ρ ρ' : En) (Q : L2.St → Hp → Prop), (∀ i ∈ t.ixs, i ∈ vs) → EnvOk K xw H0 B pn fr Z tb σ ρ H → setTg t d ρ = some ρ' → Dn K H Z x d →
    (∀ σ', EnvOk K xw H0 B pn fr Z tb σ' ρ' H → L2.wipe σ' vs = L2.wipe σ vs → Q σ' H) → gT K t x σ H Q
  | .nm i, vs, d, x, σ, ρ, ρ', Q, hi, ok, e, n, q => by
    simp only [setTg, Option.some.injEq] at e
    subst e
    simp only [gT]
    exact q _ (ok.val i n) (wipe_set (hi i (by simp [Tg.ixs])))
  | .tp ts, vs, d, x, σ, ρ, ρ', Q, hi, ok, e, n, q => by
    cases d with
    | tuple ds =>
      simp only [setTg] at e
      cases n with
      | tup s a =>
        simp only [gT]
        refine .inl ⟨_, _, rfl, s.sq, ?_, ?_⟩
        · rw [a.length]; exact setTgs_len ts ds ρ ρ' e
        · exact tgs_okV ts vs ds _ σ ρ ρ' Q (fun i h => hi i (by simpa only [Tg.ixs] using h)) ok e a q
    | list ds =>
      simp only [setTg] at e
      cases n with
      | lst s a =>
        simp only [gT]
        refine .inr ⟨_, _, rfl, SqL.of s.2, ?_, ?_⟩
        · rw [a.length]; exact setTgs_len ts ds ρ ρ' e
        · exact tgs_okV ts vs ds _ σ ρ ρ' Q (fun i h => hi i (by simpa only [Tg.ixs] using h)) ok e a q
    | _ => simp only [setTg] at e; cases e
theorem tgs_okV : ∀ (ts : Tgs) (vs : List Nat) (ds : List D) (xs : List V) (σ : L2.St) (ρ ρ' : En) (Q : L2.St → Hp → Prop), (∀ i ∈ ts.ixs, i ∈ vs) → EnvOk K xw H0 B pn fr Z tb σ ρ H → setTgs ts ds ρ = some ρ' → DnL K H Z xs ds →
    (∀ σ', EnvOk K xw H0 B pn fr Z tb σ' ρ' H → L2.wipe σ' vs = L2.wipe σ vs → Q σ' H) → gTs K ts xs σ H Q
  | .nil, vs, [], xs, σ, ρ, ρ', Q, hi, ok, e, n, q => by
    cases n
    simp only [setTgs, Option.some.injEq] at e
    subst e
    simp only [gTs]
    exact ⟨rfl, q σ ok rfl⟩
  | .nil, vs, _ :: _, xs, σ, ρ, ρ', Q, hi, ok, e, n, q => by simp only [setTgs] at e; cases e
  | .cons _ _, vs, [], xs, σ, ρ, ρ', Q, hi, ok, e, n, q => by simp only [setTgs] at e; cases e
  | .cons t ts, vs, d :: ds, xs, σ, ρ, ρ', Q, hi, ok, e, n, q => by
    cases n with
    | cons a b =>
      simp only [setTgs] at e
      split at e
      · rename_i ρ1 e1
        simp only [gTs]
        refine ⟨_, _, rfl, ?_⟩
        refine tg_okV t vs d _ σ ρ ρ1 _ (fun i h => hi i (by simp only [Tgs.ixs, List.mem_append]; exact .inl h)) ok e1 a fun σ1 ok1 w1 => ?_
        exact tgs_okV ts vs ds _ σ1 ρ1 ρ' Q (fun i h => hi i (by simp only [Tgs.ixs, List.mem_append]; exact .inr h)) ok1 e b fun σ' ok' w => q σ' ok' (w.trans w1)
      · cases e
end
theorem tg_ok {t : Tg} {d : D} {x : V} {ρ' : En} {Q : L2.St → Hp → Prop} (ok : EnvOk K xw H0 B pn fr Z tb σ ρ H) (e : setTg t d ρ = some ρ') (n : Dn K H Z x d)
    (q : ∀ σ', EnvOk K xw H0 B pn fr Z tb σ' ρ' H → L2.wipe σ' t.ixs = L2.wipe σ t.ixs → Q σ' H) : gT K t x σ H Q := tg_okV t t.ixs d x σ ρ ρ' Q (fun _ h => h) ok e n q
end
/-! ### iterators -/
def JOk (K : PySem.W.Frag) (pn : List Addr) (J : It) (fv : List (V × D)) (ds : List D) : Prop :=
  ∀ (H : Hp) (Z : Addr → Prop) (i : Nat), (∀ a, Z a → H a ≠ none) → (∀ p ∈ fv, Dr K pn H Z p.1 p.2) →
    (i = ds.length → J.stop i H) ∧ (i < ds.length → J.go i H ∧ ∀ x H2, J.yld i H x H2 → Same H H2 ∧ ∃ d, ds[i]? = some d ∧ Dn K H2 Z x d)
def tI (K : PySem.W.Frag) (xw : Xw) (nb : Bool) (c : Nat) (w : En → (List D → Prop) → Prop) : TI := fun σ H R => ∃ H0 B pn fr ρ Z tb, EnvOk K xw H0 B pn fr Z (c + tb) σ ρ H ∧
  w ρ fun ds => ∀ J H' fv, HStep tb pn H H' → (∀ p ∈ fv, Dr K pn H' Z p.1 p.2 ∧ (nb = true → Dn K H' Z p.1 p.2)) → JOk K pn J fv ds → R J H'
section
variable {X : Cx} {xw : Xw}
theorem jok_list {K : PySem.W.Frag} {pn : List Addr} {a : Addr} {ds : List D} : JOk K pn (Itl K a) [(.ref a, .list ds)] ds := by
  intro H Z i zt h
  obtain ⟨b, xs, e, s, n⟩ := (h _ List.mem_cons_self).list
  cases e
  have l := n.length
  refine ⟨fun e => ⟨xs, SqL.of s, by omega⟩, fun hi => ?_⟩
  obtain ⟨d, hd⟩ : ∃ d, ds[i]? = some d := ⟨ds[i], by simp [hi]⟩
  obtain ⟨x, hx, dn⟩ := n.get hd
  refine ⟨⟨xs, x, SqL.of s, hx⟩, fun y H2 hy => ?_⟩
  obtain ⟨rfl, hy⟩ := hy
  have := hy xs (SqL.of s)
  rw [hx] at this
  cases this
  exact ⟨same_refl _, d, hd, dn⟩
theorem jok_tup {K : PySem.W.Frag} {pn : List Addr} {a : Addr} {ds : List D} : JOk K pn (Itt K a) [(.ref a, .tuple ds)] ds := by
  intro H Z i zt h
  obtain ⟨b, xs, e, s, n⟩ := (h _ List.mem_cons_self).tup
  cases e
  have l := n.length
  refine ⟨fun e => ⟨xs, s.sq, by omega⟩, fun hi => ?_⟩
  obtain ⟨d, hd⟩ : ∃ d, ds[i]? = some d := ⟨ds[i], by simp [hi]⟩
  obtain ⟨x, hx, dn⟩ := n.get hd
  refine ⟨⟨xs, x, s.sq, hx⟩, fun y H2 hy => ?_⟩
  obtain ⟨rfl, hy⟩ := hy
  have := hy xs s.sq
  rw [hx] at this
  cases this
  exact ⟨same_refl _, d, hd, dn⟩
theorem jok_str {K : PySem.W.Frag} {pn : List Addr} {z : Str} {fv : List (V × D)} : JOk K pn (Its z) fv (z.cps.toList.map fun c => .str ⟨#[c]⟩) := by
  intro H Z i zt h
  refine ⟨fun e => ?_, fun hi => ⟨?_, fun y H2 hy => ?_⟩⟩
  · show z.cps.size ≤ i
    simp at e; omega
  · show i < z.cps.size
    simpa using hi
  · obtain ⟨rfl, c, hc, rfl⟩ := hy
    exact ⟨same_refl _, .str ⟨#[c]⟩, by simp [hc], .str _⟩
theorem rng_len (lo : Int) : ∀ n : Nat, (rng lo n).length = n
  | 0 => rfl
  | n + 1 => by simp [rng, rng_len (lo + 1) n]
theorem rng_get : ∀ (n i : Nat) (lo : Int), i < n → (rng lo n)[i]? = some (.int (lo + i))
  | 0, _, _, h => absurd h (Nat.not_lt_zero _)
  | n + 1, 0, lo, _ => by simp [rng]
  | n + 1, i + 1, lo, h => by
    show (rng (lo + 1) n)[i]? = _
    rw [rng_get n i (lo + 1) (by omega)]
    congr 2
    omega
theorem jok_rng {K : PySem.W.Frag} {pn : List Addr} {lo : Int} {n : Nat} {fv : List (V × D)} : JOk K pn (Itr lo n) fv (rng lo n) := by
  intro H Z i zt h
  rw [rng_len]
  refine ⟨fun e => ?_, fun hi => ⟨hi, fun y H2 hy => ?_⟩⟩
  · show n ≤ i
    omega
  · obtain ⟨rfl, rfl⟩ := hy
    exact ⟨same_refl _, _, rng_get n i lo hi, .int _⟩
theorem enum_get (ds : List D) (i : Nat) (d : D) (h : ds[i]? = some d) : (enumL ds)[i]? = some (.tuple [.int i, d]) := by
  unfold enumL
  rw [List.getElem?_map, List.getElem?_zipIdx, h]
  simp
theorem enum_len (ds : List D) : (enumL ds).length = ds.length := by simp [enumL]
theorem new_pair {K : PySem.W.Frag} {H : Hp} {Z : Addr → Prop} {T : Addr} {x y : V} {d e : D} (zt : ∀ a, Z a → H a ≠ none) (hT : H T = none) (h1 : Dn K H Z x d) (h2 : Dn K H Z y e) : Dn K (upd H T (.tup [x, y])) Z (.ref T) (.tuple [d, e]) :=
  .tup (.inl ⟨fun z => zt T z hT, .inl upd_same⟩) (.cons (h1.same (M.same_upd hT)) (.cons (h2.same (M.same_upd hT)) .nil))
theorem jok_enum {K : PySem.W.Frag} {pn : List Addr} {a : Addr} {ds : List D} : JOk K pn (Ite K a) [(.ref a, .list ds)] (enumL ds) := by
  intro H Z i zt h
  obtain ⟨b, xs, e, s, n⟩ := (h _ List.mem_cons_self).list
  cases e
  have l := n.length
  rw [enum_len]
  refine ⟨fun e => ⟨xs, SqL.of s, by omega⟩, fun hi => ?_⟩
  obtain ⟨d, hd⟩ : ∃ d, ds[i]? = some d := ⟨ds[i], by simp [hi]⟩
  obtain ⟨x, hx, dn⟩ := n.get hd
  refine ⟨⟨xs, x, SqL.of s, hx⟩, fun y H2 hy => ?_⟩
  obtain ⟨T, x', rfl, hT, rfl, hy⟩ := hy
  have := hy xs (SqL.of s)
  rw [hx] at this
  cases this
  exact ⟨M.same_upd hT, _, enum_get ds i d hd, new_pair zt hT (.int _) dn⟩
theorem zip_get (ds es : List D) (i : Nat) (d e : D) (h : ds[i]? = some d) (h' : es[i]? = some e) : (zipL ds es)[i]? = some (.tuple [d, e]) := by
  unfold zipL
  rw [List.getElem?_map, (List.getElem?_zip_eq_some (z := (d, e))).mpr ⟨h, h'⟩]
  rfl
theorem zip_len (ds es : List D) : (zipL ds es).length = min ds.length es.length := by simp [zipL]
theorem jok_zip {K : PySem.W.Frag} {pn : List Addr} {a b : Addr} {ds es : List D} : JOk K pn (Itz K a b) [(.ref a, .list ds), (.ref b, .list es)] (zipL ds es) := by
  intro H Z i zt h
  obtain ⟨_, xs, e, s, n⟩ := (h _ List.mem_cons_self).list
  cases e
  obtain ⟨_, ys, e, s', n'⟩ := (h _ (List.mem_cons_of_mem _ List.mem_cons_self)).list
  cases e
  have l := n.length
  have l' := n'.length
  rw [zip_len]
  refine ⟨fun e => ⟨xs, ys, SqL.of s, SqL.of s', by omega⟩, fun hi => ?_⟩
  obtain ⟨d, hd⟩ : ∃ d, ds[i]? = some d := ⟨ds[i]'(by omega), by simp [show i < ds.length by omega]⟩
  obtain ⟨d', hd'⟩ : ∃ d, es[i]? = some d := ⟨es[i]'(by omega), by simp [show i < es.length by omega]⟩
  obtain ⟨x, hx, dn⟩ := n.get hd
  obtain ⟨x', hx', dn'⟩ := n'.get hd'
  refine ⟨⟨xs, ys, x, x', SqL.of s, SqL.of s', hx, hx'⟩, fun y H2 hy => ?_⟩
  obtain ⟨T, u, u', rfl, hT, rfl, hy, hy'⟩ := hy
  have e1 := hy xs (SqL.of s)
  rw [hx] at e1
  cases e1
  have e2 := hy' ys (SqL.of s')
  rw [hx'] at e2
  cases e2
  exact ⟨M.same_upd hT, _, zip_get ds es i d d' hd hd', new_pair zt hT dn dn'⟩
/-- iter(x), by the value -/
theorem it_items {pins : List (Addr × Obj)} {σ : L2.St} {H : Hp} {s : Shared} {tg : Expr} {R : It → Hp → Prop} {pn : List Addr} {Z : Addr → Prop} {v : V} {u : Value} {d : D} {ds : List D} (I : Inv X pins σ H s) (rv : RelV v u) (h : Dr X.K pn H Z v d) (e : itemsD d = some ds)
    (q : ∀ J, JOk X.K pn J [(v, d)] ds → R J H) : wpAny (model X.prog X.w) X.A (pyIter u) (PIE X pins σ tg R) X.xe s := by
  cases d with
  | list ds' =>
    cases e
    obtain ⟨a, xs, rfl, s1, n1⟩ := h.list
    cases rv
    obtain ⟨its, rv, p, hz⟩ := I.list (SqL.of s1)
    refine wpAny_pyIter_list p.isList ?_
    refine ⟨s.heap.objs.size, [s.heap.objs.size], _, _, H, rfl, I.kept (t' := s.toks) fun b o e => Heap.get?_push_of_some _ e, turn_list a _, ⟨_, Heap.get?_push_size _ rfl, rfl, rfl⟩, fun b hb => ?_, q _ jok_list⟩
    have e : b = s.heap.objs.size := by simpa using hb
    subst e
    exact I.fpOk (Nat.le_refl _) (I.hok.fresh (Nat.le_refl _))
  | tuple ds' =>
    cases e
    obtain ⟨a, xs, rfl, s1, n1⟩ := h.tup
    cases rv
    obtain ⟨its, rv, p, hz⟩ := I.tuple s1.sq
    refine wpAny_pyIter_tuple (show s.heap.IsTuple a its.toArray from p) ?_
    refine ⟨s.heap.objs.size, [s.heap.objs.size], _, _, H, rfl, I.kept (t' := s.toks) fun b o e => Heap.get?_push_of_some _ e, turn_tuple a _, ⟨_, Heap.get?_push_size _ rfl, rfl, rfl⟩, fun b hb => ?_, q _ jok_tup⟩
    have e : b = s.heap.objs.size := by simpa using hb
    subst e
    exact I.fpOk (Nat.le_refl _) (I.hok.fresh (Nat.le_refl _))
  | str z =>
    cases e
    rw [h.str] at rv q
    obtain ⟨t, rfl⟩ := rv
    cases ha : z.cps.all (· < 128)
    · exact wpAny_pyIter_wide ha (pi_one (tk := s.toks) I _ (turn_str _ z t "str_iterator" (.inr rfl)) ⟨_, Heap.get?_push_size _ rfl, rfl, rfl⟩ (q _ jok_str))
    · exact wpAny_pyIter_ascii ha (pi_one (tk := s.toks) I _ (turn_str _ z t "str_ascii_iterator" (.inl rfl)) ⟨_, Heap.get?_push_size _ rfl, rfl, rfl⟩ (q _ jok_str))
  | _ => cases e
/-- e walked over; nb: nothing borrowed -/
theorem i_over {ca : Nat} {tg e : Expr} {wa : En → VQ → Prop} {nb : Bool} (ma : MonoW wa) (hb : nb = true → ∀ ρ Q, wa ρ Q → wa ρ fun d k => k ≠ .bor ∧ Q d k) (h : PE X e (tX X.K xw ca wa)) :
    PI X tg e (tI X.K xw nb (ca) fun ρ Q => wa ρ fun x _ => match itemsD x with | some ds => Q ds | none => False) := by
  refine ⟨fun pins s σ H R I ⟨H0, B, pn, fr, ρ, Z, tb, ok, w⟩ => ?_⟩
  have w' : wa ρ fun x k => (nb = true → k ≠ .bor) ∧ match itemsD x with | some ds => ∀ J H' fv, HStep tb pn H H' → (∀ p ∈ fv, Dr X.K pn H' Z p.1 p.2 ∧ (nb = true → Dn X.K H' Z p.1 p.2)) → JOk X.K pn J fv ds → R J H' | none => False := by
    cases nb with
    | true => exact ma _ _ _ (fun d k q => ⟨fun _ => q.1, q.2⟩) (hb rfl _ _ w)
    | false => exact ma _ _ _ (fun d k q => ⟨(fun z => nomatch z), q⟩) w
  refine thn (h.run pins s σ H (fun v H1 => ∃ d, Dr X.K pn H1 Z v d ∧ ∃ ds, itemsD d = some ds ∧ ∀ J, JOk X.K pn J [(v, d)] ds → R J H1) I ⟨H0, B, pn, fr, ρ, Z, tb, ok, ma _ _ _ (fun d k q v H1 s1 r1 => ?_) w'⟩) fun u s1 ⟨v, H1, I1, rv, d, hd, ds, e1, q⟩ => it_items I1 rv hd e1 q
  have hd := r1.dr ok.pnt
  refine ⟨d, hd, ?_⟩
  obtain ⟨q1, q2⟩ := q
  split at q2
  · rename_i ds e1
    refine ⟨ds, e1, fun J hJ => q2 J H1 [(v, d)] s1 (fun p hp => ?_) hJ⟩
    have ep : p = (v, d) := by simpa using hp
    subst ep
    exact ⟨hd, fun z => r1.dn (q1 z) ok.zt⟩
  · exact q2.elim
theorem arF1 {K : PySem.W.Frag} {pn : List Addr} {H : Hp} {Z : Addr → Prop} {vs : List V} {ds : List D} {d : D} (h : tA.ArL K false pn H Z vs ds) (e : ds = [d]) : ∃ v, vs = [v] ∧ Dr K pn H Z v d := by
  subst e
  exact arl1 h
/-- one argument -/
theorem a_one {ca : Nat} {e : Expr} {wa : En → VQ → Prop} (hs : starEach [e] X.env = [(false, eval e X.env)]) (ma : MonoW wa) (ha : PE X e (tX X.K xw ca wa)) : PA X [e] (tCons (tX X.K xw ca wa) tNil) := pa_cons ha pa_nil hs
theorem i_rg1 {ca : Nat} {tg e : Expr} {wa : En → VQ → Prop} {nb : Bool} {p pos : Pos} (gl : Gl X "range") (hm : X.mg "range" = none) (hs : starEach [e] X.env = [(false, eval e X.env)]) (ma : MonoW wa) (h : PE X e (tX X.K xw ca wa)) :
    PI X tg (.Call (.Name "range" p) [e] [] pos) (tI X.K xw nb (ca) fun ρ Q => wa ρ fun x _ => match x with | .int j => (-(2 ^ 62) ≤ j ∧ j < 2 ^ 62) ∧ Q (rng 0 j.toNat) | _ => False) := by
  refine PI.weak (pi_range1 gl hm (pa_cons h pa_nil hs) hs) fun σ H R ⟨H0, B, pn, fr, ρ, Z, tb, ok, w⟩ => ?_
  refine ⟨H0, B, pn, fr, ρ, Z, tb, ok, ma _ _ _ (fun d k q x H1 s1 r1 => ?_) w⟩
  dsimp only at q
  split at q
  · rename_i j
    rw [(r1.dr ok.pnt).int]
    exact ⟨j, rfl, q.1.1, q.1.2, q.2 _ H1 [] s1 (fun _ z => nomatch z) jok_rng⟩
  · exact q.elim
theorem i_rg2 {ca cb : Nat} {tg a b : Expr} {wa wb : En → VQ → Prop} {nb : Bool} {p pos : Pos} (gl : Gl X "range") (hm : X.mg "range" = none) (hs : starEach [a, b] X.env = [(false, eval a X.env), (false, eval b X.env)]) (hs2 : starEach [b] X.env = [(false, eval b X.env)]) (ma : MonoW wa) (mb : MonoW wb) (ha : PE X a (tX X.K xw ca wa)) (hb : PE X b (tX X.K xw cb wb)) :
    PI X tg (.Call (.Name "range" p) [a, b] [] pos) (tI X.K xw nb (ca + cb) fun ρ Q => wa ρ fun x _ => wb ρ fun y _ => match x, y with
      | .int i, .int j => (-(2 ^ 62) ≤ i ∧ i < 2 ^ 62 ∧ -(2 ^ 62) ≤ j ∧ j < 2 ^ 62) ∧ Q (rng i (j - i).toNat)
      | _, _ => False) := by
  refine PI.weak (pi_range2 gl hm (pa_cons ha (pa_cons hb pa_nil hs2) (by rw [hs, hs2])) hs hs2) fun σ H R ⟨H0, B, pn, fr, ρ, Z, tb, ok, w⟩ => ?_
  refine ⟨H0, B, pn, fr, ρ, Z, (cb + tb), ok.lt (by omega), ma _ _ _ (fun d k q x H1 s1 r1 => ⟨H0, B, pn, fr, ρ, Z, _, ok.to s1, mb _ _ _ (fun e k' q y H2 s2 r2 => ?_) q⟩) w⟩
  cases d with
  | int i =>
    cases e with
    | int j =>
      rw [(r1.dr ok.pnt).int, (r2.dr (ok.to s1).pnt).int]
      exact ⟨i, j, rfl, q.1, q.2 _ H2 [] (s1.trans s2) (fun _ z => nomatch z) jok_rng⟩
    | _ => exact q.elim
  | _ => exact q.elim
theorem listD_eq {d : D} {ds : List D} (h : listD d = some ds) : d = .list ds := by cases d <;> simp [listD] at h <;> simp [h]
theorem i_enum {ca : Nat} {e : Expr} {elts : List Expr} {kk : Nat} {tp : Pos} {wa : En → VQ → Prop} {nb : Bool} {p pos : Pos} (gl : Gl X "enumerate") (hm : X.mg "enumerate" = none) (hs : starEach [e] X.env = [(false, eval e X.env)]) (ma : MonoW wa) (hb : nb = true → ∀ ρ Q, wa ρ Q → wa ρ fun d k => k ≠ .bor ∧ Q d k) (h : PE X e (tX X.K xw ca wa)) :
    PI X (.Tuple elts kk tp) (.Call (.Name "enumerate" p) [e] [] pos) (tI X.K xw nb (ca) fun ρ Q => wa ρ fun x _ => match listD x with | some ds => Q (enumL ds) | none => False) := by
  refine PI.weak (pi_enum gl hm (pa_cons h pa_nil hs) hs) fun σ H R ⟨H0, B, pn, fr, ρ, Z, tb, ok, w⟩ => ?_
  have w' : wa ρ fun x k => (nb = true → k ≠ .bor) ∧ match listD x with | some ds => ∀ J H' fv, HStep tb pn H H' → (∀ p ∈ fv, Dr X.K pn H' Z p.1 p.2 ∧ (nb = true → Dn X.K H' Z p.1 p.2)) → JOk X.K pn J fv (enumL ds) → R J H' | none => False := by
    cases nb with
    | true => exact ma _ _ _ (fun d k q => ⟨fun _ => q.1, q.2⟩) (hb rfl _ _ w)
    | false => exact ma _ _ _ (fun d k q => ⟨(fun z => nomatch z), q⟩) w
  refine ⟨H0, B, pn, fr, ρ, Z, tb, ok, ma _ _ _ (fun d k q x H1 s1 r1 => ?_) w'⟩
  obtain ⟨q1, q2⟩ := q
  split at q2
  · rename_i ds e1
    have hd := r1.dr ok.pnt
    have ed := listD_eq e1
    subst ed
    obtain ⟨a, xs, rfl, s2, n2⟩ := hd.list
    refine ⟨a, xs, rfl, SqL.of s2, q2 _ H1 [(.ref a, .list ds)] s1 (fun p hp => ?_) jok_enum⟩
    have ep : p = (.ref a, .list ds) := by simpa using hp
    subst ep
    exact ⟨hd, fun z => r1.dn (q1 z) ok.zt⟩
  · exact q2.elim
end
end Y

namespace Y
open PySem PySem.Spec PyProof.Rows L2 M
section
variable {K : PySem.W.Frag} {xw : Xw} {H0 H H' : Hp} {B Z : Addr → Prop} {pn : List Addr} {tb tb2 : Nat} {fr : Fx} {σ : L2.St} {ρ : En}
theorem Bd.upd {a : Addr} {o : HO} (b : Bd tb pn H) (hp : a ∉ pn) : Bd tb pn (upd H a o) := ⟨b.1, fun d hd c i r e => b.2 d hd c i r (by rw [upd_ne (fun z => hp (by rw [← z]; exact hd))] at e; exact e)⟩
/-- the draws left in a loop -/
def bgt (n i c t : Nat) : Nat := (n - i) * c + t
theorem bgt_s {n i c t : Nat} (h : i < n) : bgt n i c t = c + bgt n (i + 1) c t := by
  unfold bgt
  obtain ⟨k, hk⟩ : ∃ k, n - i = k + 1 := ⟨n - i - 1, by omega⟩
  rw [show n - (i + 1) = k by omega, hk, Nat.succ_mul]
  omega
theorem bgt_e {n c t : Nat} : bgt n n c t = t := by unfold bgt; rw [Nat.sub_self, Nat.zero_mul, Nat.zero_add]
theorem bgt_0 {n m c t : Nat} (h : n ≤ m) : bgt n 0 c t ≤ m * c + t := by
  unfold bgt
  exact Nat.add_le_add_right (Nat.mul_le_mul_right c h) t
/-- a banned address that no slot owns is written -/
theorem EnvOk.upd (ok : EnvOk K xw H0 B pn fr Z tb σ ρ H) {a : Addr} {o : HO} (hz : Z a) (h0 : H0 a = none) (hp : a ∉ pn) (hx : NoExt H a) (ho : ∀ (i : Nat) (d : D), ρ[i]? = some (.own d) → σ[i]? ≠ some (some (.ref a)))
    (hf : ∀ (i : Nat) (nm : List Str) (fs : List (Str × Fd)) (x dx C : Addr) (fvs : List (Str × V)) (f : Str) (d : D), ρ[i]? = some (.obj nm fs) → σ[i]? = some (some (.ref x)) → H x = some (.ins C dx fvs) → fs.lookup f = some (.own d) → fvs.lookup f ≠ some (.ref a)) : EnvOk K xw H0 B pn fr Z tb σ ρ (upd H a o) := by
  have kz : ∀ b u, ¬ Z b → H b = some u → L2.upd H a o b = some u := fun b u n e => by
    rw [upd_ne (fun z => n (by rw [z]; exact hz))]; exact e
  have ke : ∀ b u, b ≠ a → H b = some u → L2.upd H a o b = some u := fun b u n e => by rw [upd_ne n]; exact e
  have th : ∀ b, H b ≠ none → L2.upd H a o b ≠ none := fun b h => by
    by_cases e : b = a
    · subst e; rw [upd_same]; exact fun z => nomatch z
    · rw [upd_ne e]; exact h
  refine ⟨ok.xo, ⟨fun b u n m e => ?_, fun d hd => ?_, fun b h => th b (ok.step.there b h), ok.bd.upd hp⟩, fun b h => th b (ok.zt b h), ok.bz, ok.zb, ok.kn, ok.bt, fun b hb => ⟨(ok.pz b hb).1, ?_⟩, ok.len, fun i s e => ?_, ok.inj, fun p h => Dn.keep kz (fun b z => .inl z) _ _ (ok.fr p h), fun i C fs e => ?_⟩
  rotate_right
  · obtain ⟨i0, x, dx, Ca, fvs, e1, ob⟩ := ok.ob i C fs e
    have xa : x ≠ a := fun z => ob.t0 (by rw [z]; exact h0)
    refine ⟨i0, x, dx, Ca, fvs, e1, ob.cl, ob.na, ob.mu, ob.z, ob.t0, ob.np, ob.no, ke x _ xa ob.at_, ob.few, fun f d h => ?_, fun f d h => ?_, ob.inj⟩
    · obtain ⟨v, e2, n⟩ := ob.val f d h
      exact ⟨v, e2, Dn.keep kz (fun b z => .inl z) _ _ n⟩
    · obtain ⟨b, e2, h1, h2, h3, h4, h5⟩ := ob.own f d h
      exact ⟨b, e2, h1, h2, h3, h4, h5.keep kz (fun c z => .inl z) fun u q => ke b u (fun z => hf i C fs x dx Ca fvs f d e e1 ob.at_ h (by rw [e2, z])) q⟩
  · exact ke b u (fun z => by rw [z, h0] at e; cases e) (ok.step.keep b u n m e)
  · exact (ok.step.pen d hd).upd (fun z => hp (by rw [← z]; exact hd)) hx
  · exact (ok.pz b hb).2.move ((PenStep.refl _ _).upd (fun z => hp (by rw [← z]; exact hb)) hx) kz fun b z => .inl z
  · have h := ok.sl i s e
    cases s with
    | emp => trivial
    | val d => obtain ⟨v, e1, h1⟩ := h; exact ⟨v, e1, Dn.keep kz (fun b z => .inl z) _ _ h1⟩
    | own d =>
      obtain ⟨b, e1, h1, h2, h3, h4⟩ := h
      exact ⟨b, e1, h1, h2, h3, h4.keep kz (fun c z => .inl z) fun u q => ke b u (fun z => ho i d e (by rw [e1, z])) q⟩
    | pen => obtain ⟨b, e1, h1, h2⟩ := h; exact ⟨b, e1, h1, ((PenStep.refl H b).upd (fun z => hp (by rw [← z]; exact h1)) hx).is h2⟩
    | scr n => obtain ⟨b, ns, e1, h1, h2⟩ := h; exact ⟨b, ns, e1, h1.keep kz (fun c z => .inl z), h2⟩
    | gen g => obtain ⟨v, e1, h1⟩ := h; exact ⟨v, e1, g.keep _ _ _ _ _ _ kz (fun b z => .inl z) h1⟩
    | obj _ _ => trivial
    | exc e => exact ExS.keep kz (fun b z => .inl z) h
theorem Dr.more {v : V} {d : D} {a : Addr} (h : Dr K pn H Z v d) (hn : H a = none) (s : HStep tb pn H H') (hz : ∀ a ∈ pn, Z a) : Dr K (a :: pn) H' (Zp Z a) v d := by
  have hz' : ∀ b, Zp Z a b → Z b ∨ H b = none := fun b z => z.elim .inl fun e => .inr (by rw [e]; exact hn)
  rcases h with h | ⟨b, e, n, h⟩
  · exact .inl (Dn.keep (keepZ s hz) hz' _ _ h)
  · refine .inr ⟨b, e, fun z => ?_, h.keep (keepZ s hz) hz' fun o q => s.keep b o n q⟩
    rcases List.mem_cons.mp z with z | z
    · rw [z] at h; exact h.there hn
    · exact n z
theorem Dr.less {v : V} {d : D} {a : Addr} (h : Dr K (a :: pn) H Z v d) : Dr K pn H Z v d := by
  rcases h with h | ⟨b, e, n, h⟩
  · exact .inl h
  · exact .inr ⟨b, e, fun z => n (List.mem_cons_of_mem _ z), h⟩
theorem Dr.stepD {v : V} {d : D} {a : Addr} (h : Dr K (a :: pn) H Z v d) (s : HStep tb pn H H') (hz : ∀ a ∈ pn, Z a) : Dr K (a :: pn) H' Z v d := by
  rcases h with h | ⟨b, e, n, h⟩
  · exact .inl (Dn.keep (keepZ s hz) (fun b z => .inl z) _ _ h)
  · exact .inr ⟨b, e, n, h.step (fun z => n (List.mem_cons_of_mem _ z)) s hz⟩
theorem Dr.updD {v : V} {d : D} {a : Addr} {o : HO} (h : Dr K (a :: pn) H Z v d) (hz : Z a) : Dr K (a :: pn) (upd H a o) Z v d := by
  have kz : ∀ b u, ¬ Z b → H b = some u → L2.upd H a o b = some u := fun b u n e => by
    rw [upd_ne (fun z => n (by rw [z]; exact hz))]; exact e
  rcases h with h | ⟨b, e, n, h⟩
  · exact .inl (Dn.keep kz (fun b z => .inl z) _ _ h)
  · exact .inr ⟨b, e, n, h.keep kz (fun b z => .inl z) fun u q => by rw [upd_ne (fun z => n (by rw [z]; exact List.mem_cons_self))]; exact q⟩
end
/-! ### comprehensions -/
section
variable {X : Cx} {xw : Xw}
def wCo' (wi : En → (List D → Prop) → Prop) (wc : En → (Bool → Prop) → Prop) (we : En → VQ → Prop) (t : Tg) : En → VQ → Prop := fun ρ Q => wi ρ fun ds => ds.length ≤ sizeLine ∧
  wComp (fun d R => match setTg t d (wipeE ρ t.ixs) with
    | some ρ' => wc ρ' fun b => (b = true → we ρ' fun r k => k ≠ .bor ∧ R (some r)) ∧ (b = false → R none)
    | none => False) ds [] fun rs => Q (.list rs) .own
theorem comp_turn {cc ce ci : Nat} {K : PySem.W.Frag} {xw : Xw} {wi : En → (List D → Prop) → Prop} {wc : En → (Bool → Prop) → Prop} {we : En → VQ → Prop} {t : Tg} (mi : MonoL wi) (mc : MonoT wc) (me : MonoW we) {σ : L2.St} {H : Hp} {Q : VK}
    (h : tX K xw (ci + sizeLine * (cc + ce)) (wCo' wi wc we t) σ H Q) : tLc (tI K xw false ci wi) (gT K t) (tT K xw.ne cc wc) (tX K xw.ne ce we) t.ixs σ H Q := by
  obtain ⟨H0, B, pn, fr, ρ, Z, tb, ok, w⟩ := h
  refine ⟨H0, B, pn, fr, ρ, Z, (sizeLine * (cc + ce) + tb), ok.lt (by omega), mi _ _ _ (fun ds q J H1 fv s1 hfv hJ D nD => ?_) w⟩
  obtain ⟨q0, q⟩ := q
  have ok1 := (ok.to s1).lt (bgt_0 q0)
  have sD : HStep (bgt ds.length 0 (cc + ce) tb) pn H1 (L2.upd H1 D (.lst [])) := ok1.ss (M.same_upd nD)
  have tD : L2.upd H1 D (.lst []) D ≠ none := by rw [upd_same]; exact fun z => nomatch z
  have okD := ok1.more nD sD tD
  have pD : D ∉ pn := fun z => ok1.pnt D z nD
  have h0D : H0 D = none := (ok.step.trans s1).free nD
  have oD : ∀ (i : Nat) (d : PyData), ρ[i]? = some (.own d) → σ[i]? ≠ some (some (.ref D)) := fun i d e z => by
    obtain ⟨a, e1, _, _, _, h4⟩ := ok1.sl i _ e
    rw [e1] at z
    cases z
    exact h4.there nD
  -- the invariant
  refine ⟨fun i m Hc => ∃ acc ys, m = ds.length - i ∧ i ≤ ds.length ∧ acc.length ≤ i ∧ Hc D = some (.lst ys) ∧ DnL K Hc (Zp Z D) ys acc ∧ EnvOk K xw H0 B pn fr (Zp Z D) (bgt ds.length i (cc + ce) tb) σ ρ Hc ∧ HStep (bgt ds.length i (cc + ce) tb) pn H1 Hc ∧ (∀ p ∈ fv, Dr K (D :: pn) Hc (Zp Z D) p.1 p.2) ∧
      wComp (fun d R => match setTg t d (wipeE ρ t.ixs) with
        | some ρ' => wc ρ' fun b => (b = true → we ρ' fun r k => k ≠ .bor ∧ R (some r)) ∧ (b = false → R none)
        | none => False) (ds.drop i) acc fun rs => ∀ v H', HStep tb pn H H' → RX K pn H H' Z v (.list rs) .own → Q v H',
    ⟨ds.length, [], [], rfl, Nat.zero_le _, Nat.zero_le _, upd_same, .nil, okD, sD, fun p hp => ((hfv p hp).1).more nD sD ok1.pnz, q⟩, ?_⟩
  rintro i m Hc ⟨acc, ys, rfl, hi, ha, eD, nl, okc, sc, fvc, wcm⟩
  obtain ⟨jstop, jgo⟩ := hJ Hc (Zp Z D) i okc.zt fun p hp => (fvc p hp).less
  by_cases hlt : i < ds.length
  · obtain ⟨go, yl⟩ := jgo hlt
    refine .inr ⟨go, fun Hn => ∃ acc ys, i + 1 ≤ ds.length ∧ acc.length ≤ i + 1 ∧ Hn D = some (.lst ys) ∧ DnL K Hn (Zp Z D) ys acc ∧ EnvOk K xw H0 B pn fr (Zp Z D) (bgt ds.length (i + 1) (cc + ce) tb) σ ρ Hn ∧ HStep (bgt ds.length (i + 1) (cc + ce) tb) pn H1 Hn ∧ (∀ p ∈ fv, Dr K (D :: pn) Hn (Zp Z D) p.1 p.2) ∧
      wComp (fun d R => match setTg t d (wipeE ρ t.ixs) with
        | some ρ' => wc ρ' fun b => (b = true → we ρ' fun r k => k ≠ .bor ∧ R (some r)) ∧ (b = false → R none)
        | none => False) (ds.drop (i + 1)) acc fun rs => ∀ v H', HStep tb pn H H' → RX K pn H H' Z v (.list rs) .own → Q v H', ?_, fun x H2 y => ?_⟩
    · rintro Hn ⟨acc', ys', h1, h2, h3, h4, h5, h6, h7, h8⟩
      exact ⟨ds.length - (i + 1), by omega, acc', ys', rfl, h1, h2, h3, h4, h5, h6, h7, h8⟩
    · obtain ⟨s2, d, ed, nd⟩ := yl x H2 y
      have s2' : HStep (bgt ds.length i (cc + ce) tb) pn Hc H2 := okc.ss s2
      have ok2 := okc.to s2'
      have edr : ds.drop i = d :: ds.drop (i + 1) := by
        rw [List.drop_eq_getElem_cons hlt]
        have : ds[i] = d := by
          have := List.getElem?_eq_getElem hlt
          rw [ed] at this
          exact (Option.some.inj this).symm
        rw [this]
      rw [edr] at wcm
      simp only [wComp] at wcm
      split at wcm
      · rename_i ρ' eρ
        refine tg_ok (ok2.wipe t.ixs) eρ nd fun σ' ok' ew => ⟨by rw [ew, wipe_idem], ?_⟩
        refine ⟨H0, B, pn, fr, ρ', Zp Z D, (ce + bgt ds.length (i + 1) (cc + ce) tb), (ok'.lt (by rw [bgt_s hlt]; omega)).ne, mc _ _ _ (fun b qb H3 s3 => ?_) wcm⟩
        have sall3 : HStep (ce + bgt ds.length (i + 1) (cc + ce) tb) pn Hc H3 := s2'.trans s3
        have e3 : H3 D = some (.lst ys) := sall3.keep D _ pD eD
        cases b with
        | false =>
          refine iteF ?_
          exact ⟨acc, ys, hlt, by omega, e3, DnL.keep (keepZ sall3 okc.pnz) (fun b z => .inl z) _ _ nl, okc.to (sall3.less (by omega)), sc.trans (sall3.less (by omega)), fun p hp => (fvc p hp).stepD sall3 okc.pnz, qb.2 rfl⟩
        | true =>
          refine iteT ?_
          refine ⟨H0, B, pn, fr, ρ', Zp Z D, _, (ok'.to s3).ne, me _ _ _ (fun r k qr y4 H4 s4 r4 => ?_) (qb.1 rfl)⟩
          have sall : HStep (bgt ds.length (i + 1) (cc + ce) tb) pn Hc H4 := sall3.trans s4
          have e4 : H4 D = some (.lst ys) := sall.keep D _ pD eD
          have xD : NoExt H4 D := fun P z => by rw [e4] at z; cases z
          have n4 := DnL.keep (keepZ sall okc.pnz) (fun b z => .inl z) _ _ nl
          have ny := r4.dn qr.1 (ok'.to s3).zt
          refine ⟨ys, e4, ?_, acc ++ [r], ys ++ [y4], hlt, by simp; omega, upd_same, ?_, ?_, ?_, fun p hp => ((fvc p hp).stepD sall okc.pnz).updD (.inr rfl), qr.2⟩
          · rw [n4.length]; omega
          · refine DnL.keep (fun b u n e => ?_) (fun b z => .inl z) _ _ (n4.append (.cons ny .nil))
            rw [upd_ne (fun z => n (.inr z))]; exact e
          · refine (okc.to sall).upd (.inr rfl) h0D pD xD oD fun i C fs x dx Ca fvs f d e e1 e2 hf hl => ?_
            obtain ⟨_, x1, dx1, C1, fv1, q1, ob⟩ := ok1.ob i C fs e
            rw [e1] at q1
            cases q1
            have := (sc.trans sall).keep x _ ob.np ob.at_
            rw [e2] at this
            cases this
            obtain ⟨b, q2, _, _, _, _, h5⟩ := ob.own f d hf
            rw [hl] at q2
            cases q2
            exact h5.there nD
          · refine ⟨fun b u n e => ?_, fun d hd => ?_, fun b h => ?_, sall.bd.upd pD⟩
            · rw [upd_ne (fun z => by rw [z, nD] at e; cases e)]
              exact (sc.trans sall).keep b u n e
            · exact ((sc.trans sall).pen d hd).upd (fun z => pD (by rw [← z]; exact hd)) xD
            · by_cases e : b = D
              · subst e; rw [upd_same]; exact fun z => nomatch z
              · rw [upd_ne e]; exact (sc.trans sall).there b h
      · exact wcm.elim
  · have ei : i = ds.length := by omega
    subst ei
    rw [List.drop_length] at wcm
    exact .inl ⟨jstop rfl, wcm _ Hc ((s1.trans sc).less (by rw [bgt_e]; omega)) ⟨D, rfl, s1.free nD, .inl ⟨ys, acc, rfl, eD, nl⟩⟩⟩
theorem y_comp {cc ce ci : Nat} {el tg iter : Expr} {ifs : List Expr} {scope : Scope} {own : List (Str × Nat)} {pos : Pos} {t : Tg} {wi : En → (List D → Prop) → Prop} {wc : En → (Bool → Prop) → Prop} {we : En → VQ → Prop} (hc : X.calm = true) (hN : X.N.Nodup) (mi : MonoL wi) (mc : MonoT wc) (me : MonoW we)
    (hi : PI X tg iter (tI X.K xw false ci wi)) (ok : BlkOk X.N X.env.scope scope own) (ho : own.map (·.2) = t.ixs)
    (hg : ∀ (s : Shared) (H : Hp) (C : Addr) (cl : List (Str × Addr)) (fp : List Addr), PG (X.blk s H scope (compEnvC scope cl C X.env) fp) tg (gT X.K t))
    (ht : ∀ (s : Shared) (H : Hp) (C : Addr) (cl : List (Str × Addr)) (fp : List Addr), PTs (X.blk s H scope (compEnvC scope cl C X.env) fp) ifs (tT X.K xw.ne cc wc))
    (he : ∀ (s : Shared) (H : Hp) (C : Addr) (cl : List (Str × Addr)) (fp : List Addr), PE (X.blk s H scope (compEnvC scope cl C X.env) fp) el (tX X.K xw.ne ce we)) (hs : ∀ x, foldedSetIterable iter X.env x = pure x) :
    PE X (.ListComp el [⟨tg, iter, ifs, 0⟩] scope pos) (tX X.K xw (ci + sizeLine * (cc + ce)) (wCo' wi wc we t)) :=
  (pe_lc hc hN hi ok hg ht he hs).weak fun σ H Q h => by rw [ho]; exact comp_turn mi mc me h
theorem y_setcomp {cc ce ci : Nat} {i : Nat} {y : Str} {py : Pos} {el tg iter : Expr} {ifs : List Expr} {scope : Scope} {own : List (Str × Nat)} {pos spos : Pos} {t : Tg} {wi : En → (List D → Prop) → Prop} {wc : En → (Bool → Prop) → Prop} {we : En → VQ → Prop} (hc : X.calm = true) (hN : X.N.Nodup) (hy : X.N[i]? = some y) (hyl : X.env.scope.names.lookup y = some .local)
    (hsw : swapsWith (.ListComp el [⟨tg, iter, ifs, 0⟩] scope pos) (some (.Name y py)) spos.line X.env = pure true) (mi : MonoL wi) (mc : MonoT wc) (me : MonoW we)
    (hi : PI X tg iter (tI X.K xw false ci wi)) (ok : BlkOk X.N X.env.scope scope own) (ho : own.map (·.2) = t.ixs)
    (hg : ∀ (s : Shared) (H : Hp) (C : Addr) (cl : List (Str × Addr)) (fp : List Addr), PG (X.blk s H scope (compEnvC scope cl C X.env) fp) tg (gT X.K t))
    (ht : ∀ (s : Shared) (H : Hp) (C : Addr) (cl : List (Str × Addr)) (fp : List Addr), PTs (X.blk s H scope (compEnvC scope cl C X.env) fp) ifs (tT X.K xw.ne cc wc))
    (he : ∀ (s : Shared) (H : Hp) (C : Addr) (cl : List (Str × Addr)) (fp : List Addr), PE (X.blk s H scope (compEnvC scope cl C X.env) fp) el (tX X.K xw.ne ce we)) (hs : ∀ x, foldedSetIterable iter X.env x = pure x) :
    PS X (.Assign [.Name y py] (.ListComp el [⟨tg, iter, ifs, 0⟩] scope pos) spos) (tAsg (tX X.K xw (ci + sizeLine * (cc + ce)) (wCo' wi wc we t)) (gName i)) :=
  ⟨fun pins s σ H D I h => (ps_setLc hc hN hy hyl hsw hi ok hg ht he hs).run pins s σ H D I (by rw [ho]; exact comp_turn mi mc me h)⟩
/-! ### calls of defs -/
inductive ArL (K : PySem.W.Frag) (pn : List Addr) (H : Hp) (Z : Addr → Prop) : List V → List Ar → Prop
  | nil : ArL K pn H Z [] []
  | v {v : V} {d : D} {vs : List V} {as : List Ar} : Dn K H Z v d → ArL K pn H Z vs as → ArL K pn H Z (v :: vs) (.v d :: as)
  | pen {a : Addr} {vs : List V} {as : List Ar} : a ∈ pn → IsPen H a → ArL K pn H Z vs as → ArL K pn H Z (.ref a :: vs) (.pen :: as)
  | scr {a : Addr} {ns : List Int} {vs : List V} {as : List Ar} : Scr K H Z a ns → ArL K pn H Z vs as → ArL K pn H Z (.ref a :: vs) (.scr ns.length :: as)
  | gen {v : V} {g : Gv} {vs : List V} {as : List Ar} : g.P K H Z v → ArL K pn H Z vs as → ArL K pn H Z (v :: vs) (.gen g :: as)
theorem ArL.keep {K : PySem.W.Frag} {pn : List Addr} {H H' : Hp} {Z Z' : Addr → Prop} (k : ∀ b o, ¬ Z b → H b = some o → H' b = some o) (hz : ∀ b, Z' b → Z b ∨ H b = none) (hp : ∀ a ∈ pn, IsPen H a → IsPen H' a) {vs : List V} {as : List Ar} (h : ArL K pn H Z vs as) : ArL K pn H' Z' vs as := by
  induction h with
  | nil => exact .nil
  | v a _ ih => exact .v (Dn.keep k hz _ _ a) ih
  | pen a b _ ih => exact .pen a (hp _ a b) ih
  | scr a _ ih => exact .scr (a.keep k hz) ih
  | @gen v g vs as a _ ih => exact .gen (g.keep _ _ _ _ _ _ k hz a) ih
/-- a def's promise over deep values -/
def RXg (K : PySem.W.Frag) (pn : List Addr) (Hs H' : Hp) (Z : Addr → Prop) (v : V) (d : D) (k : Kd) : Prop := match k with
  | .gen g => g.P K H' Z v
  | k => RX K pn Hs H' Z v d k
theorem RXg.of {K : PySem.W.Frag} {pn : List Addr} {Hs H' : Hp} {Z : Addr → Prop} {v : V} {d : D} {k : Kd} (h : k.nb) (r : RXg K pn Hs H' Z v d k) : RX K pn Hs H' Z v d k := by
  cases k <;> first | exact r | exact h.elim
theorem RXg.to {K : PySem.W.Frag} {pn : List Addr} {Hs H' : Hp} {Z : Addr → Prop} {v : V} {d : D} {k : Kd} (r : RX K pn Hs H' Z v d k) : RXg K pn Hs H' Z v d k := by
  cases k <;> first | exact r | exact r.elim
def spC (mg : Str → Option Value) (C : Ct) (m : Nat) (K : PySem.W.Frag) : Sp := fun vs H Q E => ∃ as pn Z tb, ArL K pn H Z vs as ∧ (∀ a, Z a → H a ≠ none) ∧ (∀ a ∈ pn, Z a ∧ PenX K H Z a) ∧ Bd (m + tb) pn H ∧ C as (fun d k => k ≠ .bor ∧ ∀ v H', HStep tb pn H H' → RXg K pn H H' Z v d k → Q v H') fun e => pn = [] ∧ ∀ cls d H', HStep 0 [] H H' → ExR K mg H' Z e cls d → E cls d H'
def MonoA (w : En → (List Ar → Bool → Prop) → Prop) : Prop := ∀ ρ Q Q', (∀ as b, Q as b → Q' as b) → w ρ Q → w ρ Q'
def tAr (K : PySem.W.Frag) (xw : Xw) (c : Nat) (w : En → (List Ar → Bool → Prop) → Prop) : TA := fun σ H Q => ∃ H0 B pn fr ρ Z tb, EnvOk K xw H0 B pn fr Z (c + tb) σ ρ H ∧ w ρ fun as b => ∀ vs H' Z', HStep tb pn H H' → (∀ a, Z' a → Z a) → (∀ a ∈ pn, Z' a) → (b = false → ∀ a, Z a → Z' a) → (∀ a, B a → Z' a) → ArL K pn H' Z' vs as → Q vs H'
theorem r_nil : PA X [] (tAr X.K xw 0 fun _ Q => Q [] false) := PA.weak pa_nil fun σ H Q ⟨_, _, pn, _, _, Z, tb, ok, w⟩ => w [] H Z (HStep.refl (ok.bd.less (by omega))) (fun _ z => z) ok.pnz (fun _ _ z => z) ok.bz .nil
theorem r_ex {ca cs : Nat} {e : Expr} {es : List Expr} {wa : En → VQ → Prop} {ws : En → (List Ar → Bool → Prop) → Prop} (hs : starEach (e :: es) X.env = (false, eval e X.env) :: starEach es X.env) (ma : MonoW wa) (ms : MonoA ws) (ha : PE X e (tX X.K xw ca wa)) (hb : PA X es (tAr X.K xw cs ws)) :
    PA X (e :: es) (tAr X.K xw (ca + cs) fun ρ Q => wa ρ fun x k => k ≠ .bor ∧ ws ρ fun xs c => Q (.v x :: xs) c) := by
  refine PA.weak (pa_cons ha hb hs) fun σ H Q ⟨H0, B, pn, fr, ρ, Z, tb, ok, w⟩ => ?_
  refine ⟨H0, B, pn, fr, ρ, Z, (cs + tb), ok.lt (by omega), ma _ _ _ (fun d k q0 x H1 s1 r1 => ⟨H0, B, pn, fr, ρ, Z, _, ok.to s1, ms _ _ _ (fun as b q vs H2 Z' s2 z1 z2 z3 z4 r2 => ?_) q0.2⟩) w⟩
  exact q (x :: vs) H2 Z' (s1.trans s2) z1 z2 z3 z4 (.v (Dn.keep (keepZ s2 ok.pnz) (fun b z => .inl (z1 b z)) _ _ (r1.dn q0.1 ok.zt)) r2)
theorem r_sl {cs : Nat} {i : Nat} {x : Str} {pos : Pos} {es : List Expr} {ws : En → (List Ar → Bool → Prop) → Prop} (hN : X.N[i]? = some x) (hv : Vis X.env.scope x) (hd : (x == ("__debug__" : Str)) = false) (hcd : (x == ("__classdict__" : Str)) = false) (ms : MonoA ws) (hb : PA X es (tAr X.K xw cs ws)) :
    PA X (.Name x pos :: es) (tAr X.K xw (cs) fun ρ Q => match ρ[i]? with
      | some (.val d) => ws ρ fun xs c => Q (.v d :: xs) c
      | some (.own d) => ws ρ fun xs _ => Q (.v d :: xs) true
      | some .pen => ws ρ fun xs c => Q (.pen :: xs) c
      | some (.scr n) => ws ρ fun xs c => Q (.scr n :: xs) c
      | some (.gen g) => ws ρ fun xs c => Q (.gen g :: xs) c
      | _ => False) := by
  refine PA.weak (pa_cons (pe_var (i := i) hN hv hd hcd) hb rfl) fun σ H Q ⟨H0, B, pn, fr, ρ, Z, tb, ok, w⟩ => ?_
  dsimp only at w
  split at w
  · rename_i d e
    obtain ⟨v, e1, n⟩ := ok.sl i _ e
    refine ⟨v, e1, H0, B, pn, fr, ρ, Z, tb, ok, ms _ _ _ (fun as b q vs H2 Z' s2 z1 z2 z3 z4 r2 => ?_) w⟩
    exact q (v :: vs) H2 Z' s2 z1 z2 z3 z4 (.v (Dn.keep (keepZ s2 ok.pnz) (fun b z => .inl (z1 b z)) _ _ n) r2)
  · rename_i d e
    obtain ⟨a, e1, ha, h0a, hp, ho⟩ := ok.sl i _ e
    refine ⟨.ref a, e1, H0, B, pn, fr, ρ, Z, tb, ok, ms _ _ _ (fun as b q vs H2 Z' s2 z1 z2 z3 z4 r2 => ?_) w⟩
    refine q (.ref a :: vs) H2 (fun c => Z' c ∧ c ≠ a) s2 (fun c z => z1 c z.1) (fun c hc => ⟨z2 c hc, fun z => hp (by rw [← z]; exact hc)⟩) (fun z => nomatch z) (fun c hc => ⟨z4 c hc, fun z => ok.bt c hc (by rw [z]; exact h0a)⟩) (.v ?_ (r2.keep (fun b u n e => e) (fun b z => .inl z.1) fun _ _ z => z))
    refine OwnAt.dn ?_ fun z => z.2 rfl
    exact ho.keep (keepZ s2 ok.pnz) (fun b z => .inl (z1 b z.1)) fun u q => s2.keep a u hp q
  · rename_i e
    obtain ⟨a, e1, ha, ip⟩ := ok.sl i _ e
    refine ⟨.ref a, e1, H0, B, pn, fr, ρ, Z, tb, ok, ms _ _ _ (fun as b q vs H2 Z' s2 z1 z2 z3 z4 r2 => ?_) w⟩
    exact q (.ref a :: vs) H2 Z' s2 z1 z2 z3 z4 (.pen ha ((s2.pen a ha).is ip) r2)
  · rename_i n e
    obtain ⟨a, ns, e1, ha, rfl⟩ := ok.sl i _ e
    refine ⟨.ref a, e1, H0, B, pn, fr, ρ, Z, tb, ok, ms _ _ _ (fun as b q vs H2 Z' s2 z1 z2 z3 z4 r2 => ?_) w⟩
    exact q (.ref a :: vs) H2 Z' s2 z1 z2 z3 z4 (.scr (ha.keep (keepZ s2 ok.pnz) (fun b z => .inl (z1 b z))) r2)
  · rename_i g e
    obtain ⟨v, e1, ha⟩ := ok.sl i _ e
    refine ⟨v, e1, H0, B, pn, fr, ρ, Z, tb, ok, ms _ _ _ (fun as b q vs H2 Z' s2 z1 z2 z3 z4 r2 => ?_) w⟩
    exact q (v :: vs) H2 Z' s2 z1 z2 z3 z4 (.gen (g.keep _ _ _ _ _ _ (keepZ s2 ok.pnz) (fun b z => .inl (z1 b z)) ha) r2)
  · exact w.elim
theorem own_noscal {K : PySem.W.Frag} {H : Hp} {Z : Addr → Prop} {a : Addr} {d : D} (h : OwnAt K H Z a d) : scal d ≠ true := by
  rcases h with ⟨_, _, rfl, _⟩ | ⟨_, _, rfl, _⟩ | ⟨_, _, rfl, _⟩ <;> exact fun z => nomatch z
theorem call_sp {cs m : Nat} {C : Ct} (hC : ∀ as Q Q' E E', (∀ d k, Q d k → Q' d k) → (∀ e, E e → E' e) → C as Q E → C as Q' E') {ws : En → (List Ar → Bool → Prop) → Prop} (ms : MonoA ws) {σ : L2.St} {H : Hp} {Q : VK} (hmg : xw.mg = X.mg)
    (h : tX X.K xw (cs + m) (fun ρ Q => ws ρ fun as b => C as (fun d k => (b = true → scal d = true) ∧ k.nb ∧ Q d k) xw.E) σ H Q) : tCall (spC X.mg C m X.K) [] (fun cls d H => xw.W cls d H) (tAr X.K xw cs ws) σ H Q := by
  obtain ⟨H0, B, pn, fr, ρ, Z, tb, ok, w⟩ := h
  refine ⟨H0, B, pn, fr, ρ, Z, (m + tb), ok.lt (by omega), ms _ _ _ (fun as b q vs H1 Z' s1 z1 z2 z3 z4 r1 => ?_) w⟩
  have ok1 := ok.to s1
  have xl : ∀ e, xw.E e → pn = [] ∧ ∀ cls d H', HStep 0 [] H1 H' → ExR X.K X.mg H' Z' e cls d → xw.W cls d H' := fun e he => by
    obtain ⟨hp, hx⟩ := ok1.xo e he
    refine ⟨hp, fun cls d H' s2 xr => hx cls d H' ?_ ?_⟩
    · subst hp
      exact (ok1.step.less (Nat.zero_le _)).trans s2
    · rw [hmg]
      exact xr.keep (fun _ _ _ e => e) fun b z => .inl (z4 b z)
  show spC X.mg C m X.K (vs ++ []) H1 Q _
  rw [List.append_nil]
  refine ⟨as, pn, Z', tb, r1, fun a z => ok1.zt a (z1 a z), fun a ha => ⟨z2 a ha, ?_⟩, ok1.bd, hC _ _ _ _ _ (fun d k q => ⟨q.2.1.ne, fun v H' s2 rx => q.2.2 v H' (s1.trans s2) (RX.back ?_ s1)⟩) xl q⟩
  · exact (ok1.pz a ha).2.weak z1
  · have rx := rx.of q.2.1
    cases b with
    | false =>
      have z3 := z3 rfl
      cases k with
      | shr => exact Dn.weak rx z3
      | own =>
        obtain ⟨a, e, n, o⟩ := rx
        exact ⟨a, e, n, o.keep (fun _ _ _ e => e) (fun c z => z.elim (fun z => .inl (.inl (z3 c z))) fun z => .inl (.inr z)) fun _ e => e⟩
      | bor => exact q.2.1.elim
      | gen _ => exact q.2.1.elim
    | true =>
      have sc := q.1 rfl
      cases k with
      | shr => exact Dn.scal_any rx sc
      | own =>
        obtain ⟨a, e, n, o⟩ := rx
        exact absurd sc (own_noscal o)
      | bor => exact q.2.1.elim
      | gen _ => exact q.2.1.elim
theorem y_call {cs m : Nat} {j k : Nat} {C : Ct} {f : Str} {ps : List Str} {p pos : Pos} {e : Expr} {es : List Expr} {ws : En → (List Ar → Bool → Prop) → Prop} (hC : ∀ as Q Q' E E', (∀ d k, Q d k → Q' d k) → (∀ e, E e → E' e) → C as Q E → C as Q' E')
    (c : Cl X.prog X.w X.K X.mg X.base (L2.CX X.prog X.w) k f ps (spC X.mg C m X.K)) (hmg : xw.mg = X.mg) (hp : Passes (L2.CX X.prog X.w) X fun cls d H => xw.W cls d H) (hr : Room j X.A) (hgd : X.A.guards = some []) (hk : k ≤ j) (gl : Gl X f) (hd : (f == ("__debug__" : Str)) = false) (he : starEach (e :: es) X.env = (false, eval e X.env) :: starEach es X.env) (hpl : (backTo pos (starEach es X.env)).any (·.1) = false)
    (ms : MonoA ws) (ha : PA X (e :: es) (tAr X.K xw cs ws)) : PE X (.Call (.Name f p) (e :: es) [] pos) (tX X.K xw (cs + m) fun ρ Q => ws ρ fun as b => C as (fun d k => (b = true → scal d = true) ∧ k.nb ∧ Q d k) xw.E) :=
  (pe_cl c hr hgd hk gl hp ha hd he hpl).weak fun _ _ _ h => call_sp hC ms hmg h
theorem y_call0 {m : Nat} {j k : Nat} {C : Ct} {f : Str} {ps : List Str} {p pos : Pos} (hC : ∀ as Q Q' E E', (∀ d k, Q d k → Q' d k) → (∀ e, E e → E' e) → C as Q E → C as Q' E')
    (c : Cl X.prog X.w X.K X.mg X.base (L2.CX X.prog X.w) k f ps (spC X.mg C m X.K)) (hmg : xw.mg = X.mg) (hp : Passes (L2.CX X.prog X.w) X fun cls d H => xw.W cls d H) (hr : Room j X.A) (hgd : X.A.guards = some []) (hk : k ≤ j) (gl : Gl X f) (hd : (f == ("__debug__" : Str)) = false) :
    PE X (.Call (.Name f p) [] [] pos) (tX X.K xw (0 + m) fun ρ Q => C [] (fun d k => (false = true → scal d = true) ∧ k.nb ∧ Q d k) xw.E) :=
  (pe_cl0 c hr hgd hk gl hp hd).weak fun σ H Q h => by
    obtain ⟨H0, B, pn, fr, ρ, Z, tb, ok, w⟩ := h
    refine ⟨[], pn, Z, tb, .nil, ok.zt, ok.pz, ok.bd.less (by omega), hC _ _ _ _ _ (fun d k q => ⟨q.2.1.ne, fun v H' s r => q.2.2 v H' s (r.of q.2.1)⟩) (fun e he => ?_) w⟩
    obtain ⟨hp, hx⟩ := ok.xo e he
    subst hp
    refine ⟨rfl, fun cls d H' s2 xr => hx cls d H' ((ok.step.less (Nat.zero_le _)).trans s2) ?_⟩
    rw [hmg]
    exact xr.keep (fun _ _ _ e => e) fun b z => .inl (ok.bz b z)
/-- list(range(..)) -/
theorem rng_eq : ∀ (n : Nat) (a : Int), rng a n = (List.range n).map fun i => PyData.int (a + (i : Nat))
  | 0, _ => rfl
  | n + 1, a => by
    rw [rng, rng_eq n (a + 1), List.range_succ_eq_map, List.map_cons, List.map_map]
    congr 1
    · simp
    · apply List.map_congr_left
      intro i _
      show PyData.int (a + 1 + (i : Nat)) = PyData.int (a + ((i + 1 : Nat) : Int))
      congr 1
      omega
theorem dnl_map {K : PySem.W.Frag} {H : Hp} {Z : Addr → Prop} (f : Nat → Int) : ∀ l : List Nat, DnL K H Z (l.map fun i => V.int (f i)) (l.map fun i => PyData.int (f i))
  | [] => .nil
  | i :: r => .cons (.int _) (dnl_map f r)
theorem dnl_rg {K : PySem.W.Frag} {H : Hp} {Z : Addr → Prop} (a b : Int) : DnL K H Z (rgV a b) (rng a (b - a).toNat) := by
  rw [rng_eq]
  exact dnl_map (fun i => a + (i : Nat)) _
theorem y_lrg1 {ca : Nat} {a : Expr} {wa : En → VQ → Prop} {p p2 pos pos2 : Pos} (hc : X.calm = true) (g1 : Gl X "list") (m1 : X.mg "list" = none) (g2 : Gl X "range") (m2 : X.mg "range" = none) (hs : starEach [a] X.env = [(false, eval a X.env)]) (ma : MonoW wa) (ha : PE X a (tX X.K xw ca wa)) :
    PE X (.Call (.Name "list" p) [.Call (.Name "range" p2) [a] [] pos2] [] pos) (tX X.K xw ca fun ρ Q => wa ρ fun x _ => match x with | .int j => RgC 0 j ∧ Q (.list (rng 0 (j - 0).toNat)) .own | _ => False) := by
  refine PE.weak (pe_listRg hc g1 m1 (prg_1 g2 m2 ha hs)) fun σ H Q ⟨H0, B, pn, fr, ρ, Z, tb, ok, w⟩ => ?_
  refine ⟨H0, B, pn, fr, ρ, Z, tb, ok, ma _ _ _ (fun d k q x H1 s1 r1 => ?_) w⟩
  cases d with
  | int j => exact ⟨j, (r1.dr ok.pnt).int, q.1, fun p np => q.2 _ _ (s1.trans ((ok.to s1).ss (M.same_upd np))) (RX.back (rx_lst np (dnl_rg 0 j)) s1)⟩
  | _ => exact q.elim
theorem y_lrg {ca cb : Nat} {a b : Expr} {wa wb : En → VQ → Prop} {p p2 pos pos2 : Pos} (hc : X.calm = true) (g1 : Gl X "list") (m1 : X.mg "list" = none) (g2 : Gl X "range") (m2 : X.mg "range" = none) (hs : starEach [a, b] X.env = (false, eval a X.env) :: starEach [b] X.env) (hs2 : starEach [b] X.env = [(false, eval b X.env)]) (ma : MonoW wa) (mb : MonoW wb) (ha : PE X a (tX X.K xw ca wa)) (hb : PE X b (tX X.K xw cb wb)) :
    PE X (.Call (.Name "list" p) [.Call (.Name "range" p2) [a, b] [] pos2] [] pos) (tX X.K xw (ca + cb) fun ρ Q => wa ρ fun x _ => wb ρ fun y _ => match x, y with | .int i, .int j => RgC i j ∧ Q (.list (rng i (j - i).toNat)) .own | _, _ => False) := by
  refine PE.weak (pe_listRg hc g1 m1 (prg_2 g2 m2 ha hb hs hs2 (by rw [hs2]; rfl))) fun σ H Q ⟨H0, B, pn, fr, ρ, Z, tb, ok, w⟩ => ?_
  refine ⟨H0, B, pn, fr, ρ, Z, (cb + tb), ok.lt (by omega), ma _ _ _ (fun d k q x H1 s1 r1 => ⟨H0, B, pn, fr, ρ, Z, _, ok.to s1, mb _ _ _ (fun e k' q y H2 s2 r2 => ?_) q⟩) w⟩
  cases d with
  | int i =>
    cases e with
    | int j => exact ⟨i, j, (r1.dr ok.pnt).int, (r2.dr (ok.to s1).pnt).int, q.1, fun p np => q.2 _ _ ((s1.trans s2).trans (((ok.to s1).to s2).ss (M.same_upd np))) (RX.back (rx_lst np (dnl_rg i j)) (s1.trans s2))⟩
    | _ => exact q.elim
  | _ => exact q.elim
/-- sep.join(a list of texts) -/
theorem y_join {co ca : Nat} {apos pos : Pos} {o e : Expr} {wo wa : En → VQ → Prop} (mo : MonoW wo) (ma : MonoW wa) (ho : PE X o (tX X.K xw co wo)) (he : PE X e (tX X.K xw ca wa)) (hs : starEach [e] X.env = [(false, eval e X.env)]) (hbase : attributeBase o "join" X.env (eval o X.env) = eval o X.env) (hline : (apos.endLine == pos.line) = true) :
    PE X (.Call (.Attribute o "join" apos) [e] [] pos) (tX X.K xw (co + ca) fun ρ Q => wo ρ fun x _ => recvB .join x = true ∧ wa ρ fun y _ => (mtD .join x [y]).to Q) := by
  refine PE.weak (pe_join ho he hs hbase hline) fun σ H Q ⟨H0, B, pn, fr, ρ, Z, tb, ok, w⟩ => ?_
  refine ⟨H0, B, pn, fr, ρ, Z, (ca + tb), ok.lt (by omega), mo _ _ _ (fun d k q x H1 s1 r1 => ?_) w⟩
  obtain ⟨q1, q2⟩ := q
  cases d with
  | str a =>
    rw [(r1.dr ok.pnt).str]
    refine ⟨⟨a, rfl⟩, H0, B, pn, fr, ρ, Z, _, ok.to s1, ma _ _ _ (fun e k' q y H2 s2 r2 => ?_) q2⟩
    cases e with
    | list ds =>
      obtain ⟨b, ys, rfl, s3, n3⟩ := (r2.dr (ok.to s1).pnt).list
      simp only [mtD] at q
      cases es : strsD ds with
      | none => rw [es] at q; exact q.elim
      | some l =>
        rw [es] at q
        have ev := strs_vals n3 es
        subst ev
        refine ⟨a, b, l, rfl, rfl, .inl (SqL.of s3), ?_, q.2 _ H2 (s1.trans s2) (.str _)⟩
        have := q.1
        rw [Nat.mul_comm]
        exact this
    | _ => exact q.elim
  | _ => cases q1
end
end Y

/-! K1: a def with a keyword-only parameter, called f(a, b, k = c). -/
namespace Y
open PySem PySem.Spec PyProof.Rows L2 M
/-- n values by place, then those of the names ks -/
def KB (K : PySem.W.Frag) (fd : FuncData) (ps : List Str) (n : Nat) (ks : List Str) : Prop := ∀ (s : Shared) (us ws : List Value), K.In s.heap → us.length = n → ws.length = ks.length → BindsTo s fd ⟨us, ks.zip ws⟩ (ps.zip (us ++ ws))
structure ClK (P : Program) (w : World) (K : PySem.W.Frag) (mg : Str → Option Value) (base : Heap) (CX : CXT) (k : Nat) (x : Str) (ps : List Str) (n : Nat) (ks : List Str) (sp : Sp) : Prop where
  ex : ∃ (f : Addr) (fd : FuncData), FnG P w K mg base CX k f fd ps sp ∧ mg x = some (.ref f) ∧ PySem.W.keepIn K (.ref f) = true ∧ KB K fd ps n ks
section
variable {X : Cx} {CX : CXT} {k j n : Nat} {f : Addr} {fd : FuncData} {ps ks : List Str} {sp : Sp} {E : XK} {x : Str} {p pos : Pos} {e : Expr} {es : List Expr} {kws : List Keyword} {t tk : TA}
theorem goes_fnK {pins : List (Addr × Obj)} {σ : L2.St} {H : Hp} {s : Shared} {Q : VK} {us ws : List Value} {vs zs : List V} (F : FnG X.prog X.w X.K X.mg X.base CX k f fd ps sp) (hr : Room k X.A) (hg : X.A.guards = some []) (hb : KB X.K fd ps n ks) (hx : Passes CX X E)
    (I : Inv X pins σ H s) (r : Vals vs us) (rz : Vals zs ws) (l1 : vs.length = n) (l2 : zs.length = ks.length) (h : sp (vs ++ zs) H Q E) : wpAny (model X.prog X.w) X.A (call (.ref f) us (ks.zip ws)) (EP X pins σ Q) X.xe s := by
  refine wpAny_call (codeAny_mono (F.run X.A X.stack s H ⟨us, ks.zip ws⟩ (us ++ ws) (vs ++ zs) Q E hr hg I.env0 (hb s us ws I.kIn (r.length.symm.trans l1) (rz.length.symm.trans l2)) (r.append rz) h) ?_)
  intro res s2 z
  match res, z with
  | .error e, z => exact hx pins σ H s e s2 I z
  | .ok (.ret u), z => exact I.after z
  | .ok .next, z => exact False.elim z
  | .ok .brk, z => exact False.elim z
  | .ok .cont, z => exact False.elim z
theorem pe_clK (c : ClK X.prog X.w X.K X.mg X.base CX k x ps n ks sp) (hr : Room j X.A) (hgd : X.A.guards = some []) (hk : k ≤ j) (hg : Gl X x) (hx : Passes CX X E) (ha : PA X (e :: es) t) (hkw : PK X kws tk)
    (hall : (backToKw pos (keywordEach kws X.env)).all (·.1.isSome) = true := by rfl) (hks : (backToKw pos (keywordEach kws X.env)).filterMap (·.1) = ks := by rfl)
    (hdb : (x == ("__debug__" : Str)) = false := by decide) (he : starEach (e :: es) X.env = (false, eval e X.env) :: starEach es X.env := by rfl)
    (hpl : ((backTo pos (starEach (e :: es) X.env)).any (·.1) || (backToKw pos (keywordEach kws X.env)).any (·.1.isNone)) = false := by rfl) :
    PE X (.Call (.Name x p) (e :: es) kws pos) (tCallN n ks.length sp (fun a b => a ++ b) E t tk) := by
  obtain ⟨f, fd, F, g, kp, b⟩ := c.ex
  refine ⟨fun pins s σ H Q I h => ?_⟩
  refine wpAny_Call_Name_kw (ld_glob I hg g ?_ hdb)
  refine PySem.W.callWith_KW (h₀ := X.base) I.ok.mod.kin kp hall (thn (ha.run pos pins s σ H _ I h) fun us s1 ⟨vs, H1, I1, r, q⟩ => ?_) hpl he
  refine thn (hkw.run pos pins s1 σ H1 _ I1 q) fun ws s2 ⟨zs, H2, I2, rz, l1, l2, q2⟩ => ⟨I2.kIn, ?_⟩
  rw [hks]
  exact goes_fnK F (hr.mono hk) hgd b hx I2 r rz l1 l2 q2
end
section
variable {X : Cx} {xw : Xw}
theorem y_callK {ca cb cc m : Nat} {j k : Nat} {C : Ct} {f kn : Str} {ps : List Str} {p pos kp : Pos} {a b e : Expr} {wa wb wc : En → VQ → Prop} (hC : ∀ as Q Q' E E', (∀ d k, Q d k → Q' d k) → (∀ e, E e → E' e) → C as Q E → C as Q' E')
    (c : ClK X.prog X.w X.K X.mg X.base (L2.CX X.prog X.w) k f ps 2 [kn] (spC X.mg C m X.K)) (hmg : xw.mg = X.mg) (hp : Passes (L2.CX X.prog X.w) X fun cls d H => xw.W cls d H) (hr : Room j X.A) (hgd : X.A.guards = some []) (hk : k ≤ j) (gl : Gl X f) (hd : (f == ("__debug__" : Str)) = false)
    (he : starEach [a, b] X.env = (false, eval a X.env) :: starEach [b] X.env) (he2 : starEach [b] X.env = [(false, eval b X.env)])
    (ma : MonoW wa) (mb : MonoW wb) (mc : MonoW wc) (ha : PE X a (tX X.K xw ca wa)) (hb : PE X b (tX X.K xw cb wb)) (hc : PE X e (tX X.K xw cc wc)) :
    PE X (.Call (.Name f p) [a, b] [⟨some kn, e, kp⟩] pos) (tX X.K xw (ca + (cb + (cc + 0)) + m) fun ρ Q => wa ρ fun x k => k ≠ .bor ∧ wb ρ fun y k => k ≠ .bor ∧ wc ρ fun z k => k ≠ .bor ∧ C [.v x, .v y, .v z] (fun d k => (false = true → scal d = true) ∧ k.nb ∧ Q d k) xw.E) := by
  have ms : MonoA fun ρ Q => wa ρ fun x k => k ≠ .bor ∧ wb ρ fun y k => k ≠ .bor ∧ wc ρ fun z k => k ≠ .bor ∧ Q [Ar.v x, .v y, .v z] false := fun ρ Q Q' h q => ma _ _ _ (fun _ _ z => ⟨z.1, mb _ _ _ (fun _ _ z => ⟨z.1, mc _ _ _ (fun _ _ z => ⟨z.1, h _ _ z.2⟩) z.2⟩) z.2⟩) q
  refine (pe_clK c hr hgd hk gl hp (pa_cons ha (pa_cons hb pa_nil he2) he) (pk_cons hc pk_nil) rfl rfl hd he (by rw [he, he2]; rfl)).weak fun σ H Q h => ?_
  have h := call_sp (ws := fun ρ Q => wa ρ fun x k => k ≠ .bor ∧ wb ρ fun y k => k ≠ .bor ∧ wc ρ fun z k => k ≠ .bor ∧ Q [Ar.v x, .v y, .v z] false) hC ms hmg h
  obtain ⟨H0, B, pn, fr, ρ, Z, tb, ok, w⟩ := h
  refine ⟨H0, B, pn, fr, ρ, Z, cb + (cc + tb), ok.lt (by omega), ma _ _ _ (fun d k q0 x H1 s1 r1 => ⟨H0, B, pn, fr, ρ, Z, cc + tb, (ok.to s1).lt (by omega), mb _ _ _ (fun d2 k2 q1 y H2 s2 r2 => ⟨H0, B, pn, fr, ρ, Z, tb, (ok.to s1).to s2, mc _ _ _ (fun d3 k3 q2 z H3 s3 r3 => ?_) q1.2⟩) q0.2⟩) w⟩
  have d1 := Dn.keep (keepZ (s2.trans s3) ok.pnz) (fun b z => .inl z) _ _ (r1.dn q0.1 ok.zt)
  have d2 := Dn.keep (keepZ s3 ok.pnz) (fun b z => .inl z) _ _ (r2.dn q1.1 (ok.to s1).zt)
  have d3 := r3.dn q2.1 ((ok.to s1).to s2).zt
  have key := q2.2 [x, y, z] H3 Z ((s1.trans s2).trans s3) (fun _ z => z) ok.pnz (fun _ _ z => z) ok.bz (.v d1 (.v d2 (.v d3 .nil)))
  exact ⟨rfl, rfl, by simpa using key⟩
end
end Y

namespace Y
open PySem PySem.Spec PyProof.Rows L2 M
/-! ### x[::-1], a list or a text -/
section
variable {X : Cx} {xw : Xw}
def tRev2 (K : PySem.W.Frag) (te : TE) : TE := fun σ H Q => te σ H fun x H1 => (∃ a xs, x = .ref a ∧ SqL K H1 a xs ∧ ∀ p, H1 p = none → Q (.ref p) (upd H1 p (.lst xs.reverse))) ∨ (∃ z, x = .str z ∧ z.length ≤ sizeLine ∧ Q (.str ⟨z.cps.toList.reverse.toArray⟩) H1)
theorem pe_rev2 {e : Expr} {te : TE} {k : Nat} {p1 p2 p3 pos : Pos} (he : PE X e te) : PE X (.Subscript e (.Slice none none (some (.UnaryOp .USub (.Constant (.int 1) k p1) p2)) p3) pos) (tRev2 X.K te) := by
  refine ⟨fun pins s σ H Q I h => ?_⟩
  refine Subscript_ (thn (he.run pins s σ H _ I h) fun v s1 ⟨x, H1, I1, r1, q1⟩ => ?_)
  have hst : PO X (some (.UnaryOp .USub (.Constant (.int 1) k p1) p2)) (tPart (tUn (rU fun i => .int (-i)) (tC (.int 1)))) := po_some (pe_un un_neg pe_int)
  refine wpAny_Slice (thn (po_none.run pins s1 σ H1 (fun o H2 => o = none ∧ H2 = H1) I1 ⟨rfl, rfl⟩) fun vl s2 ⟨l, H2, I2, pl, el, e2⟩ => ?_)
  subst el e2
  refine thn (po_none.run pins s2 σ H2 (fun o H3 => o = none ∧ H3 = H2) I2 ⟨rfl, rfl⟩) fun vu s3 ⟨u, H3, I3, pu, eu, e3⟩ => ?_
  subst eu e3
  refine thn (hst.run pins s3 σ H3 (fun o H4 => o = some (-1) ∧ H4 = H3) I3 ⟨1, rfl, -1, rfl, rfl, rfl⟩) fun vs s4 ⟨o, H4, I4, ps, eo, e4⟩ => ?_
  subst eo e4
  have I5 : Inv X pins σ H4 { s4 with heap := s4.heap.push { cls := .type "slice", data := .fields #[vl, vu, vs] } } := I4.kept (t' := s4.toks) fun b ob q => Heap.get?_push_of_some _ q
  rcases q1 with ⟨a, xs, rfl, hx, q⟩ | ⟨z, rfl, hz, q⟩
  · cases r1
    obtain ⟨its, r, ht, hz⟩ := I5.list hx
    have hlen := r.length
    show wpAny (model X.prog X.w) X.A (subscriptTail e (.Slice none none (some (.UnaryOp .USub (.Constant (.int 1) k p1) p2)) p3) (.ref a) (.ref s4.heap.objs.size)) (EP X pins σ Q) X.xe { s4 with heap := s4.heap.push { cls := .type "slice", data := .fields #[vl, vu, vs] } }
    refine tail_any (ops := [.ref a, .ref s4.heap.objs.size]) ht.isList.typeIs (PySem.slot_list_getitem.lookup) ?_ (by with_unfolding_all rfl)
    refine wpAny_getItem_list_slice ht.isList (Heap.IsSliceOf.new _ vl vu vs) pl pu ps (by decide) ?_ (by rw [List.size_toArray]; omega)
    rw [PySem.W.krv_pick]
    refine ⟨.ref _, _, I5.laid (t' := s4.toks) (o := .lst xs.reverse) (fun b ob q => Heap.get?_push_of_some _ q) (Nat.le_refl _) ?_, rfl, q _ (I5.hok.fresh (Nat.le_refl _))⟩
    exact ⟨by rw [List.length_reverse]; exact hz, _, 0, r.reverse, Heap.get?_push_size _ rfl⟩
  · obtain ⟨t, rfl⟩ := r1
    obtain ⟨l, rfl, el⟩ := IsPart.raw pl
    obtain ⟨u, rfl, eu⟩ := IsPart.raw pu
    obtain ⟨w, rfl, ew⟩ := IsPart.raw ps
    show wpAny (model X.prog X.w) X.A (subscriptTail e (.Slice none none (some (.UnaryOp .USub (.Constant (.int 1) k p1) p2)) p3) (.str z t) (.ref s4.heap.objs.size)) (EP X pins σ Q) X.xe _
    refine tail_any (ops := [.str z t, .ref s4.heap.objs.size]) (typeIs_str _ _ _) (F.slot_str_getitem.lookup) ?_ (by with_unfolding_all rfl)
    refine wpAny_getItem_str_slice (l := l) (u := u) (st := w) ⟨_, Heap.get?_push_size _ rfl, rfl, rfl⟩ (by rw [ew]; rfl) ?_
    have pk : (PySem.slicePicked z l u w).filterMap (z.cps[·]?) = z.cps.toList.reverse := by
      unfold PySem.slicePicked
      rw [el, eu, ew]
      show (sliceRange ((z.cps.size : Int) - 1) (-1) (-1)).filterMap (z.cps[·]?) = _
      rw [PySem.W.krv_sliceRange, PySem.W.krv_range, List.filterMap_reverse, PySem.W.krv_all]
    have sm : PySem.sliceMade z t l u w = .str ⟨z.cps.toList.reverse.toArray⟩ := by
      unfold PySem.sliceMade
      rw [pk, ew]
      rfl
    rw [sm]
    have hl : (⟨z.cps.toList.reverse.toArray⟩ : Str).length ≤ sizeLine := by
      have : (⟨z.cps.toList.reverse.toArray⟩ : Str).length = z.length := by simp [Str.length]
      rw [this]; exact hz
    exact ⟨hl, .str _, H4, I5.tok _, ⟨_, rfl⟩, q⟩
/-- x[::-1] by deep values -/
theorem y_rev {ca : Nat} {e : Expr} {wa : En → VQ → Prop} {k : Nat} {p1 p2 p3 pos : Pos} (ma : MonoW wa) (he : PE X e (tX X.K xw ca wa)) :
    PE X (.Subscript e (.Slice none none (some (.UnaryOp .USub (.Constant (.int 1) k p1) p2)) p3) pos) (tX X.K xw ca fun ρ Q => wa ρ fun x _ => match x with
      | .list ds => Q (.list ds.reverse) .own
      | .str z => z.length ≤ sizeLine ∧ Q (.str ⟨z.cps.toList.reverse.toArray⟩) .shr
      | _ => False) := by
  refine (pe_rev2 he).weak fun σ H Q ⟨H0, B, pn, fr, ρ, Z, tb, ok, w⟩ => ?_
  refine ⟨H0, B, pn, fr, ρ, Z, tb, ok, ma _ _ _ (fun d k q x H1 s1 r1 => ?_) w⟩
  cases d with
  | list ds =>
    obtain ⟨a, xs, rfl, sx, n⟩ := (r1.dr ok.pnt).list
    exact .inl ⟨a, xs, rfl, SqL.of sx, fun p np => q _ _ (s1.trans ((ok.to s1).ss (M.same_upd np))) (RX.back (rx_lst np n.reverse) s1)⟩
  | str z => exact .inr ⟨z, (r1.dr ok.pnt).str, q.1, q.2 _ H1 s1 (.str _)⟩
  | _ => exact q.elim
end
end Y

namespace L2
open PySem PySem.Spec PyProof.Rows
/-! ### enumerate(a text) -/
def Ites (x : Str) : It := ⟨fun i _ => i < x.cps.size, fun i H v H' => ∃ T c, v = .ref T ∧ H T = none ∧ H' = upd H T (.tup [.int (i : Nat), .str ⟨#[c]⟩]) ∧ x.cps[i]? = some c, fun i _ => x.cps.size ≤ i⟩
theorem turn_enumS {P : Program} {w : World} {K : PySem.W.Frag} {elts : List Expr} {kk : Nat} {tpos : Pos} (x : Str) (t : Tok) (e it : Addr) :
    Turn P w K (.Tuple elts kk tpos) (Ites x) [e, it] e (fun i h => (∃ old, IsEnum h e it ((i : Nat) : Int) old) ∧ h.IsStrIter it (strIterType x) x t i ∧ e ≠ it ∧ i ≤ x.cps.size) where
  mem := by simp
  obj := fun i h st b hb => by
    obtain ⟨⟨old, he⟩, ⟨o, ho, hc, hd⟩, _⟩ := st
    have e' : b = e ∨ b = it := by simpa using hb
    rcases e' with z | z
    · rw [z]; exact ⟨_, he, fun v q => nomatch q⟩
    · rw [z]; exact ⟨o, ho, fun v q => by rw [hd] at q; cases q⟩
  keep := fun i h h' st k => let ⟨⟨old, he⟩, ⟨o, ho, r⟩, hne⟩ := st; ⟨⟨old, k e (by simp) _ he⟩, ⟨o, k it (by simp) o ho, r⟩, hne⟩
  item := by
    intro X hP hw hK hc i pins s σ H E I hf st hg
    subst hP hw hK
    obtain ⟨⟨old, he⟩, hit, hne, hle⟩ := st
    have D : Draws X.prog X.w X.A.in1 it [it] x.cps.size (fun i v => ∃ c u, x.cps[i]? = some c ∧ v = .str ⟨#[c]⟩ u) (fun i h => h.IsStrIter it (strIterType x) x t i) := by
      unfold strIterType
      split
      · exact Draws.strAscii (show X.A.in1.handled = none from I.ok.hd hc) it x t
      · exact Draws.strWide (show X.A.in1.handled = none from I.ok.hd hc) it x t
    have hel : e < s.heap.objs.size := Heap.lt_size he
    have hil : it < s.heap.objs.size := by obtain ⟨_, q, _⟩ := hit; exact Heap.lt_size q
    refine wpAny_pyNext_enum_itemD D he hit hg hne (by simpa using hne) fun u h' tk hP ho hit' hT hsz hk => ?_
    obtain ⟨c, u', hcx, rfl⟩ := hP
    refine ⟨_, rfl, wpAny_letOwnedTupleGo_enum (s := { s with heap := h', toks := tk + 1 }) ho fun h'' he' sb => ?_⟩
    have hT2 : h''.get? s.heap.objs.size = some { cls := .type "tuple", data := .seq #[.int i tk, .str ⟨#[c]⟩ u'] } := (sb.2 _ (Nat.ne_of_gt hel)).trans hT
    have new : ObjOk X.prog X.w (upd H s.heap.objs.size (.tup [.int (i : Nat), .str ⟨#[c]⟩])) h'' s.heap.objs.size (.tup [.int (i : Nat), .str ⟨#[c]⟩]) :=
      ⟨by show 2 ≤ sizeLine; decide, [.int i tk, .str ⟨#[c]⟩ u'], .cons ⟨_, rfl⟩ (.cons ⟨_, rfl⟩ .nil), ⟨_, hT2, rfl, _, rfl⟩⟩
    have I1 : Inv X pins σ (upd H s.heap.objs.size (.tup [.int (i : Nat), .str ⟨#[c]⟩])) { s with heap := h'', toks := tk + 1 } :=
      I.turnedNew (ch := [e, it]) (fun b ob hb q => (sb.2 b (fun z => hb (by simp [z]))).trans (hk b ob (fun z => hb (by simp [z])) (fun z => hb (by simp [z])) q)) hf (Nat.le_refl _) new
    refine ⟨.ref s.heap.objs.size, _, I1, rfl, ⟨_, c, rfl, I.hok.fresh (Nat.le_refl _), rfl, hcx⟩, ⟨⟨.str ⟨#[c]⟩ u', ?_⟩, ?_, hne, hg⟩, fun b hb => ?_⟩
    · have e1 : ((i + 1 : Nat) : Int) = (i : Int) + 1 := by omega
      rw [e1]; exact he'
    · obtain ⟨o, h1, h2⟩ := hit'
      exact ⟨o, (sb.2 it (Ne.symm hne)).trans h1, h2⟩
    · have hb' : b < s.heap.objs.size := by
        have e' : b = e ∨ b = it := by simpa using hb
        rcases e' with z | z
        · rw [z]; exact hel
        · rw [z]; exact hil
      rw [upd_ne (Nat.ne_of_lt hb')]
      exact (hf b hb).1
  done := by
    intro X hP hw hK hc i pins s σ H E I hf st hg
    subst hP hw hK
    obtain ⟨⟨old, he⟩, hit, hne, hle⟩ := st
    have ei : i = x.cps.size := Nat.le_antisymm hle hg
    subst ei
    obtain ⟨f0, f1, f2, f3, f4, f5⟩ := hf it (by simp)
    have D : Draws X.prog X.w X.A.in1 it [it] x.cps.size (fun i v => ∃ c u, x.cps[i]? = some c ∧ v = .str ⟨#[c]⟩ u) (fun i h => h.IsStrIter it (strIterType x) x t i) := by
      unfold strIterType
      split
      · exact Draws.strAscii (show X.A.in1.handled = none from I.ok.hd hc) it x t
      · exact Draws.strWide (show X.A.in1.handled = none from I.ok.hd hc) it x t
    exact wpAny_pyNext_enum_endD D he hit fun h' eb => ⟨rfl, I.turned (t' := s.toks) (fun b o hb q => eb b o hb q) f0 f1 f3 f4 f5⟩
  self := fun A i s Q E st h => let ⟨⟨_, he⟩, _⟩ := st; wpAny_pyIter_enum he h
def iEnumS (ta : TA) : TI := fun σ H R => ta σ H fun vs H1 => ∃ x, vs = [.str x] ∧ R (Ites x) H1
/-! ### enumerate(a tuple) -/
def Itet (K : PySem.W.Frag) (a : Addr) : It :=
  ⟨fun i H => ∃ xs x, SqT K H a xs ∧ xs[i]? = some x,
    fun i H v H' => ∃ T x, v = .ref T ∧ H T = none ∧ H' = upd H T (.tup [.int (i : Nat), x]) ∧ ∀ xs, SqT K H a xs → xs[i]? = some x,
    fun i H => ∃ xs, SqT K H a xs ∧ xs.length ≤ i⟩
theorem drawsT {prog : Program} {w : World} {A : Around} (hh : A.handled = none) (it l : Addr) (ne : l ≠ it) (its : Array Value) : Draws prog w A it [it, l] its.size (fun i v => its[i]? = some v) (fun i h => h.IsTupleIter it l i ∧ h.IsTuple l its) :=
  ⟨fun _ _ st => st.1.elim fun o z => ⟨o, z.1⟩, fun _ _ _ st k => ⟨st.1.at fun o e => k it (by simp) o e, st.2.at fun o e => k l (by simp) o e⟩,
    fun i s Q E hi st q => RZ.nextOf_tuple_item st.1 st.2 (show its[i]? = some its[i] by simp [hi]) fun h' a b => q _ h' s.toks (by simp [hi]) ⟨a, st.2.extBut b.extBut ne⟩ b,
    fun s Q E st q => RZ.nextOf_tuple_end hh st.1 st.2 (by simp) q⟩
theorem turn_enumT {P : Program} {w : World} {K : PySem.W.Frag} {elts : List Expr} {kk : Nat} {tpos : Pos} (a e it : Addr) (nai : a ≠ it) (nae : a ≠ e) :
    Turn P w K (.Tuple elts kk tpos) (Itet K a) [e, it] e (fun i h => (∃ old, IsEnum h e it ((i : Nat) : Int) old) ∧ h.IsTupleIter it a i ∧ e ≠ it) where
  mem := by simp
  obj := fun i h st b hb => by
    obtain ⟨⟨old, he⟩, ⟨o, ho, hc, hd⟩, _⟩ := st
    rcases (by simpa using hb : b = e ∨ b = it) with z | z
    · subst z; exact ⟨_, he, fun v q => nomatch q⟩
    · subst z; exact ⟨o, ho, fun v q => by rw [hd] at q; cases q⟩
  keep := fun i h h' st k => st.1.elim fun old he => ⟨⟨old, k e (by simp) _ he⟩, st.2.1.at fun o q => k it (by simp) o q, st.2.2⟩
  item := by
    intro X hP hw hK hc i pins s σ H E I hf st hg
    subst hP hw hK
    obtain ⟨⟨old, he⟩, hit, hne⟩ := st
    obtain ⟨xs, x, hq, hx⟩ := hg
    obtain ⟨its, rv, p, hz⟩ := I.tuple hq
    obtain ⟨u, hu, ru⟩ := rv.get hx
    have hil : it < s.heap.objs.size := hit.elim fun _ q => Heap.lt_size q.1
    have D := drawsT (prog := X.prog) (w := X.w) (show X.A.in1.handled = none from I.ok.hd hc) it a nai its.toArray
    have hi : i < its.toArray.size := by simpa using (List.getElem?_eq_some_iff.mp hu).1
    refine wpAny_pyNext_enum_itemD D he ⟨hit, show s.heap.IsTuple a its.toArray from p⟩ hi hne (by simp [hne, nae.symm]) fun u' h' tk hP ho hst hT hsz hk => ?_
    obtain rfl : u' = u := by have : its[i]? = some u' := by simpa using hP
                              rw [hu] at this; exact (Option.some.inj this).symm
    refine ⟨_, rfl, wpAny_letOwnedTupleGo_enum (s := { s with heap := h', toks := tk + 1 }) ho fun h'' he' sb => ?_⟩
    have hT2 := (sb.2 _ (Nat.ne_of_gt (Heap.lt_size he))).trans hT
    have new : ObjOk X.prog X.w (upd H s.heap.objs.size (.tup [.int (i : Nat), x])) h'' s.heap.objs.size (.tup [.int (i : Nat), x]) := ⟨by show 2 ≤ sizeLine; decide, [.int i tk, u'], .cons ⟨_, rfl⟩ (.cons ru .nil), ⟨_, hT2, rfl, _, rfl⟩⟩
    have I1 : Inv X pins σ (upd H s.heap.objs.size (.tup [.int (i : Nat), x])) ({ s with heap := h'', toks := tk + 1 } : Shared) :=
      I.turnedNew (ch := [e, it]) (fun b ob hb q => (sb.2 b (fun z => hb (by simp [z]))).trans (hk b ob (fun z => hb (by simp [z])) (fun z => hb (by simp [z])) q)) hf (Nat.le_refl _) new
    refine ⟨.ref s.heap.objs.size, _, I1, rfl, ⟨_, x, rfl, I.hok.fresh (Nat.le_refl _), rfl, fun ys hy => by rw [I.tuple_inj hy hq]; exact hx⟩, ⟨⟨u', by rw [show ((i + 1 : Nat) : Int) = (i : Int) + 1 by omega]; exact he'⟩, hst.1.at fun o q => (sb.2 it (Ne.symm hne)).trans q, hne⟩, fun b hb => ?_⟩
    have hb' : b < s.heap.objs.size := (by simpa using hb : b = e ∨ b = it).elim (fun z => by rw [z]; exact Heap.lt_size he) fun z => by rw [z]; exact hil
    rw [upd_ne (Nat.ne_of_lt hb')]; exact (hf b hb).1
  done := by
    intro X hP hw hK hc i pins s σ H E I hf st hg
    subst hP hw hK
    obtain ⟨⟨old, he⟩, hit, hne⟩ := st
    obtain ⟨xs, hq, hx⟩ := hg
    obtain ⟨its, rv, p, hz⟩ := I.tuple hq
    obtain ⟨f0, f1, f2, f3, f4, f5⟩ := hf it (by simp)
    have hl := rv.length
    refine wpAny_pyNext_enum_endD (n := i) (fp := [it, a]) (P := fun _ _ => False) (St := fun j h => j = i ∧ h.IsTupleIter it a i ∧ h.IsTuple a its.toArray) ⟨fun _ _ st => st.2.1.elim fun o z => ⟨o, z.1⟩, fun _ _ _ st k => ⟨st.1, st.2.1.at fun o e => k it (by simp) o e, st.2.2.at fun o e => k a (by simp) o e⟩, fun j s Q E hj st q => absurd (st.1 ▸ hj) (Nat.lt_irrefl _),
      fun s Q E st q => RZ.nextOf_tuple_end (show X.A.in1.handled = none from I.ok.hd hc) st.2.1 st.2.2 (by simp; omega) q⟩ he ⟨rfl, hit, show s.heap.IsTuple a its.toArray from p⟩ fun h' eb => ⟨rfl, I.turned (t' := s.toks) (fun b o hb q => eb b o hb q) f0 f1 f3 f4 f5⟩
  self := fun A i s Q E st h => st.1.elim fun _ he => wpAny_pyIter_enum he h
theorem meets_enum_newT (l : Addr) (items : Array Value) (n : Nat) (dct : Option Addr) (sl : Array (Option Value)) :
    Meets (Builtin.«enumerate.__new__» ⟨[.type "enumerate", .ref l], []⟩) (fun _ R s => s.heap.get? l = some { cls := .type "tuple", dict := dct, data := .seq items n, slots := sl } ∧ R (.ok (.ret (.ref (s.heap.push { cls := .type "tuple_iterator", data := .fields #[.ref l, .int 0 0] }).objs.size)))
      { s with heap := (s.heap.push { cls := .type "tuple_iterator", data := .fields #[.ref l, .int 0 0] }).push { cls := .type "enumerate", data := .fields #[.none, .bool false, .ref s.heap.objs.size, rawInt 0, .none, .none] } }) :=
  .of_wp fun prog w A R s h => by
    obtain ⟨hp, g, d, tk, os⟩ := s
    obtain ⟨hl, h⟩ := h
    have hsub := sub_enumerate
    have hL : Heap.IsTuple (Shared.heap ⟨hp, g, d, tk, os⟩) l items := ⟨_, hl, rfl, n, rfl⟩
    wp_walk using wpAny_loadPart' hl
    refine wpAny_stack_any fun st => wpAny_pure ?_
    split
    · rename_i c _ _ _ _ _
      cases (c == Value.type "enumerate") <;> (wp_walk using wpAny_loadPart' hl, wpAny_pyIter_tuple hL; exact ⟨_, rfl, h⟩)
    · wp_walk using wpAny_loadPart' hl, wpAny_pyIter_tuple hL
      exact ⟨_, rfl, h⟩
theorem call_enumT {prog : Program} {w : World} {A : Around} {E : Value → Shared → Prop} {s : Shared} {l : Addr} {items : Array Value} {Q : Value → Shared → Prop} (hL : s.heap.IsTuple l items)
    (h : ∀ h', IsEnum h' (s.heap.objs.size + 1) s.heap.objs.size 0 .none → h'.IsTupleIter s.heap.objs.size l 0 → (∀ b o, s.heap.get? b = some o → h'.get? b = some o) → Q (.ref (s.heap.objs.size + 1)) { s with heap := h' }) : wpAny (model prog w) A (call (.type "enumerate") [.ref l]) Q E s := by
  obtain ⟨⟨c, dct, dt, sl⟩, hl, hc, n, hd⟩ := hL
  obtain rfl : c = .type "tuple" := hc
  obtain rfl : dt = .seq items n := hd
  refine callType_new F.called_enumerate (by decide) (F.typeCall_enumerate_1 _) (F.newCall_enumerate_1 _) (fun obj => F.args_object_init_2 obj _) F.entry_enumerate_new (meets_enum_newT l items n dct sl) ⟨hl, ?_⟩
  have hz : (s.heap.push ({ cls := .type "tuple_iterator", data := .fields #[.ref l, .int 0 0] } : Obj)).objs.size = s.heap.objs.size + 1 := Heap.size_push ..
  show _ ∧ _
  rw [hz]
  have he : IsEnum ((s.heap.push ({ cls := .type "tuple_iterator", data := .fields #[.ref l, .int 0 0] } : Obj)).push ({ cls := .type "enumerate", data := .fields #[.none, .bool false, .ref s.heap.objs.size, rawInt 0, .none, .none] } : Obj)) (s.heap.objs.size + 1) s.heap.objs.size 0 .none := by
    have q := Heap.get?_push_size (s.heap.push ({ cls := .type "tuple_iterator", data := .fields #[.ref l, .int 0 0] } : Obj)) (o := { cls := .type "enumerate", data := .fields #[.none, .bool false, .ref s.heap.objs.size, rawInt 0, .none, .none] }) rfl
    rw [hz] at q; exact q
  exact ⟨⟨_, he, rfl⟩, h _ he ⟨_, Heap.get?_push_of_some _ (Heap.get?_push_size _ rfl), rfl, rfl⟩ fun b o x => Heap.get?_push_of_some _ (Heap.get?_push_of_some _ x)⟩
end L2
namespace Y
open PySem PySem.Spec PyProof.Rows L2 M
theorem jok_enumT {K : PySem.W.Frag} {pn : List Addr} {a : Addr} {ds : List D} : JOk K pn (Itet K a) [(.ref a, .tuple ds)] (enumL ds) := by
  intro H Z i zt h
  obtain ⟨b, xs, e, s, n⟩ := (h _ List.mem_cons_self).tup
  cases e
  have l := n.length
  rw [enum_len]
  refine ⟨fun e => ⟨xs, s.sq, by omega⟩, fun hi => ?_⟩
  obtain ⟨d, hd⟩ : ∃ d, ds[i]? = some d := ⟨ds[i], by simp [hi]⟩
  obtain ⟨x, hx, dn⟩ := n.get hd
  refine ⟨⟨xs, x, s.sq, hx⟩, fun y H2 hy => ?_⟩
  obtain ⟨T, x', rfl, hT, rfl, hy⟩ := hy
  have e := hy xs s.sq
  rw [hx] at e
  cases e
  exact ⟨M.same_upd hT, _, enum_get ds i d hd, new_pair zt hT (.int _) dn⟩
theorem jok_enumS {K : PySem.W.Frag} {pn : List Addr} {z : Str} {fv : List (V × D)} : JOk K pn (Ites z) fv (enumL (z.cps.toList.map fun c => .str ⟨#[c]⟩)) := by
  intro H Z i zt h
  rw [enum_len]
  refine ⟨fun e => ?_, fun hi => ⟨?_, fun y H2 hy => ?_⟩⟩
  · show z.cps.size ≤ i
    simp at e; omega
  · show i < z.cps.size
    simpa using hi
  · obtain ⟨T, c, rfl, hT, rfl, hc⟩ := hy
    exact ⟨M.same_upd hT, _, enum_get _ i (.str ⟨#[c]⟩) (by simp [hc]), new_pair zt hT (.int _) (.str _)⟩
section
variable {X : Cx} {xw : Xw}
/-- enumerate(e), e a list or a text -/
theorem i_enum2 {ca : Nat} {e : Expr} {elts : List Expr} {kk : Nat} {tp : Pos} {wa : En → VQ → Prop} {nb : Bool} {p pos : Pos} (gl : Gl X "enumerate") (hm : X.mg "enumerate" = none) (hs : starEach [e] X.env = [(false, eval e X.env)]) (ma : MonoW wa) (hb : nb = true → ∀ ρ Q, wa ρ Q → wa ρ fun d k => k ≠ .bor ∧ Q d k) (h : PE X e (tX X.K xw ca wa)) :
    PI X (.Tuple elts kk tp) (.Call (.Name "enumerate" p) [e] [] pos) (tI X.K xw nb ca fun ρ Q => wa ρ fun x _ => match listS x with | some ds => Q (enumL ds) | none => False) := by
  refine ⟨fun pins s σ H R I ⟨H0, B, pn, fr, ρ, Z, tb, ok, w⟩ => ?_⟩
  have w' : wa ρ fun x k => (nb = true → k ≠ .bor) ∧ match listS x with | some ds => ∀ J H' fv, HStep tb pn H H' → (∀ p ∈ fv, Dr X.K pn H' Z p.1 p.2 ∧ (nb = true → Dn X.K H' Z p.1 p.2)) → JOk X.K pn J fv (enumL ds) → R J H' | none => False := by
    cases nb with
    | true => exact ma _ _ _ (fun d k q => ⟨fun _ => q.1, q.2⟩) (hb rfl _ _ w)
    | false => exact ma _ _ _ (fun d k q => ⟨(fun z => nomatch z), q⟩) w
  refine Call_ (ld_blt I gl hm boot_enumerate (PyProof.Rows.callWith_type1 (thn ((pa_cons h pa_nil hs).run pos pins s σ H (fun vs H1 => ∃ v d, vs = [v] ∧ Dr X.K pn H1 Z v d ∧ ∃ ds, listS d = some ds ∧ ∀ J fv, (∀ p ∈ fv, p = (v, d)) → JOk X.K pn J fv (enumL ds) → R J H1) I ⟨H0, B, pn, fr, ρ, Z, tb, ok, ma _ _ _ (fun d k q v H1 s1 r1 => ?_) w'⟩) fun us s1 ⟨vs, H1, I1, r1, q1⟩ => ?_) hs rfl))
  · have hd := r1.dr ok.pnt
    refine ⟨v, d, rfl, hd, ?_⟩
    obtain ⟨q1, q2⟩ := q
    split at q2
    · rename_i ds e1
      refine ⟨ds, e1, fun J fv hfv hJ => q2 J H1 fv s1 (fun p hp => ?_) hJ⟩
      have ep := hfv p hp
      subst ep
      exact ⟨hd, fun z => r1.dn (q1 z) ok.zt⟩
    · exact q2.elim
  · obtain ⟨v, d, rfl, hd, ds, e1, q⟩ := q1
    obtain ⟨u, rfl, rv⟩ := vals1 r1
    cases d with
    | list ds' =>
      have e9 : ds' = ds := by simpa [listS] using e1
      subst e9
      obtain ⟨a, xs, rfl, s2, n2⟩ := hd.list
      cases rv
      obtain ⟨its, rv, p', hz⟩ := I1.list (SqL.of s2)
      refine call_enumerate_list p'.isList fun h' he hit hsz hk => wpAny_pyIter_enum he ?_
      have I2 : Inv X pins σ H1 { s1 with heap := h' } := I1.kept (t' := s1.toks) hk
      refine ⟨s1.heap.objs.size + 1, [s1.heap.objs.size + 1, s1.heap.objs.size], _, _, H1, rfl, I2, turn_enum a (s1.heap.objs.size + 1) s1.heap.objs.size, ⟨⟨.none, he⟩, hit, Nat.succ_ne_self _⟩, fun b hb => ?_, q _ [(.ref a, .list ds')] (fun p hp => by simpa using hp) jok_enum⟩
      have e' : b = s1.heap.objs.size + 1 ∨ b = s1.heap.objs.size := by simpa using hb
      have hle : s1.heap.objs.size ≤ b := by
        rcases e' with z | z
        · rw [z]; exact Nat.le_add_right _ _
        · rw [z]; exact Nat.le_refl _
      exact I1.fpOk hle (I1.hok.fresh hle)
    | tuple ds' =>
      have e9 : ds' = ds := by simpa [listS] using e1
      subst e9
      obtain ⟨a, xs, rfl, s2, n2⟩ := hd.tup
      cases rv
      obtain ⟨its, rv, p', hz⟩ := I1.tuple s2.sq
      have p' : s1.heap.IsTuple a its.toArray := p'
      have la : a < s1.heap.objs.size := p'.elim fun _ q => Heap.lt_size q.1
      refine call_enumT p' fun h' he hit hk => wpAny_pyIter_enum he ?_
      have I2 : Inv X pins σ H1 { s1 with heap := h' } := I1.kept (t' := s1.toks) hk
      refine ⟨s1.heap.objs.size + 1, [s1.heap.objs.size + 1, s1.heap.objs.size], _, _, H1, rfl, I2, turn_enumT a (s1.heap.objs.size + 1) s1.heap.objs.size (Nat.ne_of_lt la) (Nat.ne_of_lt (Nat.lt_succ_of_lt la)), ⟨⟨.none, he⟩, hit, Nat.succ_ne_self _⟩, fun b hb => ?_, q _ [(.ref a, .tuple ds')] (fun p hp => by simpa using hp) jok_enumT⟩
      have hle : s1.heap.objs.size ≤ b := (by simpa using hb : b = s1.heap.objs.size + 1 ∨ b = s1.heap.objs.size).elim (fun z => by rw [z]; exact Nat.le_add_right _ _) fun z => by rw [z]; exact Nat.le_refl _
      exact I1.fpOk hle (I1.hok.fresh hle)
    | str z =>
      cases e1
      rw [hd.str] at rv
      obtain ⟨t, rfl⟩ := rv
      refine call_enumerate_str fun h' he hit hsz hk => wpAny_pyIter_enum he ?_
      have I2 : Inv X pins σ H1 { s1 with heap := h' } := I1.kept (t' := s1.toks) hk
      refine ⟨s1.heap.objs.size + 1, [s1.heap.objs.size + 1, s1.heap.objs.size], _, _, H1, rfl, I2, turn_enumS z t (s1.heap.objs.size + 1) s1.heap.objs.size, ⟨⟨.none, he⟩, hit, Nat.succ_ne_self _, Nat.zero_le _⟩, fun b hb => ?_, q _ [] (fun p hp => nomatch hp) jok_enumS⟩
      have e' : b = s1.heap.objs.size + 1 ∨ b = s1.heap.objs.size := by simpa using hb
      have hle : s1.heap.objs.size ≤ b := by
        rcases e' with z | z
        · rw [z]; exact Nat.le_add_right _ _
        · rw [z]; exact Nat.le_refl _
      exact I1.fpOk hle (I1.hok.fresh hle)
    | _ => cases e1
end
end Y

namespace L2
open PySem PySem.Spec PyProof.Rows
theorem PS.weak {X : Cx} {s : Stmt} {t t' : TS} (h : PS X s t) (w : ∀ D σ H, t' D σ H → t D σ H) : PS X s t' := ⟨fun pins s σ H D I q => h.run pins s σ H D I (w D σ H q)⟩
theorem PSs.weak {X : Cx} {s : List Stmt} {t t' : TS} (h : PSs X s t) (w : ∀ D σ H, t' D σ H → t D σ H) : PSs X s t' := ⟨fun pins s σ H D I q => h.run pins s σ H D I (w D σ H q)⟩
end L2
namespace Y
open PySem PySem.Spec PyProof.Rows L2 M
section
variable {K : PySem.W.Frag} {xw : Xw} {H0 H H' : Hp} {B Z : Addr → Prop} {pn : List Addr} {tb tb2 : Nat} {fr : Fx} {σ : L2.St} {ρ : En}
/-! ### own slots shared, made -/
theorem set_same {ρ : En} {i : Nat} {s : Sl} (h : ρ[i]? = some s) : ρ.set i s = ρ := by
  apply List.ext_getElem?
  intro j
  by_cases e : i = j
  · subst e
    have hl : i < ρ.length := (List.getElem?_eq_some_iff.mp h).1
    rw [List.getElem?_set_self hl, h]
  · rw [List.getElem?_set_ne e]
theorem dem1_ok (ok : EnvOk K xw H0 B pn fr Z tb σ ρ H) (i : Nat) : ∃ Z', (∀ a, Z' a → Z a) ∧ EnvOk K xw H0 B pn fr Z' tb σ (ρ.set i (dem1 (ρ.getD i .emp))) H := by
  by_cases hl : i < ρ.length
  · have eg : ρ[i]? = some (ρ.getD i .emp) := by simp [List.getD, hl]
    cases es : ρ.getD i .emp with
    | own d =>
      rw [es] at eg
      obtain ⟨a, e1, ha, h0, hp, ho⟩ := ok.sl i _ eg
      have we : ∀ {v d}, Dn K H Z v d → Dn K H (fun b => Z b ∧ b ≠ a) v d := fun h => h.weak fun b z => z.1
      refine ⟨fun b => Z b ∧ b ≠ a, fun b z => z.1, ok.xo, ok.step, fun b z => ok.zt b z.1, fun b z => ⟨ok.bz b z, fun e => ok.bt b z (by rw [e]; exact h0)⟩, fun b z => ok.zb b z.1, ok.kn, ok.bt, fun b hb => ⟨⟨(ok.pz b hb).1, fun e => hp (by rw [← e]; exact hb)⟩, ?_⟩, by simpa using ok.len, fun j s e => ?_, fun j k d1 d2 b h1 h2 h3 h4 => ?_, fun p hp' => we (ok.fr p hp'), fun j C fs e => ?_⟩
      rotate_right
      · rcases getset e with ⟨_, z, _⟩ | ⟨_, e⟩
        · simp only [dem1] at z; cases z
        · refine ⟨(ok.ob j C fs e).1, (ok.ob j C fs e).2.keep (fun _ _ _ e => e) (fun _ z => .inl z.1) (fun b o h1 h2 h3 h4 => ⟨⟨h1, fun z => h3 ⟨i, d, eg, by rw [z]; exact e1⟩⟩, h2, h4⟩) fun b _ ⟨l, e2, h1, h2⟩ => ?_⟩
          rcases getset h1 with ⟨_, z, _⟩ | ⟨_, h1⟩
          · simp only [dem1] at z; cases z
          · exact ⟨l, e2, h1, h2⟩
      · exact (ok.pz b hb).2.weak fun b z => z.1
      · rcases getset e with ⟨rfl, rfl, _⟩ | ⟨ne, e⟩
        · refine ⟨.ref a, e1, OwnAt.dn ?_ fun z => z.2 rfl⟩
          exact ho.keep (fun _ _ _ e => e) (fun b z => .inl z.1) fun _ e => e
        · have h := ok.sl j s e
          cases s with
          | emp => trivial
          | val d => obtain ⟨v, e2, n⟩ := h; exact ⟨v, e2, we n⟩
          | own d' =>
            obtain ⟨b, e2, hb, hb0, hbp, hbo⟩ := h
            refine ⟨b, e2, ⟨hb, fun z => ?_⟩, hb0, hbp, hbo.keep (fun _ _ _ e => e) (fun b z => .inl z.1) fun _ e => e⟩
            subst z
            exact ne (ok.inj i j d d' b eg e e1 e2)
          | pen => exact h
          | scr n => obtain ⟨b, ns, e2, h1, h2⟩ := h; exact ⟨b, ns, e2, h1.keep (fun _ _ _ e => e) (fun b z => .inl z.1), h2⟩
          | gen g => obtain ⟨v, e1, h1⟩ := h; exact ⟨v, e1, g.keep _ _ _ _ _ _ (fun _ _ _ e => e) (fun b z => .inl z.1) h1⟩
          | obj _ _ => trivial
          | exc e => exact ExS.keep (fun _ _ _ e => e) (fun b z => .inl z.1) h
      · rcases getset h1 with ⟨_, z, _⟩ | ⟨n1, h1⟩
        · simp only [dem1] at z; cases z
        · rcases getset h2 with ⟨_, z, _⟩ | ⟨n2, h2⟩
          · simp only [dem1] at z; cases z
          · exact ok.inj j k d1 d2 b h1 h2 h3 h4
    | emp => exact ⟨Z, fun _ z => z, by rw [es] at eg; rw [show dem1 Sl.emp = Sl.emp from rfl, set_same eg]; exact ok⟩
    | val d => exact ⟨Z, fun _ z => z, by rw [es] at eg; rw [show dem1 (Sl.val d) = Sl.val d from rfl, set_same eg]; exact ok⟩
    | pen => exact ⟨Z, fun _ z => z, by rw [es] at eg; rw [show dem1 Sl.pen = Sl.pen from rfl, set_same eg]; exact ok⟩
    | scr n => exact ⟨Z, fun _ z => z, by rw [es] at eg; rw [show dem1 (Sl.scr n) = Sl.scr n from rfl, set_same eg]; exact ok⟩
    | gen g => exact ⟨Z, fun _ z => z, by rw [es] at eg; rw [show dem1 (Sl.gen g) = Sl.gen g from rfl, set_same eg]; exact ok⟩
    | obj C fs => exact ⟨Z, fun _ z => z, by rw [es] at eg; rw [show dem1 (Sl.obj C fs) = Sl.obj C fs from rfl, set_same eg]; exact ok⟩
    | exc e => exact ⟨Z, fun _ z => z, by rw [es] at eg; rw [show dem1 (Sl.exc e) = Sl.exc e from rfl, set_same eg]; exact ok⟩
  · refine ⟨Z, fun _ z => z, ?_⟩
    rw [List.set_eq_of_length_le (by omega)]
    exact ok
theorem dem_ok : ∀ (is : List Nat) {Z : Addr → Prop} {ρ : En}, EnvOk K xw H0 B pn fr Z tb σ ρ H → ∃ Z', (∀ a, Z' a → Z a) ∧ EnvOk K xw H0 B pn fr Z' tb σ (dem ρ is) H
  | [], Z, ρ, ok => ⟨Z, fun _ z => z, ok⟩
  | i :: is, Z, ρ, ok => by
    obtain ⟨Z1, h1, ok1⟩ := dem1_ok ok i
    obtain ⟨Z2, h2, ok2⟩ := dem_ok is ok1
    exact ⟨Z2, fun a z => h1 a (h2 a z), ok2⟩
theorem EnvOk.own (ok : EnvOk K xw H0 B pn fr Z tb σ ρ H) {a : Addr} {d : D} (i : Nat) (hn : H a = none) (s : HStep tb2 pn H H') (ho : OwnAt K H' (Zp Z a) a d) : EnvOk K xw H0 B pn fr (Zp Z a) tb2 (σ.set i (some (.ref a))) (ρ.set i (.own d)) H' := by
  have ok' := ok.more hn s ho.there
  have h0 : H0 a = none := ok.step.free hn
  have hp : a ∉ pn := fun z => ok.pnt a z hn
  have ne : ∀ (j : Nat) (e : D), ρ[j]? = some (.own e) → σ[j]? ≠ some (some (.ref a)) := fun j e h z => by
    obtain ⟨b, e1, _, _, _, h4⟩ := ok.sl j _ h
    rw [e1] at z
    cases z
    exact h4.there hn
  refine ⟨ok'.xo, ok'.step, ok'.zt, ok'.bz, ok'.zb, ok'.kn, ok'.bt, ok'.pz, by simpa using ok'.len, fun j t e => ?_, fun j k d1 d2 b h1 h2 h3 h4 => ?_, ok'.fr, fun j C fs e => ?_⟩
  rotate_right
  · rcases getset e with ⟨_, z, _⟩ | ⟨nj, e⟩
    · cases z
    · rw [List.getElem?_set_ne nj]
      refine ⟨(ok.ob j C fs e).1, (ok.ob j C fs e).2.keep (keepZ s ok.pnz) (fun b z => z.elim .inl fun e => .inr (by rw [e]; exact hn)) (fun b o h1 h2 _ h4 => ⟨.inl h1, h2, s.keep b o h2 h4⟩) fun b hb ⟨l, e2, h1, h2⟩ => ?_⟩
      rcases getset h1 with ⟨rfl, _, hl⟩ | ⟨nl, h1⟩
      · rw [List.getElem?_set_self (by rw [← ok.len]; exact hl)] at h2
        cases h2
        exact absurd hn hb
      · rw [List.getElem?_set_ne nl] at h2
        exact ⟨l, e2, h1, h2⟩
  · rcases getset e with ⟨rfl, rfl, hl⟩ | ⟨nej, e⟩
    · rw [List.getElem?_set_self (by rw [← ok.len]; exact hl)]
      exact ⟨a, rfl, .inr rfl, h0, hp, ho⟩
    · rw [List.getElem?_set_ne nej]
      exact ok'.sl j t e
  · rcases getset h1 with ⟨e1, z, hl⟩ | ⟨n1, h1⟩
    · rcases getset h2 with ⟨e2, _⟩ | ⟨n2, h2⟩
      · rw [← e1, ← e2]
      · subst e1
        rw [List.getElem?_set_self (by rw [← ok.len]; exact hl)] at h3
        rw [List.getElem?_set_ne n2] at h4
        cases h3
        exact absurd h4 (ne k d2 h2)
    · rcases getset h2 with ⟨e2, z, hl⟩ | ⟨n2, h2⟩
      · subst e2
        rw [List.getElem?_set_self (by rw [← ok.len]; exact hl)] at h4
        rw [List.getElem?_set_ne n1] at h3
        cases h4
        exact absurd h3 (ne j d1 h1)
      · rw [List.getElem?_set_ne n1] at h3
        rw [List.getElem?_set_ne n2] at h4
        exact ok'.inj j k d1 d2 b h1 h2 h3 h4
/-- a value put into a slot -/
theorem EnvOk.sto (ok : EnvOk K xw H0 B pn fr Z tb σ ρ H) (i : Nat) {v : V} {d : D} {k : Kd} (s : HStep tb2 pn H H') (r : RX K pn H H' Z v d k) (hk : k ≠ .bor) : ∃ Z', EnvOk K xw H0 B pn fr Z' tb2 (σ.set i (some v)) (ρ.set i (slK d k)) H' := by
  cases k with
  | shr => exact ⟨Z, (ok.to s).val i r⟩
  | own =>
    obtain ⟨a, rfl, hn, ho⟩ := r
    exact ⟨_, ok.own i hn s ho⟩
  | bor => exact absurd rfl hk
  | gen _ => exact r.elim
/-- an own container changed -/
theorem EnvOk.chg (ok : EnvOk K xw H0 B pn fr Z tb σ ρ H) {i : Nat} {a : Addr} {o : HO} {d d' : D} (e : ρ[i]? = some (.own d)) (e1 : σ[i]? = some (some (.ref a))) (ha : Z a) (h0 : H0 a = none) (hp : a ∉ pn) (ho : OwnAt K (L2.upd H a o) Z a d') : EnvOk K xw H0 B pn fr Z tb σ (ρ.set i (.own d')) (L2.upd H a o) := by
  have hx : NoExt H a := by
    obtain ⟨b, e2, _, _, _, h4⟩ := ok.sl i _ e
    rw [e1] at e2
    cases e2
    exact h4.noext
  have kz : ∀ b u, ¬ Z b → H b = some u → L2.upd H a o b = some u := fun b u n e => by
    rw [upd_ne (fun z => n (by rw [z]; exact ha))]; exact e
  have ke : ∀ b u, b ≠ a → H b = some u → L2.upd H a o b = some u := fun b u n e => by rw [upd_ne n]; exact e
  have th : ∀ b, H b ≠ none → L2.upd H a o b ≠ none := fun b h => by
    by_cases e : b = a
    · subst e; rw [upd_same]; exact fun z => nomatch z
    · rw [upd_ne e]; exact h
  refine ⟨ok.xo, ⟨fun b u n m e => ?_, fun d hd => ?_, fun b h => th b (ok.step.there b h), ok.bd.upd hp⟩, fun b h => th b (ok.zt b h), ok.bz, ok.zb, ok.kn, ok.bt, fun b hb => ⟨(ok.pz b hb).1, ?_⟩, by simpa using ok.len, fun j s es => ?_, fun j k d1 d2 b h1 h2 h3 h4 => ?_, fun p h => Dn.keep kz (fun b z => .inl z) _ _ (ok.fr p h), fun j C fs es => ?_⟩
  rotate_right
  · rcases getset es with ⟨_, z, _⟩ | ⟨_, es⟩
    · cases z
    · refine ⟨(ok.ob j C fs es).1, (ok.ob j C fs es).2.keep kz (fun _ z => .inl z) (fun b o h1 h2 h3 h4 => ⟨h1, h2, ke b o (fun z => h3 ⟨i, d, e, by rw [z]; exact e1⟩) h4⟩) fun b _ ⟨l, e2, h1, h2⟩ => ?_⟩
      rcases getset h1 with ⟨rfl, _, _⟩ | ⟨_, h1⟩
      · exact ⟨i, d, e, h2⟩
      · exact ⟨l, e2, h1, h2⟩
  · exact ke b u (fun z => by rw [z, h0] at e; cases e) (ok.step.keep b u n m e)
  · exact (ok.step.pen d hd).upd (fun z => hp (by rw [← z]; exact hd)) hx
  · exact (ok.pz b hb).2.move ((PenStep.refl _ _).upd (fun z => hp (by rw [← z]; exact hb)) hx) kz fun b z => .inl z
  · rcases getset es with ⟨rfl, rfl, _⟩ | ⟨ne, es⟩
    · exact ⟨a, e1, ha, h0, hp, ho⟩
    · have h := ok.sl j s es
      cases s with
      | emp => trivial
      | val d => obtain ⟨v, e1, h1⟩ := h; exact ⟨v, e1, Dn.keep kz (fun b z => .inl z) _ _ h1⟩
      | own d1 =>
        obtain ⟨b, e2, h1, h2, h3, h4⟩ := h
        refine ⟨b, e2, h1, h2, h3, h4.keep kz (fun c z => .inl z) fun u q => ke b u (fun z => ?_) q⟩
        subst z
        exact ne (ok.inj i j d d1 b e es e1 e2)
      | pen => obtain ⟨b, e1, h1, h2⟩ := h; exact ⟨b, e1, h1, ((PenStep.refl H b).upd (fun z => hp (by rw [← z]; exact h1)) hx).is h2⟩
      | scr n => obtain ⟨b, ns, e1, h1, h2⟩ := h; exact ⟨b, ns, e1, h1.keep kz (fun c z => .inl z), h2⟩
      | gen g => obtain ⟨v, e1, h1⟩ := h; exact ⟨v, e1, g.keep _ _ _ _ _ _ kz (fun b z => .inl z) h1⟩
      | obj _ _ => trivial
      | exc e => exact ExS.keep kz (fun b z => .inl z) h
  · have own_of : ∀ {j : Nat} {d1 : PyData}, (ρ.set i (.own d'))[j]? = some (.own d1) → ∃ d2, ρ[j]? = some (.own d2) := fun {j d1} h => by
      rcases getset h with ⟨rfl, _, _⟩ | ⟨_, h⟩
      · exact ⟨d, e⟩
      · exact ⟨d1, h⟩
    obtain ⟨x, h1⟩ := own_of h1
    obtain ⟨y, h2⟩ := own_of h2
    exact ok.inj j k x y b h1 h2 h3 h4
theorem EnvOk.frs {vs' : List (V × D)} (ok : EnvOk K xw H0 B pn fr Z tb σ ρ H) (h : ∀ p ∈ vs', Dn K H Z p.1 p.2) : EnvOk K xw H0 B pn ⟨vs', fr.mu⟩ Z tb σ ρ H := ⟨ok.xo, ok.step, ok.zt, ok.bz, ok.zb, ok.kn, ok.bt, ok.pz, ok.len, ok.sl, ok.inj, h, ok.ob⟩
end
/-! ### statements -/
def PnX (pn0 pn : List Addr) (H0 : Hp) : Prop := (∀ a ∈ pn0, a ∈ pn) ∧ ∀ a ∈ pn, a ∈ pn0 ∨ H0 a = none
def Lift (K : PySem.W.Frag) (xw : Xw) (H0 : Hp) (B : Addr → Prop) (pn0 : List Addr) (fr : Fx) (tb : Nat) (P : En → Prop) : L2.St → Hp → Prop := fun σ H => ∃ pn ρ Z, PnX pn0 pn H0 ∧ EnvOk K xw H0 B pn fr Z tb σ ρ H ∧ P ρ
structure Fits (K : PySem.W.Frag) (xw : Xw) (H0 : Hp) (B : Addr → Prop) (pn0 : List Addr) (fr : Fx) (tb : Nat) (P : Pq) (D : Ends) : Prop where
  nx : ∀ σ H, Lift K xw H0 B pn0 fr tb P.nx σ H → D.nx σ H
  bk : ∀ σ H, Lift K xw H0 B pn0 fr tb P.bk σ H → D.bk σ H
  ct : ∀ σ H, Lift K xw H0 B pn0 fr tb P.ct σ H → D.ct σ H
  rt : ∀ v d k H', HSt tb fr.mu pn0 H0 H' → k ≠ .bor → RXg K pn0 H0 H' B v d k → P.rt d k → D.rt v H'
  ex : P.ex = xw.E
abbrev tS (K : PySem.W.Frag) (xw : Xw) (c : Nat) (w : En → Pq → Prop) : TS := fun D σ H => ∃ H0 B pn0 fr P pn ρ Z tb, PnX pn0 pn H0 ∧ EnvOk K xw H0 B pn fr Z (c + tb) σ ρ H ∧ w ρ P ∧ Fits K xw H0 B pn0 fr tb P D
theorem PnX.hs {pn0 pn mu : List Addr} {H0 H : Hp} {tb : Nat} (p : PnX pn0 pn H0) (s : HSt tb mu pn H0 H) : HSt tb mu pn0 H0 H :=
  ⟨fun b o n m e => s.keep b o (fun z => (p.2 b z).elim n fun e0 => by rw [e0] at e; cases e) m e, fun d hd => s.pen d (p.1 d hd), s.there, s.bd.1, fun d hd => s.bd.2 d (p.1 d hd)⟩
section
variable {X : Cx} {xw : Xw}
theorem ss_nil : PSs X [] (tS X.K xw 0 fun ρ P => P.nx ρ) := PSs.weak pss_nil fun D σ H ⟨_, _, _, _, _, pn, ρ, Z, tb, px, ok, w, f⟩ => f.nx σ H ⟨pn, ρ, Z, px, ok.lt (by omega), w⟩
theorem ss_cons {c1 c2 : Nat} {s : Stmt} {r : List Stmt} {w1 w2 : En → Pq → Prop} (h1 : PS X s (tS X.K xw c1 w1)) (h2 : PSs X r (tS X.K xw c2 w2)) : PSs X (s :: r) (tS X.K xw (c1 + c2) fun ρ P => w1 ρ { P with nx := fun ρ' => w2 ρ' P }) := by
  refine PSs.weak (pss_cons h1 h2) fun D σ H ⟨H0, B, pn0, fr, P, pn, ρ, Z, tb, px, ok, w, f⟩ => ?_
  exact ⟨H0, B, pn0, fr, _, pn, ρ, Z, (c2 + tb), px, ok.lt (by omega), w, ⟨fun σ' H' ⟨pn', ρ', Z', px', ok', q⟩ => ⟨H0, B, pn0, fr, P, pn', ρ', Z', tb, px', ok', q, f⟩, fun σ' H' ⟨pn', ρ', Z', px', ok', q⟩ => f.bk σ' H' ⟨pn', ρ', Z', px', ok'.lt (by omega), q⟩, fun σ' H' ⟨pn', ρ', Z', px', ok', q⟩ => f.ct σ' H' ⟨pn', ρ', Z', px', ok'.lt (by omega), q⟩, fun v d k H' s => f.rt v d k H' (s.less (by omega)), f.ex⟩⟩
theorem s_pss {pos : Pos} : PS X (.Pass pos) (tS X.K xw 0 fun ρ P => P.nx ρ) := PS.weak ps_pass fun D σ H ⟨_, _, _, _, _, pn, ρ, Z, tb, px, ok, w, f⟩ => f.nx σ H ⟨pn, ρ, Z, px, ok.lt (by omega), w⟩
theorem s_never {e c : Option Expr} {pos : Pos} : PS X (.Raise e c pos) (tS X.K xw 0 fun _ _ => False) := PS.weak ps_never fun D σ H ⟨_, _, _, _, _, _, _, _, _, _, _, w, _⟩ => w
theorem s_brk {pos : Pos} : PS X (.Break pos) (tS X.K xw 0 fun ρ P => P.bk ρ) := PS.weak ps_break fun D σ H ⟨_, _, _, _, _, pn, ρ, Z, tb, px, ok, w, f⟩ => f.bk σ H ⟨pn, ρ, Z, px, ok.lt (by omega), w⟩
theorem s_cnt {pos : Pos} : PS X (.Continue pos) (tS X.K xw 0 fun ρ P => P.ct ρ) := PS.weak ps_continue fun D σ H ⟨_, _, _, _, _, pn, ρ, Z, tb, px, ok, w, f⟩ => f.ct σ H ⟨pn, ρ, Z, px, ok.lt (by omega), w⟩
theorem s_cond {ca cb cc : Nat} {c : Expr} {a b : List Stmt} {wc : XQ → En → (Bool → Prop) → Prop} {wa wb : En → Pq → Prop} {pos : Pos} (mc : MonoT (wc xw.E)) (hc : PT X c (tT X.K xw cc (wc xw.E))) (ha : PSs X a (tS X.K xw ca wa)) (hb : PSs X b (tS X.K xw cb wb)) :
    PS X (.If c a b pos) (tS X.K xw (ca + cb + cc) fun ρ P => wc P.ex ρ fun t => (t = true → wa ρ P) ∧ (t = false → wb ρ P)) := by
  refine PS.weak (ps_if hc ha hb) fun D σ H ⟨H0, B, pn0, fr, P, pn, ρ, Z, tb, px, ok, w, f⟩ => ?_
  dsimp only at w
  rw [f.ex] at w
  refine ⟨H0, B, pn, fr, ρ, Z, (ca + cb + tb), ok.lt (by omega), mc _ _ _ (fun t q H1 s1 => ?_) w⟩
  cases t with
  | true => exact iteT ⟨H0, B, pn0, fr, P, pn, ρ, Z, tb, px, (ok.to s1).lt (by omega), q.1 rfl, f⟩
  | false => exact iteF ⟨H0, B, pn0, fr, P, pn, ρ, Z, tb, px, (ok.to s1).lt (by omega), q.2 rfl, f⟩
/-- an expression ahead of a statement's end -/
theorem tX_st {ca : Nat} {wa : En → VQ → Prop} (ma : MonoW wa) {is : List Nat} {g : En → D → Kd → Pq → Prop} {D : Ends} {σ : L2.St} {H : Hp} {R : V → Hp → Prop}
    (h : tS X.K xw ca (fun ρ P => wa (dem ρ is) fun d k => g (dem ρ is) d k P) D σ H)
    (hR : ∀ H0 B pn0 fr P pn ρ Z tb tb' v d k H', PnX pn0 pn H0 → EnvOk X.K xw H0 B pn fr Z tb' σ ρ H → HStep tb pn H H' → RX X.K pn H H' Z v d k → g ρ d k P → Fits X.K xw H0 B pn0 fr tb P D → R v H') : tX X.K xw ca wa σ H R := by
  obtain ⟨H0, B, pn0, fr, P, pn, ρ, Z, tb, px, ok, w, f⟩ := h
  obtain ⟨Z', hz, ok'⟩ := dem_ok is ok
  exact ⟨H0, B, pn, fr, _, Z', tb, ok', ma _ _ _ (fun d k q v H' s r => hR H0 B pn0 fr P pn _ Z' tb _ v d k H' px ok' s r q f) w⟩
theorem tS_ex {c : Nat} {w w' : XQ → En → Pq → Prop} {D : Ends} {σ : L2.St} {H : Hp} (h : tS X.K xw c (fun ρ P => w P.ex ρ P) D σ H) : tS X.K xw c (fun ρ P => w xw.E ρ P) D σ H := by
  obtain ⟨H0, B, pn0, fr, P, pn, ρ, Z, tb, px, ok, q, f⟩ := h
  rw [f.ex] at q
  exact ⟨H0, B, pn0, fr, P, pn, ρ, Z, tb, px, ok, q, f⟩
variable {wa : XQ → En → VQ → Prop} {is : List Nat}
def gSet (i : Nat) : En → D → Kd → Pq → Prop := fun ρ d k P => k ≠ .bor ∧ P.nx (ρ.set i (slK d k))
theorem set_end {ca : Nat} {i : Nat} {D : Ends} {σ : L2.St} {H : Hp} (ma : MonoW (wa xw.E)) (h : tS X.K xw (ca) (fun ρ P => wa P.ex (dem ρ is) fun d k => gSet i (dem ρ is) d k P) D σ H) : tAsg (tX X.K xw ca (wa xw.E)) (gName i) D σ H := by
  refine tX_st ma (is := is) (g := gSet i) (tS_ex (w := fun E ρ P => wa E (dem ρ is) fun d k => gSet i (dem ρ is) d k P) (w' := fun _ _ _ => True) h) fun H0 B pn0 fr P pn ρ Z tb tb' v d k H' px ok s r q f => ?_
  obtain ⟨Z', ok'⟩ := ok.sto i s r q.1
  exact f.nx _ _ ⟨pn, _, Z', px, ok', q.2⟩
theorem s_set {ca : Nat} {i : Nat} {x : Str} {e : Expr} {pos pos' : Pos} (hN : X.N.Nodup) (hi : X.N[i]? = some x) (hx : Loc X.env.scope x) (hf : X.fn x = true ∨ X.env.scope.names.lookup x = some .local) (hs : swapsWith e (some (.Name x pos')) pos.line X.env = pure false) (ma : MonoW (wa xw.E)) (he : PE X e (tX X.K xw ca (wa xw.E))) :
    PS X (.Assign [.Name x pos'] e pos) (tS X.K xw (ca) fun ρ P => wa P.ex (dem ρ is) fun d k => gSet i (dem ρ is) d k P) := PS.weak (ps_set hN hi hx he hs hf) fun D σ H h => set_end ma h
def hTs (t : Tg) : En → D → Kd → Pq → Prop := fun ρ d k P => k ≠ .bor ∧ match setTg t d ρ with | some ρ' => P.nx ρ' | none => False
theorem s_tset {ca : Nat} {t : Tg} {tg e : Expr} {pos : Pos} (hg : PG X tg (gT X.K t)) (hs : swapsWithSole [tg] e pos.line X.env = pure false) (hw : swappedStores [tg] e X.env = pure none) (h1 : (assignEach [tg] X.env).map (·.2) = [assign tg X.env]) (ma : MonoW (wa xw.E)) (he : PE X e (tX X.K xw ca (wa xw.E))) :
    PS X (.Assign [tg] e pos) (tS X.K xw (ca) fun ρ P => wa P.ex (dem ρ is) fun d k => hTs t (dem ρ is) d k P) := by
  refine PS.weak (ps_asg he hg hs hw h1) fun D σ H h => ?_
  refine tX_st ma (is := is) (g := hTs t) (tS_ex (w := fun E ρ P => wa E (dem ρ is) fun d k => hTs t (dem ρ is) d k P) (w' := fun _ _ _ => True) h) fun H0 B pn0 fr P pn ρ Z tb tb' v d k H' px ok s r q f => ?_
  obtain ⟨q1, q2⟩ := q
  split at q2
  · rename_i ρ' e
    exact tg_ok (ok.to s) e (r.dn q1 ok.zt) fun σ' ok' _ => f.nx _ _ ⟨pn, _, Z, px, ok', q2⟩
  · exact q2.elim
def gRet : En → D → Kd → Pq → Prop := fun _ d k P => k ≠ .bor ∧ P.rt d k
theorem s_ret {ca : Nat} {e : Expr} {pos : Pos} (ma : MonoW (wa xw.E)) (he : PE X e (tX X.K xw ca (wa xw.E))) : PS X (.Return (some e) pos) (tS X.K xw (ca) fun ρ P => wa P.ex (dem ρ is) fun d k => gRet (dem ρ is) d k P) := by
  refine PS.weak (ps_ret he) fun D σ H h => ?_
  refine tX_st ma (is := is) (g := gRet) (tS_ex (w := fun E ρ P => wa E (dem ρ is) fun d k => gRet (dem ρ is) d k P) (w' := fun _ _ _ => True) h) fun H0 B pn0 fr P pn ρ Z tb tb' v d k H' px ok s r q f => ?_
  refine f.rt v d k H' (px.hs (ok.step.trans s)) q.1 (RXg.to ?_) q.2
  have r' := r.backS ok.step
  cases k with
  | shr => exact Dn.weak r' ok.bz
  | own =>
    obtain ⟨a, e, n, o⟩ := r'
    exact ⟨a, e, n, o.keep (fun _ _ _ e => e) (fun c z => z.elim (fun z => .inl (.inl (ok.bz c z))) fun z => .inl (.inr z)) fun _ e => e⟩
  | bor => exact absurd rfl q.1
  | gen _ => exact r'.elim
theorem s_retv {i : Nat} {x : Str} {p pos : Pos} (hN : X.N[i]? = some x) (hv : Vis X.env.scope x) (hd : (x == ("__debug__" : Str)) = false) (hcd : (x == ("__classdict__" : Str)) = false) :
    PS X (.Return (some (.Name x p)) pos) (tS X.K xw 0 fun ρ P => match ρ[i]? with | some (.val d) => P.rt d .shr | some (.own d) => P.rt d .own | some (.gen g) => P.rt .none (.gen g) | _ => False) := by
  refine PS.weak (ps_ret (pe_var hN hv hd hcd)) fun D σ H ⟨H0, B, pn0, fr, P, pn, ρ, Z, tb, px, ok, w, f⟩ => ?_
  dsimp only at w
  split at w
  · rename_i d e
    obtain ⟨v, e1, n⟩ := ok.sl i _ e
    exact ⟨v, e1, f.rt v d .shr H (px.hs (ok.step.less (by omega))) (fun z => nomatch z) (Dn.weak n ok.bz) w⟩
  · rename_i d e
    obtain ⟨a, e1, ha, h0, hp, ho⟩ := ok.sl i _ e
    refine ⟨.ref a, e1, f.rt _ d .own H (px.hs (ok.step.less (by omega))) (fun z => nomatch z) ⟨a, rfl, h0, ?_⟩ w⟩
    exact ho.keep (fun _ _ _ e => e) (fun c z => z.elim (fun z => .inl (ok.bz c z)) fun z => .inl (by rw [z]; exact ha)) fun _ e => e
  · rename_i g e
    obtain ⟨v, e1, h⟩ := ok.sl i _ e
    exact ⟨v, e1, f.rt v .none (.gen g) H (px.hs (ok.step.less (by omega))) (fun z => nomatch z) (g.keep _ _ _ _ _ _ (fun _ _ _ e => e) (fun b z => .inl (ok.bz b z)) h) w⟩
  · exact w.elim
theorem s_retn {pos : Pos} : PS X (.Return none pos) (tS X.K xw 0 fun ρ P => P.rt .none .shr) := PS.weak ps_retN fun D σ H ⟨_, _, _, _, _, pn, ρ, Z, tb, px, ok, w, f⟩ => f.rt .non .none .shr H (px.hs (ok.step.less (by omega))) (fun z => nomatch z) .non w
theorem s_expr {ca : Nat} {e : Expr} {pos : Pos} (hs : swapsWith e none pos.line X.env = pure false) (ma : MonoW (wa xw.E)) (he : PE X e (tX X.K xw ca (wa xw.E))) : PS X (.Expr e pos) (tS X.K xw (ca) fun ρ P => wa P.ex ρ fun _ _ => P.nx ρ) := by
  refine PS.weak (ps_expr he hs) fun D σ H ⟨H0, B, pn0, fr, P, pn, ρ, Z, tb, px, ok, w, f⟩ => ?_
  dsimp only at w
  rw [f.ex] at w
  exact ⟨H0, B, pn, fr, ρ, Z, tb, ok, ma _ _ _ (fun d k q v H' s r => f.nx _ _ ⟨pn, ρ, Z, px, ok.to s, q⟩) w⟩
end
end Y

namespace Y
open PySem PySem.Spec PyProof.Rows L2 M
section
variable {X : Cx} {xw : Xw} {wa wb : XQ → En → VQ → Prop} {is : List Nat}
theorem few1 {e : Expr} {cpos : Pos} {env : Env} (hst : starEach [e] env = [(false, eval e env)]) : ((backTo cpos (starEach [e] env)).all (fun x => !x.1) && (backToKw cpos (keywordEach [] env)).all (fun x => x.1.isSome) && decide (([e]).length + ([] : List Keyword).length + (if ([] : List Keyword).isEmpty then 0 else 1) < 30)) = true := by
  rw [hst]; rfl
/-- xs.append(e) -/
theorem s_app {ca : Nat} {i : Nat} {x : Str} {e : Expr} {p apos cpos pos : Pos} (hN : X.N[i]? = some x) (hv : Vis X.env.scope x) (hd : (x == ("__debug__" : Str)) = false) (hcd : (x == ("__classdict__" : Str)) = false) (hst : starEach [e] X.env = [(false, eval e X.env)])
    (hline : (apos.endLine == cpos.line) = true) (ma : MonoW (wa xw.E)) (he : PE X e (tX X.K xw ca (wa xw.E))) :
    PS X (.Expr (.Call (.Attribute (.Name x p) "append" apos) [e] [] cpos) pos) (tS X.K xw (ca) fun ρ P => match (dem ρ is)[i]? with
      | some (.own (.list ds)) => wa P.ex (dem ρ is) fun d k => k ≠ .bor ∧ ds.length < sizeLine ∧ P.nx ((dem ρ is).set i (.own (.list (ds ++ [d]))))
      | _ => False) := by
  refine PS.weak (ps_expr (pe_bm (hs := hst) (hfew := few1 hst) (hline := hline) PySem.F.plainAttrs_list PySem.F.slot_list_append PySem.F.type_list_append mt_append (pe_var hN hv hd hcd) (pa_cons he pa_nil hst)) rfl) fun D σ H ⟨H0, B, pn0, fr, P, pn, ρ, Z, tb, px, ok, w, f⟩ => ?_
  dsimp only at w
  rw [f.ex] at w
  split at w
  · rename_i ds e0
    obtain ⟨Z', hz, ok'⟩ := dem_ok is ok
    obtain ⟨a, e1, ha, h0, hp, ho⟩ := ok'.sl i _ e0
    rcases ho with ⟨xs, ds', ed, hx, hn⟩ | ⟨_, _, ed, _⟩ | ⟨_, _, ed, _⟩
    · cases ed
      refine ⟨.ref a, e1, Or.inl ⟨rfl, _, Or.inl (Or.inl hx)⟩, H0, B, pn, fr, _, Z', tb, ok', ma _ _ _ (fun d k q v H' s r => ?_) w⟩
      have hx' := s.keep a _ hp hx
      have hn' := DnL.keep (keepZ s ok'.pnz) (fun b z => .inl z) _ _ hn
      refine ⟨a, xs, v, rfl, rfl, hx', by rw [hn'.length]; exact q.2.1, ?_⟩
      refine f.nx _ _ ⟨pn, _, Z', px, (ok'.to s).chg e0 e1 ha h0 hp (.inl ⟨_, _, rfl, upd_same, ?_⟩), q.2.2⟩
      refine DnL.keep (fun b u n e => ?_) (fun b z => .inl z) _ _ (hn'.append (.cons (r.dn q.1 ok'.zt) .nil))
      rw [upd_ne (fun z => n (by rw [z]; exact ha))]
      exact e
    · cases ed
    · cases ed
  · exact w.elim
/-- xs.extend(e) -/
theorem s_ext {ca : Nat} {i : Nat} {x : Str} {e : Expr} {p apos cpos pos : Pos} (hN : X.N[i]? = some x) (hv : Vis X.env.scope x) (hd : (x == ("__debug__" : Str)) = false) (hcd : (x == ("__classdict__" : Str)) = false) (hst : starEach [e] X.env = [(false, eval e X.env)])
    (hline : (apos.endLine == cpos.line) = true) (ma : MonoW (wa xw.E)) (he : PE X e (tX X.K xw ca (wa xw.E))) :
    PS X (.Expr (.Call (.Attribute (.Name x p) "extend" apos) [e] [] cpos) pos) (tS X.K xw (ca) fun ρ P => match (dem ρ is)[i]? with
      | some (.own (.list ds)) => wa P.ex (dem ρ is) fun d _ => match listD d with
        | some es => ds.length + es.length ≤ sizeLine ∧ P.nx ((dem ρ is).set i (.own (.list (ds ++ es))))
        | none => False
      | _ => False) := by
  refine PS.weak (ps_expr (pe_bm (hs := hst) (hfew := few1 hst) (hline := hline) PySem.F.plainAttrs_list PySem.F.slot_list_extend PySem.F.type_list_extend mt_extend (pe_var hN hv hd hcd) (pa_cons he pa_nil hst)) rfl) fun D σ H ⟨H0, B, pn0, fr, P, pn, ρ, Z, tb, px, ok, w, f⟩ => ?_
  dsimp only at w
  rw [f.ex] at w
  split at w
  · rename_i ds e0
    obtain ⟨Z', hz, ok'⟩ := dem_ok is ok
    obtain ⟨a, e1, ha, h0, hp, ho⟩ := ok'.sl i _ e0
    rcases ho with ⟨xs, ds', ed, hx, hn⟩ | ⟨_, _, ed, _⟩ | ⟨_, _, ed, _⟩
    · cases ed
      refine ⟨.ref a, e1, Or.inl ⟨rfl, _, Or.inl (Or.inl hx)⟩, H0, B, pn, fr, _, Z', tb, ok', ma _ _ _ (fun d k q v H' s r => ?_) w⟩
      split at q
      · rename_i es el
        have ed := listD_eq el
        subst ed
        obtain ⟨b, zs, rfl, s3, n3⟩ := (r.dr ok'.pnt).list
        have hx' := s.keep a _ hp hx
        have hn' := DnL.keep (keepZ s ok'.pnz) (fun b z => .inl z) _ _ hn
        refine ⟨a, b, xs, zs, rfl, rfl, hx', s3, by rw [hn'.length, n3.length]; exact q.1, ?_⟩
        refine f.nx _ _ ⟨pn, _, Z', px, (ok'.to s).chg e0 e1 ha h0 hp (.inl ⟨_, _, rfl, upd_same, ?_⟩), q.2⟩
        refine DnL.keep (fun b u n e => ?_) (fun b z => .inl z) _ _ (hn'.append n3)
        rw [upd_ne (fun z => n (by rw [z]; exact ha))]
        exact e
      · exact q.elim
    · cases ed
    · cases ed
  · exact w.elim
/-- xs[k] = e -/
theorem s_seti {ca cb : Nat} {i : Nat} {x : Str} {e ke : Expr} {p spos pos : Pos} (hN : X.N[i]? = some x) (hv : Vis X.env.scope x) (hd : (x == ("__debug__" : Str)) = false) (hcd : (x == ("__classdict__" : Str)) = false)
    (ha : ∀ v, assign (.Subscript (.Name x p) ke spos) X.env v = (do
      let ov ← holding [v] (eval (.Name x p) X.env)
      let iv ← holding [v, ov] (eval ke X.env)
      standAt spos
      holding [v, ov, iv] (setItem ov iv v)
      release [v, ov, iv] []))
    (hs : swapsWithSole [.Subscript (.Name x p) ke spos] e pos.line X.env = pure false) (hw : swappedStores [.Subscript (.Name x p) ke spos] e X.env = pure none) (h1 : (assignEach [.Subscript (.Name x p) ke spos] X.env).map (·.2) = [assign (.Subscript (.Name x p) ke spos) X.env])
    (ma : MonoW (wa xw.E)) (mb : MonoW (wb xw.E)) (he : PE X e (tX X.K xw ca (wa xw.E))) (hk : PE X ke (tX X.K xw cb (wb xw.E))) :
    PS X (.Assign [.Subscript (.Name x p) ke spos] e pos) (tS X.K xw (ca + cb) fun ρ P => match (dem ρ is)[i]? with
      | some (.own (.list ds)) => wa P.ex (dem ρ is) fun d kd => kd ≠ .bor ∧ wb P.ex (dem ρ is) fun kx _ => match kx with
        | .int n => match ixN ds.length n with
          | some j => P.nx ((dem ρ is).set i (.own (.list (ds.set j d))))
          | none => False
        | _ => False
      | _ => False) := by
  refine PS.weak (ps_asg he (pg_sub (pe_var hN hv hd hcd) hk set_list ha) hs hw h1) fun D σ H ⟨H0, B, pn0, fr, P, pn, ρ, Z, tb, px, ok, w, f⟩ => ?_
  dsimp only at w
  rw [f.ex] at w
  split at w
  · rename_i ds e0
    obtain ⟨Z', hz, ok'⟩ := dem_ok is ok
    obtain ⟨a, e1, ha, h0, hp, ho⟩ := ok'.sl i _ e0
    rcases ho with ⟨xs, ds', ed, hx, hn⟩ | ⟨_, _, ed, _⟩ | ⟨_, _, ed, _⟩
    · cases ed
      refine ⟨H0, B, pn, fr, _, Z', (cb + tb), ok'.lt (by omega), ma _ _ _ (fun d k q v H1 s1 r1 => ?_) w⟩
      refine ⟨.ref a, e1, H0, B, pn, fr, _, Z', _, ok'.to s1, mb _ _ _ (fun kx k' q' y H2 s2 r2 => ?_) q.2⟩
      cases kx with
      | int n =>
        dsimp only at q'
        cases ej : ixN ds.length n with
        | none => rw [ej] at q'; exact q'.elim
        | some j =>
          rw [ej] at q'
          have s := s1.trans s2
          have hx' := s.keep a _ hp hx
          have hn' := DnL.keep (keepZ s ok'.pnz) (fun b z => .inl z) _ _ hn
          rw [(r2.dr (ok'.to s1).pnt).int]
          refine ⟨a, xs, n, j, rfl, rfl, hx', by rw [hn'.length]; exact ej, ?_⟩
          refine f.nx _ _ ⟨pn, _, Z', px, (ok'.to s).chg e0 e1 ha h0 hp (.inl ⟨_, _, rfl, upd_same, ?_⟩), q'⟩
          refine DnL.keep (fun b u n e => ?_) (fun b z => .inl z) _ _ (hn'.setAt j (Dn.keep (keepZ s2 ok'.pnz) (fun b z => .inl z) _ _ (r1.dn q.1 ok'.zt)))
          rw [upd_ne (fun z => n (by rw [z]; exact ha))]
          exact e
      | _ => exact q'.elim
    · cases ed
    · cases ed
  · exact w.elim
/-- x op= e on scalars -/
theorem ip_binD : ∀ (o : Operator) (d e r : D) (c : Prop) (k : Kd), bin o d e = some (c, r, k) → scal d = true → scal r = true → c → o ≠ .Pow → o ≠ .LShift → o ≠ .RShift → ∀ (v w : V) (H : Hp) (Q : VK) (Z : Addr → Prop) (pn : List Addr), Dr X.K pn H Z v d → Dr X.K pn H Z w e → (∀ u, Dn X.K H Z u r → Q u H) → ∃ rr : R2, OpR X (inplaceOp o) rr ∧ rr v w H Q := by
  intro o d e r c k hb hd hr hc n1 n2 n3 v w H Q Z pn h1 h2 q
  cases o <;> first
    | exact absurd rfl n1
    | exact absurd rfl n2
    | exact absurd rfl n3
    | (cases d <;> cases e <;> first
        | (simp [bin] at hb; done)
        | (simp [scal] at hd; done)
        | (simp only [bin, Option.some.injEq, Prod.mk.injEq] at hb
           obtain ⟨rfl, rfl, rfl⟩ := hb
           first
             | (rw [h1.int, h2.int]; exact ⟨_, iop_add, _, _, rfl, rfl, q _ (.int _)⟩)
             | (rw [h1.int, h2.int]; exact ⟨_, iop_sub, _, _, rfl, rfl, q _ (.int _)⟩)
             | (rw [h1.int, h2.int]; exact ⟨_, iop_mul, _, _, rfl, rfl, hc, q _ (.int _)⟩)
             | (rw [h1.int, h2.int]; exact ⟨_, iop_fdiv, _, _, rfl, rfl, hc, q _ (.int _)⟩)
             | (rw [h1.int, h2.int]; exact ⟨_, iop_mod, _, _, rfl, rfl, hc, q _ (.int _)⟩)
             | (rw [h1.str, h2.str]; exact ⟨_, iop_add_str, _, _, rfl, rfl, hc, q _ (.str _)⟩)))
end
end Y

namespace Y
open PySem PySem.Spec PyProof.Rows L2 M
section
variable {X : Cx} {xw : Xw} {wa wb : XQ → En → VQ → Prop} {is : List Nat}
def augOk : Operator → Bool | .Pow => false | .LShift => false | .RShift => false | _ => true
def rAug (K : PySem.W.Frag) (o : Operator) : TIp := fun v w H Q => ∃ pn Z d e, Dr K pn H Z v d ∧ Dr K pn H Z w e ∧ scal d = true ∧ (bin o d e).to fun r k => scal r = true ∧ ∀ u, Dn K H Z u r → Q u H
theorem ip_aug {o : Operator} (ho : augOk o = true) : PIp X o (rAug X.K o) := by
  intro pins s σ H x y v u Q I r1 r2 h
  obtain ⟨pn, Z, d, e, h1, h2, sd, q⟩ := h
  cases eb : bin o d e with
  | none => rw [eb] at q; exact q.elim
  | some crk =>
    obtain ⟨c, r, k⟩ := crk
    rw [eb] at q
    obtain ⟨hc, sr, q⟩ := q
    obtain ⟨rr, hrr, q'⟩ := ip_binD o d e r c k eb sd sr hc (fun z => by subst z; cases ho) (fun z => by subst z; cases ho) (fun z => by subst z; cases ho) x y H Q Z pn h1 h2 q
    exact hrr pins s σ H x y v u Q I r1 r2 q'
theorem s_aug {ca : Nat} {i : Nat} {x : Str} {e : Expr} {o : Operator} {p pos : Pos} (ho : augOk o = true) (hN : X.N.Nodup) (hi : X.N[i]? = some x) (hx : Loc X.env.scope x) (hf : X.fn x = true ∨ X.env.scope.names.lookup x = some .local) (ma : MonoW (wa xw.E)) (he : PE X e (tX X.K xw ca (wa xw.E))) :
    PS X (.AugAssign (.Name x p) o e pos) (tS X.K xw (ca) fun ρ P => match (dem ρ is)[i]? with
      | some (.val x) => scal x = true ∧ wa P.ex (dem ρ is) fun d _ => (bin o x d).to fun r _ => scal r = true ∧ P.nx ((dem ρ is).set i (.val r))
      | _ => False) := by
  refine PS.weak (ps_aug hN hi hx he (ip_aug ho) hf) fun D σ H ⟨H0, B, pn0, fr, P, pn, ρ, Z, tb, px, ok, w, f⟩ => ?_
  dsimp only at w
  rw [f.ex] at w
  split at w
  · rename_i xd e0
    obtain ⟨Z', hz, ok'⟩ := dem_ok is ok
    obtain ⟨v, e1, hv⟩ := ok'.sl i _ e0
    refine ⟨v, e1, H0, B, pn, fr, _, Z', tb, ok', ma _ _ _ (fun d k q y H1 s1 r1 => ?_) w.2⟩
    refine ⟨pn, Z', xd, d, .inl (Dn.keep (keepZ s1 ok'.pnz) (fun b z => .inl z) _ _ hv), r1.dr ok'.pnt, w.1, Rz.mono (fun r k q => ⟨q.1, fun u hu => ?_⟩) q⟩
    exact f.nx _ _ ⟨pn, _, Z', px, (ok'.to s1).val i hu, q.2⟩
  · exact w.elim
/-- a, b = x, y -/
theorem s_par {ca cb : Nat} {i j : Nat} {x y : Str} {a b : Expr} {px' py pt : Pos} {kt k2 pt2} {pos : Pos} (hc : X.calm = true) (hN : X.N.Nodup) (hi : X.N[i]? = some x) (hj : X.N[j]? = some y) (hij : i ≠ j)
    (hx : X.env.scope.names.lookup x = some .local) (hy : X.env.scope.names.lookup y = some .local)
    (hw : swappedStores [.Tuple [.Name x px', .Name y py] kt pt] (.Tuple [a, b] k2 pt2) X.env = pure (some [x, y]))
    (hs1 : starEach [a, b] X.env = (false, eval a X.env) :: starEach [b] X.env) (hs2 : starEach [b] X.env = [(false, eval b X.env)])
    (ma : MonoW (wa xw.E)) (mb : MonoW (wb xw.E)) (ha : PE X a (tX X.K xw ca (wa xw.E))) (hb : PE X b (tX X.K xw cb (wb xw.E))) :
    PS X (.Assign [.Tuple [.Name x px', .Name y py] kt pt] (.Tuple [a, b] k2 pt2) pos) (tS X.K xw (ca + cb) fun ρ P => wa P.ex (dem ρ is) fun d k => wb P.ex (dem ρ is) fun e k' => k ≠ .bor ∧ k' ≠ .bor ∧ P.nx (((dem ρ is).set i (slK d k)).set j (slK e k'))) := by
  refine PS.weak (ps_par hc hN hi hj hij hx hy (pa_cons ha (pa_cons hb pa_nil hs2) hs1) hw rfl) fun D σ H ⟨H0, B, pn0, fr, P, pn, ρ, Z, tb, px, ok, w, f⟩ => ?_
  dsimp only at w
  rw [f.ex] at w
  obtain ⟨Z', hz, ok'⟩ := dem_ok is ok
  refine ⟨H0, B, pn, fr, _, Z', (cb + tb), ok'.lt (by omega), ma _ _ _ (fun d k q v H1 s1 r1 => ?_) w⟩
  by_cases hk : k = .own
  · subst hk
    obtain ⟨a1, rfl, hn, ho⟩ := r1
    refine ⟨H0, B, pn, fr, _, Zp Z' a1, _, ok'.more hn s1 ho.there, mb _ _ _ (fun e k' q w' H2 s2 r2 => ?_) q⟩
    have ok1 := ok'.own i hn s1 ho
    obtain ⟨Z2, ok2⟩ := ok1.sto j s2 r2 q.2.1
    exact ⟨_, _, rfl, f.nx _ _ ⟨pn, _, Z2, px, ok2, q.2.2⟩⟩
  · refine ⟨H0, B, pn, fr, _, Z', _, ok'.to s1, mb _ _ _ (fun e k' q w' H2 s2 r2 => ?_) q⟩
    have hd := r1.dn q.1 ok'.zt
    have ok1 := (ok'.to s1).val i hd
    obtain ⟨Z2, ok2⟩ := ok1.sto j s2 r2 q.2.1
    have es : slK d k = .val d := by cases k <;> first | rfl | exact absurd rfl hk
    rw [es] at q
    exact ⟨_, _, rfl, f.nx _ _ ⟨pn, _, Z2, px, ok2, q.2.2⟩⟩
/-- for t in it: .. -/
theorem s_loop {cd ci : Nat} {t : Tg} {tg iter : Expr} {body : List Stmt} {wi : XQ → En → (List D → Prop) → Prop} {wbd : En → Pq → Prop} {pos : Pos} (hp : PassesOwn (model X.prog X.w) X.A X.env X.xe) (hc : X.calm = true) (hi : PI X tg iter (tI X.K xw true ci (wi xw.E))) (mi : MonoL (wi xw.E)) (hg : PG X tg (gT X.K t)) (hb : PSs X body (tS X.K xw cd wbd))
    (hs : ∀ x, foldedSetIterable iter X.env x = pure x) : PS X (.For tg iter body [] pos) (tS X.K xw (ci + LOOPN * cd) fun ρ P => wi P.ex (dem ρ is) fun ds => ds.length ≤ LOOPN ∧ wFor t wbd ds (dem ρ is) P) := by
  refine PS.weak (ps_for hp hc hi hg hb hs) fun D σ H ⟨H0, B, pn0, fr, P, pn, ρ, Z, tb, px, ok, w, f⟩ => ?_
  dsimp only at w
  rw [f.ex] at w
  obtain ⟨Z', hz, ok'⟩ := dem_ok is ok
  refine ⟨H0, B, pn, fr, _, Z', (LOOPN * cd + tb), ok'.lt (by omega), mi _ _ _ (fun ds q J H1 fv s1 hfv hJ => ?_) w⟩
  have frAll : ∀ {Zz : Addr → Prop} {Hz : Hp} {pnz : List Addr} {tz : Nat} {σz : L2.St} {ρz : En}, EnvOk X.K xw H0 B pnz (Fx.add fv fr) Zz tz σz ρz Hz → EnvOk X.K xw H0 B pnz fr Zz tz σz ρz Hz := fun o => o.frs fun p hp => o.fr p (List.mem_append_right _ hp)
  refine ⟨fun i m σ H => m = ds.length - i ∧ i ≤ ds.length ∧ Lift X.K xw H0 B pn0 (Fx.add fv fr) (bgt ds.length i cd tb) (fun ρ => wFor t wbd (ds.drop i) ρ P) σ H, ⟨ds.length, rfl, Nat.zero_le _, pn, _, Z', px, ((ok'.to s1).lt (bgt_0 q.1)).frs fun p hp => ?_, q.2⟩, ?_⟩
  · rcases List.mem_append.mp hp with h | h
    · exact (hfv p h).2 rfl
    · exact (ok'.to s1).fr p h
  · rintro i m σ2 H2 ⟨rfl, hile, pn2, ρ2, Z2, px2, ok2, q2⟩
    obtain ⟨jstop, jgo⟩ := hJ H2 Z2 i ok2.zt fun p hp => .inl (ok2.fr p (List.mem_append_left _ hp))
    by_cases hlt : i < ds.length
    · obtain ⟨go, yl⟩ := jgo hlt
      refine .inr ⟨go, Lift X.K xw H0 B pn0 (Fx.add fv fr) (bgt ds.length (i + 1) cd tb) (fun ρ => wFor t wbd (ds.drop (i + 1)) ρ P), fun σ' H' h => ⟨ds.length - (i + 1), by omega, rfl, hlt, h⟩, fun x H3 y => ?_⟩
      obtain ⟨s3, d, ed, nd⟩ := yl x H3 y
      have edr : ds.drop i = d :: ds.drop (i + 1) := by
        rw [List.drop_eq_getElem_cons hlt]
        have : ds[i] = d := by
          have := List.getElem?_eq_getElem hlt
          rw [ed] at this
          exact (Option.some.inj this).symm
        rw [this]
      rw [edr] at q2
      simp only [wFor] at q2
      split at q2
      · rename_i ρ' eρ
        refine tg_ok (ok2.to (ok2.ss s3)) eρ nd fun σ' ok3 _ => ?_
        refine ⟨H0, B, pn0, Fx.add fv fr, _, pn2, ρ', Z2, bgt ds.length (i + 1) cd tb, px2, ok3.lt (by rw [bgt_s hlt]; omega), q2, ⟨fun _ _ h => h, fun σ4 H4 ⟨pn4, ρ4, Z4, px4, ok4, q4⟩ => f.nx _ _ ⟨pn4, ρ4, Z4, px4, (frAll ok4).lt (by unfold bgt; omega), q4⟩, fun _ _ h => h, fun v d k H' s => f.rt v d k H' (s.less (by unfold bgt; omega)), f.ex⟩⟩
      · exact q2.elim
    · have ei : i = ds.length := by omega
      subst ei
      rw [List.drop_length] at q2
      exact .inl ⟨jstop rfl, f.nx _ _ ⟨pn2, ρ2, Z2, px2, (frAll ok2).lt (by rw [bgt_e]; omega), q2⟩⟩
theorem s_whil {cd cc : Nat} {c : Expr} {body : List Stmt} {wc : XQ → En → (Bool → Prop) → Prop} {wbd : En → Pq → Prop} {pos : Pos} (hp : PassesOwn (model X.prog X.w) X.A X.env X.xe) (mc : MonoT (wc xw.E)) (hc : PT X c (tT X.K xw cc (wc xw.E))) (hb : PSs X body (tS X.K xw cd wbd)) :
    PS X (.While c body [] pos) (tS X.K xw ((LOOPN + 1) * (cc + cd)) fun ρ P => wWhile (wc P.ex) wbd ρ P) := by
  refine PS.weak (ps_while hp hc hb) fun D σ H ⟨H0, B, pn0, fr, P, pn, ρ, Z, tb, px, ok, w, f⟩ => ?_
  dsimp only at w
  rw [f.ex] at w
  obtain ⟨W, ⟨m0, hm0, w0⟩, turn⟩ := w
  refine ⟨fun m σ H => Lift X.K xw H0 B pn0 fr ((m + 1) * (cc + cd) + tb) (W m) σ H, ⟨m0, pn, ρ, Z, px, ok.lt (Nat.add_le_add_right (Nat.mul_le_mul_right _ (Nat.succ_le_succ hm0)) tb), w0⟩, ?_⟩
  rintro m σ2 H2 ⟨pn2, ρ2, Z2, px2, ok2, q2⟩
  refine ⟨H0, B, pn2, fr, ρ2, Z2, (cd + (m * (cc + cd) + tb)), ok2.lt (by rw [Nat.succ_mul]; omega), mc _ _ _ (fun b q H3 s3 => ?_) (turn m ρ2 q2)⟩
  cases b with
  | false => exact iteF (f.nx _ _ ⟨pn2, ρ2, Z2, px2, (ok2.to s3).lt (by omega), q.2 rfl⟩)
  | true =>
    refine iteT ⟨fun σ' H' => ∃ m', m' < m ∧ Lift X.K xw H0 B pn0 fr ((m' + 1) * (cc + cd) + tb) (W m') σ' H', fun _ _ h => h, ?_⟩
    have conv : ∀ σ' H', Lift X.K xw H0 B pn0 fr (m * (cc + cd) + tb) (fun ρ2 => ∃ m', m' < m ∧ W m' ρ2) σ' H' → ∃ m', m' < m ∧ Lift X.K xw H0 B pn0 fr ((m' + 1) * (cc + cd) + tb) (W m') σ' H' := fun σ' H' ⟨pn4, ρ4, Z4, px4, ok4, m', hm, q4⟩ => ⟨m', hm, pn4, ρ4, Z4, px4, ok4.lt (Nat.add_le_add_right (Nat.mul_le_mul_right _ hm) tb), q4⟩
    exact ⟨H0, B, pn0, fr, _, pn2, ρ2, Z2, _, px2, ok2.to s3, q.1 rfl, ⟨conv, fun σ4 H4 ⟨pn4, ρ4, Z4, px4, ok4, q4⟩ => f.nx _ _ ⟨pn4, ρ4, Z4, px4, ok4.lt (by omega), q4⟩, conv, fun v d k H' s => f.rt v d k H' (s.less (by omega)), f.ex⟩⟩
/-! ### the pen is made -/
def spPen (K : PySem.W.Frag) : Sp := fun vs H Q _ => ∃ (a : Addr) (ns : List Int), vs = [.ref a] ∧ SqL K H a (ns.map V.int) ∧
  ∀ (d c : Addr) (r : Int) (ms : List Int) (H' : Hp), 0 ≤ r → H d = none → H c = none → c ≠ d → Same H H' → H' d = some (penO NX c 0 r) → H' c = some (.lst (ms.map V.int)) → Q (.ref d) H'
theorem dnl_ints {K : PySem.W.Frag} {H : Hp} {Z : Addr → Prop} : ∀ ms : List Int, DnL K H Z (ms.map V.int) (ms.map PyData.int)
  | [] => .nil
  | m :: ms => .cons (.int m) (dnl_ints ms)
theorem EnvOk.mkpen {K : PySem.W.Frag} {H0 H H' : Hp} {B Z : Addr → Prop} {pn : List Addr} {fr : Fx} {σ : L2.St} {ρ : En} (ok : EnvOk K xw H0 B pn fr Z tb σ ρ H) (hE : ∀ e, ¬ xw.E e) (hk : ∀ H B d pn mu, xw.kn H B pn mu → xw.kn H B (d :: pn) mu) (i : Nat) {d c : Addr} {r : Int} {ms : List Int} (h2 : 0 ≤ r) (hd : H d = none) (hc : H c = none) (ne : c ≠ d) (s : Same H H')
    (e1 : H' d = some (penO NX c 0 r)) (e2 : H' c = some (.lst (ms.map V.int))) : EnvOk K xw H0 B (d :: pn) fr (Zp Z d) tb (σ.set i (some (.ref d))) (ρ.set i .pen) H' := by
  have ok' := ok.more hd (ok.ss s) (by rw [e1]; exact fun z => nomatch z)
  have h0 : H0 d = none := ok.step.free hd
  have hp : d ∉ pn := fun z => ok.pnt d z hd
  have cz : ¬ Zp Z d c := fun z => z.elim (fun z => ok.zt c z hc) ne
  have base : EnvOk K xw H0 B (d :: pn) fr (Zp Z d) tb σ ρ H' := by
    refine ⟨fun e z => (hE e z).elim, ⟨fun b o n m e => ok'.step.keep b o (fun z => n (List.mem_cons_of_mem _ z)) m e, fun b hb => ?_, ok'.step.there, ok'.bd.1, fun d' hd' c' i' r' e' => ?_⟩, ok'.zt, ok'.bz, ok'.zb, hk _ _ _ _ _ ok'.kn, ok'.bt, fun b hb => ?_, ok'.len, fun j t e => ?_, ok'.inj, ok'.fr, fun j C fs e => ?_⟩
    rotate_right
    · have h := ok.ob j C fs e
      refine ⟨h.1, h.2.keep (keepZ (ok.ss s) ok.pnz) (fun b z => z.elim .inl fun e => .inr (by rw [e]; exact hd)) (fun b o h1 h2 _ h4 => ⟨.inl h1, fun z => ?_, s b o h4⟩) fun b _ z => z⟩
      rcases List.mem_cons.mp z with z | z
      · rw [z, hd] at h4
        cases h4
      · exact h2 z
    · rcases List.mem_cons.mp hb with z | z
      · rw [z]
        exact ⟨fun c i r _ _ e => (by rw [h0] at e; cases e), fun ⟨c, i, r, e⟩ => (by rw [h0] at e; cases e), fun ⟨ps, e, _⟩ => (by rw [h0] at e; cases e)⟩
      · exact ok'.step.pen b z
    · rcases List.mem_cons.mp hd' with z | z
      · subst z
        rw [e1] at e'
        have hb := ok'.step.bd.1
        simp only [Option.some.injEq, HO.dK.injEq, List.cons.injEq, Prod.mk.injEq, V.int.injEq, true_and, and_true] at e'
        omega
      · exact ok'.step.bd.2 d' z c' i' r' e'
    · rcases List.mem_cons.mp hb with z | z
      · subst z
        exact ⟨.inr rfl, .inl ⟨c, 0, r, ms, Int.le_refl 0, h2, e1, .lst ⟨cz, e2⟩ (dnl_ints ms)⟩⟩
      · exact ok'.pz b z
    · have h := ok'.sl j t e
      cases t with
      | emp => trivial
      | val d' => exact h
      | own d' =>
        obtain ⟨b, q1, q2, q3, q4, q5⟩ := h
        refine ⟨b, q1, q2, q3, fun z => ?_, q5⟩
        rcases List.mem_cons.mp z with z | z
        · subst z
          obtain ⟨b', e3, _, _, _, h4⟩ := ok.sl j _ e
          rw [q1] at e3
          cases e3
          exact h4.there hd
        · exact q4 z
      | pen => obtain ⟨b, q1, q2, q3⟩ := h; exact ⟨b, q1, List.mem_cons_of_mem _ q2, q3⟩
      | scr n => exact h
      | gen g => exact h
      | obj _ _ => trivial
      | exc e => exact h
  exact base.put i _ .pen ⟨d, rfl, List.mem_cons_self, _, _, _, e1⟩ (fun _ z => nomatch z) fun _ _ z => nomatch z
theorem s_mkpen {i j k l : Nat} {x y f : Str} {ps : List Str} {p pc pos pos' py : Pos} (hN : X.N.Nodup) (hi : X.N[i]? = some x) (hx : Loc X.env.scope x) (hf : X.fn x = true ∨ X.env.scope.names.lookup x = some .local)
    (hj : X.N[j]? = some y) (hv : Vis X.env.scope y) (hd : (y == ("__debug__" : Str)) = false) (hcd : (y == ("__classdict__" : Str)) = false)
    (c : Cl X.prog X.w X.K X.mg X.base (L2.CX X.prog X.w) k f ps (spPen X.K)) (hE : ∀ e, ¬ xw.E e) (hk' : ∀ H B d pn mu, xw.kn H B pn mu → xw.kn H B (d :: pn) mu) (hp : Passes (L2.CX X.prog X.w) X fun cls d H => xw.W cls d H) (hr : Room l X.A) (hgd : X.A.guards = some []) (hk : k ≤ l) (gl : Gl X f) (hdf : (f == ("__debug__" : Str)) = false) :
    PS X (.Assign [.Name x pos'] (.Call (.Name f p) [.Name y py] [] pc) pos) (tS X.K xw 0 fun ρ P => match ρ[j]? with | some (.scr _) => P.nx (ρ.set i .pen) | _ => False) := by
  refine PS.weak (ps_set hN hi hx (pe_cl c hr hgd hk gl hp (pa_cons (pe_var hj hv hd hcd) pa_nil rfl) hdf rfl rfl) rfl hf) fun D σ H ⟨H0, B, pn0, fr, P, pn, ρ, Z, tb, px, ok, w, f⟩ => ?_
  dsimp only at w
  split at w
  · rename_i n e
    obtain ⟨a, ns, e1, hs, _⟩ := ok.sl j _ e
    refine ⟨.ref a, e1, a, ns, rfl, hs.sq, fun d c r ms H' h2 hd hc ne s q1 q2 => ?_⟩
    refine f.nx _ _ ⟨d :: pn, _, _, ⟨fun b hb => List.mem_cons_of_mem _ (px.1 b hb), fun b hb => ?_⟩, (ok.lt (by omega)).mkpen hE hk' i h2 hd hc ne s q1 q2, w⟩
    rcases List.mem_cons.mp hb with z | z
    · exact .inr (by rw [z]; exact ok.step.free hd)
    · exact px.2 b z
  · exact w.elim
end
end Y

namespace Y
open PySem PySem.Spec PyProof.Rows L2 M
/-! ### x.index(y) -/
theorem occ_idx {x : Str} {c j : Nat} (h : x.cps.toList.findIdx? (· == c) = some j) : ∃ rest, Builtin.Str.occurrences x ⟨#[c]⟩ 0 x.length 1 = j :: rest := by
  obtain ⟨hj, h1, h2⟩ := List.findIdx?_eq_some_iff_getElem.mp h
  have at_iff : ∀ i, StrLaws.At x ⟨#[c]⟩ x.length i ↔ x.cps.toList[i]? = some c := fun i => StrLaws.subAt_one x c i
  have aj : StrLaws.At x ⟨#[c]⟩ x.length j := (at_iff j).mpr (by rw [List.getElem?_eq_getElem hj]; exact congrArg some (by simpa using h1))
  rcases StrLaws.occ_head x ⟨#[c]⟩ 1 (Nat.le_refl 1) with ⟨_, hn⟩ | ⟨i, r, e, ai, hk⟩
  · exact absurd aj (hn j)
  · have e1 : i = j := by
      rcases Nat.lt_trichotomy i j with z | z | z
      · have hi : i < x.cps.toList.length := by omega
        have q := (at_iff i).mp ai
        rw [List.getElem?_eq_getElem hi] at q
        exact absurd (by simpa using Option.some.inj q) (h2 i z)
      · exact z
      · exact absurd aj (hk j z)
    subst e1
    exact ⟨r, e⟩
section
variable {X : Cx} {xw : Xw}
theorem y_sindex {co ca : Nat} {o e : Expr} {apos cpos : Pos} {wo wa : En → VQ → Prop} (hst : starEach [e] X.env = [(false, eval e X.env)]) (hline : (apos.endLine == cpos.line) = true) (hbase : attributeBase o "index" X.env (eval o X.env) = eval o X.env) (mo : MonoW wo) (ma : MonoW wa) (ho : PE X o (tX X.K xw co wo)) (he : PE X e (tX X.K xw ca wa)) :
    PE X (.Call (.Attribute o "index" apos) [e] [] cpos) (tX X.K xw (co + ca) fun ρ Q => wo ρ fun x _ => recvB .sindex x = true ∧ wa ρ fun y _ => (mtD .sindex x [y]).to Q) := by
  refine PE.weak (pe_bm (hs := hst) (hbase := hbase) (hfew := few1 hst) (hline := hline) PySem.F.plainAttrs_str PySem.F.slot_str_index PySem.F.type_str_index mt_sindex ho (pa_cons he pa_nil hst)) fun σ H Q ⟨H0, B, pn, fr, ρ, Z, tb, ok, w⟩ => ?_
  refine ⟨H0, B, pn, fr, ρ, Z, (ca + tb), ok.lt (by omega), mo _ _ _ (fun d k q x H1 s1 r1 => ?_) w⟩
  obtain ⟨q0, q⟩ := q
  cases d with
  | str z =>
    rw [(r1.dr ok.pnt).str]
    refine ⟨rfl, H0, B, pn, fr, ρ, Z, _, ok.to s1, ma _ _ _ (fun e' k' q y H2 s2 r2 => ?_) q⟩
    cases e' with
    | str b =>
      rw [(r2.dr (ok.to s1).pnt).str]
      simp only [mtD] at q
      cases ej : z.cps.toList.findIdx? (· == b.cps.getD 0 0) with
      | none => rw [ej] at q; exact q.elim
      | some j =>
        rw [ej] at q
        obtain ⟨rest, er⟩ := occ_idx ej
        have eb := str1 q.1
        refine ⟨z, b, j, rest, rfl, rfl, ?_, q.2 _ H2 (s1.trans s2) (.int _)⟩
        rw [eb]
        exact er
    | _ => exact q.elim
  | _ => cases q0
theorem y_lindex {co ca : Nat} (hu : X.A.units + 65 < cLine) {o e : Expr} {apos cpos : Pos} {wo wa : En → VQ → Prop} (hst : starEach [e] X.env = [(false, eval e X.env)]) (hline : (apos.endLine == cpos.line) = true) (hbase : attributeBase o "index" X.env (eval o X.env) = eval o X.env) (mo : MonoW wo) (ma : MonoW wa) (ho : PE X o (tX X.K xw co wo)) (he : PE X e (tX X.K xw ca wa)) :
    PE X (.Call (.Attribute o "index" apos) [e] [] cpos) (tX X.K xw (co + ca) fun ρ Q => wo ρ fun x _ => recvB .lindex x = true ∧ wa ρ fun y _ => (mtD .lindex x [y]).to Q) := by
  refine PE.weak (pe_bm (hs := hst) (hbase := hbase) (hfew := few1 hst) (hline := hline) PySem.F.plainAttrs_list PySem.F.slot_list_index PySem.F.type_list_index (mt_indexD hu) ho (pa_cons he pa_nil hst)) fun σ H Q ⟨H0, B, pn, fr, ρ, Z, tb, ok, w⟩ => ?_
  refine ⟨H0, B, pn, fr, ρ, Z, (ca + tb), ok.lt (by omega), mo _ _ _ (fun d k q x H1 s1 r1 => ?_) w⟩
  obtain ⟨q0, q⟩ := q
  have hd := r1.dr ok.pnt
  cases d with
  | list ds =>
    obtain ⟨a, xs, rfl, sx, n⟩ := hd.list
    refine ⟨.inl ⟨rfl, xs, SqL.of sx⟩, H0, B, pn, fr, ρ, Z, _, ok.to s1, ma _ _ _ (fun e' k' q y H2 s2 r2 => ?_) q⟩
    simp only [mtD] at q
    cases ej : ds.findIdx? (fun z => PyData.eqv z e') with
    | none => rw [ej] at q; exact q.elim
    | some j =>
      rw [ej] at q
      obtain ⟨⟨c1, c2⟩, q⟩ := q
      obtain ⟨hj, h1, h2⟩ := List.findIdx?_eq_some_iff_getElem.mp ej
      refine ⟨a, y, e', ds, j, ds[j], rfl, rfl, (hd.step s2 ok.pnz).dp (shaped_nd c1), (r2.dr (ok.to s1).pnt).dp (shaped_nd c2), c1, c2, List.getElem?_eq_getElem hj, h1, fun m z' hm hz' => ?_, q _ H2 (s1.trans s2) (.int _)⟩
      have hml : m < ds.length := by omega
      rw [List.getElem?_eq_getElem hml] at hz'
      cases hz'
      exact Bool.eq_false_iff.mpr (h2 m hm)
  | _ => cases q0
end
end Y

/-! O0: what a class called is promised. -/
namespace Y
open PySem PySem.Spec PyProof.Rows L2 M
/-- an __init__'s promise: the arguments, what is wanted of the fields -/
abbrev Ci := List Ar → (List (Str × Fd) → Prop) → Prop
def FOut (K : PySem.W.Frag) (H H' : Hp) (Z : Addr → Prop) (fs : List (Str × Fd)) (fvs : List (Str × V)) : Prop :=
  (∀ f d, fs.lookup f = some (.val d) → ∃ v, fvs.lookup f = some v ∧ Dn K H' Z v d) ∧ ∀ f d, fs.lookup f = some (.own d) → ∃ b, fvs.lookup f = some (.ref b) ∧ H b = none ∧ OwnAt K H' (Zp Z b) b d
def spI (nm : List Str) (c : Ci) (m : Nat) (K : PySem.W.Frag) : Sp := fun vs H Q _ => ∃ x dx C vs' as pn Z tb, vs = .ref x :: vs' ∧ H x = some (.ins C dx []) ∧ Cls K C ∧ (∀ f ∈ nm, NoAttr K C f) ∧ Z x ∧ x ∉ pn ∧ ArL K pn H Z vs' as ∧ (∀ a, Z a → H a ≠ none) ∧ (∀ a ∈ pn, Z a ∧ PenX K H Z a) ∧ Bd (m + tb) pn H ∧
  c as fun fs => ∀ H' dx' C' fvs, HSt tb [x] pn H H' → H' x = some (.ins C' dx' fvs) → Cls K C' → (∀ f ∈ nm, NoAttr K C' f) → FOut K H H' Z fs fvs → Q .non H'
/-- a class that may be called by its name -/
structure Mkr (P : Program) (w : World) (K : PySem.W.Frag) (mg : Str → Option Value) (base : Heap) (k : Nat) (x : Str) (nm : List Str) (ps : List Str) (sp : Sp) : Prop where
  ex : ∃ (C fI : Addr) (fd : FuncData), FnG P w K mg base (L2.CX P w) k fI fd ps sp ∧ Mk K C fI ∧ mg x = some (.ref C) ∧ Binds K fd ps [] ∧ Cls K C ∧ ∀ f ∈ nm, NoAttr K C f
end Y

/-! W1: what is wanted ahead of an expression, bundled: the wish, that it is monotone, the number of draws, the slots that escape. -/
namespace Y
open PySem PySem.Spec PyProof.Rows L2 M
structure Wx where
  run : XQ → En → VQ → Prop
  mono : ∀ (E E' : XQ) (ρ : En) (Q Q' : VQ), (∀ x, E x → E' x) → (∀ d k, Q d k → Q' d k) → run E ρ Q → run E' ρ Q'
  c : Nat
  esc : List Nat
  nb : Bool
  nbo : nb = true → ∀ (E : XQ) (ρ : En) (Q : VQ), run E ρ Q → run E ρ fun d k => k ≠ .bor ∧ Q d k
structure Wg (α : Type) where
  run : XQ → En → (α → Prop) → Prop
  mono : ∀ (E E' : XQ) (ρ : En) (Q Q' : α → Prop), (∀ x, E x → E' x) → (∀ a, Q a → Q' a) → run E ρ Q → run E' ρ Q'
  c : Nat
  esc : List Nat
abbrev Wt := Wg Bool
abbrev Wo := Wg (Option Int)
abbrev Wi := Wg (List D)
/-- items: all not borrowed; or any -/
structure Wl where
  tr : Wg (List D)
  fl : Wg (List D)
  n : Nat
  len : ∀ (E : XQ) (ρ : En) (Q : List D → Prop), tr.run E ρ Q → tr.run E ρ fun ds => ds.length = n ∧ Q ds
  lenF : ∀ (E : XQ) (ρ : En) (Q : List D → Prop), fl.run E ρ Q → fl.run E ρ fun ds => ds.length = n ∧ Q ds
structure Wa where
  run : XQ → En → (List Ar → Bool → Prop) → Prop
  mono : ∀ (E E' : XQ) (ρ : En) (Q Q' : List Ar → Bool → Prop), (∀ x, E x → E' x) → (∀ a b, Q a b → Q' a b) → run E ρ Q → run E' ρ Q'
  c : Nat
  esc : List Nat
/-- what a call of a value does -/
structure Ac where
  run : VQ → XQ → Prop
  mono : ∀ (Q Q' : VQ) (E E' : XQ), (∀ d k, Q d k → Q' d k) → (∀ e, E e → E' e) → run Q E → run Q' E'
/-- a promise of a def that gets what it calls -/
abbrev Lt := Ac → VQ → Prop
/-- the contracts of a text -/
structure Cts where
  C : Str → Ct
  mono : CMono C
  I : Str → Ci
  monoI : ∀ x as Q Q', (∀ fs, Q fs → Q' fs) → I x as Q → I x as Q'
  L : Str → Lt
  monoL : ∀ (g : Str) (a a' : Ac) (Q Q' : VQ), (∀ R E, a.run R E → a'.run R E) → (∀ d k, Q d k → Q' d k) → L g a Q → L g a' Q'
theorem Wx.m (w : Wx) {E : XQ} : MonoW (w.run E) := fun ρ Q Q' h q => w.mono E E ρ Q Q' (fun _ z => z) h q
theorem Wg.m {α : Type} (w : Wg α) {E : XQ} : ∀ ρ (Q Q' : α → Prop), (∀ b, Q b → Q' b) → w.run E ρ Q → w.run E ρ Q' := fun ρ Q Q' h q => w.mono E E ρ Q Q' (fun _ z => z) h q
theorem Wa.m (w : Wa) {E : XQ} : MonoA (w.run E) := fun ρ Q Q' h q => w.mono E E ρ Q Q' (fun _ z => z) h q
abbrev XF0 : XQ := fun _ => False
/-- no borrowed answers -/
def RzNb (r : Rz) : Prop := ∀ c d k, r = some (c, d, k) → k ≠ .bor
theorem RzNb.to {r : Rz} (h : RzNb r) {Q : VQ} (q : r.to Q) : r.to fun d k => k ≠ .bor ∧ Q d k := by
  cases e : r with
  | none => rw [e] at q; exact q.elim
  | some x =>
    obtain ⟨c, d, k⟩ := x
    rw [e] at q
    exact ⟨q.1, h c d k e, q.2⟩
theorem slD_nb (x : D) (l h : Option Int) : RzNb (slD x l h) := by
  intro c d k e
  unfold slD at e
  split at e <;> cases e <;> exact fun z => nomatch z
theorem bin_nb (o : Operator) (x y : D) : RzNb (Y.bin o x y) := by
  intro c d k e
  unfold Y.bin at e
  split at e <;> cases e <;> exact fun z => nomatch z
theorem map_nb {α : Type} {o : Option α} {g : α → Prop × D × Kd} (h : ∀ a, (g a).2.2 ≠ .bor) : RzNb (o.map g) := by
  intro c d k e
  cases o with
  | none => cases e
  | some a =>
    have : g a = (c, d, k) := Option.some.inj e
    have z := h a
    rw [this] at z
    exact z
theorem btD_nb (b : Bt) (ds : List D) : RzNb (btD b ds) := by
  unfold btD
  split <;> first
    | (intro c d k e; cases e; exact fun z => nomatch z)
    | exact map_nb (fun _ z => by cases z)
    | (intro c d k e; cases e)
theorem ixD_nb (x y : D) : RzNb (ixD x y) := by
  unfold ixD
  split <;> first
    | (intro c d k e; cases e; exact fun z => nomatch z)
    | exact map_nb (fun _ z => by cases z)
    | (intro c d k e; cases e)
theorem nbS : Kd.shr ≠ Kd.bor := fun z => nomatch z
theorem nbO : Kd.own ≠ Kd.bor := fun z => nomatch z
/-! ### expressions -/
def wCon (d : D) : Wx := ⟨fun _ _ Q => Q d .shr, fun _ _ _ _ _ _ h q => h _ _ q, 0, [], true, fun _ _ _ _ q => ⟨nbS, q⟩⟩
def gVar (ρ : En) (i : Nat) (Q : VQ) : Prop := match ρ[i]? with | some (.val d) => Q d .shr | _ => False
def wVar (i : Nat) : Wx := ⟨fun _ ρ Q => gVar ρ i Q, fun _ _ ρ _ _ _ h q => by unfold gVar at q ⊢; split at q; exact h _ _ q; exact q, 0, [i], true, fun _ _ ρ _ q => by unfold gVar at q ⊢; split at q; exact ⟨nbS, q⟩; exact q⟩
def gBor (ρ : En) (i : Nat) (Q : VQ) : Prop := match ρ[i]? with | some (.val d) => Q d .shr | some (.own d) => Q d .bor | _ => False
def wBor (i : Nat) : Wx := ⟨fun _ ρ Q => gBor ρ i Q, fun _ _ ρ _ _ _ h q => by unfold gBor at q ⊢; split at q; exact h _ _ q; exact h _ _ q; exact q, 0, [], false, fun z => nomatch z⟩
def gLen (ρ : En) (i : Nat) (Q : VQ) : Prop := match ρ[i]? with | some (.scr n) => Q (.int n) .shr | _ => False
def wLenS (i : Nat) : Wx := ⟨fun _ ρ Q => gLen ρ i Q, fun _ _ ρ _ _ _ h q => by unfold gLen at q ⊢; split at q; exact h _ _ q; exact q, 0, [], true, fun _ _ ρ _ q => by unfold gLen at q ⊢; split at q; exact ⟨nbS, q⟩; exact q⟩
/-- two operands, by values -/
def w2 (g : D → D → Rz) (hg : ∀ x y, RzNb (g x y)) (a b : Wx) : Wx := ⟨fun E ρ Q => a.run E ρ fun x _ => b.run E ρ fun y _ => (g x y).to Q,
  fun E E' ρ Q Q' he h q => a.mono _ _ _ _ _ he (fun _ _ z => b.mono _ _ _ _ _ he (fun _ _ z => Rz.mono h z) z) q, a.c + b.c, a.esc ++ b.esc, true,
  fun _ E ρ Q q => a.m _ _ _ (fun _ _ z => b.m _ _ _ (fun _ _ z => (hg _ _).to z) z) q⟩
def wBin (o : Operator) (a b : Wx) : Wx := w2 (Y.bin o) (bin_nb o) a b
theorem cmpR_nb (o : CmpOp) (x y : D) : RzNb (cmpR o x y) := map_nb (fun _ z => by cases z)
def wCmp (o : CmpOp) (a b : Wx) : Wx := w2 (cmpR o) (cmpR_nb o) a b
def wIx (a b : Wx) : Wx := w2 ixD ixD_nb a b
def gNeg (x : D) (Q : VQ) : Prop := match x with | .int i => Q (.int (-i)) .shr | _ => False
def gNt (x : D) (Q : VQ) : Prop := match x with | .bool b => Q (.bool (!b)) .shr | _ => False
def wNeg (a : Wx) : Wx := ⟨fun E ρ Q => a.run E ρ fun x _ => gNeg x Q, fun E E' ρ Q Q' he h q => a.mono _ _ _ _ _ he (fun x _ z => by unfold gNeg at z ⊢; split at z; exact h _ _ z; exact z) q, a.c, a.esc, true,
  fun _ E ρ Q q => a.m _ _ _ (fun x _ z => by unfold gNeg at z ⊢; split at z; exact ⟨nbS, z⟩; exact z) q⟩
def wNt (a : Wx) : Wx := ⟨fun E ρ Q => a.run E ρ fun x _ => gNt x Q, fun E E' ρ Q Q' he h q => a.mono _ _ _ _ _ he (fun x _ z => by unfold gNt at z ⊢; split at z; exact h _ _ z; exact z) q, a.c, a.esc, true,
  fun _ E ρ Q q => a.m _ _ _ (fun x _ z => by unfold gNt at z ⊢; split at z; exact ⟨nbS, z⟩; exact z) q⟩
def gChn (p : Option (Prop × Bool)) (A : Prop) (B : Prop) : Prop := match p with
  | some (p, r) => p ∧ (r = true → A) ∧ (r = false → B)
  | none => False
theorem gChn_mono {p : Option (Prop × Bool)} {A A' B B' : Prop} (ha : A → A') (hb : B → B') : gChn p A B → gChn p A' B' := by
  unfold gChn
  split
  · exact fun z => ⟨z.1, fun e => ha (z.2.1 e), fun e => hb (z.2.2 e)⟩
  · exact id
def wChn (o o' : CmpOp) (a b c : Wx) : Wx := ⟨fun E ρ Q => a.run E ρ fun x _ => b.run E ρ fun y _ => gChn (cmpD o x y) (c.run E ρ fun z _ => (cmpR o' y z).to Q) (Q (.bool false) .shr),
  fun E E' ρ Q Q' he h q => a.mono _ _ _ _ _ he (fun _ _ z => b.mono _ _ _ _ _ he (fun _ _ z => gChn_mono (c.mono _ _ _ _ _ he fun _ _ z => Rz.mono h z) (h _ _) z) z) q, a.c + b.c + c.c, a.esc ++ b.esc ++ c.esc, true,
  fun _ E ρ Q q => a.m _ _ _ (fun _ _ z => b.m _ _ _ (fun _ _ z => gChn_mono (c.m _ _ _ fun _ _ z => (cmpR_nb _ _ _).to z) (fun z => ⟨nbS, z⟩) z) z) q⟩
def gAnd (x : D) (A : Prop) (Q : VQ) : Prop := match x with | .bool c => (c = true → A) ∧ (c = false → Q (.bool false) .shr) | _ => False
def gOr (x : D) (A : Prop) (Q : VQ) : Prop := match x with | .bool c => (c = true → Q (.bool true) .shr) ∧ (c = false → A) | _ => False
theorem gAnd_mono {x : D} {A A' : Prop} {Q Q' : VQ} (ha : A → A') (hq : ∀ d, Q d .shr → Q' d .shr) : gAnd x A Q → gAnd x A' Q' := by
  unfold gAnd
  split
  · exact fun z => ⟨fun e => ha (z.1 e), fun e => hq _ (z.2 e)⟩
  · exact id
theorem gOr_mono {x : D} {A A' : Prop} {Q Q' : VQ} (ha : A → A') (hq : ∀ d, Q d .shr → Q' d .shr) : gOr x A Q → gOr x A' Q' := by
  unfold gOr
  split
  · exact fun z => ⟨fun e => hq _ (z.1 e), fun e => ha (z.2 e)⟩
  · exact id
def wAnd (a b : Wx) : Wx := ⟨fun E ρ Q => a.run E ρ fun x _ => gAnd x (b.run E ρ Q) Q, fun E E' ρ Q Q' he h q => a.mono _ _ _ _ _ he (fun _ _ z => gAnd_mono (b.mono _ _ _ _ _ he h) (fun d => h d _) z) q, a.c + b.c, a.esc ++ b.esc, b.nb,
  fun n E ρ Q q => a.m _ _ _ (fun _ _ z => gAnd_mono (b.nbo n _ _ _) (fun d z => ⟨nbS, z⟩) z) q⟩
def wOr (a b : Wx) : Wx := ⟨fun E ρ Q => a.run E ρ fun x _ => gOr x (b.run E ρ Q) Q, fun E E' ρ Q Q' he h q => a.mono _ _ _ _ _ he (fun _ _ z => gOr_mono (b.mono _ _ _ _ _ he h) (fun d => h d _) z) q, a.c + b.c, a.esc ++ b.esc, b.nb,
  fun n E ρ Q q => a.m _ _ _ (fun _ _ z => gOr_mono (b.nbo n _ _ _) (fun d z => ⟨nbS, z⟩) z) q⟩
def wIte (c : Wt) (a b : Wx) : Wx := ⟨fun E ρ Q => c.run E ρ fun t => (t = true → a.run E ρ Q) ∧ (t = false → b.run E ρ Q),
  fun E E' ρ Q Q' he h q => c.mono _ _ _ _ _ he (fun t z => ⟨fun e => a.mono _ _ _ _ _ he h (z.1 e), fun e => b.mono _ _ _ _ _ he h (z.2 e)⟩) q, c.c + a.c + b.c, c.esc ++ a.esc ++ b.esc, a.nb && b.nb,
  fun n E ρ Q q => by
    rw [Bool.and_eq_true] at n
    exact c.m _ _ _ (fun t z => ⟨fun e => a.nbo n.1 _ _ _ (z.1 e), fun e => b.nbo n.2 _ _ _ (z.2 e)⟩) q⟩
/-! ### items, arguments -/
def lNil : Wl := ⟨⟨fun _ _ Q => Q [], fun _ _ _ _ _ _ h q => h _ q, 0, []⟩, ⟨fun _ _ Q => Q [], fun _ _ _ _ _ _ h q => h _ q, 0, []⟩, 0, fun _ _ _ q => ⟨rfl, q⟩, fun _ _ _ q => ⟨rfl, q⟩⟩
def lCons (a : Wx) (s : Wl) : Wl := ⟨⟨fun E ρ Q => a.run E ρ fun x k => k ≠ .bor ∧ s.tr.run E ρ fun xs => Q (x :: xs), fun E E' ρ Q Q' he h q => a.mono _ _ _ _ _ he (fun _ _ z => ⟨z.1, s.tr.mono _ _ _ _ _ he (fun _ z => h _ z) z.2⟩) q, a.c + s.tr.c, a.esc ++ s.tr.esc⟩,
  ⟨fun E ρ Q => a.run E ρ fun x _ => s.fl.run E ρ fun xs => Q (x :: xs), fun E E' ρ Q Q' he h q => a.mono _ _ _ _ _ he (fun _ _ z => s.fl.mono _ _ _ _ _ he (fun _ z => h _ z) z) q, a.c + s.fl.c, a.esc ++ s.fl.esc⟩, s.n + 1,
  fun E ρ Q q => a.m _ _ _ (fun _ _ z => ⟨z.1, s.tr.m _ _ _ (fun ds z => ⟨by simp [z.1], z.2⟩) (s.len _ _ _ z.2)⟩) q,
  fun E ρ Q q => a.m _ _ _ (fun _ _ z => s.fl.m _ _ _ (fun ds z => ⟨by simp [z.1], z.2⟩) (s.lenF _ _ _ z)) q⟩
def wTup (s : Wl) : Wx := ⟨fun E ρ Q => s.tr.run E ρ fun ds => Q (.tuple ds) .shr, fun E E' ρ Q Q' he h q => s.tr.mono _ _ _ _ _ he (fun _ z => h _ _ z) q, s.tr.c, s.tr.esc, true, fun _ E ρ Q q => s.tr.m _ _ _ (fun _ z => ⟨nbS, z⟩) q⟩
def wLst (s : Wl) : Wx := ⟨fun E ρ Q => s.tr.run E ρ fun ds => Q (.list ds) .own, fun E E' ρ Q Q' he h q => s.tr.mono _ _ _ _ _ he (fun _ z => h _ _ z) q, s.tr.c, s.tr.esc, true, fun _ E ρ Q q => s.tr.m _ _ _ (fun _ z => ⟨nbO, z⟩) q⟩
def aNil : Wa := ⟨fun _ _ Q => Q [] false, fun _ _ _ _ _ _ h q => h _ _ q, 0, []⟩
def aEx (a : Wx) (s : Wa) : Wa := ⟨fun E ρ Q => a.run E ρ fun x k => k ≠ .bor ∧ s.run E ρ fun xs c => Q (.v x :: xs) c, fun E E' ρ Q Q' he h q => a.mono _ _ _ _ _ he (fun _ _ z => ⟨z.1, s.mono _ _ _ _ _ he (fun _ _ z => h _ _ z) z.2⟩) q, a.c + s.c, a.esc ++ s.esc⟩
def gSl (s : Option Sl) (R : Ar → Bool → Prop) : Prop := match s with
  | some (.val d) => R (.v d) false
  | some (.own d) => R (.v d) true
  | some .pen => R .pen false
  | some (.scr n) => R (.scr n) false
  | some (.gen g) => R (.gen g) false
  | _ => False
theorem gSl_mono {s : Option Sl} {R R' : Ar → Bool → Prop} (h : ∀ a b, R a b → R' a b) : gSl s R → gSl s R' := by
  unfold gSl
  split
  · exact h _ _
  · exact h _ _
  · exact h _ _
  · exact h _ _
  · exact h _ _
  · exact id
def aSl (i : Nat) (s : Wa) : Wa := ⟨fun E ρ Q => gSl ρ[i]? fun a b => s.run E ρ fun xs c => Q (a :: xs) (b || c), fun E E' ρ Q Q' he h q => gSl_mono (fun _ _ z => s.mono _ _ _ _ _ he (fun _ _ z => h _ _ z) z) q, s.c, s.esc⟩
/-- a def's call -/
def wCall (CC : Cts) (f : Str) (m : Nat) (s : Wa) : Wx := ⟨fun E ρ Q => s.run E ρ fun as b => CC.C f as (fun d k => (b = true → scal d = true) ∧ k.nb ∧ Q d k) E,
  fun E E' ρ Q Q' he h q => s.mono _ _ _ _ _ he (fun _ _ z => CC.mono _ _ _ _ _ _ (fun d k z => ⟨z.1, z.2.1, h _ _ z.2.2⟩) he z) q, s.c + m, s.esc, true,
  fun _ E ρ Q q => s.m _ _ _ (fun _ _ z => CC.mono _ _ _ _ _ _ (fun d k z => ⟨z.1, z.2.1, z.2.1.ne, z.2.2⟩) (fun _ z => z) z) q⟩
/-- f(a, b, k = c) -/
def wCallK (CC : Cts) (f : Str) (m : Nat) (a b e : Wx) : Wx := ⟨fun E ρ Q => a.run E ρ fun x k => k ≠ .bor ∧ b.run E ρ fun y k => k ≠ .bor ∧ e.run E ρ fun z k => k ≠ .bor ∧ CC.C f [.v x, .v y, .v z] (fun d k => (false = true → scal d = true) ∧ k.nb ∧ Q d k) E,
  fun E E' ρ Q Q' he h q => a.mono _ _ _ _ _ he (fun _ _ z => ⟨z.1, b.mono _ _ _ _ _ he (fun _ _ z => ⟨z.1, e.mono _ _ _ _ _ he (fun _ _ z => ⟨z.1, CC.mono _ _ _ _ _ _ (fun d k z => ⟨z.1, z.2.1, h _ _ z.2.2⟩) he z.2⟩) z.2⟩) z.2⟩) q, a.c + (b.c + (e.c + 0)) + m, a.esc ++ (b.esc ++ e.esc), true,
  fun _ E ρ Q q => a.m _ _ _ (fun _ _ z => ⟨z.1, b.m _ _ _ (fun _ _ z => ⟨z.1, e.m _ _ _ (fun _ _ z => ⟨z.1, CC.mono _ _ _ _ _ _ (fun d k z => ⟨z.1, z.2.1, z.2.1.ne, z.2.2⟩) (fun _ z => z) z.2⟩) z.2⟩) z.2⟩) q⟩
/-- a built-in by values -/
def wBv (g : List D → Rz) (hg : ∀ x, RzNb (g x)) (s : Wl) : Wx := ⟨fun E ρ Q => s.fl.run E ρ fun ds => (g ds).to Q, fun E E' ρ Q Q' he h q => s.fl.mono _ _ _ _ _ he (fun _ z => Rz.mono h z) q, s.fl.c, s.fl.esc, true, fun _ E ρ Q q => s.fl.m _ _ _ (fun _ z => (hg _).to z) q⟩
def wBt (b : Bt) (s : Wl) : Wx := wBv (btD b) (btD_nb b) s
def w1 (g : D → Rz) (hg : ∀ x, RzNb (g x)) (a : Wx) : Wx := ⟨fun E ρ Q => a.run E ρ fun x _ => (g x).to Q, fun E E' ρ Q Q' he h q => a.mono _ _ _ _ _ he (fun _ _ z => Rz.mono h z) q, a.c, a.esc, true, fun _ E ρ Q q => a.m _ _ _ (fun _ _ z => (hg _).to z) q⟩
def wIsi (t : String) (a : Wx) : Wx := w1 (fun x => btD (.isi t) [x]) (fun _ => btD_nb _ _) a
/-- a method with one argument, by values -/
theorem mtD_nb (m : Mt) (x : D) (ds : List D) : RzNb (mtD m x ds) := by
  unfold mtD
  split <;> first
    | exact map_nb (fun _ z => by cases z)
    | (intro c d k e; cases e; done)
    | (intro c d k e
       rename_i hh
       cases q : intsD _ with
       | none => rw [q] at e; cases e
       | some l => rw [q] at e; exact map_nb (fun _ z => by cases z) c d k e)
def wMt (m : Mt) (a b : Wx) : Wx := ⟨fun E ρ Q => a.run E ρ fun x _ => recvB m x = true ∧ b.run E ρ fun y _ => (mtD m x [y]).to Q,
  fun E E' ρ Q Q' he h q => a.mono _ _ _ _ _ he (fun _ _ z => ⟨z.1, b.mono _ _ _ _ _ he (fun _ _ z => Rz.mono h z) z.2⟩) q, a.c + b.c, a.esc ++ b.esc, true,
  fun _ E ρ Q q => a.m _ _ _ (fun _ _ z => ⟨z.1, b.m _ _ _ (fun _ _ z => (mtD_nb _ _ _).to z) z.2⟩) q⟩
def oNo : Wo := ⟨fun _ _ Q => Q none, fun _ _ _ _ _ _ h q => h _ q, 0, []⟩
def gI (x : D) (Q : Int → Prop) : Prop := match x with | .int i => Q i | _ => False
theorem gI_mono {x : D} {Q Q' : Int → Prop} (h : ∀ i, Q i → Q' i) : gI x Q → gI x Q' := by
  unfold gI
  split
  · exact h _
  · exact id
def oSo (a : Wx) : Wo := ⟨fun E ρ Q => a.run E ρ fun x _ => gI x fun i => Q (some i), fun E E' ρ Q Q' he h q => a.mono _ _ _ _ _ he (fun _ _ z => gI_mono (fun _ z => h _ z) z) q, a.c, a.esc⟩
def wSl (a : Wx) (lo hi : Wo) : Wx := ⟨fun E ρ Q => a.run E ρ fun x _ => lo.run E ρ fun l => hi.run E ρ fun h => (slD x l h).to Q,
  fun E E' ρ Q Q' he h q => a.mono _ _ _ _ _ he (fun _ _ z => lo.mono _ _ _ _ _ he (fun _ z => hi.mono _ _ _ _ _ he (fun _ z => Rz.mono h z) z) z) q, a.c + lo.c + hi.c, a.esc ++ lo.esc ++ hi.esc, true,
  fun _ E ρ Q q => a.m _ _ _ (fun _ _ z => lo.m _ _ _ (fun _ z => hi.m _ _ _ (fun _ z => (slD_nb _ _ _).to z) z) z) q⟩
def gRev (x : D) (Q : VQ) : Prop := match x with
  | .list ds => Q (.list ds.reverse) .own
  | .str z => z.length ≤ sizeLine ∧ Q (.str ⟨z.cps.toList.reverse.toArray⟩) .shr
  | _ => False
theorem gRev_mono {x : D} {Q Q' : VQ} (h : ∀ d k, k ≠ .bor → Q d k → Q' d k) : gRev x Q → gRev x Q' := by
  unfold gRev
  split
  · exact h _ _ nbO
  · exact fun z => ⟨z.1, h _ _ nbS z.2⟩
  · exact id
def wRev (a : Wx) : Wx := ⟨fun E ρ Q => a.run E ρ fun x _ => gRev x Q, fun E E' ρ Q Q' he h q => a.mono _ _ _ _ _ he (fun _ _ z => gRev_mono (fun d k _ => h d k) z) q, a.c, a.esc, true, fun _ E ρ Q q => a.m _ _ _ (fun _ _ z => gRev_mono (fun d k n z => ⟨n, z⟩) z) q⟩
def gLrg1 (x : D) (Q : VQ) : Prop := match x with | .int j => RgC 0 j ∧ Q (.list (rng 0 (j - 0).toNat)) .own | _ => False
def gLrg (x y : D) (Q : VQ) : Prop := match x, y with | .int i, .int j => RgC i j ∧ Q (.list (rng i (j - i).toNat)) .own | _, _ => False
theorem gLrg1_mono {x : D} {Q Q' : VQ} (h : ∀ d k, k ≠ .bor → Q d k → Q' d k) : gLrg1 x Q → gLrg1 x Q' := by
  unfold gLrg1
  split
  · exact fun z => ⟨z.1, h _ _ nbO z.2⟩
  · exact id
theorem gLrg_mono {x y : D} {Q Q' : VQ} (h : ∀ d k, k ≠ .bor → Q d k → Q' d k) : gLrg x y Q → gLrg x y Q' := by
  unfold gLrg
  split
  · exact fun z => ⟨z.1, h _ _ nbO z.2⟩
  · exact id
def wLrg1 (a : Wx) : Wx := ⟨fun E ρ Q => a.run E ρ fun x _ => gLrg1 x Q, fun E E' ρ Q Q' he h q => a.mono _ _ _ _ _ he (fun _ _ z => gLrg1_mono (fun d k _ => h d k) z) q, a.c, a.esc, true, fun _ E ρ Q q => a.m _ _ _ (fun _ _ z => gLrg1_mono (fun d k n z => ⟨n, z⟩) z) q⟩
def wLrg (a b : Wx) : Wx := ⟨fun E ρ Q => a.run E ρ fun x _ => b.run E ρ fun y _ => gLrg x y Q, fun E E' ρ Q Q' he h q => a.mono _ _ _ _ _ he (fun _ _ z => b.mono _ _ _ _ _ he (fun _ _ z => gLrg_mono (fun d k _ => h d k) z) z) q, a.c + b.c, a.esc ++ b.esc, true, fun _ E ρ Q q => a.m _ _ _ (fun _ _ z => b.m _ _ _ (fun _ _ z => gLrg_mono (fun d k n z => ⟨n, z⟩) z) z) q⟩
/-! ### tests -/
def truT (x : D) (Q : Bool → Prop) : Prop := match truD x with | some (p, b) => p ∧ Q b | none => False
theorem truT_mono {x : D} {Q Q' : Bool → Prop} (h : ∀ b, Q b → Q' b) : truT x Q → truT x Q' := by
  unfold truT
  split
  · exact fun z => ⟨z.1, h _ z.2⟩
  · exact id
def tOf (a : Wx) : Wt := ⟨fun E ρ Q => a.run E ρ fun x _ => truT x Q, fun E E' ρ Q Q' he h q => a.mono _ _ _ _ _ he (fun _ _ z => truT_mono h z) q, a.c, a.esc⟩
def tNt (a : Wt) : Wt := ⟨fun E ρ Q => a.run E ρ fun b => Q (!b), fun E E' ρ Q Q' he h q => a.mono _ _ _ _ _ he (fun _ z => h _ z) q, a.c, a.esc⟩
def tAn (a b : Wt) : Wt := ⟨fun E ρ Q => a.run E ρ fun c => (c = true → b.run E ρ Q) ∧ (c = false → Q false), fun E E' ρ Q Q' he h q => a.mono _ _ _ _ _ he (fun _ z => ⟨fun e => b.mono _ _ _ _ _ he h (z.1 e), fun e => h _ (z.2 e)⟩) q, a.c + b.c, a.esc ++ b.esc⟩
def tOr (a b : Wt) : Wt := ⟨fun E ρ Q => a.run E ρ fun c => (c = true → Q true) ∧ (c = false → b.run E ρ Q), fun E E' ρ Q Q' he h q => a.mono _ _ _ _ _ he (fun _ z => ⟨fun e => h _ (z.1 e), fun e => b.mono _ _ _ _ _ he h (z.2 e)⟩) q, a.c + b.c, a.esc ++ b.esc⟩
def tYes : Wt := ⟨fun _ _ Q => Q true, fun _ _ _ _ _ _ h q => h _ q, 0, []⟩
/-! ### what is walked -/
def gIt (x : D) (Q : List D → Prop) : Prop := match itemsD x with | some ds => Q ds | none => False
def gEn (x : D) (Q : List D → Prop) : Prop := match listS x with | some ds => Q (enumL ds) | none => False
def gRg1 (x : D) (Q : List D → Prop) : Prop := match x with | .int j => (-(2 ^ 62) ≤ j ∧ j < 2 ^ 62) ∧ Q (rng 0 j.toNat) | _ => False
def gRg2 (x y : D) (Q : List D → Prop) : Prop := match x, y with
  | .int i, .int j => (-(2 ^ 62) ≤ i ∧ i < 2 ^ 62 ∧ -(2 ^ 62) ≤ j ∧ j < 2 ^ 62) ∧ Q (rng i (j - i).toNat)
  | _, _ => False
theorem gIt_mono {x : D} {Q Q' : List D → Prop} (h : ∀ i, Q i → Q' i) : gIt x Q → gIt x Q' := by
  unfold gIt
  split
  · exact h _
  · exact id
theorem gEn_mono {x : D} {Q Q' : List D → Prop} (h : ∀ i, Q i → Q' i) : gEn x Q → gEn x Q' := by
  unfold gEn
  split
  · exact h _
  · exact id
theorem gRg1_mono {x : D} {Q Q' : List D → Prop} (h : ∀ i, Q i → Q' i) : gRg1 x Q → gRg1 x Q' := by
  unfold gRg1
  split
  · exact fun z => ⟨z.1, h _ z.2⟩
  · exact id
theorem gRg2_mono {x y : D} {Q Q' : List D → Prop} (h : ∀ i, Q i → Q' i) : gRg2 x y Q → gRg2 x y Q' := by
  unfold gRg2
  split
  · exact fun z => ⟨z.1, h _ z.2⟩
  · exact id
def iOv (a : Wx) : Wi := ⟨fun E ρ Q => a.run E ρ fun x _ => gIt x Q, fun E E' ρ Q Q' he h q => a.mono _ _ _ _ _ he (fun _ _ z => gIt_mono h z) q, a.c, a.esc⟩
def iEn (a : Wx) : Wi := ⟨fun E ρ Q => a.run E ρ fun x _ => gEn x Q, fun E E' ρ Q Q' he h q => a.mono _ _ _ _ _ he (fun _ _ z => gEn_mono h z) q, a.c, a.esc⟩
def iR1 (a : Wx) : Wi := ⟨fun E ρ Q => a.run E ρ fun x _ => gRg1 x Q, fun E E' ρ Q Q' he h q => a.mono _ _ _ _ _ he (fun _ _ z => gRg1_mono h z) q, a.c, a.esc⟩
def iR2 (a b : Wx) : Wi := ⟨fun E ρ Q => a.run E ρ fun x _ => b.run E ρ fun y _ => gRg2 x y Q, fun E E' ρ Q Q' he h q => a.mono _ _ _ _ _ he (fun _ _ z => b.mono _ _ _ _ _ he (fun _ _ z => gRg2_mono h z) z) q, a.c + b.c, a.esc ++ b.esc⟩
/-- a comprehension's turn -/
def gCo (t : Tg) (ρ : En) (c : Wt) (el : Wx) (d : D) (R : Option D → Prop) : Prop := match setTg t d (wipeE ρ t.ixs) with
  | some ρ' => c.run XF0 ρ' fun b => (b = true → el.run XF0 ρ' fun r k => k ≠ .bor ∧ R (some r)) ∧ (b = false → R none)
  | none => False
theorem gCo_mono {t : Tg} {ρ : En} {c : Wt} {el : Wx} (d : D) (R R' : Option D → Prop) (h : ∀ o, R o → R' o) : gCo t ρ c el d R → gCo t ρ c el d R' := by
  unfold gCo
  split
  · exact fun q => c.m _ _ _ (fun b z => ⟨fun e => el.m _ _ _ (fun r k z => ⟨z.1, h _ z.2⟩) (z.1 e), fun e => h _ (z.2 e)⟩) q
  · exact id
def wCo (el : Wx) (t : Tg) (it : Wi) (c : Wt) : Wx := ⟨fun E ρ Q => it.run E ρ fun ds => ds.length ≤ sizeLine ∧ wComp (gCo t ρ c el) ds [] fun rs => Q (.list rs) .own,
  fun E E' ρ Q Q' he h q => it.mono _ _ _ _ _ he (fun ds z => ⟨z.1, wComp_mono gCo_mono _ _ _ _ (fun _ z => h _ _ z) z.2⟩) q, it.c + sizeLine * (c.c + el.c), el.esc ++ it.esc ++ c.esc, true,
  fun _ E ρ Q q => it.m _ _ _ (fun ds z => ⟨z.1, wComp_mono gCo_mono _ _ _ _ (fun _ z => ⟨nbO, z⟩) z.2⟩) q⟩
end Y

/-! E1: own exception classes right over a built-in one, of any kind: made, their field stored. -/
namespace L2
open PySem PySem.Spec PyProof.Rows PySem.W PySem.Calls PySem.HandSPX
/-- what a built-in class must give -/
structure BaseX (B : String) (bm : List Value) (nw ini : String) : Prop where
  f : ExcBaseFacts B nw ini bm
  st : StoreFacts B bm "object.__setattr__" "object"
  ty : typeOf (.type B) = pure (.type "type")
  stub : Manifest.isStub B = false
  hi : handedIn (.builtin ini) = true
theorem baseVE : BaseX "ValueError" [.type "ValueError", .type "Exception", .type "BaseException", .type "object"] "ValueError.__new__" "ValueError.__init__" := ⟨PySem.F.excBase_ValueError, PySem.F.store_ValueError, by kernel_rfl, by decide +kernel, by decide +kernel⟩
theorem baseOE : BaseX "OverflowError" [.type "OverflowError", .type "ArithmeticError", .type "Exception", .type "BaseException", .type "object"] "OverflowError.__new__" "OverflowError.__init__" := ⟨PySem.F.excBase_OverflowError, PySem.F.store_OverflowError, by kernel_rfl, by decide +kernel, by decide +kernel⟩
theorem baseLE : BaseX "LookupError" [.type "LookupError", .type "Exception", .type "BaseException", .type "object"] "LookupError.__new__" "LookupError.__init__" := ⟨PySem.F.excBase_LookupError, PySem.F.store_LookupError, by kernel_rfl, by decide +kernel, by decide +kernel⟩
theorem baseIE : BaseX "IndexError" [.type "IndexError", .type "LookupError", .type "Exception", .type "BaseException", .type "object"] "IndexError.__new__" "IndexError.__init__" := ⟨PySem.F.excBase_IndexError, PySem.F.store_IndexError, by kernel_rfl, by decide +kernel, by decide +kernel⟩
/-- a class of the program right over it -/
structure OwnX (K : Frag) (C : Addr) (bm : List Value) (nw : String) : Prop where
  cls : ∃ nm q N bs sn sub ab col dd k0 k1 k2 k3 k5, K.lookup C = some (excClassObj nm q C N bs bm true sn sub ab col dd k0 k1 k2 k3 k5 nw)
  sa : findIn K (.ref C) "__setattr__" = some (some (.builtin "object.__setattr__"))
  exC : subIn K (.ref C) (.type "BaseException") = some true
  tyC : typeIn K (.ref C) = some (.type "type")
  kC : keepIn K (.ref C) = true
section
open Builtin Builtin.ObjectAttr
variable {prog : Program} {w : World} {A : Around} {R : Result → Shared → Prop} {hp : Heap} {g : Array GenState} {d : Drawn} {t : Nat} {os : OsState} {B nw ini : String} {bm : List Value}
theorem osaX (b : BaseX B bm nw ini) {K : Frag} {f : Str} {tk : Tok} {v : Value} {x C : Addr} {fv : Array Value} {cd : ClassData} (k : K.In hp) (hx : hp.get? x = some { cls := .ref C, data := .fields fv }) (hcd : clsIn K C = some cd) (hm : cd.mro = .ref C :: bm) (hd : cd.hasDict = true)
    (no : findIn K (.ref C) f = some none)
    (q : ∀ h' tk' dx, (∀ a o, a ≠ x → hp.get? a = some o → h'.get? a = some o) → hp.objs.size ≤ dx → dx ≠ x → h'.get? x = some { cls := .ref C, dict := some dx, data := .fields fv } → h'.Ns1 dx (fun y => if y = f then some v else none) → R (.ok (.ret .none)) ⟨h', g, d, tk', os⟩) :
    codeAny (model prog w) A (.call (.builtin "object.__setattr__") ⟨[.ref x, .str f tk, v], []⟩) R ⟨hp, g, d, t, os⟩ := by
  have I : InstAt hp x { cls := .ref C, data := .fields fv } C none := ⟨hx, rfl, rfl, trivial⟩
  have SF := F.store_object
  have xs : x ≠ hp.objs.size := Nat.ne_of_lt (Heap.lt_size hx)
  have hob : (cd.mro).contains (.type "object") = true := by rw [hm, List.contains_cons, b.st.hasOwner, Bool.or_true]
  have ise : cd.mro.isEmpty = false := by rw [hm]; rfl
  have io : Looks (model prog w) hp (isInstance (.ref x) (.type "object")) true := I.type.andThen (looks_mroIn k (by unfold mroIn; rw [hcd, Option.bind_some, ise, hob]; rfl))
  refine codeAny_call_builtin SF.slot.plain SF.entry (@check_slot (model prog w) _ _ ⟨hp, g, d, t, os⟩ "object.__setattr__" "object" "__setattr__" (.ref x) [.str f tk, v] [] _ SF.kind SF.split io (SF.args (.ref x) (.str f tk) v) ?_)
  have l1 : Looks (model prog w) hp (mroOf (.ref C)) cd.mro := (looks_clsIn k hcd).andThen .now
  have l2 : Looks (model prog w) hp (storeTaker? none) none := .now
  have l3 : Looks (model prog w) hp (classData C) cd := looks_clsIn k hcd
  have ps : refuseLoop (.ref x) "__setattr__" cd.mro = pure () := by rw [hm, refuseLoop_ref]; exact b.st.passes _
  rw [osa_eq, refuse_eq]
  refine wpAny_bind (wpAny_bind (I.type.at (wpAny_bind (l1.at ?_))))
  rw [ps]
  refine wpAny_pure (wpAny_bind (I.type.at (wpAny_bind ((looks_findIn k no).at (wpAny_bind (l2.at ?_))))))
  show wpAny _ _ (storeInOwnDict (.ref x) (.ref C) (.str f tk) f v false) _ _ _
  obtain ⟨nm, bs, mro, ns, qn, hd', sn, sb, ab, col, del⟩ := cd
  obtain rfl : hd' = true := hd
  unfold storeInOwnDict ownDictForStores
  repeat (first | with_reducible refine store_in_new ?_ ?_ | with_reducible refine wpAny_loadPart_at hx ?_ | with_reducible refine l3.at ?_ | wp_step)
  · exact ⟨_, #[], _, (Heap.get?_update_ne _ _ _ _ xs.symm).trans (Heap.get?_push_at rfl rfl), rfl, fun e he => absurd he (by simp), fun _ => rfl⟩
  · intro h' tk' hn' hs
    have x1 : (hp.push ({ cls := .type "dict", data := .dict #[] } : Obj)).get? x = some { cls := .ref C, data := .fields fv } := Heap.get?_push_of_some _ hx
    refine q h' tk' hp.objs.size (fun a o ha ho => ?_) (Nat.le_refl _) xs.symm ((hs.2 x xs).trans (Heap.get?_update_self _ x1 rfl)) hn'
    exact (hs.2 a (Nat.ne_of_lt (Heap.lt_size ho))).trans ((Heap.get?_update_ne _ _ _ _ ha).trans (Heap.get?_push_of_some _ ho))
end
section
variable {X : Cx} {pins : List (Addr × Obj)} {σ : St} {H : Hp} {s : Shared} {a C : Addr} {f : Str} {y : V} {u : Value} {A : Around} {B nw ini : String} {bm : List Value}
/-- self.f = y, the first one -/
theorem ost_X (b : BaseX B bm nw ini) {Q : Unit → Shared → Prop} {E : Value → Shared → Prop} (T : OwnX X.K C bm nw) (I : Inv X pins σ H s) (e : H a = some (exo a C none)) (no : findIn X.K (.ref C) f = some none) (ry : RelV y u) (h : ∀ dx s', H dx = none → dx ≠ a → Inv X pins σ (upd (upd H dx (exd dx [(f, y)])) a (exo a C (some dx))) s' → Q () s') : wpAny (model X.prog X.w) A (setAttr (.ref a) f u) Q E s := by
  obtain ⟨nm, q, N, bs, sn, sub, ab, col, dd, k0, k1, k2, k3, k5, hC⟩ := T.cls
  have hcl : clsIn X.K C = some { name := nm, bases := bs, mro := .ref C :: bm, ns := N, qualname := q, hasDict := true, slotNames := sn, subclasses := sub, abstract := ab, collection := col, hasDel := false } := by unfold clsIn; rw [hC] <;> rfl
  obtain ⟨t1, ho⟩ := exo_at I.hok e
  obtain ⟨hp, g, d, t, os⟩ := s
  refine set_plain I.kIn (ox := { cls := .ref C, dict := none, data := .fields #[.ref t1, .none, .none, .none, .bool false, .none] }) (od := none) ⟨ho, rfl, rfl, trivial⟩ T.sa (osaX b I.kIn ho hcl rfl rfl no fun h' tk' dx k dn dne hx hn => ?_)
  have hnd : H dx = none := I.hok.fresh dn
  have nd : ∀ {c : Addr} {o : Obj}, hp.get? c = some o → c ≠ dx := fun {c o} q => Nat.ne_of_lt (Nat.lt_of_lt_of_le (Heap.lt_size q) dn)
  have na : ∀ {c : Addr}, H c = none → c ≠ a := fun {c} n z => by rw [z, e] at n; cases n
  refine h dx _ hnd dne (I.un (t' := tk') { keep := fun c o q n _ _ => k c o (na n) q, slot := fun c o q n _ _ => ⟨o.slots, k c o (na n) q⟩, free := fun c o q n _ => by rw [upd_ne (na n), upd_ne (nd q)]; exact n, there := fun c o q _ => ?_, tups := fun c xs q => by rw [upd_ne (at_ne e q exo_tup), upd_ne (ne_of_none q hnd)]; exact q, frzs := fun c o v q => by rw [upd_ne (at_ne e q exo_frz), upd_ne (ne_of_none q hnd)]; exact q, tbls := fun c ps q => ⟨#[], by rw [upd_ne (at_ne e q exo_tbl), upd_ne (ne_of_none q hnd), q]; simp⟩ } fun c o q => ?_)
  · by_cases hb : c = a
    · exact ⟨_, by rw [hb]; exact hx⟩
    · exact ⟨o, k c o hb q⟩
  · by_cases hb : c = a
    · subst hb; rw [upd_same] at q; cases q; exact exo_ok hx
    · rw [upd_ne hb] at q
      by_cases hd : c = dx
      · subst hd; rw [upd_same] at q; cases q; exact exd_ok hn (relO_put (fs := []) ry fun g => True.intro)
      · rw [upd_ne hd] at q
        refine (I.hok c o q).stay (fun c' v hc z => k c' v ?_ z) (fun c' hc => by rw [upd_ne (at_ne e hc exo_own), upd_ne (ne_of_none hc hnd)]; exact hc) (fun c' xs hc => by rw [upd_ne (at_ne e hc exo_tup), upd_ne (ne_of_none hc hnd)]; exact hc)
        exact hc.elim (fun hc => by rw [hc]; exact hb) fun hc => at_ne e hc exo_own
/-- B.__init__(self, ..): nothing of it is told -/
theorem oinit_X (b : BaseX B bm nw ini) {us : List Value} {Q : Value → Shared → Prop} {E : Value → Shared → Prop} (T : OwnX X.K C bm nw) (I : Inv X pins σ H s) (e : H a = some (exo a C none)) (hl : us.length ≤ sizeLine) (h : ∀ s', Inv X pins σ H s' → Q .none s') :
    wpAny (model X.prog X.w) A (call (.builtin ini) (.ref a :: us)) Q E s := by
  obtain ⟨nm, q, N, bs, sn, sub, ab, col, dd, k0, k1, k2, k3, k5, hC⟩ := T.cls
  obtain ⟨t1, ho⟩ := exo_at I.hok e
  obtain ⟨hp, g, d, t, os⟩ := s
  refine wpAny_call (init_base b.f (fun _ => rfl) (I.kIn _ _ hC) ho hl fun h' t2 k hx => h _ ?_)
  have J := I.write (t' := t) (x := a) (e := a) (o := exo a C none) (by rw [e]; exact True.intro) (.inl rfl) k ⟨_, hx⟩ (exo_ok hx)
  rwa [show upd H a (exo a C none) = H from funext fun c => by by_cases hb : c = a; · rw [hb, upd_same, e]
                                                               · exact upd_ne hb] at J
end
/-- B.__init__(self, ..) -/
def tIniX (K : Frag) (bm : List Value) (nw : String) (ta : TA) : TE := fun σ H Q => ta σ H fun vs H1 => ∃ (a C : Addr) (ws : List V), vs = .ref a :: ws ∧ ws.length ≤ 1000 ∧ OwnX K C bm nw ∧ H1 a = some (exo a C none) ∧ Q .non H1
def tOstX (K : Frag) (bm : List Value) (nw : String) (f : Str) (to te : TE) : TS := fun D σ H => te σ H fun y H1 => to σ H1 fun x H2 => ∃ a C : Addr, x = .ref a ∧ OwnX K C bm nw ∧ findIn K (.ref C) f = some none ∧ H2 a = some (exo a C none) ∧ ∀ dx, H2 dx = none → dx ≠ a → D.nx σ (upd (upd H2 dx (exd dx [(f, y)])) a (exo a C (some dx)))
/-- C(e, ..) -/
def tMkX (C : Addr) (sp : Sp) (ta : TA) : St → Hp → XK → Prop := fun σ H Q => ta σ H fun vs H1 => vs.length ≤ 1000 ∧ ∀ a, H1 a = none → sp (.ref a :: (vs ++ [])) (upd H1 a (exo a C none)) (fun v H2 => v = .non ∧ ∃ (d : Addr) (fs : List (Str × V)), H2 a = some (exo a C (some d)) ∧ H2 d = some (exd d fs) ∧ H1 d = none ∧ Q (.ref C) (some d) (upd (del H2 a) d (.xd fs))) (fun _ _ _ => False)
section
variable {X : Cx} {o e : Expr} {es : List Expr} {to te : TE} {ta : TA} {f : Str} {p p' p1 p2 pos : Pos} {B nw ini : String} {bm : List Value}
theorem pe_iniX (b : BaseX B bm nw ini) {nB : Str} {pl : Sem Bool} (hg : Gl X nB) (hm : X.mg nB = none) (hn : nB ≠ "__name__") (hdb : (nB == ("__debug__" : Str)) = false) (hv : bootBuiltins nB = some (.type B)) (vV : findCls X.K (.type B) (.type "type") "__init__" = some (.val (.builtin ini))) (ha : PA X (e :: es) ta)
    (hc : eval (.Call (.Attribute (.Name nB p1) "__init__" p2) (e :: es) [] pos) X.env = (do
      let ov ← eval (.Name nB p1) X.env
      standAt p2.atName
      let (fm, fs) ← holding [ov] (getMethod ov "__init__" pl)
      callWith pos fm fs (backTo pos (starEach (e :: es) X.env)) (backToKw pos (keywordEach [] X.env))) := by rfl)
    (he : starEach (e :: es) X.env = (false, eval e X.env) :: starEach es X.env := by rfl) (hpl : (backTo pos (starEach es X.env)).any (·.1) = false := by rfl) : PE X (.Call (.Attribute (.Name nB p1) "__init__" p2) (e :: es) [] pos) (tIniX X.K bm nw ta) := by
  refine ⟨fun pins s σ H Q I h => methodCall_KW (ld_blt I hg hm hv ?_ hn hdb) hc⟩
  obtain ⟨m, fr⟩ := I.fr
  refine method_type fr I.ok.mod.kin b.ty b.stub vV b.hi ?_
  refine PyProof.Rows.callWith_method1 (id := ini) (thn (ha.run pos pins _ σ H _ (I.tok _) h) fun us s1 ⟨vs, H1, I1, r1, a, C, ws, ev, hl, T, ea, q⟩ => ?_) he hpl
  subst ev
  cases r1 with
  | @cons _ u0 _ ur ra rw' =>
    obtain rfl : u0 = Value.ref a := ra
    exact oinit_X b T I1 ea (by rw [← Paired.length rw', sizeLine_eq]; omega) fun s' J => ⟨.non, H1, J, rfl, q⟩
theorem ps_ostX (b : BaseX B bm nw ini) (ho : PE X o to) (he : PE X e te) (hs : swapsWith e (some (.Attribute o f p')) pos.line X.env = pure false := by rfl) : PS X (.Assign [.Attribute o f p'] e pos) (tOstX X.K bm nw f to te) := by
  refine ⟨fun pins s σ H D I h => plainObj_wpAny_Assign_Attribute (thn (he.run pins s σ H _ I h) fun v s1 ⟨y, H1, I1, r1, q1⟩ => thn (ho.run pins s1 σ H1 _ I1 q1) fun u s2 ⟨x, H2, I2, r2, a, C, ex, T, no, ea, q⟩ => ?_) hs⟩
  subst ex
  obtain rfl : u = Value.ref a := r2
  exact ost_X b T I2 ea no r1 fun dx s' n ne J => ⟨σ, _, J, q dx n ne⟩
theorem pmk_X (b : BaseX B bm nw ini) {x : Str} {C fI : Addr} {k : Nat} {fd : FuncData} {ps : List Str} {sp : Sp} (T : OwnX X.K C bm nw) (iC : findIn X.K (.ref C) "__init__" = some (some (.ref fI))) (tI : typeIn X.K (.ref fI) = some (.type "function"))
    (F1 : M.FnG X.prog X.w X.K X.mg X.base CX0 k fI fd ps sp) (hr : Room (k + 1) X.A) (hgd : X.A.guards = some []) (hb : Binds X.K fd ps []) (hg : Gl X x) (hm : X.mg x = some (.ref C)) (ha : PA X (e :: es) ta)
    (hdb : (x == ("__debug__" : Str)) = false) (he : starEach (e :: es) X.env = (false, eval e X.env) :: starEach es X.env) (hpl : (backTo pos (starEach es X.env)).any (·.1) = false) : PMk X (.Call (.Name x p) (e :: es) [] pos) (tMkX C sp ta) := by
  intro pins s σ H Q I h
  obtain ⟨nm, q, N, bs, sn, sub, ab, col, dd, k0, k1, k2, k3, k5, hC⟩ := T.cls
  refine wpAny_Call_Name_kw (ld_glob I hg hm ?_ hdb)
  refine callWith_K (h₀ := X.base) I.ok.mod.kin T.kC (thn (ha.run pos pins s σ H _ I h) fun us s1 ⟨vs, H1, I1, r1, hz, q1⟩ => ⟨I1.kIn, ?_⟩) he hpl
  show wpAny _ _ (call (.ref C) us) _ _ _
  obtain ⟨hp, g, dr, tk, os⟩ := s1
  have le1 : hp.objs.size ≤ hp.objs.size + 1 := Nat.le_succ _
  have hq := q1 (hp.objs.size + 1) (I1.hok.fresh le1)
  have kk : ∀ c o, hp.get? c = some o → ((hp.push (kdv_tup us)).push (excO C hp.objs.size)).get? c = some o := fun c o e => Heap.get?_push_of_some _ (Heap.get?_push_of_some _ e)
  have I2 : Inv X pins σ (upd H1 (hp.objs.size + 1) (exo (hp.objs.size + 1) C none)) ⟨(hp.push (kdv_tup us)).push (excO C hp.objs.size), g, dr, tk, os⟩ := I1.laid (t' := tk) (a := hp.objs.size + 1) (o := exo (hp.objs.size + 1) C none) (h' := (hp.push (kdv_tup us)).push (excO C hp.objs.size)) kk le1 (exo_ok (t1 := hp.objs.size) (by heap_get))
  have r2 : Vals (V.ref (hp.objs.size + 1) :: (vs ++ [])) (Value.ref (hp.objs.size + 1) :: (us ++ [])) := .cons rfl (r1.append .nil)
  have hl : (Value.ref (hp.objs.size + 1) :: us ++ []).length = ps.length := (F1.len _ _ _ _ hq ▸ r2.length).symm
  have hus : us.length ≤ sizeLine := by rw [← Paired.length r1, sizeLine_eq]; omega
  refine wpAny_call (call_own b.f (fun _ => rfl) (I1.kIn _ _ hC) (looks_findIn I1.kIn iC) (fun self => bind_fn I1.kIn self tI) hus
    (codeAny_mono (F1.run _ X.stack _ _ ⟨Value.ref (hp.objs.size + 1) :: us, []⟩ (Value.ref (hp.objs.size + 1) :: (us ++ [])) _ _ (fun _ _ _ => False) (hr.make C us []) hgd (I2.env0.make C us []) (show BindsTo _ fd ⟨Value.ref (hp.objs.size + 1) :: us, []⟩ (ps.zip (Value.ref (hp.objs.size + 1) :: (us ++ []))) from hb _ (Value.ref (hp.objs.size + 1) :: us) I2.kIn hl) r2 hq) fun r s' z => ?_))
  match r, z with
  | .error er, z => exact z.elim
  | .ok (.ret u), ⟨v, H2, os2, bare2, un2, hok2, rv, ev, d, fs, ea, ed, hd1, q2⟩ =>
    subst ev
    obtain ⟨h2, g2, d2, t2, os'⟩ := s'
    exact ⟨rv, mk_end (raises_own T.exC T.tyC) I1 le1 kk un2 hok2 os2 bare2 ea ed hd1 q2⟩
  | .ok .next, z => exact z.elim
  | .ok .brk, z => exact z.elim
  | .ok .cont, z => exact z.elim
end
end L2

/-! E2: what a text knows of its exception classes; an own __init__ with one field. -/
namespace Y
open PySem PySem.Spec PyProof.Rows L2 M
/-- C.__init__(self, y): B.__init__(self, ..); self.f = y -/
def spEx (C : Addr) (f : Str) : Sp := fun vs H Q _ => ∃ (a : Addr) (v : V), vs = [.ref a, v] ∧ H a = some (exo a C none) ∧ ∀ d, H d = none → d ≠ a → Q .non (upd (upd H d (exd d [(f, v)])) a (exo a C (some d)))
theorem exk_init {P : Program} {w : World} {K : PySem.W.Frag} {mg : Str → Option Value} {base : Heap} {k : Nat} {fI C : Addr} {fd : FuncData} {x qual y f nB m : Str} {st : Stmt} {B nw ini : String} {bm : List Value} {k4} {p1 p2 p3 p4 p5 p6 p7 p8 p9 p10 : Pos}
    (b : BaseX B bm nw ini) (T : OwnX K C bm nw) (no : PySem.W.findIn K (.ref C) f = some none) (vV : PySem.W.findCls K (.type B) (.type "type") "__init__" = some (.val (.builtin ini))) (F : Fun K x qual st fI fd) (S : FnScope ["self", y] ["self", y] (defScope st))
    (hb : defBody st = [.Expr (.Call (.Attribute (.Name nB p1) "__init__" p2) [.Name "self" p3, .Constant (.str m) k4 p4] [] p5) p6, .Assign [.Attribute (.Name "self" p7) f p8] (.Name y p9) p10])
    (hm : mg nB = none) (hv : bootBuiltins nB = some (.type B)) (hn : nB ≠ "__name__") (hd : (nB == ("__debug__" : Str)) = false)
    (g1 : (defScope st).names.lookup nB = some .globalImplicit) (g2 : (defScope st).names.lookup ("self" : Str) = some .local) (g3 : (defScope st).names.lookup y = some .local) (hy : (y == ("__debug__" : Str)) = false ∧ (y == ("__classdict__" : Str)) = false)
    (hc : ∀ env : Env, ∃ pl : Sem Bool, eval (.Call (.Attribute (.Name nB p1) "__init__" p2) [.Name "self" p3, .Constant (.str m) k4 p4] [] p5) env = (do
      let ov ← eval (.Name nB p1) env
      standAt p2.atName
      let (fm, fs) ← holding [ov] (getMethod ov "__init__" pl)
      callWith p5 fm fs (backTo p5 (starEach [.Name "self" p3, .Constant (.str m) k4 p4] env)) (backToKw p5 (keywordEach [] env)))) :
    FnG P w K mg base CX0 (k + 1) fI fd ["self", y] (spEx C f) := by
  refine Fun.okG0 F S (fun vs H Q E ⟨_, _, e, _⟩ => by rw [e]; rfl) fun cdv A outer s H vs Q E hr hg ⟨a, v, e, ea, q⟩ => ?_
  subst e
  rw [hb]
  have v0 : ∀ {pos : Pos}, PE (cxOf CX0 P w K mg base ["self", y] qual (defScope st) fI cdv A outer s H E).nox (.Name "self" pos) (tVar 0) := pe_var rfl (.inl g2) (by decide) (by decide)
  have v1 : ∀ {pos : Pos}, PE (cxOf CX0 P w K mg base ["self", y] qual (defScope st) fI cdv A outer s H E).nox (.Name y pos) (tVar 1) := pe_var rfl (.inl g3) hy.1 hy.2
  obtain ⟨pl, hc⟩ := hc (cxOf CX0 P w K mg base ["self", y] qual (defScope st) fI cdv A outer s H E).nox.env
  refine ⟨_, pss_cons (ps_expr (pe_iniX b (nB := nB) (pl := pl) g1 hm hn hd hv vV (pa_cons v0 (pa_cons pe_str pa_nil)) hc)) (pss_cons (ps_ostX b v0 v1) pss_nil), ?_⟩
  exact ⟨.ref a, rfl, a, C, [.str m], rfl, (by show 1 ≤ 1000; omega), T, ea, v, rfl, .ref a, rfl, a, C, rfl, T, no, ea, fun dx n ne => q dx n ne⟩
/-- a name that stands for a class -/
def Nm (mg : Str → Option Value) (y : Str) (cv : Value) : Prop := (mg y = some cv ∧ ∃ C, cv = .ref C) ∨ (mg y = none ∧ bootBuiltins y = some cv ∧ ∃ n, cv = .type n)
theorem Nm.clsv {mg : Str → Option Value} {y : Str} {cv : Value} (h : Nm mg y cv) : ∃ c, ClsV c cv ∧ RelV c cv := by
  rcases h with ⟨_, C, rfl⟩ | ⟨_, _, n, rfl⟩
  · exact ⟨.ref C, .own C, rfl⟩
  · exact ⟨.ty n, .ty n, rfl⟩
/-- an exception class with one field -/
structure ExRec (P : Program) (w : World) (K : PySem.W.Frag) (mg : Str → Option Value) (base : Heap) (j : Nat) (x f : Str) : Prop where
  ex : ∃ (C fI : Addr) (fd : FuncData) (B nw ini : String) (bm : List Value) (k : Nat) (y : Str), k + 1 ≤ j ∧ mg x = some (.ref C) ∧ BaseX B bm nw ini ∧ OwnX K C bm nw ∧ PySem.W.findIn K (.ref C) "__init__" = some (some (.ref fI)) ∧ PySem.W.typeIn K (.ref fI) = some (.type "function") ∧
    FnG P w K mg base CX0 k fI fd ["self", y] (spEx C f) ∧ Binds K fd ["self", y] [] ∧ PySem.W.findIn K (.ref C) f = some none ∧ L2.ExcC K C
/-- whether exceptions of the class x are caught by y, are instances of y -/
def RelOk (K : PySem.W.Frag) (mg : Str → Option Value) (x y : Str) (b : Bool) : Prop := ∃ (C : Addr) (cv : Value), mg x = some (.ref C) ∧ Nm mg y cv ∧ PySem.W.kitOne K (.ref C) cv = some b ∧ PySem.W.exmOne K (.ref C) cv = some b ∧ L2.ExcC K C
/-- None is no instance of y -/
def NrelOk (K : PySem.W.Frag) (mg : Str → Option Value) (y : Str) : Prop := ∃ cv, Nm mg y cv ∧ PySem.W.kitOne K (.type "NoneType") cv = some false
/-! ### a caught exception, asked -/
theorem exk_at {X : Cx} {pins : List (Addr × Obj)} {σ : L2.St} {H : Hp} {s : Shared} {a C : Addr} {e : Exc} {Z : Addr → Prop} {d : Option Addr} (I : Inv X pins σ H s) (h : H a = some (exk a (.ref C) d)) (r : ExR X.K X.mg H Z e (.ref C) d) :
    ∃ (o od : Obj), PySem.W.InstAt s.heap a o C (some od) ∧ ∃ (dd : Addr) (fvs : List (Str × V)) (mA : Str → Option Value), d = some dd ∧ H dd = some (.xd fvs) ∧ (∀ f, PySem.W.lookIn f od = some (mA f)) ∧ ∀ f, RelO (fvs.lookup f) (mA f) := by
  obtain ⟨_, dd, fvs, rfl, _, hx, _⟩ := r
  have ha : ObjOk X.prog X.w H s.heap a (.ext fun h => ∃ o vs, h.get? a = some o ∧ o.cls = .ref C ∧ o.dict = some dd ∧ o.data = .fields vs) := I.hok a _ h
  obtain ⟨⟨o, vs, h1, h2, h3, h4⟩, _⟩ := ha
  have hd : ObjOk X.prog X.w H s.heap dd (.xd fvs) := I.hok dd _ hx
  obtain ⟨mA, hns, hr⟩ := hd
  obtain ⟨od, ho, hl⟩ := lookIn_ns hns
  exact ⟨o, od, ⟨h1, h2, by unfold PySem.W.notCls; rw [h4] <;> rfl, by rw [h3]; exact ho⟩, dd, fvs, mA, rfl, hx, hl, hr⟩
end Y

/-! W2: the rules of expressions, over a def's context. -/
namespace Y
open PySem PySem.Spec PyProof.Rows L2 M
structure Gm where
  N : List Str
  sc : Scope
  fn : Str → Bool
  blts : List Str
  cons : List (Str × D)
  fns : List (Str × Nat)
  mks : List Str
  cls : List (Str × Nat × List Str)
  exs : List (Str × Str)
  rel : List (Str × Str × Bool)
  nrel : List Str
  top : Bool
  calm : Bool
  lams : List (Str × Nat × Nat) := []
  lfns : List (Str × Nat) := []
  lamb : Bool := false
  kfns : List (Str × Str × Nat) := []
  ext : Program → World → PySem.W.Frag → (Str → Option Value) → Heap → Nat → Prop := fun _ _ _ _ _ _ => True
def Gm.blk (G : Gm) (scope : Scope) : Gm := { G with sc := relS scope G.sc, fn := fun x => scope.names.lookup x == some .cell, top := false, lams := [], lfns := [], lamb := false }
/-- what a call of the value at slot 0, told by gv, does -/
def ActOk (X : Cx) (xw : Xw) (gv : Gv) (a : Str) (act : Ac) (ma : Nat) : Prop := ∀ (W : WX) (pns : List (Addr × Obj)) (xe : Value → Shared → Prop), Takes (X.tr pns xe) W → ∀ p1 p2 : Pos, PE (X.tr pns xe) (.Call (.Name a p1) [] [] p2)
  fun σ H R => ∃ H0 B pn fr ρ Z tb, EnvOk X.K xw H0 B pn fr Z (ma + tb) σ ρ H ∧ ρ[0]? = some (.gen gv) ∧
    act.run (fun d k => k.nb ∧ ∀ v H', HStep tb pn H H' → RX X.K pn H H' Z v d k → R v H') (fun e => ∀ cls d H', HStep tb pn H H' → ExR X.K X.mg H' Z e cls d → W cls d σ H')
/-- a def of one parameter, which it calls -/
structure LamTk (P : Program) (w : World) (K : PySem.W.Frag) (mg : Str → Option Value) (base : Heap) (kg : Nat) (g : Str) (Lc : Lt) (m ma : Nat) : Prop where
  ex : ∃ (fa : Addr) (fd : FuncData) (st : Stmt) (a : Str) (N : List Str), mg g = some (.ref fa) ∧ Fun K g g st fa fd ∧ Binds K fd [a] [] ∧ FnScope N [a] (defScope st) ∧ N[0]? = some a ∧ Vis (defScope st) a ∧ (a == ("__debug__" : Str)) = false ∧ (a == ("__classdict__" : Str)) = false ∧
    ∀ (cdv : Value) (A : Around) (outer : List Env) (s : Shared) (H : Hp) (Z : Addr → Prop) (pn : List Addr) (tb : Nat) (gv : Gv) (act : Ac) (Qd : VQ) (Q : VK) (v : V) (kn : Hp → (Addr → Prop) → List Addr → List Addr → Prop),
      Room kg (A.deeper (envOfC g (defScope st) s.heap.objs.size fa cdv)) → A.guards = some [] → (∀ a, Z a → H a ≠ none) → (∀ a ∈ pn, Z a ∧ PenX K H Z a) → Bd (m + tb) pn H → kn H Z pn [] → gv.P K H Z v →
      ActOk (cxOf CX0 P w K mg base N g (defScope st) fa cdv A outer s H (fun _ _ _ => False)).nox ⟨mg, fun _ => False, fun _ _ _ => False, kn⟩ gv a act ma →
      Lc act Qd → (∀ d k v H', Qd d k → HStep tb pn H H' → RXg K pn H H' Z v d k → Q v H') →
      ∃ t, PSs (cxOf CX0 P w K mg base N g (defScope st) fa cdv A outer s H (fun _ _ _ => False)).nox (defBody st) t ∧ t { nx := fun _ H' => Q .non H', rt := Q } (start N [v]) H
structure Cok (X : Cx) (xw : Xw) (G : Gm) (j : Nat) (CC : Cts) : Prop where
  N : X.N = G.N
  nd : G.N.Nodup
  sc : X.env.scope = G.sc
  fn : X.fn = G.fn
  calm : G.calm = true → X.calm = true
  room : Room j X.A
  quiet : X.A.guards = some []
  mge : xw.mg = X.mg
  tk : Takes X fun cls d _ H => xw.W cls d H
  po : PassesOwn (model X.prog X.w) X.A X.env X.xe
  tp : G.top = true → X.stack = X.env :: X.outer ∧ X.env.frame = some X.env.locals ∧ X.ex = []
  blt : ∀ x ∈ G.blts, X.mg x = none
  con : ∀ x d, (x, d) ∈ G.cons → ∃ v, (∃ u, X.mg x = some u ∧ RelV v u) ∧ ∀ K H Z, Dn K H Z v d
  fns : ∀ f m, (f, m) ∈ G.fns → ∃ k ps, k ≤ j ∧ Cl X.prog X.w X.K X.mg X.base (L2.CX X.prog X.w) k f ps (spC X.mg (CC.C f) m X.K)
  mks : ∀ f ∈ G.mks, ∃ k ps, k ≤ j ∧ Cl X.prog X.w X.K X.mg X.base (L2.CX X.prog X.w) k f ps (spPen X.K)
  cls : ∀ x m nm, (x, m, nm) ∈ G.cls → ∃ k ps, k + 1 ≤ j ∧ Mkr X.prog X.w X.K X.mg X.base k x nm ps (spI nm (CC.I x) m X.K)
  exs : ∀ x f, (x, f) ∈ G.exs → ExRec X.prog X.w X.K X.mg X.base j x f
  rel : ∀ x y b, (x, y, b) ∈ G.rel → RelOk X.K X.mg x y b
  nrel : ∀ y ∈ G.nrel, NrelOk X.K X.mg y
  lams : ∀ g m ma, (g, m, ma) ∈ G.lams → ∃ kg, kg + 1 ≤ j ∧ LamTk X.prog X.w X.K X.mg X.base kg g (CC.L g) m ma
  lfns : ∀ f m, (f, m) ∈ G.lfns → ∃ k ps, k + 2 ≤ j ∧ Cl X.prog X.w X.K X.mg X.base (L2.CX X.prog X.w) k f ps (spC X.mg (CC.C f) m X.K)
  lamb : G.lamb = true → ∃ cd T, X.env.code = .ref cd ∧ LamX.TabB X.base X.mg cd T ∧ LQ T = X.env.qual ++ "<lambda>" ∧ ∀ H0 B pn mu, xw.kn H0 B pn mu → T ∈ pn ∧ TabA H0 T
  kfns : ∀ f kn m, (f, kn, m) ∈ G.kfns → ∃ k ps, k ≤ j ∧ ClK X.prog X.w X.K X.mg X.base (L2.CX X.prog X.w) k f ps 2 [kn] (spC X.mg (CC.C f) m X.K)
  ext : G.ext X.prog X.w X.K X.mg X.base j
theorem Cok.hp {X : Cx} {xw : Xw} {G : Gm} {j : Nat} {CC : Cts} (c : Cok X xw G j CC) : Passes (L2.CX X.prog X.w) X fun cls d H => xw.W cls d H := passes_call c.tk fun _ _ _ _ h => h
theorem Cok.blk {X : Cx} {xw : Xw} {G : Gm} {j : Nat} {CC : Cts} (c : Cok X xw G j CC) (scope : Scope) (s : Shared) (H : Hp) (cl : List (Str × Addr)) (L : Addr) (fp : List Addr) : Cok (X.blk s H scope (compEnvC scope cl L X.env) fp) xw.ne (G.blk scope) j CC :=
  ⟨c.N, c.nd, by show relS scope X.env.scope = relS scope G.sc; rw [c.sc], rfl, c.calm, c.room, c.quiet, c.mge, takes0, PassesOwn.never, (fun z => nomatch z), c.blt, c.con, c.fns, c.mks, c.cls, c.exs, c.rel, c.nrel, (fun _ _ _ z => nomatch z), (fun _ _ z => nomatch z), (fun z => nomatch z), c.kfns, c.ext⟩
/-! ### checks -/
def slotB (G : Gm) (x : Str) (i : Nat) : Bool := decide (G.N[i]? = some x)
def visB (G : Gm) (x : Str) : Bool := match G.sc.names.lookup x with | some .local => true | some .cell => true | some .free => true | _ => false
def locB (G : Gm) (x : Str) : Bool := (match G.sc.names.lookup x with | some .local => true | some .cell => G.fn x | _ => false)
def glB (G : Gm) (x : Str) : Bool := decide (G.sc.names.lookup x = some .globalImplicit)
def okN (x : Str) : Bool := !(x == ("__debug__" : Str)) && !(x == ("__classdict__" : Str)) && !(x == ("__name__" : Str))
def isStar : Expr → Bool | .Starred _ _ => true | _ => false
def isSet : Expr → Bool | .Set _ _ _ => true | _ => false
def isTup : Expr → Bool | .Tuple _ _ _ => true | _ => false
def isComp : Expr → Bool | .ListComp _ _ _ _ => true | .SetComp _ _ _ _ => true | .DictComp _ _ _ _ _ => true | _ => false
def isSlice : Expr → Bool | .Slice _ _ _ _ => true | _ => false
/-- a visible name at a slot -/
def nmB (G : Gm) (x : Str) (i : Nat) : Bool := slotB G x i && visB G x && okN x
/-- a global name -/
def gnB (G : Gm) (x : Str) : Bool := glB G x && okN x
/-- a built-in's name -/
def btB (G : Gm) (x : Str) : Bool := glB G x && okN x && decide (x ∈ G.blts)
/-- a target's name -/
def tgB (G : Gm) (x : Str) (i : Nat) : Bool := slotB G x i && locB G x
section
variable {env : Env}
theorem star_cons {e : Expr} {es : List Expr} (h : isStar e = false) : starEach (e :: es) env = (false, eval e env) :: starEach es env := by
  cases e <;> first | rfl | cases h
theorem star_any {pos : Pos} : ∀ {es : List Expr}, (es.all fun e => !isStar e) = true → (backTo pos (starEach es env)).any (·.1) = false
  | [], _ => rfl
  | e :: es, h => by
    rw [List.all_cons, Bool.and_eq_true] at h
    rw [star_cons (by simpa using h.1)]
    show ((backTo pos (starEach es env)).any (·.1)) = false
    exact star_any h.2
theorem plainIx {e : Expr} (h : isSlice e = false) : PlainIx e := by
  intro o i
  cases e <;> first | rfl | cases h
theorem folded_ok {e : Expr} (h : isSet e = false) : ∀ x, foldedSetIterable e env x = pure x := by
  intro x
  cases e <;> first | rfl | cases h
theorem swaps_ok {e : Expr} {t : Option Expr} {l : Nat} (h : isComp e = false) : swapsWith e t l env = pure false := by
  cases e <;> first | rfl | cases h
theorem stores_ok {t e : Expr} (h : isTup e = false) : swappedStores [t] e env = pure none := by
  cases e <;> first | (cases h; done) | (cases t <;> rfl)
end
def plainTB : Expr → Bool
  | .UnaryOp _ _ _ => false | .BoolOp _ _ _ => false | .IfExp _ _ _ _ => false | .Compare _ _ _ _ => false | _ => true
theorem plainT {e : Expr} (h : plainTB e = true) : PlainT e := by
  intro env whole
  cases e <;> first | rfl | cases h
def recvOk : Expr → Bool
  | .Name _ _ => true
  | .Constant _ _ _ => true
  | _ => false
theorem basesep {o : Expr} {a : Str} {w : Sem Value} {env : Env} (h : recvOk o = true) : attributeBase o a env w = w := by
  cases o <;> first | rfl | cases h
theorem okN_ok {x : Str} (h : okN x = true) : (x == ("__debug__" : Str)) = false ∧ (x == ("__classdict__" : Str)) = false ∧ x ≠ "__name__" := by
  unfold okN at h
  simp only [Bool.and_eq_true, Bool.not_eq_true'] at h
  exact ⟨h.1.1, h.1.2, fun z => by have := h.2; rw [z] at this; simp at this⟩
/-! ### judgements -/
def Pe (X : Cx) (xw : Xw) (e : Expr) (w : Wx) : Prop := PE X e (tX X.K xw w.c (w.run xw.E))
def Pt (X : Cx) (xw : Xw) (e : Expr) (w : Wt) : Prop := PT X e (tT X.K xw w.c (w.run xw.E))
def Pw (X : Cx) (xw : Xw) (e : Expr) (w : Wt) : Prop := PW X e (tT X.K xw w.c (w.run xw.E))
def Pts (X : Cx) (xw : Xw) (es : List Expr) (w : Wt) : Prop := PTs X es (tT X.K xw w.c (w.run xw.E))
def Po (X : Cx) (xw : Xw) (e : Option Expr) (w : Wo) : Prop := PO X e (tO X.K xw w.c (w.run xw.E))
structure Pl (X : Cx) (xw : Xw) (es : List Expr) (w : Wl) : Prop where
  tr : PA X es (tA X.K xw true w.tr.c (w.tr.run xw.E))
  fl : PA X es (tA X.K xw false w.fl.c (w.fl.run xw.E))
  st : (es.all fun e => !isStar e) = true
structure Par (X : Cx) (xw : Xw) (es : List Expr) (w : Wa) : Prop where
  ar : PA X es (tAr X.K xw w.c (w.run xw.E))
  st : (es.all fun e => !isStar e) = true
structure Pit (X : Cx) (xw : Xw) (nb : Bool) (tg iter : Expr) (w : Wi) : Prop where
  it : PI X tg iter (tI X.K xw nb w.c (w.run xw.E))
  st : isSet iter = false
def Pg (X : Cx) (e : Expr) (t : Tg) : Prop := PG X e (gT X.K t)
structure Pgs (X : Cx) (es : List Expr) (ts : Tgs) : Prop where
  tg : PGs X es (gTs X.K ts)
  len : (assignEach es X.env).length = ts.len
  no : (assignEach es X.env).findIdx? (·.1) = none
section
variable {X : Cx} {xw : Xw} {G : Gm} {j : Nat} {CC : Cts} (c : Cok X xw G j CC) {pos p p2 p3 : Pos}
include c
theorem slot_ok {x : Str} {i : Nat} (h : slotB G x i = true) : X.N[i]? = some x := by rw [c.N]; exact of_decide_eq_true h
theorem vis_ok {x : Str} (h : visB G x = true) : Vis X.env.scope x := by
  rw [c.sc]
  unfold visB at h
  split at h
  · exact .inl (by assumption)
  · exact .inr (.inl (by assumption))
  · exact .inr (.inr (by assumption))
  · cases h
theorem loc_ok {x : Str} (h : locB G x = true) : Loc X.env.scope x ∧ (X.fn x = true ∨ X.env.scope.names.lookup x = some .local) := by
  rw [c.sc, c.fn]
  unfold locB at h
  split at h
  · rename_i e; exact ⟨.inl e, .inr e⟩
  · rename_i e; exact ⟨.inr e, .inl h⟩
  · cases h
theorem gl_ok {x : Str} (h : glB G x = true) : Gl X x := by
  show X.env.scope.names.lookup x = _
  rw [c.sc]
  exact of_decide_eq_true h
theorem hu_of' : X.A.units + 65 < cLine := by have := c.room.un; omega
theorem nm_ok {x : Str} {i : Nat} (h : nmB G x i = true) : X.N[i]? = some x ∧ Vis X.env.scope x ∧ (x == ("__debug__" : Str)) = false ∧ (x == ("__classdict__" : Str)) = false := by
  unfold nmB at h
  rw [Bool.and_eq_true, Bool.and_eq_true] at h
  obtain ⟨o1, o2, _⟩ := okN_ok h.2
  exact ⟨slot_ok c h.1.1, vis_ok c h.1.2, o1, o2⟩
theorem gn_ok {x : Str} (h : gnB G x = true) : Gl X x ∧ (x == ("__debug__" : Str)) = false := by
  unfold gnB at h
  rw [Bool.and_eq_true] at h
  exact ⟨gl_ok c h.1, (okN_ok h.2).1⟩
theorem bt_ok {x : Str} (h : btB G x = true) : Gl X x ∧ X.mg x = none ∧ (x == ("__debug__" : Str)) = false ∧ x ≠ "__name__" := by
  unfold btB at h
  rw [Bool.and_eq_true, Bool.and_eq_true] at h
  exact ⟨gl_ok c h.1.1, c.blt _ (of_decide_eq_true h.2), (okN_ok h.1.2).1, (okN_ok h.1.2).2.2⟩
theorem tg_okB {x : Str} {i : Nat} (h : tgB G x i = true) : X.N[i]? = some x ∧ Loc X.env.scope x ∧ (X.fn x = true ∨ X.env.scope.names.lookup x = some .local) := by
  unfold tgB at h
  rw [Bool.and_eq_true] at h
  exact ⟨slot_ok c h.1, loc_ok c h.2⟩
/-! ### rules -/
theorem e_int {i : Int} {k} : Pe X xw (.Constant (.int i) k pos) (wCon (.int i)) := y_con pe_int fun H Z => .int _
theorem e_bool {b : Bool} {k} : Pe X xw (.Constant (.bool b) k pos) (wCon (.bool b)) := y_con pe_bl fun H Z => .bl _
theorem e_none {k} : Pe X xw (.Constant .none k pos) (wCon .none) := y_con pe_non fun H Z => .non
theorem e_str {s : Str} {k} : Pe X xw (.Constant (.str s) k pos) (wCon (.str s)) := y_con pe_str fun H Z => .str _
theorem e_var {x : Str} (i : Nat) (h : nmB G x i = true := by decide +kernel) : Pe X xw (.Name x pos) (wVar i) :=
  have h := nm_ok c h
  y_var h.1 h.2.1 h.2.2.1 h.2.2.2
theorem e_bor {x : Str} (i : Nat) (h : nmB G x i = true := by decide +kernel) : Pe X xw (.Name x pos) (wBor i) :=
  have h := nm_ok c h
  y_bor h.1 h.2.1 h.2.2.1 h.2.2.2
theorem e_glob {x : Str} {d : D} (e : G.cons.lookup x = some d := by rfl) (h : gnB G x = true := by decide +kernel) : Pe X xw (.Name x pos) (wCon d) := by
  have h := gn_ok c h
  obtain ⟨v, hu, hd⟩ := c.con x d (PySem.mem_of_lookup e)
  exact y_con (pe_globS h.1 hu h.2) (fun H Z => hd _ H Z)
variable {a b d : Expr} {wa wb wd : Wx} {o o' : CmpOp}
theorem e_bin {op : Operator} (ha : Pe X xw a wa) (hb : Pe X xw b wb) : Pe X xw (.BinOp a op b pos) (wBin op wa wb) := y_bin wa.m wb.m ha hb
theorem e_neg (ha : Pe X xw a wa) : Pe X xw (.UnaryOp .USub a pos) (wNeg wa) := y_neg wa.m ha
theorem e_nt (ha : Pe X xw a wa) : Pe X xw (.UnaryOp .Not a pos) (wNt wa) := y_nt wa.m ha
theorem e_cmp (ha : Pe X xw a wa) (hb : Pe X xw b wb) (hm : behindInMarks o b = false := by rfl) : Pe X xw (.Compare a [o] [b] pos) (wCmp o wa wb) := y_cmp (hu_of' c) hm wa.m wb.m ha hb
theorem e_chn (ha : Pe X xw a wa) (hb : Pe X xw b wb) (hd : Pe X xw d wd) (hm : lastMarks [o, o'] [b, d] = false := by rfl) : Pe X xw (.Compare a [o, o'] [b, d] pos) (wChn o o' wa wb wd) := y_chn (hu_of' c) hm wa.m wb.m wd.m ha hb hd
theorem e_one (ha : Pe X xw a wa) : Pe X xw (.BoolOp .And [a] pos) wa := pe_one ha
theorem e_oneO (ha : Pe X xw a wa) : Pe X xw (.BoolOp .Or [a] pos) wa := pe_one ha
theorem e_and {rest : List Expr} (ha : Pe X xw a wa) (hb : Pe X xw (.BoolOp .And (b :: rest) pos) wb) : Pe X xw (.BoolOp .And (a :: b :: rest) pos) (wAnd wa wb) := y_and wa.m wb.m ha hb
theorem e_or {rest : List Expr} (ha : Pe X xw a wa) (hb : Pe X xw (.BoolOp .Or (b :: rest) pos) wb) : Pe X xw (.BoolOp .Or (a :: b :: rest) pos) (wOr wa wb) := y_or wa.m wb.m ha hb
theorem e_ite {t : Expr} {wt : Wt} (ht : Pt X xw t wt) (ha : Pe X xw a wa) (hb : Pe X xw b wb) : Pe X xw (.IfExp t a b pos) (wIte wt wa wb) := y_ite wt.m wa.m wb.m ht ha hb
theorem l_nil : Pl X xw [] lNil := ⟨a_nil, a_nil, rfl⟩
theorem l_cons {es : List Expr} {ws : Wl} (ha : Pe X xw a wa) (hs : Pl X xw es ws) (st : isStar a = false := by rfl) : Pl X xw (a :: es) (lCons wa ws) :=
  ⟨a_consT (star_cons st) wa.m ws.tr.m ha hs.tr, a_consF (star_cons st) wa.m ws.fl.m ha hs.fl, by rw [List.all_cons, st, hs.st]; rfl⟩
theorem sizeLine_le {n : Nat} (h : n ≤ 1000) : n ≤ sizeLine := by rw [sizeLine_eq]; omega
theorem e_tup {es : List Expr} {ws : Wl} {k} (hs : Pl X xw es ws) (hn : ws.n ≤ 1000 := by decide) : Pe X xw (.Tuple es k pos) (wTup ws) :=
  y_tup ws.tr.m (fun ρ Q q => ws.tr.m _ _ _ (fun ds z => ⟨by rw [z.1]; exact sizeLine_le c hn, z.2⟩) (ws.len _ _ _ q)) hs.tr
theorem e_lst {es : List Expr} {ws : Wl} (hs : Pl X xw es ws) (hn : ws.n ≤ 1000 := by decide) : Pe X xw (.List es pos) (wLst ws) :=
  y_lst ws.tr.m (fun ρ Q q => ws.tr.m _ _ _ (fun ds z => ⟨by rw [z.1]; exact sizeLine_le c hn, z.2⟩) (ws.len _ _ _ q)) hs.tr
theorem e_ix (ha : Pe X xw a wa) (hb : Pe X xw b wb) (hs : isSlice b = false := by rfl) : Pe X xw (.Subscript a b pos) (wIx wa wb) := y_ix (plainIx hs) wa.m wb.m ha hb
theorem o_none : Po X xw none oNo := o_no
theorem o_some (ha : Pe X xw a wa) : Po X xw (some a) (oSo wa) := o_so wa.m ha
theorem e_sl {lo hi : Option Expr} {wl wh : Wo} (ha : Pe X xw a wa) (hl : Po X xw lo wl) (hh : Po X xw hi wh) : Pe X xw (.Subscript a (.Slice lo hi none p) pos) (wSl wa wl wh) := y_sl wa.m wl.m wh.m ha hl hh
theorem e_rev {k} (ha : Pe X xw a wa) : Pe X xw (.Subscript a (.Slice none none (some (.UnaryOp .USub (.Constant (.int 1) k p) p2)) p3) pos) (wRev wa) := y_rev wa.m ha
theorem a_nil' : Par X xw [] aNil := ⟨r_nil, rfl⟩
theorem a_ex {es : List Expr} {ws : Wa} (ha : Pe X xw a wa) (hs : Par X xw es ws) (st : isStar a = false := by rfl) : Par X xw (a :: es) (aEx wa ws) :=
  ⟨r_ex (star_cons st) wa.m ws.m ha hs.ar, by rw [List.all_cons, st, hs.st]; rfl⟩
theorem a_sl {x : Str} {es : List Expr} {ws : Wa} (i : Nat) (hs : Par X xw es ws) (h : nmB G x i = true := by decide +kernel) : Par X xw (.Name x p :: es) (aSl i ws) := by
  have h := nm_ok c h
  refine ⟨PA.weak (r_sl (ws := ws.run xw.E) h.1 h.2.1 h.2.2.1 h.2.2.2 ws.m hs.ar) fun σ H Q z => ?_, by rw [List.all_cons, hs.st]; rfl⟩
  obtain ⟨H0, B, pn, fr, ρ, Z, tb, ok, w⟩ := z
  refine ⟨H0, B, pn, fr, ρ, Z, tb, ok, ?_⟩
  unfold aSl gSl at w
  dsimp only at w ⊢
  cases e : ρ[i]? with
  | none => rw [e] at w; exact w
  | some s => rw [e] at w; cases s <;> simpa using w
theorem e_call {f : Str} {m : Nat} {a : Expr} {es : List Expr} {ws : Wa} (ha : Par X xw (a :: es) ws) (hf : G.fns.lookup f = some m := by rfl) (h : gnB G f = true := by decide +kernel) : Pe X xw (.Call (.Name f p) (a :: es) [] pos) (wCall CC f m ws) := by
  have h := gn_ok c h
  obtain ⟨k, ps, hkj, cl⟩ := c.fns f m (PySem.mem_of_lookup hf)
  have st := ha.st
  rw [List.all_cons, Bool.and_eq_true] at st
  exact y_call (fun as Q Q' E E' h1 h2 h3 => CC.mono f as Q Q' E E' h1 h2 h3) cl c.mge c.hp c.room c.quiet hkj h.1 h.2 (star_cons (by simpa using st.1)) (star_any st.2) ws.m ha.ar
theorem e_callK {f kn : Str} {m : Nat} {a b e : Expr} {wa wb we : Wx} {kp : Pos} (ha : Pe X xw a wa) (hb : Pe X xw b wb) (he : Pe X xw e we) (hf : G.kfns.lookup f = some (kn, m) := by rfl) (h : gnB G f = true := by decide +kernel) (st : isStar a = false := by rfl) (st2 : isStar b = false := by rfl) : Pe X xw (.Call (.Name f p) [a, b] [⟨some kn, e, kp⟩] pos) (wCallK CC f m wa wb we) := by
  have h := gn_ok c h
  obtain ⟨k, ps, hkj, cl⟩ := c.kfns f kn m (PySem.mem_of_lookup hf)
  exact y_callK (fun as Q Q' E E' h1 h2 h3 => CC.mono f as Q Q' E E' h1 h2 h3) cl c.mge c.hp c.room c.quiet hkj h.1 h.2 (star_cons st) (star_cons st2) wa.m wb.m we.m ha hb he
theorem e_call0 {f : Str} {m : Nat} (hf : G.fns.lookup f = some m := by rfl) (h : gnB G f = true := by decide +kernel) : Pe X xw (.Call (.Name f p) [] [] pos) (wCall CC f m aNil) := by
  have h := gn_ok c h
  obtain ⟨k, ps, hkj, cl⟩ := c.fns f m (PySem.mem_of_lookup hf)
  exact y_call0 (fun as Q Q' E E' h1 h2 h3 => CC.mono f as Q Q' E E' h1 h2 h3) cl c.mge c.hp c.room c.quiet hkj h.1 h.2
theorem e_bt {x : Str} {es : List Expr} {ws : Wl} (t : Bt) (ha : Pl X xw (a :: es) ws) (h : btB G x = true := by decide +kernel) (hp : plainB t = true := by rfl) (hv : bootBuiltins x = some (bval t) := by decide +kernel) (hcm : G.calm = true := by rfl) : Pe X xw (.Call (.Name x p) (a :: es) [] pos) (wBt t ws) := by
  have h := bt_ok c h
  have st := ha.st
  rw [List.all_cons, Bool.and_eq_true] at st
  exact y_bt (c.calm hcm) c.quiet c.room hp h.1 h.2.1 hv h.2.2.2 h.2.2.1 (star_cons (by simpa using st.1)) (star_any st.2) ws.fl.m ha.fl
theorem e_isi {ty : Str} (t : String) (ha : Pe X xw a wa) (st : isStar a = false := by rfl) (h : btB G "isinstance" = true := by decide +kernel) (ht : t ∈ kindsD := by decide) (h2 : btB G ty = true := by decide +kernel) (hv : bootBuiltins ty = some (.type t) := by decide +kernel) : Pe X xw (.Call (.Name "isinstance" p) [a, .Name ty p2] [] pos) (wIsi t wa) := by
  have h := bt_ok c h
  have h2 := bt_ok c h2
  exact y_isi ht h.1 h.2.1 (pe_bltn (v := .ty t) (u := .type t) h2.1 h2.2.1 hv rfl h2.2.2.2 h2.2.2.1) (star_cons st) wa.m ha
theorem e_lenS {x : Str} (i : Nat) (h : nmB G x i = true := by decide +kernel) (h2 : btB G "len" = true := by decide +kernel) : Pe X xw (.Call (.Name "len" p) [.Name x p2] [] pos) (wLenS i) := by
  have h := nm_ok c h
  have h2 := bt_ok c h2
  refine PE.weak (pe_callB call_len_seq h2.1 h2.2.1 (by decide +kernel) (pa_cons (pe_var h.1 h.2.1 h.2.2.1 h.2.2.2) pa_nil rfl)) fun σ H Q ⟨H0, B, pn, fr, ρ, Z, tb, ok, w⟩ => ?_
  unfold wLenS gLen at w
  dsimp only at w
  split at w
  · rename_i k e
    obtain ⟨a, ns, e1, hs, rfl⟩ := ok.sl _ _ e
    refine ⟨.ref a, e1, a, _, rfl, .inl hs.sq, ?_⟩
    rw [List.length_map]
    exact w _ H (HStep.refl (ok.bd.less (by omega))) (.int _)
  · exact w.elim
theorem e_lrg1 (ha : Pe X xw a wa) (st : isStar a = false := by rfl) (h : btB G "list" = true := by decide +kernel) (h2 : btB G "range" = true := by decide +kernel) (hcm : G.calm = true := by rfl) : Pe X xw (.Call (.Name "list" p) [.Call (.Name "range" p2) [a] [] p3] [] pos) (wLrg1 wa) := by
  have h := bt_ok c h
  have h2 := bt_ok c h2
  exact y_lrg1 (c.calm hcm) h.1 h.2.1 h2.1 h2.2.1 (star_cons st) wa.m ha
theorem e_lrg (ha : Pe X xw a wa) (hb : Pe X xw b wb) (st : isStar a = false := by rfl) (st2 : isStar b = false := by rfl) (h : btB G "list" = true := by decide +kernel) (h2 : btB G "range" = true := by decide +kernel) (hcm : G.calm = true := by rfl) : Pe X xw (.Call (.Name "list" p) [.Call (.Name "range" p2) [a, b] [] p3] [] pos) (wLrg wa wb) := by
  have h := bt_ok c h
  have h2 := bt_ok c h2
  exact y_lrg (c.calm hcm) h.1 h.2.1 h2.1 h2.2.1 (star_cons st) (star_cons st2) wa.m wb.m ha hb
theorem e_join (ha : Pe X xw a wa) (hb : Pe X xw b wb) (st : isStar b = false := by rfl) (hr : recvOk a = true := by rfl) (hl : (p.endLine == pos.line) = true := by rfl) : Pe X xw (.Call (.Attribute a "join" p) [b] [] pos) (wMt .join wa wb) := y_join wa.m wb.m ha hb (star_cons st) (basesep hr) hl
theorem e_sindex (ha : Pe X xw a wa) (hb : Pe X xw b wb) (st : isStar b = false := by rfl) (hr : recvOk a = true := by rfl) (hl : (p.endLine == pos.line) = true := by rfl) : Pe X xw (.Call (.Attribute a "index" p) [b] [] pos) (wMt .sindex wa wb) := y_sindex (star_cons st) hl (basesep hr) wa.m wb.m ha hb
theorem e_lindex (ha : Pe X xw a wa) (hb : Pe X xw b wb) (st : isStar b = false := by rfl) (hr : recvOk a = true := by rfl) (hl : (p.endLine == pos.line) = true := by rfl) : Pe X xw (.Call (.Attribute a "index" p) [b] [] pos) (wMt .lindex wa wb) := y_lindex (hu_of' c) (star_cons st) hl (basesep hr) wa.m wb.m ha hb
/-! ### tests -/
theorem t_ofE (ha : Pe X xw a wa) (h : plainTB a = true := by rfl) : Pt X xw a (tOf wa) := t_of wa.m (plainT h) ha
theorem t_not {wt : Wt} (ha : Pt X xw a wt) : Pt X xw (.UnaryOp .Not a pos) (tNt wt) := t_nt ha
theorem t_an1 {wt : Wt} (ha : Pt X xw a wt) : Pw X xw (.BoolOp .And [a] pos) wt := t_and1 ha
theorem t_or1' {wt : Wt} (ha : Pt X xw a wt) : Pw X xw (.BoolOp .Or [a] pos) wt := t_or1 ha
theorem t_an {rest : List Expr} {wt wu : Wt} (ha : Pt X xw a wt) (hb : Pw X xw (.BoolOp .And (b :: rest) pos) wu) : Pw X xw (.BoolOp .And (a :: b :: rest) pos) (tAn wt wu) := t_and wt.m wu.m ha hb
theorem t_orr {rest : List Expr} {wt wu : Wt} (ha : Pt X xw a wt) (hb : Pw X xw (.BoolOp .Or (b :: rest) pos) wu) : Pw X xw (.BoolOp .Or (a :: b :: rest) pos) (tOr wt wu) := t_or wt.m wu.m ha hb
theorem t_pw {wt : Wt} (h : Pw X xw a wt) : Pt X xw a wt := PW.pt h
theorem t_cmpE (ha : Pe X xw a wa) (hb : Pe X xw b wb) (hm : behindInMarks o b = false := by rfl) : Pt X xw (.Compare a [o] [b] pos) (tOf (wCmp o wa wb)) := t_cmp (hu_of' c) hm wa.m wb.m ha hb
/-! ### targets -/
theorem g_nm {x : Str} (i : Nat) (h : tgB G x i = true := by decide +kernel) : Pg X (.Name x pos) (.nm i) := by
  have h := tg_okB c h
  exact pg_name (i := i) (by rw [c.N]; exact c.nd) h.1 h.2.1 h.2.2
theorem g_nil : Pgs X [] .nil := ⟨pgs_nil, rfl, rfl⟩
theorem g_cons {e : Expr} {es : List Expr} {t : Tg} {ts : Tgs} (h : Pg X e t) (hs : Pgs X es ts) (st : assignEach (e :: es) X.env = (false, assign e X.env) :: assignEach es X.env := by rfl) : Pgs X (e :: es) (.cons t ts) :=
  ⟨pgs_cons h hs.tg (by rw [st]; rfl), by rw [st, List.length_cons, hs.len]; rfl, by rw [st, List.findIdx?_cons, hs.no]; rfl⟩
theorem g_tp {es : List Expr} {ts : Tgs} {k} (hs : Pgs X es ts) (hcm : G.calm = true := by rfl) : Pg X (.Tuple es k pos) (.tp ts) := pg_tu (c.calm hcm) hs.tg hs.len hs.no
/-! ### what is walked -/
variable {nb : Bool} {tg : Expr}
theorem i_ov (ha : Pe X xw a wa) (hn : (!nb || wa.nb) = true := by rfl) (hs : isSet a = false := by rfl) : Pit X xw nb tg a (iOv wa) :=
  ⟨i_over wa.m (fun z ρ Q q => wa.nbo (by subst z; simpa using hn) _ _ _ q) ha, hs⟩
theorem i_r1 (ha : Pe X xw a wa) (st : isStar a = false := by rfl) (h : btB G "range" = true := by decide +kernel) : Pit X xw nb tg (.Call (.Name "range" p) [a] [] pos) (iR1 wa) := by
  have h := bt_ok c h
  exact ⟨i_rg1 h.1 h.2.1 (star_cons st) wa.m ha, rfl⟩
theorem i_r2 (ha : Pe X xw a wa) (hb : Pe X xw b wb) (st : isStar a = false := by rfl) (st2 : isStar b = false := by rfl) (h : btB G "range" = true := by decide +kernel) : Pit X xw nb tg (.Call (.Name "range" p) [a, b] [] pos) (iR2 wa wb) := by
  have h := bt_ok c h
  exact ⟨i_rg2 h.1 h.2.1 (by rw [star_cons st, star_cons st2]; rfl) (star_cons st2) wa.m wb.m ha hb, rfl⟩
theorem i_en {es : List Expr} {k} (ha : Pe X xw a wa) (hn : (!nb || wa.nb) = true := by rfl) (st : isStar a = false := by rfl) (h : btB G "enumerate" = true := by decide +kernel) : Pit X xw nb (.Tuple es k p2) (.Call (.Name "enumerate" p) [a] [] pos) (iEn wa) := by
  have h := bt_ok c h
  exact ⟨i_enum2 h.1 h.2.1 (star_cons st) wa.m (fun z ρ Q q => wa.nbo (by subst z; simpa using hn) _ _ _ q) ha, rfl⟩
/-! ### comprehensions -/
theorem ts_no : Pts X xw [] tYes := ⟨fun pins s σ H Q I ⟨_, _, _, _, _, _, tb, ok, w⟩ => pts_nil.run pins s σ H Q I (w H (HStep.refl (ok.bd.less (by show tb ≤ 0 + tb; omega))))⟩
theorem ts_one {wt : Wt} (h : Pt X xw a wt) : Pts X xw [a] wt := pts_one h
def coB (G : Gm) (scope : Scope) (t : Tg) : Bool := blkC G.N G.sc scope (t.ixs.map fun i => (G.N.getD i "", i))
theorem e_co {el tg iter : Expr} {ifs : List Expr} {scope : Scope} {t : Tg} {wi : Wi} {wc : Wt} {we : Wx} (hi : Pit X xw false tg iter wi)
    (hg : ∀ {X' : Cx}, Cok X' xw.ne (G.blk scope) j CC → Pg X' tg t)
    (hc : ∀ {X' : Cx}, Cok X' xw.ne (G.blk scope) j CC → Pts X' xw.ne ifs wc)
    (he : ∀ {X' : Cx}, Cok X' xw.ne (G.blk scope) j CC → Pe X' xw.ne el we) (hb : coB G scope t = true := by decide +kernel) (hcm : G.calm = true := by rfl) :
    Pe X xw (.ListComp el [⟨tg, iter, ifs, 0⟩] scope pos) (wCo we t wi wc) :=
  y_comp (own := t.ixs.map fun i => (G.N.getD i "", i)) (c.calm hcm) (by rw [c.N]; exact c.nd) wi.m wc.m we.m hi.it (by rw [c.N, c.sc]; exact blkOk_by hb) (by rw [List.map_map]; show List.map (fun i => i) t.ixs = t.ixs; simp)
    (fun s H L cl fp => hg (c.blk scope s H cl L fp)) (fun s H L cl fp => hc (c.blk scope s H cl L fp)) (fun s H L cl fp => he (c.blk scope s H cl L fp)) (folded_ok hi.st)
end
end Y

/-! W3: statements, bundled, and their rules. -/
namespace Y
open PySem PySem.Spec PyProof.Rows L2 M
structure Ws where
  run : En → Pq → Prop
  mono : MonoB run
  c : Nat
def sNil : Ws := ⟨fun ρ P => P.nx ρ, fun ρ P P' h q => h.nx _ q, 0⟩
def sCons (s r : Ws) : Ws := ⟨fun ρ P => s.run ρ { P with nx := fun ρ' => r.run ρ' P }, fun ρ P P' h q => s.mono _ _ _ (h.sub (fun ρ z => r.mono ρ P P' h z) h.bk h.ct) q, s.c + r.c⟩
def sSet (is : List Nat) (i : Nat) (e : Wx) : Ws := ⟨fun ρ P => e.run P.ex (dem ρ is) fun d k => gSet i (dem ρ is) d k P, fun ρ P P' h q => e.mono _ _ _ _ _ h.ex (fun d k z => ⟨z.1, h.nx _ z.2⟩) q, e.c⟩
def sTset (is : List Nat) (t : Tg) (e : Wx) : Ws := ⟨fun ρ P => e.run P.ex (dem ρ is) fun d k => hTs t (dem ρ is) d k P, fun ρ P P' h q => e.mono _ _ _ _ _ h.ex (fun d k z => by
  unfold hTs at z ⊢
  refine ⟨z.1, ?_⟩
  have z2 := z.2
  split at z2
  · exact h.nx _ z2
  · exact z2.elim) q, e.c⟩
def sPar (is : List Nat) (i j : Nat) (a b : Wx) : Ws := ⟨fun ρ P => a.run P.ex (dem ρ is) fun d k => b.run P.ex (dem ρ is) fun e k' => k ≠ .bor ∧ k' ≠ .bor ∧ P.nx (((dem ρ is).set i (slK d k)).set j (slK e k')),
  fun ρ P P' h q => a.mono _ _ _ _ _ h.ex (fun d k z => b.mono _ _ _ _ _ h.ex (fun d k z => ⟨z.1, z.2.1, h.nx _ z.2.2⟩) z) q, a.c + b.c⟩
def sPar3 (is : List Nat) (i j l : Nat) (a b c : Wx) : Ws := ⟨fun ρ P => a.run P.ex (dem ρ is) fun d k => b.run P.ex (dem ρ is) fun e k' => c.run P.ex (dem ρ is) fun f k2 => k ≠ .bor ∧ k' ≠ .bor ∧ k2 ≠ .bor ∧ P.nx ((((dem ρ is).set i (slK d k)).set j (slK e k')).set l (slK f k2)),
  fun ρ P P' h q => a.mono _ _ _ _ _ h.ex (fun d k z => b.mono _ _ _ _ _ h.ex (fun d k z => c.mono _ _ _ _ _ h.ex (fun d k z => ⟨z.1, z.2.1, z.2.2.1, h.nx _ z.2.2.2⟩) z) z) q, a.c + b.c + c.c⟩
def gAug (s : Option Sl) (o : Operator) (R : (D → D → Rz) → D → Prop) : Prop := match s with
  | some (.val x) => scal x = true ∧ R (Y.bin o) x
  | _ => False
def sAug (is : List Nat) (i : Nat) (o : Operator) (e : Wx) : Ws := ⟨fun ρ P => gAug (dem ρ is)[i]? o fun g x => e.run P.ex (dem ρ is) fun d _ => (g x d).to fun r _ => scal r = true ∧ P.nx ((dem ρ is).set i (.val r)),
  fun ρ P P' h q => by
    dsimp only at q ⊢
    unfold gAug at q ⊢
    split at q
    · exact ⟨q.1, e.mono _ _ _ _ _ h.ex (fun d k z => Rz.mono (fun r k y => ⟨y.1, h.nx _ y.2⟩) z) q.2⟩
    · exact q.elim, e.c⟩
def sRet (is : List Nat) (e : Wx) : Ws := ⟨fun ρ P => e.run P.ex (dem ρ is) fun d k => gRet (dem ρ is) d k P, fun ρ P P' h q => e.mono _ _ _ _ _ h.ex (fun d k z => ⟨z.1, h.rt _ _ z.2⟩) q, e.c⟩
def gRetv (s : Option Sl) (R : VQ) : Prop := match s with | some (.val d) => R d .shr | some (.own d) => R d .own | some (.gen g) => R .none (.gen g) | _ => False
def sRetv (i : Nat) : Ws := ⟨fun ρ P => gRetv ρ[i]? P.rt, fun ρ P P' h q => by
  dsimp only at q ⊢
  unfold gRetv at q ⊢
  split at q
  · exact h.rt _ _ q
  · exact h.rt _ _ q
  · exact h.rt _ _ q
  · exact q.elim, 0⟩
def sRetn : Ws := ⟨fun _ P => P.rt .none .shr, fun _ _ _ h q => h.rt _ _ q, 0⟩
def sExpr (e : Wx) : Ws := ⟨fun ρ P => e.run P.ex ρ fun _ _ => P.nx ρ, fun ρ P P' h q => e.mono _ _ _ _ _ h.ex (fun d k z => h.nx _ z) q, e.c⟩
/-- an own list at a slot -/
def gOl (s : Option Sl) (R : List D → Prop) : Prop := match s with | some (.own (.list ds)) => R ds | _ => False
theorem gOl_mono {s : Option Sl} {R R' : List D → Prop} (h : ∀ ds, R ds → R' ds) : gOl s R → gOl s R' := by
  unfold gOl
  split
  · exact h _
  · exact id
def gLi (d : D) (R : List D → Prop) : Prop := match listD d with | some es => R es | none => False
def gSi (k : D) (n : Nat) (R : Nat → Prop) : Prop := match k with
  | .int z => match ixN n z with | some j => R j | none => False
  | _ => False
def sApp (is : List Nat) (i : Nat) (e : Wx) : Ws := ⟨fun ρ P => gOl (dem ρ is)[i]? fun ds => e.run P.ex (dem ρ is) fun d k => k ≠ .bor ∧ ds.length < sizeLine ∧ P.nx ((dem ρ is).set i (.own (.list (ds ++ [d])))),
  fun ρ P P' h q => gOl_mono (fun ds z => e.mono _ _ _ _ _ h.ex (fun d k z => ⟨z.1, z.2.1, h.nx _ z.2.2⟩) z) q, e.c⟩
def sExt (is : List Nat) (i : Nat) (e : Wx) : Ws := ⟨fun ρ P => gOl (dem ρ is)[i]? fun ds => e.run P.ex (dem ρ is) fun d _ => gLi d fun es => ds.length + es.length ≤ sizeLine ∧ P.nx ((dem ρ is).set i (.own (.list (ds ++ es)))),
  fun ρ P P' h q => gOl_mono (fun ds z => e.mono _ _ _ _ _ h.ex (fun d k z => by
    unfold gLi at z ⊢
    split at z
    · exact ⟨z.1, h.nx _ z.2⟩
    · exact z.elim) z) q, e.c⟩
def sSeti (is : List Nat) (i : Nat) (k e : Wx) : Ws := ⟨fun ρ P => gOl (dem ρ is)[i]? fun ds => e.run P.ex (dem ρ is) fun d kd => kd ≠ .bor ∧ k.run P.ex (dem ρ is) fun kx _ => gSi kx ds.length fun j => P.nx ((dem ρ is).set i (.own (.list (ds.set j d)))),
  fun ρ P P' h q => gOl_mono (fun ds z => e.mono _ _ _ _ _ h.ex (fun d k' z => ⟨z.1, k.mono _ _ _ _ _ h.ex (fun kx _ z => by
    unfold gSi at z ⊢
    split at z
    · split at z
      · exact h.nx _ z
      · exact z.elim
    · exact z.elim) z.2⟩) z) q, e.c + k.c⟩
def sIf (c : Wt) (a b : Ws) : Ws := ⟨fun ρ P => c.run P.ex ρ fun t => (t = true → a.run ρ P) ∧ (t = false → b.run ρ P), fun ρ P P' h q => c.mono _ _ _ _ _ h.ex (fun t z => ⟨fun e => a.mono _ _ _ h (z.1 e), fun e => b.mono _ _ _ h (z.2 e)⟩) q, a.c + b.c + c.c⟩
def sFor (is : List Nat) (t : Tg) (it : Wi) (b : Ws) : Ws := ⟨fun ρ P => it.run P.ex (dem ρ is) fun ds => ds.length ≤ LOOPN ∧ wFor t b.run ds (dem ρ is) P, fun ρ P P' h q => it.mono _ _ _ _ _ h.ex (fun ds z => ⟨z.1, wFor_mono b.mono ds _ _ _ h z.2⟩) q, it.c + LOOPN * b.c⟩
def sWhile (c : Wt) (b : Ws) : Ws := ⟨fun ρ P => wWhile (c.run P.ex) b.run ρ P, fun ρ P P' h q => wWhile_mono (T := c.run P.ex) (T' := c.run P'.ex) b.mono (fun ρ Q Q' z y => c.mono _ _ _ _ _ h.ex z y) h q, (LOOPN + 1) * (c.c + b.c)⟩
def sBrk : Ws := ⟨fun ρ P => P.bk ρ, fun _ _ _ h q => h.bk _ q, 0⟩
def sCnt : Ws := ⟨fun ρ P => P.ct ρ, fun _ _ _ h q => h.ct _ q, 0⟩
def sNever : Ws := ⟨fun _ _ => False, fun _ _ _ _ q => q, 0⟩
def gMk (s : Option Sl) (A : Prop) : Prop := match s with | some (.scr _) => A | _ => False
def sMk (i j : Nat) : Ws := ⟨fun ρ P => gMk ρ[j]? (P.nx (ρ.set i .pen)), fun ρ P P' h q => by
  dsimp only at q ⊢
  unfold gMk at q ⊢
  split at q
  · exact h.nx _ q
  · exact q.elim, 0⟩
/-! ### judgements -/
def Ps (X : Cx) (xw : Xw) (s : Stmt) (w : Ws) : Prop := PS X s (tS X.K xw w.c w.run)
def Pss (X : Cx) (xw : Xw) (s : List Stmt) (w : Ws) : Prop := PSs X s (tS X.K xw w.c w.run)
/-! ### a, b = x, y: are they stored one by one -/
def loc1 (sc : Scope) (line : Nat) : Expr → Option Str
  | .Name id pos => if sc.names.lookup id == some .local && pos.line == line then some id else none
  | _ => none
def swNo (sc : Scope) (ts vs : List Expr) : Bool :=
  !(ts.length == 2 || ts.length == 3) || ((ts.filterMap (loc1 sc ((ts.head?.map (·.pos.line)).getD 0))).length != ts.length) || vs.all (foldedForSure 8)
def swYes (sc : Scope) (ts vs : List Expr) (xs : List Str) : Bool :=
  (ts.length == 2 || ts.length == 3) && vs.length == ts.length && (match sc.kind with | .function => true | _ => false) && !(vs.any isStar) && decide (ts.filterMap (loc1 sc ((ts.head?.map (·.pos.line)).getD 0)) = xs) && xs.length == ts.length && xs.eraseDups.length == xs.length &&
    !(vs.all (foldedForSure 8)) && !(vs.all (constantsAlone 8))
theorem sw_none {ts vs : List Expr} {k k2} {p p2 : Pos} {env : Env} (h : swNo env.scope ts vs = true) : swappedStores [.Tuple ts k p] (.Tuple vs k2 p2) env = pure none := by
  unfold swNo at h
  rw [Bool.or_eq_true, Bool.or_eq_true] at h
  unfold swappedStores
  dsimp only
  split
  · rfl
  · rename_i h1
    split
    · rfl
    · split
      · rfl
      · rename_i h3
        rcases h with (h | h) | h
        · exact (h1 (by rw [h]; rfl)).elim
        · exact (h3 ((Bool.or_eq_true _ _).mpr (.inl h))).elim
        · exact if_pos h
theorem sw_some {ts vs : List Expr} {xs : List Str} {k k2} {p p2 : Pos} {env : Env} (h : swYes env.scope ts vs xs = true) : swappedStores [.Tuple ts k p] (.Tuple vs k2 p2) env = pure (some xs) := by
  unfold swYes at h
  simp only [Bool.and_eq_true, Bool.not_eq_true', decide_eq_true_eq, beq_iff_eq] at h
  obtain ⟨⟨⟨⟨⟨⟨⟨⟨h1, h2⟩, h3⟩, h4⟩, h5⟩, h6⟩, h7⟩, h8⟩, h9⟩ := h
  have hb : env.blockKind = .function := by
    unfold Env.blockKind
    split at h3
    · rename_i e; rw [e]; rfl
    · cases h3
  unfold swappedStores
  dsimp only
  refine (if_neg (fun z => ?_)).trans ((if_neg (fun z => ?_)).trans ((if_neg (fun z => ?_)).trans ((if_neg (fun z => ?_)).trans ((if_neg (fun z => ?_)).trans ?_))))
  · rw [hb, h1, h2] at z
    simp at z
  · have z : vs.any isStar = true := z
    rw [h4] at z
    cases z
  · have z : ((ts.filterMap (loc1 env.scope ((ts.head?.map (·.pos.line)).getD 0))).length != ts.length || (ts.filterMap (loc1 env.scope ((ts.head?.map (·.pos.line)).getD 0))).eraseDups.length != (ts.filterMap (loc1 env.scope ((ts.head?.map (·.pos.line)).getD 0))).length) = true := z
    rw [h5, h7, h6] at z
    simp at z
  · rw [h8] at z
    cases z
  · rw [h9] at z
    cases z
  · show pure (some (ts.filterMap (loc1 env.scope ((ts.head?.map (·.pos.line)).getD 0)))) = _
    rw [h5]
/-! ### stores, two at a time -/
theorem EnvOk.sto2 {K : PySem.W.Frag} {xw : Xw} {H0 H H' : Hp} {B Z : Addr → Prop} {pn : List Addr} {tb tb2 : Nat} {fr : Fx} {σ σ' : L2.St} {ρ ρ' : En} (okE : EnvOk K xw H0 B pn fr Z tb σ ρ H) (okS : EnvOk K xw H0 B pn fr Z tb σ' ρ' H) (i : Nat) {v : V} {d : D} {k : Kd}
    (s : HStep tb2 pn H H') (r : RX K pn H H' Z v d k) (hk : k ≠ .bor) : ∃ Z', EnvOk K xw H0 B pn fr Z' tb2 σ ρ H' ∧ EnvOk K xw H0 B pn fr Z' tb2 (σ'.set i (some v)) (ρ'.set i (slK d k)) H' := by
  cases k with
  | shr => exact ⟨Z, okE.to s, (okS.to s).val i r⟩
  | own =>
    obtain ⟨a, rfl, hn, ho⟩ := r
    exact ⟨_, okE.more hn s ho.there, okS.own i hn s ho⟩
  | bor => exact absurd rfl hk
  | gen _ => exact r.elim
section
variable {X : Cx} {xw : Xw} {wa wb wc : XQ → En → VQ → Prop} {is : List Nat}
theorem s_par3 {ca cb cd : Nat} {i j l : Nat} {x y z : Str} {a b c : Expr} {px py pz pt pos : Pos} {kt k2 pt2} (hc : X.calm = true) (hN : X.N.Nodup) (hi : X.N[i]? = some x) (hj : X.N[j]? = some y) (hl : X.N[l]? = some z) (hij : i ≠ j) (hil : i ≠ l) (hjl : j ≠ l)
    (hx : X.env.scope.names.lookup x = some .local) (hy : X.env.scope.names.lookup y = some .local) (hz : X.env.scope.names.lookup z = some .local)
    (hw : swappedStores [.Tuple [.Name x px, .Name y py, .Name z pz] kt pt] (.Tuple [a, b, c] k2 pt2) X.env = pure (some [x, y, z]))
    (hsa : isStar a = false) (hsb : isStar b = false) (hsc : isStar c = false)
    (ma : MonoW (wa xw.E)) (mb : MonoW (wb xw.E)) (mc : MonoW (wc xw.E)) (ha : PE X a (tX X.K xw ca (wa xw.E))) (hb : PE X b (tX X.K xw cb (wb xw.E))) (hd : PE X c (tX X.K xw cd (wc xw.E))) :
    PS X (.Assign [.Tuple [.Name x px, .Name y py, .Name z pz] kt pt] (.Tuple [a, b, c] k2 pt2) pos) (tS X.K xw (ca + cb + cd) fun ρ P => wa P.ex (dem ρ is) fun d k => wb P.ex (dem ρ is) fun e k' => wc P.ex (dem ρ is) fun f k2 => k ≠ .bor ∧ k' ≠ .bor ∧ k2 ≠ .bor ∧ P.nx ((((dem ρ is).set i (slK d k)).set j (slK e k')).set l (slK f k2))) := by
  refine PS.weak (ps_par3 hc hN hi hj hl hij hil hjl hx hy hz (pa_cons ha (pa_cons hb (pa_cons hd pa_nil (star_cons hsc)) (star_cons hsb)) (star_cons hsa)) hw rfl) fun D σ H ⟨H0, B, pn0, fr, P, pn, ρ, Z, tb, px, ok, w, f⟩ => ?_
  dsimp only at w
  rw [f.ex] at w
  obtain ⟨Z', hz', ok'⟩ := dem_ok is ok
  refine ⟨H0, B, pn, fr, _, Z', (cb + (cd + tb)), ok'.lt (by omega), ma _ _ _ (fun d k q v H1 s1 r1 => ?_) w⟩
  by_cases hk : k = .bor
  · subst hk
    refine ⟨H0, B, pn, fr, _, Z', _, ok'.to s1, mb _ _ _ (fun e k' q v2 H2 s2 r2 => ⟨H0, B, pn, fr, _, Z', _, (ok'.to s1).to s2, mc _ _ _ (fun g k3 q v3 H3 s3 r3 => absurd rfl q.1) q⟩) q⟩
  obtain ⟨Z1, okE1, okS1⟩ := ok'.sto2 ok' i s1 r1 hk
  refine ⟨H0, B, pn, fr, _, Z1, _, okE1, mb _ _ _ (fun e k' q v2 H2 s2 r2 => ?_) q⟩
  by_cases hk' : k' = .bor
  · subst hk'
    exact ⟨H0, B, pn, fr, _, Z1, _, okE1.to s2, mc _ _ _ (fun g k3 q v3 H3 s3 r3 => absurd rfl q.2.1) q⟩
  obtain ⟨Z2, okE2, okS2⟩ := okE1.sto2 okS1 j s2 r2 hk'
  refine ⟨H0, B, pn, fr, _, Z2, _, okE2, mc _ _ _ (fun g k3 q v3 H3 s3 r3 => ?_) q⟩
  obtain ⟨Z3, okE3, okS3⟩ := okE2.sto2 okS2 l s3 r3 q.2.2.1
  exact ⟨_, _, _, rfl, f.nx _ _ ⟨pn, _, Z3, px, okS3, q.2.2.2⟩⟩
end
/-! ### rules -/
section
variable {X : Cx} {xw : Xw} {G : Gm} {j : Nat} {CC : Cts} (c : Cok X xw G j CC) {pos p p2 p3 : Pos}
include c
theorem z_nil : Pss X xw [] sNil := ss_nil
theorem z_cons {s : Stmt} {r : List Stmt} {a b : Ws} (h1 : Ps X xw s a) (h2 : Pss X xw r b) : Pss X xw (s :: r) (sCons a b) := ss_cons (w1 := a.run) (w2 := b.run) h1 h2
theorem z_pass : Ps X xw (.Pass pos) sNil := s_pss
theorem z_brk : Ps X xw (.Break pos) sBrk := s_brk
theorem z_cnt : Ps X xw (.Continue pos) sCnt := s_cnt
theorem z_never {e d : Option Expr} : Ps X xw (.Raise e d pos) sNever := s_never
theorem z_if {t : Expr} {a b : List Stmt} {wt : Wt} {wa wb : Ws} (ht : Pt X xw t wt) (ha : Pss X xw a wa) (hb : Pss X xw b wb) : Ps X xw (.If t a b pos) (sIf wt wa wb) := s_cond (wc := wt.run) wt.m ht ha hb
theorem z_set {x : Str} {e : Expr} {w : Wx} (is : List Nat) (i : Nat) (he : Pe X xw e w) (h : tgB G x i = true := by decide +kernel) (hc : isComp e = false := by rfl) : Ps X xw (.Assign [.Name x p] e pos) (sSet is i w) := by
  have h := tg_okB c h
  exact s_set (wa := w.run) (by rw [c.N]; exact c.nd) h.1 h.2.1 h.2.2 (swaps_ok hc) w.m he
/-- x = [..], x a cell -/
theorem z_setCell {x : Str} {el : Expr} {gs : List Comprehension} {scope : Scope} {w : Wx} (is : List Nat) (i : Nat) (he : Pe X xw (.ListComp el gs scope p2) w) (h : tgB G x i = true := by decide +kernel) (hl : decide (G.sc.names.lookup x = some .cell) = true := by decide +kernel) : Ps X xw (.Assign [.Name x p] (.ListComp el gs scope p2) pos) (sSet is i w) := by
  have h := tg_okB c h
  have hl := of_decide_eq_true hl
  have ky : X.env.kindOf x = some .cell := by show X.env.scope.names.lookup x = _; rw [c.sc]; exact hl
  have sw : swapsWith (.ListComp el gs scope p2) (some (.Name x p)) pos.line X.env = pure false := by
    unfold swapsWith
    simp only [ky]
    have : (some NameKind.cell == some NameKind.local) = false := by decide
    simp only [this, Bool.and_false, Bool.false_and]
  exact s_set (wa := w.run) (by rw [c.N]; exact c.nd) h.1 h.2.1 h.2.2 sw w.m he
def coSw (G : Gm) (y : Str) (py pos : Pos) (scope : Scope) : Bool :=
  decide (G.sc.names.lookup y = some .local) && (py.line == pos.line) && !(scope.names.any fun (n, k) => n == y && (k == .local || k == .cell)) && decide (G.sc.kind = .function)
/-- x = [..], x a local -/
theorem z_setCo {x : Str} {el tg iter : Expr} {ifs : List Expr} {scope : Scope} {t : Tg} {wi : Wi} {wc : Wt} {we : Wx} (is : List Nat) (i : Nat) (hi : Pit X xw false tg iter wi)
    (hg : ∀ {X' : Cx}, Cok X' xw.ne (G.blk scope) j CC → Pg X' tg t)
    (hc : ∀ {X' : Cx}, Cok X' xw.ne (G.blk scope) j CC → Pts X' xw.ne ifs wc)
    (he : ∀ {X' : Cx}, Cok X' xw.ne (G.blk scope) j CC → Pe X' xw.ne el we) (hb : coB G scope t = true := by decide +kernel) (h : tgB G x i = true := by decide +kernel) (hw : coSw G x p p2 scope = true := by decide +kernel) (hcm : G.calm = true := by rfl) :
    Ps X xw (.Assign [.Name x p] (.ListComp el [⟨tg, iter, ifs, 0⟩] scope p2) pos) (sSet is i (wCo we t wi wc)) := by
  have h := tg_okB c h
  unfold coSw at hw
  simp only [Bool.and_eq_true, Bool.not_eq_true', decide_eq_true_eq] at hw
  obtain ⟨⟨⟨k1, k2⟩, k3⟩, k4⟩ := hw
  have sw : swapsWith (.ListComp el [⟨tg, iter, ifs, 0⟩] scope p2) (some (.Name x p)) pos.line X.env = pure true := sw_true (by rw [c.sc]; exact k4) (by rw [c.sc]; exact k1) k2 k3
  refine PS.weak (y_setcomp (own := t.ixs.map fun i => (G.N.getD i "", i)) (c.calm hcm) (by rw [c.N]; exact c.nd) h.1 (by rw [c.sc]; exact k1) sw wi.m wc.m we.m hi.it (by rw [c.N, c.sc]; exact blkOk_by hb) (by rw [List.map_map]; show List.map (fun i => i) t.ixs = t.ixs; simp)
    (fun s H L cl fp => hg (c.blk scope s H cl L fp)) (fun s H L cl fp => hc (c.blk scope s H cl L fp)) (fun s H L cl fp => he (c.blk scope s H cl L fp)) (folded_ok hi.st)) fun D σ H h => ?_
  exact set_end (wa := (wCo we t wi wc).run) (is := is) (wCo we t wi wc).m h
/-- a tuple of targets, from one value -/
theorem z_tset {es : List Expr} {k} {e : Expr} {t : Tg} {w : Wx} (is : List Nat) (hg : Pg X (.Tuple es k p) t) (he : Pe X xw e w) (h1 : isTup e = false := by rfl) (h2 : isComp e = false := by rfl) : Ps X xw (.Assign [.Tuple es k p] e pos) (sTset is t w) :=
  s_tset (wa := w.run) hg (by cases e <;> first | rfl | cases h2) (stores_ok h1) rfl w.m he
/-- .. from a tuple display that is made -/
theorem z_tsetT {es vs : List Expr} {k k2} {t : Tg} {w : Wx} (is : List Nat) (hg : Pg X (.Tuple es k p) t) (he : Pe X xw (.Tuple vs k2 p2) w) (h1 : swNo G.sc es vs = true := by decide +kernel) : Ps X xw (.Assign [.Tuple es k p] (.Tuple vs k2 p2) pos) (sTset is t w) :=
  s_tset (wa := w.run) hg rfl (sw_none (by rw [c.sc]; exact h1)) rfl w.m he
def parB (G : Gm) (xs : List Str) (is : List Nat) : Bool := (xs.zip is).all (fun p => slotB G p.1 p.2 && decide (G.sc.names.lookup p.1 = some .local)) && decide is.Nodup && decide (xs.length = is.length)
theorem z_par {x y : Str} {a b : Expr} {px py : Pos} {k k2} {wa wb : Wx} (is : List Nat) (i1 i2 : Nat) (ha : Pe X xw a wa) (hb : Pe X xw b wb) (h : parB G [x, y] [i1, i2] = true := by decide +kernel) (hw : swYes G.sc [.Name x px, .Name y py] [a, b] [x, y] = true := by decide +kernel) (sa : isStar a = false := by rfl) (sb : isStar b = false := by rfl) (hcm : G.calm = true := by rfl) :
    Ps X xw (.Assign [.Tuple [.Name x px, .Name y py] k p] (.Tuple [a, b] k2 p2) pos) (sPar is i1 i2 wa wb) := by
  unfold parB at h
  simp only [List.zip_cons_cons, List.zip_nil_right, List.all_cons, List.all_nil, Bool.and_eq_true, decide_eq_true_eq, Bool.and_true] at h
  obtain ⟨⟨⟨h1, h2⟩, h3⟩, _⟩ := h
  exact s_par (wa := wa.run) (wb := wb.run) (c.calm hcm) (by rw [c.N]; exact c.nd) (slot_ok c h1.1) (slot_ok c h2.1) (by simpa using h3) (by rw [c.sc]; exact h1.2) (by rw [c.sc]; exact h2.2) (sw_some (by rw [c.sc]; exact hw)) (star_cons sa) (star_cons sb) wa.m wb.m ha hb
theorem z_par3 {x y z : Str} {a b d : Expr} {px py pz : Pos} {k k2} {wa wb wd : Wx} (is : List Nat) (i1 i2 i3 : Nat) (ha : Pe X xw a wa) (hb : Pe X xw b wb) (hd : Pe X xw d wd) (h : parB G [x, y, z] [i1, i2, i3] = true := by decide +kernel) (hw : swYes G.sc [.Name x px, .Name y py, .Name z pz] [a, b, d] [x, y, z] = true := by decide +kernel) (sa : isStar a = false := by rfl) (sb : isStar b = false := by rfl) (sd : isStar d = false := by rfl) (hcm : G.calm = true := by rfl) :
    Ps X xw (.Assign [.Tuple [.Name x px, .Name y py, .Name z pz] k p] (.Tuple [a, b, d] k2 p2) pos) (sPar3 is i1 i2 i3 wa wb wd) := by
  unfold parB at h
  simp only [List.zip_cons_cons, List.zip_nil_right, List.all_cons, List.all_nil, Bool.and_eq_true, decide_eq_true_eq, Bool.and_true] at h
  obtain ⟨⟨⟨h1, h2, h3⟩, h4⟩, _⟩ := h
  have h4 : i1 ≠ i2 ∧ i1 ≠ i3 ∧ i2 ≠ i3 := by
    simp only [List.nodup_cons, List.mem_cons, List.not_mem_nil, or_false, not_or] at h4
    exact ⟨h4.1.1, h4.1.2, h4.2.1⟩
  exact s_par3 (wa := wa.run) (wb := wb.run) (wc := wd.run) (c.calm hcm) (by rw [c.N]; exact c.nd) (slot_ok c h1.1) (slot_ok c h2.1) (slot_ok c h3.1) h4.1 h4.2.1 h4.2.2 (by rw [c.sc]; exact h1.2) (by rw [c.sc]; exact h2.2) (by rw [c.sc]; exact h3.2) (sw_some (by rw [c.sc]; exact hw)) sa sb sd wa.m wb.m wd.m ha hb hd
theorem z_aug {x : Str} {o : Operator} {e : Expr} {w : Wx} (is : List Nat) (i : Nat) (he : Pe X xw e w) (h : tgB G x i = true := by decide +kernel) (ho : augOk o = true := by rfl) : Ps X xw (.AugAssign (.Name x p) o e pos) (sAug is i o w) := by
  have h := tg_okB c h
  refine PS.weak (s_aug (wa := w.run) (is := is) ho (by rw [c.N]; exact c.nd) h.1 h.2.1 h.2.2 w.m he) fun D σ H ⟨H0, B, pn0, fr, P, pn, ρ, Z, tb, px, ok, q, f⟩ => ⟨H0, B, pn0, fr, P, pn, ρ, Z, tb, px, ok, ?_, f⟩
  unfold sAug gAug at q
  exact q
theorem z_ret {e : Expr} {w : Wx} (is : List Nat) (he : Pe X xw e w) : Ps X xw (.Return (some e) pos) (sRet is w) := s_ret (wa := w.run) w.m he
theorem z_retv {x : Str} (i : Nat) (h : nmB G x i = true := by decide +kernel) : Ps X xw (.Return (some (.Name x p)) pos) (sRetv i) := by
  have h := nm_ok c h
  exact s_retv h.1 h.2.1 h.2.2.1 h.2.2.2
theorem z_retn : Ps X xw (.Return none pos) sRetn := s_retn
theorem z_expr {e : Expr} {w : Wx} (he : Pe X xw e w) (hc : isComp e = false := by rfl) : Ps X xw (.Expr e pos) (sExpr w) := s_expr (wa := w.run) (swaps_ok hc) w.m he
theorem z_app {x : Str} {e : Expr} {w : Wx} (is : List Nat) (i : Nat) (he : Pe X xw e w) (h : nmB G x i = true := by decide +kernel) (st : isStar e = false := by rfl) (hl : (p2.endLine == p3.line) = true := by rfl) : Ps X xw (.Expr (.Call (.Attribute (.Name x p) "append" p2) [e] [] p3) pos) (sApp is i w) := by
  have h := nm_ok c h
  refine PS.weak (s_app (wa := w.run) (is := is) h.1 h.2.1 h.2.2.1 h.2.2.2 (star_cons st) hl w.m he) fun D σ H ⟨H0, B, pn0, fr, P, pn, ρ, Z, tb, px, ok, q, f⟩ => ⟨H0, B, pn0, fr, P, pn, ρ, Z, tb, px, ok, ?_, f⟩
  unfold sApp gOl at q
  exact q
theorem z_ext {x : Str} {e : Expr} {w : Wx} (is : List Nat) (i : Nat) (he : Pe X xw e w) (h : nmB G x i = true := by decide +kernel) (st : isStar e = false := by rfl) (hl : (p2.endLine == p3.line) = true := by rfl) : Ps X xw (.Expr (.Call (.Attribute (.Name x p) "extend" p2) [e] [] p3) pos) (sExt is i w) := by
  have h := nm_ok c h
  refine PS.weak (s_ext (wa := w.run) (is := is) h.1 h.2.1 h.2.2.1 h.2.2.2 (star_cons st) hl w.m he) fun D σ H ⟨H0, B, pn0, fr, P, pn, ρ, Z, tb, px, ok, q, f⟩ => ⟨H0, B, pn0, fr, P, pn, ρ, Z, tb, px, ok, ?_, f⟩
  unfold sExt gOl gLi at q
  exact q
theorem z_seti {x : Str} {e k : Expr} {w wk : Wx} (is : List Nat) (i : Nat) (hk : Pe X xw k wk) (he : Pe X xw e w) (h : nmB G x i = true := by decide +kernel) (hc : isComp e = false := by rfl) (ht : isTup e = false := by rfl) (hs : isSlice k = false := by rfl) : Ps X xw (.Assign [.Subscript (.Name x p) k p2] e pos) (sSeti is i wk w) := by
  have h := nm_ok c h
  refine PS.weak (s_seti (wa := w.run) (wb := wk.run) (is := is) h.1 h.2.1 h.2.2.1 h.2.2.2 (by intro v; cases k <;> first | rfl | cases hs) (by cases e <;> first | rfl | cases hc) (stores_ok ht) rfl w.m wk.m he hk) fun D σ H ⟨H0, B, pn0, fr, P, pn, ρ, Z, tb, px, ok, q, f⟩ => ⟨H0, B, pn0, fr, P, pn, ρ, Z, tb, px, ok, ?_, f⟩
  unfold sSeti gOl gSi at q
  exact q
theorem z_for {tg iter : Expr} {body : List Stmt} {t : Tg} {wi : Wi} {wb : Ws} (is : List Nat) (hg : Pg X tg t) (hi : Pit X xw true tg iter wi) (hb : Pss X xw body wb) (hcm : G.calm = true := by rfl) : Ps X xw (.For tg iter body [] pos) (sFor is t wi wb) :=
  s_loop (wi := wi.run) c.po (c.calm hcm) hi.it wi.m hg hb (folded_ok hi.st)
theorem z_while {t : Expr} {body : List Stmt} {wt : Wt} {wb : Ws} (ht : Pt X xw t wt) (hb : Pss X xw body wb) : Ps X xw (.While t body [] pos) (sWhile wt wb) :=
  s_whil (wc := wt.run) c.po wt.m ht hb
theorem z_mk {x f y : Str} {pc py : Pos} (i k : Nat) (hE : XwFree xw) (hf : f ∈ G.mks := by decide +kernel) (h : tgB G x i = true := by decide +kernel) (hy : nmB G y k = true := by decide +kernel) (g : gnB G f = true := by decide +kernel) : Ps X xw (.Assign [.Name x p] (.Call (.Name f p2) [.Name y py] [] pc) pos) (sMk i k) := by
  have h := tg_okB c h
  have hy := nm_ok c hy
  have g := gn_ok c g
  obtain ⟨l, ps, hl, cl⟩ := c.mks f hf
  refine PS.weak (s_mkpen (by rw [c.N]; exact c.nd) h.1 h.2.1 h.2.2 hy.1 hy.2.1 hy.2.2.1 hy.2.2.2 cl hE.1 hE.2 c.hp c.room c.quiet hl g.1 g.2) fun D σ H ⟨H0, B, pn0, fr, P, pn, ρ, Z, tb, px, ok, q, f⟩ => ⟨H0, B, pn0, fr, P, pn, ρ, Z, tb, px, ok, ?_, f⟩
  unfold sMk gMk at q
  exact q
end
end Y

namespace Y
open PySem PySem.Spec PyProof.Rows L2 M
/-! ### defs -/
structure Glo (P : Program) (w : World) (K : PySem.W.Frag) (mg : Str → Option Value) (base : Heap) (G : Gm) (j : Nat) (CC : Cts) : Prop where
  blt : ∀ x ∈ G.blts, mg x = none
  con : ∀ x d, (x, d) ∈ G.cons → ∃ v, (∃ u, mg x = some u ∧ RelV v u) ∧ ∀ K H Z, Dn K H Z v d
  fns : ∀ f m, (f, m) ∈ G.fns → ∃ k ps, k ≤ j ∧ Cl P w K mg base (L2.CX P w) k f ps (spC mg (CC.C f) m K)
  mks : ∀ f ∈ G.mks, ∃ k ps, k ≤ j ∧ Cl P w K mg base (L2.CX P w) k f ps (spPen K)
  cls : ∀ x m nm, (x, m, nm) ∈ G.cls → ∃ k ps, k + 1 ≤ j ∧ Mkr P w K mg base k x nm ps (spI nm (CC.I x) m K)
  exs : ∀ x f, (x, f) ∈ G.exs → ExRec P w K mg base j x f
  rel : ∀ x y b, (x, y, b) ∈ G.rel → RelOk K mg x y b
  nrel : ∀ y ∈ G.nrel, NrelOk K mg y
  lams : ∀ g m ma, (g, m, ma) ∈ G.lams → ∃ kg, kg + 1 ≤ j ∧ LamTk P w K mg base kg g (CC.L g) m ma
  lfns : ∀ f m, (f, m) ∈ G.lfns → ∃ k ps, k + 2 ≤ j ∧ Cl P w K mg base (L2.CX P w) k f ps (spC mg (CC.C f) m K)
  kfns : ∀ f kn m, (f, kn, m) ∈ G.kfns → ∃ k ps, k ≤ j ∧ ClK P w K mg base (L2.CX P w) k f ps 2 [kn] (spC mg (CC.C f) m K)
  ext : G.ext P w K mg base j
def slA : Ar → Sl
  | .v d => .val d
  | .pen => .pen
  | .scr n => .scr n
  | .gen g => .gen g
def ini (N : List Str) (as : List Ar) : En := as.map slA ++ List.replicate (N.length - as.length) .emp
def scopeB (N ps : List Str) (sc : Scope) : Bool :=
  (match sc.kind with | .function => true | _ => false) && !sc.isCoroutine && !sc.isGenerator && decide N.Nodup && decide (N.take ps.length = ps) &&
    (ps.all fun x => match sc.names.lookup x with | some .local => true | some .cell => true | _ => false) && (sc.names.all fun y => match y.2 with | .free => false | _ => true)
theorem scope_ok {N ps : List Str} {sc : Scope} (h : scopeB N ps sc = true) : FnScope N ps sc := by
  unfold scopeB at h
  simp only [Bool.and_eq_true, Bool.not_eq_true', List.all_eq_true, decide_eq_true_eq] at h
  obtain ⟨⟨⟨⟨⟨⟨h1, h2⟩, h3⟩, h4⟩, h5⟩, h6⟩, h7⟩ := h
  refine ⟨?_, h2, h3, h4, h5, fun x hx => ?_, fun y hy e => ?_⟩
  · split at h1
    · assumption
    · cases h1
  · have := h6 x hx
    split at this
    · exact .inl (by assumption)
    · exact .inr (by assumption)
    · cases this
  · have := h7 y hy
    rw [e] at this
    cases this
theorem arl_len {K : PySem.W.Frag} {pn : List Addr} {H : Hp} {Z : Addr → Prop} {vs : List V} {as : List Ar} (h : ArL K pn H Z vs as) : vs.length = as.length := by
  induction h with
  | nil => rfl
  | v _ _ ih => simp [ih]
  | pen _ _ _ ih => simp [ih]
  | scr _ _ ih => simp [ih]
  | gen _ _ ih => simp [ih]
theorem arl_sl {K : PySem.W.Frag} {xw : Xw} {pn : List Addr} {H0 H : Hp} {Z : Addr → Prop} {vs : List V} {as : List Ar} (h : ArL K pn H Z vs as) : ∀ (i : Nat) (s : Sl), (as.map slA)[i]? = some s → SlOk K xw H0 H Z pn ((vs.map some)[i]?) s := by
  induction h with
  | nil => intro i s e; simp at e
  | v a _ ih =>
    intro i s e
    cases i with
    | zero => simp [slA] at e; subst e; exact ⟨_, rfl, a⟩
    | succ i => exact ih i s (by simpa using e)
  | pen a b _ ih =>
    intro i s e
    cases i with
    | zero => simp [slA] at e; subst e; exact ⟨_, rfl, a, b⟩
    | succ i => exact ih i s (by simpa using e)
  | scr a _ ih =>
    intro i s e
    cases i with
    | zero => simp [slA] at e; subst e; exact ⟨_, _, rfl, a, rfl⟩
    | succ i => exact ih i s (by simpa using e)
  | gen a _ ih =>
    intro i s e
    cases i with
    | zero => simp [slA] at e; subst e; exact ⟨_, rfl, a⟩
    | succ i => exact ih i s (by simpa using e)
theorem slA_own {a : Ar} {d : D} : slA a ≠ .own d := by cases a <;> exact fun z => nomatch z
theorem slA_obj {a : Ar} {C : List Str} {fs : List (Str × Fd)} : slA a ≠ .obj C fs := by cases a <;> exact fun z => nomatch z
theorem env_start {tb : Nat} {K : PySem.W.Frag} {pn : List Addr} {H : Hp} {Z : Addr → Prop} {vs : List V} {as : List Ar} {N : List Str} (h : ArL K pn H Z vs as) (zt : ∀ a, Z a → H a ≠ none) (pz : ∀ a ∈ pn, Z a ∧ PenX K H Z a) (bd : Bd tb pn H) {xw : Xw} (hk : xw.kn H Z pn []) (xo : ∀ e, xw.E e → pn = [] ∧ ∀ cls d H', HSt 0 Fx.nil.mu [] H H' → ExR K xw.mg H' Z e cls d → xw.W cls d H') : EnvOk K xw H Z pn Fx.nil Z tb (start N vs) (ini N as) H := by
  have hl := arl_len h
  have noown : ∀ (i : Nat) (d : D), (ini N as)[i]? ≠ some (.own d) := fun i d e => by
    unfold ini at e
    have := List.mem_of_getElem? e
    rcases List.mem_append.mp this with z | z
    · obtain ⟨a, _, ha⟩ := List.mem_map.mp z
      exact slA_own ha
    · have := List.eq_of_mem_replicate z
      cases this
  have noobj : ∀ (i : Nat) (C : List Str) (fs : List (Str × Fd)), (ini N as)[i]? ≠ some (.obj C fs) := fun i C fs e => by
    unfold ini at e
    have := List.mem_of_getElem? e
    rcases List.mem_append.mp this with z | z
    · obtain ⟨a, _, ha⟩ := List.mem_map.mp z
      exact slA_obj ha
    · have := List.eq_of_mem_replicate z
      cases this
  refine ⟨xo, (HStep.refl bd).st, zt, fun a z => z, fun _ z => .inl z, hk, zt, pz, ?_, fun i s e => ?_, fun i j d e a h1 => absurd h1 (noown i d), fun p hp => (nomatch hp), fun i C fs e => absurd e (noobj i C fs)⟩
  · simp [ini, L2.start, hl]
  · unfold ini at e
    unfold L2.start
    by_cases hi : i < as.length
    · rw [List.getElem?_append_left (by simpa using hi)] at e
      rw [List.getElem?_append_left (by simpa [hl] using hi)]
      exact arl_sl h i s e
    · rw [List.getElem?_append_right (by simpa using hi)] at e
      have := List.mem_of_getElem? e
      have := List.eq_of_mem_replicate this
      subst this
      trivial
def wBE (body : Ws) (N : List Str) (as : List Ar) (Q : VQ) (E : XQ) : Prop := body.run (ini N as) ⟨fun _ => Q .none .shr, Q, fun _ => False, fun _ => False, E⟩
def wB (body : Ws) (N : List Str) (as : List Ar) (Q : VQ) : Prop := wBE body N as Q XF
theorem wB_up {body : Ws} {N : List Str} {as : List Ar} {Q : VQ} {E : XQ} (h : wB body N as Q) : wBE body N as Q E := body.mono _ ⟨fun _ => Q .none .shr, Q, fun _ => False, fun _ => False, XF⟩ _ ⟨fun _ z => z, fun _ _ z => z, fun _ z => z, fun _ z => z, fun _ z => False.elim z⟩ h
section
variable {P : Program} {w : World} {K : PySem.W.Frag} {mg : Str → Option Value} {base : Heap} {k : Nat} {f : Addr} {fd : FuncData} {x qual : Str} {st : Stmt} {G : Gm} {CC : Cts} {ps : List Str} {body : Ws} {c : Ct} {mm : Nat}
theorem fn_ok (F : Fun K x qual st f fd) (g : Glo P w K mg base G k CC) (hG : G.sc = defScope st) (hl : G.lamb = false) (hfn : G.fn = fun _ => true) (hS : scopeB G.N ps (defScope st) = true) (hb : ∀ {X : Cx} {xw : Xw}, Cok X xw G k CC → Pss X xw (defBody st) body) (hm : body.c ≤ mm)
    (hlen : ∀ as Q E, c as Q E → as.length = ps.length) (hw : ∀ as (Q : VQ) (E : XQ), c as Q E → wBE body G.N as Q E) : FnG P w K mg base (L2.CX P w) (k + 1) f fd ps (spC mg c mm K) := by
  have S := scope_ok hS
  refine Fun.okG F S (fun vs H Q E h => ?_) (fun cdv A outer s H vs Q E hr hg h => ?_)
  · obtain ⟨as, pn, Z, tb, h1, _, _, _, h2⟩ := h
    rw [arl_len h1]
    exact hlen _ _ _ h2
  · obtain ⟨as, pn, Z, tb, h1, zt, pz, bd, h2⟩ := h
    have cok : Cok (cxOf (L2.CX P w) P w K mg base G.N qual (defScope st) f cdv A outer s H E) ⟨mg, fun e => pn = [] ∧ ∀ cls d H', HStep 0 [] H H' → ExR K mg H' Z e cls d → E cls d H', fun cls d H => E cls d H, fun _ _ _ _ => True⟩ G k CC :=
      ⟨rfl, S.nd, by rw [hG] <;> rfl, by rw [hfn] <;> rfl, fun _ => rfl, hr, hg, rfl, takes_of rfl rfl rfl rfl, passes_of rfl, fun _ => ⟨rfl, rfl, rfl⟩, g.blt, g.con, g.fns, g.mks, g.cls, g.exs, g.rel, g.nrel, g.lams, g.lfns, (fun z => (nomatch hl.symm.trans z)), g.kfns, g.ext⟩
    have body_ok := hb cok
    refine ⟨_, body_ok, H, Z, pn, Fx.nil, _, pn, _, Z, tb, ⟨fun _ z => z, fun _ z => .inl z⟩, env_start h1 zt pz (bd.less (Nat.add_le_add_right hm tb)) trivial (fun e he => ⟨he.1, fun cls d H' s xr => he.2 cls d H' s.to xr⟩), hw as _ _ h2, ⟨fun σ' H' ⟨pn', ρ', Z', px, ok, q⟩ => ?_, fun _ _ ⟨_, _, _, _, _, q⟩ => q.elim, fun _ _ ⟨_, _, _, _, _, q⟩ => q.elim, fun v d k' H' s1 _ r q => q.2 v H' s1.to r, rfl⟩⟩
    exact q.2 .non H' (px.hs ok.step).to .non
/-- a def that lets nothing out, for the law's own call -/
theorem FnG.down {P : Program} {w : World} {K : PySem.W.Frag} {mg : Str → Option Value} {base : Heap} {k : Nat} {f : Addr} {fd : FuncData} {ps : List Str} {sp : Sp} (F : FnG P w K mg base (L2.CX P w) k f fd ps sp) (h : ∀ vs H Q E, sp vs H Q E → sp vs H Q fun _ _ _ => False) : FnG P w K mg base CX0 k f fd ps sp := by
  refine ⟨F.len, fun A outer s H args us vs Q E hr hg e b r q => codeAny_mono (F.run A outer s H args us vs Q _ hr hg e b r (h vs H Q E q)) fun res s' z => ?_⟩
  match res, z with
  | .error e, ⟨_, _, _, _, _, _, _, _, _, _, _, _, z⟩ => exact z.elim
  | .ok (.ret u), z => exact z
  | .ok .next, z => exact z.elim
  | .ok .brk, z => exact z.elim
  | .ok .cont, z => exact z.elim
theorem FnG.up {P : Program} {w : World} {K : PySem.W.Frag} {mg : Str → Option Value} {base : Heap} {k : Nat} {f : Addr} {fd : FuncData} {ps : List Str} {sp : Sp} (F : FnG P w K mg base CX0 k f fd ps sp) : FnG P w K mg base (L2.CX P w) k f fd ps sp := by
  refine ⟨F.len, fun A outer s H args us vs Q E hr hg e b r q => codeAny_mono (F.run A outer s H args us vs Q E hr hg e b r q) fun res s' z => ?_⟩
  match res, z with
  | .error e, z => exact z.elim
  | .ok (.ret u), z => exact z
  | .ok .next, z => exact z.elim
  | .ok .brk, z => exact z.elim
  | .ok .cont, z => exact z.elim
theorem law_ok {mg0 : Str → Option Value} (F : Fun K x qual st f fd) (g : Glo P w K mg base G k CC) (hG : G.sc = defScope st) (hl : G.lamb = false) (hfn : G.fn = fun _ => true) (hS : scopeB G.N ps (defScope st) = true) (hb : ∀ {X : Cx} {xw : Xw}, XwFree xw → Cok X xw G k CC → Pss X xw (defBody st) body) (hm : body.c ≤ mm)
    (hlen : ∀ as Q E, c as Q E → as.length = ps.length) (hx : ∀ as Q E, c as Q E → c as Q XF) (hw : ∀ as (Q : VQ), c as Q XF → wB body G.N as Q) : FnG P w K mg base CX0 (k + 1) f fd ps (spC mg0 c mm K) := by
  have S := scope_ok hS
  refine Fun.okG0 F S (fun vs H Q E h => ?_) (fun cdv A outer s H vs Q E hr hg h => ?_)
  · obtain ⟨as, pn, Z, tb, h1, _, _, _, h2⟩ := h
    rw [arl_len h1]
    exact hlen _ _ _ h2
  · obtain ⟨as, pn, Z, tb, h1, zt, pz, bd, h2⟩ := h
    have cok : Cok (cxOf CX0 P w K mg base G.N qual (defScope st) f cdv A outer s H E).nox (Xw.no mg) G k CC :=
      ⟨rfl, S.nd, by rw [hG] <;> rfl, by rw [hfn] <;> rfl, fun _ => rfl, hr, hg, rfl, takes0, PassesOwn.never, fun _ => ⟨rfl, rfl, rfl⟩, g.blt, g.con, g.fns, g.mks, g.cls, g.exs, g.rel, g.nrel, g.lams, g.lfns, (fun z => (nomatch hl.symm.trans z)), g.kfns, g.ext⟩
    have body_ok := hb ⟨fun _ z => z, fun _ _ _ _ _ z => z⟩ cok
    refine ⟨_, body_ok, H, Z, pn, Fx.nil, _, pn, _, Z, tb, ⟨fun _ z => z, fun _ z => .inl z⟩, env_start h1 zt pz (bd.less (Nat.add_le_add_right hm tb)) trivial (fun e he => he.elim), hw as _ (hx _ _ _ h2), ⟨fun σ' H' ⟨pn', ρ', Z', px, ok, q⟩ => ?_, fun _ _ ⟨_, _, _, _, _, q⟩ => q.elim, fun _ _ ⟨_, _, _, _, _, q⟩ => q.elim, fun v d k' H' s1 _ r q => q.2 v H' s1.to r, rfl⟩⟩
    exact q.2 .non H' (px.hs ok.step).to .non
theorem cl_ok (hT : ∃ (f : Addr) (fd : FuncData), mg x = some (.ref f) ∧ Fun K x x st f fd) (g : Glo P w K mg base G k CC) (hG : G.sc = defScope st) (hl : G.lamb = false) (hfn : G.fn = fun _ => true) (hS : scopeB G.N ps (defScope st) = true) (hb : ∀ {X : Cx} {xw : Xw}, Cok X xw G k CC → Pss X xw (defBody st) body) (hm : body.c ≤ mm)
    (hlen : ∀ as Q E, c as Q E → as.length = ps.length) (hw : ∀ as (Q : VQ) (E : XQ), c as Q E → wBE body G.N as Q E)
    (hbi : ∀ (us : List Value) (kV doc pm ct cdv : Value) (an : Option Addr), us.length = ps.length → bindArgs (PySem.W.fnOf x x (defArgs st) (defBody st) (defScope st) .none kV doc pm an cdv ct) ⟨us, []⟩ = pure (ps.zip us)) : Cl P w K mg base (L2.CX P w) (k + 1) x ps (spC mg c mm K) := by
  obtain ⟨f, fd, gm, F⟩ := hT
  exact Cl.of (fn_ok F g hG hl hfn hS hb hm hlen hw) gm F.kp (F.binds fun _ _ _ _ _ _ us hl => hbi us _ _ _ _ _ _ hl)
theorem clK_ok {n : Nat} {ks : List Str} (hT : ∃ (f : Addr) (fd : FuncData), mg x = some (.ref f) ∧ Fun K x x st f fd) (g : Glo P w K mg base G k CC) (hG : G.sc = defScope st) (hl : G.lamb = false) (hfn : G.fn = fun _ => true) (hS : scopeB G.N ps (defScope st) = true) (hb : ∀ {X : Cx} {xw : Xw}, Cok X xw G k CC → Pss X xw (defBody st) body) (hm : body.c ≤ mm)
    (hlen : ∀ as Q E, c as Q E → as.length = ps.length) (hw : ∀ as (Q : VQ) (E : XQ), c as Q E → wBE body G.N as Q E)
    (hbi : ∀ (us ws : List Value) (kV doc pm ct cdv : Value) (an : Option Addr), us.length = n → ws.length = ks.length → bindArgs (PySem.W.fnOf x x (defArgs st) (defBody st) (defScope st) .none kV doc pm an cdv ct) ⟨us, ks.zip ws⟩ = pure (ps.zip (us ++ ws))) : ClK P w K mg base (L2.CX P w) (k + 1) x ps n ks (spC mg c mm K) := by
  obtain ⟨f, fd, gm, F⟩ := hT
  obtain ⟨oc, od, kV, doc, pm, an, cdv, ct, osl, e, lk, hcd⟩ := F.ex
  exact ⟨f, fd, fn_ok F g hG hl hfn hS hb hm hlen hw, gm, F.kp, fun s us ws _ l1 l2 => by rw [e]; exact .of_eq (hbi us ws _ _ _ _ _ _ l1 l2)⟩
end
/-! ### contracts by cases -/
/-- for some x with P x, called with A x: every answer with R x, every error with U x -/
def mkC {α : Type} (A : α → List Ar) (P : α → Prop) (R : α → D → Kd → Prop) (U : α → Exc → Prop) : Ct := fun as Q E => ∃ x, as = A x ∧ P x ∧ (∀ d k, R x d k → Q d k) ∧ ∀ e, U x e → E e
def nox {α : Type} : α → Exc → Prop := fun _ _ => False
theorem mkC_down {α : Type} {A : α → List Ar} {P : α → Prop} {R : α → D → Kd → Prop} {as : List Ar} {Q : VQ} {E : XQ} (h : mkC A P R nox as Q E) : mkC A P R nox as Q XF := by
  obtain ⟨x, e, p, q, _⟩ := h
  exact ⟨x, e, p, q, fun _ z => z⟩
theorem mkC_mono {α : Type} {A : α → List Ar} {P : α → Prop} {R : α → D → Kd → Prop} {U : α → Exc → Prop} : ∀ (as : List Ar) (Q Q' : VQ) (E E' : XQ), (∀ d k, Q d k → Q' d k) → (∀ e, E e → E' e) → mkC A P R U as Q E → mkC A P R U as Q' E' := by
  rintro as Q Q' E E' h h' ⟨x, e, p, q, u⟩
  exact ⟨x, e, p, fun d k z => h _ _ (q d k z), fun e z => h' _ (u e z)⟩
/-- contracts by names -/
def tblC (t : List (Str × Ct)) : Str → Ct := fun x => match t.lookup x with | some c => c | none => fun _ _ _ => False
def CtMono (c : Ct) : Prop := ∀ (as : List Ar) (Q Q' : VQ) (E E' : XQ), (∀ d k, Q d k → Q' d k) → (∀ e, E e → E' e) → c as Q E → c as Q' E'
inductive TblOk : List (Str × Ct) → Prop
  | nil : TblOk []
  | cons {x : Str} {c : Ct} {t : List (Str × Ct)} : CtMono c → TblOk t → TblOk ((x, c) :: t)
theorem TblOk.mem {t : List (Str × Ct)} (h : TblOk t) : ∀ p ∈ t, CtMono p.2 := by
  induction h with
  | nil => exact fun _ z => nomatch z
  | cons a _ ih => exact fun p hp => (List.mem_cons.mp hp).elim (fun e => by rw [e]; exact a) (ih p)
theorem TblOk.mono {t : List (Str × Ct)} (h : TblOk t) : CMono (tblC t) := by
  intro f as Q Q' E E' h1 h2 q
  unfold tblC at q ⊢
  cases e : t.lookup f with
  | some c => rw [e] at q; exact h.mem _ (PySem.mem_of_lookup e) as Q Q' E E' h1 h2 q
  | none => rw [e] at q; exact q.elim
/-! ### the law's own promise -/
def cLaw : Ct := fun as Q _ => ∃ n, as = [.scr n] ∧ n ≤ 63 ∧ Q (.bool true) .shr
theorem law_want {m : Nat} (hm : m ≤ LIM) {mg : Str → Option Value} {K : PySem.W.Frag} {H : Hp} {a : Addr} {ns : List Int} (hl : ns.length ≤ 63) (h : SqL K H a (ns.map V.int))   : spC mg cLaw m K [.ref a] H (fun v _ => v = .bl true) fun _ _ _ => False := by
  refine ⟨[.scr ns.length], [], fun _ => False, 0, .scr ?_ .nil, fun _ z => z.elim, fun _ z => (nomatch z), ⟨hm, fun _ z => (nomatch z)⟩, ns.length, rfl, hl, (fun z => nomatch z), fun v H' _ r => ?_⟩
  · rcases h with h | h
    · exact .inl ⟨fun z => z, h⟩
    · exact .inr h
  · cases r
    rfl
end Y
namespace Y
open PySem PySem.Spec PyProof.Rows L2 M
/-! ### promises of defs that call what they get -/
def tblL (t : List (Str × Lt)) : Str → Lt := fun x => match t.lookup x with | some c => c | none => fun _ _ => False
def LtMono (c : Lt) : Prop := ∀ (a a' : Ac) (Q Q' : VQ), (∀ R E, a.run R E → a'.run R E) → (∀ d k, Q d k → Q' d k) → c a Q → c a' Q'
inductive TllOk : List (Str × Lt) → Prop
  | nil : TllOk []
  | cons {x : Str} {c : Lt} {t : List (Str × Lt)} : LtMono c → TllOk t → TllOk ((x, c) :: t)
theorem TllOk.mem {t : List (Str × Lt)} (h : TllOk t) : ∀ p ∈ t, LtMono p.2 := by
  induction h with
  | nil => exact fun _ z => nomatch z
  | cons a _ ih => exact fun p hp => (List.mem_cons.mp hp).elim (fun e => by rw [e]; exact a) (ih p)
theorem TllOk.mono {t : List (Str × Lt)} (h : TllOk t) : ∀ g, LtMono (tblL t g) := by
  intro g a a' Q Q' h1 h2 q
  unfold tblL at q ⊢
  cases e : t.lookup g with
  | some c => rw [e] at q; exact h.mem _ (PySem.mem_of_lookup e) a a' Q Q' h1 h2 q
  | none => rw [e] at q; exact q.elim
/-- for some x with P x, what is given does R1 x or raises U1 x: every answer with R x -/
def ltC {α : Type} (P : α → Prop) (R1 : α → D → Kd → Prop) (U1 : α → Exc → Prop) (R : α → D → Kd → Prop) : Lt := fun act Q => ∃ x, P x ∧ act.run (R1 x) (U1 x) ∧ ∀ d k, R x d k → Q d k
theorem ltC_mono {α : Type} {P : α → Prop} {R1 : α → D → Kd → Prop} {U1 : α → Exc → Prop} {R : α → D → Kd → Prop} : ∀ (a a' : Ac) (Q Q' : VQ), (∀ R E, a.run R E → a'.run R E) → (∀ d k, Q d k → Q' d k) → ltC P R1 U1 R a Q → ltC P R1 U1 R a' Q' := by
  rintro a a' Q Q' h h' ⟨x, p, q, r⟩
  exact ⟨x, p, h _ _ q, fun d k z => h' _ _ (r d k z)⟩
end Y

/-! O1: objects whose fields a def sets (its own __init__). -/
namespace Y
open PySem PySem.Spec PyProof.Rows L2 M
/-! ### fields -/
def putFd (f : Str) (x : Fd) : List (Str × Fd) → List (Str × Fd)
  | [] => [(f, x)]
  | (g, y) :: r => if g = f then (g, x) :: r else (g, y) :: putFd f x r
theorem look_putFd (f g : Str) (x : Fd) : ∀ fs : List (Str × Fd), (putFd f x fs).lookup g = if g = f then some x else fs.lookup g
  | [] => by
    show List.lookup g [(f, x)] = _
    by_cases h : g = f
    · rw [if_pos h, List.lookup_cons, beq_iff_eq.mpr h]
    · rw [if_neg h, List.lookup_cons, beq_false_of_ne h]
  | (k, y) :: r => by
    show List.lookup g (if k = f then (k, x) :: r else (k, y) :: putFd f x r) = _
    by_cases hk : k = f
    · rw [if_pos hk]
      subst hk
      by_cases h : g = k
      · rw [if_pos h, List.lookup_cons, beq_iff_eq.mpr h]
      · rw [if_neg h, List.lookup_cons, List.lookup_cons, beq_false_of_ne h]
    · rw [if_neg hk, List.lookup_cons, List.lookup_cons, look_putFd f g x r]
      by_cases h : g = k
      · subst h
        simp [hk]
      · rw [beq_false_of_ne h]
theorem keys_same {f : Str} {v : V} {x : Fd} : ∀ {fvs : List (Str × V)} {fs : List (Str × Fd)}, fvs.map (·.1) = fs.map (·.1) → (putF f v fvs).map (·.1) = (putFd f x fs).map (·.1)
  | [], [], _ => rfl
  | [], _ :: _, h => nomatch h
  | _ :: _, [], h => nomatch h
  | (a, u) :: r, (b, y) :: s, h => by
    have h1 : a = b := (List.cons.inj h).1
    have h2 : r.map (·.1) = s.map (·.1) := (List.cons.inj h).2
    subst h1
    show (if a = f then (a, v) :: r else (a, u) :: putF f v r).map (·.1) = (if a = f then (a, x) :: s else (a, y) :: putFd f x s).map (·.1)
    by_cases e : a = f
    · rw [if_pos e, if_pos e, List.map_cons, List.map_cons, h2]
    · rw [if_neg e, if_neg e, List.map_cons, List.map_cons, keys_same h2]
theorem OwnAt.no_ins {K : PySem.W.Frag} {H : Hp} {Z : Addr → Prop} {a C dx : Addr} {fs : List (Str × V)} {d : D} (h : OwnAt K H Z a d) : H a ≠ some (.ins C dx fs) := fun e => by
  rcases h with ⟨_, _, _, q, _⟩ | ⟨_, _, _, q, _⟩ | ⟨_, _, _, q, _⟩ <;> (rw [e] at q; cases q)
section
variable {K : PySem.W.Frag} {xw : Xw} {H0 H H' : Hp} {B Z : Addr → Prop} {pn : List Addr} {tb tb2 : Nat} {fr : Fx} {σ : L2.St} {ρ : En}
/-- a new field's value -/
inductive FdOk (K : PySem.W.Frag) (H0 H : Hp) (Z : Addr → Prop) (pn : List Addr) (ρ : En) (σ : L2.St) (fs : List (Str × Fd)) (fvs : List (Str × V)) (f : Str) : V → Fd → Prop
  | val {v : V} {d : D} : Dn K H Z v d → FdOk K H0 H Z pn ρ σ fs fvs f v (.val d)
  | own {a : Addr} {d : D} : Z a → H0 a = none → a ∉ pn → ¬ NOf ρ σ a → (∀ g e, g ≠ f → fs.lookup g = some (.own e) → fvs.lookup g ≠ some (.ref a)) → OwnAt K H Z a d → FdOk K H0 H Z pn ρ σ fs fvs f (.ref a) (.own d)
theorem EnvOk.fput (ok : EnvOk K xw H0 B pn fr Z tb σ ρ H) {i : Nat} {nm : List Str} {fs : List (Str × Fd)} (e : ρ[i]? = some (.obj nm fs)) {x dx C : Addr} {fvs : List (Str × V)} (e1 : σ[i]? = some (some (.ref x)))
    (ob : ObAt K H0 H Z pn fr.mu (NOf ρ σ) nm fs x dx C fvs) {f : Str} {v : V} {fd : Fd} (hv : FdOk K H0 H Z pn ρ σ fs fvs f v fd) : EnvOk K xw H0 B pn fr Z tb σ (ρ.set i (.obj nm (putFd f fd fs))) (L2.upd H x (.ins C dx (putF f v fvs))) := by
  have kz : ∀ b u, ¬ Z b → H b = some u → L2.upd H x (.ins C dx (putF f v fvs)) b = some u := fun b u n e => by
    rw [upd_ne (fun z => n (by rw [z]; exact ob.z))]; exact e
  have ke : ∀ b u, b ≠ x → H b = some u → L2.upd H x (.ins C dx (putF f v fvs)) b = some u := fun b u n e => by rw [upd_ne n]; exact e
  have th : ∀ b, H b ≠ none → L2.upd H x (.ins C dx (putF f v fvs)) b ≠ none := fun b h => by
    by_cases e : b = x
    · rw [e, upd_same]; exact fun z => nomatch z
    · rw [upd_ne e]; exact h
  have ownx : ∀ {b : Addr} {d : D}, OwnAt K H Z b d → b ≠ x := fun {b d} h z => h.no_ins (C := C) (dx := dx) (fs := fvs) (by rw [z]; exact ob.at_)
  have okeep : ∀ {b : Addr} {d : D}, OwnAt K H Z b d → OwnAt K (L2.upd H x (.ins C dx (putF f v fvs))) Z b d := fun {b d} h => h.keep kz (fun b z => .inl z) fun o q => ke b o (ownx h) q
  have nof : ∀ b, NOf (ρ.set i (.obj nm (putFd f fd fs))) σ b → NOf ρ σ b := fun b ⟨l, d, h1, h2⟩ => by
    rcases getset h1 with ⟨_, z, _⟩ | ⟨_, h1⟩
    · cases z
    · exact ⟨l, d, h1, h2⟩
  refine ⟨ok.xo, ⟨fun b u n m e => ?_, fun d hd => ?_, fun b h => th b (ok.step.there b h), ok.bd.upd ob.np⟩, fun b h => th b (ok.zt b h), ok.bz, ok.zb, ok.kn, ok.bt, fun b hb => ⟨(ok.pz b hb).1, ?_⟩, by simpa using ok.len, fun j s es => ?_, fun j k d1 d2 b h1 h2 h3 h4 => ?_, fun p h => Dn.keep kz (fun b z => .inl z) _ _ (ok.fr p h), fun j nm' fs' es => ?_⟩
  · exact ke b u (fun z => m (by rw [z]; exact ob.mu)) (ok.step.keep b u n m e)
  · exact (ok.step.pen d hd).upd (fun z => ob.np (by rw [← z]; exact hd)) (ins_noext ob.at_)
  · exact (ok.pz b hb).2.move ((PenStep.refl _ _).upd (fun z => ob.np (by rw [← z]; exact hb)) (ins_noext ob.at_)) kz fun b z => .inl z
  · rcases getset es with ⟨_, rfl, _⟩ | ⟨ne, es⟩
    · trivial
    · have h := ok.sl j s es
      cases s with
      | emp => trivial
      | val d => obtain ⟨v, e1, h1⟩ := h; exact ⟨v, e1, Dn.keep kz (fun b z => .inl z) _ _ h1⟩
      | own d1 => obtain ⟨b, e2, h1, h2, h3, h4⟩ := h; exact ⟨b, e2, h1, h2, h3, okeep h4⟩
      | pen => obtain ⟨b, e1, h1, h2⟩ := h; exact ⟨b, e1, h1, ((PenStep.refl H b).upd (fun z => ob.np (by rw [← z]; exact h1)) (ins_noext ob.at_)).is h2⟩
      | scr n => obtain ⟨b, ns, e1, h1, h2⟩ := h; exact ⟨b, ns, e1, h1.keep kz (fun c z => .inl z), h2⟩
      | gen g => obtain ⟨v, e1, h1⟩ := h; exact ⟨v, e1, g.keep _ _ _ _ _ _ kz (fun b z => .inl z) h1⟩
      | obj _ _ => trivial
      | exc e => exact ExS.keep kz (fun b z => .inl z) h
  · rcases getset h1 with ⟨_, z, _⟩ | ⟨_, h1⟩
    · cases z
    · rcases getset h2 with ⟨_, z, _⟩ | ⟨_, h2⟩
      · cases z
      · exact ok.inj j k d1 d2 b h1 h2 h3 h4
  · rcases getset es with ⟨rfl, z, _⟩ | ⟨ne, es⟩
    · cases z
      refine ⟨(ok.ob _ _ _ e).1, x, dx, C, putF f v fvs, e1, ob.cl, ob.na, ob.mu, ob.z, ob.t0, ob.np, fun z => ob.no (nof _ z), upd_same, keys_same ob.few, fun g d hg => ?_, fun g d hg => ?_, fun g g' d d' b h1 h2 h3 h4 => ?_⟩
      · rw [look_putFd] at hg
        rw [lookup_putF]
        by_cases eg : g = f
        · rw [if_pos eg] at hg ⊢
          cases hg
          cases hv with
          | val n => exact ⟨_, rfl, Dn.keep kz (fun b z => .inl z) _ _ n⟩
        · rw [if_neg eg] at hg ⊢
          obtain ⟨u, q, n⟩ := ob.val g d hg
          exact ⟨u, q, Dn.keep kz (fun b z => .inl z) _ _ n⟩
      · rw [look_putFd] at hg
        rw [lookup_putF]
        by_cases eg : g = f
        · rw [if_pos eg] at hg ⊢
          cases hg
          cases hv with
          | own h1 h2 h3 h4 h5 h6 => exact ⟨_, rfl, h1, h2, h3, fun z => h4 (nof _ z), okeep h6⟩
        · rw [if_neg eg] at hg ⊢
          obtain ⟨b, q, h1, h2, h3, h4, h5⟩ := ob.own g d hg
          exact ⟨b, q, h1, h2, h3, fun z => h4 (nof _ z), okeep h5⟩
      · rw [look_putFd] at h1 h2
        rw [lookup_putF] at h3 h4
        by_cases e1 : g = f
        · by_cases e2 : g' = f
          · rw [e1, e2]
          · rw [if_pos e1] at h1 h3
            rw [if_neg e2] at h2 h4
            cases h1
            cases hv with
            | own _ _ _ _ q _ =>
              cases h3
              exact absurd h4 (q g' _ e2 h2)
        · by_cases e2 : g' = f
          · rw [if_neg e1] at h1 h3
            rw [if_pos e2] at h2 h4
            cases h2
            cases hv with
            | own _ _ _ _ q _ =>
              cases h4
              exact absurd h3 (q g _ e1 h1)
          · rw [if_neg e1] at h1 h3
            rw [if_neg e2] at h2 h4
            exact ob.inj g g' d d' b h1 h2 h3 h4
    · exact absurd ((ok.ob i _ _ e).1.trans (ok.ob j _ _ es).1.symm) ne
/-- a field's own container changed -/
theorem EnvOk.fchg (ok : EnvOk K xw H0 B pn fr Z tb σ ρ H) {i : Nat} {nm : List Str} {fs : List (Str × Fd)} (e : ρ[i]? = some (.obj nm fs)) {x dx C : Addr} {fvs : List (Str × V)} (e1 : σ[i]? = some (some (.ref x)))
    (ob : ObAt K H0 H Z pn fr.mu (NOf ρ σ) nm fs x dx C fvs) {f : Str} {a : Addr} {o : HO} {d d' : D} (hf : fs.lookup f = some (.own d)) (hl : fvs.lookup f = some (.ref a)) (ho : OwnAt K (L2.upd H a o) Z a d') :
    EnvOk K xw H0 B pn fr Z tb σ (ρ.set i (.obj nm (putFd f (.own d') fs))) (L2.upd H a o) := by
  obtain ⟨a', q, za, h0, hp, hno, hoa⟩ := ob.own f d hf
  rw [hl] at q
  cases q
  have kz : ∀ b u, ¬ Z b → H b = some u → L2.upd H a o b = some u := fun b u n e => by
    rw [upd_ne (fun z => n (by rw [z]; exact za))]; exact e
  have ke : ∀ b u, b ≠ a → H b = some u → L2.upd H a o b = some u := fun b u n e => by rw [upd_ne n]; exact e
  have th : ∀ b, H b ≠ none → L2.upd H a o b ≠ none := fun b h => by
    by_cases e : b = a
    · rw [e, upd_same]; exact fun z => nomatch z
    · rw [upd_ne e]; exact h
  have xa : x ≠ a := fun z => hoa.no_ins (C := C) (dx := dx) (fs := fvs) (by rw [← z]; exact ob.at_)
  have nof : ∀ b, NOf (ρ.set i (.obj nm (putFd f (.own d') fs))) σ b → NOf ρ σ b := fun b ⟨l, d, h1, h2⟩ => by
    rcases getset h1 with ⟨_, z, _⟩ | ⟨_, h1⟩
    · cases z
    · exact ⟨l, d, h1, h2⟩
  refine ⟨ok.xo, ⟨fun b u n m e => ?_, fun d hd => ?_, fun b h => th b (ok.step.there b h), ok.bd.upd hp⟩, fun b h => th b (ok.zt b h), ok.bz, ok.zb, ok.kn, ok.bt, fun b hb => ⟨(ok.pz b hb).1, ?_⟩, by simpa using ok.len, fun j s es => ?_, fun j k d1 d2 b h1 h2 h3 h4 => ?_, fun p h => Dn.keep kz (fun b z => .inl z) _ _ (ok.fr p h), fun j nm' fs' es => ?_⟩
  · exact ke b u (fun z => by rw [z, h0] at e; cases e) (ok.step.keep b u n m e)
  · exact (ok.step.pen d hd).upd (fun z => hp (by rw [← z]; exact hd)) hoa.noext
  · exact (ok.pz b hb).2.move ((PenStep.refl _ _).upd (fun z => hp (by rw [← z]; exact hb)) hoa.noext) kz fun b z => .inl z
  · rcases getset es with ⟨_, rfl, _⟩ | ⟨ne, es⟩
    · trivial
    · have h := ok.sl j s es
      cases s with
      | emp => trivial
      | val d => obtain ⟨v, e1, h1⟩ := h; exact ⟨v, e1, Dn.keep kz (fun b z => .inl z) _ _ h1⟩
      | own d1 =>
        obtain ⟨b, e2, h1, h2, h3, h4⟩ := h
        exact ⟨b, e2, h1, h2, h3, h4.keep kz (fun c z => .inl z) fun u q => ke b u (fun z => hno ⟨j, d1, es, by rw [e2, z]⟩) q⟩
      | pen => obtain ⟨b, e1, h1, h2⟩ := h; exact ⟨b, e1, h1, ((PenStep.refl H b).upd (fun z => hp (by rw [← z]; exact h1)) hoa.noext).is h2⟩
      | scr n => obtain ⟨b, ns, e1, h1, h2⟩ := h; exact ⟨b, ns, e1, h1.keep kz (fun c z => .inl z), h2⟩
      | gen g => obtain ⟨v, e1, h1⟩ := h; exact ⟨v, e1, g.keep _ _ _ _ _ _ kz (fun b z => .inl z) h1⟩
      | obj _ _ => trivial
      | exc e => exact ExS.keep kz (fun b z => .inl z) h
  · rcases getset h1 with ⟨_, z, _⟩ | ⟨_, h1⟩
    · cases z
    · rcases getset h2 with ⟨_, z, _⟩ | ⟨_, h2⟩
      · cases z
      · exact ok.inj j k d1 d2 b h1 h2 h3 h4
  · rcases getset es with ⟨rfl, z, _⟩ | ⟨ne, es⟩
    · cases z
      have fewer : fvs.map (·.1) = (putFd f (.own d') fs).map (·.1) := by
        have : ∀ {l : List (Str × Fd)} {y z : Fd}, l.lookup f = some y → (putFd f z l).map (·.1) = l.map (·.1) := by
          intro l y z
          induction l with
          | nil => intro h; cases h
          | cons p l ih =>
            intro h
            obtain ⟨g, w⟩ := p
            show (if g = f then (g, z) :: l else (g, w) :: putFd f z l).map (·.1) = _
            by_cases eg : g = f
            · rw [if_pos eg]; rfl
            · rw [if_neg eg, List.map_cons, List.map_cons, ih]
              rw [List.lookup_cons, beq_false_of_ne (Ne.symm eg)] at h
              exact h
        rw [this hf]
        exact ob.few
      refine ⟨(ok.ob _ _ _ e).1, x, dx, C, fvs, e1, ob.cl, ob.na, ob.mu, ob.z, ob.t0, ob.np, fun z => ob.no (nof _ z), ke x _ xa ob.at_, fewer, fun g d2 hg => ?_, fun g d2 hg => ?_, fun g g' d1 d2 b h1 h2 h3 h4 => ?_⟩
      · rw [look_putFd] at hg
        by_cases eg : g = f
        · rw [if_pos eg] at hg
          cases hg
        · rw [if_neg eg] at hg
          obtain ⟨u, q, n⟩ := ob.val g d2 hg
          exact ⟨u, q, Dn.keep kz (fun b z => .inl z) _ _ n⟩
      · rw [look_putFd] at hg
        by_cases eg : g = f
        · rw [if_pos eg] at hg
          cases hg
          exact ⟨a, by rw [eg]; exact hl, za, h0, hp, fun z => hno (nof _ z), ho⟩
        · rw [if_neg eg] at hg
          obtain ⟨b, q, h1, h2, h3, h4, h5⟩ := ob.own g d2 hg
          refine ⟨b, q, h1, h2, h3, fun z => h4 (nof _ z), h5.keep kz (fun c z => .inl z) fun u qu => ke b u (fun z => ?_) qu⟩
          rw [z] at q
          exact eg (ob.inj g f d2 d a hg hf q hl)
      · have own_of : ∀ {g : Str} {d1 : D}, (putFd f (.own d') fs).lookup g = some (.own d1) → ∃ d2, fs.lookup g = some (.own d2) := fun {g d1} h => by
          rw [look_putFd] at h
          by_cases eg : g = f
          · exact ⟨d, by rw [eg]; exact hf⟩
          · rw [if_neg eg] at h
            exact ⟨d1, h⟩
        obtain ⟨y1, h1⟩ := own_of h1
        obtain ⟨y2, h2⟩ := own_of h2
        exact ob.inj g g' y1 y2 b h1 h2 h3 h4
    · exact absurd ((ok.ob i _ _ e).1.trans (ok.ob j _ _ es).1.symm) ne
end
end Y

/-! O2: rules for the fields of an object in the making; a class called. -/
namespace Y
open PySem PySem.Spec PyProof.Rows L2 M
def fdK (d : D) : Kd → Fd
  | .own => .own d
  | _ => .val d
/-- a field, looked at -/
def gFl (f : Str) (s : Option Sl) (Q : VQ) : Prop := match s with
  | some (.obj nm fs) => f ∈ nm ∧ (match fs.lookup f with | some (.val d) => Q d .shr | some (.own d) => Q d .bor | none => False)
  | _ => False
theorem gFl_mono {f : Str} {s : Option Sl} {Q Q' : VQ} (h : ∀ d k, Q d k → Q' d k) (q : gFl f s Q) : gFl f s Q' := by
  unfold gFl at q ⊢
  split at q
  · refine ⟨q.1, ?_⟩
    have q := q.2
    split at q
    · exact h _ _ q
    · exact h _ _ q
    · exact q.elim
  · exact q.elim
section
variable {X : Cx} {xw : Xw} {wa wb : XQ → En → VQ → Prop} {is : List Nat}
theorem y_fl {i : Nat} {x f : Str} {p pos : Pos} (hN : X.N[i]? = some x) (hv : Vis X.env.scope x) (hd : (x == ("__debug__" : Str)) = false) (hcd : (x == ("__classdict__" : Str)) = false) :
    PE X (.Attribute (.Name x p) f pos) (tX X.K xw 0 fun ρ Q => gFl f ρ[i]? Q) := by
  refine PE.weak (pe_fld (f := f) (pos := pos) (pe_var (pos := p) hN hv hd hcd) rfl) fun σ H Q ⟨H0, B, pn, fr, ρ, Z, t, ok, w⟩ => ?_
  dsimp only [gFl] at w
  split at w
  · rename_i nm fs e
    obtain ⟨_, x, dx, C, fvs, e1, ob⟩ := ok.ob i nm fs e
    obtain ⟨hm, w⟩ := w
    split at w
    · rename_i d ef
      obtain ⟨v, ev, n⟩ := ob.val f d ef
      exact ⟨.ref x, e1, x, C, dx, fvs, v, rfl, ob.at_, ob.cl, ob.na f hm, ev, w v H (HStep.refl (ok.bd.less (by omega))) n⟩
    · rename_i d ef
      obtain ⟨b, eb, hz, h0, hp, _, ho⟩ := ob.own f d ef
      exact ⟨.ref x, e1, x, C, dx, fvs, .ref b, rfl, ob.at_, ob.cl, ob.na f hm, eb, w _ H (HStep.refl (ok.bd.less (by omega))) ⟨b, rfl, hp, ho⟩⟩
    · exact w.elim
  · exact w.elim
/-- self.f = e -/
def gFset (i : Nat) (f : Str) : En → D → Kd → Pq → Prop := fun ρ d k P => k ≠ .bor ∧ match ρ[i]? with
  | some (.obj nm fs) => f ∈ nm ∧ fs.length < 900 ∧ P.nx (ρ.set i (.obj nm (putFd f (fdK d k) fs)))
  | _ => False
theorem len_keys {fvs : List (Str × V)} {fs : List (Str × Fd)} (h : fvs.map (·.1) = fs.map (·.1)) : fvs.length = fs.length := by
  have := congrArg List.length h
  simpa using this
theorem EnvOk.fsto {K : PySem.W.Frag} {H0 H H' : Hp} {B Z : Addr → Prop} {pn : List Addr} {tb tb2 : Nat} {fr : Fx} {σ : L2.St} {ρ : En} (ok : EnvOk K xw H0 B pn fr Z tb σ ρ H) {i : Nat} {nm : List Str} {fs : List (Str × Fd)} (e : ρ[i]? = some (.obj nm fs))
    {f : Str} {v : V} {d : D} {k : Kd} (s : HStep tb2 pn H H') (r : RX K pn H H' Z v d k) (hk : k ≠ .bor) (hm : f ∈ nm) (hl : fs.length < 900) :
    ∃ x C dx fvs, σ[i]? = some (some (.ref x)) ∧ H' x = some (.ins C dx fvs) ∧ Cls K C ∧ NoAttr K C f ∧ fvs.length < 1000 ∧ ∃ Z', EnvOk K xw H0 B pn fr Z' tb2 σ (ρ.set i (.obj nm (putFd f (fdK d k) fs))) (L2.upd H' x (.ins C dx (putF f v fvs))) := by
  have val : Dn K H' Z v d → fdK d k = .val d → ∃ x C dx fvs, σ[i]? = some (some (.ref x)) ∧ H' x = some (.ins C dx fvs) ∧ Cls K C ∧ NoAttr K C f ∧ fvs.length < 1000 ∧ ∃ Z', EnvOk K xw H0 B pn fr Z' tb2 σ (ρ.set i (.obj nm (putFd f (fdK d k) fs))) (L2.upd H' x (.ins C dx (putF f v fvs))) := fun n ek => by
    have ok1 := ok.to s
    obtain ⟨_, x, dx, C, fvs, e1, ob⟩ := ok1.ob i nm fs e
    have := len_keys ob.few
    refine ⟨x, C, dx, fvs, e1, ob.at_, ob.cl, ob.na f hm, by omega, Z, ?_⟩
    rw [ek]
    exact ok1.fput e e1 ob (.val n)
  cases k with
  | shr => exact val r rfl
  | bor => exact absurd rfl hk
  | gen _ => exact r.elim
  | own =>
    obtain ⟨a, rfl, hn, ho⟩ := r
    have ok1 := ok.more hn s ho.there
    obtain ⟨_, x0, dx0, C0, fvs0, e10, ob0⟩ := ok.ob i nm fs e
    obtain ⟨_, x, dx, C, fvs, e1, ob⟩ := ok1.ob i nm fs e
    have ex : x = x0 := by rw [e1] at e10; cases e10; rfl
    subst ex
    have same := s.keep x _ ob0.np ob0.at_
    rw [ob.at_] at same
    cases same
    have := len_keys ob.few
    refine ⟨x, _, _, _, e1, ob.at_, ob.cl, ob.na f hm, by omega, _, ok1.fput e e1 ob (.own (.inr rfl) (ok.step.free hn) (fun z => ok.pnt a z hn) (fun ⟨j, d1, h1, h2⟩ => ?_) (fun g d1 _ hg q => ?_) ho)⟩
    · obtain ⟨b, q, _, _, _, h4⟩ := ok.sl j _ h1
      rw [h2] at q
      cases q
      exact h4.there hn
    · obtain ⟨b, q1, _, _, _, _, h5⟩ := ob0.own g d1 hg
      rw [q] at q1
      cases q1
      exact h5.there hn
theorem s_fset {ca : Nat} {i : Nat} {x f : Str} {e : Expr} {p pos pos' : Pos} (hN : X.N[i]? = some x) (hv : Vis X.env.scope x) (hd : (x == ("__debug__" : Str)) = false) (hcd : (x == ("__classdict__" : Str)) = false)
    (hs : swapsWith e (some (.Attribute (.Name x p) f pos')) pos.line X.env = pure false) (ma : MonoW (wa xw.E)) (he : PE X e (tX X.K xw ca (wa xw.E))) :
    PS X (.Assign [.Attribute (.Name x p) f pos'] e pos) (tS X.K xw ca fun ρ P => wa P.ex (dem ρ is) fun d k => gFset i f (dem ρ is) d k P) := by
  refine PS.weak (ps_fld (f := f) (pe_var (pos := p) hN hv hd hcd) he hs) fun D σ H h => ?_
  refine tX_st ma (is := is) (g := gFset i f) (tS_ex (w := fun E ρ P => wa E (dem ρ is) fun d k => gFset i f (dem ρ is) d k P) (w' := fun _ _ _ => True) h) fun H0 B pn0 fr P pn ρ Z tb tb' v d k H' px ok s r q f' => ?_
  unfold gFset at q
  obtain ⟨hk, q⟩ := q
  split at q
  · rename_i nm fs e0
    obtain ⟨x0, C, dx, fvs, e1, ea, cl, na, hl, Z', ok'⟩ := ok.fsto e0 s r hk q.1 q.2.1
    exact ⟨.ref x0, e1, x0, C, dx, fvs, rfl, ea, cl, na, hl, f'.nx _ _ ⟨pn, _, Z', px, ok', q.2.2⟩⟩
  · exact q.elim
/-- self.f.append(e) -/
def gFapp (i : Nat) (f : Str) (s : Option Sl) (R : List D → (List D → En → En) → Prop) : Prop := match s with
  | some (.obj nm fs) => f ∈ nm ∧ (match fs.lookup f with | some (.own (.list ds)) => R ds fun es ρ => ρ.set i (.obj nm (putFd f (.own (.list es)) fs)) | _ => False)
  | _ => False
theorem gFapp_mono {i : Nat} {f : Str} {s : Option Sl} {R R' : List D → (List D → En → En) → Prop} (h : ∀ ds g, R ds g → R' ds g) (q : gFapp i f s R) : gFapp i f s R' := by
  unfold gFapp at q ⊢
  split at q
  · refine ⟨q.1, ?_⟩
    have q := q.2
    split at q
    · exact h _ _ q
    · exact q.elim
  · exact q.elim
theorem s_fapp {ca : Nat} {i : Nat} {x f : Str} {e : Expr} {p fpos apos cpos pos : Pos} (hN : X.N[i]? = some x) (hv : Vis X.env.scope x) (hd : (x == ("__debug__" : Str)) = false) (hcd : (x == ("__classdict__" : Str)) = false) (hst : starEach [e] X.env = [(false, eval e X.env)])
    (hline : (apos.endLine == cpos.line) = true) (ma : MonoW (wa xw.E)) (he : PE X e (tX X.K xw ca (wa xw.E))) :
    PS X (.Expr (.Call (.Attribute (.Attribute (.Name x p) f fpos) "append" apos) [e] [] cpos) pos) (tS X.K xw ca fun ρ P => gFapp i f (dem ρ is)[i]? fun ds g => wa P.ex (dem ρ is) fun d k => k ≠ .bor ∧ ds.length < sizeLine ∧ P.nx (g (ds ++ [d]) (dem ρ is))) := by
  refine PS.weak (ps_expr (pe_bm (hs := hst) (hfew := few1 hst) (hline := hline) PySem.F.plainAttrs_list PySem.F.slot_list_append PySem.F.type_list_append mt_append (pe_fld (f := f) (pos := fpos) (pe_var (pos := p) hN hv hd hcd) rfl) (pa_cons he pa_nil hst)) rfl) fun D σ H ⟨H0, B, pn0, fr, P, pn, ρ, Z, tb, px, ok, w, f'⟩ => ?_
  dsimp only at w
  rw [f'.ex] at w
  dsimp only [gFapp] at w
  split at w
  · rename_i nm fs e0
    obtain ⟨hm, w⟩ := w
    split at w
    · rename_i ds ef
      obtain ⟨Z', hz, ok'⟩ := dem_ok is ok
      obtain ⟨_, x0, dx, C, fvs, e1, ob⟩ := ok'.ob i nm fs e0
      obtain ⟨b, eb, zb, h0, hp, hno, ho⟩ := ob.own f _ ef
      rcases ho with ⟨xs, ds', ed, hx, hn⟩ | ⟨_, _, ed, _⟩ | ⟨_, _, ed, _⟩
      · cases ed
        refine ⟨.ref x0, e1, x0, C, dx, fvs, .ref b, rfl, ob.at_, ob.cl, ob.na f hm, eb, Or.inl ⟨rfl, _, Or.inl (Or.inl hx)⟩, H0, B, pn, fr, _, Z', tb, ok', ma _ _ _ (fun d k q v H' s r => ?_) w⟩
        have hx' := s.keep b _ hp hx
        have hn' := DnL.keep (keepZ s ok'.pnz) (fun b z => .inl z) _ _ hn
        have ok2 := ok'.to s
        obtain ⟨_, x1, dx1, C1, fvs1, e11, ob1⟩ := ok2.ob i nm fs e0
        rw [e1] at e11
        cases e11
        have same := s.keep x0 _ ob.np ob.at_
        rw [ob1.at_] at same
        cases same
        refine ⟨b, xs, v, rfl, rfl, hx', by rw [hn'.length]; exact q.2.1, ?_⟩
        refine f'.nx _ _ ⟨pn, _, Z', px, ok2.fchg e0 e1 ob1 ef eb (.inl ⟨_, _, rfl, upd_same, ?_⟩), q.2.2⟩
        refine DnL.keep (fun b u n e => ?_) (fun b z => .inl z) _ _ (hn'.append (.cons (r.dn q.1 ok'.zt) .nil))
        rw [upd_ne (fun z => n (by rw [z]; exact zb))]
        exact e
      · cases ed
      · cases ed
    · exact w.elim
  · exact w.elim
end
/-! ### __init__ -/
def iniI (nm N : List Str) (as : List Ar) : En := .obj nm [] :: (as.map slA ++ List.replicate (N.length - (as.length + 1)) .emp)
theorem env_startI {tb : Nat} {mg : Str → Option Value} {K : PySem.W.Frag} {pn : List Addr} {H : Hp} {Z : Addr → Prop} {x dx C : Addr} {nm : List Str} {vs : List V} {as : List Ar} {N : List Str} (hx : H x = some (.ins C dx [])) (cl : Cls K C) (na : ∀ f ∈ nm, NoAttr K C f) (zx : Z x) (xp : x ∉ pn)
    (h : ArL K pn H Z vs as) (zt : ∀ a, Z a → H a ≠ none) (pz : ∀ a ∈ pn, Z a ∧ PenX K H Z a) (bd : Bd tb pn H) : EnvOk K (Xw.no mg) H Z pn ⟨[], [x]⟩ Z tb (start N (.ref x :: vs)) (iniI nm N as) H := by
  have hl := arl_len h
  have noown : ∀ (i : Nat) (d : D), (iniI nm N as)[i]? ≠ some (.own d) := fun i d e => by
    rcases List.mem_cons.mp (List.mem_of_getElem? e) with z | z
    · cases z
    · rcases List.mem_append.mp z with z | z
      · obtain ⟨a, _, ha⟩ := List.mem_map.mp z
        exact slA_own ha
      · have := List.eq_of_mem_replicate z
        cases this
  have noobj : ∀ (i : Nat) (nm' : List Str) (fs : List (Str × Fd)), (iniI nm N as)[i + 1]? ≠ some (.obj nm' fs) := fun i C fs e => by
    have e : (as.map slA ++ List.replicate (N.length - (as.length + 1)) Sl.emp)[i]? = some (.obj C fs) := e
    rcases List.mem_append.mp (List.mem_of_getElem? e) with z | z
    · obtain ⟨a, _, ha⟩ := List.mem_map.mp z
      exact slA_obj ha
    · have := List.eq_of_mem_replicate z
      cases this
  have nof : ∀ b, ¬ NOf (iniI nm N as) (start N (.ref x :: vs)) b := fun b ⟨j, d, h1, _⟩ => noown j d h1
  refine ⟨fun _ z => z.elim, (HStep.refl bd).st, zt, fun a z => z, fun _ z => .inl z, trivial, zt, pz, ?_, fun i s e => ?_, fun i j d e a h1 => absurd h1 (noown i d), fun p hp => (nomatch hp), fun i nm' fs e => ?_⟩
  · simp [iniI, L2.start, hl]
  · cases i with
    | zero =>
      have : s = .obj nm [] := (Option.some.inj e).symm
      subst this
      trivial
    | succ i =>
      have e : (as.map slA ++ List.replicate (N.length - (as.length + 1)) Sl.emp)[i]? = some s := e
      show SlOk K (Xw.no mg) H H Z pn ((start N (.ref x :: vs))[i + 1]?) s
      unfold L2.start
      by_cases hi : i < as.length
      · rw [List.getElem?_append_left (by simpa using hi)] at e
        rw [List.map_cons, List.cons_append, List.getElem?_cons_succ, List.getElem?_append_left (by simpa [hl] using hi)]
        exact arl_sl h i s e
      · rw [List.getElem?_append_right (by simpa using hi)] at e
        have := List.eq_of_mem_replicate (List.mem_of_getElem? e)
        subst this
        trivial
  · cases i with
    | succ i => exact absurd e (noobj i nm' fs)
    | zero =>
      have e : Sl.obj nm [] = .obj nm' fs := Option.some.inj e
      cases e
      exact ⟨rfl, x, dx, C, [], rfl, cl, na, List.mem_cons_self, zx, zt x zx, xp, nof x, hx, rfl, fun f d z => (nomatch z), fun f d z => (nomatch z), fun f f' d d' b z => (nomatch z)⟩
def gOb (nm : List Str) (s : Option Sl) (Q : List (Str × Fd) → Prop) : Prop := match s with | some (.obj nm' fs) => nm' = nm ∧ Q fs | _ => False
def wBI (body : Ws) (nm N : List Str) (as : List Ar) (Q : List (Str × Fd) → Prop) : Prop := body.run (iniI nm N as) ⟨fun ρ => gOb nm ρ[0]? Q, fun _ _ => False, fun _ => False, fun _ => False, XF⟩
section
variable {P : Program} {w : World} {K : PySem.W.Frag} {mg : Str → Option Value} {base : Heap} {k : Nat} {f : Addr} {fd : FuncData} {x qual : Str} {st : Stmt} {G : Gm} {CC : Cts} {ps : List Str} {body : Ws} {c : Ci} {mm : Nat} {nm : List Str}
theorem in_ok (F : Fun K x qual st f fd) (g : Glo P w K mg base G k CC) (hG : G.sc = defScope st) (hl : G.lamb = false) (hfn : G.fn = fun _ => true) (hS : scopeB G.N ps (defScope st) = true) (hb : ∀ {X : Cx} {xw : Xw}, Cok X xw G k CC → Pss X xw (defBody st) body) (hm : body.c ≤ mm)
    (hlen : ∀ as Q, c as Q → as.length + 1 = ps.length) (hw : ∀ as Q, c as Q → wBI body nm G.N as Q) : FnG P w K mg base (L2.CX P w) (k + 1) f fd ps (spI nm c mm K) := by
  have S := scope_ok hS
  refine FnG.up ?_
  refine Fun.okG0 F S (fun vs H Q E h => ?_) (fun cdv A outer s H vs Q E hr hg h => ?_)
  · obtain ⟨x, dx, C, vs', as, pn, Z, tb, rfl, _, _, _, _, _, h1, _, _, _, h2⟩ := h
    rw [List.length_cons, arl_len h1]
    exact hlen _ _ h2
  · obtain ⟨x, dx, C, vs', as, pn, Z, tb, rfl, hx, cl, na, zx, xp, h1, zt, pz, bd, h2⟩ := h
    have cok : Cok (cxOf CX0 P w K mg base G.N qual (defScope st) f cdv A outer s H E).nox (Xw.no mg) G k CC :=
      ⟨rfl, S.nd, by rw [hG] <;> rfl, by rw [hfn] <;> rfl, fun _ => rfl, hr, hg, rfl, takes0, PassesOwn.never, fun _ => ⟨rfl, rfl, rfl⟩, g.blt, g.con, g.fns, g.mks, g.cls, g.exs, g.rel, g.nrel, g.lams, g.lfns, (fun z => (nomatch hl.symm.trans z)), g.kfns, g.ext⟩
    refine ⟨_, hb cok, H, Z, pn, ⟨[], [x]⟩, _, pn, _, Z, tb, ⟨fun _ z => z, fun _ z => .inl z⟩, env_startI hx cl na zx xp h1 zt pz (bd.less (Nat.add_le_add_right hm tb)), hw as _ h2, ⟨fun σ' H' ⟨pn', ρ', Z', px, ok, q⟩ => ?_, fun _ _ ⟨_, _, _, _, _, q⟩ => q.elim, fun _ _ ⟨_, _, _, _, _, q⟩ => q.elim, fun v d k' H' _ _ _ q => q.elim, rfl⟩⟩
    dsimp only [gOb] at q
    split at q
    · rename_i nm' fs e
      obtain ⟨rfl, q⟩ := q
      obtain ⟨_, x1, dx1, C1, fvs, _, ob⟩ := ok.ob 0 nm' fs e
      have ex : x1 = x := List.mem_singleton.mp ob.mu
      subst ex
      refine q H' dx1 C1 fvs (px.hs ok.step) ob.at_ ob.cl ob.na ⟨fun f d hf => ?_, fun f d hf => ?_⟩
      · obtain ⟨v, e1, n⟩ := ob.val f d hf
        exact ⟨v, e1, n.weak ok.bz⟩
      · obtain ⟨b, e1, h1, h2, h3, _, h5⟩ := ob.own f d hf
        exact ⟨b, e1, h2, h5.keep (fun _ _ _ e => e) (fun c z => z.elim (fun z => .inl (ok.bz c z)) fun z => .inl (by rw [z]; exact h1)) fun _ e => e⟩
    · exact q.elim
end
/-! ### a class called, a field of what it makes -/
section
variable {X : Cx} {xw : Xw} {k j : Nat} {x f : Str} {p pos apos : Pos} {e : Expr} {es : List Expr} {nm : List Str}
theorem goes_mk {pins : List (Addr × Obj)} {σ : L2.St} {H : Hp} {s : Shared} {Q : VK} {us : List Value} {vs : List V} {C fI : Addr} {fd : FuncData} {ps : List Str} {sp : Sp} (M : Mk X.K C fI) (F : FnG X.prog X.w X.K X.mg X.base (L2.CX X.prog X.w) k fI fd ps sp) (hr : Room (k + 1) X.A) (hgd : X.A.guards = some []) (hb : Binds X.K fd ps [])
    (I : Inv X pins σ H s) (r : Vals vs us) (want : ∀ o d, H o = none → H d = none → d ≠ o → sp (.ref o :: vs) (upd (upd H d (.own o)) o (.ins C d [])) (fun v H2 => v = .non ∧ Q (.ref o) H2) C8.E0) :
    wpAny (model X.prog X.w) X.A (call (.ref C) us) (EP X pins σ Q) X.xe s := by
  have n1 : H (s.heap.objs.size + 1) = none := I.hok.fresh (Nat.le_succ _)
  have n0 : H s.heap.objs.size = none := I.hok.fresh (Nat.le_refl _)
  have goal := want _ _ n1 n0 (Nat.ne_of_lt (Nat.lt_succ_self _))
  have J := Inv.made (C := C) I
  have both : Vals (V.ref (s.heap.objs.size + 1) :: vs) (Value.ref (s.heap.objs.size + 1) :: us) := .cons rfl r
  have count := F.len _ _ _ _ goal
  rw [both.length] at count
  have bnd := hb _ (Value.ref (s.heap.objs.size + 1) :: us) J.kIn (by rw [List.append_nil]; exact count)
  rw [List.append_nil] at bnd
  refine wpAny_call (make_map (f := fI) I.kIn M.makes M.init (beq_iff_eq.mp M.fn) (codeAny_mono (F.run _ X.stack _ _ ⟨Value.ref (s.heap.objs.size + 1) :: us, []⟩ _ _ _ C8.E0 (hr.make C us []) hgd (J.env0.make C us []) bnd both goal) ?_))
  intro res s2 z
  match res, z with
  | .error er, ⟨_, _, _, _, _, _, _, _, _, _, _, _, z⟩ => exact z.elim
  | .ok (.ret u), z =>
    obtain ⟨v, H2, J2, rv, ev, q⟩ := J.after z
    subst ev
    exact ⟨rv, V.ref (s.heap.objs.size + 1), H2, J2, rfl, q⟩
  | .ok .next, z => exact False.elim z
  | .ok .brk, z => exact False.elim z
  | .ok .cont, z => exact False.elim z
theorem pe_mkr {ps : List Str} {sp : Sp} {t : TA} (c : Mkr X.prog X.w X.K X.mg X.base k x nm ps sp) (hr : Room j X.A) (hgd : X.A.guards = some []) (hk : k + 1 ≤ j) (hg : Gl X x) (ha : PA X (e :: es) t)
    (hdb : (x == ("__debug__" : Str)) = false) (he : starEach (e :: es) X.env = (false, eval e X.env) :: starEach es X.env) (hpl : (backTo pos (starEach es X.env)).any (·.1) = false) :
    PE X (.Call (.Name x p) (e :: es) [] pos) (fun σ H Q => t σ H fun vs H1 => ∀ C, Cls X.K C → (∀ f ∈ nm, NoAttr X.K C f) → ∀ o d, H1 o = none → H1 d = none → d ≠ o → sp (.ref o :: vs) (upd (upd H1 d (.own o)) o (.ins C d [])) (fun v H2 => v = .non ∧ Q (.ref o) H2) C8.E0) := by
  obtain ⟨C, fI, fd, F, M, g, b, cl, na⟩ := c.ex
  constructor
  intro pins s σ H Q I want
  refine wpAny_Call_Name_kw (ld_glob I hg g ?_ hdb)
  refine PySem.W.callWith_K (h₀ := X.base) I.ok.mod.kin M.kp (thn (ha.run pos pins s σ H _ I want) ?_) he hpl
  rintro us s1 ⟨vs, H1, I1, r, q⟩
  exact ⟨I1.kIn, goes_mk M F (hr.mono hk) hgd b I1 r (q C cl na)⟩
/-- Cls(e, ..).f -/
def gMf (f : Str) (nm : List Str) (Q : VQ) (fs : List (Str × Fd)) : Prop := f ∈ nm ∧ match fs.lookup f with | some (.val d) => Q d .shr | some (.own d) => Q d .own | none => False
theorem y_mkf {cs m : Nat} {c : Ci} {ps : List Str} {ws : En → (List Ar → Bool → Prop) → Prop} (hC : ∀ as Q Q', (∀ fs, Q fs → Q' fs) → c as Q → c as Q')
    (cm : Mkr X.prog X.w X.K X.mg X.base k x nm ps (spI nm c m X.K)) (hr : Room j X.A) (hgd : X.A.guards = some []) (hk : k + 1 ≤ j) (gl : Gl X x) (hd : (x == ("__debug__" : Str)) = false) (he : starEach (e :: es) X.env = (false, eval e X.env) :: starEach es X.env) (hpl : (backTo pos (starEach es X.env)).any (·.1) = false)
    (ms : MonoA ws) (ha : PA X (e :: es) (tAr X.K xw cs ws)) : PE X (.Attribute (.Call (.Name x p) (e :: es) [] pos) f apos) (tX X.K xw (cs + m) fun ρ Q => ws ρ fun as b => b = false ∧ c as (gMf f nm Q)) := by
  refine PE.weak (pe_fld (f := f) (pos := apos) (pe_mkr (p := p) (pos := pos) cm hr hgd hk gl ha hd he hpl) rfl) fun σ H Q ⟨H0, B, pn, fr, ρ, Z, tb, ok, w⟩ => ?_
  refine ⟨H0, B, pn, fr, ρ, Z, (m + tb), ok.lt (by omega), ms _ _ _ (fun as b q vs H1 Z' s1 z1 z2 z3 z4 r1 => ?_) w⟩
  obtain ⟨rfl, q⟩ := q
  have zz : ∀ a, Z a → Z' a := z3 rfl
  have ok1 := ok.to s1
  intro C cl na o d ho hd' hdo
  have oz : ¬ Z o := fun z => ok1.zt o z ho
  have dz : ¬ Z d := fun z => ok1.zt d z hd'
  have S : Same H1 (upd (upd H1 d (.own o)) o (.ins C d [])) := fun b u e => by
    rw [upd_ne (fun z => by rw [z, ho] at e; cases e), upd_ne (fun z => by rw [z, hd'] at e; cases e)]; exact e
  have zo : ∀ b, Zp Z' o b → Z' b ∨ H1 b = none := fun b z => z.elim .inl fun e => .inr (by rw [e]; exact ho)
  have op : o ∉ pn := fun z => ok1.pnt o z ho
  refine ⟨o, d, C, vs, as, pn, Zp Z' o, tb, rfl, upd_same, cl, na, .inr rfl, op, r1.keep (fun b u _ e => S b u e) zo (fun a _ => (PenStep.same S).is), fun b z => z.elim (fun z => Same.there S b (ok1.zt b (z1 b z))) (fun e => by rw [e, upd_same]; exact (fun z => nomatch z)), fun a ha => ⟨.inl (z2 a ha), ?_⟩, (ok1.bd.same ok1.pnt S), hC _ _ _ (fun fs q H' dx' C' fvs st ax cl' na' fo => ?_) q⟩
  · exact (ok1.pz a ha).2.move (.same S) (fun b u _ e => S b u e) fun b z => z.elim (fun z => .inl (z1 b z)) fun e => .inr (by rw [e]; exact ho)
  · have s2 : HStep tb pn H1 H' := ⟨fun b u n e => st.keep b u n (fun z => by rw [List.mem_singleton.mp z, ho] at e; cases e) (S b u e), fun a ha => (PenStep.same S).trans (st.pen a ha), fun b h => st.there b (Same.there S b h), st.bd⟩
    refine ⟨rfl, ?_⟩
    unfold gMf at q
    obtain ⟨hf, q⟩ := q
    split at q
    · rename_i dv ef
      obtain ⟨v, ev, n⟩ := fo.1 f dv ef
      exact ⟨o, C', dx', fvs, v, rfl, ax, cl', na' f hf, ev, q v H' (s1.trans s2) (n.weak fun b z => .inl (zz b z))⟩
    · rename_i dv ef
      obtain ⟨b, eb, hb, n⟩ := fo.2 f dv ef
      have hb1 : H1 b = none := by
        cases e : H1 b with
        | none => rfl
        | some u => have := S b u e; rw [hb] at this; cases this
      refine ⟨o, C', dx', fvs, .ref b, rfl, ax, cl', na' f hf, eb, q _ H' (s1.trans s2) ⟨b, rfl, s1.free hb1, n.keep (fun _ _ _ e => e) (fun c z => z.elim (fun z => .inl (.inl (.inl (zz c z)))) fun z => .inl (.inr z)) fun _ e => e⟩⟩
    · exact q.elim
end
end Y

set_option exponentiation.threshold 500000
namespace M
open PySem PySem.Spec PyProof.Rows L2
/-! ### data: lists and tuples of ints, of tuples of ints -/
section
variable {K : PySem.W.Frag} {H H' : Hp}
theorem dpAll_ints : ∀ ns : List Int, DpAll K H (ns.map V.int) (ns.map PyData.int)
  | [] => .nil
  | n :: r => .cons (.int n) (dpAll_ints r)
theorem dp_ints {a : Addr} {ns : List Int} (h : SqL K H a (ns.map V.int)) : Dp K H (.ref a) (.list (ns.map PyData.int)) := .lst h (dpAll_ints ns)
theorem dp_intsT {a : Addr} {ns : List Int} (h : SqT K H a (ns.map V.int)) : Dp K H (.ref a) (.tuple (ns.map PyData.int)) := .tup h (dpAll_ints ns)
theorem dp_nil {a : Addr} (h : H a = some (.lst [])) : Dp K H (.ref a) (.list []) := .lst (.inl (.inl h)) .nil
theorem dp_nilT {a : Addr} (h : H a = some (.tup [])) : Dp K H (.ref a) (.tuple []) := .tup (.inl (.inl h)) .nil
theorem Same.seqT {a : Addr} {xs : List V} (e : Same H H') (h : SqT K H a xs) : SqT K H' a xs := by
  rcases h with (h | ⟨o, h⟩) | h
  · exact .inl (.inl (e _ _ h))
  · exact .inl (.inr ⟨o, e _ _ h⟩)
  · exact .inr h
theorem But.seqT {d a : Addr} {xs : List V} (e : But d H H') (n : a ≠ d) (h : SqT K H a xs) : SqT K H' a xs := by
  rcases h with (h | ⟨o, h⟩) | h
  · exact .inl (.inl (e _ _ n h))
  · exact .inl (.inr ⟨o, e _ _ n h⟩)
  · exact .inr h
mutual
theorem Dp.same (e : Same H H') : ∀ (d : PyData) (v : V), Dp K H v d → Dp K H' v d
  | .none, _, h => by cases h; exact .non
  | .bool b, _, h => by cases h; exact .bl b
  | .int i, _, h => by cases h; exact .int i
  | .str x, _, h => by cases h; exact .str x
  | .list ds, _, h => by
    cases h with
    | lst s a => exact .lst (e.seq s) (DpAll.same e ds _ a)
  | .tuple ds, _, h => by
    cases h with
    | tup s a => exact .tup (Same.seqT e s) (DpAll.same e ds _ a)
  | .dict _, _, h => by cases h
theorem DpAll.same (e : Same H H') : ∀ (ds : List PyData) (vs : List V), DpAll K H vs ds → DpAll K H' vs ds
  | [], _, h => by cases h; exact .nil
  | d :: ds, _, h => by
    cases h with
    | cons a b => exact .cons (Dp.same e d _ a) (DpAll.same e ds _ b)
end
end
theorem eqv_int (i j : Int) : PyData.eqv (.int i) (.int j) = decide (i = j) := by
  simp only [PyData.eqv]
  exact Bool.eq_iff_iff.mpr (by simp)
theorem eqvAll_ints : ∀ ns ms : List Int, PyData.eqvAll (ns.map PyData.int) (ms.map PyData.int) = decide (ns = ms)
  | [], [] => by simp [PyData.eqvAll]
  | [], _ :: _ => by simp [PyData.eqvAll]
  | _ :: _, [] => by simp [PyData.eqvAll]
  | n :: r, m :: q => by
    simp only [List.map_cons, PyData.eqvAll, eqv_int, eqvAll_ints r q]
    exact Bool.eq_iff_iff.mpr (by simp)
theorem eqv_intsL (ns ms : List Int) : PyData.eqv (.list (ns.map PyData.int)) (.list (ms.map PyData.int)) = decide (ns = ms) := by
  simp only [PyData.eqv, eqvAll_ints]
theorem eqv_intsT (ns ms : List Int) : PyData.eqv (.tuple (ns.map PyData.int)) (.tuple (ms.map PyData.int)) = decide (ns = ms) := by
  simp only [PyData.eqv, eqvAll_ints]
theorem eqv_nilL (ds : List PyData) : PyData.eqv (.list ds) (.list []) = ds.isEmpty := by
  cases ds <;> simp [PyData.eqv, PyData.eqvAll]
theorem eqv_nilT (ds : List PyData) : PyData.eqv (.tuple ds) (.tuple []) = ds.isEmpty := by
  cases ds <;> simp [PyData.eqv, PyData.eqvAll]
theorem lay_ints : ∀ ns : List Int, PyData.canLayAll0 (ns.map PyData.int) = true
  | [] => rfl
  | n :: r => by simp [PyData.canLayAll0, PyData.canLay0, lay_ints r]
theorem depth_ints : ∀ ns : List Int, PyData.depthAll (ns.map PyData.int) = 0
  | [] => rfl
  | n :: r => by simp [PyData.depthAll, PyData.depth, depth_ints r]
theorem shaped_intsL (ns : List Int) : SeqAt.shaped (.list (ns.map PyData.int)) = true := by
  simp [SeqAt.shaped, PyData.canLay0, PyData.depth, lay_ints, depth_ints]
theorem shaped_intsT (ns : List Int) : SeqAt.shaped (.tuple (ns.map PyData.int)) = true := by
  simp [SeqAt.shaped, PyData.canLay0, PyData.depth, lay_ints, depth_ints]
theorem shaped_nilL : SeqAt.shaped (.list []) = true := shaped_intsL []
theorem shaped_nilT : SeqAt.shaped (.tuple []) = true := shaped_intsT []
end M
namespace Y
open PySem PySem.Spec PyProof.Rows L2 M
/-! ### the draws -/
def cDraw : Ct := fun as Q _ => ∃ n : Int, as = [.pen, .v (.int n)] ∧ 0 < n ∧ n < 1073741824 ∧ ∀ k : Int, 0 ≤ k → k < n → Q (.int k) .shr
theorem cDraw_mono : ∀ (as : List Ar) (Q Q' : VQ) (E E' : XQ), (∀ d k, Q d k → Q' d k) → (∀ e, E e → E' e) → cDraw as Q E → cDraw as Q' E' := by
  rintro as Q Q' E E' h _ ⟨n, e, h1, h2, q⟩
  exact ⟨n, e, h1, h2, fun k a b => h _ _ (q k a b)⟩
/-- what a draw's text is shown for -/
def spDr (K : PySem.W.Frag) : Sp := fun vs H Q _ => ∃ (d c : Addr) (size i r : Int) (ns : List Int), vs = [.ref d, .int size] ∧ H d = some (penO NX c i r) ∧ SqL K H c (ns.map V.int) ∧ c ≠ d ∧ 0 ≤ i ∧ 0 ≤ r ∧ i.natAbs < 2 ^ 400000 ∧ 0 < size ∧ size < 1073741824 ∧
  ∀ (v i' r' : Int) (H' : Hp), 0 ≤ v → v < size → 0 ≤ i' → i' ≤ i + 1 → 0 ≤ r' → But d H H' → H' d = some (penO NX c i' r') → Q (.int v) H'
theorem intsD_map : ∀ ns : List Int, intsD (ns.map PyData.int) = some ns
  | [] => rfl
  | n :: ns => by simp only [List.map_cons, intsD, intsD_map ns, Option.map_some]
theorem lim_nat {i : Int} (h0 : 0 ≤ i) (h : i < (LIM : Int)) : i.natAbs < 2 ^ 400000 := by
  have : i.natAbs < LIM := by omega
  exact this
theorem draw_of {mg : Str → Option Value} {K : PySem.W.Frag} : ∀ vs H Q E, spC mg cDraw 1 K vs H Q E → spDr K vs H Q E := by
  rintro vs H Q E ⟨as, pn, Z, tb, hA, zt, pz, bd, n, rfl, h1, h2, q⟩
  cases hA with
  | pen hd hip hA =>
    rename_i d vs
    cases hA with
    | v dn hA =>
      cases hA
      cases dn
      have hz := (pz d hd).1
      obtain ⟨c, i, r, ns, hi, hr, e, hn⟩ := (pz d hd).2.pen hip
      cases hn with
      | lst s l =>
        obtain ⟨nz, hc⟩ := s
        have ev := ints_vals l (intsD_map ns)
        subst ev
        have hl := bd.2 d hd c i r e
        refine ⟨d, c, n, i, r, ns, rfl, e, SqL.of hc, fun z => nz (by rw [z]; exact hz), hi, hr, lim_nat hi (by omega), h1, h2, fun v i' r' H' hv0 hv1 hi0 hi1 hr0 b e' => ?_⟩
        refine (q v hv0 hv1).2 (.int v) H' ⟨fun a o na ea => ?_, fun a ha => ?_, fun a ha => ?_, Nat.le_trans (by omega) bd.1, fun a ha c2 i2 r2 e2 => ?_⟩ (.int _)
        · exact b a o (fun z => na (by rw [z]; exact hd)) ea
        · by_cases z : d = a
          · subst z
            exact ⟨fun c2 i2 r2 g1 g2 e2 => (by rw [e] at e2; cases e2; exact ⟨i', r', hi0, hr0, e'⟩), fun _ => ⟨_, _, _, e'⟩, fun ⟨ps, e2, _⟩ => (by rw [e] at e2; cases e2)⟩
          · refine ⟨fun c2 i2 r2 g1 g2 e2 => ⟨i2, r2, g1, g2, b a _ (Ne.symm z) e2⟩, fun ⟨c2, i2, r2, e2⟩ => ⟨c2, i2, r2, b a _ (Ne.symm z) e2⟩, fun ⟨ps, g1, g2, g3⟩ => ⟨ps, b a _ (Ne.symm z) g1, g2, fun pos cv hc => ?_⟩⟩
            obtain ⟨c2, e1, e2⟩ := g3 pos cv hc
            exact ⟨c2, e1, b c2 _ (fun y => by rw [y, e] at e2; cases e2) e2⟩
        · by_cases z : d = a
          · subst z; rw [e']; exact fun z => nomatch z
          · cases q : H a with
            | none => exact absurd q ha
            | some o => rw [b a o (Ne.symm z) q]; exact fun z => nomatch z
        · by_cases z : d = a
          · subst z
            rw [e'] at e2
            cases e2
            omega
          · cases q : H a with
            | none => exact absurd q (zt a (pz a ha).1)
            | some o =>
              have := b a o (Ne.symm z) q
              rw [this] at e2
              cases e2
              have := bd.2 a ha _ _ _ q
              omega
theorem get_rest {H : Hp} {d c : Addr} {i r : Int} (h : H d = some (penO NX c i r)) : DGet H d (.str "rest") (some (.int r)) := DGet.k (k := .inr "rest") h
theorem get_cells {H : Hp} {d c : Addr} {i r : Int} (h : H d = some (penO NX c i r)) : DGet H d (.str "cells") (some (.ref c)) := DGet.k (k := .inr "cells") h
theorem get_index {H : Hp} {d c : Addr} {i r : Int} (h : H d = some (penO NX c i r)) : DGet H d (.str NX) (some (.int i)) := DGet.k (k := .inr NX) h
theorem put_rest {H : Hp} {d c : Addr} {i r z : Int} (h : H d = some (penO NX c i r)) : DPut H d (.str "rest") (.int z) (upd H d (penO NX c i z)) := DPut.k (k := .inr "rest") h (by show 3 < sizeLine; decide)
theorem put_index {H : Hp} {d c : Addr} {i r z : Int} (h : H d = some (penO NX c i r)) : DPut H d (.str NX) (.int z) (upd H d (penO NX c z r)) := DPut.k (k := .inr NX) h (by show 3 < sizeLine; decide)
theorem cut63 (ns : List Int) : cutV (ns.map V.int) none (some 63) = (ns.take 63).map V.int := by
  unfold cutV
  rw [HT.sIx_none, show HT.sIx (ns.map V.int).length (ns.map V.int).length (some 63) = min 63 (ns.map V.int).length from HT.sIx_nat _ _ 63, List.drop_zero, Nat.sub_zero, List.map_take]
  rcases Nat.le_total 63 (ns.map V.int).length with h | h
  · rw [Nat.min_eq_left h]
  · rw [Nat.min_eq_right h, List.take_of_length_le (Nat.le_refl _), List.take_of_length_le h]
theorem cell_at {ns : List Int} {i : Int} (hi : 0 ≤ i) (hne : ns ≠ []) : 0 < ((ns.map V.int).length : Int) ∧ ∃ z : Int, atI (ns.map V.int) (i % ((ns.map V.int).length : Int)) = some (V.int z) := by
  have h0 : 0 < ns.length := List.length_pos_iff.mpr hne
  have hl : (ns.map V.int).length = ns.length := List.length_map ..
  rw [hl]
  refine ⟨by omega, ?_⟩
  have h1 : 0 ≤ i % (ns.length : Int) := Int.emod_nonneg _ (by omega)
  have h2 : i % (ns.length : Int) < ns.length := Int.emod_lt_of_pos _ (by omega)
  obtain ⟨j, hj⟩ : ∃ j : Nat, i % (ns.length : Int) = (j : Int) := ⟨_, (Int.toNat_of_nonneg h1).symm⟩
  have hj2 : j < ns.length := by omega
  exact ⟨ns[j], by rw [hj]; exact atI_nat (by simp [hj2])⟩
theorem rng_some {lo : Int} {n i : Nat} {d : D} (h : (rng lo n)[i]? = some d) : i < n ∧ d = .int (lo + i) := by
  have hl : i < n := by
    have := (List.getElem?_eq_some_iff.mp h).1
    rwa [rng_len] at this
  rw [rng_get n i lo hl] at h
  exact ⟨hl, (Option.some.inj h).symm⟩
theorem shape_int (i : Int) : SeqAt.shaped (.int i) = true := rfl
theorem shape_bool (i : Bool) : SeqAt.shaped (.bool i) = true := rfl
theorem eqv_refl_int (i : Int) : PyData.eqv (.int i) (.int i) = true := by rw [eqv_int]; exact decide_eq_true rfl
end Y

namespace Y
open PySem PySem.Spec PyProof.Rows L2 M
/-! ### ints written -/
theorem shown_int (i : Int) : (PyData.int i).shown = Str.ofString (toString i) := rfl
theorem strOk_int (i : Int) : SeqAt.shaped (.str (PyData.int i).shown) = true := by
  have e : PyData.strOk (PyData.int i).shown = true := by
    unfold PyData.strOk
    rw [shown_int, Array.all_eq_true']
    intro c hc
    rw [Str.ofString_eq_toList] at hc
    simp only [List.mem_toArray, List.mem_map] at hc
    obtain ⟨x, hx, rfl⟩ := hc
    have := int_ascii i x hx
    exact decide_eq_true (by omega)
  simp [SeqAt.shaped, PyData.canLay0, PyData.depth, e]
theorem lim62 : (10 : Int) ^ 100 = 10 ^ 100 := rfl
/-- repr(i) for an int that is not too large -/
theorem repr_int_ok {i : Int} (h0 : 0 ≤ i) (h1 : i < 1000000000000000000000) : repD (PyData.int i) = true ∧ (PyData.int i).showable = true ∧ (PyData.int i).shown.length ≤ sizeLine ∧ (PyData.int i).depth ≤ 64 := by
  refine ⟨rfl, ?_, ?_, Nat.zero_le _⟩
  · have h2 : i.natAbs < 2 ^ 100 := Nat.lt_of_lt_of_le (show i.natAbs < 1000000000000000000000 by omega) (by decide)
    have := PySem.Flt.log2_lt_of (by decide) h2
    exact decide_eq_true (by omega)
  · rw [shown_int]
    have := toString_length_le h0 (k := 21) (by decide) h1
    exact Nat.le_trans this (by decide)
theorem ne_no {x y : Int} (e : x = y) : ¬ (!PyData.eqv (.int x) (.int y)) = true := by
  rw [e, eqv_refl_int]
  decide
theorem eqv_refl_str (x : Str) : PyData.eqv (.str x) (.str x) = true := by simp [PyData.eqv]
theorem ne_noS {x y : Str} (e : x = y) : ¬ (!PyData.eqv (.str x) (.str y)) = true := by
  rw [e, eqv_refl_str]
  decide
end Y

namespace Y
open PySem PySem.Spec PyProof.Rows L2 M
/-! ### sequences of ints written -/
theorem sok_append (a b : Str) : PyData.strOk (a ++ b) = (PyData.strOk a && PyData.strOk b) := by
  unfold PyData.strOk
  show (a.cps ++ b.cps).all _ = _
  exact Array.all_append
theorem sok_join {sep : Str} (hs : PyData.strOk sep = true) : ∀ ts : List Str, (∀ t ∈ ts, PyData.strOk t = true) → PyData.strOk (Str.join sep ts) = true
  | [], _ => by unfold Str.join; decide +kernel
  | [x], h => h x List.mem_cons_self
  | x :: y :: r, h => by
    show PyData.strOk (x ++ sep ++ Str.join sep (y :: r)) = true
    rw [sok_append, sok_append, h x List.mem_cons_self, hs, sok_join hs (y :: r) fun t ht => h t (List.mem_cons_of_mem _ ht)]
    rfl
theorem sok_from : ∀ (ts : List Str) (k : Nat) (acc : Str), PyData.strOk acc = true → (∀ t ∈ ts, PyData.strOk t = true) → PyData.strOk (textFrom k acc ts) = true
  | [], k, acc, h, _ => h
  | t :: r, k, acc, h, ht => by
    show PyData.strOk (textFrom (k + 1) (acc ++ (if k > 0 then ", " else "" : String) ++ t) r) = true
    refine sok_from r _ _ ?_ fun t ht' => ht t (List.mem_cons_of_mem _ ht')
    rw [sok_append, sok_append, h, ht t List.mem_cons_self]
    split <;> decide +kernel
theorem sok_list {ts : List Str} (h : ∀ t ∈ ts, PyData.strOk t = true) : PyData.strOk (listText ts) = true := by
  unfold listText
  rw [sok_append, sok_from ts 0 "[" (by decide +kernel) h]
  decide +kernel
theorem sok_tuple {ts : List Str} (h : ∀ t ∈ ts, PyData.strOk t = true) : PyData.strOk (tupleText ts) = true := by
  unfold tupleText
  rw [sok_append, sok_append, sok_join (by decide +kernel) ts h]
  split <;> decide +kernel
theorem sok_int (i : Int) : PyData.strOk (PyData.int i).shown = true := by
  have := strOk_int i
  simp only [SeqAt.shaped, PyData.canLay0, Bool.and_eq_true] at this
  exact this.1
theorem shape_of_sok {s : Str} (h : PyData.strOk s = true) : SeqAt.shaped (.str s) = true := by simp [SeqAt.shaped, PyData.canLay0, PyData.depth, h]
theorem shownAll_ints : ∀ l : List Int, PyData.shownAll (l.map PyData.int) = l.map fun i => (PyData.int i).shown
  | [] => rfl
  | i :: r => by simp only [List.map_cons, PyData.shownAll, shownAll_ints r]
theorem sok_intsT (l : List Int) : SeqAt.shaped (.str (PyData.tuple (l.map PyData.int)).shown) = true := by
  refine shape_of_sok ?_
  show PyData.strOk (tupleText (PyData.shownAll (l.map PyData.int))) = true
  rw [shownAll_ints]
  refine sok_tuple fun t ht => ?_
  obtain ⟨i, _, rfl⟩ := List.mem_map.mp ht
  exact sok_int i
theorem sok_intsL (l : List Int) : SeqAt.shaped (.str (PyData.list (l.map PyData.int)).shown) = true := by
  refine shape_of_sok ?_
  show PyData.strOk (listText (PyData.shownAll (l.map PyData.int))) = true
  rw [shownAll_ints]
  refine sok_list fun t ht => ?_
  obtain ⟨i, _, rfl⟩ := List.mem_map.mp ht
  exact sok_int i
def Small (l : List Int) : Prop := ∀ x ∈ l, 0 ≤ x ∧ x < 1000000000000000000000
theorem shown_sum : ∀ l : List Int, Small l → ((l.map fun i => (PyData.int i).shown).map (·.length)).sum ≤ 21 * l.length
  | [], _ => Nat.zero_le _
  | i :: r, h => by
    have h1 := shown_sum r fun x hx => h x (List.mem_cons_of_mem _ hx)
    obtain ⟨h2, h3⟩ := h i List.mem_cons_self
    have h4 := toString_length_le h2 (k := 21) (by decide) h3
    have h5 : (PyData.int i).shown.length ≤ 21 := h4
    simp only [List.map_cons, List.sum_cons, List.length_cons]
    omega
theorem showAll_ints : ∀ l : List Int, Small l → PyData.showableAll (l.map PyData.int) = true
  | [], _ => rfl
  | i :: r, h => by
    obtain ⟨h2, h3⟩ := h i List.mem_cons_self
    simp only [List.map_cons, PyData.showableAll, (repr_int_ok h2 h3).2.1, showAll_ints r fun x hx => h x (List.mem_cons_of_mem _ hx), Bool.and_self]
theorem noDict_ints : ∀ l : List Int, PyData.hasDictAll (l.map PyData.int) = false
  | [] => rfl
  | i :: r => by simp only [List.map_cons, PyData.hasDictAll, PyData.hasDict, noDict_ints r, Bool.or_self]
theorem repr_intsT {l : List Int} (h : Small l) (hl : l.length ≤ 100000) : repD (PyData.tuple (l.map PyData.int)) = true ∧ (PyData.tuple (l.map PyData.int)).showable = true ∧ (PyData.tuple (l.map PyData.int)).shown.length ≤ sizeLine ∧ (PyData.tuple (l.map PyData.int)).depth ≤ 64 := by
  refine ⟨repD_of (by simpa only [PyData.hasDict] using noDict_ints l), by simpa only [PyData.showable] using showAll_ints l h, ?_, ?_⟩
  · show (tupleText (PyData.shownAll (l.map PyData.int))).length ≤ sizeLine
    rw [shownAll_ints]
    refine Nat.le_trans (tupleText_len_le _) ?_
    have := shown_sum l h
    rw [List.length_map]
    have e : 2300003 ≤ sizeLine := by decide
    omega
  · simp only [PyData.depth, depth_ints]
    omega
theorem repr_intsL {l : List Int} (h : Small l) (hl : l.length ≤ 100000) : repD (PyData.list (l.map PyData.int)) = true ∧ (PyData.list (l.map PyData.int)).showable = true ∧ (PyData.list (l.map PyData.int)).shown.length ≤ sizeLine ∧ (PyData.list (l.map PyData.int)).depth ≤ 64 := by
  refine ⟨repD_of (by simpa only [PyData.hasDict] using noDict_ints l), by simpa only [PyData.showable] using showAll_ints l h, ?_, ?_⟩
  · show (listText (PyData.shownAll (l.map PyData.int))).length ≤ sizeLine
    rw [shownAll_ints]
    refine Nat.le_trans (listText_len_le _) ?_
    have := shown_sum l h
    rw [List.length_map]
    have e : 2300003 ≤ sizeLine := by decide
    omega
  · simp only [PyData.depth, depth_ints]
    omega
theorem ne_noT {l m : List Int} (e : l = m) : ¬ (!PyData.eqv (.tuple (l.map PyData.int)) (.tuple (m.map PyData.int))) = true := by
  rw [e, eqv_intsT]
  simp
end Y

namespace Y
open PySem PySem.Spec PyProof.Rows L2 M
/-! ### comprehensions by what each item gives -/
theorem wComp_filter {B : D → (Option D → Prop) → Prop} (f : D → Option D) : ∀ (ds acc : List D) (R : List D → Prop), (∀ d ∈ ds, ∀ S : Option D → Prop, S (f d) → B d S) → R (acc ++ ds.filterMap f) → wComp B ds acc R
  | [], acc, R, _, h => by simpa [wComp] using h
  | d :: ds, acc, R, hB, h => by
    refine hB d List.mem_cons_self _ ?_
    cases e : f d with
    | none =>
      refine wComp_filter f ds acc R (fun d hd => hB d (List.mem_cons_of_mem _ hd)) ?_
      simpa [List.filterMap_cons, e] using h
    | some r =>
      refine wComp_filter f ds (acc ++ [r]) R (fun d hd => hB d (List.mem_cons_of_mem _ hd)) ?_
      simpa [List.filterMap_cons, e] using h
theorem wComp_map {B : D → (Option D → Prop) → Prop} (f : D → D) (ds : List D) (R : List D → Prop) (hB : ∀ d ∈ ds, ∀ S : Option D → Prop, S (some (f d)) → B d S) (h : R (ds.map f)) : wComp B ds [] R := by
  refine wComp_filter (fun d => some (f d)) ds [] R (fun d hd S hS => hB d hd S hS) ?_
  have e : ds.filterMap (fun d => some (f d)) = ds.map f := by
    induction ds with
    | nil => rfl
    | cons d ds ih => simp
  rw [List.nil_append, e]
  exact h
theorem wComp_any {B : D → (Option D → Prop) → Prop} (P : D → Prop) : ∀ (ds acc : List D) (R : List D → Prop), (∀ d ∈ ds, ∀ S : Option D → Prop, (∀ r, P r → S (some r)) → B d S) → (∀ rs : List D, rs.length = ds.length → (∀ r ∈ rs, P r) → R (acc ++ rs)) → wComp B ds acc R
  | [], acc, R, _, h => by
    have := h [] rfl (fun _ z => nomatch z)
    simp only [List.append_nil] at this
    exact this
  | d :: ds, acc, R, hB, h => by
    refine hB d List.mem_cons_self _ fun r hr => ?_
    refine wComp_any P ds (acc ++ [r]) R (fun d hd => hB d (List.mem_cons_of_mem _ hd)) fun rs h1 h2 => ?_
    have := h (r :: rs) (by simp [h1]) fun x hx => (List.mem_cons.mp hx).elim (fun e => by rw [e]; exact hr) (h2 x)
    simpa using this
/-! ### texts as lists of signs -/
def S (l : List Nat) : Str := ⟨l.toArray⟩
theorem S_list (l : List Nat) : (S l).cps.toList = l := rfl
theorem S_of (z : Str) : S z.cps.toList = z := by cases z; simp [S]
theorem S_len (l : List Nat) : (S l).length = l.length := by simp [S, Str.length]
theorem S_app (a b : List Nat) : S a ++ S b = S (a ++ b) := by
  show (⟨a.toArray ++ b.toArray⟩ : Str) = _
  simp [S]
def sg (c : Nat) : D := .str (S [c])
theorem sg_def (c : Nat) : sg c = .str ⟨#[c]⟩ := rfl
theorem strsD_sg : ∀ l : List Nat, strsD (l.map sg) = some (l.map fun c => S [c])
  | [] => rfl
  | c :: r => by
    show (strsD (r.map sg)).map _ = _
    rw [strsD_sg r]
    rfl
theorem glued_two (sep x y : Str) (r : List Str) : Builtin.Str.glued sep (x :: y :: r) = x ++ sep ++ Builtin.Str.glued sep (y :: r) := by
  rw [StrLaws.glued_eq_join, StrLaws.glued_eq_join]
  rfl
theorem join_sg : ∀ l : List Nat, Txt.join (S []) (l.map fun c => S [c]) = S l := by
  intro l
  have e : ∀ l : List Nat, Txt.join (S []) (l.map fun c => S [c]) = S l := fun l => by
    induction l with
    | nil => rfl
    | cons c r ih =>
      cases r with
      | nil => rfl
      | cons c2 r2 =>
        have e : Txt.join (S []) ((c :: c2 :: r2).map fun c => S [c]) = S [c] ++ S [] ++ Txt.join (S []) ((c2 :: r2).map fun c => S [c]) := by
          simp only [List.map_cons, Txt.join]
          exact glued_two _ _ _ _
        rw [e, ih, S_app, S_app]
        rfl
  exact e l
theorem sum_sg : ∀ l : List Nat, ((l.map fun c => S [c]).map Str.length).sum = l.length
  | [] => rfl
  | c :: r => by
    simp only [List.map_cons, List.sum_cons, List.length_cons, sum_sg r]
    show 1 + r.length = r.length + 1
    omega
end Y

/-! W5: the wishes, opened by simp. -/
namespace Y
open PySem PySem.Spec PyProof.Rows L2 M
section
variable {E : XQ} {ρ : En} {Q : VQ} {T : Bool → Prop} {L : List D → Prop} {a b c : Wx} {t u : Wt} {s : Wl} {r : Wa} {P : Pq} {i j : Nat} {d e : D} {n m : Int} {x y : Str} {l l' : List Nat} {ds es : List D}
@[simp] theorem Rz_some {c : Prop} {k : Kd} : Rz.to (some (c, d, k)) Q = (c ∧ Q d k) := rfl
@[simp] theorem Rz_none : Rz.to none Q = False := rfl
@[simp] theorem run_con : (wCon d).run E ρ Q = Q d .shr := rfl
@[simp] theorem run_var : (wVar i).run E ρ Q = gVar ρ i Q := rfl
@[simp] theorem run_bor : (wBor i).run E ρ Q = gBor ρ i Q := rfl
@[simp] theorem run_lenS : (wLenS i).run E ρ Q = gLen ρ i Q := rfl
@[simp] theorem run_bin {o : Operator} : (wBin o a b).run E ρ Q = a.run E ρ fun x _ => b.run E ρ fun y _ => (Y.bin o x y).to Q := rfl
@[simp] theorem run_cmp {o : CmpOp} : (wCmp o a b).run E ρ Q = a.run E ρ fun x _ => b.run E ρ fun y _ => (cmpR o x y).to Q := rfl
@[simp] theorem run_ix : (wIx a b).run E ρ Q = a.run E ρ fun x _ => b.run E ρ fun y _ => (ixD x y).to Q := rfl
@[simp] theorem run_neg : (wNeg a).run E ρ Q = a.run E ρ fun x _ => gNeg x Q := rfl
@[simp] theorem run_nt : (wNt a).run E ρ Q = a.run E ρ fun x _ => gNt x Q := rfl
@[simp] theorem run_chn {o o' : CmpOp} : (wChn o o' a b c).run E ρ Q = a.run E ρ fun x _ => b.run E ρ fun y _ => gChn (cmpD o x y) (c.run E ρ fun z _ => (cmpR o' y z).to Q) (Q (.bool false) .shr) := rfl
@[simp] theorem run_and : (wAnd a b).run E ρ Q = a.run E ρ fun x _ => gAnd x (b.run E ρ Q) Q := rfl
@[simp] theorem run_or : (wOr a b).run E ρ Q = a.run E ρ fun x _ => gOr x (b.run E ρ Q) Q := rfl
@[simp] theorem run_ite : (wIte t a b).run E ρ Q = t.run E ρ fun c => (c = true → a.run E ρ Q) ∧ (c = false → b.run E ρ Q) := rfl
@[simp] theorem lnil_tr : lNil.tr.run E ρ L = L [] := rfl
@[simp] theorem lnil_fl : lNil.fl.run E ρ L = L [] := rfl
@[simp] theorem lcons_tr : (lCons a s).tr.run E ρ L = a.run E ρ fun x k => k ≠ .bor ∧ s.tr.run E ρ fun xs => L (x :: xs) := rfl
@[simp] theorem lcons_fl : (lCons a s).fl.run E ρ L = a.run E ρ fun x _ => s.fl.run E ρ fun xs => L (x :: xs) := rfl
@[simp] theorem run_tup : (wTup s).run E ρ Q = s.tr.run E ρ fun ds => Q (.tuple ds) .shr := rfl
@[simp] theorem run_lst : (wLst s).run E ρ Q = s.tr.run E ρ fun ds => Q (.list ds) .own := rfl
@[simp] theorem run_anil {R : List Ar → Bool → Prop} : aNil.run E ρ R = R [] false := rfl
@[simp] theorem run_aex {R : List Ar → Bool → Prop} : (aEx a r).run E ρ R = a.run E ρ fun x k => k ≠ .bor ∧ r.run E ρ fun xs c => R (.v x :: xs) c := rfl
@[simp] theorem run_asl {R : List Ar → Bool → Prop} : (aSl i r).run E ρ R = gSl ρ[i]? fun a b => r.run E ρ fun xs c => R (a :: xs) (b || c) := rfl
@[simp] theorem run_call {CC : Cts} {f : Str} {m : Nat} : (wCall CC f m r).run E ρ Q = r.run E ρ fun as b => CC.C f as (fun d k => (b = true → scal d = true) ∧ k.nb ∧ Q d k) E := rfl
@[simp] theorem run_callK {CC : Cts} {f : Str} {m : Nat} {a b e : Wx} {E : XQ} {ρ : En} {Q : VQ} : (wCallK CC f m a b e).run E ρ Q = a.run E ρ fun x k => k ≠ .bor ∧ b.run E ρ fun y k => k ≠ .bor ∧ e.run E ρ fun z k => k ≠ .bor ∧ CC.C f [.v x, .v y, .v z] (fun d k => (false = true → scal d = true) ∧ k.nb ∧ Q d k) E := rfl
@[simp] theorem run_bt {b : Bt} : (wBt b s).run E ρ Q = s.fl.run E ρ fun ds => (btD b ds).to Q := rfl
@[simp] theorem run_isi {t : String} : (wIsi t a).run E ρ Q = a.run E ρ fun x _ => (btD (.isi t) [x]).to Q := rfl
@[simp] theorem run_mt {m : Mt} : (wMt m a b).run E ρ Q = a.run E ρ fun x _ => recvB m x = true ∧ b.run E ρ fun y _ => (mtD m x [y]).to Q := rfl
@[simp] theorem run_ono {R : Option Int → Prop} : oNo.run E ρ R = R none := rfl
@[simp] theorem run_oso {R : Option Int → Prop} : (oSo a).run E ρ R = a.run E ρ fun x _ => gI x fun i => R (some i) := rfl
@[simp] theorem run_sl {lo hi : Wo} : (wSl a lo hi).run E ρ Q = a.run E ρ fun x _ => lo.run E ρ fun l => hi.run E ρ fun h => (slD x l h).to Q := rfl
@[simp] theorem run_rev : (wRev a).run E ρ Q = a.run E ρ fun x _ => gRev x Q := rfl
@[simp] theorem run_lrg1 : (wLrg1 a).run E ρ Q = a.run E ρ fun x _ => gLrg1 x Q := rfl
@[simp] theorem run_lrg : (wLrg a b).run E ρ Q = a.run E ρ fun x _ => b.run E ρ fun y _ => gLrg x y Q := rfl
@[simp] theorem run_tof : (tOf a).run E ρ T = a.run E ρ fun x _ => truT x T := rfl
@[simp] theorem run_tnt : (tNt t).run E ρ T = t.run E ρ fun b => T (!b) := rfl
@[simp] theorem run_tan : (tAn t u).run E ρ T = t.run E ρ fun c => (c = true → u.run E ρ T) ∧ (c = false → T false) := rfl
@[simp] theorem run_tor : (tOr t u).run E ρ T = t.run E ρ fun c => (c = true → T true) ∧ (c = false → u.run E ρ T) := rfl
@[simp] theorem run_tyes : tYes.run E ρ T = T true := rfl
@[simp] theorem run_iov : (iOv a).run E ρ L = a.run E ρ fun x _ => gIt x L := rfl
@[simp] theorem run_ien : (iEn a).run E ρ L = a.run E ρ fun x _ => gEn x L := rfl
@[simp] theorem run_ir1 : (iR1 a).run E ρ L = a.run E ρ fun x _ => gRg1 x L := rfl
@[simp] theorem run_ir2 : (iR2 a b).run E ρ L = a.run E ρ fun x _ => b.run E ρ fun y _ => gRg2 x y L := rfl
@[simp] theorem run_co {t : Tg} {it : Wi} {c : Wt} : (wCo a t it c).run E ρ Q = it.run E ρ fun ds => ds.length ≤ sizeLine ∧ wComp (gCo t ρ c a) ds [] fun rs => Q (.list rs) .own := rfl
/-! statements -/
variable {s1 s2 : Ws} {is : List Nat} {g : Tg} {it : Wi}
@[simp] theorem run_wBE {N : List Str} {as : List Ar} : wBE s1 N as Q E = s1.run (ini N as) ⟨fun _ => Q .none .shr, Q, fun _ => False, fun _ => False, E⟩ := rfl
@[simp] theorem run_wB {N : List Str} {as : List Ar} : wB s1 N as Q = s1.run (ini N as) ⟨fun _ => Q .none .shr, Q, fun _ => False, fun _ => False, XF⟩ := rfl
@[simp] theorem run_snil : sNil.run ρ P = P.nx ρ := rfl
@[simp] theorem run_scons : (sCons s1 s2).run ρ P = s1.run ρ { P with nx := fun ρ' => s2.run ρ' P } := rfl
@[simp] theorem run_sset : (sSet is i a).run ρ P = a.run P.ex (dem ρ is) fun d k => k ≠ .bor ∧ P.nx ((dem ρ is).set i (slK d k)) := rfl
@[simp] theorem run_stset : (sTset is g a).run ρ P = a.run P.ex (dem ρ is) fun d k => k ≠ .bor ∧ match setTg g d (dem ρ is) with | some ρ' => P.nx ρ' | none => False := rfl
@[simp] theorem run_spar : (sPar is i j a b).run ρ P = a.run P.ex (dem ρ is) fun d k => b.run P.ex (dem ρ is) fun e k' => k ≠ .bor ∧ k' ≠ .bor ∧ P.nx (((dem ρ is).set i (slK d k)).set j (slK e k')) := rfl
@[simp] theorem run_spar3 {l : Nat} : (sPar3 is i j l a b c).run ρ P = a.run P.ex (dem ρ is) fun d k => b.run P.ex (dem ρ is) fun e k' => c.run P.ex (dem ρ is) fun f k2 => k ≠ .bor ∧ k' ≠ .bor ∧ k2 ≠ .bor ∧ P.nx ((((dem ρ is).set i (slK d k)).set j (slK e k')).set l (slK f k2)) := rfl
@[simp] theorem run_saug {o : Operator} : (sAug is i o a).run ρ P = gAug (dem ρ is)[i]? o fun g x => a.run P.ex (dem ρ is) fun d _ => (g x d).to fun r _ => scal r = true ∧ P.nx ((dem ρ is).set i (.val r)) := rfl
@[simp] theorem run_sret : (sRet is a).run ρ P = a.run P.ex (dem ρ is) fun d k => k ≠ .bor ∧ P.rt d k := rfl
@[simp] theorem run_sretv : (sRetv i).run ρ P = gRetv ρ[i]? P.rt := rfl
@[simp] theorem run_sretn : sRetn.run ρ P = P.rt .none .shr := rfl
@[simp] theorem run_sexpr : (sExpr a).run ρ P = a.run P.ex ρ fun _ _ => P.nx ρ := rfl
@[simp] theorem run_sapp : (sApp is i a).run ρ P = gOl (dem ρ is)[i]? fun ds => a.run P.ex (dem ρ is) fun d k => k ≠ .bor ∧ ds.length < sizeLine ∧ P.nx ((dem ρ is).set i (.own (.list (ds ++ [d])))) := rfl
@[simp] theorem run_sext : (sExt is i a).run ρ P = gOl (dem ρ is)[i]? fun ds => a.run P.ex (dem ρ is) fun d _ => gLi d fun es => ds.length + es.length ≤ sizeLine ∧ P.nx ((dem ρ is).set i (.own (.list (ds ++ es)))) := rfl
@[simp] theorem run_sseti : (sSeti is i b a).run ρ P = gOl (dem ρ is)[i]? fun ds => a.run P.ex (dem ρ is) fun d kd => kd ≠ .bor ∧ b.run P.ex (dem ρ is) fun kx _ => gSi kx ds.length fun j => P.nx ((dem ρ is).set i (.own (.list (ds.set j d)))) := rfl
@[simp] theorem run_sif : (sIf t s1 s2).run ρ P = t.run P.ex ρ fun c => (c = true → s1.run ρ P) ∧ (c = false → s2.run ρ P) := rfl
@[simp] theorem run_sfor : (sFor is g it s1).run ρ P = it.run P.ex (dem ρ is) fun ds => ds.length ≤ LOOPN ∧ wFor g s1.run ds (dem ρ is) P := rfl
@[simp] theorem run_swhile : (sWhile t s1).run ρ P = wWhile (t.run P.ex) s1.run ρ P := rfl
@[simp] theorem run_sbrk : sBrk.run ρ P = P.bk ρ := rfl
@[simp] theorem run_scnt : sCnt.run ρ P = P.ct ρ := rfl
@[simp] theorem run_snever : sNever.run ρ P = False := rfl
@[simp] theorem run_smk : (sMk i j).run ρ P = gMk ρ[j]? (P.nx (ρ.set i .pen)) := rfl
/-! slots -/
@[simp] theorem gVar_0 {r : En} : gVar (Sl.val d :: r) 0 Q = Q d .shr := rfl
@[simp] theorem gVar_s {s : Sl} {r : En} : gVar (s :: r) (i + 1) Q = gVar r i Q := rfl
@[simp] theorem gBor_0 {r : En} : gBor (Sl.val d :: r) 0 Q = Q d .shr := rfl
@[simp] theorem gBor_0o {r : En} : gBor (Sl.own d :: r) 0 Q = Q d .bor := rfl
@[simp] theorem gBor_s {s : Sl} {r : En} : gBor (s :: r) (i + 1) Q = gBor r i Q := rfl
@[simp] theorem gLen_0 {n : Nat} {r : En} : gLen (Sl.scr n :: r) 0 Q = Q (.int n) .shr := rfl
@[simp] theorem gLen_s {s : Sl} {r : En} : gLen (s :: r) (i + 1) Q = gLen r i Q := rfl
@[simp] theorem gSl_v {R : Ar → Bool → Prop} : gSl (some (.val d)) R = R (.v d) false := rfl
@[simp] theorem gSl_o {R : Ar → Bool → Prop} : gSl (some (.own d)) R = R (.v d) true := rfl
@[simp] theorem gSl_p {R : Ar → Bool → Prop} : gSl (some .pen) R = R .pen false := rfl
@[simp] theorem gSl_s {n : Nat} {R : Ar → Bool → Prop} : gSl (some (.scr n)) R = R (.scr n) false := rfl
@[simp] theorem gSl_g {g : Gv} {R : Ar → Bool → Prop} : gSl (some (.gen g)) R = R (.gen g) false := rfl
@[simp] theorem dem_nil : dem ρ [] = ρ := rfl
@[simp] theorem dem_cons : dem ρ (i :: is) = dem (ρ.set i (dem1 (ρ.getD i .emp))) is := rfl
@[simp] theorem dem1_own : dem1 (.own d) = .val d := rfl
@[simp] theorem dem1_val : dem1 (.val d) = .val d := rfl
@[simp] theorem dem1_emp : dem1 .emp = .emp := rfl
@[simp] theorem dem1_pen : dem1 .pen = .pen := rfl
@[simp] theorem dem1_scr {n : Nat} : dem1 (.scr n) = .scr n := rfl
@[simp] theorem dem1_gen {g : Gv} : dem1 (.gen g) = .gen g := rfl
@[simp] theorem dem1_exc {e : Exc} : dem1 (.exc e) = .exc e := rfl
@[simp] theorem slK_s : slK d .shr = .val d := rfl
@[simp] theorem slK_o : slK d .own = .own d := rfl
@[simp] theorem nb_s : Kd.nb .shr = True := rfl
@[simp] theorem nb_o : Kd.nb .own = True := rfl
@[simp] theorem setTg_nm : setTg (.nm i) d ρ = some (ρ.set i (.val d)) := by simp only [setTg]
@[simp] theorem setTg_tp {ts : Tgs} : setTg (.tp ts) (.tuple ds) ρ = setTgs ts ds ρ := by simp only [setTg]
@[simp] theorem setTg_tpl {ts : Tgs} : setTg (.tp ts) (.list ds) ρ = setTgs ts ds ρ := by simp only [setTg]
@[simp] theorem setTgs_nil : setTgs .nil [] ρ = some ρ := by simp only [setTgs]
@[simp] theorem setTgs_cons {g : Tg} {ts : Tgs} : setTgs (.cons g ts) (d :: ds) ρ = match setTg g d ρ with | some ρ' => setTgs ts ds ρ' | none => none := by simp only [setTgs] <;> rfl
@[simp] theorem ixs_nm : Tg.ixs (.nm i) = [i] := by simp only [Tg.ixs]
@[simp] theorem ixs_tp {ts : Tgs} : Tg.ixs (.tp ts) = ts.ixs := by simp only [Tg.ixs]
@[simp] theorem ixs_nil : Tgs.ixs .nil = [] := by simp only [Tgs.ixs]
@[simp] theorem ixs_cons {g : Tg} {ts : Tgs} : Tgs.ixs (.cons g ts) = g.ixs ++ ts.ixs := by simp only [Tgs.ixs]
@[simp] theorem wipe_nil : wipeE ρ [] = ρ := rfl
@[simp] theorem wipe_cons : wipeE ρ (i :: is) = (wipeE ρ is).set i .emp := rfl
@[simp] theorem gRetv_v {R : VQ} : gRetv (some (.val d)) R = R d .shr := rfl
@[simp] theorem gRetv_o {R : VQ} : gRetv (some (.own d)) R = R d .own := rfl
@[simp] theorem gRetv_g {g : Gv} {R : VQ} : gRetv (some (.gen g)) R = R .none (.gen g) := rfl
@[simp] theorem gOl_o {R : List D → Prop} : gOl (some (.own (.list ds))) R = R ds := rfl
@[simp] theorem gLi_l {R : List D → Prop} : gLi (.list ds) R = R ds := rfl
@[simp] theorem gMk_s {n : Nat} {A : Prop} : gMk (some (.scr n)) A = A := rfl
@[simp] theorem gAug_v {o : Operator} {R : (D → D → Rz) → D → Prop} : gAug (some (.val d)) o R = (scal d = true ∧ R (Y.bin o) d) := rfl
@[simp] theorem gI_i {R : Int → Prop} : gI (.int n) R = R n := rfl
@[simp] theorem ini_def {N : List Str} {as : List Ar} : ini N as = as.map slA ++ List.replicate (N.length - as.length) .emp := rfl
@[simp] theorem slA_v : slA (.v d) = .val d := rfl
@[simp] theorem slA_p : slA .pen = .pen := rfl
@[simp] theorem slA_s {n : Nat} : slA (.scr n) = .scr n := rfl
@[simp] theorem slA_g {g : Gv} : slA (.gen g) = .gen g := rfl
/-! operations -/
@[simp] theorem scal_n : scal .none = true := rfl
@[simp] theorem scal_b {b : Bool} : scal (.bool b) = true := rfl
@[simp] theorem scal_i : scal (.int n) = true := rfl
@[simp] theorem scal_s : scal (.str x) = true := rfl
@[simp] theorem bin_add : Y.bin .Add (.int n) (.int m) = some (True, .int (n + m), .shr) := rfl
@[simp] theorem bin_sub : Y.bin .Sub (.int n) (.int m) = some (True, .int (n - m), .shr) := rfl
@[simp] theorem bin_mul : Y.bin .Mult (.int n) (.int m) = some (CMul n m, .int (n * m), .shr) := rfl
@[simp] theorem bin_fdv : Y.bin .FloorDiv (.int n) (.int m) = some (0 < m ∧ m < 1073741824, .int (n / m), .shr) := rfl
@[simp] theorem bin_mod : Y.bin .Mod (.int n) (.int m) = some (0 < m, .int (n % m), .shr) := rfl
@[simp] theorem bin_pow : Y.bin .Pow (.int n) (.int m) = some (0 ≤ m ∧ m ≤ 1000000 ∧ n.natAbs < 2 ^ 64, .int (n ^ m.toNat), .shr) := rfl
@[simp] theorem bin_adds : Y.bin .Add (.str x) (.str y) = some (x.length + y.length ≤ sizeLine, .str (x ++ y), .shr) := rfl
@[simp] theorem bin_addl : Y.bin .Add (.list ds) (.list es) = some (ds.length + es.length ≤ sizeLine, .list (ds ++ es), .own) := rfl
@[simp] theorem bin_addt : Y.bin .Add (.tuple ds) (.tuple es) = some (ds.length + es.length ≤ sizeLine, .tuple (ds ++ es), .shr) := rfl
@[simp] theorem bin_mult : Y.bin .Mult (.tuple ds) (.int m) = some (-(2 ^ 63) ≤ m ∧ m ≤ 100000 ∧ ds.length ≤ 100000 ∧ ds.length * m.toNat ≤ 1000000, .tuple (List.replicate m.toNat ds).flatten, .shr) := rfl
@[simp] theorem bin_mull : Y.bin .Mult (.list ds) (.int m) = some (-(2 ^ 63) ≤ m ∧ m < 2 ^ 63 ∧ ds.length * m.toNat ≤ sizeLine, .list (List.replicate m.toNat ds).flatten, .own) := rfl
@[simp] theorem cmp_eq : cmpR .Eq d e = some (SeqAt.shaped d = true ∧ SeqAt.shaped e = true, .bool (PyData.eqv d e), .shr) := rfl
@[simp] theorem cmp_ne : cmpR .NotEq d e = some (SeqAt.shaped d = true ∧ SeqAt.shaped e = true, .bool (!PyData.eqv d e), .shr) := rfl
@[simp] theorem cmp_lt : cmpR .Lt (.int n) (.int m) = some (True, .bool (decide (n < m)), .shr) := rfl
@[simp] theorem cmp_le : cmpR .LtE (.int n) (.int m) = some (True, .bool (decide (n ≤ m)), .shr) := rfl
@[simp] theorem cmp_gt : cmpR .Gt (.int n) (.int m) = some (True, .bool (decide (m < n)), .shr) := rfl
@[simp] theorem cmp_ge : cmpR .GtE (.int n) (.int m) = some (True, .bool (decide (m ≤ n)), .shr) := rfl
@[simp] theorem cmp_is : cmpR .Is d .none = some (True, .bool (noneD d), .shr) := by cases d <;> rfl
@[simp] theorem cmp_isn : cmpR .IsNot d .none = some (True, .bool (!noneD d), .shr) := by cases d <;> rfl
@[simp] theorem cmp_ins : cmpR .In (.str (S [i])) (.str (S l)) = some (True, .bool (decide (i ∈ l)), .shr) := by
  show some ((1 : Nat) = 1, _, _) = _
  simp only [eq_self_iff_true]
  rfl
@[simp] theorem cmp_nins : cmpR .NotIn (.str (S [i])) (.str (S l)) = some (True, .bool (!decide (i ∈ l)), .shr) := by
  show some ((1 : Nat) = 1, _, _) = _
  simp only [eq_self_iff_true]
  rfl
@[simp] theorem cmp_inl : cmpR .In d (.list ds) = some (SeqAt.shaped d = true ∧ SeqAt.shaped (.list ds) = true, .bool (ds.any fun z => PyData.eqv z d), .shr) := by cases d <;> rfl
@[simp] theorem cmp_ninl : cmpR .NotIn d (.list ds) = some (SeqAt.shaped d = true ∧ SeqAt.shaped (.list ds) = true, .bool (!ds.any fun z => PyData.eqv z d), .shr) := by cases d <;> rfl
@[simp] theorem cmp_int : cmpR .In d (.tuple ds) = some (scal d = true ∧ ds.all scal = true, .bool (ds.any fun z => PyData.eqv z d), .shr) := by cases d <;> rfl
@[simp] theorem cmp_nint : cmpR .NotIn d (.tuple ds) = some (scal d = true ∧ ds.all scal = true, .bool (!ds.any fun z => PyData.eqv z d), .shr) := by cases d <;> rfl
@[simp] theorem chn_lt {A B : Prop} : gChn (cmpD .Lt (.int n) (.int m)) A B = ((n < m → A) ∧ (¬ n < m → B)) := by simp [gChn, cmpD]
@[simp] theorem chn_le {A B : Prop} : gChn (cmpD .LtE (.int n) (.int m)) A B = ((n ≤ m → A) ∧ (¬ n ≤ m → B)) := by simp [gChn, cmpD]
@[simp] theorem chn_eq {A B : Prop} : gChn (cmpD .Eq d e) A B = ((SeqAt.shaped d = true ∧ SeqAt.shaped e = true) ∧ (PyData.eqv d e = true → A) ∧ (PyData.eqv d e = false → B)) := rfl
@[simp] theorem gNeg_i : gNeg (.int n) Q = Q (.int (-n)) .shr := rfl
@[simp] theorem gNt_b {b : Bool} : gNt (.bool b) Q = Q (.bool !b) .shr := rfl
@[simp] theorem gAnd_b {b : Bool} {A : Prop} : gAnd (.bool b) A Q = ((b = true → A) ∧ (b = false → Q (.bool false) .shr)) := rfl
@[simp] theorem gOr_b {b : Bool} {A : Prop} : gOr (.bool b) A Q = ((b = true → Q (.bool true) .shr) ∧ (b = false → A)) := rfl
@[simp] theorem tru_n : truT .none T = T false := by simp [truT, truD]
@[simp] theorem tru_b {b : Bool} : truT (.bool b) T = T b := by simp [truT, truD]
@[simp] theorem tru_i : truT (.int n) T = T (n != 0) := by simp [truT, truD]
@[simp] theorem tru_s : truT (.str x) T = (x.length ≤ sizeLine ∧ T ((x.length : Int) != 0)) := rfl
@[simp] theorem tru_l : truT (.list ds) T = T !ds.isEmpty := by simp [truT, truD]
@[simp] theorem tru_t : truT (.tuple ds) T = T !ds.isEmpty := by simp [truT, truD]
@[simp] theorem gIt_l : gIt (.list ds) L = L ds := rfl
@[simp] theorem gIt_t : gIt (.tuple ds) L = L ds := rfl
@[simp] theorem gIt_s : gIt (.str (S l)) L = L (l.map sg) := rfl
@[simp] theorem gEn_l : gEn (.list ds) L = L (enumL ds) := rfl
@[simp] theorem gEn_t : gEn (.tuple ds) L = L (enumL ds) := rfl
@[simp] theorem gEn_s : gEn (.str (S l)) L = L (enumL (l.map sg)) := rfl
@[simp] theorem gRg1_i : gRg1 (.int n) L = ((-(2 ^ 62) ≤ n ∧ n < 2 ^ 62) ∧ L (rng 0 n.toNat)) := rfl
@[simp] theorem gRg2_i : gRg2 (.int n) (.int m) L = ((-(2 ^ 62) ≤ n ∧ n < 2 ^ 62 ∧ -(2 ^ 62) ≤ m ∧ m < 2 ^ 62) ∧ L (rng n (m - n).toNat)) := rfl
@[simp] theorem gRev_l : gRev (.list ds) Q = Q (.list ds.reverse) .own := rfl
@[simp] theorem gRev_s : gRev (.str (S l)) Q = (l.length ≤ sizeLine ∧ Q (.str (S l.reverse)) .shr) := by
  show (_ ∧ _) = _
  rw [S_len]
  rfl
@[simp] theorem gLrg1_i : gLrg1 (.int n) Q = (RgC 0 n ∧ Q (.list (rng 0 (n - 0).toNat)) .own) := rfl
@[simp] theorem gLrg_i : gLrg (.int n) (.int m) Q = (RgC n m ∧ Q (.list (rng n (m - n).toNat)) .own) := rfl
@[simp] theorem bt_lens : btD .len [.str (S l)] = some (l.length ≤ sizeLine, .int l.length, .shr) := by
  show some ((S l).length ≤ sizeLine, PyData.int ((S l).length : Nat), _) = _
  rw [S_len]
@[simp] theorem bt_lenl : btD .len [.list ds] = some (True, .int ds.length, .shr) := rfl
@[simp] theorem bt_lent : btD .len [.tuple ds] = some (True, .int ds.length, .shr) := rfl
@[simp] theorem bt_abs : btD .abs [.int n] = some (True, .int (if n < 0 then -n else n), .shr) := rfl
@[simp] theorem bt_min : btD .min2 [.int n, .int m] = some (True, .int (if m < n then m else n), .shr) := rfl
@[simp] theorem bt_max : btD .max2 [.int n, .int m] = some (True, .int (if m > n then m else n), .shr) := rfl
@[simp] theorem bt_sum {ns : List Int} : btD .sum [.list (ns.map .int)] = some (True, .int ns.sum, .shr) := by simp [btD, intsD_map]
@[simp] theorem bt_max1 {ns : List Int} : btD .max1 [.list (ns.map .int)] = ns.max?.map fun m => (True, .int m, .shr) := by simp [btD, intsD_map]
@[simp] theorem bt_min1 {ns : List Int} : btD .min1 [.list (ns.map .int)] = ns.min?.map fun m => (True, .int m, .shr) := by simp [btD, intsD_map]
@[simp] theorem bt_isi {t : String} : btD (.isi t) [d] = some (t ∈ kindsD, .bool (isiD t d), .shr) := by cases d <;> rfl
@[simp] theorem bt_repr : btD .repr [d] = some (repD d = true ∧ d.showable = true ∧ d.shown.length ≤ sizeLine ∧ d.depth ≤ 64, .str d.shown, .shr) := by cases d <;> rfl
@[simp] theorem bt_inti : btD .int [.int n] = some (True, .int n, .shr) := rfl
@[simp] theorem bt_intb {b : Bool} : btD .int [.bool b] = some (True, .int (if b then 1 else 0), .shr) := rfl
@[simp] theorem bt_ints : btD .int [.str x] = (PySem.intText? x).map fun n => (x.length ≤ 640, .int n, .shr) := rfl
@[simp] theorem bt_str : btD .str [.int n] = some (n.natAbs.log2 < 1920, .str (toString n), .shr) := rfl
@[simp] theorem bt_ll : btD .list [.list ds] = some (True, .list ds, .own) := rfl
@[simp] theorem bt_lt : btD .list [.tuple ds] = some (True, .list ds, .own) := rfl
@[simp] theorem bt_lS : btD .list [.str (S l)] = some (l.length ≤ 4194304, .list (l.map sg), .own) := by simp only [btD, S_len]; rfl
@[simp] theorem bt_tS : btD .tuple [.str (S l)] = some (l.length ≤ 4194304, .tuple (l.map sg), .shr) := by simp only [btD, S_len]; rfl
@[simp] theorem bt_tl : btD .tuple [.list ds] = some (True, .tuple ds, .shr) := rfl
@[simp] theorem bt_tt : btD .tuple [.tuple ds] = some (True, .tuple ds, .shr) := rfl
theorem boolsD_map {α : Type} (f : α → Bool) : ∀ xs : List α, boolsD (xs.map fun x => .bool (f x)) = some (xs.map f)
  | [] => rfl
  | x :: xs => by simp only [List.map_cons, boolsD, boolsD_map f xs, Option.map_some]
@[simp] theorem bt_all {α : Type} {f : α → Bool} {xs : List α} : btD .all [.list (xs.map fun x => .bool (f x))] = some (True, .bool (xs.all f), .shr) := by
  simp only [btD, boolsD_map, Option.map_some]
  rw [List.all_map]; rfl
@[simp] theorem bt_any {α : Type} {f : α → Bool} {xs : List α} : btD .any [.list (xs.map fun x => .bool (f x))] = some (True, .bool (xs.any f), .shr) := by
  simp only [btD, boolsD_map, Option.map_some]
  rw [List.any_map]; rfl
@[simp] theorem isi_def {t : String} : isiD t d = (tyD d == t || (t == "int" && tyD d == "bool")) := rfl
@[simp] theorem ty_n : tyD .none = "NoneType" := rfl
@[simp] theorem ty_b {b : Bool} : tyD (.bool b) = "bool" := rfl
@[simp] theorem ty_i : tyD (.int n) = "int" := rfl
@[simp] theorem ty_s : tyD (.str x) = "str" := rfl
@[simp] theorem ty_l : tyD (.list ds) = "list" := rfl
@[simp] theorem ty_t : tyD (.tuple ds) = "tuple" := rfl
@[simp] theorem ty_d {kvs : List (D × D)} : tyD (.dict kvs) = "dict" := rfl
@[simp] theorem kinds_mem1 : "int" ∈ kindsD := by decide
@[simp] theorem kinds_mem2 : "bool" ∈ kindsD := by decide
@[simp] theorem kinds_mem3 : "str" ∈ kindsD := by decide
@[simp] theorem kinds_mem4 : "list" ∈ kindsD := by decide
@[simp] theorem kinds_mem5 : "tuple" ∈ kindsD := by decide
@[simp] theorem kinds_mem6 : "dict" ∈ kindsD := by decide
@[simp] theorem none_n : noneD .none = true := rfl
@[simp] theorem none_b {b : Bool} : noneD (.bool b) = false := rfl
@[simp] theorem none_i : noneD (.int n) = false := rfl
@[simp] theorem none_s : noneD (.str x) = false := rfl
@[simp] theorem none_l : noneD (.list ds) = false := rfl
@[simp] theorem none_t : noneD (.tuple ds) = false := rfl
@[simp] theorem ix_l : ixD (.list ds) (.int n) = (L2.atI ds n).map fun d => (True, d, .shr) := rfl
@[simp] theorem ix_t : ixD (.tuple ds) (.int n) = (L2.atI ds n).map fun d => (True, d, .shr) := rfl
@[simp] theorem ix_s : ixD (.str (S l)) (.int n) = (L2.atI l n).map fun c => (l.length ≤ sizeLine, PyData.str (S [c]), .shr) := by
  show Option.map (fun c => ((S l).length ≤ sizeLine, _, _)) _ = _
  rw [S_len]
  rfl
@[simp] theorem sl_l {lo hi : Option Int} : slD (.list ds) lo hi = some (True, .list (cutL ds lo hi), .own) := rfl
@[simp] theorem sl_t {lo hi : Option Int} : slD (.tuple ds) lo hi = some (True, .tuple (cutL ds lo hi), .shr) := rfl
theorem cutS_S {lo hi : Option Int} : L2.cutS (S l) lo hi = S (cutL l lo hi) := by
  unfold L2.cutS cutL
  rfl
@[simp] theorem sl_s {lo hi : Option Int} : slD (.str (S l)) lo hi = some (l.length ≤ sizeLine, .str (S (cutL l lo hi)), .shr) := by
  show some ((S l).length ≤ sizeLine, PyData.str (L2.cutS (S l) lo hi), _) = _
  rw [S_len, cutS_S]
@[simp] theorem rec_join : recvB .join (.str x) = true := rfl
@[simp] theorem rec_sx : recvB .sindex (.str x) = true := rfl
@[simp] theorem rec_lx : recvB .lindex (.list ds) = true := rfl
@[simp] theorem mt_join0 : mtD .join (.str (S [])) [.list (l.map sg)] = some (l.length ≤ 16777216, .str (S l), .shr) := by
  simp only [mtD, strsD_sg, Option.map_some]
  rw [join_sg, sum_sg]
  simp [S_len]
@[simp] theorem mt_sx : mtD .sindex (.str (S l)) [.str (S [i])] = (l.findIdx? (· == i)).map fun j => (True, .int (j : Nat), .shr) := by
  show Option.map (fun j => ((1 : Nat) = 1, _, _)) _ = _
  simp only [eq_self_iff_true]
  rfl
@[simp] theorem S_nil : Str.ofString "" = S [] := rfl
@[simp] theorem sg_eq : sg i = PyData.str (S [i]) := rfl
@[simp] theorem S_lenS : (S l).length = l.length := S_len l
@[simp] theorem S_appS : S l ++ S l' = S (l ++ l') := S_app l l'
@[simp] theorem S_inj : S l = S l' ↔ l = l' := by
  constructor
  · intro h
    have := congrArg (fun z : Str => z.cps.toList) h
    simpa [S] using this
  · exact congrArg S
@[simp] theorem eqv_ii : PyData.eqv (.int n) (.int m) = decide (n = m) := eqv_int n m
@[simp] theorem eqv_ss : PyData.eqv (.str x) (.str y) = decide (x = y) := by
  simp only [PyData.eqv]
  exact Bool.eq_iff_iff.mpr (by simp)
@[simp] theorem eqv_bb {b c : Bool} : PyData.eqv (.bool b) (.bool c) = (b == c) := by cases b <;> cases c <;> rfl
@[simp] theorem shaped_i : SeqAt.shaped (.int n) = true := rfl
@[simp] theorem shaped_b {b : Bool} : SeqAt.shaped (.bool b) = true := rfl
@[simp] theorem shaped_n : SeqAt.shaped .none = true := rfl
end
theorem sz0 {n : Nat} (h : n ≤ 16777216) : n ≤ sizeLine := Nat.le_trans h (by decide)
theorem szl {n : Nat} (h : n ≤ 1000000) : n ≤ LOOPN := Nat.le_trans h (by decide +kernel)
end Y

/-! W6: classes: fields, objects made. -/
namespace Y
open PySem PySem.Spec PyProof.Rows L2 M
def wFl (i : Nat) (f : Str) : Wx := ⟨fun _ ρ Q => gFl f ρ[i]? Q, fun _ _ ρ _ _ _ h q => gFl_mono h q, 0, [], false, fun z => nomatch z⟩
theorem gMf_mono {f : Str} {nm : List Str} {Q Q' : VQ} (h : ∀ d k, Q d k → Q' d k) {fs : List (Str × Fd)} (q : gMf f nm Q fs) : gMf f nm Q' fs := by
  unfold gMf at q ⊢
  refine ⟨q.1, ?_⟩
  have q := q.2
  split at q
  · exact h _ _ q
  · exact h _ _ q
  · exact q.elim
theorem gMf_nb {f : Str} {nm : List Str} {Q : VQ} {fs : List (Str × Fd)} (q : gMf f nm Q fs) : gMf f nm (fun d k => k ≠ .bor ∧ Q d k) fs := by
  unfold gMf at q ⊢
  refine ⟨q.1, ?_⟩
  have q := q.2
  split at q
  · exact ⟨nbS, q⟩
  · exact ⟨nbO, q⟩
  · exact q.elim
def wMkf (CC : Cts) (x : Str) (m : Nat) (nm : List Str) (f : Str) (s : Wa) : Wx := ⟨fun E ρ Q => s.run E ρ fun as b => b = false ∧ CC.I x as (gMf f nm Q),
  fun E E' ρ Q Q' he h q => s.mono _ _ _ _ _ he (fun _ _ z => ⟨z.1, CC.monoI _ _ _ _ (fun _ y => gMf_mono h y) z.2⟩) q, s.c + m, s.esc, true,
  fun _ E ρ Q q => s.m _ _ _ (fun _ _ z => ⟨z.1, CC.monoI _ _ _ _ (fun _ y => gMf_nb y) z.2⟩) q⟩
def sFset (is : List Nat) (i : Nat) (f : Str) (e : Wx) : Ws := ⟨fun ρ P => e.run P.ex (dem ρ is) fun d k => gFset i f (dem ρ is) d k P, fun ρ P P' h q => e.mono _ _ _ _ _ h.ex (fun d k z => by
  unfold gFset at z ⊢
  refine ⟨z.1, ?_⟩
  have z := z.2
  split at z
  · exact ⟨z.1, z.2.1, h.nx _ z.2.2⟩
  · exact z.elim) q, e.c⟩
def sFapp (is : List Nat) (i : Nat) (f : Str) (e : Wx) : Ws := ⟨fun ρ P => gFapp i f (dem ρ is)[i]? fun ds g => e.run P.ex (dem ρ is) fun d k => k ≠ .bor ∧ ds.length < sizeLine ∧ P.nx (g (ds ++ [d]) (dem ρ is)),
  fun ρ P P' h q => gFapp_mono (fun ds g z => e.mono _ _ _ _ _ h.ex (fun d k z => ⟨z.1, z.2.1, h.nx _ z.2.2⟩) z) q, e.c⟩
section
variable {X : Cx} {xw : Xw} {G : Gm} {j : Nat} {CC : Cts} (c : Cok X xw G j CC) {pos p p2 p3 p4 : Pos}
include c
theorem e_fl {x f : Str} (i : Nat) (h : nmB G x i = true := by decide +kernel) : Pe X xw (.Attribute (.Name x p) f pos) (wFl i f) := by
  have h := nm_ok c h
  exact y_fl h.1 h.2.1 h.2.2.1 h.2.2.2
theorem e_mkf {x f : Str} {m : Nat} {nm : List Str} {a : Expr} {es : List Expr} {ws : Wa} (ha : Par X xw (a :: es) ws) (hf : G.cls.lookup x = some (m, nm) := by rfl) (h : gnB G x = true := by decide +kernel) : Pe X xw (.Attribute (.Call (.Name x p) (a :: es) [] pos) f p2) (wMkf CC x m nm f ws) := by
  have h := gn_ok c h
  obtain ⟨k, ps, hkj, cm⟩ := c.cls x m nm (PySem.mem_of_lookup hf)
  have st := ha.st
  rw [List.all_cons, Bool.and_eq_true] at st
  exact y_mkf (CC.monoI x) cm c.room c.quiet hkj h.1 h.2 (star_cons (by simpa using st.1)) (star_any st.2) ws.m ha.ar
theorem z_fset {x f : Str} {e : Expr} {w : Wx} (is : List Nat) (i : Nat) (he : Pe X xw e w) (h : nmB G x i = true := by decide +kernel) (hc : isComp e = false := by rfl) : Ps X xw (.Assign [.Attribute (.Name x p) f p2] e pos) (sFset is i f w) := by
  have h := nm_ok c h
  exact s_fset (wa := w.run) (is := is) h.1 h.2.1 h.2.2.1 h.2.2.2 (swaps_ok hc) w.m he
theorem z_fapp {x f : Str} {e : Expr} {w : Wx} (is : List Nat) (i : Nat) (he : Pe X xw e w) (h : nmB G x i = true := by decide +kernel) (st : isStar e = false := by rfl) (hl : (p3.endLine == p4.line) = true := by rfl) : Ps X xw (.Expr (.Call (.Attribute (.Attribute (.Name x p) f p2) "append" p3) [e] [] p4) pos) (sFapp is i f w) := by
  have h := nm_ok c h
  exact s_fapp (wa := w.run) (is := is) h.1 h.2.1 h.2.2.1 h.2.2.2 (star_cons st) hl w.m he
end
section
variable {ρ : En} {P : Pq} {Q : VQ} {E : XQ} {i : Nat} {f : Str}
@[simp] theorem run_fl : (wFl i f).run E ρ Q = gFl f ρ[i]? Q := rfl
@[simp] theorem gFl_obj {nm : List Str} {fs : List (Str × Fd)} : gFl f (some (.obj nm fs)) Q = (f ∈ nm ∧ match fs.lookup f with | some (.val d) => Q d .shr | some (.own d) => Q d .bor | none => False) := rfl
@[simp] theorem run_mkf {CC : Cts} {x : Str} {m : Nat} {nm : List Str} {s : Wa} : (wMkf CC x m nm f s).run E ρ Q = s.run E ρ fun as b => b = false ∧ CC.I x as (gMf f nm Q) := rfl
@[simp] theorem gMf_eq {nm : List Str} {fs : List (Str × Fd)} : gMf f nm Q fs = (f ∈ nm ∧ match fs.lookup f with | some (.val d) => Q d .shr | some (.own d) => Q d .own | none => False) := rfl
@[simp] theorem run_fset {is : List Nat} {e : Wx} : (sFset is i f e).run ρ P = e.run P.ex (dem ρ is) fun d k => gFset i f (dem ρ is) d k P := rfl
@[simp] theorem gFset_eq {d : D} {k : Kd} : gFset i f ρ d k P = (k ≠ .bor ∧ match ρ[i]? with | some (.obj nm fs) => f ∈ nm ∧ fs.length < 900 ∧ P.nx (ρ.set i (.obj nm (putFd f (fdK d k) fs))) | _ => False) := rfl
@[simp] theorem run_fapp {is : List Nat} {e : Wx} : (sFapp is i f e).run ρ P = gFapp i f (dem ρ is)[i]? fun ds g => e.run P.ex (dem ρ is) fun d k => k ≠ .bor ∧ ds.length < sizeLine ∧ P.nx (g (ds ++ [d]) (dem ρ is)) := rfl
@[simp] theorem gFapp_obj {nm : List Str} {fs : List (Str × Fd)} {R : List D → (List D → En → En) → Prop} : gFapp i f (some (.obj nm fs)) R = (f ∈ nm ∧ match fs.lookup f with | some (.own (.list ds)) => R ds fun es ρ => ρ.set i (.obj nm (putFd f (.own (.list es)) fs)) | _ => False) := rfl
@[simp] theorem fdK_o {d : D} : fdK d .own = .own d := rfl
@[simp] theorem fdK_s {d : D} : fdK d .shr = .val d := rfl
@[simp] theorem dem1_obj {nm : List Str} {fs : List (Str × Fd)} : dem1 (.obj nm fs) = .obj nm fs := rfl
end
/-! ### __init__'s contracts -/
def mkI {α : Type} (A : α → List Ar) (P : α → Prop) (R : α → List (Str × Fd) → Prop) : Ci := fun as Q => ∃ x, as = A x ∧ P x ∧ ∀ fs, R x fs → Q fs
theorem mkI_mono {α : Type} {A : α → List Ar} {P : α → Prop} {R : α → List (Str × Fd) → Prop} : ∀ (as : List Ar) (Q Q' : List (Str × Fd) → Prop), (∀ fs, Q fs → Q' fs) → mkI A P R as Q → mkI A P R as Q' := by
  rintro as Q Q' h ⟨x, e, p, q⟩
  exact ⟨x, e, p, fun fs z => h _ (q fs z)⟩
def tbiC (t : List (Str × Ci)) : Str → Ci := fun x => match t.lookup x with | some c => c | none => fun _ _ => False
def CiMono (c : Ci) : Prop := ∀ (as : List Ar) (Q Q' : List (Str × Fd) → Prop), (∀ fs, Q fs → Q' fs) → c as Q → c as Q'
inductive TbiOk : List (Str × Ci) → Prop
  | nil : TbiOk []
  | cons {x : Str} {c : Ci} {t : List (Str × Ci)} : CiMono c → TbiOk t → TbiOk ((x, c) :: t)
theorem TbiOk.mem {t : List (Str × Ci)} (h : TbiOk t) : ∀ p ∈ t, CiMono p.2 := by
  induction h with
  | nil => exact fun _ z => nomatch z
  | cons a _ ih => exact fun p hp => (List.mem_cons.mp hp).elim (fun e => by rw [e]; exact a) (ih p)
theorem TbiOk.mono {t : List (Str × Ci)} (h : TbiOk t) : ∀ x as Q Q', (∀ fs, Q fs → Q' fs) → tbiC t x as Q → tbiC t x as Q' := by
  intro x as Q Q' h1 q
  unfold tbiC at q ⊢
  cases e : t.lookup x with
  | some c => rw [e] at q; exact h.mem _ (PySem.mem_of_lookup e) as Q Q' h1 q
  | none => rw [e] at q; exact q.elim
@[simp] theorem run_wBI {s1 : Ws} {nm N : List Str} {as : List Ar} {Q : List (Str × Fd) → Prop} : wBI s1 nm N as Q = s1.run (iniI nm N as) ⟨fun ρ => gOb nm ρ[0]? Q, fun _ _ => False, fun _ => False, fun _ => False, XF⟩ := rfl
@[simp] theorem iniI_def {nm N : List Str} {as : List Ar} : iniI nm N as = .obj nm [] :: (as.map slA ++ List.replicate (N.length - (as.length + 1)) .emp) := rfl
@[simp] theorem gOb_obj {nm nm' : List Str} {fs : List (Str × Fd)} {Q : List (Str × Fd) → Prop} : gOb nm (some (.obj nm' fs)) Q = (nm' = nm ∧ Q fs) := rfl
@[simp] theorem putFd_nil {f : Str} {x : Fd} : putFd f x [] = [(f, x)] := rfl
@[simp] theorem putFd_cons {f g : Str} {x y : Fd} {fs : List (Str × Fd)} : putFd f x ((g, y) :: fs) = if g = f then (g, x) :: fs else (g, y) :: putFd f x fs := rfl
end Y

/-! W11: xs.clear(), xs.reverse(). -/
namespace Y
open PySem PySem.Spec PyProof.Rows L2 M
def sMut (i : Nat) (g : List D → List D) : Ws := ⟨fun ρ P => gOl ρ[i]? fun ds => P.nx (ρ.set i (.own (.list (g ds)))), fun ρ P P' h q => gOl_mono (fun ds z => h.nx _ z) q, 0⟩
abbrev sClr (i : Nat) : Ws := sMut i fun _ => []
abbrev sRvs (i : Nat) : Ws := sMut i List.reverse
@[simp] theorem run_smut {i : Nat} {g : List D → List D} {ρ : En} {P : Pq} : (sMut i g).run ρ P = gOl ρ[i]? fun ds => P.nx (ρ.set i (.own (.list (g ds)))) := rfl
section
variable {X : Cx} {xw : Xw} {G : Gm} {j : Nat} {CC : Cts} (c : Cok X xw G j CC) {pos p p2 p3 : Pos}
include c
theorem z_mut {x nm : Str} {id : String} {r : V → List V → Hp → VK → Prop} (i : Nat) (g : List D → List D) (slot : Slot "list" nm id) (ty : typeOf (.builtin id) = pure (.type "method_descriptor")) (mt : MtM X id r)
    (hr : ∀ a xs ds H Z (Q : VK), H a = some (.lst xs) → DnL X.K H Z xs ds → (∃ ys, (∀ H' Z', DnL X.K H' Z' xs ds → DnL X.K H' Z' ys (g ds)) ∧ ((∀ v, Q v (upd H a (.lst ys))) → r (.ref a) [] H Q)))
    (h : nmB G x i = true) (hl : (p2.endLine == p3.line) = true) (hb : attributeBase (.Name x p) nm X.env (eval (.Name x p) X.env) = eval (.Name x p) X.env) : Ps X xw (.Expr (.Call (.Attribute (.Name x p) nm p2) [] [] p3) pos) (sMut i g) := by
  have h := nm_ok c h
  refine PS.weak (ps_expr (pe_bm0 (hline := hl) (hbase := hb) PySem.F.plainAttrs_list slot ty mt (pe_var h.1 h.2.1 h.2.2.1 h.2.2.2)) rfl) fun D σ H ⟨H0, B, pn0, fr, P, pn, ρ, Z, tb, px, ok, w, f⟩ => ?_
  change gOl ρ[i]? (fun ds => P.nx (ρ.set i (.own (.list (g ds))))) at w
  unfold gOl at w
  split at w
  · rename_i ds e0
    obtain ⟨a, e1, ha, h0, hp, ho⟩ := ok.sl i _ e0
    rcases ho with ⟨xs, ds', ed, hx, hn⟩ | ⟨_, _, ed, _⟩ | ⟨_, _, ed, _⟩
    · cases ed
      obtain ⟨ys, hy, go⟩ := hr a xs ds H Z (fun _ H' => D.nx σ H') hx hn
      refine ⟨.ref a, e1, Or.inl ⟨rfl, _, Or.inl (Or.inl hx)⟩, go fun v => ?_⟩
      refine f.nx _ _ ⟨pn, _, Z, px, (ok.lt (by show tb ≤ 0 + tb; omega)).chg e0 e1 ha h0 hp (.inl ⟨_, _, rfl, upd_same, hy _ _ ?_⟩), w⟩
      refine DnL.keep (fun b u n e => ?_) (fun b z => .inl z) _ _ hn
      rw [upd_ne (fun z => n (by rw [z]; exact ha))]
      exact e
    · cases ed
    · cases ed
  · exact w.elim
theorem z_clr {x : Str} (i : Nat) (h : nmB G x i = true := by decide +kernel) (hl : (p2.endLine == p3.line) = true := by rfl) : Ps X xw (.Expr (.Call (.Attribute (.Name x p) "clear" p2) [] [] p3) pos) (sClr i) :=
  z_mut c i (fun _ => []) PySem.F.slot_list_clear (by show builtinType _ = _; rw [builtinType_eq_fast]; kernel_rfl) mt_clear (fun a xs ds H Z Q e n => ⟨[], fun _ _ _ => .nil, fun q => ⟨a, xs, rfl, rfl, e, q _⟩⟩) h hl (basesep rfl)
theorem z_rvs {x : Str} (i : Nat) (h : nmB G x i = true := by decide +kernel) (hl : (p2.endLine == p3.line) = true := by rfl) : Ps X xw (.Expr (.Call (.Attribute (.Name x p) "reverse" p2) [] [] p3) pos) (sRvs i) :=
  z_mut c i List.reverse PySem.F.slot_list_reverse (by show builtinType _ = _; rw [builtinType_eq_fast]; kernel_rfl) mt_reverse (fun a xs ds H Z Q e n => ⟨xs.reverse, fun _ _ n => n.reverse, fun q => ⟨a, xs, rfl, rfl, e, q _⟩⟩) h hl (basesep rfl)
end
end Y

/-! W18: xs.insert(i, y); isinstance(x, (T, U)). -/
namespace Y
open PySem PySem.Spec PyProof.Rows L2 M
def insL (ds : List D) (j : Nat) (d : D) : List D := ds.take j ++ [d] ++ ds.drop j
def gNI (x : D) (R : Nat → Prop) : Prop := match x with | .int z => (0 ≤ z ∧ z < 2 ^ 63) ∧ R z.toNat | _ => False
theorem gNI_mono {x : D} {R R' : Nat → Prop} (h : ∀ n, R n → R' n) : gNI x R → gNI x R' := by
  unfold gNI
  split
  · exact fun z => ⟨z.1, h _ z.2⟩
  · exact id
def sIns (is : List Nat) (i : Nat) (k e : Wx) : Ws := ⟨fun ρ P => gOl (dem ρ is)[i]? fun ds => k.run P.ex (dem ρ is) fun kx _ => e.run P.ex (dem ρ is) fun d kd => gNI kx fun j => kd ≠ .bor ∧ ds.length < sizeLine ∧ P.nx ((dem ρ is).set i (.own (.list (insL ds j d)))),
  fun ρ P P' h q => gOl_mono (fun ds z => k.mono _ _ _ _ _ h.ex (fun kx _ z => e.mono _ _ _ _ _ h.ex (fun d kd z => gNI_mono (fun j z => ⟨z.1, z.2.1, h.nx _ z.2.2⟩) z) z) z) q, k.c + e.c⟩
@[simp] theorem run_sins {is : List Nat} {i : Nat} {k e : Wx} {ρ : En} {P : Pq} : (sIns is i k e).run ρ P = gOl (dem ρ is)[i]? fun ds => k.run P.ex (dem ρ is) fun kx _ => e.run P.ex (dem ρ is) fun d kd => gNI kx fun j => kd ≠ .bor ∧ ds.length < sizeLine ∧ P.nx ((dem ρ is).set i (.own (.list (insL ds j d)))) := rfl
@[simp] theorem gNI_i {z : Int} {R : Nat → Prop} : gNI (.int z) R = ((0 ≤ z ∧ z < 2 ^ 63) ∧ R z.toNat) := rfl
def isi2 (t u : String) (x : D) : Rz := some (t ∈ kindsD ∧ u ∈ kindsD, .bool (isiD t x || isiD u x), .shr)
def wIsi2 (t u : String) (a : Wx) : Wx := w1 (isi2 t u) (fun x c d k e => by unfold isi2 at e; cases e; exact nbS) a
@[simp] theorem run_isi2 {t u : String} {a : Wx} {E : XQ} {ρ : En} {Q : VQ} : (wIsi2 t u a).run E ρ Q = a.run E ρ fun x _ => (isi2 t u x).to Q := rfl
@[simp] theorem isi2_to {t u : String} {x : D} {Q : VQ} : (isi2 t u x).to Q = ((t ∈ kindsD ∧ u ∈ kindsD) ∧ Q (.bool (isiD t x || isiD u x)) .shr) := rfl
section
variable {X : Cx} {xw : Xw} {G : Gm} {j : Nat} {CC : Cts} (c : Cok X xw G j CC) {pos p p2 p3 p4 p5 : Pos}
include c
theorem z_ins {x : Str} {k e : Expr} {wk w : Wx} (is : List Nat) (i : Nat) (hk : Pe X xw k wk) (he : Pe X xw e w) (h : nmB G x i = true := by decide +kernel) (st : isStar e = false := by rfl) (st2 : isStar k = false := by rfl) (hl : (p2.endLine == p3.line) = true := by rfl) : Ps X xw (.Expr (.Call (.Attribute (.Name x p) "insert" p2) [k, e] [] p3) pos) (sIns is i wk w) := by
  have h := nm_ok c h
  refine PS.weak (ps_expr (pe_bm (hs := star_cons st2) (hfew := by rw [star_cons st2, star_cons st]; rfl) (hline := hl) (hplain := star_any (by simp [st])) PySem.F.plainAttrs_list PySem.F.slot_list_insert PySem.F.type_list_insert mt_insert (pe_var h.1 h.2.1 h.2.2.1 h.2.2.2) (pa_cons hk (pa_cons he pa_nil (star_cons st)) (star_cons st2))) rfl) fun D σ H ⟨H0, B, pn0, fr, P, pn, ρ, Z, tb, px, ok, w', f⟩ => ?_
  change gOl (dem ρ is)[i]? (fun ds => wk.run P.ex (dem ρ is) fun kx _ => w.run P.ex (dem ρ is) fun d kd => gNI kx fun j => kd ≠ .bor ∧ ds.length < sizeLine ∧ P.nx ((dem ρ is).set i (.own (.list (insL ds j d))))) at w'
  rw [f.ex] at w'
  unfold gOl at w'
  split at w'
  · rename_i ds e0
    obtain ⟨Z', hz, ok'⟩ := dem_ok is ok
    obtain ⟨a, e1, ha, h0, hp, ho⟩ := ok'.sl i _ e0
    rcases ho with ⟨xs, ds', ed, hx, hn⟩ | ⟨_, _, ed, _⟩ | ⟨_, _, ed, _⟩
    · cases ed
      refine ⟨.ref a, e1, Or.inl ⟨rfl, _, Or.inl (Or.inl hx)⟩, H0, B, pn, fr, _, Z', (w.c + tb), ok'.lt (by show wk.c + (w.c + tb) ≤ (wk.c + w.c) + tb; omega), wk.m _ _ _ (fun kx k1 q y H1 s1 r1 => ?_) w'⟩
      refine ⟨H0, B, pn, fr, _, Z', tb, ok'.to s1, w.m _ _ _ (fun d k2 q v H2 s2 r2 => ?_) q⟩
      cases kx with
      | int z =>
        obtain ⟨z1, q1, q2, q3⟩ := q
        have s := s1.trans s2
        have hx' := s.keep a _ hp hx
        have hn' := DnL.keep (keepZ s ok'.pnz) (fun b z => .inl z) _ _ hn
        rw [(r1.dr ok'.pnt).int]
        refine ⟨a, xs, z, v, rfl, rfl, hx', by rw [hn'.length]; exact q2, z1.1, z1.2, ?_⟩
        refine f.nx _ _ ⟨pn, _, Z', px, (ok'.to s).chg e0 e1 ha h0 hp (.inl ⟨_, _, rfl, upd_same, ?_⟩), q3⟩
        refine DnL.keep (fun b u n e => ?_) (fun b z => .inl z) _ _ (((hn'.take z.toNat).append (.cons (r2.dn q1 (ok'.to s1).zt) .nil)).append (hn'.drop z.toNat))
        rw [upd_ne (fun z => n (by rw [z]; exact ha))]
        exact e
      | _ => exact q.elim
    · cases ed
    · cases ed
  · exact w'.elim
theorem e_isi2 {a : Expr} {wa : Wx} {ty1 ty2 : Str} {kk} (t u : String) (ha : Pe X xw a wa) (st : isStar a = false := by rfl) (h : btB G "isinstance" = true := by decide +kernel) (ht : t ∈ kindsD := by decide) (hu : u ∈ kindsD := by decide) (h1 : btB G ty1 = true := by decide +kernel) (h2 : btB G ty2 = true := by decide +kernel) (hv1 : bootBuiltins ty1 = some (.type t) := by decide +kernel) (hv2 : bootBuiltins ty2 = some (.type u) := by decide +kernel) :
    Pe X xw (.Call (.Name "isinstance" p) [a, .Tuple [.Name ty1 p2, .Name ty2 p3] kk p4] [] pos) (wIsi2 t u wa) := by
  have h := bt_ok c h
  have h1 := bt_ok c h1
  have h2 := bt_ok c h2
  have q1 : PE X (.Name ty1 p2) (tC (.ty t)) := pe_bltn (v := .ty t) (u := .type t) h1.1 h1.2.1 hv1 rfl h1.2.2.2 h1.2.2.1
  have q2 : PE X (.Name ty2 p3) (tC (.ty u)) := pe_bltn (v := .ty u) (u := .type u) h2.1 h2.2.1 hv2 rfl h2.2.2.2 h2.2.2.1
  refine PE.weak (pe_callB call_isiT h.1 h.2.1 (by decide +kernel) (pa_cons ha (pa_cons (pe_tup (pa_cons q1 (pa_cons q2 pa_nil rfl) rfl)) pa_nil rfl) (star_cons st)) (he := star_cons st)) fun σ H Q ⟨H0, B, pn, fr, ρ, Z, tb, ok, w⟩ => ?_
  refine ⟨H0, B, pn, fr, ρ, Z, tb, ok, wa.m _ _ _ (fun d k q x H1 s1 r1 => ?_) w⟩
  refine ⟨(by show 2 ≤ sizeLine; decide), fun T hT => ?_⟩
  have ss := M.same_upd (o := .tup [.ty t, .ty u]) hT
  have ok1 := ok.to s1
  have r2 := (r1.dr ok.pnt).step (ok1.ss ss) ok1.pnz
  refine ⟨x, T, [.ty t, .ty u], .type (tyD d), [.type t, .type u], _, rfl, upd_same, .cons (.ty t) (.cons (.ty u) .nil), dr_ty r2, ?_, q.2 _ _ (s1.trans (ok1.ss ss)) (.bl _)⟩
  have k1 := kit_ty (K := X.K) (kitB_D t ht _ (tyD_mem d))
  have k2 := kit_ty (K := X.K) (kitB_D u hu _ (tyD_mem d))
  simp only [PySem.W.kitAny, k1, k2]
  unfold isiD
  cases (tyD d == t || (t == "int" && tyD d == "bool")) <;> cases (tyD d == u || (u == "int" && tyD d == "bool")) <;> rfl
end
end Y

/-! W19: a statement ahead of which some lists of our own are no longer ours. -/
namespace Y
open PySem PySem.Spec PyProof.Rows L2 M
def sDm (is : List Nat) (s : Ws) : Ws := ⟨fun ρ P => s.run (dem ρ is) P, fun _ _ _ h q => s.mono _ _ _ h q, s.c⟩
@[simp] theorem run_sdm {is : List Nat} {s : Ws} {ρ : En} {P : Pq} : (sDm is s).run ρ P = s.run (dem ρ is) P := rfl
theorem z_dm {X : Cx} {xw : Xw} {s : Stmt} {w : Ws} (is : List Nat) (h : Ps X xw s w) : Ps X xw s (sDm is w) := PS.weak h fun D σ H ⟨H0, B, pn0, fr, P, pn, ρ, Z, tb, px, ok, q, f⟩ => by
  obtain ⟨Z', hz, ok'⟩ := dem_ok is ok
  exact ⟨H0, B, pn0, fr, P, pn, _, Z', tb, px, ok', q, f⟩
section
variable {X : Cx} {xw : Xw} {G : Gm} {j : Nat} {CC : Cts} (c : Cok X xw G j CC) {pos : Pos}
include c
/-- a < b < d as a test -/
theorem t_chnE {o o' : CmpOp} {a b d : Expr} {wa wb wd : Wx} (ha : Pe X xw a wa) (hb : Pe X xw b wb) (hd : Pe X xw d wd) (hm : lastMarks [o, o'] [b, d] = false := by rfl) : Pt X xw (.Compare a [o, o'] [b, d] pos) (tOf (wChn o o' wa wb wd)) := by
  refine PT.weak (pt_chain (op_cmpY (hu_of' c) o) (op_cmpY (hu_of' c) o') ha hb hd hm) fun σ H Q ⟨H0, B, pn, fr, ρ, Z, t, ok, w⟩ => ?_
  refine ⟨H0, B, pn, fr, ρ, Z, (wb.c + (wd.c + t)), ok.lt (by show wa.c + (wb.c + (wd.c + t)) ≤ (wa.c + wb.c + wd.c) + t; omega), wa.m _ _ _ (fun d k q x H1 s1 r1 => ⟨H0, B, pn, fr, ρ, Z, _, ok.to s1, wb.m _ _ _ (fun e k' q y H2 s2 r2 => ?_) q⟩) w⟩
  have ok1 := ok.to s1
  have ok2 := ok1.to s2
  dsimp only at q
  unfold gChn at q
  split at q
  · rename_i p r e1
    refine ⟨pn, Z, d, e, ok2.zt, (r1.dr ok.pnt).step s2 ok.pnz, r2.dr ok1.pnt, ?_⟩
    unfold cmpR
    rw [e1]
    refine ⟨q.1, fun v H3 s3 r3 => ?_⟩
    cases r3
    have s3' : HStep (wd.c + t) pn H2 H3 := HStep.of_same ok2.bd ok2.pnt s3
    refine ⟨r, rfl, ?_⟩
    cases r with
    | false => exact ⟨false, rfl, (q.2.2 rfl).2 H3 (((s1.trans s2).trans s3').less (by omega))⟩
    | true =>
      refine ⟨H0, B, pn, fr, ρ, Z, _, ok2.to s3', wd.m _ _ _ (fun f k3 q3 z H4 s4 r4 => ?_) (q.2.1 rfl)⟩
      refine ⟨pn, Z, e, f, ((ok2.to s3').to s4).zt, ((r2.dr ok1.pnt).step s3' ok.pnz).step s4 ok.pnz, r4.dr (ok2.to s3').pnt, ?_⟩
      obtain ⟨p2, b2, e2, hp2, q4⟩ := cmpR_bool q3
      dsimp only
      rw [e2]
      refine ⟨hp2, fun v H' s rx => ?_⟩
      cases rx
      exact ⟨b2, rfl, q4.2 _ ((((s1.trans s2).trans s3').trans s4).trans (HStep.of_same ((ok2.to s3').to s4).bd ((ok2.to s3').to s4).pnt s))⟩
  · exact q.elim
end
end Y

/-! W21: xs[::k] of a list, k = 1 or -1. -/
namespace Y
open PySem PySem.Spec PyProof.Rows L2 M
theorem pick_one (items : Array Value) : slicePick items none none (some 1) = items := by
  unfold slicePick
  show ((sliceRange 0 (items.size : Int) 1).filterMap (items[·]?)).toArray = _
  have e : sliceRange 0 (items.size : Int) 1 = List.range items.size := by
    unfold sliceRange
    rw [if_pos (by decide)]
    by_cases h : (0 : Int) < items.size
    · rw [if_pos h]
      have : (((items.size : Int) - 0 + 1 - 1) / 1).toNat = items.size := by omega
      dsimp only
      rw [this]
      conv => rhs; rw [← List.map_id (List.range items.size)]
      exact List.map_congr_left fun k _ => by simp
    · rw [if_neg h]
      have : items.size = 0 := by omega
      rw [this]
      rfl
  rw [e, PySem.W.krv_all]
def stpL {α : Type} (z : Int) (xs : List α) : List α := if z = 1 then xs else xs.reverse
theorem pick_stp {items : Array Value} {z : Int} (h : z = 1 ∨ z = -1) : slicePick items none none (some z) = (stpL z items.toList).toArray := by
  rcases h with rfl | rfl
  · rw [pick_one]; simp [stpL]
  · rw [PySem.W.krv_pick]; simp [stpL]
section
variable {X : Cx} {xw : Xw}
def tStp (K : PySem.W.Frag) (te t2 : TE) : TE := fun σ H Q => te σ H fun x H1 => t2 σ H1 fun y H2 => ∃ a xs z, x = .ref a ∧ SqL K H2 a xs ∧ y = .int z ∧ (z = 1 ∨ z = -1) ∧ ∀ p, H2 p = none → Q (.ref p) (upd H2 p (.lst (stpL z xs)))
theorem pe_stp {e e2 : Expr} {te t2 : TE} {p3 pos : Pos} (he : PE X e te) (h2 : PE X e2 t2) : PE X (.Subscript e (.Slice none none (some e2) p3) pos) (tStp X.K te t2) := by
  refine ⟨fun pins s σ H Q I h => ?_⟩
  refine Subscript_ (thn (he.run pins s σ H _ I h) fun v s1 ⟨x, H1, I1, r1, q1⟩ => ?_)
  refine wpAny_Slice (thn (po_none.run pins s1 σ H1 (fun o H2 => o = none ∧ H2 = H1) I1 ⟨rfl, rfl⟩) fun vl s2 ⟨l, H2, I2, pl, el, e2'⟩ => ?_)
  subst el e2'
  refine thn (po_none.run pins s2 σ H2 (fun o H3 => o = none ∧ H3 = H2) I2 ⟨rfl, rfl⟩) fun vu s3 ⟨u, H3, I3, pu, eu, e3⟩ => ?_
  subst eu e3
  rw [evalPart_some]
  refine thn (h2.run pins s3 σ H3 _ I3 q1) fun vs s4 ⟨y, H4, I4, r4, a, xs, z, ex, hx, ey, hz1, q⟩ => ?_
  subst ex ey
  obtain ⟨t, rfl⟩ := r4
  have ps : IsPart (.int z t) (some z) := .int z t
  have I5 : Inv X pins σ H4 { s4 with heap := s4.heap.push { cls := .type "slice", data := .fields #[vl, vu, .int z t] } } := I4.kept (t' := s4.toks) fun b ob q => Heap.get?_push_of_some _ q
  cases r1
  obtain ⟨its, r, ht, hz⟩ := I5.list hx
  have hlen := r.length
  show wpAny (model X.prog X.w) X.A (subscriptTail e (.Slice none none (some e2) p3) (.ref a) (.ref s4.heap.objs.size)) (EP X pins σ Q) X.xe { s4 with heap := s4.heap.push { cls := .type "slice", data := .fields #[vl, vu, .int z t] } }
  refine tail_any (ops := [.ref a, .ref s4.heap.objs.size]) ht.isList.typeIs (PySem.slot_list_getitem.lookup) ?_ (by with_unfolding_all rfl)
  refine wpAny_getItem_list_slice ht.isList (Heap.IsSliceOf.new _ vl vu _) pl pu ps (by rcases hz1 with rfl | rfl <;> decide) ?_ (by rw [List.size_toArray]; omega)
  rw [pick_stp hz1]
  refine ⟨.ref _, _, I5.laid (t' := s4.toks) (o := .lst (stpL z xs)) (fun b ob q => Heap.get?_push_of_some _ q) (Nat.le_refl _) ?_, rfl, q _ (I5.hok.fresh (Nat.le_refl _))⟩
  refine ⟨?_, stpL z its, 0, ?_, Heap.get?_push_size _ rfl⟩
  · unfold stpL; split
    · exact hz
    · rw [List.length_reverse]; exact hz
  · unfold stpL; split
    · exact r
    · exact r.reverse
end
def gStp (x y : D) (Q : VQ) : Prop := match x, y with | .list ds, .int z => (z = 1 ∨ z = -1) ∧ Q (.list (stpL z ds)) .own | _, _ => False
theorem gStp_mono {x y : D} {Q Q' : VQ} (h : ∀ d k, k ≠ .bor → Q d k → Q' d k) : gStp x y Q → gStp x y Q' := by
  unfold gStp
  split
  · exact fun z => ⟨z.1, h _ _ (by simp) z.2⟩
  · exact id
def wStp (a b : Wx) : Wx := ⟨fun E ρ Q => a.run E ρ fun x _ => b.run E ρ fun y _ => gStp x y Q, fun E E' ρ Q Q' he h q => a.mono _ _ _ _ _ he (fun _ _ z => b.mono _ _ _ _ _ he (fun _ _ z => gStp_mono (fun d k _ => h d k) z) z) q, a.c + b.c, a.esc ++ b.esc, true, fun _ E ρ Q q => a.m _ _ _ (fun _ _ z => b.m _ _ _ (fun _ _ z => gStp_mono (fun d k n z => ⟨n, z⟩) z) z) q⟩
@[simp] theorem run_stp {a b : Wx} {E : XQ} {ρ : En} {Q : VQ} : (wStp a b).run E ρ Q = a.run E ρ fun x _ => b.run E ρ fun y _ => gStp x y Q := rfl
@[simp] theorem gStp_l {ds : List D} {z : Int} {Q : VQ} : gStp (.list ds) (.int z) Q = ((z = 1 ∨ z = -1) ∧ Q (.list (stpL z ds)) .own) := rfl
section
variable {X : Cx} {xw : Xw} {G : Gm} {j : Nat} {CC : Cts} (c : Cok X xw G j CC) {pos p3 : Pos}
include c
theorem e_stp {a b : Expr} {wa wb : Wx} (ha : Pe X xw a wa) (hb : Pe X xw b wb) : Pe X xw (.Subscript a (.Slice none none (some b) p3) pos) (wStp wa wb) := by
  refine PE.weak (pe_stp ha hb) fun σ H Q ⟨H0, B, pn, fr, ρ, Z, t, ok, w⟩ => ?_
  refine ⟨H0, B, pn, fr, ρ, Z, (wb.c + t), ok.lt (by show wa.c + (wb.c + t) ≤ (wa.c + wb.c) + t; omega), wa.m _ _ _ (fun d k q x H1 s1 r1 => ⟨H0, B, pn, fr, ρ, Z, t, ok.to s1, wb.m _ _ _ (fun e k' q y H2 s2 r2 => ?_) q⟩) w⟩
  have ok1 := ok.to s1
  have ok2 := ok1.to s2
  cases d with
  | list ds =>
    cases e with
    | int z =>
      obtain ⟨a0, xs, rfl, sx, n⟩ := ((r1.dr ok.pnt).step s2 ok.pnz).list
      have e2 := (r2.dr ok1.pnt).int
      subst e2
      exact ⟨a0, xs, z, rfl, SqL.of sx, rfl, q.1, fun p np => q.2 _ _ ((s1.trans s2).trans (ok2.ss (M.same_upd np))) (RX.back (rx_lst np (by unfold stpL; split; exact n; exact n.reverse)) (s1.trans s2))⟩
    | _ => exact q.elim
  | _ => exact q.elim
end
end Y

/-! W22: range(i, j, c) with a step upwards. -/
namespace Y
open PySem PySem.Spec PyProof.Rows L2 M
def rngC (lo c : Int) (n : Nat) : List D := (List.range n).map fun k => .int (lo + (k : Nat) * c)
theorem rngC_len {lo c : Int} {n : Nat} : (rngC lo c n).length = n := by simp [rngC]
theorem jok_rngC {K : PySem.W.Frag} {pn : List Addr} {lo c : Int} {n : Nat} {fv : List (V × D)} : JOk K pn (Itc lo c n) fv (rngC lo c n) := by
  intro H Z i zt h
  rw [rngC_len]
  refine ⟨fun e => ?_, fun hi => ⟨hi, fun y H2 hy => ?_⟩⟩
  · show n ≤ i
    omega
  · obtain ⟨rfl, rfl⟩ := hy
    exact ⟨same_refl _, _, by simp [rngC, hi], .int _⟩
/-- how many -/
def cntC (i j c : Int) : Nat := if i < j then ((j - i - 1) / c + 1).toNat else 0
theorem rgC_of {i j c : Int} (h1 : -(2 ^ 62) ≤ i) (h2 : i < 2 ^ 62) (h3 : -(2 ^ 62) ≤ j) (h4 : j < 2 ^ 62) (h5 : 0 < c) (h6 : c < 1073741824) : L2.RgC i j c (cntC i j c) := by
  have e : Builtin.Range.rangeSize i j c = (cntC i j c : Nat) := by
    unfold Builtin.Range.rangeSize cntC
    rw [if_pos (show c > 0 from h5)]
    by_cases z : i < j
    · rw [if_pos z, if_pos z]
      have : 0 ≤ (j - i - 1) / c := Int.ediv_nonneg (by omega) (by omega)
      omega
    · rw [if_neg z, if_neg z]
      rfl
  refine ⟨by omega, by omega, ?_, e⟩
  have u : (cntC i j c : Int) ≤ 2 ^ 63 - 1 := by
    unfold cntC
    by_cases z : i < j
    · rw [if_pos z]
      have : (j - i - 1) / c ≤ j - i - 1 := Int.ediv_le_self _ (by omega)
      have : 0 ≤ (j - i - 1) / c := Int.ediv_nonneg (by omega) (by omega)
      omega
    · rw [if_neg z]
      decide
  unfold Builtin.Range.small
  rw [e]
  simp only [Builtin.Range.rangeFitsLong, Bool.and_eq_true, Bool.or_eq_true, decide_eq_true_eq, beq_iff_eq, show c > 0 from h5, if_true]
  omega
def gRg3 (x y z : D) (Q : List D → Prop) : Prop := match x, y, z with
  | .int i, .int j, .int c => (-(2 ^ 62) ≤ i ∧ i < 2 ^ 62 ∧ -(2 ^ 62) ≤ j ∧ j < 2 ^ 62 ∧ 0 < c ∧ c < 1073741824) ∧ Q (rngC i c (cntC i j c))
  | _, _, _ => False
theorem gRg3_mono {x y z : D} {Q Q' : List D → Prop} (h : ∀ i, Q i → Q' i) : gRg3 x y z Q → gRg3 x y z Q' := by
  unfold gRg3
  split
  · exact fun q => ⟨q.1, h _ q.2⟩
  · exact id
@[simp] theorem gRg3_i {i j c : Int} {Q : List D → Prop} : gRg3 (.int i) (.int j) (.int c) Q = ((-(2 ^ 62) ≤ i ∧ i < 2 ^ 62 ∧ -(2 ^ 62) ≤ j ∧ j < 2 ^ 62 ∧ 0 < c ∧ c < 1073741824) ∧ Q (rngC i c (cntC i j c))) := rfl
def iR3 (a b k : Wx) : Wi := ⟨fun E ρ Q => a.run E ρ fun x _ => b.run E ρ fun y _ => k.run E ρ fun z _ => gRg3 x y z Q, fun E E' ρ Q Q' he h q => a.mono _ _ _ _ _ he (fun _ _ z => b.mono _ _ _ _ _ he (fun _ _ z => k.mono _ _ _ _ _ he (fun _ _ z => gRg3_mono h z) z) z) q, a.c + (b.c + k.c), a.esc ++ (b.esc ++ k.esc)⟩
@[simp] theorem run_ir3 {a b k : Wx} {E : XQ} {ρ : En} {L : List D → Prop} : (iR3 a b k).run E ρ L = a.run E ρ fun x _ => b.run E ρ fun y _ => k.run E ρ fun z _ => gRg3 x y z L := rfl
section
variable {X : Cx} {xw : Xw}
theorem i_rg3 {ca cb ck : Nat} {tg a b k : Expr} {wa wb wk : En → VQ → Prop} {nb : Bool} {p pos : Pos} (gl : Gl X "range") (hm : X.mg "range" = none) (hs : starEach [a, b, k] X.env = [(false, eval a X.env), (false, eval b X.env), (false, eval k X.env)]) (hs2 : starEach [b, k] X.env = [(false, eval b X.env), (false, eval k X.env)]) (hs3 : starEach [k] X.env = [(false, eval k X.env)]) (ma : MonoW wa) (mb : MonoW wb) (mk : MonoW wk) (ha : PE X a (tX X.K xw ca wa)) (hb : PE X b (tX X.K xw cb wb)) (hk : PE X k (tX X.K xw ck wk)) :
    PI X tg (.Call (.Name "range" p) [a, b, k] [] pos) (tI X.K xw nb (ca + (cb + ck)) fun ρ Q => wa ρ fun x _ => wb ρ fun y _ => wk ρ fun z _ => gRg3 x y z Q) := by
  refine PI.weak (pi_range3 gl hm (pa_cons ha (pa_cons hb (pa_cons hk pa_nil hs3) (by rw [hs2, hs3])) (by rw [hs, hs2])) (by rw [hs, hs2]) (by rw [hs2]; rfl)) fun σ H R ⟨H0, B, pn, fr, ρ, Z, tb, ok, w⟩ => ?_
  refine ⟨H0, B, pn, fr, ρ, Z, (cb + (ck + tb)), ok.lt (by omega), ma _ _ _ (fun d k q x H1 s1 r1 => ⟨H0, B, pn, fr, ρ, Z, (ck + tb), (ok.to s1).lt (by omega), mb _ _ _ (fun e k' q y H2 s2 r2 => ⟨H0, B, pn, fr, ρ, Z, tb, (ok.to s1).to s2, mk _ _ _ (fun f k'' q z H3 s3 r3 => ?_) q⟩) q⟩) w⟩
  cases d with
  | int i =>
    cases e with
    | int j =>
      cases f with
      | int l =>
        rw [(r1.dr ok.pnt).int, (r2.dr (ok.to s1).pnt).int, (r3.dr ((ok.to s1).to s2).pnt).int]
        obtain ⟨⟨g1, g2, g3, g4, g5, g6⟩, q⟩ := q
        exact ⟨i, j, l, _, rfl, rgC_of g1 g2 g3 g4 g5 g6, q _ H3 [] ((s1.trans s2).trans s3) (fun _ z => nomatch z) jok_rngC⟩
      | _ => exact q.elim
    | _ => exact q.elim
  | _ => exact q.elim
variable {G : Gm} {j : Nat} {CC : Cts} (c : Cok X xw G j CC) {pos p : Pos} {nb : Bool} {tg a b k : Expr} {wa wb wk : Wx}
include c
theorem i_r3 (ha : Pe X xw a wa) (hb : Pe X xw b wb) (hk : Pe X xw k wk) (st : isStar a = false := by rfl) (st2 : isStar b = false := by rfl) (st3 : isStar k = false := by rfl) (h : btB G "range" = true := by decide +kernel) : Pit X xw nb tg (.Call (.Name "range" p) [a, b, k] [] pos) (iR3 wa wb wk) := by
  have h := bt_ok c h
  exact ⟨i_rg3 h.1 h.2.1 (by rw [star_cons st, star_cons st2, star_cons st3]; rfl) (by rw [star_cons st2, star_cons st3]; rfl) (star_cons st3) wa.m wb.m wk.m ha hb hk, rfl⟩
end
end Y

/-! W23: xs.extend(t) with a tuple t. -/
namespace PySem.AutoSeq1
open PySem
/-- the tuple may have any dict, any slots: only its class and its members are looked at -/
theorem ext_any_tup (p : Addr) (xs : Array Value) (i : Nat) (q : Addr) (ys : Array Value) (j : Nat) (dt : Option Addr) (so : Array (Option Value))
    (big : ¬(!xs.isEmpty && Builtin.List.listTooLong (xs.size + ys.size)) = true) (rx : xs.size ≤ sizeLine) (rxy : xs.size + ys.size ≤ sizeLine + 1) :
    Meets (Builtin.«list.extend» ⟨[.ref p, .ref q], []⟩) (fun _ R s => s.heap.get? p = some ⟨.type "list", none, .seq xs i, #[]⟩ ∧ s.heap.get? q = some ⟨.type "tuple", dt, .seq ys j, so⟩ ∧
      R (.ok (.ret Value.none)) { s with heap := s.heap.update p (Obj.mapSeq fun z => z ++ ys), toks := s.toks }) := by
  refine .of_wp fun prog w A R s want => ?_
  obtain ⟨st, ge, dr, tok, osn⟩ := s
  obtain ⟨gp, gq, want⟩ := want
  have c1 := sub_tuple_tuple
  have c2 := sub_list_list
  have c3 := sub_tuple_list
  have c4 := sub_list_tuple
  have room : (xs ++ ys).size ≤ sizeLine + 1 := Array.size_append ▸ rxy
  wp_walk using (wpAny_updateSeq gp rfl (hz := rx) (_hz' := room)), wpAny_loadPart' gp, wpAny_loadPart' gq
  exact ⟨_, rfl, want⟩
end PySem.AutoSeq1
namespace Y
open PySem PySem.Spec PyProof.Rows L2 M
def rExtT (K : PySem.W.Frag) : V → List V → Hp → VK → Prop := fun x vs H Q => ∃ l b xs zs, x = .ref l ∧ vs = [.ref b] ∧ H l = some (.lst xs) ∧ SqT K H b zs ∧ xs.length + zs.length ≤ sizeLine ∧ Q .non (upd H l (.lst (xs ++ zs)))
theorem mt_extT {X : Cx} : MtM X "list.extend" (rExtT X.K) := by
  rintro pins s σ H x vs v us Q I rx rv ⟨p, q, xs, ys, rfl, rfl, hp, hq, room, want⟩
  cases rx
  obtain ⟨u, rfl, ru⟩ := rv.one
  cases ru
  obtain ⟨z, ix, n, r1, l1, g1⟩ := I.lstM hp
  obtain ⟨iy, r2, ⟨⟨cl, dt, da, so⟩, g2, rfl, n2, rfl⟩, l2⟩ := I.tuple hq
  have z2 := r2.length
  have size : ix.toArray.size + iy.toArray.size ≤ sizeLine := by simp only [List.size_toArray]; omega
  have small : ¬ (!ix.toArray.isEmpty && Builtin.List.listTooLong (ix.toArray.size + iy.toArray.size)) = true := by
    rw [notLongL size]
    simp
  refine call_meets PySem.F.slot_list_extend ⟨_, g1, rfl⟩ PySem.F.entry_list_extend (PySem.F.args_list_extend_2 _ _) (AutoSeq1.ext_any_tup p ix.toArray n q iy.toArray n2 dt so small (by omega) (by omega)) ⟨g1, g2, ?_⟩
  exact ⟨.non, _, I.lset (its' := ix ++ iy) hp g1 (by simp) (r1.append r2) (by simp only [List.length_append]; omega), rfl, want⟩
def gTpl (d : D) (R : List D → Prop) : Prop := match d with | .tuple es => R es | _ => False
theorem gTpl_mono {x : D} {R R' : List D → Prop} (h : ∀ es, R es → R' es) : gTpl x R → gTpl x R' := by
  unfold gTpl
  split
  · exact h _
  · exact id
section
variable {X : Cx} {xw : Xw}
theorem s_extT {ca : Nat} {i : Nat} {x : Str} {e : Expr} {p apos cpos pos : Pos} {is : List Nat} {wa : XQ → En → VQ → Prop} (hN : X.N[i]? = some x) (hv : Vis X.env.scope x) (hd : (x == ("__debug__" : Str)) = false) (hcd : (x == ("__classdict__" : Str)) = false) (hst : starEach [e] X.env = [(false, eval e X.env)])
    (hline : (apos.endLine == cpos.line) = true) (ma : MonoW (wa xw.E)) (he : PE X e (tX X.K xw ca (wa xw.E))) :
    PS X (.Expr (.Call (.Attribute (.Name x p) "extend" apos) [e] [] cpos) pos) (tS X.K xw (ca) fun ρ P => gOl (dem ρ is)[i]? fun ds => wa P.ex (dem ρ is) fun d _ => gTpl d fun es => ds.length + es.length ≤ sizeLine ∧ P.nx ((dem ρ is).set i (.own (.list (ds ++ es))))) := by
  refine PS.weak (ps_expr (pe_bm (hs := hst) (hfew := few1 hst) (hline := hline) PySem.F.plainAttrs_list PySem.F.slot_list_extend PySem.F.type_list_extend mt_extT (pe_var hN hv hd hcd) (pa_cons he pa_nil hst)) rfl) fun D σ H ⟨H0, B, pn0, fr, P, pn, ρ, Z, tb, px, ok, w, f⟩ => ?_
  dsimp only at w
  rw [f.ex] at w
  unfold gOl at w
  split at w
  · rename_i ds e0
    obtain ⟨Z', hz, ok'⟩ := dem_ok is ok
    obtain ⟨a, e1, ha, h0, hp, ho⟩ := ok'.sl i _ e0
    rcases ho with ⟨xs, ds', ed, hx, hn⟩ | ⟨_, _, ed, _⟩ | ⟨_, _, ed, _⟩
    · cases ed
      refine ⟨.ref a, e1, Or.inl ⟨rfl, _, Or.inl (Or.inl hx)⟩, H0, B, pn, fr, _, Z', tb, ok', ma _ _ _ (fun d k q v H' s r => ?_) w⟩
      unfold gTpl at q
      split at q
      · rename_i es
        obtain ⟨b, zs, rfl, s3, n3⟩ := (r.dr ok'.pnt).tup
        have hx' := s.keep a _ hp hx
        have hn' := DnL.keep (keepZ s ok'.pnz) (fun b z => .inl z) _ _ hn
        refine ⟨a, b, xs, zs, rfl, rfl, hx', s3.sq, by rw [hn'.length, n3.length]; exact q.1, ?_⟩
        refine f.nx _ _ ⟨pn, _, Z', px, (ok'.to s).chg e0 e1 ha h0 hp (.inl ⟨_, _, rfl, upd_same, ?_⟩), q.2⟩
        refine DnL.keep (fun b u n e => ?_) (fun b z => .inl z) _ _ (hn'.append n3)
        rw [upd_ne (fun z => n (by rw [z]; exact ha))]
        exact e
      · exact q.elim
    · cases ed
    · cases ed
  · exact w.elim
end
def sExtT (is : List Nat) (i : Nat) (e : Wx) : Ws := ⟨fun ρ P => gOl (dem ρ is)[i]? fun ds => e.run P.ex (dem ρ is) fun d _ => gTpl d fun es => ds.length + es.length ≤ sizeLine ∧ P.nx ((dem ρ is).set i (.own (.list (ds ++ es)))),
  fun ρ P P' h q => gOl_mono (fun ds z => e.mono _ _ _ _ _ h.ex (fun d kd z => gTpl_mono (fun es z => ⟨z.1, h.nx _ z.2⟩) z) z) q, e.c⟩
@[simp] theorem run_sextT {is : List Nat} {i : Nat} {a : Wx} {ρ : En} {P : Pq} : (sExtT is i a).run ρ P = gOl (dem ρ is)[i]? fun ds => a.run P.ex (dem ρ is) fun d _ => gTpl d fun es => ds.length + es.length ≤ sizeLine ∧ P.nx ((dem ρ is).set i (.own (.list (ds ++ es)))) := rfl
@[simp] theorem gTpl_t {es : List D} {R : List D → Prop} : gTpl (.tuple es) R = R es := rfl
section
variable {X : Cx} {xw : Xw} {G : Gm} {j : Nat} {CC : Cts} (c : Cok X xw G j CC) {pos p p2 p3 : Pos}
include c
theorem z_extT {x : Str} {e : Expr} {w : Wx} (is : List Nat) (i : Nat) (he : Pe X xw e w) (h : nmB G x i = true := by decide +kernel) (st : isStar e = false := by rfl) (hl : (p2.endLine == p3.line) = true := by rfl) : Ps X xw (.Expr (.Call (.Attribute (.Name x p) "extend" p2) [e] [] p3) pos) (sExtT is i w) := by
  have h := nm_ok c h
  exact PS.weak (s_extT (wa := w.run) (is := is) h.1 h.2.1 h.2.2.1 h.2.2.2 (star_cons st) hl w.m he) fun D σ H ⟨H0, B, pn0, fr, P, pn, ρ, Z, tb, px, ok, q, f⟩ => ⟨H0, B, pn0, fr, P, pn, ρ, Z, tb, px, ok, q, f⟩
end
end Y

/-! W24: x.split(y). -/
namespace Y
open PySem PySem.Spec PyProof.Rows L2 M
def gSplt (x y : D) (Q : VQ) : Prop := match x, y with
  | .str s, .str t => ((t.length == 0) = false ∧ s.length + 2 ≤ sizeLine) ∧ Q (.list ((PySem.Txt.split s t).map .str)) .own
  | _, _ => False
theorem gSplt_mono {x y : D} {Q Q' : VQ} (h : ∀ d k, k ≠ .bor → Q d k → Q' d k) : gSplt x y Q → gSplt x y Q' := by
  unfold gSplt
  split
  · exact fun z => ⟨z.1, h _ _ (by simp) z.2⟩
  · exact id
def isStr (x : D) : Prop := ∃ s, x = .str s
@[simp] theorem isStr_s {s : Str} : isStr (.str s) = True := eq_true ⟨s, rfl⟩
def wSplt (a b : Wx) : Wx := ⟨fun E ρ Q => a.run E ρ fun x _ => isStr x ∧ b.run E ρ fun y _ => gSplt x y Q, fun E E' ρ Q Q' he h q => a.mono _ _ _ _ _ he (fun _ _ z => ⟨z.1, b.mono _ _ _ _ _ he (fun _ _ z => gSplt_mono (fun d k _ => h d k) z) z.2⟩) q, a.c + b.c, a.esc ++ b.esc, true, fun _ E ρ Q q => a.m _ _ _ (fun _ _ z => ⟨z.1, b.m _ _ _ (fun _ _ z => gSplt_mono (fun d k n z => ⟨n, z⟩) z) z.2⟩) q⟩
@[simp] theorem run_splt {a b : Wx} {E : XQ} {ρ : En} {Q : VQ} : (wSplt a b).run E ρ Q = a.run E ρ fun x _ => isStr x ∧ b.run E ρ fun y _ => gSplt x y Q := rfl
@[simp] theorem gSplt_s {s t : Str} {Q : VQ} : gSplt (.str s) (.str t) Q = (((t.length == 0) = false ∧ s.length + 2 ≤ sizeLine) ∧ Q (.list ((PySem.Txt.split s t).map .str)) .own) := rfl
section
variable {X : Cx} {xw : Xw} {G : Gm} {j : Nat} {CC : Cts} (c : Cok X xw G j CC) {pos p : Pos}
include c
theorem e_splt {a b : Expr} {wa wb : Wx} (ha : Pe X xw a wa) (hb : Pe X xw b wb) (st : isStar b = false := by rfl) (hr : recvOk a = true := by rfl) (hl : (p.endLine == pos.line) = true := by rfl) : Pe X xw (.Call (.Attribute a "split" p) [b] [] pos) (wSplt wa wb) := by
  refine PE.weak (pe_split ha hb (star_cons st) (basesep hr) hl) fun σ H Q ⟨H0, B, pn, fr, ρ, Z, t, ok, w⟩ => ?_
  refine ⟨H0, B, pn, fr, ρ, Z, (wb.c + t), ok.lt (by show wa.c + (wb.c + t) ≤ (wa.c + wb.c) + t; omega), wa.m _ _ _ (fun d k q x H1 s1 r1 => ?_) w⟩
  have ok1 := ok.to s1
  obtain ⟨⟨s, rfl⟩, q⟩ := q
  have e1 := (r1.dr ok.pnt).str
  subst e1
  refine ⟨⟨s, rfl⟩, H0, B, pn, fr, ρ, Z, t, ok1, wb.m _ _ _ (fun e k' q y H2 s2 r2 => ?_) q⟩
  cases e with
  | str u =>
    have e2 := (r2.dr ok1.pnt).str
    subst e2
    refine ⟨s, u, rfl, rfl, q.1.1, q.1.2, fun p np => q.2 _ _ ((s1.trans s2).trans ((ok1.to s2).ss (M.same_upd np))) (RX.back (rx_lst np ?_) (s1.trans s2))⟩
    have key : ∀ l : List Str, DnL X.K H2 Z (l.map V.str) (l.map PyData.str) := fun l => by
      induction l with
      | nil => exact .nil
      | cons z l ih => exact .cons (.str _) ih
    exact key _
  | _ => exact q.elim
end
end Y

/-! W25: str * int. -/
namespace Y
open PySem PySem.Spec PyProof.Rows L2 M
theorem op_mulS {X : Cx} : OpR X (binaryOp .Mult) (fun x y H Q => ∃ (a : Str) (i : Int), x = .str a ∧ y = .int i ∧ ((a.length ≤ 16 ∧ -(2 ^ 63) ≤ i ∧ i ≤ 1048576) ∨ (a.length ≤ 65536 ∧ 0 ≤ i ∧ i ≤ 16)) ∧ Q (.str (PySem.Txt.mul a i)) H) := by
  rintro pins s σ H x y v u Q I rv ru ⟨a, i, rfl, rfl, l, q⟩
  obtain ⟨tk, rfl⟩ := rv
  obtain ⟨tu, rfl⟩ := ru
  rcases l with ⟨l1, l2, l3⟩ | ⟨l1, l2, l3⟩
  · exact SB.mul (mulOk_of 16 1048576 l1 l3 l2 (by decide) (by decide)) fun t' k => ⟨.str _, H, I.tok _, ⟨_, rfl⟩, q⟩
  · exact SB.mul (mulOk_of 65536 16 l1 l3 (by omega) (by decide) (by decide)) fun t' k => ⟨.str _, H, I.tok _, ⟨_, rfl⟩, q⟩
def mulS (x y : D) : Rz := match x, y with
  | .str a, .int i => some ((a.length ≤ 16 ∧ -(2 ^ 63) ≤ i ∧ i ≤ 1048576) ∨ (a.length ≤ 65536 ∧ 0 ≤ i ∧ i ≤ 16), .str (PySem.Txt.mul a i), .shr)
  | _, _ => none
theorem mulS_nb (x y : D) : RzNb (mulS x y) := by
  intro c d k e
  unfold mulS at e
  split at e <;> cases e <;> exact fun z => nomatch z
theorem op_mulSD {X : Cx} : OpR X (binaryOp .Mult) (rD2 X.K mulS) := by
  refine OpR.d2 fun x y H pn Z d e Q zt h1 h2 q => ?_
  cases d <;> cases e <;> first
    | exact q.elim
    | (have e1 := h1.str; have e2 := h2.int; subst e1 e2; exact ⟨_, op_mulS, _, _, rfl, rfl, q.1, q.2 _ H (same_refl H) (.str _)⟩)
def wMulS (a b : Wx) : Wx := w2 mulS mulS_nb a b
@[simp] theorem run_mulS {a b : Wx} {E : XQ} {ρ : En} {Q : VQ} : (wMulS a b).run E ρ Q = a.run E ρ fun x _ => b.run E ρ fun y _ => (mulS x y).to Q := rfl
@[simp] theorem mulS_s {a : Str} {i : Int} : mulS (.str a) (.int i) = some ((a.length ≤ 16 ∧ -(2 ^ 63) ≤ i ∧ i ≤ 1048576) ∨ (a.length ≤ 65536 ∧ 0 ≤ i ∧ i ≤ 16), .str (PySem.Txt.mul a i), .shr) := rfl
section
variable {X : Cx} {xw : Xw} {G : Gm} {j : Nat} {CC : Cts} (c : Cok X xw G j CC) {pos : Pos}
include c
theorem e_mulS {a b : Expr} {wa wb : Wx} (ha : Pe X xw a wa) (hb : Pe X xw b wb) : Pe X xw (.BinOp a .Mult b pos) (wMulS wa wb) := (pe_op op_mulSD ha hb).weak fun _ _ _ h => tX_op wa.m wb.m h
end
end Y

/-! W26: dicts with int and str keys: x[k], x[k] = v. -/
namespace Y
open PySem PySem.Spec PyProof.Rows L2 M
/-- a key of data -/
def keyD : D → Option Key
  | .int i => some (.inl i)
  | .str s => some (.inr s)
  | _ => none
theorem keyD_k (k : Key) : keyD (kD k) = some k := by cases k <;> rfl
theorem keyD_some {d : D} {k : Key} (h : keyD d = some k) : d = kD k := by
  cases d <;> simp [keyD] at h <;> (subst h; rfl)
/-- what stands at a key -/
def getP : List (D × D) → Key → Option D
  | [], _ => none
  | p :: ps, k => if keyD p.1 = some k then some p.2 else getP ps k
/-- put at a key: in its place, or at the end -/
def putP (ps : List (D × D)) (k : Key) (d : D) : List (D × D) :=
  if (ps.any fun p => decide (keyD p.1 = some k)) = true then ps.map (fun p => if keyD p.1 = some k then (p.1, d) else p) else ps ++ [(kD k, d)]
section
variable {K : PySem.W.Frag} {H : Hp} {Z : Addr → Prop}
theorem DnK.get : ∀ {kvs : List (Key × V)} {ps : List (D × D)} {k : Key} {d : D}, DnK K H Z kvs ps → getP ps k = some d → ∃ v, valV kvs k = some v ∧ Dn K H Z v d
  | _, _, k, d, .nil, h => by cases h
  | _, _, k, d, .cons (k := k2) (v := v) hv hr, h => by
    unfold getP at h
    rw [keyD_k] at h
    by_cases e : k2 = k
    · subst e
      rw [if_pos rfl] at h
      cases h
      exact ⟨v, by simp [valV], hv⟩
    · rw [if_neg (fun z => e (Option.some.inj z))] at h
      obtain ⟨w, g1, g2⟩ := DnK.get hr h
      refine ⟨w, ?_, g2⟩
      unfold valV at g1 ⊢
      rw [List.find?_cons, decide_eq_false e]
      exact g1
theorem DnT.noget : ∀ {kvs : List (List Key × V)} {ps : List (D × D)} {k : Key}, DnT K H Z kvs ps → getP ps k = none
  | _, _, k, .nil => rfl
  | _, _, k, .cons hv hr => by
    unfold getP
    rw [if_neg (by simp [keyD])]
    exact DnT.noget hr
theorem DnK.app : ∀ {kvs : List (Key × V)} {ps : List (D × D)} {k : Key} {v : V} {d : D}, DnK K H Z kvs ps → Dn K H Z v d → DnK K H Z (kvs ++ [(k, v)]) (ps ++ [(kD k, d)])
  | _, _, k, v, d, .nil, h => .cons h .nil
  | _, _, k, v, d, .cons hv hr, h => .cons hv (DnK.app hr h)
theorem DnK.any : ∀ {kvs : List (Key × V)} {ps : List (D × D)} {k : Key}, DnK K H Z kvs ps → (ps.any fun p => decide (keyD p.1 = some k)) = kvs.any fun kv => decide (kv.1 = k)
  | _, _, k, .nil => rfl
  | _, _, k, .cons (k := k2) hv hr => by
    rw [List.any_cons, List.any_cons, DnK.any hr, keyD_k]
    congr 1
    simp
theorem DnK.upd : ∀ {kvs : List (Key × V)} {ps : List (D × D)} {k : Key} {v : V} {d : D}, DnK K H Z kvs ps → Dn K H Z v d → DnK K H Z (kvs.map fun kv => if kv.1 = k then (kv.1, v) else kv) (ps.map fun p => if keyD p.1 = some k then (p.1, d) else p)
  | _, _, k, v, d, .nil, h => .nil
  | _, _, k, v, d, .cons (k := k2) hv hr, h => by
    have ih := DnK.upd (k := k) hr h
    simp only [List.map_cons, keyD_k]
    by_cases e : k2 = k
    · rw [if_pos e, if_pos (by rw [e])]
      exact .cons h ih
    · rw [if_neg e, if_neg (fun z => e (Option.some.inj z))]
      exact .cons hv ih
theorem DnK.put {kvs : List (Key × V)} {ps : List (D × D)} {k : Key} {v : V} {d : D} (h : DnK K H Z kvs ps) (hv : Dn K H Z v d) : DnK K H Z (putK kvs k v) (putP ps k d) := by
  unfold putK putP
  rw [h.any]
  split
  · exact h.upd hv
  · exact h.app hv
theorem DnK.len : ∀ {kvs : List (Key × V)} {ps : List (D × D)}, DnK K H Z kvs ps → kvs.length = ps.length
  | _, _, .nil => rfl
  | _, _, .cons _ h => by simp [DnK.len h]
theorem Dr.get {pn : List Addr} {v : V} {ps : List (D × D)} {k : Key} {d : D} (h : Dr K pn H Z v (.dict ps)) (g : getP ps k = some d) : ∃ a w, v = .ref a ∧ DGet H a (kV k) (some w) ∧ Dn K H Z w d := by
  have fin : ∀ {a : Addr} {kvs : List (Key × V)}, H a = some (.dK kvs) → DnK K H Z kvs ps → ∃ w, DGet H a (kV k) (some w) ∧ Dn K H Z w d := fun e n => by
    obtain ⟨w, g1, g2⟩ := n.get g
    exact ⟨w, g1 ▸ DGet.k e, g2⟩
  rcases h with h | ⟨a, rfl, _, h⟩
  · cases h with
    | dk _ e n =>
      obtain ⟨w, g1, g2⟩ := fin e n
      exact ⟨_, w, rfl, g1, g2⟩
    | dt _ e n => rw [n.noget] at g; cases g
  · rcases h with ⟨_, _, e, _⟩ | ⟨kvs, ps', e, h1, h2⟩ | ⟨kvs, ps', e, h1, h2, _⟩
    · cases e
    · cases e
      obtain ⟨w, g1, g2⟩ := fin h1 h2
      exact ⟨a, w, rfl, g1, g2⟩
    · cases e
      rw [h2.noget] at g; cases g
end
/-- ints and strs are the keys -/
def psK (ps : List (D × D)) : Bool := ps.all fun p => (keyD p.1).isSome
theorem getP_put {ps : List (D × D)} {k k2 : Key} {d : D} : getP (putP ps k d) k2 = if k2 = k then some d else getP ps k2 := by
  have up : ∀ qs : List (D × D), getP (qs.map fun p => if keyD p.1 = some k then (p.1, d) else p) k2 = if k2 = k then (if (qs.any fun p => decide (keyD p.1 = some k)) = true then some d else none) else getP qs k2 := fun qs => by
    induction qs with
    | nil => simp [getP]
    | cons p qs ih =>
      simp only [List.map_cons]
      unfold getP
      by_cases h : keyD p.1 = some k
      · rw [if_pos h]
        by_cases e : k2 = k
        · subst e; simp [h]
        · rw [if_neg e, if_neg (fun z => e (by rw [h] at z; exact (Option.some.inj z).symm)), if_neg (fun z => e (by rw [h] at z; exact (Option.some.inj z).symm)), ih, if_neg e]
      · rw [if_neg h]
        by_cases e : k2 = k
        · subst e
          rw [if_neg h, ih, if_pos rfl, if_pos rfl, List.any_cons, decide_eq_false h, Bool.false_or]
        · rw [ih, if_neg e, if_neg e]
  have ap : ∀ qs : List (D × D), (qs.any fun p => decide (keyD p.1 = some k)) = false → getP (qs ++ [(kD k, d)]) k2 = if k2 = k then some d else getP qs k2 := fun qs => by
    induction qs with
    | nil =>
      intro _
      simp only [List.nil_append, getP, keyD_k]
      by_cases e : k2 = k
      · simp [e]
      · rw [if_neg (fun z => e (Option.some.inj z).symm), if_neg e]
    | cons p qs ih =>
      intro h
      rw [List.any_cons, Bool.or_eq_false_iff] at h
      have h1 : keyD p.1 ≠ some k := by simpa using h.1
      rw [List.cons_append]
      unfold getP
      by_cases e : k2 = k
      · subst e
        rw [if_neg h1, ih h.2]
        simp
      · rw [ih h.2, if_neg e, if_neg e]
  unfold putP
  split
  · rename_i h
    rw [up, if_pos h]
  · rename_i h
    exact ap ps (by simpa using h)
theorem psK_put {ps : List (D × D)} {k : Key} {d : D} (h : psK ps = true) : psK (putP ps k d) = true := by
  unfold psK at h ⊢
  rw [List.all_eq_true] at h ⊢
  unfold putP
  intro p hp
  split at hp
  · obtain ⟨q, hq, rfl⟩ := List.mem_map.mp hp
    have := h q hq
    split <;> exact this
  · rcases List.mem_append.mp hp with hp | hp
    · exact h p hp
    · rw [List.mem_singleton.mp hp, keyD_k]; rfl
def gDGet (x y : D) (Q : VQ) : Prop := match x with
  | .dict ps => match (keyD y).bind (getP ps) with | some d => Q d .shr | none => False
  | _ => False
theorem gDGet_mono {x y : D} {Q Q' : VQ} (h : ∀ d k, k ≠ .bor → Q d k → Q' d k) : gDGet x y Q → gDGet x y Q' := by
  unfold gDGet
  split
  · split
    · exact h _ _ (by simp)
    · exact id
  · exact id
def wDGet (a b : Wx) : Wx := ⟨fun E ρ Q => a.run E ρ fun x _ => b.run E ρ fun y _ => gDGet x y Q, fun E E' ρ Q Q' he h q => a.mono _ _ _ _ _ he (fun _ _ z => b.mono _ _ _ _ _ he (fun _ _ z => gDGet_mono (fun d k _ => h d k) z) z) q, a.c + b.c, a.esc ++ b.esc, true, fun _ E ρ Q q => a.m _ _ _ (fun _ _ z => b.m _ _ _ (fun _ _ z => gDGet_mono (fun d k n z => ⟨n, z⟩) z) z) q⟩
@[simp] theorem run_dget {a b : Wx} {E : XQ} {ρ : En} {Q : VQ} : (wDGet a b).run E ρ Q = a.run E ρ fun x _ => b.run E ρ fun y _ => gDGet x y Q := rfl
theorem gDGet_d {ps : List (D × D)} {y : D} {Q : VQ} : gDGet (.dict ps) y Q = match (keyD y).bind (getP ps) with | some d => Q d .shr | none => False := rfl
def gOd (s : Option Sl) (R : List (D × D) → Prop) : Prop := match s with | some (.own (.dict ps)) => psK ps = true ∧ R ps | _ => False
theorem gOd_mono {s : Option Sl} {R R' : List (D × D) → Prop} (h : ∀ ds, R ds → R' ds) : gOd s R → gOd s R' := by
  unfold gOd
  split
  · exact fun z => ⟨z.1, h _ z.2⟩
  · exact id
@[simp] theorem gOd_d {ps : List (D × D)} {R : List (D × D) → Prop} : gOd (some (.own (.dict ps))) R = (psK ps = true ∧ R ps) := rfl
def gKy (y : D) (R : Key → Prop) : Prop := match keyD y with | some k => R k | none => False
theorem gKy_mono {y : D} {R R' : Key → Prop} (h : ∀ k, R k → R' k) : gKy y R → gKy y R' := by
  unfold gKy
  split
  · exact h _
  · exact id
@[simp] theorem gKy_i {i : Int} {R : Key → Prop} : gKy (.int i) R = R (.inl i) := rfl
@[simp] theorem gKy_s {s : Str} {R : Key → Prop} : gKy (.str s) R = R (.inr s) := rfl
/-- x[k] = e of an own dict -/
def sDset (is : List Nat) (i : Nat) (k e : Wx) : Ws := ⟨fun ρ P => gOd (dem ρ is)[i]? fun ps => e.run P.ex (dem ρ is) fun d kd => kd ≠ .bor ∧ k.run P.ex (dem ρ is) fun kx _ => gKy kx fun key => ps.length < sizeLine ∧ P.nx ((dem ρ is).set i (.own (.dict (putP ps key d)))),
  fun ρ P P' h q => gOd_mono (fun ps z => e.mono _ _ _ _ _ h.ex (fun d kd z => ⟨z.1, k.mono _ _ _ _ _ h.ex (fun kx _ z => gKy_mono (fun key z => ⟨z.1, h.nx _ z.2⟩) z) z.2⟩) z) q, e.c + k.c⟩
@[simp] theorem run_sdset {is : List Nat} {i : Nat} {k e : Wx} {ρ : En} {P : Pq} : (sDset is i k e).run ρ P = gOd (dem ρ is)[i]? fun ps => e.run P.ex (dem ρ is) fun d kd => kd ≠ .bor ∧ k.run P.ex (dem ρ is) fun kx _ => gKy kx fun key => ps.length < sizeLine ∧ P.nx ((dem ρ is).set i (.own (.dict (putP ps key d)))) := rfl
section
variable {X : Cx} {xw : Xw} {G : Gm} {j : Nat} {CC : Cts} (c : Cok X xw G j CC) {pos p p2 : Pos}
include c
theorem e_dget {a b : Expr} {wa wb : Wx} (ha : Pe X xw a wa) (hb : Pe X xw b wb) (hs : NoSl b := by intro _ _; rfl) : Pe X xw (.Subscript a b pos) (wDGet wa wb) := by
  have hu := hu_of' c
  refine PE.weak (pe_dget (by omega) ha hb hs) fun σ H Q ⟨H0, B, pn, fr, ρ, Z, t, ok, w⟩ => ?_
  refine ⟨H0, B, pn, fr, ρ, Z, (wb.c + t), ok.lt (by show wa.c + (wb.c + t) ≤ (wa.c + wb.c) + t; omega), wa.m _ _ _ (fun d k q x H1 s1 r1 => ?_) w⟩
  have ok1 := ok.to s1
  refine ⟨H0, B, pn, fr, ρ, Z, t, ok1, wb.m _ _ _ (fun e k' q y H2 s2 r2 => ?_) q⟩
  cases d with
  | dict ps =>
    unfold gDGet at q
    dsimp only at q
    split at q
    · rename_i dd e1
      obtain ⟨key, k1, k2⟩ := Option.bind_eq_some_iff.mp e1
      have ek := keyD_some k1
      obtain ⟨a0, w0, rfl, g1, g2⟩ := ((r1.dr ok.pnt).step s2 ok.pnz).get k2
      have ey : y = kV key := by
        subst ek
        cases key with
        | inl i => exact (r2.dr ok1.pnt).int
        | inr s => exact (r2.dr ok1.pnt).str
      subst ey
      exact ⟨a0, w0, rfl, g1, q _ _ ((s1.trans s2)) (RX.back (RX.back g2 s2) s1)⟩
    · exact q.elim
  | _ => exact q.elim
theorem z_dset {x : Str} {e k : Expr} {w wk : Wx} (is : List Nat) (i : Nat) (hk : Pe X xw k wk) (he : Pe X xw e w) (h : nmB G x i = true := by decide +kernel) (hs : ∀ env : Env, swapsWith e (some (.Subscript (.Name x p) k p2)) pos.line env = pure false := by intro _; rfl) : Ps X xw (.Assign [.Subscript (.Name x p) k p2] e pos) (sDset is i wk w) := by
  have h := nm_ok c h
  have hu := hu_of' c
  refine PS.weak (ps_dput (by omega) (pe_var h.1 h.2.1 h.2.2.1 h.2.2.2) hk he (hs _)) fun D σ H ⟨H0, B, pn0, fr, P, pn, ρ, Z, tb, px, ok, q, f⟩ => ?_
  unfold sDset at q
  dsimp only at q
  rw [f.ex] at q
  unfold gOd at q
  split at q
  · rename_i ps e0
    obtain ⟨pk, q⟩ := q
    obtain ⟨Z', hz, ok'⟩ := dem_ok is ok
    obtain ⟨a, e1, ha, h0, hp, ho⟩ := ok'.sl i _ e0
    refine ⟨H0, B, pn, fr, _, Z', (wk.c + tb), ok'.lt (by show w.c + (wk.c + tb) ≤ (w.c + wk.c) + tb; omega), w.m _ _ _ (fun d kd q v H1 s1 r1 => ?_) q⟩
    refine ⟨.ref a, e1, H0, B, pn, fr, _, Z', tb, ok'.to s1, wk.m _ _ _ (fun kx k' q' y H2 s2 r2 => ?_) q.2⟩
    unfold gKy at q'
    split at q'
    · rename_i key k1
      have ek := keyD_some k1
      have ey : y = kV key := by
        subst ek
        cases key with
        | inl i => exact (r2.dr (ok'.to s1).pnt).int
        | inr s => exact (r2.dr (ok'.to s1).pnt).str
      subst ey
      have s := s1.trans s2
      rcases ho with ⟨_, _, ed, _⟩ | ⟨kvs, ps', ed, hx, hn⟩ | ⟨kvs, ps', ed, hx, hn, ne⟩
      · cases ed
      · cases ed
        have hx' := s.keep a _ hp hx
        have hn' := DnK.keep (keepZ s ok'.pnz) (fun b z => .inl z) _ _ hn
        have dv := Dn.keep (keepZ s2 ok'.pnz) (fun b z => .inl z) _ _ (r1.dn q.1 ok'.zt)
        refine ⟨a, _, rfl, DPut.k hx' (by rw [hn'.len]; exact q'.1), ?_⟩
        refine f.nx _ _ ⟨pn, _, Z', px, (ok'.to s).chg e0 e1 ha h0 hp (.inr (.inl ⟨_, _, rfl, upd_same, ?_⟩)), q'.2⟩
        refine DnK.keep (fun b u n e => ?_) (fun b z => .inl z) _ _ (hn'.put dv)
        rw [upd_ne (fun z => n (by rw [z]; exact ha))]
        exact e
      · cases ed
        exfalso
        cases hn with
        | nil => exact ne rfl
        | cons _ _ => simp [psK, keyD] at pk
    · exact q'.elim
  · exact q.elim
end
end Y

/-! W27: sorted(set(t)) of a tuple of ints. -/
namespace Y
open PySem PySem.Spec PyProof.Rows L2 M
def rSetT (K : PySem.W.Frag) (w : World) : List V → Hp → VK → Prop := fun xs H Q => ∃ (l : Addr) (ns : List Int), xs = [.ref l] ∧ SqT K H l (ns.map V.int) ∧ ns.length < 64 ∧ ∀ p c, H p = none → c ≤ ns.length → Q (.ref p) (upd H p (SetO w p (fun j => decide (j ∈ ns)) c))
theorem cr_setT {X : Cx} (hc : X.calm = true) : CallR X (.type "set") (rSetT X.K X.w) := by
  rintro pins s σ H xs us Q I r ⟨l, ns, rfl, hq, hl, q⟩
  rw [Vals.ref1 r]
  obtain ⟨its, rv, pt, hz⟩ := I.tuple hq
  refine call_set_tupI ns (I.ok.hd hc) (show s.heap.IsTuple l its.toArray from pt) (ints_of_vals rv) (by unfold scanBound; omega) fun h' tk c R1 hcn k => ?_
  exact ⟨.ref _, upd H s.heap.objs.size (SetO X.w s.heap.objs.size (fun j => decide (j ∈ ns)) c), I.laid (t' := tk) k (Nat.le_refl _) (setO_new R1), rfl, q _ _ (I.hok.fresh (Nat.le_refl _)) hcn⟩
theorem dnl_intsV {K : PySem.W.Frag} {H : Hp} {Z : Addr → Prop} : ∀ {zs : List V} {ns : List Int}, DnL K H Z zs (ns.map PyData.int) → zs = ns.map V.int
  | _, [], h => by cases h; rfl
  | _, n :: ns, h => by
    cases h with
    | cons hv hr =>
      cases hv
      rw [dnl_intsV hr]
      rfl
theorem ints_dnl {K : PySem.W.Frag} {H : Hp} {Z : Addr → Prop} : ∀ ns : List Int, DnL K H Z (ns.map V.int) (ns.map PyData.int)
  | [] => .nil
  | n :: ns => .cons (.int n) (ints_dnl ns)
def gSSt (x : D) (Q : VQ) : Prop := ∃ ns : List Int, x = .tuple (ns.map .int) ∧ ns.length < 64 ∧ ∀ ms : List Int, ms.Pairwise (· < ·) → (∀ k, k ∈ ms ↔ k ∈ ns) → Q (.list (ms.map .int)) .own
theorem gSSt_mono {x : D} {Q Q' : VQ} (h : ∀ d k, k ≠ .bor → Q d k → Q' d k) : gSSt x Q → gSSt x Q' := fun ⟨ns, e, l, q⟩ => ⟨ns, e, l, fun ms a b => h _ _ (by simp) (q ms a b)⟩
def wSSt (a : Wx) : Wx := ⟨fun E ρ Q => a.run E ρ fun x _ => gSSt x Q, fun E E' ρ Q Q' he h q => a.mono _ _ _ _ _ he (fun _ _ z => gSSt_mono (fun d k _ => h d k) z) q, a.c, a.esc, true, fun _ E ρ Q q => a.m _ _ _ (fun _ _ z => gSSt_mono (fun d k n z => ⟨n, z⟩) z) q⟩
@[simp] theorem run_sst {a : Wx} {E : XQ} {ρ : En} {Q : VQ} : (wSSt a).run E ρ Q = a.run E ρ fun x _ => gSSt x Q := rfl
section
variable {X : Cx} {xw : Xw} {G : Gm} {j : Nat} {CC : Cts} (c : Cok X xw G j CC) {pos p p2 pos2 : Pos}
include c
theorem e_sst {a : Expr} {wa : Wx} (ha : Pe X xw a wa) (st : isStar a = false := by rfl) (hcm : G.calm = true := by rfl) (h : btB G "sorted" = true := by decide +kernel) (h2 : btB G "set" = true := by decide +kernel) : Pe X xw (.Call (.Name "sorted" p) [.Call (.Name "set" p2) [a] [] pos2] [] pos) (wSSt wa) := by
  have h := bt_ok c h
  have h2 := bt_ok c h2
  have hc := c.calm hcm
  refine PE.weak (pe_callB (cr_sortedSet hc) h.1 h.2.1 (by decide +kernel) (pa_cons (pe_callTy (cr_setT hc) h2.1 h2.2.1 (by decide +kernel) (pa_cons ha pa_nil (star_cons st)) (he := star_cons st)) pa_nil rfl)) fun σ H Q ⟨H0, B, pn, fr, ρ, Z, t, ok, w⟩ => ?_
  refine ⟨H0, B, pn, fr, ρ, Z, t, ok, wa.m _ _ _ (fun d k q x H1 s1 r1 => ?_) w⟩
  obtain ⟨ns, rfl, hl, q⟩ := q
  have ok1 := ok.to s1
  obtain ⟨b, zs, rfl, s3, n3⟩ := (r1.dr ok.pnt).tup
  have e := dnl_intsV n3
  subst e
  refine ⟨b, ns, rfl, s3.sq, hl, fun p0 c0 np hc0 => ⟨p0, _, c0, rfl, upd_same, by omega, fun ms p hp hm hlen np2 => ?_⟩⟩
  have st1 : Same H1 (upd H1 p0 (SetO X.w p0 (fun j => decide (j ∈ ns)) c0)) := M.same_upd np
  have hs1 := ok1.ss st1
  have ok2 := ok1.to hs1
  have hs2 := ok2.ss (M.same_upd (o := .lst (ms.map V.int)) np2)
  exact q ms hp (fun k => by rw [hm]; simp) _ _ ((s1.trans hs1).trans hs2) (RX.back (rx_lst np2 (ints_dnl ms)) (s1.trans hs1))
end
end Y

/-! W28: x[k] of a dict or of a sequence, as it comes; a, b = v, w where one name is a cell. -/
namespace Y
open PySem PySem.Spec PyProof.Rows L2 M
def wDc0 : Wx := ⟨fun _ _ Q => Q (.dict []) .own, fun _ _ _ _ _ _ h q => h _ _ q, 0, [], true, fun _ _ _ _ q => ⟨nbO, q⟩⟩
@[simp] theorem run_dc0 {E : XQ} {ρ : En} {Q : VQ} : wDc0.run E ρ Q = Q (.dict []) .own := rfl
def slDc : Option Sl → Bool
  | some (.val (.dict _)) => true
  | some (.own (.dict _)) => true
  | _ => false
@[simp] theorem slDc_v {ps : List (D × D)} : slDc (some (.val (.dict ps))) = true := rfl
@[simp] theorem slDc_o {ps : List (D × D)} : slDc (some (.own (.dict ps))) = true := rfl
@[simp] theorem slDc_t {ds : List D} : slDc (some (.val (.tuple ds))) = false := rfl
@[simp] theorem slDc_l {ds : List D} : slDc (some (.val (.list ds))) = false := rfl
@[simp] theorem slDc_ol {ds : List D} : slDc (some (.own (.list ds))) = false := rfl
def wSel (i : Nat) (a b : Wx) : Wx := ⟨fun E ρ Q => (slDc ρ[i]? = true → a.run E ρ Q) ∧ (slDc ρ[i]? = false → b.run E ρ Q),
  fun E E' ρ Q Q' he h q => ⟨fun z => a.mono _ _ _ _ _ he h (q.1 z), fun z => b.mono _ _ _ _ _ he h (q.2 z)⟩, a.c + b.c, a.esc ++ b.esc, a.nb && b.nb, fun n E ρ Q q => by
    rw [Bool.and_eq_true] at n
    exact ⟨fun z => a.nbo n.1 _ _ _ (q.1 z), fun z => b.nbo n.2 _ _ _ (q.2 z)⟩⟩
@[simp] theorem run_sel {i : Nat} {a b : Wx} {E : XQ} {ρ : En} {Q : VQ} : (wSel i a b).run E ρ Q = ((slDc ρ[i]? = true → a.run E ρ Q) ∧ (slDc ρ[i]? = false → b.run E ρ Q)) := rfl
section
variable {X : Cx} {xw : Xw} {G : Gm} {j : Nat} {CC : Cts} (c : Cok X xw G j CC) {pos : Pos}
include c
theorem e_sel {e : Expr} {wa wb : Wx} (i : Nat) (ha : Pe X xw e wa) (hb : Pe X xw e wb) : Pe X xw e (wSel i wa wb) := by
  refine ⟨fun pins s σ H Q I ⟨H0, B, pn, fr, ρ, Z, t, ok, q⟩ => ?_⟩
  cases z : slDc ρ[i]? with
  | true => exact ha.run pins s σ H Q I ⟨H0, B, pn, fr, ρ, Z, t, ok.lt (by show wa.c + t ≤ (wa.c + wb.c) + t; omega), q.1 z⟩
  | false => exact hb.run pins s σ H Q I ⟨H0, B, pn, fr, ρ, Z, t, ok.lt (by show wb.c + t ≤ (wa.c + wb.c) + t; omega), q.2 z⟩
theorem z_parC {x y : Str} {a b : Expr} {px py p p2 pos : Pos} {k k2} {wa wb : Wx} (is : List Nat) (i1 i2 : Nat) (ha : Pe X xw a wa) (hb : Pe X xw b wb) (h1 : tgB G x i1 = true := by decide +kernel) (h2 : tgB G y i2 = true := by decide +kernel) (hw : swNo G.sc [.Name x px, .Name y py] [a, b] = true := by decide +kernel) (sa : isStar a = false := by rfl) (sb : isStar b = false := by rfl) (hcm : G.calm = true := by rfl) :
    Ps X xw (.Assign [.Tuple [.Name x px, .Name y py] k p] (.Tuple [a, b] k2 p2) pos) (sPar is i1 i2 wa wb) := by
  have h1 := tg_okB c h1
  have h2 := tg_okB c h2
  have nd : X.N.Nodup := by rw [c.N]; exact c.nd
  refine PS.weak (ps_asg (pe_tup (pa_cons ha (pa_cons hb pa_nil (star_cons sb)) (star_cons sa))) (pg_tup (n := 2) (c.calm hcm) (pgs_cons (pg_name (i := i1) nd h1.1 h1.2.1 h1.2.2) (pgs_cons (pg_name (i := i2) nd h2.1 h2.2.1 h2.2.2) pgs_nil rfl) rfl) rfl rfl) rfl (sw_none (by rw [c.sc]; exact hw)) rfl) fun D σ H ⟨H0, B, pn0, fr, P, pn, ρ, Z, tb, px, ok, w, f⟩ => ?_
  unfold sPar at w
  dsimp only at w
  rw [f.ex] at w
  obtain ⟨Z', hz, ok'⟩ := dem_ok is ok
  refine ⟨H0, B, pn, fr, _, Z', (wb.c + tb), ok'.lt (by show wa.c + (wb.c + tb) ≤ (wa.c + wb.c) + tb; omega), wa.mono _ _ _ _ _ (fun _ z => z) (fun d k q v H1 s1 r1 => ?_) w⟩
  by_cases hk : k = .own
  · subst hk
    obtain ⟨a1, rfl, hn, ho⟩ := r1
    refine ⟨H0, B, pn, fr, _, Zp Z' a1, _, ok'.more hn s1 ho.there, wb.mono _ _ _ _ _ (fun _ z => z) (fun e k' q w' H2 s2 r2 => ?_) q⟩
    have ok1 := ok'.own i1 hn s1 ho
    obtain ⟨Z2, ok2⟩ := ok1.sto i2 s2 r2 q.2.1
    refine ⟨by simp [sizeLine_eq], fun p np => ⟨p, _, rfl, .inl (.inl upd_same), rfl, _, _, rfl, _, _, rfl, rfl, f.nx _ _ ⟨pn, _, Z2, px, ok2.to (ok2.ss (M.same_upd np)), q.2.2⟩⟩⟩
  · refine ⟨H0, B, pn, fr, _, Z', _, ok'.to s1, wb.mono _ _ _ _ _ (fun _ z => z) (fun e k' q w' H2 s2 r2 => ?_) q⟩
    have hd := r1.dn q.1 ok'.zt
    have ok1 := (ok'.to s1).val i1 hd
    obtain ⟨Z2, ok2⟩ := ok1.sto i2 s2 r2 q.2.1
    have es : slK d k = .val d := by cases k <;> first | rfl | exact absurd rfl hk
    rw [es] at q
    refine ⟨by simp [sizeLine_eq], fun p np => ⟨p, _, rfl, .inl (.inl upd_same), rfl, _, _, rfl, _, _, rfl, rfl, f.nx _ _ ⟨pn, _, Z2, px, ok2.to (ok2.ss (M.same_upd np)), q.2.2⟩⟩⟩
theorem e_dc0 : Pe X xw (.Dict [] [] pos) wDc0 := by
  refine PE.weak pe_dnewK fun σ H Q ⟨H0, B, pn, fr, ρ, Z, tb, ok, w⟩ => fun d hd => ?_
  exact w _ _ ((ok.ss (M.same_upd hd)).less (by show tb ≤ 0 + tb; omega)) ⟨d, rfl, hd, .inr (.inl ⟨[], [], rfl, upd_same, .nil⟩)⟩
end
end Y

/-! W29: x[::-1] of a tuple. -/
namespace Y
open PySem PySem.Spec PyProof PyProof.Rows L2 M
section
variable {prog : Program} {w : World} {A : Around} {E : Value → Shared → Prop} {s : Shared}
theorem adj_rev (n : Nat) : Builtin.Slice.sliceAdjust none none (-1) (n : Int) = ((n : Int) - 1, -1) := rfl
theorem plc_rev (n : Nat) : Builtin.Slice.slicePlaces ((n : Int) - 1) (-1) (-1) = n := by
  unfold Builtin.Slice.slicePlaces
  have h1 : ¬ ((-1 : Int) > 0) := by omega
  simp only [h1, if_false]
  split
  · simp
  · omega
theorem appl_rev {sl : Addr} {n : Nat} {u : Tok} {Q : Int × Int × Nat → Shared → Prop} (hs : s.heap.IsSliceOf sl .none .none (.int (-1) u)) (h : Q ((n : Int) - 1, -1, n) s) :
    wpAny (model prog w) A (Builtin.Slice.sliceApplied (.ref sl) (pure (n : Int))) Q E s := by
  obtain ⟨os, hos, hcs, hds⟩ := id hs
  unfold Builtin.Slice.sliceApplied Builtin.Slice.sliceFields
  refine wpAny_bind (wpAny_bind (wpAny_field hos hds (x := .none) rfl (wpAny_bind (wpAny_field hos hds (x := .none) rfl (wpAny_bind (wpAny_field hos hds (x := .int (-1) u) rfl (wpAny_pure ?_)))))))
  refine wpAny_bind (slicePart_int ?_)
  show wpAny _ _ (if ((-1 : Int) == 0) = true then _ else _) _ _ s
  rw [if_neg (by decide)]
  refine wpAny_bind (slicePart_none (wpAny_bind (slicePart_none (wpAny_bind (wpAny_pure ?_)))))
  show wpAny _ _ (match Builtin.Slice.sliceAdjust none none (-1) (n : Int) with | (lo, hi) => pure (lo, (-1 : Int), Builtin.Slice.slicePlaces lo hi (-1))) _ _ s
  rw [adj_rev n]
  show wpAny _ _ (pure ((n : Int) - 1, (-1 : Int), Builtin.Slice.slicePlaces ((n : Int) - 1) (-1) (-1))) _ _ s
  rw [plc_rev n]
  exact wpAny_pure h
theorem pick_rev (xs : Array Value) : ((List.range xs.size).filterMap fun (k : Nat) => xs[(((xs.size : Int) - 1) + (k : Int) * (-1)).toNat]?).toArray = xs.toList.reverse.toArray := by
  have e : (List.range xs.size).filterMap (fun (k : Nat) => xs[(((xs.size : Int) - 1) + (k : Int) * (-1)).toNat]?) = ((List.range xs.size).map fun k => xs.size - 1 - k).filterMap (xs[·]?) := by
    rw [List.filterMap_map]
    have go : ∀ l : List Nat, (∀ k ∈ l, k < xs.size) → l.filterMap (fun (k : Nat) => xs[(((xs.size : Int) - 1) + (k : Int) * (-1)).toNat]?) = l.filterMap ((fun i => xs[i]?) ∘ fun k => xs.size - 1 - k) := fun l => by
      induction l with
      | nil => intro _; rfl
      | cons k l ih =>
        intro h
        have h1 := h k List.mem_cons_self
        have e2 : (((xs.size : Int) - 1) + (k : Int) * (-1)).toNat = xs.size - 1 - k := by omega
        rw [List.filterMap_cons, List.filterMap_cons, ih fun i hi => h i (List.mem_cons_of_mem _ hi), e2]
        rfl
    exact go _ fun k hk => List.mem_range.mp hk
  rw [e, PySem.W.krv_range, List.filterMap_reverse, PySem.W.krv_all]
theorem gi_tup_rev {t sl : Addr} {items : Array Value} {u : Tok} {Q : Value → Shared → Prop} (ht : IsTup s.heap t items) (hs : s.heap.IsSliceOf sl .none .none (.int (-1) u))
    (h : Q (.ref s.heap.objs.size) { s with heap := s.heap.push { cls := .type "tuple", data := .seq items.toList.reverse.toArray } })
    (hsz : items.size ≤ sizeLine) : wpAny (model prog w) A (getItem (.ref t) (.ref sl)) Q E s := by
  have hdrop : sizeOk (.seq items.toList.reverse.toArray) := by
    show items.toList.reverse.toArray.size ≤ sizeLine
    rw [List.size_toArray, List.length_reverse, Array.length_toList]
    omega
  obtain ⟨os, hos, hcs, hds⟩ := id hs
  have hTs : s.TypeIs (.ref sl) "slice" := ⟨os, hos, hcs⟩
  unfold getItem
  try with_reducible refine wpAny_holding ?_
  first | refine wpAny_bind (wpAny_pure ?_) | skip
  refine wpAny_bind (wpAny_sequenceKey ht.typeIs (by decide) ?_)
  refine wpAny_bind (wpAny_callSpecial?_slot (name := Str.ofString "__getitem__") ht.typeIs slot_tuple_getitem
    (wpAny_call_entry slot_tuple_getitem ht.typeIs entry_tuple_getitem ?_ (args_tuple_getitem _ _)))
  show wpAny _ _ (Builtin.Tuple.tupleItemsOf (.ref t) >>= _) _ _ s
  refine wpAny_bind (tupleItemsOf_ ht ?_)
  refine wpAny_bind (wpAny_typeOf hTs ?_)
  rw [if_pos (by decide)]
  refine wpAny_bind (appl_rev hs ?_)
  show wpAny _ _ (if (((items.size : Int) - 1) == 0 && (-1 : Int) == 1 && items.size == items.size) = true then _ else _) _ _ s
  rw [if_neg (by simp), pick_rev items]
  first
    | exact wpAny_bind (m := Builtin.Tuple.tupleExact _) (wpAny_newObj_type (wpAny_pure ⟨_, rfl, wpAny_pure h⟩) hdrop)
    | exact wpAny_bind (m := Builtin.Tuple.tupleExact _) (wpAny_newObj_type (wpAny_bind (wpAny_pure (wpAny_pure ⟨_, rfl, wpAny_pure h⟩))) hdrop)
    | exact wpAny_bind (wpAny_bind (m := Builtin.Tuple.tupleExact _) (wpAny_newObj_type (wpAny_pure (wpAny_pure ⟨_, rfl, wpAny_pure h⟩)) hdrop))
    | exact wpAny_bind (wpAny_bind (m := Builtin.Tuple.tupleExact _) (wpAny_newObj_type (wpAny_pure ⟨_, rfl, wpAny_pure h⟩) hdrop))
end
section
variable {X : Cx} {xw : Xw}
def tRevT (K : PySem.W.Frag) (te : TE) : TE := fun σ H Q => te σ H fun x H1 => ∃ a xs, x = .ref a ∧ SqT K H1 a xs ∧ ∀ p, H1 p = none → Q (.ref p) (upd H1 p (.tup xs.reverse))
theorem pe_revT {e : Expr} {te : TE} {k : Nat} {p1 p2 p3 pos : Pos} (he : PE X e te) : PE X (.Subscript e (.Slice none none (some (.UnaryOp .USub (.Constant (.int 1) k p1) p2)) p3) pos) (tRevT X.K te) := by
  refine ⟨fun pins s σ H Q I h => ?_⟩
  refine Subscript_ (thn (he.run pins s σ H _ I h) fun v s1 ⟨x, H1, I1, r1, q1⟩ => ?_)
  have hst : PO X (some (.UnaryOp .USub (.Constant (.int 1) k p1) p2)) (tPart (tUn (rU fun i => .int (-i)) (tC (.int 1)))) := po_some (pe_un un_neg pe_int)
  refine wpAny_Slice (thn (po_none.run pins s1 σ H1 (fun o H2 => o = none ∧ H2 = H1) I1 ⟨rfl, rfl⟩) fun vl s2 ⟨l, H2, I2, pl, el, e2⟩ => ?_)
  subst el e2
  refine thn (po_none.run pins s2 σ H2 (fun o H3 => o = none ∧ H3 = H2) I2 ⟨rfl, rfl⟩) fun vu s3 ⟨u, H3, I3, pu, eu, e3⟩ => ?_
  subst eu e3
  refine thn (hst.run pins s3 σ H3 (fun o H4 => o = some (-1) ∧ H4 = H3) I3 ⟨1, rfl, -1, rfl, rfl, rfl⟩) fun vs s4 ⟨o, H4, I4, ps, eo, e4⟩ => ?_
  subst eo e4
  cases pl
  cases pu
  obtain ⟨ll, rfl, el⟩ := IsPart.raw ps
  obtain ⟨tk, rfl⟩ : ∃ tk, ll = some (-1, tk) := by
    cases ll with
    | none => cases el
    | some z =>
      obtain ⟨i, tk⟩ := z
      cases el
      exact ⟨tk, rfl⟩
  have I5 : L2.Inv X pins σ H4 { s4 with heap := s4.heap.push { cls := .type "slice", data := .fields #[.none, .none, .int (-1) tk] } } := I4.kept (t' := s4.toks) fun b ob q => Heap.get?_push_of_some _ q
  obtain ⟨a, xs, rfl, hx, q⟩ := q1
  cases r1
  obtain ⟨its, r, ht, hz⟩ := I5.tuple hx
  have hlen := r.length
  show wpAny (model X.prog X.w) X.A (subscriptTail e (.Slice none none (some (.UnaryOp .USub (.Constant (.int 1) k p1) p2)) p3) (.ref a) (.ref s4.heap.objs.size)) (EP X pins σ Q) X.xe { s4 with heap := s4.heap.push { cls := .type "slice", data := .fields #[.none, .none, .int (-1) tk] } }
  refine tail_any (ops := [.ref a, .ref s4.heap.objs.size]) ht.typeIs (slot_tuple_getitem.lookup) ?_ (by with_unfolding_all rfl)
  refine gi_tup_rev ht (Heap.IsSliceOf.new _ _ _ _) ?_ (by rw [List.size_toArray]; omega)
  refine ⟨.ref _, _, I5.laid (t' := s4.toks) (o := .tup xs.reverse) (fun b ob q => Heap.get?_push_of_some _ q) (Nat.le_refl _) ?_, rfl, q _ (I5.hok.fresh (Nat.le_refl _))⟩
  exact (show ObjOk X.prog X.w _ _ _ (.tup xs.reverse) from ⟨by rw [List.length_reverse]; exact hz, its.reverse, r.reverse, ⟨_, Heap.get?_push_size _ rfl, rfl, 0, rfl⟩⟩)
end
def gRevT (x : D) (Q : VQ) : Prop := match x with | .tuple ds => Q (.tuple ds.reverse) .shr | _ => False
theorem gRevT_mono {x : D} {Q Q' : VQ} (h : ∀ d k, k ≠ .bor → Q d k → Q' d k) : gRevT x Q → gRevT x Q' := by
  unfold gRevT
  split
  · exact h _ _ (by simp)
  · exact id
def wRevT (a : Wx) : Wx := ⟨fun E ρ Q => a.run E ρ fun x _ => gRevT x Q, fun E E' ρ Q Q' he h q => a.mono _ _ _ _ _ he (fun _ _ z => gRevT_mono (fun d k _ => h d k) z) q, a.c, a.esc, true, fun _ E ρ Q q => a.m _ _ _ (fun _ _ z => gRevT_mono (fun d k n z => ⟨n, z⟩) z) q⟩
@[simp] theorem run_revT {a : Wx} {E : XQ} {ρ : En} {Q : VQ} : (wRevT a).run E ρ Q = a.run E ρ fun x _ => gRevT x Q := rfl
@[simp] theorem gRevT_t {ds : List D} {Q : VQ} : gRevT (.tuple ds) Q = Q (.tuple ds.reverse) .shr := rfl
section
variable {X : Cx} {xw : Xw} {G : Gm} {j : Nat} {CC : Cts} (c : Cok X xw G j CC) {pos p p2 p3 : Pos}
include c
theorem e_revT {a : Expr} {wa : Wx} {k} (ha : Pe X xw a wa) : Pe X xw (.Subscript a (.Slice none none (some (.UnaryOp .USub (.Constant (.int 1) k p) p2)) p3) pos) (wRevT wa) := by
  refine (pe_revT ha).weak fun σ H Q ⟨H0, B, pn, fr, ρ, Z, tb, ok, w⟩ => ?_
  refine ⟨H0, B, pn, fr, ρ, Z, tb, ok, wa.m _ _ _ (fun d k q x H1 s1 r1 => ?_) w⟩
  cases d with
  | tuple ds =>
    obtain ⟨a, xs, rfl, sx, n⟩ := (r1.dr ok.pnt).tup
    exact ⟨a, xs, rfl, sx.sq, fun p np => q _ _ (s1.trans ((ok.to s1).ss (M.same_upd np))) (rx_tup (pn := pn) (ok.to s1).zt np n.reverse)⟩
  | _ => exact q.elim
end
end Y

/-! W30: zip of two things walked by draws: lists, tuples, texts. -/
namespace Y
open PySem PySem.Spec PyProof PyProof.Rows L2 M
/-- the zip object z, its tuple of iterators TI, its result TO, the iterators and what they look at -/
structure ZAp (z TI TO i1 i2 : Addr) (f1 f2 : List Addr) : Prop where
  a1 : TI ≠ z
  a2 : TO ≠ z
  a3 : TI ≠ TO
  a4 : TI ≠ i1
  a5 : TI ≠ i2
  z1 : z ∉ f1
  z2 : z ∉ f2
  o1 : TO ∉ f1
  o2 : TO ∉ f2
  m1 : i1 ∈ f1
  m2 : i2 ∈ f2
  n1 : i1 ∉ f2
  n2 : i2 ∉ f1
section
variable {prog : Program} {w : World} {A : Around} {E : Value → Shared → Prop} {s : Shared}
variable {z TI TO i1 i2 : Addr} {f1 f2 : List Addr} {k n1 n2 : Nat} {P1 P2 : Nat → Value → Prop} {S1 S2 : Nat → Heap → Prop} {a b : Value}
theorem ne_mem {l : List Addr} {x y : Addr} (h : x ∈ l) (n : y ∉ l) : x ≠ y := fun e => n (e ▸ h)
theorem gz_item {Q : Value → Shared → Prop} (ap : ZAp z TI TO i1 i2 f1 f2) (D1 : Draws prog w A i1 f1 n1 P1 S1) (D2 : Draws prog w A i2 f2 n2 P2 S2) (hz : IsZip s.heap z TI TO .none) (hTI : IsPair s.heap TI (.ref i1) (.ref i2)) (hTO : IsPair s.heap TO a b)
    (t1 : S1 k s.heap) (t2 : S2 k s.heap) (l1 : k < n1) (l2 : k < n2)
    (hQ : ∀ x y h' tk, P1 k x → P2 k y → IsZip h' z TI TO (rawInt s.heap.objs.size) → IsPair h' TI (.ref i1) (.ref i2) → IsPair h' TO x y → S1 (k + 1) h' → S2 (k + 1) h' → IsPair h' s.heap.objs.size x y →
      (∀ c o, c ≠ z → c ≠ TO → c ≠ i1 → c ≠ i2 → s.heap.get? c = some o → h'.get? c = some o) → Q (.ref s.heap.objs.size) { s with heap := h', toks := tk }) :
    wpAny (model prog w) A (Builtin.«zip.__next__» ⟨[.ref z], []⟩) (fun fin s' => ∃ v, fin = .done (.ret v) ∧ Q v s') E s := by
  have i1z : i1 ≠ z := ne_mem ap.m1 ap.z1
  have i2z : i2 ≠ z := ne_mem ap.m2 ap.z2
  have i1o : i1 ≠ TO := ne_mem ap.m1 ap.o1
  have i2o : i2 ≠ TO := ne_mem ap.m2 ap.o2
  have i12 : i1 ≠ i2 := ne_mem ap.m1 ap.n2
  obtain ⟨hp, g, d, tk0, os⟩ := s
  dsimp only at hz hTI hTO t1 t2 hQ
  show wpAny _ _ (field (.ref z) 2 >>= _) _ _ _
  refine wpAny_bind (wpAny_field hz rfl (x := .bool false) rfl ?_)
  show wpAny _ _ (field (.ref z) 3 >>= _) _ _ _
  refine wpAny_bind (wpAny_field hz rfl (x := .ref TI) rfl (wpAny_bind (wpAny_seqItems hTI rfl ?_)))
  show wpAny _ _ (Builtin.SmallTypes.ownedTupleIsFree (.ref z) >>= _) _ _ _
  refine wpAny_bind ?_
  unfold Builtin.SmallTypes.ownedTupleIsFree
  refine wpAny_bind (wpAny_field hz rfl (x := .none) rfl (wpAny_pure ?_))
  simp only [if_true]
  refine wpAny_bind (wpAny_rule (wpAny_bind (wpAny_field hz rfl (x := .ref TO) rfl (wpAny_bind (wpAny_setField_rec hz (by simp) fun h₁ hz₁ hs₁ => ?_)))))
  replace hz₁ : IsZip h₁ z TI TO .ellipsis := hz₁
  replace hs₁ : Heap.SameBut z hp h₁ := hs₁
  refine wpAny_bind ?_
  simp only [List.zipIdx_cons, List.zipIdx_nil, List.forIn_cons, List.forIn_nil]
  refine wpAny_bind (wpAny_bind (wpAny_onRaise ?_))
  show wpAny _ _ (Builtin.SmallTypes.nextOf (.ref i1) >>= _) _ _ ⟨h₁, g, d, tk0, os⟩
  refine wpAny_bind (D1.item k _ _ _ l1 (D1.frame _ _ _ t1 fun c hc o e => hs₁.extBut c o (ne_mem hc ap.z1) e) fun x h₂ tk1 px t1' hs₂ => wpAny_pure ?_)
  replace hs₂ : Heap.SameBut i1 h₁ h₂ := hs₂
  have o2 : IsPair h₂ TO a b := hs₂.extBut _ _ i1o.symm (hs₁.extBut _ _ ap.a2 hTO)
  show wpAny _ _ _ _ _ ⟨h₂, g, d, tk1, os⟩
  refine wpAny_bind (wpAny_seqItems o2 rfl (wpAny_bind (wpAny_updateSeq_pair o2 fun h₃ o3 hs₃ => wpAny_bind (wpAny_letGo (wpAny_pure ?_)))))
  replace o3 : IsPair h₃ TO x b := o3
  replace hs₃ : Heap.SameBut TO h₂ h₃ := hs₃
  refine wpAny_bind (wpAny_bind (wpAny_onRaise ?_))
  show wpAny _ _ (Builtin.SmallTypes.nextOf (.ref i2) >>= _) _ _ ⟨h₃, g, d, tk1, os⟩
  refine wpAny_bind (D2.item k _ _ _ l2 (D2.frame _ _ _ t2 fun c hc o e => hs₃.extBut c o (ne_mem hc ap.o2) (hs₂.extBut c o (ne_mem hc ap.n1) (hs₁.extBut c o (ne_mem hc ap.z2) e))) fun y h₄ tk2 py t2' hs₄ => wpAny_pure ?_)
  replace hs₄ : Heap.SameBut i2 h₃ h₄ := hs₄
  have o4 : IsPair h₄ TO x b := hs₄.extBut _ _ i2o.symm o3
  show wpAny _ _ _ _ _ ⟨h₄, g, d, tk2, os⟩
  refine wpAny_bind (wpAny_seqItems o4 rfl (wpAny_bind (wpAny_updateSeq_pair o4 fun h₅ o5 hs₅ => wpAny_bind (wpAny_letGo (wpAny_pure (wpAny_pure ?_))))))
  replace o5 : IsPair h₅ TO x y := o5
  replace hs₅ : Heap.SameBut TO h₄ h₅ := hs₅
  show wpAny _ _ _ _ _ ⟨h₅, g, d, tk2, os⟩
  refine wpAny_bind (wpAny_seqItems o5 rfl (wpAny_bind (wpAny_newTuple ?_)))
  have sz : h₅.objs.size = hp.objs.size := by rw [hs₅.1, hs₄.1, hs₃.1, hs₂.1, hs₁.1]
  have z5 : IsZip h₅ z TI TO .ellipsis := hs₅.extBut _ _ ap.a2.symm (hs₄.extBut _ _ i2z.symm (hs₃.extBut _ _ ap.a2.symm (hs₂.extBut _ _ i1z.symm hz₁)))
  have k5 : ∀ c o, c ≠ z → c ≠ TO → c ≠ i1 → c ≠ i2 → hp.get? c = some o → h₅.get? c = some o := fun c o c1 c2 c3 c4 e => hs₅.extBut _ _ c2 (hs₄.extBut _ _ c4 (hs₃.extBut _ _ c2 (hs₂.extBut _ _ c3 (hs₁.extBut _ _ c1 e))))
  have zlt : z < h₅.objs.size := Heap.lt_size z5
  show wpAny _ _ (Builtin.SmallTypes.ownedTupleHandOut (.ref z) (.ref h₅.objs.size) >>= _) _ _ _
  refine wpAny_bind ?_
  unfold Builtin.SmallTypes.ownedTupleHandOut
  have z6 : IsZip (h₅.push { cls := .type "tuple", data := .seq #[x, y] }) z TI TO .ellipsis := Heap.get?_push_of_some _ z5
  refine wpAny_bind (wpAny_setField_rec z6 (by simp) fun h₇ z7 hs₇ => ?_)
  replace z7 : IsZip h₇ z TI TO (rawInt h₅.objs.size) := z7
  refine wpAny_setField_rec z7 (by simp) fun h₈ z8 hs₈ => ?_
  replace z8 : IsZip h₈ z TI TO (rawInt h₅.objs.size) := z8
  have up : ∀ c o, c ≠ z → h₅.get? c = some o → h₈.get? c = some o := fun c o c1 e => hs₈.extBut _ _ c1 (hs₇.extBut _ _ c1 (Heap.get?_push_of_some _ e))
  have t8 : IsPair h₈ h₅.objs.size x y := hs₈.extBut _ _ (Nat.ne_of_gt zlt) (hs₇.extBut _ _ (Nat.ne_of_gt zlt) (Heap.get?_push_size _ rfl))
  rw [sz] at z8 t8
  refine wpAny_pure ⟨_, rfl, ?_⟩
  show Q (.ref h₅.objs.size) _
  rw [sz]
  refine hQ x y h₈ tk2 px py z8 (up _ _ ap.a1 (k5 _ _ ap.a1 ap.a3 ap.a4 ap.a5 hTI)) (up _ _ ap.a2 o5) ?_ ?_ t8 fun c o c1 c2 c3 c4 e => up c o c1 (k5 c o c1 c2 c3 c4 e)
  · exact D1.frame _ _ _ t1' fun c hc o e => up c o (ne_mem hc ap.z1) (hs₅.extBut _ _ (ne_mem hc ap.o1) (hs₄.extBut _ _ (ne_mem hc ap.n2) (hs₃.extBut _ _ (ne_mem hc ap.o1) e)))
  · exact D2.frame _ _ _ t2' fun c hc o e => up c o (ne_mem hc ap.z2) (hs₅.extBut _ _ (ne_mem hc ap.o2) e)
theorem gz_end {Q : Fin → Shared → Prop} (ap : ZAp z TI TO i1 i2 f1 f2) (D1 : Draws prog w A i1 f1 n1 P1 S1) (D2 : Draws prog w A i2 f2 n2 P2 S2) (hz : IsZip s.heap z TI TO .none) (hTI : IsPair s.heap TI (.ref i1) (.ref i2)) (hTO : IsPair s.heap TO a b)
    (t1 : S1 k s.heap) (t2 : S2 k s.heap) (l : k = n1 ∨ (k < n1 ∧ k = n2))
    (hE : ∀ h' e, (∀ c o, c ≠ z → c ≠ TO → c ≠ i1 → c ≠ i2 → s.heap.get? c = some o → h'.get? c = some o) → (∃ o, h'.get? e = some o ∧ o.cls = .type "StopIteration") → ∀ tk, E (.ref e) { s with heap := h', toks := tk }) :
    wpAny (model prog w) A (Builtin.«zip.__next__» ⟨[.ref z], []⟩) Q E s := by
  have i1z : i1 ≠ z := ne_mem ap.m1 ap.z1
  have i2z : i2 ≠ z := ne_mem ap.m2 ap.z2
  have i1o : i1 ≠ TO := ne_mem ap.m1 ap.o1
  have i2o : i2 ≠ TO := ne_mem ap.m2 ap.o2
  obtain ⟨hp, g, d, tk0, os⟩ := s
  dsimp only at hz hTI hTO t1 t2 hE
  show wpAny _ _ (field (.ref z) 2 >>= _) _ _ _
  refine wpAny_bind (wpAny_field hz rfl (x := .bool false) rfl ?_)
  show wpAny _ _ (field (.ref z) 3 >>= _) _ _ _
  refine wpAny_bind (wpAny_field hz rfl (x := .ref TI) rfl (wpAny_bind (wpAny_seqItems hTI rfl ?_)))
  show wpAny _ _ (Builtin.SmallTypes.ownedTupleIsFree (.ref z) >>= _) _ _ _
  refine wpAny_bind ?_
  unfold Builtin.SmallTypes.ownedTupleIsFree
  refine wpAny_bind (wpAny_field hz rfl (x := .none) rfl (wpAny_pure ?_))
  simp only [if_true]
  refine wpAny_bind (wpAny_rule (wpAny_bind (wpAny_field hz rfl (x := .ref TO) rfl (wpAny_bind (wpAny_setField_rec hz (by simp) fun h₁ hz₁ hs₁ => ?_)))))
  replace hz₁ : IsZip h₁ z TI TO .ellipsis := hz₁
  replace hs₁ : Heap.SameBut z hp h₁ := hs₁
  refine wpAny_bind ?_
  simp only [List.zipIdx_cons, List.zipIdx_nil, List.forIn_cons, List.forIn_nil]
  refine wpAny_bind (wpAny_bind (wpAny_onRaise ?_))
  show wpAny _ _ (Builtin.SmallTypes.nextOf (.ref i1) >>= _) _ _ ⟨h₁, g, d, tk0, os⟩
  have u1 : S1 k h₁ := D1.frame _ _ _ t1 fun c hc o e => hs₁.extBut c o (ne_mem hc ap.z1) e
  rcases l with l | ⟨l, l'⟩
  · subst l
    refine wpAny_bind (D1.done _ _ _ u1 fun h₂ e hs₂ ⟨oe, he, hc⟩ => ?_)
    have z2 : IsZip h₂ z TI TO .ellipsis := hs₂ _ _ i1z.symm hz₁
    have ez : e ≠ z := fun x => by subst x; rw [z2] at he; cases he; simp at hc
    exact wpAny_setField_rec z2 (by simp) fun h₃ _ hs₃ => hE h₃ e (fun c o c1 _ c3 _ x => hs₃.extBut _ _ c1 (hs₂ _ _ c3 (hs₁.extBut _ _ c1 x))) ⟨oe, hs₃.extBut _ _ ez he, hc⟩ tk0
  · subst l'
    refine wpAny_bind (D1.item k _ _ _ l u1 fun x h₂ tk1 px t1' hs₂ => wpAny_pure ?_)
    replace hs₂ : Heap.SameBut i1 h₁ h₂ := hs₂
    have o2 : IsPair h₂ TO a b := hs₂.extBut _ _ i1o.symm (hs₁.extBut _ _ ap.a2 hTO)
    show wpAny _ _ _ _ _ ⟨h₂, g, d, tk1, os⟩
    refine wpAny_bind (wpAny_seqItems o2 rfl (wpAny_bind (wpAny_updateSeq_pair o2 fun h₃ o3 hs₃ => wpAny_bind (wpAny_letGo (wpAny_pure ?_)))))
    replace hs₃ : Heap.SameBut TO h₂ h₃ := hs₃
    refine wpAny_bind (wpAny_bind (wpAny_onRaise ?_))
    show wpAny _ _ (Builtin.SmallTypes.nextOf (.ref i2) >>= _) _ _ ⟨h₃, g, d, tk1, os⟩
    refine wpAny_bind (D2.done _ _ _ (D2.frame _ _ _ t2 fun c hc o e => hs₃.extBut c o (ne_mem hc ap.o2) (hs₂.extBut c o (ne_mem hc ap.n1) (hs₁.extBut c o (ne_mem hc ap.z2) e))) fun h₄ e hs₄ ⟨oe, he, hc⟩ => ?_)
    have z4 : IsZip h₄ z TI TO .ellipsis := hs₄ _ _ i2z.symm (hs₃.extBut _ _ ap.a2.symm (hs₂.extBut _ _ i1z.symm hz₁))
    have ez : e ≠ z := fun x => by subst x; rw [z4] at he; cases he; simp at hc
    exact wpAny_setField_rec z4 (by simp) fun h₅ _ hs₅ => hE h₅ e (fun c o c1 c2 c3 c4 x => hs₅.extBut _ _ c1 (hs₄ _ _ c4 (hs₃.extBut _ _ c2 (hs₂.extBut _ _ c3 (hs₁.extBut _ _ c1 x))))) ⟨oe, hs₅.extBut _ _ ez he, hc⟩ tk1
theorem gz_next {Q : Option Value → Shared → Prop} (ap : ZAp z TI TO i1 i2 f1 f2) (D1 : Draws prog w A.in1 i1 f1 n1 P1 S1) (D2 : Draws prog w A.in1 i2 f2 n2 P2 S2) (hz : IsZip s.heap z TI TO .none) (hTI : IsPair s.heap TI (.ref i1) (.ref i2)) (hTO : IsPair s.heap TO a b)
    (t1 : S1 k s.heap) (t2 : S2 k s.heap) (l1 : k < n1) (l2 : k < n2)
    (hQ : ∀ x y h' tk, P1 k x → P2 k y → IsZip h' z TI TO (rawInt s.heap.objs.size) → IsPair h' TI (.ref i1) (.ref i2) → IsPair h' TO x y → S1 (k + 1) h' → S2 (k + 1) h' → IsPair h' s.heap.objs.size x y →
      (∀ c o, c ≠ z → c ≠ TO → c ≠ i1 → c ≠ i2 → s.heap.get? c = some o → h'.get? c = some o) → Q (some (.ref s.heap.objs.size)) { s with heap := h', toks := tk }) : wpAny (model prog w) A (pyNext (.ref z)) Q E s := by
  have hT : s.TypeIs (.ref z) "zip" := ⟨_, hz, rfl⟩
  unfold pyNext
  exact wpAny_bind (wpAny_attempt (wpAny_callSpecial?_slot (name := Str.ofString "__next__") hT F.slot_zip_next (wpAny_call_entry F.slot_zip_next hT F.entry_zip_next (gz_item ap D1 D2 hz hTI hTO t1 t2 l1 l2 fun x y h' tk a1 a2 a3 a4 a5 a6 a7 a8 a9 => wpAny_pure (hQ x y h' tk a1 a2 a3 a4 a5 a6 a7 a8 a9)) (F.args_zip_next_1 _))))
theorem gz_stop {Q : Option Value → Shared → Prop} (ap : ZAp z TI TO i1 i2 f1 f2) (D1 : Draws prog w A.in1 i1 f1 n1 P1 S1) (D2 : Draws prog w A.in1 i2 f2 n2 P2 S2) (hz : IsZip s.heap z TI TO .none) (hTI : IsPair s.heap TI (.ref i1) (.ref i2)) (hTO : IsPair s.heap TO a b)
    (t1 : S1 k s.heap) (t2 : S2 k s.heap) (l : k = n1 ∨ (k < n1 ∧ k = n2)) (hQ : ∀ h' tk, (∀ c o, c ≠ z → c ≠ TO → c ≠ i1 → c ≠ i2 → s.heap.get? c = some o → h'.get? c = some o) → Q none { s with heap := h', toks := tk }) : wpAny (model prog w) A (pyNext (.ref z)) Q E s := by
  have hT : s.TypeIs (.ref z) "zip" := ⟨_, hz, rfl⟩
  unfold pyNext
  refine wpAny_bind (wpAny_attempt (wpAny_callSpecial?_slot (name := Str.ofString "__next__") hT F.slot_zip_next (wpAny_call_entry F.slot_zip_next hT F.entry_zip_next (gz_end ap D1 D2 hz hTI hTO t1 t2 l fun h' e hk he tk => ?_) (F.args_zip_next_1 _))))
  obtain ⟨o, ho, hc⟩ := he
  exact wpAny_bind (wpAny_isInstance (T := "StopIteration") (b := true) ⟨o, ho, hc⟩ isSubtype_stop (wpAny_pure (hQ _ tk hk)))
end
/-! ### what is drawn from -/
inductive Kz where | lst (a : Addr) | tup (a : Addr) | str (x : Str) (t : Tok)
def Kz.val : Kz → Value | .lst a => .ref a | .tup a => .ref a | .str x t => .str x t
def Kz.v : Kz → V | .lst a => .ref a | .tup a => .ref a | .str x _ => .str x
def Kz.obj : Kz → Obj
  | .lst a => { cls := .type "list_iterator", data := .fields #[.ref a, .int 0 0] }
  | .tup a => { cls := .type "tuple_iterator", data := .fields #[.ref a, .int 0 0] }
  | .str x t => { cls := .type (strIterType x), data := .fields #[.str x t, .int 0 0] }
def Kz.has (h : Heap) (its : Array Value) : Kz → Prop
  | .lst a => h.IsList a its
  | .tup a => h.IsTuple a its
  | .str _ _ => True
def Kz.pos (h : Heap) (it : Addr) (i : Nat) : Kz → Prop
  | .lst a => h.IsListIter it a i
  | .tup a => h.IsTupleIter it a i
  | .str x t => h.IsStrIter it (strIterType x) x t i
/-- where it lies -/
def Kz.at_ : Kz → List Addr | .lst a => [a] | .tup a => [a] | .str _ _ => []
def Zs (K : PySem.W.Frag) (H : Hp) (xs : List V) : Kz → Prop
  | .lst a => SqL K H a xs
  | .tup a => SqT K H a xs
  | .str x _ => xs = x.cps.toList.map fun c => V.str ⟨#[c]⟩
theorem tup_push {h : Heap} {l : Addr} {its : Array Value} (o : Obj) (x : h.IsTuple l its) : (h.push o).IsTuple l its := x.elim fun ob e => ⟨ob, Heap.get?_push_of_some _ e.1, e.2⟩
section
variable {prog : Program} {w : World} {A : Around} {E : Value → Shared → Prop} {s : Shared}
theorem Kz.has_push {κ : Kz} {h : Heap} {its : Array Value} (x : κ.has h its) (o : Obj) : κ.has (h.push o) its := by
  cases κ with
  | lst a => exact Heap.IsList.push x o
  | tup a => exact tup_push o x
  | str _ _ => trivial
theorem Kz.iter {κ : Kz} {its : Array Value} {Q : Value → Shared → Prop} (x : κ.has s.heap its) (q : Q (.ref s.heap.objs.size) { s with heap := s.heap.push κ.obj }) : wpAny (model prog w) A (pyIter κ.val) Q E s := by
  cases κ with
  | lst a => exact wpAny_pyIter_list x q
  | tup a => exact wpAny_pyIter_tuple x q
  | str x t => exact wpAny_pyIter_strU q
theorem Kz.pos_at {κ : Kz} {h h' : Heap} {it : Addr} {i : Nat} (x : κ.pos h it i) (k : ∀ o, h.get? it = some o → h'.get? it = some o) : κ.pos h' it i := by
  cases κ with
  | lst a => exact Heap.IsListIter.at x k
  | tup a => exact Heap.IsTupleIter.at x k
  | str y t => obtain ⟨o, e, r⟩ := x; exact ⟨o, k o e, r⟩
theorem Kz.pos_new {κ : Kz} {h : Heap} {it : Addr} (e : h.get? it = some κ.obj) : κ.pos h it 0 := by
  cases κ with
  | lst a => exact ⟨_, e, rfl, rfl⟩
  | tup a => exact ⟨_, e, rfl, rfl⟩
  | str y t => exact ⟨_, e, rfl, rfl⟩
theorem Kz.pos_obj {κ : Kz} {h : Heap} {it : Addr} {i : Nat} (x : κ.pos h it i) : ∃ o, h.get? it = some o ∧ ∀ v, o.data ≠ .cell v := by
  cases κ <;> obtain ⟨o, e, _, d⟩ := x <;> exact ⟨o, e, fun v z => by rw [d] at z; cases z⟩
def zO (v : Addr) (u : Addr) : Obj := { cls := .type "tuple", data := .seq #[.ref v, .ref u] }
def zZ (v : Addr) (u : Addr) : Obj := { cls := .type "zip", data := .fields #[.none, .bool false, .bool false, .ref v, .ref u] }
def zN1 (κ1 : Kz) (h : Heap) : Heap := h.push κ1.obj
def zN2 (κ1 κ2 : Kz) (h : Heap) : Heap := (zN1 κ1 h).push κ2.obj
def zN3 (κ1 κ2 : Kz) (h : Heap) : Heap := (zN2 κ1 κ2 h).push (zO h.objs.size (zN1 κ1 h).objs.size)
def zN4 (κ1 κ2 : Kz) (h : Heap) : Heap := (zN3 κ1 κ2 h).push { cls := .type "tuple", data := .seq #[.none, .none] }
def zN5 (κ1 κ2 : Kz) (h : Heap) : Heap := (zN4 κ1 κ2 h).push (zZ (zN2 κ1 κ2 h).objs.size (zN3 κ1 κ2 h).objs.size)
theorem meets_gz (κ1 κ2 : Kz) (xs ys : Array Value) :
    Meets (Builtin.«zip.__new__» ⟨[.type "zip", κ1.val, κ2.val], []⟩) (fun _ R s => κ1.has s.heap xs ∧ κ2.has s.heap ys ∧ R (.ok (.ret (.ref (zN4 κ1 κ2 s.heap).objs.size))) { s with heap := zN5 κ1 κ2 s.heap }) :=
  .of_wp fun prog w A R s h => by
    obtain ⟨hp, g, d, tk, os⟩ := s; obtain ⟨h1, h2, h⟩ := h
    have hsub := sub_zip
    have q1 : κ1.has (Shared.heap ⟨hp, g, d, tk, os⟩) xs := h1
    have q2 : κ2.has (Shared.heap ⟨hp.push κ1.obj, g, d, tk, os⟩) ys := Kz.has_push h2 _
    wp_walk using Kz.iter q1, Kz.iter q2
    exact ⟨_, rfl, h⟩
theorem call_gz {κ1 κ2 : Kz} {xs ys : Array Value} {Q : Value → Shared → Prop} (x1 : κ1.has s.heap xs) (x2 : κ2.has s.heap ys)
    (h : ∀ h', IsZip h' (s.heap.objs.size + 4) (s.heap.objs.size + 2) (s.heap.objs.size + 3) .none → IsPair h' (s.heap.objs.size + 2) (.ref s.heap.objs.size) (.ref (s.heap.objs.size + 1)) → IsPair h' (s.heap.objs.size + 3) .none .none →
      κ1.pos h' s.heap.objs.size 0 → κ2.pos h' (s.heap.objs.size + 1) 0 → (∀ c o, s.heap.get? c = some o → h'.get? c = some o) → Q (.ref (s.heap.objs.size + 4)) { s with heap := h' }) : wpAny (model prog w) A (call (.type "zip") [κ1.val, κ2.val]) Q E s := by
  refine callType_new F.called_zip (by decide) (F.typeCall_zip_2 _ _) (F.newCall_zip_2 _ _) (fun obj => F.args_object_init_3 obj _ _) F.entry_zip_new (meets_gz κ1 κ2 xs ys) ⟨x1, x2, ?_⟩
  have f1 : κ1.obj.isFreed = false := by cases κ1 <;> rfl
  have f2 : κ2.obj.isFreed = false := by cases κ2 <;> rfl
  have z1 : (zN1 κ1 s.heap).objs.size = s.heap.objs.size + 1 := Heap.size_push ..
  have z2 : (zN2 κ1 κ2 s.heap).objs.size = s.heap.objs.size + 2 := (Heap.size_push ..).trans (by rw [z1])
  have z3 : (zN3 κ1 κ2 s.heap).objs.size = s.heap.objs.size + 3 := (Heap.size_push ..).trans (by rw [z2])
  have z4 : (zN4 κ1 κ2 s.heap).objs.size = s.heap.objs.size + 4 := (Heap.size_push ..).trans (by rw [z3])
  have p1 : ∀ {h : Heap} {o o' : Obj} {c : Addr}, h.get? c = some o → (h.push o').get? c = some o := fun e => Heap.get?_push_of_some _ e
  have g5 : (zN5 κ1 κ2 s.heap).get? (zN4 κ1 κ2 s.heap).objs.size = some (zZ (zN2 κ1 κ2 s.heap).objs.size (zN3 κ1 κ2 s.heap).objs.size) := Heap.get?_push_size _ rfl
  have g4 : (zN5 κ1 κ2 s.heap).get? (zN3 κ1 κ2 s.heap).objs.size = some { cls := .type "tuple", data := .seq #[.none, .none] } := p1 (Heap.get?_push_size _ rfl)
  have g3 : (zN5 κ1 κ2 s.heap).get? (zN2 κ1 κ2 s.heap).objs.size = some (zO s.heap.objs.size (zN1 κ1 s.heap).objs.size) := p1 (p1 (Heap.get?_push_size _ rfl))
  have g2 : (zN5 κ1 κ2 s.heap).get? (zN1 κ1 s.heap).objs.size = some κ2.obj := p1 (p1 (p1 (Heap.get?_push_size _ f2)))
  have g1 : (zN5 κ1 κ2 s.heap).get? s.heap.objs.size = some κ1.obj := p1 (p1 (p1 (p1 (Heap.get?_push_size _ f1))))
  show _ ∧ _
  rw [z2, z3, z4] at g5
  rw [z1, z2] at g3
  rw [z3] at g4
  rw [z1] at g2
  rw [z4]
  exact ⟨⟨_, g5, rfl⟩, h _ g5 g3 g4 (Kz.pos_new g1) (Kz.pos_new g2) fun c o x => p1 (p1 (p1 (p1 (p1 x))))⟩
theorem drawsK {κ : Kz} {it : Addr} (hh : A.handled = none) (ne : it ∉ κ.at_) {H : Hp} {X : Cx} {pins : List (Addr × Obj)} {σ : L2.St} (I : Inv X pins σ H s) {xs : List V} (z : Zs X.K H xs κ) :
    ∃ its, κ.has s.heap its ∧ Draws prog w A it (it :: κ.at_) xs.length (fun i u => ∃ x, xs[i]? = some x ∧ RelV x u) (fun i h => κ.pos h it i ∧ κ.has h its) := by
  cases κ with
  | lst a =>
    obtain ⟨its, rv, p, hz⟩ := I.list z
    have l := rv.length
    refine ⟨its.toArray, p.isList, ?_⟩
    have D := Draws.list (prog := prog) (w := w) hh it a (fun e => ne (by rw [e]; exact List.mem_cons_self)) its.toArray
    have e : its.toArray.size = xs.length := by rw [List.size_toArray, l]
    rw [e] at D
    exact ⟨D.live, D.frame, fun i s Q E hi st q => D.item i s Q E hi st fun u h' tk hu => by
      obtain ⟨x, hx⟩ : ∃ x, xs[i]? = some x := ⟨xs[i], by simp [hi]⟩
      obtain ⟨u', hu', ru⟩ := rv.get hx
      obtain rfl : u' = u := by
        have := hu
        simp at this
        rw [hu'] at this
        exact Option.some.inj this
      exact q _ h' tk ⟨x, hx, ru⟩, D.done⟩
  | tup a =>
    obtain ⟨its, rv, p, hz⟩ := I.tuple z
    have l := rv.length
    refine ⟨its.toArray, p, ?_⟩
    have D := drawsT (prog := prog) (w := w) hh it a (fun e => ne (by rw [e]; exact List.mem_cons_self)) its.toArray
    have e : its.toArray.size = xs.length := by rw [List.size_toArray, l]
    rw [e] at D
    exact ⟨D.live, D.frame, fun i s Q E hi st q => D.item i s Q E hi st fun u h' tk hu => by
      obtain ⟨x, hx⟩ : ∃ x, xs[i]? = some x := ⟨xs[i], by simp [hi]⟩
      obtain ⟨u', hu', ru⟩ := rv.get hx
      obtain rfl : u' = u := by
        have := hu
        simp at this
        rw [hu'] at this
        exact Option.some.inj this
      exact q _ h' tk ⟨x, hx, ru⟩, D.done⟩
  | str x t =>
    obtain rfl : xs = _ := z
    refine ⟨#[], trivial, ?_⟩
    have D : Draws prog w A it [it] x.cps.size (fun i v => ∃ c u, x.cps[i]? = some c ∧ v = .str ⟨#[c]⟩ u) (fun i h => h.IsStrIter it (strIterType x) x t i) := by
      unfold strIterType
      split
      · exact Draws.strAscii hh it x t
      · exact Draws.strWide hh it x t
    rw [List.length_map, Array.length_toList]
    exact ⟨fun i h st => D.live i h st.1, fun i h h' st k => ⟨D.frame i h h' st.1 fun b hb => k b (by simpa [Kz.at_] using hb), trivial⟩, fun i s Q E hi st q => D.item i s Q E hi st.1 fun u h' tk ⟨c, t', hc, e⟩ st' => by
      subst e
      exact q _ h' tk ⟨.str ⟨#[c]⟩, by simp [hc], t', rfl⟩ ⟨st', trivial⟩, fun s Q E st => D.done s Q E st.1⟩
theorem Zs.inj {X : Cx} {pins : List (Addr × Obj)} {σ : L2.St} {H : Hp} {xs ys : List V} {κ : Kz} (I : Inv X pins σ H s) (h1 : Zs X.K H xs κ) (h2 : Zs X.K H ys κ) : xs = ys := by
  cases κ with
  | lst a => exact I.list_inj h1 h2
  | tup a => exact I.tuple_inj h1 h2
  | str x t => exact Eq.trans (show xs = _ from h1) (Eq.symm h2)
end
/-- pairs of what stands at each turn -/
def Itzg (K : PySem.W.Frag) (κ1 κ2 : Kz) : It :=
  ⟨fun i H => ∃ (xs ys : List V) (x y : V), Zs K H xs κ1 ∧ Zs K H ys κ2 ∧ xs[i]? = some x ∧ ys[i]? = some y,
    fun i H v H' => ∃ T x y, v = .ref T ∧ H T = none ∧ H' = upd H T (.tup [x, y]) ∧ (∀ xs, Zs K H xs κ1 → xs[i]? = some x) ∧ ∀ ys, Zs K H ys κ2 → ys[i]? = some y,
    fun i H => ∃ xs ys : List V, Zs K H xs κ1 ∧ Zs K H ys κ2 ∧ (i = xs.length ∨ (i < xs.length ∧ i = ys.length))⟩
theorem turn_gz {P : Program} {w : World} {K : PySem.W.Frag} {elts : List Expr} {kk : Nat} {tpos : Pos} {z TI TO i1 i2 : Addr} {κ1 κ2 : Kz} (D : ZAp z TI TO i1 i2 (i1 :: κ1.at_) (i2 :: κ2.at_)) (e1 : i1 ∉ κ1.at_) (e2 : i2 ∉ κ2.at_) :
    Turn P w K (.Tuple elts kk tpos) (Itzg K κ1 κ2) [z, TI, TO, i1, i2] z (fun i h => IsZip h z TI TO .none ∧ IsPair h TI (.ref i1) (.ref i2) ∧ (∃ x y, IsPair h TO x y) ∧ κ1.pos h i1 i ∧ κ2.pos h i2 i) where
  mem := by simp
  obj := fun i h st c hc => by
    obtain ⟨hz, hTI, ⟨x, y, hTO⟩, h1, h2⟩ := st
    rcases (by simpa using hc : c = z ∨ c = TI ∨ c = TO ∨ c = i1 ∨ c = i2) with q | q | q | q | q
    · rw [q]; exact ⟨_, hz, fun v q => nomatch q⟩
    · rw [q]; exact ⟨_, hTI, fun v q => nomatch q⟩
    · rw [q]; exact ⟨_, hTO, fun v q => nomatch q⟩
    · rw [q]; exact Kz.pos_obj (κ := κ1) h1
    · rw [q]; exact Kz.pos_obj (κ := κ2) h2
  keep := fun i h h' st k => by
    obtain ⟨hz, hTI, ⟨x, y, hTO⟩, h1, h2⟩ := st
    exact ⟨k z (by simp) _ hz, k TI (by simp) _ hTI, ⟨x, y, k TO (by simp) _ hTO⟩, Kz.pos_at (κ := κ1) h1 fun o q => k i1 (by simp) o q, Kz.pos_at (κ := κ2) h2 fun o q => k i2 (by simp) o q⟩
  item := by
    intro X hP hw hK hc i pins s σ H E I hf st hg
    subst hP hw hK
    obtain ⟨hz, hTI, ⟨x0, y0, hTO⟩, h1, h2⟩ := st
    obtain ⟨xs, ys, x, y, qx, qy, hx, hy⟩ := hg
    have hh : X.A.in1.handled = none := I.ok.hd hc
    obtain ⟨its1, u1, D1⟩ := drawsK (prog := X.prog) (w := X.w) hh e1 I qx
    obtain ⟨its2, u2, D2⟩ := drawsK (prog := X.prog) (w := X.w) hh e2 I qy
    have zl : z < s.heap.objs.size := Heap.lt_size hz
    refine gz_next D D1 D2 hz hTI hTO ⟨h1, u1⟩ ⟨h2, u2⟩ (List.getElem?_eq_some_iff.mp hx).1 (List.getElem?_eq_some_iff.mp hy).1 fun u v h' tk ⟨x', hx', rx⟩ ⟨y', hy', ry⟩ a3 a4 a5 a6 a7 a8 a9 => ?_
    obtain rfl : x' = x := by rw [hx] at hx'; exact (Option.some.inj hx').symm
    obtain rfl : y' = y := by rw [hy] at hy'; exact (Option.some.inj hy').symm
    refine ⟨_, rfl, wpAny_letOwnedTupleGo_zip (s := { s with heap := h', toks := tk }) a3 fun h'' z'' sb => ?_⟩
    have t2 : h''.get? s.heap.objs.size = some { cls := .type "tuple", data := .seq #[u, v] } := (sb.2 _ (Nat.ne_of_gt zl)).trans a8
    have new : ObjOk X.prog X.w (upd H s.heap.objs.size (.tup [x', y'])) h'' s.heap.objs.size (.tup [x', y']) := ⟨by show 2 ≤ sizeLine; decide, [u, v], .cons rx (.cons ry .nil), ⟨_, t2, rfl, _, rfl⟩⟩
    have I1 : Inv X pins σ (upd H s.heap.objs.size (.tup [x', y'])) ({ s with heap := h'', toks := tk } : Shared) :=
      I.turnedNew (ch := [z, TI, TO, i1, i2]) (fun c o hb q => (sb.2 c (fun e => hb (by simp [e]))).trans (a9 c o (fun e => hb (by simp [e])) (fun e => hb (by simp [e])) (fun e => hb (by simp [e])) (fun e => hb (by simp [e])) q)) hf (Nat.le_refl _) new
    refine ⟨.ref s.heap.objs.size, _, I1, rfl, ⟨_, x', y', rfl, I.hok.fresh (Nat.le_refl _), rfl, fun l hl => by rw [Zs.inj I hl qx]; exact hx, fun l hl => by rw [Zs.inj I hl qy]; exact hy⟩, ⟨z'', ?_, ⟨u, v, ?_⟩, ?_, ?_⟩, fun c hcm => ?_⟩
    · exact (sb.2 _ D.a1).trans a4
    · exact (sb.2 _ D.a2).trans a5
    · exact Kz.pos_at (κ := κ1) a6.1 fun o q => (sb.2 _ (ne_mem D.m1 D.z1)).trans q
    · exact Kz.pos_at (κ := κ2) a7.1 fun o q => (sb.2 _ (ne_mem D.m2 D.z2)).trans q
    · have hlt : c < s.heap.objs.size := by
        rcases (by simpa using hcm : c = z ∨ c = TI ∨ c = TO ∨ c = i1 ∨ c = i2) with q | q | q | q | q
        · rw [q]; exact zl
        · rw [q]; exact Heap.lt_size hTI
        · rw [q]; exact Heap.lt_size hTO
        · rw [q]; exact (Kz.pos_obj (κ := κ1) h1).elim fun _ e => Heap.lt_size e.1
        · rw [q]; exact (Kz.pos_obj (κ := κ2) h2).elim fun _ e => Heap.lt_size e.1
      rw [upd_ne (Nat.ne_of_lt hlt)]
      exact (hf c hcm).1
  done := by
    intro X hP hw hK hc i pins s σ H E I hf st hg
    subst hP hw hK
    obtain ⟨hz, hTI, ⟨x0, y0, hTO⟩, h1, h2⟩ := st
    obtain ⟨xs, ys, qx, qy, hl⟩ := hg
    have hh : X.A.in1.handled = none := I.ok.hd hc
    obtain ⟨its1, u1, D1⟩ := drawsK (prog := X.prog) (w := X.w) hh e1 I qx
    obtain ⟨its2, u2, D2⟩ := drawsK (prog := X.prog) (w := X.w) hh e2 I qy
    exact gz_stop D D1 D2 hz hTI hTO ⟨h1, u1⟩ ⟨h2, u2⟩ hl fun h' tk hk => ⟨rfl, I.turnedL (ch := [z, TI, TO, i1, i2]) (fun c o hb q =>
      hk c o (fun e => hb (by simp [e])) (fun e => hb (by simp [e])) (fun e => hb (by simp [e])) (fun e => hb (by simp [e])) q) hf⟩
  self := fun A i s Q E st h => wpAny_pyIter_zip st.1 h
/-! ### by deep values -/
/-- the kind fits the data -/
def Kz.fits : Kz → V → D → Prop
  | .lst a, v, d => v = .ref a ∧ ∃ ds, d = .list ds
  | .tup a, v, d => v = .ref a ∧ ∃ ds, d = .tuple ds
  | .str x _, v, d => v = .str x ∧ ∃ y, d = .str y
theorem zs_of {K : PySem.W.Frag} {pn : List Addr} {H : Hp} {Z : Addr → Prop} {v : V} {d : D} {ds : List D} {κ : Kz} (f : κ.fits v d) (h : Dr K pn H Z v d) (e : itemsD d = some ds) : ∃ xs, Zs K H xs κ ∧ DnL K H Z xs ds := by
  cases κ with
  | lst a =>
    obtain ⟨rfl, ds', rfl⟩ := f
    cases e
    obtain ⟨b, xs, eb, s, n⟩ := h.list
    cases eb
    exact ⟨xs, SqL.of s, n⟩
  | tup a =>
    obtain ⟨rfl, ds', rfl⟩ := f
    cases e
    obtain ⟨b, xs, eb, s, n⟩ := h.tup
    cases eb
    exact ⟨xs, s.sq, n⟩
  | str x t =>
    obtain ⟨rfl, y, rfl⟩ := f
    cases e
    have := h.str
    cases this
    refine ⟨_, rfl, ?_⟩
    generalize x.cps.toList = l
    induction l with
    | nil => exact .nil
    | cons c l ih => exact .cons (.str _) ih
theorem kz_of {X : Cx} {pins : List (Addr × Obj)} {σ : L2.St} {H : Hp} {s : Shared} {pn : List Addr} {Z : Addr → Prop} {v : V} {u : Value} {d : D} {ds : List D} (I : Inv X pins σ H s) (rv : RelV v u) (h : Dr X.K pn H Z v d) (e : itemsD d = some ds) :
    ∃ κ : Kz, κ.val = u ∧ κ.fits v d ∧ (∃ its, κ.has s.heap its) ∧ ∀ a ∈ κ.at_, a < s.heap.objs.size := by
  cases d with
  | list ds' =>
    obtain ⟨a, xs, rfl, s1, n1⟩ := h.list
    cases rv
    obtain ⟨its, rv, p, hz⟩ := I.list (SqL.of s1)
    exact ⟨.lst a, rfl, ⟨rfl, _, rfl⟩, ⟨_, p.isList⟩, fun b hb => by rw [List.mem_singleton.mp hb]; exact p.lt⟩
  | tuple ds' =>
    obtain ⟨a, xs, rfl, s1, n1⟩ := h.tup
    cases rv
    obtain ⟨its, rv, p, hz⟩ := I.tuple s1.sq
    exact ⟨.tup a, rfl, ⟨rfl, _, rfl⟩, ⟨its.toArray, p⟩, fun b hb => by rw [List.mem_singleton.mp hb]; exact (show s.heap.IsTuple a its.toArray from p).elim fun _ q => Heap.lt_size q.1⟩
  | str z =>
    rw [h.str] at rv ⊢
    obtain ⟨t, rfl⟩ := rv
    exact ⟨.str z t, rfl, ⟨rfl, _, rfl⟩, ⟨#[], trivial⟩, fun b hb => nomatch hb⟩
  | _ => cases e
theorem jok_gz {K : PySem.W.Frag} {pn : List Addr} {κ1 κ2 : Kz} {v1 v2 : V} {d1 d2 : D} {ds es : List D} (f1 : κ1.fits v1 d1) (f2 : κ2.fits v2 d2) (e1 : itemsD d1 = some ds) (e2 : itemsD d2 = some es) : JOk K pn (Itzg K κ1 κ2) [(v1, d1), (v2, d2)] (zipL ds es) := by
  intro H Z i zt h
  obtain ⟨xs, z1, n1⟩ := zs_of f1 (h _ List.mem_cons_self) e1
  obtain ⟨ys, z2, n2⟩ := zs_of f2 (h _ (List.mem_cons_of_mem _ List.mem_cons_self)) e2
  have l1 := n1.length
  have l2 := n2.length
  rw [zip_len]
  refine ⟨fun e => ⟨xs, ys, z1, z2, by omega⟩, fun hi => ?_⟩
  obtain ⟨d, hd⟩ : ∃ d, ds[i]? = some d := ⟨ds[i]'(by omega), by simp [show i < ds.length by omega]⟩
  obtain ⟨d', hd'⟩ : ∃ d, es[i]? = some d := ⟨es[i]'(by omega), by simp [show i < es.length by omega]⟩
  obtain ⟨x, hx, dn⟩ := n1.get hd
  obtain ⟨x', hx', dn'⟩ := n2.get hd'
  refine ⟨⟨xs, ys, x, x', z1, z2, hx, hx'⟩, fun y H2 hy => ?_⟩
  obtain ⟨T, u, u', rfl, hT, rfl, hy, hy'⟩ := hy
  have q1 := hy xs z1
  have q2 := hy' ys z2
  rw [hx] at q1
  rw [hx'] at q2
  cases q1
  cases q2
  exact ⟨M.same_upd hT, _, zip_get ds es i d d' hd hd', new_pair zt hT dn dn'⟩
def gZp (x y : D) (Q : List D → Prop) : Prop := match itemsD x, itemsD y with | some ds, some es => Q (zipL ds es) | _, _ => False
@[simp] theorem gZp_ll {a b : List D} {Q : List D → Prop} : gZp (.list a) (.list b) Q = Q (zipL a b) := rfl
@[simp] theorem gZp_tl {a b : List D} {Q : List D → Prop} : gZp (.tuple a) (.list b) Q = Q (zipL a b) := rfl
@[simp] theorem gZp_ss {a b : List Nat} {Q : List D → Prop} : gZp (.str (S a)) (.str (S b)) Q = Q (zipL (a.map sg) (b.map sg)) := rfl
theorem gZp_mono {x y : D} {Q Q' : List D → Prop} (h : ∀ i, Q i → Q' i) : gZp x y Q → gZp x y Q' := by
  unfold gZp
  split
  · exact h _
  · exact id
def iZp (a b : Wx) : Wi := ⟨fun E ρ Q => a.run E ρ fun x _ => b.run E ρ fun y _ => gZp x y Q, fun E E' ρ Q Q' he h q => a.mono _ _ _ _ _ he (fun _ _ z => b.mono _ _ _ _ _ he (fun _ _ z => gZp_mono h z) z) q, a.c + b.c, a.esc ++ b.esc⟩
@[simp] theorem run_izp {a b : Wx} {E : XQ} {ρ : En} {L : List D → Prop} : (iZp a b).run E ρ L = a.run E ρ fun x _ => b.run E ρ fun y _ => gZp x y L := rfl
section
variable {X : Cx} {xw : Xw}
theorem i_gz {ca cb : Nat} {a b : Expr} {elts : List Expr} {kk : Nat} {tp : Pos} {wa wb : En → VQ → Prop} {nb : Bool} {p pos : Pos} (gl : Gl X "zip") (hm : X.mg "zip" = none) (hs : starEach [a, b] X.env = [(false, eval a X.env), (false, eval b X.env)]) (hs2 : starEach [b] X.env = [(false, eval b X.env)]) (ma : MonoW wa) (mb : MonoW wb)
    (na : nb = true → ∀ ρ Q, wa ρ Q → wa ρ fun d k => k ≠ .bor ∧ Q d k) (nb' : nb = true → ∀ ρ Q, wb ρ Q → wb ρ fun d k => k ≠ .bor ∧ Q d k) (ha : PE X a (tX X.K xw ca wa)) (hb : PE X b (tX X.K xw cb wb)) :
    PI X (.Tuple elts kk tp) (.Call (.Name "zip" p) [a, b] [] pos) (tI X.K xw nb (ca + cb) fun ρ Q => wa ρ fun x _ => wb ρ fun y _ => gZp x y Q) := by
  refine ⟨fun pins s σ H R I ⟨H0, B, pn, fr, ρ, Z, tb, ok, w⟩ => ?_⟩
  have w' : wa ρ fun x k => (nb = true → k ≠ .bor) ∧ wb ρ fun y k' => (nb = true → k' ≠ .bor) ∧ gZp x y fun ds => ∀ J H' fv, HStep tb pn H H' → (∀ p ∈ fv, Dr X.K pn H' Z p.1 p.2 ∧ (nb = true → Dn X.K H' Z p.1 p.2)) → JOk X.K pn J fv ds → R J H' := by
    cases nb with
    | true => exact ma _ _ _ (fun d k q => ⟨fun _ => q.1, mb _ _ _ (fun d k q => ⟨fun _ => q.1, q.2⟩) (nb' rfl _ _ q.2)⟩) (na rfl _ _ w)
    | false => exact ma _ _ _ (fun d k q => ⟨(fun z => nomatch z), mb _ _ _ (fun d k q => ⟨(fun z => nomatch z), q⟩) q⟩) w
  refine Call_ (ld_blt I gl hm PyProof.Rows.boot_zip (PyProof.Rows.callWith_type1 (thn ((pa_cons ha (pa_cons hb pa_nil hs2) (by rw [hs, hs2])).run pos pins s σ H (fun vs H1 => ∃ v1 v2 d1 d2 ds es, vs = [v1, v2] ∧ Dr X.K pn H1 Z v1 d1 ∧ Dr X.K pn H1 Z v2 d2 ∧ itemsD d1 = some ds ∧ itemsD d2 = some es ∧ ∀ J, JOk X.K pn J [(v1, d1), (v2, d2)] (zipL ds es) → R J H1) I
      ⟨H0, B, pn, fr, ρ, Z, cb + tb, ok.lt (by omega), ma _ _ _ (fun d k q x H1 s1 r1 => ⟨H0, B, pn, fr, ρ, Z, tb, ok.to s1, mb _ _ _ (fun e k' q' y H2 s2 r2 => ?_) q.2⟩) w'⟩) fun us s1 ⟨vs, H1, I1, r1, q1⟩ => ?_) (by rw [hs, hs2]) (by rw [hs2]; rfl)))
  · have ok1 := ok.to s1
    have ok2 := ok1.to s2
    have h1 := (r1.dr ok.pnt).step s2 ok.pnz
    have h2 := r2.dr ok1.pnt
    have g := q'.2
    unfold gZp at g
    split at g
    · rename_i ds es e1 e2
      refine ⟨x, y, d, e, ds, es, rfl, h1, h2, e1, e2, fun J hJ => g J H2 [(x, d), (y, e)] (s1.trans s2) (fun p hp => ?_) hJ⟩
      rcases (by simpa using hp : p = (x, d) ∨ p = (y, e)) with rfl | rfl
      · exact ⟨h1, fun z => (Dn.keep (keepZ s2 ok.pnz) (fun b z => .inl z) _ _ (r1.dn (q.1 z) ok.zt))⟩
      · exact ⟨h2, fun z => r2.dn (q'.1 z) ok1.zt⟩
    · exact g.elim
  · obtain ⟨v1, v2, d1, d2, ds, es, rfl, h1, h2, e1, e2, q⟩ := q1
    cases r1 with
    | cons ra rr =>
      cases rr with
      | cons rb rr =>
        cases rr
        obtain ⟨κ1, rfl, f1, ⟨its1, x1⟩, a1⟩ := kz_of I1 ra h1 e1
        obtain ⟨κ2, rfl, f2, ⟨its2, x2⟩, a2⟩ := kz_of I1 rb h2 e2
        refine call_gz x1 x2 fun h' hz hTI hTO p1 p2 hk => wpAny_pyIter_zip hz ?_
        have I2 : Inv X pins σ H1 { s1 with heap := h' } := I1.kept (t' := s1.toks) hk
        generalize hn : s1.heap.objs.size = n at *
        have no1 : ∀ j : Nat, n + j ∉ κ1.at_ := fun j z => absurd (a1 _ z) (Nat.not_lt.mpr (Nat.le_add_right n j))
        have no2 : ∀ j : Nat, n + j ∉ κ2.at_ := fun j z => absurd (a2 _ z) (Nat.not_lt.mpr (Nat.le_add_right n j))
        have na : ∀ i j : Nat, i ≠ j → n + i ≠ n + j := fun i j h e => h (Nat.add_left_cancel e)
        have mk : ∀ {x y : Addr} {l : List Addr}, x ≠ y → x ∉ l → x ∉ y :: l := fun h1 h2 => List.not_mem_cons_of_ne_of_not_mem h1 h2
        have ap : ZAp (n + 4) (n + 2) (n + 3) n (n + 1) (n :: κ1.at_) ((n + 1) :: κ2.at_) := ⟨na 2 4 (by decide), na 3 4 (by decide), na 2 3 (by decide), na 2 0 (by decide), na 2 1 (by decide), mk (na 4 0 (by decide)) (no1 4), mk (na 4 1 (by decide)) (no2 4), mk (na 3 0 (by decide)) (no1 3), mk (na 3 1 (by decide)) (no2 3), List.mem_cons_self, List.mem_cons_self, mk (na 0 1 (by decide)) (no2 0), mk (na 1 0 (by decide)) (no1 1)⟩
        refine ⟨n + 4, [n + 4, n + 2, n + 3, n, n + 1], _, _, H1, rfl, I2, turn_gz ap (no1 0) (no2 1), ⟨hz, hTI, ⟨_, _, hTO⟩, p1, p2⟩, fun c hcm => ?_, q _ (jok_gz f1 f2 e1 e2)⟩
        have hle : s1.heap.objs.size ≤ c := by
          rw [hn]
          rcases (by simpa using hcm : c = n + 4 ∨ c = n + 2 ∨ c = n + 3 ∨ c = n ∨ c = n + 1) with z | z | z | z | z <;> (rw [z]; first | exact Nat.le_add_right _ _ | exact Nat.le_refl _)
        exact I1.fpOk hle (I1.hok.fresh hle)
variable {G : Gm} {j : Nat} {CC : Cts} (c : Cok X xw G j CC) {pos p p2 : Pos} {nb : Bool} {a b : Expr} {wa wb : Wx}
include c
theorem i_zp {es : List Expr} {k} (ha : Pe X xw a wa) (hb : Pe X xw b wb) (hn : (!nb || (wa.nb && wb.nb)) = true := by rfl) (st : isStar a = false := by rfl) (st2 : isStar b = false := by rfl) (h : btB G "zip" = true := by decide +kernel) : Pit X xw nb (.Tuple es k p2) (.Call (.Name "zip" p) [a, b] [] pos) (iZp wa wb) := by
  have h := bt_ok c h
  exact ⟨i_gz h.1 h.2.1 (by rw [star_cons st, star_cons st2]; rfl) (star_cons st2) wa.m wb.m (fun z ρ Q q => wa.nbo (by subst z; simp at hn; exact hn.1) _ _ _ q) (fun z ρ Q q => wb.nbo (by subst z; simp at hn; exact hn.2) _ _ _ q) ha hb, rfl⟩
end
end Y

/-! W31: a, b, c = u, v, w where a name is a cell; x.join(a list or tuple of texts); sorted(a list of texts); x.count(a sign); x.split(). -/
namespace Y
open PySem PySem.Spec PyProof.Rows L2 M
section
variable {X : Cx} {xw : Xw} {G : Gm} {j : Nat} {CC : Cts} (c : Cok X xw G j CC) {pos : Pos}
include c
theorem z_par3C {x y z : Str} {a b d : Expr} {px py pz p p2 pos : Pos} {k k2} {wa wb wd : Wx} (is : List Nat) (i1 i2 i3 : Nat) (ha : Pe X xw a wa) (hb : Pe X xw b wb) (hd : Pe X xw d wd) (h1 : tgB G x i1 = true := by decide +kernel) (h2 : tgB G y i2 = true := by decide +kernel) (h3 : tgB G z i3 = true := by decide +kernel)
    (hw : swNo G.sc [.Name x px, .Name y py, .Name z pz] [a, b, d] = true := by decide +kernel) (sa : isStar a = false := by rfl) (sb : isStar b = false := by rfl) (sd : isStar d = false := by rfl) (na : wa.nb = true := by rfl) (nb : wb.nb = true := by rfl) (nd : wd.nb = true := by rfl) (hcm : G.calm = true := by rfl) :
    Ps X xw (.Assign [.Tuple [.Name x px, .Name y py, .Name z pz] k p] (.Tuple [a, b, d] k2 p2) pos) (sPar3 is i1 i2 i3 wa wb wd) := by
  have h1 := tg_okB c h1
  have h2 := tg_okB c h2
  have h3 := tg_okB c h3
  have nod : X.N.Nodup := by rw [c.N]; exact c.nd
  refine PS.weak (ps_asg (pe_tup (pa_cons ha (pa_cons hb (pa_cons hd pa_nil (star_cons sd)) (star_cons sb)) (star_cons sa))) (pg_tup (n := 3) (c.calm hcm) (pgs_cons (pg_name (i := i1) nod h1.1 h1.2.1 h1.2.2) (pgs_cons (pg_name (i := i2) nod h2.1 h2.2.1 h2.2.2) (pgs_cons (pg_name (i := i3) nod h3.1 h3.2.1 h3.2.2) pgs_nil rfl) rfl) rfl) rfl rfl) rfl (sw_none (by rw [c.sc]; exact hw)) rfl) fun D σ H ⟨H0, B, pn0, fr, P, pn, ρ, Z, tb, px, ok, w, f⟩ => ?_
  unfold sPar3 at w
  dsimp only at w
  rw [f.ex] at w
  obtain ⟨Z', hz, ok'⟩ := dem_ok is ok
  refine ⟨H0, B, pn, fr, _, Z', (wb.c + (wd.c + tb)), ok'.lt (by show wa.c + (wb.c + (wd.c + tb)) ≤ (wa.c + wb.c + wd.c) + tb; omega), wa.mono _ _ _ _ _ (fun _ z => z) (fun d1 k1 q1 v1 H1 s1 r1 => ?_) (wa.nbo na _ _ _ w)⟩
  obtain ⟨Z1, e1, o1⟩ := ok'.sto2 ok' i1 s1 r1 q1.1
  refine ⟨H0, B, pn, fr, _, Z1, (wd.c + tb), e1, wb.mono _ _ _ _ _ (fun _ z => z) (fun d2 k2 q2 v2 H2 s2 r2 => ?_) (wb.nbo nb _ _ _ q1.2)⟩
  obtain ⟨Z2, e2, o2⟩ := e1.sto2 o1 i2 s2 r2 q2.1
  refine ⟨H0, B, pn, fr, _, Z2, tb, e2, wd.mono _ _ _ _ _ (fun _ z => z) (fun d3 k3 q3 v3 H3 s3 r3 => ?_) (wd.nbo nd _ _ _ q2.2)⟩
  obtain ⟨Z3, e3, o3⟩ := e2.sto2 o2 i3 s3 r3 q3.1
  exact ⟨by simp [sizeLine_eq], fun p np => ⟨p, _, rfl, .inl (.inl upd_same), rfl, _, _, rfl, _, _, rfl, _, _, rfl, rfl, f.nx _ _ ⟨pn, _, Z3, px, o3.to (o3.ss (M.same_upd np)), q3.2.2.2.2⟩⟩⟩
end
/-! ### join -/
def jnL (a : List Nat) (ls : List (List Nat)) : List Nat := (ls.intersperse a).flatten
theorem jnL_nil (ls : List (List Nat)) : jnL [] ls = ls.flatten := by
  unfold jnL
  induction ls with
  | nil => rfl
  | cons l ls ih =>
    cases ls with
    | nil => rfl
    | cons m ls =>
      rw [List.intersperse_cons₂, List.flatten_cons, List.flatten_cons, ih]
      rfl
theorem join_jnL (a : List Nat) : ∀ ls : List (List Nat), Txt.join (S a) (ls.map S) = S (jnL a ls)
  | [] => rfl
  | [l] => by simp [jnL]; rfl
  | l :: m :: ls => by
    have e : Txt.join (S a) ((l :: m :: ls).map S) = S l ++ S a ++ Txt.join (S a) ((m :: ls).map S) := by
      simp only [List.map_cons, Txt.join]
      exact glued_two _ _ _ _
    rw [e, join_jnL a (m :: ls), S_app, S_app]
    congr 1
    show _ = (List.intersperse a (l :: m :: ls)).flatten
    rw [List.intersperse_cons₂, List.flatten_cons, List.flatten_cons]
    simp [jnL]
theorem strsD_S : ∀ ls : List (List Nat), strsD (ls.map fun l => .str (S l)) = some (ls.map S)
  | [] => rfl
  | l :: ls => by
    show (strsD (ls.map fun l => .str (S l))).map _ = _
    rw [strsD_S ls]
    rfl
theorem sum_S : ∀ ls : List (List Nat), ((ls.map S).map Str.length).sum = (ls.map List.length).sum
  | [] => rfl
  | l :: ls => by
    simp only [List.map_cons, List.sum_cons, sum_S ls]
    rw [S_len]
def gJn (x y : D) (Q : VQ) : Prop := ∃ (a : List Nat) (ls : List (List Nat)), x = .str (S a) ∧ (y = .list (ls.map fun l => .str (S l)) ∨ y = .tuple (ls.map fun l => .str (S l))) ∧ (ls.map List.length).sum + a.length * ls.length ≤ 16777216 ∧ Q (.str (S (jnL a ls))) .shr
theorem gJn_mono {x y : D} {Q Q' : VQ} (h : ∀ d k, k ≠ .bor → Q d k → Q' d k) : gJn x y Q → gJn x y Q' := fun ⟨a, ls, e1, e2, l, q⟩ => ⟨a, ls, e1, e2, l, h _ _ (by simp) q⟩
theorem gJn_l {a : List Nat} {ls : List (List Nat)} {Q : VQ} (h : (ls.map List.length).sum + a.length * ls.length ≤ 16777216) (q : Q (.str (S (jnL a ls))) .shr) : gJn (.str (S a)) (.list (ls.map fun l => .str (S l))) Q := ⟨a, ls, rfl, .inl rfl, h, q⟩
theorem gJn_t {a : List Nat} {ls : List (List Nat)} {Q : VQ} (h : (ls.map List.length).sum + a.length * ls.length ≤ 16777216) (q : Q (.str (S (jnL a ls))) .shr) : gJn (.str (S a)) (.tuple (ls.map fun l => .str (S l))) Q := ⟨a, ls, rfl, .inr rfl, h, q⟩
def wJn (a b : Wx) : Wx := ⟨fun E ρ Q => a.run E ρ fun x _ => isStr x ∧ b.run E ρ fun y _ => gJn x y Q, fun E E' ρ Q Q' he h q => a.mono _ _ _ _ _ he (fun _ _ z => ⟨z.1, b.mono _ _ _ _ _ he (fun _ _ z => gJn_mono (fun d k _ => h d k) z) z.2⟩) q, a.c + b.c, a.esc ++ b.esc, true, fun _ E ρ Q q => a.m _ _ _ (fun _ _ z => ⟨z.1, b.m _ _ _ (fun _ _ z => gJn_mono (fun d k n z => ⟨n, z⟩) z) z.2⟩) q⟩
@[simp] theorem run_jn {a b : Wx} {E : XQ} {ρ : En} {Q : VQ} : (wJn a b).run E ρ Q = a.run E ρ fun x _ => isStr x ∧ b.run E ρ fun y _ => gJn x y Q := rfl
section
variable {X : Cx} {xw : Xw} {G : Gm} {j : Nat} {CC : Cts} (c : Cok X xw G j CC) {pos p : Pos}
include c
theorem e_jn {a b : Expr} {wa wb : Wx} (ha : Pe X xw a wa) (hb : Pe X xw b wb) (st : isStar b = false := by rfl) (hr : recvOk a = true := by rfl) (hl : (p.endLine == pos.line) = true := by rfl) : Pe X xw (.Call (.Attribute a "join" p) [b] [] pos) (wJn wa wb) := by
  refine PE.weak (pe_join ha hb (star_cons st) (basesep hr) hl) fun σ H Q ⟨H0, B, pn, fr, ρ, Z, t, ok, w⟩ => ?_
  refine ⟨H0, B, pn, fr, ρ, Z, (wb.c + t), ok.lt (by show wa.c + (wb.c + t) ≤ (wa.c + wb.c) + t; omega), wa.m _ _ _ (fun d k q x H1 s1 r1 => ?_) w⟩
  have ok1 := ok.to s1
  obtain ⟨⟨s, rfl⟩, q⟩ := q
  have e1 := (r1.dr ok.pnt).str
  subst e1
  refine ⟨⟨s, rfl⟩, H0, B, pn, fr, ρ, Z, t, ok1, wb.m _ _ _ (fun e k' q y H2 s2 r2 => ?_) q⟩
  obtain ⟨a, ls, ea, ey, hl, q5⟩ := q
  cases ea
  have d2 := r2.dr ok1.pnt
  have bd : ((ls.map S).map Str.length).sum + (ls.map S).length * (S a).length ≤ 16777216 := by
    rw [sum_S, S_len, List.length_map, Nat.mul_comm]
    exact hl
  rcases ey with rfl | rfl
  · obtain ⟨b, ys, rfl, s3, n3⟩ := d2.list
    have ev := strs_vals n3 (strsD_S ls)
    subst ev
    exact ⟨S a, b, ls.map S, rfl, rfl, .inl (SqL.of s3), bd, q5 _ H2 (s1.trans s2) (by rw [join_jnL]; exact .str _)⟩
  · obtain ⟨b, ys, rfl, s3, n3⟩ := d2.tup
    have ev := strs_vals n3 (strsD_S ls)
    subst ev
    exact ⟨S a, b, ls.map S, rfl, rfl, .inr s3.sq, bd, q5 _ H2 (s1.trans s2) (by rw [join_jnL]; exact .str _)⟩
end
end Y

/-! W32: sets of keys that are found by a scan; sorted({e for t in it if ..}) with texts. -/
namespace Y
open PySem PySem.Spec PyProof PyProof.Rows L2 M
/-- keys, and how the key of a value is told -/
structure KF (P : Program) (w : World) (K : Type) [DecidableEq K] where
  knd : PySem.KeyKind P w K
  kf : Value → K
  ok : ∀ k v, knd.is k v = true → kf v = k ∧ v.scannable = true
section
variable {P : Program} {w : World} {K : Type} [DecidableEq K] (κ : KF P w K) {h h' : Heap} {a : Addr} {S : K → Bool} {n : Nat}
def GdX (e : Int × Value) : Prop := ∃ k, κ.knd.is k e.2 = true ∧ e.1 = κ.knd.hash k
abbrev ksX (es : Array (Int × Value)) : List K := es.toList.map fun e => κ.kf e.2
/-- the set at a can be walked -/
structure SetXt (es : Array (Int × Value)) (t : SetTable) (S : K → Bool) (n : Nat) : Prop where
  gd : ∀ e ∈ es.toList, GdX κ e
  nd : (ksX κ es).Nodup
  mem : ∀ k, S k = true ↔ k ∈ ksX κ es
  bd : es.size < scanBound
  fit : t.fits es.size = true
  sz : es.size = n
  ris : Ris t.place.toList
  led : w.params.followText "set-order" = true ∨ t.led = true
def SetX (h : Heap) (a : Addr) (S : K → Bool) (n : Nat) : Prop := ∃ o es ep t, h.get? a = some o ∧ o.ExactSet ∧ o.data = .set es ep t ∧ SetXt κ es t S n
variable {κ}
theorem SetX.at (R : SetX κ h a S n) (k : ∀ o, h.get? a = some o → h'.get? a = some o) : SetX κ h' a S n := R.elim fun o ⟨es, ep, t, ho, r⟩ => ⟨o, es, ep, t, k o ho, r⟩
theorem GdX.el {l : List (Int × Value)} (g : ∀ e ∈ l, GdX κ e) : ElemsOf κ.knd l := fun e he => (g e he).elim fun k z => ⟨⟨k, z.1, z.2⟩, (κ.ok k _ z.1).2⟩
theorem GdX.is {e : Int × Value} (g : GdX κ e) (k : K) : κ.knd.is k e.2 = true ↔ κ.kf e.2 = k := by
  obtain ⟨k0, z, _⟩ := g
  have q := (κ.ok k0 _ z).1
  exact ⟨fun y => (κ.ok k _ y).1, fun y => by rw [← y, q]; exact z⟩
theorem GdX.mem {l : List (Int × Value)} (g : ∀ e ∈ l, GdX κ e) (k : K) : (k ∈ l.map fun e => κ.kf e.2) ↔ ∃ e ∈ l, κ.knd.is k e.2 = true := by
  rw [List.mem_map]
  exact ⟨fun ⟨e, he, q⟩ => ⟨e, he, ((g e he).is k).mpr q⟩, fun ⟨e, he, q⟩ => ⟨e, he, ((g e he).is k).mp q⟩⟩
theorem SetX.setOf (R : SetX κ h a S n) : h.SetOf κ.knd a S n := R.elim fun o ⟨es, ep, t, ho, hx, hd, r⟩ => ⟨o, es, ep, t, ho, hx, hd, GdX.el r.gd, fun k => (r.mem k).trans (GdX.mem r.gd k), r.bd, r.fit, r.sz⟩
end
section
variable {P : Program} {w : World} {K : Type} [DecidableEq K] {κ : KF P w K} {A : Around} {E : Value → Shared → Prop} {s : Shared} {a : Addr} {S : K → Bool} {n : Nat}
theorem setX_tail {g : Bool → Sem Unit} (hg : ∀ (b : Bool) (s₁ : Shared) (Q' : Unit → Shared → Prop), Q' () s₁ → wpAny (model P w) A (g b) Q' E s₁) {o : Obj} {es : Array (Int × Value)} {ep : Nat} {t : SetTable} (ho : s.heap.get? a = some o) (hex : o.ExactSet) (hd : o.data = .set es ep t)
    {e1 : Array (Int × Value)} {t2 : SetTable} {S' : K → Bool} (r : SetXt κ e1 t2 S' e1.size) {wasD : Bool} {R : Option Bool → Shared → Prop} (hR : ∀ h', Heap.SameBut a s.heap h' → SetX κ h' a S' e1.size → R (some true) { s with heap := h' }) :
    wpAny (model P w) A (do
        storeSet a e1 t2
        if (!wasD && t2.tooFull) = true then do
            g (relayAll t2 e1 (SetTable.grown e1.size)).2.2
            storeSet a (relayAll t2 e1 (SetTable.grown e1.size)).1 (relayAll t2 e1 (SetTable.grown e1.size)).2.1
            pure (some true)
          else pure (some true)) R E s := by
  refine wpAny_bind (wpAny_storeSet_of ho hd ?_ (fits_of_scanBound r.bd))
  have o1 := PpSet.storeB_at (es' := e1) (t' := t2) ho hd
  have b1 := Heap.SameBut.update s.heap a (Obj.putSet e1 t2)
  split
  · have pm := relayAll_perm t2 e1 (SetTable.grown e1.size)
    have f3 := relayAll_fits t2 e1 (SetTable.grown e1.size)
    have r3 := relayAll_ris t2 e1 (SetTable.grown e1.size)
    have l3 := relayAll_led t2 e1 (SetTable.grown e1.size)
    generalize relayAll t2 e1 (SetTable.grown e1.size) = Z at pm f3 r3 l3 ⊢
    obtain ⟨e2, t3, gave⟩ := Z
    dsimp only at pm f3 r3 l3 ⊢
    have sz : e2.size = e1.size := by rw [← Array.length_toList, pm.length_eq, Array.length_toList]
    have bd : e2.size < scanBound := by rw [sz]; exact r.bd
    refine wpAny_bind (hg _ _ _ (wpAny_bind (wpAny_storeSet_of o1 rfl ?_ (fits_of_scanBound bd))))
    have pk := pm.map fun e => κ.kf e.2
    exact wpAny_pure (hR _ (b1.trans (Heap.SameBut.update _ a _)) ⟨_, e2, _, t3, PpSet.storeB_at (es' := e2) (t' := t3) o1 rfl, hex, rfl, fun e he => r.gd e (pm.mem_iff.mp he), pk.nodup_iff.mpr r.nd, fun k => (r.mem k).trans pk.mem_iff.symm, bd, f3, sz, r3, r.led.imp id fun z => by rw [l3]; exact z⟩)
  · exact wpAny_pure (hR _ b1 ⟨_, e1, _, t2, o1, hex, rfl, r⟩)
theorem setX_hashed {k : K} {u : Value} {Q : Bool → Shared → Prop} (hu : κ.knd.is k u = true) (R : SetX κ s.heap a S n) (room : n + 1 < scanBound)
    (hQ : ∀ h', Heap.SameBut a s.heap h' → SetX κ h' a (fun j => S j || decide (j = k)) (if S k = true then n else n + 1) → Q (!S k) { s with heap := h' }) : wpAny (model P w) A (setAddHashed a u (κ.knd.hash k)) Q E s := by
  obtain ⟨o, es, ep, t, ho, hex, hd, r⟩ := R
  have hsc := (κ.ok k u hu).2
  have ku := (κ.ok k u hu).1
  have hel : ElemsOf κ.knd es.toList := GdX.el r.gd
  unfold setAddHashed setAddHashedIn
  refine wpAny_holding (wpAny_bind (wpAny_setState_of ho hd r.fit ?_))
  dsimp only
  rw [byScan_of hsc r.bd hel]
  simp only [↓reduceIte]
  unfold setAddByScan
  refine wpAny_bind (wpAny_bind (wpAny_rule (wpAny_bind (wpAny_setScan_of hu ho hd r.fit hel ?_))))
  cases hfi : List.findIdx? (fun e => κ.knd.is k e.2) es.toList with
  | some j =>
    dsimp only
    obtain ⟨hj, pj, _⟩ := List.findIdx?_eq_some_iff_getElem.mp hfi
    have hSk : S k = true := (r.mem k).2 ((GdX.mem r.gd k).2 ⟨es.toList[j], List.getElem_mem hj, pj⟩)
    have q := hQ s.heap (Heap.SameBut.refl a s.heap) ⟨o, es, ep, t, ho, hex, hd, { r with
      mem := fun i => by
        rw [Bool.or_eq_true, decide_eq_true_eq, ← r.mem i]
        exact ⟨fun z => z.elim id (fun e => e ▸ hSk), .inl⟩
      sz := by rw [if_pos hSk]; exact r.sz }⟩
    rw [hSk] at q
    exact wpAny_pure (wpAny_pure q)
  | none =>
    dsimp only
    have hnk : k ∉ ksX κ es := fun z => by
      obtain ⟨e, he, q⟩ := (GdX.mem r.gd k).1 z
      have c := List.findIdx?_eq_none_iff.mp hfi e he
      rw [q] at c
      cases c
    have hSk : S k = false := by
      cases q : S k with
      | false => rfl
      | true => exact absurd ((r.mem k).1 q) hnk
    have hgw : ∀ (b : Bool) {s₁ : Shared} {Q' : Unit → Shared → Prop}, Q' () s₁ → wpAny (model P w) A (match b with | true => rule "set.scan.the-table-gave-way" | false => pure ()) Q' E s₁ :=
      fun b s₁ Q' q => by cases b <;> first | exact wpAny_pure q | exact wpAny_rule q
    have pm := layNew_perm t es (κ.knd.hash k) u
    have f1 := layNew_fits t es (κ.knd.hash k) u
    have r1 := layNew_ris t es (κ.knd.hash k) u r.ris
    have l1 := layNew_led t es (κ.knd.hash k) u
    generalize layNew t es (κ.knd.hash k) u = Z at pm f1 r1 l1 ⊢
    obtain ⟨e1, t1, wasD, gave⟩ := Z
    dsimp only at pm f1 r1 l1 ⊢
    rw [Array.toList_push] at pm
    have pc : e1.toList.Perm ((κ.knd.hash k, u) :: es.toList) := pm.trans (List.perm_append_singleton _ _)
    have pk : (ksX κ e1).Perm (k :: ksX κ es) := by
      have q := pc.map fun e => κ.kf e.2
      rw [List.map_cons, ku] at q
      exact q
    have sz : e1.size = n + 1 := by rw [← Array.length_toList, pc.length_eq, List.length_cons, Array.length_toList, r.sz]
    have rr : ∀ t2 : SetTable, t2.fits e1.size = true → Ris t2.place.toList → t2.led = t1.led → SetXt κ e1 t2 (fun j => S j || decide (j = k)) e1.size := fun t2 a1 a2 a3 => ⟨fun e he => by
        rcases List.mem_cons.mp (pc.mem_iff.mp he) with z | z
        · rw [z]; exact ⟨k, hu, rfl⟩
        · exact r.gd e z, pk.nodup_iff.mpr (List.nodup_cons.mpr ⟨hnk, r.nd⟩), fun i => by
        rw [Bool.or_eq_true, decide_eq_true_eq, r.mem i, pk.mem_iff, List.mem_cons]
        exact Or.comm, by rw [sz]; exact room, a1, rfl, a2, r.led.imp id fun z => by rw [a3, l1]; exact z⟩
    have fin : ∀ h', Heap.SameBut a s.heap h' → SetX κ h' a (fun j => S j || decide (j = k)) e1.size → Q true { s with heap := h' } := fun h' sb z => by
      have q := hQ h' sb
      rw [hSk] at q
      rw [sz] at z
      exact q z
    refine wpAny_bind (hgw _ ?_)
    split
    · refine wpAny_bind ?_
      rw [hashByValue_scannable 8 hsc]
      refine wpAny_pure (setX_tail ?_ ho hex hd (rr _ ?_ ?_ ?_) ?_)
      · intro b s₁ Q' q; cases b <;> first | exact wpAny_pure q | exact wpAny_rule q
      · first | (split <;> first | exact f1 | exact SetTable.fits_plain_off f1) | exact f1
      · first | (split <;> exact r1) | exact r1
      · first | (split <;> rfl) | rfl
      · intro h' sb z; dsimp only; exact wpAny_pure (fin h' sb z)
    · refine wpAny_bind (wpAny_pure ?_)
      simp only [↓reduceIte]
      refine setX_tail ?_ ho hex hd (rr _ f1 r1 rfl) ?_
      · intro b s₁ Q' q; cases b <;> first | exact wpAny_pure q | exact wpAny_rule q
      · intro h' sb z; dsimp only; exact wpAny_pure (fin h' sb z)
theorem setX_add {k : K} {u : Value} {Q : Value → Shared → Prop} (hu : κ.knd.is k u = true) (R : SetX κ s.heap a S n) (room : n + 1 < scanBound)
    (hQ : ∀ h' , Heap.SameBut a s.heap h' → SetX κ h' a (fun j => S j || decide (j = k)) (if S k = true then n else n + 1) → Q .none { s with heap := h', toks := s.toks + 1 }) : wpAny (model P w) A (call (.builtin "set.add") [.ref a, u]) Q E s := by
  have hS : s.heap.SetOf κ.knd a S n := R.setOf
  refine wpAny_call_entry PySem.F.slot_set_add hS.typeIs PySem.F.entry_set_add ?_ (PySem.F.args_set_add_2 _ _)
  unfold Builtin.«set.add» Builtin.Frozenset.oneOther
  simp only [List.isEmpty_nil, bind_assoc]
  unfold Builtin.Frozenset.addrOf setAdd
  refine wpAny_bind (wpAny_pure ?_)
  try dsimp only
  refine wpAny_bind (wpAny_pure ?_)
  try dsimp only
  refine wpAny_bind (wpAny_holding (wpAny_bind (κ.knd.pyHash hu ?_)))
  refine setX_hashed (s := { s with toks := s.toks + 1 }) hu R room fun h' sb r => ?_
  show wpAny _ _ (ret Value.none) _ _ _
  exact wpAny_pure ⟨_, rfl, hQ h' sb r⟩
theorem setX_fresh {h : Heap} : SetX κ (h.push { cls := .type "set", dict := none, data := .set #[] 0 (.fresh 0 0 (!w.params.followText "set-order")) }) h.objs.size (fun _ => false) 0 :=
  ⟨_, #[], 0, _, Heap.get?_push_size _ rfl, ⟨rfl, rfl, rfl⟩, rfl, ⟨fun e he => by simp at he, by simp [ksX], fun k => by simp [ksX], by decide, rfl, rfl, List.Pairwise.nil, by
    show _ ∨ (!w.params.followText "set-order") = true
    cases w.params.followText "set-order"
    · exact .inr rfl
    · exact .inl rfl⟩⟩
end
/-- the set at a, tracked -/
def SetXO {P : Program} {w : World} {K : Type} [DecidableEq K] (κ : KF P w K) (a : Addr) (S : K → Bool) (n : Nat) : HO := .ext fun h => SetX κ h a S n
section
variable {X : Cx} {K : Type} [DecidableEq K] {κ : KF X.prog X.w K}
theorem setXO_new {H : Hp} {h : Heap} {a : Addr} {S : K → Bool} {n : Nat} (R : SetX κ h a S n) : ObjOk X.prog X.w H h a (SetXO κ a S n) := ⟨R, R.elim fun o z => z.elim fun _ z => z.elim fun _ z => z.elim fun _ z => ⟨o, z.1⟩, fun _ _ p k => SetX.at p k⟩
theorem setXO_get {pins : List (Addr × Obj)} {σ : L2.St} {H : Hp} {s : Shared} {a : Addr} {S : K → Bool} {n : Nat} (I : Inv X pins σ H s) (ha : H a = some (SetXO κ a S n)) : SetX κ s.heap a S n := (I.hok a _ ha).1
theorem addX_ok {pins : List (Addr × Obj)} {σ : L2.St} {H : Hp} {s : Shared} {E : Value → Shared → Prop} {D : Addr} {S : K → Bool} {n : Nat} {y : K} {u : Value} {Q : Value → Shared → Prop} (I : Inv X pins σ H s) (hD : H D = some (SetXO κ D S n)) (hu : κ.knd.is y u = true) (room : n + 1 < scanBound)
    (h : ∀ s', Inv X pins σ (upd H D (SetXO κ D (fun j => S j || decide (j = y)) (if S y = true then n else n + 1))) s' → Q .none s') : wpAny (model X.prog X.w) X.A (call (.builtin "set.add") [.ref D, u]) Q E s := by
  refine setX_add hu (setXO_get I hD) room fun h' sb new => ?_
  have he : ∃ u, h'.get? D = some u := new.elim fun o z => z.elim fun _ z => z.elim fun _ z => z.elim fun _ z => ⟨o, z.1⟩
  exact h _ (I.write (e := D) (t' := s.toks + 1) (by rw [hD]; trivial) (.inl rfl) (fun b u hb hu => (sb.2 b hb).trans hu) he (setXO_new new))
end
/-- texts as keys -/
def kfS : Value → Str | .str x _ => x | _ => Str.empty
def strF (P : Program) (w : World) : KF P w Str := ⟨PySem.strKind P w, kfS, fun k v h => by
  obtain ⟨t, rfl⟩ := Value.isStrOf_shape h
  exact ⟨rfl, rfl⟩⟩
end Y
namespace Y
open PySem PySem.Spec PyProof PyProof.Rows L2 M PpSet
section
variable {X : Cx} {K : Type} [DecidableEq K] (κ : KF X.prog X.w K) (kv : K → V)
/-- {elt for target in iter if ..}, elt a key: D the new set -/
def tScX (wi : TI) (g : TG) (tt : TT) (te : TE) (vs : List Nat) : TE := fun σ H Q => wi σ H fun J H1 => ∀ D, H1 D = none → ∃ W : Nat → Nat → Hp → Prop, (∃ m, W 0 m (upd H1 D (SetXO κ D (fun _ => false) 0))) ∧ ∀ i m H, W i m H →
  (J.stop i H ∧ Q (.ref D) H) ∨ (J.go i H ∧ ∃ Nx : Hp → Prop, (∀ H', Nx H' → ∃ m', m' < m ∧ W (i + 1) m' H') ∧ ∀ x H', J.yld i H x H' → g x (L2.wipe σ vs) H' fun σ2 H2 => L2.wipe σ2 vs = L2.wipe σ vs ∧ tt σ2 H2 fun b H3 =>
    if b = true then te σ2 H3 fun y H4 => ∃ (c : K) (S : K → Bool) (n : Nat), y = kv c ∧ H4 D = some (SetXO κ D S n) ∧ n + 1 < scanBound ∧ Nx (upd H4 D (SetXO κ D (fun j => S j || decide (j = c)) (if S c = true then n else n + 1))) else Nx H3)
variable {κ kv}
theorem scX_core (hkv : ∀ k u, RelV (kv k) u → κ.knd.is k u = true) {pins : List (Addr × Obj)} {s : Shared} {σ : L2.St} {H : Hp} {Q : VK} {elt tg iter : Expr} {ifs : List Expr} {scope : Scope} {own : List (PySem.Str × Nat)} {pos pos' : Pos} {wi : TI} {g : TG} {tt : TT} {te : TE} {use : Option (Value → Sem Unit)} {Qf : Value → Shared → Prop}
    (hc : X.calm = true) (hN : X.N.Nodup) (I : Inv X pins σ H s) (hi : PI X tg iter wi) (ok : BlkOk X.N X.env.scope scope own)
    (hg : ∀ (s : Shared) (H : Hp) (C : Addr) (cl : List (PySem.Str × Addr)) (fp : List Addr), PG (X.blk s H scope (compEnvC scope cl C X.env) fp) tg g) (ht : ∀ (s : Shared) (H : Hp) (C : Addr) (cl : List (PySem.Str × Addr)) (fp : List Addr), PTs (X.blk s H scope (compEnvC scope cl C X.env) fp) ifs tt)
    (he : ∀ (s : Shared) (H : Hp) (C : Addr) (cl : List (PySem.Str × Addr)) (fp : List Addr), PE (X.blk s H scope (compEnvC scope cl C X.env) fp) elt te) (hs : ∀ x, foldedSetIterable iter X.env x = pure x)
    (h : tScX κ kv wi g tt te (own.map (·.2)) σ H Q)
    (hRR : ∀ D C s' m H', Inv X pins σ H' s' → Q (.ref D) H' → s'.heap.Ns C m → FpOk X pins H' C → compPost (model X.prog X.w) X.A X.xe use Qf (.ref D) C (.ok .next) s') :
    wpAny (model X.prog X.w) X.A (comprehension (.SetComp elt [⟨tg, iter, ifs, 0⟩] scope pos) scope X.env pos' (newSet (.type "set")) false (eval iter X.env) use) Qf X.xe s := by
  have hfree : ∀ y ∈ scope.names, y.2 = .free → ∃ c, X.env.cells.lookup y.1 = some c := fun y hy e => by
    rcases ok.free y hy e with k | k
    · exact I.ok.has _ (.inl k)
    · exact I.ok.has _ (.inr k)
  refine wpAny_comprehension_free (use := use) rfl hs (closure_ok hfree) ok.kind (fun y hy e => by rw [ok.uniq y hy, e]) (thn (hi.run pins s σ H _ I h) fun xv s1 hx => thn hx fun itv s2 h2 => ?_)
  obtain ⟨it, fp, tn, J, H2, e, I2, T, st2, f2, q⟩ := h2
  subst e
  refine newSet_ok (newEnv_comp ?_)
  generalize hD : s2.heap.objs.size = D
  have dn : H2 D = none := I2.hok.fresh (Nat.le_of_eq hD)
  obtain ⟨W, ⟨m0, w0⟩, turn⟩ := q D dn
  generalize hs3 : ({ s2 with heap := s2.heap.push { cls := .type "set", dict := none, data := .set #[] 0 (.fresh 0 0 (!X.w.params.followText "set-order")) } } : Shared) = s3
  have I3 : Inv X pins σ (upd H2 D (SetXO κ D (fun _ => false) 0)) s3 := by
    rw [← hs3]
    refine I2.laid (t' := s2.toks) (fun b o e => Heap.get?_push_of_some _ e) (Nat.le_of_eq hD) ?_
    rw [← hD]
    exact setXO_new setX_fresh
  have h3 : s3.heap = s2.heap.push { cls := .type "set", dict := none, data := .set #[] 0 (.fresh 0 0 (!X.w.params.followText "set-order")) } := by rw [← hs3]
  have sz : ∀ b ∈ fp, b < s2.heap.objs.size := fun b hb => (T.obj _ _ st2 b hb).elim fun o e => Heap.lt_size e.1
  have f3 : ∀ b ∈ fp, FpOk X pins (upd H2 D (SetXO κ D (fun _ => false) 0)) b ∧ b < s3.heap.objs.size := fun b hb => by
    have hlt := sz b hb
    refine ⟨⟨?_, (f2 b hb).2⟩, by rw [h3, Heap.size_push]; exact Nat.lt_succ_of_lt hlt⟩
    rw [upd_ne (by rw [← hD]; exact Nat.ne_of_lt hlt)]
    exact (f2 b hb).1
  have st3 : tn 0 s3.heap := T.keep _ _ _ st2 fun b _ o e => by rw [h3]; exact Heap.get?_push_of_some _ e
  have I4 := block_start I3 ok hN f3
  have pg := hg s3 (upd H2 D (SetXO κ D (fun _ => false) 0)) s3.heap.objs.size (cellsFrom (s3.heap.objs.size + 1) scope.names (cloFrom X.env.cells scope.names [])) fp
  have pt := ht s3 (upd H2 D (SetXO κ D (fun _ => false) 0)) s3.heap.objs.size (cellsFrom (s3.heap.objs.size + 1) scope.names (cloFrom X.env.cells scope.names [])) fp
  have pe := he s3 (upd H2 D (SetXO κ D (fun _ => false) 0)) s3.heap.objs.size (cellsFrom (s3.heap.objs.size + 1) scope.names (cloFrom X.env.cells scope.names [])) fp
  show codeAny _ _ (.compStart (.SetComp elt [⟨tg, iter, ifs, 0⟩] scope pos) 0 (.ref it) (.ref D) (compEnvC scope (cellsFrom (s3.heap.objs.size + 1) scope.names (cloFrom X.env.cells scope.names [])) s3.heap.objs.size X.env)) (compPost (model X.prog X.w) X.A X.xe use Qf (.ref D) s3.heap.objs.size) { s3 with heap := pushCells (s3.heap.push { cls := .type "dict", data := .dict #[] }) scope.names }
  have nfp : ∀ b ∈ fp, (upd H2 D (SetXO κ D (fun _ => false) 0)) b = none := fun b hb => (f3 b hb).1.1
  generalize hce : compEnvC scope (cellsFrom (s3.heap.objs.size + 1) scope.names (cloFrom X.env.cells scope.names [])) s3.heap.objs.size X.env = ce at I4 pg pt pe ⊢
  have cL : ce.locals = s3.heap.objs.size := by subst hce; rfl
  generalize hH3 : upd H2 D (SetXO κ D (fun _ => false) 0) = H3 at I3 I4 pg pt pe w0 nfp f3
  generalize hs4 : ({ s3 with heap := pushCells (s3.heap.push { cls := .type "dict", data := .dict #[] }) scope.names } : Shared) = s4 at I4 ⊢
  have st4 : tn 0 s4.heap := T.keep _ _ _ st3 fun b _ o e => by rw [← hs4]; exact pushCells_keeps _ _ _ _ (Heap.get?_push_of_some _ e)
  have stat : ∀ {σ' : L2.St} {H' : Hp} {s' : Shared}, Inv (X.blk s3 H3 scope ce fp) [] σ' H' s' → (∀ b ∈ fp, H' b = none) → ∀ b ∈ fp, FpOk (X.blk s3 H3 scope ce fp) [] H' b := fun {σ' H' s'} I' hn b hb =>
    ⟨hn b hb, (I'.ok.exf b hb).1, I'.ok.exfs b hb, .inl hb, fun x c e => (I'.ok.exf b hb).2 x c e, fun p hp => absurd (show p ∈ ([] : List (Addr × Obj)) ++ [] from hp) (by simp)⟩
  have loop : codeAny (model X.prog X.w) X.A (.compLoop (.SetComp elt [⟨tg, iter, ifs, 0⟩] scope pos) 0 (.ref it) (.ref D) ce) (compPost (model X.prog X.w) X.A X.xe use Qf (.ref D) s3.heap.objs.size) s4 := by
    refine compLoopS_any (fun n s' => ∃ i H', Inv (X.blk s3 H3 scope ce fp) [] (L2.wipe σ (own.map (·.2))) H' s' ∧ tn i s'.heap ∧ (∀ b ∈ fp, H' b = none) ∧ W i n H') ?_ m0 ⟨0, H3, I4, st4, nfp, w0⟩
    rintro n s5 ⟨i, H5, I5, st5, n5, w5⟩
    rcases turn i n H5 w5 with ⟨stop, qq⟩ | ⟨go, Nx, hNx, step⟩
    · refine thnF (T.done (X.blk s3 H3 scope ce fp) rfl rfl rfl hc i [] s5 _ H5 (fun _ _ => False) I5 (stat I5 n5) st5 stop) fun r s6 ⟨hr, I6⟩ => ?_
      subst hr
      have I7 : Inv X pins σ H5 s6 := I3.call' (ch := fp) I6.os I6.base I6.hok I6.bare fun b hb => ⟨(f3 b hb).1.2.2.2.1, (f3 b hb).1.2.1, (f3 b hb).1.2.2.2.2.1, (f3 b hb).1.2.2.2.2.2⟩
      have nC : H5 s3.heap.objs.size = none := by
        have z : H5 ce.locals = none := I6.free
        rw [cL] at z
        exact z
      obtain ⟨m, hn, _⟩ := I6.loc
      have hn : s6.heap.Ns ce.locals m := hn
      rw [cL] at hn
      exact hRR D s3.heap.objs.size s6 m H5 I7 qq hn (I3.fpOk (Nat.le_refl _) nC)
    · refine thnF (T.item (X.blk s3 H3 scope ce fp) rfl rfl rfl hc i [] s5 _ H5 (fun _ _ => False) I5 (stat I5 n5) st5 go) fun r s6 ⟨u, hr, h6⟩ => ?_
      subst hr
      refine thnF h6 fun _ s7 ⟨x, H7, I7, r7, y7, st7, n7⟩ => ?_
      have I7' := I7.pinned (stat I7 n7) (T.obj _ _ st7)
      refine thnF (pg.run _ s7 _ H7 x u _ I7' r7 (step x H7 y7)) fun _ s8 ⟨σ8, H8, I8, hw8, q8⟩ => thnF (pt.run _ s8 σ8 H8 _ I8 q8) fun b s9 ⟨H9, I9, q9⟩ => ?_
      have fin : ∀ {s' : Shared} {H' : Hp}, Inv (X.blk s3 H3 scope ce fp) ([] ++ pinsAt fp s7.heap) σ8 H' s' → Nx H' → ∃ m, m < n ∧ ∃ i H', Inv (X.blk s3 H3 scope ce fp) [] (L2.wipe σ (own.map (·.2))) H' s' ∧ tn i s'.heap ∧ (∀ b ∈ fp, H' b = none) ∧ W i m H' := fun {s' H'} I' nx => by
        obtain ⟨m', hm, w'⟩ := hNx H' nx
        have pin' : ∀ b ∈ fp, ∀ o, s7.heap.get? b = some o → s'.heap.get? b = some o ∧ H' b = none := fun b hb o e =>
          let z := I'.pin (b, o) (List.mem_append_right _ (List.mem_append_right _ (mem_pinsAt hb e)))
          ⟨z.1, z.2.1⟩
        have hl : (L2.wipe σ (own.map (·.2))).length = σ8.length := by rw [← hw8, wipe_length]
        refine ⟨m', hm, i + 1, H', (I'.unpinned (pins := [])).weak hl (fun j v e => ?_), T.keep _ _ _ st7 fun b hb o e => (pin' b hb o e).1, fun b hb => ?_, w'⟩
        · rw [← hw8] at e
          exact (wipe_some e).1
        · exact (T.obj _ _ st7 b hb).elim fun o e => (pin' b hb o e.1).2
      cases b with
      | false =>
        simp only [Bool.false_eq_true, if_false] at q9 ⊢
        exact fin I9 q9
      | true =>
        simp only [if_true] at q9 ⊢
        refine thnF (pe.run _ s9 σ8 H9 _ I9 q9) fun z s10 ⟨yv, H10, I10, r10, cb, S0, n0, ey, hD10, hz10, nx⟩ => ?_
        subst ey
        exact addX_ok (X := X.blk s3 H3 scope ce fp) (κ := κ) I10 hD10 (hkv _ _ r10) hz10 fun s11 I11 => fin I11 nx
  exact codeAny_compStart_set loop (T.self X.A 0 _ _ _ st4 loop)
theorem pe_scX (hkv : ∀ k u, RelV (kv k) u → κ.knd.is k u = true) {elt tg iter : Expr} {ifs : List Expr} {scope : Scope} {own : List (PySem.Str × Nat)} {pos : Pos} {wi : TI} {g : TG} {tt : TT} {te : TE} (hc : X.calm = true) (hN : X.N.Nodup) (hi : PI X tg iter wi) (ok : BlkOk X.N X.env.scope scope own)
    (hg : ∀ (s : Shared) (H : Hp) (C : Addr) (cl : List (PySem.Str × Addr)) (fp : List Addr), PG (X.blk s H scope (compEnvC scope cl C X.env) fp) tg g) (ht : ∀ (s : Shared) (H : Hp) (C : Addr) (cl : List (PySem.Str × Addr)) (fp : List Addr), PTs (X.blk s H scope (compEnvC scope cl C X.env) fp) ifs tt)
    (he : ∀ (s : Shared) (H : Hp) (C : Addr) (cl : List (PySem.Str × Addr)) (fp : List Addr), PE (X.blk s H scope (compEnvC scope cl C X.env) fp) elt te) (hs : ∀ x, foldedSetIterable iter X.env x = pure x) :
    PE X (.SetComp elt [⟨tg, iter, ifs, 0⟩] scope pos) (tScX κ kv wi g tt te (own.map (·.2))) := by
  refine ⟨fun pins s σ H Q I h => ?_⟩
  rw [eval_SetComp]
  refine scX_core hkv hc hN I hi ok hg ht he hs h fun D C s' m H' I' q hn f => ⟨m, hn, fun h'' sb => ?_⟩
  obtain ⟨f0, f1, f2, f3, f4, f5⟩ := f
  exact ⟨.ref D, H', I'.turned (t' := s'.toks) (fun b o hb e => (sb.2 b hb).trans e) f0 f1 f3 f4 f5, rfl, q⟩
end
/-! ### sorted, texts -/
theorem strs_of : ∀ (l : List Value), (∀ v ∈ l, ∃ x t, v = Value.str x t) → StrsAre l (l.map kfS)
  | [], _ => .nil
  | v :: l, h => by
    obtain ⟨x, t, rfl⟩ := h v List.mem_cons_self
    exact .cons x t (strs_of l fun u hu => h u (List.mem_cons_of_mem _ hu))
section
variable {P : Program} {w : World} {A : Around} {E : Value → Shared → Prop} {s : Shared} {a : Addr} {S : Str → Bool} {n : Nat}
theorem sorted_setS {Q : Value → Shared → Prop} (R : SetX (strF P w) s.heap a S n) (hh : A.handled = none) (h64 : n < 4096)
    (hQ : ∀ s' p (out : Array Value) (c : Nat) (ys : List Str), (∀ b o, s.heap.get? b = some o → s'.heap.get? b = some o) → s'.gens = s.gens → s'.os = s.os → s.heap.objs.size ≤ p →
      s'.heap.get? p = some (seqObj "list" out c) → StrsAre out.toList ys → sortedS ys = true → ys.Nodup → (∀ k, k ∈ ys ↔ S k = true) → ys.length = n → Q (.ref p) s') :
    wpAny (model P w) A (call (.builtin "sorted") [.ref a]) Q E s := by
  obtain ⟨o, es, ep, t, ho, hex, hd, r⟩ := R
  refine Calls.call_function_entry kind_sorted plain_sorted entry_sorted (args_sorted1 _) ?_
  unfold Builtin.«sorted»
  refine wpAny_bind (m := checkCount "sorted" 1 1 _) (wpAny_pure (wpAny_bind (collect_set (A := A.in1) hh ⟨o, ho, hex.1, hd⟩ r.fit r.bd r.ris r.led fun s1 vs k1 hz g1 o1 pm => ?_)))
  have hvl : vs.length = n := by rw [pm.length_eq, List.length_map, Array.length_toList]; exact r.sz
  have hI : StrsAre vs (vs.map kfS) := strs_of vs fun v hv => by
    obtain ⟨e, he, q⟩ := List.mem_map.mp (pm.mem_iff.mp hv)
    obtain ⟨k, h1, _⟩ := r.gd e he
    obtain ⟨t, z⟩ := Value.isStrOf_shape h1
    exact ⟨k, t, by rw [← q]; exact z⟩
  have pk : (vs.map kfS).Perm (ksX (strF P w) es) := by
    have q := pm.map kfS
    rw [List.map_map] at q
    exact q
  refine wpAny_bind (wpAny_newList ?_ (by rw [hvl, sizeLine_eq]; omega))
  have hoL : (s1.heap.push (seqObj "list" vs.toArray 0)).get? s1.heap.objs.size = some (seqObj "list" vs.toArray 0) := Heap.get?_push_size _ rfl
  refine wpAny_bind (wpAny_holding (wpAny_call_entry slot_list_sort ⟨_, hoL, rfl⟩ entry_list_sort (list_sort_treeKAny PyProof.Rows.strKind_oneLt hoL hI.keysOf (fun v₁ v₂ rest e => keyKind_strs (by rw [← e]; exact hI)) (by rw [hvl, sizeLine_eq]; omega) fun st' hp hs => ⟨_, rfl, ?_⟩) (args_list_sort _)))
  obtain ⟨ys, a1, a2, a3⟩ := sorted_out_str hI hp hs
  obtain ⟨c, hc⟩ := sortedHeap_at (vs := vs) (out := (arrOf st').map (·.2)) hoL
  have pn : ys.Perm (ksX (strF P w) es) := a2.trans pk
  refine wpAny_pure ⟨_, rfl, hQ _ s1.heap.objs.size _ c ys (fun b u e => ?_) g1 o1 hz hc a1 a3 (pn.nodup_iff.mpr r.nd) (fun k => by rw [pn.mem_iff, ← r.mem k]) ?_⟩
  · have q := k1 b u e
    have hlt := Heap.lt_size q
    show (sortedHeap (s1.heap.push (seqObj "list" vs.toArray 0)) s1.heap.objs.size vs ((arrOf st').map (·.2))).get? b = some u
    rw [sortedHeap_old (Nat.ne_of_lt hlt) (by rw [size_push']; exact Nat.lt_succ_of_lt hlt)]
    exact Heap.get?_push_of_some _ q
  · rw [pn.length_eq, List.length_map, Array.length_toList]; exact r.sz
end
def rSrtX (P : Program) (w : World) : List V → Hp → VK → Prop := fun vs H Q => ∃ (a : Addr) (S : Str → Bool) (n : Nat), vs = [V.ref a] ∧ H a = some (SetXO (strF P w) a S n) ∧ n < 4096 ∧
  ∀ (ys : List Str) (p : Addr), sortedS ys = true → ys.Nodup → (∀ k, k ∈ ys ↔ S k = true) → ys.length = n → H p = none → Q (.ref p) (upd H p (.lst (ys.map V.str)))
theorem cr_srtX {X : Cx} (hc : X.calm = true) : CallR X (.builtin "sorted") (rSrtX X.prog X.w) := by
  intro pins s σ H vs us Q I r h
  obtain ⟨a, S, n, rfl, ha, h64, q⟩ := h
  rw [Vals.ref1 r]
  refine sorted_setS (setXO_get I ha) (I.ok.hd hc) h64 fun s' p out c ys k g o hp hg hi hs hnd hm hl => ?_
  have hlen : (ys.map V.str).length ≤ sizeLine := by rw [List.length_map, hl, sizeLine_eq]; omega
  have hn : H p = none := I.hok.fresh hp
  have J : Inv X pins σ (upd H p (.lst (ys.map V.str))) { s with heap := s'.heap, gens := s'.gens, drawn := s'.drawn, toks := s'.toks } :=
    I.call (ch := []) (Un.laid k hp hn) (I.hok.laid k hp ⟨hlen, out.toList, c, vals_of_strs hi, hg⟩) (by rw [g]; exact I.bare) (fun _ z => nomatch z)
  have e : s' = { s with heap := s'.heap, gens := s'.gens, drawn := s'.drawn, toks := s'.toks } := by
    cases s'
    cases s
    cases o
    rfl
  rw [e]
  exact ⟨.ref p, _, J, rfl, q ys p hs hnd hm hl hn⟩
end Y
namespace Y
open PySem PySem.Spec PyProof PyProof.Rows L2 M
theorem heap_at (o : Obj) (ho : o.isFreed = false) (D : Addr) : ∃ h : Heap, h.get? D = some o := by
  have key : ∀ n : Nat, ∃ h : Heap, h.objs.size = n := fun n => by
    induction n with
    | zero => exact ⟨{}, rfl⟩
    | succ n ih =>
      obtain ⟨h, e⟩ := ih
      exact ⟨h.push o, by rw [Heap.size_push, e]⟩
  obtain ⟨h, e⟩ := key D
  exact ⟨h.push o, by rw [← e]; exact Heap.get?_push_size _ ho⟩
theorem setXO_nocode {P : Program} {w : World} {K : Type} [DecidableEq K] {κ : KF P w K} {H : Hp} {a : Addr} {S : K → Bool} {n : Nat} (h : H a = some (SetXO κ a S n)) : NoExt H a := fun q z => by
  rw [h] at z
  have e : (fun h => SetX κ h a S n) = fun h : Heap => ∃ (oc : Obj) (vs : Array Value) (t : Tok), h.get? a = some oc ∧ oc.data = .fields vs ∧ vs[1]? = some (.str q t) := HO.ext.inj (Option.some.inj z)
  obtain ⟨hp, g⟩ := heap_at { cls := .none, data := .fields #[.none, .str q 0] } rfl a
  have r : SetX κ hp a S n := by
    show (fun h => SetX κ h a S n) hp
    rw [e]
    exact ⟨_, _, 0, g, rfl, rfl⟩
  obtain ⟨o, es, ep, t, ho, _, hd, _⟩ := r
  rw [g] at ho
  cases ho
  cases hd
/-- a text, or nothing -/
def okSO : Option D → Prop | some (.str _) => True | none => True | _ => False
section
variable {X : Cx} {xw : Xw}
def stS (wc : En → (Bool → Prop) → Prop) (we : En → VQ → Prop) (t : Tg) (ρ : En) (d : D) (R : Option D → Prop) : Prop := match setTg t d (wipeE ρ t.ixs) with
  | some ρ' => wc ρ' fun b => (b = true → we ρ' fun r k => k ≠ .bor ∧ (∃ x, r = .str x) ∧ R (some r)) ∧ (b = false → R none)
  | none => False
def wSrt' (wi : En → (List D → Prop) → Prop) (wc : En → (Bool → Prop) → Prop) (we : En → VQ → Prop) (t : Tg) : En → VQ → Prop := fun ρ Q => wi ρ fun ds => ds.length ≤ 4000 ∧
  wComp (stS wc we t ρ) ds [] fun rs => ∀ xs ys : List Str, rs = xs.map .str → sortedS ys = true → ys.Nodup → (∀ k, k ∈ ys ↔ k ∈ xs) → Q (.list (ys.map .str)) .own
theorem strsV_dnl {K : PySem.W.Frag} {H : Hp} {Z : Addr → Prop} : ∀ ys : List Str, DnL K H Z (ys.map V.str) (ys.map PyData.str)
  | [] => .nil
  | y :: ys => .cons (.str y) (strsV_dnl ys)
theorem srt_turn {cc ce ci : Nat} {wi : En → (List D → Prop) → Prop} {wc : En → (Bool → Prop) → Prop} {we : En → VQ → Prop} {t : Tg} (mi : MonoL wi) (mc : MonoT wc) (me : MonoW we) {σ : L2.St} {H : Hp} {Q : VK}
    (h : tX X.K xw (ci + sizeLine * (cc + ce)) (wSrt' wi wc we t) σ H Q) : tScX (strF X.prog X.w) V.str (tI X.K xw false ci wi) (gT X.K t) (tT X.K xw.ne cc wc) (tX X.K xw.ne ce we) t.ixs σ H fun v H1 => ∃ (a : Addr) (S : Str → Bool) (n : Nat), [v] = [V.ref a] ∧ H1 a = some (SetXO (strF X.prog X.w) a S n) ∧ n < 4096 ∧
      ∀ (ys : List Str) (p : Addr), sortedS ys = true → ys.Nodup → (∀ k, k ∈ ys ↔ S k = true) → ys.length = n → H1 p = none → Q (.ref p) (upd H1 p (.lst (ys.map V.str))) := by
  obtain ⟨H0, B, pn, fr, ρ, Z, tb, ok, w⟩ := h
  refine ⟨H0, B, pn, fr, ρ, Z, (sizeLine * (cc + ce) + tb), ok.lt (by omega), mi _ _ _ (fun ds q J H1 fv s1 hfv hJ D nD => ?_) w⟩
  obtain ⟨q0, q⟩ := q
  have q1 : ds.length ≤ sizeLine := Nat.le_trans q0 (by decide)
  have ok1 := (ok.to s1).lt (bgt_0 q1)
  have sD : HStep (bgt ds.length 0 (cc + ce) tb) pn H1 (L2.upd H1 D (SetXO (strF X.prog X.w) D (fun _ => false) 0)) := ok1.ss (M.same_upd nD)
  have tD : L2.upd H1 D (SetXO (strF X.prog X.w) D (fun _ => false) 0) D ≠ none := by rw [upd_same]; exact fun z => nomatch z
  have okD := ok1.more nD sD tD
  have pD : D ∉ pn := fun z => ok1.pnt D z nD
  have h0D : H0 D = none := (ok.step.trans s1).free nD
  have oD : ∀ (i : Nat) (d : PyData), ρ[i]? = some (.own d) → σ[i]? ≠ some (some (.ref D)) := fun i d e z => by
    obtain ⟨a, e1, _, _, _, h4⟩ := ok1.sl i _ e
    rw [e1] at z
    cases z
    exact h4.there nD
  have sf : (fun _ : Str => false) = fun j => decide (j ∈ ([] : List Str)) := by funext j; simp
  refine ⟨fun i m Hc => ∃ (xs : List Str) (n : Nat), m = ds.length - i ∧ i ≤ ds.length ∧ n ≤ i ∧ Hc D = some (SetXO (strF X.prog X.w) D (fun j => decide (j ∈ xs)) n) ∧ EnvOk X.K xw H0 B pn fr (Zp Z D) (bgt ds.length i (cc + ce) tb) σ ρ Hc ∧ HStep (bgt ds.length i (cc + ce) tb) pn H1 Hc ∧ (∀ p ∈ fv, Dr X.K (D :: pn) Hc (Zp Z D) p.1 p.2) ∧
      wComp (stS wc we t ρ) (ds.drop i) (xs.map .str) fun rs => ∀ xs ys : List Str, rs = xs.map .str → sortedS ys = true → ys.Nodup → (∀ k, k ∈ ys ↔ k ∈ xs) → ∀ v H', HStep tb pn H H' → RX X.K pn H H' Z v (.list (ys.map .str)) .own → Q v H',
    ⟨ds.length, [], 0, rfl, Nat.zero_le _, Nat.zero_le _, by rw [upd_same, sf], okD, sD, fun p hp => ((hfv p hp).1).more nD sD ok1.pnz, q⟩, ?_⟩
  rintro i m Hc ⟨xs, n, rfl, hi, hni, eD, okc, sc, fvc, wcm⟩
  obtain ⟨jstop, jgo⟩ := hJ Hc (Zp Z D) i okc.zt fun p hp => (fvc p hp).less
  by_cases hlt : i < ds.length
  · obtain ⟨go, yl⟩ := jgo hlt
    refine .inr ⟨go, fun Hn => ∃ (xs : List Str) (n : Nat), i + 1 ≤ ds.length ∧ n ≤ i + 1 ∧ Hn D = some (SetXO (strF X.prog X.w) D (fun j => decide (j ∈ xs)) n) ∧ EnvOk X.K xw H0 B pn fr (Zp Z D) (bgt ds.length (i + 1) (cc + ce) tb) σ ρ Hn ∧ HStep (bgt ds.length (i + 1) (cc + ce) tb) pn H1 Hn ∧ (∀ p ∈ fv, Dr X.K (D :: pn) Hn (Zp Z D) p.1 p.2) ∧
      wComp (stS wc we t ρ) (ds.drop (i + 1)) (xs.map .str) fun rs => ∀ xs ys : List Str, rs = xs.map .str → sortedS ys = true → ys.Nodup → (∀ k, k ∈ ys ↔ k ∈ xs) → ∀ v H', HStep tb pn H H' → RX X.K pn H H' Z v (.list (ys.map .str)) .own → Q v H', ?_, fun x H2 y => ?_⟩
    · rintro Hn ⟨xs', n', h1, h2, h3, h5, h6, h7, h8⟩
      exact ⟨ds.length - (i + 1), by omega, xs', n', rfl, h1, h2, h3, h5, h6, h7, h8⟩
    · obtain ⟨s2, d, ed, nd⟩ := yl x H2 y
      have s2' : HStep (bgt ds.length i (cc + ce) tb) pn Hc H2 := okc.ss s2
      have ok2 := okc.to s2'
      have edr : ds.drop i = d :: ds.drop (i + 1) := by
        rw [List.drop_eq_getElem_cons hlt]
        have : ds[i] = d := by
          have := List.getElem?_eq_getElem hlt
          rw [ed] at this
          exact (Option.some.inj this).symm
        rw [this]
      rw [edr] at wcm
      simp only [wComp] at wcm
      unfold stS at wcm
      split at wcm
      · rename_i ρ' eρ
        refine tg_ok (ok2.wipe t.ixs) eρ nd fun σ' ok' ew => ⟨by rw [ew, wipe_idem], ?_⟩
        refine ⟨H0, B, pn, fr, ρ', Zp Z D, (ce + bgt ds.length (i + 1) (cc + ce) tb), (ok'.lt (by rw [bgt_s hlt]; omega)).ne, mc _ _ _ (fun b qb H3 s3 => ?_) wcm⟩
        have sall3 : HStep (ce + bgt ds.length (i + 1) (cc + ce) tb) pn Hc H3 := s2'.trans s3
        have e3 := sall3.keep D _ pD eD
        cases b with
        | false =>
          refine iteF ?_
          exact ⟨xs, n, hlt, by omega, e3, okc.to (sall3.less (by omega)), sc.trans (sall3.less (by omega)), fun p hp => (fvc p hp).stepD sall3 okc.pnz, qb.2 rfl⟩
        | true =>
          refine iteT ?_
          refine ⟨H0, B, pn, fr, ρ', Zp Z D, _, (ok'.to s3).ne, me _ _ _ (fun r k qr y4 H4 s4 r4 => ?_) (qb.1 rfl)⟩
          have sall : HStep (bgt ds.length (i + 1) (cc + ce) tb) pn Hc H4 := sall3.trans s4
          have e4 := sall.keep D _ pD eD
          have xD : NoExt H4 D := setXO_nocode e4
          obtain ⟨nb, ⟨x4, rfl⟩, qr⟩ := qr
          have ny := (r4.dr (ok'.to s3).pnt).str
          subst ny
          have es : (fun j => decide (j ∈ xs) || decide (j = x4)) = fun j => decide (j ∈ xs ++ [x4]) := by funext j; simp
          refine ⟨x4, _, n, rfl, e4, ?_, xs ++ [x4], _, hlt, ?_, by rw [upd_same, es], ?_, ?_, fun p hp => ((fvc p hp).stepD sall okc.pnz).updD (.inr rfl), by rw [List.map_append]; exact qr⟩
          · unfold scanBound; omega
          · split <;> omega
          · refine (okc.to sall).upd (.inr rfl) h0D pD xD oD fun i C fs x dx Ca fvs f d e e1 e2 hf hl => ?_
            obtain ⟨_, x1, dx1, C1, fv1, q1, ob⟩ := ok1.ob i C fs e
            rw [e1] at q1
            cases q1
            have := (sc.trans sall).keep x _ ob.np ob.at_
            rw [e2] at this
            cases this
            obtain ⟨b, q2, _, _, _, _, h5⟩ := ob.own f d hf
            rw [hl] at q2
            cases q2
            exact h5.there nD
          · refine ⟨fun b u n e => ?_, fun d hd => ?_, fun b h => ?_, sall.bd.upd pD⟩
            · rw [upd_ne (fun z => by rw [z, nD] at e; cases e)]
              exact (sc.trans sall).keep b u n e
            · exact ((sc.trans sall).pen d hd).upd (fun z => pD (by rw [← z]; exact hd)) xD
            · by_cases e : b = D
              · subst e; rw [upd_same]; exact fun z => nomatch z
              · rw [upd_ne e]; exact (sc.trans sall).there b h
      · exact wcm.elim
  · have ei : i = ds.length := by omega
    subst ei
    rw [List.drop_length] at wcm
    have s9 := (s1.trans sc).less (show tb ≤ _ by rw [bgt_e]; omega)
    refine .inl ⟨jstop rfl, D, _, n, rfl, eD, by omega, fun ys p h1 h2 h3 h4 np => ?_⟩
    have okf := okc.lt (show tb ≤ _ by rw [bgt_e]; omega)
    refine wcm xs ys rfl h1 h2 (fun k => by rw [h3]; simp) _ _ (s9.trans (okf.ss (M.same_upd np))) ⟨p, rfl, s9.free np, .inl ⟨_, _, rfl, upd_same, strsV_dnl ys⟩⟩
end
end Y
namespace Y
open PySem PySem.Spec PyProof PyProof.Rows L2 M
def gStS (t : Tg) (ρ : En) (c : Wt) (el : Wx) (d : D) (R : Option D → Prop) : Prop := match setTg t d (wipeE ρ t.ixs) with
  | some ρ' => c.run XF0 ρ' fun b => (b = true → el.run XF0 ρ' fun r k => k ≠ .bor ∧ (∃ x, r = .str x) ∧ R (some r)) ∧ (b = false → R none)
  | none => False
theorem gStS_mono {t : Tg} {ρ : En} {c : Wt} {el : Wx} (d : D) (R R' : Option D → Prop) (h : ∀ o, R o → R' o) : gStS t ρ c el d R → gStS t ρ c el d R' := by
  unfold gStS
  split
  · exact fun q => c.m _ _ _ (fun b z => ⟨fun e => el.m _ _ _ (fun r k z => ⟨z.1, z.2.1, h _ z.2.2⟩) (z.1 e), fun e => h _ (z.2 e)⟩) q
  · exact id
/-- sorted({el for t in it if c}), texts -/
def wSrtC (el : Wx) (t : Tg) (it : Wi) (c : Wt) : Wx := ⟨fun E ρ Q => it.run E ρ fun ds => ds.length ≤ 4000 ∧ wComp (gStS t ρ c el) ds [] fun rs => ∀ xs ys : List Str, rs = xs.map .str → sortedS ys = true → ys.Nodup → (∀ k, k ∈ ys ↔ k ∈ xs) → Q (.list (ys.map .str)) .own,
  fun E E' ρ Q Q' he h q => it.mono _ _ _ _ _ he (fun ds z => ⟨z.1, wComp_mono gStS_mono _ _ _ _ (fun _ z xs ys a b c d => h _ _ (z xs ys a b c d)) z.2⟩) q, it.c + sizeLine * (c.c + el.c), el.esc ++ it.esc ++ c.esc, true,
  fun _ E ρ Q q => it.m _ _ _ (fun ds z => ⟨z.1, wComp_mono gStS_mono _ _ _ _ (fun _ z xs ys a b c d => ⟨nbO, z xs ys a b c d⟩) z.2⟩) q⟩
@[simp] theorem run_srtC {el : Wx} {t : Tg} {it : Wi} {c : Wt} {E : XQ} {ρ : En} {Q : VQ} : (wSrtC el t it c).run E ρ Q = it.run E ρ fun ds => ds.length ≤ 4000 ∧ wComp (gStS t ρ c el) ds [] fun rs => ∀ xs ys : List Str, rs = xs.map .str → sortedS ys = true → ys.Nodup → (∀ k, k ∈ ys ↔ k ∈ xs) → Q (.list (ys.map .str)) .own := rfl
/-- sorted(a list of texts) -/
def rSrtL (K : PySem.W.Frag) : List V → Hp → VK → Prop := fun vs H Q => ∃ (a : Addr) (xs : List Str), vs = [V.ref a] ∧ SqL K H a (xs.map V.str) ∧ xs.length ≤ 1000000 ∧ ∀ (ys : List Str) (p : Addr), ys.Perm xs → sortedS ys = true → H p = none → Q (.ref p) (upd H p (.lst (ys.map V.str)))
theorem cr_srtL {X : Cx} : CallR X (.builtin "sorted") (rSrtL X.K) := by
  intro pins s σ H vs us Q I r h
  obtain ⟨a, xs, rfl, hs, hl, q⟩ := h
  obtain ⟨its, rv, hl', _⟩ := I.list hs
  rw [Vals.ref1 r]
  have e0 := rv.length
  rw [List.length_map] at e0
  refine sorted_strsAny hl'.isList rv.strs (by rw [← e0, sizeLine_eq]; omega) fun out ys h1 h2 h3 => ?_
  obtain ⟨ep, he'⟩ := PyProof.Rows.sortedAll_at s.heap its out
  have hlen : (ys.map V.str).length ≤ sizeLine := by rw [List.length_map, h2.length_eq, sizeLine_eq]; omega
  exact ⟨.ref _, upd H (s.heap.objs.size + 1) (.lst (ys.map V.str)), I.laid (t' := s.toks) (fun _ _ => PyProof.Rows.sortedAll_old) (Nat.le_succ _) ⟨hlen, out.toList, ep, vals_of_strs h1, he'⟩, rfl, q ys _ h2 h3 (I.hok.fresh (Nat.le_succ _))⟩
def gSrtL (x : D) (Q : VQ) : Prop := ∃ xs : List Str, x = .list (xs.map .str) ∧ xs.length ≤ 1000000 ∧ ∀ ys : List Str, ys.Perm xs → sortedS ys = true → Q (.list (ys.map .str)) .own
theorem gSrtL_mono {x : D} {Q Q' : VQ} (h : ∀ d k, k ≠ .bor → Q d k → Q' d k) : gSrtL x Q → gSrtL x Q' := fun ⟨ns, e, l, q⟩ => ⟨ns, e, l, fun ms a b => h _ _ (by simp) (q ms a b)⟩
def wSrtL (a : Wx) : Wx := ⟨fun E ρ Q => a.run E ρ fun x _ => gSrtL x Q, fun E E' ρ Q Q' he h q => a.mono _ _ _ _ _ he (fun _ _ z => gSrtL_mono (fun d k _ => h d k) z) q, a.c, a.esc, true, fun _ E ρ Q q => a.m _ _ _ (fun _ _ z => gSrtL_mono (fun d k n z => ⟨n, z⟩) z) q⟩
@[simp] theorem run_srtL {a : Wx} {E : XQ} {ρ : En} {Q : VQ} : (wSrtL a).run E ρ Q = a.run E ρ fun x _ => gSrtL x Q := rfl
section
variable {X : Cx} {xw : Xw} {G : Gm} {j : Nat} {CC : Cts} (c : Cok X xw G j CC) {pos p p2 : Pos}
include c
theorem e_srtC {el tg iter : Expr} {ifs : List Expr} {scope : Scope} {t : Tg} {wi : Wi} {wc : Wt} {we : Wx} (hi : Pit X xw false tg iter wi)
    (hg : ∀ {X' : Cx}, Cok X' xw.ne (G.blk scope) j CC → Pg X' tg t)
    (hc : ∀ {X' : Cx}, Cok X' xw.ne (G.blk scope) j CC → Pts X' xw.ne ifs wc)
    (he : ∀ {X' : Cx}, Cok X' xw.ne (G.blk scope) j CC → Pe X' xw.ne el we) (hb : coB G scope t = true := by decide +kernel) (hcm : G.calm = true := by rfl) (h : btB G "sorted" = true := by decide +kernel) :
    Pe X xw (.Call (.Name "sorted" p) [.SetComp el [⟨tg, iter, ifs, 0⟩] scope p2] [] pos) (wSrtC we t wi wc) := by
  have h := bt_ok c h
  have hcl := c.calm hcm
  refine PE.weak (pe_callB (cr_srtX hcl) h.1 h.2.1 (by decide +kernel) (pa_cons (pe_scX (κ := strF X.prog X.w) (kv := V.str) (g := gT X.K t) (tt := tT X.K xw.ne wc.c (wc.run XF0)) (te := tX X.K xw.ne we.c (we.run XF0)) (own := t.ixs.map fun i => (G.N.getD i "", i)) (fun k u r => by obtain ⟨tk, rfl⟩ := r; exact PySem.strKind_is _ _ _ _) hcl (by rw [c.N]; exact c.nd) hi.it (by rw [c.N, c.sc]; exact blkOk_by hb)
    (fun s H L cl fp => hg (c.blk scope s H cl L fp)) (fun s H L cl fp => hc (c.blk scope s H cl L fp)) (fun s H L cl fp => he (c.blk scope s H cl L fp)) (folded_ok hi.st)) pa_nil rfl)) fun σ H Q w => ?_
  have ei : (t.ixs.map fun i => (G.N.getD i "", i)).map (·.2) = t.ixs := by rw [List.map_map]; show List.map (fun i => i) t.ixs = t.ixs; simp
  rw [ei]
  exact srt_turn wi.m wc.m we.m w
theorem e_srtL {a : Expr} {wa : Wx} (ha : Pe X xw a wa) (st : isStar a = false := by rfl) (h : btB G "sorted" = true := by decide +kernel) : Pe X xw (.Call (.Name "sorted" p) [a] [] pos) (wSrtL wa) := by
  have h := bt_ok c h
  refine PE.weak (pe_callB cr_srtL h.1 h.2.1 (by decide +kernel) (pa_cons ha pa_nil (star_cons st)) (he := star_cons st)) fun σ H Q ⟨H0, B, pn, fr, ρ, Z, t, ok, w⟩ => ?_
  refine ⟨H0, B, pn, fr, ρ, Z, t, ok, wa.m _ _ _ (fun d k q x H1 s1 r1 => ?_) w⟩
  obtain ⟨xs, rfl, hl, q⟩ := q
  obtain ⟨b, zs, rfl, s3, n3⟩ := (r1.dr ok.pnt).list
  have es : strsD (xs.map .str) = some xs := by
    clear hl q r1 n3
    induction xs with
    | nil => rfl
    | cons x xs ih => show (strsD (xs.map .str)).map _ = _; rw [ih]; rfl
  have ev := strs_vals n3 es
  subst ev
  refine ⟨b, xs, rfl, SqL.of s3, hl, fun ys p a1 a2 np => q ys a1 a2 _ _ (s1.trans ((ok.to s1).ss (M.same_upd np))) (RX.back (rx_lst np (strsV_dnl ys)) s1)⟩
end
end Y

/-! W33: {k: v, ..}, keys ints and texts. -/
namespace Y
open PySem PySem.Spec PyProof.Rows L2 M
def mrgP (acc : List (D × D)) (ps : List (Key × D)) : List (D × D) := ps.foldl (fun acc p => putP acc p.1 p.2) acc
@[simp] theorem mrgP_nil {acc : List (D × D)} : mrgP acc [] = acc := rfl
@[simp] theorem mrgP_cons {acc : List (D × D)} {p : Key × D} {ps : List (Key × D)} : mrgP acc (p :: ps) = mrgP (putP acc p.1 p.2) ps := rfl
@[simp] theorem putP_nil {k : Key} {d : D} : putP [] k d = [(kD k, d)] := rfl
structure Wd where
  tr : Wg (List (Key × D))
  n : Nat
def gKey (x : D) (Q : Key → Prop) : Prop := match keyD x with | some k => Q k | none => False
@[simp] theorem gKey_int {i : Int} {Q : Key → Prop} : gKey (.int i) Q = Q (.inl i) := rfl
@[simp] theorem gKey_str {i : Str} {Q : Key → Prop} : gKey (.str i) Q = Q (.inr i) := rfl
theorem gKey_mono {x : D} {Q Q' : Key → Prop} (h : ∀ k, Q k → Q' k) : gKey x Q → gKey x Q' := by
  unfold gKey
  split
  · exact h _
  · exact id
def dNil : Wd := ⟨⟨fun _ _ Q => Q [], fun _ _ _ _ _ _ h q => h _ q, 0, []⟩, 0⟩
def dCons (a b : Wx) (s : Wd) : Wd := ⟨⟨fun E ρ Q => a.run E ρ fun x _ => b.run E ρ fun y k => k ≠ .bor ∧ gKey x fun kx => s.tr.run E ρ fun ps => Q ((kx, y) :: ps),
  fun E E' ρ Q Q' he h q => a.mono _ _ _ _ _ he (fun _ _ z => b.mono _ _ _ _ _ he (fun _ _ z => ⟨z.1, gKey_mono (fun _ z => s.tr.mono _ _ _ _ _ he (fun _ z => h _ z) z) z.2⟩) z) q, a.c + b.c + s.tr.c, a.esc ++ b.esc ++ s.tr.esc⟩, s.n + 1⟩
def wDct (s : Wd) : Wx := ⟨fun E ρ Q => s.tr.run E ρ fun ps => ps.length ≤ 15 ∧ Q (.dict (mrgP [] ps)) .own, fun E E' ρ Q Q' he h q => s.tr.mono _ _ _ _ _ he (fun _ z => ⟨z.1, h _ _ z.2⟩) q, s.tr.c, s.tr.esc, true, fun _ E ρ Q q => s.tr.m _ _ _ (fun _ z => ⟨z.1, nbO, z.2⟩) q⟩
@[simp] theorem run_dnil {E : XQ} {ρ : En} {Q : List (Key × D) → Prop} : dNil.tr.run E ρ Q = Q [] := rfl
@[simp] theorem run_dcons {a b : Wx} {s : Wd} {E : XQ} {ρ : En} {Q : List (Key × D) → Prop} : (dCons a b s).tr.run E ρ Q = a.run E ρ fun x _ => b.run E ρ fun y k => k ≠ .bor ∧ gKey x fun kx => s.tr.run E ρ fun ps => Q ((kx, y) :: ps) := rfl
@[simp] theorem run_dct {s : Wd} {E : XQ} {ρ : En} {Q : VQ} : (wDct s).run E ρ Q = s.tr.run E ρ fun ps => ps.length ≤ 15 ∧ Q (.dict (mrgP [] ps)) .own := rfl
abbrev psD (ps : List (Key × D)) : List (D × D) := ps.map fun p => (kD p.1, p.2)
def tD (K : PySem.W.Frag) (xw : Xw) (c : Nat) (run : En → (List (Key × D) → Prop) → Prop) (σ : L2.St) (H : Hp) (R : List (Key × V) → Hp → Prop) : Prop :=
  ∃ H0 B pn fr ρ Z tb, EnvOk K xw H0 B pn fr Z (c + tb) σ ρ H ∧ run ρ fun ps => ∀ kvs H', HStep tb pn H H' → DnK K H' Z kvs (psD ps) → R kvs H'
structure Pd (X : Cx) (xw : Xw) (ks : List (Option Expr)) (vs : List Expr) (w : Wd) : Prop where
  len : ks.length = vs.length
  all : ks.all (·.isSome) = true
  ex : ∀ pos, ∃ trs, PPs X pos ks vs trs ∧ ∀ σ H (Q : List (V × V) → Hp → Prop), tD X.K xw w.tr.c (w.tr.run xw.E) σ H (fun kvs H' => Q (kvs.map fun kv => (kV kv.1, kv.2)) H') → tPairs trs σ H Q
theorem keyD_kD {x : D} {k : Key} (h : keyD x = some k) : x = kD k := by
  cases x with
  | int i => cases h; rfl
  | str i => cases h; rfl
  | _ => cases h
theorem Dr.key {K : PySem.W.Frag} {pn : List Addr} {H : Hp} {Z : Addr → Prop} {v : V} {k : Key} (h : Dr K pn H Z v (kD k)) : v = kV k := by
  cases k with
  | inl i => exact h.int
  | inr i => exact h.str
theorem DnK.mrg {K : PySem.W.Frag} {H : Hp} {Z : Addr → Prop} : ∀ {ps : List (Key × D)} {kvs acc : List (Key × V)} {accP : List (D × D)}, DnK K H Z acc accP → DnK K H Z kvs (psD ps) → DnK K H Z (mergeK acc kvs) (mrgP accP ps)
  | [], _, _, _, ha, hk => by cases hk; exact ha
  | (k, d) :: ps, kvs, acc, accP, ha, hk => by
    have hk' : DnK K H Z kvs ((kD k, d) :: psD ps) := hk
    generalize e : kD k = kd at hk'
    cases hk' with
    | cons hv hr =>
      rename_i k2 _ _
      have e2 : k = k2 := by
        have := congrArg keyD e
        rw [keyD_k, keyD_k] at this
        exact Option.some.inj this
      subst e2
      exact DnK.mrg (ps := ps) (acc := putK acc k _) (ha.put hv) hr
section
variable {X : Cx} {xw : Xw} {G : Gm} {j : Nat} {CC : Cts} (c : Cok X xw G j CC) {pos p p2 : Pos}
include c
theorem d_nil : Pd X xw [] [] dNil := ⟨rfl, rfl, fun pos => ⟨[], pps_nil, fun σ H Q ⟨H0, B, pn, fr, ρ, Z, tb, ok, w⟩ => w [] H (HStep.refl (ok.bd.less (by show tb ≤ 0 + tb; omega))) .nil⟩⟩
theorem d_cons {a b : Expr} {wa wb : Wx} {ks : List (Option Expr)} {vs : List Expr} {s : Wd} (ha : Pe X xw a wa) (hb : Pe X xw b wb) (hs : Pd X xw ks vs s) : Pd X xw (some a :: ks) (b :: vs) (dCons wa wb s) := by
  refine ⟨by rw [List.length_cons, List.length_cons, hs.len], by rw [List.all_cons, hs.all]; rfl, fun pos => ?_⟩
  obtain ⟨trs, p1, p2⟩ := hs.ex pos
  refine ⟨_, pps_cons ha hb p1, fun σ H Q ⟨H0, B, pn, fr, ρ, Z, tb, ok, w⟩ => ?_⟩
  have ok : EnvOk X.K xw H0 B pn fr Z (wa.c + (wb.c + (s.tr.c + tb))) σ ρ H := ok.lt (by show _ ≤ wa.c + wb.c + s.tr.c + tb; omega)
  refine ⟨H0, B, pn, fr, ρ, Z, _, ok, wa.m _ _ _ (fun x k q x1 H1 s1 r1 => ⟨H0, B, pn, fr, ρ, Z, _, ok.to s1, wb.m _ _ _ (fun y k2 q2 y1 H2 s2 r2 => ?_) q⟩) w⟩
  obtain ⟨nb, g⟩ := q2
  unfold gKey at g
  split at g
  · rename_i kx hx
    have ok2 := (ok.to s1).to s2
    have ex := keyD_kD hx
    subst ex
    have e1 : x1 = kV kx := (r1.dr ok.pnt).key
    subst e1
    have n2 := r2.dn nb (ok.to s1).zt
    refine p2 σ H2 _ ⟨H0, B, pn, fr, ρ, Z, tb, ok2, s.tr.m _ _ _ (fun ps q3 kvs H3 s3 n3 => ?_) g⟩
    exact q3 ((kx, y1) :: kvs) _ (s1.trans (s2.trans s3)) (.cons (Dn.keep (keepZ s3 ok2.pnz) (fun b z => .inl z) _ _ n2) n3)
  · exact g.elim
theorem e_dct {ks : List (Option Expr)} {vs : List Expr} {s : Wd} (hs : Pd X xw ks vs s) (h0 : ks ≠ [] := by simp) (h15 : ks.length ≤ 15 := by decide) : Pe X xw (.Dict ks vs pos) (wDct s) := by
  obtain ⟨trs, p1, p2⟩ := hs.ex pos
  refine PE.weak (pe_disp p1 hs.all hs.len h0 h15) fun σ H Q ⟨H0, B, pn, fr, ρ, Z, tb, ok, w⟩ => fun p np => ?_
  have s1 : HStep (s.tr.c + tb) pn H (upd H p (.dK [])) := ok.ss (M.same_upd np)
  have ok1 := ok.more np s1 (by rw [upd_same]; exact fun z => nomatch z)
  have pp : p ∉ pn := fun z => ok.pnt p z np
  refine p2 σ _ _ ⟨H0, B, pn, fr, ρ, Zp Z p, tb, ok1, s.tr.m _ _ _ (fun ps q kvs H2 s2 n2 => ?_) w⟩
  obtain ⟨hl, q⟩ := q
  have hp : H2 p = some (.dK []) := s2.keep p _ pp upd_same
  have s02 := s1.trans s2
  refine ⟨hp, kvs, rfl, by rw [n2.len, List.length_map]; exact hl, q _ _ ⟨fun b o nb e => ?_, fun d hd => (s02.pen d hd).upd (fun z => pp (by rw [← z]; exact hd)) (fun q z => ?_), fun b nb => ?_, ?_⟩ ⟨p, rfl, np, .inr (.inl ⟨_, _, rfl, upd_same, ?_⟩)⟩⟩
  · rw [upd_ne (fun z => by rw [z, np] at e; cases e)]
    exact s02.keep b o nb e
  · rw [hp] at z
    cases z
  · by_cases z : b = p
    · rw [z, upd_same]
      exact fun z => nomatch z
    · rw [upd_ne z]
      exact s02.there b nb
  · exact ⟨s02.bd.1, fun d hd cc i r e => s02.bd.2 d hd cc i r (by rw [upd_ne (fun z => pp (by rw [← z]; exact hd))] at e; exact e)⟩
  · exact DnK.keep (fun b o nz e => by rw [upd_ne (fun z => nz (.inr z))]; exact e) (fun b z => .inl z) _ _ (DnK.mrg .nil n2)
end
end Y

/-! W34: a def that calls itself: its promise by levels. -/
namespace Y
open PySem PySem.Spec PyProof.Rows L2 M
def noC : Ct := fun _ _ _ => False
theorem noC_mono : ∀ (as : List Ar) (Q Q' : VQ) (E E' : XQ), (∀ d k, Q d k → Q' d k) → (∀ e, E e → E' e) → noC as Q E → noC as Q' E' := fun _ _ _ _ _ _ _ h => h
/-- the contracts, with another promise for one def -/
def CCr (CC : Cts) (x : Str) (c : Ct) (hm : ∀ (as : List Ar) (Q Q' : VQ) (E E' : XQ), (∀ d k, Q d k → Q' d k) → (∀ e, E e → E' e) → c as Q E → c as Q' E') : Cts :=
  ⟨fun f => if f = x then c else CC.C f, fun f as Q Q' E E' h1 h2 h => by
    dsimp only at h ⊢
    by_cases e : f = x
    · rw [if_pos e] at h ⊢
      exact hm as Q Q' E E' h1 h2 h
    · rw [if_neg e] at h ⊢
      exact CC.mono f as Q Q' E E' h1 h2 h, CC.I, CC.monoI, CC.L, CC.monoL⟩
section
variable {CC : Cts} {x y : Str} {c : Ct} {hm : ∀ (as : List Ar) (Q Q' : VQ) (E E' : XQ), (∀ d k, Q d k → Q' d k) → (∀ e, E e → E' e) → c as Q E → c as Q' E'}
theorem CCr_same : (CCr CC x c hm).C x = c := if_pos rfl
theorem CCr_ne (h : y ≠ x) : (CCr CC x c hm).C y = CC.C y := if_neg h
end
section
variable {P : Program} {w : World} {K : PySem.W.Frag} {mg : Str → Option Value} {base : Heap} {k : Nat} {x : Str} {st : Stmt} {ps : List Str} {mm : Nat}
theorem cl_zero (hT : ∃ (f : Addr) (fd : FuncData), mg x = some (.ref f) ∧ Fun K x x st f fd) (hbi : ∀ (us : List Value) (kV doc pm ct cdv : Value) (an : Option Addr), us.length = ps.length → bindArgs (PySem.W.fnOf x x (defArgs st) (defBody st) (defScope st) .none kV doc pm an cdv ct) ⟨us, []⟩ = pure (ps.zip us)) :
    Cl P w K mg base (L2.CX P w) k x ps (spC mg noC mm K) := by
  obtain ⟨f, fd, gm, F⟩ := hT
  refine Cl.of ⟨fun vs H Q E h => ?_, fun A outer s H args us vs Q E hr hg e b r h => ?_⟩ gm F.kp (F.binds fun _ _ _ _ _ _ us hl => hbi us _ _ _ _ _ _ hl)
  · obtain ⟨_, _, _, _, _, _, _, _, h, _⟩ := h
  · obtain ⟨_, _, _, _, _, _, _, _, h, _⟩ := h
end
end Y

/-! W35: x == [], x == (), text == text, with nothing asked of what they hold. -/
namespace Y
open PySem PySem.Spec PyProof.Rows L2 M
def emD : D → D → Option Bool
  | .list ds, .list [] => some ds.isEmpty
  | .tuple ds, .tuple [] => some ds.isEmpty
  | .str a, .str b => some (a == b)
  | _, _ => none
def emR (n : Bool) (x y : D) : Rz := (emD x y).map fun b => (True, .bool (b != n), .shr)
theorem emR_nb (n : Bool) (x y : D) : RzNb (emR n x y) := map_nb (fun _ z => by cases z)
def wEm (n : Bool) (a b : Wx) : Wx := w2 (emR n) (emR_nb n) a b
@[simp] theorem run_em {n : Bool} {a b : Wx} {E : XQ} {ρ : En} {Q : VQ} : (wEm n a b).run E ρ Q = a.run E ρ fun x _ => b.run E ρ fun y _ => (emR n x y).to Q := rfl
@[simp] theorem emR_l {n : Bool} {ds : List D} : emR n (.list ds) (.list []) = some (True, .bool (ds.isEmpty != n), .shr) := rfl
@[simp] theorem emR_t {n : Bool} {ds : List D} : emR n (.tuple ds) (.tuple []) = some (True, .bool (ds.isEmpty != n), .shr) := rfl
@[simp] theorem emR_s {n : Bool} {a b : List Nat} : emR n (.str (S a)) (.str (S b)) = some (True, .bool (decide (a = b) != n), .shr) := by
  have : (S a == S b) = decide (a = b) := by
    by_cases e : a = b
    · subst e; simp
    · have : S a ≠ S b := fun z => e (by injection z with z; simpa using congrArg Array.toList z)
      simp [e, this]
  show some (True, PyData.bool ((S a == S b) != n), Kd.shr) = _
  rw [this]
section
variable {X : Cx}
theorem op_em (hu : X.A.units + 64 < cLine) : ∀ n : Bool, OpR X (compareOp (if n then .NotEq else .Eq)) (rD2 X.K (emR n)) := by
  intro n pins s σ H x y v u Q I rx ry h
  obtain ⟨pn, Z, d, e, zt, h1, h2, q⟩ := h
  unfold emR at q
  cases eg : emD d e with
  | none => rw [eg] at q; exact q.elim
  | some b =>
    rw [eg] at q
    have q := q.2 (.bl (b != n)) H (same_refl H) (.bl _)
    have go : wpAny (model X.prog X.w) X.A (compareOp (if n then .NotEq else .Eq) v u) (fun r s' => r = .bool (b != n) ∧ s' = s) X.xe s := by
      unfold emD at eg
      split at eg
      · rename_i ds
        cases eg
        obtain ⟨a1, xs, rfl, e1, n1⟩ := h1.list
        obtain ⟨a2, ys, rfl, e2, n2⟩ := h2.list
        cases n2
        cases (show v = Value.ref a1 from rx)
        cases (show u = Value.ref a2 from ry)
        obtain ⟨i1, r1, p1, _⟩ := I.list (SqL.of e1)
        obtain ⟨i2, r2, p2, _⟩ := I.list (SqL.of e2)
        have l1 := r1.length
        have l3 := n1.length
        cases r2
        have sz : i1.toArray.size = _ := l1.symm.trans l3
        cases ds with
        | nil =>
          have s0 : i1.toArray.size = (([] : List Value).toArray).size := sz
          have z : i1.toArray.size = 0 := s0
          have all0 : ∀ f : Nat → Bool, (List.range i1.toArray.size).all f = true := fun f => by rw [z]; rfl
          have any0 : ∀ f : Nat → Bool, (List.range i1.toArray.size).any f = false := fun f => by rw [z]; rfl
          cases n with
          | false => exact SeqAt.RcAt.lists (e := fun _ => true) p1.isList p2.isList s0 (by omega) (fun j h1 _ => by omega) _ _ _ _ ⟨by rw [all0]; rfl, rfl⟩
          | true => exact SeqAt.RcNeAt.lists (e := fun _ => true) p1.isList p2.isList s0 (by omega) (fun j h1 _ => by omega) _ _ _ _ ⟨by rw [all0]; rfl, rfl⟩
        | cons d0 ds =>
          have ne : (i1.toArray.size != (([] : List Value).toArray).size) = true := by rw [sz]; rfl
          cases n with
          | false => exact SeqAt.RcAt.lists_lengths p1.isList p2.isList ne (by omega) _ _ _ _ ⟨rfl, rfl⟩
          | true => exact SeqAt.RcNeAt.lists_lengths p1.isList p2.isList ne (by omega) _ _ _ _ ⟨rfl, rfl⟩
      · rename_i ds
        cases eg
        obtain ⟨a1, xs, rfl, e1, n1⟩ := h1.tup
        obtain ⟨a2, ys, rfl, e2, n2⟩ := h2.tup
        cases n2
        cases (show v = Value.ref a1 from rx)
        cases (show u = Value.ref a2 from ry)
        obtain ⟨i1, r1, p1, _⟩ := I.tuple e1.sq
        obtain ⟨i2, r2, p2, _⟩ := I.tuple e2.sq
        have l1 := r1.length
        have l3 := n1.length
        cases r2
        have sz : i1.toArray.size = _ := l1.symm.trans l3
        have z : min i1.toArray.size (([] : List Value).toArray).size = 0 := Nat.min_eq_right (Nat.zero_le _)
        have all0 : ∀ f : Nat → Bool, (List.range (min i1.toArray.size (([] : List Value).toArray).size)).all f = true := fun f => by rw [z]; rfl
        have e0 : (i1.toArray.size == (([] : List Value).toArray).size) = ds.isEmpty := by
          rw [sz]
          cases ds <;> rfl
        cases n with
        | false => exact SeqAt.RcAt.tuples (e := fun _ => true) p1 p2 (by omega) (fun j _ h1 => absurd h1 (by simp)) _ _ _ _ ⟨by rw [all0, e0]; simp, rfl⟩
        | true => exact SeqAt.RcNeAt.tuples (e := fun _ => true) p1 p2 (by omega) (fun j _ h1 => absurd h1 (by simp)) _ _ _ _ ⟨by rw [all0, e0]; simp, rfl⟩
      · cases eg
        have e1 := h1.str
        have e2 := h2.str
        subst e1 e2
        obtain ⟨t1, rfl⟩ := rx
        obtain ⟨t2, rfl⟩ := ry
        cases n with
        | false => exact SeqAt.RcAt.str_str _ _ _ _ _ _ _ _ ⟨by simp, rfl⟩
        | true => exact SeqAt.RcNeAt.str_str _ _ _ _ _ _ _ _ ⟨by simp, rfl⟩
      · cases eg
    refine wpAny_mono go (fun r s' ⟨e1, e2⟩ => ?_) fun _ _ z => z
    subst e1 e2
    exact ⟨.bl _, H, I, rfl, q⟩
end
theorem emR_tru {n : Bool} {x y : D} {Q : Bool → Prop} (h : (emR n x y).to fun d _ => truT d Q) : ∃ b, emR n x y = some (True, .bool b, .shr) ∧ Q b := by
  unfold emR at h ⊢
  cases e : emD x y with
  | none => rw [e] at h; exact h.elim
  | some b =>
    rw [e] at h
    exact ⟨_, rfl, h.2.2⟩
section
variable {X : Cx} {xw : Xw} {G : Gm} {j : Nat} {CC : Cts} (c : Cok X xw G j CC) {pos : Pos} {a b : Expr} {wa wb : Wx}
include c
theorem e_emE (ha : Pe X xw a wa) (hb : Pe X xw b wb) (hm : behindInMarks .Eq b = false := by rfl) : Pe X xw (.Compare a [.Eq] [b] pos) (wEm false wa wb) := (pe_cmpR (op_em (by have := hu_of' c; omega) false) ha hb hm).weak fun _ _ _ h => tX_op wa.m wb.m h
theorem e_emN (ha : Pe X xw a wa) (hb : Pe X xw b wb) (hm : behindInMarks .NotEq b = false := by rfl) : Pe X xw (.Compare a [.NotEq] [b] pos) (wEm true wa wb) := (pe_cmpR (op_em (by have := hu_of' c; omega) true) ha hb hm).weak fun _ _ _ h => tX_op wa.m wb.m h
theorem t_em {n : Bool} {o : CmpOp} (ho : OpR X (compareOp o) (rD2 X.K (emR n))) (ha : Pe X xw a wa) (hb : Pe X xw b wb) (hm : behindInMarks o b = false) : Pt X xw (.Compare a [o] [b] pos) (tOf (wEm n wa wb)) := by
  refine PT.weak (pt_cmpR ho ha hb hm) fun σ H Q ⟨H0, B, pn, fr, ρ, Z, t, ok, w⟩ => ?_
  refine tX_op wa.m wb.m (Q := fun x H' => ∃ k, x = .bl k ∧ Q k H') ⟨H0, B, pn, fr, ρ, Z, t, ok, wa.m _ _ _ (fun d k q => wb.m _ _ _ (fun e k' q => ?_) q) w⟩
  obtain ⟨b, e1, q⟩ := emR_tru q
  rw [e1]
  refine ⟨trivial, fun v H' s r => ?_⟩
  cases r
  exact ⟨b, rfl, q H' s⟩
theorem t_emE (ha : Pe X xw a wa) (hb : Pe X xw b wb) (hm : behindInMarks .Eq b = false := by rfl) : Pt X xw (.Compare a [.Eq] [b] pos) (tOf (wEm false wa wb)) := t_em c (op_em (by have := hu_of' c; omega) false) ha hb hm
theorem t_emN (ha : Pe X xw a wa) (hb : Pe X xw b wb) (hm : behindInMarks .NotEq b = false := by rfl) : Pt X xw (.Compare a [.NotEq] [b] pos) (tOf (wEm true wa wb)) := t_em c (op_em (by have := hu_of' c; omega) true) ha hb hm
end
end Y

/-! W36: x.count(a sign); x.split(). -/
namespace Y
open PySem PySem.Spec PyProof.Rows L2 M
theorem count_chain (x : Str) (c : Nat) : ∀ (cuts : List Nat) (a f : Nat), StrLaws.ChainG x ⟨#[c]⟩ x.length a cuts f → (x.cps.toList.drop a).count c = cuts.length + (x.cps.toList.drop f).count c
  | [], a, f, h => by
    have e : f = a := h
    subst e
    simp
  | d :: r, a, f, h => by
    obtain ⟨h1, h2, h3, h4⟩ := h
    have hd : x.cps.toList[d]? = some c := (StrLaws.subAt_one x c d).mp h2
    obtain ⟨hl, hg⟩ := List.getElem?_eq_some_iff.mp hd
    have e1 : x.cps.toList.drop a = (x.cps.toList.drop a).take (d - a) ++ c :: x.cps.toList.drop (d + 1) := by
      have e2 : x.cps.toList.drop d = c :: x.cps.toList.drop (d + 1) := by
        rw [← hg]
        exact List.drop_eq_getElem_cons hl
      rw [← e2]
      have e3 : x.cps.toList.drop d = (x.cps.toList.drop a).drop (d - a) := by
        rw [List.drop_drop]
        congr 1
        omega
      rw [e3, List.take_append_drop]
    have n0 : ((x.cps.toList.drop a).take (d - a)).count c = 0 := by
      refine List.count_eq_zero.mpr fun hm => ?_
      obtain ⟨i, hi⟩ := List.mem_iff_getElem?.mp hm
      have hid : i < d - a := by
        have := (List.getElem?_eq_some_iff.mp hi).1
        simp at this
        omega
      rw [List.getElem?_take_of_lt hid, List.getElem?_drop] at hi
      exact h3 (a + i) (by omega) (by omega) ((StrLaws.subAt_one x c (a + i)).mpr hi)
    have ih := count_chain x c r _ f h4
    have e5 : d + (⟨#[c]⟩ : Str).length = d + 1 := rfl
    rw [e5] at ih
    rw [e1, List.count_append, n0, List.count_cons_self, ih, List.length_cons]
    omega
theorem count_one (l : List Nat) (c : Nat) : Txt.count (S l) (S [c]) = (l.count c : Nat) := by
  obtain ⟨f, h1, h2⟩ := StrLaws.occ_tight (S l) (S [c]) (Nat.le_refl 1)
  have h := count_chain (S l) c _ _ _ h1
  have e : (S l).cps.toList = l := rfl
  rw [e] at h
  have n0 : (l.drop f).count c = 0 := by
    refine List.count_eq_zero.mpr fun hm => ?_
    obtain ⟨i, hi⟩ := List.mem_iff_getElem?.mp hm
    rw [List.getElem?_drop] at hi
    exact h2 (f + i) (by omega) ((StrLaws.subAt_one (S l) c (f + i)).mpr hi)
  unfold Txt.count
  rw [List.drop_zero, n0] at h
  exact congrArg Int.ofNat h.symm
/-- parts between signs that are spaces, without empty ones: what is done, what is begun -/
def wdsF (l : List Nat) : List (List Nat) × List Nat := l.foldl (fun st c => if Unicode.isSpace c = true then (if st.2 = [] then st else (st.1 ++ [st.2], [])) else (st.1, st.2 ++ [c])) ([], [])
def wds (l : List Nat) : List (List Nat) := if (wdsF l).2 = [] then (wdsF l).1 else (wdsF l).1 ++ [(wdsF l).2]
theorem wdsF_snoc (l : List Nat) (c : Nat) : wdsF (l ++ [c]) = if Unicode.isSpace c = true then (if (wdsF l).2 = [] then wdsF l else ((wdsF l).1 ++ [(wdsF l).2], [])) else ((wdsF l).1, (wdsF l).2 ++ [c]) := by
  unfold wdsF
  rw [List.foldl_append]
  rfl
theorem scan_wdsF (l : List Nat) : KWd.scan (S l) = ((wdsF l).1.map S, S (wdsF l).2) := by
  unfold KWd.scan wdsF
  have e : (S l).cps.toList = l := rfl
  rw [e]
  have go : ∀ (l : List Nat) (st : List (List Nat) × List Nat), l.foldl KWd.step (st.1.map S, S st.2) = (((l.foldl (fun st c => if Unicode.isSpace c = true then (if st.2 = [] then st else (st.1 ++ [st.2], [])) else (st.1, st.2 ++ [c])) st).1.map S), S (l.foldl (fun st c => if Unicode.isSpace c = true then (if st.2 = [] then st else (st.1 ++ [st.2], [])) else (st.1, st.2 ++ [c])) st).2) := fun l => by
    induction l with
    | nil => exact fun _ => rfl
    | cons c l ih =>
      intro st
      rw [List.foldl_cons, List.foldl_cons]
      have e1 : KWd.step (st.1.map S, S st.2) c = ((if Unicode.isSpace c = true then (if st.2 = [] then st else (st.1 ++ [st.2], [])) else (st.1, st.2 ++ [c])).1.map S, S (if Unicode.isSpace c = true then (if st.2 = [] then st else (st.1 ++ [st.2], [])) else (st.1, st.2 ++ [c])).2) := by
        unfold KWd.step
        dsimp only
        split
        · rw [S_len]
          by_cases h : st.2 = []
          · rw [if_pos (by rw [h]; rfl), if_pos h]
          · rw [if_neg (by simpa using h), if_neg h, List.map_append]
            rfl
        · have : S st.2 ++ (⟨#[c]⟩ : Str) = S (st.2 ++ [c]) := S_app _ [c]
          rw [this]
      rw [e1]
      exact ih _
  exact go l ([], [])
theorem words_wds (l : List Nat) : Txt.words (S l) = (wds l).map S := by
  rw [KWd.words_of (scan_wdsF l), S_len]
  unfold wds
  by_cases h : (wdsF l).2 = []
  · rw [if_pos (by rw [h]; rfl), if_pos h]
  · rw [if_neg (by simpa using h), if_neg h, List.map_append]
    rfl
def gCnt (x y : D) (Q : VQ) : Prop := match x, y with
  | .str s, .str t => Q (.int (Txt.count s t)) .shr
  | _, _ => False
theorem gCnt_mono {x y : D} {Q Q' : VQ} (h : ∀ d k, k ≠ .bor → Q d k → Q' d k) : gCnt x y Q → gCnt x y Q' := by
  unfold gCnt
  split
  · exact fun z => h _ _ (by simp) z
  · exact id
def wCnt (a b : Wx) : Wx := ⟨fun E ρ Q => a.run E ρ fun x _ => isStr x ∧ b.run E ρ fun y _ => gCnt x y Q, fun E E' ρ Q Q' he h q => a.mono _ _ _ _ _ he (fun _ _ z => ⟨z.1, b.mono _ _ _ _ _ he (fun _ _ z => gCnt_mono (fun d k _ => h d k) z) z.2⟩) q, a.c + b.c, a.esc ++ b.esc, true, fun _ E ρ Q q => a.m _ _ _ (fun _ _ z => ⟨z.1, b.m _ _ _ (fun _ _ z => gCnt_mono (fun d k n z => ⟨n, z⟩) z) z.2⟩) q⟩
@[simp] theorem run_cnt {a b : Wx} {E : XQ} {ρ : En} {Q : VQ} : (wCnt a b).run E ρ Q = a.run E ρ fun x _ => isStr x ∧ b.run E ρ fun y _ => gCnt x y Q := rfl
@[simp] theorem gCnt_s {s t : Str} {Q : VQ} : gCnt (.str s) (.str t) Q = Q (.int (Txt.count s t)) .shr := rfl
def gWds (x : D) (Q : VQ) : Prop := match x with
  | .str s => s.length + 2 ≤ sizeLine ∧ Q (.list ((Txt.words s).map .str)) .own
  | _ => False
theorem gWds_mono {x : D} {Q Q' : VQ} (h : ∀ d k, k ≠ .bor → Q d k → Q' d k) : gWds x Q → gWds x Q' := by
  unfold gWds
  split
  · exact fun z => ⟨z.1, h _ _ (by simp) z.2⟩
  · exact id
def wWds (a : Wx) : Wx := ⟨fun E ρ Q => a.run E ρ fun x _ => gWds x Q, fun E E' ρ Q Q' he h q => a.mono _ _ _ _ _ he (fun _ _ z => gWds_mono (fun d k _ => h d k) z) q, a.c, a.esc, true, fun _ E ρ Q q => a.m _ _ _ (fun _ _ z => gWds_mono (fun d k n z => ⟨n, z⟩) z) q⟩
@[simp] theorem run_wds {a : Wx} {E : XQ} {ρ : En} {Q : VQ} : (wWds a).run E ρ Q = a.run E ρ fun x _ => gWds x Q := rfl
@[simp] theorem gWds_s {s : Str} {Q : VQ} : gWds (.str s) Q = (s.length + 2 ≤ sizeLine ∧ Q (.list ((Txt.words s).map .str)) .own) := rfl
def recvOk2 : Expr → Bool
  | .Name _ _ => true
  | .Constant _ _ _ => true
  | .Call (.Attribute _ _ _) _ _ _ => true
  | .Subscript _ _ _ => true
  | _ => false
theorem basesep2 {o : Expr} {a : Str} {w : Sem Value} {env : Env} (h : recvOk2 o = true) : attributeBase o a env w = w := by
  unfold recvOk2 at h
  split at h <;> first | rfl | cases h
section
variable {X : Cx} {xw : Xw} {G : Gm} {j : Nat} {CC : Cts} (c : Cok X xw G j CC) {pos p : Pos}
include c
theorem e_cnt {a b : Expr} {wa wb : Wx} (ha : Pe X xw a wa) (hb : Pe X xw b wb) (st : isStar b = false := by rfl) (hr : recvOk2 a = true := by rfl) (hl : (p.endLine == pos.line) = true := by rfl) : Pe X xw (.Call (.Attribute a "count" p) [b] [] pos) (wCnt wa wb) := by
  refine PE.weak (pe_m1 PySem.F.slot_str_count PySem.F.type_str_count mt_count ha hb (star_cons st) (basesep2 hr) hl) fun σ H Q ⟨H0, B, pn, fr, ρ, Z, t, ok, w⟩ => ?_
  refine ⟨H0, B, pn, fr, ρ, Z, (wb.c + t), ok.lt (by show wa.c + (wb.c + t) ≤ (wa.c + wb.c) + t; omega), wa.m _ _ _ (fun d k q x H1 s1 r1 => ?_) w⟩
  have ok1 := ok.to s1
  obtain ⟨⟨s, rfl⟩, q⟩ := q
  have e1 := (r1.dr ok.pnt).str
  subst e1
  refine ⟨⟨s, rfl⟩, H0, B, pn, fr, ρ, Z, t, ok1, wb.m _ _ _ (fun e k' q y H2 s2 r2 => ?_) q⟩
  cases e with
  | str u =>
    have e2 := (r2.dr ok1.pnt).str
    subst e2
    exact ⟨s, u, rfl, rfl, q _ _ (s1.trans s2) (.int _)⟩
  | _ => exact q.elim
theorem e_wds {a : Expr} {wa : Wx} (ha : Pe X xw a wa) (hr : recvOk2 a = true := by rfl) (hl : (p.endLine == pos.line) = true := by rfl) : Pe X xw (.Call (.Attribute a "split" p) [] [] pos) (wWds wa) := by
  refine PE.weak (pe_words ha (basesep2 hr) hl) fun σ H Q ⟨H0, B, pn, fr, ρ, Z, t, ok, w⟩ => ?_
  refine ⟨H0, B, pn, fr, ρ, Z, t, ok, wa.m _ _ _ (fun d k q x H1 s1 r1 => ?_) w⟩
  have ok1 := ok.to s1
  cases d with
  | str s =>
    have e1 := (r1.dr ok.pnt).str
    subst e1
    refine ⟨⟨s, rfl⟩, s, rfl, rfl, q.1, fun p np => q.2 _ _ (s1.trans (ok1.ss (M.same_upd np))) (RX.back (rx_lst np ?_) s1)⟩
    have key : ∀ l : List Str, DnL X.K H1 Z (l.map V.str) (l.map PyData.str) := fun l => by
      induction l with
      | nil => exact .nil
      | cons z l ih => exact .cons (.str _) ih
    exact key _
  | _ => exact q.elim
end
end Y

/-! W38: f(pen, xs), xs an own list that stays own, as the answer is smaller than it is. -/
namespace Y
open PySem PySem.Spec PyProof.Rows L2 M
section
variable {P : Program} {w : World} {K : PySem.W.Frag} {H : Hp} {h : Heap}
theorem relV_fn : ∀ {v v' : V} {u : Value}, RelV v u → RelV v' u → v = v' := by
  intro v v' u h1 h2
  cases v <;> cases v' <;> simp only [L2.RelV] at h1 h2 <;> first
    | rfl
    | (subst h1; cases h2; done)
    | (subst h1; cases h2; rfl)
    | (subst h1; obtain ⟨t, e⟩ := h2; cases e; done)
    | (obtain ⟨t, e⟩ := h1; subst e; cases h2; done)
    | (obtain ⟨t, e⟩ := h1; obtain ⟨t', e'⟩ := h2; subst e; cases e'; first | rfl | done)
theorem vals_fn : ∀ {xs ys : List V} {us : List Value}, Vals xs us → Vals ys us → xs = ys
  | [], _, _, .nil, h2 => by cases h2; rfl
  | x :: xs, _, _, .cons r t, h2 => by
    cases h2 with
    | cons r' t' => rw [relV_fn r r', vals_fn t t']
theorem ktup_obj {a : Addr} {xs : List V} (kin : K.In h) (k : KTup K a xs) : ∃ (o : Obj) (its : Array Value) (n : Nat), h.get? a = some o ∧ o.cls = .type "tuple" ∧ o.data = .seq its n ∧ Vals xs its.toList := by
  obtain ⟨o, its, n, h1, h2, h3, _, h4⟩ := k
  exact ⟨o, its, n, kin _ _ h1, h2, h3, h4⟩
theorem tup_obj {Z : Addr → Prop} {a : Addr} {xs : List V} (hk : HOk P w H h) (kin : K.In h) (k : TupAt K H Z a xs) : ∃ (o : Obj) (its : Array Value) (n : Nat), h.get? a = some o ∧ o.cls = .type "tuple" ∧ o.data = .seq its n ∧ Vals xs its.toList := by
  rcases k with ⟨_, k | ⟨o, k⟩⟩ | k
  · obtain ⟨_, its, rv, ⟨o2, h1, h2, n, h3⟩⟩ := (show ObjOk P w H h a (.tup xs) from hk a _ k)
    exact ⟨o2, _, n, h1, h2, h3, by simpa using rv⟩
  · obtain ⟨_, _, its, rv, ⟨o2, h1, h2, n, h3⟩⟩ := (show ObjOk P w H h a (.frz o (.tup xs)) from hk a _ k)
    exact ⟨o2, _, n, h1, h2, h3, by simpa using rv⟩
  · exact ktup_obj kin k
/-- what stands at an address is told in one way -/
theorem lst_no_tup {Z : Addr → Prop} {a : Addr} {xs ys : List V} (hk : HOk P w H h) (kin : K.In h) (e : H a = some (.lst xs)) (k : TupAt K H Z a ys) : False := by
  obtain ⟨o, its, n, h1, h2, _⟩ := tup_obj hk kin k
  obtain ⟨_, its', n', _, e2⟩ := (show ObjOk P w H h a (.lst xs) from hk a _ e)
  rw [h1] at e2
  cases e2
  exact absurd (Value.type.inj h2) (by decide)
theorem dk_no_tup {Z : Addr → Prop} {a : Addr} {kvs : List (Key × V)} {ys : List V} (hk : HOk P w H h) (kin : K.In h) (e : H a = some (.dK kvs)) (k : TupAt K H Z a ys) : False := by
  obtain ⟨o, its, n, h1, h2, _⟩ := tup_obj hk kin k
  obtain ⟨_, _, _, _, o', _, _, e2, ex, _⟩ := (show ObjOk P w H h a (.dK kvs) from hk a _ e)
  rw [h1] at e2
  cases e2
  rw [ex.1] at h2
  exact absurd (Value.type.inj h2) (by decide)
theorem dt_no_tup {Z : Addr → Prop} {a : Addr} {kvs : List (List Key × V)} {ys : List V} (hk : HOk P w H h) (kin : K.In h) (e : H a = some (.dT kvs)) (k : TupAt K H Z a ys) : False := by
  obtain ⟨o, its, n, h1, h2, _⟩ := tup_obj hk kin k
  obtain ⟨_, _, _, _, o', _, _, e2, ex, _⟩ := (show ObjOk P w H h a (.dT kvs) from hk a _ e)
  rw [h1] at e2
  cases e2
  rw [ex.1] at h2
  exact absurd (Value.type.inj h2) (by decide)
theorem tup_fn {Z1 Z2 : Addr → Prop} {a : Addr} {xs ys : List V} (hk : HOk P w H h) (kin : K.In h) (k1 : TupAt K H Z1 a xs) (k2 : TupAt K H Z2 a ys) : xs = ys := by
  obtain ⟨o, its, n, h1, _, h3, h4⟩ := tup_obj hk kin k1
  obtain ⟨o', its', n', g1, _, g3, g4⟩ := tup_obj hk kin k2
  rw [h1] at g1
  cases g1
  rw [h3] at g3
  cases g3
  exact vals_fn h4 g4
section
variable {Z1 Z2 : Addr → Prop} (hk : HOk P w H h) (kin : K.In h)
include hk kin
mutual
theorem Dn.fn : ∀ (d1 : D) (v : V) (d2 : D), Dn K H Z1 v d1 → Dn K H Z2 v d2 → d1 = d2
  | .none, _, d2, h1, h2 => by cases h1; cases h2; rfl
  | .bool b, _, d2, h1, h2 => by cases h1; cases h2; rfl
  | .int b, _, d2, h1, h2 => by cases h1; cases h2; rfl
  | .str b, _, d2, h1, h2 => by cases h1; cases h2; rfl
  | .list ds, _, d2, h1, h2 => by
    cases h1 with
    | lst s a =>
      cases h2 with
      | lst s' a' =>
        have e := s.2.symm.trans s'.2
        cases e
        rw [DnL.fn ds _ _ a a']
      | tup s' a' => exact (lst_no_tup hk kin s.2 s').elim
      | dk n r a' => rw [s.2] at r; cases r
      | dt n r a' => rw [s.2] at r; cases r
  | .tuple ds, _, d2, h1, h2 => by
    cases h1 with
    | tup s a =>
      cases h2 with
      | lst s' a' => exact (lst_no_tup hk kin s'.2 s).elim
      | tup s' a' =>
        have e := tup_fn hk kin s s'
        subst e
        rw [DnL.fn ds _ _ a a']
      | dk n r a' => exact (dk_no_tup hk kin r s).elim
      | dt n r a' => exact (dt_no_tup hk kin r s).elim
  | .dict ps, _, d2, h1, h2 => by
    cases h1 with
    | dk n r a =>
      cases h2 with
      | lst s' a' => rw [s'.2] at r; cases r
      | tup s' a' => exact (dk_no_tup hk kin r s').elim
      | dk n' r' a' =>
        rw [r] at r'
        cases r'
        rw [DnK.fn ps _ _ a a']
      | dt n' r' a' => rw [r] at r'; cases r'
    | dt n r a =>
      cases h2 with
      | lst s' a' => rw [s'.2] at r; cases r
      | tup s' a' => exact (dt_no_tup hk kin r s').elim
      | dk n' r' a' => rw [r] at r'; cases r'
      | dt n' r' a' =>
        rw [r] at r'
        cases r'
        rw [DnT.fn ps _ _ a a']
theorem DnL.fn : ∀ (ds : List D) (vs : List V) (es : List D), DnL K H Z1 vs ds → DnL K H Z2 vs es → ds = es
  | [], _, es, h1, h2 => by cases h1; cases h2; rfl
  | d :: ds, _, es, h1, h2 => by
    cases h1 with
    | cons a b => cases h2 with | cons a' b' => rw [Dn.fn d _ _ a a', DnL.fn ds _ _ b b']
theorem DnK.fn : ∀ (ds : List (D × D)) (vs : List (Key × V)) (es : List (D × D)), DnK K H Z1 vs ds → DnK K H Z2 vs es → ds = es
  | [], _, es, h1, h2 => by cases h1; cases h2; rfl
  | (_, d) :: ds, _, es, h1, h2 => by
    cases h1 with
    | cons a b => cases h2 with | cons a' b' => rw [Dn.fn d _ _ a a', DnK.fn ds _ _ b b']
theorem DnT.fn : ∀ (ds : List (D × D)) (vs : List (List Key × V)) (es : List (D × D)), DnT K H Z1 vs ds → DnT K H Z2 vs es → ds = es
  | [], _, es, h1, h2 => by cases h1; cases h2; rfl
  | (_, d) :: ds, _, es, h1, h2 => by
    cases h1 with
    | cons a b => cases h2 with | cons a' b' => rw [Dn.fn d _ _ a a', DnT.fn ds _ _ b b']
end
mutual
/-- what is smaller than the list at a does not reach it -/
theorem Dn.off {a : Addr} {xs : List V} {es : List D} (e : H a = some (.lst xs)) (he : DnL K H Z1 xs es) : ∀ (d : D) (v : V), Dn K H Z2 v d → sizeOf d < sizeOf (PyData.list es) → Dn K H (fun b => Z2 b ∨ b = a) v d
  | .none, _, h1, _ => by cases h1; exact .non
  | .bool b, _, h1, _ => by cases h1; exact .bl b
  | .int b, _, h1, _ => by cases h1; exact .int b
  | .str b, _, h1, _ => by cases h1; exact .str b
  | .list ds, _, h1, lt => by
    cases h1 with
    | @lst a' xs' _ s q =>
      refine .lst ⟨fun z => z.elim s.1 fun z => ?_, s.2⟩ (DnL.off e he ds _ q (by simp at lt ⊢; omega))
      subst z
      have e2 := s.2.symm.trans e
      cases e2
      rw [DnL.fn hk kin ds _ _ q he] at lt
      exact Nat.lt_irrefl _ lt
  | .tuple ds, _, h1, lt => by
    cases h1 with
    | @tup a' xs' _ s q =>
      refine .tup ?_ (DnL.off e he ds _ q (by simp at lt ⊢; omega))
      rcases s with ⟨s1, s2⟩ | s
      · refine .inl ⟨fun z => z.elim s1 fun z => ?_, s2⟩
        subst z
        exact lst_no_tup hk kin e (.inl ⟨s1, s2⟩)
      · exact .inr s
  | .dict ps, _, h1, lt => by
    cases h1 with
    | dk n r q => exact .dk (fun z => z.elim n fun z => by rw [z, e] at r; cases r) r (DnK.off e he ps _ q (by simp at lt ⊢; omega))
    | dt n r q => exact .dt (fun z => z.elim n fun z => by rw [z, e] at r; cases r) r (DnT.off e he ps _ q (by simp at lt ⊢; omega))
theorem DnL.off {a : Addr} {xs : List V} {es : List D} (e : H a = some (.lst xs)) (he : DnL K H Z1 xs es) : ∀ (ds : List D) (vs : List V), DnL K H Z2 vs ds → sizeOf ds < sizeOf (PyData.list es) → DnL K H (fun b => Z2 b ∨ b = a) vs ds
  | [], _, h1, _ => by cases h1; exact .nil
  | d :: ds, _, h1, lt => by cases h1 with | cons p q => exact .cons (Dn.off e he d _ p (by simp at lt ⊢; omega)) (DnL.off e he ds _ q (by simp at lt ⊢; omega))
theorem DnK.off {a : Addr} {xs : List V} {es : List D} (e : H a = some (.lst xs)) (he : DnL K H Z1 xs es) : ∀ (ds : List (D × D)) (vs : List (Key × V)), DnK K H Z2 vs ds → sizeOf ds < sizeOf (PyData.list es) → DnK K H (fun b => Z2 b ∨ b = a) vs ds
  | [], _, h1, _ => by cases h1; exact .nil
  | (_, d) :: ds, _, h1, lt => by cases h1 with | cons p q => exact .cons (Dn.off e he d _ p (by simp at lt ⊢; omega)) (DnK.off e he ds _ q (by simp at lt ⊢; omega))
theorem DnT.off {a : Addr} {xs : List V} {es : List D} (e : H a = some (.lst xs)) (he : DnL K H Z1 xs es) : ∀ (ds : List (D × D)) (vs : List (List Key × V)), DnT K H Z2 vs ds → sizeOf ds < sizeOf (PyData.list es) → DnT K H (fun b => Z2 b ∨ b = a) vs ds
  | [], _, h1, _ => by cases h1; exact .nil
  | (_, d) :: ds, _, h1, lt => by cases h1 with | cons p q => exact .cons (Dn.off e he d _ p (by simp at lt ⊢; omega)) (DnT.off e he ds _ q (by simp at lt ⊢; omega))
end
end
end
def gPn (s : Option Sl) (A : Prop) : Prop := match s with | some .pen => A | _ => False
theorem gPn_mono {s : Option Sl} {A A' : Prop} (h : A → A') : gPn s A → gPn s A' := by
  unfold gPn
  split
  · exact h
  · exact id
@[simp] theorem gPn_pen {A : Prop} : gPn (some .pen) A = A := rfl
def wCallO (CC : Cts) (f : Str) (m i1 i2 : Nat) : Wx := ⟨fun E ρ Q => gPn ρ[i1]? (gOl ρ[i2]? fun ds => CC.C f [.pen, .v (.list ds)] (fun d k => sizeOf d < sizeOf (PyData.list ds) ∧ k = .shr ∧ Q d .shr) E),
  fun E E' ρ Q Q' he h q => gPn_mono (gOl_mono fun ds z => CC.mono _ _ _ _ _ _ (fun d k z => ⟨z.1, z.2.1, h _ _ z.2.2⟩) he z) q, m, [], true,
  fun _ E ρ Q q => gPn_mono (gOl_mono fun ds z => CC.mono _ _ _ _ _ _ (fun d k z => ⟨z.1, z.2.1, nbS, z.2.2⟩) (fun _ z => z) z) q⟩
@[simp] theorem run_callO {CC : Cts} {f : Str} {m i1 i2 : Nat} {E : XQ} {ρ : En} {Q : VQ} : (wCallO CC f m i1 i2).run E ρ Q = gPn ρ[i1]? (gOl ρ[i2]? fun ds => CC.C f [.pen, .v (.list ds)] (fun d k => sizeOf d < sizeOf (PyData.list ds) ∧ k = .shr ∧ Q d .shr) E) := rfl
theorem size_mem {ds : List D} {d : D} (h : d ∈ ds) : sizeOf d < sizeOf (PyData.list ds) := by
  have := List.sizeOf_lt_of_mem h
  simp
  omega
section
variable {X : Cx} {xw : Xw} {G : Gm} {j : Nat} {CC : Cts} (c : Cok X xw G j CC) {pos p p1 p2 : Pos}
include c
theorem e_callO {f x y : Str} {m : Nat} (i1 i2 : Nat) (hf : G.fns.lookup f = some m := by rfl) (h : gnB G f = true := by decide +kernel) (h1 : nmB G x i1 = true := by decide +kernel) (h2 : nmB G y i2 = true := by decide +kernel) : Pe X xw (.Call (.Name f p) [.Name x p1, .Name y p2] [] pos) (wCallO CC f m i1 i2) := by
  have h := gn_ok c h
  have h1 := nm_ok c h1
  have h2 := nm_ok c h2
  obtain ⟨k, ps, hkj, cl⟩ := c.fns f m (PySem.mem_of_lookup hf)
  refine ⟨fun pins s σ H Q I hh => ?_⟩
  obtain ⟨H0, B, pn, fr, ρ, Z, tb, ok, w⟩ := hh
  dsimp only [wCallO] at w
  unfold gPn at w
  split at w
  · rename_i e1
    unfold gOl at w
    split at w
    · rename_i ds e2
      obtain ⟨a1, ea1, ha1, ip⟩ := ok.sl i1 _ e1
      obtain ⟨a, ea, ha, h0a, hp, ho⟩ := ok.sl i2 _ e2
      rcases ho with ⟨xs, ds', ed, hx, hn⟩ | ⟨_, _, ed, _⟩ | ⟨_, _, ed, _⟩
      · cases ed
        have args : PA X [.Name x p1, .Name y p2] (tCons (tVar i1) (tCons (tVar i2) tNil)) := pa_cons (pe_var h1.1 h1.2.1 h1.2.2.1 h1.2.2.2) (pa_cons (pe_var h2.1 h2.2.1 h2.2.2.1 h2.2.2.2) pa_nil)
        have hx' : H a = some (.lst xs) := hx
        have zt' : ∀ b, (Z b ∧ b ≠ a) → H b ≠ none := fun b z => ok.zt b z.1
        have np : ∀ b ∈ pn, b ≠ a := fun b hb e => hp (e ▸ hb)
        have nl : Dn X.K H (fun b => Z b ∧ b ≠ a) (.ref a) (.list ds) := .lst ⟨fun z => z.2 rfl, hx⟩ (DnL.keep (fun _ _ _ e => e) (fun b z => .inl z.1) _ _ hn)
        refine wpAny_mono ((pe_cl (E := fun cls d H => xw.W cls d H) cl c.room c.quiet hkj h.1 c.hp args h.2 rfl rfl).run pins s σ H (fun v H' => ∃ d, HStep tb pn H H' ∧ Dn X.K H' (fun b => Z b ∧ b ≠ a) v d ∧ sizeOf d < sizeOf (PyData.list ds) ∧ ∀ v H', HStep tb pn H H' → RX X.K pn H H' Z v d .shr → Q v H') I ?_) (fun u s' z => ?_) fun _ _ z => z
        · refine ⟨.ref a1, ea1, .ref a, ea, ?_⟩
          show spC X.mg (CC.C f) m X.K ([V.ref a1, V.ref a] ++ []) H _ _
          rw [List.append_nil]
          refine ⟨[.pen, .v (.list ds)], pn, (fun b => Z b ∧ b ≠ a), tb, .pen ha1 ip (.v nl .nil), zt', fun b hb => ⟨⟨(ok.pz b hb).1, np b hb⟩, (ok.pz b hb).2.weak fun _ z => z.1⟩, ok.bd, CC.mono _ _ _ _ _ _ (fun d k q => ⟨by rw [q.2.1]; exact nbS, fun v H' s2 rx => ?_⟩) (fun e he => ?_) w⟩
          · obtain ⟨q1, q2, q3⟩ := q
            subst q2
            exact ⟨d, s2, rx, q1, q3⟩
          · obtain ⟨hp', hx2⟩ := ok.xo e he
            subst hp'
            refine ⟨rfl, fun cls d H' s2 xr => hx2 cls d H' ((ok.step.less (Nat.zero_le _)).trans s2) ?_⟩
            rw [c.mge]
            exact xr.keep (fun _ _ _ e => e) fun b z => .inl ⟨ok.bz b z, fun e => ok.bt b z (by rw [e]; exact h0a)⟩
        · obtain ⟨v, H', I', rv, d, s2, nd, lt, q⟩ := z
          refine ⟨v, H', I', rv, q v H' s2 ?_⟩
          have hxn := s2.keep a _ hp hx'
          have hn' := DnL.keep (keepZ s2 ok.pnz) (fun b z => .inl z) _ _ hn
          have key := Dn.off I'.hok I'.kIn hxn hn' d v nd lt
          exact Dn.weak key fun b z => by
            by_cases e : b = a
            · exact .inr e
            · exact .inl ⟨z, e⟩
      · cases ed
      · cases ed
    · exact w.elim
  · exact w.elim
end
end Y

/-! W7: exceptions raised; a caught one, asked. -/
namespace Y
open PySem PySem.Spec PyProof.Rows L2 M
def sRaise (is : List Nat) (x f : Str) (e : Wx) : Ws := ⟨fun ρ P => e.run P.ex (dem ρ is) fun d k => k ≠ .bor ∧ P.ex ⟨x, [(f, d)]⟩, fun ρ P P' h q => e.mono _ _ _ _ _ h.ex (fun d k z => ⟨z.1, h.ex _ z.2⟩) q, e.c⟩
/-- what a table of classes says -/
def relF (l : List (Str × Str × Bool)) (x y : Str) : Option Bool := (l.find? fun p => decide (p.1 = x ∧ p.2.1 = y)).map (·.2.2)
theorem relF_mem {l : List (Str × Str × Bool)} {x y : Str} {b : Bool} (h : relF l x y = some b) : (x, y, b) ∈ l := by
  unfold relF at h
  obtain ⟨⟨x', y', b'⟩, h1, h2⟩ := Option.map_eq_some_iff.mp h
  have h3 := List.mem_of_find?_eq_some h1
  have h4 : decide ((x', y', b').1 = x ∧ (x', y', b').2.1 = y) = true := List.find?_some (p := fun p : Str × Str × Bool => decide (p.1 = x ∧ p.2.1 = y)) h1
  have h4 := of_decide_eq_true h4
  obtain ⟨e1, e2⟩ := h4
  have e1 : x' = x := e1
  have e2 : y' = y := e2
  have h2 : b' = b := h2
  subst e1 e2 h2
  exact h3
/-- a field of a caught exception -/
def gExF (xs : List (Str × Str)) (f : Str) (s : Option Sl) (Q : VQ) : Prop := match s with
  | some (.exc e) => (e.cls, f) ∈ xs ∧ match e.fs.lookup f with | some d => Q d .shr | none => False
  | _ => False
theorem gExF_mono {xs : List (Str × Str)} {f : Str} {s : Option Sl} {Q Q' : VQ} (h : ∀ d, Q d .shr → Q' d .shr) : gExF xs f s Q → gExF xs f s Q' := by
  unfold gExF
  split
  · refine fun q => ⟨q.1, ?_⟩
    have q2 := q.2
    split at q2
    · exact h _ q2
    · exact q2.elim
  · exact id
def wExF (xs : List (Str × Str)) (i : Nat) (f : Str) : Wx := ⟨fun _ ρ Q => gExF xs f ρ[i]? Q, fun _ _ ρ _ _ _ h q => gExF_mono (fun d => h d _) q, 0, [], true, fun _ _ ρ _ q => gExF_mono (fun _ z => ⟨nbS, z⟩) q⟩
/-- isinstance of a caught exception, or of None -/
def gExI (rel : List (Str × Str × Bool)) (nrel : List Str) (y : Str) (s : Option Sl) (Q : VQ) : Prop := match s with
  | some (.exc e) => (match relF rel e.cls y with | some b => Q (.bool b) .shr | none => False)
  | some (.val .none) => y ∈ nrel ∧ Q (.bool false) .shr
  | _ => False
theorem gExI_mono {rel : List (Str × Str × Bool)} {nrel : List Str} {y : Str} {s : Option Sl} {Q Q' : VQ} (h : ∀ d, Q d .shr → Q' d .shr) : gExI rel nrel y s Q → gExI rel nrel y s Q' := by
  unfold gExI
  split
  · split
    · exact h _
    · exact id
  · exact fun q => ⟨q.1, h _ q.2⟩
  · exact id
def wExI (rel : List (Str × Str × Bool)) (nrel : List Str) (i : Nat) (y : Str) : Wx := ⟨fun _ ρ Q => gExI rel nrel y ρ[i]? Q, fun _ _ ρ _ _ _ h q => gExI_mono (fun d => h d _) q, 0, [], true, fun _ _ ρ _ q => gExI_mono (fun _ z => ⟨nbS, z⟩) q⟩
/-- is None, is not None (n) -/
def gExN (n : Bool) (s : Option Sl) (Q : VQ) : Prop := match s with
  | some (.exc _) => Q (.bool n) .shr
  | some (.val d) => Q (.bool (noneD d != n)) .shr
  | _ => False
theorem gExN_mono {n : Bool} {s : Option Sl} {Q Q' : VQ} (h : ∀ d, Q d .shr → Q' d .shr) : gExN n s Q → gExN n s Q' := by
  unfold gExN
  split
  · exact h _
  · exact h _
  · exact id
def wExN (n : Bool) (i : Nat) : Wx := ⟨fun _ ρ Q => gExN n ρ[i]? Q, fun _ _ ρ _ _ _ h q => gExN_mono (fun d => h d _) q, 0, [], true, fun _ _ ρ _ q => gExN_mono (fun _ z => ⟨nbS, z⟩) q⟩
/-! ### the kit's side -/
theorem kitx_ex {K : PySem.W.Frag} {a C : Addr} {o : Obj} {od : Option Obj} (c : L2.ExcC K C) : PySem.W.KitX K (.ref a) (.ref C) (fun h => PySem.W.InstAt h a o C od) :=
  PySem.W.kitx_exc (by obtain ⟨cd, hc, _⟩ := PySem.W.any_some c.hd; rw [hc]; rfl) c.hg c.hk c.hs c.ha c.hn c.ht c.hm
def rIsX (K : PySem.W.Frag) (mg : Str → Option Value) : List V → Hp → VK → Prop := fun xs H Q => (∃ (a C : Addr) (d : Option Addr) (e : Exc) (Z : Addr → Prop) (c : V) (cv : Value) (b : Bool), xs = [.ref a, c] ∧ H a = some (exk a (.ref C) d) ∧ ExR K mg H Z e (.ref C) d ∧ L2.ExcC K C ∧ ClsV c cv ∧ PySem.W.kitOne K (.ref C) cv = some b ∧ Q (.bl b) H) ∨ L2.rIsi K xs H Q
theorem call_isX {X : Cx} : CallR X (.builtin "isinstance") (rIsX X.K X.mg) := by
  intro pins s σ H xs us Q I r h
  rcases h with ⟨a, C, d, e, Z, c, cv, b, rfl, ha, xr, ec, k, ki, q⟩ | h
  · obtain ⟨u1, u2, rfl, r1, r2⟩ := vals2 r
    have e2 := k.eq r2
    subst e2
    obtain rfl : u1 = Value.ref a := r1
    obtain ⟨o, od, J, _⟩ := exk_at I ha xr
    exact PySem.W.kia_one (kitx_ex ec) I.kIn J ki (fun z => nomatch z) fun tk => ⟨.bl b, H, I.tok tk, rfl, q⟩
  · exact L2.call_isi pins s σ H xs us Q I r h
theorem pe_nm {X : Cx} {y : Str} {cv : Value} {pos : Pos} (h : Nm X.mg y cv) (g : Gl X y) (hd : (y == ("__debug__" : Str)) = false) (hn : y ≠ "__name__") : ∃ c, ClsV c cv ∧ PE X (.Name y pos) (tC c) := by
  rcases h with ⟨e, C, rfl⟩ | ⟨e, hv, n, rfl⟩
  · exact ⟨.ref C, .own C, pe_glob g e rfl hd⟩
  · exact ⟨.ty n, .ty n, pe_bltn g e hv rfl hn hd⟩
theorem pe_exf {X : Cx} {x f : Str} {i : Nat} {p pos : Pos} (hN : X.N[i]? = some x) (hv : Vis X.env.scope x) (hd : (x == ("__debug__" : Str)) = false) (hcd : (x == ("__classdict__" : Str)) = false) :
    PE X (.Attribute (.Name x p) f pos) (fun σ H Q => ∃ (a C : Addr) (d : Option Addr) (e : Exc) (Z : Addr → Prop) (dx : D), σ[i]? = some (some (.ref a)) ∧ H a = some (exk a (.ref C) d) ∧ ExR X.K X.mg H Z e (.ref C) d ∧ L2.ExcC X.K C ∧ PySem.W.findIn X.K (.ref C) f = some none ∧ e.fs.lookup f = some dx ∧ ∀ v, Dn X.K H Z v dx → Q v H) := by
  refine ⟨fun pins s σ H Q I h => ?_⟩
  obtain ⟨a, C, d, e, Z, dx, ea, ha, xr, ec, no, hl, q⟩ := h
  refine attr_of (basesep rfl) (thn ((pe_var (pos := p) hN hv hd hcd).run pins s σ H (fun v H' => v = .ref a ∧ H' = H) I ⟨_, ea, rfl, rfl⟩) fun u s1 hh => ?_)
  obtain ⟨v, H1, I1, rv, e1, e2⟩ := hh
  subst e1 e2
  obtain rfl : u = Value.ref a := rv
  obtain ⟨o, od, J, dd, fvs, mA, ed, hx, hlk, hr⟩ := exk_at I1 ha xr
  obtain ⟨_, dd', fvs', ed', _, hx', hf⟩ := xr
  rw [ed] at ed'
  cases ed'
  rw [hx] at hx'
  cases hx'
  obtain ⟨v, hv2, n⟩ := hf f dx hl
  obtain ⟨u, hu, ru⟩ := RelO.some_of (v := v) (o := mA f) (by rw [← hv2]; exact hr f)
  exact HandSPX.exc_get I1.kIn J ec.hg ec.hk ec.hs (PySem.W.findObj_own ec.hd no rfl (by rw [hlk, hu])) (handed_of ru) ⟨v, H1, I1.tok _, ru, q v n⟩
/-! ### rules -/
section
variable {X : Cx} {xw : Xw} {G : Gm} {j : Nat} {CC : Cts} (c : Cok X xw G j CC) {pos p p2 p3 : Pos}
include c
theorem z_raise {x f : Str} {e : Expr} {w : Wx} {pc : Pos} (is : List Nat) (he : Pe X xw e w) (hx : (x, f) ∈ G.exs := by decide +kernel) (g : gnB G x = true := by decide +kernel) (st : isStar e = false := by rfl) (hcm : G.calm = true := by rfl) : Ps X xw (.Raise (some (.Call (.Name x p) [e] [] pc)) none pos) (sRaise is x f w) := by
  obtain ⟨C, fI, fd, B, nw, ini, bm, k, y, hk, hm, b, T, iC, tI, F1, hb, no, ec⟩ := (c.exs x f hx).ex
  have g := gn_ok c g
  refine PS.weak (ps_raise (c.calm hcm) c.tk (pmk_X b T iC tI F1 (c.room.mono hk) c.quiet hb g.1 hm (pa_cons he pa_nil (star_cons st)) g.2 (star_cons st) rfl)) fun D σ H h => ?_
  show tX X.K xw w.c (w.run xw.E) σ H _
  refine tX_st w.m (is := is) (g := fun ρ d k P => k ≠ .bor ∧ P.ex ⟨x, [(f, d)]⟩) (tS_ex (w := fun E ρ P => w.run E (dem ρ is) fun d k => k ≠ .bor ∧ P.ex ⟨x, [(f, d)]⟩) (w' := fun _ _ _ => True) h) fun H0 Bn pn0 fr P pn ρ Z tb tb' v d k H' px ok s r q fq => ?_
  obtain ⟨kb, q⟩ := q
  rw [fq.ex] at q
  obtain ⟨hp, hx⟩ := ok.xo _ q
  subst hp
  refine ⟨by show 1 ≤ 1000; omega, fun a na => ⟨a, v, rfl, upd_same, fun dx nd ne => ⟨rfl, dx, [(f, v)], upd_same, ?_, ?_, ?_⟩⟩⟩
  · rw [upd_ne ne, upd_same]
  · rwa [upd_ne ne] at nd
  · have nd' : H' dx = none := by rwa [upd_ne ne] at nd
    have ss : Same H' (upd (del (upd (upd (upd H' a (exo a C none)) dx (exd dx [(f, v)])) a (exo a C (some dx))) a) dx (.xd [(f, v)])) := fun b o e => by
      have b1 : b ≠ dx := fun z => by rw [z, nd'] at e; cases e
      have b2 : b ≠ a := fun z => by rw [z, na] at e; cases e
      rw [upd_ne b1, del_ne b2, upd_ne b2, upd_ne b1, upd_ne b2]
      exact e
    refine hx _ _ _ ((ok.step.trans s).less (Nat.zero_le _) |>.trans (HStep.of_same (s.bd.less (Nat.zero_le _)) (fun _ z => nomatch z) ss)) ⟨by rw [c.mge]; exact hm, dx, [(f, v)], rfl, fun z => ?_, upd_same, fun f' x' hl => ?_⟩
    · exact ok.bt dx z (ok.step.free (s.free nd'))
    · have hl' : List.lookup f' [(f, d)] = some x' := hl
      by_cases e : f' = f
      · subst e
        have e2 : x' = d := by simpa [List.lookup] using hl'.symm
        subst e2
        exact ⟨v, by simp [List.lookup], Dn.keep (fun b o _ e => ss b o e) (fun b z => .inl (ok.bz b z)) _ _ (r.dn kb ok.zt)⟩
      · have : (f' == f) = false := by simpa using e
        simp [List.lookup, this] at hl'
theorem e_exF {x f : Str} (i : Nat) (h : nmB G x i = true := by decide +kernel) : Pe X xw (.Attribute (.Name x p) f pos) (wExF G.exs i f) := by
  have h := nm_ok c h
  refine PE.weak (pe_exf h.1 h.2.1 h.2.2.1 h.2.2.2) fun σ H Q ⟨H0, B, pn, fr, ρ, Z, tb, ok, w⟩ => ?_
  change gExF G.exs f ρ[i]? (fun d k => ∀ v H', HStep tb pn H H' → RX X.K pn H H' Z v d k → Q v H') at w
  unfold gExF at w
  split at w
  · rename_i e he
    obtain ⟨w1, w2⟩ := w
    split at w2
    · rename_i dx hl
      obtain ⟨C, fI, fd, B', nw, ini, bm, k, y, hk, hm, b, T, iC, tI, F1, hb, no, ec⟩ := (c.exs _ _ w1).ex
      obtain ⟨a, cls, d, ea, nz, ha, xr⟩ := ok.sl i _ he
      rw [c.mge] at xr
      have ecl : cls = .ref C := by
        have := xr.1
        rw [hm] at this
        exact (Option.some.inj this).symm
      subst ecl
      exact ⟨a, C, d, e, Z, dx, ea, ha, xr, ec, no, hl, fun v n => w2 v H (HStep.refl (ok.bd.less (by show tb ≤ 0 + tb; omega))) n⟩
    · exact w2.elim
  · exact w.elim
theorem e_exI {x y : Str} (i : Nat) (h : nmB G x i = true := by decide +kernel) (hb : btB G "isinstance" = true := by decide +kernel) (hy : gnB G y = true := by decide +kernel) (hr : G.rel.any (fun p => decide (p.2.1 = y)) = true := by decide +kernel) : Pe X xw (.Call (.Name "isinstance" p) [.Name x p2, .Name y p3] [] pos) (wExI G.rel G.nrel i y) := by
  have h := nm_ok c h
  have hb := bt_ok c hb
  have gy := gn_ok c hy
  have hny : y ≠ "__name__" := by
    unfold gnB at hy
    rw [Bool.and_eq_true] at hy
    exact (okN_ok hy.2).2.2
  obtain ⟨⟨x0, y0, b0⟩, hm0, e0⟩ := List.any_eq_true.mp hr
  have e0 : y0 = y := of_decide_eq_true e0
  subst e0
  obtain ⟨C0, cv, _, hnm, _, _, _⟩ := c.rel _ _ _ hm0
  obtain ⟨cl, hcl, hpe⟩ := pe_nm (pos := p3) hnm gy.1 gy.2 hny
  have nmeq : ∀ {cv'}, Nm X.mg y0 cv' → cv' = cv := fun {cv'} h' => by
    rcases hnm with ⟨e1, _⟩ | ⟨e1, e2, _⟩
    · rcases h' with ⟨e3, _⟩ | ⟨e3, _, _⟩
      · rw [e1] at e3; exact (Option.some.inj e3).symm
      · rw [e1] at e3; cases e3
    · rcases h' with ⟨e3, _⟩ | ⟨e3, e4, _⟩
      · rw [e1] at e3; cases e3
      · rw [e2] at e4; exact (Option.some.inj e4).symm
  refine PE.weak (pe_callB call_isX hb.1 hb.2.1 (by decide +kernel) (pa_cons (pe_var (pos := p2) h.1 h.2.1 h.2.2.1 h.2.2.2) (pa_cons hpe pa_nil) rfl)) fun σ H Q ⟨H0, B, pn, fr, ρ, Z, tb, ok, w⟩ => ?_
  change gExI G.rel G.nrel y0 ρ[i]? (fun d k => ∀ v H', HStep tb pn H H' → RX X.K pn H H' Z v d k → Q v H') at w
  have st : HStep tb pn H H := HStep.refl (ok.bd.less (by show tb ≤ 0 + tb; omega))
  unfold gExI at w
  split at w
  · rename_i e he
    split at w
    · rename_i b hrel
      obtain ⟨C, cv', hm, hnm', hki, _, ec⟩ := c.rel _ _ _ (relF_mem hrel)
      obtain ⟨a, cls, d, ea, nz, ha, xr⟩ := ok.sl i _ he
      rw [c.mge] at xr
      have ecl : cls = .ref C := by
        have := xr.1
        rw [hm] at this
        exact (Option.some.inj this).symm
      subst ecl
      have := nmeq hnm'
      subst this
      refine ⟨.ref a, ea, .inl ⟨a, C, d, e, Z, cl, cv', b, rfl, ha, xr, ec, hcl, hki, w _ H st (.bl _)⟩⟩
    · exact w.elim
  · rename_i he
    obtain ⟨w1, w2⟩ := w
    obtain ⟨cv', hnm', hki⟩ := c.nrel _ w1
    have := nmeq hnm'
    subst this
    obtain ⟨v, ev, nv⟩ := ok.sl i _ he
    cases nv
    exact ⟨.non, ev, .inr ⟨.non, cl, .type "NoneType", cv', false, rfl, hcl, .base .non, hki, w2 _ H st (.bl _)⟩⟩
  · exact w.elim
end
end Y

/-! W8: try: a call; except C as e: kept = e. The caught one is known from then on. -/
namespace Y
open PySem PySem.Spec PyProof.Rows L2 M
/-! ### the clause's test -/
def TestR (X : Cx) (t : Expr) (cls : Value) (b : Bool) : Prop := ∀ (a : Addr) (pn pins : List (Addr × Obj)) (s : Shared) (σ : L2.St) (H : Hp) (Q : Bool → Shared → Prop) (E : Value → Shared → Prop), Inv (X.suite a pn) pins σ H s → PySem.W.Looks (model X.prog X.w) s.heap (typeOf (.ref a)) cls →
  (∀ h', (∀ q o, s.heap.get? q = some o → h'.get? q = some o) → Q b { s with heap := h' }) → wpAny (model X.prog X.w) (X.A.mark (some (.ref a))) (eval t X.env) (fun v s1 => wpAny (model X.prog X.w) (X.A.mark (some (.ref a))) (excMatches (.ref a) v) Q E s1) E s
theorem nm_ld {X : Cx} {y : Str} {cv : Value} {a : Addr} {pn pins : List (Addr × Obj)} {s : Shared} {σ : L2.St} {H : Hp} {Q : Value → Shared → Prop} {E : Value → Shared → Prop} {pos : Pos} (h : Nm X.mg y cv) (g : Gl X y) (hd : (y == ("__debug__" : Str)) = false) (hn : y ≠ "__name__") (I : Inv (X.suite a pn) pins σ H s) (q : Q cv s) :
    wpAny (model X.prog X.w) (X.A.mark (some (.ref a))) (eval (.Name y pos) X.env) Q E s := by
  rcases h with ⟨e, _⟩ | ⟨e, hv, _⟩
  · exact ld_glob (X := X.suite a pn) I g e q hd
  · exact ld_blt (X := X.suite a pn) I g e hv q hn hd
theorem test_nm {X : Cx} {y : Str} {cv cls : Value} {b : Bool} {pos : Pos} (h : Nm X.mg y cv) (g : Gl X y) (hd : (y == ("__debug__" : Str)) = false) (hn : y ≠ "__name__") (e : PySem.W.exmOne X.K cls cv = some b) : TestR X (.Name y pos) cls b := by
  intro a pn pins s σ H Q E I L q
  exact nm_ld h g hd hn I ((PySem.W.exm_one I.kIn L e).here (q s.heap fun _ _ z => z))
theorem test_nm2 {X : Cx} {y1 y2 : Str} {c1 c2 cls : Value} {b : Bool} {pos p1 p2 : Pos} {k} (h1 : Nm X.mg y1 c1) (g1 : Gl X y1) (d1 : (y1 == ("__debug__" : Str)) = false) (n1 : y1 ≠ "__name__") (h2 : Nm X.mg y2 c2) (g2 : Gl X y2) (d2 : (y2 == ("__debug__" : Str)) = false) (n2 : y2 ≠ "__name__")
    (e : PySem.W.exmAny X.K cls [c1, c2] = some b) : TestR X (.Tuple [.Name y1 p1, .Name y2 p2] k pos) cls b := by
  intro a pn pins s σ H Q E I L q
  have up : ∀ b o, s.heap.get? b = some o → (s.heap.push { cls := .type "tuple", data := .seq [c1, c2].toArray } : Heap).get? b = some o := fun _ _ z => Heap.get?_push_of_some _ z
  refine wpAny_Tuple (wpAny_items_cons (nm_ld h1 g1 d1 n1 I (wpAny_items_cons (nm_ld h2 g2 d2 n2 I (wpAny_items_nil ⟨by rw [sizeLine_eq]; show 2 ≤ _; omega, ?_⟩)))))
  exact (PySem.W.exm_tup2 (I.kIn.keeps up) (L.keeps up) (Heap.get?_push_size s.heap rfl) e).here (q _ up)
theorem test_nm3 {X : Cx} {y1 y2 y3 : Str} {c1 c2 c3 cls : Value} {b : Bool} {pos p1 p2 p3 : Pos} {k} (h1 : Nm X.mg y1 c1) (g1 : Gl X y1) (d1 : (y1 == ("__debug__" : Str)) = false) (n1 : y1 ≠ "__name__") (h2 : Nm X.mg y2 c2) (g2 : Gl X y2) (d2 : (y2 == ("__debug__" : Str)) = false) (n2 : y2 ≠ "__name__")
    (h3 : Nm X.mg y3 c3) (g3 : Gl X y3) (d3 : (y3 == ("__debug__" : Str)) = false) (n3 : y3 ≠ "__name__") (e : PySem.W.exmAny X.K cls [c1, c2, c3] = some b) : TestR X (.Tuple [.Name y1 p1, .Name y2 p2, .Name y3 p3] k pos) cls b := by
  intro a pn pins s σ H Q E I L q
  have up : ∀ b o, s.heap.get? b = some o → (s.heap.push { cls := .type "tuple", data := .seq [c1, c2, c3].toArray } : Heap).get? b = some o := fun _ _ z => Heap.get?_push_of_some _ z
  refine wpAny_Tuple (wpAny_items_cons (nm_ld h1 g1 d1 n1 I (wpAny_items_cons (nm_ld h2 g2 d2 n2 I (wpAny_items_cons (nm_ld h3 g3 d3 n3 I (wpAny_items_nil ⟨by rw [sizeLine_eq]; show 3 ≤ _; omega, ?_⟩)))))))
  exact (PySem.W.exm_tup3 (I.kIn.keeps up) (L.keeps up) (Heap.get?_push_size s.heap rfl) e).here (q _ up)
/-! ### landed and known -/
theorem fly_keeps {B h h' : Heap} {l : List Env} {a : Addr} {Z : Obj → Prop} (f : HandSPX.FlyingZ B l a Z h) (k : ∀ b o, h.get? b = some o → h'.get? b = some o) : HandSPX.FlyingZ B l a Z h' := by
  obtain ⟨st, n, ff, oe, vs, T, oT, ts, e1, e2, e3, e4, e5, e6, e7, e8, e9⟩ := f
  exact ⟨fun b o e => k b o (st b o e), n, ff.of_keeps fun b o e _ => ⟨o, k b o e, rfl⟩, oe, vs, T, oT, ts, k _ _ e1, e2, e3, e4, e5, e6, k _ _ e7, e8, e9⟩
theorem fly_nofr {B h : Heap} {l : List Env} {a : Addr} {o : Obj} {vs : Array Value} (ff : h.FunFrames B l) (e : h.get? a = some o) (d : o.data = .fields vs) : a ∉ frs l := fun m => by
  obtain ⟨_, o', e', nf⟩ := ff.mem m
  rw [e] at e'
  cases e'
  exact nf vs d
theorem exk_ok {P : Program} {w : World} {H : Hp} {h : Heap} {a : Addr} {cls : Value} {d : Option Addr} {o : Obj} {vs : Array Value} (e : h.get? a = some o) (z : Zc cls d o) (f : o.data = .fields vs) : ObjOk P w H h a (exk a cls d) :=
  ⟨⟨o, vs, e, z.1, z.2, f⟩, ⟨o, e⟩, fun h1 h2 q k => by
    obtain ⟨o', vs', e1, e2, e3, e4⟩ := q
    exact ⟨o', vs', k _ e1, e2, e3, e4⟩⟩
section
variable {X : Cx} {pins : List (Addr × Obj)} {σ : L2.St} {H : Hp} {B : Heap} {sI s' : Shared} {a : Addr} {cls : Value} {d : Option Addr} {o : Obj} {vs : Array Value}
theorem inv_caught (I : Inv X pins σ H sI) (nb : ∀ b o, sI.heap.get? b = some o → b ∉ frs X.stack → B.get? b = some o) (st : B.StaysIn s'.heap) (up : sI.heap.UpToSlots s'.heap) (os : s'.os = sI.os) (ag : AllBare s'.gens)
    (na : H a = none) (ba : B.get? a = none) (fa : a ∉ frs X.stack) (e : s'.heap.get? a = some o) (z : Zc cls d o) (f : o.data = .fields vs) : Inv X pins σ (upd H a (exk a cls d)) s' := by
  have ia : sI.heap.get? a = none := by
    cases q : sI.heap.get? a with
    | none => rfl
    | some u =>
      have := nb a u q fa
      rw [ba] at this
      cases this
  have fr : ∀ b ∈ frs X.stack, ∀ u, sI.heap.get? b = some u → ∃ sl, s'.heap.get? b = some { u with slots := sl } := fun b hb u q => by
    obtain ⟨_, u', q', nd⟩ := I.stack.mem hb
    rw [q] at q'
    cases q'
    exact up b u q nd
  have new : ObjOk X.prog X.w (upd H a (exk a cls d)) s'.heap a (exk a cls d) := exk_ok e z f
  refine I.call' (ch := []) os ⟨fun b u q _ hb _ => st b u (nb b u q hb), fun b u q _ hb _ => fr b hb u q, fun b u q n _ => ?_, fun b u q _ => ?_, fun b xs q => ?_, fun b u x q => ?_, fun b ps q => ⟨#[], ?_⟩⟩
    (((I.inGround nb).kept st).laidN (fun _ _ z => z) na new) ag fun _ z => nomatch z
  · rw [upd_ne (fun y => by rw [y, ia] at q; cases q)]; exact n
  · by_cases hb : b ∈ frs X.stack
    · obtain ⟨sl, q'⟩ := fr b hb u q
      exact ⟨_, q'⟩
    · exact ⟨u, st b u (nb b u q hb)⟩
  · rw [upd_ne (ne_of_none q na)]; exact q
  · rw [upd_ne (ne_of_none q na)]; exact q
  · rw [upd_ne (ne_of_none q na), q]; simp
theorem inv_su (I : Inv X pins σ H sI) (a : Addr) : Inv (X.suite a (X.pn ++ pins)) [] σ H sI :=
  ⟨I.ok.suite _ _, I.os, I.bare, I.base, I.loc, I.cell, I.free, I.freeC, fun p hp => I.pin p (by rw [List.append_nil] at hp; exact hp), I.hok, I.len⟩
theorem inv_us {pn' : List (Addr × Obj)} (I : Inv (X.suite a (X.pn ++ pins)) pn' σ H sI) (ok : X.Ok) : Inv X pins σ H sI :=
  { ok := ok, os := I.os, bare := I.bare, base := I.base, loc := I.loc, cell := I.cell, free := I.free, freeC := I.freeC, pin := fun p hp => I.pin p (List.mem_append_left _ hp), hok := I.hok, len := I.len }
end
/-- what the clause wishes -/
def wKt (CT : Value → Bool → Prop) (i : Nat) (ts : TS) (Wo : WX) (D : Ends) : WX := fun cls d σ H => ∃ b, CT cls b ∧
  (b = true → ∀ a, H a = none → ts { nx := fun σ' H' => D.nx (σ'.set i none) H', rt := D.rt, bk := fun σ' H' => D.bk (σ'.set i none) H', ct := fun σ' H' => D.ct (σ'.set i none) H' } (σ.set i (some (.ref a))) (upd H a (exk a cls d))) ∧ (b = false → Wo cls d σ H)
theorem ps_kept {X : Cx} {n : Str} {i : Nat} {body suite : List Stmt} {b0 : Stmt} {t : Expr} {pos pos' : Pos} {tb : WX → TS} {ts : TS} {Wo : WX} {CT : Value → Bool → Prop} (hs : X.stack = X.env :: X.outer) (hf : X.env.frame = some X.env.locals) (hN : X.N.Nodup) (hi : X.N[i]? = some n) (hl : X.env.kindOf n = some .local)
    (tk : Takes X Wo) (hT : ∀ cls b, CT cls b → TestR X t cls b)
    (hb : ∀ (W : WX) (pn : List (Addr × Obj)) (xe : Value → Shared → Prop), Takes (X.tr pn xe) W → PassesOwn (model X.prog X.w) X.A X.env xe → PSs (X.tr pn xe) body (tb W)) (hsu : ∀ (a : Addr) (pn : List (Addr × Obj)), PSs (X.suite a pn) (b0 :: suite) ts) :
    PS X (.Try body [.ExceptHandler (some t) (some n) (b0 :: suite) pos'] [] [] pos) (fun D σ H => tb (wKt CT i ts Wo D) D σ H) := by
  refine ⟨fun pins s σ H D I h => wpAny_Try_except ?_⟩
  have ok := I.ok
  have fr : X.A.frames = some (X.env :: X.outer) := by rw [ok.frames, hs]
  refine wpAny_mono ((hb (wKt CT i ts Wo D) (X.pn ++ pins) (fun e s₁ => wpAny (model X.prog X.w) X.A (noteFrame e X.env) (fun _ s₂ => wpAny (model X.prog X.w) X.A (setFlight e none) (fun _ s₃ =>
    wpAny (model X.prog X.w) X.A (handleBy e X.env [.ExceptHandler (some t) (some n) (b0 :: suite) pos']) (SP X pins D) X.xe s₃) X.xe s₂) X.xe s₁) (fun u s' x => ?_) PassesOwn.looking).run [] s σ H D (I.toTry _) h) (fun fl s1 q => ?_) fun _ _ z => z
  · obtain ⟨a, B, sI, pins', σ', H', cls, d, rfl, J', nb, up, sky, na, os, ag, b, hct, yes, no⟩ := x
    have J : Inv X pins σ' H' sI := J'.ofTry ok
    show wpAny (model X.prog X.w) X.A (noteFrame (.ref a) X.env) _ _ _
    refine Sky.land (B := B) Zc.steady fr hf (by rw [← hs]; exact sky) fun h3 f3 u3 => ?_
    obtain ⟨o3, v3, g3, z3, d3⟩ := f3.there
    have nst : a ∉ frs (X.env :: X.outer) := fly_nofr f3.2.2.1 g3 d3
    have nst' : a ∉ frs X.stack := by rw [hs]; exact nst
    have I3 : Inv X pins σ' (upd H' a (exk a cls d)) { s' with heap := h3 } := inv_caught J nb f3.1 (up.trans u3) os ag na f3.2.1 nst' g3 z3 d3
    have L3 : PySem.W.Looks (model X.prog X.w) h3 (typeOf (.ref a)) cls := fun A Q E s k q => wpAny_typeOf_ref (k _ _ g3) (by rw [z3.1]; exact q)
    refine wpAny_handleBy_cons (codeAny_handlers_test (hT cls b hct a _ _ _ _ _ _ _ (inv_su I3 a) L3 fun h5 k5 => ?_)) fun z => nomatch z
    have f5 := fly_keeps f3 k5
    have u5 : sI.heap.UpToSlots h5 := (up.trans u3).trans (Heap.UpToSlots.of_keeps k5)
    cases b with
    | false =>
      show wpAny _ X.A (handleBy (.ref a) X.env []) _ _ _
      refine wpAny_handleBy_nil ?_
      obtain ⟨_, _, _, oe, vs, T, oT, ts', he, _, hd, h1, _⟩ := id f5
      unfold PySem.passOn
      refine wpAny_bind (wpAny_field he hd h1 ?_)
      have tn : ¬ ((Value.ref T == Value.none) = true) := by simp
      rw [if_neg tn]
      have away : wpAny (model X.prog X.w) X.A (setFlight (.ref a) X.env.frame) (fun _ s6 => wpAny (model X.prog X.w) X.A (throw (.ref a) : Sem Flow) (SP X pins D) X.xe s6) X.xe { s' with heap := h5 } := by
        rw [hf]
        exact HandSPX.setFlight_upZ f5 fun h6 held u6 => wpAny_throw (tk _ _ ⟨a, B, sI, pins, σ', H', cls, d, rfl, J, nb, u5.trans u6, .inr (.inr (by rw [hs]; exact held)), na, os, ag, no rfl⟩)
      first
        | exact wpAny_bind (wpAny_pure (wpAny_bind away))
        | exact wpAny_bind away
    | true =>
      refine codeAny_handlers_suite_as (HandSPX.lands_againZ f5 fun h6 f6 u6 => ?_)
      obtain ⟨o6, v6, g6, z6, d6⟩ := f6.there
      have I6 : Inv X pins σ' (upd H' a (exk a cls d)) { s' with heap := h6 } := inv_caught J nb f6.1 (u5.trans u6) os ag na f6.2.1 nst' g6 z6 d6
      refine store_ok (X := X.suite a (X.pn ++ pins)) (v := .ref a) (inv_su I6 a) hN hi (.inl hl) rfl (fun s7 I7 => ?_) (.inr hl)
      refine wpAny_mono ((hsu a (X.pn ++ pins)).run [] s7 _ _ _ I7 (yes rfl a na)) (fun fl s8 q => ?_) fun _ _ z => False.elim z
      have fin : ∀ {σ8 : L2.St} {H8 : Hp} {R : Shared → Prop}, Inv (X.suite a (X.pn ++ pins)) [] σ8 H8 s8 → (∀ s9, Inv X pins (σ8.set i none) H8 s9 → R s9) → wpAny (model X.prog X.w) X.A (do bindName X.env n .none; unbindBehindTheSuite X.env n pos') (fun _ s9 => R s9) X.xe s8 :=
        fun I8 hR => gone_ok (inv_us I8 ok) hN hi hl hR
      match fl, q with
      | .next, ⟨σ8, H8, I8, q8⟩ => exact fin I8 fun s9 I9 => ⟨_, _, I9, q8⟩
      | .brk, ⟨σ8, H8, I8, q8⟩ => exact fin I8 fun s9 I9 => ⟨_, _, I9, q8⟩
      | .cont, ⟨σ8, H8, I8, q8⟩ => exact fin I8 fun s9 I9 => ⟨_, _, I9, q8⟩
      | .ret u, ⟨v8, σ8, H8, I8, r8, q8⟩ => exact fin I8 fun s9 I9 => ⟨_, _, _, I9, r8, q8⟩
  · match fl, q with
    | .next, ⟨σ1, H1, I1, q1⟩ => exact wpAny_execs_nil ⟨σ1, H1, I1.ofTry ok, q1⟩
    | .brk, ⟨σ1, H1, I1, q1⟩ => exact ⟨σ1, H1, I1.ofTry ok, q1⟩
    | .cont, ⟨σ1, H1, I1, q1⟩ => exact ⟨σ1, H1, I1.ofTry ok, q1⟩
    | .ret u, ⟨v1, σ1, H1, I1, r1, q1⟩ => exact ⟨v1, σ1, H1, I1.ofTry ok, r1, q1⟩
end Y

/-! W9: try, over deep values. -/
namespace Y
open PySem PySem.Spec PyProof.Rows L2 M
def noPen : List Ar → Bool
  | [] => true
  | .pen :: _ => false
  | _ :: r => noPen r
theorem ArL.nopen {K : PySem.W.Frag} {pn : List Addr} {H : Hp} {Z : Addr → Prop} {vs : List V} {as : List Ar} (h : ArL K pn H Z vs as) (n : noPen as = true) : ArL K [] H Z vs as := by
  induction h with
  | nil => exact .nil
  | v a _ ih => exact .v a (ih n)
  | pen a _ _ ih => cases n
  | scr a _ ih => exact .scr a (ih n)
  | gen a _ ih => exact .gen a (ih n)
/-- caught by one of ys? -/
def catF (rel : List (Str × Str × Bool)) (x : Str) : List Str → Option Bool
  | [] => some false
  | y :: r => match relF rel x y, catF rel x r with
    | some b, some d => some (b || d)
    | _, _ => none
theorem catF_cons {rel : List (Str × Str × Bool)} {x y : Str} {r : List Str} {b : Bool} (h : catF rel x (y :: r) = some b) : ∃ b1 d1, relF rel x y = some b1 ∧ catF rel x r = some d1 ∧ b = (b1 || d1) := by
  unfold catF at h
  split at h
  · rename_i b1 d1 e1 e2
    exact ⟨b1, d1, e1, e2, (Option.some.inj h).symm⟩
  · cases h
def CTF (mg : Str → Option Value) (rel : List (Str × Str × Bool)) (ys : List Str) (cls : Value) (b : Bool) : Prop := ∃ x, mg x = some cls ∧ catF rel x ys = some b
def gCat (rel : List (Str × Str × Bool)) (ys : List Str) (i k : Nat) (ρ : En) (P : Pq) (e : Exc) : Prop := match catF rel e.cls ys with
  | some true => i < ρ.length ∧ P.nx (((ρ.set i (.exc e)).set k (.exc e)).set i .emp)
  | some false => P.ex e
  | none => False
theorem gCat_mono {rel : List (Str × Str × Bool)} {ys : List Str} {i k : Nat} {ρ : En} {P P' : Pq} (h : P.Le P') (e : Exc) : gCat rel ys i k ρ P e → gCat rel ys i k ρ P' e := by
  unfold gCat
  split
  · exact fun q => ⟨q.1, h.nx _ q.2⟩
  · exact h.ex _
  · exact id
structure Nx where
  run : En → D → Kd → Pq → Prop
  mono : ∀ ρ d k P P', Pq.Le P P' → run ρ d k P → run ρ d k P'
def nxE : Nx := ⟨fun ρ _ _ P => P.nx ρ, fun _ _ _ _ _ h q => h.nx _ q⟩
def nxS (v : Nat) : Nx := ⟨gSet v, fun _ _ _ _ _ h q => ⟨q.1, h.nx _ q.2⟩⟩
def nxR : Nx := ⟨gRet, fun _ _ _ _ _ h q => ⟨q.1, h.rt _ _ q.2⟩⟩
def sTry (is : List Nat) (nxt : Nx) (CC : Cts) (f : Str) (m : Nat) (args : Wa) (rel : List (Str × Str × Bool)) (ys : List Str) (i k : Nat) : Ws :=
  ⟨fun ρ P => args.run XF0 (dem ρ is) fun as b => b = false ∧ noPen as = true ∧ CC.C f as (fun d kd => kd.nb ∧ nxt.run (dem ρ is) d kd P) (gCat rel ys i k (dem ρ is) P),
    fun ρ P P' h q => args.mono _ _ _ _ _ (fun _ z => z) (fun as b z => ⟨z.1, z.2.1, CC.mono _ _ _ _ _ _ (fun d kd y => ⟨y.1, nxt.mono _ _ _ _ _ h y.2⟩) (gCat_mono h) z.2.2⟩) q, args.c + m⟩
section
variable {X : Cx} {CX : CXT} {k j : Nat} {ps : List Str} {sp : Sp} {E : L2.St → XK} {x : Str} {p pos : Pos} {e : Expr} {es : List Expr} {t : TA}
theorem goes_fnS {f : Addr} {fd : FuncData} {pins : List (Addr × Obj)} {σ : L2.St} {H : Hp} {s : Shared} {Q : VK} {us : List Value} {vs : List V} (F : FnG X.prog X.w X.K X.mg X.base CX k f fd ps sp) (hr : Room k X.A) (hg : X.A.guards = some []) (hb : Binds X.K fd ps []) (hx : PassesAt CX X σ (E σ))
    (I : Inv X pins σ H s) (r : Vals vs us) (h : sp vs H Q (E σ)) : wpAny (model X.prog X.w) X.A (call (.ref f) us) (EP X pins σ Q) X.xe s := by
  have count := F.len vs H Q (E σ) h
  rw [r.length] at count
  have bnd := hb s us I.kIn (by rw [List.append_nil]; exact count)
  rw [List.append_nil] at bnd
  refine wpAny_call (codeAny_mono (F.run X.A X.stack s H ⟨us, []⟩ us vs Q (E σ) hr hg I.env0 bnd r h) ?_)
  intro res s2 z
  match res, z with
  | .error e, z => exact hx pins H s e s2 I z
  | .ok (.ret u), z => exact I.after z
  | .ok .next, z => exact False.elim z
  | .ok .brk, z => exact False.elim z
  | .ok .cont, z => exact False.elim z
theorem pe_clS (c : Cl X.prog X.w X.K X.mg X.base CX k x ps sp) (hr : Room j X.A) (hgd : X.A.guards = some []) (hk : k ≤ j) (hg : Gl X x) (hx : ∀ σ, PassesAt CX X σ (E σ)) (ha : PA X (e :: es) t)
    (hdb : (x == ("__debug__" : Str)) = false) (he : starEach (e :: es) X.env = (false, eval e X.env) :: starEach es X.env) (hpl : (backTo pos (starEach es X.env)).any (·.1) = false) : PE X (.Call (.Name x p) (e :: es) [] pos) (tCallS sp E t) := by
  obtain ⟨f, fd, F, g, kp, b⟩ := c.ex
  constructor
  intro pins s σ H Q I want
  refine wpAny_Call_Name_kw (ld_glob I hg g ?_ hdb)
  refine PySem.W.callWith_K (h₀ := X.base) I.ok.mod.kin kp (thn (ha.run pos pins s σ H _ I want) ?_) he hpl
  rintro us s1 ⟨vs, H1, I1, r, q⟩
  exact ⟨I1.kIn, goes_fnS F (hr.mono hk) hgd b (hx σ) I1 r q⟩
end
section
variable {X : Cx} {xw : Xw} {G : Gm} {j : Nat} {CC : Cts}
theorem Cok.tr (c : Cok X xw G j CC) {pn : List (Addr × Obj)} {xe : Value → Shared → Prop} (po : PassesOwn (model X.prog X.w) X.A X.env xe) : Cok (X.tr pn xe) xw.ne G j CC :=
  ⟨c.N, c.nd, c.sc, c.fn, c.calm, c.room, c.quiet, c.mge, takes0, po, c.tp, c.blt, c.con, c.fns, c.mks, c.cls, c.exs, c.rel, c.nrel, c.lams, c.lfns, c.lamb, c.kfns, c.ext⟩
/-- the call in a try's body -/
theorem try_core {cs m : Nat} {C : Ct} (hC : ∀ as Q Q' E E', (∀ d k, Q d k → Q' d k) → (∀ e, E e → E' e) → C as Q E → C as Q' E') {ws : En → (List Ar → Bool → Prop) → Prop} (ms : MonoA ws) {H0 H : Hp} {B Z : Addr → Prop} {pn : List Addr} {fr : Fx} {σ : L2.St} {ρ : En} {tb : Nat} {qn : VQ} {xq : XQ} {W : WX} {R : VK}
    (ok : EnvOk X.K xw H0 B pn fr Z (cs + (m + tb)) σ ρ H) (w : ws ρ fun as b => b = false ∧ noPen as = true ∧ C as (fun d k => k.nb ∧ qn d k) xq)
    (hR : ∀ v d k H', HStep tb pn H H' → RX X.K pn H H' Z v d k → k.nb → qn d k → R v H') (hX : ∀ e cls d H', xq e → HStep tb pn H H' → ExR X.K X.mg H' Z e cls d → W cls d σ H') :
    tCallS (spC X.mg C m X.K) (WE W) (tAr X.K xw.ne cs ws) σ H R := by
  refine ⟨H0, B, pn, fr, ρ, Z, m + tb, ok.ne, ms _ _ _ (fun as b q vs H1 Z' s1 z1 z2 z3 z4 r1 => ?_) w⟩
  obtain ⟨rfl, np, q⟩ := q
  have zz := z3 rfl
  have ok1 := ok.to s1
  have bk : ∀ {t' : Nat} {H' : Hp}, t' ≤ m + tb → HStep t' [] H1 H' → HStep t' pn H1 H' := fun h s => HStep.of_same (ok1.bd.less h) ok1.pnt fun b o e => s.keep b o (fun z => nomatch z) e
  refine ⟨as, [], Z', tb, r1.nopen np, fun a z => ok1.zt a (z1 a z), fun _ z => (nomatch z), ⟨ok1.bd.1, fun _ z => nomatch z⟩, hC _ _ _ _ _ (fun d k q => ⟨q.1.ne, fun v H' s2 rx => ?_⟩) (fun e he => ⟨rfl, fun cls d H' s2 xr => ?_⟩) q⟩
  · have sp := bk (Nat.le_add_left _ _) s2
    refine hR v d k H' (s1.trans sp) (RX.back ?_ s1) q.1 q.2
    have rx := rx.of q.1
    cases k with
    | shr => exact Dn.weak rx zz
    | own =>
      obtain ⟨a, e, n, o⟩ := rx
      exact ⟨a, e, n, o.keep (fun _ _ _ e => e) (fun c z => z.elim (fun z => .inl (.inl (zz c z))) fun z => .inl (.inr z)) fun _ e => e⟩
    | bor => exact q.1.elim
    | gen _ => exact q.1.elim
  · have sm : HStep tb pn H1 H' := HStep.of_same (ok1.bd.less (Nat.le_add_left _ _)) ok1.pnt fun b o e => s2.keep b o (fun z => nomatch z) e
    exact hX e cls d H' he (s1.trans sm) (xr.keep (fun _ _ _ e => e) fun b z => .inl (zz b z))
abbrev tKept (i k : Nat) : TS := tSeq (tAsg (tVar i) (gName k)) tNext
theorem try_in {is : List Nat} {nxt : Nx} {f : Str} {m : Nat} {args : Wa} {rel : List (Str × Str × Bool)} {ys : List Str} {i k : Nat} {D : Ends} {σ : L2.St} {H : Hp} {R : VK} (hmg : xw.mg = X.mg)
    (h : tS X.K xw (sTry is nxt CC f m args rel ys i k).c (sTry is nxt CC f m args rel ys i k).run D σ H)
    (hR : ∀ H0 B pn0 fr P pn ρ Z tb tb' v d kd H', PnX pn0 pn H0 → EnvOk X.K xw H0 B pn fr Z tb' σ ρ H → HStep tb pn H H' → RX X.K pn H H' Z v d kd → kd.nb → nxt.run ρ d kd P → Fits X.K xw H0 B pn0 fr tb P D → R v H') :
    tCallS (spC X.mg (CC.C f) m X.K) (WE (wKt (CTF X.mg rel ys) i (tKept i k) (fun cls d _ H => xw.W cls d H) D)) (tAr X.K xw.ne args.c (args.run XF0)) σ H R := by
  obtain ⟨H0, B, pn0, fr, P, pn, ρ, Z, tb, px, ok, w, f'⟩ := h
  obtain ⟨Z', hz, ok'⟩ := dem_ok is ok
  have ok2 : EnvOk X.K xw H0 B pn fr Z' (args.c + (m + tb)) σ (dem ρ is) H := ok'.lt (by show _ ≤ args.c + m + tb; omega)
  refine try_core (fun as Q Q' E E' h1 h2 h3 => CC.mono f as Q Q' E E' h1 h2 h3) args.m ok2 w (fun v d kd H' s r nb q => hR H0 B pn0 fr P pn _ Z' tb _ v d kd H' px ok2 s r nb q f') fun e cls d H' q s xr => ?_
  have ok3 := ok2.to s
  unfold gCat at q
  split at q
  · rename_i hc
    refine ⟨true, ⟨e.cls, xr.1, hc⟩, fun _ a na => ?_, fun z => nomatch z⟩
    have il : i < σ.length := by rw [← ok3.len]; exact q.1
    refine ⟨.ref a, by rw [List.getElem?_set_self il], ?_⟩
    have sa := M.same_upd (o := exk a cls d) na
    have ok4 := ok3.to (ok3.ss sa)
    have sx : ExS X.K xw.mg (upd H' a (exk a cls d)) Z' e (some (some (.ref a))) := ⟨a, cls, d, rfl, fun z => ok3.zt a z na, upd_same, by rw [hmg]; exact xr.keep (fun b o _ y => sa b o y) fun b z => .inl z⟩
    have ok5 := ((ok4.put i (some (.ref a)) (.exc e) sx (fun _ z => nomatch z) fun _ _ z => nomatch z).put k (some (.ref a)) (.exc e) sx (fun _ z => nomatch z) fun _ _ z => nomatch z).emp i
    exact f'.nx _ _ ⟨pn, _, Z', px, ok5, q.2⟩
  · rename_i hc
    refine ⟨false, ⟨e.cls, xr.1, hc⟩, (fun z => nomatch z), fun _ => ?_⟩
    rw [f'.ex] at q
    obtain ⟨hp, hx⟩ := ok3.xo _ q
    subst hp
    refine hx cls d H' (ok3.step.less (Nat.zero_le _)) ?_
    rw [hmg]
    exact xr.keep (fun _ _ _ e => e) fun b z => .inl (ok3.bz b z)
  · exact q.elim
/-! ### rules -/
variable (c : Cok X xw G j CC) {pos p p2 p3 p4 p5 p6 p7 : Pos}
include c
theorem rel_nm {x y : Str} {b : Bool} {cls : Value} (h : relF G.rel x y = some b) (hx : X.mg x = some cls) : ∃ cv, Nm X.mg y cv ∧ PySem.W.exmOne X.K cls cv = some b := by
  obtain ⟨C, cv, e, nm, _, ex, _⟩ := c.rel _ _ _ (relF_mem h)
  rw [e] at hx
  cases hx
  exact ⟨cv, nm, ex⟩
theorem gn_ok3 {y : Str} (h : gnB G y = true) : Gl X y ∧ (y == ("__debug__" : Str)) = false ∧ y ≠ "__name__" := by
  refine ⟨(gn_ok c h).1, (gn_ok c h).2, ?_⟩
  unfold gnB at h
  rw [Bool.and_eq_true] at h
  exact (okN_ok h.2).2.2
def Tst (X : Cx) (rel : List (Str × Str × Bool)) (t : Expr) (ys : List Str) : Prop := ∀ cls b, CTF X.mg rel ys cls b → TestR X t cls b
theorem t1 {y : Str} (h : gnB G y = true := by decide +kernel) : Tst X G.rel (.Name y p) [y] := by
  rintro cls b ⟨x, hx, hc⟩
  obtain ⟨b1, d1, e1, e2, rfl⟩ := catF_cons hc
  cases e2
  obtain ⟨cv, nm, ex⟩ := rel_nm c e1 hx
  have g := gn_ok3 c h
  rw [Bool.or_false]
  exact test_nm nm g.1 g.2.1 g.2.2 ex
theorem exm_two {K : PySem.W.Frag} {cls c1 : Value} {r : List Value} {b1 d1 : Bool} (h : PySem.W.exmOne K cls c1 = some b1) (hr : PySem.W.exmAny K cls r = some d1) : PySem.W.exmAny K cls (c1 :: r) = some (b1 || d1) := by
  unfold PySem.W.exmAny
  rw [h, hr]
theorem t2 {y1 y2 : Str} {k} (h1 : gnB G y1 = true := by decide +kernel) (h2 : gnB G y2 = true := by decide +kernel) : Tst X G.rel (.Tuple [.Name y1 p, .Name y2 p2] k p3) [y1, y2] := by
  rintro cls b ⟨x, hx, hc⟩
  obtain ⟨b1, d1, e1, hc1, rfl⟩ := catF_cons hc
  obtain ⟨b2, d2, e2, e3, rfl⟩ := catF_cons hc1
  cases e3
  obtain ⟨c1, nm1, ex1⟩ := rel_nm c e1 hx
  obtain ⟨c2, nm2, ex2⟩ := rel_nm c e2 hx
  have g1 := gn_ok3 c h1
  have g2 := gn_ok3 c h2
  exact test_nm2 nm1 g1.1 g1.2.1 g1.2.2 nm2 g2.1 g2.2.1 g2.2.2 (exm_two c ex1 (exm_two c ex2 rfl))
theorem t3 {y1 y2 y3 : Str} {k} (h1 : gnB G y1 = true := by decide +kernel) (h2 : gnB G y2 = true := by decide +kernel) (h3 : gnB G y3 = true := by decide +kernel) : Tst X G.rel (.Tuple [.Name y1 p, .Name y2 p2, .Name y3 p4] k p3) [y1, y2, y3] := by
  rintro cls b ⟨x, hx, hc⟩
  obtain ⟨b1, d1, e1, hc1, rfl⟩ := catF_cons hc
  obtain ⟨b2, d2, e2, hc2, rfl⟩ := catF_cons hc1
  obtain ⟨b3, d3, e3, e4, rfl⟩ := catF_cons hc2
  cases e4
  obtain ⟨c1, nm1, ex1⟩ := rel_nm c e1 hx
  obtain ⟨c2, nm2, ex2⟩ := rel_nm c e2 hx
  obtain ⟨c3, nm3, ex3⟩ := rel_nm c e3 hx
  have g1 := gn_ok3 c h1
  have g2 := gn_ok3 c h2
  have g3 := gn_ok3 c h3
  exact test_nm3 nm1 g1.1 g1.2.1 g1.2.2 nm2 g2.1 g2.2.1 g2.2.2 nm3 g3.1 g3.2.1 g3.2.2 (exm_two c ex1 (exm_two c ex2 (exm_two c ex3 rfl)))
/-- n: a local, at i -/
def lcB (G : Gm) (n : Str) (i : Nat) : Bool := slotB G n i && decide (G.sc.names.lookup n = some .local) && okN n
theorem kept_ok {n kp : Str} {i k : Nat} (hn : lcB G n i = true) (hk : tgB G kp k = true) (a : Addr) (pn : List (Addr × Obj)) : PSs (X.suite a pn) [.Assign [.Name kp p4] (.Name n p5) p6] (tKept i k) := by
  unfold lcB at hn
  simp only [Bool.and_eq_true, decide_eq_true_eq] at hn
  obtain ⟨⟨h1, h2⟩, h3⟩ := hn
  have o := okN_ok h3
  have t := tg_okB c hk
  have vn : PE (X.suite a pn) (.Name n p5) (tVar i) := pe_var (slot_ok c h1) (.inl (by show X.env.scope.names.lookup n = _; rw [c.sc]; exact h2)) o.1 o.2.1
  exact pss_cons (ps_asg vn (pg_name (by show X.N.Nodup; rw [c.N]; exact c.nd) t.1 t.2.1 t.2.2) rfl rfl) pss_nil
theorem z_tryE {f n kp : Str} {m : Nat} {a : Expr} {es : List Expr} {ws : Wa} {t : Expr} {ys : List Str} {p8 : Pos} (is : List Nat) (i k : Nat) (ha : ∀ {X' : Cx}, Cok X' xw.ne G j CC → Par X' xw.ne (a :: es) ws) (ht : Tst X G.rel t ys)
    (hf : G.fns.lookup f = some m := by rfl) (g : gnB G f = true := by decide +kernel) (hn : lcB G n i = true := by decide +kernel) (hk : tgB G kp k = true := by decide +kernel) (hcm : G.top = true := by rfl) :
    Ps X xw (.Try [.Expr (.Call (.Name f p) (a :: es) [] p2) p3] [.ExceptHandler (some t) (some n) [.Assign [.Name kp p4] (.Name n p5) p6] p7] [] [] p8) (sTry is nxE CC f m ws G.rel ys i k) := by
  have g := gn_ok c g
  obtain ⟨k0, ps, hkj, cl⟩ := c.fns f m (PySem.mem_of_lookup hf)
  obtain ⟨tp1, tp2, tp3⟩ := c.tp hcm
  have hn' := hn
  unfold lcB at hn'
  simp only [Bool.and_eq_true, decide_eq_true_eq] at hn'
  refine PS.weak (ps_kept (t := t) (i := i) (tb := fun W => tSeq (tDrop (tCallS (spC X.mg (CC.C f) m X.K) (WE W) (tAr X.K xw.ne ws.c (ws.run XF0)))) tNext) (Wo := fun cls d _ H => xw.W cls d H) (CT := CTF X.mg G.rel ys) tp1 tp2 (by rw [c.N]; exact c.nd) (slot_ok c hn'.1.1) (by show X.env.scope.names.lookup n = _; rw [c.sc]; exact hn'.1.2) c.tk ht
    (fun W pn xe tkW po => ?_) (fun a pn => kept_ok c hn hk a pn)) fun D σ H h => ?_
  · have st := (ha (c.tr (pn := []) (xe := fun _ _ => False) PassesOwn.never)).st
    rw [List.all_cons, Bool.and_eq_true] at st
    have pe := pe_clS (X := X.tr pn xe) (p := p) (pos := p2) (E := WE W) cl c.room c.quiet hkj g.1 (fun σ => passAt tkW σ) (ha (c.tr po)).ar g.2 (star_cons (by simpa using st.1)) (star_any st.2)
    exact pss_cons (ps_expr pe) pss_nil
  · exact try_in (is := is) (nxt := nxE) c.mge h fun H0 B pn0 fr P pn ρ Z tb tb' v d kd H' px ok s r nb q f' => f'.nx _ _ ⟨pn, ρ, Z, px, ok.to s, q⟩
theorem z_tryS {f n kp : Str} {m : Nat} {a : Expr} {es : List Expr} {ws : Wa} {t : Expr} {ys : List Str} {p8 : Pos} {x : Str} {px : Pos} (is : List Nat) (i k : Nat) (ha : ∀ {X' : Cx}, Cok X' xw.ne G j CC → Par X' xw.ne (a :: es) ws) (ht : Tst X G.rel t ys)
    (hf : G.fns.lookup f = some m := by rfl) (g : gnB G f = true := by decide +kernel) (hn : lcB G n i = true := by decide +kernel) (hk : tgB G kp k = true := by decide +kernel) (hcm : G.top = true := by rfl) (v : Nat) (hv : tgB G x v = true := by decide +kernel) :
    Ps X xw (.Try [.Assign [.Name x px] (.Call (.Name f p) (a :: es) [] p2) p3] [.ExceptHandler (some t) (some n) [.Assign [.Name kp p4] (.Name n p5) p6] p7] [] [] p8) (sTry is (nxS v) CC f m ws G.rel ys i k) := by
  have g := gn_ok c g
  obtain ⟨k0, ps, hkj, cl⟩ := c.fns f m (PySem.mem_of_lookup hf)
  obtain ⟨tp1, tp2, tp3⟩ := c.tp hcm
  have hn' := hn
  unfold lcB at hn'
  simp only [Bool.and_eq_true, decide_eq_true_eq] at hn'
  have hv' := tg_okB c hv
  refine PS.weak (ps_kept (t := t) (i := i) (tb := fun W => tSeq (tAsg (tCallS (spC X.mg (CC.C f) m X.K) (WE W) (tAr X.K xw.ne ws.c (ws.run XF0))) (gName v)) tNext) (Wo := fun cls d _ H => xw.W cls d H) (CT := CTF X.mg G.rel ys) tp1 tp2 (by rw [c.N]; exact c.nd) (slot_ok c hn'.1.1) (by show X.env.scope.names.lookup n = _; rw [c.sc]; exact hn'.1.2) c.tk ht
    (fun W pn xe tkW po => ?_) (fun a pn => kept_ok c hn hk a pn)) fun D σ H h => ?_
  · have st := (ha (c.tr (pn := []) (xe := fun _ _ => False) PassesOwn.never)).st
    rw [List.all_cons, Bool.and_eq_true] at st
    have pe := pe_clS (X := X.tr pn xe) (p := p) (pos := p2) (E := WE W) cl c.room c.quiet hkj g.1 (fun σ => passAt tkW σ) (ha (c.tr po)).ar g.2 (star_cons (by simpa using st.1)) (star_any st.2)
    exact pss_cons (ps_set (by show X.N.Nodup; rw [c.N]; exact c.nd) hv'.1 hv'.2.1 pe (swaps_ok rfl) hv'.2.2) pss_nil
  · refine try_in (is := is) (nxt := nxS v) c.mge h fun H0 B pn0 fr P pn ρ Z tb tb' u d kd H' px ok s r nb q f' => ?_
    obtain ⟨Z', ok'⟩ := ok.sto v s r q.1
    exact f'.nx _ _ ⟨pn, _, Z', px, ok', q.2⟩
theorem z_tryR {f n kp : Str} {m : Nat} {a : Expr} {es : List Expr} {ws : Wa} {t : Expr} {ys : List Str} {p8 : Pos} (is : List Nat) (i k : Nat) (ha : ∀ {X' : Cx}, Cok X' xw.ne G j CC → Par X' xw.ne (a :: es) ws) (ht : Tst X G.rel t ys)
    (hf : G.fns.lookup f = some m := by rfl) (g : gnB G f = true := by decide +kernel) (hn : lcB G n i = true := by decide +kernel) (hk : tgB G kp k = true := by decide +kernel) (hcm : G.top = true := by rfl) :
    Ps X xw (.Try [.Return (some (.Call (.Name f p) (a :: es) [] p2)) p3] [.ExceptHandler (some t) (some n) [.Assign [.Name kp p4] (.Name n p5) p6] p7] [] [] p8) (sTry is nxR CC f m ws G.rel ys i k) := by
  have g := gn_ok c g
  obtain ⟨k0, ps, hkj, cl⟩ := c.fns f m (PySem.mem_of_lookup hf)
  obtain ⟨tp1, tp2, tp3⟩ := c.tp hcm
  have hn' := hn
  unfold lcB at hn'
  simp only [Bool.and_eq_true, decide_eq_true_eq] at hn'
  refine PS.weak (ps_kept (t := t) (i := i) (tb := fun W => tSeq (tRet (tCallS (spC X.mg (CC.C f) m X.K) (WE W) (tAr X.K xw.ne ws.c (ws.run XF0)))) tNext) (Wo := fun cls d _ H => xw.W cls d H) (CT := CTF X.mg G.rel ys) tp1 tp2 (by rw [c.N]; exact c.nd) (slot_ok c hn'.1.1) (by show X.env.scope.names.lookup n = _; rw [c.sc]; exact hn'.1.2) c.tk ht
    (fun W pn xe tkW po => ?_) (fun a pn => kept_ok c hn hk a pn)) fun D σ H h => ?_
  · have st := (ha (c.tr (pn := []) (xe := fun _ _ => False) PassesOwn.never)).st
    rw [List.all_cons, Bool.and_eq_true] at st
    have pe := pe_clS (X := X.tr pn xe) (p := p) (pos := p2) (E := WE W) cl c.room c.quiet hkj g.1 (fun σ => passAt tkW σ) (ha (c.tr po)).ar g.2 (star_cons (by simpa using st.1)) (star_any st.2)
    exact pss_cons (ps_ret pe) pss_nil
  · refine try_in (is := is) (nxt := nxR) c.mge h fun H0 B pn0 fr P pn ρ Z tb tb' v d kd H' px ok s r nb q f' => ?_
    refine f'.rt v d kd H' (px.hs (ok.step.trans s)) q.1 (RXg.to ?_) q.2
    have r' := r.backS ok.step
    cases kd with
    | shr => exact Dn.weak r' ok.bz
    | own =>
      obtain ⟨a, e, n, o⟩ := r'
      exact ⟨a, e, n, o.keep (fun _ _ _ e => e) (fun c z => z.elim (fun z => .inl (.inl (ok.bz c z))) fun z => .inl (.inr z)) fun _ e => e⟩
    | bor => exact absurd rfl q.1
    | gen _ => exact r'.elim
/-! ### None or caught -/
theorem e_exN {x : Str} {o : CmpOp} {nn : Bool} {kk} (i : Nat) (ho : (nn = false ∧ o = .Is) ∨ (nn = true ∧ o = .IsNot)) (h : nmB G x i = true := by decide +kernel) : Pe X xw (.Compare (.Name x p) [o] [.Constant .none kk p2] pos) (wExN nn i) := by
  have h := nm_ok c h
  have go : ∀ {r : R2}, OpR X (compareOp o) r → (∀ x H Q, Q (.bl (decide (x = .non) != nn)) H → r x .non H Q) → Pe X xw (.Compare (.Name x p) [o] [.Constant .none kk p2] pos) (wExN nn i) := fun {r} ho hr => by
    refine PE.weak (pe_cmpR ho (pe_var (pos := p) h.1 h.2.1 h.2.2.1 h.2.2.2) (pe_non (j := kk) (pos := p2)) (by cases o <;> rfl)) fun σ H Q ⟨H0, B, pn, fr, ρ, Z, tb, ok, w⟩ => ?_
    change gExN nn ρ[i]? (fun d k => ∀ v H', HStep tb pn H H' → RX X.K pn H H' Z v d k → Q v H') at w
    have st : HStep tb pn H H := HStep.refl (ok.bd.less (by show tb ≤ 0 + tb; omega))
    unfold gExN at w
    split at w
    · rename_i e he
      obtain ⟨a, cls, d, ea, nz, ha, xr⟩ := ok.sl i _ he
      refine ⟨.ref a, ea, hr _ _ _ ?_⟩
      have : (decide ((V.ref a) = .non) != nn) = nn := by simp
      rw [this]
      exact w _ H st (.bl _)
    · rename_i d he
      obtain ⟨v, ev, nv⟩ := ok.sl i _ he
      refine ⟨v, ev, hr _ _ _ ?_⟩
      rw [noneD_of (pn := pn) (.inl nv)]
      exact w _ H st (.bl _)
    · exact w.elim
  rcases ho with ⟨rfl, rfl⟩ | ⟨rfl, rfl⟩
  · exact go op_isN fun x H Q q => ⟨rfl, by simpa using q⟩
  · exact go op_notN fun x H Q q => ⟨rfl, by simpa using q⟩
end
end Y

/-! W10: exceptions: the wishes opened by simp; what the written part must say. -/
namespace Y
open PySem PySem.Spec PyProof.Rows L2 M
section
variable {X : Cx} {xw : Xw} {G : Gm} {j : Nat} {CC : Cts} (c : Cok X xw G j CC) {pos p p2 : Pos}
include c
theorem t_exN {x : Str} {o : CmpOp} {nn : Bool} {kk} (i : Nat) (ho : (nn = false ∧ o = .Is) ∨ (nn = true ∧ o = .IsNot)) (h : nmB G x i = true := by decide +kernel) : Pt X xw (.Compare (.Name x p) [o] [.Constant .none kk p2] pos) (tOf (wExN nn i)) := by
  have h := nm_ok c h
  have go : ∀ {r : R2}, OpR X (compareOp o) r → (∀ x H Q, Q (.bl (decide (x = .non) != nn)) H → r x .non H Q) → Pt X xw (.Compare (.Name x p) [o] [.Constant .none kk p2] pos) (tOf (wExN nn i)) := fun {r} ho hr => by
    refine PT.weak (pt_cmpR ho (pe_var (pos := p) h.1 h.2.1 h.2.2.1 h.2.2.2) (pe_non (j := kk) (pos := p2)) (by cases o <;> rfl)) fun σ H Q ⟨H0, B, pn, fr, ρ, Z, tb, ok, w⟩ => ?_
    change gExN nn ρ[i]? (fun d _ => truT d fun b => ∀ H', HStep tb pn H H' → Q b H') at w
    have st : HStep tb pn H H := HStep.refl (ok.bd.less (by show tb ≤ 0 + tb; omega))
    unfold gExN at w
    split at w
    · rename_i e he
      obtain ⟨a, cls, d, ea, nz, ha, xr⟩ := ok.sl i _ he
      refine ⟨.ref a, ea, hr _ _ _ ?_⟩
      have : (decide ((V.ref a) = .non) != nn) = nn := by simp
      rw [this]
      exact ⟨_, rfl, w.2 H st⟩
    · rename_i d he
      obtain ⟨v, ev, nv⟩ := ok.sl i _ he
      refine ⟨v, ev, hr _ _ _ ?_⟩
      rw [noneD_of (pn := pn) (.inl nv)]
      exact ⟨_, rfl, w.2 H st⟩
    · exact w.elim
  rcases ho with ⟨rfl, rfl⟩ | ⟨rfl, rfl⟩
  · exact go op_isN fun x H Q q => ⟨rfl, by simpa using q⟩
  · exact go op_notN fun x H Q q => ⟨rfl, by simpa using q⟩
end
section
variable {E : XQ} {ρ : En} {Q : VQ} {P : Pq} {i k : Nat} {x y f : Str} {is : List Nat} {w : Wx} {xs : List (Str × Str)} {rel : List (Str × Str × Bool)} {nrel ys : List Str} {n : Bool} {e : Exc} {d : D}
@[simp] theorem run_sraise : (sRaise is x f w).run ρ P = w.run P.ex (dem ρ is) fun d k => k ≠ .bor ∧ P.ex ⟨x, [(f, d)]⟩ := rfl
@[simp] theorem run_exF : (wExF xs i f).run E ρ Q = gExF xs f ρ[i]? Q := rfl
@[simp] theorem run_exI : (wExI rel nrel i y).run E ρ Q = gExI rel nrel y ρ[i]? Q := rfl
@[simp] theorem run_exN : (wExN n i).run E ρ Q = gExN n ρ[i]? Q := rfl
@[simp] theorem gExF_exc : gExF xs f (some (.exc e)) Q = ((e.cls, f) ∈ xs ∧ match e.fs.lookup f with | some d => Q d .shr | none => False) := rfl
@[simp] theorem gExI_exc : gExI rel nrel y (some (.exc e)) Q = (match relF rel e.cls y with | some b => Q (.bool b) .shr | none => False) := rfl
@[simp] theorem gExI_none : gExI rel nrel y (some (.val .none)) Q = (y ∈ nrel ∧ Q (.bool false) .shr) := rfl
@[simp] theorem gExN_exc : gExN n (some (.exc e)) Q = Q (.bool n) .shr := rfl
@[simp] theorem gExN_val : gExN n (some (.val d)) Q = Q (.bool (noneD d != n)) .shr := rfl
theorem run_stry {nxt : Nx} {CC : Cts} {m : Nat} {args : Wa} : (sTry is nxt CC f m args rel ys i k).run ρ P = args.run XF0 (dem ρ is) fun as b => b = false ∧ noPen as = true ∧ CC.C f as (fun d kd => kd.nb ∧ nxt.run (dem ρ is) d kd P) (gCat rel ys i k (dem ρ is) P) := rfl
@[simp] theorem run_nxE {kd : Kd} : nxE.run ρ d kd P = P.nx ρ := rfl
@[simp] theorem run_nxS {kd : Kd} {v : Nat} : (nxS v).run ρ d kd P = (kd ≠ .bor ∧ P.nx (ρ.set v (slK d kd))) := rfl
@[simp] theorem run_nxR {kd : Kd} : nxR.run ρ d kd P = (kd ≠ .bor ∧ P.rt d kd) := rfl
@[simp] theorem noPen_nil : noPen [] = true := rfl
@[simp] theorem noPen_v {d : D} {r : List Ar} : noPen (.v d :: r) = noPen r := rfl
theorem gCat_yes (h : catF rel e.cls ys = some true) : gCat rel ys i k ρ P e = (i < ρ.length ∧ P.nx (((ρ.set i (.exc e)).set k (.exc e)).set i .emp)) := by
  unfold gCat
  rw [h]
theorem gCat_no (h : catF rel e.cls ys = some false) : gCat rel ys i k ρ P e = P.ex e := by
  unfold gCat
  rw [h]
end
/-! ### what the written part says -/
section
variable {K : PySem.W.Frag} {mg : Str → Option Value} {C D : Addr} {x y : Str} {n : String} {b : Bool}
theorem rel_own (hx : mg x = some (.ref C)) (hy : mg y = some (.ref D)) (ec : L2.ExcC K C) (ne : (Value.ref C == Value.ref D) = false) (hs : PySem.W.subIn K (.ref D) (.type "BaseException") = some true) (hd : PySem.W.hasDictIn K D = true) (ht : PySem.W.typeIn K (.ref D) = some (.type "type")) (h : PySem.W.subIn K (.ref C) (.ref D) = some b) : RelOk K mg x y b := by
  have e := PySem.W.exm_ref hs hd ht h
  refine ⟨C, .ref D, hx, .inl ⟨hy, D, rfl⟩, ?_, e, ec⟩
  unfold PySem.W.exmOne at e
  split at e
  · unfold PySem.W.kitOne
    rw [if_neg (by rw [ne]; decide)]
    exact e
  · cases e
theorem rel_self (hx : mg x = some (.ref C)) (ec : L2.ExcC K C) (ht : PySem.W.typeIn K (.ref C) = some (.type "type")) (h : PySem.W.subIn K (.ref C) (.ref C) = some true) : RelOk K mg x x true :=
  ⟨C, .ref C, hx, .inl ⟨hx, C, rfl⟩, by unfold PySem.W.kitOne; rw [if_pos (beq_self_eq_true _)], PySem.W.exm_ref ec.hs ec.hd ht h, ec⟩
theorem rel_blt (hx : mg x = some (.ref C)) (hy : mg y = none) (hv : bootBuiltins y = some (.type n)) (ec : L2.ExcC K C) (hm : PySem.W.kitMeta n = true) (hB : PySem.W.subIn K (.type n) (.type "BaseException") = some true) (h : PySem.W.subIn K (.ref C) (.type n) = some b) : RelOk K mg x y b := by
  have k : PySem.W.kitCls K (.ref C) (.type n) = some b := by
    show (if PySem.W.kitMeta n = true then PySem.W.subIn K (.ref C) (.type n) else none) = some b
    rw [if_pos hm]
    exact h
  refine ⟨C, .type n, hx, .inr ⟨hy, hv, n, rfl⟩, ?_, ?_, ec⟩
  · unfold PySem.W.kitOne
    rw [if_neg (show ¬ (Value.ref C == Value.type n) = true from fun z => by have := beq_iff_eq.mp z; cases this)]
    exact k
  · unfold PySem.W.exmOne
    rw [if_pos (by rw [hB]; rfl)]
    exact k
theorem nrel_own (hy : mg y = some (.ref D)) (hd : PySem.W.hasDictIn K D = true) (ht : PySem.W.typeIn K (.ref D) = some (.type "type")) (h : PySem.W.subIn K (.type "NoneType") (.ref D) = some false) : NrelOk K mg y := by
  refine ⟨.ref D, .inl ⟨hy, D, rfl⟩, ?_⟩
  obtain ⟨cd, hc, _⟩ := PySem.W.any_some hd
  unfold PySem.W.kitOne
  rw [if_neg (show ¬ (Value.type "NoneType" == Value.ref D) = true from fun z => by have := beq_iff_eq.mp z; cases this)]
  show (if ((PySem.W.clsIn K D).isSome && PySem.W.typeIn K (Value.ref D) == some (Value.type "type")) = true then PySem.W.subIn K (.type "NoneType") (.ref D) else none) = some false
  rw [if_pos (by rw [hc, ht]; rfl)]
  exact h
theorem nrel_blt (hy : mg y = none) (hv : bootBuiltins y = some (.type n)) (h : L2.kitB "NoneType" n = some false) : NrelOk K mg y := ⟨.type n, .inr ⟨hy, hv, n, rfl⟩, L2.kit_ty h⟩
/-- an exception class, as the written part has it -/
structure ExTxt (K : PySem.W.Frag) (mg : Str → Option Value) (x f y qual : Str) (st : Stmt) (B nw ini : String) (bm : List Value) : Prop where
  ex : ∃ (C fI : Addr) (fd : FuncData), mg x = some (.ref C) ∧ OwnX K C bm nw ∧ PySem.W.findIn K (.ref C) "__init__" = some (some (.ref fI)) ∧ PySem.W.typeIn K (.ref fI) = some (.type "function") ∧ Fun K "__init__" qual st fI fd ∧ PySem.W.findIn K (.ref C) f = some none ∧ PySem.W.findCls K (.type B) (.type "type") "__init__" = some (.val (.builtin ini)) ∧ L2.ExcC K C
end
end Y

/-! W12: a lambda without parameters, given to a def that calls it. -/
namespace Y
open PySem PySem.Spec PyProof.Rows L2 M
/-! ### the making -/
/-- what the making of a lambda leaves: T the table, c1 the code object -/
structure LamMade (H H1 : Hp) (T c1 : Addr) (q : Str) : Prop where
  step : H1 = H ∨ ∃ ps qs c0, H T = some (.tbl ps) ∧ H c0 = none ∧ H1 = upd (upd H T (.tbl qs)) c0 (LamX.CodeO c0 q)
  tab : LamX.TabS H1 T q
  code : H1 c1 = some (LamX.CodeO c1 q)
theorem codeO_ne {c : Addr} {q : Str} (ps : Array Value) : LamX.CodeO c q ≠ .tbl ps := fun z => by
  unfold LamX.CodeO at z
  cases z
theorem LamMade.hs {H H1 : Hp} {T c1 : Addr} {pn : List Addr} {t : Nat} (m : LamMade H H1 T c1 (LQ T)) (hT : T ∈ pn) (bd : Bd t pn H) : HStep t pn H H1 := by
  rcases m.step with e | ⟨ps, qs, c0, h1, h2, e⟩
  · rw [e]; exact .refl bd
  have n0 : T ≠ c0 := ne_of_none h1 h2
  have off : ∀ b, b ≠ T → b ≠ c0 → H1 b = H b := fun b a d => by rw [e, upd_ne d, upd_ne a]
  have nb : ∀ b o, H b = some o → b ≠ c0 := fun b o q => ne_of_none q h2
  have atT : H1 T = some (.tbl qs) := by rw [e, upd_ne n0, upd_same]
  have at0 : H1 c0 = some (LamX.CodeO c0 (LQ T)) := by rw [e, upd_same]
  refine ⟨fun b o hb q => ?_, fun d hd => ⟨fun c i r z1 z2 q => ?_, fun ⟨c, i, r, q⟩ => ?_, fun tb => ?_⟩, fun b hb => ?_, bd.1, fun d hd c i r q => ?_⟩
  · rw [off b (fun z => hb (by rw [z]; exact hT)) (nb b o q)]; exact q
  · refine ⟨i, r, z1, z2, ?_⟩
    rw [off d (fun z => by rw [z, h1] at q; cases q) (nb d _ q)]; exact q
  · refine ⟨c, i, r, ?_⟩
    rw [off d (fun z => by rw [z, h1] at q; cases q) (nb d _ q)]; exact q
  · by_cases z : d = T
    · rw [z]; exact m.tab
    · obtain ⟨ws, g1, g2, g3⟩ := tb
      refine ⟨ws, by rw [off d z (nb d _ g1)]; exact g1, g2, fun pos cv hc => ?_⟩
      obtain ⟨c, e1, e2⟩ := g3 pos cv hc
      refine ⟨c, e1, ?_⟩
      rw [off c (fun z => codeO_ne ps (by rw [z, h1] at e2; exact (Option.some.inj e2).symm)) (nb c _ e2)]
      exact e2
  · by_cases z : b = T
    · rw [z, atT]; exact fun z => nomatch z
    · by_cases z2 : b = c0
      · exact absurd (by rw [z2]; exact h2) hb
      · rw [off b z z2]; exact hb
  · by_cases z : d = T
    · rw [z, atT] at q; cases q
    · by_cases z2 : d = c0
      · rw [z2, at0] at q
        unfold LamX.CodeO at q
        cases q
      · rw [off d z z2] at q
        exact bd.2 d hd c i r q
section
variable {X : Cx} {pins : List (Addr × Obj)} {σ : L2.St} {H : Hp} {s : Shared}
theorem lam_make3 {cd T : Addr} {params : Arguments} {body : Expr} {scope : Scope} {pos : Pos} {E Q : Value → Shared → Prop} (I : Inv X pins σ H s) (B : LamX.TabB X.base X.mg cd T) (ec : X.env.code = .ref cd) (tb : LamX.TabS H T (X.env.qual ++ "<lambda>")) (nod : defaultsOf params X.env = ([], []))
    (fr : ∀ y ∈ scope.names, y.2 = .free → ∃ c, X.env.cells.lookup y.1 = some c)
    (h : ∀ (f c1 : Addr) (pm ctv : Value) (H1 : Hp) (s1 : Shared), Inv X pins σ H1 s1 → LamMade H H1 T c1 (X.env.qual ++ "<lambda>") →
      s1.heap.get? f = some (PySem.W.kla_obj "<lambda>" (X.env.qual ++ "<lambda>") params body scope (cloFrom X.env.cells scope.names []) pm c1 ctv) → H1 f = none → f ∉ frs X.stack → Q (.ref f) s1) :
    wpAny (model X.prog X.w) X.A (eval (.Lambda params body scope pos) X.env) Q E s := by
  obtain ⟨ps, hT, trip, among⟩ := id tb
  have bT : s.heap.BuiltinsAt X.mg T := B.bm.keeps I.bk
  have oT : s.heap.get? T = some { cls := .none, data := .fields ps } := I.hok T _ hT
  have away : ∀ f, s.heap.objs.size ≤ f → f ∉ frs X.stack := fun f hf m => by
    rcases List.mem_cons.mp (I.stkSub _ m) with e | e
    · have := I.lt
      rw [← e] at this
      exact absurd this (Nat.not_lt.mpr hf)
    · exact I.nofs hf e
  refine PySem.W.kla_eval nod ?_
  cases found : codeAmong pos ps.toList with
  | some cv =>
    obtain ⟨c1, e, hco⟩ := among pos cv found
    subst e
    refine PySem.W.kla_makeFunctionHit (c := cd) (P := T) (mg := X.mg) (ps := ps) (closure_ok fr) I.ok.glob (I.mod.glob.keeps I.bk) ec (B.code.keeps I.bk) oT trip found bT fun ctv h1 tk up big => ?_
    exact h h1.objs.size c1 _ ctv H _ (I.kept fun b o e => Heap.get?_push_of_some _ (up b o e)) ⟨.inl rfl, tb, hco⟩ (Heap.get?_push_size _ rfl) (I.hok.fresh big) (away _ big)
  | none =>
    refine PySem.W.kla_makeFunction (c := cd) (P := T) (mg := X.mg) (ps := ps) (closure_ok fr) I.ok.glob (I.mod.glob.keeps I.bk) ec (B.code.keeps I.bk) oT trip found B.gP bT fun c1 ctv h1 tk up big lt rec laid => ?_
    obtain ⟨c2, oc, us, t, e2, hoc, hd, hv⟩ := rec
    cases e2
    have big1 : s.heap.objs.size ≤ h1.objs.size := Nat.le_of_lt (Nat.lt_of_le_of_lt big lt)
    have nc : H c1 = none := I.hok.fresh big
    have nTc : T ≠ c1 := ne_of_none hT nc
    have el : (ps ++ #[rawInt pos.line, rawInt pos.col, .ref c1]).toList = ps.toList ++ [rawInt pos.line, rawInt pos.col, .ref c1] := by simp
    have J := LamX.inv_table (t' := tk) (q := X.env.qual ++ "<lambda>") (more := #[rawInt pos.line, rawInt pos.col, .ref c1]) (h' := h1.push (PySem.W.kla_obj "<lambda>" (X.env.qual ++ "<lambda>") params body scope (cloFrom X.env.cells scope.names []) ((X.mg "__name__").getD .none) c1 ctv)) I hT
      (fun b o nb e => Heap.get?_push_of_some _ (up b o nb e)) (Heap.get?_push_of_some _ laid) big ⟨oc, us, t, Heap.get?_push_of_some _ hoc, hd, hv⟩
    refine h h1.objs.size c1 _ ctv _ _ J ⟨.inr ⟨ps, _, c1, hT, nc, rfl⟩, ⟨_, by rw [upd_ne nTc, upd_same], by rw [el]; exact PySem.TriplesOk_snoc _ _ _ _ trip, fun p cv hcv => ?_⟩, upd_same⟩ (Heap.get?_push_size _ rfl) ?_ (away _ big1)
    · rw [el] at hcv
      rcases LamX.among_app _ trip hcv with z | z
      · obtain ⟨c0, e1, e3⟩ := among p cv z
        have n1 : c0 ≠ c1 := ne_of_none e3 nc
        have n2 : c0 ≠ T := fun y => by rw [y, hT] at e3; exact codeO_ne ps (Option.some.inj e3).symm
        exact ⟨c0, e1, by rw [upd_ne n1, upd_ne n2]; exact e3⟩
      · exact ⟨c1, z, upd_same⟩
    · rw [upd_ne (Nat.ne_of_gt lt), upd_ne (Nat.ne_of_gt (Nat.lt_of_lt_of_le (Heap.lt_size oT) big1))]
      exact I.hok.fresh big1
end
/-! ### the caller's frame, while others run -/
theorem EnvOk.wide {K : PySem.W.Frag} {xw : Xw} {H0 H H' : Hp} {B Z Z' : Addr → Prop} {pn : List Addr} {fr : Fx} {t t' : Nat} {σ : L2.St} {ρ : En} (ok : EnvOk K xw H0 B pn fr Z t σ ρ H) (s : HStep t' pn H H') (z1 : ∀ b, Z b → Z' b) (z2 : ∀ b, Z' b → Z b ∨ H b = none) (z3 : ∀ b, Z' b → H' b ≠ none) : EnvOk K xw H0 B pn fr Z' t' σ ρ H' := by
  have hz := ok.pnz
  have kp : ∀ {v d}, Dn K H Z v d → Dn K H' Z' v d := fun {v d} h => Dn.keep (keepZ s hz) z2 _ _ h
  refine ⟨ok.xo, ok.step.trans s, z3, fun b h => z1 b (ok.bz b h), fun b h => (z2 b h).elim (ok.zb b) (fun e => .inr (ok.step.free e)), ok.kn, ok.bt, fun b hb => ⟨z1 b (hz b hb), (ok.pz b hb).2.move (s.pen b hb) (keepZ s hz) z2⟩, ok.len, fun i sl e => ?_, ok.inj, fun p hp => kp (ok.fr p hp), fun i C fs e => ⟨(ok.ob i C fs e).1, (ok.ob i C fs e).2.keep (keepZ s hz) z2 (fun b o h1 h2 _ h4 => ⟨z1 b h1, h2, s.keep b o h2 h4⟩) fun b _ z => z⟩⟩
  have h := ok.sl i sl e
  cases sl with
  | emp => trivial
  | val d => obtain ⟨v, e1, h1⟩ := h; exact ⟨v, e1, kp h1⟩
  | own d =>
    obtain ⟨b, e1, h1, h2, h3, h4⟩ := h
    exact ⟨b, e1, z1 b h1, h2, h3, h4.keep (keepZ s hz) z2 fun o q => s.keep b o h3 q⟩
  | pen => obtain ⟨b, e1, h1, h2⟩ := h; exact ⟨b, e1, h1, (s.pen b h1).is h2⟩
  | scr n => obtain ⟨b, ns, e1, h1, h2⟩ := h; exact ⟨b, ns, e1, h1.keep (keepZ s hz) z2, h2⟩
  | gen g => obtain ⟨v, e1, h1⟩ := h; exact ⟨v, e1, g.keep _ _ _ _ _ _ (keepZ s hz) z2 h1⟩
  | obj _ _ => trivial
  | exc e => exact ExS.keep (keepZ s hz) z2 h
def Gm.lam (G : Gm) (scope : Scope) : Gm := { G with sc := scope, fn := fun _ => false, top := false, fns := [], mks := [], cls := [], exs := [], rel := [], nrel := [], lams := [], lfns := [], lamb := false, kfns := [], ext := fun _ _ _ _ _ _ => True }
/-- the value that a def was given -/
def gvF (f : Addr) : Gv := ⟨fun _ _ _ v => v = .ref f, fun _ _ _ _ _ _ _ _ h => h⟩
def acOf (CC : Cts) (f : Str) (ws : Wa) (ρ : En) : Ac := ⟨fun Qa Ea => ws.run XF0 ρ fun as b => b = false ∧ noPen as = true ∧ CC.C f as (fun d k => k.nb ∧ Qa d k) Ea,
  fun Q Q' E E' h h' q => ws.m _ _ _ (fun as b z => ⟨z.1, z.2.1, CC.mono _ _ _ _ _ _ (fun d k y => ⟨y.1, h _ _ y.2⟩) h' z.2.2⟩) q⟩
/-- g(lambda: f(..)) -/
def wLam (CC : Cts) (g : Str) (m : Nat) (f : Str) (ws : Wa) : Wx := ⟨fun _ ρ Q => CC.L g (acOf CC f ws ρ) fun d k => k.nb ∧ Q d k,
  fun _ _ ρ Q Q' _ h q => CC.monoL _ _ _ _ _ (fun _ _ z => z) (fun d k z => ⟨z.1, h _ _ z.2⟩) q, m, ws.esc, true,
  fun _ _ ρ Q q => CC.monoL _ _ _ _ _ (fun _ _ z => z) (fun d k z => ⟨z.1, z.1.ne, z.2⟩) q⟩
section
variable {X : Cx} {xw : Xw} {G : Gm} {j : Nat} {CC : Cts}
/-- the context of the lambda's body -/
theorem Cok.lamC (c : Cok X xw G j CC) {A : Around} {outer : List Env} {s : Shared} {H : Hp} {E : XK} {scope : Scope} {f c1 : Addr} {k : Nat} (hr : Room k (LamX.lamCx X A outer s H E scope f c1).A) (hg : A.guards = some []) : Cok (LamX.lamCx X A outer s H E scope f c1) xw.ne (G.lam scope) k CC :=
  ⟨c.N, c.nd, rfl, rfl, fun _ => rfl, hr, hg, c.mge, takes0, passes_of rfl, (fun z => nomatch z), c.blt, c.con, (fun _ _ z => nomatch z), (fun _ z => nomatch z), (fun _ _ _ z => nomatch z), (fun _ _ z => nomatch z), (fun _ _ _ z => nomatch z), (fun _ z => nomatch z), (fun _ _ _ z => nomatch z), (fun _ _ z => nomatch z), (fun z => nomatch z), (fun _ _ _ z => nomatch z), trivial⟩
end
end Y

/-! W13: g(lambda: f(..)). -/
namespace Y
open PySem PySem.Spec PyProof.Rows L2 M
section
variable {X : Cx} {pins : List (Addr × Obj)} {σ : L2.St} {H1 : Hp} {s1 : Shared} {xw : Xw} {H0 : Hp} {B Z : Addr → Prop} {pn : List Addr} {fr : Fx} {t : Nat} {ρ : En}
/-- the reading of the lambda's body, asked while the def runs that was given it -/
theorem lam_read {CC : Cts} {fn : Str} {mf ma : Nat} {ws : Wa} {xg : Xw} {σg : L2.St} {ρg : En} {Zg : Addr → Prop} {frg : Fx} {tbg : Nat} {HZ : Hp} {R : VK} {W : WX} (okc : EnvOk X.K xw H0 B pn fr Z t σ ρ H1) (okg : EnvOk X.K xg H1 Z pn frg Zg (ma + tbg) σg ρg HZ) (hmu : frg.mu = []) (hma : ws.c + mf ≤ ma)
    (h : (acOf CC fn ws ρ).run (fun d k => k.nb ∧ ∀ v H', HStep tbg pn HZ H' → RX X.K pn HZ H' Zg v d k → R v H') (fun e => ∀ cls d H', HStep tbg pn HZ H' → ExR X.K X.mg H' Zg e cls d → W cls d σg H')) :
    tAr X.K xw.ne ws.c (ws.run XF0) σ HZ fun vs H' => spC X.mg (CC.C fn) mf X.K vs H' R (WE W σg) := by
  have st : HStep (ma + tbg) pn H1 HZ := by
    have := okg.step
    rw [hmu] at this
    exact this.to
  have okw := okc.wide (Z' := fun b => Z b ∨ (H1 b = none ∧ HZ b ≠ none)) st (fun b z => .inl z) (fun b z => z.elim .inl fun z => .inr z.1) fun b z => z.elim (fun z => st.there b (okc.zt b z)) fun z => z.2
  refine ⟨H0, B, pn, fr, ρ, _, ma - ws.c + tbg, (okw.lt (by omega)).ne, ws.m _ _ _ (fun as b q vs H2 Z' s2 z1 z2 z3 z4 r => ?_) h⟩
  obtain ⟨rfl, np, q⟩ := q
  have zz := z3 rfl
  have zg : ∀ b, Zg b → Z' b := fun b z => zz b ((okg.zb b z).elim .inl fun e => .inr ⟨e, okg.zt b z⟩)
  have bd2 : Bd tbg pn H2 := s2.bd.less (by omega)
  have pt2 : ∀ a ∈ pn, H2 a ≠ none := fun a ha => s2.there a (okg.pnt a ha)
  have on : ∀ {H3 : Hp} {t0 : Nat}, HStep t0 [] H2 H3 → HStep tbg pn HZ H3 := fun {H3 t0} s3 => s2.trans (HStep.of_same bd2 pt2 fun b o e => s3.keep b o (fun z => nomatch z) e)
  refine ⟨as, [], Zg, tbg, (r.nopen np).keep (fun _ _ _ e => e) (fun b z => .inl (zg b z)) (fun a h => absurd h List.not_mem_nil), fun a z => s2.there a (okg.zt a z), fun a h => absurd h List.not_mem_nil, ⟨Nat.le_trans (by omega) okg.bd.1, fun a h => absurd h List.not_mem_nil⟩,
    CC.mono _ _ _ _ _ _ (fun d k y => ⟨y.1.ne, fun v H3 s3 rx => y.2.2 v H3 (on s3) ?_⟩) (fun e y => ⟨rfl, fun cls d H3 s3 xr => y cls d H3 (on s3) xr⟩) q⟩
  have rx := rx.of y.1
  refine RX.back (H0 := HZ) ?_ s2
  cases k with
  | shr => exact rx
  | own => exact rx
  | bor => exact y.1.elim
  | gen _ => exact y.1.elim
theorem act_ok {CC : Cts} {fn : Str} {mf ma k : Nat} {ws : Wa} {scope : Scope} {params : Arguments} {body : Expr} {f c1 : Addr} {pm ctv : Value} {Ng : List Str} {qg : Str} {sg : Scope} {g : Addr} {cdg : Value} {a : Str} (I : Inv X pins σ H1 s1) (L : LamX.LamS X.env.scope scope)
    (hf : s1.heap.get? f = some (PySem.W.kla_obj "<lambda>" (X.env.qual ++ "<lambda>") params body scope (cloFrom X.env.cells scope.names []) pm c1 ctv)) (hfn : H1 f = none) (hfr : f ∉ frs X.stack) (hco : H1 c1 = some (LamX.CodeO c1 (X.env.qual ++ "<lambda>")))
    (hbind : bindArgs (PySem.W.kla_fn "<lambda>" (X.env.qual ++ "<lambda>") params body scope (cloFrom X.env.cells scope.names []) pm (.ref c1) ctv) ⟨[], []⟩ = pure []) (okc : EnvOk X.K xw H0 B pn fr Z t σ ρ H1) (hgu : X.A.guards = some [])
    (hr : Room (k + 1) (X.A.deeper (envOfC qg sg s1.heap.objs.size g cdg)))
    (hbody : ∀ (A : Around) (outer : List Env) (s : Shared) (H : Hp) (E : XK), Room k (LamX.lamCx X A outer s H E scope f c1).A → A.guards = some [] → PE (LamX.lamCx X A outer s H E scope f c1) body (tCallS (spC X.mg (CC.C fn) mf X.K) (fun _ => E) (tAr X.K xw.ne ws.c (ws.run XF0))))
    (hma : ws.c + mf ≤ ma) (hN : Ng[0]? = some a) (hv : Vis sg a) (hd : (a == ("__debug__" : Str)) = false) (hcd : (a == ("__classdict__" : Str)) = false) :
    ActOk (cxOf CX0 X.prog X.w X.K X.mg X.base Ng qg sg g cdg X.A X.stack s1 H1 (fun _ _ _ => False)).nox ⟨X.mg, fun _ => False, fun _ _ _ => False, fun H' B' pn' mu => H' = H1 ∧ B' = Z ∧ pn' = pn ∧ mu = []⟩ (gvF f) a (acOf CC fn ws ρ) ma := by
  intro W pns xe tk p1 p2
  refine ⟨fun pinsZ sZ σZ HZ R IZ h => ?_⟩
  obtain ⟨Hg, Bg, png, frg, ρg, Zg, tbg, okg, slot, act⟩ := h
  obtain ⟨rfl, rfl, rfl, hmu⟩ := okg.kn
  obtain ⟨v, ev, hvf⟩ := okg.sl 0 _ slot
  have hvf : v = .ref f := hvf
  subst hvf
  have step : HStep (ma + tbg) png Hg HZ := by
    have := okg.step
    rw [hmu] at this
    exact this.to
  have npc : c1 ∉ png := fun z => by
    rcases (okc.pz c1 z).2 with ⟨_, _, _, _, _, _, e, _⟩ | ⟨ps, e, _⟩
    · rw [hco] at e
      unfold LamX.CodeO at e
      cases e
    · rw [hco] at e
      exact codeO_ne ps (Option.some.inj e)
  have hcz : HZ c1 = some (LamX.CodeO c1 (X.env.qual ++ "<lambda>")) := step.keep c1 _ npc hco
  refine wpAny_Call_Name_kw (thn ((pe_var (pos := p1) (i := 0) hN hv hd hcd).run pinsZ sZ σZ HZ (fun u H' => u = .ref f ∧ H' = HZ) IZ ⟨.ref f, ev, rfl, rfl⟩) fun u s2 hh => ?_)
  obtain ⟨u1, H2, I2, ru, e1, e2⟩ := hh
  subst e1 e2
  obtain rfl : u = Value.ref f := ru
  have there : s2.heap.get? f = some (PySem.W.kla_obj "<lambda>" (X.env.qual ++ "<lambda>") params body scope (cloFrom X.env.cells scope.names []) pm c1 ctv) := I2.base.keep f _ hf hfn hfr (fun z => nomatch (show f ∈ ([] : List Addr) from z))
  refine PySem.W.callWith_F0 ⟨_, _, _, _, there⟩ ?_
  have un : Un (frs X.stack) [] Hg H2 s1.heap s2.heap := I2.base
  obtain ⟨⟨oc, vs, tq, hoc, hdc, hvc⟩, _, _⟩ := I2.hok c1 _ hcz
  have run : codeAny (model X.prog X.w) (X.A.deeper (envOfC qg sg s1.heap.objs.size g cdg)) (.call (.ref f) ⟨[], []⟩) (CR (L2.CX X.prog X.w) (envOfC qg sg s1.heap.objs.size g cdg :: X.stack) X.prog X.w H2 s2 R (WE W σZ)) s2 := by
    refine PySem.W.kla_callFunE hr.depth there rfl L.co L.gen rfl ⟨c1, oc, vs, tq, rfl, hoc, hdc, hvc⟩ ?_
    rw [hbind]
    refine wpAny_pure (wpAny_newFunctionEnv (fun y hy => (L.own y hy).2) (fun y hy => absurd hy (by simp)) (fun h2 hns hsb => ⟨I2.nolimit.fresh _ hsb, ?_⟩) L.kind)
    show codeAny _ _ (.expr body (LamX.lamEnv X scope s2.heap.objs.size f c1)) _ _
    have J := LamX.lam_start2 (outer := envOfC qg sg s1.heap.objs.size g cdg :: X.stack) (E := WE W σZ) (f := f) (c' := c1) (tk := s2.toks + ([] : List (Str × Value)).length) I L I2.env0 hr.hd un hns fun b o e => hsb.extBut b o (Nat.ne_of_lt (Heap.lt_size e)) (Heap.get?_push_of_some _ e)
    refine PySem.W.kla_codeExpr (wpAny_mono ((hbody _ _ s2 H2 (WE W σZ) (hr.deeper _) hgu).run [] _ _ H2 R J (lam_read okc okg hmu hma act)) (fun u s' q => ?_) fun _ _ q => q)
    obtain ⟨w', H', J', rv, q⟩ := q
    exact ⟨w', H', J'.os, J'.bare, J'.base, J'.hok, rv, q⟩
  refine wpAny_call (codeAny_mono run fun r s' q => ?_)
  match r, q with
  | .error e, q => exact passAt tk σZ pinsZ H2 s2 e s' I2 q
  | .ok (.ret u), q => exact I2.after q
  | .ok .next, q => exact False.elim q
  | .ok .brk, q => exact False.elim q
  | .ok .cont, q => exact False.elim q
end
end Y

/-! W14: a def that calls what it gets; its call with a lambda. -/
namespace Y
open PySem PySem.Spec PyProof.Rows L2 M
section
variable {P : Program} {w : World} {K : PySem.W.Frag} {mg : Str → Option Value} {base : Heap} {k : Nat} {f : Addr} {fd : FuncData} {x : Str} {st : Stmt} {G : Gm} {CC : Cts} {a : Str} {body : Gv → Ac → Ws} {c : Lt} {mm ma : Nat}
theorem lamTk_ok (hT : ∃ (f : Addr) (fd : FuncData), mg x = some (.ref f) ∧ Fun K x x st f fd) (g : Glo P w K mg base G k CC) (hG : G.sc = defScope st) (hl : G.lamb = false) (hfn : G.fn = fun _ => true) (hS : scopeB G.N [a] (defScope st) = true)
    (hb : ∀ {X : Cx} {xw : Xw} {gv : Gv} {act : Ac}, Cok X xw G k CC → ActOk X xw gv a act ma → Pss X xw (defBody st) (body gv act)) (hm : ∀ gv act, (body gv act).c ≤ mm)
    (hw : ∀ (gv : Gv) (act : Ac) (Q : VQ), c act Q → wB (body gv act) G.N [.gen gv] Q) (hN : G.N[0]? = some a) (hd : (a == ("__debug__" : Str)) = false) (hcd : (a == ("__classdict__" : Str)) = false)
    (hbi : ∀ (us : List Value) (kV doc pm ct cdv : Value) (an : Option Addr), us.length = [a].length → bindArgs (PySem.W.fnOf x x (defArgs st) (defBody st) (defScope st) .none kV doc pm an cdv ct) ⟨us, []⟩ = pure ([a].zip us)) : LamTk P w K mg base k x c mm ma := by
  obtain ⟨f, fd, gm, F⟩ := hT
  have S := scope_ok hS
  have vis : Vis (defScope st) a := (S.par a (List.mem_singleton.mpr rfl)).elim .inl fun z => .inr (.inl z)
  refine ⟨f, fd, st, a, G.N, gm, F, F.binds fun _ _ _ _ _ _ us hl => hbi us _ _ _ _ _ _ hl, S, hN, vis, hd, hcd, fun cdv A outer s H Z pn tb gv act Qd Q v kn hr hg zt pz bd hk hv ha hq hQ => ?_⟩
  have cok : Cok (cxOf CX0 P w K mg base G.N x (defScope st) f cdv A outer s H (fun _ _ _ => False)).nox ⟨mg, fun _ => False, fun _ _ _ => False, kn⟩ G k CC :=
    ⟨rfl, S.nd, by rw [hG] <;> rfl, by rw [hfn] <;> rfl, fun _ => rfl, hr, hg, rfl, takes0, PassesOwn.never, fun _ => ⟨rfl, rfl, rfl⟩, g.blt, g.con, g.fns, g.mks, g.cls, g.exs, g.rel, g.nrel, g.lams, g.lfns, (fun z => (nomatch hl.symm.trans z)), g.kfns, g.ext⟩
  refine ⟨_, hb cok ha, H, Z, pn, Fx.nil, _, pn, _, Z, tb, ⟨fun _ z => z, fun _ z => .inl z⟩, env_start (.gen hv .nil) zt pz (bd.less (Nat.add_le_add_right (hm gv act) tb)) hk (fun e he => he.elim), hw gv act _ hq, ⟨fun σ' H' ⟨pn', ρ', Z', px, ok, q⟩ => ?_, fun _ _ ⟨_, _, _, _, _, q⟩ => q.elim, fun _ _ ⟨_, _, _, _, _, q⟩ => q.elim, fun v d k' H' s1 _ r q => hQ d k' v H' q s1.to r, rfl⟩⟩
  exact hQ .none .shr .non H' q (px.hs ok.step).to .non
end
section
variable {X : Cx} {xw : Xw} {G : Gm} {j : Nat} {CC : Cts} (c : Cok X xw G j CC) {pos p p1 p2 p3 p4 p5 p6 p7 lpos : Pos}
include c
theorem e_lam {g f : Str} {m ma mf : Nat} {a0 : Expr} {es : List Expr} {ws : Wa} {params : Arguments} {scope : Scope} (ha : ∀ {X' : Cx} {k : Nat}, Cok X' xw.ne (G.lam scope) k CC → Par X' xw.ne (a0 :: es) ws)
    (hg : G.lams.lookup g = some (m, ma) := by rfl) (hf : G.lfns.lookup f = some mf := by rfl) (hc : ws.c + mf ≤ ma := by decide +kernel) (gg : gnB G g = true := by decide +kernel) (gf : gnB (G.lam scope) f = true := by decide +kernel) (hl : LamX.lamSB G.sc scope = true := by decide +kernel) (hb : G.lamb = true := by rfl)
    (hdef : ∀ env, defaultsOf params env = ([], []) := by intros; rfl) (hbind : ∀ (q : Str) (body : Expr) (cl : List (Str × Addr)) (pm cv ctv : Value), bindArgs (PySem.W.kla_fn "<lambda>" q params body scope cl pm cv ctv) ⟨[], []⟩ = pure [] := by intros; rfl) :
    Pe X xw (.Call (.Name g p) [.Lambda params (.Call (.Name f p1) (a0 :: es) [] p2) scope lpos] [] pos) (wLam CC g m f ws) := by
  refine ⟨fun pins s σ H Q I h => ?_⟩
  obtain ⟨H0, B, pn, fr, ρ, Z, tb, ok, w⟩ := h
  obtain ⟨kg, hkj, lt⟩ := c.lams _ _ _ (PySem.mem_of_lookup hg)
  obtain ⟨fa, fd, st, a, N, gm, F, bnd, S, hN, hv, hd, hcd, body⟩ := lt.ex
  obtain ⟨kf, ps, hkf, cl⟩ := c.lfns _ _ (PySem.mem_of_lookup hf)
  obtain ⟨cd, T, ec, TB, eq, kT⟩ := c.lamb hb
  obtain ⟨hT, tb0⟩ := kT _ _ _ _ ok.kn
  have tb1 : LamX.TabS H T (LQ T) := (ok.step.pen T hT).tab tb0
  have gg := gn_ok c gg
  have L : LamX.LamS X.env.scope scope := by rw [c.sc]; exact LamX.lamS_by hl
  obtain ⟨oc, od, kV, doc, pm0, an, cdv, ct, osl, rfl, lk, hcode⟩ := F.ex
  refine wpAny_Call_Name_kw (ld_glob I gg.1 gm ?_ gg.2)
  refine PySem.W.callWith_K (h₀ := X.base) I.ok.mod.kin F.kp ?_ (by rfl) (by rfl)
  show wpAny _ _ (spliced ((false, eval (.Lambda params (.Call (.Name f p1) (a0 :: es) [] p2) scope lpos) X.env) :: backTo pos (starEach [] X.env))) _ _ s
  refine Calls.spliced_cons (lam_make3 I TB ec (by rw [← eq]; exact tb1) (hdef _) (L.has I.ok) fun f1 c1 pm ctv H1 s1 I1 made hfo hfn hfr => ?_)
  refine Calls.spliced_nil ⟨I1.kIn, ?_⟩
  rw [← eq] at made
  have s01 : HStep (m + tb) pn H H1 := made.hs hT ok.bd
  have ok1 := ok.to s01
  have e0 := I1.env0
  obtain ⟨k0, ek⟩ : ∃ k0, j = k0 + 2 := ⟨j - 2, by omega⟩
  have hroom : Room (k0 + 2) X.A := by rw [← ek]; exact c.room
  have run : codeAny (model X.prog X.w) X.A (.call (.ref fa) ⟨[.ref f1], []⟩) (CR CX0 X.stack X.prog X.w H1 s1 Q (fun _ _ _ => False)) s1 := by
    refine LamX.run_ofS (N := N) (ps := [a]) (us := [.ref f1]) (vs := [.ref f1]) lk hcode S hroom e0 (bnd s1 [.ref f1] I1.kIn rfl) (.cons rfl .nil) rfl fun hr1 => ?_
    have act := act_ok (CC := CC) (fn := f) (mf := mf) (ma := ma) (k := k0) (ws := ws) (Ng := N) (qg := g) (sg := defScope st) (g := fa) (cdg := cdv) (a := a) I1 L hfo hfn hfr (by rw [← eq]; exact made.code) (hbind _ _ _ _ _ _) ok1 c.quiet hr1 (fun A outer s' H' E hr2 hg2 => ?_) hc hN hv hd hcd
    · obtain ⟨t, ht, hq⟩ := body cdv X.A X.stack s1 H1 Z pn tb (gvF f1) (acOf CC f ws ρ) _ Q (.ref f1) _ (hr1.mono (by omega)) c.quiet ok1.zt ok1.pz ok1.bd ⟨rfl, rfl, rfl, rfl⟩ rfl act w fun d k v H' q s2 r => q.2 v H' ((s01.less (Nat.le_add_left _ _)).trans s2) ((r.of q.1).back s01)
      exact ⟨t, ht.nox, hq⟩
    · have c2 := c.lamC (scope := scope) (s := s') (H := H') (E := E) (outer := outer) hr2 hg2
      have par := ha c2
      have sa := par.st
      rw [List.all_cons, Bool.and_eq_true] at sa
      have gf := gn_ok c2 gf
      exact pe_clS (E := fun _ => E) cl hr2 hg2 (by omega) gf.1 (fun σ => passAt (W := fun cls d _ H => E cls d H) (takes_of rfl rfl rfl rfl) σ) par.ar gf.2 (star_cons (by simpa using sa.1)) (star_any sa.2)
  refine wpAny_call (codeAny_mono run fun r s2 q => ?_)
  match r, q with
  | .error e, q => exact False.elim q
  | .ok (.ret u), q => exact I1.after q
  | .ok .next, q => exact False.elim q
  | .ok .brk, q => exact False.elim q
  | .ok .cont, q => exact False.elim q
end
end Y

/-! W15: try: what was given is called; except C as e: kept = e. -/
namespace Y
open PySem PySem.Spec PyProof.Rows L2 M
/-- appended to a list at v -/
def nxA (v : Nat) : Nx := ⟨fun ρ d k P => k ≠ .bor ∧ gOl ρ[v]? fun ds => ds.length < sizeLine ∧ P.nx (ρ.set v (.own (.list (ds ++ [d])))), fun _ _ _ _ _ h q => ⟨q.1, gOl_mono (fun ds z => ⟨z.1, h.nx _ z.2⟩) q.2⟩⟩
def sTryA (is : List Nat) (nxt : Nx) (gv : Gv) (act : Ac) (ma : Nat) (rel : List (Str × Str × Bool)) (ys : List Str) (i k : Nat) : Ws :=
  ⟨fun ρ P => (dem ρ is)[0]? = some (.gen gv) ∧ act.run (fun d kd => kd.nb ∧ nxt.run (dem ρ is) d kd P) (gCat rel ys i k (dem ρ is) P),
    fun ρ P P' h q => ⟨q.1, act.mono _ _ _ _ (fun d kd y => ⟨y.1, nxt.mono _ _ _ _ _ h y.2⟩) (gCat_mono h) q.2⟩, ma⟩
/-- .. appended to the list at v -/
def sTryAA (is : List Nat) (v : Nat) (gv : Gv) (act : Ac) (ma : Nat) (rel : List (Str × Str × Bool)) (ys : List Str) (i k : Nat) : Ws :=
  ⟨fun ρ P => (∃ ds, (dem ρ is)[v]? = some (.own (.list ds))) ∧ (sTryA is (nxA v) gv act ma rel ys i k).run ρ P, fun ρ P P' h q => ⟨q.1, (sTryA is (nxA v) gv act ma rel ys i k).mono ρ P P' h q.2⟩, ma⟩
@[simp] theorem run_nxA {v : Nat} {ρ : En} {d : D} {kd : Kd} {P : Pq} : (nxA v).run ρ d kd P = (kd ≠ .bor ∧ gOl ρ[v]? fun ds => ds.length < sizeLine ∧ P.nx (ρ.set v (.own (.list (ds ++ [d]))))) := rfl
theorem run_stryA {is : List Nat} {nxt : Nx} {gv : Gv} {act : Ac} {ma : Nat} {rel : List (Str × Str × Bool)} {ys : List Str} {i k : Nat} {ρ : En} {P : Pq} : (sTryA is nxt gv act ma rel ys i k).run ρ P = ((dem ρ is)[0]? = some (.gen gv) ∧ act.run (fun d kd => kd.nb ∧ nxt.run (dem ρ is) d kd P) (gCat rel ys i k (dem ρ is) P)) := rfl
@[simp] theorem run_lam {CC : Cts} {g : Str} {m : Nat} {f : Str} {ws : Wa} {E : XQ} {ρ : En} {Q : VQ} : (wLam CC g m f ws).run E ρ Q = CC.L g (acOf CC f ws ρ) fun d k => k.nb ∧ Q d k := rfl
theorem run_acOf {CC : Cts} {f : Str} {ws : Wa} {ρ : En} {Q : VQ} {E : XQ} : (acOf CC f ws ρ).run Q E = ws.run XF0 ρ fun as b => b = false ∧ noPen as = true ∧ CC.C f as (fun d k => k.nb ∧ Q d k) E := rfl
/-- the reading of the call -/
def tAct (K : PySem.W.Frag) (mg : Str → Option Value) (xw : Xw) (gv : Gv) (act : Ac) (ma : Nat) (W : WX) : TE := fun σ H R => ∃ H0 B pn fr ρ Z tb, EnvOk K xw H0 B pn fr Z (ma + tb) σ ρ H ∧ ρ[0]? = some (.gen gv) ∧
    act.run (fun d k => k.nb ∧ ∀ v H', HStep tb pn H H' → RX K pn H H' Z v d k → R v H') (fun e => ∀ cls d H', HStep tb pn H H' → ExR K mg H' Z e cls d → W cls d σ H')
section
variable {X : Cx} {xw : Xw} {G : Gm} {j : Nat} {CC : Cts}
theorem act_in {is : List Nat} {nxt : Nx} {gv : Gv} {act : Ac} {ma : Nat} {rel : List (Str × Str × Bool)} {ys : List Str} {i k : Nat} {D : Ends} {σ : L2.St} {H : Hp} {R : VK} (hmg : xw.mg = X.mg)
    (h : tS X.K xw (sTryA is nxt gv act ma rel ys i k).c (sTryA is nxt gv act ma rel ys i k).run D σ H)
    (hR : ∀ H0 B pn0 fr P pn ρ Z tb tb' v d kd H', PnX pn0 pn H0 → EnvOk X.K xw H0 B pn fr Z tb' σ ρ H → HStep tb pn H H' → RX X.K pn H H' Z v d kd → kd.nb → nxt.run ρ d kd P → Fits X.K xw H0 B pn0 fr tb P D → R v H') :
    tAct X.K X.mg xw gv act ma (wKt (CTF X.mg rel ys) i (tKept i k) (fun cls d _ H => xw.W cls d H) D) σ H R := by
  obtain ⟨H0, B, pn0, fr, P, pn, ρ, Z, tb, px, ok, w, f'⟩ := h
  obtain ⟨Z', hz, ok'⟩ := dem_ok is ok
  have ok2 : EnvOk X.K xw H0 B pn fr Z' (ma + tb) σ (dem ρ is) H := ok'
  refine ⟨H0, B, pn, fr, dem ρ is, Z', tb, ok2, w.1, act.mono _ _ _ _ (fun d kd y => ⟨y.1, fun v H' s r => hR H0 B pn0 fr P pn _ Z' tb _ v d kd H' px ok2 s r y.1 y.2 f'⟩) (fun e q cls d H' s xr => ?_) w.2⟩
  have ok3 := ok2.to s
  unfold gCat at q
  split at q
  · rename_i hc
    refine ⟨true, ⟨e.cls, xr.1, hc⟩, fun _ a na => ?_, fun z => nomatch z⟩
    have il : i < σ.length := by rw [← ok3.len]; exact q.1
    refine ⟨.ref a, by rw [List.getElem?_set_self il], ?_⟩
    have sa := M.same_upd (o := exk a cls d) na
    have ok4 := ok3.to (ok3.ss sa)
    have sx : ExS X.K xw.mg (upd H' a (exk a cls d)) Z' e (some (some (.ref a))) := ⟨a, cls, d, rfl, fun z => ok3.zt a z na, upd_same, by rw [hmg]; exact xr.keep (fun b o _ y => sa b o y) fun b z => .inl z⟩
    have ok5 := ((ok4.put i (some (.ref a)) (.exc e) sx (fun _ z => nomatch z) fun _ _ z => nomatch z).put k (some (.ref a)) (.exc e) sx (fun _ z => nomatch z) fun _ _ z => nomatch z).emp i
    exact f'.nx _ _ ⟨pn, _, Z', px, ok5, q.2⟩
  · rename_i hc
    refine ⟨false, ⟨e.cls, xr.1, hc⟩, (fun z => nomatch z), fun _ => ?_⟩
    rw [f'.ex] at q
    obtain ⟨hp, hx⟩ := ok3.xo _ q
    subst hp
    refine hx cls d H' (ok3.step.less (Nat.zero_le _)) ?_
    rw [hmg]
    exact xr.keep (fun _ _ _ e => e) fun b z => .inl (ok3.bz b z)
  · exact q.elim
variable (c : Cok X xw G j CC) {pos p p2 p3 p4 p5 p6 p7 p8 : Pos} {gv : Gv} {act : Ac} {ma : Nat} {a : Str} (hact : ActOk X xw gv a act ma)
include c hact
/-- the frame of these rules -/
theorem z_tryA {n kp : Str} {b : Stmt} {t : Expr} {ys : List Str} {nxt : Nx} {tb : TE → TS} {wS : Ws} (is : List Nat) (i k : Nat) (ht : Tst X G.rel t ys) (hn : lcB G n i = true) (hk : tgB G kp k = true) (hcm : G.top = true) (hw : ∀ ρ P, wS.run ρ P → (sTryA is nxt gv act ma G.rel ys i k).run ρ P) (hc : wS.c = ma)
    (hb : ∀ (W : WX) (pn : List (Addr × Obj)) (xe : Value → Shared → Prop) (tc : TE), (∀ p1 p2, PE (X.tr pn xe) (.Call (.Name a p1) [] [] p2) tc) → PSs (X.tr pn xe) [b] (tb tc))
    (hr : ∀ (D : Ends) (σ : L2.St) (H : Hp) (tc : TE), (∀ R, (∀ H0 B pn0 fr P pn ρ Z tb tb' v d kd H', PnX pn0 pn H0 → EnvOk X.K xw H0 B pn fr Z tb' σ ρ H → HStep tb pn H H' → RX X.K pn H H' Z v d kd → kd.nb → nxt.run ρ d kd P → Fits X.K xw H0 B pn0 fr tb P D → R v H') → tc σ H R) → tS X.K xw wS.c wS.run D σ H → tb tc D σ H) :
    Ps X xw (.Try [b] [.ExceptHandler (some t) (some n) [.Assign [.Name kp p4] (.Name n p5) p6] p7] [] [] p8) wS := by
  obtain ⟨tp1, tp2, tp3⟩ := c.tp hcm
  have hn' := hn
  unfold lcB at hn'
  simp only [Bool.and_eq_true, decide_eq_true_eq] at hn'
  exact PS.weak (ps_kept (t := t) (i := i) (tb := fun W => tb (tAct X.K X.mg xw gv act ma W)) (Wo := fun cls d _ H => xw.W cls d H) (CT := CTF X.mg G.rel ys) tp1 tp2 (by rw [c.N]; exact c.nd) (slot_ok c hn'.1.1) (by show X.env.scope.names.lookup n = _; rw [c.sc]; exact hn'.1.2) c.tk ht
    (fun W pn xe tkW po => hb W pn xe _ fun p1 p2 => hact W pn xe tkW p1 p2) (fun a pn => kept_ok c hn hk a pn)) fun D σ H h => hr D σ H _ (fun R hR => act_in c.mge (by
      obtain ⟨H0, B, pn0, fr, P, pn, ρ, Z, tb, px, ok, w, f'⟩ := h
      exact ⟨H0, B, pn0, fr, P, pn, ρ, Z, tb, px, by rw [hc] at ok; exact ok, hw _ _ w, f'⟩) hR) h
theorem z_tryAE {n kp : Str} {t : Expr} {ys : List Str} (is : List Nat) (i k : Nat) (ht : Tst X G.rel t ys) (hn : lcB G n i = true := by decide +kernel) (hk : tgB G kp k = true := by decide +kernel) (hcm : G.top = true := by rfl) :
    Ps X xw (.Try [.Expr (.Call (.Name a p) [] [] p2) p3] [.ExceptHandler (some t) (some n) [.Assign [.Name kp p4] (.Name n p5) p6] p7] [] [] p8) (sTryA is nxE gv act ma G.rel ys i k) :=
  z_tryA c hact (tb := fun tc => tSeq (tDrop tc) tNext) is i k ht hn hk hcm (fun _ _ z => z) rfl (fun W pn xe tc h => pss_cons (ps_expr (h _ _)) pss_nil) fun D σ H tc hc h => hc _ fun H0 B pn0 fr P pn ρ Z tb tb' v d kd H' px ok s r nb q f' => f'.nx _ _ ⟨pn, ρ, Z, px, ok.to s, q⟩
theorem z_tryAS {n kp x : Str} {t : Expr} {ys : List Str} {px : Pos} (is : List Nat) (i k : Nat) (ht : Tst X G.rel t ys) (v : Nat) (hn : lcB G n i = true := by decide +kernel) (hk : tgB G kp k = true := by decide +kernel) (hcm : G.top = true := by rfl) (hv : tgB G x v = true := by decide +kernel) :
    Ps X xw (.Try [.Assign [.Name x px] (.Call (.Name a p) [] [] p2) p3] [.ExceptHandler (some t) (some n) [.Assign [.Name kp p4] (.Name n p5) p6] p7] [] [] p8) (sTryA is (nxS v) gv act ma G.rel ys i k) := by
  have hv' := tg_okB c hv
  refine z_tryA c hact (tb := fun tc => tSeq (tAsg tc (gName v)) tNext) is i k ht hn hk hcm (fun _ _ z => z) rfl (fun W pn xe tc h => pss_cons (ps_set (by show X.N.Nodup; rw [c.N]; exact c.nd) hv'.1 hv'.2.1 (h _ _) (swaps_ok rfl) hv'.2.2) pss_nil) fun D σ H tc hc h => hc _ fun H0 B pn0 fr P pn ρ Z tb tb' u d kd H' px ok s r nb q f' => ?_
  obtain ⟨Z', ok'⟩ := ok.sto v s r q.1
  exact f'.nx _ _ ⟨pn, _, Z', px, ok', q.2⟩
theorem z_tryAR {n kp : Str} {t : Expr} {ys : List Str} (is : List Nat) (i k : Nat) (ht : Tst X G.rel t ys) (hn : lcB G n i = true := by decide +kernel) (hk : tgB G kp k = true := by decide +kernel) (hcm : G.top = true := by rfl) :
    Ps X xw (.Try [.Return (some (.Call (.Name a p) [] [] p2)) p3] [.ExceptHandler (some t) (some n) [.Assign [.Name kp p4] (.Name n p5) p6] p7] [] [] p8) (sTryA is nxR gv act ma G.rel ys i k) := by
  refine z_tryA c hact (tb := fun tc => tSeq (tRet tc) tNext) is i k ht hn hk hcm (fun _ _ z => z) rfl (fun W pn xe tc h => pss_cons (ps_ret (h _ _)) pss_nil) fun D σ H tc hc h => hc _ fun H0 B pn0 fr P pn ρ Z tb tb' v d kd H' px ok s r nb q f' => ?_
  refine f'.rt v d kd H' (px.hs (ok.step.trans s)) q.1 (RXg.to ?_) q.2
  have r' := r.backS ok.step
  cases kd with
  | shr => exact Dn.weak r' ok.bz
  | own =>
    obtain ⟨a, e, n, o⟩ := r'
    exact ⟨a, e, n, o.keep (fun _ _ _ e => e) (fun c z => z.elim (fun z => .inl (.inl (ok.bz c z))) fun z => .inl (.inr z)) fun _ e => e⟩
  | bor => exact absurd rfl q.1
  | gen _ => exact r'.elim
theorem z_tryAA {n kp x : Str} {t : Expr} {ys : List Str} {px pa : Pos} (is : List Nat) (i k : Nat) (ht : Tst X G.rel t ys) (v : Nat) (hn : lcB G n i = true := by decide +kernel) (hk : tgB G kp k = true := by decide +kernel) (hcm : G.top = true := by rfl) (hv : nmB G x v = true := by decide +kernel) (hl : (pa.endLine == p3.line) = true := by rfl) :
    Ps X xw (.Try [.Expr (.Call (.Attribute (.Name x px) "append" pa) [.Call (.Name a p) [] [] p2] [] p3) pos] [.ExceptHandler (some t) (some n) [.Assign [.Name kp p4] (.Name n p5) p6] p7] [] [] p8) (sTryAA is v gv act ma G.rel ys i k) := by
  have hv' := nm_ok c hv
  refine z_tryA c hact (nxt := nxA v) (tb := fun tc => tSeq (tDrop (tBM X.K "list" rAppend (tVar v) (tCons tc tNil))) tNext) is i k ht hn hk hcm (fun ρ P z => z.2) rfl (fun W pn xe tc h => pss_cons (ps_expr (pe_bm (X := X.tr pn xe) (hs := rfl) (hfew := few1 rfl) (hline := hl) PySem.F.plainAttrs_list PySem.F.slot_list_append PySem.F.type_list_append mt_append (pe_var (X := X.tr pn xe) hv'.1 hv'.2.1 hv'.2.2.1 hv'.2.2.2) (pa_cons (h _ _) pa_nil rfl)) rfl) pss_nil) fun D σ H tc hc h => ?_
  obtain ⟨H0, B, pn0, fr, P, pn, ρ, Z, tb, px, ok, w, f⟩ := h
  obtain ⟨⟨ds, e0⟩, _⟩ := w
  obtain ⟨Z', hz, ok'⟩ := dem_ok is ok
  obtain ⟨a, e1, ha, h0, hp, ho⟩ := ok'.sl v _ e0
  rcases ho with ⟨xs, ds', ed, hx, hn⟩ | ⟨_, _, ed, _⟩ | ⟨_, _, ed, _⟩
  · refine ⟨.ref a, e1, Or.inl ⟨rfl, _, Or.inl (Or.inl hx)⟩, hc _ fun H0 B pn0 fr P pn ρ Z tb tb' u d kd H' px ok s r nb q f' => ?_⟩
    obtain ⟨q1, q2⟩ := q
    unfold gOl at q2
    split at q2
    · rename_i ds2 e2
      obtain ⟨a2, e3, ha2, h02, hp2, ho2⟩ := ok.sl v _ e2
      rw [e1] at e3
      cases e3
      rcases ho2 with ⟨xs2, ds3, ed2, hx2, hn2⟩ | ⟨_, _, ed2, _⟩ | ⟨_, _, ed2, _⟩
      · cases ed2
        have hx' := s.keep a _ hp2 hx2
        have hn' := DnL.keep (keepZ s ok.pnz) (fun b z => .inl z) _ _ hn2
        refine ⟨a, xs2, u, rfl, rfl, hx', by rw [hn'.length]; exact q2.1, ?_⟩
        refine f'.nx _ _ ⟨pn, _, Z, px, (ok.to s).chg e2 e1 ha2 h02 hp2 (.inl ⟨_, _, rfl, upd_same, ?_⟩), q2.2⟩
        refine DnL.keep (fun b u n e => ?_) (fun b z => .inl z) _ _ (hn'.append (.cons (r.dn q1 ok.zt) .nil))
        rw [upd_ne (fun z => n (by rw [z]; exact ha2))]
        exact e
      · cases ed2
      · cases ed2
    · exact q2.elim
  · cases ed
  · cases ed
end
end Y

/-! W16: the law's own call where lambdas are made: tables of code objects that grow. -/
namespace M
open PySem PySem.Spec PyProof.Rows L2
section
variable {P : Program} {w : World} {K : PySem.W.Frag} {mg mb : Str → Option Value} {k : Nat} {fa a : Addr} {fd : FuncData} {x : Str} {sp : Sp} {s₁ : Shared} {vs : List Value} {ns : List Int} {cs : List (Addr × Addr)}
/-- the script may be tracked, the tables are -/
structure OnlyT (cs : List (Addr × Addr)) (H : Hp) : Prop where
  any : ∀ b, H b = none ∨ (∃ p ∈ cs, p.2 = b) ∨ ∃ o xs, H b = some (.frz o (.lst xs))
  tab : ∀ p ∈ cs, H p.2 = some (.tbl #[])
theorem law_fromT (KX : K.In s₁.heap) (glob : s₁.heap.Ns mainGlobals mg) (blt : s₁.heap.Ns builtinsNs mb) (ask : ∀ y : Str, y ≠ "__name__" → mb y = bootBuiltins y) (free : s₁.heap.NoLimit) (none_runs : s₁.gens = #[])
    (script : s₁.heap.get? a = some { cls := .type "list", data := .seq vs.toArray }) (hr : Room k callerA) (tabs : ∀ p ∈ cs, s₁.heap.get? p.2 = some { cls := .none, data := .fields #[] }) (offK : ∀ p ∈ cs, K.lookup p.2 = none) (heads : ∀ p ∈ cs, PySem.W.CodeHd s₁.heap p.1 p.2)
    (hbm : ∃ (bm : Addr) (ob : Obj), mg "__builtins__" = some (.ref bm) ∧ bm ≠ builtinsNs ∧ s₁.heap.get? bm = some ob ∧ ob.cls = .type "module" ∧ ob.dict = some builtinsNs ∧ ob.data = .plain)
    (F : ∀ base : Heap, K.In base → base.Ns mainGlobals mg → (∀ p ∈ cs, LamX.TabB base mg p.1 p.2) → FnG P w K mg base CX0 k fa fd [x] sp) (bind : ∀ (s : Shared) (u : Value), BindsTo s fd ⟨[u], []⟩ [(x, u)])
    (H : Hp) (only : OnlyT cs H) (ok : HOk P w H s₁.heap) (one : ∀ b, H b ≠ none → b = a ∨ ∃ p ∈ cs, p.2 = b) (off : H a ≠ none → K.lookup a = none)
    (want : sp [.ref a] H (fun v _ => v = .bl true) fun _ _ _ => False) :
    codeAny (model P w) callerA (.call (.ref fa) ⟨[.ref a], []⟩) (fun r s' => r = .ok (.ret (.bool true)) ∧ OldK s₁.heap s'.heap ∧ s'.os = s₁.os ∧ AllBare s'.gens) s₁ := by
  have stays : ∀ {b : Addr} {o : Obj}, s₁.heap.get? b = some o → H b = none → (hidT s₁.heap H).get? b = some o := fun z n => hidT_get z n
  -- what is neither a list nor empty fields is not tracked
  have apart : ∀ {b : Addr} {o : Obj}, s₁.heap.get? b = some o → (∀ us n, o.data ≠ .seq us n) → o.data ≠ .fields #[] → H b = none := by
    intro b o z d1 d2
    cases q : H b with
    | none => rfl
    | some u =>
      rcases one b (by rw [q]; intro h; cases h) with z2 | ⟨p, hp, z2⟩
      · rw [z2, script] at z
        cases z
        exact absurd rfl (d1 _ _)
      · have t := tabs p hp
        rw [z2, z] at t
        cases t
        exact absurd rfl d2
  have names : ∀ {b : Addr} {m : Str → Option Value}, s₁.heap.Ns b m → (hidT s₁.heap H).Ns b m := by
    rintro b m ⟨o, es, n, z, d, rest⟩
    exact ⟨o, es, n, stays z (apart z (fun us n' y => by rw [d] at y; cases y) (fun y => by rw [d] at y; cases y)), d, rest⟩
  have kin : K.In (hidT s₁.heap H) := by
    intro b o z
    refine stays (KX b o z) ?_
    cases q : H b with
    | none => rfl
    | some u =>
      rcases one b (by rw [q]; intro h; cases h) with z2 | ⟨p, hp, z2⟩
      · subst z2
        have z3 := off (by rw [q]; intro h; cases h)
        rw [z3] at z
        cases z
      · have z3 := offK p hp
        rw [z2, z] at z3
        cases z3
  have md : Mod K mg (hidT s₁.heap H) := by
    obtain ⟨mc, f1, f2⟩ := free
    exact ⟨kin, names glob, ⟨mb, names blt, ask⟩, ⟨mc, names f1, f2⟩⟩
  have e0 : Env0 P w K mg (hidT s₁.heap H) callerA [] s₁ H := by
    refine ⟨rfl, md, fun b o z => of_hidT z, Nat.le_of_eq (hidT_size _ _), trivial, ?_, ok, .of_eq none_runs⟩
    intro b hb
    cases hb
  have tb : ∀ p ∈ cs, LamX.TabB (hidT s₁.heap H) mg p.1 p.2 := fun p hp => by
    have oT := tabs p hp
    obtain ⟨o, us, file, tf, flags, tg, inF, text, tt, e1, r1, r2, r3, rest⟩ := heads p hp
    refine ⟨⟨o, us, file, tf, flags, tg, inF, text, tt, stays e1 (apart e1 (fun us' n y => by rw [r2] at y; cases y) fun y => ?_), r1, r2, r3, rest⟩, ?_, fun y => ?_⟩
    · rw [r2] at y
      cases y
      simp at r3
    · obtain ⟨bm, ob, b1, b2, b3, b4, b5, b6⟩ := hbm
      refine ⟨bm, ob, b1, b2, fun y => ?_, fun y => ?_, stays b3 (apart b3 (fun us' n y => by rw [b6] at y; cases y) fun y => by rw [b6] at y; cases y), b4, b5, b6⟩
      · obtain ⟨o', es, n, z, d, _⟩ := glob
        rw [y, z] at b3
        cases b3
        rw [d] at b6
        cases b6
      · rw [y, oT] at b3
        cases b3
        cases b6
    · obtain ⟨o', es, n, z, d, _⟩ := glob
      rw [y, oT] at z
      cases z
      cases d
  refine codeAny_mono ((F _ kin (names glob) tb).run callerA [] s₁ H ⟨[.ref a], []⟩ [.ref a] [.ref a] _ _ hr rfl e0 (bind s₁ (.ref a)) (.cons rfl .nil) want) ?_
  intro res s' z
  match res, z with
  | .error e, z => exact False.elim z
  | .ok .next, z => exact False.elim z
  | .ok .brk, z => exact False.elim z
  | .ok .cont, z => exact False.elim z
  | .ok (.ret u), ⟨v, H', hos, bare, un, hok', rel, hv⟩ =>
    have hv : v = .bl true := hv
    subst hv
    have hu : u = Value.bool true := rel
    subst hu
    have same : ∀ b o, (¬ ∃ p ∈ cs, p.2 = b) → s₁.heap.get? b = some o → s'.heap.get? b = some o := by
      intro b o nb z
      rcases only.any b with n | t | ⟨ob, xs, t⟩
      · exact un.keep b o z n (fun h => nomatch h) (fun h => nomatch h)
      · exact absurd t nb
      · have g1 := (ok b _ t).1
        have g2 := (hok' b _ (un.frzs b ob _ t)).1
        rw [g1] at z
        cases z
        exact g2
    have grown : ∀ p ∈ cs, ∃ more : Array Value, s'.heap.get? p.2 = some { cls := .none, data := .fields more } := fun p hp => by
      obtain ⟨more, z⟩ := un.tbls p.2 #[] (only.tab p hp)
      exact ⟨_, hok' p.2 _ z⟩
    refine ⟨rfl, ⟨fun b o z => ?_, fun b o z => ?_⟩, hos, bare⟩
    · by_cases hb : ∃ p ∈ cs, p.2 = b
      · obtain ⟨p, hp, rfl⟩ := hb
        obtain ⟨more, hm⟩ := grown p hp
        have oT := tabs p hp
        rw [oT] at z
        cases z
        exact .inr (.inl ⟨((heads p hp).tab oT).isCodeTable, rfl, #[], more, rfl, by rw [Array.empty_append]; exact hm⟩)
      · exact .inl (same b o hb z)
    · by_cases hb : ∃ p ∈ cs, p.2 = b
      · obtain ⟨p, hp, rfl⟩ := hb
        obtain ⟨more, hm⟩ := grown p hp
        exact ⟨_, hm⟩
      · exact ⟨o, same b o hb z⟩
theorem law_callT (KX : K.In s₁.heap) (glob : s₁.heap.Ns mainGlobals mg) (blt : s₁.heap.Ns builtinsNs mb) (ask : ∀ y : Str, y ≠ "__name__" → mb y = bootBuiltins y) (free : s₁.heap.NoLimit) (none_runs : s₁.gens = #[])
    (script : s₁.heap.get? a = some { cls := .type "list", data := .seq vs.toArray }) (nums : IntsAre vs ns) (few : ns.length ≤ sizeLine) (hr : Room k callerA) (tabs : ∀ p ∈ cs, s₁.heap.get? p.2 = some { cls := .none, data := .fields #[] }) (offK : ∀ p ∈ cs, K.lookup p.2 = none) (heads : ∀ p ∈ cs, PySem.W.CodeHd s₁.heap p.1 p.2)
    (hbm : ∃ (bm : Addr) (ob : Obj), mg "__builtins__" = some (.ref bm) ∧ bm ≠ builtinsNs ∧ s₁.heap.get? bm = some ob ∧ ob.cls = .type "module" ∧ ob.dict = some builtinsNs ∧ ob.data = .plain)
    (F : ∀ base : Heap, K.In base → base.Ns mainGlobals mg → (∀ p ∈ cs, LamX.TabB base mg p.1 p.2) → FnG P w K mg base CX0 k fa fd [x] sp) (bind : ∀ (s : Shared) (u : Value), BindsTo s fd ⟨[u], []⟩ [(x, u)])
    (want : ∀ H : Hp, OnlyT cs H → SqL K H a (ns.map V.int) → sp [.ref a] H (fun v _ => v = .bl true) fun _ _ _ => False) :
    codeAny (model P w) callerA (.call (.ref fa) ⟨[.ref a], []⟩) (fun r s' => r = .ok (.ret (.bool true)) ∧ OldK s₁.heap s'.heap ∧ s'.os = s₁.os ∧ AllBare s'.gens) s₁ := by
  have rel := vals_ints nums
  have long := nums.length
  have na : ¬ ∃ p ∈ cs, p.2 = a := fun ⟨p, hp, z⟩ => by
    have t := tabs p hp
    rw [z, script] at t
    cases t
  have tobj : ∀ {b : Addr}, (∃ p ∈ cs, p.2 = b) → s₁.heap.get? b = some { cls := .none, data := .fields #[] } := fun ⟨p, hp, z⟩ => by rw [← z]; exact tabs p hp
  classical
  -- the tables, over a first answer at the script
  let HT : Option HO → Hp := fun u b => if b = a then u else if ∃ p ∈ cs, p.2 = b then some (.tbl #[]) else none
  have ht : ∀ u b, b ≠ a → (∃ p ∈ cs, p.2 = b) → HT u b = some (.tbl #[]) := fun u b h1 h2 => (if_neg h1).trans (if_pos h2)
  have hn : ∀ u b, b ≠ a → (¬ ∃ p ∈ cs, p.2 = b) → HT u b = none := fun u b h1 h2 => (if_neg h1).trans (if_neg h2)
  have ha : ∀ u, HT u a = u := fun u => if_pos rfl
  have tab : ∀ u, ∀ p ∈ cs, HT u p.2 = some (.tbl #[]) := fun u p hp => ht u p.2 (fun z => na ⟨p, hp, z⟩) ⟨p, hp, rfl⟩
  have isok : ∀ (u : Option HO), (∀ o, u = some o → ObjOk P w (HT u) s₁.heap a o) → HOk P w (HT u) s₁.heap := by
    intro u hu b o z
    by_cases h1 : b = a
    · subst h1
      rw [ha] at z
      exact hu o z
    · by_cases h2 : ∃ p ∈ cs, p.2 = b
      · rw [ht u b h1 h2] at z
        cases z
        exact tobj h2
      · rw [hn u b h1 h2] at z
        cases z
  cases hk : K.lookup a with
  | some o =>
    have e := KX a o hk
    rw [script] at e
    cases e
    have on : OnlyT cs (HT none) := ⟨fun b => (by
      by_cases h1 : b = a
      · exact .inl (by rw [h1]; exact ha _)
      · by_cases h2 : ∃ p ∈ cs, p.2 = b
        · exact .inr (.inl h2)
        · exact .inl (hn _ b h1 h2)), tab _⟩
    refine law_fromT KX glob blt ask free none_runs script hr tabs offK heads hbm F bind _ on (isok none fun o z => nomatch z) (fun b z => ?_) (fun z => absurd (ha none) z) (want _ on (.inr ⟨_, vs.toArray, _, hk, rfl, rfl, rfl, by rw [List.size_toArray, long]; exact few, by simpa using rel⟩))
    by_cases h1 : b = a
    · exact .inl h1
    · by_cases h2 : ∃ p ∈ cs, p.2 = b
      · exact .inr h2
      · exact absurd (hn _ b h1 h2) z
  | none =>
    have on : OnlyT cs (HT (some (.frz { cls := .type "list", data := .seq vs.toArray } (.lst (ns.map V.int))))) := ⟨fun b => (by
      by_cases h1 : b = a
      · exact .inr (.inr ⟨_, _, by rw [h1]; exact ha _⟩)
      · by_cases h2 : ∃ p ∈ cs, p.2 = b
        · exact .inr (.inl h2)
        · exact .inl (hn _ b h1 h2)), tab _⟩
    refine law_fromT KX glob blt ask free none_runs script hr tabs offK heads hbm F bind _ on (isok _ fun o z => ?_) (fun b z => ?_) (fun _ => hk) (want _ on (.inl (.inr ⟨_, ha _⟩)))
    · cases z
      exact ⟨script, by rw [List.length_map]; exact few, vs, _, rel, script⟩
    · by_cases h1 : b = a
      · exact .inl h1
      · by_cases h2 : ∃ p ∈ cs, p.2 = b
        · exact .inr h2
        · exact absurd (hn _ b h1 h2) z
end
/-- the goal that k_head leaves, with tables -/
theorem walk_T {l : PySem.W.OpenLaw} {n k : Nat} {q : Program} {loose : List Str} {XP : (Str → Option Value) → Heap → Prop} {YP : World → Heap → Prop} {d : DefRec} {K : Params → PySem.W.Frag} {sp : List Addr → PySem.W.Frag → Sp} {x : Str}
    (hn : l.most = some n) (hn2 : n ≤ sizeLine) (hdf : d.params.defaults = []) (hr : Room k callerA) (hY : ∀ (w : World) (h : Heap), YP w h → (K w.params).In h)
    (F : ∀ (w : World) (mg : Str → Option Value) (fa : Addr) (h : Heap), YP w h → (K w.params).In h → h.Ns mainGlobals mg → mg d.name = some (.ref fa) →
      ∃ (fd : FuncData) (cs : List (Addr × Addr)), (∀ p ∈ cs, h.get? p.2 = some { cls := .none, data := .fields #[] }) ∧ (∀ p ∈ cs, (K w.params).lookup p.2 = none) ∧ (∀ p ∈ cs, PySem.W.CodeHd h p.1 p.2) ∧ (∀ (s : Shared) (u : Value), BindsTo s fd ⟨[u], []⟩ [(x, u)]) ∧
        ∀ base : Heap, (K w.params).In base → base.Ns mainGlobals mg → (∀ p ∈ cs, LamX.TabB base mg p.1 p.2) → FnG l.prog w (K w.params) mg base CX0 k fa fd [x] (sp (cs.map (·.2)) (K w.params)))
    (want : ∀ (K : PySem.W.Frag) (cs : List (Addr × Addr)) (H : Hp) (a : Addr) (ns : List Int), ns.length ≤ n → OnlyT cs H → SqL K H a (ns.map V.int) → sp (cs.map (·.2)) K [.ref a] H (fun v _ => v = .bl true) fun _ _ _ => False) :
    PySem.W.WalkO q loose XP YP l.row.toRowW d [] (fun f vs => PySem.call f vs) := by
  refine Att.attach_call hn hdf ?_
  intro w s₀ s₁ mg mb fa o pm cd doc a vs ns G Y ho hd hcd hmg hobj hints hlen hgens
  obtain ⟨fd, cs, h1, h2, h3, hb, hF⟩ := F w mg fa _ Y (hY w _ Y) G.T.g hmg
  exact law_callT (hY w _ Y) G.T.g G.T.b G.T.builtins G.T.nolimit hgens hobj hints (Nat.le_trans hlen hn2) hr h1 h2 h3 G.T.bmain hF hb fun H hO hS => want _ cs H a ns hlen hO hS
end M
namespace Y
open PySem PySem.Spec PyProof.Rows L2 M
/-- the law's promise where lambdas are made: the tables TL are among what changes -/
def spL (C : Ct) (m : Nat) (TL : List Addr) (K : PySem.W.Frag) : Sp := fun vs H Q _ => ∃ as pn Z tb, ArL K pn H Z vs as ∧ (∀ a, Z a → H a ≠ none) ∧ (∀ a ∈ pn, Z a ∧ PenX K H Z a) ∧ Bd (m + tb) pn H ∧ (∀ T ∈ TL, T ∈ pn ∧ TabA H T) ∧ C as (fun d k => k ≠ .bor ∧ ∀ v H', HStep tb pn H H' → RXg K pn H H' Z v d k → Q v H') XF
theorem law_wantT {m : Nat} (hm : m ≤ LIM) {K : PySem.W.Frag} {cs : List (Addr × Addr)} {H : Hp} {a : Addr} {ns : List Int} (hl : ns.length ≤ 63) (on : OnlyT cs H) (h : SqL K H a (ns.map V.int)) : spL cLaw m (cs.map (·.2)) K [.ref a] H (fun v _ => v = .bl true) fun _ _ _ => False := by
  have tab : ∀ T ∈ cs.map (·.2), H T = some (.tbl #[]) := fun T hT => by
    obtain ⟨p, hp, rfl⟩ := List.mem_map.mp hT
    exact on.tab p hp
  have ta : ∀ T ∈ cs.map (·.2), TabA H T := fun T hT => LamX.TabS.nil (tab T hT)
  refine ⟨[.scr ns.length], cs.map (·.2), fun b => b ∈ cs.map (·.2), 0, .scr ?_ .nil, fun b z => by rw [tab b z]; exact (fun z => nomatch z), fun b z => ⟨z, .inr (ta b z)⟩, ⟨hm, fun d hd c i r e => by rw [tab d hd] at e; cases e⟩, fun T hT => ⟨hT, ta T hT⟩, ns.length, rfl, hl, (fun z => nomatch z), fun v H' _ r => ?_⟩
  · rcases h with h | h
    · refine .inl ⟨fun z => ?_, h⟩
      rcases h with h | ⟨o, h⟩ <;> (rw [tab a z] at h; cases h)
    · exact .inr h
  · cases r
    rfl
section
variable {P : Program} {w : World} {K : PySem.W.Frag} {mg : Str → Option Value} {base : Heap} {k : Nat} {f : Addr} {fd : FuncData} {x qual : Str} {st : Stmt} {G : Gm} {CC : Cts} {ps : List Str} {body : Ws} {c : Ct} {mm : Nat} {TL : List Addr}
theorem law_okL (F : Fun K x qual st f fd) (g : Glo P w K mg base G k CC) (hG : G.sc = defScope st) (hl : ∃ cd T, fd.code = .ref cd ∧ LamX.TabB base mg cd T ∧ LQ T = (qual ++ ".<locals>.") ++ "<lambda>" ∧ T ∈ TL) (hfn : G.fn = fun _ => true) (hS : scopeB G.N ps (defScope st) = true) (hb : ∀ {X : Cx} {xw : Xw}, XwFree xw → Cok X xw G k CC → Pss X xw (defBody st) body) (hm : body.c ≤ mm)
    (hlen : ∀ as Q E, c as Q E → as.length = ps.length) (hw : ∀ as (Q : VQ), c as Q XF → wB body G.N as Q) : FnG P w K mg base CX0 (k + 1) f fd ps (spL c mm TL K) := by
  have S := scope_ok hS
  refine Fun.okGC0 F S (fun vs H Q E h => ?_) (fun cdv hcv A outer s H vs Q E hr hg h => ?_)
  · obtain ⟨as, pn, Z, tb, h1, _, _, _, _, h2⟩ := h
    rw [arl_len h1]
    exact hlen _ _ _ h2
  · obtain ⟨as, pn, Z, tb, h1, zt, pz, bd, tl, h2⟩ := h
    obtain ⟨cd, T, e1, TB, e2, hT⟩ := hl
    have cok : Cok (cxOf CX0 P w K mg base G.N qual (defScope st) f cdv A outer s H E).nox ⟨mg, fun _ => False, fun _ _ _ => False, fun H' _ pn' _ => ∀ T ∈ TL, T ∈ pn' ∧ TabA H' T⟩ G k CC :=
      ⟨rfl, S.nd, by rw [hG] <;> rfl, by rw [hfn] <;> rfl, fun _ => rfl, hr, hg, rfl, takes0, PassesOwn.never, fun _ => ⟨rfl, rfl, rfl⟩, g.blt, g.con, g.fns, g.mks, g.cls, g.exs, g.rel, g.nrel, g.lams, g.lfns, (fun _ => ⟨cd, T, by rw [← e1, hcv]; rfl, TB, e2, fun _ _ _ _ h => h T hT⟩), g.kfns, g.ext⟩
    have body_ok := hb ⟨fun _ z => z, fun _ _ _ _ _ z T hT => ⟨List.mem_cons_of_mem _ (z T hT).1, (z T hT).2⟩⟩ cok
    refine ⟨_, body_ok, H, Z, pn, Fx.nil, _, pn, _, Z, tb, ⟨fun _ z => z, fun _ z => .inl z⟩, env_start h1 zt pz (bd.less (Nat.add_le_add_right hm tb)) tl (fun e he => he.elim), hw as _ h2, ⟨fun σ' H' ⟨pn', ρ', Z', px, ok, q⟩ => ?_, fun _ _ ⟨_, _, _, _, _, q⟩ => q.elim, fun _ _ ⟨_, _, _, _, _, q⟩ => q.elim, fun v d k' H' s1 _ r q => q.2 v H' s1.to r, rfl⟩⟩
    exact q.2 .non H' (px.hs ok.step).to .non
end
end Y

/-! W17: {}; isinstance(kept, (A, B)). -/
namespace Y
open PySem PySem.Spec PyProof.Rows L2 M
def gExIT (rel : List (Str × Str × Bool)) (nrel : List Str) (ys : List Str) (s : Option Sl) (Q : VQ) : Prop := match s with
  | some (.exc e) => (match catF rel e.cls ys with | some b => Q (.bool b) .shr | none => False)
  | some (.val .none) => (∀ y ∈ ys, y ∈ nrel) ∧ Q (.bool false) .shr
  | _ => False
theorem gExIT_mono {rel : List (Str × Str × Bool)} {nrel : List Str} {ys : List Str} {s : Option Sl} {Q Q' : VQ} (h : ∀ d, Q d .shr → Q' d .shr) : gExIT rel nrel ys s Q → gExIT rel nrel ys s Q' := by
  unfold gExIT
  split
  · split
    · exact h _
    · exact id
  · exact fun q => ⟨q.1, h _ q.2⟩
  · exact id
def wExIT (rel : List (Str × Str × Bool)) (nrel : List Str) (i : Nat) (ys : List Str) : Wx := ⟨fun _ ρ Q => gExIT rel nrel ys ρ[i]? Q, fun _ _ ρ _ _ _ h q => gExIT_mono (fun d => h d _) q, 0, [], true, fun _ _ ρ _ q => gExIT_mono (fun _ z => ⟨nbS, z⟩) q⟩
@[simp] theorem run_exIT {rel : List (Str × Str × Bool)} {nrel ys : List Str} {i : Nat} {E : XQ} {ρ : En} {Q : VQ} : (wExIT rel nrel i ys).run E ρ Q = gExIT rel nrel ys ρ[i]? Q := rfl
@[simp] theorem gExIT_exc {rel : List (Str × Str × Bool)} {nrel ys : List Str} {e : Exc} {Q : VQ} : gExIT rel nrel ys (some (.exc e)) Q = (match catF rel e.cls ys with | some b => Q (.bool b) .shr | none => False) := rfl
@[simp] theorem gExIT_none {rel : List (Str × Str × Bool)} {nrel ys : List Str} {Q : VQ} : gExIT rel nrel ys (some (.val .none)) Q = ((∀ y ∈ ys, y ∈ nrel) ∧ Q (.bool false) .shr) := rfl
def rIsXT (K : PySem.W.Frag) (mg : Str → Option Value) : List V → Hp → VK → Prop := fun xs H Q => (∃ (a C tp : Addr) (d : Option Addr) (e : Exc) (Z : Addr → Prop) (cs : List V) (us : List Value) (b : Bool), xs = [.ref a, .ref tp] ∧ H a = some (exk a (.ref C) d) ∧ ExR K mg H Z e (.ref C) d ∧ L2.ExcC K C ∧ H tp = some (.tup cs) ∧ Paired ClsV cs us ∧ PySem.W.kitAny K (.ref C) us = some b ∧ Q (.bl b) H) ∨ rIsiT K xs H Q
theorem call_isXT {X : Cx} : CallR X (.builtin "isinstance") (rIsXT X.K X.mg) := by
  intro pins s σ H xs us Q I r h
  rcases h with ⟨a, C, tp, d, e, Z, cs, ws, b, rfl, ha, xr, ec, hT, k, ki, q⟩ | h
  · obtain ⟨u1, u2, rfl, r1, r2⟩ := vals2 r
    obtain rfl : u1 = Value.ref a := r1
    cases (show u2 = Value.ref tp from r2)
    obtain ⟨o, od, J, _⟩ := exk_at I ha xr
    obtain ⟨_, its, rv, o2, h1, h2, n, h3⟩ := (show ObjOk X.prog X.w H s.heap tp (.tup cs) from I.hok tp _ hT)
    have e3 := ClsV.all k rv
    subst e3
    obtain ⟨oc, od2, dt, sl⟩ := o2
    simp only at h2 h3
    subst h2 h3
    exact PySem.W.kia_tup (kitx_ex ec) I.kIn J h1 ki (fun z => nomatch z) fun tk => ⟨.bl b, H, I.tok tk, rfl, q⟩
  · exact call_isiT pins s σ H xs us Q I r h
/-- two classes asked at once -/
theorem kit_two {K : PySem.W.Frag} {t c1 c2 : Value} {b1 b2 : Bool} (h1 : PySem.W.kitOne K t c1 = some b1) (h2 : PySem.W.kitOne K t c2 = some b2) : PySem.W.kitAny K t [c1, c2] = some (b1 || b2) := by
  simp only [PySem.W.kitAny, h1, h2]
  cases b1 <;> cases b2 <;> rfl
theorem kit_three {K : PySem.W.Frag} {t c1 c2 c3 : Value} {b1 b2 b3 : Bool} (h1 : PySem.W.kitOne K t c1 = some b1) (h2 : PySem.W.kitOne K t c2 = some b2) (h3 : PySem.W.kitOne K t c3 = some b3) : PySem.W.kitAny K t [c1, c2, c3] = some (b1 || (b2 || b3)) := by
  simp only [PySem.W.kitAny, h1, h2, h3]
  cases b1 <;> cases b2 <;> cases b3 <;> rfl
section
variable {X : Cx} {xw : Xw} {G : Gm} {j : Nat} {CC : Cts} (c : Cok X xw G j CC) {pos p p2 p3 p4 p5 p6 : Pos}
include c
/-- a class by its name -/
theorem cls_nm {y : Str} (hy : gnB G y = true) (hr : G.rel.any (fun p => decide (p.2.1 = y)) = true) (pos : Pos) : ∃ cl cv, Nm X.mg y cv ∧ ClsV cl cv ∧ PE X (.Name y pos) (tC cl) ∧ ∀ cv', Nm X.mg y cv' → cv' = cv := by
  have gy := gn_ok3 c hy
  obtain ⟨⟨x0, y0, b0⟩, hm0, e0⟩ := List.any_eq_true.mp hr
  have e0 : y0 = y := of_decide_eq_true e0
  subst e0
  obtain ⟨C0, cv, _, hnm, _, _, _⟩ := c.rel _ _ _ hm0
  obtain ⟨cl, hcl, hpe⟩ := pe_nm (pos := pos) hnm gy.1 gy.2.1 gy.2.2
  refine ⟨cl, cv, hnm, hcl, hpe, fun cv' h' => ?_⟩
  rcases hnm with ⟨e1, _⟩ | ⟨e1, e2, _⟩ <;> rcases h' with ⟨e3, _⟩ | ⟨e3, e4, _⟩
  · rw [e1] at e3; exact (Option.some.inj e3).symm
  · rw [e1] at e3; cases e3
  · rw [e1] at e3; cases e3
  · rw [e2] at e4; exact (Option.some.inj e4).symm
theorem e_exIT2 {x y1 y2 : Str} {k} (i : Nat) (h : nmB G x i = true := by decide +kernel) (hb : btB G "isinstance" = true := by decide +kernel) (hy1 : gnB G y1 = true := by decide +kernel) (hy2 : gnB G y2 = true := by decide +kernel) (hr1 : G.rel.any (fun p => decide (p.2.1 = y1)) = true := by decide +kernel) (hr2 : G.rel.any (fun p => decide (p.2.1 = y2)) = true := by decide +kernel) :
    Pe X xw (.Call (.Name "isinstance" p) [.Name x p2, .Tuple [.Name y1 p3, .Name y2 p4] k p5] [] pos) (wExIT G.rel G.nrel i [y1, y2]) := by
  have h := nm_ok c h
  have hb := bt_ok c hb
  obtain ⟨cl1, cv1, hn1, hc1, pe1, un1⟩ := cls_nm c hy1 hr1 p3
  obtain ⟨cl2, cv2, hn2, hc2, pe2, un2⟩ := cls_nm c hy2 hr2 p4
  refine PE.weak (pe_callB call_isXT hb.1 hb.2.1 (by decide +kernel) (pa_cons (pe_var (pos := p2) h.1 h.2.1 h.2.2.1 h.2.2.2) (pa_cons (pe_tup (pa_cons pe1 (pa_cons pe2 pa_nil rfl) rfl)) pa_nil rfl) rfl)) fun σ H Q ⟨H0, B, pn, fr, ρ, Z, tb, ok, w⟩ => ?_
  change gExIT G.rel G.nrel [y1, y2] ρ[i]? (fun d k => ∀ v H', HStep tb pn H H' → RX X.K pn H H' Z v d k → Q v H') at w
  have pr : Paired ClsV [cl1, cl2] [cv1, cv2] := .cons hc1 (.cons hc2 .nil)
  unfold gExIT at w
  split at w
  · rename_i e he
    split at w
    · rename_i b hrel
      obtain ⟨b1, d1, r1, hd1, rfl⟩ := catF_cons hrel
      obtain ⟨b2, d2, r2, hd2, rfl⟩ := catF_cons hd1
      cases hd2
      obtain ⟨C, c1, hm, n1, ki1, _, ec⟩ := c.rel _ _ _ (relF_mem r1)
      obtain ⟨C', c2, hm', n2, ki2, _, _⟩ := c.rel _ _ _ (relF_mem r2)
      rw [hm] at hm'
      cases hm'
      have := un1 _ n1; subst this
      have := un2 _ n2; subst this
      obtain ⟨a, cls, d, ea, nz, ha, xr⟩ := ok.sl i _ he
      rw [c.mge] at xr
      have ecl : cls = .ref C := by
        have := xr.1
        rw [hm] at this
        exact (Option.some.inj this).symm
      subst ecl
      refine ⟨.ref a, ea, (by show 2 ≤ sizeLine; decide), fun t ht => ?_⟩
      have ss := M.same_upd (o := .tup [cl1, cl2]) ht
      refine .inl ⟨a, C, t, d, e, Z, [cl1, cl2], [c1, c2], _, rfl, ss _ _ ha, xr.keep (fun b o _ y => ss b o y) (fun b z => .inl z), ec, upd_same, pr, kit_two ki1 ki2, ?_⟩
      rw [Bool.or_false] at w
      exact w _ _ ((ok.ss ss).less (by show tb ≤ 0 + tb; omega)) (.bl _)
    · exact w.elim
  · rename_i he
    obtain ⟨w1, w2⟩ := w
    obtain ⟨c1, n1, ki1⟩ := c.nrel _ (w1 y1 (by simp))
    obtain ⟨c2, n2, ki2⟩ := c.nrel _ (w1 y2 (by simp))
    have := un1 _ n1; subst this
    have := un2 _ n2; subst this
    obtain ⟨v, ev, nv⟩ := ok.sl i _ he
    cases nv
    refine ⟨.non, ev, (by show 2 ≤ sizeLine; decide), fun t ht => .inr ⟨.non, t, [cl1, cl2], .type "NoneType", [c1, c2], false, rfl, upd_same, pr, .base .non, kit_two ki1 ki2, w2 _ _ ((ok.ss (M.same_upd ht)).less (by show tb ≤ 0 + tb; omega)) (.bl _)⟩⟩
  · exact w.elim
end
end Y

/-! W20: {i: j}. -/
namespace Y
open PySem PySem.Spec PyProof.Rows L2 M
def wDc1 (i j : Int) : Wx := ⟨fun _ _ Q => Q (.dict [(.int i, .int j)]) .own, fun _ _ _ _ _ _ h q => h _ _ q, 0, [], true, fun _ _ _ _ q => ⟨nbO, q⟩⟩
@[simp] theorem run_dc1 {i j : Int} {E : XQ} {ρ : En} {Q : VQ} : (wDc1 i j).run E ρ Q = Q (.dict [(.int i, .int j)]) .own := rfl
section
variable {X : Cx} {xw : Xw} {G : Gm} {j : Nat} {CC : Cts} (c : Cok X xw G j CC) {pos p p2 : Pos}
include c
theorem e_dc1 {a b : Int} {k k2} : Pe X xw (.Dict [some (.Constant (.int a) k p)] [.Constant (.int b) k2 p2] pos) (wDc1 a b) := by
  refine PE.weak (pe_disp (pps_cons pe_int pe_int pps_nil) rfl rfl (by simp) (show 1 ≤ 15 by decide)) fun σ H Q ⟨H0, B, pn, fr, ρ, Z, tb, ok, w⟩ => fun d hd => ?_
  refine ⟨upd_same, [(.inl a, .int b)], rfl, (show 1 ≤ 15 by decide), ?_⟩
  rw [upd_upd]
  exact w _ _ ((ok.ss (M.same_upd hd)).less (by show tb ≤ 0 + tb; omega)) ⟨d, rfl, hd, .inr (.inl ⟨[(.inl a, .int b)], _, rfl, upd_same, .cons (.int b) .nil⟩)⟩
end
end Y

/-! W37: a def is given to a def: g(f, e), and g calls it: a(b), b its second parameter. -/
namespace Y
open PySem PySem.Spec PyProof.Rows L2 M
abbrev Lt2 := (D → Ac) → D → VQ → Prop
def l2C (P : D → Prop) (R1 : D → D → Kd → Prop) (U1 : D → Exc → Prop) (R : D → D → Kd → Prop) : Lt2 := fun act x Q => P x ∧ (act x).run (R1 x) (U1 x) ∧ ∀ d k, R x d k → Q d k
theorem l2C_mono {P : D → Prop} {R1 : D → D → Kd → Prop} {U1 : D → Exc → Prop} {R : D → D → Kd → Prop} : ∀ (a a' : D → Ac) (d : D) (Q Q' : VQ), (∀ d R E, (a d).run R E → (a' d).run R E) → (∀ d k, Q d k → Q' d k) → l2C P R1 U1 R a d Q → l2C P R1 U1 R a' d Q' := fun _ _ _ _ _ ha hq ⟨h1, h2, h3⟩ => ⟨h1, ha _ _ _ h2, fun d k z => hq d k (h3 d k z)⟩
/-- the reading of the call a(b) -/
def tAct2 (K : PySem.W.Frag) (mg : Str → Option Value) (xw : Xw) (gv : Gv) (act : D → Ac) (ma : Nat) (W : WX) : TE := fun σ H R => ∃ H0 B pn fr ρ Z tb d, EnvOk K xw H0 B pn fr Z (ma + tb) σ ρ H ∧ ρ[0]? = some (.gen gv) ∧ ρ[1]? = some (.val d) ∧
    (act d).run (fun d k => k.nb ∧ ∀ v H', HStep tb pn H H' → RX K pn H H' Z v d k → R v H') (fun e => ∀ cls d H', HStep tb pn H H' → ExR K mg H' Z e cls d → W cls d σ H')
def ActOk2 (X : Cx) (xw : Xw) (gv : Gv) (a b : Str) (act : D → Ac) (ma : Nat) : Prop := ∀ (W : WX) (pns : List (Addr × Obj)) (xe : Value → Shared → Prop), Takes (X.tr pns xe) W → ∀ p1 p2 p3 : Pos, PE (X.tr pns xe) (.Call (.Name a p1) [.Name b p3] [] p2) (tAct2 X.K X.mg xw gv act ma W)
/-- a def of two parameters: it calls the first with the second -/
structure LamTk2 (P : Program) (w : World) (K : PySem.W.Frag) (mg : Str → Option Value) (base : Heap) (kg : Nat) (g : Str) (Lc : Lt2) (m ma : Nat) : Prop where
  ex : ∃ (fa : Addr) (fd : FuncData) (st : Stmt) (a b : Str) (N : List Str), mg g = some (.ref fa) ∧ Fun K g g st fa fd ∧ Binds K fd [a, b] [] ∧ FnScope N [a, b] (defScope st) ∧ (N[0]? = some a ∧ Vis (defScope st) a ∧ (a == ("__debug__" : Str)) = false ∧ (a == ("__classdict__" : Str)) = false) ∧ (N[1]? = some b ∧ Vis (defScope st) b ∧ (b == ("__debug__" : Str)) = false ∧ (b == ("__classdict__" : Str)) = false) ∧
    ∀ (cdv : Value) (A : Around) (outer : List Env) (s : Shared) (H : Hp) (Z : Addr → Prop) (pn : List Addr) (tb : Nat) (gv : Gv) (act : D → Ac) (d : D) (Qd : VQ) (Q : VK) (v u : V) (kn : Hp → (Addr → Prop) → List Addr → List Addr → Prop),
      Room kg (A.deeper (envOfC g (defScope st) s.heap.objs.size fa cdv)) → A.guards = some [] → (∀ a, Z a → H a ≠ none) → (∀ a ∈ pn, Z a ∧ PenX K H Z a) → Bd (m + tb) pn H → kn H Z pn [] → gv.P K H Z v → Dn K H Z u d →
      ActOk2 (cxOf CX0 P w K mg base N g (defScope st) fa cdv A outer s H (fun _ _ _ => False)).nox ⟨mg, fun _ => False, fun _ _ _ => False, kn⟩ gv a b act ma →
      Lc act d Qd → (∀ d k v H', Qd d k → HStep tb pn H H' → RXg K pn H H' Z v d k → Q v H') →
      ∃ t, PSs (cxOf CX0 P w K mg base N g (defScope st) fa cdv A outer s H (fun _ _ _ => False)).nox (defBody st) t ∧ t { nx := fun _ H' => Q .non H', rt := Q } (start N [v, u]) H
/-- the call of a def by the value of a name -/
theorem pe_locS {X : Cx} {CX : CXT} {k i j : Nat} {ps : List Str} {sp : Sp} {E : L2.St → XK} {a : Str} {p pos : Pos} {e : Expr} {es : List Expr} {t : TA} {f : Addr} {fd : FuncData} (F : FnG X.prog X.w X.K X.mg X.base CX k f fd ps sp) (kp : PySem.W.keepIn X.K (.ref f) = true) (b : Binds X.K fd ps []) (hr : Room j X.A) (hgd : X.A.guards = some []) (hk : k ≤ j) (hN : X.N[i]? = some a) (hv : Vis X.env.scope a)
    (hx : ∀ σ, PassesAt CX X σ (E σ)) (ha : PA X (e :: es) t) (hd : (a == ("__debug__" : Str)) = false) (hcd : (a == ("__classdict__" : Str)) = false) (he : starEach (e :: es) X.env = (false, eval e X.env) :: starEach es X.env) (hpl : (backTo pos (starEach es X.env)).any (·.1) = false) :
    PE X (.Call (.Name a p) (e :: es) [] pos) (fun σ H Q => σ[i]? = some (some (.ref f)) ∧ tCallS sp E t σ H Q) := by
  refine ⟨fun pins s σ H Q I h => ?_⟩
  obtain ⟨ev, want⟩ := h
  refine wpAny_Call_Name_kw (thn ((pe_var (pos := p) (i := i) hN hv hd hcd).run pins s σ H (fun u H' => u = .ref f ∧ H' = H) I ⟨.ref f, ev, rfl, rfl⟩) fun u s2 hh => ?_)
  obtain ⟨u1, H2, I2, ru, e1, e2⟩ := hh
  subst e1 e2
  obtain rfl : u = Value.ref f := ru
  refine PySem.W.callWith_K (h₀ := X.base) I2.ok.mod.kin kp (thn (ha.run pos pins s2 σ H2 _ I2 want) ?_) he hpl
  rintro us s1 ⟨vs, H1, I1, r, q⟩
  exact ⟨I1.kIn, goes_fnS F (hr.mono hk) hgd b (hx σ) I1 r q⟩
def acD (CC : Cts) (f : Str) (d : D) : Ac := ⟨fun Qa Ea => CC.C f [.v d] (fun d k => k.nb ∧ Qa d k) Ea, fun Q Q' E E' h h' q => CC.mono _ _ _ _ _ _ (fun d k y => ⟨y.1, h _ _ y.2⟩) h' q⟩
theorem run_acD {CC : Cts} {f : Str} {d : D} {Q : VQ} {E : XQ} : (acD CC f d).run Q E = CC.C f [.v d] (fun d k => k.nb ∧ Q d k) E := rfl
/-- the reading of a(b), asked while the def runs that was given f -/
theorem act_ok2 {X : Cx} {H1 : Hp} {s1 : Shared} {CC : Cts} {fn : Str} {mf ma kf j : Nat} {Ng ps : List Str} {qg : Str} {sg : Scope} {g : Addr} {cdg : Value} {a b : Str} {f : Addr} {fd : FuncData} {kn : Hp → (Addr → Prop) → List Addr → List Addr → Prop}
    (F : FnG X.prog X.w X.K X.mg X.base (L2.CX X.prog X.w) kf f fd ps (spC X.mg (CC.C fn) mf X.K)) (kp : PySem.W.keepIn X.K (.ref f) = true) (bi : Binds X.K fd ps []) (hgu : X.A.guards = some []) (hr : Room j (X.A.deeper (envOfC qg sg s1.heap.objs.size g cdg))) (hk : kf ≤ j) (hma : mf ≤ ma)
    (ha : Ng[0]? = some a ∧ Vis sg a ∧ (a == ("__debug__" : Str)) = false ∧ (a == ("__classdict__" : Str)) = false) (hb : Ng[1]? = some b ∧ Vis sg b ∧ (b == ("__debug__" : Str)) = false ∧ (b == ("__classdict__" : Str)) = false) :
    ActOk2 (cxOf CX0 X.prog X.w X.K X.mg X.base Ng qg sg g cdg X.A X.stack s1 H1 (fun _ _ _ => False)).nox ⟨X.mg, fun _ => False, fun _ _ _ => False, kn⟩ (gvF f) a b (acD CC fn) ma := by
  intro W pns xe tk p1 p2 p3
  have vb : PE ((cxOf CX0 X.prog X.w X.K X.mg X.base Ng qg sg g cdg X.A X.stack s1 H1 (fun _ _ _ => False)).nox.tr pns xe) (.Name b p3) (tVar 1) := pe_var hb.1 hb.2.1 hb.2.2.1 hb.2.2.2
  refine PE.weak (pe_locS (X := (cxOf CX0 X.prog X.w X.K X.mg X.base Ng qg sg g cdg X.A X.stack s1 H1 (fun _ _ _ => False)).nox.tr pns xe) (i := 0) (E := WE W) F kp bi hr hgu hk ha.1 ha.2.1 (fun σ => passAt tk σ) (pa_cons vb pa_nil rfl) ha.2.2.1 ha.2.2.2 rfl rfl) fun σ H R h => ?_
  obtain ⟨Hg, Bg, png, frg, ρg, Zg, tbg, d, okg, slot, sl1, act⟩ := h
  obtain ⟨v, ev, hvf⟩ := okg.sl 0 _ slot
  have hvf : v = .ref f := hvf
  subst hvf
  obtain ⟨u, eu, nu⟩ := okg.sl 1 _ sl1
  refine ⟨ev, u, eu, [.v d], [], Zg, tbg, .v nu .nil, okg.zt, fun a h => absurd h List.not_mem_nil, ⟨Nat.le_trans (by omega) okg.bd.1, fun a h => absurd h List.not_mem_nil⟩, ?_⟩
  have on : ∀ {H3 : Hp} {t0 : Nat}, HStep t0 [] H H3 → HStep tbg png H H3 := fun {H3 t0} s3 => HStep.of_same (okg.bd.less (by omega)) okg.pnt fun b o e => s3.keep b o (fun z => nomatch z) e
  refine CC.mono _ _ _ _ _ _ (fun d k y => ⟨y.1.ne, fun v H3 s3 rx => y.2.2 v H3 (on s3) ?_⟩) (fun e y => ⟨rfl, fun cls d H3 s3 xr => y cls d H3 (on s3) xr⟩) act
  have rx := rx.of y.1
  cases k with
  | shr => exact rx
  | own => exact rx
  | bor => exact y.1.elim
  | gen _ => exact y.1.elim
/-- g(f, e) -/
def wDgv (CC : Cts) (g : Lt2) (m : Nat) (hg : ∀ a a' d (Q Q' : VQ), (∀ d R E, (a d).run R E → (a' d).run R E) → (∀ d k, Q d k → Q' d k) → g a d Q → g a' d Q') (f : Str) (we : Wx) : Wx := ⟨fun E ρ Q => we.run E ρ fun d k => k ≠ .bor ∧ g (acD CC f) d fun r k => k.nb ∧ Q r k,
  fun E E' ρ Q Q' he h q => we.mono _ _ _ _ _ he (fun d k z => ⟨z.1, hg _ _ _ _ _ (fun _ _ _ z => z) (fun r k y => ⟨y.1, h _ _ y.2⟩) z.2⟩) q, we.c + m, we.esc, true,
  fun _ E ρ Q q => we.m _ _ _ (fun d k z => ⟨z.1, hg _ _ _ _ _ (fun _ _ _ z => z) (fun r k y => ⟨y.1, y.1.ne, y.2⟩) z.2⟩) q⟩
@[simp] theorem run_dgv {CC : Cts} {g : Lt2} {m : Nat} {hg} {f : Str} {we : Wx} {E : XQ} {ρ : En} {Q : VQ} : (wDgv CC g m hg f we).run E ρ Q = we.run E ρ fun d k => k ≠ .bor ∧ g (acD CC f) d fun r k => k.nb ∧ Q r k := rfl
/-- f too is a def that the context knows -/
theorem e_dgv {X : Cx} {xw : Xw} {G : Gm} {j : Nat} {CC : Cts} (c : Cok X xw G j CC) {pos p p1 : Pos} {g f : Str} {cg : Lt2} {m ma mf : Nat} {e : Expr} {we : Wx} {hmono} (he : Pe X xw e we) (hx : ∀ P w K mg base j, G.ext P w K mg base j → (∃ kg, kg + 1 ≤ j ∧ LamTk2 P w K mg base kg g cg m ma) ∧ ∃ kf ps, kf + 1 ≤ j ∧ Cl P w K mg base (L2.CX P w) kf f ps (spC mg (CC.C f) mf K))
    (hc : mf ≤ ma := by decide +kernel) (gg : gnB G g = true := by decide +kernel) (gf : gnB G f = true := by decide +kernel) (st : isStar e = false := by rfl) : Pe X xw (.Call (.Name g p) [.Name f p1, e] [] pos) (wDgv CC cg m hmono f we) := by
  refine ⟨fun pins s σ H Q I h => ?_⟩
  obtain ⟨H0, B, pn, fr, ρ, Z, tb, ok, w⟩ := h
  obtain ⟨⟨kg, hkj, lt⟩, kf, psf, hkf, cl⟩ := hx _ _ _ _ _ _ c.ext
  obtain ⟨fa, fd, sta, a, b, N, gm, F, bnd, S, ha, hb, body⟩ := lt.ex
  obtain ⟨ff, fdf, Ff, gmf, kpf, bf⟩ := cl.ex
  have gg := gn_ok c gg
  have gf := gn_ok c gf
  obtain ⟨oc, od, kV, doc, pm0, an, cdv, ct, osl, rfl, lk, hcode⟩ := F.ex
  have pf : PE X (.Name f p1) (tC (.ref ff)) := pe_globS gf.1 ⟨_, gmf, rfl⟩ gf.2
  refine wpAny_Call_Name_kw (ld_glob I gg.1 gm ?_ gg.2)
  refine PySem.W.callWith_K (h₀ := X.base) I.ok.mod.kin F.kp (thn ((pa_cons pf (pa_cons he pa_nil (star_cons st)) (star_cons rfl)).run pos pins s σ H (fun vs H1 => ∃ v d, vs = [.ref ff, v] ∧ EnvOk X.K xw H0 B pn fr Z (m + tb) σ ρ H1 ∧ HStep (m + tb) pn H H1 ∧ Dn X.K H1 Z v d ∧ cg (acD CC f) d fun r k => k.nb ∧ ∀ v H', HStep tb pn H H' → RX X.K pn H H' Z v r k → Q v H') I ?_) ?_) (star_cons rfl) (by rw [star_cons st]; rfl)
  · refine ⟨H0, B, pn, fr, ρ, Z, (m + tb), ok.lt (by show we.c + (m + tb) ≤ we.c + m + tb; omega), we.m _ _ _ (fun d k q v H1 s1 r1 => ⟨v, d, rfl, ok.to s1, s1, r1.dn q.1 ok.zt, q.2⟩) w⟩
  rintro us s1 ⟨vs, H1, I1, r, v, d, rfl, ok1, s01, nd, w⟩
  refine ⟨I1.kIn, ?_⟩
  have e0 := I1.env0
  have hroom : Room (j - 1 + 1) X.A := by
    have : j - 1 + 1 = j := by omega
    rw [this]
    exact c.room
  have run : codeAny (model X.prog X.w) X.A (.call (.ref fa) ⟨us, []⟩) (CR CX0 X.stack X.prog X.w H1 s1 Q (fun _ _ _ => False)) s1 := by
    obtain ⟨u1, u2, rfl, r1, r2⟩ := vals2 r
    refine LamX.run_ofS (N := N) (ps := [a, b]) (us := [u1, u2]) (vs := [.ref ff, v]) lk hcode S hroom e0 (bnd s1 [u1, u2] I1.kIn rfl) r rfl fun hr1 => ?_
    have act := act_ok2 (CC := CC) (fn := f) (mf := mf) (ma := ma) (Ng := N) (qg := g) (sg := defScope sta) (g := fa) (cdg := cdv) (a := a) (b := b) (H1 := H1) (s1 := s1) (kn := fun _ _ _ _ => True) Ff kpf bf c.quiet hr1 (by omega) hc ha hb
    obtain ⟨t, ht, hq⟩ := body cdv X.A X.stack s1 H1 Z pn tb (gvF ff) (acD CC f) d _ Q (.ref ff) v _ (hr1.mono (by omega)) c.quiet ok1.zt ok1.pz ok1.bd trivial rfl nd act w fun d k v H' q s2 r => q.2 v H' ((s01.less (Nat.le_add_left _ _)).trans s2) ((r.of q.1).back s01)
    exact ⟨t, ht.nox, hq⟩
  refine wpAny_call (codeAny_mono run fun r s2 q => ?_)
  match r, q with
  | .error e, q => exact False.elim q
  | .ok (.ret u), q => exact I1.after q
  | .ok .next, q => exact False.elim q
  | .ok .brk, q => exact False.elim q
  | .ok .cont, q => exact False.elim q
/-! ### the def that is given one -/
section
variable {P : Program} {w : World} {K : PySem.W.Frag} {mg : Str → Option Value} {base : Heap} {k : Nat} {f : Addr} {fd : FuncData} {x : Str} {st : Stmt} {G : Gm} {CC : Cts} {a b : Str} {body : Gv → (D → Ac) → Ws} {c : Lt2} {mm ma : Nat}
theorem lamTk2_ok (hT : ∃ (f : Addr) (fd : FuncData), mg x = some (.ref f) ∧ Fun K x x st f fd) (g : Glo P w K mg base G k CC) (hG : G.sc = defScope st) (hl : G.lamb = false) (hfn : G.fn = fun _ => true) (hS : scopeB G.N [a, b] (defScope st) = true)
    (hb : ∀ {X : Cx} {xw : Xw} {gv : Gv} {act : D → Ac}, Cok X xw G k CC → ActOk2 X xw gv a b act ma → Pss X xw (defBody st) (body gv act)) (hm : ∀ gv act, (body gv act).c ≤ mm)
    (hw : ∀ (gv : Gv) (act : D → Ac) (d : D) (Q : VQ), c act d Q → wB (body gv act) G.N [.gen gv, .v d] Q) (hN : G.N[0]? = some a) (hN1 : G.N[1]? = some b) (hd : (a == ("__debug__" : Str)) = false) (hcd : (a == ("__classdict__" : Str)) = false) (hd1 : (b == ("__debug__" : Str)) = false) (hcd1 : (b == ("__classdict__" : Str)) = false)
    (hbi : ∀ (us : List Value) (kV doc pm ct cdv : Value) (an : Option Addr), us.length = [a, b].length → bindArgs (PySem.W.fnOf x x (defArgs st) (defBody st) (defScope st) .none kV doc pm an cdv ct) ⟨us, []⟩ = pure ([a, b].zip us)) : LamTk2 P w K mg base k x c mm ma := by
  obtain ⟨f, fd, gm, F⟩ := hT
  have S := scope_ok hS
  have vis : ∀ y ∈ [a, b], Vis (defScope st) y := fun y hy => (S.par y hy).elim .inl fun z => .inr (.inl z)
  refine ⟨f, fd, st, a, b, G.N, gm, F, F.binds fun _ _ _ _ _ _ us hl => hbi us _ _ _ _ _ _ hl, S, ⟨hN, vis a (by simp), hd, hcd⟩, ⟨hN1, vis b (by simp), hd1, hcd1⟩, fun cdv A outer s H Z pn tb gv act d Qd Q v u kn hr hg zt pz bd hk hv hu ha hq hQ => ?_⟩
  have cok : Cok (cxOf CX0 P w K mg base G.N x (defScope st) f cdv A outer s H (fun _ _ _ => False)).nox ⟨mg, fun _ => False, fun _ _ _ => False, kn⟩ G k CC :=
    ⟨rfl, S.nd, by rw [hG] <;> rfl, by rw [hfn] <;> rfl, fun _ => rfl, hr, hg, rfl, takes0, PassesOwn.never, fun _ => ⟨rfl, rfl, rfl⟩, g.blt, g.con, g.fns, g.mks, g.cls, g.exs, g.rel, g.nrel, g.lams, g.lfns, (fun z => (nomatch hl.symm.trans z)), g.kfns, g.ext⟩
  refine ⟨_, hb cok ha, H, Z, pn, Fx.nil, _, pn, _, Z, tb, ⟨fun _ z => z, fun _ z => .inl z⟩, env_start (.gen hv (.v hu .nil)) zt pz (bd.less (Nat.add_le_add_right (hm gv act) tb)) hk (fun e he => he.elim), hw gv act d _ hq, ⟨fun σ' H' ⟨pn', ρ', Z', px, ok, q⟩ => ?_, fun _ _ ⟨_, _, _, _, _, q⟩ => q.elim, fun _ _ ⟨_, _, _, _, _, q⟩ => q.elim, fun v d k' H' s1 _ r q => hQ d k' v H' q s1.to r, rfl⟩⟩
  exact hQ .none .shr .non H' q (px.hs ok.step).to .non
end
/-! ### try: a(b) except C as e: kept = e -/
def gV (s : Option Sl) (A : D → Prop) : Prop := match s with | some (.val d) => A d | _ => False
theorem gV_mono {s : Option Sl} {A A' : D → Prop} (h : ∀ d, A d → A' d) : gV s A → gV s A' := by
  unfold gV
  split
  · exact h _
  · exact id
@[simp] theorem gV_v {d : D} {A : D → Prop} : gV (some (.val d)) A = A d := rfl
def sTryB (is : List Nat) (nxt : Nx) (gv : Gv) (act : D → Ac) (ma : Nat) (rel : List (Str × Str × Bool)) (ys : List Str) (i k : Nat) : Ws :=
  ⟨fun ρ P => gV (dem ρ is)[1]? fun d => (sTryA is nxt gv (act d) ma rel ys i k).run ρ P, fun ρ P P' h q => gV_mono (fun d z => (sTryA is nxt gv (act d) ma rel ys i k).mono ρ P P' h z) q, ma⟩
theorem run_stryB {is : List Nat} {nxt : Nx} {gv : Gv} {act : D → Ac} {ma : Nat} {rel : List (Str × Str × Bool)} {ys : List Str} {i k : Nat} {ρ : En} {P : Pq} : (sTryB is nxt gv act ma rel ys i k).run ρ P = gV (dem ρ is)[1]? fun d => (dem ρ is)[0]? = some (.gen gv) ∧ (act d).run (fun d kd => kd.nb ∧ nxt.run (dem ρ is) d kd P) (gCat rel ys i k (dem ρ is) P) := rfl
section
variable {X : Cx} {xw : Xw} {G : Gm} {j : Nat} {CC : Cts}
theorem act_in2 {is : List Nat} {nxt : Nx} {gv : Gv} {act : D → Ac} {ma : Nat} {rel : List (Str × Str × Bool)} {ys : List Str} {i k : Nat} {D : Ends} {σ : L2.St} {H : Hp} {R : VK} (hmg : xw.mg = X.mg)
    (h : tS X.K xw ma (sTryB is nxt gv act ma rel ys i k).run D σ H)
    (hR : ∀ H0 B pn0 fr P pn ρ Z tb tb' v d kd H', PnX pn0 pn H0 → EnvOk X.K xw H0 B pn fr Z tb' σ ρ H → HStep tb pn H H' → RX X.K pn H H' Z v d kd → kd.nb → nxt.run ρ d kd P → Fits X.K xw H0 B pn0 fr tb P D → R v H') :
    tAct2 X.K X.mg xw gv act ma (wKt (CTF X.mg rel ys) i (tKept i k) (fun cls d _ H => xw.W cls d H) D) σ H R := by
  obtain ⟨H0, B, pn0, fr, P, pn, ρ, Z, tb, px, ok, w, f'⟩ := h
  rw [run_stryB] at w
  obtain ⟨Z', hz, ok'⟩ := dem_ok is ok
  have ok2 : EnvOk X.K xw H0 B pn fr Z' (ma + tb) σ (dem ρ is) H := ok'
  unfold gV at w
  split at w
  · rename_i d1 e1
    refine ⟨H0, B, pn, fr, dem ρ is, Z', tb, d1, ok2, w.1, e1, (act d1).mono _ _ _ _ (fun d kd y => ⟨y.1, fun v H' s r => hR H0 B pn0 fr P pn _ Z' tb _ v d kd H' px ok2 s r y.1 y.2 f'⟩) (fun e q cls d H' s xr => ?_) w.2⟩
    have ok3 := ok2.to s
    unfold gCat at q
    split at q
    · rename_i hc
      refine ⟨true, ⟨e.cls, xr.1, hc⟩, fun _ a na => ?_, fun z => nomatch z⟩
      have il : i < σ.length := by rw [← ok3.len]; exact q.1
      refine ⟨.ref a, by rw [List.getElem?_set_self il], ?_⟩
      have sa := M.same_upd (o := exk a cls d) na
      have ok4 := ok3.to (ok3.ss sa)
      have sx : ExS X.K xw.mg (upd H' a (exk a cls d)) Z' e (some (some (.ref a))) := ⟨a, cls, d, rfl, fun z => ok3.zt a z na, upd_same, by rw [hmg]; exact xr.keep (fun b o _ y => sa b o y) fun b z => .inl z⟩
      have ok5 := ((ok4.put i (some (.ref a)) (.exc e) sx (fun _ z => nomatch z) fun _ _ z => nomatch z).put k (some (.ref a)) (.exc e) sx (fun _ z => nomatch z) fun _ _ z => nomatch z).emp i
      exact f'.nx _ _ ⟨pn, _, Z', px, ok5, q.2⟩
    · rename_i hc
      refine ⟨false, ⟨e.cls, xr.1, hc⟩, (fun z => nomatch z), fun _ => ?_⟩
      rw [f'.ex] at q
      obtain ⟨hp, hx⟩ := ok3.xo _ q
      subst hp
      refine hx cls d H' (ok3.step.less (Nat.zero_le _)) ?_
      rw [hmg]
      exact xr.keep (fun _ _ _ e => e) fun b z => .inl (ok3.bz b z)
    · exact q.elim
  · exact w.elim
theorem z_tryBE (c : Cok X xw G j CC) {p p2 p3 p4 p5 p6 p7 p8 p9 : Pos} {gv : Gv} {act : D → Ac} {ma : Nat} {a b : Str} (hact : ActOk2 X xw gv a b act ma) {n kp : Str} {t : Expr} {ys : List Str} (is : List Nat) (i k : Nat) (ht : Tst X G.rel t ys) (hn : lcB G n i = true := by decide +kernel) (hk : tgB G kp k = true := by decide +kernel) (hcm : G.top = true := by rfl) :
    Ps X xw (.Try [.Expr (.Call (.Name a p) [.Name b p9] [] p2) p3] [.ExceptHandler (some t) (some n) [.Assign [.Name kp p4] (.Name n p5) p6] p7] [] [] p8) (sTryB is nxE gv act ma G.rel ys i k) := by
  obtain ⟨tp1, tp2, tp3⟩ := c.tp hcm
  have hn' := hn
  unfold lcB at hn'
  simp only [Bool.and_eq_true, decide_eq_true_eq] at hn'
  exact PS.weak (ps_kept (t := t) (i := i) (tb := fun W => tSeq (tDrop (tAct2 X.K X.mg xw gv act ma W)) tNext) (Wo := fun cls d _ H => xw.W cls d H) (CT := CTF X.mg G.rel ys) tp1 tp2 (by rw [c.N]; exact c.nd) (slot_ok c hn'.1.1) (by show X.env.scope.names.lookup n = _; rw [c.sc]; exact hn'.1.2) c.tk ht
    (fun W pn xe tkW po => pss_cons (ps_expr (hact W pn xe tkW _ _ _)) pss_nil) (fun a pn => kept_ok c hn hk a pn)) fun D σ H h => act_in2 c.mge h fun H0 B pn0 fr P pn ρ Z tb tb' v d kd H' px ok s r nb q f' => f'.nx _ _ ⟨pn, ρ, Z, px, ok.to s, q⟩
end
end Y

/-! what the checks answer -/
namespace Y
open PySem PySem.Spec PyProof.Rows L2 M
def isIntD : D → Bool | .int _ => true | _ => false
def betw (d : D) (lo hi : Int) : Bool := match d with | .int i => decide (lo ≤ i) && decide (i ≤ hi) | _ => false
def fitsT : D → Bool | .tuple ds => decide (ds.length ≤ 4096) && ds.all (betw · 0 999999) | _ => false
@[simp] theorem mkC_nox {α : Type} {A : α → List Ar} {P : α → Prop} {R : α → D → Kd → Prop} {as : List Ar} {Q : VQ} {E : XQ} : mkC A P R nox as Q E = ∃ x, as = A x ∧ P x ∧ ∀ d k, R x d k → Q d k := by
  unfold mkC nox
  simp
/-- for some x with P x: any answer r x y with S x y -/
def mkD {α β : Type} (A : α → List Ar) (P : α → Prop) (S : α → β → Prop) (r : α → β → D) (k : Kd) : Ct := mkC A P (fun x d k' => ∃ y, S x y ∧ d = r x y ∧ k' = k) nox
theorem mkD_iff {α β : Type} {A : α → List Ar} {P : α → Prop} {S : α → β → Prop} {r : α → β → D} {k : Kd} {as : List Ar} {Q : VQ} {E : XQ} : mkD A P S r k as Q E ↔ ∃ x, as = A x ∧ P x ∧ ∀ y, S x y → Q (r x y) k := by
  unfold mkD
  rw [mkC_nox]
  constructor
  · rintro ⟨x, e, p, q⟩
    exact ⟨x, e, p, fun y hy => q _ _ ⟨y, hy, rfl, rfl⟩⟩
  · rintro ⟨x, e, p, q⟩
    refine ⟨x, e, p, fun d k' h => ?_⟩
    obtain ⟨y, hy, rfl, rfl⟩ := h
    exact q y hy
@[simp] theorem mkD_eq {α β : Type} {A : α → List Ar} {P : α → Prop} {S : α → β → Prop} {r : α → β → D} {k : Kd} {as : List Ar} {Q : VQ} {E : XQ} : mkD A P S r k as Q E = ∃ x, as = A x ∧ P x ∧ ∀ y, S x y → Q (r x y) k := propext mkD_iff
/-! places, cuts -/
@[simp] theorem atI_cast {α : Type} {l : List α} {m : Nat} : L2.atI l (m : Int) = l[m]? := by
  unfold L2.atI L2.ixN
  rw [if_pos (by omega)]
  by_cases h : m < l.length
  · rw [if_pos (by omega)]
    simp
  · rw [if_neg (by omega), List.getElem?_eq_none (by omega)]
    rfl
@[simp] theorem atI_zero {α : Type} {l : List α} : L2.atI l 0 = l[0]? := atI_cast (m := 0)
@[simp] theorem atI_lit {α : Type} {l : List α} {m : Nat} : L2.atI l (no_index (OfNat.ofNat m : Int)) = l[m]? := atI_cast (m := m)
@[simp] theorem atI_one {α : Type} {l : List α} : L2.atI l 1 = l[1]? := atI_cast (m := 1)
@[simp] theorem atI_neg1 {α : Type} {l : List α} : L2.atI l (-1) = l.getLast? := by
  rcases List.eq_nil_or_concat l with rfl | ⟨xs, v, rfl⟩
  · rfl
  · rw [List.concat_eq_append, L2.atI_last]
    simp
theorem atI_map {α β : Type} {f : α → β} {l : List α} {i : Int} : L2.atI (l.map f) i = (L2.atI l i).map f := by
  unfold L2.atI
  rw [List.length_map]
  cases L2.ixN l.length i with
  | none => rfl
  | some j => simp
theorem atI_nn {α : Type} {l : List α} {i : Int} (h : 0 ≤ i) : L2.atI l i = l[i.toNat]? := by
  obtain ⟨m, rfl⟩ := Int.eq_ofNat_of_zero_le h
  simp
@[simp] theorem ixN_cast {n m : Nat} : L2.ixN n (m : Int) = if m < n then some m else none := by
  unfold L2.ixN
  rw [if_pos (by omega)]
  by_cases h : m < n
  · rw [if_pos (by omega), if_pos h]; simp
  · rw [if_neg (by omega), if_neg h]
theorem cut_map {α β : Type} {f : α → β} {l : List α} {lo hi : Option Int} : cutL (l.map f) lo hi = (cutL l lo hi).map f := by
  unfold cutL
  rw [List.length_map, List.map_take, List.map_drop]
@[simp] theorem cut_lo {α : Type} {l : List α} {a : Nat} : cutL l (some (a : Int)) none = l.drop a := by
  unfold cutL
  rw [HT.sIx_nat, HT.sIx_none]
  rcases Nat.le_total a l.length with h | h
  · rw [Nat.min_eq_left h, List.take_of_length_le (by simp)]
  · rw [Nat.min_eq_right h, List.drop_of_length_le h, List.drop_of_length_le (Nat.le_refl _)]; simp
@[simp] theorem cut_hi {α : Type} {l : List α} {b : Nat} : cutL l none (some (b : Int)) = l.take b := by
  unfold cutL
  rw [HT.sIx_nat, HT.sIx_none, List.drop_zero, Nat.sub_zero]
  rcases Nat.le_total b l.length with h | h
  · rw [Nat.min_eq_left h]
  · rw [Nat.min_eq_right h, List.take_of_length_le h, List.take_of_length_le (Nat.le_refl _)]
@[simp] theorem cut_mid {α : Type} {l : List α} {a b : Nat} : cutL l (some (a : Int)) (some (b : Int)) = (l.drop a).take (b - a) := by
  unfold cutL
  rw [HT.sIx_nat, HT.sIx_nat]
  rcases Nat.le_total a l.length with h | h
  · rw [Nat.min_eq_left h]
    rcases Nat.le_total b l.length with h2 | h2
    · rw [Nat.min_eq_left h2]
    · rw [Nat.min_eq_right h2, List.take_of_length_le (by simp), List.take_of_length_le (by simp; omega)]
  · rw [Nat.min_eq_right h, List.drop_of_length_le h, List.drop_of_length_le (Nat.le_refl _)]; simp
@[simp] theorem cut_lo1 {α : Type} {l : List α} : cutL l (some 1) none = l.drop 1 := cut_lo (a := 1)
@[simp] theorem cut_hi1 {α : Type} {l : List α} {b : Nat} : cutL l none (some ((b : Int) + 1)) = l.take (b + 1) := cut_hi (b := b + 1)
@[simp] theorem cut_all {α : Type} {l : List α} : cutL l none none = l := by simp [cutL, HT.sIx_none]
theorem map_get {α β : Type} {f : α → β} {l : List α} {k : Nat} {d : β} (h : (l.map f)[k]? = some d) : ∃ x, l[k]? = some x ∧ d = f x := by
  rw [List.getElem?_map, Option.map_eq_some_iff] at h
  obtain ⟨x, h1, h2⟩ := h
  exact ⟨x, h1, h2.symm⟩
theorem lt_of_get {α : Type} {l : List α} {k : Nat} {x : α} (h : l[k]? = some x) : k < l.length := (List.getElem?_eq_some_iff.mp h).1
theorem get_of_lt {α : Type} {l : List α} {k : Nat} (h : k < l.length) : ∃ x, l[k]? = some x := ⟨l[k], by simp⟩
@[simp] theorem map_int_inj {l m : List Int} : l.map PyData.int = m.map PyData.int ↔ l = m := by
  constructor
  · intro h
    have := congrArg (List.map fun d : D => match d with | .int i => i | _ => 0) h
    simpa [List.map_map, Function.comp_def] using this
  · exact congrArg _
@[simp] theorem map_sg_inj {l m : List Nat} : l.map sg = m.map sg ↔ l = m := by
  constructor
  · intro h
    have := congrArg (List.map fun d : D => match d with | .str s => s.cps.getD 0 0 | _ => 0) h
    simpa [List.map_map, Function.comp_def, S] using this
  · exact congrArg _
/-- comprehensions over what is a map of a list -/
theorem wComp_m {α : Type} {B : D → (Option D → Prop) → Prop} {g : α → D} (l : List α) (f : α → D) (R : List D → Prop) (hB : ∀ a ∈ l, ∀ S : Option D → Prop, S (some (f a)) → B (g a) S) (h : R (l.map f)) : wComp B (l.map g) [] R := by
  have go : ∀ (l : List α) (acc : List D), (∀ a ∈ l, ∀ S : Option D → Prop, S (some (f a)) → B (g a) S) → R (acc ++ l.map f) → wComp B (l.map g) acc R := by
    intro l
    induction l with
    | nil => intro acc _ h; simpa [wComp] using h
    | cons a l ih =>
      intro acc hB h
      refine hB a List.mem_cons_self _ ?_
      exact ih (acc ++ [f a]) (fun b hb => hB b (List.mem_cons_of_mem _ hb)) (by simpa using h)
  exact go l [] hB (by simpa using h)
theorem wComp_f {α : Type} {B : D → (Option D → Prop) → Prop} {g : α → D} (l : List α) (f : α → Option D) (R : List D → Prop) (hB : ∀ a ∈ l, ∀ S : Option D → Prop, S (f a) → B (g a) S) (h : R (l.filterMap f)) : wComp B (l.map g) [] R := by
  have go : ∀ (l : List α) (acc : List D), (∀ a ∈ l, ∀ S : Option D → Prop, S (f a) → B (g a) S) → R (acc ++ l.filterMap f) → wComp B (l.map g) acc R := by
    intro l
    induction l with
    | nil => intro acc _ h; simpa [wComp] using h
    | cons a l ih =>
      intro acc hB h
      refine hB a List.mem_cons_self _ ?_
      cases e : f a with
      | none => exact ih acc (fun b hb => hB b (List.mem_cons_of_mem _ hb)) (by simpa [List.filterMap_cons, e] using h)
      | some r => exact ih (acc ++ [r]) (fun b hb => hB b (List.mem_cons_of_mem _ hb)) (by simpa [List.filterMap_cons, e] using h)
  exact go l [] hB (by simpa using h)
/-- what is kept of a list -/
theorem wComp_k {α : Type} {B : D → (Option D → Prop) → Prop} {g : α → D} (l : List α) (p : α → Bool) (f : α → D) (R : List D → Prop) (hB : ∀ a ∈ l, ∀ S : Option D → Prop, S (if p a then some (f a) else none) → B (g a) S) (h : R ((l.filter p).map f)) : wComp B (l.map g) [] R := by
  refine wComp_f l (fun a => if p a then some (f a) else none) R hB ?_
  have e : l.filterMap (fun a => if p a then some (f a) else none) = (l.filter p).map f := by
    clear h hB
    induction l with
    | nil => rfl
    | cons a l ih =>
      simp only [List.filterMap_cons, List.filter_cons]
      cases p a <;> simp [ih]
  rw [e]
  exact h
theorem rng_ok {n : Nat} (h : n ≤ 16777216) {lo : Int} : (rng lo n).length ≤ sizeLine := by rw [rng_len]; exact sz0 h
theorem rng_okL {n : Nat} (h : n ≤ 1000000) {lo : Int} : (rng lo n).length ≤ LOOPN := by rw [rng_len]; exact szl h
theorem cmulL {i j : Int} (h : -18446744073709551616 < i ∧ i < 18446744073709551616) : Y.CMul i j := .inl h
theorem cmulR {i j : Int} (h : -18446744073709551616 < j ∧ j < 18446744073709551616) : Y.CMul i j := .inr h
theorem wComp_some {B : D → (Option D → Prop) → Prop} (P : D → Prop) (ds : List D) (R : List D → Prop) (hB : ∀ d ∈ ds, ∀ S : Option D → Prop, (∀ r, P r → S (some r)) → B d S) (h : ∀ rs : List D, rs.length = ds.length → (∀ r ∈ rs, P r) → R rs) : wComp B ds [] R := wComp_any P ds [] R hB (by simpa using h)
/-- all of a kind -/
theorem all_map {α : Type} {f : α → D} {P : α → Prop} {rs : List D} (h : ∀ r ∈ rs, ∃ a, P a ∧ r = f a) : ∃ l : List α, (∀ a ∈ l, P a) ∧ rs = l.map f := by
  induction rs with
  | nil => exact ⟨[], by simp, rfl⟩
  | cons r rs ih =>
    obtain ⟨a, ha, rfl⟩ := h r List.mem_cons_self
    obtain ⟨l, hl, rfl⟩ := ih fun x hx => h x (List.mem_cons_of_mem _ hx)
    exact ⟨a :: l, fun x hx => (List.mem_cons.mp hx).elim (fun e => e ▸ ha) (hl x), rfl⟩
theorem cut_mem {α : Type} {l : List α} {lo hi : Option Int} {x : α} (h : x ∈ cutL l lo hi) : x ∈ l := List.mem_of_mem_drop (List.mem_of_mem_take h)
@[simp] theorem eqv_iT {l m : List Int} : PyData.eqv (.tuple (l.map .int)) (.tuple (m.map .int)) = decide (l = m) := eqv_intsT l m
@[simp] theorem eqv_iL {l m : List Int} : PyData.eqv (.list (l.map .int)) (.list (m.map .int)) = decide (l = m) := eqv_intsL l m
@[simp] theorem sh_iT {l : List Int} : SeqAt.shaped (.tuple (l.map .int)) = true := shaped_intsT l
@[simp] theorem sh_iL {l : List Int} : SeqAt.shaped (.list (l.map .int)) = true := shaped_intsL l
theorem rng_range' {a n : Nat} : rng (a : Int) n = (List.range' a n).map fun i => PyData.int (i : Nat) := by
  rw [rng_eq, List.range'_eq_map_range, List.map_map]
  rfl
/-- texts -/
def lets (t : List Int) : Prop := ∀ x ∈ t, 0 ≤ x ∧ x ≤ 999999
theorem fitsT_of {t : List Int} (h : lets t) (hl : t.length ≤ 4096) : fitsT (.tuple (t.map .int)) = true := by
  simp only [fitsT, List.length_map, hl, decide_true, Bool.true_and, List.all_map, List.all_eq_true]
  intro x hx
  have := h x hx
  simp [betw, this.1, this.2]
theorem lets.small {t : List Int} (h : lets t) : Small t := fun x hx => ⟨(h x hx).1, by have := (h x hx).2; omega⟩
theorem lets.sub {t u : List Int} (h : lets t) (hu : ∀ x ∈ u, x ∈ t) : lets u := fun x hx => h x (hu x hx)
theorem lets.app {t u : List Int} (h : lets t) (hu : lets u) : lets (t ++ u) := fun x hx => (List.mem_append.mp hx).elim (h x) (hu x)
theorem rng_map {lo : Int} {n : Nat} : rng lo n = (List.range n).map fun i => PyData.int (lo + (i : Nat)) := rng_eq n lo
theorem enum_some {ds : List D} {k : Nat} {d : D} (h : (enumL ds)[k]? = some d) : ∃ x, ds[k]? = some x ∧ d = .tuple [.int k, x] := by
  unfold enumL at h
  rw [List.getElem?_map, Option.map_eq_some_iff] at h
  obtain ⟨⟨x, i⟩, h1, h2⟩ := h
  rw [List.getElem?_zipIdx, Option.map_eq_some_iff] at h1
  obtain ⟨y, h3, h4⟩ := h1
  obtain ⟨rfl, rfl⟩ := Prod.mk.inj h4
  exact ⟨y, h3, by rw [← h2]; simp⟩
/-- what is the same is written alike -/
theorem ne_same {d e : D} (h : d = e) : (!PyData.eqv (.str d.shown) (.str e.shown)) = false := by
  subst h
  simp
theorem shape_shown_ints (l : List Int) : SeqAt.shaped (.str (PyData.list (l.map PyData.int)).shown) = true := sok_intsL l
end Y
namespace Mth
end Mth

namespace M
/-- how often 2 divides -/
def tz (n : Nat) : Nat := if h : 0 < n ∧ n % 2 = 0 then tz (n / 2) + 1 else 0
termination_by n
decreasing_by omega
theorem tz_even {n : Nat} (h : 0 < n) (e : n % 2 = 0) : tz n = tz (n / 2) + 1 := by
  rw [tz, dif_pos ⟨h, e⟩]
theorem tz_odd {n : Nat} (e : n % 2 = 1) : tz n = 0 := by
  rw [tz, dif_neg (by omega)]
theorem tz_dbl {n : Nat} (h : 0 < n) : tz (2 * n) = tz n + 1 := by
  rw [tz_even (by omega) (by omega), show 2 * n / 2 = n by omega]
theorem tz_pow : ∀ k : Nat, tz (2 ^ k) = k
  | 0 => tz_odd rfl
  | k + 1 => by
    rw [show (2 : Nat) ^ (k + 1) = 2 * 2 ^ k by rw [Nat.pow_succ]; omega, tz_dbl (Nat.pow_pos (by omega)), tz_pow k]
/-- n and 2^k - n are divided alike -/
theorem tz_mirror : ∀ (k n : Nat), 0 < n → n < 2 ^ k → tz (2 ^ k - n) = tz n
  | 0, n, h0, h => by simp at h; omega
  | k + 1, n, h0, h => by
    have e : (2 : Nat) ^ (k + 1) = 2 * 2 ^ k := by rw [Nat.pow_succ]; omega
    rcases Nat.mod_two_eq_zero_or_one n with z | z
    · rw [tz_even (by omega) (show (2 ^ (k + 1) - n) % 2 = 0 by omega), tz_even h0 z, show (2 ^ (k + 1) - n) / 2 = 2 ^ k - n / 2 by omega, tz_mirror k (n / 2) (by omega) (by omega)]
    · rw [tz_odd (show (2 ^ (k + 1) - n) % 2 = 1 by omega), tz_odd z]
theorem tz_le : ∀ n : Nat, tz n ≤ n
  | 0 => by rw [tz]; split <;> omega
  | n + 1 => by
    rcases Nat.mod_two_eq_zero_or_one (n + 1) with z | z
    · rw [tz_even (by omega) z]
      have := tz_le ((n + 1) / 2)
      omega
    · rw [tz_odd z]
      omega
end M

namespace Y
open PySem PySem.Spec PyProof.Rows L2 M
/-! ### the universal texts -/
def U : Nat → List Int
  | 0 => []
  | n + 1 => U n ++ [(n : Int)] ++ U n
theorem U_len : ∀ n : Nat, (U n).length + 1 = 2 ^ n
  | 0 => rfl
  | n + 1 => by
    have := U_len n
    simp only [U, List.length_append, List.length_cons, List.length_nil, Nat.pow_succ]
    omega
theorem U_mem : ∀ {n : Nat} {x : Int}, x ∈ U n → 0 ≤ x ∧ x < n
  | n + 1, x, h => by
    simp only [U, List.mem_append, List.mem_cons, List.not_mem_nil, or_false] at h
    rcases h with (h | rfl) | h
    · have := U_mem h; omega
    · omega
    · have := U_mem h; omega
theorem U_small : ∀ n : Nat, n ≤ 100 → Small (U n)
  | 0, _ => fun x h => by cases h
  | n + 1, hn => fun x h => by
    have ih := U_small n (by omega)
    simp only [U, List.mem_append, List.mem_cons, List.not_mem_nil, or_false] at h
    rcases h with (h | rfl) | h
    · exact ih x h
    · exact ⟨by omega, by omega⟩
    · exact ih x h
theorem U_at : ∀ (n i : Nat), i + 1 < 2 ^ n → (U n)[i]? = some ((tz (i + 1) : Nat) : Int)
  | 0, i, h => by simp at h
  | n + 1, i, h => by
    have hl := U_len n
    have hp : (2 : Nat) ^ (n + 1) = 2 ^ n * 2 := Nat.pow_succ ..
    show (U n ++ [(n : Int)] ++ U n)[i]? = _
    rw [List.append_assoc]
    by_cases h1 : i < (U n).length
    · rw [List.getElem?_append_left h1]
      exact U_at n i (by omega)
    · rw [List.getElem?_append_right (by omega)]
      by_cases h2 : i = (U n).length
      · subst h2
        rw [Nat.sub_self, hl, tz_pow n]
        rfl
      · obtain ⟨j, hj⟩ : ∃ j, i - (U n).length = j + 1 := ⟨i - (U n).length - 1, by omega⟩
        rw [hj]
        show (U n)[j]? = _
        rw [U_at n j (by omega)]
        have e : tz (2 ^ (n + 1) - (i + 1)) = tz (i + 1) := tz_mirror (n + 1) (i + 1) (by omega) (by omega)
        have e2 : tz (2 ^ n - (j + 1)) = tz (j + 1) := tz_mirror n (j + 1) (by omega) (by omega)
        rw [← e, ← e2]
        congr 3
        omega
def UT (n : Nat) : D := .tuple ((U n).map .int)
theorem UT_succ (n : Nat) : (U n).map PyData.int ++ [.int (n : Int)] ++ (U n).map PyData.int = (U (n + 1)).map PyData.int := by simp [U]
theorem UT_len (n : Nat) (h : n ≤ 12) : ((U n).map PyData.int).length ≤ 4096 := by
  have := U_len n
  have h2 : (2 : Nat) ^ n ≤ 2 ^ 12 := Nat.pow_le_pow_right (by decide) h
  rw [List.length_map]
  omega
theorem sz_ok {n : Nat} (h : n ≤ 100000) : n ≤ sizeLine := Nat.le_trans h (by decide)
theorem UT_repr {n : Nat} (h : n ≤ 12) : repD (UT n) = true ∧ (UT n).showable = true ∧ (UT n).shown.length ≤ sizeLine ∧ (UT n).depth ≤ 64 := repr_intsT (U_small n (by omega)) (by have := UT_len n h; rw [List.length_map] at this; omega)
theorem UT_at {j : Nat} (h : j < 4095) : atI ((U 12).map PyData.int) (j : Int) = some (.int ((tz (j + 1) : Nat) : Int)) := atI_nat (by rw [List.getElem?_map, U_at 12 j (by omega)]; rfl)
theorem U12_len : ((U 12).map PyData.int).length = 4095 := by
  have := U_len 12
  rw [List.length_map]
  omega
end Y

/-! the texts that the laws of the third group draw -/
namespace Mth
/-- each letter replaced by its value -/
def fillT (l : List Int) (v : List (List Int)) : List Int := (l.map fun i => v.getD i.toNat []).flatten
theorem fill_snoc {l : List Int} {v : List (List Int)} {i : Int} {t : List Int} (h : 0 ≤ i) (e : v[i.toNat]? = some t) : fillT (l ++ (some i).toList) v = fillT l v ++ t := by
  simp [fillT, List.getD_eq_getElem?_getD, e]
theorem fill_len {v : List (List Int)} {b : Nat} : ∀ {l : List Int}, (∀ t ∈ v, t.length ≤ b) → (fillT l v).length ≤ l.length * b
  | [], _ => by simp [fillT]
  | i :: l, h => by
    have ih := fill_len (l := l) h
    have h1 : (v.getD i.toNat []).length ≤ b := by
      rw [List.getD_eq_getElem?_getD]
      cases e : v[i.toNat]? with
      | none => simp
      | some t => exact h t (List.mem_of_getElem? e)
    simp only [fillT, List.map_cons, List.flatten_cons, List.length_append, List.length_cons] at ih ⊢
    rw [Nat.succ_mul]
    omega
theorem mem_fill {v : List (List Int)} {l : List Int} {x : Int} (h : x ∈ fillT l v) : ∃ t ∈ v, x ∈ t := by
  simp only [fillT, List.mem_flatten, List.mem_map] at h
  obtain ⟨t, ⟨i, _, rfl⟩, hx⟩ := h
  rw [List.getD_eq_getElem?_getD] at hx
  cases e : v[i.toNat]? with
  | none => rw [e] at hx; cases hx
  | some t => rw [e] at hx; exact ⟨t, List.mem_of_getElem? e, hx⟩
theorem U_lt : ∀ (n : Nat) (x : Int), x ∈ Y.U n → 0 ≤ x ∧ x < n
  | 0, x, h => by cases h
  | n + 1, x, h => by
    have ih := U_lt n x
    simp only [Y.U, List.mem_append, List.mem_cons, List.not_mem_nil, or_false] at h
    rcases h with (h | h) | h
    · have := ih h; omega
    · omega
    · have := ih h; omega
theorem U_len' (n : Nat) (h : n ≤ 12) : (Y.U n).length + 1 = 2 ^ n ∧ (Y.U n).length ≤ 4095 := by
  have h1 := Y.U_len n
  have h2 : (2 : Nat) ^ n ≤ 2 ^ 12 := Nat.pow_le_pow_right (by decide) h
  omega
end Mth

/-! what may be written by repr, and how long it is -/
namespace Y
open PySem PySem.Spec PyProof.Rows L2 M
structure Rp (d : D) (n m : Nat) : Prop where
  nd : d.hasDict = false
  sh : d.showable = true
  len : d.shown.length ≤ n
  dp : d.depth ≤ m
  ok : PyData.strOk d.shown = true
/-- what repr asks -/
abbrev ReprC (d : D) : Prop := repD d = true ∧ d.showable = true ∧ d.shown.length ≤ sizeLine ∧ d.depth ≤ 64
theorem Rp.c {d : D} {n m : Nat} (h : Rp d n m) (hn : n ≤ 16777216 := by omega) (hm : m ≤ 64 := by omega) : repD d = true ∧ d.showable = true ∧ d.shown.length ≤ sizeLine ∧ d.depth ≤ 64 := ⟨repD_of h.nd, h.sh, sz0 (Nat.le_trans h.len hn), Nat.le_trans h.dp hm⟩
theorem Rp.s {d : D} {n m : Nat} (h : Rp d n m) : SeqAt.shaped (.str d.shown) = true := shape_of_sok h.ok
theorem Rp.le {d : D} {n n' m m' : Nat} (h : Rp d n m) (hn : n ≤ n') (hm : m ≤ m') : Rp d n' m' := ⟨h.nd, h.sh, Nat.le_trans h.len hn, Nat.le_trans h.dp hm, h.ok⟩
theorem rp_none : Rp .none 4 0 := ⟨rfl, rfl, by decide, Nat.le_refl _, by decide +kernel⟩
theorem rp_bool (b : Bool) : Rp (.bool b) 5 0 := by
  cases b <;> exact ⟨rfl, rfl, by decide +kernel, Nat.le_refl _, by decide +kernel⟩
theorem rp_int {i : Int} (h : -1000000000000000000000 < i ∧ i < 1000000000000000000000) : Rp (.int i) 22 0 := by
  refine ⟨rfl, ?_, ?_, Nat.le_refl _, sok_int i⟩
  · have h2 : i.natAbs < 2 ^ 100 := Nat.lt_of_lt_of_le (show i.natAbs < 1000000000000000000000 by omega) (by decide)
    have := PySem.Flt.log2_lt_of (by decide) h2
    exact decide_eq_true (by omega)
  · rw [shown_int]
    rcases Int.le_total 0 i with h0 | h0
    · have : (Str.ofString (toString i)).length ≤ 21 := toString_length_le h0 (k := 21) (by decide) (by omega)
      omega
    · obtain ⟨n, e⟩ := Int.eq_ofNat_of_zero_le (show 0 ≤ -i by omega)
      rcases Nat.eq_zero_or_pos n with z | z
      · have : i = 0 := by omega
        subst this
        decide
      · obtain ⟨m, rfl⟩ := Nat.exists_eq_succ_of_ne_zero (by omega : n ≠ 0)
        have ei : i = Int.negSucc m := by omega
        subst ei
        have e1 : toString (Int.negSucc m) = "-" ++ toString (m + 1) := rfl
        rw [e1]
        have h3 : (Str.ofString (toString (((m + 1 : Nat) : Int)))).length ≤ 21 := toString_length_le (by omega) (k := 21) (by decide) (by omega)
        have e2 : toString (((m + 1 : Nat) : Int)) = toString (m + 1) := rfl
        rw [e2] at h3
        have e3 : (Str.ofString ("-" ++ toString (m + 1))).length = 1 + (Str.ofString (toString (m + 1))).length := by
          show (Str.ofString _).cps.size = 1 + (Str.ofString _).cps.size
          rw [Str.ofString_eq_toList, Str.ofString_eq_toList]
          simp
          omega
        omega
theorem reprChar_ok (q c : Nat) (hq : q < 1114112) (hc : c < 1114112) : ∀ z ∈ Builtin.Str.reprChar q c, z < 1114112 := by
  have hx : ∀ w : Nat, ∀ z ∈ (List.replicate (w - ((Nat.toDigits 16 c).map Char.toNat).length) 48 ++ (Nat.toDigits 16 c).map Char.toNat), z < 1114112 := by
    intro w z hz
    rcases List.mem_append.mp hz with hz | hz
    · have := List.eq_of_mem_replicate hz; omega
    · obtain ⟨ch, _, rfl⟩ := List.mem_map.mp hz
      have := ch.valid
      rcases this with h | ⟨_, h⟩
      · exact Nat.lt_trans h (by decide)
      · exact h
  intro z hz
  unfold Builtin.Str.reprChar at hz
  dsimp only at hz
  repeat' split at hz
  all_goals first
    | (simp only [List.mem_cons, List.not_mem_nil, or_false] at hz; omega)
    | (rcases List.mem_append.mp hz with hz | hz
       · simp only [List.mem_cons, List.not_mem_nil, or_false] at hz; omega
       · exact hx _ z hz)
theorem sok_repr {x : Str} (h : PyData.strOk x = true) : PyData.strOk (PyData.str x).shown = true := by
  show PyData.strOk (reprText x) = true
  have hq : reprQuote x < 1114112 := by unfold reprQuote; split <;> decide
  unfold PyData.strOk at h ⊢
  rw [Array.all_eq_true'] at h ⊢
  have key : ∀ (l : List Nat) (acc : Array Nat), (∀ c ∈ l, c < 1114112) → (∀ c ∈ acc, c < 1114112) → ∀ c ∈ l.foldl (fun out c => out ++ (Builtin.Str.reprChar (reprQuote x) c).toArray) acc, c < 1114112 := by
    intro l
    induction l with
    | nil => intro acc _ h2 c hc; exact h2 c hc
    | cons a l ih =>
      intro acc h1 h2
      refine ih _ (fun c hc => h1 c (List.mem_cons_of_mem _ hc)) fun c hc => ?_
      rcases Array.mem_append.mp hc with hc | hc
      · exact h2 c hc
      · exact reprChar_ok _ a hq (h1 a List.mem_cons_self) c (by simpa using hc)
  intro c hc
  unfold reprText at hc
  rcases Array.mem_push.mp hc with hc | rfl
  · rw [← Array.foldl_toList] at hc
    exact decide_eq_true (key x.cps.toList #[reprQuote x] (fun c hc => of_decide_eq_true (h c (by simpa using hc))) (fun c hc => by simp at hc; subst hc; exact hq) c hc)
  · exact decide_eq_true hq
theorem rp_str {x : Str} (h : PyData.strOk x = true) {n : Nat} (hn : x.length ≤ n) : Rp (.str x) (10 * n + 2) 0 := by
  refine ⟨rfl, rfl, ?_, Nat.le_refl _, sok_repr h⟩
  show (reprText x).length ≤ _
  refine Nat.le_trans (PySem.StrLaws.reprText_len x fun c hc => ?_) (by omega)
  unfold PyData.strOk at h
  rw [Array.all_eq_true'] at h
  have := of_decide_eq_true (h c (by simpa using hc))
  exact Nat.lt_trans this (by decide)
/-- all of them at most so long -/
structure Rps (ds : List D) (n m : Nat) : Prop where
  nd : PyData.hasDictAll ds = false
  sh : PyData.showableAll ds = true
  len : ((PyData.shownAll ds).map (·.length)).sum + 2 * (PyData.shownAll ds).length ≤ n
  dp : PyData.depthAll ds ≤ m
  ok : ∀ t ∈ PyData.shownAll ds, PyData.strOk t = true
theorem rps_nil : Rps [] 0 0 := ⟨rfl, rfl, by decide, Nat.le_refl _, by simp [PyData.shownAll]⟩
theorem Rps.cons {d : D} {ds : List D} {n m n' m' : Nat} (h : Rp d n m) (hs : Rps ds n' m') : Rps (d :: ds) (n + 2 + n') (max m m') := by
  have h1 := hs.len
  have h2 := h.len
  refine ⟨by simp [PyData.hasDictAll, h.nd, hs.nd], by simp [PyData.showableAll, h.sh, hs.sh], ?_, ?_, ?_⟩
  · simp only [PyData.shownAll, List.map_cons, List.sum_cons, List.length_cons]; omega
  · simp only [PyData.depthAll]; have := h.dp; have := hs.dp; omega
  · intro t ht
    simp only [PyData.shownAll, List.mem_cons] at ht
    rcases ht with rfl | ht
    · exact h.ok
    · exact hs.ok t ht
theorem Rps.le {ds : List D} {n n' m m' : Nat} (h : Rps ds n m) (hn : n ≤ n') (hm : m ≤ m') : Rps ds n' m' := ⟨h.nd, h.sh, Nat.le_trans h.len hn, Nat.le_trans h.dp hm, h.ok⟩
theorem rps_all {n m : Nat} : ∀ {ds : List D}, (∀ d ∈ ds, Rp d n m) → Rps ds ((n + 2) * ds.length) m
  | [], _ => by simpa using rps_nil.le (Nat.le_refl _) (Nat.zero_le m)
  | d :: ds, h => by
    have := Rps.cons (h d List.mem_cons_self) (rps_all fun x hx => h x (List.mem_cons_of_mem _ hx))
    refine this.le ?_ (by omega)
    rw [List.length_cons, Nat.mul_succ]
    omega
theorem rp_list {ds : List D} {n m : Nat} (h : Rps ds n m) : Rp (.list ds) (n + 3) (m + 1) := by
  have hl := h.len
  refine ⟨by simpa only [PyData.hasDict] using h.nd, by simpa only [PyData.showable] using h.sh, ?_, ?_, ?_⟩
  · show (listText (PyData.shownAll ds)).length ≤ _
    have := listText_len_le (PyData.shownAll ds)
    omega
  · simp only [PyData.depth]; have := h.dp; omega
  · exact sok_list h.ok
theorem rp_tuple {ds : List D} {n m : Nat} (h : Rps ds n m) : Rp (.tuple ds) (n + 3) (m + 1) := by
  have hl := h.len
  refine ⟨by simpa only [PyData.hasDict] using h.nd, by simpa only [PyData.showable] using h.sh, ?_, ?_, ?_⟩
  · show (tupleText (PyData.shownAll ds)).length ≤ _
    have := tupleText_len_le (PyData.shownAll ds)
    omega
  · simp only [PyData.depth]; have := h.dp; omega
  · exact sok_tuple h.ok
theorem rp_ints {l : List Int} (h : ∀ i ∈ l, -1000000000000000000000 < i ∧ i < 1000000000000000000000) : Rps (l.map .int) (24 * l.length) 0 := by
  have := rps_all (n := 22) (m := 0) (ds := l.map PyData.int) fun d hd => by
    obtain ⟨i, hi, rfl⟩ := List.mem_map.mp hd
    exact rp_int (h i hi)
  rwa [List.length_map] at this
end Y

namespace Y
open PySem PySem.Spec PyProof.Rows L2 M
/-! ### the order of first occurrence; normal forms -/
def ordG (acc : List Nat) : List Nat → List Nat
  | [] => acc
  | c :: r => ordG (if c ∈ acc then acc else acc ++ [c]) r
def ordF (l : List Nat) : List Nat := ordG [] l
theorem mem_ordG : ∀ (l acc : List Nat) (x : Nat), x ∈ ordG acc l ↔ x ∈ acc ∨ x ∈ l
  | [], acc, x => by simp [ordG]
  | c :: r, acc, x => by
    rw [ordG, mem_ordG r]
    split
    · rename_i h
      simp only [List.mem_cons]
      constructor
      · rintro (h1 | h1)
        · exact .inl h1
        · exact .inr (.inr h1)
      · rintro (h1 | rfl | h1)
        · exact .inl h1
        · exact .inl h
        · exact .inr h1
    · simp only [List.mem_append, List.mem_cons, List.not_mem_nil, or_false]
      constructor
      · rintro ((h1 | h1) | h1)
        · exact .inl h1
        · exact .inr (.inl h1)
        · exact .inr (.inr h1)
      · rintro (h1 | h1 | h1)
        · exact .inl (.inl h1)
        · exact .inl (.inr h1)
        · exact .inr h1
theorem mem_ordF {l : List Nat} {x : Nat} : x ∈ ordF l ↔ x ∈ l := by simp [ordF, mem_ordG]
theorem nodup_ordG : ∀ (l acc : List Nat), acc.Nodup → (ordG acc l).Nodup
  | [], acc, h => h
  | c :: r, acc, h => by
    rw [ordG]
    refine nodup_ordG r _ ?_
    split
    · exact h
    · rename_i hc
      rw [List.nodup_append]
      refine ⟨h, by simp, fun a ha b hb => ?_⟩
      have : b = c := by simpa using hb
      subst this
      exact fun z => hc (by rw [← z]; exact ha)
theorem nodup_ordF (l : List Nat) : (ordF l).Nodup := nodup_ordG l [] List.nodup_nil
theorem ordG_map {σ : Nat → Nat} : ∀ (l acc : List Nat), (∀ x ∈ acc ++ l, ∀ y ∈ acc ++ l, σ x = σ y → x = y) → ordG (acc.map σ) (l.map σ) = (ordG acc l).map σ
  | [], acc, _ => rfl
  | c :: r, acc, hi => by
    rw [List.map_cons, ordG, ordG]
    have e : σ c ∈ acc.map σ ↔ c ∈ acc := by
      rw [List.mem_map]
      constructor
      · rintro ⟨x, hx, he⟩
        rw [← hi x (by simp [hx]) c (by simp) he]
        exact hx
      · exact fun h => ⟨c, h, rfl⟩
    by_cases hc : c ∈ acc
    · rw [if_pos (e.mpr hc), if_pos hc]
      exact ordG_map r acc fun x hx y hy => hi x (by simp only [List.mem_append, List.mem_cons] at hx ⊢; rcases hx with h | h <;> simp [h]) y (by simp only [List.mem_append, List.mem_cons] at hy ⊢; rcases hy with h | h <;> simp [h])
    · rw [if_neg (fun z => hc (e.mp z)), if_neg hc, show acc.map σ ++ [σ c] = (acc ++ [c]).map σ by simp]
      exact ordG_map r (acc ++ [c]) fun x hx y hy => hi x (by simpa using hx) y (by simpa using hy)
theorem ordF_map {σ : Nat → Nat} {l : List Nat} (hi : ∀ x ∈ l, ∀ y ∈ l, σ x = σ y → x = y) : ordF (l.map σ) = (ordF l).map σ := ordG_map l [] (by simpa using hi)
/-- distinct: those that stand at their first place -/
theorem ordG_filter (f : D) : ∀ (rest pre acc : List Nat), (∀ x, x ∈ acc ↔ x ∈ pre) → ordG acc rest = acc ++ (rest.zipIdx pre.length).filterMap (fun p => if (pre ++ rest).idxOf p.1 = p.2 then some p.1 else none)
  | [], pre, acc, _ => by simp [ordG]
  | c :: r, pre, acc, h => by
    have ix : (pre ++ c :: r).idxOf c = pre.length ↔ c ∉ pre := by
      constructor
      · intro e hc
        rw [List.idxOf_append, if_pos hc] at e
        have := List.idxOf_lt_length_of_mem hc
        omega
      · intro hc
        rw [List.idxOf_append, if_neg hc, List.idxOf_cons_self]
        omega
    have e2 : pre ++ c :: r = (pre ++ [c]) ++ r := by simp
    have ih := fun acc' h' => ordG_filter f r (pre ++ [c]) acc' h'
    rw [ordG, List.zipIdx_cons, List.filterMap_cons]
    by_cases hc : c ∈ acc
    · rw [if_pos hc]
      have hn : ¬ (pre ++ c :: r).idxOf c = pre.length := fun z => (ix.mp z) ((h c).mp hc)
      simp only [hn, if_false]
      rw [ih acc fun x => by rw [List.mem_append, ← h x]; simp; intro hx; rw [hx]; exact hc]
      rw [← e2]
      simp
    · rw [if_neg hc]
      have hp : (pre ++ c :: r).idxOf c = pre.length := ix.mpr fun z => hc ((h c).mpr z)
      simp only [hp, if_true]
      rw [ih (acc ++ [c]) fun x => by simp [h x]]
      rw [← e2]
      simp
theorem ordF_filter (l : List Nat) : ordF l = l.zipIdx.filterMap (fun p => if l.idxOf p.1 = p.2 then some p.1 else none) := by
  have := ordG_filter .none l [] [] (by simp)
  simpa [ordF] using this
def nf (l : List Nat) : List Nat := l.map fun c => 97 + (ordF l).idxOf c
theorem idx_map {σ : Nat → Nat} : ∀ (l : List Nat) (c : Nat), c ∈ l → (∀ x ∈ l, σ x = σ c → x = c) → (l.map σ).idxOf (σ c) = l.idxOf c
  | [], c, h, _ => nomatch h
  | a :: r, c, h, hi => by
    rw [List.map_cons, List.idxOf_cons, List.idxOf_cons]
    by_cases e : a = c
    · subst e; simp
    · have e2 : ¬ σ a = σ c := fun z => e (hi a List.mem_cons_self z)
      have hc : c ∈ r := by
        rcases List.mem_cons.mp h with z | z
        · exact absurd z.symm e
        · exact z
      have b1 : (a == c) = false := by simpa using e
      have b2 : (σ a == σ c) = false := by simpa using e2
      rw [b1, b2, cond_false, cond_false, idx_map r c hc fun x hx => hi x (List.mem_cons_of_mem _ hx)]
theorem nf_map {σ : Nat → Nat} {l : List Nat} (hi : ∀ x ∈ l, ∀ y ∈ l, σ x = σ y → x = y) : nf (l.map σ) = nf l := by
  unfold nf
  rw [ordF_map hi, List.map_map]
  apply List.map_congr_left
  intro c hc
  show 97 + ((ordF l).map σ).idxOf (σ c) = 97 + (ordF l).idxOf c
  rw [idx_map (ordF l) c (mem_ordF.mpr hc) fun x hx e => hi x (mem_ordF.mp hx) c hc e]
theorem nf_nf (l : List Nat) : nf (nf l) = nf l := by
  refine nf_map (σ := fun c => 97 + (ordF l).idxOf c) fun x hx y hy e => ?_
  have e : (ordF l).idxOf x = (ordF l).idxOf y := by have : 97 + (ordF l).idxOf x = 97 + (ordF l).idxOf y := e; omega
  have hx' := List.idxOf_lt_length_of_mem (mem_ordF.mpr hx)
  have h1 := List.getElem_idxOf hx'
  have hy' := List.idxOf_lt_length_of_mem (mem_ordF.mpr hy)
  have h2 := List.getElem_idxOf hy'
  rw [← h1, ← h2]
  simp only [e]
end Y

namespace Y
open PySem PySem.Spec PyProof.Rows L2 M
/-! ### letters a to z -/
def low (l : List Nat) : Prop := ∀ c ∈ l, 97 ≤ c ∧ c ≤ 122
def abc : List Nat := (List.range 26).map (97 + ·)
theorem abc_str : ("abcdefghijklmnopqrstuvwxyz" : Str) = S abc := by decide +kernel
theorem abc8_str : ("abcdefgh" : Str) = S ((List.range 8).map (97 + ·)) := by decide +kernel
theorem abc_mem {c : Nat} (h : 97 ≤ c ∧ c ≤ 122) : c ∈ abc := List.mem_map.mpr ⟨c - 97, List.mem_range.mpr (by omega), by show 97 + (c - 97) = c; omega⟩
theorem abc_get {i : Nat} (h : i < 26) : abc[i]? = some (97 + i) := by simp [abc, h]
theorem abc8_get {i : Nat} (h : i < 8) : ((List.range 8).map (97 + ·))[i]? = some (97 + i) := by simp [h]
theorem sok_S {l : List Nat} (h : ∀ c ∈ l, c < 1114112) : PyData.strOk (S l) = true := by
  simp [PyData.strOk, S]
  exact h
theorem low_sok {l : List Nat} (h : low l) : PyData.strOk (S l) = true := sok_S fun c hc => by have := h c hc; omega
theorem low_ord {l : List Nat} (h : low l) : low (ordF l) := fun c hc => h c (mem_ordF.mp hc)
theorem low_nf {l : List Nat} (h : (ordF l).length ≤ 8) : low (nf l) := fun c hc => by
  obtain ⟨x, hx, rfl⟩ := List.mem_map.mp hc
  have := List.idxOf_lt_length_of_mem (mem_ordF.mpr hx)
  show 97 ≤ 97 + (ordF l).idxOf x ∧ 97 + (ordF l).idxOf x ≤ 122
  omega
theorem len_nf (l : List Nat) : (nf l).length = l.length := List.length_map ..
theorem ord_nf (l : List Nat) : (ordF (nf l)).length = (ordF l).length := by
  have e : ordF (nf l) = (ordF l).map fun c => 97 + (ordF l).idxOf c := ordF_map (σ := fun c => 97 + (ordF l).idxOf c) fun x hx y hy e => by
    have e : (ordF l).idxOf x = (ordF l).idxOf y := by have : 97 + (ordF l).idxOf x = 97 + (ordF l).idxOf y := e; omega
    have hx' := List.idxOf_lt_length_of_mem (mem_ordF.mpr hx)
    have h1 := List.getElem_idxOf hx'
    have hy' := List.idxOf_lt_length_of_mem (mem_ordF.mpr hy)
    have h2 := List.getElem_idxOf hy'
    rw [← h1, ← h2]
    simp only [e]
  rw [e, List.length_map]
theorem bools_true : ∀ ds : List D, boolsD (ds.map fun _ => PyData.bool true) = some (ds.map fun _ => true)
  | [] => rfl
  | d :: ds => by
    show (boolsD (ds.map fun _ => PyData.bool true)).map _ = _
    rw [bools_true ds]
    rfl
theorem all_true (ds : List D) : ((ds.map fun _ => true).all id) = true := by simp
theorem join_S {l : List Nat} (hl : l.length ≤ 100000) (Q : VQ) (h : Q (.str (S l)) .shr) : (mtD .join (.str (S [])) [.list (l.map sg)]).to Q := by
  show Rz.to ((strsD (l.map sg)).map fun ys => ((ys.map Str.length).sum + (S []).length * ys.length ≤ 16777216, .str (Txt.join (S []) ys), .shr)) Q
  rw [strsD_sg]
  refine ⟨?_, ?_⟩
  · rw [sum_sg, S_len]
    simp
    omega
  · rw [join_sg]
    exact h
theorem idx_find {c : Nat} : ∀ {l : List Nat}, c ∈ l → l.findIdx? (· == c) = some (l.idxOf c)
  | [], h => nomatch h
  | a :: r, h => by
    rw [List.findIdx?_cons, List.idxOf_cons]
    by_cases e : a = c
    · subst e; simp
    · have b1 : (a == c) = false := by simpa using e
      have hc : c ∈ r := by
        rcases List.mem_cons.mp h with z | z
        · exact absurd z.symm e
        · exact z
      rw [b1, idx_find hc]
      rfl
theorem sindex_S {l : List Nat} {c : Nat} (h : c ∈ l) (Q : VQ) (q : Q (.int ((l.idxOf c : Nat) : Int)) .shr) : (mtD .sindex (.str (S l)) [sg c]).to Q := by
  show Rz.to ((l.findIdx? (· == c)).map fun j => (([c].toArray).size = 1, .int (j : Nat), .shr)) Q
  rw [idx_find h]
  exact ⟨rfl, q⟩
theorem ix_S {l : List Nat} {i c : Nat} (h : l[i]? = some c) (hl : l.length ≤ 100000) (Q : VQ) (q : Q (sg c) .shr) : (ixD (.str (S l)) (.int (i : Int))).to Q := by
  show Rz.to ((L2.atI l (i : Int)).map fun c => ((S l).length ≤ sizeLine, .str ⟨#[c]⟩, .shr)) Q
  rw [atI_nat h]
  refine ⟨?_, q⟩
  rw [S_len]
  exact Nat.le_trans hl (by decide)
theorem wComp_mapE {B : D → (Option D → Prop) → Prop} (f : D → D) {ds rs : List D} {R : List D → Prop} (hr : ds.map f = rs) (hB : ∀ d ∈ ds, ∀ S : Option D → Prop, S (some (f d)) → B d S) (h : R rs) : wComp B ds [] R :=
  wComp_map f ds R hB (by rw [hr]; exact h)
theorem wComp_filterE {B : D → (Option D → Prop) → Prop} (f : D → Option D) {ds rs : List D} {R : List D → Prop} (hr : ds.filterMap f = rs) (hB : ∀ d ∈ ds, ∀ S : Option D → Prop, S (f d) → B d S) (h : R rs) : wComp B ds [] R :=
  wComp_filter f ds [] R hB (by rw [List.nil_append, hr]; exact h)
/-- a comprehension over a text's signs that gives signs -/
def sgF (g : Nat → Nat) : D → D := fun d => match d with | .str z => sg (g (z.cps.getD 0 0)) | _ => .none
theorem sgF_map (g : Nat → Nat) (l : List Nat) : ((S l).cps.toList.map fun c => PyData.str ⟨#[c]⟩).map (sgF g) = (l.map g).map sg := by
  rw [List.map_map, List.map_map]
  rfl
theorem nf_eq (l : List Nat) : (l.map fun c => 97 + (ordF l).idxOf c) = nf l := rfl
/-- distinct's own walk -/
def dsF (l : List Nat) : D → Option D := fun d => match d with | .tuple [.int i, .str z] => if (l.idxOf (z.cps.getD 0 0) : Int) = i then some (.str z) else none | _ => none
theorem ds_map (l m : List Nat) (k : Nat) : ((m.map fun c => PyData.str ⟨#[c]⟩).zipIdx k).map (fun p => PyData.tuple [.int p.2, p.1]) = (m.zipIdx k).map fun p => PyData.tuple [.int (p.2 : Nat), .str ⟨#[p.1]⟩] := by
  induction m generalizing k with
  | nil => rfl
  | cons c r ih => simp only [List.map_cons, List.zipIdx_cons, ih]
theorem ds_filter (l m : List Nat) (k : Nat) : (((m.zipIdx k).map fun p => PyData.tuple [.int (p.2 : Nat), .str ⟨#[p.1]⟩]).filterMap (dsF l)) = ((m.zipIdx k).filterMap fun p => if l.idxOf p.1 = p.2 then some p.1 else none).map sg := by
  induction m generalizing k with
  | nil => rfl
  | cons c r ih =>
    simp only [List.zipIdx_cons, List.map_cons, List.filterMap_cons, ih]
    have e : dsF l (PyData.tuple [.int ((k : Nat) : Int), .str ⟨#[c]⟩]) = if l.idxOf c = k then some (sg c) else none := by
      show (if ((l.idxOf c : Nat) : Int) = ((k : Nat) : Int) then some (PyData.str ⟨#[c]⟩) else none) = _
      by_cases h : l.idxOf c = k
      · rw [if_pos h, if_pos (by rw [h])]; rfl
      · rw [if_neg h, if_neg (by omega)]
    rw [e]
    by_cases h : l.idxOf c = k
    · simp [h]
    · simp [h]
theorem ds_all (l : List Nat) : (enumL ((S l).cps.toList.map fun c => PyData.str ⟨#[c]⟩)).filterMap (dsF l) = (ordF l).map sg := by
  unfold enumL
  have := ds_map l l 0
  rw [show (S l).cps.toList = l from rfl, this, ds_filter l l 0, ← ordF_filter]
theorem len_ordG : ∀ (l acc : List Nat), (ordG acc l).length ≤ acc.length + l.length
  | [], acc => Nat.le_refl _
  | c :: r, acc => by
    rw [ordG]
    have := len_ordG r (if c ∈ acc then acc else acc ++ [c])
    have e : (if c ∈ acc then acc else acc ++ [c]).length ≤ acc.length + 1 := by
      split
      · omega
      · simp
    simp only [List.length_cons]
    omega
theorem len_ord (l : List Nat) : (ordF l).length ≤ l.length := by
  have := len_ordG l []
  simpa [ordF] using this
theorem ordG_snoc (c : Nat) : ∀ (l acc : List Nat), ordG acc (l ++ [c]) = if c ∈ ordG acc l then ordG acc l else ordG acc l ++ [c]
  | [], acc => rfl
  | a :: r, acc => ordG_snoc c r _
theorem ordF_snoc (c : Nat) (l : List Nat) : ordF (l ++ [c]) = if c ∈ ordF l then ordF l else ordF l ++ [c] := ordG_snoc c l []
theorem take_snoc {l : List Nat} {i : Nat} (h : i < l.length) : l.take (i + 1) = l.take i ++ [l[i]] := by
  rw [List.take_add_one, List.getElem?_eq_getElem h]
  rfl
/-- each sign between two copies of what those ahead of it make -/
def nest (l : List Nat) : List Nat := l.foldl (fun w c => w ++ [c] ++ w) []
theorem nest_snoc (l : List Nat) (c : Nat) : nest (l ++ [c]) = nest l ++ [c] ++ nest l := by simp [nest]
theorem nest_len : ∀ (l : List Nat) (w : List Nat), (l.foldl (fun w c => w ++ [c] ++ w) w).length + 1 = (w.length + 1) * 2 ^ l.length
  | [], w => by simp
  | c :: r, w => by
    rw [List.foldl_cons, nest_len r, List.length_cons, Nat.pow_succ]
    simp only [List.length_append, List.length_cons, List.length_nil]
    rw [show w.length + (0 + 1) + w.length + 1 = (w.length + 1) * 2 by omega, Nat.mul_assoc, Nat.mul_comm 2]
theorem nest_pow (l : List Nat) : (Y.nest l).length + 1 = 2 ^ l.length := by
  have h1 := nest_len l []
  rw [List.length_nil, Nat.zero_add, Nat.one_mul] at h1
  exact h1
theorem nest_le {l : List Nat} (h : l.length ≤ 10) : (nest l).length ≤ 1023 := by
  have h1 := nest_len l []
  have h2 : 2 ^ l.length ≤ 2 ^ 10 := Nat.pow_le_pow_right (by decide) h
  have e : (nest l).length + 1 = 2 ^ l.length := by simpa [nest] using h1
  omega
theorem nest_mem : ∀ (l w : List Nat) (x : Nat), x ∈ l.foldl (fun w c => w ++ [c] ++ w) w → x ∈ w ∨ x ∈ l
  | [], w, x, h => .inl h
  | c :: r, w, x, h => by
    rcases nest_mem r _ x h with h | h
    · simp only [List.mem_append, List.mem_cons, List.not_mem_nil, or_false] at h
      rcases h with (h | h) | h
      · exact .inl h
      · exact .inr (by rw [h]; exact List.mem_cons_self)
      · exact .inl h
    · exact .inr (List.mem_cons_of_mem _ h)
theorem rot_inj {b st k k' : Int} (hs : st ∈ ([1, 3, 5, 7, 9, 11, 15, 17, 19, 21, 23, 25] : List Int)) (h0 : 0 ≤ k) (h1 : k < 26) (h2 : 0 ≤ k') (h3 : k' < 26) (e : (b + st * k) % 26 = (b + st * k') % 26) : k = k' := by
  simp only [List.mem_cons, List.not_mem_nil, or_false] at hs
  rcases hs with rfl | rfl | rfl | rfl | rfl | rfl | rfl | rfl | rfl | rfl | rfl | rfl <;> omega
theorem nodup_len : ∀ {a b : List Nat}, a.Nodup → (∀ x ∈ a, x ∈ b) → a.length ≤ b.length
  | [], _, _, _ => Nat.zero_le _
  | x :: r, b, h, hs => by
    have hx := hs x List.mem_cons_self
    obtain ⟨h1, h2⟩ := List.nodup_cons.mp h
    have ih := nodup_len (b := b.erase x) h2 fun y hy => (List.mem_erase_of_ne (fun e => h1 (by rw [← e]; exact hy))).mpr (hs y (List.mem_cons_of_mem _ hy))
    rw [List.length_erase_of_mem hx] at ih
    have := List.length_pos_of_mem hx
    simp only [List.length_cons]
    omega
theorem pat_ok {s l : List Nat} (h : ∀ c ∈ s, c ∈ l) (hl : low l) (h8 : l.length ≤ 8) : low s ∧ (ordF s).length ≤ 8 :=
  ⟨fun c hc => hl c (h c hc), Nat.le_trans (nodup_len (nodup_ordF s) fun x hx => h x (mem_ordF.mp hx)) h8⟩
theorem sgs_of {l : List Nat} : ∀ {rs : List D}, (∀ r ∈ rs, ∃ c ∈ l, r = sg c) → ∃ cs : List Nat, rs = cs.map sg ∧ (∀ c ∈ cs, c ∈ l) ∧ cs.length = rs.length
  | [], _ => ⟨[], rfl, (fun _ z => nomatch z), rfl⟩
  | r :: rs, h => by
    obtain ⟨c, hc, rfl⟩ := h r List.mem_cons_self
    obtain ⟨cs, rfl, h1, h2⟩ := sgs_of fun r hr => h r (List.mem_cons_of_mem _ hr)
    exact ⟨c :: cs, rfl, fun x hx => (List.mem_cons.mp hx).elim (fun e => by rw [e]; exact hc) (h1 x), by simp⟩
/-- a cut of a text: its signs, no longer than the cut -/
theorem cutS_of (t : List Nat) (lo hi : Option Int) : ∃ u : List Nat, L2.cutS (S t) lo hi = S u ∧ (∀ c ∈ u, c ∈ t) ∧ u.length ≤ HT.sIx t.length t.length hi - HT.sIx t.length 0 lo := by
  refine ⟨(t.drop (HT.sIx t.length 0 lo)).take (HT.sIx t.length t.length hi - HT.sIx t.length 0 lo), ?_, fun c hc => List.mem_of_mem_drop (List.mem_of_mem_take hc), ?_⟩
  · unfold L2.cutS
    rfl
  · rw [List.length_take]
    omega
end Y

/-! what is a pattern, as data -/
namespace Y
open PySem PySem.Spec PyProof.Rows L2 M
def lowB (l : List Nat) : Bool := l.all fun c => decide (97 ≤ c) && decide (c ≤ 122)
theorem lowB_iff {l : List Nat} : lowB l = true ↔ low l := by simp [lowB, low]
def lowD : D → Bool | .str z => lowB z.cps.toList | _ => false
def patL (l : List Nat) : Prop := low l ∧ l.length ≤ 40 ∧ (ordF l).length ≤ 8
def patB (l : List Nat) : Bool := lowB l && decide (l.length ≤ 40) && decide ((ordF l).length ≤ 8)
theorem patB_iff {l : List Nat} : patB l = true ↔ patL l := by simp [patB, patL, lowB_iff, and_assoc]
def patD : D → Bool | .str z => patB z.cps.toList | _ => false
/-- a text that is not too long -/
def szD (d : D) : Prop := ∀ z : Str, d = .str z → z.length ≤ 100000
theorem str_S (z : Str) : z = S z.cps.toList := by cases z; simp [S]
theorem abc_has {c : Nat} : c ∈ abc ↔ 97 ≤ c ∧ c ≤ 122 := ⟨fun h => by
  obtain ⟨i, hi, rfl⟩ := List.mem_map.mp h
  have := List.mem_range.mp hi
  omega, abc_mem⟩
theorem all_bool {α : Type} (l : List α) (f : α → Bool) : boolsD (l.map fun x => PyData.bool (f x)) = some (l.map f) := by
  induction l with
  | nil => rfl
  | cons x l ih => show (boolsD (l.map fun x => PyData.bool (f x))).map _ = _; rw [ih]; rfl
/-- a list or a tuple -/
def sqD (b : Bool) (ds : List D) : D := if b then .tuple ds else .list ds
@[simp] theorem sqD_f {ds : List D} : sqD false ds = .list ds := rfl
@[simp] theorem sqD_t {ds : List D} : sqD true ds = .tuple ds := rfl
/-- what stands in a text -/
def sL : D → List Nat | .str z => z.cps.toList | _ => []
def partB (d : D) : Bool := patD d && !(sL d).isEmpty
def formL (ds : List D) : Bool := decide (ds.length ≤ 20) && ds.all partB && decide ((ordF (ds.flatMap sL)).length ≤ 8)
def formD : D → Bool | .list ds => formL ds | .tuple ds => formL ds | _ => false
def szF : D → Prop | .list ds => ∀ d ∈ ds, szD d | .tuple ds => ∀ d ∈ ds, szD d | _ => True
theorem part_str {d : D} (h : partB d = true) : ∃ l : List Nat, d = .str (S l) ∧ patL l ∧ l ≠ [] := by
  unfold partB at h
  rw [Bool.and_eq_true] at h
  cases d with
  | str z =>
    refine ⟨z.cps.toList, by rw [← str_S], patB_iff.mp h.1, fun e => ?_⟩
    have := h.2
    simp [sL, e] at this
  | _ => simp [patD] at h
theorem parts_str : ∀ {ds : List D}, ds.all partB = true → ∃ ls : List (List Nat), ds = ls.map (fun l => .str (S l)) ∧ ∀ l ∈ ls, patL l ∧ l ≠ []
  | [], _ => ⟨[], rfl, fun _ h => nomatch h⟩
  | d :: ds, h => by
    rw [List.all_cons, Bool.and_eq_true] at h
    obtain ⟨l, rfl, h1, h2⟩ := part_str h.1
    obtain ⟨ls, rfl, h3⟩ := parts_str h.2
    refine ⟨l :: ls, rfl, fun x hx => ?_⟩
    rcases List.mem_cons.mp hx with rfl | hx
    · exact ⟨h1, h2⟩
    · exact h3 x hx
theorem flat_S : ∀ ls : List (List Nat), (ls.map fun l => PyData.str (S l)).flatMap sL = ls.flatten
  | [] => rfl
  | l :: ls => by
    rw [List.map_cons, List.flatMap_cons, flat_S ls]
    rfl
theorem part_S {l : List Nat} : partB (.str (S l)) = true ↔ patL l ∧ l ≠ [] := by
  show (patB l && !l.isEmpty) = true ↔ _
  rw [Bool.and_eq_true, patB_iff]
  cases l <;> simp
theorem sum_le {ls : List (List Nat)} {n : Nat} (h : ∀ l ∈ ls, l.length ≤ n) : (ls.map List.length).sum ≤ n * ls.length := by
  induction ls with
  | nil => simp
  | cons l ls ih =>
    have h1 := h l List.mem_cons_self
    have h2 := ih fun x hx => h x (List.mem_cons_of_mem _ hx)
    rw [List.map_cons, List.sum_cons, List.length_cons, Nat.mul_succ]
    omega
end Y

/-! signs sorted -/
namespace Y
open PySem PySem.Spec PyProof.Rows L2 M
theorem ss_ext : ∀ {l m : List Nat}, l.Pairwise (· < ·) → m.Pairwise (· < ·) → (∀ x, x ∈ l ↔ x ∈ m) → l = m
  | [], [], _, _, _ => rfl
  | [], b :: m, _, _, h => absurd ((h b).mpr List.mem_cons_self) (by simp)
  | a :: l, [], _, _, h => absurd ((h a).mp List.mem_cons_self) (by simp)
  | a :: l, b :: m, h1, h2, h => by
    obtain ⟨a1, a2⟩ := List.pairwise_cons.mp h1
    obtain ⟨b1, b2⟩ := List.pairwise_cons.mp h2
    have e : a = b := by
      rcases List.mem_cons.mp ((h a).mp List.mem_cons_self) with z | z
      · exact z
      · rcases List.mem_cons.mp ((h b).mpr List.mem_cons_self) with y | y
        · exact y.symm
        · have := a1 b y
          have := b1 a z
          omega
    subst e
    rw [ss_ext a2 b2 fun x => ⟨fun hx => ?_, fun hx => ?_⟩]
    · rcases List.mem_cons.mp ((h x).mp (List.mem_cons_of_mem _ hx)) with z | z
      · have := a1 x hx; omega
      · exact z
    · rcases List.mem_cons.mp ((h x).mpr (List.mem_cons_of_mem _ hx)) with z | z
      · have := b1 x hx; omega
      · exact z
theorem ris_le : ∀ (c : Nat) (m : List Nat), risingS (S [c]) (m.map fun c => S [c]) = true → (c :: m).Pairwise (· ≤ ·)
  | c, [], _ => by simp
  | c, d :: m, h => by
    have h : (!ltCps [d] [c] && risingS (S [d]) (m.map fun c => S [c])) = true := h
    rw [Bool.and_eq_true] at h
    have ih := ris_le d m h.2
    have cd : c ≤ d := by
      have := h.1
      simp [ltCps] at this
      omega
    refine List.pairwise_cons.mpr ⟨fun x hx => ?_, ih⟩
    rcases List.mem_cons.mp hx with rfl | hx
    · exact cd
    · have := (List.pairwise_cons.mp ih).1 x hx
      omega
theorem sortedS_le {m : List Nat} (h : sortedS (m.map fun c => S [c]) = true) : m.Pairwise (· ≤ ·) := by
  cases m with
  | nil => exact .nil
  | cons c m => exact ris_le c m h
theorem sgn_inj {a b : Nat} : S [a] = S [b] ↔ a = b := by rw [Y.S_inj]; simp
theorem signs_of {l : List Nat} : ∀ {ys : List Str}, (∀ k ∈ ys, k ∈ l.map fun c => S [c]) → ∃ m : List Nat, ys = m.map fun c => S [c]
  | [], _ => ⟨[], rfl⟩
  | y :: ys, h => by
    obtain ⟨m, rfl⟩ := signs_of (ys := ys) fun k hk => h k (List.mem_cons_of_mem _ hk)
    obtain ⟨c, _, rfl⟩ := List.mem_map.mp (h y List.mem_cons_self)
    exact ⟨c :: m, rfl⟩
theorem lt_of_le {m : List Nat} (h : m.Pairwise (· ≤ ·)) (n : m.Nodup) : m.Pairwise (· < ·) := by
  induction m with
  | nil => exact .nil
  | cons a m ih =>
    obtain ⟨h1, h2⟩ := List.pairwise_cons.mp h
    obtain ⟨n1, n2⟩ := List.nodup_cons.mp n
    refine List.pairwise_cons.mpr ⟨fun x hx => ?_, ih h2 n2⟩
    have := h1 x hx
    have : a ≠ x := fun e => n1 (e ▸ hx)
    omega
theorem mem_sgn {m : List Nat} {c : Nat} : (S [c] ∈ m.map fun c => S [c]) ↔ c ∈ m := by
  rw [List.mem_map]
  exact ⟨fun ⟨x, hx, e⟩ => by rw [← sgn_inj.mp e]; exact hx, fun h => ⟨c, h, rfl⟩⟩
theorem nodup_sgn {m : List Nat} (h : (m.map fun c => S [c]).Nodup) : m.Nodup := by
  unfold List.Nodup at h
  rw [List.pairwise_map] at h
  exact h.imp fun a e => a (by rw [e])
/-- sorted({..}) of signs -/
theorem srt_set {ys : List Str} {l : List Nat} (h1 : sortedS ys = true) (h2 : ys.Nodup) (h3 : ∀ k, k ∈ ys ↔ k ∈ l.map fun c => S [c]) : ∃ m : List Nat, ys = m.map (fun c => S [c]) ∧ m.Pairwise (· < ·) ∧ ∀ c, c ∈ m ↔ c ∈ l := by
  obtain ⟨m, rfl⟩ := signs_of fun k hk => (h3 k).mp hk
  exact ⟨m, rfl, lt_of_le (sortedS_le h1) (nodup_sgn h2), fun c => by rw [← mem_sgn, h3, mem_sgn]⟩
/-- sorted([..]) of different signs -/
theorem srt_list {ys : List Str} {l : List Nat} (h1 : sortedS ys = true) (hp : ys.Perm (l.map fun c => S [c])) (hn : l.Nodup) : ∃ m : List Nat, ys = m.map (fun c => S [c]) ∧ m.Pairwise (· < ·) ∧ ∀ c, c ∈ m ↔ c ∈ l :=
  srt_set h1 (hp.nodup_iff.mpr (by
    unfold List.Nodup
    rw [List.pairwise_map]
    exact hn.imp fun a e => a (sgn_inj.mp e))) fun k => hp.mem_iff
/-- a variable set -/
def ssB (l : List Nat) : Bool := lowB l && decide (l.Pairwise (· < ·))
def vsD : D → Bool | .str z => ssB z.cps.toList | _ => false
theorem lt_len : ∀ {l : List Nat}, l.Pairwise (· < ·) → low l → l.length ≤ 26 := fun {l} h hl => by
  have := nodup_len (h.imp (fun a => Nat.ne_of_lt a) : l.Nodup) (b := abc) fun c hc => abc_mem (hl c hc)
  exact this
end Y
namespace Y
open PySem PySem.Spec PyProof.Rows L2 M
/-- what may be kept of a list -/
theorem wComp_sub {α : Type} {B : D → (Option D → Prop) → Prop} {g : α → D} (l : List α) (p : α → Prop) (f : α → D) (R : List D → Prop) (hB : ∀ a ∈ l, ∀ S : Option D → Prop, (p a → S (some (f a))) → S none → B (g a) S) (h : ∀ l' : List α, l'.Sublist l → (∀ a ∈ l', p a) → R (l'.map f)) : wComp B (l.map g) [] R := by
  have go : ∀ (l : List α) (acc : List D) (R : List D → Prop), (∀ a ∈ l, ∀ S : Option D → Prop, (p a → S (some (f a))) → S none → B (g a) S) → (∀ l' : List α, l'.Sublist l → (∀ a ∈ l', p a) → R (acc ++ l'.map f)) → wComp B (l.map g) acc R := by
    intro l
    induction l with
    | nil => intro acc R _ h; simpa [wComp] using h [] (List.Sublist.refl _) (by simp)
    | cons a l ih =>
      intro acc R hB h
      refine hB a List.mem_cons_self _ (fun pa => ?_) ?_
      · refine ih (acc ++ [f a]) R (fun b hb => hB b (List.mem_cons_of_mem _ hb)) fun l' hs hp => ?_
        have := h (a :: l') (hs.cons_cons a) fun b hb => (List.mem_cons.mp hb).elim (fun e => e ▸ pa) (hp b)
        simpa using this
      · exact ih acc R (fun b hb => hB b (List.mem_cons_of_mem _ hb)) fun l' hs hp => h l' (hs.cons a) hp
  exact go l [] R hB (by simpa using h)
theorem nest_step (l : List Nat) (c : Nat) : nest (l ++ [c]) = nest l ++ c :: nest l := by rw [nest_snoc]; simp
end Y
namespace Y
open PySem PySem.Spec PyProof.Rows L2 M
theorem strs_inj : ∀ {xs ys : List Str}, xs.map PyData.str = ys.map PyData.str → xs = ys
  | [], [], _ => rfl
  | x :: xs, y :: ys, h => by
    injection h with h1 h2
    injection h1 with h1
    rw [h1, strs_inj h2]
  | [], _ :: _, h => by cases h
  | _ :: _, [], h => by cases h
theorem sg_strs (l : List Nat) : l.map sg = (l.map fun c => S [c]).map PyData.str := by rw [List.map_map]; rfl
theorem jn_sgn {m : List Nat} {Q : VQ} (h : m.length ≤ 100000) (q : Q (.str (S m)) .shr) : gJn (.str (S [])) (.list ((m.map fun c => S [c]).map PyData.str)) Q := by
  have e : (m.map fun c => S [c]).map PyData.str = (m.map fun c => [c]).map fun l => .str (S l) := by rw [List.map_map, List.map_map]; rfl
  rw [e]
  have f : (m.map fun c => [c]).flatten = m := by
    clear h q e
    induction m with
    | nil => rfl
    | cons c m ih => rw [List.map_cons, List.flatten_cons, ih]; rfl
  refine gJn_l ?_ ?_
  · rw [← List.length_flatten, f]; simp; omega
  · rw [jnL_nil, f]; exact q
end Y
namespace Y
open PySem PySem.Spec PyProof.Rows L2 M
def ivE (d : D) : Exc := ⟨"InvalidVariables", [("value", d)]⟩
/-- what is left without some letters -/
def wo (l m : List Nat) : List Nat := l.filter fun c => !decide (c ∈ m)
end Y
namespace Y
open PySem PySem.Spec PyProof.Rows L2 M
theorem lay_low : ∀ ms : List (List Nat), (∀ m ∈ ms, low m) → PyData.canLayAll0 (ms.map fun m => .str (S m)) = true ∧ PyData.depthAll (ms.map fun m => .str (S m)) = 0
  | [], _ => ⟨rfl, rfl⟩
  | m :: ms, h => by
    obtain ⟨h1, h2⟩ := lay_low ms fun x hx => h x (List.mem_cons_of_mem _ hx)
    have h3 := low_sok (h m List.mem_cons_self)
    simp [PyData.canLayAll0, PyData.canLay0, PyData.depthAll, PyData.depth, h1, h2, h3]
theorem sh_lows {ms : List (List Nat)} (h : ∀ m ∈ ms, low m) : SeqAt.shaped (.list (ms.map fun m => .str (S m))) = true := by
  obtain ⟨h1, h2⟩ := lay_low ms h
  simp [SeqAt.shaped, PyData.canLay0, PyData.depth, h1, h2]
theorem sh_sgs {l : List Nat} (h : low l) : SeqAt.shaped (.list (l.map sg)) = true := by
  have := sh_lows (ms := l.map fun c => [c]) fun m hm c hc => by
    obtain ⟨d, hd, rfl⟩ := List.mem_map.mp hm
    rw [List.mem_singleton.mp hc]
    exact h d hd
  rw [List.map_map] at this
  exact this
end Y

/-! formulas joined -/
namespace Y
open PySem PySem.Spec PyProof.Rows L2 M
def tlE (n : Nat) : Exc := ⟨"TooLarge", [("limit", .int (n : Nat))]⟩
/-- the letters that are not used -/
def unu (u : List Nat) : List Nat := abc.filter fun c => !decide (c ∈ u)
theorem abc_len : abc.length = 26 := rfl
theorem abc_nodup : abc.Nodup := by decide
theorem unu_len (u : List Nat) : 26 ≤ (unu u).length + u.length := by
  have h1 : abc.length = (abc.filter fun c => decide (c ∈ u)).length + (abc.filter fun c => !decide (c ∈ u)).length := by
    have : ∀ l : List Nat, l.length = (l.filter fun c => decide (c ∈ u)).length + (l.filter fun c => !decide (c ∈ u)).length := fun l => by
      induction l with
      | nil => rfl
      | cons c l ih =>
        by_cases h : c ∈ u
        · simp [h]; omega
        · simp [h]; omega
    exact this abc
  have h2 : (abc.filter fun c => decide (c ∈ u)).length ≤ u.length := nodup_len (abc_nodup.sublist List.filter_sublist) fun x hx => by simpa using (List.mem_filter.mp hx).2
  rw [abc_len] at h1
  unfold unu
  omega
/-- the parts with a letter behind each but the last -/
def jnF : List (List Nat) → List Nat → List Nat
  | [], _ => []
  | [p], _ => p
  | p :: q :: ps, f => p ++ f.take 1 ++ jnF (q :: ps) (f.drop 1)
theorem jnF_zip : ∀ (ps : List (List Nat)) (f : List Nat), f.length + 1 = ps.length → ((ps.zip (f.map (fun c => [c]) ++ [[]])).map fun p => p.1 ++ p.2).flatten = jnF ps f
  | [], _, h => by simp at h
  | [p], [], _ => by simp [jnF]
  | [p], c :: f, h => by simp at h
  | p :: q :: ps, [], h => by simp at h
  | p :: q :: ps, c :: f, h => by
    have ih := jnF_zip (q :: ps) f (by simpa using h)
    rw [List.map_cons, List.cons_append, List.zip_cons_cons, List.map_cons, List.flatten_cons, ih]
    simp [jnF]
/-- by places: a letter ahead of each but the first -/
def jnK (ps : List (List Nat)) (f : List Nat) (k : Nat) : List Nat := ((List.range k).map fun i => (if 0 < i then (f.drop (i - 1)).take 1 else []) ++ ps.getD i []).flatten
theorem jnK_succ {ps : List (List Nat)} {f : List Nat} {k : Nat} : jnK ps f (k + 1) = jnK ps f k ++ ((if 0 < k then (f.drop (k - 1)).take 1 else []) ++ ps.getD k []) := by
  simp [jnK, List.range_succ]
theorem jnK_all : ∀ (ps : List (List Nat)) (f : List Nat), jnK ps f ps.length = jnF ps f
  | [], _ => rfl
  | [p], f => by simp [jnK, jnF]
  | p :: q :: ps, f => by
    have ih := jnK_all (q :: ps) (f.drop 1)
    rw [jnF, ← ih]
    have e : ∀ k : Nat, jnK (p :: q :: ps) f (k + 2) = p ++ f.take 1 ++ jnK (q :: ps) (f.drop 1) (k + 1) := fun k => by
      induction k with
      | zero => simp [jnK, List.range_succ]
      | succ k ih2 =>
        rw [jnK_succ, ih2, jnK_succ (k := k + 1)]
        have e1 : ((f.drop 1).drop (k + 1 - 1)).take 1 = (f.drop (k + 2 - 1)).take 1 := by rw [List.drop_drop]; congr 2; omega
        rw [if_pos (by omega), if_pos (by omega), e1]
        simp [List.append_assoc]
    exact e ps.length
/-- what joined answers -/
def fresh (ps : List (List Nat)) : List Nat := (unu (ordF ps.flatten)).take (ps.length - 1)
def big (ps : List (List Nat)) : Prop := 8 < (ordF ps.flatten).length + (ps.length - 1)
instance (ps : List (List Nat)) : Decidable (big ps) := by unfold big; infer_instance
def jo (ps : List (List Nat)) : List Nat := jnF ps (fresh ps)
theorem fresh_len {ps : List (List Nat)} (h : ¬ big ps) : (fresh ps).length = ps.length - 1 := by
  have := unu_len (ordF ps.flatten)
  unfold big at h
  unfold fresh
  rw [List.length_take]
  omega
/-- patterns one after another -/
def Fo (ps : List (List Nat)) : Prop := ps.length ≤ 20 ∧ (∀ p ∈ ps, patL p ∧ p ≠ []) ∧ (ordF ps.flatten).length ≤ 8
theorem Fo.form {ps : List (List Nat)} (h : Fo ps) (b : Bool) : formD (sqD b (ps.map fun l => .str (S l))) = true := by
  have e : formL (ps.map fun l => .str (S l)) = true := by
    unfold formL
    rw [flat_S, List.length_map, decide_eq_true h.1, decide_eq_true h.2.2]
    simp
    exact fun x hx => part_S.mpr (h.2.1 x hx)
  cases b <;> exact e
theorem jnF_len : ∀ (ps : List (List Nat)) (f : List Nat), (jnF ps f).length ≤ ps.flatten.length + f.length
  | [], _ => by simp [jnF]
  | [p], f => by simp [jnF]
  | p :: q :: ps, f => by
    have ih := jnF_len (q :: ps) (f.drop 1)
    simp only [jnF, List.length_append, List.flatten_cons] at ih ⊢
    rw [List.length_take]
    rw [List.length_drop] at ih
    omega
theorem low_jnF : ∀ {ps : List (List Nat)} {f : List Nat}, (∀ p ∈ ps, low p) → low f → low (jnF ps f)
  | [], _, _, _ => by intro c h; simp [jnF] at h
  | [p], f, h, _ => h p List.mem_cons_self
  | p :: q :: ps, f, h, hf => by
    intro c hc
    simp only [jnF, List.mem_append] at hc
    rcases hc with (hc | hc) | hc
    · exact h p List.mem_cons_self c hc
    · exact hf c (List.mem_of_mem_take hc)
    · exact low_jnF (fun x hx => h x (List.mem_cons_of_mem _ hx)) (fun c hc => hf c (List.mem_of_mem_drop hc)) c hc
theorem low_fresh (ps : List (List Nat)) : low (fresh ps) := fun c hc => abc_has.mp (List.mem_filter.mp (List.mem_of_mem_take hc)).1
theorem zip_ps (ls : List (List Nat)) (f : List Nat) : zipL (ls.map fun l => .str (S l)) ((f.map fun c => PyData.str (S [c])) ++ [.str (S [])]) = (ls.zip (f.map (fun c => [c]) ++ [[]])).map fun p => .tuple [.str (S p.1), .str (S p.2)] := by
  have e : (f.map fun c => PyData.str (S [c])) ++ [PyData.str (S [])] = (f.map (fun c => [c]) ++ [[]]).map fun l => .str (S l) := by
    rw [List.map_append, List.map_map]
    rfl
  rw [e]
  unfold zipL
  rw [List.zip_map, List.map_map]
  rfl
theorem flat_len_le : ∀ {ls : List (List Nat)} {f : List (List Nat)}, ((ls.zip f).map fun p => p.1 ++ p.2).flatten.length ≤ ls.flatten.length + f.flatten.length
  | [], _ => by simp
  | _ :: _, [] => by simp
  | l :: ls, x :: f => by
    have := flat_len_le (ls := ls) (f := f)
    simp only [List.zip_cons_cons, List.map_cons, List.flatten_cons, List.length_append]
    omega
theorem fo_of {ps : List (List Nat)} (h : formL (ps.map fun l => .str (S l)) = true) : Fo ps := by
  unfold formL at h
  rw [Bool.and_eq_true, Bool.and_eq_true, flat_S, List.length_map] at h
  refine ⟨of_decide_eq_true h.1.1, fun p hp => ?_, of_decide_eq_true h.2⟩
  exact part_S.mp (List.all_eq_true.mp h.1.2 _ (List.mem_map.mpr ⟨p, hp, rfl⟩))
theorem Fo.rps {ps : List (List Nat)} (h : Fo ps) : Rps (ps.map fun l => .str (S l)) 8100 0 := by
  refine (rps_all (n := 402) (m := 0) fun d hd => ?_).le ?_ (Nat.le_refl _)
  · obtain ⟨l, hl, rfl⟩ := List.mem_map.mp hd
    have := (h.2.1 l hl).1
    exact rp_str (low_sok this.1) (n := 40) (by rw [S_len]; exact this.2.1)
  · rw [List.length_map]
    have := h.1
    omega
theorem Fo.low {ps : List (List Nat)} (h : Fo ps) : low (jo ps) := low_jnF (fun p hp => (h.2.1 p hp).1.1) (low_fresh ps)
/-- what is answered -/
def joD (ls : List (List Nat)) : D := if big ls then .int 8 else if 40 < (jo ls).length then .int 40 else .str (S (jo ls))
theorem Fo.rpD {ps : List (List Nat)} (h : Fo ps) : Rp (joD ps) 402 0 := by
  unfold joD
  split
  · exact (rp_int (i := 8) (by omega)).le (by omega) (by omega)
  split
  · exact (rp_int (i := 40) (by omega)).le (by omega) (by omega)
  · exact rp_str (low_sok h.low) (n := 40) (by rw [S_len]; omega)
end Y

/-! isolated letters; the parts between them -/
namespace Y
open PySem PySem.Spec PyProof.Rows L2 M
theorem snoc_ind {α : Type} {P : List α → Prop} (h0 : P []) (hs : ∀ l c, P l → P (l ++ [c])) (l : List α) : P l := by
  rw [← List.reverse_reverse l]
  induction l.reverse with
  | nil => exact h0
  | cons c l ih => rw [List.reverse_cons]; exact hs _ _ ih
def ipE (d : D) : Exc := ⟨"InvalidPattern", [("value", d)]⟩
theorem pat_str {d : D} (h : patD d = true) : ∃ l : List Nat, d = .str (S l) ∧ patL l := by
  cases d with
  | str z => exact ⟨z.cps.toList, by rw [← str_S], patB_iff.mp h⟩
  | _ => cases h
theorem sz1 {n : Nat} (h : n ≤ 1000000) : n < sizeLine := Nat.lt_of_le_of_lt h (by decide)
/-- m: the letters that come once, ascending -/
structure Iso (l m : List Nat) : Prop where
  asc : m.Pairwise (· < ·)
  mem : ∀ c, c ∈ m ↔ c ∈ l ∧ l.count c = 1
theorem Iso.eq {l m m' : List Nat} (h : Iso l m) (h' : Iso l m') : m = m' := ss_ext h.asc h'.asc fun x => (h.mem x).trans (h'.mem x).symm
theorem Iso.low {l m : List Nat} (h : Iso l m) (hl : low l) : low m := fun c hc => hl c ((h.mem c).mp hc).1
theorem once_nodup (l : List Nat) : (l.filter fun c => decide (l.count c = 1)).Nodup := by
  refine List.nodup_iff_count.mpr fun c => ?_
  by_cases h : l.count c = 1
  · rw [List.count_filter (by simpa using h), h]
    exact Nat.le_refl 1
  · rw [List.count_eq_zero.mpr fun hm => h (by simpa using (List.mem_filter.mp hm).2)]
    exact Nat.zero_le _
/-- done, begun -/
def prt (m l : List Nat) : List (List Nat) × List Nat := l.foldl (fun st c => if c ∈ m then (st.1 ++ [st.2], []) else (st.1, st.2 ++ [c])) ([], [])
theorem prt_snoc (m l : List Nat) (c : Nat) : prt m (l ++ [c]) = if c ∈ m then ((prt m l).1 ++ [(prt m l).2], []) else ((prt m l).1, (prt m l).2 ++ [c]) := by
  unfold prt
  rw [List.foldl_append]
  rfl
/-- the parts -/
def fr (l m : List Nat) : List (List Nat) := ((prt m l).1 ++ [(prt m l).2]).filter fun p => !p.isEmpty
theorem sp_low : ∀ c : Nat, 97 ≤ c → c ≤ 122 → Unicode.isSpace c = false := by
  intro c h1 h2
  have : ∀ c ∈ List.range' 97 26, Unicode.isSpace c = false := by decide +kernel
  exact this c (List.mem_range'.mpr ⟨c - 97, by omega, by omega⟩)
theorem wdsF_prt (m : List Nat) : ∀ l : List Nat, low l → (wdsF (l.map fun c => if c ∈ m then 32 else c)).1 = (prt m l).1.filter (fun p => !p.isEmpty) ∧ (wdsF (l.map fun c => if c ∈ m then 32 else c)).2 = (prt m l).2 := by
  intro l
  refine snoc_ind (P := fun l => low l → (wdsF (l.map fun c => if c ∈ m then 32 else c)).1 = (prt m l).1.filter (fun p => !p.isEmpty) ∧ (wdsF (l.map fun c => if c ∈ m then 32 else c)).2 = (prt m l).2) (fun _ => ⟨rfl, rfl⟩) (fun l c ih => ?_) l
  · intro hl
    obtain ⟨i1, i2⟩ := ih fun x hx => hl x (List.mem_append_left _ hx)
    have hc := hl c (by simp)
    rw [List.map_append, List.map_cons, List.map_nil, wdsF_snoc, prt_snoc]
    have s32 : Unicode.isSpace 32 = true := by decide +kernel
    by_cases h : c ∈ m
    · simp only [if_pos h, s32, if_true]
      by_cases e : (prt m l).2 = []
      · rw [if_pos (by rw [i2]; exact e)]
        refine ⟨?_, by rw [i2, e]⟩
        rw [List.filter_append, i1, e]
        simp
      · rw [if_neg (by rw [i2]; exact e)]
        refine ⟨?_, rfl⟩
        rw [List.filter_append, i1, i2]
        simp [e]
    · simp only [if_neg h, sp_low c hc.1 hc.2, Bool.false_eq_true, if_false]
      exact ⟨i1, by rw [i2]⟩
theorem wds_fr {l : List Nat} (m : List Nat) (hl : low l) : wds (l.map fun c => if c ∈ m then 32 else c) = fr l m := by
  obtain ⟨h1, h2⟩ := wdsF_prt m l hl
  unfold wds fr
  rw [h1, h2, List.filter_append]
  by_cases e : (prt m l).2 = []
  · rw [if_pos e, e]
    simp
  · rw [if_neg e]
    simp [e]
theorem prt_ok (m : List Nat) : ∀ l : List Nat, (∀ p ∈ (prt m l).1, ∀ c ∈ p, c ∈ l) ∧ (∀ c ∈ (prt m l).2, c ∈ l) ∧ (prt m l).1.length ≤ l.length ∧ (prt m l).1.flatten.length + (prt m l).2.length ≤ l.length := by
  intro l
  refine snoc_ind (P := fun l => (∀ p ∈ (prt m l).1, ∀ c ∈ p, c ∈ l) ∧ (∀ c ∈ (prt m l).2, c ∈ l) ∧ (prt m l).1.length ≤ l.length ∧ (prt m l).1.flatten.length + (prt m l).2.length ≤ l.length) (by simp [prt]) (fun l c ih => ?_) l
  · obtain ⟨h1, h2, h3, h4⟩ := ih
    rw [prt_snoc]
    by_cases h : c ∈ m
    · rw [if_pos h]
      refine ⟨fun p hp x hx => ?_, by simp, by simp; omega, by simp at h4 ⊢; omega⟩
      rcases List.mem_append.mp hp with hp | hp
      · exact List.mem_append_left _ (h1 p hp x hx)
      · rw [List.mem_singleton.mp hp] at hx
        exact List.mem_append_left _ (h2 x hx)
    · rw [if_neg h]
      refine ⟨fun p hp x hx => List.mem_append_left _ (h1 p hp x hx), fun x hx => ?_, by simp; omega, by simp at h4 ⊢; omega⟩
      rcases List.mem_append.mp hx with hx | hx
      · exact List.mem_append_left _ (h2 x hx)
      · rw [List.mem_singleton.mp hx]; simp
theorem fr_mem {l m p : List Nat} (h : p ∈ fr l m) : (∀ c ∈ p, c ∈ l) ∧ p.length ≤ l.length := by
  obtain ⟨h1, h2, h3, h4⟩ := prt_ok m l
  have hp := (List.mem_filter.mp h).1
  rcases List.mem_append.mp hp with hp | hp
  · refine ⟨h1 p hp, ?_⟩
    have : p.length ≤ (prt m l).1.flatten.length := (List.sublist_flatten_of_mem hp).length_le
    omega
  · rw [List.mem_singleton.mp hp]
    exact ⟨h2, by omega⟩
theorem fr_len (l m : List Nat) : (fr l m).length ≤ l.length + 1 := by
  obtain ⟨h1, h2, h3, h4⟩ := prt_ok m l
  refine Nat.le_trans (List.length_filter_le _ _) ?_
  simp
  omega
end Y

local macro_rules | `(tactic| walk_at "side") => `(tactic| first | (with_reducible show (0 : Int) < _; decide) | omega | (dsimp only; omega) | (with_reducible refine Or.inl ⟨?_, ?_⟩ <;> first | decide | omega) | (with_reducible refine Or.inr ⟨?_, ?_⟩ <;> first | decide | omega) | (unfold L2.CMul; omega) | (unfold L2.CDiv; omega) | (unfold L2.CPow; first | decide | (refine ⟨?_, ?_, ?_⟩ <;> first | decide | omega)) | (unfold L2.CMul; first | exact Or.inl ⟨by decide, by decide⟩ | exact Or.inr ⟨by decide, by decide⟩) | (with_reducible rfl) | decide)
local macro_rules | `(tactic| walk_at "go") => `(tactic| first | (refine ⟨_, rfl, ?_⟩) | (refine ⟨_, _, rfl, rfl, (by walk_at "side"), ?_⟩) | (refine ⟨_, _, rfl, rfl, ?_⟩) | (refine ⟨rfl, ?_⟩) | (refine ⟨_, _, rfl, Or.inl (by assumption), ?_⟩) | (refine ⟨_, _, rfl, Or.inr (by assumption), ?_⟩))
local macro_rules | `(tactic| walk_at "run") => `(tactic| repeat walk_at "go")
namespace Law_k69
open PySem PySem.Spec PyProof.Rows L2 M Y Mth
/-! ### the text by places -/
def topS (i : Nat) : Stmt := PySem.Challenge.pw_mustoccur_k69_isolated_variables_and_fra.main.body.getD i (.Pass ⟨0, 0, 0, 0⟩)
abbrev s__law_pen : Stmt := topS 15
theorem sc__law_pen : FnScope ["_law_script"] ["_law_script"] (defScope s__law_pen) := ⟨rfl, rfl, rfl, by decide +kernel, rfl, by decide +kernel, by decide +kernel⟩
abbrev s__law_bad_patterns : Stmt := topS 21
abbrev s__law_parts : Stmt := topS 22
abbrev s_are_variables : Stmt := topS 6
abbrev s_distinct : Stmt := topS 7
abbrev s_fits_pattern : Stmt := topS 8
abbrev s_need_pattern : Stmt := topS 9
abbrev s_isolated_in : Stmt := topS 11
abbrev s_fragments : Stmt := topS 13
abbrev s__law_draw : Stmt := topS 16
theorem sc__law_draw : FnScope ["_law_pen_here", "_law_count", "_law_digit", "_law_index", "_law_cell", "_law_mixed"] ["_law_pen_here", "_law_count"] (defScope s__law_draw) := ⟨rfl, rfl, rfl, by decide +kernel, rfl, by decide +kernel, by decide +kernel⟩
abbrev s__law_pick : Stmt := topS 17
abbrev s__law_drawn_letters : Stmt := topS 18
abbrev s__law_with_isolated : Stmt := topS 23
abbrev s__law_drawn_pattern : Stmt := topS 19
abbrev s_isolated : Stmt := topS 12
abbrev s__law_rejected : Stmt := topS 24
abbrev s__law_distinct : Stmt := topS 20
abbrev s_law : Stmt := topS 25
abbrev s_InvalidPattern___init__ : Stmt := inClass (topS 1) 0
def rels : List (Str × Str × Bool) := [("InvalidPattern", "InvalidPattern", true), ("InvalidPattern", "ValueError", true)]
def nrels : List Str := ["InvalidPattern", "ValueError"]
def exsL : List (Str × Str) := [("InvalidPattern", "value")]
@[simp] theorem rel_InvalidPattern_InvalidPattern : relF rels "InvalidPattern" "InvalidPattern" = some true := by decide +kernel
@[simp] theorem rel_InvalidPattern_ValueError : relF rels "InvalidPattern" "ValueError" = some true := by decide +kernel
@[simp] theorem nrel_InvalidPattern : ("InvalidPattern" : Str) ∈ nrels := by decide +kernel
@[simp] theorem nrel_ValueError : ("ValueError" : Str) ∈ nrels := by decide +kernel
@[simp] theorem exs_InvalidPattern : (("InvalidPattern", "value") : Str × Str) ∈ exsL := by decide +kernel
@[simp] theorem cat_InvalidPattern_1 : catF rels "InvalidPattern" ["InvalidPattern"] = some true := by decide +kernel
/-- what the top has left -/
structure Txt (K : PySem.W.Frag) (mg : Str → Option Value) : Prop where
  f__law_pen : ∃ (f : Addr) (fd : FuncData), mg "_law_pen" = some (.ref f) ∧ Fun K "_law_pen" "_law_pen" s__law_pen f fd
  f__law_bad_patterns : ∃ (f : Addr) (fd : FuncData), mg "_law_bad_patterns" = some (.ref f) ∧ Fun K "_law_bad_patterns" "_law_bad_patterns" s__law_bad_patterns f fd
  f__law_parts : ∃ (f : Addr) (fd : FuncData), mg "_law_parts" = some (.ref f) ∧ Fun K "_law_parts" "_law_parts" s__law_parts f fd
  f_are_variables : ∃ (f : Addr) (fd : FuncData), mg "are_variables" = some (.ref f) ∧ Fun K "are_variables" "are_variables" s_are_variables f fd
  f_distinct : ∃ (f : Addr) (fd : FuncData), mg "distinct" = some (.ref f) ∧ Fun K "distinct" "distinct" s_distinct f fd
  f_fits_pattern : ∃ (f : Addr) (fd : FuncData), mg "fits_pattern" = some (.ref f) ∧ Fun K "fits_pattern" "fits_pattern" s_fits_pattern f fd
  f_need_pattern : ∃ (f : Addr) (fd : FuncData), mg "need_pattern" = some (.ref f) ∧ Fun K "need_pattern" "need_pattern" s_need_pattern f fd
  f_isolated_in : ∃ (f : Addr) (fd : FuncData), mg "isolated_in" = some (.ref f) ∧ Fun K "isolated_in" "isolated_in" s_isolated_in f fd
  f_fragments : ∃ (f : Addr) (fd : FuncData), mg "fragments" = some (.ref f) ∧ Fun K "fragments" "fragments" s_fragments f fd
  f__law_draw : ∃ (f : Addr) (fd : FuncData), mg "_law_draw" = some (.ref f) ∧ Fun K "_law_draw" "_law_draw" s__law_draw f fd
  f__law_pick : ∃ (f : Addr) (fd : FuncData), mg "_law_pick" = some (.ref f) ∧ Fun K "_law_pick" "_law_pick" s__law_pick f fd
  f__law_drawn_letters : ∃ (f : Addr) (fd : FuncData), mg "_law_drawn_letters" = some (.ref f) ∧ Fun K "_law_drawn_letters" "_law_drawn_letters" s__law_drawn_letters f fd
  f__law_with_isolated : ∃ (f : Addr) (fd : FuncData), mg "_law_with_isolated" = some (.ref f) ∧ Fun K "_law_with_isolated" "_law_with_isolated" s__law_with_isolated f fd
  f__law_drawn_pattern : ∃ (f : Addr) (fd : FuncData), mg "_law_drawn_pattern" = some (.ref f) ∧ Fun K "_law_drawn_pattern" "_law_drawn_pattern" s__law_drawn_pattern f fd
  f_isolated : ∃ (f : Addr) (fd : FuncData), mg "isolated" = some (.ref f) ∧ Fun K "isolated" "isolated" s_isolated f fd
  f__law_rejected : ∃ (f : Addr) (fd : FuncData), mg "_law_rejected" = some (.ref f) ∧ Fun K "_law_rejected" "_law_rejected" s__law_rejected f fd
  f__law_distinct : ∃ (f : Addr) (fd : FuncData), mg "_law_distinct" = some (.ref f) ∧ Fun K "_law_distinct" "_law_distinct" s__law_distinct f fd
  f_law : ∃ (f : Addr) (fd : FuncData), mg "law" = some (.ref f) ∧ Fun K "law" "law" s_law f fd
  c_ALPHABET : ∃ u, mg "ALPHABET" = some u ∧ RelV (.str "abcdefghijklmnopqrstuvwxyz") u
  c_MAX_PATTERN : ∃ u, mg "MAX_PATTERN" = some u ∧ RelV (.int 40) u
  c_MAX_VARIABLES : ∃ u, mg "MAX_VARIABLES" = some u ∧ RelV (.int 8) u
  m_ValueError : mg "ValueError" = none
  m_abs : mg "abs" = none
  m_all : mg "all" = none
  m_enumerate : mg "enumerate" = none
  m_isinstance : mg "isinstance" = none
  m_len : mg "len" = none
  m_list : mg "list" = none
  m_min : mg "min" = none
  m_range : mg "range" = none
  m_repr : mg "repr" = none
  m_sorted : mg "sorted" = none
  m_str : mg "str" = none
  x_InvalidPattern : ExTxt K mg "InvalidPattern" "value" "value" "InvalidPattern.__init__" s_InvalidPattern___init__ "ValueError" "ValueError.__new__" "ValueError.__init__" [.type "ValueError", .type "Exception", .type "BaseException", .type "object"]
  r_InvalidPattern_InvalidPattern : RelOk K mg "InvalidPattern" "InvalidPattern" true
  r_InvalidPattern_ValueError : RelOk K mg "InvalidPattern" "ValueError" true
  nr_InvalidPattern : NrelOk K mg "InvalidPattern"
  nr_ValueError : NrelOk K mg "ValueError"
/-! ### promises -/
def badP : List D := [.none, .bool true, .int 0, .int 7, .tuple [], .list [], .list [.str "a"], .tuple [.str "a", .str "b"], .dict [], .dict [(.str "a", .str "b")], .str "A", .str "a b", .str "ab.", .str "a1", .str ".", .str "a\n", .str (S (List.replicate 41 97)), .str "abcdefghi", .str (S (List.replicate 21 [97, 98]).flatten), .str "abcdefghabcdefghz"]
def c__law_bad_patterns : Ct := mkC (fun _ : Unit => []) (fun _ => True) (fun _ r k => r = .list badP ∧ k = .own) nox
theorem m__law_bad_patterns : ∀ (as : List Ar) (Q Q' : VQ) (E E' : XQ), (∀ d k, Q d k → Q' d k) → (∀ e, E e → E' e) → c__law_bad_patterns as Q E → c__law_bad_patterns as Q' E' := mkC_mono
theorem l__law_bad_patterns : ∀ (as : List Ar) (Q : VQ) (E : XQ), c__law_bad_patterns as Q E → as.length = 0 := by
  rintro _ _ _ ⟨_, rfl, _⟩
  rfl
def c__law_parts : Ct := mkC (fun x : List Nat × List Nat => [.v (.str (S x.1)), .v (.str (S x.2))]) (fun x => x.1.length ≤ 40 ∧ low x.1) (fun x r k => r = .list ((fr x.1 x.2).map fun p => .str (S p)) ∧ k = .own) nox
theorem m__law_parts : ∀ (as : List Ar) (Q Q' : VQ) (E E' : XQ), (∀ d k, Q d k → Q' d k) → (∀ e, E e → E' e) → c__law_parts as Q E → c__law_parts as Q' E' := mkC_mono
theorem l__law_parts : ∀ (as : List Ar) (Q : VQ) (E : XQ), c__law_parts as Q E → as.length = 2 := by
  rintro _ _ _ ⟨_, rfl, _⟩
  rfl
def c_are_variables : Ct := mkC (fun d : D => [.v d]) szD (fun d r k => r = .bool (lowD d) ∧ k = .shr) nox
theorem m_are_variables : ∀ (as : List Ar) (Q Q' : VQ) (E E' : XQ), (∀ d k, Q d k → Q' d k) → (∀ e, E e → E' e) → c_are_variables as Q E → c_are_variables as Q' E' := mkC_mono
theorem l_are_variables : ∀ (as : List Ar) (Q : VQ) (E : XQ), c_are_variables as Q E → as.length = 1 := by
  rintro _ _ _ ⟨_, rfl, _⟩
  rfl
def c_distinct : Ct := mkC (fun l : List Nat => [.v (.str (S l))]) (fun l => l.length ≤ 100000) (fun l r k => r = .str (S (ordF l)) ∧ k = .shr) nox
theorem m_distinct : ∀ (as : List Ar) (Q Q' : VQ) (E E' : XQ), (∀ d k, Q d k → Q' d k) → (∀ e, E e → E' e) → c_distinct as Q E → c_distinct as Q' E' := mkC_mono
theorem l_distinct : ∀ (as : List Ar) (Q : VQ) (E : XQ), c_distinct as Q E → as.length = 1 := by
  rintro _ _ _ ⟨_, rfl, _⟩
  rfl
def c_fits_pattern : Ct := mkC (fun d : D => [.v d]) szD (fun d r k => r = .bool (patD d) ∧ k = .shr) nox
theorem m_fits_pattern : ∀ (as : List Ar) (Q Q' : VQ) (E E' : XQ), (∀ d k, Q d k → Q' d k) → (∀ e, E e → E' e) → c_fits_pattern as Q E → c_fits_pattern as Q' E' := mkC_mono
theorem l_fits_pattern : ∀ (as : List Ar) (Q : VQ) (E : XQ), c_fits_pattern as Q E → as.length = 1 := by
  rintro _ _ _ ⟨_, rfl, _⟩
  rfl
-- RAISES
def c_need_pattern : Ct := mkC (fun d : D => [.v d]) szD (fun d r k => patD d = true ∧ r = .none ∧ k = .shr) (fun d e => patD d = false ∧ e = ipE d)
theorem m_need_pattern : ∀ (as : List Ar) (Q Q' : VQ) (E E' : XQ), (∀ d k, Q d k → Q' d k) → (∀ e, E e → E' e) → c_need_pattern as Q E → c_need_pattern as Q' E' := mkC_mono
theorem l_need_pattern : ∀ (as : List Ar) (Q : VQ) (E : XQ), c_need_pattern as Q E → as.length = 1 := by
  rintro _ _ _ ⟨_, rfl, _⟩
  rfl
def c_isolated_in : Ct := mkD (fun l : List Nat => [.v (.str (S l))]) (fun l => l.length ≤ 40) (fun l m => Iso l m) (fun _ m => .str (S m)) .shr
theorem m_isolated_in : ∀ (as : List Ar) (Q Q' : VQ) (E E' : XQ), (∀ d k, Q d k → Q' d k) → (∀ e, E e → E' e) → c_isolated_in as Q E → c_isolated_in as Q' E' := mkC_mono
theorem l_isolated_in : ∀ (as : List Ar) (Q : VQ) (E : XQ), c_isolated_in as Q E → as.length = 1 := by
  rintro _ _ _ ⟨_, rfl, _⟩
  rfl
-- RAISES
def c_fragments : Ct := mkC (fun d : D => [.v d]) szD (fun d r k => ∃ l m, d = .str (S l) ∧ patL l ∧ Iso l m ∧ r = .list ((fr l m).map fun p => .str (S p)) ∧ k = .own) (fun d e => patD d = false ∧ e = ipE d)
theorem m_fragments : ∀ (as : List Ar) (Q Q' : VQ) (E E' : XQ), (∀ d k, Q d k → Q' d k) → (∀ e, E e → E' e) → c_fragments as Q E → c_fragments as Q' E' := mkC_mono
theorem l_fragments : ∀ (as : List Ar) (Q : VQ) (E : XQ), c_fragments as Q E → as.length = 1 := by
  rintro _ _ _ ⟨_, rfl, _⟩
  rfl
@[simp] theorem items_l {ds : List D} : itemsD (.list ds) = some ds := rfl
@[simp] theorem items_t {ds : List D} : itemsD (.tuple ds) = some ds := rfl
@[simp] theorem items_s {l : List Nat} : itemsD (.str (S l)) = some (l.map sg) := rfl
def c__law_pick : Ct := mkC (fun d : D => [.pen, .v d]) (fun d => ∃ ds, itemsD d = some ds ∧ ds ≠ [] ∧ ds.length < 1000000) (fun d x k => (∃ ds, itemsD d = some ds ∧ x ∈ ds) ∧ k = .shr) nox
theorem m__law_pick : ∀ (as : List Ar) (Q Q' : VQ) (E E' : XQ), (∀ d k, Q d k → Q' d k) → (∀ e, E e → E' e) → c__law_pick as Q E → c__law_pick as Q' E' := mkC_mono
theorem l__law_pick : ∀ (as : List Ar) (Q : VQ) (E : XQ), c__law_pick as Q E → as.length = 2 := by
  rintro _ _ _ ⟨_, rfl, _⟩
  rfl
def c__law_drawn_letters : Ct := mkD (fun n : Nat => [.pen, .v (.int (n : Nat))]) (fun n => n ≤ 26) (fun n (l : List Nat) => l.length = n ∧ low l ∧ l.Nodup) (fun _ l => .str (S l)) .shr
theorem m__law_drawn_letters : ∀ (as : List Ar) (Q Q' : VQ) (E E' : XQ), (∀ d k, Q d k → Q' d k) → (∀ e, E e → E' e) → c__law_drawn_letters as Q E → c__law_drawn_letters as Q' E' := mkC_mono
theorem l__law_drawn_letters : ∀ (as : List Ar) (Q : VQ) (E : XQ), c__law_drawn_letters as Q E → as.length = 2 := by
  rintro _ _ _ ⟨_, rfl, _⟩
  rfl
def c__law_with_isolated : Ct := mkD (fun _ : Unit => [.pen]) (fun _ => True) (fun _ (l : List Nat) => patL l) (fun _ l => .str (S l)) .shr
theorem m__law_with_isolated : ∀ (as : List Ar) (Q Q' : VQ) (E E' : XQ), (∀ d k, Q d k → Q' d k) → (∀ e, E e → E' e) → c__law_with_isolated as Q E → c__law_with_isolated as Q' E' := mkC_mono
theorem l__law_with_isolated : ∀ (as : List Ar) (Q : VQ) (E : XQ), c__law_with_isolated as Q E → as.length = 1 := by
  rintro _ _ _ ⟨_, rfl, _⟩
  rfl
def c__law_drawn_pattern : Ct := mkD (fun x : Nat × Nat => [.pen, .v (.int (x.1 : Nat)), .v (.int (x.2 : Nat))]) (fun x => x.1 ≤ 40 ∧ 0 < x.2 ∧ x.2 ≤ 8) (fun _ (l : List Nat) => patL l) (fun _ l => .str (S l)) .shr
theorem m__law_drawn_pattern : ∀ (as : List Ar) (Q Q' : VQ) (E E' : XQ), (∀ d k, Q d k → Q' d k) → (∀ e, E e → E' e) → c__law_drawn_pattern as Q E → c__law_drawn_pattern as Q' E' := mkC_mono
theorem l__law_drawn_pattern : ∀ (as : List Ar) (Q : VQ) (E : XQ), c__law_drawn_pattern as Q E → as.length = 3 := by
  rintro _ _ _ ⟨_, rfl, _⟩
  rfl
-- RAISES
def c_isolated : Ct := mkC (fun d : D => [.v d]) szD (fun d r k => ∃ l m, d = .str (S l) ∧ patL l ∧ Iso l m ∧ r = .str (S m) ∧ k = .shr) (fun d e => patD d = false ∧ e = ipE d)
theorem m_isolated : ∀ (as : List Ar) (Q Q' : VQ) (E E' : XQ), (∀ d k, Q d k → Q' d k) → (∀ e, E e → E' e) → c_isolated as Q E → c_isolated as Q' E' := mkC_mono
theorem l_isolated : ∀ (as : List Ar) (Q : VQ) (E : XQ), c_isolated as Q E → as.length = 1 := by
  rintro _ _ _ ⟨_, rfl, _⟩
  rfl
def c__law_rejected : Lt2 := l2C (fun d => ReprC d ∧ SeqAt.shaped (.str d.shown) = true) (fun _ _ _ => False) (fun d e => e = ipE d) (fun _ r k => r = .bool true ∧ k = .shr)
theorem m__law_rejected : ∀ (a a' : D → Ac) (d : D) (Q Q' : VQ), (∀ d R E, (a d).run R E → (a' d).run R E) → (∀ d k, Q d k → Q' d k) → c__law_rejected a d Q → c__law_rejected a' d Q' := l2C_mono
def c__law_distinct : Ct := mkC (fun l : List Nat => [.v (.str (S l))]) (fun l => l.length ≤ 100000) (fun l r k => r = .str (S (ordF l)) ∧ k = .shr) nox
theorem m__law_distinct : ∀ (as : List Ar) (Q Q' : VQ) (E E' : XQ), (∀ d k, Q d k → Q' d k) → (∀ e, E e → E' e) → c__law_distinct as Q E → c__law_distinct as Q' E' := mkC_mono
theorem l__law_distinct : ∀ (as : List Ar) (Q : VQ) (E : XQ), c__law_distinct as Q E → as.length = 1 := by
  rintro _ _ _ ⟨_, rfl, _⟩
  rfl
def tbl : List (Str × Ct) := [("_law_bad_patterns", c__law_bad_patterns), ("_law_parts", c__law_parts), ("are_variables", c_are_variables), ("distinct", c_distinct), ("fits_pattern", c_fits_pattern), ("need_pattern", c_need_pattern), ("isolated_in", c_isolated_in), ("fragments", c_fragments), ("_law_draw", cDraw), ("_law_pick", c__law_pick), ("_law_drawn_letters", c__law_drawn_letters), ("_law_with_isolated", c__law_with_isolated), ("_law_drawn_pattern", c__law_drawn_pattern), ("isolated", c_isolated), ("_law_distinct", c__law_distinct)]
theorem tbl_ok : TblOk tbl := by
  unfold tbl
  refine TblOk.cons m__law_bad_patterns ?_
  refine TblOk.cons m__law_parts ?_
  refine TblOk.cons m_are_variables ?_
  refine TblOk.cons m_distinct ?_
  refine TblOk.cons m_fits_pattern ?_
  refine TblOk.cons m_need_pattern ?_
  refine TblOk.cons m_isolated_in ?_
  refine TblOk.cons m_fragments ?_
  refine TblOk.cons cDraw_mono ?_
  refine TblOk.cons m__law_pick ?_
  refine TblOk.cons m__law_drawn_letters ?_
  refine TblOk.cons m__law_with_isolated ?_
  refine TblOk.cons m__law_drawn_pattern ?_
  refine TblOk.cons m_isolated ?_
  refine TblOk.cons m__law_distinct ?_
  exact TblOk.nil
def tbi : List (Str × Ci) := []
theorem tbi_ok : TbiOk tbi := by
  unfold tbi
  exact TbiOk.nil
def tll : List (Str × Lt) := []
theorem tll_ok : TllOk tll := by
  unfold tll
  exact TllOk.nil
@[irreducible] def C : Str → Ct := tblC tbl
theorem C_eq : C = tblC tbl := by unfold C; rfl
@[irreducible] def I : Str → Ci := tbiC tbi
theorem I_eq : I = tbiC tbi := by unfold I; rfl
@[irreducible] def Lc : Str → Lt := tblL tll
theorem Lc_eq : Lc = tblL tll := by unfold Lc; rfl
def CC : Cts := ⟨C, by rw [C_eq]; exact tbl_ok.mono, I, by rw [I_eq]; exact tbi_ok.mono, Lc, by rw [Lc_eq]; exact tll_ok.mono⟩
@[simp] theorem C__law_bad_patterns : CC.C "_law_bad_patterns" = c__law_bad_patterns := (congrFun C_eq "_law_bad_patterns").trans (by kernel_rfl)
theorem at__law_bad_patterns {as : List Ar} {Q : VQ} {E : XQ} (h : c__law_bad_patterns as Q E) : CC.C "_law_bad_patterns" as Q E := by rw [C__law_bad_patterns]; exact h
@[simp] theorem C__law_parts : CC.C "_law_parts" = c__law_parts := (congrFun C_eq "_law_parts").trans (by kernel_rfl)
theorem at__law_parts {as : List Ar} {Q : VQ} {E : XQ} (h : c__law_parts as Q E) : CC.C "_law_parts" as Q E := by rw [C__law_parts]; exact h
@[simp] theorem C_are_variables : CC.C "are_variables" = c_are_variables := (congrFun C_eq "are_variables").trans (by kernel_rfl)
theorem at_are_variables {as : List Ar} {Q : VQ} {E : XQ} (h : c_are_variables as Q E) : CC.C "are_variables" as Q E := by rw [C_are_variables]; exact h
@[simp] theorem C_distinct : CC.C "distinct" = c_distinct := (congrFun C_eq "distinct").trans (by kernel_rfl)
theorem at_distinct {as : List Ar} {Q : VQ} {E : XQ} (h : c_distinct as Q E) : CC.C "distinct" as Q E := by rw [C_distinct]; exact h
@[simp] theorem C_fits_pattern : CC.C "fits_pattern" = c_fits_pattern := (congrFun C_eq "fits_pattern").trans (by kernel_rfl)
theorem at_fits_pattern {as : List Ar} {Q : VQ} {E : XQ} (h : c_fits_pattern as Q E) : CC.C "fits_pattern" as Q E := by rw [C_fits_pattern]; exact h
@[simp] theorem C_need_pattern : CC.C "need_pattern" = c_need_pattern := (congrFun C_eq "need_pattern").trans (by kernel_rfl)
theorem at_need_pattern {as : List Ar} {Q : VQ} {E : XQ} (h : c_need_pattern as Q E) : CC.C "need_pattern" as Q E := by rw [C_need_pattern]; exact h
@[simp] theorem C_isolated_in : CC.C "isolated_in" = c_isolated_in := (congrFun C_eq "isolated_in").trans (by kernel_rfl)
theorem at_isolated_in {as : List Ar} {Q : VQ} {E : XQ} (h : c_isolated_in as Q E) : CC.C "isolated_in" as Q E := by rw [C_isolated_in]; exact h
@[simp] theorem C_fragments : CC.C "fragments" = c_fragments := (congrFun C_eq "fragments").trans (by kernel_rfl)
theorem at_fragments {as : List Ar} {Q : VQ} {E : XQ} (h : c_fragments as Q E) : CC.C "fragments" as Q E := by rw [C_fragments]; exact h
@[simp] theorem C__law_draw : CC.C "_law_draw" = cDraw := (congrFun C_eq "_law_draw").trans (by kernel_rfl)
theorem at__law_draw {as : List Ar} {Q : VQ} {E : XQ} (h : cDraw as Q E) : CC.C "_law_draw" as Q E := by rw [C__law_draw]; exact h
@[simp] theorem C__law_pick : CC.C "_law_pick" = c__law_pick := (congrFun C_eq "_law_pick").trans (by kernel_rfl)
theorem at__law_pick {as : List Ar} {Q : VQ} {E : XQ} (h : c__law_pick as Q E) : CC.C "_law_pick" as Q E := by rw [C__law_pick]; exact h
@[simp] theorem C__law_drawn_letters : CC.C "_law_drawn_letters" = c__law_drawn_letters := (congrFun C_eq "_law_drawn_letters").trans (by kernel_rfl)
theorem at__law_drawn_letters {as : List Ar} {Q : VQ} {E : XQ} (h : c__law_drawn_letters as Q E) : CC.C "_law_drawn_letters" as Q E := by rw [C__law_drawn_letters]; exact h
@[simp] theorem C__law_with_isolated : CC.C "_law_with_isolated" = c__law_with_isolated := (congrFun C_eq "_law_with_isolated").trans (by kernel_rfl)
theorem at__law_with_isolated {as : List Ar} {Q : VQ} {E : XQ} (h : c__law_with_isolated as Q E) : CC.C "_law_with_isolated" as Q E := by rw [C__law_with_isolated]; exact h
@[simp] theorem C__law_drawn_pattern : CC.C "_law_drawn_pattern" = c__law_drawn_pattern := (congrFun C_eq "_law_drawn_pattern").trans (by kernel_rfl)
theorem at__law_drawn_pattern {as : List Ar} {Q : VQ} {E : XQ} (h : c__law_drawn_pattern as Q E) : CC.C "_law_drawn_pattern" as Q E := by rw [C__law_drawn_pattern]; exact h
@[simp] theorem C_isolated : CC.C "isolated" = c_isolated := (congrFun C_eq "isolated").trans (by kernel_rfl)
theorem at_isolated {as : List Ar} {Q : VQ} {E : XQ} (h : c_isolated as Q E) : CC.C "isolated" as Q E := by rw [C_isolated]; exact h
@[simp] theorem C__law_distinct : CC.C "_law_distinct" = c__law_distinct := (congrFun C_eq "_law_distinct").trans (by kernel_rfl)
theorem at__law_distinct {as : List Ar} {Q : VQ} {E : XQ} (h : c__law_distinct as Q E) : CC.C "_law_distinct" as Q E := by rw [C__law_distinct]; exact h
/-! ### what the defs say -/
def G__law_bad_patterns : Gm := ⟨["_law_found"], defScope s__law_bad_patterns, fun _ => true, [], [], [], [], [], [], [], [], true, true, [], [], false, [], fun _ _ _ _ _ _ => True⟩
def w__law_bad_patterns : Ws := (sCons (sSet [] 0 (wLst (lCons (wCon .none) (lCons (wCon (.bool true)) (lCons (wCon (.int 0)) (lCons (wCon (.int 7)) (lCons (wTup lNil) (lCons (wLst lNil) (lCons (wLst (lCons (wCon (.str "a")) lNil)) (lCons (wTup (lCons (wCon (.str "a")) (lCons (wCon (.str "b")) lNil))) (lCons wDc0 (lCons (wDct (dCons (wCon (.str "a")) (wCon (.str "b")) dNil)) (lCons (wCon (.str "A")) (lCons (wCon (.str "a b")) (lCons (wCon (.str "ab.")) (lCons (wCon (.str "a1")) (lCons (wCon (.str ".")) (lCons (wCon (.str "a\n")) lNil))))))))))))))))))
  (sCons (sRet [] (wBin .Add (wBor 0) (wLst (lCons (wMulS (wCon (.str "a")) (wCon (.int 41))) (lCons (wCon (.str "abcdefghi")) (lCons (wMulS (wCon (.str "ab")) (wCon (.int 21))) (lCons (wCon (.str "abcdefghabcdefghz")) lNil)))))))
  sNil))
theorem p__law_bad_patterns {X : Cx} {xw : Xw} {j : Nat} (c : Cok X xw G__law_bad_patterns j CC) : Pss X xw (defBody s__law_bad_patterns) w__law_bad_patterns := (z_cons c (z_set c [] 0 (e_lst c (l_cons c (e_none c) (l_cons c (e_bool c) (l_cons c (e_int c) (l_cons c (e_int c) (l_cons c (e_tup c (l_nil c)) (l_cons c (e_lst c (l_nil c)) (l_cons c (e_lst c (l_cons c (e_str c) (l_nil c))) (l_cons c (e_tup c (l_cons c (e_str c) (l_cons c (e_str c) (l_nil c)))) (l_cons c (e_dc0 c) (l_cons c (e_dct c (d_cons c (e_str c) (e_str c) (d_nil c))) (l_cons c (e_str c) (l_cons c (e_str c) (l_cons c (e_str c) (l_cons c (e_str c) (l_cons c (e_str c) (l_cons c (e_str c) (l_nil c)))))))))))))))))))
  (z_cons c (z_ret c [] (e_bin c (e_bor c 0) (e_lst c (l_cons c (e_mulS c (e_str c) (e_int c)) (l_cons c (e_str c) (l_cons c (e_mulS c (e_str c) (e_int c)) (l_cons c (e_str c) (l_nil c))))))))
  (z_nil c)))
def k__law_bad_patterns : Nat := w__law_bad_patterns.c
def G__law_parts : Gm := ⟨["_law_pattern", "_law_alone", "_law_found", "_law_part", "_law_sign", "_law_one"], defScope s__law_parts, fun _ => true, [], [], [], [], [], [], [], [], true, true, [], [], false, [], fun _ _ _ _ _ _ => True⟩
def w__law_parts : Ws := (sCons (sPar [] 2 3 (wLst lNil) (wCon (.str "")))
  (sCons (sFor [0] (.nm 4) (iOv (wVar 0)) (sCons (sIf (tOf (wCmp .In (wBor 4) (wBor 1))) (sCons (sApp [3] 2 (wVar 3))
  (sCons (sSet [] 3 (wCon (.str "")))
  sNil)) (sCons (sSet [] 3 (wBin .Add (wBor 3) (wBor 4)))
  sNil))
  sNil))
  (sCons (sRet [3] (wCo (wVar 5) (.nm 5) (iOv (wBin .Add (wBor 2) (wLst (lCons (wVar 3) lNil)))) (tOf (wCmp .NotEq (wBor 5) (wCon (.str ""))))))
  sNil)))
theorem p__law_parts {X : Cx} {xw : Xw} {j : Nat} (c : Cok X xw G__law_parts j CC) : Pss X xw (defBody s__law_parts) w__law_parts := (z_cons c (z_par c [] 2 3 (e_lst c (l_nil c)) (e_str c))
  (z_cons c (z_for c [0] (g_nm c 4) (i_ov c (e_var c 0)) (z_cons c (z_if c (t_cmpE c (e_bor c 4) (e_bor c 1)) (z_cons c (z_app c [3] 2 (e_var c 3))
  (z_cons c (z_set c [] 3 (e_str c))
  (z_nil c))) (z_cons c (z_set c [] 3 (e_bin c (e_bor c 3) (e_bor c 4)))
  (z_nil c)))
  (z_nil c)))
  (z_cons c (z_ret c [3] (e_co c (i_ov c (e_bin c (e_bor c 2) (e_lst c (l_cons c (e_var c 3) (l_nil c))))) (fun c1 => (g_nm c1 5)) (fun c1 => (ts_one c1 (t_cmpE c1 (e_bor c1 5) (e_str c1)))) (fun c1 => (e_var c1 5))))
  (z_nil c))))
def k__law_parts : Nat := w__law_parts.c
def G_are_variables : Gm := ⟨["value", "sign"], defScope s_are_variables, fun _ => true, ["all", "isinstance", "str"], [("ALPHABET", (.str "abcdefghijklmnopqrstuvwxyz"))], [], [], [], [], [], [], true, true, [], [], false, [], fun _ _ _ _ _ _ => True⟩
def w_are_variables : Ws := (sCons (sRet [] (wAnd (wIsi "str" (wBor 0)) (wBt .all (lCons (wCo (wCmp .In (wBor 1) (wCon (.str "abcdefghijklmnopqrstuvwxyz"))) (.nm 1) (iOv (wBor 0)) tYes) lNil))))
  sNil)
theorem p_are_variables {X : Cx} {xw : Xw} {j : Nat} (c : Cok X xw G_are_variables j CC) : Pss X xw (defBody s_are_variables) w_are_variables := (z_cons c (z_ret c [] (e_and c (e_isi c "str" (e_bor c 0)) (e_one c (e_bt c .all (l_cons c (e_co c (i_ov c (e_bor c 0)) (fun c1 => (g_nm c1 1)) (fun c1 => (ts_no c1)) (fun c1 => (e_cmp c1 (e_bor c1 1) (e_glob c1)))) (l_nil c))))))
  (z_nil c))
def k_are_variables : Nat := w_are_variables.c
def G_distinct : Gm := ⟨["pattern", "index", "sign"], defScope s_distinct, fun _ => true, ["enumerate"], [], [], [], [], [], [], [], true, true, [], [], false, [], fun _ _ _ _ _ _ => True⟩
def w_distinct : Ws := (sCons (sRet [] (wMt .join (wCon (.str "")) (wCo (wVar 2) (.tp (.cons (.nm 1) (.cons (.nm 2) .nil))) (iEn (wBor 0)) (tOf (wCmp .Eq (wMt .sindex (wBor 0) (wBor 2)) (wBor 1))))))
  sNil)
theorem p_distinct {X : Cx} {xw : Xw} {j : Nat} (c : Cok X xw G_distinct j CC) : Pss X xw (defBody s_distinct) w_distinct := (z_cons c (z_ret c [] (e_join c (e_str c) (e_co c (i_en c (e_bor c 0)) (fun c1 => (g_tp c1 (g_cons c1 (g_nm c1 1) (g_cons c1 (g_nm c1 2) (g_nil c1))))) (fun c1 => (ts_one c1 (t_cmpE c1 (e_sindex c1 (e_bor c1 0) (e_bor c1 2)) (e_bor c1 1)))) (fun c1 => (e_var c1 2)))))
  (z_nil c))
def k_distinct : Nat := w_distinct.c
def G_fits_pattern : Gm := ⟨["value"], defScope s_fits_pattern, fun _ => true, ["len"], [("MAX_PATTERN", (.int 40)), ("MAX_VARIABLES", (.int 8))], [("distinct", k_distinct), ("are_variables", k_are_variables)], [], [], [], [], [], true, true, [], [], false, [], fun _ _ _ _ _ _ => True⟩
def w_fits_pattern : Ws := (sCons (sIf (tOr (tNt (tOf (wCall CC "are_variables" k_are_variables (aSl 0 aNil)))) (tOf (wCmp .Gt (wBt .len (lCons (wBor 0) lNil)) (wCon (.int 40))))) (sCons (sRet [] (wCon (.bool false)))
  sNil) sNil)
  (sCons (sRet [0] (wCmp .LtE (wBt .len (lCons (wCall CC "distinct" k_distinct (aEx (wVar 0) aNil)) lNil)) (wCon (.int 8))))
  sNil))
theorem p_fits_pattern {X : Cx} {xw : Xw} {j : Nat} (c : Cok X xw G_fits_pattern j CC) : Pss X xw (defBody s_fits_pattern) w_fits_pattern := (z_cons c (z_if c (t_pw c (t_orr c (t_not c (t_ofE c (e_call c (a_sl c 0 (a_nil' c))))) (t_or1' c (t_cmpE c (e_bt c .len (l_cons c (e_bor c 0) (l_nil c))) (e_glob c))))) (z_cons c (z_ret c [] (e_bool c))
  (z_nil c)) (z_nil c))
  (z_cons c (z_ret c [0] (e_cmp c (e_bt c .len (l_cons c (e_call c (a_ex c (e_var c 0) (a_nil' c))) (l_nil c))) (e_glob c)))
  (z_nil c)))
def k_fits_pattern : Nat := w_fits_pattern.c
def G_need_pattern : Gm := ⟨["value"], defScope s_need_pattern, fun _ => true, [], [], [("fits_pattern", k_fits_pattern)], [], [], exsL, [], [], true, true, [], [], false, [], fun _ _ _ _ _ _ => True⟩
def w_need_pattern : Ws := (sCons (sIf (tNt (tOf (wCall CC "fits_pattern" k_fits_pattern (aSl 0 aNil)))) (sCons (sRaise [0] "InvalidPattern" "value" (wVar 0))
  sNil) sNil)
  sNil)
theorem p_need_pattern {X : Cx} {xw : Xw} {j : Nat} (c : Cok X xw G_need_pattern j CC) : Pss X xw (defBody s_need_pattern) w_need_pattern := (z_cons c (z_if c (t_not c (t_ofE c (e_call c (a_sl c 0 (a_nil' c))))) (z_cons c (z_raise c [0] (e_var c 0))
  (z_nil c)) (z_nil c))
  (z_nil c))
def k_need_pattern : Nat := w_need_pattern.c
def G_isolated_in : Gm := ⟨["pattern", "sign"], defScope s_isolated_in, fun _ => true, ["sorted"], [], [], [], [], [], [], [], true, true, [], [], false, [], fun _ _ _ _ _ _ => True⟩
def w_isolated_in : Ws := (sCons (sRet [] (wMt .join (wCon (.str "")) (wSrtL (wCo (wVar 1) (.nm 1) (iOv (wBor 0)) (tOf (wCmp .Eq (wCnt (wBor 0) (wBor 1)) (wCon (.int 1))))))))
  sNil)
theorem p_isolated_in {X : Cx} {xw : Xw} {j : Nat} (c : Cok X xw G_isolated_in j CC) : Pss X xw (defBody s_isolated_in) w_isolated_in := (z_cons c (z_ret c [] (e_join c (e_str c) (e_srtL c (e_co c (i_ov c (e_bor c 0)) (fun c1 => (g_nm c1 1)) (fun c1 => (ts_one c1 (t_cmpE c1 (e_cnt c1 (e_bor c1 0) (e_bor c1 1)) (e_int c1)))) (fun c1 => (e_var c1 1))))))
  (z_nil c))
def k_isolated_in : Nat := w_isolated_in.c
def G_fragments : Gm := ⟨["pattern", "alone", "sign"], defScope s_fragments, fun _ => true, [], [], [("isolated_in", k_isolated_in), ("need_pattern", k_need_pattern)], [], [], [], [], [], true, true, [], [], false, [], fun _ _ _ _ _ _ => True⟩
def w_fragments : Ws := (sCons (sExpr (wCall CC "need_pattern" k_need_pattern (aSl 0 aNil)))
  (sCons (sSet [0] 1 (wCall CC "isolated_in" k_isolated_in (aEx (wVar 0) aNil)))
  (sCons (sRet [] (wWds (wMt .join (wCon (.str "")) (wCo (wIte (tOf (wCmp .In (wBor 2) (wBor 1))) (wCon (.str " ")) (wVar 2)) (.nm 2) (iOv (wBor 0)) tYes))))
  sNil)))
theorem p_fragments {X : Cx} {xw : Xw} {j : Nat} (c : Cok X xw G_fragments j CC) : Pss X xw (defBody s_fragments) w_fragments := (z_cons c (z_expr c (e_call c (a_sl c 0 (a_nil' c))))
  (z_cons c (z_set c [0] 1 (e_call c (a_ex c (e_var c 0) (a_nil' c))))
  (z_cons c (z_ret c [] (e_wds c (e_join c (e_str c) (e_co c (i_ov c (e_bor c 0)) (fun c1 => (g_nm c1 2)) (fun c1 => (ts_no c1)) (fun c1 => (e_ite c1 (t_cmpE c1 (e_bor c1 2) (e_bor c1 1)) (e_str c1) (e_var c1 2)))))))
  (z_nil c))))
def k_fragments : Nat := w_fragments.c
def G__law_pick : Gm := ⟨["_law_pen_here", "_law_options"], defScope s__law_pick, fun _ => true, ["len"], [], [("_law_draw", 1)], [], [], [], [], [], true, true, [], [], false, [], fun _ _ _ _ _ _ => True⟩
def w__law_pick : Ws := (sCons (sRet [] (wIx (wBor 1) (wCall CC "_law_draw" 1 (aSl 0 (aEx (wBt .len (lCons (wBor 1) lNil)) aNil)))))
  sNil)
theorem p__law_pick {X : Cx} {xw : Xw} {j : Nat} (c : Cok X xw G__law_pick j CC) : Pss X xw (defBody s__law_pick) w__law_pick := (z_cons c (z_ret c [] (e_ix c (e_bor c 1) (e_call c (a_sl c 0 (a_ex c (e_bt c .len (l_cons c (e_bor c 1) (l_nil c))) (a_nil' c))))))
  (z_nil c))
def k__law_pick : Nat := w__law_pick.c
def G__law_drawn_letters : Gm := ⟨["_law_pen_here", "_law_count", "_law_first", "_law_step", "_law_k"], defScope s__law_drawn_letters, fun _ => true, ["range"], [], [("_law_pick", k__law_pick), ("_law_draw", 1)], [], [], [], [], [], true, true, [], [], false, [], fun _ _ _ _ _ _ => True⟩
def w__law_drawn_letters : Ws := (sCons (sTset [] (.tp (.cons (.nm 2) (.cons (.nm 3) .nil))) (wTup (lCons (wCall CC "_law_draw" 1 (aSl 0 (aEx (wCon (.int 26)) aNil))) (lCons (wCall CC "_law_pick" k__law_pick (aSl 0 (aEx (wLst (lCons (wCon (.int 1)) (lCons (wCon (.int 3)) (lCons (wCon (.int 5)) (lCons (wCon (.int 7)) (lCons (wCon (.int 9)) (lCons (wCon (.int 11)) (lCons (wCon (.int 15)) (lCons (wCon (.int 17)) (lCons (wCon (.int 19)) (lCons (wCon (.int 21)) (lCons (wCon (.int 23)) (lCons (wCon (.int 25)) lNil))))))))))))) aNil))) lNil))))
  (sCons (sRet [] (wMt .join (wCon (.str "")) (wCo (wIx (wCon (.str "abcdefghijklmnopqrstuvwxyz")) (wBin .Mod (wBin .Add (wBor 2) (wBin .Mult (wBor 3) (wBor 4))) (wCon (.int 26)))) (.nm 4) (iR1 (wBor 1)) tYes)))
  sNil))
theorem p__law_drawn_letters {X : Cx} {xw : Xw} {j : Nat} (c : Cok X xw G__law_drawn_letters j CC) : Pss X xw (defBody s__law_drawn_letters) w__law_drawn_letters := (z_cons c (z_tsetT c [] (g_tp c (g_cons c (g_nm c 2) (g_cons c (g_nm c 3) (g_nil c)))) (e_tup c (l_cons c (e_call c (a_sl c 0 (a_ex c (e_int c) (a_nil' c)))) (l_cons c (e_call c (a_sl c 0 (a_ex c (e_lst c (l_cons c (e_int c) (l_cons c (e_int c) (l_cons c (e_int c) (l_cons c (e_int c) (l_cons c (e_int c) (l_cons c (e_int c) (l_cons c (e_int c) (l_cons c (e_int c) (l_cons c (e_int c) (l_cons c (e_int c) (l_cons c (e_int c) (l_cons c (e_int c) (l_nil c)))))))))))))) (a_nil' c)))) (l_nil c)))))
  (z_cons c (z_ret c [] (e_join c (e_str c) (e_co c (i_r1 c (e_bor c 1)) (fun c1 => (g_nm c1 4)) (fun c1 => (ts_no c1)) (fun c1 => (e_ix c1 (e_str c1) (e_bin c1 (e_bin c1 (e_bor c1 2) (e_bin c1 (e_bor c1 3) (e_bor c1 4))) (e_int c1)))))))
  (z_nil c)))
def k__law_drawn_letters : Nat := w__law_drawn_letters.c
def G__law_with_isolated : Gm := ⟨["_law_pen_here", "_law_letters", "_law_few", "_law_pattern", "_law_sign", "_law_k"], defScope s__law_with_isolated, fun _ => true, ["len", "range"], [], [("_law_draw", 1), ("_law_pick", k__law_pick), ("_law_drawn_letters", k__law_drawn_letters)], [], [], [], [], [], true, true, [], [], false, [], fun _ _ _ _ _ _ => True⟩
def w__law_with_isolated : Ws := (sCons (sSet [] 1 (wCall CC "_law_drawn_letters" k__law_drawn_letters (aSl 0 (aEx (wCon (.int 8)) aNil))))
  (sCons (sSet [] 2 (wBin .Add (wCon (.int 1)) (wCall CC "_law_draw" 1 (aSl 0 (aEx (wCon (.int 5)) aNil)))))
  (sCons (sSet [] 3 (wCo (wCall CC "_law_pick" k__law_pick (aSl 0 (aEx (wSl (wBor 1) oNo (oSo (wBor 2))) aNil))) (.nm 5) (iR1 (wCall CC "_law_draw" 1 (aSl 0 (aEx (wCon (.int 36)) aNil)))) tYes))
  (sCons (sFor [] (.nm 4) (iOv (wSl (wBor 1) (oSo (wBor 2)) (oSo (wBin .Add (wBor 2) (wCall CC "_law_draw" 1 (aSl 0 (aEx (wCon (.int 4)) aNil))))))) (sCons (sIns [4] 3 (wCall CC "_law_draw" 1 (aSl 0 (aEx (wBin .Add (wBt .len (lCons (wBor 3) lNil)) (wCon (.int 1))) aNil))) (wVar 4))
  sNil))
  (sCons (sRet [] (wMt .join (wCon (.str "")) (wBor 3)))
  sNil)))))
theorem p__law_with_isolated {X : Cx} {xw : Xw} {j : Nat} (c : Cok X xw G__law_with_isolated j CC) : Pss X xw (defBody s__law_with_isolated) w__law_with_isolated := (z_cons c (z_set c [] 1 (e_call c (a_sl c 0 (a_ex c (e_int c) (a_nil' c)))))
  (z_cons c (z_set c [] 2 (e_bin c (e_int c) (e_call c (a_sl c 0 (a_ex c (e_int c) (a_nil' c))))))
  (z_cons c (z_setCo c [] 3 (i_r1 c (e_call c (a_sl c 0 (a_ex c (e_int c) (a_nil' c))))) (fun c1 => (g_nm c1 5)) (fun c1 => (ts_no c1)) (fun c1 => (e_call c1 (a_sl c1 0 (a_ex c1 (e_sl c1 (e_bor c1 1) (o_none c1) (o_some c1 (e_bor c1 2))) (a_nil' c1))))))
  (z_cons c (z_for c [] (g_nm c 4) (i_ov c (e_sl c (e_bor c 1) (o_some c (e_bor c 2)) (o_some c (e_bin c (e_bor c 2) (e_call c (a_sl c 0 (a_ex c (e_int c) (a_nil' c)))))))) (z_cons c (z_ins c [4] 3 (e_call c (a_sl c 0 (a_ex c (e_bin c (e_bt c .len (l_cons c (e_bor c 3) (l_nil c))) (e_int c)) (a_nil' c)))) (e_var c 4))
  (z_nil c)))
  (z_cons c (z_ret c [] (e_join c (e_str c) (e_bor c 3)))
  (z_nil c))))))
def k__law_with_isolated : Nat := w__law_with_isolated.c
def G__law_drawn_pattern : Gm := ⟨["_law_pen_here", "_law_size", "_law_count", "_law_letters", "_law_k"], defScope s__law_drawn_pattern, fun _ => true, ["range"], [], [("_law_pick", k__law_pick), ("_law_drawn_letters", k__law_drawn_letters)], [], [], [], [], [], true, true, [], [], false, [], fun _ _ _ _ _ _ => True⟩
def w__law_drawn_pattern : Ws := (sCons (sSet [2] 3 (wCall CC "_law_drawn_letters" k__law_drawn_letters (aSl 0 (aEx (wVar 2) aNil))))
  (sCons (sRet [3] (wMt .join (wCon (.str "")) (wCo (wCall CC "_law_pick" k__law_pick (aSl 0 (aEx (wVar 3) aNil))) (.nm 4) (iR1 (wBor 1)) tYes)))
  sNil))
theorem p__law_drawn_pattern {X : Cx} {xw : Xw} {j : Nat} (c : Cok X xw G__law_drawn_pattern j CC) : Pss X xw (defBody s__law_drawn_pattern) w__law_drawn_pattern := (z_cons c (z_set c [2] 3 (e_call c (a_sl c 0 (a_ex c (e_var c 2) (a_nil' c)))))
  (z_cons c (z_ret c [3] (e_join c (e_str c) (e_co c (i_r1 c (e_bor c 1)) (fun c1 => (g_nm c1 4)) (fun c1 => (ts_no c1)) (fun c1 => (e_call c1 (a_sl c1 0 (a_ex c1 (e_var c1 3) (a_nil' c1))))))))
  (z_nil c)))
def k__law_drawn_pattern : Nat := w__law_drawn_pattern.c
def G_isolated : Gm := ⟨["pattern"], defScope s_isolated, fun _ => true, [], [], [("isolated_in", k_isolated_in), ("need_pattern", k_need_pattern)], [], [], [], [], [], true, true, [], [], false, [], fun _ _ _ _ _ _ => True⟩
def w_isolated : Ws := (sCons (sExpr (wCall CC "need_pattern" k_need_pattern (aSl 0 aNil)))
  (sCons (sRet [0] (wCall CC "isolated_in" k_isolated_in (aEx (wVar 0) aNil)))
  sNil))
theorem p_isolated {X : Cx} {xw : Xw} {j : Nat} (c : Cok X xw G_isolated j CC) : Pss X xw (defBody s_isolated) w_isolated := (z_cons c (z_expr c (e_call c (a_sl c 0 (a_nil' c))))
  (z_cons c (z_ret c [0] (e_call c (a_ex c (e_var c 0) (a_nil' c))))
  (z_nil c)))
def k_isolated : Nat := w_isolated.c
def G__law_rejected : Gm := ⟨["_law_call", "_law_value", "_law_caught", "e"], defScope s__law_rejected, fun _ => true, ["isinstance", "repr"], [], [], [], [], exsL, rels, nrels, true, true, [], [], false, [], fun _ _ _ _ _ _ => True⟩
def ma__law_rejected : Nat := 1000 + k_fragments + k_isolated
def w__law_rejected (gv : Gv) (act : D → Ac) : Ws := (sCons (sSet [] 2 (wCon .none))
  (sCons (sTryB [] nxE gv act ma__law_rejected rels ["InvalidPattern"] 3 2)
  (sCons (sRet [] (wAnd (wExI rels nrels 2 "ValueError") (wCmp .Eq (wBt .repr (lCons (wExF exsL 2 "value") lNil)) (wBt .repr (lCons (wBor 1) lNil)))))
  sNil)))
theorem p__law_rejected {X : Cx} {xw : Xw} {j : Nat} {gv : Gv} {act : D → Ac} (c : Cok X xw G__law_rejected j CC) (hact : ActOk2 X xw gv "_law_call" "_law_value" act ma__law_rejected) : Pss X xw (defBody s__law_rejected) (w__law_rejected gv act) := (z_cons c (z_set c [] 2 (e_none c))
  (z_cons c (z_tryBE c hact [] 3 2 (t1 c))
  (z_cons c (z_ret c [] (e_and c (e_exI c 2) (e_one c (e_cmp c (e_bt c .repr (l_cons c (e_exF c 2) (l_nil c))) (e_bt c .repr (l_cons c (e_bor c 1) (l_nil c)))))))
  (z_nil c))))
def k__law_rejected : Nat := (w__law_rejected ⟨fun _ _ _ _ => True, fun _ _ _ _ _ _ _ _ h => h⟩ fun _ => ⟨fun _ _ => True, fun _ _ _ _ _ _ h => h⟩).c
def G__law_distinct : Gm := ⟨["_law_string", "_law_found", "_law_sign"], defScope s__law_distinct, fun _ => true, [], [], [], [], [], [], [], [], true, true, [], [], false, [], fun _ _ _ _ _ _ => True⟩
def w__law_distinct : Ws := (sCons (sSet [] 1 (wCon (.str "")))
  (sCons (sFor [0] (.nm 2) (iOv (wVar 0)) (sCons (sIf (tOf (wCmp .NotIn (wBor 2) (wBor 1))) (sCons (sSet [] 1 (wBin .Add (wBor 1) (wBor 2)))
  sNil) sNil)
  sNil))
  (sCons (sRetv 1)
  sNil)))
theorem p__law_distinct {X : Cx} {xw : Xw} {j : Nat} (c : Cok X xw G__law_distinct j CC) : Pss X xw (defBody s__law_distinct) w__law_distinct := (z_cons c (z_set c [] 1 (e_str c))
  (z_cons c (z_for c [0] (g_nm c 2) (i_ov c (e_var c 0)) (z_cons c (z_if c (t_cmpE c (e_bor c 2) (e_bor c 1)) (z_cons c (z_set c [] 1 (e_bin c (e_bor c 1) (e_bor c 2)))
  (z_nil c)) (z_nil c))
  (z_nil c)))
  (z_cons c (z_retv c 1)
  (z_nil c))))
def k__law_distinct : Nat := w__law_distinct.c
def G_law : Gm := ⟨["_law_script", "_law_pen_here", "_law_patterns", "_law_turn", "_law_pattern", "_law_alone", "_law_due", "_law_found", "_law_value", "_law_sign"], defScope s_law, fun _ => true, ["len", "min", "range", "repr", "sorted"], [], [("_law_bad_patterns", k__law_bad_patterns), ("fragments", k_fragments), ("isolated", k_isolated), ("_law_parts", k__law_parts), ("_law_distinct", k__law_distinct), ("_law_drawn_pattern", k__law_drawn_pattern), ("_law_draw", 1), ("_law_with_isolated", k__law_with_isolated)], ["_law_pen"], [], [], [], [], true, true, [], [], false, [], fun P w K mg base j => ((∃ kg, kg + 1 ≤ j ∧ LamTk2 P w K mg base kg "_law_rejected" c__law_rejected k__law_rejected ma__law_rejected) ∧ ∃ kf ps, kf + 1 ≤ j ∧ Cl P w K mg base (L2.CX P w) kf "isolated" ps (spC mg (CC.C "isolated") k_isolated K)) ∧ ((∃ kg, kg + 1 ≤ j ∧ LamTk2 P w K mg base kg "_law_rejected" c__law_rejected k__law_rejected ma__law_rejected) ∧ ∃ kf ps, kf + 1 ≤ j ∧ Cl P w K mg base (L2.CX P w) kf "fragments" ps (spC mg (CC.C "fragments") k_fragments K))⟩
def w_law_K1 : Ws := (sCons (sRet [] (wCon (.bool true)))
  sNil)
def w_law_B1 : Ws := (sCons (sIf (tOr (tNt (tOf (wDgv CC c__law_rejected k__law_rejected m__law_rejected "isolated" (wVar 8)))) (tNt (tOf (wDgv CC c__law_rejected k__law_rejected m__law_rejected "fragments" (wVar 8))))) (sCons (sRet [] (wCon (.bool false)))
  sNil) sNil)
  sNil)
def w_law_K2 : Ws := (sCons (sFor [] (.nm 8) (iOv (wCall CC "_law_bad_patterns" k__law_bad_patterns aNil)) w_law_B1)
  w_law_K1)
def w_law_K3 : Ws := (sCons (sIf (tOf (wCmp .NotEq (wBt .repr (lCons (wCall CC "fragments" k_fragments (aEx (wVar 4) aNil)) lNil)) (wBt .repr (lCons (wBor 6) lNil)))) (sCons (sRet [] (wCon (.bool false)))
  sNil) sNil)
  sNil)
def w_law_K4 : Ws := (sCons (sApp [] 7 (wCon (.str "zz")))
  w_law_K3)
def w_law_K5 : Ws := (sCons (sIf (tOr (tOf (wCmp .NotEq (wBt .repr (lCons (wCall CC "isolated" k_isolated (aEx (wVar 4) aNil)) lNil)) (wBt .repr (lCons (wBor 5) lNil)))) (tOf (wCmp .NotEq (wBt .repr (lCons (wBor 7) lNil)) (wBt .repr (lCons (wBor 6) lNil))))) (sCons (sRet [] (wCon (.bool false)))
  sNil) sNil)
  w_law_K4)
def w_law_B2 : Ws := (sCons (sSet [4] 5 (wMt .join (wCon (.str "")) (wSrtL (wCo (wVar 9) (.nm 9) (iOv (wCall CC "_law_distinct" k__law_distinct (aEx (wVar 4) aNil))) (tOf (wCmp .Eq (wCnt (wBor 4) (wBor 9)) (wCon (.int 1))))))))
  (sCons (sSet [4, 5] 6 (wCall CC "_law_parts" k__law_parts (aEx (wVar 4) (aEx (wVar 5) aNil))))
  (sCons (sSet [4] 7 (wCall CC "fragments" k_fragments (aEx (wVar 4) aNil)))
  w_law_K5)))
def w_law_K6 : Ws := (sCons (sFor [2] (.nm 4) (iOv (wVar 2)) w_law_B2)
  w_law_K2)
def w_law_B3 : Ws := (sCons (sApp [] 2 (wCall CC "_law_with_isolated" k__law_with_isolated (aSl 1 aNil)))
  (sCons (sApp [] 2 (wCall CC "_law_drawn_pattern" k__law_drawn_pattern (aSl 1 (aEx (wCall CC "_law_draw" 1 (aSl 1 (aEx (wCon (.int 41)) aNil))) (aEx (wBin .Add (wCon (.int 1)) (wCall CC "_law_draw" 1 (aSl 1 (aEx (wCon (.int 8)) aNil)))) aNil)))))
  sNil))
def w_law_K7 : Ws := (sCons (sFor [] (.nm 3) (iR1 (wBin .Add (wCon (.int 6)) (wBt .min2 (lCons (wCon (.int 10)) (lCons (wLenS 0) lNil))))) w_law_B3)
  w_law_K6)
def w_law : Ws := (sCons (sMk 1 0)
  (sCons (sSet [] 2 (wLst (lCons (wCon (.str "")) (lCons (wCon (.str "a")) (lCons (wCon (.str "abcdefgh")) (lCons (wCon (.str "aa")) (lCons (wCon (.str "abab")) (lCons (wCon (.str "abcba")) lNil))))))))
  w_law_K7))
theorem p_law {X : Cx} {xw : Xw} {j : Nat} (hE : XwFree xw) (c : Cok X xw G_law j CC) : Pss X xw (defBody s_law) w_law := (z_cons c (z_mk c 1 0 hE)
  (z_cons c (z_set c [] 2 (e_lst c (l_cons c (e_str c) (l_cons c (e_str c) (l_cons c (e_str c) (l_cons c (e_str c) (l_cons c (e_str c) (l_cons c (e_str c) (l_nil c)))))))))
  (z_cons c (z_for c [] (g_nm c 3) (i_r1 c (e_bin c (e_int c) (e_bt c .min2 (l_cons c (e_int c) (l_cons c (e_lenS c 0) (l_nil c)))))) (z_cons c (z_app c [] 2 (e_call c (a_sl c 1 (a_nil' c))))
  (z_cons c (z_app c [] 2 (e_call c (a_sl c 1 (a_ex c (e_call c (a_sl c 1 (a_ex c (e_int c) (a_nil' c)))) (a_ex c (e_bin c (e_int c) (e_call c (a_sl c 1 (a_ex c (e_int c) (a_nil' c))))) (a_nil' c))))))
  (z_nil c))))
  (z_cons c (z_for c [2] (g_nm c 4) (i_ov c (e_var c 2)) (z_cons c (z_set c [4] 5 (e_join c (e_str c) (e_srtL c (e_co c (i_ov c (e_call c (a_ex c (e_var c 4) (a_nil' c)))) (fun c1 => (g_nm c1 9)) (fun c1 => (ts_one c1 (t_cmpE c1 (e_cnt c1 (e_bor c1 4) (e_bor c1 9)) (e_int c1)))) (fun c1 => (e_var c1 9))))))
  (z_cons c (z_set c [4, 5] 6 (e_call c (a_ex c (e_var c 4) (a_ex c (e_var c 5) (a_nil' c)))))
  (z_cons c (z_set c [4] 7 (e_call c (a_ex c (e_var c 4) (a_nil' c))))
  (z_cons c (z_if c (t_pw c (t_orr c (t_cmpE c (e_bt c .repr (l_cons c (e_call c (a_ex c (e_var c 4) (a_nil' c))) (l_nil c))) (e_bt c .repr (l_cons c (e_bor c 5) (l_nil c)))) (t_or1' c (t_cmpE c (e_bt c .repr (l_cons c (e_bor c 7) (l_nil c))) (e_bt c .repr (l_cons c (e_bor c 6) (l_nil c))))))) (z_cons c (z_ret c [] (e_bool c))
  (z_nil c)) (z_nil c))
  (z_cons c (z_app c [] 7 (e_str c))
  (z_cons c (z_if c (t_cmpE c (e_bt c .repr (l_cons c (e_call c (a_ex c (e_var c 4) (a_nil' c))) (l_nil c))) (e_bt c .repr (l_cons c (e_bor c 6) (l_nil c)))) (z_cons c (z_ret c [] (e_bool c))
  (z_nil c)) (z_nil c))
  (z_nil c))))))))
  (z_cons c (z_for c [] (g_nm c 8) (i_ov c (e_call0 c)) (z_cons c (z_if c (t_pw c (t_orr c (t_not c (t_ofE c (e_dgv c (e_var c 8) (fun _ _ _ _ _ _ h => h.1)))) (t_or1' c (t_not c (t_ofE c (e_dgv c (e_var c 8) (fun _ _ _ _ _ _ h => h.2))))))) (z_cons c (z_ret c [] (e_bool c))
  (z_nil c)) (z_nil c))
  (z_nil c)))
  (z_cons c (z_ret c [] (e_bool c))
  (z_nil c)))))))
def k_law : Nat := w_law.c
theorem v__law_bad_patterns : ∀ as (Q : VQ), c__law_bad_patterns as Q XF → wB w__law_bad_patterns G__law_bad_patterns.N as Q := by
  rintro _ Q ⟨_, rfl, -, q, -⟩
  replace q := q _ _ ⟨rfl, rfl⟩
  unfold w__law_bad_patterns G__law_bad_patterns
  simp
  refine ⟨by decide, by decide, by decide, ?_⟩
  have e1 : Txt.mul (Str.ofString "a") 41 = S (List.replicate 41 97) := by decide +kernel
  have e2 : Txt.mul (Str.ofString "ab") 21 = S (List.replicate 21 [97, 98]).flatten := by decide +kernel
  rw [e1, e2]
  exact q
theorem v__law_parts : ∀ as (Q : VQ), c__law_parts as Q XF → wB w__law_parts G__law_parts.N as Q := by
  rintro _ Q ⟨⟨l, m⟩, rfl, ⟨h, hlow⟩, q, -⟩
  replace q := q _ _ ⟨rfl, rfl⟩
  dsimp only at h hlow q
  unfold w__law_parts G__law_parts
  simp
  refine ⟨szl (by omega), wFor_inv (Ws.mono _) _ _ (fun k ρ => ∃ s, ρ = [.val (.str (S l)), .val (.str (S m)), .own (.list ((prt m (l.take k)).1.map fun p => .str (S p))), .val (.str (S (prt m (l.take k)).2)), s, .emp]) ⟨.emp, rfl⟩ ?_ ?_⟩
  · rintro k d ρ hd ⟨s, rfl⟩
    obtain ⟨c, hc, rfl⟩ := map_get hd
    refine ⟨_, rfl, ?_⟩
    have e : l.take (k + 1) = l.take k ++ [c] := by rw [List.take_add_one, hc]; rfl
    obtain ⟨-, -, p3, p4⟩ := prt_ok m (l.take k)
    have l2 := List.length_take_le' k l
    simp only [e, prt_snoc]
    by_cases hm : c ∈ m
    · simp [hm]
      exact sz1 (by omega)
    · simp [hm]
      exact sz0 (by omega)
  · rintro ρ ⟨s, rfl⟩
    obtain ⟨p1, p2, p3, p4⟩ := prt_ok m l
    rw [List.length_map, List.take_length]
    simp
    refine ⟨sz0 (by omega), ?_⟩
    have e : List.map (fun p => PyData.str (S p)) (prt m l).1 ++ [PyData.str (S (prt m l).2)] = ((prt m l).1 ++ [(prt m l).2]).map fun p => PyData.str (S p) := by simp
    rw [e]
    refine wComp_k _ (fun p : List Nat => !p.isEmpty) (fun p => .str (S p)) _ (fun p hp R hR => ?_) q
    have hp' : low p := fun c hc => by
      rcases List.mem_append.mp hp with hp | hp
      · exact hlow c (p1 p hp c hc)
      · rw [List.mem_singleton.mp hp] at hc
        exact hlow c (p2 c hc)
    simp [gCo]
    refine ⟨⟨shape_of_sok (low_sok hp'), by decide +kernel⟩, ?_⟩
    cases p with
    | nil => simpa using hR
    | cons c p =>
      exact ⟨fun _ => by simpa using hR, fun z => by simp at z⟩
theorem v_are_variables : ∀ as (Q : VQ), c_are_variables as Q XF → wB w_are_variables G_are_variables.N as Q := by
  rintro _ Q ⟨d, rfl, h, q, -⟩
  replace q := q _ _ ⟨rfl, rfl⟩
  unfold w_are_variables G_are_variables
  simp
  cases d with
  | str z =>
    have hz := h z rfl
    rw [str_S z] at q hz ⊢
    generalize z.cps.toList = l at *
    rw [S_len] at hz
    simp [abc_str]
    refine ⟨sz0 (by omega), wComp_m l (fun c => .bool (decide (c ∈ abc))) _ (fun c hc R hR => ?_) ?_⟩
    · simp [gCo]
      exact hR
    · simp
      have e : (l.all fun c => decide (c ∈ abc)) = lowD (.str (S l)) := by
        show _ = lowB l
        unfold lowB
        congr 1
        funext c
        rw [← Bool.decide_and]
        exact decide_eq_decide.mpr abc_has
      rw [e]
      exact q
  | _ => exact ⟨fun z => by simp [tyD] at z, fun _ => q⟩
theorem v_distinct : ∀ as (Q : VQ), c_distinct as Q XF → wB w_distinct G_distinct.N as Q := by
  rintro _ Q ⟨l, rfl, h, q, -⟩
  replace q := q _ _ ⟨rfl, rfl⟩
  unfold w_distinct G_distinct
  simp
  refine ⟨Nat.le_trans (by rw [enum_len, List.length_map]; exact h) (by decide), ?_⟩
  have e0 := ds_all l
  rw [show ((S l).cps.toList.map fun c => PyData.str ⟨#[c]⟩) = l.map fun c => PyData.str (S [c]) from rfl] at e0
  refine wComp_filterE (dsF l) e0 (fun d hd T hT => ?_) ?_
  · obtain ⟨i, hi⟩ := List.mem_iff_getElem?.mp hd
    obtain ⟨x, hx, rfl⟩ := enum_some hi
    obtain ⟨c, hc, rfl⟩ := map_get hx
    have hcl := List.mem_of_getElem? hc
    simp [gCo, idx_find hcl]
    have hT : T (if ((l.idxOf c : Nat) : Int) = ((i : Nat) : Int) then some (sg c) else none) := hT
    by_cases z : l.idxOf c = i
    · rw [if_pos (by omega)] at hT
      exact ⟨fun _ => hT, fun n => absurd (show ((l.idxOf c : Nat) : Int) = (i : Nat) by omega) n⟩
    · rw [if_neg (by omega)] at hT
      exact ⟨fun n => absurd (show l.idxOf c = i by omega) z, fun _ => hT⟩
  · simp
    have := len_ord l
    exact ⟨by omega, q⟩
theorem v_fits_pattern : ∀ as (Q : VQ), c_fits_pattern as Q XF → wB w_fits_pattern G_fits_pattern.N as Q := by
  rintro _ Q ⟨d, rfl, h, q, -⟩
  replace q := q _ _ ⟨rfl, rfl⟩
  unfold w_fits_pattern G_fits_pattern
  simp [c_are_variables, c_distinct]
  refine ⟨h, ?_⟩
  cases d with
  | str z =>
    have hz := h z rfl
    rw [str_S z] at q hz ⊢
    generalize z.cps.toList = l at *
    rw [S_len] at hz
    have e : patD (.str (S l)) = patB l := rfl
    rw [e] at q
    have e2 : lowD (.str (S l)) = lowB l := rfl
    rw [e2]
    refine ⟨fun z => ?_, fun z => ?_⟩
    · have e3 : patB l = false := by unfold patB; rw [z]; rfl
      rw [e3] at q
      exact q
    · simp
      have := len_ord l
      refine ⟨sz0 (by omega), fun h4 => ?_, fun h4 => ⟨by omega, sz0 (by omega), ?_⟩⟩
      · have e3 : patB l = false := by unfold patB; rw [decide_eq_false (by omega : ¬ l.length ≤ 40)]; simp
        rw [e3] at q
        exact q
      · have e3 : patB l = decide (((ordF l).length : Int) ≤ 8) := by
          unfold patB
          rw [z, decide_eq_true (by omega : l.length ≤ 40)]
          simp
          omega
        rw [e3] at q
        exact q
  | _ => exact ⟨fun _ => q, fun z => by simp [lowD] at z⟩
theorem v_need_pattern : ∀ as (Q : VQ) (E : XQ), c_need_pattern as Q E → wBE w_need_pattern G_need_pattern.N as Q E := by
  rintro _ Q E ⟨d, rfl, h, q, u⟩
  unfold w_need_pattern G_need_pattern
  simp [c_fits_pattern]
  exact ⟨h, fun z => u _ ⟨z, rfl⟩, fun z => q _ _ ⟨z, rfl, rfl⟩⟩
theorem v_isolated_in : ∀ as (Q : VQ), c_isolated_in as Q XF → wB w_isolated_in G_isolated_in.N as Q := by
  rintro _ Q h
  obtain ⟨l, rfl, h, q⟩ := mkD_iff.mp h
  unfold w_isolated_in G_isolated_in
  simp
  refine ⟨sz0 (by omega), wComp_k l (fun c => decide (l.count c = 1)) sg _ (fun c hc R hR => ?_) ?_⟩
  · simp [gCo, count_one]
    by_cases e : l.count c = 1
    · simpa [e] using hR
    · have e2 : ¬ ((l.count c : Nat) : Int) = 1 := by omega
      simpa [e, e2] using hR
  · have hf := List.length_filter_le (fun c => decide (l.count c = 1)) l
    refine ⟨(l.filter fun c => decide (l.count c = 1)).map fun c => S [c], by rw [sg_strs], by simp; omega, fun ys hp hs => ?_⟩
    obtain ⟨m, rfl, m1, m2⟩ := srt_list hs hp (once_nodup l)
    have hl : m.length = (l.filter fun c => decide (l.count c = 1)).length := by simpa using hp.length_eq
    rw [← sg_strs, mt_join0]
    simp
    exact ⟨by omega, q m ⟨m1, fun c => by rw [m2 c, List.mem_filter]; simp⟩⟩
theorem v_fragments : ∀ as (Q : VQ) (E : XQ), c_fragments as Q E → wBE w_fragments G_fragments.N as Q E := by
  rintro _ Q E ⟨d, rfl, h, q, u⟩
  unfold w_fragments G_fragments
  simp [c_need_pattern, c_isolated_in]
  refine ⟨d, rfl, h, fun r k ⟨hp, _, hk⟩ => ?_, u⟩
  subst hk
  obtain ⟨l, rfl, hl⟩ := pat_str hp
  refine ⟨trivial, l, rfl, hl.2.1, fun m hm => ?_⟩
  replace q := q _ _ ⟨l, m, rfl, hl, hm, rfl, rfl⟩
  have hl2 := hl.2.1
  simp
  have e0 : Str.ofString " " = S [32] := by decide +kernel
  refine ⟨sz0 (by omega), wComp_m l (fun c => .str (S [if c ∈ m then 32 else c])) _ (fun c hc R hR => ?_) ?_⟩
  · simp [gCo, e0]
    by_cases e : c ∈ m
    · simpa [e] using hR
    · simpa [e] using hR
  · have e : l.map (fun c => PyData.str (S [if c ∈ m then 32 else c])) = (l.map fun c => if c ∈ m then 32 else c).map sg := by rw [List.map_map]; rfl
    rw [e, mt_join0]
    simp [words_wds, wds_fr m hl.1]
    refine ⟨by omega, sz0 (by omega), ?_⟩
    have e2 : (List.map PyData.str (List.map S (fr l m))) = (fr l m).map fun p => .str (S p) := by rw [List.map_map]; rfl
    first | exact q | (simpa using q) | (rw [e2]; exact q)
theorem v__law_pick : ∀ as (Q : VQ), c__law_pick as Q XF → wB w__law_pick G__law_pick.N as Q := by
  rintro _ Q ⟨d, rfl, ⟨ds, e, h1, h2⟩, q, -⟩
  have h0 : 0 < ds.length := List.length_pos_iff.mpr h1
  replace q : ∀ x ∈ ds, Q x .shr := fun x hx => q _ _ ⟨⟨ds, e, hx⟩, rfl⟩
  unfold w__law_pick G__law_pick
  cases d with
  | list l =>
    cases e
    simp [cDraw]
    refine ⟨by omega, by omega, fun k k0 k1 => ?_⟩
    obtain ⟨x, hx⟩ := get_of_lt (l := ds) (k := k.toNat) (by omega)
    simp [atI_nn k0, hx]
    exact q x (List.mem_of_getElem? hx)
  | tuple l =>
    cases e
    simp [cDraw]
    refine ⟨by omega, by omega, fun k k0 k1 => ?_⟩
    obtain ⟨x, hx⟩ := get_of_lt (l := ds) (k := k.toNat) (by omega)
    simp [atI_nn k0, hx]
    exact q x (List.mem_of_getElem? hx)
  | str z =>
    rw [← S_of z] at e ⊢
    generalize z.cps.toList = l at *
    cases e
    have e9 : (S l).cps.size = l.length := by simp [S]
    simp [e9] at h0 h2
    simp [cDraw]
    refine ⟨sz0 (by omega), h0, by omega, fun k k0 k1 => ?_⟩
    obtain ⟨x, hx⟩ := get_of_lt (l := l) (k := k.toNat) (by omega)
    simp [atI_nn k0, hx]
    exact ⟨sz0 (by omega), q _ (List.mem_map.mpr ⟨x, List.mem_of_getElem? hx, rfl⟩)⟩
  | _ => cases e
theorem v__law_drawn_letters : ∀ as (Q : VQ), c__law_drawn_letters as Q XF → wB w__law_drawn_letters G__law_drawn_letters.N as Q := by
  rintro _ Q h
  obtain ⟨n, rfl, h, q⟩ := mkD_iff.mp h
  unfold w__law_drawn_letters G__law_drawn_letters
  have go : ∀ s : Int, s ∈ ([1, 3, 5, 7, 9, 11, 15, 17, 19, 21, 23, 25] : List Int) → ∀ k : Int, 0 ≤ k → k < 26 → (n : Int) < 4611686018427387904 ∧ (rng 0 n).length ≤ sizeLine ∧
      wComp (gCo (Tg.nm 4) [Sl.pen, Sl.val (.int (n : Nat)), Sl.val (.int k), Sl.val (.int s), Sl.emp] Y.tYes (wIx (wCon (.str (Str.ofString "abcdefghijklmnopqrstuvwxyz"))) (wBin .Mod (wBin .Add (wBor 2) (wBin .Mult (wBor 3) (wBor 4))) (wCon (.int 26))))) (rng 0 n) [] fun rs =>
        (mtD Mt.join (.str (S [])) [.list rs]).to fun d k => ¬k = Kd.bor ∧ Q d k := by
    intro s hs k k0 k1
    have hs2 : 0 < s ∧ s ≤ 25 := by
      simp only [List.mem_cons, List.not_mem_nil, or_false] at hs
      omega
    refine ⟨by omega, rng_ok (by omega), ?_⟩
    rw [rng_map]
    refine wComp_m (List.range n) (fun i => .str (S [97 + ((k + s * (i : Nat)) % 26).toNat])) _ (fun i hi R hR => ?_) ?_
    · have h0 : 0 ≤ (k + s * (i : Nat)) % 26 := Int.emod_nonneg _ (by decide)
      have h1 : (k + s * (i : Nat)) % 26 < 26 := Int.emod_lt_of_pos _ (by decide)
      simp [gCo, abc_str, atI_nn h0, abc_get (show ((k + s * (i : Nat)) % 26).toNat < 26 by omega), abc_len]
      exact ⟨cmulL (by omega), by decide, hR⟩
    · have e : (List.range n).map (fun i : Nat => PyData.str (S [97 + ((k + s * (i : Nat)) % 26).toNat])) = ((List.range n).map fun i : Nat => 97 + ((k + s * (i : Nat)) % 26).toNat).map sg := by
        rw [List.map_map]; rfl
      rw [e, mt_join0]
      simp
      refine ⟨by omega, q _ ⟨by simp, fun c hc => ?_, ?_⟩⟩
      · obtain ⟨i, _, rfl⟩ := List.mem_map.mp hc
        have h0 : 0 ≤ (k + s * (i : Nat)) % 26 := Int.emod_nonneg _ (by decide)
        have h1 : (k + s * (i : Nat)) % 26 < 26 := Int.emod_lt_of_pos _ (by decide)
        omega
      · refine List.pairwise_map.mpr (List.Pairwise.imp_of_mem (fun {i j} hi hj ne e => ne ?_) (List.nodup_range (n := n)))
        have hi := List.mem_range.mp hi
        have hj := List.mem_range.mp hj
        have a0 : 0 ≤ (k + s * (i : Nat)) % 26 := Int.emod_nonneg _ (by decide)
        have b0 : 0 ≤ (k + s * (j : Nat)) % 26 := Int.emod_nonneg _ (by decide)
        have := rot_inj (b := k) (k := (i : Nat)) (k' := (j : Nat)) hs (by omega) (by omega) (by omega) (by omega) (by omega)
        omega
  simp [cDraw, c__law_pick]
  intro k k0 k1
  exact ⟨go 1 (by decide) k k0 k1, go 3 (by decide) k k0 k1, go 5 (by decide) k k0 k1, go 7 (by decide) k k0 k1, go 9 (by decide) k k0 k1, go 11 (by decide) k k0 k1, go 15 (by decide) k k0 k1, go 17 (by decide) k k0 k1, go 19 (by decide) k k0 k1, go 21 (by decide) k k0 k1, go 23 (by decide) k k0 k1, go 25 (by decide) k k0 k1⟩
theorem v__law_with_isolated : ∀ as (Q : VQ), c__law_with_isolated as Q XF → wB w__law_with_isolated G__law_with_isolated.N as Q := by
  rintro _ Q h
  obtain ⟨_, rfl, -, q⟩ := mkD_iff.mp h
  unfold w__law_with_isolated G__law_with_isolated
  simp [cDraw, c__law_drawn_letters]
  refine ⟨8, rfl, by decide, fun y hy hlow hnd k k0 k1 m m0 m1 => ?_⟩
  obtain ⟨k, rfl⟩ := Int.eq_ofNat_of_zero_le k0
  obtain ⟨m, rfl⟩ := Int.eq_ofNat_of_zero_le m0
  have ec : (1 : Int) + (k : Nat) = ((1 + k : Nat) : Int) := by omega
  refine ⟨by omega, rng_ok (by omega), wComp_some (fun r => ∃ a : Nat, a ∈ y ∧ r = sg a) _ _ (fun d hd T hT => ?_) fun rs e1 e2 => ?_⟩
  · simp [gCo, c__law_pick]
    rw [ec]
    simp only [cut_hi]
    refine ⟨sz0 (by omega), ⟨fun e => ?_, ?_⟩, ?_⟩
    · have := congrArg List.length e
      rw [List.length_take, hy, List.length_nil] at this
      omega
    · rw [List.length_take]; omega
    · rintro _ _ c hc rfl rfl
      exact ⟨trivial, by simp, hT _ ⟨c, List.mem_of_mem_take hc, rfl⟩⟩
  · obtain ⟨t, ht, rfl⟩ := all_map e2
    simp [rng_len] at e1
    intro j j0 j1
    obtain ⟨j, rfl⟩ := Int.eq_ofNat_of_zero_le j0
    have ed : (1 : Int) + (k : Nat) + (j : Nat) = ((1 + k + j : Nat) : Int) := by omega
    rw [ed, ec, cut_mid]
    refine ⟨sz0 (by omega), szl (by simp; omega), wFor_inv (Ws.mono _) _ _ (fun i ρ => ∃ (t : List Nat) (s : Sl), ρ = [.pen, .val (.str (S y)), .val (.int ((1 + k : Nat) : Int)), .own (.list (t.map sg)), s, .emp] ∧ t.length = m + i ∧ ∀ c ∈ t, c ∈ y) ⟨t, .emp, rfl, by omega, ht⟩ ?_ ?_⟩
    · rintro i d ρ hd ⟨t, s, rfl, hl, ht⟩
      obtain ⟨c, hc, rfl⟩ := map_get hd
      refine ⟨_, rfl, ?_⟩
      have hi := (List.getElem?_eq_some_iff.mp hc).1
      rw [List.length_take, List.length_drop, hy] at hi
      have cy : c ∈ y := List.mem_of_mem_drop (List.mem_of_mem_take (List.mem_of_getElem? hc))
      simp [cDraw]
      refine ⟨by omega, fun a a0 a1 => ⟨⟨a0, by omega⟩, sz1 (by omega), t.take a.toNat ++ [c] ++ t.drop a.toNat, ?_, ?_, fun x hx => ?_⟩⟩
      · unfold insL
        simp [sg]
      · simp
        omega
      · rcases List.mem_append.mp hx with hx | hx
        · rcases List.mem_append.mp hx with hx | hx
          · exact ht x (List.mem_of_mem_take hx)
          · rw [List.mem_singleton.mp hx]; exact cy
        · exact ht x (List.mem_of_mem_drop hx)
    · rintro ρ ⟨t, s, rfl, hl, ht⟩
      simp only [List.length_map, List.length_take, List.length_drop] at hl
      simp
      have := pat_ok ht hlow (by omega)
      exact ⟨by omega, q t ⟨this.1, by omega, this.2⟩⟩
theorem v__law_drawn_pattern : ∀ as (Q : VQ), c__law_drawn_pattern as Q XF → wB w__law_drawn_pattern G__law_drawn_pattern.N as Q := by
  rintro _ Q h
  obtain ⟨⟨z, n⟩, rfl, h, q⟩ := mkD_iff.mp h
  dsimp only at h q
  obtain ⟨h1, h2, h3⟩ := h
  unfold w__law_drawn_pattern G__law_drawn_pattern
  simp [c__law_drawn_letters]
  refine ⟨n, rfl, by omega, fun y hy hlow hnd => ⟨by omega, rng_ok (by omega), wComp_some (fun r => ∃ a : Nat, a ∈ y ∧ r = sg a) _ _ (fun d hd T hT => ?_) fun rs e1 e2 => ?_⟩⟩
  · simp [gCo, c__law_pick]
    refine ⟨⟨fun e => by rw [e] at hy; simp at hy; omega, by omega⟩, ?_⟩
    rintro _ _ c hc rfl rfl
    exact ⟨trivial, by simp, hT _ ⟨c, hc, rfl⟩⟩
  · obtain ⟨t, ht, rfl⟩ := all_map e2
    simp [rng_len] at e1
    rw [mt_join0]
    simp
    have := pat_ok ht hlow (by omega)
    exact ⟨by omega, q t ⟨this.1, by omega, this.2⟩⟩
theorem v_isolated : ∀ as (Q : VQ) (E : XQ), c_isolated as Q E → wBE w_isolated G_isolated.N as Q E := by
  rintro _ Q E ⟨d, rfl, h, q, u⟩
  unfold w_isolated G_isolated
  simp [c_need_pattern, c_isolated_in]
  refine ⟨d, rfl, h, fun r k ⟨hp, _, hk⟩ => ?_, u⟩
  subst hk
  obtain ⟨l, rfl, hl⟩ := pat_str hp
  exact ⟨trivial, l, rfl, hl.2.1, fun m hm => q _ _ ⟨l, m, rfl, hl, hm, rfl, rfl⟩⟩
theorem v__law_rejected : ∀ (gv : Gv) (act : D → Ac) (d : D) (Q : VQ), c__law_rejected act d Q → wB (w__law_rejected gv act) G__law_rejected.N [.gen gv, .v d] Q := by
  rintro gv act d Q ⟨⟨r, s⟩, h, q⟩
  replace q := q _ _ ⟨rfl, rfl⟩
  unfold w__law_rejected G__law_rejected
  simp [run_stryB]
  refine (act d).mono _ _ _ _ (fun _ _ z => z.elim) (fun e he => ?_) h
  subst he
  rw [gCat_yes (by simp [ipE])]
  simp [ipE]
  exact ⟨r, s, q⟩
theorem v__law_distinct : ∀ as (Q : VQ), c__law_distinct as Q XF → wB w__law_distinct G__law_distinct.N as Q := by
  rintro _ Q ⟨l, rfl, h, q, -⟩
  replace q := q _ _ ⟨rfl, rfl⟩
  unfold w__law_distinct G__law_distinct
  simp
  refine ⟨szl (by omega), wFor_inv (Ws.mono _) _ _ (fun k ρ => ∃ s, ρ = [.val (.str (S l)), .val (.str (S (ordF (l.take k)))), s]) ⟨.emp, rfl⟩ ?_ ?_⟩
  · rintro k d ρ hd ⟨s, rfl⟩
    obtain ⟨c, hc, rfl⟩ := map_get hd
    refine ⟨_, rfl, ?_⟩
    have e : l.take (k + 1) = l.take k ++ [c] := by rw [List.take_add_one, hc]; rfl
    have e2 := ordF_snoc c (l.take k)
    have l1 := len_ord (l.take k)
    have l2 := List.length_take_le' k l
    simp [e, e2]
    by_cases hm : c ∈ ordF (l.take k)
    · simp [hm]
    · simp [hm]
      exact sz0 (by omega)
  · rintro ρ ⟨s, rfl⟩
    simpa using q
-- NAMED2
theorem bad_ok : ∀ d ∈ badP, ReprC d ∧ SeqAt.shaped (.str d.shown) = true ∧ szD d ∧ patD d = false := by
  have h : ∀ d ∈ badP, (ReprC d ∧ SeqAt.shaped (.str d.shown) = true ∧ patD d = false) ∧ (match d with | .str z => decide (z.length ≤ 100000) | _ => true) = true := by decide +kernel
  exact fun d hd => ⟨(h d hd).1.1, (h d hd).1.2.1, fun z e => by have := (h d hd).2; subst e; simpa using this, (h d hd).1.2.2⟩
section
variable {n : Nat} {P : Pq} {s2 s3 s5 s6 s7 s8 s9 : Sl}
theorem patD_S {l : List Nat} (h : patL l) : patD (.str (S l)) = true := patB_iff.mpr h
theorem szD_S {l : List Nat} (h : l.length ≤ 100000) : szD (.str (S l)) := fun z e => by cases e; rw [S_len]; exact h
theorem iso_ok {l : List Nat} (hl : patL l) {Q : VQ} {E : XQ} (q : ∀ m, Iso l m → Q (.str (S m)) .shr) : c_isolated [.v (.str (S l))] Q E := by
  refine ⟨.str (S l), rfl, szD_S (by have := hl.2.1; omega), ?_, fun e he => ?_⟩
  · rintro _ _ ⟨l', m, e, _, hm, rfl, rfl⟩
    injection e with e
    have e := S_inj.mp e
    subst e
    exact q m hm
  · have h1 : patD (.str (S l)) = false := he.1
    rw [patD_S hl] at h1
    cases h1
theorem fra_ok {l m : List Nat} (hl : patL l) (hm : Iso l m) {Q : VQ} {E : XQ} (q : Q (.list ((fr l m).map fun p => .str (S p))) .own) : c_fragments [.v (.str (S l))] Q E := by
  refine ⟨.str (S l), rfl, szD_S (by have := hl.2.1; omega), ?_, fun e he => ?_⟩
  · rintro _ _ ⟨l', m', e, _, hm', rfl, rfl⟩
    injection e with e
    have e := S_inj.mp e
    subst e
    have e := hm.eq hm'
    subst e
    exact q
  · have h1 : patD (.str (S l)) = false := he.1
    rw [patD_S hl] at h1
    cases h1
theorem fr_rps {l m : List Nat} (hl : patL l) : Rps ((fr l m).map fun p => .str (S p)) 20000 0 := by
  refine (rps_all (n := 402) (m := 0) fun d hd => ?_).le ?_ (Nat.le_refl _)
  · obtain ⟨p, hp, rfl⟩ := List.mem_map.mp hd
    obtain ⟨h1, h2⟩ := fr_mem hp
    have := hl.2.1
    exact rp_str (low_sok fun c hc => hl.1 c (h1 c hc)) (n := 40) (by rw [S_len]; omega)
  · rw [List.length_map]
    have := fr_len l m
    have := hl.2.1
    omega
theorem law_B2 (hx : P.ex = XF) {l : List Nat} (hl : patL l) (q : ∀ s5 s6 s7 s9 : Sl, P.nx [.scr n, .pen, s2, s3, .val (.str (S l)), s5, s6, s7, s8, s9]) : w_law_B2.run [.scr n, .pen, s2, s3, .val (.str (S l)), s5, s6, s7, s8, s9] P := by
  have h40 := hl.2.1
  have lo := len_ord l
  unfold w_law_B2 w_law_K5 w_law_K4 w_law_K3
  simp [hx, c__law_distinct, c__law_parts]
  refine ⟨by omega, sz0 (by omega), wComp_k (ordF l) (fun c => decide (l.count c = 1)) sg _ (fun c hc R hR => ?_) ?_⟩
  · simp [gCo, count_one]
    by_cases e : l.count c = 1
    · simpa [e] using hR
    · have e2 : ¬ ((l.count c : Nat) : Int) = 1 := by omega
      simpa [e, e2] using hR
  · have hf := List.length_filter_le (fun c => decide (l.count c = 1)) (ordF l)
    refine ⟨((ordF l).filter fun c => decide (l.count c = 1)).map fun c => S [c], by rw [sg_strs], by simp; omega, fun ys hp hs => ?_⟩
    obtain ⟨m, rfl, m1, m2⟩ := srt_list hs hp ((nodup_ordF l).sublist List.filter_sublist)
    have hlen : m.length = ((ordF l).filter fun c => decide (l.count c = 1)).length := by simpa using hp.length_eq
    have iso : Iso l m := ⟨m1, fun c => by rw [m2 c, List.mem_filter, mem_ordF]; simp⟩
    rw [← sg_strs, mt_join0]
    have r1 := rp_str (low_sok (iso.low hl.1)) (n := 40) (by rw [S_len]; omega)
    have r2 := rp_list (fr_rps (m := m) hl)
    simp
    refine ⟨by omega, l, m, ⟨rfl, rfl⟩, ⟨h40, hl.1⟩, fra_ok hl iso ⟨trivial, by simp, iso_ok hl fun m' hm' => ?_⟩⟩
    have e := iso.eq hm'
    subst e
    refine ⟨trivial, r1.c, r1.c, ⟨r1.s, r1.s⟩, fun z => absurd rfl z, fun _ => ?_⟩
    have := fr_len l m
    simp
    exact ⟨r2.c, r2.s, sz1 (by omega), fra_ok hl iso ⟨trivial, r2.c, r2.c, ⟨r2.s, r2.s⟩, fun z => absurd rfl z, fun _ => q _ _ _ _⟩⟩
theorem law_B1 (hx : P.ex = XF) {d : D} (hd : ReprC d ∧ SeqAt.shaped (.str d.shown) = true ∧ szD d ∧ patD d = false) (q : P.nx [.scr n, .pen, s2, s3, s4, s5, s6, s7, .val d, s9]) : w_law_B1.run [.scr n, .pen, s2, s3, s4, s5, s6, s7, .val d, s9] P := by
  obtain ⟨r, s, z, h⟩ := hd
  unfold w_law_B1
  simp [hx, c__law_rejected, l2C, run_acD, c_isolated, c_fragments]
  refine ⟨⟨r, s⟩, ⟨d, rfl, z, ?_, fun e he => he.2⟩, ⟨r, s⟩, ⟨d, rfl, z, ?_, fun e he => he.2⟩, q⟩
  · rintro _ _ ⟨l, rfl, hl, _⟩
    rw [patD_S hl] at h
    cases h
  · rintro _ _ ⟨l, rfl, hl, _⟩
    rw [patD_S hl] at h
    cases h
theorem law_K2 (q : P.rt (.bool true) .shr) (hx : P.ex = XF) : w_law_K2.run [.scr n, .pen, s2, s3, s4, s5, s6, s7, s8, s9] P := by
  unfold w_law_K2
  simp [c__law_bad_patterns]
  refine ⟨by decide, wFor_inv (Ws.mono _) _ _ (fun k ρ => ∃ s8 : Sl, ρ = [.scr n, .pen, s2, s3, s4, s5, s6, s7, s8, s9]) ⟨_, rfl⟩ ?_ ?_⟩
  · rintro k d ρ hd ⟨s8, rfl⟩
    refine ⟨_, rfl, law_B1 (by exact hx) (bad_ok d (List.mem_of_getElem? hd)) ?_⟩
    exact ⟨_, rfl⟩
  · rintro ρ ⟨s8, rfl⟩
    unfold w_law_K1
    simpa using q
theorem law_B3 (hx : P.ex = XF) {ls : List (List Nat)} (hl : ls.length ≤ 1000) (q : ∀ l l', patL l → patL l' → P.nx [.scr n, .pen, .own (.list ((ls ++ [l, l']).map fun l => .str (S l))), s3, s4, s5, s6, s7, s8, s9]) : w_law_B3.run [.scr n, .pen, .own (.list (ls.map fun l => .str (S l))), s3, s4, s5, s6, s7, s8, s9] P := by
  unfold w_law_B3
  simp [hx, c__law_with_isolated, c__law_drawn_pattern, cDraw]
  intro l h1
  refine ⟨sz1 (by omega), fun a a0 a1 b b0 b1 => ?_⟩
  obtain ⟨a, rfl⟩ := Int.eq_ofNat_of_zero_le a0
  obtain ⟨b, rfl⟩ := Int.eq_ofNat_of_zero_le b0
  refine ⟨a, 1 + b, ⟨rfl, by omega⟩, by omega, fun l' h2 => ⟨sz1 (by omega), ?_⟩⟩
  have := q l l' h1 h2
  simpa using this
end
theorem v_law : ∀ as (Q : VQ), cLaw as Q XF → wB w_law G_law.N as Q := by
  rintro _ Q ⟨n, rfl, hn, q⟩
  unfold w_law G_law w_law_K7
  simp
  have e6 : (if (n : Int) < 10 then (n : Int) else 10) = ((min n 10 : Nat) : Int) := by split <;> omega
  rw [e6]
  have start : ∀ d ∈ ([[], [97], [97, 98, 99, 100, 101, 102, 103, 104], [97, 97], [97, 98, 97, 98], [97, 98, 99, 98, 97]] : List (List Nat)), patL d := by
    have h : ∀ d ∈ ([[], [97], [97, 98, 99, 100, 101, 102, 103, 104], [97, 97], [97, 98, 97, 98], [97, 98, 99, 98, 97]] : List (List Nat)), patB d = true := by decide +kernel
    exact fun d hd => patB_iff.mp (h d hd)
  refine ⟨⟨by omega, by omega⟩, rng_okL (by omega), wFor_inv (Ws.mono _) _ _ (fun k ρ => ∃ (ls : List (List Nat)) (s3 : Sl), ρ = [.scr n, .pen, .own (.list (ls.map fun l => .str (S l))), s3, .emp, .emp, .emp, .emp, .emp, .emp] ∧ ls.length = 6 + 2 * k ∧ ∀ l ∈ ls, patL l) ⟨_, .emp, rfl, rfl, start⟩ ?_ ?_⟩
  · rintro k d ρ hd ⟨ls, s3, rfl, hl, hls⟩
    obtain ⟨hk, rfl⟩ := rng_some hd
    refine ⟨_, rfl, law_B3 rfl (by omega) fun l l' h1 h2 => ?_⟩
    refine ⟨_, _, rfl, by simp; omega, fun x hx => ?_⟩
    simp only [List.mem_append, List.mem_cons, List.not_mem_nil, or_false] at hx
    rcases hx with hx | rfl | rfl
    · exact hls x hx
    · exact h1
    · exact h2
  · rintro ρ ⟨ls, s3, rfl, hl, hls⟩
    rw [rng_len] at hl
    unfold w_law_K6
    simp
    refine ⟨szl (by omega), wFor_inv (Ws.mono _) _ _ (fun k ρ => ∃ (s4 s5 s6 s7 s9 : Sl), ρ = [.scr n, .pen, .val (.list (ls.map fun l => .str (S l))), s3, s4, s5, s6, s7, .emp, s9]) ⟨_, _, _, _, _, rfl⟩ ?_ ?_⟩
    · rintro k d ρ hd ⟨s4, s5, s6, s7, s9, rfl⟩
      obtain ⟨l, hl', rfl⟩ := map_get hd
      refine ⟨_, rfl, law_B2 rfl (hls l (List.mem_of_getElem? hl')) fun _ _ _ _ => ?_⟩
      exact ⟨_, _, _, _, _, rfl⟩
    · rintro ρ ⟨s4, s5, s6, s7, s9, rfl⟩
      exact law_K2 q rfl
section
variable {P : Program} {w : World} {K : PySem.W.Frag} {mg : Str → Option Value} {base : Heap}
theorem sc_InvalidPattern : FnScope ["self", "value"] ["self", "value"] (defScope s_InvalidPattern___init__) := ⟨rfl, rfl, rfl, by decide +kernel, rfl, by decide +kernel, by decide +kernel⟩
theorem exr_InvalidPattern (T : Txt K mg) {j : Nat} (hj : 2 ≤ j) : ExRec P w K mg base j "InvalidPattern" "value" := by
  obtain ⟨C, fI, fd, gm, O, iC, tI, F, no, vV, ec⟩ := T.x_InvalidPattern.ex
  exact ⟨C, fI, fd, _, _, _, _, 1, "value", hj, gm, baseVE, O, iC, tI, exk_init (k := 0) (nB := "ValueError") baseVE O no vV F sc_InvalidPattern rfl T.m_ValueError (by decide +kernel) (by decide +kernel) (by decide +kernel) rfl rfl rfl ⟨by decide +kernel, by decide +kernel⟩ (fun env => ⟨_, rfl⟩), F.binds (fun _ _ _ _ _ _ us hl => match us, hl with | [_, _], _ => rfl), no, ec⟩
theorem exs_ok (T : Txt K mg) {j : Nat} (hj : 2 ≤ j) : ∀ x f, (x, f) ∈ exsL → ExRec P w K mg base j x f := by
  intro x f h
  simp only [exsL, List.mem_cons, List.not_mem_nil, or_false, Prod.mk.injEq] at h
  rcases h with ⟨rfl, rfl⟩
  · exact exr_InvalidPattern T hj
theorem rels_ok (T : Txt K mg) : ∀ x y b, (x, y, b) ∈ rels → RelOk K mg x y b := by
  intro x y b h
  simp only [rels, List.mem_cons, List.not_mem_nil, or_false, Prod.mk.injEq] at h
  rcases h with ⟨rfl, rfl, rfl⟩ | ⟨rfl, rfl, rfl⟩
  · exact T.r_InvalidPattern_InvalidPattern
  · exact T.r_InvalidPattern_ValueError
theorem nrels_ok (T : Txt K mg) : ∀ y ∈ nrels, NrelOk K mg y := by
  intro y h
  simp only [nrels, List.mem_cons, List.not_mem_nil, or_false] at h
  rcases h with rfl | rfl
  · exact T.nr_InvalidPattern
  · exact T.nr_ValueError
theorem raw__law_pen (T : Txt K mg) {f : Addr} {fd : FuncData} (F : Fun K "_law_pen" "_law_pen" s__law_pen f fd) : FnG P w K mg base CX0 1 f fd ["_law_script"] (spPen K) := by
  refine M.Fun.okG0 F sc__law_pen (fun vs H Q E h => ?_) (fun cdv A outer s H vs Q E hr hg h => ?_)
  · obtain ⟨_, _, rfl, _⟩ := h
    rfl
  obtain ⟨a, ns, rfl, hS, q⟩ := h
  refine ⟨_, ((pss_one (ps_ret (pe_disp (pps_cons pe_str (pe_callTy call_list_of rfl T.m_list (by decide +kernel) (pa_cons (pe_slice sl_list (pv 0) po_none (po_some pe_int)) pa_nil)) (pps_cons pe_str pe_int (pps_cons pe_str pe_int pps_nil))) (by rfl) (by rfl) (fun z => by cases z) (by decide))))), ?_⟩
  intro p np
  have s1 : Same H (upd H p (.dK [])) := M.same_upd np
  refine ⟨_, rfl, _, rfl, a, _, rfl, s1.seq hS, fun e ne => ?_⟩
  have s2 := M.same_upd (o := .lst (cutV (ns.map V.int) none (some 63))) ne
  refine ⟨e, _, rfl, .inl (.inl (.inl upd_same)), fun c nc => ?_⟩
  have s3 := M.same_upd (o := .lst (cutV (ns.map V.int) none (some 63))) nc
  have hp : (upd (upd (upd H p (.dK [])) e (.lst (cutV (ns.map V.int) none (some 63)))) c (.lst (cutV (ns.map V.int) none (some 63)))) p = some (.dK []) := s3 _ _ (s2 _ _ upd_same)
  refine ⟨hp, [(.inr "cells", .ref c), (.inr Y.NX, .int 0), (.inr "rest", .int 0)], rfl, (by show 3 ≤ 15; decide), ?_⟩
  have ncp : c ≠ p := fun z => by
    rw [z] at nc
    have := s2 _ _ (upd_same (H := H) (a := p) (o := .dK []))
    rw [this] at nc
    cases nc
  have nc0 : H c = none := (s1.trans s2).free nc
  refine q p c 0 (ns.take 63) _ (by decide) np nc0 ncp ?_ upd_same ?_
  · intro b o z
    have nb := ne_of_none z np
    rw [upd_ne nb]
    exact s3 _ _ (s2 _ _ (s1 _ _ z))
  · rw [upd_ne ncp, upd_same, Y.cut63]
theorem ok__law_pen (T : Txt K mg) : Cl P w K mg base (L2.CX P w) 1 "_law_pen" ["_law_script"] (spPen K) := by
  obtain ⟨f, fd, gm, F⟩ := T.f__law_pen
  exact (Cl.of (FnG.up (raw__law_pen T F)) gm F.kp (F.binds fun _ _ _ _ _ _ us hl => match us, hl with | [_], _ => rfl))
theorem glo__law_bad_patterns (T : Txt K mg) : Glo P w K mg base G__law_bad_patterns 0 CC := by
  refine ⟨fun x hx => ?_, fun x d hx => ?_, fun f m hf => ?_, fun f hf => ?_, fun x m nm hx => ?_, fun x f hx => ?_, fun x y b hx => ?_, fun y hx => ?_, fun g m ma hx => ?_, fun f m hx => ?_, fun f kn m hx => ?_, trivial⟩
  · cases hx
  · cases hx
  · cases hf
  · cases hf
  · cases hx
  · cases hx
  · cases hx
  · cases hx
  · cases hx
  · cases hx
  · cases hx
theorem ok__law_bad_patterns (T : Txt K mg) : Cl P w K mg base (L2.CX P w) 1 "_law_bad_patterns" [] (spC mg c__law_bad_patterns k__law_bad_patterns K) := by
  exact cl_ok T.f__law_bad_patterns (glo__law_bad_patterns T) rfl rfl rfl (by decide +kernel) (fun c => p__law_bad_patterns c) (Nat.le_refl _) l__law_bad_patterns (fun as Q E h => wB_up (v__law_bad_patterns as Q (mkC_down h))) (fun us _ _ _ _ _ _ hl => match us, hl with | [], _ => rfl)
theorem glo__law_parts (T : Txt K mg) : Glo P w K mg base G__law_parts 0 CC := by
  refine ⟨fun x hx => ?_, fun x d hx => ?_, fun f m hf => ?_, fun f hf => ?_, fun x m nm hx => ?_, fun x f hx => ?_, fun x y b hx => ?_, fun y hx => ?_, fun g m ma hx => ?_, fun f m hx => ?_, fun f kn m hx => ?_, trivial⟩
  · cases hx
  · cases hx
  · cases hf
  · cases hf
  · cases hx
  · cases hx
  · cases hx
  · cases hx
  · cases hx
  · cases hx
  · cases hx
theorem ok__law_parts (T : Txt K mg) : Cl P w K mg base (L2.CX P w) 1 "_law_parts" ["_law_pattern", "_law_alone"] (spC mg c__law_parts k__law_parts K) := by
  exact cl_ok T.f__law_parts (glo__law_parts T) rfl rfl rfl (by decide +kernel) (fun c => p__law_parts c) (Nat.le_refl _) l__law_parts (fun as Q E h => wB_up (v__law_parts as Q (mkC_down h))) (fun us _ _ _ _ _ _ hl => match us, hl with | [_, _], _ => rfl)
theorem glo_are_variables (T : Txt K mg) : Glo P w K mg base G_are_variables 0 CC := by
  refine ⟨fun x hx => ?_, fun x d hx => ?_, fun f m hf => ?_, fun f hf => ?_, fun x m nm hx => ?_, fun x f hx => ?_, fun x y b hx => ?_, fun y hx => ?_, fun g m ma hx => ?_, fun f m hx => ?_, fun f kn m hx => ?_, trivial⟩
  · simp only [G_are_variables, List.mem_cons, List.not_mem_nil, or_false] at hx
    rcases hx with rfl | rfl | rfl
    · exact T.m_all
    · exact T.m_isinstance
    · exact T.m_str
  · simp only [G_are_variables, List.mem_cons, List.not_mem_nil, or_false, Prod.mk.injEq] at hx
    obtain ⟨rfl, rfl⟩ := hx
    exact ⟨_, T.c_ALPHABET, fun _ _ _ => .str _⟩
  · cases hf
  · cases hf
  · cases hx
  · cases hx
  · cases hx
  · cases hx
  · cases hx
  · cases hx
  · cases hx
theorem ok_are_variables (T : Txt K mg) : Cl P w K mg base (L2.CX P w) 1 "are_variables" ["value"] (spC mg c_are_variables k_are_variables K) := by
  exact cl_ok T.f_are_variables (glo_are_variables T) rfl rfl rfl (by decide +kernel) (fun c => p_are_variables c) (Nat.le_refl _) l_are_variables (fun as Q E h => wB_up (v_are_variables as Q (mkC_down h))) (fun us _ _ _ _ _ _ hl => match us, hl with | [_], _ => rfl)
theorem glo_distinct (T : Txt K mg) : Glo P w K mg base G_distinct 0 CC := by
  refine ⟨fun x hx => ?_, fun x d hx => ?_, fun f m hf => ?_, fun f hf => ?_, fun x m nm hx => ?_, fun x f hx => ?_, fun x y b hx => ?_, fun y hx => ?_, fun g m ma hx => ?_, fun f m hx => ?_, fun f kn m hx => ?_, trivial⟩
  · simp only [G_distinct, List.mem_cons, List.not_mem_nil, or_false] at hx
    obtain rfl := hx
    exact T.m_enumerate
  · cases hx
  · cases hf
  · cases hf
  · cases hx
  · cases hx
  · cases hx
  · cases hx
  · cases hx
  · cases hx
  · cases hx
theorem ok_distinct (T : Txt K mg) : Cl P w K mg base (L2.CX P w) 1 "distinct" ["pattern"] (spC mg c_distinct k_distinct K) := by
  exact cl_ok T.f_distinct (glo_distinct T) rfl rfl rfl (by decide +kernel) (fun c => p_distinct c) (Nat.le_refl _) l_distinct (fun as Q E h => wB_up (v_distinct as Q (mkC_down h))) (fun us _ _ _ _ _ _ hl => match us, hl with | [_], _ => rfl)
theorem glo_fits_pattern (T : Txt K mg) : Glo P w K mg base G_fits_pattern 1 CC := by
  refine ⟨fun x hx => ?_, fun x d hx => ?_, fun f m hf => ?_, fun f hf => ?_, fun x m nm hx => ?_, fun x f hx => ?_, fun x y b hx => ?_, fun y hx => ?_, fun g m ma hx => ?_, fun f m hx => ?_, fun f kn m hx => ?_, trivial⟩
  · simp only [G_fits_pattern, List.mem_cons, List.not_mem_nil, or_false] at hx
    obtain rfl := hx
    exact T.m_len
  · simp only [G_fits_pattern, List.mem_cons, List.not_mem_nil, or_false, Prod.mk.injEq] at hx
    rcases hx with ⟨rfl, rfl⟩ | ⟨rfl, rfl⟩
    · exact ⟨_, T.c_MAX_PATTERN, fun _ _ _ => .int _⟩
    · exact ⟨_, T.c_MAX_VARIABLES, fun _ _ _ => .int _⟩
  · simp only [G_fits_pattern, List.mem_cons, List.not_mem_nil, or_false, Prod.mk.injEq] at hf
    rcases hf with ⟨rfl, rfl⟩ | ⟨rfl, rfl⟩
    · exact ⟨1, ["pattern"], by decide, by rw [C_distinct]; exact ok_distinct T⟩
    · exact ⟨1, ["value"], by decide, by rw [C_are_variables]; exact ok_are_variables T⟩
  · cases hf
  · cases hx
  · cases hx
  · cases hx
  · cases hx
  · cases hx
  · cases hx
  · cases hx
theorem ok_fits_pattern (T : Txt K mg) : Cl P w K mg base (L2.CX P w) 2 "fits_pattern" ["value"] (spC mg c_fits_pattern k_fits_pattern K) := by
  exact cl_ok T.f_fits_pattern (glo_fits_pattern T) rfl rfl rfl (by decide +kernel) (fun c => p_fits_pattern c) (Nat.le_refl _) l_fits_pattern (fun as Q E h => wB_up (v_fits_pattern as Q (mkC_down h))) (fun us _ _ _ _ _ _ hl => match us, hl with | [_], _ => rfl)
theorem glo_need_pattern (T : Txt K mg) : Glo P w K mg base G_need_pattern 2 CC := by
  refine ⟨fun x hx => ?_, fun x d hx => ?_, fun f m hf => ?_, fun f hf => ?_, fun x m nm hx => ?_, fun x f hx => ?_, fun x y b hx => ?_, fun y hx => ?_, fun g m ma hx => ?_, fun f m hx => ?_, fun f kn m hx => ?_, trivial⟩
  · cases hx
  · cases hx
  · simp only [G_need_pattern, List.mem_cons, List.not_mem_nil, or_false, Prod.mk.injEq] at hf
    obtain ⟨rfl, rfl⟩ := hf
    exact ⟨2, ["value"], by decide, by rw [C_fits_pattern]; exact ok_fits_pattern T⟩
  · cases hf
  · cases hx
  · exact exs_ok T (by decide) x f hx
  · cases hx
  · cases hx
  · cases hx
  · cases hx
  · cases hx
theorem ok_need_pattern (T : Txt K mg) : Cl P w K mg base (L2.CX P w) 3 "need_pattern" ["value"] (spC mg c_need_pattern k_need_pattern K) := by
  exact cl_ok T.f_need_pattern (glo_need_pattern T) rfl rfl rfl (by decide +kernel) (fun c => p_need_pattern c) (Nat.le_refl _) l_need_pattern v_need_pattern (fun us _ _ _ _ _ _ hl => match us, hl with | [_], _ => rfl)
theorem glo_isolated_in (T : Txt K mg) : Glo P w K mg base G_isolated_in 0 CC := by
  refine ⟨fun x hx => ?_, fun x d hx => ?_, fun f m hf => ?_, fun f hf => ?_, fun x m nm hx => ?_, fun x f hx => ?_, fun x y b hx => ?_, fun y hx => ?_, fun g m ma hx => ?_, fun f m hx => ?_, fun f kn m hx => ?_, trivial⟩
  · simp only [G_isolated_in, List.mem_cons, List.not_mem_nil, or_false] at hx
    obtain rfl := hx
    exact T.m_sorted
  · cases hx
  · cases hf
  · cases hf
  · cases hx
  · cases hx
  · cases hx
  · cases hx
  · cases hx
  · cases hx
  · cases hx
theorem ok_isolated_in (T : Txt K mg) : Cl P w K mg base (L2.CX P w) 1 "isolated_in" ["pattern"] (spC mg c_isolated_in k_isolated_in K) := by
  exact cl_ok T.f_isolated_in (glo_isolated_in T) rfl rfl rfl (by decide +kernel) (fun c => p_isolated_in c) (Nat.le_refl _) l_isolated_in (fun as Q E h => wB_up (v_isolated_in as Q (mkC_down h))) (fun us _ _ _ _ _ _ hl => match us, hl with | [_], _ => rfl)
theorem glo_fragments (T : Txt K mg) : Glo P w K mg base G_fragments 3 CC := by
  refine ⟨fun x hx => ?_, fun x d hx => ?_, fun f m hf => ?_, fun f hf => ?_, fun x m nm hx => ?_, fun x f hx => ?_, fun x y b hx => ?_, fun y hx => ?_, fun g m ma hx => ?_, fun f m hx => ?_, fun f kn m hx => ?_, trivial⟩
  · cases hx
  · cases hx
  · simp only [G_fragments, List.mem_cons, List.not_mem_nil, or_false, Prod.mk.injEq] at hf
    rcases hf with ⟨rfl, rfl⟩ | ⟨rfl, rfl⟩
    · exact ⟨1, ["pattern"], by decide, by rw [C_isolated_in]; exact ok_isolated_in T⟩
    · exact ⟨3, ["value"], by decide, by rw [C_need_pattern]; exact ok_need_pattern T⟩
  · cases hf
  · cases hx
  · cases hx
  · cases hx
  · cases hx
  · cases hx
  · cases hx
  · cases hx
theorem ok_fragments (T : Txt K mg) : Cl P w K mg base (L2.CX P w) 4 "fragments" ["pattern"] (spC mg c_fragments k_fragments K) := by
  exact cl_ok T.f_fragments (glo_fragments T) rfl rfl rfl (by decide +kernel) (fun c => p_fragments c) (Nat.le_refl _) l_fragments v_fragments (fun us _ _ _ _ _ _ hl => match us, hl with | [_], _ => rfl)
theorem raw__law_draw (T : Txt K mg) {f : Addr} {fd : FuncData} (F : Fun K "_law_draw" "_law_draw" s__law_draw f fd) : FnG P w K mg base CX0 1 f fd ["_law_pen_here", "_law_count"] (spDr K) := by
  refine M.Fun.okG0 F sc__law_draw (fun vs H Q E h => ?_) (fun cdv A outer s H vs Q E hr hg h => ?_)
  · obtain ⟨_, _, _, _, _, _, rfl, _⟩ := h
    rfl
  obtain ⟨d, c, size, i, r, ns, rfl, hd, hS, ncd, hi, hr0, hlim, hs, hs2, q⟩ := h
  refine ⟨_, ((pss_cons (ps_if (pt_cmpR op_gt (pe_dget (hu_of hr) (pv 0) pe_str (fun _ _ => rfl)) pe_int (nomark _))
      (pss_cons (ps_set (i := 2) sc__law_draw.nd rfl (Or.inl rfl) (pe_op op_mod (pe_dget (hu_of hr) (pv 0) pe_str (fun _ _ => rfl)) (pv 1)))
      (pss_cons (ps_dput (hu_of hr) (pv 0) pe_str (pe_op op_fdiv (pe_dget (hu_of hr) (pv 0) pe_str (fun _ _ => rfl)) (pv 1)) rfl)
      (pss_one (ps_ret (pv 2)))))
      pss_nil)
      (pss_cons (ps_set (i := 3) sc__law_draw.nd rfl (Or.inl rfl) (pe_dget (hu_of hr) (pv 0) pe_str (fun _ _ => rfl)))
      (pss_cons (ps_dput (hu_of hr) (pv 0) pe_str (pe_op op_add (pv 3) pe_int) rfl)
      (pss_cons (ps_set (i := 4) sc__law_draw.nd rfl (Or.inl rfl) (pe_op op_add (pe_op op_mul pe_int (pv 3)) pe_int))
      (C8.pss_cut (ps_if (pt_cmpR (op_neD hr.units) (pe_dget (hu_of hr) (pv 0) pe_str (fun _ _ => rfl)) (pe_lst pa_nil) (nomark _))
      (pss_one (ps_set (i := 4) sc__law_draw.nd rfl (Or.inl rfl) (pe_ix ix_list (pe_dget (hu_of hr) (pv 0) pe_str (fun _ _ => rfl)) (pe_op op_mod (pv 3) (pe_callB call_len_seq rfl T.m_len (by decide +kernel) (pa_cons (pe_dget (hu_of hr) (pv 0) pe_str (fun _ _ => rfl)) pa_nil))) (fun _ _ => rfl))))
      pss_nil)
      (pss_cons (ps_if (PW.pt (pw_and (pt_cmpR op_lt (pv 3) (pe_callB call_len_seq rfl T.m_len (by decide +kernel) (pa_cons (pe_dget (hu_of hr) (pv 0) pe_str (fun _ _ => rfl)) pa_nil)) (nomark _)) (pw_and1 (pt_cmpR op_ge (pe_callB call_abs rfl T.m_abs (by decide +kernel) (pa_cons (pv 4) pa_nil)) (pe_op op_pow pe_int pe_int) (nomark _)))))
      (pss_cons (ps_dput (hu_of hr) (pv 0) pe_str (pe_op op_fdiv (pe_op op_sub (pe_callB call_abs rfl T.m_abs (by decide +kernel) (pa_cons (pv 4) pa_nil)) (pe_op op_pow pe_int pe_int)) (pv 1)) rfl)
      (pss_one (ps_ret (pe_op op_mod (pe_op op_sub (pe_callB call_abs rfl T.m_abs (by decide +kernel) (pa_cons (pv 4) pa_nil)) (pe_op op_pow pe_int pe_int)) (pv 1)))))
      pss_nil)
      (pss_cons (ps_set (i := 5) sc__law_draw.nd rfl (Or.inl rfl) (pe_op op_add (pe_op op_mul (pe_op op_mod (pv 4) pe_int) pe_int) (pe_op op_mulW (pe_op op_mul pe_int (pv 3)) (pv 3))))
      (pss_cons (ps_set (i := 5) sc__law_draw.nd rfl (Or.inl rfl) (pe_op op_mod (pe_op op_add (pe_op op_add (pv 5) (pe_op op_mul pe_int (pv 3))) pe_int) pe_int))
      (pss_cons (ps_set (i := 5) sc__law_draw.nd rfl (Or.inl rfl) (pe_op op_mod (pe_op op_add (pe_op op_add (pe_op op_add (pe_op op_mul (pv 5) (pv 5)) (pe_op op_mul pe_int (pv 5))) (pe_op op_mul pe_int (pv 3))) pe_int) pe_int))
      (pss_one (ps_ret (pe_op op_mod (pe_op op_fdiv (pe_op op_mod (pe_op op_mul (pv 5) (pe_op op_add (pv 5) pe_int)) pe_int) pe_int) (pv 1)))))))))))))), ?_⟩
  refine ⟨_, rfl, _, _, rfl, Y.get_rest hd, _, _, rfl, rfl, _, rfl, ite2 (fun cc => ?_) (fun cc => ?_)⟩
  · -- the rest's next digit
    refine ⟨_, rfl, _, _, rfl, Y.get_rest hd, _, rfl, _, _, rfl, rfl, hs, ?_⟩
    refine ⟨_, rfl, _, _, rfl, Y.get_rest hd, _, rfl, _, _, rfl, rfl, ⟨hs, hs2⟩, _, rfl, _, _, rfl, Y.put_rest hd, ?_⟩
    refine ⟨_, rfl, ?_⟩
    exact q _ i _ _ (Int.emod_nonneg _ (by omega)) (Int.emod_lt_of_pos _ hs) hi (by omega) (Int.ediv_nonneg hr0 (by omega)) but_upd upd_same
  refine ⟨_, rfl, _, _, rfl, Y.get_index hd, ?_⟩
  refine ⟨_, rfl, _, _, rfl, rfl, _, rfl, _, _, rfl, Y.put_index hd, ?_⟩
  walk_at "run"
  have b1 : But d H (upd H d (penO NX c (i + 1) r)) := but_upd
  have e1 : (upd H d (penO NX c (i + 1) r)) d = some (penO NX c (i + 1) r) := upd_same
  revert b1 e1
  generalize upd H d (penO NX c (i + 1) r) = H1
  intro b1 e1
  refine ⟨fun σ H2 => ∃ cell : Int, σ = [some (.ref d), some (.int size), none, some (.int i), some (.int cell), none] ∧ But d H H2 ∧ H2 d = some (penO NX c (i + 1) r), ?_, ?_⟩
  · refine ⟨_, rfl, _, _, rfl, Y.get_cells e1, by decide, fun p np => ⟨.list (ns.map PyData.int), .list [], dp_ints (Same.seq (M.same_upd np) (b1.seq ncd hS)), dp_nil upd_same, shaped_intsL ns, shaped_nilL, ?_⟩⟩
    have s2 : Same H1 (upd H1 p (.lst [])) := M.same_upd np
    have b2 := b1.trans (M.Same.but s2)
    have e2 := s2 _ _ e1
    have hS2 := b2.seq ncd hS
    revert b2 e2 hS2
    generalize upd H1 p (.lst []) = H2
    intro b2 e2 hS2
    refine ⟨_, rfl, ite2 (fun c2 => ?_) (fun c2 => ?_)⟩
    · have hne : ns ≠ [] := fun z => by rw [z] at c2; simp [eqv_nilL] at c2
      obtain ⟨hl, z, hat⟩ := cell_at hi hne
      exact ⟨_, rfl, _, _, rfl, Y.get_cells e2, _, rfl, _, rfl, _, _, rfl, Y.get_cells e2, c, _, rfl, .inl hS2, _, _, rfl, rfl, hl, c, _, _, _, rfl, rfl, hS2, hat, z, rfl, b2, e2⟩
    · exact ⟨_, rfl, b2, e2⟩
  · rintro σ H2 ⟨cell, rfl, b2, e2⟩
    have hS2 := b2.seq ncd hS
    refine ⟨_, rfl, _, rfl, _, _, rfl, Y.get_cells e2, c, _, rfl, .inl hS2, _, _, rfl, rfl, _, rfl, ite2 (fun c3 => ?_) (fun c3 => ?_)⟩
    · refine ⟨_, rfl, _, rfl, _, _, rfl, rfl, ⟨by decide, by decide, by decide⟩, _, _, rfl, rfl, _, rfl, ite2 (fun c4 => ?_) (fun c4 => ?_)⟩
      · have c4 := of_decide_eq_true c4
        refine ⟨_, rfl, _, rfl, _, _, rfl, rfl, ⟨by decide, by decide, by decide⟩, _, _, rfl, rfl, _, rfl, _, _, rfl, rfl, ⟨hs, hs2⟩, _, rfl, _, _, rfl, Y.put_rest e2, ?_⟩
        refine ⟨_, rfl, _, rfl, _, _, rfl, rfl, ⟨by decide, by decide, by decide⟩, _, _, rfl, rfl, _, rfl, _, _, rfl, rfl, hs, ?_⟩
        exact q _ (i + 1) _ _ (Int.emod_nonneg _ (by omega)) (Int.emod_lt_of_pos _ hs) (by omega) (by omega) (Int.ediv_nonneg (Int.sub_nonneg_of_le c4) (by omega)) (b2.trans but_upd) upd_same
      · have hW : CMulW (69621 * i) i := wide_mul (a := 17 + 400000) (b := 400000) (wide_lt (by decide) hlim) hlim (by decide) (by decide) (by decide)
        clear hlim
        refine ⟨_, rfl, _, _, rfl, rfl, (by show (0 : Int) < _; decide), _, _, rfl, rfl, .inr ⟨by decide, by decide⟩, _, rfl, _, _, rfl, rfl, .inl ⟨by decide, by decide⟩, _, rfl, _, _, rfl, rfl, hW, _, _, rfl, rfl, ?_⟩
        refine ⟨_, rfl, _, rfl, _, _, rfl, rfl, .inl ⟨by decide, by decide⟩, _, _, rfl, rfl, _, _, rfl, rfl, _, _, rfl, rfl, (by show (0 : Int) < _; decide), ?_⟩
        have m0 : 0 ≤ ((cell % 2147483647 * 48271 + 69621 * i * i + 40014 * i + 29) % 2147483629) := Int.emod_nonneg _ (by decide)
        have m1 : ((cell % 2147483647 * 48271 + 69621 * i * i + 40014 * i + 29) % 2147483629) < 2147483629 := Int.emod_lt_of_pos _ (by decide)
        refine ⟨_, rfl, _, rfl, _, _, rfl, rfl, .inl ⟨by omega, by omega⟩, _, rfl, _, _, rfl, rfl, .inl ⟨by decide, by decide⟩, _, _, rfl, rfl, _, rfl, _, _, rfl, rfl, .inl ⟨by decide, by decide⟩, _, _, rfl, rfl, _, _, rfl, rfl, _, _, rfl, rfl, (by show (0 : Int) < _; decide), ?_⟩
        have n0 : 0 ≤ (((cell % 2147483647 * 48271 + 69621 * i * i + 40014 * i + 29) % 2147483629) * ((cell % 2147483647 * 48271 + 69621 * i * i + 40014 * i + 29) % 2147483629) + 16807 * ((cell % 2147483647 * 48271 + 69621 * i * i + 40014 * i + 29) % 2147483629) + 3 * i + 5) % 2147483587 := Int.emod_nonneg _ (by decide)
        have n1 : (((cell % 2147483647 * 48271 + 69621 * i * i + 40014 * i + 29) % 2147483629) * ((cell % 2147483647 * 48271 + 69621 * i * i + 40014 * i + 29) % 2147483629) + 16807 * ((cell % 2147483647 * 48271 + 69621 * i * i + 40014 * i + 29) % 2147483629) + 3 * i + 5) % 2147483587 < 2147483587 := Int.emod_lt_of_pos _ (by decide)
        refine ⟨_, rfl, _, rfl, _, _, rfl, rfl, _, _, rfl, rfl, .inl ⟨by omega, by omega⟩, _, _, rfl, rfl, (by show (0 : Int) < _; decide), _, _, rfl, rfl, ⟨by decide, by decide⟩, _, rfl, _, _, rfl, rfl, hs, ?_⟩
        exact q _ (i + 1) _ _ (Int.emod_nonneg _ (by omega)) (Int.emod_lt_of_pos _ hs) (by omega) (by omega) hr0 b2 e2
    · have hW : CMulW (69621 * i) i := wide_mul (a := 17 + 400000) (b := 400000) (wide_lt (by decide) hlim) hlim (by decide) (by decide) (by decide)
      clear hlim
      refine ⟨_, rfl, _, _, rfl, rfl, (by show (0 : Int) < _; decide), _, _, rfl, rfl, .inr ⟨by decide, by decide⟩, _, rfl, _, _, rfl, rfl, .inl ⟨by decide, by decide⟩, _, rfl, _, _, rfl, rfl, hW, _, _, rfl, rfl, ?_⟩
      refine ⟨_, rfl, _, rfl, _, _, rfl, rfl, .inl ⟨by decide, by decide⟩, _, _, rfl, rfl, _, _, rfl, rfl, _, _, rfl, rfl, (by show (0 : Int) < _; decide), ?_⟩
      have m0 : 0 ≤ ((cell % 2147483647 * 48271 + 69621 * i * i + 40014 * i + 29) % 2147483629) := Int.emod_nonneg _ (by decide)
      have m1 : ((cell % 2147483647 * 48271 + 69621 * i * i + 40014 * i + 29) % 2147483629) < 2147483629 := Int.emod_lt_of_pos _ (by decide)
      refine ⟨_, rfl, _, rfl, _, _, rfl, rfl, .inl ⟨by omega, by omega⟩, _, rfl, _, _, rfl, rfl, .inl ⟨by decide, by decide⟩, _, _, rfl, rfl, _, rfl, _, _, rfl, rfl, .inl ⟨by decide, by decide⟩, _, _, rfl, rfl, _, _, rfl, rfl, _, _, rfl, rfl, (by show (0 : Int) < _; decide), ?_⟩
      have n0 : 0 ≤ (((cell % 2147483647 * 48271 + 69621 * i * i + 40014 * i + 29) % 2147483629) * ((cell % 2147483647 * 48271 + 69621 * i * i + 40014 * i + 29) % 2147483629) + 16807 * ((cell % 2147483647 * 48271 + 69621 * i * i + 40014 * i + 29) % 2147483629) + 3 * i + 5) % 2147483587 := Int.emod_nonneg _ (by decide)
      have n1 : (((cell % 2147483647 * 48271 + 69621 * i * i + 40014 * i + 29) % 2147483629) * ((cell % 2147483647 * 48271 + 69621 * i * i + 40014 * i + 29) % 2147483629) + 16807 * ((cell % 2147483647 * 48271 + 69621 * i * i + 40014 * i + 29) % 2147483629) + 3 * i + 5) % 2147483587 < 2147483587 := Int.emod_lt_of_pos _ (by decide)
      refine ⟨_, rfl, _, rfl, _, _, rfl, rfl, _, _, rfl, rfl, .inl ⟨by omega, by omega⟩, _, _, rfl, rfl, (by show (0 : Int) < _; decide), _, _, rfl, rfl, ⟨by decide, by decide⟩, _, rfl, _, _, rfl, rfl, hs, ?_⟩
      exact q _ (i + 1) _ _ (Int.emod_nonneg _ (by omega)) (Int.emod_lt_of_pos _ hs) (by omega) (by omega) hr0 b2 e2
theorem ok__law_draw (T : Txt K mg) : Cl P w K mg base (L2.CX P w) 1 "_law_draw" ["_law_pen_here", "_law_count"] (spC mg cDraw 1 K) := by
  obtain ⟨f, fd, gm, F⟩ := T.f__law_draw
  exact (Cl.of (FnG.up (raw__law_draw T F)) gm F.kp (F.binds fun _ _ _ _ _ _ us hl => match us, hl with | [_, _], _ => rfl)).imp draw_of
theorem glo__law_pick (T : Txt K mg) : Glo P w K mg base G__law_pick 1 CC := by
  refine ⟨fun x hx => ?_, fun x d hx => ?_, fun f m hf => ?_, fun f hf => ?_, fun x m nm hx => ?_, fun x f hx => ?_, fun x y b hx => ?_, fun y hx => ?_, fun g m ma hx => ?_, fun f m hx => ?_, fun f kn m hx => ?_, trivial⟩
  · simp only [G__law_pick, List.mem_cons, List.not_mem_nil, or_false] at hx
    obtain rfl := hx
    exact T.m_len
  · cases hx
  · simp only [G__law_pick, List.mem_cons, List.not_mem_nil, or_false, Prod.mk.injEq] at hf
    obtain ⟨rfl, rfl⟩ := hf
    exact ⟨1, ["_law_pen_here", "_law_count"], by decide, by rw [C__law_draw]; exact ok__law_draw T⟩
  · cases hf
  · cases hx
  · cases hx
  · cases hx
  · cases hx
  · cases hx
  · cases hx
  · cases hx
theorem ok__law_pick (T : Txt K mg) : Cl P w K mg base (L2.CX P w) 2 "_law_pick" ["_law_pen_here", "_law_options"] (spC mg c__law_pick k__law_pick K) := by
  exact cl_ok T.f__law_pick (glo__law_pick T) rfl rfl rfl (by decide +kernel) (fun c => p__law_pick c) (Nat.le_refl _) l__law_pick (fun as Q E h => wB_up (v__law_pick as Q (mkC_down h))) (fun us _ _ _ _ _ _ hl => match us, hl with | [_, _], _ => rfl)
theorem glo__law_drawn_letters (T : Txt K mg) : Glo P w K mg base G__law_drawn_letters 2 CC := by
  refine ⟨fun x hx => ?_, fun x d hx => ?_, fun f m hf => ?_, fun f hf => ?_, fun x m nm hx => ?_, fun x f hx => ?_, fun x y b hx => ?_, fun y hx => ?_, fun g m ma hx => ?_, fun f m hx => ?_, fun f kn m hx => ?_, trivial⟩
  · simp only [G__law_drawn_letters, List.mem_cons, List.not_mem_nil, or_false] at hx
    obtain rfl := hx
    exact T.m_range
  · cases hx
  · simp only [G__law_drawn_letters, List.mem_cons, List.not_mem_nil, or_false, Prod.mk.injEq] at hf
    rcases hf with ⟨rfl, rfl⟩ | ⟨rfl, rfl⟩
    · exact ⟨2, ["_law_pen_here", "_law_options"], by decide, by rw [C__law_pick]; exact ok__law_pick T⟩
    · exact ⟨1, ["_law_pen_here", "_law_count"], by decide, by rw [C__law_draw]; exact ok__law_draw T⟩
  · cases hf
  · cases hx
  · cases hx
  · cases hx
  · cases hx
  · cases hx
  · cases hx
  · cases hx
theorem ok__law_drawn_letters (T : Txt K mg) : Cl P w K mg base (L2.CX P w) 3 "_law_drawn_letters" ["_law_pen_here", "_law_count"] (spC mg c__law_drawn_letters k__law_drawn_letters K) := by
  exact cl_ok T.f__law_drawn_letters (glo__law_drawn_letters T) rfl rfl rfl (by decide +kernel) (fun c => p__law_drawn_letters c) (Nat.le_refl _) l__law_drawn_letters (fun as Q E h => wB_up (v__law_drawn_letters as Q (mkC_down h))) (fun us _ _ _ _ _ _ hl => match us, hl with | [_, _], _ => rfl)
theorem glo__law_with_isolated (T : Txt K mg) : Glo P w K mg base G__law_with_isolated 3 CC := by
  refine ⟨fun x hx => ?_, fun x d hx => ?_, fun f m hf => ?_, fun f hf => ?_, fun x m nm hx => ?_, fun x f hx => ?_, fun x y b hx => ?_, fun y hx => ?_, fun g m ma hx => ?_, fun f m hx => ?_, fun f kn m hx => ?_, trivial⟩
  · simp only [G__law_with_isolated, List.mem_cons, List.not_mem_nil, or_false] at hx
    rcases hx with rfl | rfl
    · exact T.m_len
    · exact T.m_range
  · cases hx
  · simp only [G__law_with_isolated, List.mem_cons, List.not_mem_nil, or_false, Prod.mk.injEq] at hf
    rcases hf with ⟨rfl, rfl⟩ | ⟨rfl, rfl⟩ | ⟨rfl, rfl⟩
    · exact ⟨1, ["_law_pen_here", "_law_count"], by decide, by rw [C__law_draw]; exact ok__law_draw T⟩
    · exact ⟨2, ["_law_pen_here", "_law_options"], by decide, by rw [C__law_pick]; exact ok__law_pick T⟩
    · exact ⟨3, ["_law_pen_here", "_law_count"], by decide, by rw [C__law_drawn_letters]; exact ok__law_drawn_letters T⟩
  · cases hf
  · cases hx
  · cases hx
  · cases hx
  · cases hx
  · cases hx
  · cases hx
  · cases hx
theorem ok__law_with_isolated (T : Txt K mg) : Cl P w K mg base (L2.CX P w) 4 "_law_with_isolated" ["_law_pen_here"] (spC mg c__law_with_isolated k__law_with_isolated K) := by
  exact cl_ok T.f__law_with_isolated (glo__law_with_isolated T) rfl rfl rfl (by decide +kernel) (fun c => p__law_with_isolated c) (Nat.le_refl _) l__law_with_isolated (fun as Q E h => wB_up (v__law_with_isolated as Q (mkC_down h))) (fun us _ _ _ _ _ _ hl => match us, hl with | [_], _ => rfl)
theorem glo__law_drawn_pattern (T : Txt K mg) : Glo P w K mg base G__law_drawn_pattern 3 CC := by
  refine ⟨fun x hx => ?_, fun x d hx => ?_, fun f m hf => ?_, fun f hf => ?_, fun x m nm hx => ?_, fun x f hx => ?_, fun x y b hx => ?_, fun y hx => ?_, fun g m ma hx => ?_, fun f m hx => ?_, fun f kn m hx => ?_, trivial⟩
  · simp only [G__law_drawn_pattern, List.mem_cons, List.not_mem_nil, or_false] at hx
    obtain rfl := hx
    exact T.m_range
  · cases hx
  · simp only [G__law_drawn_pattern, List.mem_cons, List.not_mem_nil, or_false, Prod.mk.injEq] at hf
    rcases hf with ⟨rfl, rfl⟩ | ⟨rfl, rfl⟩
    · exact ⟨2, ["_law_pen_here", "_law_options"], by decide, by rw [C__law_pick]; exact ok__law_pick T⟩
    · exact ⟨3, ["_law_pen_here", "_law_count"], by decide, by rw [C__law_drawn_letters]; exact ok__law_drawn_letters T⟩
  · cases hf
  · cases hx
  · cases hx
  · cases hx
  · cases hx
  · cases hx
  · cases hx
  · cases hx
theorem ok__law_drawn_pattern (T : Txt K mg) : Cl P w K mg base (L2.CX P w) 4 "_law_drawn_pattern" ["_law_pen_here", "_law_size", "_law_count"] (spC mg c__law_drawn_pattern k__law_drawn_pattern K) := by
  exact cl_ok T.f__law_drawn_pattern (glo__law_drawn_pattern T) rfl rfl rfl (by decide +kernel) (fun c => p__law_drawn_pattern c) (Nat.le_refl _) l__law_drawn_pattern (fun as Q E h => wB_up (v__law_drawn_pattern as Q (mkC_down h))) (fun us _ _ _ _ _ _ hl => match us, hl with | [_, _, _], _ => rfl)
theorem glo_isolated (T : Txt K mg) : Glo P w K mg base G_isolated 3 CC := by
  refine ⟨fun x hx => ?_, fun x d hx => ?_, fun f m hf => ?_, fun f hf => ?_, fun x m nm hx => ?_, fun x f hx => ?_, fun x y b hx => ?_, fun y hx => ?_, fun g m ma hx => ?_, fun f m hx => ?_, fun f kn m hx => ?_, trivial⟩
  · cases hx
  · cases hx
  · simp only [G_isolated, List.mem_cons, List.not_mem_nil, or_false, Prod.mk.injEq] at hf
    rcases hf with ⟨rfl, rfl⟩ | ⟨rfl, rfl⟩
    · exact ⟨1, ["pattern"], by decide, by rw [C_isolated_in]; exact ok_isolated_in T⟩
    · exact ⟨3, ["value"], by decide, by rw [C_need_pattern]; exact ok_need_pattern T⟩
  · cases hf
  · cases hx
  · cases hx
  · cases hx
  · cases hx
  · cases hx
  · cases hx
  · cases hx
theorem ok_isolated (T : Txt K mg) : Cl P w K mg base (L2.CX P w) 4 "isolated" ["pattern"] (spC mg c_isolated k_isolated K) := by
  exact cl_ok T.f_isolated (glo_isolated T) rfl rfl rfl (by decide +kernel) (fun c => p_isolated c) (Nat.le_refl _) l_isolated v_isolated (fun us _ _ _ _ _ _ hl => match us, hl with | [_], _ => rfl)
theorem glo__law_rejected (T : Txt K mg) : Glo P w K mg base G__law_rejected 2 CC := by
  refine ⟨fun x hx => ?_, fun x d hx => ?_, fun f m hf => ?_, fun f hf => ?_, fun x m nm hx => ?_, fun x f hx => ?_, fun x y b hx => ?_, fun y hx => ?_, fun g m ma hx => ?_, fun f m hx => ?_, fun f kn m hx => ?_, trivial⟩
  · simp only [G__law_rejected, List.mem_cons, List.not_mem_nil, or_false] at hx
    rcases hx with rfl | rfl
    · exact T.m_isinstance
    · exact T.m_repr
  · cases hx
  · cases hf
  · cases hf
  · cases hx
  · exact exs_ok T (by decide) x f hx
  · exact rels_ok T x y b hx
  · exact nrels_ok T y hx
  · cases hx
  · cases hx
  · cases hx
theorem lk__law_rejected (T : Txt K mg) : LamTk2 P w K mg base 2 "_law_rejected" c__law_rejected k__law_rejected ma__law_rejected := lamTk2_ok T.f__law_rejected (glo__law_rejected T) rfl rfl rfl (by decide +kernel) (fun c ha => p__law_rejected c ha) (fun _ _ => Nat.le_refl _) v__law_rejected rfl rfl (by decide) (by decide) (by decide) (by decide) (fun us _ _ _ _ _ _ hl => match us, hl with | [_, _], _ => rfl)
theorem glo__law_distinct (T : Txt K mg) : Glo P w K mg base G__law_distinct 0 CC := by
  refine ⟨fun x hx => ?_, fun x d hx => ?_, fun f m hf => ?_, fun f hf => ?_, fun x m nm hx => ?_, fun x f hx => ?_, fun x y b hx => ?_, fun y hx => ?_, fun g m ma hx => ?_, fun f m hx => ?_, fun f kn m hx => ?_, trivial⟩
  · cases hx
  · cases hx
  · cases hf
  · cases hf
  · cases hx
  · cases hx
  · cases hx
  · cases hx
  · cases hx
  · cases hx
  · cases hx
theorem ok__law_distinct (T : Txt K mg) : Cl P w K mg base (L2.CX P w) 1 "_law_distinct" ["_law_string"] (spC mg c__law_distinct k__law_distinct K) := by
  exact cl_ok T.f__law_distinct (glo__law_distinct T) rfl rfl rfl (by decide +kernel) (fun c => p__law_distinct c) (Nat.le_refl _) l__law_distinct (fun as Q E h => wB_up (v__law_distinct as Q (mkC_down h))) (fun us _ _ _ _ _ _ hl => match us, hl with | [_], _ => rfl)
theorem glo_law (T : Txt K mg) : Glo P w K mg base G_law 5 CC := by
  refine ⟨fun x hx => ?_, fun x d hx => ?_, fun f m hf => ?_, fun f hf => ?_, fun x m nm hx => ?_, fun x f hx => ?_, fun x y b hx => ?_, fun y hx => ?_, fun g m ma hx => ?_, fun f m hx => ?_, fun f kn m hx => ?_, ⟨⟨⟨2, by decide, lk__law_rejected T⟩, 4, ["pattern"], by decide, by rw [C_isolated]; exact ok_isolated T⟩, ⟨⟨2, by decide, lk__law_rejected T⟩, 4, ["pattern"], by decide, by rw [C_fragments]; exact ok_fragments T⟩⟩⟩
  · simp only [G_law, List.mem_cons, List.not_mem_nil, or_false] at hx
    rcases hx with rfl | rfl | rfl | rfl | rfl
    · exact T.m_len
    · exact T.m_min
    · exact T.m_range
    · exact T.m_repr
    · exact T.m_sorted
  · cases hx
  · simp only [G_law, List.mem_cons, List.not_mem_nil, or_false, Prod.mk.injEq] at hf
    rcases hf with ⟨rfl, rfl⟩ | ⟨rfl, rfl⟩ | ⟨rfl, rfl⟩ | ⟨rfl, rfl⟩ | ⟨rfl, rfl⟩ | ⟨rfl, rfl⟩ | ⟨rfl, rfl⟩ | ⟨rfl, rfl⟩
    · exact ⟨1, [], by decide, by rw [C__law_bad_patterns]; exact ok__law_bad_patterns T⟩
    · exact ⟨4, ["pattern"], by decide, by rw [C_fragments]; exact ok_fragments T⟩
    · exact ⟨4, ["pattern"], by decide, by rw [C_isolated]; exact ok_isolated T⟩
    · exact ⟨1, ["_law_pattern", "_law_alone"], by decide, by rw [C__law_parts]; exact ok__law_parts T⟩
    · exact ⟨1, ["_law_string"], by decide, by rw [C__law_distinct]; exact ok__law_distinct T⟩
    · exact ⟨4, ["_law_pen_here", "_law_size", "_law_count"], by decide, by rw [C__law_drawn_pattern]; exact ok__law_drawn_pattern T⟩
    · exact ⟨1, ["_law_pen_here", "_law_count"], by decide, by rw [C__law_draw]; exact ok__law_draw T⟩
    · exact ⟨4, ["_law_pen_here"], by decide, by rw [C__law_with_isolated]; exact ok__law_with_isolated T⟩
  · simp only [G_law, List.mem_cons, List.not_mem_nil, or_false] at hf
    obtain rfl := hf
    exact ⟨1, ["_law_script"], by decide, ok__law_pen T⟩
  · cases hx
  · cases hx
  · cases hx
  · cases hx
  · cases hx
  · cases hx
  · cases hx
theorem raw_law (T : Txt K mg) {f : Addr} {fd : FuncData} (F : Fun K "law" "law" s_law f fd) : FnG P w K mg base CX0 6 f fd ["_law_script"] (spC (fun _ => none) cLaw k_law K) := by
  exact law_ok F (glo_law T) rfl rfl rfl (by decide +kernel) (fun hE c => p_law hE c) (Nat.le_refl _) (fun as Q E h => by obtain ⟨n, rfl, _⟩ := h; rfl) (fun _ _ _ h => h) v_law
end
theorem all_mk {P : Program} {w : World} {K : PySem.W.Frag} {h : Heap} {mg : Str → Option Value} {fa : Addr} (X : K.In h) (G : h.Ns mainGlobals mg) (hfa : mg "law" = some (.ref fa))
    {f0 : Addr} {od0 an0 : Option Addr} {sl0 : Array (Option Value)} {oc0 kV0 dc0 pm0 cd0 ct0 : Value} (a0 : PySem.W.nsIn K mainGlobals "_law_pen" = some (some (.ref f0))) (l0 : K.lookup f0 = some ⟨oc0, od0, .func (PySem.W.fnOf "_law_pen" "_law_pen" (defArgs s__law_pen) (defBody s__law_pen) (defScope s__law_pen) .none kV0 dc0 pm0 an0 cd0 ct0), sl0⟩) (b0 : PySem.W.codeIn K cd0 "_law_pen" = true) (k0 : PySem.W.keepIn K (.ref f0) = true)
    {f1 : Addr} {od1 an1 : Option Addr} {sl1 : Array (Option Value)} {oc1 kV1 dc1 pm1 cd1 ct1 : Value} (a1 : PySem.W.nsIn K mainGlobals "_law_bad_patterns" = some (some (.ref f1))) (l1 : K.lookup f1 = some ⟨oc1, od1, .func (PySem.W.fnOf "_law_bad_patterns" "_law_bad_patterns" (defArgs s__law_bad_patterns) (defBody s__law_bad_patterns) (defScope s__law_bad_patterns) .none kV1 dc1 pm1 an1 cd1 ct1), sl1⟩) (b1 : PySem.W.codeIn K cd1 "_law_bad_patterns" = true) (k1 : PySem.W.keepIn K (.ref f1) = true)
    {f2 : Addr} {od2 an2 : Option Addr} {sl2 : Array (Option Value)} {oc2 kV2 dc2 pm2 cd2 ct2 : Value} (a2 : PySem.W.nsIn K mainGlobals "_law_parts" = some (some (.ref f2))) (l2 : K.lookup f2 = some ⟨oc2, od2, .func (PySem.W.fnOf "_law_parts" "_law_parts" (defArgs s__law_parts) (defBody s__law_parts) (defScope s__law_parts) .none kV2 dc2 pm2 an2 cd2 ct2), sl2⟩) (b2 : PySem.W.codeIn K cd2 "_law_parts" = true) (k2 : PySem.W.keepIn K (.ref f2) = true)
    {f3 : Addr} {od3 an3 : Option Addr} {sl3 : Array (Option Value)} {oc3 kV3 dc3 pm3 cd3 ct3 : Value} (a3 : PySem.W.nsIn K mainGlobals "are_variables" = some (some (.ref f3))) (l3 : K.lookup f3 = some ⟨oc3, od3, .func (PySem.W.fnOf "are_variables" "are_variables" (defArgs s_are_variables) (defBody s_are_variables) (defScope s_are_variables) .none kV3 dc3 pm3 an3 cd3 ct3), sl3⟩) (b3 : PySem.W.codeIn K cd3 "are_variables" = true) (k3 : PySem.W.keepIn K (.ref f3) = true)
    {f4 : Addr} {od4 an4 : Option Addr} {sl4 : Array (Option Value)} {oc4 kV4 dc4 pm4 cd4 ct4 : Value} (a4 : PySem.W.nsIn K mainGlobals "distinct" = some (some (.ref f4))) (l4 : K.lookup f4 = some ⟨oc4, od4, .func (PySem.W.fnOf "distinct" "distinct" (defArgs s_distinct) (defBody s_distinct) (defScope s_distinct) .none kV4 dc4 pm4 an4 cd4 ct4), sl4⟩) (b4 : PySem.W.codeIn K cd4 "distinct" = true) (k4 : PySem.W.keepIn K (.ref f4) = true)
    {f5 : Addr} {od5 an5 : Option Addr} {sl5 : Array (Option Value)} {oc5 kV5 dc5 pm5 cd5 ct5 : Value} (a5 : PySem.W.nsIn K mainGlobals "fits_pattern" = some (some (.ref f5))) (l5 : K.lookup f5 = some ⟨oc5, od5, .func (PySem.W.fnOf "fits_pattern" "fits_pattern" (defArgs s_fits_pattern) (defBody s_fits_pattern) (defScope s_fits_pattern) .none kV5 dc5 pm5 an5 cd5 ct5), sl5⟩) (b5 : PySem.W.codeIn K cd5 "fits_pattern" = true) (k5 : PySem.W.keepIn K (.ref f5) = true)
    {f6 : Addr} {od6 an6 : Option Addr} {sl6 : Array (Option Value)} {oc6 kV6 dc6 pm6 cd6 ct6 : Value} (a6 : PySem.W.nsIn K mainGlobals "need_pattern" = some (some (.ref f6))) (l6 : K.lookup f6 = some ⟨oc6, od6, .func (PySem.W.fnOf "need_pattern" "need_pattern" (defArgs s_need_pattern) (defBody s_need_pattern) (defScope s_need_pattern) .none kV6 dc6 pm6 an6 cd6 ct6), sl6⟩) (b6 : PySem.W.codeIn K cd6 "need_pattern" = true) (k6 : PySem.W.keepIn K (.ref f6) = true)
    {f7 : Addr} {od7 an7 : Option Addr} {sl7 : Array (Option Value)} {oc7 kV7 dc7 pm7 cd7 ct7 : Value} (a7 : PySem.W.nsIn K mainGlobals "isolated_in" = some (some (.ref f7))) (l7 : K.lookup f7 = some ⟨oc7, od7, .func (PySem.W.fnOf "isolated_in" "isolated_in" (defArgs s_isolated_in) (defBody s_isolated_in) (defScope s_isolated_in) .none kV7 dc7 pm7 an7 cd7 ct7), sl7⟩) (b7 : PySem.W.codeIn K cd7 "isolated_in" = true) (k7 : PySem.W.keepIn K (.ref f7) = true)
    {f8 : Addr} {od8 an8 : Option Addr} {sl8 : Array (Option Value)} {oc8 kV8 dc8 pm8 cd8 ct8 : Value} (a8 : PySem.W.nsIn K mainGlobals "fragments" = some (some (.ref f8))) (l8 : K.lookup f8 = some ⟨oc8, od8, .func (PySem.W.fnOf "fragments" "fragments" (defArgs s_fragments) (defBody s_fragments) (defScope s_fragments) .none kV8 dc8 pm8 an8 cd8 ct8), sl8⟩) (b8 : PySem.W.codeIn K cd8 "fragments" = true) (k8 : PySem.W.keepIn K (.ref f8) = true)
    {f9 : Addr} {od9 an9 : Option Addr} {sl9 : Array (Option Value)} {oc9 kV9 dc9 pm9 cd9 ct9 : Value} (a9 : PySem.W.nsIn K mainGlobals "_law_draw" = some (some (.ref f9))) (l9 : K.lookup f9 = some ⟨oc9, od9, .func (PySem.W.fnOf "_law_draw" "_law_draw" (defArgs s__law_draw) (defBody s__law_draw) (defScope s__law_draw) .none kV9 dc9 pm9 an9 cd9 ct9), sl9⟩) (b9 : PySem.W.codeIn K cd9 "_law_draw" = true) (k9 : PySem.W.keepIn K (.ref f9) = true)
    {f10 : Addr} {od10 an10 : Option Addr} {sl10 : Array (Option Value)} {oc10 kV10 dc10 pm10 cd10 ct10 : Value} (a10 : PySem.W.nsIn K mainGlobals "_law_pick" = some (some (.ref f10))) (l10 : K.lookup f10 = some ⟨oc10, od10, .func (PySem.W.fnOf "_law_pick" "_law_pick" (defArgs s__law_pick) (defBody s__law_pick) (defScope s__law_pick) .none kV10 dc10 pm10 an10 cd10 ct10), sl10⟩) (b10 : PySem.W.codeIn K cd10 "_law_pick" = true) (k10 : PySem.W.keepIn K (.ref f10) = true)
    {f11 : Addr} {od11 an11 : Option Addr} {sl11 : Array (Option Value)} {oc11 kV11 dc11 pm11 cd11 ct11 : Value} (a11 : PySem.W.nsIn K mainGlobals "_law_drawn_letters" = some (some (.ref f11))) (l11 : K.lookup f11 = some ⟨oc11, od11, .func (PySem.W.fnOf "_law_drawn_letters" "_law_drawn_letters" (defArgs s__law_drawn_letters) (defBody s__law_drawn_letters) (defScope s__law_drawn_letters) .none kV11 dc11 pm11 an11 cd11 ct11), sl11⟩) (b11 : PySem.W.codeIn K cd11 "_law_drawn_letters" = true) (k11 : PySem.W.keepIn K (.ref f11) = true)
    {f12 : Addr} {od12 an12 : Option Addr} {sl12 : Array (Option Value)} {oc12 kV12 dc12 pm12 cd12 ct12 : Value} (a12 : PySem.W.nsIn K mainGlobals "_law_with_isolated" = some (some (.ref f12))) (l12 : K.lookup f12 = some ⟨oc12, od12, .func (PySem.W.fnOf "_law_with_isolated" "_law_with_isolated" (defArgs s__law_with_isolated) (defBody s__law_with_isolated) (defScope s__law_with_isolated) .none kV12 dc12 pm12 an12 cd12 ct12), sl12⟩) (b12 : PySem.W.codeIn K cd12 "_law_with_isolated" = true) (k12 : PySem.W.keepIn K (.ref f12) = true)
    {f13 : Addr} {od13 an13 : Option Addr} {sl13 : Array (Option Value)} {oc13 kV13 dc13 pm13 cd13 ct13 : Value} (a13 : PySem.W.nsIn K mainGlobals "_law_drawn_pattern" = some (some (.ref f13))) (l13 : K.lookup f13 = some ⟨oc13, od13, .func (PySem.W.fnOf "_law_drawn_pattern" "_law_drawn_pattern" (defArgs s__law_drawn_pattern) (defBody s__law_drawn_pattern) (defScope s__law_drawn_pattern) .none kV13 dc13 pm13 an13 cd13 ct13), sl13⟩) (b13 : PySem.W.codeIn K cd13 "_law_drawn_pattern" = true) (k13 : PySem.W.keepIn K (.ref f13) = true)
    {f14 : Addr} {od14 an14 : Option Addr} {sl14 : Array (Option Value)} {oc14 kV14 dc14 pm14 cd14 ct14 : Value} (a14 : PySem.W.nsIn K mainGlobals "isolated" = some (some (.ref f14))) (l14 : K.lookup f14 = some ⟨oc14, od14, .func (PySem.W.fnOf "isolated" "isolated" (defArgs s_isolated) (defBody s_isolated) (defScope s_isolated) .none kV14 dc14 pm14 an14 cd14 ct14), sl14⟩) (b14 : PySem.W.codeIn K cd14 "isolated" = true) (k14 : PySem.W.keepIn K (.ref f14) = true)
    {f15 : Addr} {od15 an15 : Option Addr} {sl15 : Array (Option Value)} {oc15 kV15 dc15 pm15 cd15 ct15 : Value} (a15 : PySem.W.nsIn K mainGlobals "_law_rejected" = some (some (.ref f15))) (l15 : K.lookup f15 = some ⟨oc15, od15, .func (PySem.W.fnOf "_law_rejected" "_law_rejected" (defArgs s__law_rejected) (defBody s__law_rejected) (defScope s__law_rejected) .none kV15 dc15 pm15 an15 cd15 ct15), sl15⟩) (b15 : PySem.W.codeIn K cd15 "_law_rejected" = true) (k15 : PySem.W.keepIn K (.ref f15) = true)
    {f16 : Addr} {od16 an16 : Option Addr} {sl16 : Array (Option Value)} {oc16 kV16 dc16 pm16 cd16 ct16 : Value} (a16 : PySem.W.nsIn K mainGlobals "_law_distinct" = some (some (.ref f16))) (l16 : K.lookup f16 = some ⟨oc16, od16, .func (PySem.W.fnOf "_law_distinct" "_law_distinct" (defArgs s__law_distinct) (defBody s__law_distinct) (defScope s__law_distinct) .none kV16 dc16 pm16 an16 cd16 ct16), sl16⟩) (b16 : PySem.W.codeIn K cd16 "_law_distinct" = true) (k16 : PySem.W.keepIn K (.ref f16) = true)
    {f17 : Addr} {od17 an17 : Option Addr} {sl17 : Array (Option Value)} {oc17 kV17 dc17 pm17 cd17 ct17 : Value} (a17 : PySem.W.nsIn K mainGlobals "law" = some (some (.ref f17))) (l17 : K.lookup f17 = some ⟨oc17, od17, .func (PySem.W.fnOf "law" "law" (defArgs s_law) (defBody s_law) (defScope s_law) .none kV17 dc17 pm17 an17 cd17 ct17), sl17⟩) (b17 : PySem.W.codeIn K cd17 "law" = true) (k17 : PySem.W.keepIn K (.ref f17) = true)
    {t0 : Tok} (n0 : PySem.W.nsIn K mainGlobals "ALPHABET" = some (some (Value.str "abcdefghijklmnopqrstuvwxyz" t0)))
    {t1 : Tok} (n1 : PySem.W.nsIn K mainGlobals "MAX_PATTERN" = some (some (Value.int 40 t1)))
    {t2 : Tok} (n2 : PySem.W.nsIn K mainGlobals "MAX_VARIABLES" = some (some (Value.int 8 t2)))
    (z0 : PySem.W.nsIn K mainGlobals "ValueError" = some none)
    (z1 : PySem.W.nsIn K mainGlobals "abs" = some none)
    (z2 : PySem.W.nsIn K mainGlobals "all" = some none)
    (z3 : PySem.W.nsIn K mainGlobals "enumerate" = some none)
    (z4 : PySem.W.nsIn K mainGlobals "isinstance" = some none)
    (z5 : PySem.W.nsIn K mainGlobals "len" = some none)
    (z6 : PySem.W.nsIn K mainGlobals "list" = some none)
    (z7 : PySem.W.nsIn K mainGlobals "min" = some none)
    (z8 : PySem.W.nsIn K mainGlobals "range" = some none)
    (z9 : PySem.W.nsIn K mainGlobals "repr" = some none)
    (z10 : PySem.W.nsIn K mainGlobals "sorted" = some none)
    (z11 : PySem.W.nsIn K mainGlobals "str" = some none)
    {XCInvalidPattern : Addr} (XAInvalidPattern : PySem.W.nsIn K mainGlobals "InvalidPattern" = some (some (.ref XCInvalidPattern))) (XexInvalidPattern : PySem.W.subIn K (.ref XCInvalidPattern) (.type "BaseException") = some true) (XtyInvalidPattern : PySem.W.typeIn K (.ref XCInvalidPattern) = some (.type "type")) (XhdInvalidPattern : PySem.W.hasDictIn K XCInvalidPattern = true)
    (Xhn : PySem.W.specialIn K (.builtin "object.__class__") "__get__" = some (some (.builtin "getset_descriptor.__get__"))) (Xht : PySem.W.takesIn K (.builtin "object.__class__") = some true)
    {XfInvalidPattern : Addr} (XiInvalidPattern : PySem.W.findIn K (.ref XCInvalidPattern) "__init__" = some (some (.ref XfInvalidPattern))) (XtInvalidPattern : PySem.W.typeIn K (.ref XfInvalidPattern) = some (.type "function"))
    {XodInvalidPattern XanInvalidPattern : Option Addr} {XslInvalidPattern : Array (Option Value)} {XocInvalidPattern XkVInvalidPattern XdcInvalidPattern XpmInvalidPattern XcdInvalidPattern XctInvalidPattern : Value} (XlInvalidPattern : K.lookup XfInvalidPattern = some ⟨XocInvalidPattern, XodInvalidPattern, .func (PySem.W.fnOf "__init__" "InvalidPattern.__init__" (defArgs s_InvalidPattern___init__) (defBody s_InvalidPattern___init__) (defScope s_InvalidPattern___init__) .none XkVInvalidPattern XdcInvalidPattern XpmInvalidPattern XanInvalidPattern XcdInvalidPattern XctInvalidPattern), XslInvalidPattern⟩) (XbInvalidPattern : PySem.W.codeIn K XcdInvalidPattern "InvalidPattern.__init__" = true) (XkInvalidPattern : PySem.W.keepIn K (.ref XfInvalidPattern) = true)
    {XvnmInvalidPattern : _} {XvqInvalidPattern : _} {XvNInvalidPattern : _} {XvbsInvalidPattern : _} {XvsnInvalidPattern : _} {XvsubInvalidPattern : _} {XvabInvalidPattern : _} {XvcolInvalidPattern : _} {XvddInvalidPattern : _} {Xvk0InvalidPattern : _} {Xvk1InvalidPattern : _} {Xvk2InvalidPattern : _} {Xvk3InvalidPattern : _} {Xvk5InvalidPattern : _} (XcInvalidPattern : K.lookup XCInvalidPattern = some (excClassObj XvnmInvalidPattern XvqInvalidPattern XCInvalidPattern XvNInvalidPattern XvbsInvalidPattern [.type "ValueError", .type "Exception", .type "BaseException", .type "object"] true XvsnInvalidPattern XvsubInvalidPattern XvabInvalidPattern XvcolInvalidPattern XvddInvalidPattern Xvk0InvalidPattern Xvk1InvalidPattern Xvk2InvalidPattern Xvk3InvalidPattern Xvk5InvalidPattern "ValueError.__new__"))
    (XsaInvalidPattern : PySem.W.findIn K (.ref XCInvalidPattern) "__setattr__" = some (some (.builtin "object.__setattr__"))) (XkcInvalidPattern : PySem.W.keepIn K (.ref XCInvalidPattern) = true) (XnoInvalidPattern : PySem.W.findIn K (.ref XCInvalidPattern) "value" = some none) (XvVInvalidPattern : PySem.W.findCls K (.type "ValueError") (.type "type") "__init__" = some (.val (.builtin "ValueError.__init__")))
    (XhgInvalidPattern : PySem.W.findIn K (.ref XCInvalidPattern) "__getattribute__" = some (some (.builtin "BaseException.__getattribute__"))) (XhkInvalidPattern : PySem.W.findIn K (.ref XCInvalidPattern) "__getattr__" = some none) (XhaInvalidPattern : PySem.W.findIn K (.ref XCInvalidPattern) "__class__" = some (some (.builtin "object.__class__"))) (XhmInvalidPattern : PySem.W.mroIn K XCInvalidPattern (.type "object") = some true)
    (XnInvalidPattern : PySem.W.subIn K (.type "NoneType") (.ref XCInvalidPattern) = some false)
    (XsValueError : PySem.W.subIn K (.type "ValueError") (.type "BaseException") = some true)
    (XrInvalidPattern_InvalidPattern : PySem.W.subIn K (.ref XCInvalidPattern) (.ref XCInvalidPattern) = some true)
    (XrInvalidPattern_ValueError : PySem.W.subIn K (.ref XCInvalidPattern) (.type "ValueError") = some true)
    : ∃ fd : FuncData, (∀ (s : Shared) (v : Value), BindsTo s fd ⟨[v], []⟩ [("_law_script", v)]) ∧ ∀ base : Heap, K.In base → base.Ns mainGlobals mg → FnG P w K mg base CX0 6 fa fd ["_law_script"] (spC (fun _ => none) cLaw k_law K) := by
  have e := hfa.symm.trans (PySem.W.mg_of X G a17)
  cases e
  have XecInvalidPattern : L2.ExcC K XCInvalidPattern := ⟨XhgInvalidPattern, XhkInvalidPattern, XexInvalidPattern, XhdInvalidPattern, XhaInvalidPattern, Xhn, Xht, XhmInvalidPattern⟩
  have T : Txt K mg := {
    x_InvalidPattern := ⟨_, _, _, PySem.W.mg_of X G XAInvalidPattern, ⟨⟨_, _, _, _, _, _, _, _, _, _, _, _, _, _, XcInvalidPattern⟩, XsaInvalidPattern, XexInvalidPattern, XtyInvalidPattern, XkcInvalidPattern⟩, XiInvalidPattern, XtInvalidPattern, fun_mk (st := s_InvalidPattern___init__) XlInvalidPattern XbInvalidPattern XkInvalidPattern, XnoInvalidPattern, XvVInvalidPattern, XecInvalidPattern⟩
    r_InvalidPattern_InvalidPattern := rel_self (PySem.W.mg_of X G XAInvalidPattern) XecInvalidPattern XtyInvalidPattern XrInvalidPattern_InvalidPattern
    r_InvalidPattern_ValueError := rel_blt (n := "ValueError") (PySem.W.mg_of X G XAInvalidPattern) (PySem.W.mg_none_of X G z0) (by decide +kernel) XecInvalidPattern (by decide +kernel) XsValueError XrInvalidPattern_ValueError
    nr_InvalidPattern := nrel_own (PySem.W.mg_of X G XAInvalidPattern) XhdInvalidPattern XtyInvalidPattern XnInvalidPattern
    nr_ValueError := nrel_blt (n := "ValueError") (PySem.W.mg_none_of X G z0) (by decide +kernel) (by decide +kernel)
    f__law_pen := ⟨_, _, PySem.W.mg_of X G a0, fun_mk (st := s__law_pen) l0 b0 k0⟩
    f__law_bad_patterns := ⟨_, _, PySem.W.mg_of X G a1, fun_mk (st := s__law_bad_patterns) l1 b1 k1⟩
    f__law_parts := ⟨_, _, PySem.W.mg_of X G a2, fun_mk (st := s__law_parts) l2 b2 k2⟩
    f_are_variables := ⟨_, _, PySem.W.mg_of X G a3, fun_mk (st := s_are_variables) l3 b3 k3⟩
    f_distinct := ⟨_, _, PySem.W.mg_of X G a4, fun_mk (st := s_distinct) l4 b4 k4⟩
    f_fits_pattern := ⟨_, _, PySem.W.mg_of X G a5, fun_mk (st := s_fits_pattern) l5 b5 k5⟩
    f_need_pattern := ⟨_, _, PySem.W.mg_of X G a6, fun_mk (st := s_need_pattern) l6 b6 k6⟩
    f_isolated_in := ⟨_, _, PySem.W.mg_of X G a7, fun_mk (st := s_isolated_in) l7 b7 k7⟩
    f_fragments := ⟨_, _, PySem.W.mg_of X G a8, fun_mk (st := s_fragments) l8 b8 k8⟩
    f__law_draw := ⟨_, _, PySem.W.mg_of X G a9, fun_mk (st := s__law_draw) l9 b9 k9⟩
    f__law_pick := ⟨_, _, PySem.W.mg_of X G a10, fun_mk (st := s__law_pick) l10 b10 k10⟩
    f__law_drawn_letters := ⟨_, _, PySem.W.mg_of X G a11, fun_mk (st := s__law_drawn_letters) l11 b11 k11⟩
    f__law_with_isolated := ⟨_, _, PySem.W.mg_of X G a12, fun_mk (st := s__law_with_isolated) l12 b12 k12⟩
    f__law_drawn_pattern := ⟨_, _, PySem.W.mg_of X G a13, fun_mk (st := s__law_drawn_pattern) l13 b13 k13⟩
    f_isolated := ⟨_, _, PySem.W.mg_of X G a14, fun_mk (st := s_isolated) l14 b14 k14⟩
    f__law_rejected := ⟨_, _, PySem.W.mg_of X G a15, fun_mk (st := s__law_rejected) l15 b15 k15⟩
    f__law_distinct := ⟨_, _, PySem.W.mg_of X G a16, fun_mk (st := s__law_distinct) l16 b16 k16⟩
    f_law := ⟨_, _, PySem.W.mg_of X G a17, fun_mk (st := s_law) l17 b17 k17⟩
    c_ALPHABET := ⟨_, PySem.W.mg_of X G n0, ⟨_, rfl⟩⟩
    c_MAX_PATTERN := ⟨_, PySem.W.mg_of X G n1, ⟨_, rfl⟩⟩
    c_MAX_VARIABLES := ⟨_, PySem.W.mg_of X G n2, ⟨_, rfl⟩⟩
    m_ValueError := PySem.W.mg_none_of X G z0
    m_abs := PySem.W.mg_none_of X G z1
    m_all := PySem.W.mg_none_of X G z2
    m_enumerate := PySem.W.mg_none_of X G z3
    m_isinstance := PySem.W.mg_none_of X G z4
    m_len := PySem.W.mg_none_of X G z5
    m_list := PySem.W.mg_none_of X G z6
    m_min := PySem.W.mg_none_of X G z7
    m_range := PySem.W.mg_none_of X G z8
    m_repr := PySem.W.mg_none_of X G z9
    m_sorted := PySem.W.mg_none_of X G z10
    m_str := PySem.W.mg_none_of X G z11
  }
  exact ⟨_, fun s v => .of_eq rfl, fun base _ _ => raw_law T (fun_mk (st := s_law) l17 b17 k17)⟩
theorem k_law_ok : k_law ≤ LIM := by decide +kernel
end Law_k69
open PySem PySem.W PyProof.Rows
set_option maxRecDepth 100000 in
set_option maxHeartbeats 0 in
theorem PySem.Challenge.cw_mustoccur_k69_isolated_variables_and_fra_holds : PySem.Challenge.rw_mustoccur_k69_isolated_variables_and_fra.Holds := by
  w_on; o_law; k_head; (case hw => w_witness2)
  k_fill
  refine M.walk_G (l := PySem.Challenge.rw_mustoccur_k69_isolated_variables_and_fra) (n := 63) (k := 6) (x := "_law_script") (sp := fun K => Y.spC (fun _ => none) Y.cLaw Law_k69.k_law K) rfl (by decide) rfl ⟨rfl, by decide, by decide⟩ (fun w h Y => PySem.W.kIn_of Y) ?F (fun K H a ns hl _ hS => Y.law_want Law_k69.k_law_ok hl hS)
  case F =>
    intro w mg fa h KX G hmg
    refine' Law_k69.all_mk KX G hmg ?a0 ?l0 ?b0 ?k0 ?a1 ?l1 ?b1 ?k1 ?a2 ?l2 ?b2 ?k2 ?a3 ?l3 ?b3 ?k3 ?a4 ?l4 ?b4 ?k4 ?a5 ?l5 ?b5 ?k5 ?a6 ?l6 ?b6 ?k6 ?a7 ?l7 ?b7 ?k7 ?a8 ?l8 ?b8 ?k8 ?a9 ?l9 ?b9 ?k9 ?a10 ?l10 ?b10 ?k10 ?a11 ?l11 ?b11 ?k11 ?a12 ?l12 ?b12 ?k12 ?a13 ?l13 ?b13 ?k13 ?a14 ?l14 ?b14 ?k14 ?a15 ?l15 ?b15 ?k15 ?a16 ?l16 ?b16 ?k16 ?a17 ?l17 ?b17 ?k17 ?n0 ?n1 ?n2 ?z0 ?z1 ?z2 ?z3 ?z4 ?z5 ?z6 ?z7 ?z8 ?z9 ?z10 ?z11 ?XAInvalidPattern ?XexInvalidPattern ?XtyInvalidPattern ?XhdInvalidPattern ?Xhn ?Xht ?XiInvalidPattern ?XtInvalidPattern ?XlInvalidPattern ?XbInvalidPattern ?XkInvalidPattern ?XcInvalidPattern ?XsaInvalidPattern ?XkcInvalidPattern ?XnoInvalidPattern ?XvVInvalidPattern ?XhgInvalidPattern ?XhkInvalidPattern ?XhaInvalidPattern ?XhmInvalidPattern ?XnInvalidPattern ?XsValueError ?XrInvalidPattern_InvalidPattern ?XrInvalidPattern_ValueError
    (case a0 => k_is)
    (case l0 => k_is)
    (case b0 => k_is)
    (case k0 => k_is)
    (case a1 => k_is)
    (case l1 => k_is)
    (case b1 => k_is)
    (case k1 => k_is)
    (case a2 => k_is)
    (case l2 => k_is)
    (case b2 => k_is)
    (case k2 => k_is)
    (case a3 => k_is)
    (case l3 => k_is)
    (case b3 => k_is)
    (case k3 => k_is)
    (case a4 => k_is)
    (case l4 => k_is)
    (case b4 => k_is)
    (case k4 => k_is)
    (case a5 => k_is)
    (case l5 => k_is)
    (case b5 => k_is)
    (case k5 => k_is)
    (case a6 => k_is)
    (case l6 => k_is)
    (case b6 => k_is)
    (case k6 => k_is)
    (case a7 => k_is)
    (case l7 => k_is)
    (case b7 => k_is)
    (case k7 => k_is)
    (case a8 => k_is)
    (case l8 => k_is)
    (case b8 => k_is)
    (case k8 => k_is)
    (case a9 => k_is)
    (case l9 => k_is)
    (case b9 => k_is)
    (case k9 => k_is)
    (case a10 => k_is)
    (case l10 => k_is)
    (case b10 => k_is)
    (case k10 => k_is)
    (case a11 => k_is)
    (case l11 => k_is)
    (case b11 => k_is)
    (case k11 => k_is)
    (case a12 => k_is)
    (case l12 => k_is)
    (case b12 => k_is)
    (case k12 => k_is)
    (case a13 => k_is)
    (case l13 => k_is)
    (case b13 => k_is)
    (case k13 => k_is)
    (case a14 => k_is)
    (case l14 => k_is)
    (case b14 => k_is)
    (case k14 => k_is)
    (case a15 => k_is)
    (case l15 => k_is)
    (case b15 => k_is)
    (case k15 => k_is)
    (case a16 => k_is)
    (case l16 => k_is)
    (case b16 => k_is)
    (case k16 => k_is)
    (case a17 => k_is)
    (case l17 => k_is)
    (case b17 => k_is)
    (case k17 => k_is)
    (case n0 => k_is)
    (case n1 => k_is)
    (case n2 => k_is)
    (case z0 => k_is)
    (case z1 => k_is)
    (case z2 => k_is)
    (case z3 => k_is)
    (case z4 => k_is)
    (case z5 => k_is)
    (case z6 => k_is)
    (case z7 => k_is)
    (case z8 => k_is)
    (case z9 => k_is)
    (case z10 => k_is)
    (case z11 => k_is)
    (case XAInvalidPattern => k_is)
    (case XexInvalidPattern => k_is)
    (case XtyInvalidPattern => k_is)
    (case XhdInvalidPattern => k_is)
    (case Xhn => k_is)
    (case Xht => k_is)
    (case XiInvalidPattern => k_is)
    (case XtInvalidPattern => k_is)
    (case XlInvalidPattern => k_is)
    (case XbInvalidPattern => k_is)
    (case XkInvalidPattern => k_is)
    (case XcInvalidPattern => k_is)
    (case XsaInvalidPattern => k_is)
    (case XkcInvalidPattern => k_is)
    (case XnoInvalidPattern => k_is)
    (case XvVInvalidPattern => k_is)
    (case XhgInvalidPattern => k_is)
    (case XhkInvalidPattern => k_is)
    (case XhaInvalidPattern => k_is)
    (case XhmInvalidPattern => k_is)
    (case XnInvalidPattern => k_is)
    (case XsValueError => k_is)
    (case XrInvalidPattern_InvalidPattern => k_is)
    (case XrInvalidPattern_ValueError => k_is)
