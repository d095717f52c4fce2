import PyProof.Rows.All
import Wide.All
import OpenK.AllK
import Wide.FinOn
import HandS.ForMost
import HandS.Exc
import HandS.TryOnly
import HandS.IsInst
import HandS.RaiseMore
import HandS.TupAny
import HandS.TupMul
import HandS.Flow
import HandS.Style
import HandS.Wide
import HandS.Codes
import HandS.Deep
import HandS.Walk
import HandS.Conv
import PyProof.Draws
import PyProof.EnumMake
import HandS.Replace
import PyProof.StrLawsFirst
import PySem.Challenge.RW_mustoccur_k02_normal_forms
set_option Elab.async false
set_option linter.all false
set_option maxRecDepth 100000
set_option maxHeartbeats 4000000

namespace M
open PySem PySem.Spec PyProof.Rows L2
/-! ### promises of a def, asked only where no repr runs around (so that repr of data may be asked within) -/
structure FnG (P : Program) (w : World) (K : PySem.W.Frag) (mg : Str → Option Value) (base : Heap) (CX : CXT) (k : Nat) (f : Addr) (fd : FuncData) (ps : List Str) (sp : Sp) : Prop where
  len : ∀ vs H Q E, sp vs H Q E → vs.length = ps.length
  run : ∀ (A : Around) (outer : List Env) (s : Shared) (H : Hp) (args : Args) (us : List Value) (vs : List V) (Q : VK) (E : XK), Room k A → A.guards = some [] →
    Env0 P w K mg base A outer s H → BindsTo s fd args (ps.zip us) → Vals vs us → sp vs H Q E → codeAny (model P w) A (.call (.ref f) args) (CR CX outer P w H s Q E) s
section
variable {P : Program} {w : World} {K : PySem.W.Frag} {mg : Str → Option Value} {base : Heap} {CX : CXT} {k : Nat} {f : Addr} {fd : FuncData} {ps : List Str} {sp : Sp}
theorem FnG.imp {sp' : Sp} (F : FnG P w K mg base CX k f fd ps sp) (h : ∀ vs H Q E, sp' vs H Q E → sp vs H Q E) : FnG P w K mg base CX k f fd ps sp' :=
  ⟨fun vs H Q E q => F.len vs H Q E (h vs H Q E q), fun A outer s H args us vs Q E hr hg e b r q => F.run A outer s H args us vs Q E hr hg e b r (h vs H Q E q)⟩
theorem FnG.mono {j : Nat} (F : FnG P w K mg base CX j f fd ps sp) (h : j ≤ k) : FnG P w K mg base CX k f fd ps sp :=
  ⟨F.len, fun A outer s H args us vs Q E hr => F.run A outer s H args us vs Q E (hr.mono h)⟩
/-- a def by its body -/
theorem Fun.okG {x qual : Str} {st : Stmt} {N : List Str} (F : Fun K x qual st f fd) (S : FnScope N ps (defScope st)) (len : ∀ vs H Q E, sp vs H Q E → vs.length = ps.length)
    (body : ∀ (cdv : Value) (A : Around) (outer : List Env) (s : Shared) (H : Hp) (vs : List V) (Q : VK) (E : XK), Room k (A.deeper (envOfC qual (defScope st) s.heap.objs.size f cdv)) → A.guards = some [] → sp vs H Q E →
      ∃ t, PSs (cxOf CX P w K mg base N qual (defScope st) f cdv A outer s H E) (defBody st) t ∧ t { nx := fun _ H' => Q .non H', rt := Q } (start N vs) H) : FnG P w K mg base CX (k + 1) f fd ps sp := by
  obtain ⟨oc, od, kV, doc, pm, an, cdv, ct, osl, rfl, lk, hcd⟩ := F.ex
  constructor
  · exact len
  · intro A outer s H args us vs Q E room quiet e0 bnd rel want
    have count := len vs H Q E want
    have up : ∀ b o, base.get? b = some o → s.heap.get? b = some o := fun b o z => (e0.bs b o z).1
    have KX : K.In s.heap := e0.mod.kin.keeps up
    have places : ∀ y ∈ ps.zip us, (defScope st).names.lookup y.1 = some .local ∨ ((defScope st).names.lookup y.1 = some .cell ∧ ((cellsFrom (s.heap.objs.size + 1) (defScope st).names []).lookup y.1).isSome = true) := by
      rintro ⟨n, v⟩ hy
      rcases S.par n (List.of_mem_zip hy).1 with z | z
      · exact Or.inl z
      · exact Or.inr ⟨z, PySem.W.cellsFrom_some _ _ _ (Or.inl z)⟩
    refine codeAny_call_function room.depth (KX _ _ lk) rfl S.co S.gen rfl (PySem.W.codeRec_of KX hcd) (bnd _ _ _ _ ?_)
    refine wpAny_newFunctionEnv_cells S.kind places fun env he s1 inside => ?_
    subst he
    refine ⟨(e0.mod.nolimit.keeps up).keeps inside.toInCall.keep, codeAny_func ?_⟩
    obtain ⟨t, ht, hq⟩ := body cdv A outer s H vs Q E (room.deeper _) quiet want
    have I := inv_start (CX := CX) (E := E) S room.hd e0 count rel inside
    refine wpAny_mono (ht.run [] s1 (start N vs) H _ I hq) ?_ (fun e s2 z => z)
    intro fl s2 z
    match fl, z with
    | .ret u, ⟨v, σ2, H2, J, rv, q⟩ => exact ⟨v, H2, J.os, J.bare, J.base, J.hok, rv, q⟩
    | .next, ⟨σ2, H2, J, q⟩ => exact ⟨V.non, H2, J.os, J.bare, J.base, J.hok, rfl, q⟩
    | .brk, ⟨_, _, _, q⟩ => exact q.elim
    | .cont, ⟨_, _, _, q⟩ => exact q.elim
/-- a def that lets nothing out -/
theorem Fun.okG0 {x qual : Str} {st : Stmt} {N : List Str} (F : Fun K x qual st f fd) (S : FnScope N ps (defScope st)) (len : ∀ vs H Q E, sp vs H Q E → vs.length = ps.length)
    (body : ∀ (cdv : Value) (A : Around) (outer : List Env) (s : Shared) (H : Hp) (vs : List V) (Q : VK) (E : XK), Room k (A.deeper (envOfC qual (defScope st) s.heap.objs.size f cdv)) → A.guards = some [] → sp vs H Q E →
      ∃ t, PSs (cxOf CX0 P w K mg base N qual (defScope st) f cdv A outer s H E).nox (defBody st) t ∧ t { nx := fun _ H' => Q .non H', rt := Q } (start N vs) H) : FnG P w K mg base CX0 (k + 1) f fd ps sp := by
  refine Fun.okG F S len fun cdv A outer s H vs Q E hr hg h => ?_
  obtain ⟨t, a, b⟩ := body cdv A outer s H vs Q E hr hg h
  exact ⟨t, a.nox, b⟩
end
/-! ### a def of the text, with its promise, as callers take it -/
structure Cl (P : Program) (w : World) (K : PySem.W.Frag) (mg : Str → Option Value) (base : Heap) (CX : CXT) (k : Nat) (x : Str) (ps : List Str) (sp : Sp) : Prop where
  ex : ∃ (f : Addr) (fd : FuncData), FnG P w K mg base CX k f fd ps sp ∧ mg x = some (.ref f) ∧ PySem.W.keepIn K (.ref f) = true ∧ Binds K fd ps []
section
variable {P : Program} {w : World} {K : PySem.W.Frag} {mg : Str → Option Value} {base : Heap} {CX : CXT} {k : Nat} {x : Str} {ps : List Str} {sp : Sp}
theorem Cl.of {f : Addr} {fd : FuncData} (F : FnG P w K mg base CX k f fd ps sp) (g : mg x = some (.ref f)) (kp : PySem.W.keepIn K (.ref f) = true) (b : Binds K fd ps []) : Cl P w K mg base CX k x ps sp := ⟨f, fd, F, g, kp, b⟩
theorem Cl.imp {sp' : Sp} (c : Cl P w K mg base CX k x ps sp) (h : ∀ vs H Q E, sp' vs H Q E → sp vs H Q E) : Cl P w K mg base CX k x ps sp' := by
  obtain ⟨f, fd, F, g, kp, b⟩ := c.ex
  exact ⟨f, fd, F.imp h, g, kp, b⟩
end
section
variable {X : Cx} {CX : CXT} {k j : Nat} {f : Addr} {fd : FuncData} {ps : List Str} {sp : Sp} {E : XK} {x : Str} {p pos : Pos} {e : Expr} {es : List Expr} {t : TA}
theorem goes_fn {pins : List (Addr × Obj)} {σ : L2.St} {H : Hp} {s : Shared} {Q : VK} {us : List Value} {vs : List V} (F : FnG X.prog X.w X.K X.mg X.base CX k f fd ps sp) (hr : Room k X.A) (hg : X.A.guards = some []) (hb : Binds X.K fd ps []) (hx : Passes CX X E)
    (I : Inv X pins σ H s) (r : Vals vs us) (h : sp (vs ++ []) H Q E) : wpAny (model X.prog X.w) X.A (call (.ref f) us) (EP X pins σ Q) X.xe s := by
  rw [List.append_nil] at h
  have count := F.len vs H Q E h
  rw [r.length] at count
  have bnd := hb s us I.kIn (by rw [List.append_nil]; exact count)
  rw [List.append_nil] at bnd
  refine wpAny_call (codeAny_mono (F.run X.A X.stack s H ⟨us, []⟩ us vs Q E hr hg I.env0 bnd r h) ?_)
  intro res s2 z
  match res, z with
  | .error e, z => exact hx pins σ H s e s2 I z
  | .ok (.ret u), z => exact I.after z
  | .ok .next, z => exact False.elim z
  | .ok .brk, z => exact False.elim z
  | .ok .cont, z => exact False.elim z
theorem pe_cl (c : Cl X.prog X.w X.K X.mg X.base CX k x ps sp) (hr : Room j X.A) (hgd : X.A.guards = some []) (hk : k ≤ j) (hg : Gl X x) (hx : Passes CX X E) (ha : PA X (e :: es) t)
    (hdb : (x == ("__debug__" : Str)) = false := by decide) (he : starEach (e :: es) X.env = (false, eval e X.env) :: starEach es X.env := by rfl) (hpl : (backTo pos (starEach es X.env)).any (·.1) = false := by rfl) :
    PE X (.Call (.Name x p) (e :: es) [] pos) (tCall sp [] E t) := by
  obtain ⟨f, fd, F, g, kp, b⟩ := c.ex
  constructor
  intro pins s σ H Q I want
  refine wpAny_Call_Name_kw (ld_glob I hg g ?_ hdb)
  refine PySem.W.callWith_K (h₀ := X.base) I.ok.mod.kin kp (thn (ha.run pos pins s σ H _ I want) ?_) he hpl
  rintro us s1 ⟨vs, H1, I1, r, q⟩
  exact ⟨I1.kIn, goes_fn F (hr.mono hk) hgd b hx I1 r q⟩
theorem pe_cl0 (c : Cl X.prog X.w X.K X.mg X.base CX k x ps sp) (hr : Room j X.A) (hgd : X.A.guards = some []) (hk : k ≤ j) (hg : Gl X x) (hx : Passes CX X E) (hdb : (x == ("__debug__" : Str)) = false := by decide) :
    PE X (.Call (.Name x p) [] [] pos) (tCall sp [] E tNil) := by
  obtain ⟨f, fd, F, g, kp, b⟩ := c.ex
  constructor
  intro pins s σ H Q I want
  refine wpAny_Call_Name_kw (ld_glob I hg g ?_ hdb)
  exact PySem.W.callWith_K0 I.kIn kp (goes_fn (us := []) F (hr.mono hk) hgd b hx I .nil want)
/-- a constant of the module -/
theorem pe_globS {v : V} (hg : Gl X x) (hm : ∃ u, X.mg x = some u ∧ RelV v u) (hd : (x == ("__debug__" : Str)) = false := by decide) : PE X (.Name x pos) (tC v) := by
  obtain ⟨u, hu, r⟩ := hm
  exact pe_glob hg hu r hd
end
/-! ### kinds of any value -/
def kinds : List String := ["NoneType", "bool", "int", "str", "list", "tuple", "dict"]
theorem kit_int : ∀ t ∈ kinds, kitB t "int" = some (decide (t = "int" ∨ t = "bool")) := by decide +kernel
theorem kit_bool : ∀ t ∈ kinds, kitB t "bool" = some (decide (t = "bool")) := by decide +kernel
theorem kit_str : ∀ t ∈ kinds, kitB t "str" = some (decide (t = "str")) := by decide +kernel
theorem kit_list : ∀ t ∈ kinds, kitB t "list" = some (decide (t = "list")) := by decide +kernel
theorem kit_tuple : ∀ t ∈ kinds, kitB t "tuple" = some (decide (t = "tuple")) := by decide +kernel
theorem kit_dict : ∀ t ∈ kinds, kitB t "dict" = some (decide (t = "dict")) := by decide +kernel
/-- the kind of a value -/
def Kd (K : PySem.W.Frag) (H : Hp) (x : V) (t : String) : Prop := t ∈ kinds ∧ TyX K H x (.type t)
theorem Kd.int {K : PySem.W.Frag} {H : Hp} {i : Int} : Kd K H (.int i) "int" := ⟨by decide, .base (.int i)⟩
/-! ### heaps -/
/-- all that was tracked, but at d, is as it was -/
def But (d : Addr) (H H' : Hp) : Prop := ∀ b o, b ≠ d → H b = some o → H' b = some o
theorem same_upd {H : Hp} {p : Addr} {o : HO} (h : H p = none) : Same H (upd H p o) := fun b x e => by
  rw [upd_ne (ne_of_none e h)]
  exact e
theorem Same.but {d : Addr} {H H' : Hp} (s : Same H H') : But d H H' := fun b o _ e => s b o e
theorem But.refl {d : Addr} (H : Hp) : But d H H := fun _ _ _ e => e
theorem But.trans {d : Addr} {H H1 H2 : Hp} (a : But d H H1) (b : But d H1 H2) : But d H H2 := fun x o n e => b x o n (a x o n e)
theorem but_upd {d : Addr} {H : Hp} {o : HO} : But d H (upd H d o) := fun b x n e => by
  rw [upd_ne n]
  exact e
theorem But.seq {K : PySem.W.Frag} {d : Addr} {H H' : Hp} {a : Addr} {xs : List V} (e : But d H H') (n : a ≠ d) (h : SqL K H a xs) : SqL K H' a xs := by
  rcases h with (h | ⟨o, h⟩) | h
  · exact .inl (.inl (e _ _ n h))
  · exact .inl (.inr ⟨o, e _ _ n h⟩)
  · exact .inr h
end M

namespace M
open PySem PySem.Spec PyProof.Rows L2
/-! ### the law's own call, over FnG -/
section
variable {P : Program} {w : World} {K : PySem.W.Frag} {mg mb : Str → Option Value} {k : Nat} {fa a : Addr} {fd : FuncData} {x : Str} {sp : Sp} {s₁ : Shared} {vs : List Value} {ns : List Int}
/-- from any first heap H of tracked things: it tracks nothing, or the script alone -/
theorem law_from (KX : K.In s₁.heap) (glob : s₁.heap.Ns mainGlobals mg) (blt : s₁.heap.Ns builtinsNs mb) (ask : ∀ y : Str, y ≠ "__name__" → mb y = bootBuiltins y) (free : s₁.heap.NoLimit) (none_runs : s₁.gens = #[])
    (script : s₁.heap.get? a = some { cls := .type "list", data := .seq vs.toArray }) (hr : Room k callerA)
    (F : ∀ base : Heap, K.In base → base.Ns mainGlobals mg → FnG P w K mg base CX0 k fa fd [x] sp) (bind : ∀ (s : Shared) (u : Value), BindsTo s fd ⟨[u], []⟩ [(x, u)])
    (H : Hp) (only : Only H) (ok : HOk P w H s₁.heap) (one : ∀ b, H b ≠ none → b = a) (off : H a ≠ none → K.lookup a = none)
    (want : sp [.ref a] H (fun v _ => v = .bl true) fun _ _ _ => False) :
    codeAny (model P w) callerA (.call (.ref fa) ⟨[.ref a], []⟩) (fun r s' => r = .ok (.ret (.bool true)) ∧ OldK s₁.heap s'.heap ∧ s'.os = s₁.os ∧ AllBare s'.gens) s₁ := by
  -- what is no dict of the heap's is hidden from the base when it is tracked
  have stays : ∀ {b : Addr} {o : Obj}, s₁.heap.get? b = some o → H b = none → (hidT s₁.heap H).get? b = some o := fun z n => hidT_get z n
  have not_script : ∀ {b : Addr} {o : Obj} {es : Array DictEntry} {n : Nat}, s₁.heap.get? b = some o → o.data = .dict es n → H b = none := by
    intro b o es n z d
    cases q : H b with
    | none => rfl
    | some u =>
      have z2 := one b (by rw [q]; intro h; cases h)
      subst z2
      have z3 := script.symm.trans z
      cases z3
      cases d
  have names : ∀ {b : Addr} {m : Str → Option Value}, s₁.heap.Ns b m → (hidT s₁.heap H).Ns b m := by
    rintro b m ⟨o, es, n, z, d, rest⟩
    exact ⟨o, es, n, stays z (not_script z d), d, rest⟩
  have kin : K.In (hidT s₁.heap H) := by
    intro b o z
    refine stays (KX b o z) ?_
    cases q : H b with
    | none => rfl
    | some u =>
      have z2 := one b (by rw [q]; intro h; cases h)
      subst z2
      have z3 := off (by rw [q]; intro h; cases h)
      rw [z3] at z
      cases z
  have md : Mod K mg (hidT s₁.heap H) := by
    obtain ⟨mc, f1, f2⟩ := free
    exact ⟨kin, names glob, ⟨mb, names blt, ask⟩, ⟨mc, names f1, f2⟩⟩
  have e0 : Env0 P w K mg (hidT s₁.heap H) callerA [] s₁ H := by
    refine ⟨rfl, md, fun b o z => of_hidT z, Nat.le_of_eq (hidT_size _ _), trivial, ?_, ok, .of_eq none_runs⟩
    intro b hb
    cases hb
  refine codeAny_mono ((F _ kin (names glob)).run callerA [] s₁ H ⟨[.ref a], []⟩ [.ref a] [.ref a] _ _ hr rfl e0 (bind s₁ (.ref a)) (.cons rfl .nil) want) ?_
  intro res s' z
  match res, z with
  | .error e, z => exact False.elim z
  | .ok .next, z => exact False.elim z
  | .ok .brk, z => exact False.elim z
  | .ok .cont, z => exact False.elim z
  | .ok (.ret u), ⟨v, H', hos, bare, un, hok', rel, hv⟩ =>
    have hv : v = .bl true := hv
    subst hv
    have hu : u = Value.bool true := rel
    subst hu
    refine ⟨rfl, OldK.of_keep ?_, hos, bare⟩
    intro b o z
    cases q : H b with
    | none => exact un.keep b o z q (fun h => nomatch h) (fun h => nomatch h)
    | some u =>
      rcases only b with n | ⟨ob, xs, t⟩
      · rw [n] at q
        cases q
      · have t2 := un.frzs b ob _ t
        have g1 := (ok b _ t).1
        have g2 := (hok' b _ t2).1
        rw [g1] at z
        cases z
        exact g2
theorem law_call' (KX : K.In s₁.heap) (glob : s₁.heap.Ns mainGlobals mg) (blt : s₁.heap.Ns builtinsNs mb) (ask : ∀ y : Str, y ≠ "__name__" → mb y = bootBuiltins y) (free : s₁.heap.NoLimit) (none_runs : s₁.gens = #[])
    (script : s₁.heap.get? a = some { cls := .type "list", data := .seq vs.toArray }) (nums : IntsAre vs ns) (few : ns.length ≤ sizeLine) (hr : Room k callerA)
    (F : ∀ base : Heap, K.In base → base.Ns mainGlobals mg → FnG P w K mg base CX0 k fa fd [x] sp) (bind : ∀ (s : Shared) (u : Value), BindsTo s fd ⟨[u], []⟩ [(x, u)])
    (want : ∀ H : Hp, Only H → SqL K H a (ns.map V.int) → sp [.ref a] H (fun v _ => v = .bl true) fun _ _ _ => False) :
    codeAny (model P w) callerA (.call (.ref fa) ⟨[.ref a], []⟩) (fun r s' => r = .ok (.ret (.bool true)) ∧ OldK s₁.heap s'.heap ∧ s'.os = s₁.os ∧ AllBare s'.gens) s₁ := by
  have rel := vals_ints nums
  have long := nums.length
  cases hk : K.lookup a with
  | some o =>
    have z := script.symm.trans (KX a o hk)
    cases z
    refine law_from KX glob blt ask free none_runs script hr F bind (fun _ => none) (fun _ => Or.inl rfl) (fun b u z => nomatch z) (fun b z => absurd rfl z) (fun z => absurd rfl z) (want _ (fun _ => Or.inl rfl) (Or.inr ?_))
    exact ⟨_, vs.toArray, _, hk, rfl, rfl, rfl, by rw [List.size_toArray, long]; exact few, by simpa using rel⟩
  | none =>
    have at_a : (fun b => if b = a then some (HO.frz { cls := .type "list", data := .seq vs.toArray } (.lst (ns.map V.int))) else none : Hp) a = some (HO.frz { cls := .type "list", data := .seq vs.toArray } (.lst (ns.map V.int))) := if_pos rfl
    have off_a : ∀ b, b ≠ a → (fun b => if b = a then some (HO.frz { cls := .type "list", data := .seq vs.toArray } (.lst (ns.map V.int))) else none : Hp) b = none := fun b n => if_neg n
    have on : Only (fun b => if b = a then some (HO.frz { cls := .type "list", data := .seq vs.toArray } (.lst (ns.map V.int))) else none : Hp) := by
      intro b
      by_cases n : b = a
      · subst n
        exact Or.inr ⟨_, _, at_a⟩
      · exact Or.inl (off_a b n)
    refine law_from KX glob blt ask free none_runs script hr F bind _ on ?_ ?_ (fun _ => hk) (want _ on (Or.inl (Or.inr ⟨_, at_a⟩)))
    · intro b u z
      by_cases n : b = a
      · subst n
        rw [at_a] at z
        cases z
        exact ⟨script, by rw [List.length_map]; exact few, vs, _, rel, script⟩
      · rw [off_a b n] at z
        cases z
    · intro b z
      by_cases n : b = a
      · exact n
      · exact absurd (off_a b n) z
end
/-- the goal that k_head leaves, from the law's promise -/
theorem walk_G {l : PySem.W.OpenLaw} {n k : Nat} {q : Program} {loose : List Str} {XP : (Str → Option Value) → Heap → Prop} {YP : World → Heap → Prop} {d : DefRec} {K : Params → PySem.W.Frag} {sp : PySem.W.Frag → Sp} {x : Str}
    (hn : l.most = some n) (hn2 : n ≤ sizeLine) (hdf : d.params.defaults = []) (hr : Room k callerA) (hY : ∀ (w : World) (h : Heap), YP w h → (K w.params).In h)
    (F : ∀ (w : World) (mg : Str → Option Value) (fa : Addr) (h : Heap), (K w.params).In h → h.Ns mainGlobals mg → mg d.name = some (.ref fa) →
      ∃ fd : FuncData, (∀ (s : Shared) (u : Value), BindsTo s fd ⟨[u], []⟩ [(x, u)]) ∧ ∀ base : Heap, (K w.params).In base → base.Ns mainGlobals mg → FnG l.prog w (K w.params) mg base CX0 k fa fd [x] (sp (K w.params)))
    (want : ∀ (K : PySem.W.Frag) (H : Hp) (a : Addr) (ns : List Int), ns.length ≤ n → Only H → SqL K H a (ns.map V.int) → sp K [.ref a] H (fun v _ => v = .bl true) fun _ _ _ => False) :
    PySem.W.WalkO q loose XP YP l.row.toRowW d [] (fun f vs => PySem.call f vs) := by
  refine Att.attach_call hn hdf ?_
  intro w s₀ s₁ mg mb fa o pm cd doc a vs ns G Y ho hd hcd hmg hobj hints hlen hgens
  obtain ⟨fd, hb, hF⟩ := F w mg fa _ (hY w _ Y) G.T.g hmg
  exact law_call' (hY w _ Y) G.T.g G.T.b G.T.builtins G.T.nolimit hgens hobj hints (Nat.le_trans hlen hn2) hr hF hb fun H hO hS => want _ H a ns hlen hO hS
end M

/-! A small language of deep values: what a def of the text says, without the heap. -/
namespace Y
open PySem L2
abbrev D := PyData
/-- how a value came: shared (never changed any more), own (new, nobody else holds it), bor (an own one of a slot, looked at) -/
inductive Kd where | shr | own | bor
  deriving DecidableEq
/-- a slot of the frame -/
inductive Sl where | emp | val (d : D) | own (d : D) | pen | scr (n : Nat)
structure Exc where
  cls : Str
  fs : List (Str × D)
inductive Ar where | v (d : D) | pen | scr (n : Nat)
abbrev VQ := D → Kd → Prop
abbrev XQ := Exc → Prop
/-- a def's promise: the arguments, what is wanted of the answer, of an error -/
abbrev Ct := List Ar → VQ → XQ → Prop
abbrev En := List Sl
/-- what an operation answers: under a condition, a value and its kind -/
abbrev Rz := Option (Prop × D × Kd)
def Rz.to (r : Rz) (Q : VQ) : Prop := match r with
  | some (c, d, k) => c ∧ Q d k
  | none => False
theorem Rz.mono {r : Rz} {Q Q' : VQ} (h : ∀ d k, Q d k → Q' d k) : r.to Q → r.to Q' := by
  unfold Rz.to
  split
  · exact fun q => ⟨q.1, h _ _ q.2⟩
  · exact id

inductive Bt where
  | len | abs | min2 | max2 | sum | any | all | isi (t : String) | repr | int | str | list | tuple | sorted | bool | min1 | max1
inductive Mt where
  | sindex | lindex | tindex | join | scount
inductive Tg where | nm (i : Nat) | tp (is : List Nat)
mutual
inductive Ex where
  | con (d : D) | var (i : Nat) | bor (i : Nat) | lenS (i : Nat)
  | bin (o : Operator) (a b : Ex) | neg (a : Ex) | nt (a : Ex)
  | cmp (o : CmpOp) (a b : Ex) | chn (o o' : CmpOp) (a b c : Ex)
  | and (a b : Ex) | or (a b : Ex) | ite (c : Tx) (a b : Ex)
  | tup (es : Exs) | lst (es : Exs) | dic (tk : Bool)
  | ix (a i : Ex) | sl (a : Ex) (lo hi : Ox) | rev (a : Ex)
  | call (f : Str) (es : Ags) | bt (b : Bt) (es : Exs) | mt (m : Mt) (o : Ex) (es : Exs)
  | comp (el : Ex) (t : Tg) (it : Itx) (c : Oc)
  | lrg1 (a : Ex) | lrg (a b : Ex)
inductive Exs where | nil | cons (e : Ex) (es : Exs)
inductive Ags where | nil | ex (e : Ex) (es : Ags) | sl (i : Nat) (es : Ags)
inductive Ox where | no | so (e : Ex)
inductive Tx where | of (e : Ex) | and (a b : Tx) | or (a b : Tx) | nt (a : Tx)
inductive Oc where | no | so (c : Tx)
inductive Itx where | over (e : Ex) | rg1 (a : Ex) | rg2 (a b : Ex) | enum (e : Ex) | zip (a b : Ex)
end

/-! ### operations -/
def strL (s : Str) : List Nat := s.cps.toList
def CMul (i j : Int) : Prop := (-(2 ^ 64) < i ∧ i < 2 ^ 64) ∨ (-(2 ^ 64) < j ∧ j < 2 ^ 64)
def bin : Operator → D → D → Rz
  | .Add, .int i, .int j => some (True, .int (i + j), .shr)
  | .Sub, .int i, .int j => some (True, .int (i - j), .shr)
  | .Mult, .int i, .int j => some (CMul i j, .int (i * j), .shr)
  | .FloorDiv, .int i, .int j => some (0 < j ∧ j < 1073741824, .int (i / j), .shr)
  | .Mod, .int i, .int j => some (0 < j, .int (i % j), .shr)
  | .Pow, .int i, .int j => some (0 ≤ j ∧ j ≤ 1000000 ∧ i.natAbs < 2 ^ 64, .int (i ^ j.toNat), .shr)
  | .LShift, .int i, .int j => some (0 ≤ j ∧ j ≤ 1000000 ∧ i.natAbs < 2 ^ 64, .int (i * 2 ^ j.toNat), .shr)
  | .RShift, .int i, .int j => some (0 ≤ j, .int (i / 2 ^ j.toNat), .shr)
  | .Add, .str a, .str b => some (a.length + b.length ≤ sizeLine, .str (a ++ b), .shr)
  | .Add, .list a, .list b => some (a.length + b.length ≤ sizeLine, .list (a ++ b), .own)
  | .Add, .tuple a, .tuple b => some (a.length + b.length ≤ sizeLine, .tuple (a ++ b), .shr)
  | .Mult, .list a, .int k => some (-(2 ^ 63) ≤ k ∧ k < 2 ^ 63 ∧ a.length * k.toNat ≤ sizeLine, .list (List.replicate k.toNat a).flatten, .own)
  | _, _, _ => none
def scal : D → Bool
  | .none => true | .bool _ => true | .int _ => true | .str _ => true | _ => false
/-- == (data without dicts) -/
def eqD (d e : D) : Option (Prop × Bool) := some (SeqAt.shaped d = true ∧ SeqAt.shaped e = true, PyData.eqv d e)
def inD (x : D) : D → Option (Prop × Bool)
  | .str z => match x with
    | .str y => some (y.cps.size = 1, decide (y.cps.getD 0 0 ∈ z.cps.toList))
    | _ => none
  | .list ds => some (SeqAt.shaped x = true ∧ SeqAt.shaped (.list ds) = true, ds.any fun z => PyData.eqv z x)
  | .tuple ds => some (scal x = true ∧ ds.all scal = true, ds.any fun z => PyData.eqv z x)
  | _ => none
def noneD : D → Bool | .none => true | _ => false
def cmpD : CmpOp → D → D → Option (Prop × Bool)
  | .Eq, d, e => eqD d e
  | .NotEq, d, e => (eqD d e).map fun p => (p.1, !p.2)
  | .Lt, .int i, .int j => some (True, decide (i < j))
  | .LtE, .int i, .int j => some (True, decide (i ≤ j))
  | .Gt, .int i, .int j => some (True, decide (j < i))
  | .GtE, .int i, .int j => some (True, decide (j ≤ i))
  | .In, d, e => inD d e
  | .NotIn, d, e => (inD d e).map fun p => (p.1, !p.2)
  | .Is, d, .none => some (True, noneD d)
  | .IsNot, d, .none => some (True, !noneD d)
  | _, _, _ => none
def cmpR (o : CmpOp) (d e : D) : Rz := (cmpD o d e).map fun p => (p.1, .bool p.2, .shr)
def truD : D → Option (Prop × Bool)
  | .none => some (True, false)
  | .bool b => some (True, b)
  | .int i => some (True, i != 0)
  | .str s => some (s.length ≤ sizeLine, (s.length : Int) != 0)
  | .list ds => some (True, !ds.isEmpty)
  | .tuple ds => some (True, !ds.isEmpty)
  | _ => none
def ixD : D → D → Rz
  | .list ds, .int i => (L2.atI ds i).map fun d => (True, d, .shr)
  | .tuple ds, .int i => (L2.atI ds i).map fun d => (True, d, .shr)
  | .str z, .int i => (L2.atI z.cps.toList i).map fun c => (z.length ≤ sizeLine, .str ⟨#[c]⟩, .shr)
  | _, _ => none
def cutL {α : Type} (xs : List α) (lo hi : Option Int) : List α := (xs.drop (HT.sIx xs.length 0 lo)).take (HT.sIx xs.length xs.length hi - HT.sIx xs.length 0 lo)
def slD : D → Option Int → Option Int → Rz
  | .list ds, lo, hi => some (True, .list (cutL ds lo hi), .own)
  | .tuple ds, lo, hi => some (True, .tuple (cutL ds lo hi), .shr)
  | .str z, lo, hi => some (z.length ≤ sizeLine, .str (L2.cutS z lo hi), .shr)
  | _, _, _ => none
def boolsD : List D → Option (List Bool)
  | [] => some []
  | .bool b :: ds => (boolsD ds).map (b :: ·)
  | _ :: _ => none
def intsD : List D → Option (List Int)
  | [] => some []
  | .int i :: ds => (intsD ds).map (i :: ·)
  | _ :: _ => none
def strsD : List D → Option (List Str)
  | [] => some []
  | .str i :: ds => (strsD ds).map (i :: ·)
  | _ :: _ => none
def tyD : D → String
  | .none => "NoneType" | .bool _ => "bool" | .int _ => "int" | .str _ => "str" | .list _ => "list" | .tuple _ => "tuple" | .dict _ => "dict"
def isiD (t : String) (d : D) : Bool := tyD d == t || (t == "int" && tyD d == "bool")
def kindsD : List String := ["bool", "int", "str", "list", "tuple", "dict"]
def btD : Bt → List D → Rz
  | .len, [.str z] => some (z.length ≤ sizeLine, .int z.length, .shr)
  | .len, [.list ds] => some (True, .int ds.length, .shr)
  | .len, [.tuple ds] => some (True, .int ds.length, .shr)
  | .abs, [.int i] => some (True, .int (if i < 0 then -i else i), .shr)
  | .min2, [.int i, .int j] => some (True, .int (if j < i then j else i), .shr)
  | .max2, [.int i, .int j] => some (True, .int (if j > i then j else i), .shr)
  | .sum, [.list ds] => (intsD ds).map fun l => (True, .int l.sum, .shr)
  | .any, [.list ds] => (boolsD ds).map fun l => (True, .bool (l.any id), .shr)
  | .all, [.list ds] => (boolsD ds).map fun l => (True, .bool (l.all id), .shr)
  | .isi t, [d] => some (t ∈ kindsD, .bool (isiD t d), .shr)
  | .repr, [d] => some (d.hasDict = false ∧ d.showable = true ∧ d.shown.length ≤ sizeLine ∧ d.depth ≤ 64, .str d.shown, .shr)
  | .int, [.int i] => some (True, .int i, .shr)
  | .int, [.bool b] => some (True, .int (if b then 1 else 0), .shr)
  | .str, [.int i] => some (i.natAbs.log2 < 1920, .str (toString i), .shr)
  | .list, [.list ds] => some (True, .list ds, .own)
  | .list, [.tuple ds] => some (True, .list ds, .own)
  | .tuple, [.list ds] => some (True, .tuple ds, .shr)
  | .tuple, [.tuple ds] => some (True, .tuple ds, .shr)
  | _, _ => none
def recvB : Mt → D → Bool
  | .join, .str _ => true
  | .sindex, .str _ => true
  | .scount, .str _ => true
  | .lindex, .list _ => true
  | .tindex, .tuple _ => true
  | _, _ => false
def mtD : Mt → D → List D → Rz
  | .sindex, .str a, [.str b] => (a.cps.toList.findIdx? (· == b.cps.getD 0 0)).map fun j => (b.cps.size = 1, .int (j : Nat), .shr)
  | .tindex, .tuple ds, [.int z] => (intsD ds).bind fun ns => (ns.findIdx? (· == z)).map fun j => (True, .int (j : Nat), .shr)
  | .lindex, .list ds, [d] => (ds.findIdx? fun z => PyData.eqv z d).map fun j => (SeqAt.shaped (.list ds) = true ∧ SeqAt.shaped d = true, .int (j : Nat), .shr)
  | .join, .str a, [.list ds] => (strsD ds).map fun ys => ((ys.map Str.length).sum + a.length * ys.length ≤ 16777216, .str (Txt.join a ys), .shr)
  | _, _, _ => none

/-- a range that may be laid -/
def RgC (a b : Int) : Prop := -(2 ^ 62) ≤ a ∧ a < 2 ^ 62 ∧ -(2 ^ 62) ≤ b ∧ b < 2 ^ 62 ∧ (b - a).toNat ≤ 2 ^ 24
/-! ### places of targets -/
def setMany : En → List Nat → List D → Option En
  | ρ, [], [] => some ρ
  | ρ, i :: is, d :: ds => setMany (ρ.set i (.val d)) is ds
  | _, _, _ => none
def setTg : Tg → D → En → Option En
  | .nm i, d, ρ => some (ρ.set i (.val d))
  | .tp is, .tuple ds, ρ => setMany ρ is ds
  | _, _, _ => none
def Tg.ixs : Tg → List Nat | .nm i => [i] | .tp is => is
def wipeE (ρ : En) : List Nat → En
  | [] => ρ
  | v :: vs => (wipeE ρ vs).set v .emp
/-- a comprehension: each item in turn -/
def wComp (B : D → (Option D → Prop) → Prop) : List D → List D → (List D → Prop) → Prop
  | [], acc, R => R acc
  | d :: ds, acc, R => B d fun o => wComp B ds (match o with | some r => acc ++ [r] | none => acc) R
def rng (lo : Int) : Nat → List D
  | 0 => []
  | n + 1 => .int lo :: rng (lo + 1) n
def enumL (ds : List D) : List D := (ds.zipIdx).map fun p => .tuple [.int p.2, p.1]
def zipL (a b : List D) : List D := (a.zip b).map fun p => .tuple [p.1, p.2]
/-- what is walked over, by kind -/
def itemsD : D → Option (List D)
  | .list ds => some ds
  | .tuple ds => some ds
  | .str z => some (z.cps.toList.map fun c => .str ⟨#[c]⟩)
  | _ => none
def listD : D → Option (List D)
  | .list ds => some ds
  | _ => none
/-- what is counted through -/
def listS : D → Option (List D)
  | .list ds => some ds
  | .str z => some (z.cps.toList.map fun c => .str ⟨#[c]⟩)
  | _ => none
def arD : D → Kd → Ar × Bool := fun d k => (.v d, k == .bor)

/-! ### what is wanted ahead of an expression -/
mutual
def wX (C : Str → Ct) : XQ → Ex → En → VQ → Prop
  | _, .con d, _, Q => Q d .shr
  | _, .var i, ρ, Q => match ρ[i]? with | some (.val d) => Q d .shr | _ => False
  | _, .bor i, ρ, Q => match ρ[i]? with | some (.val d) => Q d .shr | some (.own d) => Q d .bor | _ => False
  | _, .lenS i, ρ, Q => match ρ[i]? with | some (.scr n) => Q (.int n) .shr | _ => False
  | E, .bin o a b, ρ, Q => wX C E a ρ fun x _ => wX C E b ρ fun y _ => (bin o x y).to Q
  | E, .neg a, ρ, Q => wX C E a ρ fun x _ => match x with | .int i => Q (.int (-i)) .shr | _ => False
  | E, .nt a, ρ, Q => wX C E a ρ fun x _ => match x with | .bool b => Q (.bool (!b)) .shr | _ => False
  | E, .cmp o a b, ρ, Q => wX C E a ρ fun x _ => wX C E b ρ fun y _ => (cmpR o x y).to Q
  | E, .chn o o' a b c, ρ, Q => wX C E a ρ fun x _ => wX C E b ρ fun y _ => match cmpD o x y with
      | some (p, r) => p ∧ (r = true → wX C E c ρ fun z _ => (cmpR o' y z).to Q) ∧ (r = false → Q (.bool false) .shr)
      | none => False
  | E, .and a b, ρ, Q => wX C E a ρ fun x _ => match x with | .bool c => (c = true → wX C E b ρ Q) ∧ (c = false → Q (.bool false) .shr) | _ => False
  | E, .or a b, ρ, Q => wX C E a ρ fun x _ => match x with | .bool c => (c = true → Q (.bool true) .shr) ∧ (c = false → wX C E b ρ Q) | _ => False
  | E, .ite c a b, ρ, Q => wT C E c ρ fun t => (t = true → wX C E a ρ Q) ∧ (t = false → wX C E b ρ Q)
  | E, .tup es, ρ, Q => wXs C E es ρ fun ds => Q (.tuple ds) .shr
  | E, .lst es, ρ, Q => wXs C E es ρ fun ds => Q (.list ds) .own
  | _, .dic _, _, Q => Q (.dict []) .own
  | E, .ix a i, ρ, Q => wX C E a ρ fun x _ => wX C E i ρ fun y _ => (ixD x y).to Q
  | E, .sl a lo hi, ρ, Q => wX C E a ρ fun x _ => wO C E lo ρ fun l => wO C E hi ρ fun h => (slD x l h).to Q
  | E, .rev a, ρ, Q => wX C E a ρ fun x _ => match x with
      | .list ds => Q (.list ds.reverse) .own
      | .str z => z.length ≤ sizeLine ∧ Q (.str ⟨z.cps.toList.reverse.toArray⟩) .shr
      | _ => False
  | E, .call f es, ρ, Q => wAs C E es ρ fun as b => C f as (fun d k => (b = true → scal d = true) ∧ k ≠ .bor ∧ Q d k) E
  | E, .bt b es, ρ, Q => wBs C E es ρ fun ds => (btD b ds).to Q
  | E, .mt m o es, ρ, Q => wX C E o ρ fun x _ => recvB m x = true ∧ wBs C E es ρ fun ds => (mtD m x ds).to Q
  | E, .comp el t it c, ρ, Q => wI C E it ρ fun ds => ds.length ≤ sizeLine ∧
      wComp (fun d R => match setTg t d (wipeE ρ t.ixs) with
        | some ρ' => wC C c ρ' fun b => (b = true → wX C (fun _ => False) el ρ' fun r k => k ≠ .bor ∧ R (some r)) ∧ (b = false → R none)
        | none => False) ds [] fun rs => Q (.list rs) .own
  | E, .lrg1 a, ρ, Q => wX C E a ρ fun x _ => match x with | .int j => RgC 0 j ∧ Q (.list (rng 0 (j - 0).toNat)) .own | _ => False
  | E, .lrg a b, ρ, Q => wX C E a ρ fun x _ => wX C E b ρ fun y _ => match x, y with | .int i, .int j => RgC i j ∧ Q (.list (rng i (j - i).toNat)) .own | _, _ => False
/-- items of a display: no borrowed ones -/
def wXs (C : Str → Ct) : XQ → Exs → En → (List D → Prop) → Prop
  | _, .nil, _, Q => Q []
  | E, .cons e es, ρ, Q => wX C E e ρ fun x k => k ≠ .bor ∧ wXs C E es ρ fun xs => Q (x :: xs)
/-- arguments of a built-in: any -/
def wBs (C : Str → Ct) : XQ → Exs → En → (List D → Prop) → Prop
  | _, .nil, _, Q => Q []
  | E, .cons e es, ρ, Q => wX C E e ρ fun x _ => wBs C E es ρ fun xs => Q (x :: xs)
/-- arguments of a def; whether one is borrowed -/
def wAs (C : Str → Ct) : XQ → Ags → En → (List Ar → Bool → Prop) → Prop
  | _, .nil, _, Q => Q [] false
  | E, .ex e es, ρ, Q => wX C E e ρ fun x k => k ≠ .bor ∧ wAs C E es ρ fun xs c => Q (.v x :: xs) c
  | E, .sl i es, ρ, Q => match ρ[i]? with
    | some (.val d) => wAs C E es ρ fun xs c => Q (.v d :: xs) c
    | some (.own d) => wAs C E es ρ fun xs _ => Q (.v d :: xs) true
    | some .pen => wAs C E es ρ fun xs c => Q (.pen :: xs) c
    | some (.scr n) => wAs C E es ρ fun xs c => Q (.scr n :: xs) c
    | _ => False
def wO (C : Str → Ct) : XQ → Ox → En → (Option Int → Prop) → Prop
  | _, .no, _, Q => Q none
  | E, .so e, ρ, Q => wX C E e ρ fun x _ => match x with | .int i => Q (some i) | _ => False
def wT (C : Str → Ct) : XQ → Tx → En → (Bool → Prop) → Prop
  | E, .of e, ρ, Q => wX C E e ρ fun x _ => match truD x with | some (p, b) => p ∧ Q b | none => False
  | E, .and a b, ρ, Q => wT C E a ρ fun c => (c = true → wT C E b ρ Q) ∧ (c = false → Q false)
  | E, .or a b, ρ, Q => wT C E a ρ fun c => (c = true → Q true) ∧ (c = false → wT C E b ρ Q)
  | E, .nt a, ρ, Q => wT C E a ρ fun c => Q (!c)
def wC (C : Str → Ct) : Oc → En → (Bool → Prop) → Prop
  | .no, _, Q => Q true
  | .so c, ρ, Q => wT C (fun _ => False) c ρ Q
def wI (C : Str → Ct) : XQ → Itx → En → (List D → Prop) → Prop
  | E, .over e, ρ, Q => wX C E e ρ fun x _ => match itemsD x with | some ds => Q ds | none => False
  | E, .rg1 a, ρ, Q => wX C E a ρ fun x _ => match x with | .int j => (-(2 ^ 62) ≤ j ∧ j < 2 ^ 62) ∧ Q (rng 0 j.toNat) | _ => False
  | E, .rg2 a b, ρ, Q => wX C E a ρ fun x _ => wX C E b ρ fun y _ => match x, y with
      | .int i, .int j => (-(2 ^ 62) ≤ i ∧ i < 2 ^ 62 ∧ -(2 ^ 62) ≤ j ∧ j < 2 ^ 62) ∧ Q (rng i (j - i).toNat)
      | _, _ => False
  | E, .enum e, ρ, Q => wX C E e ρ fun x _ => match listS x with | some ds => Q (enumL ds) | none => False
  | E, .zip a b, ρ, Q => wX C E a ρ fun x _ => wX C E b ρ fun y _ => match listD x, listD y with | some ds, some es => Q (zipL ds es) | _, _ => False
end
end Y

namespace Y
open PySem L2
def CMono (C : Str → Ct) : Prop := ∀ (f : Str) (as : List Ar) (Q Q' : VQ) (E E' : XQ), (∀ d k, Q d k → Q' d k) → (∀ e, E e → E' e) → C f as Q E → C f as Q' E'
theorem wComp_mono {B B' : D → (Option D → Prop) → Prop} (hB : ∀ d (R R' : Option D → Prop), (∀ o, R o → R' o) → B d R → B' d R') : ∀ (ds acc : List D) (R R' : List D → Prop), (∀ l, R l → R' l) → wComp B ds acc R → wComp B' ds acc R'
  | [], acc, R, R', h, q => h _ q
  | d :: ds, acc, R, R', h, q => hB d _ _ (fun o z => wComp_mono hB ds _ R R' h z) q
section
variable {C : Str → Ct} (hC : CMono C)
include hC
mutual
theorem wX_mono : ∀ (e : Ex) (E E' : XQ) (ρ : En) (Q Q' : VQ), (∀ x, E x → E' x) → (∀ d k, Q d k → Q' d k) → wX C E e ρ Q → wX C E' e ρ Q'
  | .con d, E, E', ρ, Q, Q', hE, h, q => h _ _ q
  | .var i, E, E', ρ, Q, Q', hE, h, q => by
    simp only [wX] at q ⊢
    split at q
    · exact h _ _ q
    · exact q
  | .bor i, E, E', ρ, Q, Q', hE, h, q => by
    simp only [wX] at q ⊢
    split at q
    · exact h _ _ q
    · exact h _ _ q
    · exact q
  | .lenS i, E, E', ρ, Q, Q', hE, h, q => by
    simp only [wX] at q ⊢
    split at q
    · exact h _ _ q
    · exact q
  | .bin o a b, E, E', ρ, Q, Q', hE, h, q => by
    simp only [wX] at q ⊢
    exact wX_mono a E E' ρ _ _ hE (fun x k z => wX_mono b E E' ρ _ _ hE (fun y k z => Rz.mono h z) z) q
  | .neg a, E, E', ρ, Q, Q', hE, h, q => by
    simp only [wX] at q ⊢
    refine wX_mono a E E' ρ _ _ hE (fun x k z => ?_) q
    split at z
    · exact h _ _ z
    · exact z
  | .lrg1 a, E, E', ρ, Q, Q', hE, h, q => by
    simp only [wX] at q ⊢
    refine wX_mono a E E' ρ _ _ hE (fun x k z => ?_) q
    split at z
    · exact ⟨z.1, h _ _ z.2⟩
    · exact z
  | .lrg a b, E, E', ρ, Q, Q', hE, h, q => by
    simp only [wX] at q ⊢
    refine wX_mono a E E' ρ _ _ hE (fun x k z => wX_mono b E E' ρ _ _ hE (fun y k z => ?_) z) q
    split at z
    · exact ⟨z.1, h _ _ z.2⟩
    · exact z
  | .nt a, E, E', ρ, Q, Q', hE, h, q => by
    simp only [wX] at q ⊢
    refine wX_mono a E E' ρ _ _ hE (fun x k z => ?_) q
    split at z
    · exact h _ _ z
    · exact z
  | .cmp o a b, E, E', ρ, Q, Q', hE, h, q => by
    simp only [wX] at q ⊢
    exact wX_mono a E E' ρ _ _ hE (fun x k z => wX_mono b E E' ρ _ _ hE (fun y k z => Rz.mono h z) z) q
  | .chn o o' a b c, E, E', ρ, Q, Q', hE, h, q => by
    simp only [wX] at q ⊢
    refine wX_mono a E E' ρ _ _ hE (fun x k z => wX_mono b E E' ρ _ _ hE (fun y k z => ?_) z) q
    split at z
    · exact ⟨z.1, fun t => wX_mono c E E' ρ _ _ hE (fun y k z => Rz.mono h z) (z.2.1 t), fun t => h _ _ (z.2.2 t)⟩
    · exact z
  | .and a b, E, E', ρ, Q, Q', hE, h, q => by
    simp only [wX] at q ⊢
    refine wX_mono a E E' ρ _ _ hE (fun x k z => ?_) q
    split at z
    · exact ⟨fun t => wX_mono b E E' ρ _ _ hE h (z.1 t), fun t => h _ _ (z.2 t)⟩
    · exact z
  | .or a b, E, E', ρ, Q, Q', hE, h, q => by
    simp only [wX] at q ⊢
    refine wX_mono a E E' ρ _ _ hE (fun x k z => ?_) q
    split at z
    · exact ⟨fun t => h _ _ (z.1 t), fun t => wX_mono b E E' ρ _ _ hE h (z.2 t)⟩
    · exact z
  | .ite c a b, E, E', ρ, Q, Q', hE, h, q => by
    simp only [wX] at q ⊢
    exact wT_mono c E E' ρ _ _ hE (fun t z => ⟨fun w => wX_mono a E E' ρ _ _ hE h (z.1 w), fun w => wX_mono b E E' ρ _ _ hE h (z.2 w)⟩) q
  | .tup es, E, E', ρ, Q, Q', hE, h, q => by
    simp only [wX] at q ⊢
    exact wXs_mono es E E' ρ _ _ hE (fun ds z => h _ _ z) q
  | .lst es, E, E', ρ, Q, Q', hE, h, q => by
    simp only [wX] at q ⊢
    exact wXs_mono es E E' ρ _ _ hE (fun ds z => h _ _ z) q
  | .dic _, E, E', ρ, Q, Q', hE, h, q => by
    simp only [wX] at q ⊢
    exact h _ _ q
  | .ix a b, E, E', ρ, Q, Q', hE, h, q => by
    simp only [wX] at q ⊢
    exact wX_mono a E E' ρ _ _ hE (fun x k z => wX_mono b E E' ρ _ _ hE (fun y k z => Rz.mono h z) z) q
  | .sl a lo hi, E, E', ρ, Q, Q', hE, h, q => by
    simp only [wX] at q ⊢
    exact wX_mono a E E' ρ _ _ hE (fun x k z => wO_mono lo E E' ρ _ _ hE (fun l z => wO_mono hi E E' ρ _ _ hE (fun u z => Rz.mono h z) z) z) q
  | .rev a, E, E', ρ, Q, Q', hE, h, q => by
    simp only [wX] at q ⊢
    refine wX_mono a E E' ρ _ _ hE (fun x k z => ?_) q
    split at z
    · exact h _ _ z
    · exact ⟨z.1, h _ _ z.2⟩
    · exact z
  | .call f es, E, E', ρ, Q, Q', hE, h, q => by
    simp only [wX] at q ⊢
    exact wAs_mono es E E' ρ _ _ hE (fun as b z => hC f as _ _ _ _ (fun d k z => ⟨z.1, z.2.1, h _ _ z.2.2⟩) hE z) q
  | .bt b es, E, E', ρ, Q, Q', hE, h, q => by
    simp only [wX] at q ⊢
    exact wBs_mono es E E' ρ _ _ hE (fun ds z => Rz.mono h z) q
  | .mt m o es, E, E', ρ, Q, Q', hE, h, q => by
    simp only [wX] at q ⊢
    exact wX_mono o E E' ρ _ _ hE (fun x k z => ⟨z.1, wBs_mono es E E' ρ _ _ hE (fun ds z => Rz.mono h z) z.2⟩) q
  | .comp el t it c, E, E', ρ, Q, Q', hE, h, q => by
    simp only [wX] at q ⊢
    refine wI_mono it E E' ρ _ _ hE (fun ds z => ⟨z.1, ?_⟩) q
    refine wComp_mono (fun d R R' hR z => ?_) ds [] _ _ (fun l z => h _ _ z) z.2
    split at z
    · exact wC_mono c _ _ _ (fun b z => ⟨fun t => wX_mono el _ _ _ _ _ (fun _ w => w) (fun r k z => ⟨z.1, hR _ z.2⟩) (z.1 t), fun t => hR _ (z.2 t)⟩) z
    · exact z
theorem wXs_mono : ∀ (es : Exs) (E E' : XQ) (ρ : En) (Q Q' : List D → Prop), (∀ x, E x → E' x) → (∀ ds, Q ds → Q' ds) → wXs C E es ρ Q → wXs C E' es ρ Q'
  | .nil, E, E', ρ, Q, Q', hE, h, q => by
    simp only [wXs] at q ⊢
    exact h _ q
  | .cons e es, E, E', ρ, Q, Q', hE, h, q => by
    simp only [wXs] at q ⊢
    exact wX_mono e E E' ρ _ _ hE (fun x k z => ⟨z.1, wXs_mono es E E' ρ _ _ hE (fun ds z => h _ z) z.2⟩) q
theorem wBs_mono : ∀ (es : Exs) (E E' : XQ) (ρ : En) (Q Q' : List D → Prop), (∀ x, E x → E' x) → (∀ ds, Q ds → Q' ds) → wBs C E es ρ Q → wBs C E' es ρ Q'
  | .nil, E, E', ρ, Q, Q', hE, h, q => by
    simp only [wBs] at q ⊢
    exact h _ q
  | .cons e es, E, E', ρ, Q, Q', hE, h, q => by
    simp only [wBs] at q ⊢
    exact wX_mono e E E' ρ _ _ hE (fun x k z => wBs_mono es E E' ρ _ _ hE (fun ds z => h _ z) z) q
theorem wAs_mono : ∀ (es : Ags) (E E' : XQ) (ρ : En) (Q Q' : List Ar → Bool → Prop), (∀ x, E x → E' x) → (∀ ds b, Q ds b → Q' ds b) → wAs C E es ρ Q → wAs C E' es ρ Q'
  | .nil, E, E', ρ, Q, Q', hE, h, q => by
    simp only [wAs] at q ⊢
    exact h _ _ q
  | .ex e es, E, E', ρ, Q, Q', hE, h, q => by
    simp only [wAs] at q ⊢
    exact wX_mono e E E' ρ _ _ hE (fun x k z => ⟨z.1, wAs_mono es E E' ρ _ _ hE (fun ds b z => h _ _ z) z.2⟩) q
  | .sl i es, E, E', ρ, Q, Q', hE, h, q => by
    simp only [wAs] at q ⊢
    split at q
    · exact wAs_mono es E E' ρ _ _ hE (fun ds b z => h _ _ z) q
    · exact wAs_mono es E E' ρ _ _ hE (fun ds b z => h _ _ z) q
    · exact wAs_mono es E E' ρ _ _ hE (fun ds b z => h _ _ z) q
    · exact wAs_mono es E E' ρ _ _ hE (fun ds b z => h _ _ z) q
    · exact q
theorem wO_mono : ∀ (o : Ox) (E E' : XQ) (ρ : En) (Q Q' : Option Int → Prop), (∀ x, E x → E' x) → (∀ x, Q x → Q' x) → wO C E o ρ Q → wO C E' o ρ Q'
  | .no, E, E', ρ, Q, Q', hE, h, q => by
    simp only [wO] at q ⊢
    exact h _ q
  | .so e, E, E', ρ, Q, Q', hE, h, q => by
    simp only [wO] at q ⊢
    refine wX_mono e E E' ρ _ _ hE (fun x k z => ?_) q
    split at z
    · exact h _ z
    · exact z
theorem wT_mono : ∀ (t : Tx) (E E' : XQ) (ρ : En) (Q Q' : Bool → Prop), (∀ x, E x → E' x) → (∀ x, Q x → Q' x) → wT C E t ρ Q → wT C E' t ρ Q'
  | .of e, E, E', ρ, Q, Q', hE, h, q => by
    simp only [wT] at q ⊢
    refine wX_mono e E E' ρ _ _ hE (fun x k z => ?_) q
    split at z
    · exact ⟨z.1, h _ z.2⟩
    · exact z
  | .and a b, E, E', ρ, Q, Q', hE, h, q => by
    simp only [wT] at q ⊢
    exact wT_mono a E E' ρ _ _ hE (fun x z => ⟨fun t => wT_mono b E E' ρ _ _ hE h (z.1 t), fun t => h _ (z.2 t)⟩) q
  | .or a b, E, E', ρ, Q, Q', hE, h, q => by
    simp only [wT] at q ⊢
    exact wT_mono a E E' ρ _ _ hE (fun x z => ⟨fun t => h _ (z.1 t), fun t => wT_mono b E E' ρ _ _ hE h (z.2 t)⟩) q
  | .nt a, E, E', ρ, Q, Q', hE, h, q => by
    simp only [wT] at q ⊢
    exact wT_mono a E E' ρ _ _ hE (fun x z => h _ z) q
theorem wC_mono : ∀ (c : Oc) (ρ : En) (Q Q' : Bool → Prop), (∀ x, Q x → Q' x) → wC C c ρ Q → wC C c ρ Q'
  | .no, ρ, Q, Q', h, q => by
    simp only [wC] at q ⊢
    exact h _ q
  | .so c, ρ, Q, Q', h, q => by
    simp only [wC] at q ⊢
    exact wT_mono c _ _ ρ _ _ (fun _ w => w) h q
theorem wI_mono : ∀ (it : Itx) (E E' : XQ) (ρ : En) (Q Q' : List D → Prop), (∀ x, E x → E' x) → (∀ x, Q x → Q' x) → wI C E it ρ Q → wI C E' it ρ Q'
  | .over e, E, E', ρ, Q, Q', hE, h, q => by
    simp only [wI] at q ⊢
    refine wX_mono e E E' ρ _ _ hE (fun x k z => ?_) q
    split at z
    · exact h _ z
    · exact z
  | .rg1 e, E, E', ρ, Q, Q', hE, h, q => by
    simp only [wI] at q ⊢
    refine wX_mono e E E' ρ _ _ hE (fun x k z => ?_) q
    split at z
    · exact ⟨z.1, h _ z.2⟩
    · exact z
  | .rg2 a b, E, E', ρ, Q, Q', hE, h, q => by
    simp only [wI] at q ⊢
    refine wX_mono a E E' ρ _ _ hE (fun x k z => wX_mono b E E' ρ _ _ hE (fun y k z => ?_) z) q
    split at z
    · exact ⟨z.1, h _ z.2⟩
    · exact z
  | .enum e, E, E', ρ, Q, Q', hE, h, q => by
    simp only [wI] at q ⊢
    refine wX_mono e E E' ρ _ _ hE (fun x k z => ?_) q
    split at z
    · exact h _ z
    · exact z
  | .zip a b, E, E', ρ, Q, Q', hE, h, q => by
    simp only [wI] at q ⊢
    refine wX_mono a E E' ρ _ _ hE (fun x k z => wX_mono b E E' ρ _ _ hE (fun y k z => ?_) z) q
    split at z
    · exact h _ z
    · exact z
end
end

/-! ### statements -/
structure Pq where
  nx : En → Prop
  rt : VQ
  bk : En → Prop
  ct : En → Prop
  ex : XQ
structure Pq.Le (P P' : Pq) : Prop where
  nx : ∀ ρ, P.nx ρ → P'.nx ρ
  rt : ∀ d k, P.rt d k → P'.rt d k
  bk : ∀ ρ, P.bk ρ → P'.bk ρ
  ct : ∀ ρ, P.ct ρ → P'.ct ρ
  ex : ∀ e, P.ex e → P'.ex e
mutual
inductive Sm where
  | set (i : Nat) (e : Ex) | tset (is : List Nat) (e : Ex) | par (i j : Nat) (a b : Ex) | aug (i : Nat) (o : Operator) (e : Ex)
  | ret (e : Ex) | retv (i : Nat) | retn | expr (e : Ex)
  | app (i : Nat) (e : Ex) | ext (i : Nat) (e : Ex) | seti (i : Nat) (k e : Ex)
  | cond (c : Tx) (a b : Sms) | loop (t : Tg) (it : Itx) (b : Sms) | whil (c : Tx) (b : Sms)
  | brk | cnt | pss | never | mkpen (i : Nat) (f : Str) (j : Nat)
inductive Sms where | nil | cons (s : Sm) (r : Sms)
end
mutual
/-- the slots that an expression's value may be (or hold) -/
def esc : Ex → List Nat
  | .var i => [i]
  | .bin _ a b => esc a ++ esc b | .neg a => esc a | .nt a => esc a
  | .cmp _ a b => esc a ++ esc b | .chn _ _ a b c => esc a ++ esc b ++ esc c
  | .and a b => esc a ++ esc b | .or a b => esc a ++ esc b | .ite c a b => escT c ++ esc a ++ esc b
  | .tup es => escs es | .lst es => escs es
  | .ix a i => esc a ++ esc i | .sl a lo hi => esc a ++ escO lo ++ escO hi | .rev a => esc a
  | .call _ es => escA es | .bt _ es => escs es | .mt _ o es => esc o ++ escs es
  | .comp el _ it c => esc el ++ escI it ++ escC c
  | .lrg1 a => esc a | .lrg a b => esc a ++ esc b
  | _ => []
def escs : Exs → List Nat
  | .nil => []
  | .cons e es => esc e ++ escs es
def escA : Ags → List Nat
  | .nil => []
  | .ex e es => esc e ++ escA es
  | .sl _ es => escA es
def escO : Ox → List Nat
  | .no => []
  | .so e => esc e
def escT : Tx → List Nat
  | .of e => esc e | .and a b => escT a ++ escT b | .or a b => escT a ++ escT b | .nt a => escT a
def escC : Oc → List Nat
  | .no => []
  | .so c => escT c
def escI : Itx → List Nat
  | .over e => esc e | .rg1 a => esc a | .rg2 a b => esc a ++ esc b | .enum e => esc e | .zip a b => esc a ++ esc b
end
def dem1 : Sl → Sl
  | .own d => .val d
  | s => s
/-- own slots that get shared -/
def dem (ρ : En) : List Nat → En
  | [] => ρ
  | i :: is => dem (ρ.set i (dem1 (ρ.getD i .emp))) is
/-- the slot for a value -/
def slK (d : D) : Kd → Sl
  | .own => .own d
  | _ => .val d
/-- a loop over items -/
def wFor (t : Tg) (B : En → Pq → Prop) : List D → En → Pq → Prop
  | [], ρ, P => P.nx ρ
  | d :: ds, ρ, P => match setTg t d ρ with
    | some ρ' => B ρ' { P with nx := fun ρ2 => wFor t B ds ρ2 P, ct := fun ρ2 => wFor t B ds ρ2 P, bk := P.nx }
    | none => False
/-- so many turns at most -/
def LOOPN : Nat := 2 ^ 200
theorem loopn {m : Nat} (h : m ≤ 2 ^ 64) : m ≤ LOOPN := Nat.le_trans h (by decide +kernel)
/-- a while: the invariant W by a measure -/
def wWhile (T : En → (Bool → Prop) → Prop) (B : En → Pq → Prop) (ρ : En) (P : Pq) : Prop :=
  ∃ W : Nat → En → Prop, (∃ m, m ≤ LOOPN ∧ W m ρ) ∧ ∀ m ρ, W m ρ → T ρ fun b => (b = true → B ρ { P with nx := fun ρ2 => ∃ m', m' < m ∧ W m' ρ2, ct := fun ρ2 => ∃ m', m' < m ∧ W m' ρ2, bk := P.nx }) ∧ (b = false → P.nx ρ)
mutual
def wS (C : Str → Ct) : Sm → En → Pq → Prop
  | .set i e, ρ, P => wX C P.ex e (dem ρ (esc e)) fun d k => k ≠ .bor ∧ P.nx ((dem ρ (esc e)).set i (slK d k))
  | .tset is e, ρ, P => wX C P.ex e (dem ρ (esc e)) fun d k => k ≠ .bor ∧ match setTg (.tp is) d (dem ρ (esc e)) with | some ρ' => P.nx ρ' | none => False
  | .par i j a b, ρ, P => wX C P.ex a (dem ρ (esc a ++ esc b)) fun d k => wX C P.ex b (dem ρ (esc a ++ esc b)) fun e k' => k ≠ .bor ∧ k' ≠ .bor ∧ P.nx (((dem ρ (esc a ++ esc b)).set i (slK d k)).set j (slK e k'))
  | .aug i o e, ρ, P => match (dem ρ (esc e))[i]? with
    | some (.val x) => scal x = true ∧ wX C P.ex e (dem ρ (esc e)) fun d _ => (bin o x d).to fun r _ => scal r = true ∧ P.nx ((dem ρ (esc e)).set i (.val r))
    | _ => False
  | .ret e, ρ, P => wX C P.ex e (dem ρ (esc e)) fun d k => k ≠ .bor ∧ P.rt d k
  | .retv i, ρ, P => match ρ[i]? with | some (.val d) => P.rt d .shr | some (.own d) => P.rt d .own | _ => False
  | .retn, ρ, P => P.rt .none .shr
  | .expr e, ρ, P => wX C P.ex e ρ fun _ _ => P.nx ρ
  | .app i e, ρ, P => match (dem ρ (esc e))[i]? with
    | some (.own (.list ds)) => wX C P.ex e (dem ρ (esc e)) fun d k => k ≠ .bor ∧ ds.length < sizeLine ∧ P.nx ((dem ρ (esc e)).set i (.own (.list (ds ++ [d]))))
    | _ => False
  | .ext i e, ρ, P => match (dem ρ (esc e))[i]? with
    | some (.own (.list ds)) => wX C P.ex e (dem ρ (esc e)) fun d _ => match listD d with
      | some es => ds.length + es.length ≤ sizeLine ∧ P.nx ((dem ρ (esc e)).set i (.own (.list (ds ++ es))))
      | none => False
    | _ => False
  | .seti i k e, ρ, P => match (dem ρ (esc e))[i]? with
    | some (.own (.list ds)) => wX C P.ex e (dem ρ (esc e)) fun d kd => kd ≠ .bor ∧ wX C P.ex k (dem ρ (esc e)) fun kx _ => match kx with
      | .int n => match ixN ds.length n with
        | some j => P.nx ((dem ρ (esc e)).set i (.own (.list (ds.set j d))))
        | none => False
      | _ => False
    | _ => False
  | .cond c a b, ρ, P => wT C P.ex c ρ fun t => (t = true → wSs C a ρ P) ∧ (t = false → wSs C b ρ P)
  | .loop t it b, ρ, P => wI C P.ex it (dem ρ (escI it)) fun ds => ds.length ≤ LOOPN ∧ wFor t (wSs C b) ds (dem ρ (escI it)) P
  | .whil c b, ρ, P => wWhile (wT C P.ex c) (wSs C b) ρ P
  | .brk, ρ, P => P.bk ρ
  | .cnt, ρ, P => P.ct ρ
  | .pss, ρ, P => P.nx ρ
  | .never, _, _ => False
  | .mkpen i _ j, ρ, P => match ρ[j]? with | some (.scr _) => P.nx (ρ.set i .pen) | _ => False
def wSs (C : Str → Ct) : Sms → En → Pq → Prop
  | .nil, ρ, P => P.nx ρ
  | .cons s r, ρ, P => wS C s ρ { P with nx := fun ρ' => wSs C r ρ' P }
end
end Y

namespace Y
open PySem PySem.Spec PyProof.Rows L2 M
/-! ### what a value denotes; Z: the addresses that may still change -/
def KTup (K : PySem.W.Frag) (a : Addr) (xs : List V) : Prop :=
  ∃ (o : Obj) (its : Array Value) (n : Nat), K.lookup a = some o ∧ o.cls = .type "tuple" ∧ o.data = .seq its n ∧ its.size ≤ sizeLine ∧ Vals xs its.toList
def LstAt (H : Hp) (Z : Addr → Prop) (a : Addr) (xs : List V) : Prop := ¬ Z a ∧ H a = some (.lst xs)
def TupAt (K : PySem.W.Frag) (H : Hp) (Z : Addr → Prop) (a : Addr) (xs : List V) : Prop := (¬ Z a ∧ Rd H a (.tup xs)) ∨ KTup K a xs
theorem TupAt.sq {K : PySem.W.Frag} {H : Hp} {Z : Addr → Prop} {a : Addr} {xs : List V} (h : TupAt K H Z a xs) : SqT K H a xs := h.elim (fun z => .inl z.2) .inr
def kD : Key → D
  | .inl i => .int i
  | .inr s => .str s
mutual
inductive Dn (K : PySem.W.Frag) (H : Hp) (Z : Addr → Prop) : V → D → Prop
  | non : Dn K H Z .non .none
  | bl (b : Bool) : Dn K H Z (.bl b) (.bool b)
  | int (i : Int) : Dn K H Z (.int i) (.int i)
  | str (x : Str) : Dn K H Z (.str x) (.str x)
  | lst {a : Addr} {xs : List V} {ds : List D} : LstAt H Z a xs → DnL K H Z xs ds → Dn K H Z (.ref a) (.list ds)
  | tup {a : Addr} {xs : List V} {ds : List D} : TupAt K H Z a xs → DnL K H Z xs ds → Dn K H Z (.ref a) (.tuple ds)
  | dk {a : Addr} {kvs : List (Key × V)} {ps : List (D × D)} : ¬ Z a → H a = some (.dK kvs) → DnK K H Z kvs ps → Dn K H Z (.ref a) (.dict ps)
  | dt {a : Addr} {kvs : List (List Key × V)} {ps : List (D × D)} : ¬ Z a → H a = some (.dT kvs) → DnT K H Z kvs ps → Dn K H Z (.ref a) (.dict ps)
inductive DnL (K : PySem.W.Frag) (H : Hp) (Z : Addr → Prop) : List V → List D → Prop
  | nil : DnL K H Z [] []
  | cons {v : V} {vs : List V} {d : D} {ds : List D} : Dn K H Z v d → DnL K H Z vs ds → DnL K H Z (v :: vs) (d :: ds)
inductive DnK (K : PySem.W.Frag) (H : Hp) (Z : Addr → Prop) : List (Key × V) → List (D × D) → Prop
  | nil : DnK K H Z [] []
  | cons {k : Key} {v : V} {vs : List (Key × V)} {d : D} {ds : List (D × D)} : Dn K H Z v d → DnK K H Z vs ds → DnK K H Z ((k, v) :: vs) ((kD k, d) :: ds)
inductive DnT (K : PySem.W.Frag) (H : Hp) (Z : Addr → Prop) : List (List Key × V) → List (D × D) → Prop
  | nil : DnT K H Z [] []
  | cons {k : List Key} {v : V} {vs : List (List Key × V)} {d : D} {ds : List (D × D)} : Dn K H Z v d → DnT K H Z vs ds → DnT K H Z ((k, v) :: vs) ((.tuple (k.map kD), d) :: ds)
end
section
variable {K : PySem.W.Frag} {H H' : Hp} {Z Z' : Addr → Prop}
theorem rd_keep {a : Addr} {u : HO} (k : ∀ b o, ¬ Z b → H b = some o → H' b = some o) (hz : ¬ Z a) (r : Rd H a u) : Rd H' a u := by
  rcases r with r | ⟨o, r⟩
  · exact .inl (k _ _ hz r)
  · exact .inr ⟨o, k _ _ hz r⟩
theorem rd_there {a : Addr} {u : HO} (r : Rd H a u) : H a ≠ none := by
  rcases r with r | ⟨o, r⟩ <;> (rw [r]; exact fun z => nomatch z)
section
variable (k : ∀ b o, ¬ Z b → H b = some o → H' b = some o) (hz : ∀ b, Z' b → Z b ∨ H b = none)
include k hz
theorem nz_keep {a : Addr} {u : HO} (h : ¬ Z a) (r : Rd H a u) : ¬ Z' a := fun z => (hz a z).elim h (rd_there r)
theorem nz_keepH {a : Addr} {u : HO} (h : ¬ Z a) (r : H a = some u) : ¬ Z' a := nz_keep k hz h (.inl r)
theorem lst_keep {a : Addr} {xs : List V} (h : LstAt H Z a xs) : LstAt H' Z' a xs := ⟨nz_keepH k hz h.1 h.2, k _ _ h.1 h.2⟩
theorem tup_keep {a : Addr} {xs : List V} (h : TupAt K H Z a xs) : TupAt K H' Z' a xs := h.elim (fun z => .inl ⟨nz_keep k hz z.1 z.2, rd_keep k z.1 z.2⟩) .inr
mutual
theorem Dn.keep : ∀ (d : D) (v : V), Dn K H Z v d → Dn K H' Z' v d
  | .none, _, h => by cases h; exact .non
  | .bool b, _, h => by cases h; exact .bl b
  | .int i, _, h => by cases h; exact .int i
  | .str x, _, h => by cases h; exact .str x
  | .list ds, _, h => by
    cases h with
    | lst s a => exact .lst (lst_keep k hz s) (DnL.keep ds _ a)
  | .tuple ds, _, h => by
    cases h with
    | tup s a => exact .tup (tup_keep k hz s) (DnL.keep ds _ a)
  | .dict ps, _, h => by
    cases h with
    | dk n r a => exact .dk (nz_keepH k hz n r) (k _ _ n r) (DnK.keep ps _ a)
    | dt n r a => exact .dt (nz_keepH k hz n r) (k _ _ n r) (DnT.keep ps _ a)
theorem DnL.keep : ∀ (ds : List D) (vs : List V), DnL K H Z vs ds → DnL K H' Z' vs ds
  | [], _, h => by cases h; exact .nil
  | d :: ds, _, h => by
    cases h with
    | cons a b => exact .cons (Dn.keep d _ a) (DnL.keep ds _ b)
theorem DnK.keep : ∀ (ps : List (D × D)) (kvs : List (Key × V)), DnK K H Z kvs ps → DnK K H' Z' kvs ps
  | [], _, h => by cases h; exact .nil
  | (_, d) :: ds, _, h => by
    cases h with
    | cons a b => exact .cons (Dn.keep d _ a) (DnK.keep ds _ b)
theorem DnT.keep : ∀ (ps : List (D × D)) (kvs : List (List Key × V)), DnT K H Z kvs ps → DnT K H' Z' kvs ps
  | [], _, h => by cases h; exact .nil
  | (_, d) :: ds, _, h => by
    cases h with
    | cons a b => exact .cons (Dn.keep d _ a) (DnT.keep ds _ b)
end
end
theorem Dn.weak {v : V} {d : D} (h : Dn K H Z v d) (hz : ∀ b, Z' b → Z b) : Dn K H Z' v d := Dn.keep (fun _ _ _ e => e) (fun b z => .inl (hz b z)) d v h
theorem Dn.same {v : V} {d : D} (h : Dn K H Z v d) (s : Same H H') : Dn K H' Z v d := Dn.keep (fun b o _ e => s b o e) (fun b z => .inl z) d v h
theorem DnL.same {v : List V} {d : List D} (h : DnL K H Z v d) (s : Same H H') : DnL K H' Z v d := DnL.keep (fun b o _ e => s b o e) (fun b z => .inl z) d v h
theorem DnL.weak {v : List V} {d : List D} (h : DnL K H Z v d) (hz : ∀ b, Z' b → Z b) : DnL K H Z' v d := DnL.keep (fun _ _ _ e => e) (fun b z => .inl (hz b z)) d v h
theorem Dn.scal_any {v : V} {d : D} (h : Dn K H Z v d) (s : scal d = true) : Dn K H' Z' v d := by
  cases d <;> first | (cases h; constructor; done) | cases s
theorem DnL.length {v : List V} {d : List D} (h : DnL K H Z v d) : v.length = d.length := by
  induction d generalizing v with
  | nil => cases h; rfl
  | cons d ds ih => cases h with | cons a b => simp [ih b]
theorem DnL.append : ∀ {v w : List V} {d e : List D}, DnL K H Z v d → DnL K H Z w e → DnL K H Z (v ++ w) (d ++ e)
  | _, _, [], _, h, h' => by cases h; exact h'
  | _, _, d :: ds, _, h, h' => by cases h with | cons a b => exact .cons a (DnL.append b h')
theorem DnL.get : ∀ {v : List V} {d : List D} {i : Nat} {x : D}, DnL K H Z v d → d[i]? = some x → ∃ u, v[i]? = some u ∧ Dn K H Z u x
  | _, [], _, _, h, e => by simp at e
  | _, d :: ds, 0, x, h, e => by cases h with | cons a b => simp at e; subst e; exact ⟨_, rfl, a⟩
  | _, d :: ds, i + 1, x, h, e => by
    cases h with
    | cons a b =>
      obtain ⟨u, h1, h2⟩ := DnL.get (i := i) (x := x) b (by simpa using e)
      exact ⟨u, by simpa using h1, h2⟩
theorem DnL.getV : ∀ {v : List V} {d : List D} {i : Nat} {x : V}, DnL K H Z v d → v[i]? = some x → ∃ u, d[i]? = some u ∧ Dn K H Z x u
  | _, [], _, _, h, e => by cases h; simp at e
  | _, d :: ds, 0, x, h, e => by cases h with | cons a b => simp at e; subst e; exact ⟨_, rfl, a⟩
  | _, d :: ds, i + 1, x, h, e => by
    cases h with
    | cons a b =>
      obtain ⟨u, h1, h2⟩ := DnL.getV (i := i) (x := x) b (by simpa using e)
      exact ⟨u, by simpa using h1, h2⟩
theorem DnL.take : ∀ {v : List V} {d : List D} (n : Nat), DnL K H Z v d → DnL K H Z (v.take n) (d.take n)
  | _, _, 0, _ => .nil
  | _, [], n + 1, h => by cases h; exact .nil
  | _, d :: ds, n + 1, h => by cases h with | cons a b => exact .cons a (DnL.take n b)
theorem DnL.drop : ∀ {v : List V} {d : List D} (n : Nat), DnL K H Z v d → DnL K H Z (v.drop n) (d.drop n)
  | _, _, 0, h => h
  | _, [], n + 1, h => by cases h; exact .nil
  | _, d :: ds, n + 1, h => by cases h with | cons a b => exact DnL.drop n b
theorem DnL.setAt : ∀ {v : List V} {d : List D} (n : Nat) {x : V} {y : D}, DnL K H Z v d → Dn K H Z x y → DnL K H Z (v.set n x) (d.set n y)
  | _, [], n, _, _, h, h' => by cases h; exact .nil
  | _, d :: ds, 0, _, _, h, h' => by cases h with | cons a b => exact .cons h' b
  | _, d :: ds, n + 1, _, _, h, h' => by cases h with | cons a b => exact .cons a (DnL.setAt n b h')
theorem DnL.reverse {v : List V} {d : List D} (h : DnL K H Z v d) : DnL K H Z v.reverse d.reverse := by
  induction d generalizing v with
  | nil => cases h; exact .nil
  | cons d ds ih =>
    cases h with
    | cons a b =>
      rw [List.reverse_cons, List.reverse_cons]
      exact DnL.append (ih b) (.cons a .nil)
theorem DnL.rep {v : List V} {d : List D} (h : DnL K H Z v d) : ∀ n : Nat, DnL K H Z (List.replicate n v).flatten (List.replicate n d).flatten
  | 0 => .nil
  | n + 1 => by
    rw [List.replicate_succ, List.replicate_succ, List.flatten_cons, List.flatten_cons]
    exact DnL.append h (DnL.rep h n)
theorem DnL.isEmpty {v : List V} {d : List D} (h : DnL K H Z v d) : v.isEmpty = d.isEmpty := by
  cases d <;> cases h <;> rfl
mutual
theorem Dn.dp : ∀ (d : D) (v : V), Dn K H Z v d → d.hasDict = false → Dp K H v d
  | .none, _, h, _ => by cases h; exact .non
  | .bool b, _, h, _ => by cases h; exact .bl b
  | .int i, _, h, _ => by cases h; exact .int i
  | .str x, _, h, _ => by cases h; exact .str x
  | .list ds, _, h, n => by
    cases h with
    | lst s a => exact .lst (SqL.of s.2) (DnL.dp ds _ a (by simpa only [PyData.hasDict] using n))
  | .tuple ds, _, h, n => by
    cases h with
    | tup s a => exact .tup s.sq (DnL.dp ds _ a (by simpa only [PyData.hasDict] using n))
  | .dict ps, _, h, n => by simp [PyData.hasDict] at n
theorem DnL.dp : ∀ (ds : List D) (vs : List V), DnL K H Z vs ds → PyData.hasDictAll ds = false → DpAll K H vs ds
  | [], _, h, _ => by cases h; exact .nil
  | d :: ds, _, h, n => by
    simp only [PyData.hasDictAll, Bool.or_eq_false_iff] at n
    cases h with
    | cons a b => exact .cons (Dn.dp d _ a n.1) (DnL.dp ds _ b n.2)
end
end

/-! ### own containers; what may be read -/
def OwnAt (K : PySem.W.Frag) (H : Hp) (Z : Addr → Prop) (a : Addr) (d : D) : Prop :=
  (∃ xs ds, d = .list ds ∧ H a = some (.lst xs) ∧ DnL K H Z xs ds) ∨
  (∃ kvs ps, d = .dict ps ∧ H a = some (.dK kvs) ∧ DnK K H Z kvs ps) ∨
  (∃ kvs ps, d = .dict ps ∧ H a = some (.dT kvs) ∧ DnT K H Z kvs ps)
/-- may be read: shared, or an own container at its address -/
def Dr (K : PySem.W.Frag) (pn : List Addr) (H : Hp) (Z : Addr → Prop) (v : V) (d : D) : Prop := Dn K H Z v d ∨ ∃ a, v = .ref a ∧ a ∉ pn ∧ OwnAt K H Z a d
section
variable {K : PySem.W.Frag} {H H' : Hp} {Z Z' : Addr → Prop} {pn : List Addr}
theorem OwnAt.there {a : Addr} {d : D} (h : OwnAt K H Z a d) : H a ≠ none := by
  rcases h with ⟨_, _, _, e, _⟩ | ⟨_, _, _, e, _⟩ | ⟨_, _, _, e, _⟩ <;> (rw [e]; exact fun z => nomatch z)
theorem OwnAt.keep {a : Addr} {d : D} (k : ∀ b o, ¬ Z b → H b = some o → H' b = some o) (hz : ∀ b, Z' b → Z b ∨ H b = none) (ha : ∀ o, H a = some o → H' a = some o) (h : OwnAt K H Z a d) : OwnAt K H' Z' a d := by
  rcases h with ⟨xs, ds, e, h1, h2⟩ | ⟨xs, ds, e, h1, h2⟩ | ⟨xs, ds, e, h1, h2⟩
  · exact .inl ⟨xs, ds, e, ha _ h1, DnL.keep k hz _ _ h2⟩
  · exact .inr (.inl ⟨xs, ds, e, ha _ h1, DnK.keep k hz _ _ h2⟩)
  · exact .inr (.inr ⟨xs, ds, e, ha _ h1, DnT.keep k hz _ _ h2⟩)
theorem OwnAt.dn {a : Addr} {d : D} (h : OwnAt K H Z a d) (n : ¬ Z a) : Dn K H Z (.ref a) d := by
  rcases h with ⟨xs, ds, rfl, h1, h2⟩ | ⟨xs, ds, rfl, h1, h2⟩ | ⟨xs, ds, rfl, h1, h2⟩
  · exact .lst ⟨n, h1⟩ h2
  · exact .dk n h1 h2
  · exact .dt n h1 h2
theorem Dr.list {v : V} {ds : List D} (h : Dr K pn H Z v (.list ds)) : ∃ a xs, v = .ref a ∧ H a = some (.lst xs) ∧ DnL K H Z xs ds := by
  rcases h with h | ⟨a, rfl, _, h⟩
  · cases h with | lst s b => exact ⟨_, _, rfl, s.2, b⟩
  · rcases h with ⟨xs, ds', e, h1, h2⟩ | ⟨xs, ds, e, _⟩ | ⟨xs, ds, e, _⟩
    · cases e; exact ⟨a, xs, rfl, h1, h2⟩
    · cases e
    · cases e
theorem Dr.tup {v : V} {ds : List D} (h : Dr K pn H Z v (.tuple ds)) : ∃ a xs, v = .ref a ∧ TupAt K H Z a xs ∧ DnL K H Z xs ds := by
  rcases h with h | ⟨a, rfl, _, h⟩
  · cases h with | tup s b => exact ⟨_, _, rfl, s, b⟩
  · rcases h with ⟨xs, ds', e, _⟩ | ⟨xs, ds, e, _⟩ | ⟨xs, ds, e, _⟩ <;> cases e
theorem Dr.int {v : V} {i : Int} (h : Dr K pn H Z v (.int i)) : v = .int i := by
  rcases h with h | ⟨a, rfl, _, h⟩
  · cases h; rfl
  · rcases h with ⟨xs, ds', e, _⟩ | ⟨xs, ds, e, _⟩ | ⟨xs, ds, e, _⟩ <;> cases e
theorem Dr.str {v : V} {i : Str} (h : Dr K pn H Z v (.str i)) : v = .str i := by
  rcases h with h | ⟨a, rfl, _, h⟩
  · cases h; rfl
  · rcases h with ⟨xs, ds', e, _⟩ | ⟨xs, ds, e, _⟩ | ⟨xs, ds, e, _⟩ <;> cases e
theorem Dr.bl {v : V} {i : Bool} (h : Dr K pn H Z v (.bool i)) : v = .bl i := by
  rcases h with h | ⟨a, rfl, _, h⟩
  · cases h; rfl
  · rcases h with ⟨xs, ds', e, _⟩ | ⟨xs, ds, e, _⟩ | ⟨xs, ds, e, _⟩ <;> cases e
theorem Dr.non {v : V} (h : Dr K pn H Z v .none) : v = .non := by
  rcases h with h | ⟨a, rfl, _, h⟩
  · cases h; rfl
  · rcases h with ⟨xs, ds', e, _⟩ | ⟨xs, ds, e, _⟩ | ⟨xs, ds, e, _⟩ <;> cases e
theorem Dr.dp {v : V} {d : D} (h : Dr K pn H Z v d) (n : d.hasDict = false) : Dp K H v d := by
  rcases h with h | ⟨a, rfl, _, h⟩
  · exact Dn.dp d v h n
  · rcases h with ⟨xs, ds, rfl, h1, h2⟩ | ⟨xs, ds, rfl, _⟩ | ⟨xs, ds, rfl, _⟩
    · exact .lst (SqL.of h1) (DnL.dp ds _ h2 (by simpa only [PyData.hasDict] using n))
    · simp [PyData.hasDict] at n
    · simp [PyData.hasDict] at n
end
end Y

namespace L2
open PySem PySem.Spec PyProof.Rows
theorem PE.weak {X : Cx} {e : Expr} {t t' : TE} (h : PE X e t) (w : ∀ σ H Q, t' σ H Q → t σ H Q) : PE X e t' := ⟨fun pins s σ H Q I q => h.run pins s σ H Q I (w σ H Q q)⟩
end L2
namespace Y
open PySem PySem.Spec PyProof.Rows L2 M
/-! ### the pen of the draws; steps of the heap -/
abbrev penO (nx : Str) (c : Addr) (i r : Int) : HO := .dK [(Sum.inr "cells", .ref c), (Sum.inr nx, .int i), (Sum.inr "rest", .int r)]
abbrev NX : Str := "turn"
/-- so many draws at most -/
def LIM : Nat := 2 ^ 400000
/-- t draws are left -/
def Bd (t : Nat) (pn : List Addr) (H : Hp) : Prop := t ≤ LIM ∧ ∀ d ∈ pn, ∀ c i r, H d = some (penO NX c i r) → i + (t : Int) ≤ (LIM : Int)
theorem Bd.less {t t' : Nat} {pn : List Addr} {H : Hp} (b : Bd t pn H) (h : t' ≤ t) : Bd t' pn H := ⟨Nat.le_trans h b.1, fun d hd c i r e => by have := b.2 d hd c i r e; omega⟩
def PenStep (H H' : Hp) (d : Addr) : Prop := ∀ c i r, 0 ≤ i → 0 ≤ r → H d = some (penO NX c i r) → ∃ i' r', 0 ≤ i' ∧ 0 ≤ r' ∧ H' d = some (penO NX c i' r')
structure HStep (t : Nat) (pn : List Addr) (H H' : Hp) : Prop where
  keep : ∀ b o, b ∉ pn → H b = some o → H' b = some o
  pen : ∀ d ∈ pn, PenStep H H' d
  there : ∀ b, H b ≠ none → H' b ≠ none
  bd : Bd t pn H'
theorem PenStep.refl (H : Hp) (d : Addr) : PenStep H H d := fun c i r h1 h2 e => ⟨i, r, h1, h2, e⟩
theorem PenStep.trans {H H1 H2 : Hp} {d : Addr} (a : PenStep H H1 d) (b : PenStep H1 H2 d) : PenStep H H2 d := fun c i r h1 h2 e => by
  obtain ⟨i', r', h1', h2', e'⟩ := a c i r h1 h2 e
  exact b c i' r' h1' h2' e'
theorem HStep.refl {t : Nat} {pn : List Addr} {H : Hp} (b : Bd t pn H) : HStep t pn H H := ⟨fun _ _ _ e => e, fun _ _ => PenStep.refl _ _, fun _ e => e, b⟩
theorem HStep.trans {s t : Nat} {pn : List Addr} {H H1 H2 : Hp} (a : HStep s pn H H1) (b : HStep t pn H1 H2) : HStep t pn H H2 :=
  ⟨fun x o n e => b.keep x o n (a.keep x o n e), fun d hd => (a.pen d hd).trans (b.pen d hd), fun x e => b.there x (a.there x e), b.bd⟩
theorem HStep.less {s t : Nat} {pn : List Addr} {H H1 : Hp} (a : HStep s pn H H1) (h : t ≤ s) : HStep t pn H H1 := ⟨a.keep, a.pen, a.there, a.bd.less h⟩
theorem Same.there {H H' : Hp} (s : Same H H') : ∀ b, H b ≠ none → H' b ≠ none := fun b h => by
  cases e : H b with
  | none => exact absurd e h
  | some o => rw [s b o e]; exact fun z => nomatch z
theorem Bd.same {t : Nat} {pn : List Addr} {H H' : Hp} (b : Bd t pn H) (pt : ∀ a ∈ pn, H a ≠ none) (s : Same H H') : Bd t pn H' := ⟨b.1, fun d hd c i r e => by
  cases q : H d with
  | none => exact absurd q (pt d hd)
  | some o =>
    have := s d o q
    rw [e] at this
    cases this
    exact b.2 d hd c i r q⟩
theorem HStep.of_same {t : Nat} {pn : List Addr} {H H' : Hp} (b : Bd t pn H) (pt : ∀ a ∈ pn, H a ≠ none) (s : Same H H') : HStep t pn H H' :=
  ⟨fun b o _ e => s b o e, fun d _ c i r h1 h2 e => ⟨i, r, h1, h2, s _ _ e⟩, Same.there s, b.same pt s⟩
theorem HStep.free {t : Nat} {pn : List Addr} {H H' : Hp} (s : HStep t pn H H') {a : Addr} (h : H' a = none) : H a = none := by
  cases e : H a with
  | none => rfl
  | some o => exact absurd h (s.there a (by rw [e]; exact fun z => nomatch z))
def Zp (Z : Addr → Prop) (a : Addr) : Addr → Prop := fun b => Z b ∨ b = a
def PenOk (K : PySem.W.Frag) (H : Hp) (Z : Addr → Prop) (d : Addr) : Prop := ∃ c i r, ∃ ns : List Int, 0 ≤ i ∧ 0 ≤ r ∧ H d = some (penO NX c i r) ∧ Dn K H Z (.ref c) (.list (ns.map PyData.int))
/-! ### frames -/
/-- the script: a list that is known, of ints -/
def Scr (K : PySem.W.Frag) (H : Hp) (Z : Addr → Prop) (a : Addr) (ns : List Int) : Prop := (¬ Z a ∧ Rd H a (.lst (ns.map V.int))) ∨
  ∃ (o : Obj) (its : Array Value) (n : Nat), K.lookup a = some o ∧ o.cls = .type "list" ∧ o.dict = none ∧ o.data = .seq its n ∧ its.size ≤ sizeLine ∧ Vals (ns.map V.int) its.toList
theorem Scr.sq {K : PySem.W.Frag} {H : Hp} {Z : Addr → Prop} {a : Addr} {ns : List Int} (h : Scr K H Z a ns) : SqL K H a (ns.map V.int) := h.elim (fun z => .inl z.2) .inr
theorem Scr.keep {K : PySem.W.Frag} {H H' : Hp} {Z Z' : Addr → Prop} {a : Addr} {ns : List Int} (k : ∀ b o, ¬ Z b → H b = some o → H' b = some o) (hz : ∀ b, Z' b → Z b ∨ H b = none) (h : Scr K H Z a ns) : Scr K H' Z' a ns :=
  h.elim (fun z => .inl ⟨nz_keep k hz z.1 z.2, rd_keep k z.1 z.2⟩) .inr
def SlOk (K : PySem.W.Frag) (H0 H : Hp) (Z : Addr → Prop) (pn : List Addr) (sv : Option (Option V)) : Sl → Prop
  | .emp => True
  | .val d => ∃ v, sv = some (some v) ∧ Dn K H Z v d
  | .own d => ∃ a, sv = some (some (.ref a)) ∧ Z a ∧ H0 a = none ∧ a ∉ pn ∧ OwnAt K H Z a d
  | .pen => ∃ a, sv = some (some (.ref a)) ∧ a ∈ pn
  | .scr n => ∃ a ns, sv = some (some (.ref a)) ∧ Scr K H Z a ns ∧ n = List.length ns
structure EnvOk (K : PySem.W.Frag) (H0 : Hp) (B : Addr → Prop) (pn : List Addr) (fr : List (V × D)) (Z : Addr → Prop) (t : Nat) (σ : L2.St) (ρ : En) (H : Hp) : Prop where
  step : HStep t pn H0 H
  zt : ∀ a, Z a → H a ≠ none
  bz : ∀ a, B a → Z a
  bt : ∀ a, B a → H0 a ≠ none
  pz : ∀ a ∈ pn, Z a ∧ PenOk K H Z a
  len : ρ.length = σ.length
  sl : ∀ (i : Nat) (s : Sl), ρ[i]? = some s → SlOk K H0 H Z pn (σ[i]?) s
  inj : ∀ (i j : Nat) (d e : D) (a : Addr), ρ[i]? = some (.own d) → ρ[j]? = some (.own e) → σ[i]? = some (some (.ref a)) → σ[j]? = some (some (.ref a)) → i = j
  fr : ∀ p ∈ fr, Dn K H Z p.1 p.2
section
variable {K : PySem.W.Frag} {H0 H H' : Hp} {B Z : Addr → Prop} {pn : List Addr} {fr : List (V × D)} {σ : L2.St} {ρ : En} {t t' : Nat}
theorem keepZ (s : HStep t pn H H') (hz : ∀ a ∈ pn, Z a) : ∀ b o, ¬ Z b → H b = some o → H' b = some o := fun b o n e => s.keep b o (fun z => n (hz b z)) e
theorem PenOk.step {d : Addr} (p : PenOk K H Z d) (hd : d ∈ pn) (s : HStep t' pn H H') (hz : ∀ a ∈ pn, Z a) : PenOk K H' Z d := by
  obtain ⟨c, i, r, ns, h1, h2, e, hn⟩ := p
  obtain ⟨i', r', h1', h2', e'⟩ := s.pen d hd c i r h1 h2 e
  exact ⟨c, i', r', ns, h1', h2', e', Dn.keep (keepZ s hz) (fun b z => .inl z) _ _ hn⟩
theorem OwnAt.step {a : Addr} {d : D} (h : OwnAt K H Z a d) (n : a ∉ pn) (s : HStep t' pn H H') (hz : ∀ a ∈ pn, Z a) : OwnAt K H' Z a d :=
  h.keep (keepZ s hz) (fun b z => .inl z) fun o e => s.keep a o n e
theorem Dr.step {v : V} {d : D} (h : Dr K pn H Z v d) (s : HStep t' pn H H') (hz : ∀ a ∈ pn, Z a) : Dr K pn H' Z v d := by
  rcases h with h | ⟨a, e, n, h⟩
  · exact .inl (Dn.keep (keepZ s hz) (fun b z => .inl z) _ _ h)
  · exact .inr ⟨a, e, n, h.step n s hz⟩
theorem EnvOk.to (ok : EnvOk K H0 B pn fr Z t σ ρ H) (s : HStep t' pn H H') : EnvOk K H0 B pn fr Z t' σ ρ H' := by
  have hz : ∀ a ∈ pn, Z a := fun a ha => (ok.pz a ha).1
  refine ⟨ok.step.trans s, fun a h => s.there a (ok.zt a h), ok.bz, ok.bt, fun a ha => ⟨hz a ha, (ok.pz a ha).2.step ha s hz⟩, ok.len, fun i sl e => ?_, ok.inj, fun p hp => Dn.keep (keepZ s hz) (fun b z => .inl z) _ _ (ok.fr p hp)⟩
  have h := ok.sl i sl e
  cases sl with
  | emp => trivial
  | val d => obtain ⟨v, e1, h1⟩ := h; exact ⟨v, e1, Dn.keep (keepZ s hz) (fun b z => .inl z) _ _ h1⟩
  | own d => obtain ⟨a, e1, h1, h2, h3, h4⟩ := h; exact ⟨a, e1, h1, h2, h3, h4.step h3 s hz⟩
  | pen => exact h
  | scr n => obtain ⟨a, ns, e1, h1, h2⟩ := h; exact ⟨a, ns, e1, h1.keep (keepZ s hz) (fun b z => .inl z), h2⟩
theorem EnvOk.bd (ok : EnvOk K H0 B pn fr Z t σ ρ H) : Bd t pn H := ok.step.bd
theorem EnvOk.lt (ok : EnvOk K H0 B pn fr Z t σ ρ H) (h : t' ≤ t) : EnvOk K H0 B pn fr Z t' σ ρ H := ⟨ok.step.less h, ok.zt, ok.bz, ok.bt, ok.pz, ok.len, ok.sl, ok.inj, ok.fr⟩
theorem EnvOk.pnz (ok : EnvOk K H0 B pn fr Z t σ ρ H) : ∀ a ∈ pn, Z a := fun a ha => (ok.pz a ha).1
theorem EnvOk.pnt (ok : EnvOk K H0 B pn fr Z t σ ρ H) : ∀ a ∈ pn, H a ≠ none := fun a ha => ok.zt a (ok.pz a ha).1
theorem EnvOk.ss (ok : EnvOk K H0 B pn fr Z t σ ρ H) (s : Same H H') : HStep t pn H H' := HStep.of_same ok.bd ok.pnt s
/-- a new address is banned from now on -/
theorem EnvOk.more (ok : EnvOk K H0 B pn fr Z t σ ρ H) {a : Addr} (hn : H a = none) (s : HStep t' pn H H') (ht : H' a ≠ none) : EnvOk K H0 B pn fr (Zp Z a) t' σ ρ H' := by
  have hz := ok.pnz
  have kp : ∀ {v d}, Dn K H Z v d → Dn K H' (Zp Z a) v d := fun {v d} h => Dn.keep (keepZ s hz) (fun b z => z.elim .inl fun e => .inr (by rw [e]; exact hn)) _ _ h
  refine ⟨ok.step.trans s, fun b h => h.elim (fun z => s.there b (ok.zt b z)) fun e => by rw [e]; exact ht, fun b h => .inl (ok.bz b h), ok.bt, fun b hb => ⟨.inl (hz b hb), ?_⟩, ok.len, fun i sl e => ?_, ok.inj, fun p hp => kp (ok.fr p hp)⟩
  · obtain ⟨c, i, r, ns, h1, h2, e, hn'⟩ := (ok.pz b hb).2
    obtain ⟨i', r', h1', h2', e'⟩ := s.pen b hb c i r h1 h2 e
    exact ⟨c, i', r', ns, h1', h2', e', kp hn'⟩
  · have h := ok.sl i sl e
    cases sl with
    | emp => trivial
    | val d => obtain ⟨v, e1, h1⟩ := h; exact ⟨v, e1, kp h1⟩
    | own d =>
      obtain ⟨b, e1, h1, h2, h3, h4⟩ := h
      exact ⟨b, e1, .inl h1, h2, h3, h4.keep (keepZ s hz) (fun c z => z.elim .inl fun e => .inr (by rw [e]; exact hn)) fun o q => s.keep b o h3 q⟩
    | pen => exact h
    | scr n => obtain ⟨b, ns, e1, h1, h2⟩ := h; exact ⟨b, ns, e1, h1.keep (keepZ s hz) (fun c z => z.elim .inl fun e => .inr (by rw [e]; exact hn)), h2⟩
end
/-! ### results -/
def RX (K : PySem.W.Frag) (pn : List Addr) (Hs H' : Hp) (Z : Addr → Prop) (v : V) (d : D) : Kd → Prop
  | .shr => Dn K H' Z v d
  | .own => ∃ a, v = .ref a ∧ Hs a = none ∧ OwnAt K H' (Zp Z a) a d
  | .bor => ∃ a, v = .ref a ∧ a ∉ pn ∧ OwnAt K H' Z a d
section
variable {K : PySem.W.Frag} {Hs H H' : Hp} {Z : Addr → Prop} {pn : List Addr} {v : V} {d : D} {k : Kd}
theorem OwnAt.less {a b : Addr} {d : D} (h : OwnAt K H (Zp Z b) a d) : OwnAt K H Z a d := h.keep (fun _ _ _ e => e) (fun c z => .inl (.inl z)) fun _ e => e
theorem RX.dr (h : RX K pn Hs H' Z v d k) (pt : ∀ a ∈ pn, Hs a ≠ none) : Dr K pn H' Z v d := by
  cases k with
  | shr => exact .inl h
  | own => obtain ⟨a, e, n, o⟩ := h; exact .inr ⟨a, e, fun z => pt a z n, o.less⟩
  | bor => obtain ⟨a, e, n, o⟩ := h; exact .inr ⟨a, e, n, o⟩
theorem RX.dn (h : RX K pn Hs H' Z v d k) (hk : k ≠ .bor) (zt : ∀ a, Z a → Hs a ≠ none) : Dn K H' Z v d := by
  cases k with
  | shr => exact h
  | own => obtain ⟨a, e, n, o⟩ := h; subst e; exact o.less.dn fun z => zt a z n
  | bor => exact absurd rfl hk
theorem RX.back {t : Nat} {H0 : Hp} (h : RX K pn Hs H' Z v d k) (s : HStep t pn H0 Hs) : RX K pn H0 H' Z v d k := by
  cases k with
  | shr => exact h
  | own => obtain ⟨a, e, n, o⟩ := h; exact ⟨a, e, s.free n, o⟩
  | bor => exact h
end
def tX (K : PySem.W.Frag) (c : Nat) (w : En → VQ → Prop) : TE := fun σ H Q => ∃ H0 B pn fr ρ Z t, EnvOk K H0 B pn fr Z (c + t) σ ρ H ∧ w ρ fun d k => ∀ v H', HStep t pn H H' → RX K pn H H' Z v d k → Q v H'
def MonoW (w : En → VQ → Prop) : Prop := ∀ ρ Q Q', (∀ d k, Q d k → Q' d k) → w ρ Q → w ρ Q'
/-- a two-place operation by deep values -/
def rD2 (K : PySem.W.Frag) (g : D → D → Rz) : R2 := fun x y H Q => ∃ pn Z d e, (∀ a, Z a → H a ≠ none) ∧ Dr K pn H Z x d ∧ Dr K pn H Z y e ∧ (g d e).to fun r k => ∀ v H', Same H H' → RX K pn H H' Z v r k → Q v H'
theorem same_refl (H : Hp) : Same H H := fun _ _ e => e
/-- one after another -/
theorem tX_two {K : PySem.W.Frag} {ca cb : Nat} {wa wb : En → VQ → Prop} (ma : MonoW wa) (mb : MonoW wb) {g : D → Kd → D → Kd → VQ → Prop} {σ : L2.St} {H : Hp} {Q : VK} {R : V → V → Hp → Prop}
    (h : tX K (ca + cb) (fun ρ Q => wa ρ fun x k => wb ρ fun y k' => g x k y k' Q) σ H Q)
    (hR : ∀ pn Z x y d k e k' H2, (∀ a, Z a → H2 a ≠ none) → Dr K pn H2 Z x d → Dr K pn H2 Z y e → (g d k e k' fun r kd => ∀ v H', Same H2 H' → RX K pn H2 H' Z v r kd → Q v H') → R x y H2)
    (mg : ∀ d k e k' Q Q', (∀ r kd, Q r kd → Q' r kd) → g d k e k' Q → g d k e k' Q') :
    tX K ca wa σ H fun x H1 => tX K cb wb σ H1 fun y H2 => R x y H2 := by
  obtain ⟨H0, B, pn, fr, ρ, Z, t, ok, w⟩ := h
  refine ⟨H0, B, pn, fr, ρ, Z, cb + t, ok.lt (by omega), ma _ _ _ (fun d k q x H1 s1 r1 => ⟨H0, B, pn, fr, ρ, Z, t, ok.to s1, mb _ _ _ (fun e k' q2 y H2 s2 r2 => ?_) q⟩) w⟩
  have ok1 := ok.to s1
  have ok2 := ok1.to s2
  refine hR pn Z x y d k e k' H2 ok2.zt ((r1.dr ok.pnt).step s2 ok.pnz) (r2.dr ok1.pnt) (mg _ _ _ _ _ _ (fun r kd z v H' s3 rx => z v H' ((s1.trans s2).trans (HStep.of_same ok2.bd ok2.pnt s3)) (rx.back (s1.trans s2))) q2)
theorem tX_op {K : PySem.W.Frag} {ca cb : Nat} {wa wb : En → VQ → Prop} (ma : MonoW wa) (mb : MonoW wb) {g : D → D → Rz} {σ : L2.St} {H : Hp} {Q : VK}
    (h : tX K (ca + cb) (fun ρ Q => wa ρ fun x _ => wb ρ fun y _ => (g x y).to Q) σ H Q) : tOp (rD2 K g) (tX K ca wa) (tX K cb wb) σ H Q :=
  tX_two ma mb (g := fun x _ y _ Q => (g x y).to Q) h (fun pn Z x y d k e k' H2 zt r1 r2 q => ⟨pn, Z, d, e, zt, r1, r2, q⟩) fun _ _ _ _ _ _ h => Rz.mono h
/-! ### operators -/
section
variable {X : Cx} {K : PySem.W.Frag}
theorem OpR.d2 {f : Value → Value → Sem Value} {g : D → D → Rz}
    (h : ∀ (x y : V) (H : Hp) (pn : List Addr) (Z : Addr → Prop) (d e : D) (Q : VK), (∀ a, Z a → H a ≠ none) → Dr X.K pn H Z x d → Dr X.K pn H Z y e → ((g d e).to fun r k => ∀ v H', Same H H' → RX X.K pn H H' Z v r k → Q v H') → ∃ r : R2, OpR X f r ∧ r x y H Q) : OpR X f (rD2 X.K g) := by
  intro pins s σ H x y v u Q I rx ry q
  obtain ⟨pn, Z, d, e, zt, h1, h2, q⟩ := q
  obtain ⟨r, o, q'⟩ := h x y H pn Z d e Q zt h1 h2 q
  exact o pins s σ H x y v u Q I rx ry q'
theorem zp_new {Z : Addr → Prop} {H : Hp} {p : Addr} (np : H p = none) : ∀ b, Zp Z p b → Z b ∨ H b = none := fun b z => z.elim .inl fun e => .inr (by rw [e]; exact np)
/-- a new list is own -/
theorem rx_lst {K : PySem.W.Frag} {pn : List Addr} {Z : Addr → Prop} {H : Hp} {p : Addr} {xs : List V} {ds : List D} (np : H p = none) (h : DnL K H Z xs ds) : RX K pn H (upd H p (.lst xs)) Z (.ref p) (.list ds) .own :=
  ⟨p, rfl, np, .inl ⟨xs, ds, rfl, upd_same, DnL.keep (fun b o _ e => M.same_upd np b o e) (zp_new np) _ _ h⟩⟩
/-- a new tuple -/
theorem rx_tup {K : PySem.W.Frag} {pn : List Addr} {Z : Addr → Prop} {H : Hp} {p : Addr} {xs : List V} {ds : List D} (zt : ∀ a, Z a → H a ≠ none) (np : H p = none) (h : DnL K H Z xs ds) : RX K pn H (upd H p (.tup xs)) Z (.ref p) (.tuple ds) .shr :=
  .tup (.inl ⟨fun z => zt p z np, .inl upd_same⟩) (h.same (M.same_upd np))
theorem op_addD : OpR X (binaryOp .Add) (rD2 X.K (bin .Add)) := by
  refine OpR.d2 fun x y H pn Z d e Q zt h1 h2 q => ?_
  cases d <;> cases e <;> first
    | exact q.elim
    | (have e1 := h1.int; have e2 := h2.int; subst e1 e2; exact ⟨_, op_add, _, _, rfl, rfl, q.2 _ H (same_refl H) (.int _)⟩)
    | (have e1 := h1.str; have e2 := h2.str; subst e1 e2; exact ⟨_, op_add_str, _, _, rfl, rfl, q.1, q.2 _ H (same_refl H) (.str _)⟩)
    | (obtain ⟨a, xs, rfl, s1, n1⟩ := h1.list
       obtain ⟨b, ys, rfl, s2, n2⟩ := h2.list
       have l1 := n1.length
       have l2 := n2.length
       exact ⟨_, op_cat, _, _, _, _, rfl, rfl, s1, s2, by have := q.1; omega, fun p np => q.2 _ _ (M.same_upd np) (rx_lst np (n1.append n2))⟩)
    | (obtain ⟨a, xs, rfl, s1, n1⟩ := h1.tup
       obtain ⟨b, ys, rfl, s2, n2⟩ := h2.tup
       have l1 := n1.length
       have l2 := n2.length
       refine ⟨_, op_catA, _, _, _, _, rfl, rfl, s1.sq, s2.sq, by have := q.1; omega, fun ex => ?_, fun _ ey => ?_, fun _ _ p np => q.2 _ _ (M.same_upd np) (rx_tup zt np (n1.append n2))⟩
       · subst ex
         cases n1
         exact q.2 _ _ (same_refl H) (.tup s2 n2)
       · subst ey
         cases n2
         refine q.2 _ _ (same_refl H) ?_
         rw [List.append_nil]
         exact .tup s1 n1)
theorem op_intD {f : Value → Value → Sem Value} {o : Operator} {c : Int → Int → Prop} {g : Int → Int → Int} (ho : ∀ i j : Int, bin o (.int i) (.int j) = some (c i j, .int (g i j), .shr)) (hn : ∀ d e, bin o d e = none ∨ ∃ i j : Int, d = .int i ∧ e = .int j)
    (h : OpR X f (rI c fun i j => .int (g i j))) : OpR X f (rD2 X.K (bin o)) := by
  refine OpR.d2 fun x y H pn Z d e Q zt h1 h2 q => ?_
  rcases hn d e with z | ⟨i, j, rfl, rfl⟩
  · rw [z] at q; exact q.elim
  · rw [ho] at q
    have e1 := h1.int
    have e2 := h2.int
    subst e1 e2
    exact ⟨_, h, _, _, rfl, rfl, q.1, q.2 _ H (same_refl H) (.int _)⟩
theorem op_mulD : OpR X (binaryOp .Mult) (rD2 X.K (bin .Mult)) := by
  refine OpR.d2 fun x y H pn Z d e Q zt h1 h2 q => ?_
  cases d <;> cases e <;> first
    | exact q.elim
    | (have e1 := h1.int; have e2 := h2.int; subst e1 e2; exact ⟨_, op_mul, _, _, rfl, rfl, q.1, q.2 _ H (same_refl H) (.int _)⟩)
    | (obtain ⟨a, xs, rfl, s1, n1⟩ := h1.list
       have e2 := h2.int
       subst e2
       have l1 := n1.length
       obtain ⟨q1, q2, q3⟩ := q.1
       exact ⟨_, op_rep, _, _, _, rfl, rfl, s1, q1, q2, by rw [l1]; exact q3, fun p np => q.2 _ _ (M.same_upd np) (rx_lst np (n1.rep _))⟩)
theorem rI0_of {f : Value → Value → Sem Value} {g : Int → Int → V} (h : OpR X f (rI0 g)) : OpR X f (rI (fun _ _ => True) g) := fun pins s σ H x y v u Q I rx ry q => by
  obtain ⟨i, j, e1, e2, _, q⟩ := q
  exact h pins s σ H x y v u Q I rx ry ⟨i, j, e1, e2, q⟩
theorem op_binD : ∀ o : Operator, OpR X (binaryOp o) (rD2 X.K (bin o))
  | .Add => op_addD
  | .Mult => op_mulD
  | .Sub => op_intD (fun _ _ => rfl) (fun d e => by cases d <;> cases e <;> first | exact .inl rfl | exact .inr ⟨_, _, rfl, rfl⟩) (rI0_of op_sub)
  | .FloorDiv => op_intD (fun _ _ => rfl) (fun d e => by cases d <;> cases e <;> first | exact .inl rfl | exact .inr ⟨_, _, rfl, rfl⟩) op_fdiv
  | .Mod => op_intD (fun _ _ => rfl) (fun d e => by cases d <;> cases e <;> first | exact .inl rfl | exact .inr ⟨_, _, rfl, rfl⟩) op_mod
  | .Pow => op_intD (fun _ _ => rfl) (fun d e => by cases d <;> cases e <;> first | exact .inl rfl | exact .inr ⟨_, _, rfl, rfl⟩) op_pow
  | .LShift => op_intD (fun _ _ => rfl) (fun d e => by cases d <;> cases e <;> first | exact .inl rfl | exact .inr ⟨_, _, rfl, rfl⟩) op_shl
  | .RShift => op_intD (fun _ _ => rfl) (fun d e => by cases d <;> cases e <;> first | exact .inl rfl | exact .inr ⟨_, _, rfl, rfl⟩) op_shr
  | .MatMult | .Div | .BitOr | .BitXor | .BitAnd => OpR.d2 fun x y H pn Z d e Q zt h1 h2 q => by cases d <;> cases e <;> exact q.elim
end
end Y

namespace Y
open PySem PySem.Spec PyProof.Rows L2 M
section
variable {X : Cx}
/-! ### comparisons -/
theorem noneD_of {K : PySem.W.Frag} {pn : List Addr} {H : Hp} {Z : Addr → Prop} {v : V} {d : D} (h : Dr K pn H Z v d) : decide (v = .non) = noneD d := by
  cases d with
  | none => rw [h.non]; rfl
  | bool b => rw [h.bl]; rfl
  | int b => rw [h.int]; rfl
  | str b => rw [h.str]; rfl
  | list b => obtain ⟨a, xs, rfl, _⟩ := h.list; rfl
  | tuple b => obtain ⟨a, xs, rfl, _⟩ := h.tup; rfl
  | dict b =>
    have e : ∃ a, v = V.ref a := by
      rcases h with h | ⟨a, rfl, _⟩
      · cases h <;> exact ⟨_, rfl⟩
      · exact ⟨_, rfl⟩
    obtain ⟨a, rfl⟩ := e
    rfl
theorem op_cB {f : Value → Value → Sem Value} {g : D → D → Option (Prop × Bool)}
    (h : ∀ (x y : V) (H : Hp) (pn : List Addr) (Z : Addr → Prop) (d e : D) (p : Prop) (b : Bool) (Q : VK), Dr X.K pn H Z x d → Dr X.K pn H Z y e → g d e = some (p, b) → p → Q (.bl b) H → ∃ r : R2, OpR X f r ∧ r x y H Q) :
    OpR X f (rD2 X.K fun d e => (g d e).map fun p => (p.1, .bool p.2, .shr)) := by
  refine OpR.d2 fun x y H pn Z d e Q zt h1 h2 q => ?_
  cases eg : g d e with
  | none => rw [eg] at q; exact q.elim
  | some pb =>
    obtain ⟨p, b⟩ := pb
    rw [eg] at q
    exact h x y H pn Z d e p b Q h1 h2 eg q.1 (q.2 _ H (same_refl H) (.bl _))
theorem shaped_nd {d : D} (h : SeqAt.shaped d = true) : d.hasDict = false := PyData.hasDict_of_canLay d (SeqAt.canLay_of_shaped h)
theorem op_eqY (hu : X.A.units + 64 < cLine) : OpR X (compareOp .Eq) (rD2 X.K (cmpR .Eq)) := by
  refine op_cB (g := cmpD .Eq) fun x y H pn Z d e p b Q h1 h2 eg hp q => ?_
  cases eg
  exact ⟨_, op_eqD hu, d, e, h1.dp (shaped_nd hp.1), h2.dp (shaped_nd hp.2), hp.1, hp.2, q⟩
theorem op_neY (hu : X.A.units + 64 < cLine) : OpR X (compareOp .NotEq) (rD2 X.K (cmpR .NotEq)) := by
  refine op_cB (g := cmpD .NotEq) fun x y H pn Z d e p b Q h1 h2 eg hp q => ?_
  cases eg
  exact ⟨_, op_neD hu, d, e, h1.dp (shaped_nd hp.1), h2.dp (shaped_nd hp.2), hp.1, hp.2, q⟩
theorem op_icY {o : CmpOp} {c : Int → Int → Bool} (ho : ∀ i j : Int, cmpD o (.int i) (.int j) = some (True, c i j)) (hn : ∀ d e, cmpD o d e = none ∨ ∃ i j : Int, d = .int i ∧ e = .int j)
    (h : OpR X (compareOp o) (rI0 fun i j => .bl (c i j))) : OpR X (compareOp o) (rD2 X.K (cmpR o)) := by
  refine op_cB (g := cmpD o) fun x y H pn Z d e p b Q h1 h2 eg hp q => ?_
  rcases hn d e with z | ⟨i, j, rfl, rfl⟩
  · rw [z] at eg; cases eg
  · rw [ho] at eg
    cases eg
    have e1 := h1.int
    have e2 := h2.int
    subst e1 e2
    exact ⟨_, h, _, _, rfl, rfl, q⟩
theorem str1 {y : Str} (h : y.cps.size = 1) : y = ⟨#[y.cps.getD 0 0]⟩ := by
  obtain ⟨⟨l⟩⟩ := y
  match l, h with
  | [c], _ => rfl
theorem scal_flat {K : PySem.W.Frag} {H : Hp} {Z : Addr → Prop} {v : V} {d : D} (h : Dn K H Z v d) (s : scal d = true) : flatV v = true := by
  cases d <;> first | (cases h; rfl) | cases s
theorem scal_eqv {K : PySem.W.Frag} {H : Hp} {Z : Addr → Prop} {v w : V} {d e : D} (h : Dn K H Z v d) (s : scal d = true) (h' : Dn K H Z w e) (s' : scal e = true) : eqV v w = PyData.eqv d e := by
  cases d <;> first
    | (simp [scal] at s; done)
    | (cases e <;> first | (simp [scal] at s'; done) | (cases h; cases h'; simp only [eqV, PyData.eqv]))
theorem scal_any {K : PySem.W.Frag} {H : Hp} {Z : Addr → Prop} {w : V} {e : D} (h' : Dn K H Z w e) (s' : scal e = true) : ∀ {ds : List D} {xs : List V}, DnL K H Z xs ds → ds.all scal = true → xs.all flatV = true ∧ inV w xs = ds.any fun z => PyData.eqv z e
  | [], _, h, _ => by cases h; exact ⟨rfl, rfl⟩
  | d :: ds, _, h, s => by
    rw [List.all_cons, Bool.and_eq_true] at s
    cases h with
    | cons a b =>
      obtain ⟨i1, i2⟩ := scal_any h' s' b s.2
      refine ⟨by rw [List.all_cons, scal_flat a s.1, i1]; rfl, ?_⟩
      unfold inV at i2 ⊢
      rw [List.any_cons, List.any_cons, i2, scal_eqv a s.1 h' s']
theorem Dr.sc {K : PySem.W.Frag} {pn : List Addr} {H : Hp} {Z : Addr → Prop} {v : V} {d : D} (h : Dr K pn H Z v d) (s : scal d = true) : Dn K H Z v d := by
  rcases h with h | ⟨a, rfl, _, ⟨_, _, rfl, _⟩ | ⟨_, _, rfl, _⟩ | ⟨_, _, rfl, _⟩⟩
  · exact h
  · cases s
  · cases s
  · cases s
theorem in_caseY (hu : X.A.units + 65 < cLine) {x y : V} {H : Hp} {pn : List Addr} {Z : Addr → Prop} {d e : D} {p : Prop} {b : Bool} {Q : Bool → Prop} (h1 : Dr X.K pn H Z x d) (h2 : Dr X.K pn H Z y e) (eg : inD d e = some (p, b)) (hp : p) (q : Q b) :
    (∃ (c : Nat) (z : Str), x = .str ⟨#[c]⟩ ∧ y = .str z ∧ Q (decide (c ∈ z.cps.toList))) ∨ (∃ d ds, Dp X.K H x d ∧ Dp X.K H y (.list ds) ∧ SeqAt.shaped d = true ∧ SeqAt.shaped (.list ds) = true ∧ Q (ds.any fun z => PyData.eqv z d)) ∨
    (∃ p xs, y = .ref p ∧ (SqL X.K H p xs ∨ SqT X.K H p xs) ∧ flatV x = true ∧ xs.all flatV = true ∧ Q (inV x xs)) := by
  cases e with
  | str z =>
    cases d with
    | str y' =>
      cases eg
      have e1 := h1.str
      have e2 := h2.str
      subst e1 e2
      exact .inl ⟨_, z, congrArg V.str (str1 hp), rfl, q⟩
    | _ => cases eg
  | list ds =>
    cases eg
    exact .inr (.inl ⟨d, ds, h1.dp (shaped_nd hp.1), h2.dp (shaped_nd hp.2), hp.1, hp.2, q⟩)
  | tuple ds =>
    cases eg
    obtain ⟨a, xs, rfl, s1, n1⟩ := h2.tup
    obtain ⟨i1, i2⟩ := scal_any (h1.sc hp.1) hp.1 n1 hp.2
    exact .inr (.inr ⟨a, xs, rfl, .inr s1.sq, scal_flat (h1.sc hp.1) hp.1, i1, by rw [i2]; exact q⟩)
  | _ => cases eg
theorem op_inY (hu : X.A.units + 65 < cLine) : OpR X (compareOp .In) (rD2 X.K (cmpR .In)) := by
  refine op_cB (g := cmpD .In) fun x y H pn Z d e p b Q h1 h2 eg hp q => ?_
  rcases in_caseY hu (Q := fun b => Q (.bl b) H) h1 h2 eg hp q with h | h | h
  · exact ⟨_, op_in_sign, h⟩
  · exact ⟨_, op_inD hu, h⟩
  · exact ⟨_, op_in_seq, h⟩
theorem op_niY (hu : X.A.units + 65 < cLine) : OpR X (compareOp .NotIn) (rD2 X.K (cmpR .NotIn)) := by
  refine op_cB (g := cmpD .NotIn) fun x y H pn Z d e p b Q h1 h2 eg hp q => ?_
  have eg' : (inD d e).map (fun p => (p.1, !p.2)) = some (p, b) := eg
  cases ei : inD d e with
  | none => rw [ei] at eg'; cases eg'
  | some pb =>
    obtain ⟨p', b'⟩ := pb
    rw [ei] at eg'
    cases eg'
    rcases in_caseY hu (Q := fun b => Q (.bl (!b)) H) h1 h2 ei hp q with h | h | h
    · exact ⟨_, op_notIn_sign, h⟩
    · exact ⟨_, op_notInD hu, h⟩
    · exact ⟨_, op_notIn_seq, h⟩
theorem op_isY : OpR X (compareOp .Is) (rD2 X.K (cmpR .Is)) := by
  refine op_cB (g := cmpD .Is) fun x y H pn Z d e p b Q h1 h2 eg hp q => ?_
  cases e with
  | none =>
    have e2 := h2.non
    subst e2
    refine ⟨_, op_isN, rfl, ?_⟩
    rw [noneD_of h1]
    have : some (True, noneD d) = some (p, b) := eg
    cases this
    exact q
  | _ => cases d <;> cases eg
theorem op_inotY : OpR X (compareOp .IsNot) (rD2 X.K (cmpR .IsNot)) := by
  refine op_cB (g := cmpD .IsNot) fun x y H pn Z d e p b Q h1 h2 eg hp q => ?_
  cases e with
  | none =>
    have e2 := h2.non
    subst e2
    refine ⟨_, op_notN, rfl, ?_⟩
    rw [noneD_of h1]
    have : some (True, !noneD d) = some (p, b) := eg
    cases this
    exact q
  | _ => cases d <;> cases eg
theorem op_cmpY (hu : X.A.units + 65 < cLine) : ∀ o : CmpOp, OpR X (compareOp o) (rD2 X.K (cmpR o))
  | .Eq => op_eqY (by omega)
  | .NotEq => op_neY (by omega)
  | .Lt => op_icY (fun _ _ => rfl) (fun d e => by cases d <;> cases e <;> first | exact .inl rfl | exact .inr ⟨_, _, rfl, rfl⟩) op_lt
  | .LtE => op_icY (fun _ _ => rfl) (fun d e => by cases d <;> cases e <;> first | exact .inl rfl | exact .inr ⟨_, _, rfl, rfl⟩) op_le
  | .Gt => op_icY (fun _ _ => rfl) (fun d e => by cases d <;> cases e <;> first | exact .inl rfl | exact .inr ⟨_, _, rfl, rfl⟩) op_gt
  | .GtE => op_icY (fun _ _ => rfl) (fun d e => by cases d <;> cases e <;> first | exact .inl rfl | exact .inr ⟨_, _, rfl, rfl⟩) op_ge
  | .In => op_inY hu
  | .NotIn => op_niY hu
  | .Is => op_isY
  | .IsNot => op_inotY
/-! ### subscripts, slices -/
theorem IxR.d2 {g : D → D → Rz}
    (h : ∀ (x y : V) (H : Hp) (pn : List Addr) (Z : Addr → Prop) (d e : D) (Q : VK), (∀ a, Z a → H a ≠ none) → Dr X.K pn H Z x d → Dr X.K pn H Z y e → ((g d e).to fun r k => ∀ v H', Same H H' → RX X.K pn H H' Z v r k → Q v H') → ∃ r : R2, IxR X r ∧ r x y H Q) : IxR X (rD2 X.K g) := by
  intro value slice pins s σ H x y v u Q I rx ry q hs
  obtain ⟨pn, Z, d, e, zt, h1, h2, q⟩ := q
  obtain ⟨r, o, q'⟩ := h x y H pn Z d e Q zt h1 h2 q
  exact o value slice pins s σ H x y v u Q I rx ry q' hs
theorem atI_dn {K : PySem.W.Frag} {H : Hp} {Z : Addr → Prop} {xs : List V} {ds : List D} {i : Int} {d : D} (h : DnL K H Z xs ds) (e : atI ds i = some d) : ∃ v, atI xs i = some v ∧ Dn K H Z v d := by
  unfold atI at e ⊢
  rw [h.length]
  cases q : ixN ds.length i with
  | none => rw [q] at e; cases e
  | some j =>
    rw [q] at e
    exact h.get e
theorem ix_Y : IxR X (rD2 X.K ixD) := by
  refine IxR.d2 fun x y H pn Z d e Q zt h1 h2 q => ?_
  cases e with
  | int i =>
    have e2 := h2.int
    subst e2
    cases d with
    | list ds =>
      obtain ⟨a, xs, rfl, s1, n1⟩ := h1.list
      simp only [ixD] at q
      cases eg : atI ds i with
      | none => rw [eg] at q; exact q.elim
      | some d =>
        rw [eg] at q
        obtain ⟨v, e1, n⟩ := atI_dn n1 eg
        exact ⟨_, ix_list, _, _, _, _, rfl, rfl, SqL.of s1, e1, q.2 _ H (same_refl H) n⟩
    | tuple ds =>
      obtain ⟨a, xs, rfl, s1, n1⟩ := h1.tup
      simp only [ixD] at q
      cases eg : atI ds i with
      | none => rw [eg] at q; exact q.elim
      | some d =>
        rw [eg] at q
        obtain ⟨v, e1, n⟩ := atI_dn n1 eg
        exact ⟨_, ix_tup, _, _, _, _, rfl, rfl, s1.sq, e1, q.2 _ H (same_refl H) n⟩
    | str z =>
      have e1 := h1.str
      subst e1
      simp only [ixD] at q
      cases eg : atI z.cps.toList i with
      | none => rw [eg] at q; exact q.elim
      | some c =>
        rw [eg] at q
        exact ⟨_, ix_str, _, _, _, rfl, rfl, q.1, eg, q.2 _ H (same_refl H) (.str _)⟩
    | _ => exact q.elim
  | _ => cases d <;> exact q.elim
def rSlD (K : PySem.W.Frag) : V → Option Int → Option Int → Hp → VK → Prop := fun x lo hi H Q => ∃ pn Z d, (∀ a, Z a → H a ≠ none) ∧ Dr K pn H Z x d ∧ (slD d lo hi).to fun r k => ∀ v H', Same H H' → RX K pn H H' Z v r k → Q v H'
theorem cut_dn {K : PySem.W.Frag} {H : Hp} {Z : Addr → Prop} {xs : List V} {ds : List D} (h : DnL K H Z xs ds) (lo hi : Option Int) : DnL K H Z (cutV xs lo hi) (cutL ds lo hi) := by
  unfold cutV cutL
  rw [h.length]
  exact (h.drop _).take _
theorem sl_Y : SlR X (rSlD X.K) := by
  intro pins s σ H x v vl vu lo hi sl Q I rx hs pl pu h
  obtain ⟨pn, Z, d, zt, h1, q⟩ := h
  cases d with
  | list ds =>
    obtain ⟨a, xs, rfl, s1, n1⟩ := h1.list
    exact sl_list pins s σ H _ v vl vu lo hi sl Q I rx hs pl pu ⟨a, xs, rfl, SqL.of s1, fun p np => q.2 _ _ (M.same_upd np) (rx_lst np (cut_dn n1 lo hi))⟩
  | tuple ds =>
    obtain ⟨a, xs, rfl, s1, n1⟩ := h1.tup
    refine sl_tupA pins s σ H _ v vl vu lo hi sl Q I rx hs pl pu ⟨a, xs, rfl, s1.sq, fun hw => q.2 _ _ (same_refl H) ?_, fun _ p np => q.2 _ _ (M.same_upd np) (rx_tup zt np (cut_dn n1 lo hi))⟩
    have e : cutL ds lo hi = ds := by
      unfold cutL
      rw [n1.length] at hw
      rw [hw.1, hw.2]
      simp
    rw [e]
    exact .tup s1 n1
  | str z =>
    have e1 := h1.str
    subst e1
    exact sl_str pins s σ H _ v vl vu lo hi sl Q I rx hs pl pu ⟨z, rfl, q.1, q.2 _ _ (same_refl H) (.str _)⟩
  | _ => exact q.elim
end
end Y

namespace L2
open PySem PySem.Spec PyProof.Rows
theorem PT.weak {e : Expr} {t t' : TT} {X : Cx} (h : PT X e t) (w : ∀ σ H Q, t' σ H Q → t σ H Q) : PT X e t' := ⟨fun pins s σ H Q I q => h.run pins s σ H Q I (w σ H Q q)⟩
theorem PW.weak {e : Expr} {t t' : TT} {X : Cx} (h : PW X e t) (w : ∀ σ H Q, t' σ H Q → t σ H Q) : PW X e t' := ⟨fun wh pins s σ H Q I q => h.run wh pins s σ H Q I (w σ H Q q)⟩
theorem PO.weak {e : Option Expr} {t t' : TO} {X : Cx} (h : PO X e t) (w : ∀ σ H Q, t' σ H Q → t σ H Q) : PO X e t' := ⟨fun pins s σ H Q I q => h.run pins s σ H Q I (w σ H Q q)⟩
theorem PA.weak {e : List Expr} {t t' : TA} {X : Cx} (h : PA X e t) (w : ∀ σ H Q, t' σ H Q → t σ H Q) : PA X e t' := ⟨fun pos pins s σ H Q I q => h.run pos pins s σ H Q I (w σ H Q q)⟩
end L2
namespace Y
open PySem PySem.Spec PyProof.Rows L2 M
/-! ### expressions by deep values -/
section
variable {X : Cx}
theorem wx_mono {C : Str → Ct} (hC : CMono C) {E : XQ} {e : Ex} : MonoW (wX C E e) := fun ρ Q Q' h q => wX_mono hC e E E ρ Q Q' (fun _ z => z) h q
/-- no value of an exception is wanted -/
abbrev XF : XQ := fun _ => False
/-- a constant -/
theorem y_con {e : Expr} {v : V} {d : D} (h : PE X e (tC v)) (hd : ∀ H Z, Dn X.K H Z v d) : PE X e (tX X.K 0 fun _ Q => Q d .shr) :=
  h.weak fun σ H Q ⟨_, _, _, _, _, _, t, ok, w⟩ => w v H (HStep.refl (ok.bd.less (by omega))) (hd _ _)
theorem y_var {i : Nat} {x : Str} {pos : Pos} (hN : X.N[i]? = some x) (hv : Vis X.env.scope x) (hd : (x == ("__debug__" : Str)) = false) (hcd : (x == ("__classdict__" : Str)) = false) :
    PE X (.Name x pos) (tX X.K 0 fun ρ Q => match ρ[i]? with | some (.val d) => Q d .shr | _ => False) := by
  refine PE.weak (pe_var hN hv hd hcd) fun σ H Q ⟨H0, B, pn, fr, ρ, Z, t, ok, w⟩ => ?_
  dsimp only at w
  split at w
  · rename_i d e
    obtain ⟨v, e1, n⟩ := ok.sl i _ e
    exact ⟨v, e1, w v H (HStep.refl (ok.bd.less (by omega))) n⟩
  · exact w.elim
theorem y_bor {i : Nat} {x : Str} {pos : Pos} (hN : X.N[i]? = some x) (hv : Vis X.env.scope x) (hd : (x == ("__debug__" : Str)) = false) (hcd : (x == ("__classdict__" : Str)) = false) :
    PE X (.Name x pos) (tX X.K 0 fun ρ Q => match ρ[i]? with | some (.val d) => Q d .shr | some (.own d) => Q d .bor | _ => False) := by
  refine PE.weak (pe_var hN hv hd hcd) fun σ H Q ⟨H0, B, pn, fr, ρ, Z, t, ok, w⟩ => ?_
  dsimp only at w
  split at w
  · rename_i d e
    obtain ⟨v, e1, n⟩ := ok.sl i _ e
    exact ⟨v, e1, w v H (HStep.refl (ok.bd.less (by omega))) n⟩
  · rename_i d e
    obtain ⟨a, e1, _, _, h3, h4⟩ := ok.sl i _ e
    exact ⟨.ref a, e1, w _ H (HStep.refl (ok.bd.less (by omega))) ⟨a, rfl, h3, h4⟩⟩
  · exact w.elim
theorem y_bin {ca cb : Nat} {o : Operator} {a b : Expr} {wa wb : En → VQ → Prop} {pos : Pos} (ma : MonoW wa) (mb : MonoW wb) (ha : PE X a (tX X.K ca wa)) (hb : PE X b (tX X.K cb wb)) :
    PE X (.BinOp a o b pos) (tX X.K (ca + cb) fun ρ Q => wa ρ fun x _ => wb ρ fun y _ => (bin o x y).to Q) := (pe_op (op_binD o) ha hb).weak fun _ _ _ h => tX_op ma mb h
theorem y_cmp {ca cb : Nat} (hu : X.A.units + 65 < cLine) {o : CmpOp} {a b : Expr} {wa wb : En → VQ → Prop} {pos : Pos} (hm : behindInMarks o b = false) (ma : MonoW wa) (mb : MonoW wb) (ha : PE X a (tX X.K ca wa)) (hb : PE X b (tX X.K cb wb)) :
    PE X (.Compare a [o] [b] pos) (tX X.K (ca + cb) fun ρ Q => wa ρ fun x _ => wb ρ fun y _ => (cmpR o x y).to Q) := (pe_cmpR (op_cmpY hu o) ha hb hm).weak fun _ _ _ h => tX_op ma mb h
theorem y_ix {ca cb : Nat} {a b : Expr} {wa wb : En → VQ → Prop} {pos : Pos} (hp : PlainIx b) (ma : MonoW wa) (mb : MonoW wb) (ha : PE X a (tX X.K ca wa)) (hb : PE X b (tX X.K cb wb)) :
    PE X (.Subscript a b pos) (tX X.K (ca + cb) fun ρ Q => wa ρ fun x _ => wb ρ fun y _ => (ixD x y).to Q) := (pe_ix ix_Y ha hb hp).weak fun _ _ _ h => tX_op ma mb h
/-- one operand -/
theorem tX_one {K : PySem.W.Frag} {ca : Nat} {wa : En → VQ → Prop} (ma : MonoW wa) {g : D → Kd → VQ → Prop} {σ : L2.St} {H : Hp} {Q : VK} {R : V → Hp → Prop}
    (h : tX K ca (fun ρ Q => wa ρ fun x k => g x k Q) σ H Q)
    (hR : ∀ pn Z x d k H2, (∀ a, Z a → H2 a ≠ none) → Dr K pn H2 Z x d → (k ≠ .bor → Dn K H2 Z x d) → (g d k fun r kd => ∀ v H', Same H2 H' → RX K pn H2 H' Z v r kd → Q v H') → R x H2)
    (mg : ∀ d k Q Q', (∀ r kd, Q r kd → Q' r kd) → g d k Q → g d k Q') : tX K ca wa σ H R := by
  obtain ⟨H0, B, pn, fr, ρ, Z, t, ok, w⟩ := h
  refine ⟨H0, B, pn, fr, ρ, Z, t, ok, ma _ _ _ (fun d k q x H1 s1 r1 => ?_) w⟩
  exact hR pn Z x d k H1 (ok.to s1).zt (r1.dr ok.pnt) (fun hk => r1.dn hk ok.zt) (mg _ _ _ _ (fun r kd z v H' s3 rx => z v H' (s1.trans (HStep.of_same (ok.to s1).bd (ok.to s1).pnt s3)) (rx.back s1)) q)
theorem y_neg {ca : Nat} {a : Expr} {wa : En → VQ → Prop} {pos : Pos} (ma : MonoW wa) (ha : PE X a (tX X.K ca wa)) :
    PE X (.UnaryOp .USub a pos) (tX X.K (ca) fun ρ Q => wa ρ fun x _ => match x with | .int i => Q (.int (-i)) .shr | _ => False) := by
  refine (pe_un un_neg ha).weak fun σ H Q h => ?_
  refine tX_one ma (g := fun x _ Q => match x with | .int i => Q (.int (-i)) .shr | _ => False) h (fun pn Z x d k H2 zt r1 _ q => ?_) fun d k Q Q' h q => ?_
  · split at q
    · exact ⟨_, r1.int, q _ H2 (same_refl H2) (.int _)⟩
    · exact q.elim
  · split at q
    · exact h _ _ q
    · exact q
theorem y_nt {ca : Nat} {a : Expr} {wa : En → VQ → Prop} {pos : Pos} (ma : MonoW wa) (ha : PE X a (tX X.K ca wa)) :
    PE X (.UnaryOp .Not a pos) (tX X.K (ca) fun ρ Q => wa ρ fun x _ => match x with | .bool b => Q (.bool (!b)) .shr | _ => False) := by
  refine (pe_not ha).weak fun σ H Q h => ?_
  refine tX_one ma (g := fun x _ Q => match x with | .bool b => Q (.bool (!b)) .shr | _ => False) h (fun pn Z x d k H2 zt r1 _ q => ?_) fun d k Q Q' h q => ?_
  · split at q
    · exact ⟨_, r1.bl, q _ H2 (same_refl H2) (.bl _)⟩
    · exact q.elim
  · split at q
    · exact h _ _ q
    · exact q
/-- tests -/
abbrev tT (K : PySem.W.Frag) (c : Nat) (w : En → (Bool → Prop) → Prop) : TT := fun σ H Q => ∃ H0 B pn fr ρ Z t, EnvOk K H0 B pn fr Z (c + t) σ ρ H ∧ w ρ fun b => ∀ H', HStep t pn H H' → Q b H'
def MonoT (w : En → (Bool → Prop) → Prop) : Prop := ∀ ρ Q Q', (∀ b, Q b → Q' b) → w ρ Q → w ρ Q'
theorem wt_mono {C : Str → Ct} (hC : CMono C) {E : XQ} {e : Tx} : MonoT (wT C E e) := fun ρ Q Q' h q => wT_mono hC e E E ρ Q Q' (fun _ z => z) h q
theorem tru_Y {K : PySem.W.Frag} {pn : List Addr} {H : Hp} {Z : Addr → Prop} {v : V} {d : D} {p : Prop} {b : Bool} (h : Dr K pn H Z v d) (e : truD d = some (p, b)) (hp : p) : TruV K v H b := by
  cases d with
  | none => cases e; rw [h.non]; exact rfl
  | bool c => cases e; rw [h.bl]; exact rfl
  | int c => cases e; rw [h.int]; exact rfl
  | str c => cases e; rw [h.str]; exact ⟨hp, rfl⟩
  | list ds =>
    cases e
    obtain ⟨a, xs, rfl, s1, n1⟩ := h.list
    exact .inl ⟨xs, SqL.of s1, by rw [n1.isEmpty]⟩
  | tuple ds =>
    cases e
    obtain ⟨a, xs, rfl, s1, n1⟩ := h.tup
    exact .inr (.inl ⟨xs, s1.sq, by rw [n1.isEmpty]⟩)
  | dict _ => cases e
def PlainT (e : Expr) : Prop := ∀ (env : Env) whole, isTrue e env whole = (do let v ← whole; standAt e.pos; holding [v] (truthy v))
theorem t_of {ca : Nat} {e : Expr} {wa : En → VQ → Prop} (ma : MonoW wa) (he : PlainT e) (h : PE X e (tX X.K ca wa)) : PT X e (tT X.K (ca) fun ρ Q => wa ρ fun x _ => match truD x with | some (p, b) => p ∧ Q b | none => False) := by
  refine PT.weak (pt_truth h (he _)) fun σ H Q ⟨H0, B, pn, fr, ρ, Z, t, ok, w⟩ => ?_
  refine ⟨H0, B, pn, fr, ρ, Z, t, ok, ma _ _ _ (fun d k q x H1 s1 r1 => ?_) w⟩
  dsimp only at q
  split at q
  · rename_i p b e
    exact ⟨b, tru_Y (r1.dr ok.pnt) e q.1, q.2 H1 s1⟩
  · exact q.elim
theorem cmpR_bool {o : CmpOp} {x y : D} {Q : VQ} (h : (cmpR o x y).to Q) : ∃ p b, cmpD o x y = some (p, b) ∧ p ∧ Q (.bool b) .shr := by
  unfold cmpR at h
  cases e : cmpD o x y with
  | none => rw [e] at h; exact h.elim
  | some pb => rw [e] at h; exact ⟨pb.1, pb.2, rfl, h.1, h.2⟩
/-- a comparison as a test -/
theorem t_cmp {ca cb : Nat} (hu : X.A.units + 65 < cLine) {o : CmpOp} {a b : Expr} {wa wb : En → VQ → Prop} {pos : Pos} (hm : behindInMarks o b = false) (ma : MonoW wa) (mb : MonoW wb) (ha : PE X a (tX X.K ca wa)) (hb : PE X b (tX X.K cb wb)) :
    PT X (.Compare a [o] [b] pos) (tT X.K (ca + cb) fun ρ Q => wa ρ fun x _ => wb ρ fun y _ => (cmpR o x y).to fun d _ => match truD d with | some (p, b) => p ∧ Q b | none => False) := by
  refine PT.weak (pt_cmpR (op_cmpY hu o) ha hb hm) fun σ H Q ⟨H0, B, pn, fr, ρ, Z, t, ok, w⟩ => ?_
  refine tX_op ma mb (Q := fun x H' => ∃ k, x = .bl k ∧ Q k H') ⟨H0, B, pn, fr, ρ, Z, t, ok, ma _ _ _ (fun d k q => mb _ _ _ (fun e k' q => ?_) q) w⟩
  obtain ⟨p, b, e1, hp, q⟩ := cmpR_bool q
  unfold cmpR
  rw [e1]
  refine ⟨hp, fun v H' s r => ?_⟩
  cases r
  exact ⟨b, rfl, q.2 H' s⟩
theorem t_nt {ca : Nat} {a : Expr} {wa : En → (Bool → Prop) → Prop} {pos : Pos} (h : PT X a (tT X.K ca wa)) : PT X (.UnaryOp .Not a pos) (tT X.K (ca) fun ρ Q => wa ρ fun b => Q (!b)) := by
  refine PT.weak (pt_not h) fun σ H Q ⟨H0, B, pn, fr, ρ, Z, t, ok, w⟩ => ⟨H0, B, pn, fr, ρ, Z, t, ok, w⟩
theorem t_and1 {ca : Nat} {a : Expr} {wa : En → (Bool → Prop) → Prop} {pos : Pos} (h : PT X a (tT X.K ca wa)) : PW X (.BoolOp .And [a] pos) (tT X.K ca wa) := pw_and1 h
theorem t_or1 {ca : Nat} {a : Expr} {wa : En → (Bool → Prop) → Prop} {pos : Pos} (h : PT X a (tT X.K ca wa)) : PW X (.BoolOp .Or [a] pos) (tT X.K ca wa) := pw_or1 h
theorem t_and {ca cb : Nat} {a b : Expr} {rest : List Expr} {wa wb : En → (Bool → Prop) → Prop} {pos : Pos} (ma : MonoT wa) (mb : MonoT wb) (ha : PT X a (tT X.K ca wa)) (hb : PW X (.BoolOp .And (b :: rest) pos) (tT X.K cb wb)) :
    PW X (.BoolOp .And (a :: b :: rest) pos) (tT X.K (ca + cb) fun ρ Q => wa ρ fun c => (c = true → wb ρ Q) ∧ (c = false → Q false)) := by
  refine PW.weak (pw_and ha hb) fun σ H Q ⟨H0, B, pn, fr, ρ, Z, t, ok, w⟩ => ?_
  refine ⟨H0, B, pn, fr, ρ, Z, (cb + t), ok.lt (by omega), ma _ _ _ (fun c q H1 s1 => ?_) w⟩
  cases c with
  | true => exact ⟨H0, B, pn, fr, ρ, Z, _, ok.to s1, mb _ _ _ (fun b z H' s => z H' (s1.trans s)) (q.1 rfl)⟩
  | false => exact q.2 rfl H1 (s1.less (by omega))
theorem t_or {ca cb : Nat} {a b : Expr} {rest : List Expr} {wa wb : En → (Bool → Prop) → Prop} {pos : Pos} (ma : MonoT wa) (mb : MonoT wb) (ha : PT X a (tT X.K ca wa)) (hb : PW X (.BoolOp .Or (b :: rest) pos) (tT X.K cb wb)) :
    PW X (.BoolOp .Or (a :: b :: rest) pos) (tT X.K (ca + cb) fun ρ Q => wa ρ fun c => (c = true → Q true) ∧ (c = false → wb ρ Q)) := by
  refine PW.weak (pw_or ha hb) fun σ H Q ⟨H0, B, pn, fr, ρ, Z, t, ok, w⟩ => ?_
  refine ⟨H0, B, pn, fr, ρ, Z, (cb + t), ok.lt (by omega), ma _ _ _ (fun c q H1 s1 => ?_) w⟩
  cases c with
  | true => exact q.1 rfl H1 (s1.less (by omega))
  | false => exact ⟨H0, B, pn, fr, ρ, Z, _, ok.to s1, mb _ _ _ (fun b z H' s => z H' (s1.trans s)) (q.2 rfl)⟩
/-- and, or as values; a if t else b -/
theorem y_and {ca cb : Nat} {a b : Expr} {rest : List Expr} {wa wb : En → VQ → Prop} {pos : Pos} (ma : MonoW wa) (mb : MonoW wb) (ha : PE X a (tX X.K ca wa)) (hb : PE X (.BoolOp .And (b :: rest) pos) (tX X.K cb wb)) :
    PE X (.BoolOp .And (a :: b :: rest) pos) (tX X.K (ca + cb) fun ρ Q => wa ρ fun x _ => match x with | .bool c => (c = true → wb ρ Q) ∧ (c = false → Q (.bool false) .shr) | _ => False) := by
  refine PE.weak (pe_and ha hb) fun σ H Q ⟨H0, B, pn, fr, ρ, Z, t, ok, w⟩ => ?_
  refine ⟨H0, B, pn, fr, ρ, Z, (cb + t), ok.lt (by omega), ma _ _ _ (fun d k q x H1 s1 r1 => ?_) w⟩
  dsimp only at q
  split at q
  · rename_i c
    refine ⟨c, (r1.dr ok.pnt).bl, ?_⟩
    cases c with
    | true => exact ⟨H0, B, pn, fr, ρ, Z, _, ok.to s1, mb _ _ _ (fun r kd z v H' s rx => z v H' (s1.trans s) (rx.back s1)) (q.1 rfl)⟩
    | false => exact q.2 rfl _ H1 (s1.less (by omega)) (.bl _)
  · exact q.elim
theorem y_or {ca cb : Nat} {a b : Expr} {rest : List Expr} {wa wb : En → VQ → Prop} {pos : Pos} (ma : MonoW wa) (mb : MonoW wb) (ha : PE X a (tX X.K ca wa)) (hb : PE X (.BoolOp .Or (b :: rest) pos) (tX X.K cb wb)) :
    PE X (.BoolOp .Or (a :: b :: rest) pos) (tX X.K (ca + cb) fun ρ Q => wa ρ fun x _ => match x with | .bool c => (c = true → Q (.bool true) .shr) ∧ (c = false → wb ρ Q) | _ => False) := by
  refine PE.weak (pe_or ha hb) fun σ H Q ⟨H0, B, pn, fr, ρ, Z, t, ok, w⟩ => ?_
  refine ⟨H0, B, pn, fr, ρ, Z, (cb + t), ok.lt (by omega), ma _ _ _ (fun d k q x H1 s1 r1 => ?_) w⟩
  dsimp only at q
  split at q
  · rename_i c
    refine ⟨c, (r1.dr ok.pnt).bl, ?_⟩
    cases c with
    | true => exact q.1 rfl _ H1 (s1.less (by omega)) (.bl _)
    | false => exact ⟨H0, B, pn, fr, ρ, Z, _, ok.to s1, mb _ _ _ (fun r kd z v H' s rx => z v H' (s1.trans s) (rx.back s1)) (q.2 rfl)⟩
  · exact q.elim
theorem y_ite {cc ca cb : Nat} {c a b : Expr} {wc : En → (Bool → Prop) → Prop} {wa wb : En → VQ → Prop} {pos : Pos} (mc : MonoT wc) (ma : MonoW wa) (mb : MonoW wb) (hc : PT X c (tT X.K cc wc)) (ha : PE X a (tX X.K ca wa)) (hb : PE X b (tX X.K cb wb)) :
    PE X (.IfExp c a b pos) (tX X.K (cc + ca + cb) fun ρ Q => wc ρ fun t => (t = true → wa ρ Q) ∧ (t = false → wb ρ Q)) := by
  refine PE.weak (pe_ifExp hc ha hb) fun σ H Q ⟨H0, B, pn, fr, ρ, Z, t, ok, w⟩ => ?_
  refine ⟨H0, B, pn, fr, ρ, Z, (ca + (cb + t)), ok.lt (by omega), mc _ _ _ (fun c q H1 s1 => ?_) w⟩
  cases c with
  | true => exact ⟨H0, B, pn, fr, ρ, Z, t, (ok.to s1).lt (by omega), ma _ _ _ (fun r kd z v H' s rx => z v H' (s1.trans s) (rx.back s1)) (q.1 rfl)⟩
  | false => exact ⟨H0, B, pn, fr, ρ, Z, t, (ok.to s1).lt (by omega), mb _ _ _ (fun r kd z v H' s rx => z v H' (s1.trans s) (rx.back s1)) (q.2 rfl)⟩
/-- a < b < c -/
theorem y_chn {ca cb cc : Nat} (hu : X.A.units + 65 < cLine) {o o' : CmpOp} {a b c : Expr} {wa wb wc : En → VQ → Prop} {pos : Pos} (hm : lastMarks [o, o'] [b, c] = false) (ma : MonoW wa) (mb : MonoW wb) (mc : MonoW wc)
    (ha : PE X a (tX X.K ca wa)) (hb : PE X b (tX X.K cb wb)) (hc : PE X c (tX X.K cc wc)) :
    PE X (.Compare a [o, o'] [b, c] pos) (tX X.K (ca + cb + cc) fun ρ Q => wa ρ fun x _ => wb ρ fun y _ => match cmpD o x y with
      | some (p, r) => p ∧ (r = true → wc ρ fun z _ => (cmpR o' y z).to Q) ∧ (r = false → Q (.bool false) .shr)
      | none => False) := by
  refine PE.weak (pe_chain (op_cmpY hu o) (op_cmpY hu o') ha hb hc hm) fun σ H Q ⟨H0, B, pn, fr, ρ, Z, t, ok, w⟩ => ?_
  refine ⟨H0, B, pn, fr, ρ, Z, (cb + (cc + t)), ok.lt (by omega), ma _ _ _ (fun d k q x H1 s1 r1 => ⟨H0, B, pn, fr, ρ, Z, _, ok.to s1, mb _ _ _ (fun e k' q y H2 s2 r2 => ?_) q⟩) w⟩
  have ok1 := ok.to s1
  have ok2 := ok1.to s2
  dsimp only at q
  split at q
  · rename_i p r e1
    refine ⟨pn, Z, d, e, ok2.zt, (r1.dr ok.pnt).step s2 ok.pnz, r2.dr ok1.pnt, ?_⟩
    unfold cmpR
    rw [e1]
    refine ⟨q.1, fun v H3 s3 r3 => ?_⟩
    cases r3
    have s3' : HStep (cc + t) pn H2 H3 := HStep.of_same ok2.bd ok2.pnt s3
    refine ⟨r, rfl, ?_⟩
    cases r with
    | false => exact q.2.2 rfl _ H3 (((s1.trans s2).trans s3').less (by omega)) (.bl _)
    | true =>
      refine ⟨H0, B, pn, fr, ρ, Z, _, ok2.to s3', mc _ _ _ (fun f k3 q3 z H4 s4 r4 => ?_) (q.2.1 rfl)⟩
      refine ⟨pn, Z, e, f, ((ok2.to s3').to s4).zt, ((r2.dr ok1.pnt).step s3' ok.pnz).step s4 ok.pnz, r4.dr (ok2.to s3').pnt, Rz.mono (fun r kd z v H' s rx => z v H' ((((s1.trans s2).trans s3').trans s4).trans (HStep.of_same ((ok2.to s3').to s4).bd ((ok2.to s3').to s4).pnt s)) (rx.back (((s1.trans s2).trans s3').trans s4))) q3⟩
  · exact q.elim
/-- a slice -/
abbrev tO (K : PySem.W.Frag) (c : Nat) (w : En → (Option Int → Prop) → Prop) : TO := fun σ H Q => ∃ H0 B pn fr ρ Z t, EnvOk K H0 B pn fr Z (c + t) σ ρ H ∧ w ρ fun b => ∀ H', HStep t pn H H' → Q b H'
def MonoO (w : En → (Option Int → Prop) → Prop) : Prop := ∀ ρ Q Q', (∀ b, Q b → Q' b) → w ρ Q → w ρ Q'
theorem wo_mono {C : Str → Ct} (hC : CMono C) {E : XQ} {e : Ox} : MonoO (wO C E e) := fun ρ Q Q' h q => wO_mono hC e E E ρ Q Q' (fun _ z => z) h q
theorem o_no : PO X none (tO X.K 0 fun _ Q => Q none) := PO.weak po_none fun σ H Q ⟨_, _, _, _, _, _, t, ok, w⟩ => w H (HStep.refl (ok.bd.less (by omega)))
theorem o_so {ca : Nat} {e : Expr} {wa : En → VQ → Prop} (ma : MonoW wa) (h : PE X e (tX X.K ca wa)) : PO X (some e) (tO X.K (ca) fun ρ Q => wa ρ fun x _ => match x with | .int i => Q (some i) | _ => False) := by
  refine PO.weak (po_some h) fun σ H Q ⟨H0, B, pn, fr, ρ, Z, t, ok, w⟩ => ⟨H0, B, pn, fr, ρ, Z, t, ok, ma _ _ _ (fun d k q x H1 s1 r1 => ?_) w⟩
  dsimp only at q
  split at q
  · exact ⟨_, (r1.dr ok.pnt).int, q H1 s1⟩
  · exact q.elim
theorem y_sl {ca cl ch : Nat} {a : Expr} {lo hi : Option Expr} {wa : En → VQ → Prop} {wl wh : En → (Option Int → Prop) → Prop} {p pos : Pos} (ma : MonoW wa) (ml : MonoO wl) (mh : MonoO wh) (ha : PE X a (tX X.K ca wa)) (hl : PO X lo (tO X.K cl wl)) (hh : PO X hi (tO X.K ch wh)) :
    PE X (.Subscript a (.Slice lo hi none p) pos) (tX X.K (ca + cl + ch) fun ρ Q => wa ρ fun x _ => wl ρ fun l => wh ρ fun h => (slD x l h).to Q) := by
  refine PE.weak (pe_slice sl_Y ha hl hh) fun σ H Q ⟨H0, B, pn, fr, ρ, Z, t, ok, w⟩ => ?_
  refine ⟨H0, B, pn, fr, ρ, Z, (cl + (ch + t)), ok.lt (by omega), ma _ _ _ (fun d k q x H1 s1 r1 => ⟨H0, B, pn, fr, ρ, Z, _, ok.to s1, ml _ _ _ (fun l q H2 s2 => ⟨H0, B, pn, fr, ρ, Z, _, (ok.to s1).to s2, mh _ _ _ (fun u q H3 s3 => ?_) q⟩) q⟩) w⟩
  refine ⟨pn, Z, d, (((ok.to s1).to s2).to s3).zt, ((r1.dr ok.pnt).step s2 ok.pnz).step s3 ok.pnz, Rz.mono (fun r kd z v H' s rx => z v H' (((s1.trans s2).trans s3).trans (HStep.of_same (((ok.to s1).to s2).to s3).bd (((ok.to s1).to s2).to s3).pnt s)) (rx.back ((s1.trans s2).trans s3))) q⟩
/-- items of displays; arguments of built-ins -/
abbrev tA (K : PySem.W.Frag) (b : Bool) (c : Nat) (w : En → (List D → Prop) → Prop) : TA := fun σ H Q => ∃ H0 B pn fr ρ Z t, EnvOk K H0 B pn fr Z (c + t) σ ρ H ∧ w ρ fun ds => ∀ vs H', HStep t pn H H' → ArL K b pn H' Z vs ds → Q vs H'
where ArL (K : PySem.W.Frag) (b : Bool) (pn : List Addr) (H : Hp) (Z : Addr → Prop) : List V → List D → Prop
  | [], [] => True
  | v :: vs, d :: ds => (if b then Dn K H Z v d else Dr K pn H Z v d) ∧ ArL K b pn H Z vs ds
  | _, _ => False
def MonoL (w : En → (List D → Prop) → Prop) : Prop := ∀ ρ Q Q', (∀ b, Q b → Q' b) → w ρ Q → w ρ Q'
theorem a_nil {b : Bool} : PA X [] (tA X.K b 0 fun _ Q => Q []) := PA.weak pa_nil fun σ H Q ⟨_, _, _, _, _, _, t, ok, w⟩ => w [] H (HStep.refl (ok.bd.less (by omega))) trivial
theorem a_consT {ca cs : Nat} {e : Expr} {es : List Expr} {wa : En → VQ → Prop} {ws : En → (List D → Prop) → Prop} (hs : starEach (e :: es) X.env = (false, eval e X.env) :: starEach es X.env) (ma : MonoW wa) (ms : MonoL ws) (ha : PE X e (tX X.K ca wa)) (hb : PA X es (tA X.K true cs ws)) :
    PA X (e :: es) (tA X.K true (ca + cs) fun ρ Q => wa ρ fun x k => k ≠ .bor ∧ ws ρ fun xs => Q (x :: xs)) := by
  refine PA.weak (pa_cons ha hb hs) fun σ H Q ⟨H0, B, pn, fr, ρ, Z, t, ok, w⟩ => ?_
  refine ⟨H0, B, pn, fr, ρ, Z, (cs + t), ok.lt (by omega), ma _ _ _ (fun d k q0 x H1 s1 r1 => ⟨H0, B, pn, fr, ρ, Z, _, ok.to s1, ms _ _ _ (fun ds q vs H2 s2 r2 => ?_) q0.2⟩) w⟩
  exact q (x :: vs) H2 (s1.trans s2) ⟨Dn.keep (keepZ s2 ok.pnz) (fun b z => .inl z) _ _ (r1.dn q0.1 ok.zt), r2⟩
theorem a_consF {ca cs : Nat} {e : Expr} {es : List Expr} {wa : En → VQ → Prop} {ws : En → (List D → Prop) → Prop} (hs : starEach (e :: es) X.env = (false, eval e X.env) :: starEach es X.env) (ma : MonoW wa) (ms : MonoL ws) (ha : PE X e (tX X.K ca wa)) (hb : PA X es (tA X.K false cs ws)) :
    PA X (e :: es) (tA X.K false (ca + cs) fun ρ Q => wa ρ fun x _ => ws ρ fun xs => Q (x :: xs)) := by
  refine PA.weak (pa_cons ha hb hs) fun σ H Q ⟨H0, B, pn, fr, ρ, Z, t, ok, w⟩ => ?_
  refine ⟨H0, B, pn, fr, ρ, Z, (cs + t), ok.lt (by omega), ma _ _ _ (fun d k q x H1 s1 r1 => ⟨H0, B, pn, fr, ρ, Z, _, ok.to s1, ms _ _ _ (fun ds q vs H2 s2 r2 => ?_) q⟩) w⟩
  exact q (x :: vs) H2 (s1.trans s2) ⟨(r1.dr ok.pnt).step s2 ok.pnz, r2⟩
end
end Y

namespace Y
open PySem PySem.Spec PyProof.Rows L2 M
/-! ### repr of data (no dicts) -/
def rRepr (K : PySem.W.Frag) : List V → Hp → VK → Prop := fun xs H Q => ∃ x d, xs = [x] ∧ Dp K H x d ∧ d.hasDict = false ∧ d.showable = true ∧ d.shown.length ≤ sizeLine ∧ d.depth ≤ 64 ∧ Q (.str d.shown) H
section
variable {X : Cx} {j : Nat}
theorem call_repr (hg : X.A.guards = some []) (hr : Room j X.A) : CallR X (.builtin "repr") (rRepr X.K) := by
  intro pins s σ H xs us Q I r h
  obtain ⟨x, d, rfl, dp, nd, show1, size, deep, q⟩ := h
  obtain ⟨u, rfl, ru⟩ := vals1 r
  cases dp with
  | non =>
    cases (show u = Value.none from ru)
    exact PySem.P.repr_of_none ⟨.str _, H, I.tok _, ⟨_, rfl⟩, by simpa [PyData.shown] using q⟩
  | bl b =>
    cases (show u = Value.bool b from ru)
    exact PySem.P.repr_of_bool ⟨.str _, H, I.tok _, ⟨_, rfl⟩, by simpa [PyData.shown] using q⟩
  | int i =>
    obtain ⟨t, rfl⟩ := ru
    exact PySem.P.repr_of_int (by simpa [PyData.showable] using show1) ⟨.str _, H, I.tok _, ⟨_, rfl⟩, by simpa [PyData.shown] using q⟩
  | str z =>
    obtain ⟨t, rfl⟩ := ru
    exact PySem.P.repr_of_str ⟨.str _, H, I.tok _, ⟨_, rfl⟩, by simpa [PyData.shown] using q⟩ (by simpa [PyData.shown] using size)
  | @lst a ys ds hs ha =>
    cases (show u = Value.ref a from ru)
    obtain ⟨as, rd⟩ := Dp.reads I _ _ _ (Dp.lst hs ha) (show RelV (.ref a) (Value.ref a) from rfl)
    exact repr_of_reads' rd show1 (fun z => by rw [nd] at z; cases z) hg (by have := hr.un; omega) (fun _ _ z => z) (fun h' u tk k => ⟨.str _, H, I.kept k, ⟨_, rfl⟩, q⟩) size
  | @tup a ys ds hs ha =>
    cases (show u = Value.ref a from ru)
    obtain ⟨as, rd⟩ := Dp.reads I _ _ _ (Dp.tup hs ha) (show RelV (.ref a) (Value.ref a) from rfl)
    exact repr_of_reads' rd show1 (fun z => by rw [nd] at z; cases z) hg (by have := hr.un; omega) (fun _ _ z => z) (fun h' u tk k => ⟨.str _, H, I.kept k, ⟨_, rfl⟩, q⟩) size
/-! ### displays -/
theorem arl_dn {K : PySem.W.Frag} {pn : List Addr} {H : Hp} {Z : Addr → Prop} : ∀ {vs : List V} {ds : List D}, tA.ArL K true pn H Z vs ds → DnL K H Z vs ds
  | [], [], _ => .nil
  | v :: vs, d :: ds, h => .cons h.1 (arl_dn h.2)
  | [], _ :: _, h => h.elim
  | _ :: _, [], h => h.elim
theorem y_tup {cs : Nat} {es : List Expr} {ws : En → (List D → Prop) → Prop} {k : Nat} {pos : Pos} (ms : MonoL ws) (hl : ∀ ρ Q, ws ρ Q → ws ρ fun ds => ds.length ≤ sizeLine ∧ Q ds) (h : PA X es (tA X.K true cs ws)) :
    PE X (.Tuple es k pos) (tX X.K (cs) fun ρ Q => ws ρ fun ds => Q (.tuple ds) .shr) := by
  refine PE.weak (pe_tup h) fun σ H Q ⟨H0, B, pn, fr, ρ, Z, tb, ok, w⟩ => ⟨H0, B, pn, fr, ρ, Z, tb, ok, ms _ _ _ (fun ds q vs H1 s1 r1 => ?_) (hl _ _ w)⟩
  have n := arl_dn r1
  exact ⟨by rw [n.length]; exact q.1, fun p np => q.2 _ _ (s1.trans ((ok.to s1).ss (M.same_upd np))) (rx_tup (pn := pn) (ok.to s1).zt np n)⟩
theorem y_lst {cs : Nat} {es : List Expr} {ws : En → (List D → Prop) → Prop} {pos : Pos} (ms : MonoL ws) (hl : ∀ ρ Q, ws ρ Q → ws ρ fun ds => ds.length ≤ sizeLine ∧ Q ds) (h : PA X es (tA X.K true cs ws)) :
    PE X (.List es pos) (tX X.K (cs) fun ρ Q => ws ρ fun ds => Q (.list ds) .own) := by
  refine PE.weak (pe_lst h) fun σ H Q ⟨H0, B, pn, fr, ρ, Z, tb, ok, w⟩ => ⟨H0, B, pn, fr, ρ, Z, tb, ok, ms _ _ _ (fun ds q vs H1 s1 r1 => ?_) (hl _ _ w)⟩
  have n := arl_dn r1
  exact ⟨by rw [n.length]; exact q.1, fun p np => q.2 _ _ (s1.trans ((ok.to s1).ss (M.same_upd np))) (RX.back (rx_lst (pn := pn) np n) s1)⟩
/-! ### built-ins -/
def rB (K : PySem.W.Frag) (b : Bt) : List V → Hp → VK → Prop := fun xs H Q => ∃ pn Z ds, (∀ a, Z a → H a ≠ none) ∧ tA.ArL K false pn H Z xs ds ∧ (btD b ds).to fun r k => ∀ v H', Same H H' → RX K pn H H' Z v r k → Q v H'
theorem CallR.d {f : Value} {b : Bt}
    (h : ∀ (xs : List V) (H : Hp) (pn : List Addr) (Z : Addr → Prop) (ds : List D) (Q : VK), (∀ a, Z a → H a ≠ none) → tA.ArL X.K false pn H Z xs ds → ((btD b ds).to fun r k => ∀ v H', Same H H' → RX X.K pn H H' Z v r k → Q v H') → ∃ r, CallR X f r ∧ r xs H Q) : CallR X f (rB X.K b) := by
  intro pins s σ H xs us Q I r q
  obtain ⟨pn, Z, ds, zt, h1, q⟩ := q
  obtain ⟨r', o, q'⟩ := h xs H pn Z ds Q zt h1 q
  exact o pins s σ H xs us Q I r q'
theorem arl1 {K : PySem.W.Frag} {pn : List Addr} {H : Hp} {Z : Addr → Prop} {vs : List V} {d : D} (h : tA.ArL K false pn H Z vs [d]) : ∃ v, vs = [v] ∧ Dr K pn H Z v d := by
  match vs, h with
  | [v], h => exact ⟨v, rfl, h.1⟩
  | [], h => exact h.elim
  | _ :: _ :: _, h => exact h.2.elim
theorem arl2 {K : PySem.W.Frag} {pn : List Addr} {H : Hp} {Z : Addr → Prop} {vs : List V} {d e : D} (h : tA.ArL K false pn H Z vs [d, e]) : ∃ v w, vs = [v, w] ∧ Dr K pn H Z v d ∧ Dr K pn H Z w e := by
  match vs, h with
  | [v, w], h => exact ⟨v, w, rfl, h.1, h.2.1⟩
  | [], h => exact h.elim
  | [_], h => exact h.2.elim
  | _ :: _ :: _ :: _, h => exact h.2.2.elim
theorem ints_vals {K : PySem.W.Frag} {H : Hp} {Z : Addr → Prop} : ∀ {xs : List V} {ds : List D} {l : List Int}, DnL K H Z xs ds → intsD ds = some l → xs = l.map V.int
  | _, [], l, h, e => by cases h; cases e; rfl
  | _, d :: ds, l, h, e => by
    cases h with
    | cons a b =>
      cases d <;> first
        | (simp [intsD] at e; done)
        | (simp only [intsD] at e
           cases q : intsD ds with
           | none => rw [q] at e; cases e
           | some l' =>
             rw [q] at e
             cases e
             cases a
             rw [ints_vals b q]
             rfl)
theorem bools_vals {K : PySem.W.Frag} {H : Hp} {Z : Addr → Prop} : ∀ {xs : List V} {ds : List D} {l : List Bool}, DnL K H Z xs ds → boolsD ds = some l → xs = l.map V.bl
  | _, [], l, h, e => by cases h; cases e; rfl
  | _, d :: ds, l, h, e => by
    cases h with
    | cons a b =>
      cases d <;> first
        | (simp [boolsD] at e; done)
        | (simp only [boolsD] at e
           cases q : boolsD ds with
           | none => rw [q] at e; cases e
           | some l' =>
             rw [q] at e
             cases e
             cases a
             rw [bools_vals b q]
             rfl)
theorem strs_vals {K : PySem.W.Frag} {H : Hp} {Z : Addr → Prop} : ∀ {xs : List V} {ds : List D} {l : List Str}, DnL K H Z xs ds → strsD ds = some l → xs = l.map V.str
  | _, [], l, h, e => by cases h; cases e; rfl
  | _, d :: ds, l, h, e => by
    cases h with
    | cons a b =>
      cases d <;> first
        | (simp [strsD] at e; done)
        | (simp only [strsD] at e
           cases q : strsD ds with
           | none => rw [q] at e; cases e
           | some l' =>
             rw [q] at e
             cases e
             cases a
             rw [strs_vals b q]
             rfl)
/-- the built-in behind a word -/
def bval : Bt → Value
  | .len => .builtin "len" | .abs => .builtin "abs" | .min2 => .builtin "min" | .max2 => .builtin "max" | .min1 => .builtin "min" | .max1 => .builtin "max"
  | .sum => .builtin "sum" | .any => .builtin "any" | .all => .builtin "all" | .isi _ => .builtin "isinstance" | .repr => .builtin "repr" | .sorted => .builtin "sorted"
  | .int => .type "int" | .str => .type "str" | .list => .type "list" | .tuple => .type "tuple" | .bool => .type "bool"
theorem call_len_Y : CallR X (.builtin "len") (rB X.K .len) := by
  refine CallR.d fun xs H pn Z ds Q zt h q => ?_
  match ds, h, q with
  | [.str z], h, q =>
    obtain ⟨v, rfl, h9⟩ := arl1 h
    rw [h9.str]
    exact ⟨_, call_len_str, z, rfl, q.1, q.2 _ H (same_refl H) (.int _)⟩
  | [.list ds], h, q =>
    obtain ⟨v, rfl, h9⟩ := arl1 h
    obtain ⟨a, ys, rfl, s1, n1⟩ := h9.list
    exact ⟨_, call_len_seq, a, ys, rfl, .inl (SqL.of s1), q.2 _ H (same_refl H) (by rw [n1.length]; exact .int _)⟩
  | [.tuple ds], h, q =>
    obtain ⟨v, rfl, h9⟩ := arl1 h
    obtain ⟨a, ys, rfl, s1, n1⟩ := h9.tup
    exact ⟨_, call_len_seq, a, ys, rfl, .inr s1.sq, q.2 _ H (same_refl H) (by rw [n1.length]; exact .int _)⟩
  | [], _, q | [.none], _, q | [.bool _], _, q | [.int _], _, q | [.dict _], _, q => exact q.elim
  | d :: _ :: _, _, q => cases d <;> exact q.elim
theorem call_int1_Y {f : Value} {b : Bt} {g : Int → D} {gv : Int → V} (hb : ∀ i, btD b [.int i] = some (True, g i, .shr)) (hn : ∀ ds, btD b ds = none ∨ ∃ i : Int, ds = [.int i]) (hv : ∀ i H Z, Dn X.K H Z (gv i) (g i))
    (h : CallR X f fun xs H Q => ∃ i, xs = [.int i] ∧ Q (gv i) H) : CallR X f (rB X.K b) := by
  refine CallR.d fun xs H pn Z ds Q zt h1 q => ?_
  rcases hn ds with e | ⟨i, rfl⟩
  · rw [e] at q; exact q.elim
  · rw [hb] at q
    obtain ⟨v, rfl, h9⟩ := arl1 h1
    rw [h9.int]
    exact ⟨_, h, i, rfl, q.2 _ H (same_refl H) (hv _ _ _)⟩
theorem call_int2_Y {f : Value} {b : Bt} {g : Int → Int → Int} (hb : ∀ i j, btD b [.int i, .int j] = some (True, .int (g i j), .shr)) (hn : ∀ ds, btD b ds = none ∨ ∃ i j : Int, ds = [.int i, .int j])
    (h : CallR X f fun xs H Q => ∃ i j, xs = [.int i, .int j] ∧ Q (.int (g i j)) H) : CallR X f (rB X.K b) := by
  refine CallR.d fun xs H pn Z ds Q zt h1 q => ?_
  rcases hn ds with e | ⟨i, j, rfl⟩
  · rw [e] at q; exact q.elim
  · rw [hb] at q
    obtain ⟨v, w, rfl, h8, h9⟩ := arl2 h1
    rw [h8.int, h9.int]
    exact ⟨_, h, i, j, rfl, q.2 _ H (same_refl H) (.int _)⟩
theorem call_sum_Y (hc : X.calm = true) : CallR X (.builtin "sum") (rB X.K .sum) := by
  refine CallR.d fun xs H pn Z ds Q zt h q => ?_
  match ds, h, q with
  | [.list ds], h, q =>
    obtain ⟨v, rfl, h9⟩ := arl1 h
    obtain ⟨a, ys, rfl, s1, n1⟩ := h9.list
    simp only [btD] at q
    cases e : intsD ds with
    | none => rw [e] at q; exact q.elim
    | some l =>
      rw [e] at q
      have ev := ints_vals n1 e
      subst ev
      exact ⟨_, cr_sum hc, a, l, rfl, SqL.of s1, q.2 _ H (same_refl H) (.int _)⟩
  | [], _, q | [.none], _, q | [.bool _], _, q | [.int _], _, q | [.str _], _, q | [.tuple _], _, q | [.dict _], _, q => exact q.elim
  | d :: _ :: _, _, q => cases d <;> exact q.elim
theorem call_any_Y (hc : X.calm = true) : CallR X (.builtin "any") (rB X.K .any) := by
  refine CallR.d fun xs H pn Z ds Q zt h q => ?_
  match ds, h, q with
  | [.list ds], h, q =>
    obtain ⟨v, rfl, h9⟩ := arl1 h
    obtain ⟨a, ys, rfl, s1, n1⟩ := h9.list
    simp only [btD] at q
    cases e : boolsD ds with
    | none => rw [e] at q; exact q.elim
    | some l =>
      rw [e] at q
      have ev := bools_vals n1 e
      subst ev
      exact ⟨_, cr_any hc, a, l, rfl, SqL.of s1, q.2 _ H (same_refl H) (.bl _)⟩
  | [], _, q | [.none], _, q | [.bool _], _, q | [.int _], _, q | [.str _], _, q | [.tuple _], _, q | [.dict _], _, q => exact q.elim
  | d :: _ :: _, _, q => cases d <;> exact q.elim
theorem call_all_Y (hc : X.calm = true) : CallR X (.builtin "all") (rB X.K .all) := by
  refine CallR.d fun xs H pn Z ds Q zt h q => ?_
  match ds, h, q with
  | [.list ds], h, q =>
    obtain ⟨v, rfl, h9⟩ := arl1 h
    obtain ⟨a, ys, rfl, s1, n1⟩ := h9.list
    simp only [btD] at q
    cases e : boolsD ds with
    | none => rw [e] at q; exact q.elim
    | some l =>
      rw [e] at q
      have ev := bools_vals n1 e
      subst ev
      exact ⟨_, cr_all hc, a, l, rfl, SqL.of s1, q.2 _ H (same_refl H) (.bl _)⟩
  | [], _, q | [.none], _, q | [.bool _], _, q | [.int _], _, q | [.str _], _, q | [.tuple _], _, q | [.dict _], _, q => exact q.elim
  | d :: _ :: _, _, q => cases d <;> exact q.elim
theorem call_repr_Y (hg : X.A.guards = some []) (hr : Room j X.A) : CallR X (.builtin "repr") (rB X.K .repr) := by
  refine CallR.d fun xs H pn Z ds Q zt h q => ?_
  match ds, h, q with
  | [d], h, q =>
    obtain ⟨v, rfl, h9⟩ := arl1 h
    obtain ⟨⟨q1, q2, q3, q4⟩, q5⟩ := q
    exact ⟨_, call_repr hg hr, v, d, rfl, h9.dp q1, q1, q2, q3, q4, q5 _ H (same_refl H) (.str _)⟩
  | [], _, q | _ :: _ :: _, _, q => exact q.elim
theorem call_tint_Y : CallR X (.type "int") (rB X.K .int) := by
  refine CallR.d fun xs H pn Z ds Q zt h q => ?_
  match ds, h, q with
  | [.int i], h, q =>
    obtain ⟨v, rfl, h9⟩ := arl1 h
    rw [h9.int]
    exact ⟨_, call_int1, .inl ⟨i, rfl, q.2 _ H (same_refl H) (.int _)⟩⟩
  | [.bool i], h, q =>
    obtain ⟨v, rfl, h9⟩ := arl1 h
    rw [h9.bl]
    exact ⟨_, call_int1, .inr ⟨i, rfl, q.2 _ H (same_refl H) (.int _)⟩⟩
  | [], _, q | [.none], _, q | [.str _], _, q | [.list _], _, q | [.tuple _], _, q | [.dict _], _, q => exact q.elim
  | d :: _ :: _, _, q => cases d <;> exact q.elim
theorem call_tstr_Y : CallR X (.type "str") (rB X.K .str) := by
  refine CallR.d fun xs H pn Z ds Q zt h q => ?_
  match ds, h, q with
  | [.int i], h, q =>
    obtain ⟨v, rfl, h9⟩ := arl1 h
    rw [h9.int]
    exact ⟨_, call_str_int, i, rfl, q.1, q.2 _ H (same_refl H) (.str _)⟩
  | [], _, q | [.none], _, q | [.bool _], _, q | [.str _], _, q | [.list _], _, q | [.tuple _], _, q | [.dict _], _, q => exact q.elim
  | d :: _ :: _, _, q => cases d <;> exact q.elim
theorem call_tlist_Y : CallR X (.type "list") (rB X.K .list) := by
  refine CallR.d fun xs H pn Z ds Q zt h q => ?_
  match ds, h, q with
  | [.list ds], h, q =>
    obtain ⟨v, rfl, h9⟩ := arl1 h
    obtain ⟨a, ys, rfl, s1, n1⟩ := h9.list
    exact ⟨_, call_list_of, a, ys, rfl, .inl (SqL.of s1), fun p np => q.2 _ _ (M.same_upd np) (rx_lst np n1)⟩
  | [.tuple ds], h, q =>
    obtain ⟨v, rfl, h9⟩ := arl1 h
    obtain ⟨a, ys, rfl, s1, n1⟩ := h9.tup
    exact ⟨_, call_list_of, a, ys, rfl, .inr s1.sq, fun p np => q.2 _ _ (M.same_upd np) (rx_lst np n1)⟩
  | [], _, q | [.none], _, q | [.bool _], _, q | [.int _], _, q | [.str _], _, q | [.dict _], _, q => exact q.elim
  | d :: _ :: _, _, q => cases d <;> exact q.elim
theorem call_ttuple_Y : CallR X (.type "tuple") (rB X.K .tuple) := by
  refine CallR.d fun xs H pn Z ds Q zt h q => ?_
  match ds, h, q with
  | [.list ds], h, q =>
    obtain ⟨v, rfl, h9⟩ := arl1 h
    obtain ⟨a, ys, rfl, s1, n1⟩ := h9.list
    exact ⟨_, call_tuple_of, a, ys, rfl, .inl ⟨SqL.of s1, fun p np => q.2 _ _ (M.same_upd np) (rx_tup zt np n1)⟩⟩
  | [.tuple ds], h, q =>
    obtain ⟨v, rfl, h9⟩ := arl1 h
    obtain ⟨a, ys, rfl, s1, n1⟩ := h9.tup
    exact ⟨_, call_tuple_of, a, ys, rfl, .inr ⟨s1.sq, q.2 _ _ (same_refl H) (.tup s1 n1)⟩⟩
  | [], _, q | [.none], _, q | [.bool _], _, q | [.int _], _, q | [.str _], _, q | [.dict _], _, q => exact q.elim
  | d :: _ :: _, _, q => cases d <;> exact q.elim
theorem call_none_Y {f : Value} {b : Bt} (h : ∀ ds, btD b ds = none) : CallR X f (rB X.K b) := CallR.d fun xs H pn Z ds Q zt h1 q => by rw [h] at q; exact q.elim
def plainB : Bt → Bool | .isi _ => false | _ => true
theorem call_Y (hc : X.calm = true) (hg : X.A.guards = some []) (hr : Room j X.A) : ∀ b : Bt, plainB b = true → CallR X (bval b) (rB X.K b)
  | .len, _ => call_len_Y
  | .abs, _ => call_int1_Y (gv := fun i => .int (if i < 0 then -i else i)) (fun _ => rfl) (fun ds => by rcases ds with _ | ⟨d, _ | _⟩ <;> first | exact .inl rfl | (cases d <;> first | exact .inl rfl | exact .inr ⟨_, rfl⟩)) (fun _ _ _ => .int _) call_abs
  | .min2, _ => call_int2_Y (fun _ _ => rfl) (fun ds => by rcases ds with _ | ⟨d, _ | ⟨e, _ | _⟩⟩ <;> first | exact .inl rfl | (cases d <;> first | exact .inl rfl | (cases e <;> first | exact .inl rfl | exact .inr ⟨_, _, rfl⟩))) (call_min2 hc)
  | .max2, _ => call_int2_Y (fun _ _ => rfl) (fun ds => by rcases ds with _ | ⟨d, _ | ⟨e, _ | _⟩⟩ <;> first | exact .inl rfl | (cases d <;> first | exact .inl rfl | (cases e <;> first | exact .inl rfl | exact .inr ⟨_, _, rfl⟩))) (call_max2 hc)
  | .sum, _ => call_sum_Y hc
  | .any, _ => call_any_Y hc
  | .all, _ => call_all_Y hc
  | .repr, _ => call_repr_Y hg hr
  | .int, _ => call_tint_Y
  | .str, _ => call_tstr_Y
  | .list, _ => call_tlist_Y
  | .tuple, _ => call_ttuple_Y
  | .sorted, _ | .bool, _ | .min1, _ | .max1, _ => call_none_Y fun ds => by rcases ds with _ | ⟨d, _ | _⟩ <;> first | rfl | (cases d <;> rfl)
  | .isi _, h => nomatch h
theorem tA_call {cs : Nat} {ws : En → (List D → Prop) → Prop} (ms : MonoL ws) {b : Bt} {σ : L2.St} {H : Hp} {Q : VK} (h : tX X.K (cs) (fun ρ Q => ws ρ fun ds => (btD b ds).to Q) σ H Q) : tCB (rB X.K b) (tA X.K false cs ws) σ H Q := by
  obtain ⟨H0, B, pn, fr, ρ, Z, tb, ok, w⟩ := h
  refine ⟨H0, B, pn, fr, ρ, Z, tb, ok, ms _ _ _ (fun ds q vs H1 s1 r1 => ?_) w⟩
  exact ⟨pn, Z, ds, (ok.to s1).zt, r1, Rz.mono (fun r k z v H' s rx => z v H' (s1.trans ((ok.to s1).ss s)) (rx.back s1)) q⟩
theorem y_bt {cs : Nat} (hc : X.calm = true) (hg : X.A.guards = some []) (hr : Room j X.A) {b : Bt} (hb : plainB b = true) {x : Str} {p pos : Pos} {e : Expr} {es : List Expr} {ws : En → (List D → Prop) → Prop} (gl : Gl X x) (hm : X.mg x = none) (hv : bootBuiltins x = some (bval b)) (hn : x ≠ "__name__")
    (hd : (x == ("__debug__" : Str)) = false) (he : starEach (e :: es) X.env = (false, eval e X.env) :: starEach es X.env) (hpl : (backTo pos (starEach es X.env)).any (·.1) = false) (ms : MonoL ws) (h : PA X (e :: es) (tA X.K false cs ws)) :
    PE X (.Call (.Name x p) (e :: es) [] pos) (tX X.K (cs) fun ρ Q => ws ρ fun ds => (btD b ds).to Q) := by
  have cr := call_Y hc hg hr b hb
  cases b <;> first
    | (simp [plainB] at hb; done)
    | exact (pe_callB cr gl hm hv h hn hd he hpl).weak fun _ _ _ z => tA_call ms z
    | exact (pe_callTy cr gl hm hv h hn hd he hpl).weak fun _ _ _ z => tA_call ms z
/-- isinstance(e, T) -/
theorem kitB_D : ∀ t ∈ kindsD, ∀ n ∈ ["NoneType", "bool", "int", "str", "list", "tuple", "dict"], kitB n t = some (n == t || (t == "int" && n == "bool")) := by decide +kernel
theorem tyD_mem (d : D) : tyD d ∈ ["NoneType", "bool", "int", "str", "list", "tuple", "dict"] := by cases d <;> simp [tyD]
theorem dr_ty {K : PySem.W.Frag} {pn : List Addr} {H : Hp} {Z : Addr → Prop} {v : V} {d : D} (h : Dr K pn H Z v d) : TyX K H v (.type (tyD d)) := by
  cases d with
  | none => rw [h.non]; exact .base .non
  | bool b => rw [h.bl]; exact .base (.bl _)
  | int b => rw [h.int]; exact .base (.int _)
  | str b => rw [h.str]; exact .base (.str _)
  | list b => obtain ⟨a, xs, rfl, s1, _⟩ := h.list; exact .base (.lst s1)
  | tuple b =>
    obtain ⟨a, xs, rfl, s1, _⟩ := h.tup
    rcases s1 with ⟨_, s1 | ⟨o, s1⟩⟩ | ⟨o, its, n, s1, s2, _⟩
    · exact .base (.tup s1)
    · exact .fTuple s1
    · exact .kTuple s1 s2
  | dict b =>
    rcases h with h | ⟨a, rfl, _, ⟨_, _, e, _⟩ | ⟨kvs, ps, e, h1, _⟩ | ⟨kvs, ps, e, h1, _⟩⟩
    · cases h with
      | dk n r a => exact .base (.dK r)
      | dt n r a => exact .base (.dT r)
    · cases e
    · exact .base (.dK h1)
    · exact .base (.dT h1)
theorem y_isi {ca : Nat} {t : String} {ty : Str} {p pos p2 : Pos} {e : Expr} {wa : En → VQ → Prop} (ht : t ∈ kindsD) (gl : Gl X "isinstance") (hm : X.mg "isinstance" = none) (hc2 : PE X (.Name ty p2) (tC (.ty t)))
    (he : starEach [e, .Name ty p2] X.env = (false, eval e X.env) :: starEach [.Name ty p2] X.env) (ma : MonoW wa) (h : PE X e (tX X.K ca wa)) :
    PE X (.Call (.Name "isinstance" p) [e, .Name ty p2] [] pos) (tX X.K (ca) fun ρ Q => wa ρ fun x _ => (btD (.isi t) [x]).to Q) := by
  refine (pe_callB call_isi gl hm (by decide +kernel) (pa_cons h (pa_cons hc2 pa_nil) he) (he := he)).weak fun σ H Q ⟨H0, B, pn, fr, ρ, Z, tb, ok, w⟩ => ?_
  refine ⟨H0, B, pn, fr, ρ, Z, tb, ok, ma _ _ _ (fun d k q x H1 s1 r1 => ?_) w⟩
  exact ⟨x, .ty t, _, _, _, rfl, .ty t, dr_ty (r1.dr ok.pnt), kit_ty (kitB_D t ht _ (tyD_mem d)), q.2 _ H1 s1 (.bl _)⟩
end
end Y

namespace L2
open PySem PySem.Spec PyProof.Rows
theorem PI.weak {X : Cx} {tg it : Expr} {t t' : TI} (h : PI X tg it t) (w : ∀ σ H R, t' σ H R → t σ H R) : PI X tg it t' := ⟨fun pins s σ H R I q => h.run pins s σ H R I (w σ H R q)⟩
end L2
namespace Y
open PySem PySem.Spec PyProof.Rows L2 M
/-! ### slots stored -/
section
variable {K : PySem.W.Frag} {H0 H H' : Hp} {B Z : Addr → Prop} {pn : List Addr} {tb tb2 : Nat} {fr : List (V × D)} {σ : L2.St} {ρ : En}
theorem getset {α : Type} {l : List α} {i j : Nat} {x y : α} (h : (l.set i x)[j]? = some y) : (i = j ∧ y = x ∧ i < l.length) ∨ (i ≠ j ∧ l[j]? = some y) := by
  by_cases e : i = j
  · subst e
    by_cases hl : i < l.length
    · rw [List.getElem?_set_self hl] at h
      exact .inl ⟨rfl, (Option.some.inj h).symm, hl⟩
    · rw [List.getElem?_eq_none (by simpa using hl)] at h
      cases h
  · rw [List.getElem?_set_ne e] at h
    exact .inr ⟨e, h⟩
/-- a slot gets something that is not own -/
theorem EnvOk.put (ok : EnvOk K H0 B pn fr Z tb σ ρ H) (i : Nat) (ov : Option V) (s : Sl) (hs : SlOk K H0 H Z pn (some ov) s) (no : ∀ d, s ≠ .own d) : EnvOk K H0 B pn fr Z tb (σ.set i ov) (ρ.set i s) H := by
  refine ⟨ok.step, ok.zt, ok.bz, ok.bt, ok.pz, by simpa using ok.len, fun j t e => ?_, fun j k d e a h1 h2 h3 h4 => ?_, ok.fr⟩
  · rcases getset e with ⟨rfl, rfl, hl⟩ | ⟨ne, e⟩
    · rw [List.getElem?_set_self (by rw [← ok.len]; exact hl)]
      exact hs
    · rw [List.getElem?_set_ne ne]
      exact ok.sl j t e
  · rcases getset h1 with ⟨_, z, _⟩ | ⟨n1, h1⟩
    · exact absurd z.symm (no d)
    · rcases getset h2 with ⟨_, z, _⟩ | ⟨n2, h2⟩
      · exact absurd z.symm (no e)
      · rw [List.getElem?_set_ne n1] at h3
        rw [List.getElem?_set_ne n2] at h4
        exact ok.inj j k d e a h1 h2 h3 h4
theorem EnvOk.val (ok : EnvOk K H0 B pn fr Z tb σ ρ H) (i : Nat) {v : V} {d : D} (h : Dn K H Z v d) : EnvOk K H0 B pn fr Z tb (σ.set i (some v)) (ρ.set i (.val d)) H :=
  ok.put i (some v) (.val d) ⟨v, rfl, h⟩ fun _ z => nomatch z
theorem EnvOk.emp (ok : EnvOk K H0 B pn fr Z tb σ ρ H) (i : Nat) : EnvOk K H0 B pn fr Z tb (σ.set i none) (ρ.set i .emp) H := ok.put i none .emp trivial fun _ z => nomatch z
theorem EnvOk.wipe (ok : EnvOk K H0 B pn fr Z tb σ ρ H) : ∀ vs : List Nat, EnvOk K H0 B pn fr Z tb (L2.wipe σ vs) (wipeE ρ vs) H
  | [] => ok
  | v :: vs => (EnvOk.wipe ok vs).emp v
theorem wipe_set {σ : L2.St} {i : Nat} {x : Option V} : ∀ {vs : List Nat}, i ∈ vs → L2.wipe (σ.set i x) vs = L2.wipe σ vs
  | [], h => by cases h
  | v :: vs, h => by
    unfold L2.wipe
    by_cases e : i ∈ vs
    · rw [wipe_set e]
    · have ev : i = v := by
        rcases List.mem_cons.mp h with z | z
        · exact z
        · exact absurd z e
      subst ev
      have : L2.wipe (σ.set i x) vs = (L2.wipe σ vs).set i x := by
        clear h
        induction vs with
        | nil => rfl
        | cons w ws ih =>
          simp only [List.mem_cons, not_or] at e
          unfold L2.wipe
          rw [ih e.2, List.set_comm _ _ e.1]
      rw [this, List.set_set]
theorem wipe_idem {σ : L2.St} {vs : List Nat} : L2.wipe (L2.wipe σ vs) vs = L2.wipe σ vs := by
  have go : ∀ ws : List Nat, (∀ w ∈ ws, w ∈ vs) → L2.wipe (L2.wipe σ ws) vs = L2.wipe σ vs := by
    intro ws
    induction ws with
    | nil => intro _; rfl
    | cons w ws ih =>
      intro h
      show L2.wipe ((L2.wipe σ ws).set w none) vs = _
      rw [wipe_set (h w List.mem_cons_self)]
      exact ih fun x hx => h x (List.mem_cons_of_mem _ hx)
  exact go vs fun _ h => h
/-- targets -/
def gMany : List Nat → TGs
  | [] => gNil
  | i :: is => gCons (gName i) (gMany is)
def gT (K : PySem.W.Frag) : Tg → TG
  | .nm i => gName i
  | .tp is => gTup K is.length (gMany is)
theorem many_ok : ∀ (is : List Nat) (vs : List Nat) (ds : List D) (xs : List V) (σ : L2.St) (ρ ρ' : En) (Q : L2.St → Hp → Prop), (∀ i ∈ is, i ∈ vs) → EnvOk K H0 B pn fr Z tb σ ρ H → setMany ρ is ds = some ρ' → DnL K H Z xs ds →
    (∀ σ', EnvOk K H0 B pn fr Z tb σ' ρ' H → L2.wipe σ' vs = L2.wipe σ vs → Q σ' H) → gMany is xs σ H Q
  | [], vs, [], xs, σ, ρ, ρ', Q, hi, ok, e, n, q => by
    cases n
    cases e
    exact ⟨rfl, q σ ok rfl⟩
  | [], vs, _ :: _, xs, σ, ρ, ρ', Q, hi, ok, e, n, q => by cases e
  | _ :: _, vs, [], xs, σ, ρ, ρ', Q, hi, ok, e, n, q => by cases e
  | i :: is, vs, d :: ds, xs, σ, ρ, ρ', Q, hi, ok, e, n, q => by
    cases n with
    | cons a b =>
      refine ⟨_, _, rfl, ?_⟩
      refine many_ok is vs ds _ _ _ ρ' Q (fun j hj => hi j (List.mem_cons_of_mem _ hj)) (ok.val i a) e b fun σ' ok' w => q σ' ok' ?_
      rw [w, wipe_set (hi i List.mem_cons_self)]
theorem setMany_len : ∀ (is : List Nat) (ds : List D) (ρ ρ' : En), setMany ρ is ds = some ρ' → ds.length = is.length
  | [], [], _, _, _ => rfl
  | [], _ :: _, _, _, e => by cases e
  | _ :: _, [], _, _, e => by cases e
  | i :: is, d :: ds, ρ, ρ', e => by simp [setMany_len is ds _ ρ' e]
theorem tg_ok {t : Tg} {d : D} {x : V} {ρ' : En} {Q : L2.St → Hp → Prop} (ok : EnvOk K H0 B pn fr Z tb σ ρ H) (e : setTg t d ρ = some ρ') (n : Dn K H Z x d)
    (q : ∀ σ', EnvOk K H0 B pn fr Z tb σ' ρ' H → L2.wipe σ' t.ixs = L2.wipe σ t.ixs → Q σ' H) : gT K t x σ H Q := by
  cases t with
  | nm i =>
    cases e
    exact q _ (ok.val i n) (wipe_set List.mem_cons_self)
  | tp is =>
    cases d with
    | tuple ds =>
      cases n with
      | tup s a =>
        refine ⟨_, _, rfl, s.sq, ?_, ?_⟩
        · rw [a.length]; exact setMany_len is ds ρ ρ' e
        · exact many_ok is is ds _ σ ρ ρ' Q (fun _ h => h) ok e a q
    | _ => cases e
end
/-! ### iterators -/
def JOk (K : PySem.W.Frag) (pn : List Addr) (J : It) (fv : List (V × D)) (ds : List D) : Prop :=
  ∀ (H : Hp) (Z : Addr → Prop) (i : Nat), (∀ a, Z a → H a ≠ none) → (∀ p ∈ fv, Dr K pn H Z p.1 p.2) →
    (i = ds.length → J.stop i H) ∧ (i < ds.length → J.go i H ∧ ∀ x H2, J.yld i H x H2 → Same H H2 ∧ ∃ d, ds[i]? = some d ∧ Dn K H2 Z x d)
def tI (K : PySem.W.Frag) (nb : Bool) (c : Nat) (w : En → (List D → Prop) → Prop) : TI := fun σ H R => ∃ H0 B pn fr ρ Z tb, EnvOk K H0 B pn fr Z (c + tb) σ ρ H ∧
  w ρ fun ds => ∀ J H' fv, HStep tb pn H H' → (∀ p ∈ fv, Dr K pn H' Z p.1 p.2 ∧ (nb = true → Dn K H' Z p.1 p.2)) → JOk K pn J fv ds → R J H'
section
variable {X : Cx}
theorem jok_list {K : PySem.W.Frag} {pn : List Addr} {a : Addr} {ds : List D} : JOk K pn (Itl K a) [(.ref a, .list ds)] ds := by
  intro H Z i zt h
  obtain ⟨b, xs, e, s, n⟩ := (h _ List.mem_cons_self).list
  cases e
  have l := n.length
  refine ⟨fun e => ⟨xs, SqL.of s, by omega⟩, fun hi => ?_⟩
  obtain ⟨d, hd⟩ : ∃ d, ds[i]? = some d := ⟨ds[i], by simp [hi]⟩
  obtain ⟨x, hx, dn⟩ := n.get hd
  refine ⟨⟨xs, x, SqL.of s, hx⟩, fun y H2 hy => ?_⟩
  obtain ⟨rfl, hy⟩ := hy
  have := hy xs (SqL.of s)
  rw [hx] at this
  cases this
  exact ⟨same_refl _, d, hd, dn⟩
theorem jok_tup {K : PySem.W.Frag} {pn : List Addr} {a : Addr} {ds : List D} : JOk K pn (Itt K a) [(.ref a, .tuple ds)] ds := by
  intro H Z i zt h
  obtain ⟨b, xs, e, s, n⟩ := (h _ List.mem_cons_self).tup
  cases e
  have l := n.length
  refine ⟨fun e => ⟨xs, s.sq, by omega⟩, fun hi => ?_⟩
  obtain ⟨d, hd⟩ : ∃ d, ds[i]? = some d := ⟨ds[i], by simp [hi]⟩
  obtain ⟨x, hx, dn⟩ := n.get hd
  refine ⟨⟨xs, x, s.sq, hx⟩, fun y H2 hy => ?_⟩
  obtain ⟨rfl, hy⟩ := hy
  have := hy xs s.sq
  rw [hx] at this
  cases this
  exact ⟨same_refl _, d, hd, dn⟩
theorem jok_str {K : PySem.W.Frag} {pn : List Addr} {z : Str} {fv : List (V × D)} : JOk K pn (Its z) fv (z.cps.toList.map fun c => .str ⟨#[c]⟩) := by
  intro H Z i zt h
  refine ⟨fun e => ?_, fun hi => ⟨?_, fun y H2 hy => ?_⟩⟩
  · show z.cps.size ≤ i
    simp at e; omega
  · show i < z.cps.size
    simpa using hi
  · obtain ⟨rfl, c, hc, rfl⟩ := hy
    exact ⟨same_refl _, .str ⟨#[c]⟩, by simp [hc], .str _⟩
theorem rng_len (lo : Int) : ∀ n : Nat, (rng lo n).length = n
  | 0 => rfl
  | n + 1 => by simp [rng, rng_len (lo + 1) n]
theorem rng_get : ∀ (n i : Nat) (lo : Int), i < n → (rng lo n)[i]? = some (.int (lo + i))
  | 0, _, _, h => absurd h (Nat.not_lt_zero _)
  | n + 1, 0, lo, _ => by simp [rng]
  | n + 1, i + 1, lo, h => by
    show (rng (lo + 1) n)[i]? = _
    rw [rng_get n i (lo + 1) (by omega)]
    congr 2
    omega
theorem jok_rng {K : PySem.W.Frag} {pn : List Addr} {lo : Int} {n : Nat} {fv : List (V × D)} : JOk K pn (Itr lo n) fv (rng lo n) := by
  intro H Z i zt h
  rw [rng_len]
  refine ⟨fun e => ?_, fun hi => ⟨hi, fun y H2 hy => ?_⟩⟩
  · show n ≤ i
    omega
  · obtain ⟨rfl, rfl⟩ := hy
    exact ⟨same_refl _, _, rng_get n i lo hi, .int _⟩
theorem enum_get (ds : List D) (i : Nat) (d : D) (h : ds[i]? = some d) : (enumL ds)[i]? = some (.tuple [.int i, d]) := by
  unfold enumL
  rw [List.getElem?_map, List.getElem?_zipIdx, h]
  simp
theorem enum_len (ds : List D) : (enumL ds).length = ds.length := by simp [enumL]
theorem new_pair {K : PySem.W.Frag} {H : Hp} {Z : Addr → Prop} {T : Addr} {x y : V} {d e : D} (zt : ∀ a, Z a → H a ≠ none) (hT : H T = none) (h1 : Dn K H Z x d) (h2 : Dn K H Z y e) : Dn K (upd H T (.tup [x, y])) Z (.ref T) (.tuple [d, e]) :=
  .tup (.inl ⟨fun z => zt T z hT, .inl upd_same⟩) (.cons (h1.same (M.same_upd hT)) (.cons (h2.same (M.same_upd hT)) .nil))
theorem jok_enum {K : PySem.W.Frag} {pn : List Addr} {a : Addr} {ds : List D} : JOk K pn (Ite K a) [(.ref a, .list ds)] (enumL ds) := by
  intro H Z i zt h
  obtain ⟨b, xs, e, s, n⟩ := (h _ List.mem_cons_self).list
  cases e
  have l := n.length
  rw [enum_len]
  refine ⟨fun e => ⟨xs, SqL.of s, by omega⟩, fun hi => ?_⟩
  obtain ⟨d, hd⟩ : ∃ d, ds[i]? = some d := ⟨ds[i], by simp [hi]⟩
  obtain ⟨x, hx, dn⟩ := n.get hd
  refine ⟨⟨xs, x, SqL.of s, hx⟩, fun y H2 hy => ?_⟩
  obtain ⟨T, x', rfl, hT, rfl, hy⟩ := hy
  have := hy xs (SqL.of s)
  rw [hx] at this
  cases this
  exact ⟨M.same_upd hT, _, enum_get ds i d hd, new_pair zt hT (.int _) dn⟩
theorem zip_get (ds es : List D) (i : Nat) (d e : D) (h : ds[i]? = some d) (h' : es[i]? = some e) : (zipL ds es)[i]? = some (.tuple [d, e]) := by
  unfold zipL
  rw [List.getElem?_map, (List.getElem?_zip_eq_some (z := (d, e))).mpr ⟨h, h'⟩]
  rfl
theorem zip_len (ds es : List D) : (zipL ds es).length = min ds.length es.length := by simp [zipL]
theorem jok_zip {K : PySem.W.Frag} {pn : List Addr} {a b : Addr} {ds es : List D} : JOk K pn (Itz K a b) [(.ref a, .list ds), (.ref b, .list es)] (zipL ds es) := by
  intro H Z i zt h
  obtain ⟨_, xs, e, s, n⟩ := (h _ List.mem_cons_self).list
  cases e
  obtain ⟨_, ys, e, s', n'⟩ := (h _ (List.mem_cons_of_mem _ List.mem_cons_self)).list
  cases e
  have l := n.length
  have l' := n'.length
  rw [zip_len]
  refine ⟨fun e => ⟨xs, ys, SqL.of s, SqL.of s', by omega⟩, fun hi => ?_⟩
  obtain ⟨d, hd⟩ : ∃ d, ds[i]? = some d := ⟨ds[i]'(by omega), by simp [show i < ds.length by omega]⟩
  obtain ⟨d', hd'⟩ : ∃ d, es[i]? = some d := ⟨es[i]'(by omega), by simp [show i < es.length by omega]⟩
  obtain ⟨x, hx, dn⟩ := n.get hd
  obtain ⟨x', hx', dn'⟩ := n'.get hd'
  refine ⟨⟨xs, ys, x, x', SqL.of s, SqL.of s', hx, hx'⟩, fun y H2 hy => ?_⟩
  obtain ⟨T, u, u', rfl, hT, rfl, hy, hy'⟩ := hy
  have e1 := hy xs (SqL.of s)
  rw [hx] at e1
  cases e1
  have e2 := hy' ys (SqL.of s')
  rw [hx'] at e2
  cases e2
  exact ⟨M.same_upd hT, _, zip_get ds es i d d' hd hd', new_pair zt hT dn dn'⟩
/-- iter(x), by the value -/
theorem it_items {pins : List (Addr × Obj)} {σ : L2.St} {H : Hp} {s : Shared} {tg : Expr} {R : It → Hp → Prop} {pn : List Addr} {Z : Addr → Prop} {v : V} {u : Value} {d : D} {ds : List D} (I : Inv X pins σ H s) (rv : RelV v u) (h : Dr X.K pn H Z v d) (e : itemsD d = some ds)
    (q : ∀ J, JOk X.K pn J [(v, d)] ds → R J H) : wpAny (model X.prog X.w) X.A (pyIter u) (PIE X pins σ tg R) X.xe s := by
  cases d with
  | list ds' =>
    cases e
    obtain ⟨a, xs, rfl, s1, n1⟩ := h.list
    cases rv
    obtain ⟨its, rv, p, hz⟩ := I.list (SqL.of s1)
    refine wpAny_pyIter_list p.isList ?_
    refine ⟨s.heap.objs.size, [s.heap.objs.size], _, _, H, rfl, I.kept (t' := s.toks) fun b o e => Heap.get?_push_of_some _ e, turn_list a _, ⟨_, Heap.get?_push_size _ rfl, rfl, rfl⟩, fun b hb => ?_, q _ jok_list⟩
    have e : b = s.heap.objs.size := by simpa using hb
    subst e
    exact I.fpOk (Nat.le_refl _) (I.hok.fresh (Nat.le_refl _))
  | tuple ds' =>
    cases e
    obtain ⟨a, xs, rfl, s1, n1⟩ := h.tup
    cases rv
    obtain ⟨its, rv, p, hz⟩ := I.tuple s1.sq
    refine wpAny_pyIter_tuple (show s.heap.IsTuple a its.toArray from p) ?_
    refine ⟨s.heap.objs.size, [s.heap.objs.size], _, _, H, rfl, I.kept (t' := s.toks) fun b o e => Heap.get?_push_of_some _ e, turn_tuple a _, ⟨_, Heap.get?_push_size _ rfl, rfl, rfl⟩, fun b hb => ?_, q _ jok_tup⟩
    have e : b = s.heap.objs.size := by simpa using hb
    subst e
    exact I.fpOk (Nat.le_refl _) (I.hok.fresh (Nat.le_refl _))
  | str z =>
    cases e
    rw [h.str] at rv q
    obtain ⟨t, rfl⟩ := rv
    cases ha : z.cps.all (· < 128)
    · exact wpAny_pyIter_wide ha (pi_one (tk := s.toks) I _ (turn_str _ z t "str_iterator" (.inr rfl)) ⟨_, Heap.get?_push_size _ rfl, rfl, rfl⟩ (q _ jok_str))
    · exact wpAny_pyIter_ascii ha (pi_one (tk := s.toks) I _ (turn_str _ z t "str_ascii_iterator" (.inl rfl)) ⟨_, Heap.get?_push_size _ rfl, rfl, rfl⟩ (q _ jok_str))
  | _ => cases e
/-- e walked over; nb: nothing borrowed -/
theorem i_over {ca : Nat} {tg e : Expr} {wa : En → VQ → Prop} {nb : Bool} (ma : MonoW wa) (hb : nb = true → ∀ ρ Q, wa ρ Q → wa ρ fun d k => k ≠ .bor ∧ Q d k) (h : PE X e (tX X.K ca wa)) :
    PI X tg e (tI X.K nb (ca) fun ρ Q => wa ρ fun x _ => match itemsD x with | some ds => Q ds | none => False) := by
  refine ⟨fun pins s σ H R I ⟨H0, B, pn, fr, ρ, Z, tb, ok, w⟩ => ?_⟩
  have w' : wa ρ fun x k => (nb = true → k ≠ .bor) ∧ match itemsD x with | some ds => ∀ J H' fv, HStep tb pn H H' → (∀ p ∈ fv, Dr X.K pn H' Z p.1 p.2 ∧ (nb = true → Dn X.K H' Z p.1 p.2)) → JOk X.K pn J fv ds → R J H' | none => False := by
    cases nb with
    | true => exact ma _ _ _ (fun d k q => ⟨fun _ => q.1, q.2⟩) (hb rfl _ _ w)
    | false => exact ma _ _ _ (fun d k q => ⟨(fun z => nomatch z), q⟩) w
  refine thn (h.run pins s σ H (fun v H1 => ∃ d, Dr X.K pn H1 Z v d ∧ ∃ ds, itemsD d = some ds ∧ ∀ J, JOk X.K pn J [(v, d)] ds → R J H1) I ⟨H0, B, pn, fr, ρ, Z, tb, ok, ma _ _ _ (fun d k q v H1 s1 r1 => ?_) w'⟩) fun u s1 ⟨v, H1, I1, rv, d, hd, ds, e1, q⟩ => it_items I1 rv hd e1 q
  have hd := r1.dr ok.pnt
  refine ⟨d, hd, ?_⟩
  obtain ⟨q1, q2⟩ := q
  split at q2
  · rename_i ds e1
    refine ⟨ds, e1, fun J hJ => q2 J H1 [(v, d)] s1 (fun p hp => ?_) hJ⟩
    have ep : p = (v, d) := by simpa using hp
    subst ep
    exact ⟨hd, fun z => r1.dn (q1 z) ok.zt⟩
  · exact q2.elim
theorem arF1 {K : PySem.W.Frag} {pn : List Addr} {H : Hp} {Z : Addr → Prop} {vs : List V} {ds : List D} {d : D} (h : tA.ArL K false pn H Z vs ds) (e : ds = [d]) : ∃ v, vs = [v] ∧ Dr K pn H Z v d := by
  subst e
  exact arl1 h
/-- one argument -/
theorem a_one {ca : Nat} {e : Expr} {wa : En → VQ → Prop} (hs : starEach [e] X.env = [(false, eval e X.env)]) (ma : MonoW wa) (ha : PE X e (tX X.K ca wa)) : PA X [e] (tCons (tX X.K ca wa) tNil) := pa_cons ha pa_nil hs
theorem i_rg1 {ca : Nat} {tg e : Expr} {wa : En → VQ → Prop} {nb : Bool} {p pos : Pos} (gl : Gl X "range") (hm : X.mg "range" = none) (hs : starEach [e] X.env = [(false, eval e X.env)]) (ma : MonoW wa) (h : PE X e (tX X.K ca wa)) :
    PI X tg (.Call (.Name "range" p) [e] [] pos) (tI X.K nb (ca) fun ρ Q => wa ρ fun x _ => match x with | .int j => (-(2 ^ 62) ≤ j ∧ j < 2 ^ 62) ∧ Q (rng 0 j.toNat) | _ => False) := by
  refine PI.weak (pi_range1 gl hm (pa_cons h pa_nil hs) hs) fun σ H R ⟨H0, B, pn, fr, ρ, Z, tb, ok, w⟩ => ?_
  refine ⟨H0, B, pn, fr, ρ, Z, tb, ok, ma _ _ _ (fun d k q x H1 s1 r1 => ?_) w⟩
  dsimp only at q
  split at q
  · rename_i j
    rw [(r1.dr ok.pnt).int]
    exact ⟨j, rfl, q.1.1, q.1.2, q.2 _ H1 [] s1 (fun _ z => nomatch z) jok_rng⟩
  · exact q.elim
theorem i_rg2 {ca cb : Nat} {tg a b : Expr} {wa wb : En → VQ → Prop} {nb : Bool} {p pos : Pos} (gl : Gl X "range") (hm : X.mg "range" = none) (hs : starEach [a, b] X.env = [(false, eval a X.env), (false, eval b X.env)]) (hs2 : starEach [b] X.env = [(false, eval b X.env)]) (ma : MonoW wa) (mb : MonoW wb) (ha : PE X a (tX X.K ca wa)) (hb : PE X b (tX X.K cb wb)) :
    PI X tg (.Call (.Name "range" p) [a, b] [] pos) (tI X.K nb (ca + cb) fun ρ Q => wa ρ fun x _ => wb ρ fun y _ => match x, y with
      | .int i, .int j => (-(2 ^ 62) ≤ i ∧ i < 2 ^ 62 ∧ -(2 ^ 62) ≤ j ∧ j < 2 ^ 62) ∧ Q (rng i (j - i).toNat)
      | _, _ => False) := by
  refine PI.weak (pi_range2 gl hm (pa_cons ha (pa_cons hb pa_nil hs2) (by rw [hs, hs2])) hs hs2) fun σ H R ⟨H0, B, pn, fr, ρ, Z, tb, ok, w⟩ => ?_
  refine ⟨H0, B, pn, fr, ρ, Z, (cb + tb), ok.lt (by omega), ma _ _ _ (fun d k q x H1 s1 r1 => ⟨H0, B, pn, fr, ρ, Z, _, ok.to s1, mb _ _ _ (fun e k' q y H2 s2 r2 => ?_) q⟩) w⟩
  cases d with
  | int i =>
    cases e with
    | int j =>
      rw [(r1.dr ok.pnt).int, (r2.dr (ok.to s1).pnt).int]
      exact ⟨i, j, rfl, q.1, q.2 _ H2 [] (s1.trans s2) (fun _ z => nomatch z) jok_rng⟩
    | _ => exact q.elim
  | _ => exact q.elim
theorem listD_eq {d : D} {ds : List D} (h : listD d = some ds) : d = .list ds := by cases d <;> simp [listD] at h <;> simp [h]
theorem i_enum {ca : Nat} {e : Expr} {elts : List Expr} {kk : Nat} {tp : Pos} {wa : En → VQ → Prop} {nb : Bool} {p pos : Pos} (gl : Gl X "enumerate") (hm : X.mg "enumerate" = none) (hs : starEach [e] X.env = [(false, eval e X.env)]) (ma : MonoW wa) (hb : nb = true → ∀ ρ Q, wa ρ Q → wa ρ fun d k => k ≠ .bor ∧ Q d k) (h : PE X e (tX X.K ca wa)) :
    PI X (.Tuple elts kk tp) (.Call (.Name "enumerate" p) [e] [] pos) (tI X.K nb (ca) fun ρ Q => wa ρ fun x _ => match listD x with | some ds => Q (enumL ds) | none => False) := by
  refine PI.weak (pi_enum gl hm (pa_cons h pa_nil hs) hs) fun σ H R ⟨H0, B, pn, fr, ρ, Z, tb, ok, w⟩ => ?_
  have w' : wa ρ fun x k => (nb = true → k ≠ .bor) ∧ match listD x with | some ds => ∀ J H' fv, HStep tb pn H H' → (∀ p ∈ fv, Dr X.K pn H' Z p.1 p.2 ∧ (nb = true → Dn X.K H' Z p.1 p.2)) → JOk X.K pn J fv (enumL ds) → R J H' | none => False := by
    cases nb with
    | true => exact ma _ _ _ (fun d k q => ⟨fun _ => q.1, q.2⟩) (hb rfl _ _ w)
    | false => exact ma _ _ _ (fun d k q => ⟨(fun z => nomatch z), q⟩) w
  refine ⟨H0, B, pn, fr, ρ, Z, tb, ok, ma _ _ _ (fun d k q x H1 s1 r1 => ?_) w'⟩
  obtain ⟨q1, q2⟩ := q
  split at q2
  · rename_i ds e1
    have hd := r1.dr ok.pnt
    have ed := listD_eq e1
    subst ed
    obtain ⟨a, xs, rfl, s2, n2⟩ := hd.list
    refine ⟨a, xs, rfl, SqL.of s2, q2 _ H1 [(.ref a, .list ds)] s1 (fun p hp => ?_) jok_enum⟩
    have ep : p = (.ref a, .list ds) := by simpa using hp
    subst ep
    exact ⟨hd, fun z => r1.dn (q1 z) ok.zt⟩
  · exact q2.elim
end
end Y

namespace Y
open PySem PySem.Spec PyProof.Rows L2 M
section
variable {K : PySem.W.Frag} {H0 H H' : Hp} {B Z : Addr → Prop} {pn : List Addr} {tb tb2 : Nat} {fr : List (V × D)} {σ : L2.St} {ρ : En}
theorem Bd.upd {a : Addr} {o : HO} (b : Bd tb pn H) (hp : a ∉ pn) : Bd tb pn (upd H a o) := ⟨b.1, fun d hd c i r e => b.2 d hd c i r (by rw [upd_ne (fun z => hp (by rw [← z]; exact hd))] at e; exact e)⟩
/-- the draws left in a loop -/
def bgt (n i c t : Nat) : Nat := (n - i) * c + t
theorem bgt_s {n i c t : Nat} (h : i < n) : bgt n i c t = c + bgt n (i + 1) c t := by
  unfold bgt
  obtain ⟨k, hk⟩ : ∃ k, n - i = k + 1 := ⟨n - i - 1, by omega⟩
  rw [show n - (i + 1) = k by omega, hk, Nat.succ_mul]
  omega
theorem bgt_e {n c t : Nat} : bgt n n c t = t := by unfold bgt; rw [Nat.sub_self, Nat.zero_mul, Nat.zero_add]
theorem bgt_0 {n m c t : Nat} (h : n ≤ m) : bgt n 0 c t ≤ m * c + t := by
  unfold bgt
  exact Nat.add_le_add_right (Nat.mul_le_mul_right c h) t
/-- a banned address that no slot owns is written -/
theorem EnvOk.upd (ok : EnvOk K H0 B pn fr Z tb σ ρ H) {a : Addr} {o : HO} (hz : Z a) (h0 : H0 a = none) (hp : a ∉ pn) (ho : ∀ (i : Nat) (d : D), ρ[i]? = some (.own d) → σ[i]? ≠ some (some (.ref a))) : EnvOk K H0 B pn fr Z tb σ ρ (upd H a o) := by
  have kz : ∀ b u, ¬ Z b → H b = some u → L2.upd H a o b = some u := fun b u n e => by
    rw [upd_ne (fun z => n (by rw [z]; exact hz))]; exact e
  have ke : ∀ b u, b ≠ a → H b = some u → L2.upd H a o b = some u := fun b u n e => by rw [upd_ne n]; exact e
  have th : ∀ b, H b ≠ none → L2.upd H a o b ≠ none := fun b h => by
    by_cases e : b = a
    · subst e; rw [upd_same]; exact fun z => nomatch z
    · rw [upd_ne e]; exact h
  refine ⟨⟨fun b u n e => ?_, fun d hd => ?_, fun b h => th b (ok.step.there b h), ok.bd.upd hp⟩, fun b h => th b (ok.zt b h), ok.bz, ok.bt, fun b hb => ⟨(ok.pz b hb).1, ?_⟩, ok.len, fun i s e => ?_, ok.inj, fun p h => Dn.keep kz (fun b z => .inl z) _ _ (ok.fr p h)⟩
  · exact ke b u (fun z => by rw [z, h0] at e; cases e) (ok.step.keep b u n e)
  · intro c i r h1 h2 e
    obtain ⟨i', r', h1', h2', e'⟩ := ok.step.pen d hd c i r h1 h2 e
    exact ⟨i', r', h1', h2', ke d _ (fun z => hp (by rw [← z]; exact hd)) e'⟩
  · obtain ⟨c, i, r, ns, h1, h2, e, hn⟩ := (ok.pz b hb).2
    exact ⟨c, i, r, ns, h1, h2, ke b _ (fun z => hp (by rw [← z]; exact hb)) e, Dn.keep kz (fun b z => .inl z) _ _ hn⟩
  · have h := ok.sl i s e
    cases s with
    | emp => trivial
    | val d => obtain ⟨v, e1, h1⟩ := h; exact ⟨v, e1, Dn.keep kz (fun b z => .inl z) _ _ h1⟩
    | own d =>
      obtain ⟨b, e1, h1, h2, h3, h4⟩ := h
      exact ⟨b, e1, h1, h2, h3, h4.keep kz (fun c z => .inl z) fun u q => ke b u (fun z => ho i d e (by rw [e1, z])) q⟩
    | pen => exact h
    | scr n => obtain ⟨b, ns, e1, h1, h2⟩ := h; exact ⟨b, ns, e1, h1.keep kz (fun c z => .inl z), h2⟩
theorem Dr.more {v : V} {d : D} {a : Addr} (h : Dr K pn H Z v d) (hn : H a = none) (s : HStep tb pn H H') (hz : ∀ a ∈ pn, Z a) : Dr K (a :: pn) H' (Zp Z a) v d := by
  have hz' : ∀ b, Zp Z a b → Z b ∨ H b = none := fun b z => z.elim .inl fun e => .inr (by rw [e]; exact hn)
  rcases h with h | ⟨b, e, n, h⟩
  · exact .inl (Dn.keep (keepZ s hz) hz' _ _ h)
  · refine .inr ⟨b, e, fun z => ?_, h.keep (keepZ s hz) hz' fun o q => s.keep b o n q⟩
    rcases List.mem_cons.mp z with z | z
    · rw [z] at h; exact h.there hn
    · exact n z
theorem Dr.less {v : V} {d : D} {a : Addr} (h : Dr K (a :: pn) H Z v d) : Dr K pn H Z v d := by
  rcases h with h | ⟨b, e, n, h⟩
  · exact .inl h
  · exact .inr ⟨b, e, fun z => n (List.mem_cons_of_mem _ z), h⟩
theorem Dr.stepD {v : V} {d : D} {a : Addr} (h : Dr K (a :: pn) H Z v d) (s : HStep tb pn H H') (hz : ∀ a ∈ pn, Z a) : Dr K (a :: pn) H' Z v d := by
  rcases h with h | ⟨b, e, n, h⟩
  · exact .inl (Dn.keep (keepZ s hz) (fun b z => .inl z) _ _ h)
  · exact .inr ⟨b, e, n, h.step (fun z => n (List.mem_cons_of_mem _ z)) s hz⟩
theorem Dr.updD {v : V} {d : D} {a : Addr} {o : HO} (h : Dr K (a :: pn) H Z v d) (hz : Z a) : Dr K (a :: pn) (upd H a o) Z v d := by
  have kz : ∀ b u, ¬ Z b → H b = some u → L2.upd H a o b = some u := fun b u n e => by
    rw [upd_ne (fun z => n (by rw [z]; exact hz))]; exact e
  rcases h with h | ⟨b, e, n, h⟩
  · exact .inl (Dn.keep kz (fun b z => .inl z) _ _ h)
  · exact .inr ⟨b, e, n, h.keep kz (fun b z => .inl z) fun u q => by rw [upd_ne (fun z => n (by rw [z]; exact List.mem_cons_self))]; exact q⟩
end
/-! ### comprehensions -/
section
variable {X : Cx}
def wCo (wi : En → (List D → Prop) → Prop) (wc : En → (Bool → Prop) → Prop) (we : En → VQ → Prop) (t : Tg) : En → VQ → Prop := fun ρ Q => wi ρ fun ds => ds.length ≤ sizeLine ∧
  wComp (fun d R => match setTg t d (wipeE ρ t.ixs) with
    | some ρ' => wc ρ' fun b => (b = true → we ρ' fun r k => k ≠ .bor ∧ R (some r)) ∧ (b = false → R none)
    | none => False) ds [] fun rs => Q (.list rs) .own
theorem comp_turn {cc ce ci : Nat} {K : PySem.W.Frag} {wi : En → (List D → Prop) → Prop} {wc : En → (Bool → Prop) → Prop} {we : En → VQ → Prop} {t : Tg} (mi : MonoL wi) (mc : MonoT wc) (me : MonoW we) {σ : L2.St} {H : Hp} {Q : VK}
    (h : tX K (ci + sizeLine * (cc + ce)) (wCo wi wc we t) σ H Q) : tLc (tI K false ci wi) (gT K t) (tT K cc wc) (tX K ce we) t.ixs σ H Q := by
  obtain ⟨H0, B, pn, fr, ρ, Z, tb, ok, w⟩ := h
  refine ⟨H0, B, pn, fr, ρ, Z, (sizeLine * (cc + ce) + tb), ok.lt (by omega), mi _ _ _ (fun ds q J H1 fv s1 hfv hJ D nD => ?_) w⟩
  obtain ⟨q0, q⟩ := q
  have ok1 := (ok.to s1).lt (bgt_0 q0)
  have sD : HStep (bgt ds.length 0 (cc + ce) tb) pn H1 (L2.upd H1 D (.lst [])) := ok1.ss (M.same_upd nD)
  have tD : L2.upd H1 D (.lst []) D ≠ none := by rw [upd_same]; exact fun z => nomatch z
  have okD := ok1.more nD sD tD
  have pD : D ∉ pn := fun z => ok1.pnt D z nD
  have h0D : H0 D = none := (ok.step.trans s1).free nD
  have oD : ∀ (i : Nat) (d : PyData), ρ[i]? = some (.own d) → σ[i]? ≠ some (some (.ref D)) := fun i d e z => by
    obtain ⟨a, e1, _, _, _, h4⟩ := ok1.sl i _ e
    rw [e1] at z
    cases z
    exact h4.there nD
  -- the invariant
  refine ⟨fun i m Hc => ∃ acc ys, m = ds.length - i ∧ i ≤ ds.length ∧ acc.length ≤ i ∧ Hc D = some (.lst ys) ∧ DnL K Hc (Zp Z D) ys acc ∧ EnvOk K H0 B pn fr (Zp Z D) (bgt ds.length i (cc + ce) tb) σ ρ Hc ∧ HStep (bgt ds.length i (cc + ce) tb) pn H1 Hc ∧ (∀ p ∈ fv, Dr K (D :: pn) Hc (Zp Z D) p.1 p.2) ∧
      wComp (fun d R => match setTg t d (wipeE ρ t.ixs) with
        | some ρ' => wc ρ' fun b => (b = true → we ρ' fun r k => k ≠ .bor ∧ R (some r)) ∧ (b = false → R none)
        | none => False) (ds.drop i) acc fun rs => ∀ v H', HStep tb pn H H' → RX K pn H H' Z v (.list rs) .own → Q v H',
    ⟨ds.length, [], [], rfl, Nat.zero_le _, Nat.zero_le _, upd_same, .nil, okD, sD, fun p hp => ((hfv p hp).1).more nD sD ok1.pnz, q⟩, ?_⟩
  rintro i m Hc ⟨acc, ys, rfl, hi, ha, eD, nl, okc, sc, fvc, wcm⟩
  obtain ⟨jstop, jgo⟩ := hJ Hc (Zp Z D) i okc.zt fun p hp => (fvc p hp).less
  by_cases hlt : i < ds.length
  · obtain ⟨go, yl⟩ := jgo hlt
    refine .inr ⟨go, fun Hn => ∃ acc ys, i + 1 ≤ ds.length ∧ acc.length ≤ i + 1 ∧ Hn D = some (.lst ys) ∧ DnL K Hn (Zp Z D) ys acc ∧ EnvOk K H0 B pn fr (Zp Z D) (bgt ds.length (i + 1) (cc + ce) tb) σ ρ Hn ∧ HStep (bgt ds.length (i + 1) (cc + ce) tb) pn H1 Hn ∧ (∀ p ∈ fv, Dr K (D :: pn) Hn (Zp Z D) p.1 p.2) ∧
      wComp (fun d R => match setTg t d (wipeE ρ t.ixs) with
        | some ρ' => wc ρ' fun b => (b = true → we ρ' fun r k => k ≠ .bor ∧ R (some r)) ∧ (b = false → R none)
        | none => False) (ds.drop (i + 1)) acc fun rs => ∀ v H', HStep tb pn H H' → RX K pn H H' Z v (.list rs) .own → Q v H', ?_, fun x H2 y => ?_⟩
    · rintro Hn ⟨acc', ys', h1, h2, h3, h4, h5, h6, h7, h8⟩
      exact ⟨ds.length - (i + 1), by omega, acc', ys', rfl, h1, h2, h3, h4, h5, h6, h7, h8⟩
    · obtain ⟨s2, d, ed, nd⟩ := yl x H2 y
      have s2' : HStep (bgt ds.length i (cc + ce) tb) pn Hc H2 := okc.ss s2
      have ok2 := okc.to s2'
      have edr : ds.drop i = d :: ds.drop (i + 1) := by
        rw [List.drop_eq_getElem_cons hlt]
        have : ds[i] = d := by
          have := List.getElem?_eq_getElem hlt
          rw [ed] at this
          exact (Option.some.inj this).symm
        rw [this]
      rw [edr] at wcm
      simp only [wComp] at wcm
      split at wcm
      · rename_i ρ' eρ
        refine tg_ok (ok2.wipe t.ixs) eρ nd fun σ' ok' ew => ⟨by rw [ew, wipe_idem], ?_⟩
        refine ⟨H0, B, pn, fr, ρ', Zp Z D, (ce + bgt ds.length (i + 1) (cc + ce) tb), ok'.lt (by rw [bgt_s hlt]; omega), mc _ _ _ (fun b qb H3 s3 => ?_) wcm⟩
        have sall3 : HStep (ce + bgt ds.length (i + 1) (cc + ce) tb) pn Hc H3 := s2'.trans s3
        have e3 : H3 D = some (.lst ys) := sall3.keep D _ pD eD
        cases b with
        | false =>
          refine iteF ?_
          exact ⟨acc, ys, hlt, by omega, e3, DnL.keep (keepZ sall3 okc.pnz) (fun b z => .inl z) _ _ nl, okc.to (sall3.less (by omega)), sc.trans (sall3.less (by omega)), fun p hp => (fvc p hp).stepD sall3 okc.pnz, qb.2 rfl⟩
        | true =>
          refine iteT ?_
          refine ⟨H0, B, pn, fr, ρ', Zp Z D, _, ok'.to s3, me _ _ _ (fun r k qr y4 H4 s4 r4 => ?_) (qb.1 rfl)⟩
          have sall : HStep (bgt ds.length (i + 1) (cc + ce) tb) pn Hc H4 := sall3.trans s4
          have e4 : H4 D = some (.lst ys) := sall.keep D _ pD eD
          have n4 := DnL.keep (keepZ sall okc.pnz) (fun b z => .inl z) _ _ nl
          have ny := r4.dn qr.1 (ok'.to s3).zt
          refine ⟨ys, e4, ?_, acc ++ [r], ys ++ [y4], hlt, by simp; omega, upd_same, ?_, ?_, ?_, fun p hp => ((fvc p hp).stepD sall okc.pnz).updD (.inr rfl), qr.2⟩
          · rw [n4.length]; omega
          · refine DnL.keep (fun b u n e => ?_) (fun b z => .inl z) _ _ (n4.append (.cons ny .nil))
            rw [upd_ne (fun z => n (.inr z))]; exact e
          · exact (okc.to sall).upd (.inr rfl) h0D pD oD
          · refine ⟨fun b u n e => ?_, fun d hd => ?_, fun b h => ?_, sall.bd.upd pD⟩
            · rw [upd_ne (fun z => by rw [z, nD] at e; cases e)]
              exact (sc.trans sall).keep b u n e
            · intro c i r h1 h2 e
              obtain ⟨i', r', h1', h2', e'⟩ := (sc.trans sall).pen d hd c i r h1 h2 e
              exact ⟨i', r', h1', h2', by rw [upd_ne (fun z => pD (by rw [← z]; exact hd))]; exact e'⟩
            · by_cases e : b = D
              · subst e; rw [upd_same]; exact fun z => nomatch z
              · rw [upd_ne e]; exact (sc.trans sall).there b h
      · exact wcm.elim
  · have ei : i = ds.length := by omega
    subst ei
    rw [List.drop_length] at wcm
    exact .inl ⟨jstop rfl, wcm _ Hc ((s1.trans sc).less (by rw [bgt_e]; omega)) ⟨D, rfl, s1.free nD, .inl ⟨ys, acc, rfl, eD, nl⟩⟩⟩
theorem y_comp {cc ce ci : Nat} {el tg iter : Expr} {ifs : List Expr} {scope : Scope} {own : List (Str × Nat)} {pos : Pos} {t : Tg} {wi : En → (List D → Prop) → Prop} {wc : En → (Bool → Prop) → Prop} {we : En → VQ → Prop} (hc : X.calm = true) (hN : X.N.Nodup) (mi : MonoL wi) (mc : MonoT wc) (me : MonoW we)
    (hi : PI X tg iter (tI X.K false ci wi)) (ok : BlkOk X.N X.env.scope scope own) (ho : own.map (·.2) = t.ixs)
    (hg : ∀ (s : Shared) (H : Hp) (C : Addr) (cl : List (Str × Addr)) (fp : List Addr), PG (X.blk s H scope (compEnvC scope cl C X.env) fp) tg (gT X.K t))
    (ht : ∀ (s : Shared) (H : Hp) (C : Addr) (cl : List (Str × Addr)) (fp : List Addr), PTs (X.blk s H scope (compEnvC scope cl C X.env) fp) ifs (tT X.K cc wc))
    (he : ∀ (s : Shared) (H : Hp) (C : Addr) (cl : List (Str × Addr)) (fp : List Addr), PE (X.blk s H scope (compEnvC scope cl C X.env) fp) el (tX X.K ce we)) (hs : ∀ x, foldedSetIterable iter X.env x = pure x) :
    PE X (.ListComp el [⟨tg, iter, ifs, 0⟩] scope pos) (tX X.K (ci + sizeLine * (cc + ce)) (wCo wi wc we t)) :=
  (pe_lc hc hN hi ok hg ht he hs).weak fun σ H Q h => by rw [ho]; exact comp_turn mi mc me h
theorem y_setcomp {cc ce ci : Nat} {i : Nat} {y : Str} {py : Pos} {el tg iter : Expr} {ifs : List Expr} {scope : Scope} {own : List (Str × Nat)} {pos spos : Pos} {t : Tg} {wi : En → (List D → Prop) → Prop} {wc : En → (Bool → Prop) → Prop} {we : En → VQ → Prop} (hc : X.calm = true) (hN : X.N.Nodup) (hy : X.N[i]? = some y) (hyl : X.env.scope.names.lookup y = some .local)
    (hsw : swapsWith (.ListComp el [⟨tg, iter, ifs, 0⟩] scope pos) (some (.Name y py)) spos.line X.env = pure true) (mi : MonoL wi) (mc : MonoT wc) (me : MonoW we)
    (hi : PI X tg iter (tI X.K false ci wi)) (ok : BlkOk X.N X.env.scope scope own) (ho : own.map (·.2) = t.ixs)
    (hg : ∀ (s : Shared) (H : Hp) (C : Addr) (cl : List (Str × Addr)) (fp : List Addr), PG (X.blk s H scope (compEnvC scope cl C X.env) fp) tg (gT X.K t))
    (ht : ∀ (s : Shared) (H : Hp) (C : Addr) (cl : List (Str × Addr)) (fp : List Addr), PTs (X.blk s H scope (compEnvC scope cl C X.env) fp) ifs (tT X.K cc wc))
    (he : ∀ (s : Shared) (H : Hp) (C : Addr) (cl : List (Str × Addr)) (fp : List Addr), PE (X.blk s H scope (compEnvC scope cl C X.env) fp) el (tX X.K ce we)) (hs : ∀ x, foldedSetIterable iter X.env x = pure x) :
    PS X (.Assign [.Name y py] (.ListComp el [⟨tg, iter, ifs, 0⟩] scope pos) spos) (tAsg (tX X.K (ci + sizeLine * (cc + ce)) (wCo wi wc we t)) (gName i)) :=
  ⟨fun pins s σ H D I h => (ps_setLc hc hN hy hyl hsw hi ok hg ht he hs).run pins s σ H D I (by rw [ho]; exact comp_turn mi mc me h)⟩
/-! ### calls of defs -/
inductive ArL (K : PySem.W.Frag) (pn : List Addr) (H : Hp) (Z : Addr → Prop) : List V → List Ar → Prop
  | nil : ArL K pn H Z [] []
  | v {v : V} {d : D} {vs : List V} {as : List Ar} : Dn K H Z v d → ArL K pn H Z vs as → ArL K pn H Z (v :: vs) (.v d :: as)
  | pen {a : Addr} {vs : List V} {as : List Ar} : a ∈ pn → ArL K pn H Z vs as → ArL K pn H Z (.ref a :: vs) (.pen :: as)
  | scr {a : Addr} {ns : List Int} {vs : List V} {as : List Ar} : Scr K H Z a ns → ArL K pn H Z vs as → ArL K pn H Z (.ref a :: vs) (.scr ns.length :: as)
theorem ArL.keep {K : PySem.W.Frag} {pn : List Addr} {H H' : Hp} {Z Z' : Addr → Prop} (k : ∀ b o, ¬ Z b → H b = some o → H' b = some o) (hz : ∀ b, Z' b → Z b ∨ H b = none) {vs : List V} {as : List Ar} (h : ArL K pn H Z vs as) : ArL K pn H' Z' vs as := by
  induction h with
  | nil => exact .nil
  | v a _ ih => exact .v (Dn.keep k hz _ _ a) ih
  | pen a _ ih => exact .pen a ih
  | scr a _ ih => exact .scr (a.keep k hz) ih
/-- a def's promise over deep values -/
def spC (C : Ct) (m : Nat) (K : PySem.W.Frag) : Sp := fun vs H Q _ => ∃ as pn Z tb, ArL K pn H Z vs as ∧ (∀ a, Z a → H a ≠ none) ∧ (∀ a ∈ pn, Z a ∧ PenOk K H Z a) ∧ Bd (m + tb) pn H ∧ C as (fun d k => k ≠ .bor ∧ ∀ v H', HStep tb pn H H' → RX K pn H H' Z v d k → Q v H') XF
def MonoA (w : En → (List Ar → Bool → Prop) → Prop) : Prop := ∀ ρ Q Q', (∀ as b, Q as b → Q' as b) → w ρ Q → w ρ Q'
def tAr (K : PySem.W.Frag) (c : Nat) (w : En → (List Ar → Bool → Prop) → Prop) : TA := fun σ H Q => ∃ H0 B pn fr ρ Z tb, EnvOk K H0 B pn fr Z (c + tb) σ ρ H ∧ w ρ fun as b => ∀ vs H' Z', HStep tb pn H H' → (∀ a, Z' a → Z a) → (∀ a ∈ pn, Z' a) → (b = false → ∀ a, Z a → Z' a) → ArL K pn H' Z' vs as → Q vs H'
theorem r_nil : PA X [] (tAr X.K 0 fun _ Q => Q [] false) := PA.weak pa_nil fun σ H Q ⟨_, _, pn, _, _, Z, tb, ok, w⟩ => w [] H Z (HStep.refl (ok.bd.less (by omega))) (fun _ z => z) ok.pnz (fun _ _ z => z) .nil
theorem r_ex {ca cs : Nat} {e : Expr} {es : List Expr} {wa : En → VQ → Prop} {ws : En → (List Ar → Bool → Prop) → Prop} (hs : starEach (e :: es) X.env = (false, eval e X.env) :: starEach es X.env) (ma : MonoW wa) (ms : MonoA ws) (ha : PE X e (tX X.K ca wa)) (hb : PA X es (tAr X.K cs ws)) :
    PA X (e :: es) (tAr X.K (ca + cs) fun ρ Q => wa ρ fun x k => k ≠ .bor ∧ ws ρ fun xs c => Q (.v x :: xs) c) := by
  refine PA.weak (pa_cons ha hb hs) fun σ H Q ⟨H0, B, pn, fr, ρ, Z, tb, ok, w⟩ => ?_
  refine ⟨H0, B, pn, fr, ρ, Z, (cs + tb), ok.lt (by omega), ma _ _ _ (fun d k q0 x H1 s1 r1 => ⟨H0, B, pn, fr, ρ, Z, _, ok.to s1, ms _ _ _ (fun as b q vs H2 Z' s2 z1 z2 z3 r2 => ?_) q0.2⟩) w⟩
  exact q (x :: vs) H2 Z' (s1.trans s2) z1 z2 z3 (.v (Dn.keep (keepZ s2 ok.pnz) (fun b z => .inl (z1 b z)) _ _ (r1.dn q0.1 ok.zt)) r2)
theorem r_sl {cs : Nat} {i : Nat} {x : Str} {pos : Pos} {es : List Expr} {ws : En → (List Ar → Bool → Prop) → Prop} (hN : X.N[i]? = some x) (hv : Vis X.env.scope x) (hd : (x == ("__debug__" : Str)) = false) (hcd : (x == ("__classdict__" : Str)) = false) (ms : MonoA ws) (hb : PA X es (tAr X.K cs ws)) :
    PA X (.Name x pos :: es) (tAr X.K (cs) fun ρ Q => match ρ[i]? with
      | some (.val d) => ws ρ fun xs c => Q (.v d :: xs) c
      | some (.own d) => ws ρ fun xs _ => Q (.v d :: xs) true
      | some .pen => ws ρ fun xs c => Q (.pen :: xs) c
      | some (.scr n) => ws ρ fun xs c => Q (.scr n :: xs) c
      | _ => False) := by
  refine PA.weak (pa_cons (pe_var (i := i) hN hv hd hcd) hb rfl) fun σ H Q ⟨H0, B, pn, fr, ρ, Z, tb, ok, w⟩ => ?_
  dsimp only at w
  split at w
  · rename_i d e
    obtain ⟨v, e1, n⟩ := ok.sl i _ e
    refine ⟨v, e1, H0, B, pn, fr, ρ, Z, tb, ok, ms _ _ _ (fun as b q vs H2 Z' s2 z1 z2 z3 r2 => ?_) w⟩
    exact q (v :: vs) H2 Z' s2 z1 z2 z3 (.v (Dn.keep (keepZ s2 ok.pnz) (fun b z => .inl (z1 b z)) _ _ n) r2)
  · rename_i d e
    obtain ⟨a, e1, ha, _, hp, ho⟩ := ok.sl i _ e
    refine ⟨.ref a, e1, H0, B, pn, fr, ρ, Z, tb, ok, ms _ _ _ (fun as b q vs H2 Z' s2 z1 z2 z3 r2 => ?_) w⟩
    refine q (.ref a :: vs) H2 (fun c => Z' c ∧ c ≠ a) s2 (fun c z => z1 c z.1) (fun c hc => ⟨z2 c hc, fun z => hp (by rw [← z]; exact hc)⟩) (fun z => nomatch z) (.v ?_ (r2.keep (fun b u n e => e) fun b z => .inl z.1))
    refine OwnAt.dn ?_ fun z => z.2 rfl
    exact ho.keep (keepZ s2 ok.pnz) (fun b z => .inl (z1 b z.1)) fun u q => s2.keep a u hp q
  · rename_i e
    obtain ⟨a, e1, ha⟩ := ok.sl i _ e
    refine ⟨.ref a, e1, H0, B, pn, fr, ρ, Z, tb, ok, ms _ _ _ (fun as b q vs H2 Z' s2 z1 z2 z3 r2 => ?_) w⟩
    exact q (.ref a :: vs) H2 Z' s2 z1 z2 z3 (.pen ha r2)
  · rename_i n e
    obtain ⟨a, ns, e1, ha, rfl⟩ := ok.sl i _ e
    refine ⟨.ref a, e1, H0, B, pn, fr, ρ, Z, tb, ok, ms _ _ _ (fun as b q vs H2 Z' s2 z1 z2 z3 r2 => ?_) w⟩
    exact q (.ref a :: vs) H2 Z' s2 z1 z2 z3 (.scr (ha.keep (keepZ s2 ok.pnz) (fun b z => .inl (z1 b z))) r2)
  · exact w.elim
theorem own_noscal {K : PySem.W.Frag} {H : Hp} {Z : Addr → Prop} {a : Addr} {d : D} (h : OwnAt K H Z a d) : scal d ≠ true := by
  rcases h with ⟨_, _, rfl, _⟩ | ⟨_, _, rfl, _⟩ | ⟨_, _, rfl, _⟩ <;> exact fun z => nomatch z
theorem call_sp {cs m : Nat} {C : Ct} (hC : ∀ as Q Q' E E', (∀ d k, Q d k → Q' d k) → (∀ e, E e → E' e) → C as Q E → C as Q' E') {ws : En → (List Ar → Bool → Prop) → Prop} (ms : MonoA ws) {σ : L2.St} {H : Hp} {Q : VK} {E : XK}
    (h : tX X.K (cs + m) (fun ρ Q => ws ρ fun as b => C as (fun d k => (b = true → scal d = true) ∧ k ≠ .bor ∧ Q d k) XF) σ H Q) : tCall (spC C m X.K) [] E (tAr X.K cs ws) σ H Q := by
  obtain ⟨H0, B, pn, fr, ρ, Z, tb, ok, w⟩ := h
  refine ⟨H0, B, pn, fr, ρ, Z, (m + tb), ok.lt (by omega), ms _ _ _ (fun as b q vs H1 Z' s1 z1 z2 z3 r1 => ?_) w⟩
  have ok1 := ok.to s1
  show spC C m X.K (vs ++ []) H1 Q E
  rw [List.append_nil]
  refine ⟨as, pn, Z', tb, r1, fun a z => ok1.zt a (z1 a z), fun a ha => ⟨z2 a ha, ?_⟩, ok1.bd, hC _ _ _ _ _ (fun d k q => ⟨q.2.1, fun v H' s2 rx => q.2.2 v H' (s1.trans s2) (RX.back ?_ s1)⟩) (fun _ z => z) q⟩
  · obtain ⟨c, i, r, ns, h1, h2, e, hn⟩ := (ok1.pz a ha).2
    exact ⟨c, i, r, ns, h1, h2, e, hn.weak z1⟩
  · cases b with
    | false =>
      have z3 := z3 rfl
      cases k with
      | shr => exact Dn.weak rx z3
      | own =>
        obtain ⟨a, e, n, o⟩ := rx
        exact ⟨a, e, n, o.keep (fun _ _ _ e => e) (fun c z => z.elim (fun z => .inl (.inl (z3 c z))) fun z => .inl (.inr z)) fun _ e => e⟩
      | bor => exact absurd rfl q.2.1
    | true =>
      have sc := q.1 rfl
      cases k with
      | shr => exact Dn.scal_any rx sc
      | own =>
        obtain ⟨a, e, n, o⟩ := rx
        exact absurd sc (own_noscal o)
      | bor => exact absurd rfl q.2.1
theorem y_call {cs m : Nat} {j k : Nat} {C : Ct} {f : Str} {ps : List Str} {p pos : Pos} {e : Expr} {es : List Expr} {ws : En → (List Ar → Bool → Prop) → Prop} (hC : ∀ as Q Q' E E', (∀ d k, Q d k → Q' d k) → (∀ e, E e → E' e) → C as Q E → C as Q' E')
    (c : Cl X.prog X.w X.K X.mg X.base CX0 k f ps (spC C m X.K)) (hr : Room j X.A) (hgd : X.A.guards = some []) (hk : k ≤ j) (gl : Gl X f) (hd : (f == ("__debug__" : Str)) = false) (he : starEach (e :: es) X.env = (false, eval e X.env) :: starEach es X.env) (hpl : (backTo pos (starEach es X.env)).any (·.1) = false)
    (ms : MonoA ws) (ha : PA X (e :: es) (tAr X.K cs ws)) : PE X (.Call (.Name f p) (e :: es) [] pos) (tX X.K (cs + m) fun ρ Q => ws ρ fun as b => C as (fun d k => (b = true → scal d = true) ∧ k ≠ .bor ∧ Q d k) XF) :=
  (pe_cl c hr hgd hk gl pass0 ha hd he hpl).weak fun _ _ _ h => call_sp hC ms h
theorem y_call0 {m : Nat} {j k : Nat} {C : Ct} {f : Str} {ps : List Str} {p pos : Pos} (hC : ∀ as Q Q' E E', (∀ d k, Q d k → Q' d k) → (∀ e, E e → E' e) → C as Q E → C as Q' E')
    (c : Cl X.prog X.w X.K X.mg X.base CX0 k f ps (spC C m X.K)) (hr : Room j X.A) (hgd : X.A.guards = some []) (hk : k ≤ j) (gl : Gl X f) (hd : (f == ("__debug__" : Str)) = false) :
    PE X (.Call (.Name f p) [] [] pos) (tX X.K (0 + m) fun ρ Q => C [] (fun d k => (false = true → scal d = true) ∧ k ≠ .bor ∧ Q d k) XF) :=
  (pe_cl0 c hr hgd hk gl pass0 hd).weak fun σ H Q h => by
    obtain ⟨H0, B, pn, fr, ρ, Z, tb, ok, w⟩ := h
    refine ⟨[], pn, Z, tb, .nil, ok.zt, ok.pz, ok.bd.less (by omega), hC _ _ _ _ _ (fun d k q => ⟨q.2.1, q.2.2⟩) (fun _ z => z) w⟩
/-- list(range(..)) -/
theorem rng_eq : ∀ (n : Nat) (a : Int), rng a n = (List.range n).map fun i => PyData.int (a + (i : Nat))
  | 0, _ => rfl
  | n + 1, a => by
    rw [rng, rng_eq n (a + 1), List.range_succ_eq_map, List.map_cons, List.map_map]
    congr 1
    · simp
    · apply List.map_congr_left
      intro i _
      show PyData.int (a + 1 + (i : Nat)) = PyData.int (a + ((i + 1 : Nat) : Int))
      congr 1
      omega
theorem dnl_map {K : PySem.W.Frag} {H : Hp} {Z : Addr → Prop} (f : Nat → Int) : ∀ l : List Nat, DnL K H Z (l.map fun i => V.int (f i)) (l.map fun i => PyData.int (f i))
  | [] => .nil
  | i :: r => .cons (.int _) (dnl_map f r)
theorem dnl_rg {K : PySem.W.Frag} {H : Hp} {Z : Addr → Prop} (a b : Int) : DnL K H Z (rgV a b) (rng a (b - a).toNat) := by
  rw [rng_eq]
  exact dnl_map (fun i => a + (i : Nat)) _
theorem y_lrg1 {ca : Nat} {a : Expr} {wa : En → VQ → Prop} {p p2 pos pos2 : Pos} (hc : X.calm = true) (g1 : Gl X "list") (m1 : X.mg "list" = none) (g2 : Gl X "range") (m2 : X.mg "range" = none) (hs : starEach [a] X.env = [(false, eval a X.env)]) (ma : MonoW wa) (ha : PE X a (tX X.K ca wa)) :
    PE X (.Call (.Name "list" p) [.Call (.Name "range" p2) [a] [] pos2] [] pos) (tX X.K ca fun ρ Q => wa ρ fun x _ => match x with | .int j => RgC 0 j ∧ Q (.list (rng 0 (j - 0).toNat)) .own | _ => False) := by
  refine PE.weak (pe_listRg hc g1 m1 (prg_1 g2 m2 ha hs)) fun σ H Q ⟨H0, B, pn, fr, ρ, Z, tb, ok, w⟩ => ?_
  refine ⟨H0, B, pn, fr, ρ, Z, tb, ok, ma _ _ _ (fun d k q x H1 s1 r1 => ?_) w⟩
  cases d with
  | int j => exact ⟨j, (r1.dr ok.pnt).int, q.1, fun p np => q.2 _ _ (s1.trans ((ok.to s1).ss (M.same_upd np))) (RX.back (rx_lst np (dnl_rg 0 j)) s1)⟩
  | _ => exact q.elim
theorem y_lrg {ca cb : Nat} {a b : Expr} {wa wb : En → VQ → Prop} {p p2 pos pos2 : Pos} (hc : X.calm = true) (g1 : Gl X "list") (m1 : X.mg "list" = none) (g2 : Gl X "range") (m2 : X.mg "range" = none) (hs : starEach [a, b] X.env = (false, eval a X.env) :: starEach [b] X.env) (hs2 : starEach [b] X.env = [(false, eval b X.env)]) (ma : MonoW wa) (mb : MonoW wb) (ha : PE X a (tX X.K ca wa)) (hb : PE X b (tX X.K cb wb)) :
    PE X (.Call (.Name "list" p) [.Call (.Name "range" p2) [a, b] [] pos2] [] pos) (tX X.K (ca + cb) fun ρ Q => wa ρ fun x _ => wb ρ fun y _ => match x, y with | .int i, .int j => RgC i j ∧ Q (.list (rng i (j - i).toNat)) .own | _, _ => False) := by
  refine PE.weak (pe_listRg hc g1 m1 (prg_2 g2 m2 ha hb hs hs2 (by rw [hs2]; rfl))) fun σ H Q ⟨H0, B, pn, fr, ρ, Z, tb, ok, w⟩ => ?_
  refine ⟨H0, B, pn, fr, ρ, Z, (cb + tb), ok.lt (by omega), ma _ _ _ (fun d k q x H1 s1 r1 => ⟨H0, B, pn, fr, ρ, Z, _, ok.to s1, mb _ _ _ (fun e k' q y H2 s2 r2 => ?_) q⟩) w⟩
  cases d with
  | int i =>
    cases e with
    | int j => exact ⟨i, j, (r1.dr ok.pnt).int, (r2.dr (ok.to s1).pnt).int, q.1, fun p np => q.2 _ _ ((s1.trans s2).trans (((ok.to s1).to s2).ss (M.same_upd np))) (RX.back (rx_lst np (dnl_rg i j)) (s1.trans s2))⟩
    | _ => exact q.elim
  | _ => exact q.elim
/-- sep.join(a list of texts) -/
theorem y_join {co ca : Nat} {apos pos : Pos} {o e : Expr} {wo wa : En → VQ → Prop} (mo : MonoW wo) (ma : MonoW wa) (ho : PE X o (tX X.K co wo)) (he : PE X e (tX X.K ca wa)) (hs : starEach [e] X.env = [(false, eval e X.env)]) (hbase : attributeBase o "join" X.env (eval o X.env) = eval o X.env) (hline : (apos.endLine == pos.line) = true) :
    PE X (.Call (.Attribute o "join" apos) [e] [] pos) (tX X.K (co + ca) fun ρ Q => wo ρ fun x _ => recvB .join x = true ∧ wa ρ fun y _ => (mtD .join x [y]).to Q) := by
  refine PE.weak (pe_join ho he hs hbase hline) fun σ H Q ⟨H0, B, pn, fr, ρ, Z, tb, ok, w⟩ => ?_
  refine ⟨H0, B, pn, fr, ρ, Z, (ca + tb), ok.lt (by omega), mo _ _ _ (fun d k q x H1 s1 r1 => ?_) w⟩
  obtain ⟨q1, q2⟩ := q
  cases d with
  | str a =>
    rw [(r1.dr ok.pnt).str]
    refine ⟨⟨a, rfl⟩, H0, B, pn, fr, ρ, Z, _, ok.to s1, ma _ _ _ (fun e k' q y H2 s2 r2 => ?_) q2⟩
    cases e with
    | list ds =>
      obtain ⟨b, ys, rfl, s3, n3⟩ := (r2.dr (ok.to s1).pnt).list
      simp only [mtD] at q
      cases es : strsD ds with
      | none => rw [es] at q; exact q.elim
      | some l =>
        rw [es] at q
        have ev := strs_vals n3 es
        subst ev
        refine ⟨a, b, l, rfl, rfl, .inl (SqL.of s3), ?_, q.2 _ H2 (s1.trans s2) (.str _)⟩
        have := q.1
        rw [Nat.mul_comm]
        exact this
    | _ => exact q.elim
  | _ => cases q1
end
end Y

namespace Y
open PySem PySem.Spec PyProof.Rows L2 M
/-! ### x[::-1], a list or a text -/
section
variable {X : Cx}
def tRev2 (K : PySem.W.Frag) (te : TE) : TE := fun σ H Q => te σ H fun x H1 => (∃ a xs, x = .ref a ∧ SqL K H1 a xs ∧ ∀ p, H1 p = none → Q (.ref p) (upd H1 p (.lst xs.reverse))) ∨ (∃ z, x = .str z ∧ z.length ≤ sizeLine ∧ Q (.str ⟨z.cps.toList.reverse.toArray⟩) H1)
theorem pe_rev2 {e : Expr} {te : TE} {k : Nat} {p1 p2 p3 pos : Pos} (he : PE X e te) : PE X (.Subscript e (.Slice none none (some (.UnaryOp .USub (.Constant (.int 1) k p1) p2)) p3) pos) (tRev2 X.K te) := by
  refine ⟨fun pins s σ H Q I h => ?_⟩
  refine Subscript_ (thn (he.run pins s σ H _ I h) fun v s1 ⟨x, H1, I1, r1, q1⟩ => ?_)
  have hst : PO X (some (.UnaryOp .USub (.Constant (.int 1) k p1) p2)) (tPart (tUn (rU fun i => .int (-i)) (tC (.int 1)))) := po_some (pe_un un_neg pe_int)
  refine wpAny_Slice (thn (po_none.run pins s1 σ H1 (fun o H2 => o = none ∧ H2 = H1) I1 ⟨rfl, rfl⟩) fun vl s2 ⟨l, H2, I2, pl, el, e2⟩ => ?_)
  subst el e2
  refine thn (po_none.run pins s2 σ H2 (fun o H3 => o = none ∧ H3 = H2) I2 ⟨rfl, rfl⟩) fun vu s3 ⟨u, H3, I3, pu, eu, e3⟩ => ?_
  subst eu e3
  refine thn (hst.run pins s3 σ H3 (fun o H4 => o = some (-1) ∧ H4 = H3) I3 ⟨1, rfl, -1, rfl, rfl, rfl⟩) fun vs s4 ⟨o, H4, I4, ps, eo, e4⟩ => ?_
  subst eo e4
  have I5 : Inv X pins σ H4 { s4 with heap := s4.heap.push { cls := .type "slice", data := .fields #[vl, vu, vs] } } := I4.kept (t' := s4.toks) fun b ob q => Heap.get?_push_of_some _ q
  rcases q1 with ⟨a, xs, rfl, hx, q⟩ | ⟨z, rfl, hz, q⟩
  · cases r1
    obtain ⟨its, r, ht, hz⟩ := I5.list hx
    have hlen := r.length
    show wpAny (model X.prog X.w) X.A (subscriptTail e (.Slice none none (some (.UnaryOp .USub (.Constant (.int 1) k p1) p2)) p3) (.ref a) (.ref s4.heap.objs.size)) (EP X pins σ Q) X.xe { s4 with heap := s4.heap.push { cls := .type "slice", data := .fields #[vl, vu, vs] } }
    refine tail_any (ops := [.ref a, .ref s4.heap.objs.size]) ht.isList.typeIs (PySem.slot_list_getitem.lookup) ?_ (by with_unfolding_all rfl)
    refine wpAny_getItem_list_slice ht.isList (Heap.IsSliceOf.new _ vl vu vs) pl pu ps (by decide) ?_ (by rw [List.size_toArray]; omega)
    rw [PySem.W.krv_pick]
    refine ⟨.ref _, _, I5.laid (t' := s4.toks) (o := .lst xs.reverse) (fun b ob q => Heap.get?_push_of_some _ q) (Nat.le_refl _) ?_, rfl, q _ (I5.hok.fresh (Nat.le_refl _))⟩
    exact ⟨by rw [List.length_reverse]; exact hz, _, 0, r.reverse, Heap.get?_push_size _ rfl⟩
  · obtain ⟨t, rfl⟩ := r1
    obtain ⟨l, rfl, el⟩ := IsPart.raw pl
    obtain ⟨u, rfl, eu⟩ := IsPart.raw pu
    obtain ⟨w, rfl, ew⟩ := IsPart.raw ps
    show wpAny (model X.prog X.w) X.A (subscriptTail e (.Slice none none (some (.UnaryOp .USub (.Constant (.int 1) k p1) p2)) p3) (.str z t) (.ref s4.heap.objs.size)) (EP X pins σ Q) X.xe _
    refine tail_any (ops := [.str z t, .ref s4.heap.objs.size]) (typeIs_str _ _ _) (F.slot_str_getitem.lookup) ?_ (by with_unfolding_all rfl)
    refine wpAny_getItem_str_slice (l := l) (u := u) (st := w) ⟨_, Heap.get?_push_size _ rfl, rfl, rfl⟩ (by rw [ew]; rfl) ?_
    have pk : (PySem.slicePicked z l u w).filterMap (z.cps[·]?) = z.cps.toList.reverse := by
      unfold PySem.slicePicked
      rw [el, eu, ew]
      show (sliceRange ((z.cps.size : Int) - 1) (-1) (-1)).filterMap (z.cps[·]?) = _
      rw [PySem.W.krv_sliceRange, PySem.W.krv_range, List.filterMap_reverse, PySem.W.krv_all]
    have sm : PySem.sliceMade z t l u w = .str ⟨z.cps.toList.reverse.toArray⟩ := by
      unfold PySem.sliceMade
      rw [pk, ew]
      rfl
    rw [sm]
    have hl : (⟨z.cps.toList.reverse.toArray⟩ : Str).length ≤ sizeLine := by
      have : (⟨z.cps.toList.reverse.toArray⟩ : Str).length = z.length := by simp [Str.length]
      rw [this]; exact hz
    exact ⟨hl, .str _, H4, I5.tok _, ⟨_, rfl⟩, q⟩
/-- x[::-1] by deep values -/
theorem y_rev {ca : Nat} {e : Expr} {wa : En → VQ → Prop} {k : Nat} {p1 p2 p3 pos : Pos} (ma : MonoW wa) (he : PE X e (tX X.K ca wa)) :
    PE X (.Subscript e (.Slice none none (some (.UnaryOp .USub (.Constant (.int 1) k p1) p2)) p3) pos) (tX X.K ca fun ρ Q => wa ρ fun x _ => match x with
      | .list ds => Q (.list ds.reverse) .own
      | .str z => z.length ≤ sizeLine ∧ Q (.str ⟨z.cps.toList.reverse.toArray⟩) .shr
      | _ => False) := by
  refine (pe_rev2 he).weak fun σ H Q ⟨H0, B, pn, fr, ρ, Z, tb, ok, w⟩ => ?_
  refine ⟨H0, B, pn, fr, ρ, Z, tb, ok, ma _ _ _ (fun d k q x H1 s1 r1 => ?_) w⟩
  cases d with
  | list ds =>
    obtain ⟨a, xs, rfl, sx, n⟩ := (r1.dr ok.pnt).list
    exact .inl ⟨a, xs, rfl, SqL.of sx, fun p np => q _ _ (s1.trans ((ok.to s1).ss (M.same_upd np))) (RX.back (rx_lst np n.reverse) s1)⟩
  | str z => exact .inr ⟨z, (r1.dr ok.pnt).str, q.1, q.2 _ H1 s1 (.str _)⟩
  | _ => exact q.elim
end
end Y

namespace L2
open PySem PySem.Spec PyProof.Rows
/-! ### enumerate(a text) -/
def Ites (x : Str) : It := ⟨fun i _ => i < x.cps.size, fun i H v H' => ∃ T c, v = .ref T ∧ H T = none ∧ H' = upd H T (.tup [.int (i : Nat), .str ⟨#[c]⟩]) ∧ x.cps[i]? = some c, fun i _ => x.cps.size ≤ i⟩
theorem turn_enumS {P : Program} {w : World} {K : PySem.W.Frag} {elts : List Expr} {kk : Nat} {tpos : Pos} (x : Str) (t : Tok) (e it : Addr) :
    Turn P w K (.Tuple elts kk tpos) (Ites x) [e, it] e (fun i h => (∃ old, IsEnum h e it ((i : Nat) : Int) old) ∧ h.IsStrIter it (strIterType x) x t i ∧ e ≠ it ∧ i ≤ x.cps.size) where
  mem := by simp
  obj := fun i h st b hb => by
    obtain ⟨⟨old, he⟩, ⟨o, ho, hc, hd⟩, _⟩ := st
    have e' : b = e ∨ b = it := by simpa using hb
    rcases e' with z | z
    · rw [z]; exact ⟨_, he, fun v q => nomatch q⟩
    · rw [z]; exact ⟨o, ho, fun v q => by rw [hd] at q; cases q⟩
  keep := fun i h h' st k => let ⟨⟨old, he⟩, ⟨o, ho, r⟩, hne⟩ := st; ⟨⟨old, k e (by simp) _ he⟩, ⟨o, k it (by simp) o ho, r⟩, hne⟩
  item := by
    intro X hP hw hK hc i pins s σ H E I hf st hg
    subst hP hw hK
    obtain ⟨⟨old, he⟩, hit, hne, hle⟩ := st
    have D : Draws X.prog X.w X.A.in1 it [it] x.cps.size (fun i v => ∃ c u, x.cps[i]? = some c ∧ v = .str ⟨#[c]⟩ u) (fun i h => h.IsStrIter it (strIterType x) x t i) := by
      unfold strIterType
      split
      · exact Draws.strAscii (show X.A.in1.handled = none from I.ok.hd hc) it x t
      · exact Draws.strWide (show X.A.in1.handled = none from I.ok.hd hc) it x t
    have hel : e < s.heap.objs.size := Heap.lt_size he
    have hil : it < s.heap.objs.size := by obtain ⟨_, q, _⟩ := hit; exact Heap.lt_size q
    refine wpAny_pyNext_enum_itemD D he hit hg hne (by simpa using hne) fun u h' tk hP ho hit' hT hsz hk => ?_
    obtain ⟨c, u', hcx, rfl⟩ := hP
    refine ⟨_, rfl, wpAny_letOwnedTupleGo_enum (s := { s with heap := h', toks := tk + 1 }) ho fun h'' he' sb => ?_⟩
    have hT2 : h''.get? s.heap.objs.size = some { cls := .type "tuple", data := .seq #[.int i tk, .str ⟨#[c]⟩ u'] } := (sb.2 _ (Nat.ne_of_gt hel)).trans hT
    have new : ObjOk X.prog X.w (upd H s.heap.objs.size (.tup [.int (i : Nat), .str ⟨#[c]⟩])) h'' s.heap.objs.size (.tup [.int (i : Nat), .str ⟨#[c]⟩]) :=
      ⟨by show 2 ≤ sizeLine; decide, [.int i tk, .str ⟨#[c]⟩ u'], .cons ⟨_, rfl⟩ (.cons ⟨_, rfl⟩ .nil), ⟨_, hT2, rfl, _, rfl⟩⟩
    have I1 : Inv X pins σ (upd H s.heap.objs.size (.tup [.int (i : Nat), .str ⟨#[c]⟩])) { s with heap := h'', toks := tk + 1 } :=
      I.turnedNew (ch := [e, it]) (fun b ob hb q => (sb.2 b (fun z => hb (by simp [z]))).trans (hk b ob (fun z => hb (by simp [z])) (fun z => hb (by simp [z])) q)) hf (Nat.le_refl _) new
    refine ⟨.ref s.heap.objs.size, _, I1, rfl, ⟨_, c, rfl, I.hok.fresh (Nat.le_refl _), rfl, hcx⟩, ⟨⟨.str ⟨#[c]⟩ u', ?_⟩, ?_, hne, hg⟩, fun b hb => ?_⟩
    · have e1 : ((i + 1 : Nat) : Int) = (i : Int) + 1 := by omega
      rw [e1]; exact he'
    · obtain ⟨o, h1, h2⟩ := hit'
      exact ⟨o, (sb.2 it (Ne.symm hne)).trans h1, h2⟩
    · have hb' : b < s.heap.objs.size := by
        have e' : b = e ∨ b = it := by simpa using hb
        rcases e' with z | z
        · rw [z]; exact hel
        · rw [z]; exact hil
      rw [upd_ne (Nat.ne_of_lt hb')]
      exact (hf b hb).1
  done := by
    intro X hP hw hK hc i pins s σ H E I hf st hg
    subst hP hw hK
    obtain ⟨⟨old, he⟩, hit, hne, hle⟩ := st
    have ei : i = x.cps.size := Nat.le_antisymm hle hg
    subst ei
    obtain ⟨f0, f1, f2, f3, f4, f5⟩ := hf it (by simp)
    have D : Draws X.prog X.w X.A.in1 it [it] x.cps.size (fun i v => ∃ c u, x.cps[i]? = some c ∧ v = .str ⟨#[c]⟩ u) (fun i h => h.IsStrIter it (strIterType x) x t i) := by
      unfold strIterType
      split
      · exact Draws.strAscii (show X.A.in1.handled = none from I.ok.hd hc) it x t
      · exact Draws.strWide (show X.A.in1.handled = none from I.ok.hd hc) it x t
    exact wpAny_pyNext_enum_endD D he hit fun h' eb => ⟨rfl, I.turned (t' := s.toks) (fun b o hb q => eb b o hb q) f0 f1 f3 f4 f5⟩
  self := fun A i s Q E st h => let ⟨⟨_, he⟩, _⟩ := st; wpAny_pyIter_enum he h
def iEnumS (ta : TA) : TI := fun σ H R => ta σ H fun vs H1 => ∃ x, vs = [.str x] ∧ R (Ites x) H1
end L2
namespace Y
open PySem PySem.Spec PyProof.Rows L2 M
theorem jok_enumS {K : PySem.W.Frag} {pn : List Addr} {z : Str} {fv : List (V × D)} : JOk K pn (Ites z) fv (enumL (z.cps.toList.map fun c => .str ⟨#[c]⟩)) := by
  intro H Z i zt h
  rw [enum_len]
  refine ⟨fun e => ?_, fun hi => ⟨?_, fun y H2 hy => ?_⟩⟩
  · show z.cps.size ≤ i
    simp at e; omega
  · show i < z.cps.size
    simpa using hi
  · obtain ⟨T, c, rfl, hT, rfl, hc⟩ := hy
    exact ⟨M.same_upd hT, _, enum_get _ i (.str ⟨#[c]⟩) (by simp [hc]), new_pair zt hT (.int _) (.str _)⟩
section
variable {X : Cx}
/-- enumerate(e), e a list or a text -/
theorem i_enum2 {ca : Nat} {e : Expr} {elts : List Expr} {kk : Nat} {tp : Pos} {wa : En → VQ → Prop} {nb : Bool} {p pos : Pos} (gl : Gl X "enumerate") (hm : X.mg "enumerate" = none) (hs : starEach [e] X.env = [(false, eval e X.env)]) (ma : MonoW wa) (hb : nb = true → ∀ ρ Q, wa ρ Q → wa ρ fun d k => k ≠ .bor ∧ Q d k) (h : PE X e (tX X.K ca wa)) :
    PI X (.Tuple elts kk tp) (.Call (.Name "enumerate" p) [e] [] pos) (tI X.K nb ca fun ρ Q => wa ρ fun x _ => match listS x with | some ds => Q (enumL ds) | none => False) := by
  refine ⟨fun pins s σ H R I ⟨H0, B, pn, fr, ρ, Z, tb, ok, w⟩ => ?_⟩
  have w' : wa ρ fun x k => (nb = true → k ≠ .bor) ∧ match listS x with | some ds => ∀ J H' fv, HStep tb pn H H' → (∀ p ∈ fv, Dr X.K pn H' Z p.1 p.2 ∧ (nb = true → Dn X.K H' Z p.1 p.2)) → JOk X.K pn J fv (enumL ds) → R J H' | none => False := by
    cases nb with
    | true => exact ma _ _ _ (fun d k q => ⟨fun _ => q.1, q.2⟩) (hb rfl _ _ w)
    | false => exact ma _ _ _ (fun d k q => ⟨(fun z => nomatch z), q⟩) w
  refine Call_ (ld_blt I gl hm boot_enumerate (PyProof.Rows.callWith_type1 (thn ((pa_cons h pa_nil hs).run pos pins s σ H (fun vs H1 => ∃ v d, vs = [v] ∧ Dr X.K pn H1 Z v d ∧ ∃ ds, listS d = some ds ∧ ∀ J fv, (∀ p ∈ fv, p = (v, d)) → JOk X.K pn J fv (enumL ds) → R J H1) I ⟨H0, B, pn, fr, ρ, Z, tb, ok, ma _ _ _ (fun d k q v H1 s1 r1 => ?_) w'⟩) fun us s1 ⟨vs, H1, I1, r1, q1⟩ => ?_) hs rfl))
  · have hd := r1.dr ok.pnt
    refine ⟨v, d, rfl, hd, ?_⟩
    obtain ⟨q1, q2⟩ := q
    split at q2
    · rename_i ds e1
      refine ⟨ds, e1, fun J fv hfv hJ => q2 J H1 fv s1 (fun p hp => ?_) hJ⟩
      have ep := hfv p hp
      subst ep
      exact ⟨hd, fun z => r1.dn (q1 z) ok.zt⟩
    · exact q2.elim
  · obtain ⟨v, d, rfl, hd, ds, e1, q⟩ := q1
    obtain ⟨u, rfl, rv⟩ := vals1 r1
    cases d with
    | list ds' =>
      have e9 : ds' = ds := by simpa [listS] using e1
      subst e9
      obtain ⟨a, xs, rfl, s2, n2⟩ := hd.list
      cases rv
      obtain ⟨its, rv, p', hz⟩ := I1.list (SqL.of s2)
      refine call_enumerate_list p'.isList fun h' he hit hsz hk => wpAny_pyIter_enum he ?_
      have I2 : Inv X pins σ H1 { s1 with heap := h' } := I1.kept (t' := s1.toks) hk
      refine ⟨s1.heap.objs.size + 1, [s1.heap.objs.size + 1, s1.heap.objs.size], _, _, H1, rfl, I2, turn_enum a (s1.heap.objs.size + 1) s1.heap.objs.size, ⟨⟨.none, he⟩, hit, Nat.succ_ne_self _⟩, fun b hb => ?_, q _ [(.ref a, .list ds')] (fun p hp => by simpa using hp) jok_enum⟩
      have e' : b = s1.heap.objs.size + 1 ∨ b = s1.heap.objs.size := by simpa using hb
      have hle : s1.heap.objs.size ≤ b := by
        rcases e' with z | z
        · rw [z]; exact Nat.le_add_right _ _
        · rw [z]; exact Nat.le_refl _
      exact I1.fpOk hle (I1.hok.fresh hle)
    | str z =>
      cases e1
      rw [hd.str] at rv
      obtain ⟨t, rfl⟩ := rv
      refine call_enumerate_str fun h' he hit hsz hk => wpAny_pyIter_enum he ?_
      have I2 : Inv X pins σ H1 { s1 with heap := h' } := I1.kept (t' := s1.toks) hk
      refine ⟨s1.heap.objs.size + 1, [s1.heap.objs.size + 1, s1.heap.objs.size], _, _, H1, rfl, I2, turn_enumS z t (s1.heap.objs.size + 1) s1.heap.objs.size, ⟨⟨.none, he⟩, hit, Nat.succ_ne_self _, Nat.zero_le _⟩, fun b hb => ?_, q _ [] (fun p hp => nomatch hp) jok_enumS⟩
      have e' : b = s1.heap.objs.size + 1 ∨ b = s1.heap.objs.size := by simpa using hb
      have hle : s1.heap.objs.size ≤ b := by
        rcases e' with z | z
        · rw [z]; exact Nat.le_add_right _ _
        · rw [z]; exact Nat.le_refl _
      exact I1.fpOk hle (I1.hok.fresh hle)
    | _ => cases e1
end
end Y

namespace L2
open PySem PySem.Spec PyProof.Rows
theorem PS.weak {X : Cx} {s : Stmt} {t t' : TS} (h : PS X s t) (w : ∀ D σ H, t' D σ H → t D σ H) : PS X s t' := ⟨fun pins s σ H D I q => h.run pins s σ H D I (w D σ H q)⟩
theorem PSs.weak {X : Cx} {s : List Stmt} {t t' : TS} (h : PSs X s t) (w : ∀ D σ H, t' D σ H → t D σ H) : PSs X s t' := ⟨fun pins s σ H D I q => h.run pins s σ H D I (w D σ H q)⟩
end L2
namespace Y
open PySem PySem.Spec PyProof.Rows L2 M
section
variable {K : PySem.W.Frag} {H0 H H' : Hp} {B Z : Addr → Prop} {pn : List Addr} {tb tb2 : Nat} {fr : List (V × D)} {σ : L2.St} {ρ : En}
/-! ### own slots shared, made -/
theorem set_same {ρ : En} {i : Nat} {s : Sl} (h : ρ[i]? = some s) : ρ.set i s = ρ := by
  apply List.ext_getElem?
  intro j
  by_cases e : i = j
  · subst e
    have hl : i < ρ.length := (List.getElem?_eq_some_iff.mp h).1
    rw [List.getElem?_set_self hl, h]
  · rw [List.getElem?_set_ne e]
theorem dem1_ok (ok : EnvOk K H0 B pn fr Z tb σ ρ H) (i : Nat) : ∃ Z', (∀ a, Z' a → Z a) ∧ EnvOk K H0 B pn fr Z' tb σ (ρ.set i (dem1 (ρ.getD i .emp))) H := by
  by_cases hl : i < ρ.length
  · have eg : ρ[i]? = some (ρ.getD i .emp) := by simp [List.getD, hl]
    cases es : ρ.getD i .emp with
    | own d =>
      rw [es] at eg
      obtain ⟨a, e1, ha, h0, hp, ho⟩ := ok.sl i _ eg
      have we : ∀ {v d}, Dn K H Z v d → Dn K H (fun b => Z b ∧ b ≠ a) v d := fun h => h.weak fun b z => z.1
      refine ⟨fun b => Z b ∧ b ≠ a, fun b z => z.1, ok.step, fun b z => ok.zt b z.1, fun b z => ⟨ok.bz b z, fun e => ok.bt b z (by rw [e]; exact h0)⟩, ok.bt, fun b hb => ⟨⟨(ok.pz b hb).1, fun e => hp (by rw [← e]; exact hb)⟩, ?_⟩, by simpa using ok.len, fun j s e => ?_, fun j k d1 d2 b h1 h2 h3 h4 => ?_, fun p hp' => we (ok.fr p hp')⟩
      · obtain ⟨c, i, r, ns, h1, h2, e, hn⟩ := (ok.pz b hb).2
        exact ⟨c, i, r, ns, h1, h2, e, we hn⟩
      · rcases getset e with ⟨rfl, rfl, _⟩ | ⟨ne, e⟩
        · refine ⟨.ref a, e1, OwnAt.dn ?_ fun z => z.2 rfl⟩
          exact ho.keep (fun _ _ _ e => e) (fun b z => .inl z.1) fun _ e => e
        · have h := ok.sl j s e
          cases s with
          | emp => trivial
          | val d => obtain ⟨v, e2, n⟩ := h; exact ⟨v, e2, we n⟩
          | own d' =>
            obtain ⟨b, e2, hb, hb0, hbp, hbo⟩ := h
            refine ⟨b, e2, ⟨hb, fun z => ?_⟩, hb0, hbp, hbo.keep (fun _ _ _ e => e) (fun b z => .inl z.1) fun _ e => e⟩
            subst z
            exact ne (ok.inj i j d d' b eg e e1 e2)
          | pen => exact h
          | scr n => obtain ⟨b, ns, e2, h1, h2⟩ := h; exact ⟨b, ns, e2, h1.keep (fun _ _ _ e => e) (fun b z => .inl z.1), h2⟩
      · rcases getset h1 with ⟨_, z, _⟩ | ⟨n1, h1⟩
        · simp only [dem1] at z; cases z
        · rcases getset h2 with ⟨_, z, _⟩ | ⟨n2, h2⟩
          · simp only [dem1] at z; cases z
          · exact ok.inj j k d1 d2 b h1 h2 h3 h4
    | emp => exact ⟨Z, fun _ z => z, by rw [es] at eg; rw [show dem1 Sl.emp = Sl.emp from rfl, set_same eg]; exact ok⟩
    | val d => exact ⟨Z, fun _ z => z, by rw [es] at eg; rw [show dem1 (Sl.val d) = Sl.val d from rfl, set_same eg]; exact ok⟩
    | pen => exact ⟨Z, fun _ z => z, by rw [es] at eg; rw [show dem1 Sl.pen = Sl.pen from rfl, set_same eg]; exact ok⟩
    | scr n => exact ⟨Z, fun _ z => z, by rw [es] at eg; rw [show dem1 (Sl.scr n) = Sl.scr n from rfl, set_same eg]; exact ok⟩
  · refine ⟨Z, fun _ z => z, ?_⟩
    rw [List.set_eq_of_length_le (by omega)]
    exact ok
theorem dem_ok : ∀ (is : List Nat) {Z : Addr → Prop} {ρ : En}, EnvOk K H0 B pn fr Z tb σ ρ H → ∃ Z', (∀ a, Z' a → Z a) ∧ EnvOk K H0 B pn fr Z' tb σ (dem ρ is) H
  | [], Z, ρ, ok => ⟨Z, fun _ z => z, ok⟩
  | i :: is, Z, ρ, ok => by
    obtain ⟨Z1, h1, ok1⟩ := dem1_ok ok i
    obtain ⟨Z2, h2, ok2⟩ := dem_ok is ok1
    exact ⟨Z2, fun a z => h1 a (h2 a z), ok2⟩
theorem EnvOk.own (ok : EnvOk K H0 B pn fr Z tb σ ρ H) {a : Addr} {d : D} (i : Nat) (hn : H a = none) (s : HStep tb2 pn H H') (ho : OwnAt K H' (Zp Z a) a d) : EnvOk K H0 B pn fr (Zp Z a) tb2 (σ.set i (some (.ref a))) (ρ.set i (.own d)) H' := by
  have ok' := ok.more hn s ho.there
  have h0 : H0 a = none := ok.step.free hn
  have hp : a ∉ pn := fun z => ok.pnt a z hn
  have ne : ∀ (j : Nat) (e : D), ρ[j]? = some (.own e) → σ[j]? ≠ some (some (.ref a)) := fun j e h z => by
    obtain ⟨b, e1, _, _, _, h4⟩ := ok.sl j _ h
    rw [e1] at z
    cases z
    exact h4.there hn
  refine ⟨ok'.step, ok'.zt, ok'.bz, ok'.bt, ok'.pz, by simpa using ok'.len, fun j t e => ?_, fun j k d1 d2 b h1 h2 h3 h4 => ?_, ok'.fr⟩
  · rcases getset e with ⟨rfl, rfl, hl⟩ | ⟨nej, e⟩
    · rw [List.getElem?_set_self (by rw [← ok.len]; exact hl)]
      exact ⟨a, rfl, .inr rfl, h0, hp, ho⟩
    · rw [List.getElem?_set_ne nej]
      exact ok'.sl j t e
  · rcases getset h1 with ⟨e1, z, hl⟩ | ⟨n1, h1⟩
    · rcases getset h2 with ⟨e2, _⟩ | ⟨n2, h2⟩
      · rw [← e1, ← e2]
      · subst e1
        rw [List.getElem?_set_self (by rw [← ok.len]; exact hl)] at h3
        rw [List.getElem?_set_ne n2] at h4
        cases h3
        exact absurd h4 (ne k d2 h2)
    · rcases getset h2 with ⟨e2, z, hl⟩ | ⟨n2, h2⟩
      · subst e2
        rw [List.getElem?_set_self (by rw [← ok.len]; exact hl)] at h4
        rw [List.getElem?_set_ne n1] at h3
        cases h4
        exact absurd h3 (ne j d1 h1)
      · rw [List.getElem?_set_ne n1] at h3
        rw [List.getElem?_set_ne n2] at h4
        exact ok'.inj j k d1 d2 b h1 h2 h3 h4
/-- a value put into a slot -/
theorem EnvOk.sto (ok : EnvOk K H0 B pn fr Z tb σ ρ H) (i : Nat) {v : V} {d : D} {k : Kd} (s : HStep tb2 pn H H') (r : RX K pn H H' Z v d k) (hk : k ≠ .bor) : ∃ Z', EnvOk K H0 B pn fr Z' tb2 (σ.set i (some v)) (ρ.set i (slK d k)) H' := by
  cases k with
  | shr => exact ⟨Z, (ok.to s).val i r⟩
  | own =>
    obtain ⟨a, rfl, hn, ho⟩ := r
    exact ⟨_, ok.own i hn s ho⟩
  | bor => exact absurd rfl hk
/-- an own container changed -/
theorem EnvOk.chg (ok : EnvOk K H0 B pn fr Z tb σ ρ H) {i : Nat} {a : Addr} {o : HO} {d d' : D} (e : ρ[i]? = some (.own d)) (e1 : σ[i]? = some (some (.ref a))) (ha : Z a) (h0 : H0 a = none) (hp : a ∉ pn) (ho : OwnAt K (L2.upd H a o) Z a d') : EnvOk K H0 B pn fr Z tb σ (ρ.set i (.own d')) (L2.upd H a o) := by
  have kz : ∀ b u, ¬ Z b → H b = some u → L2.upd H a o b = some u := fun b u n e => by
    rw [upd_ne (fun z => n (by rw [z]; exact ha))]; exact e
  have ke : ∀ b u, b ≠ a → H b = some u → L2.upd H a o b = some u := fun b u n e => by rw [upd_ne n]; exact e
  have th : ∀ b, H b ≠ none → L2.upd H a o b ≠ none := fun b h => by
    by_cases e : b = a
    · subst e; rw [upd_same]; exact fun z => nomatch z
    · rw [upd_ne e]; exact h
  refine ⟨⟨fun b u n e => ?_, fun d hd => ?_, fun b h => th b (ok.step.there b h), ok.bd.upd hp⟩, fun b h => th b (ok.zt b h), ok.bz, ok.bt, fun b hb => ⟨(ok.pz b hb).1, ?_⟩, by simpa using ok.len, fun j s es => ?_, fun j k d1 d2 b h1 h2 h3 h4 => ?_, fun p h => Dn.keep kz (fun b z => .inl z) _ _ (ok.fr p h)⟩
  · exact ke b u (fun z => by rw [z, h0] at e; cases e) (ok.step.keep b u n e)
  · intro c i r h1 h2 e
    obtain ⟨i', r', h1', h2', e'⟩ := ok.step.pen d hd c i r h1 h2 e
    exact ⟨i', r', h1', h2', ke d _ (fun z => hp (by rw [← z]; exact hd)) e'⟩
  · obtain ⟨c, i, r, ns, h1, h2, e, hn⟩ := (ok.pz b hb).2
    exact ⟨c, i, r, ns, h1, h2, ke b _ (fun z => hp (by rw [← z]; exact hb)) e, Dn.keep kz (fun b z => .inl z) _ _ hn⟩
  · rcases getset es with ⟨rfl, rfl, _⟩ | ⟨ne, es⟩
    · exact ⟨a, e1, ha, h0, hp, ho⟩
    · have h := ok.sl j s es
      cases s with
      | emp => trivial
      | val d => obtain ⟨v, e1, h1⟩ := h; exact ⟨v, e1, Dn.keep kz (fun b z => .inl z) _ _ h1⟩
      | own d1 =>
        obtain ⟨b, e2, h1, h2, h3, h4⟩ := h
        refine ⟨b, e2, h1, h2, h3, h4.keep kz (fun c z => .inl z) fun u q => ke b u (fun z => ?_) q⟩
        subst z
        exact ne (ok.inj i j d d1 b e es e1 e2)
      | pen => exact h
      | scr n => obtain ⟨b, ns, e1, h1, h2⟩ := h; exact ⟨b, ns, e1, h1.keep kz (fun c z => .inl z), h2⟩
  · have own_of : ∀ {j : Nat} {d1 : PyData}, (ρ.set i (.own d'))[j]? = some (.own d1) → ∃ d2, ρ[j]? = some (.own d2) := fun {j d1} h => by
      rcases getset h with ⟨rfl, _, _⟩ | ⟨_, h⟩
      · exact ⟨d, e⟩
      · exact ⟨d1, h⟩
    obtain ⟨x, h1⟩ := own_of h1
    obtain ⟨y, h2⟩ := own_of h2
    exact ok.inj j k x y b h1 h2 h3 h4
theorem EnvOk.frs {fr' : List (V × D)} (ok : EnvOk K H0 B pn fr Z tb σ ρ H) (h : ∀ p ∈ fr', Dn K H Z p.1 p.2) : EnvOk K H0 B pn fr' Z tb σ ρ H := ⟨ok.step, ok.zt, ok.bz, ok.bt, ok.pz, ok.len, ok.sl, ok.inj, h⟩
end
/-! ### statements -/
def PnX (pn0 pn : List Addr) (H0 : Hp) : Prop := (∀ a ∈ pn0, a ∈ pn) ∧ ∀ a ∈ pn, a ∈ pn0 ∨ H0 a = none
def Lift (K : PySem.W.Frag) (H0 : Hp) (B : Addr → Prop) (pn0 : List Addr) (fr : List (V × D)) (tb : Nat) (P : En → Prop) : L2.St → Hp → Prop := fun σ H => ∃ pn ρ Z, PnX pn0 pn H0 ∧ EnvOk K H0 B pn fr Z tb σ ρ H ∧ P ρ
structure Fits (K : PySem.W.Frag) (H0 : Hp) (B : Addr → Prop) (pn0 : List Addr) (fr : List (V × D)) (tb : Nat) (P : Pq) (D : Ends) : Prop where
  nx : ∀ σ H, Lift K H0 B pn0 fr tb P.nx σ H → D.nx σ H
  bk : ∀ σ H, Lift K H0 B pn0 fr tb P.bk σ H → D.bk σ H
  ct : ∀ σ H, Lift K H0 B pn0 fr tb P.ct σ H → D.ct σ H
  rt : ∀ v d k H', HStep tb pn0 H0 H' → k ≠ .bor → RX K pn0 H0 H' B v d k → P.rt d k → D.rt v H'
  ex : P.ex = XF
abbrev tS (K : PySem.W.Frag) (c : Nat) (w : En → Pq → Prop) : TS := fun D σ H => ∃ H0 B pn0 fr P pn ρ Z tb, PnX pn0 pn H0 ∧ EnvOk K H0 B pn fr Z (c + tb) σ ρ H ∧ w ρ P ∧ Fits K H0 B pn0 fr tb P D
theorem PnX.hs {pn0 pn : List Addr} {H0 H : Hp} {tb : Nat} (p : PnX pn0 pn H0) (s : HStep tb pn H0 H) : HStep tb pn0 H0 H :=
  ⟨fun b o n e => s.keep b o (fun z => (p.2 b z).elim n fun e0 => by rw [e0] at e; cases e) e, fun d hd => s.pen d (p.1 d hd), s.there, s.bd.1, fun d hd => s.bd.2 d (p.1 d hd)⟩
section
variable {X : Cx}
theorem ss_nil : PSs X [] (tS X.K 0 fun ρ P => P.nx ρ) := PSs.weak pss_nil fun D σ H ⟨_, _, _, _, _, pn, ρ, Z, tb, px, ok, w, f⟩ => f.nx σ H ⟨pn, ρ, Z, px, ok.lt (by omega), w⟩
theorem ss_cons {c1 c2 : Nat} {s : Stmt} {r : List Stmt} {w1 w2 : En → Pq → Prop} (h1 : PS X s (tS X.K c1 w1)) (h2 : PSs X r (tS X.K c2 w2)) : PSs X (s :: r) (tS X.K (c1 + c2) fun ρ P => w1 ρ { P with nx := fun ρ' => w2 ρ' P }) := by
  refine PSs.weak (pss_cons h1 h2) fun D σ H ⟨H0, B, pn0, fr, P, pn, ρ, Z, tb, px, ok, w, f⟩ => ?_
  exact ⟨H0, B, pn0, fr, _, pn, ρ, Z, (c2 + tb), px, ok.lt (by omega), w, ⟨fun σ' H' ⟨pn', ρ', Z', px', ok', q⟩ => ⟨H0, B, pn0, fr, P, pn', ρ', Z', tb, px', ok', q, f⟩, fun σ' H' ⟨pn', ρ', Z', px', ok', q⟩ => f.bk σ' H' ⟨pn', ρ', Z', px', ok'.lt (by omega), q⟩, fun σ' H' ⟨pn', ρ', Z', px', ok', q⟩ => f.ct σ' H' ⟨pn', ρ', Z', px', ok'.lt (by omega), q⟩, fun v d k H' s => f.rt v d k H' (s.less (by omega)), f.ex⟩⟩
theorem s_pss {pos : Pos} : PS X (.Pass pos) (tS X.K 0 fun ρ P => P.nx ρ) := PS.weak ps_pass fun D σ H ⟨_, _, _, _, _, pn, ρ, Z, tb, px, ok, w, f⟩ => f.nx σ H ⟨pn, ρ, Z, px, ok.lt (by omega), w⟩
theorem s_never {e c : Option Expr} {pos : Pos} : PS X (.Raise e c pos) (tS X.K 0 fun _ _ => False) := PS.weak ps_never fun D σ H ⟨_, _, _, _, _, _, _, _, _, _, _, w, _⟩ => w
theorem s_brk {pos : Pos} : PS X (.Break pos) (tS X.K 0 fun ρ P => P.bk ρ) := PS.weak ps_break fun D σ H ⟨_, _, _, _, _, pn, ρ, Z, tb, px, ok, w, f⟩ => f.bk σ H ⟨pn, ρ, Z, px, ok.lt (by omega), w⟩
theorem s_cnt {pos : Pos} : PS X (.Continue pos) (tS X.K 0 fun ρ P => P.ct ρ) := PS.weak ps_continue fun D σ H ⟨_, _, _, _, _, pn, ρ, Z, tb, px, ok, w, f⟩ => f.ct σ H ⟨pn, ρ, Z, px, ok.lt (by omega), w⟩
theorem s_cond {ca cb cc : Nat} {c : Expr} {a b : List Stmt} {wc : XQ → En → (Bool → Prop) → Prop} {wa wb : En → Pq → Prop} {pos : Pos} (mc : MonoT (wc XF)) (hc : PT X c (tT X.K cc (wc XF))) (ha : PSs X a (tS X.K ca wa)) (hb : PSs X b (tS X.K cb wb)) :
    PS X (.If c a b pos) (tS X.K (ca + cb + cc) fun ρ P => wc P.ex ρ fun t => (t = true → wa ρ P) ∧ (t = false → wb ρ P)) := by
  refine PS.weak (ps_if hc ha hb) fun D σ H ⟨H0, B, pn0, fr, P, pn, ρ, Z, tb, px, ok, w, f⟩ => ?_
  dsimp only at w
  rw [f.ex] at w
  refine ⟨H0, B, pn, fr, ρ, Z, (ca + cb + tb), ok.lt (by omega), mc _ _ _ (fun t q H1 s1 => ?_) w⟩
  cases t with
  | true => exact iteT ⟨H0, B, pn0, fr, P, pn, ρ, Z, tb, px, (ok.to s1).lt (by omega), q.1 rfl, f⟩
  | false => exact iteF ⟨H0, B, pn0, fr, P, pn, ρ, Z, tb, px, (ok.to s1).lt (by omega), q.2 rfl, f⟩
/-- an expression ahead of a statement's end -/
theorem tX_st {ca : Nat} {wa : En → VQ → Prop} (ma : MonoW wa) {is : List Nat} {g : En → D → Kd → Pq → Prop} {D : Ends} {σ : L2.St} {H : Hp} {R : V → Hp → Prop}
    (h : tS X.K ca (fun ρ P => wa (dem ρ is) fun d k => g (dem ρ is) d k P) D σ H)
    (hR : ∀ H0 B pn0 fr P pn ρ Z tb tb' v d k H', PnX pn0 pn H0 → EnvOk X.K H0 B pn fr Z tb' σ ρ H → HStep tb pn H H' → RX X.K pn H H' Z v d k → g ρ d k P → Fits X.K H0 B pn0 fr tb P D → R v H') : tX X.K ca wa σ H R := by
  obtain ⟨H0, B, pn0, fr, P, pn, ρ, Z, tb, px, ok, w, f⟩ := h
  obtain ⟨Z', hz, ok'⟩ := dem_ok is ok
  exact ⟨H0, B, pn, fr, _, Z', tb, ok', ma _ _ _ (fun d k q v H' s r => hR H0 B pn0 fr P pn _ Z' tb _ v d k H' px ok' s r q f) w⟩
theorem tS_ex {c : Nat} {w w' : XQ → En → Pq → Prop} {D : Ends} {σ : L2.St} {H : Hp} (h : tS X.K c (fun ρ P => w P.ex ρ P) D σ H) : tS X.K c (fun ρ P => w XF ρ P) D σ H := by
  obtain ⟨H0, B, pn0, fr, P, pn, ρ, Z, tb, px, ok, q, f⟩ := h
  rw [f.ex] at q
  exact ⟨H0, B, pn0, fr, P, pn, ρ, Z, tb, px, ok, q, f⟩
variable {wa : XQ → En → VQ → Prop} {is : List Nat}
def gSet (i : Nat) : En → D → Kd → Pq → Prop := fun ρ d k P => k ≠ .bor ∧ P.nx (ρ.set i (slK d k))
theorem set_end {ca : Nat} {i : Nat} {D : Ends} {σ : L2.St} {H : Hp} (ma : MonoW (wa XF)) (h : tS X.K (ca) (fun ρ P => wa P.ex (dem ρ is) fun d k => gSet i (dem ρ is) d k P) D σ H) : tAsg (tX X.K ca (wa XF)) (gName i) D σ H := by
  refine tX_st ma (is := is) (g := gSet i) (tS_ex (w := fun E ρ P => wa E (dem ρ is) fun d k => gSet i (dem ρ is) d k P) (w' := fun _ _ _ => True) h) fun H0 B pn0 fr P pn ρ Z tb tb' v d k H' px ok s r q f => ?_
  obtain ⟨Z', ok'⟩ := ok.sto i s r q.1
  exact f.nx _ _ ⟨pn, _, Z', px, ok', q.2⟩
theorem s_set {ca : Nat} {i : Nat} {x : Str} {e : Expr} {pos pos' : Pos} (hN : X.N.Nodup) (hi : X.N[i]? = some x) (hx : Loc X.env.scope x) (hf : X.fn x = true ∨ X.env.scope.names.lookup x = some .local) (hs : swapsWith e (some (.Name x pos')) pos.line X.env = pure false) (ma : MonoW (wa XF)) (he : PE X e (tX X.K ca (wa XF))) :
    PS X (.Assign [.Name x pos'] e pos) (tS X.K (ca) fun ρ P => wa P.ex (dem ρ is) fun d k => gSet i (dem ρ is) d k P) := PS.weak (ps_set hN hi hx he hs hf) fun D σ H h => set_end ma h
def gTs (is : List Nat) : En → D → Kd → Pq → Prop := fun ρ d k P => k ≠ .bor ∧ match setTg (.tp is) d ρ with | some ρ' => P.nx ρ' | none => False
theorem s_tset {ca : Nat} {js : List Nat} {tg e : Expr} {pos : Pos} (hg : PG X tg (gT X.K (.tp js))) (hs : swapsWithSole [tg] e pos.line X.env = pure false) (hw : swappedStores [tg] e X.env = pure none) (h1 : (assignEach [tg] X.env).map (·.2) = [assign tg X.env]) (ma : MonoW (wa XF)) (he : PE X e (tX X.K ca (wa XF))) :
    PS X (.Assign [tg] e pos) (tS X.K (ca) fun ρ P => wa P.ex (dem ρ is) fun d k => gTs js (dem ρ is) d k P) := by
  refine PS.weak (ps_asg he hg hs hw h1) fun D σ H h => ?_
  refine tX_st ma (is := is) (g := gTs js) (tS_ex (w := fun E ρ P => wa E (dem ρ is) fun d k => gTs js (dem ρ is) d k P) (w' := fun _ _ _ => True) h) fun H0 B pn0 fr P pn ρ Z tb tb' v d k H' px ok s r q f => ?_
  obtain ⟨q1, q2⟩ := q
  split at q2
  · rename_i ρ' e
    exact tg_ok (ok.to s) e (r.dn q1 ok.zt) fun σ' ok' _ => f.nx _ _ ⟨pn, _, Z, px, ok', q2⟩
  · exact q2.elim
def gRet : En → D → Kd → Pq → Prop := fun _ d k P => k ≠ .bor ∧ P.rt d k
theorem s_ret {ca : Nat} {e : Expr} {pos : Pos} (ma : MonoW (wa XF)) (he : PE X e (tX X.K ca (wa XF))) : PS X (.Return (some e) pos) (tS X.K (ca) fun ρ P => wa P.ex (dem ρ is) fun d k => gRet (dem ρ is) d k P) := by
  refine PS.weak (ps_ret he) fun D σ H h => ?_
  refine tX_st ma (is := is) (g := gRet) (tS_ex (w := fun E ρ P => wa E (dem ρ is) fun d k => gRet (dem ρ is) d k P) (w' := fun _ _ _ => True) h) fun H0 B pn0 fr P pn ρ Z tb tb' v d k H' px ok s r q f => ?_
  refine f.rt v d k H' (px.hs (ok.step.trans s)) q.1 ?_ q.2
  have r' := r.back ok.step
  cases k with
  | shr => exact Dn.weak r' ok.bz
  | own =>
    obtain ⟨a, e, n, o⟩ := r'
    exact ⟨a, e, n, o.keep (fun _ _ _ e => e) (fun c z => z.elim (fun z => .inl (.inl (ok.bz c z))) fun z => .inl (.inr z)) fun _ e => e⟩
  | bor => exact absurd rfl q.1
theorem s_retv {i : Nat} {x : Str} {p pos : Pos} (hN : X.N[i]? = some x) (hv : Vis X.env.scope x) (hd : (x == ("__debug__" : Str)) = false) (hcd : (x == ("__classdict__" : Str)) = false) :
    PS X (.Return (some (.Name x p)) pos) (tS X.K 0 fun ρ P => match ρ[i]? with | some (.val d) => P.rt d .shr | some (.own d) => P.rt d .own | _ => False) := by
  refine PS.weak (ps_ret (pe_var hN hv hd hcd)) fun D σ H ⟨H0, B, pn0, fr, P, pn, ρ, Z, tb, px, ok, w, f⟩ => ?_
  dsimp only at w
  split at w
  · rename_i d e
    obtain ⟨v, e1, n⟩ := ok.sl i _ e
    exact ⟨v, e1, f.rt v d .shr H (px.hs (ok.step.less (by omega))) (fun z => nomatch z) (Dn.weak n ok.bz) w⟩
  · rename_i d e
    obtain ⟨a, e1, ha, h0, hp, ho⟩ := ok.sl i _ e
    refine ⟨.ref a, e1, f.rt _ d .own H (px.hs (ok.step.less (by omega))) (fun z => nomatch z) ⟨a, rfl, h0, ?_⟩ w⟩
    exact ho.keep (fun _ _ _ e => e) (fun c z => z.elim (fun z => .inl (ok.bz c z)) fun z => .inl (by rw [z]; exact ha)) fun _ e => e
  · exact w.elim
theorem s_retn {pos : Pos} : PS X (.Return none pos) (tS X.K 0 fun ρ P => P.rt .none .shr) := PS.weak ps_retN fun D σ H ⟨_, _, _, _, _, pn, ρ, Z, tb, px, ok, w, f⟩ => f.rt .non .none .shr H (px.hs (ok.step.less (by omega))) (fun z => nomatch z) .non w
theorem s_expr {ca : Nat} {e : Expr} {pos : Pos} (hs : swapsWith e none pos.line X.env = pure false) (ma : MonoW (wa XF)) (he : PE X e (tX X.K ca (wa XF))) : PS X (.Expr e pos) (tS X.K (ca) fun ρ P => wa P.ex ρ fun _ _ => P.nx ρ) := by
  refine PS.weak (ps_expr he hs) fun D σ H ⟨H0, B, pn0, fr, P, pn, ρ, Z, tb, px, ok, w, f⟩ => ?_
  dsimp only at w
  rw [f.ex] at w
  exact ⟨H0, B, pn, fr, ρ, Z, tb, ok, ma _ _ _ (fun d k q v H' s r => f.nx _ _ ⟨pn, ρ, Z, px, ok.to s, q⟩) w⟩
end
end Y

namespace Y
open PySem PySem.Spec PyProof.Rows L2 M
section
variable {X : Cx} {wa wb : XQ → En → VQ → Prop} {is : List Nat}
theorem few1 {e : Expr} {cpos : Pos} {env : Env} (hst : starEach [e] env = [(false, eval e env)]) : ((backTo cpos (starEach [e] env)).all (fun x => !x.1) && (backToKw cpos (keywordEach [] env)).all (fun x => x.1.isSome) && decide (([e]).length + ([] : List Keyword).length + (if ([] : List Keyword).isEmpty then 0 else 1) < 30)) = true := by
  rw [hst]; rfl
/-- xs.append(e) -/
theorem s_app {ca : Nat} {i : Nat} {x : Str} {e : Expr} {p apos cpos pos : Pos} (hN : X.N[i]? = some x) (hv : Vis X.env.scope x) (hd : (x == ("__debug__" : Str)) = false) (hcd : (x == ("__classdict__" : Str)) = false) (hst : starEach [e] X.env = [(false, eval e X.env)])
    (hline : (apos.endLine == cpos.line) = true) (ma : MonoW (wa XF)) (he : PE X e (tX X.K ca (wa XF))) :
    PS X (.Expr (.Call (.Attribute (.Name x p) "append" apos) [e] [] cpos) pos) (tS X.K (ca) fun ρ P => match (dem ρ is)[i]? with
      | some (.own (.list ds)) => wa P.ex (dem ρ is) fun d k => k ≠ .bor ∧ ds.length < sizeLine ∧ P.nx ((dem ρ is).set i (.own (.list (ds ++ [d]))))
      | _ => False) := by
  refine PS.weak (ps_expr (pe_bm (hs := hst) (hfew := few1 hst) (hline := hline) PySem.F.plainAttrs_list PySem.F.slot_list_append PySem.F.type_list_append mt_append (pe_var hN hv hd hcd) (pa_cons he pa_nil hst)) rfl) fun D σ H ⟨H0, B, pn0, fr, P, pn, ρ, Z, tb, px, ok, w, f⟩ => ?_
  dsimp only at w
  rw [f.ex] at w
  split at w
  · rename_i ds e0
    obtain ⟨Z', hz, ok'⟩ := dem_ok is ok
    obtain ⟨a, e1, ha, h0, hp, ho⟩ := ok'.sl i _ e0
    rcases ho with ⟨xs, ds', ed, hx, hn⟩ | ⟨_, _, ed, _⟩ | ⟨_, _, ed, _⟩
    · cases ed
      refine ⟨.ref a, e1, Or.inl ⟨rfl, _, Or.inl (Or.inl hx)⟩, H0, B, pn, fr, _, Z', tb, ok', ma _ _ _ (fun d k q v H' s r => ?_) w⟩
      have hx' := s.keep a _ hp hx
      have hn' := DnL.keep (keepZ s ok'.pnz) (fun b z => .inl z) _ _ hn
      refine ⟨a, xs, v, rfl, rfl, hx', by rw [hn'.length]; exact q.2.1, ?_⟩
      refine f.nx _ _ ⟨pn, _, Z', px, (ok'.to s).chg e0 e1 ha h0 hp (.inl ⟨_, _, rfl, upd_same, ?_⟩), q.2.2⟩
      refine DnL.keep (fun b u n e => ?_) (fun b z => .inl z) _ _ (hn'.append (.cons (r.dn q.1 ok'.zt) .nil))
      rw [upd_ne (fun z => n (by rw [z]; exact ha))]
      exact e
    · cases ed
    · cases ed
  · exact w.elim
/-- xs.extend(e) -/
theorem s_ext {ca : Nat} {i : Nat} {x : Str} {e : Expr} {p apos cpos pos : Pos} (hN : X.N[i]? = some x) (hv : Vis X.env.scope x) (hd : (x == ("__debug__" : Str)) = false) (hcd : (x == ("__classdict__" : Str)) = false) (hst : starEach [e] X.env = [(false, eval e X.env)])
    (hline : (apos.endLine == cpos.line) = true) (ma : MonoW (wa XF)) (he : PE X e (tX X.K ca (wa XF))) :
    PS X (.Expr (.Call (.Attribute (.Name x p) "extend" apos) [e] [] cpos) pos) (tS X.K (ca) fun ρ P => match (dem ρ is)[i]? with
      | some (.own (.list ds)) => wa P.ex (dem ρ is) fun d _ => match listD d with
        | some es => ds.length + es.length ≤ sizeLine ∧ P.nx ((dem ρ is).set i (.own (.list (ds ++ es))))
        | none => False
      | _ => False) := by
  refine PS.weak (ps_expr (pe_bm (hs := hst) (hfew := few1 hst) (hline := hline) PySem.F.plainAttrs_list PySem.F.slot_list_extend PySem.F.type_list_extend mt_extend (pe_var hN hv hd hcd) (pa_cons he pa_nil hst)) rfl) fun D σ H ⟨H0, B, pn0, fr, P, pn, ρ, Z, tb, px, ok, w, f⟩ => ?_
  dsimp only at w
  rw [f.ex] at w
  split at w
  · rename_i ds e0
    obtain ⟨Z', hz, ok'⟩ := dem_ok is ok
    obtain ⟨a, e1, ha, h0, hp, ho⟩ := ok'.sl i _ e0
    rcases ho with ⟨xs, ds', ed, hx, hn⟩ | ⟨_, _, ed, _⟩ | ⟨_, _, ed, _⟩
    · cases ed
      refine ⟨.ref a, e1, Or.inl ⟨rfl, _, Or.inl (Or.inl hx)⟩, H0, B, pn, fr, _, Z', tb, ok', ma _ _ _ (fun d k q v H' s r => ?_) w⟩
      split at q
      · rename_i es el
        have ed := listD_eq el
        subst ed
        obtain ⟨b, zs, rfl, s3, n3⟩ := (r.dr ok'.pnt).list
        have hx' := s.keep a _ hp hx
        have hn' := DnL.keep (keepZ s ok'.pnz) (fun b z => .inl z) _ _ hn
        refine ⟨a, b, xs, zs, rfl, rfl, hx', s3, by rw [hn'.length, n3.length]; exact q.1, ?_⟩
        refine f.nx _ _ ⟨pn, _, Z', px, (ok'.to s).chg e0 e1 ha h0 hp (.inl ⟨_, _, rfl, upd_same, ?_⟩), q.2⟩
        refine DnL.keep (fun b u n e => ?_) (fun b z => .inl z) _ _ (hn'.append n3)
        rw [upd_ne (fun z => n (by rw [z]; exact ha))]
        exact e
      · exact q.elim
    · cases ed
    · cases ed
  · exact w.elim
/-- xs[k] = e -/
theorem s_seti {ca cb : Nat} {i : Nat} {x : Str} {e ke : Expr} {p spos pos : Pos} (hN : X.N[i]? = some x) (hv : Vis X.env.scope x) (hd : (x == ("__debug__" : Str)) = false) (hcd : (x == ("__classdict__" : Str)) = false)
    (ha : ∀ v, assign (.Subscript (.Name x p) ke spos) X.env v = (do
      let ov ← holding [v] (eval (.Name x p) X.env)
      let iv ← holding [v, ov] (eval ke X.env)
      standAt spos
      holding [v, ov, iv] (setItem ov iv v)
      release [v, ov, iv] []))
    (hs : swapsWithSole [.Subscript (.Name x p) ke spos] e pos.line X.env = pure false) (hw : swappedStores [.Subscript (.Name x p) ke spos] e X.env = pure none) (h1 : (assignEach [.Subscript (.Name x p) ke spos] X.env).map (·.2) = [assign (.Subscript (.Name x p) ke spos) X.env])
    (ma : MonoW (wa XF)) (mb : MonoW (wb XF)) (he : PE X e (tX X.K ca (wa XF))) (hk : PE X ke (tX X.K cb (wb XF))) :
    PS X (.Assign [.Subscript (.Name x p) ke spos] e pos) (tS X.K (ca + cb) fun ρ P => match (dem ρ is)[i]? with
      | some (.own (.list ds)) => wa P.ex (dem ρ is) fun d kd => kd ≠ .bor ∧ wb P.ex (dem ρ is) fun kx _ => match kx with
        | .int n => match ixN ds.length n with
          | some j => P.nx ((dem ρ is).set i (.own (.list (ds.set j d))))
          | none => False
        | _ => False
      | _ => False) := by
  refine PS.weak (ps_asg he (pg_sub (pe_var hN hv hd hcd) hk set_list ha) hs hw h1) fun D σ H ⟨H0, B, pn0, fr, P, pn, ρ, Z, tb, px, ok, w, f⟩ => ?_
  dsimp only at w
  rw [f.ex] at w
  split at w
  · rename_i ds e0
    obtain ⟨Z', hz, ok'⟩ := dem_ok is ok
    obtain ⟨a, e1, ha, h0, hp, ho⟩ := ok'.sl i _ e0
    rcases ho with ⟨xs, ds', ed, hx, hn⟩ | ⟨_, _, ed, _⟩ | ⟨_, _, ed, _⟩
    · cases ed
      refine ⟨H0, B, pn, fr, _, Z', (cb + tb), ok'.lt (by omega), ma _ _ _ (fun d k q v H1 s1 r1 => ?_) w⟩
      refine ⟨.ref a, e1, H0, B, pn, fr, _, Z', _, ok'.to s1, mb _ _ _ (fun kx k' q' y H2 s2 r2 => ?_) q.2⟩
      cases kx with
      | int n =>
        dsimp only at q'
        cases ej : ixN ds.length n with
        | none => rw [ej] at q'; exact q'.elim
        | some j =>
          rw [ej] at q'
          have s := s1.trans s2
          have hx' := s.keep a _ hp hx
          have hn' := DnL.keep (keepZ s ok'.pnz) (fun b z => .inl z) _ _ hn
          rw [(r2.dr (ok'.to s1).pnt).int]
          refine ⟨a, xs, n, j, rfl, rfl, hx', by rw [hn'.length]; exact ej, ?_⟩
          refine f.nx _ _ ⟨pn, _, Z', px, (ok'.to s).chg e0 e1 ha h0 hp (.inl ⟨_, _, rfl, upd_same, ?_⟩), q'⟩
          refine DnL.keep (fun b u n e => ?_) (fun b z => .inl z) _ _ (hn'.setAt j (Dn.keep (keepZ s2 ok'.pnz) (fun b z => .inl z) _ _ (r1.dn q.1 ok'.zt)))
          rw [upd_ne (fun z => n (by rw [z]; exact ha))]
          exact e
      | _ => exact q'.elim
    · cases ed
    · cases ed
  · exact w.elim
/-- x op= e on scalars -/
theorem ip_binD : ∀ (o : Operator) (d e r : D) (c : Prop) (k : Kd), bin o d e = some (c, r, k) → scal d = true → scal r = true → c → o ≠ .Pow → o ≠ .LShift → o ≠ .RShift → ∀ (v w : V) (H : Hp) (Q : VK) (Z : Addr → Prop) (pn : List Addr), Dr X.K pn H Z v d → Dr X.K pn H Z w e → (∀ u, Dn X.K H Z u r → Q u H) → ∃ rr : R2, OpR X (inplaceOp o) rr ∧ rr v w H Q := by
  intro o d e r c k hb hd hr hc n1 n2 n3 v w H Q Z pn h1 h2 q
  cases o <;> first
    | exact absurd rfl n1
    | exact absurd rfl n2
    | exact absurd rfl n3
    | (cases d <;> cases e <;> first
        | (simp [bin] at hb; done)
        | (simp [scal] at hd; done)
        | (simp only [bin, Option.some.injEq, Prod.mk.injEq] at hb
           obtain ⟨rfl, rfl, rfl⟩ := hb
           first
             | (rw [h1.int, h2.int]; exact ⟨_, iop_add, _, _, rfl, rfl, q _ (.int _)⟩)
             | (rw [h1.int, h2.int]; exact ⟨_, iop_sub, _, _, rfl, rfl, q _ (.int _)⟩)
             | (rw [h1.int, h2.int]; exact ⟨_, iop_mul, _, _, rfl, rfl, hc, q _ (.int _)⟩)
             | (rw [h1.int, h2.int]; exact ⟨_, iop_fdiv, _, _, rfl, rfl, hc, q _ (.int _)⟩)
             | (rw [h1.int, h2.int]; exact ⟨_, iop_mod, _, _, rfl, rfl, hc, q _ (.int _)⟩)
             | (rw [h1.str, h2.str]; exact ⟨_, iop_add_str, _, _, rfl, rfl, hc, q _ (.str _)⟩)))
end
end Y

namespace Y
open PySem PySem.Spec PyProof.Rows L2 M
section
variable {X : Cx} {wa wb : XQ → En → VQ → Prop} {is : List Nat}
def augOk : Operator → Bool | .Pow => false | .LShift => false | .RShift => false | _ => true
def rAug (K : PySem.W.Frag) (o : Operator) : TIp := fun v w H Q => ∃ pn Z d e, Dr K pn H Z v d ∧ Dr K pn H Z w e ∧ scal d = true ∧ (bin o d e).to fun r k => scal r = true ∧ ∀ u, Dn K H Z u r → Q u H
theorem ip_aug {o : Operator} (ho : augOk o = true) : PIp X o (rAug X.K o) := by
  intro pins s σ H x y v u Q I r1 r2 h
  obtain ⟨pn, Z, d, e, h1, h2, sd, q⟩ := h
  cases eb : bin o d e with
  | none => rw [eb] at q; exact q.elim
  | some crk =>
    obtain ⟨c, r, k⟩ := crk
    rw [eb] at q
    obtain ⟨hc, sr, q⟩ := q
    obtain ⟨rr, hrr, q'⟩ := ip_binD o d e r c k eb sd sr hc (fun z => by subst z; cases ho) (fun z => by subst z; cases ho) (fun z => by subst z; cases ho) x y H Q Z pn h1 h2 q
    exact hrr pins s σ H x y v u Q I r1 r2 q'
theorem s_aug {ca : Nat} {i : Nat} {x : Str} {e : Expr} {o : Operator} {p pos : Pos} (ho : augOk o = true) (hN : X.N.Nodup) (hi : X.N[i]? = some x) (hx : Loc X.env.scope x) (hf : X.fn x = true ∨ X.env.scope.names.lookup x = some .local) (ma : MonoW (wa XF)) (he : PE X e (tX X.K ca (wa XF))) :
    PS X (.AugAssign (.Name x p) o e pos) (tS X.K (ca) fun ρ P => match (dem ρ is)[i]? with
      | some (.val x) => scal x = true ∧ wa P.ex (dem ρ is) fun d _ => (bin o x d).to fun r _ => scal r = true ∧ P.nx ((dem ρ is).set i (.val r))
      | _ => False) := by
  refine PS.weak (ps_aug hN hi hx he (ip_aug ho) hf) fun D σ H ⟨H0, B, pn0, fr, P, pn, ρ, Z, tb, px, ok, w, f⟩ => ?_
  dsimp only at w
  rw [f.ex] at w
  split at w
  · rename_i xd e0
    obtain ⟨Z', hz, ok'⟩ := dem_ok is ok
    obtain ⟨v, e1, hv⟩ := ok'.sl i _ e0
    refine ⟨v, e1, H0, B, pn, fr, _, Z', tb, ok', ma _ _ _ (fun d k q y H1 s1 r1 => ?_) w.2⟩
    refine ⟨pn, Z', xd, d, .inl (Dn.keep (keepZ s1 ok'.pnz) (fun b z => .inl z) _ _ hv), r1.dr ok'.pnt, w.1, Rz.mono (fun r k q => ⟨q.1, fun u hu => ?_⟩) q⟩
    exact f.nx _ _ ⟨pn, _, Z', px, (ok'.to s1).val i hu, q.2⟩
  · exact w.elim
/-- a, b = x, y -/
theorem s_par {ca cb : Nat} {i j : Nat} {x y : Str} {a b : Expr} {px' py pt : Pos} {kt k2 pt2} {pos : Pos} (hc : X.calm = true) (hN : X.N.Nodup) (hi : X.N[i]? = some x) (hj : X.N[j]? = some y) (hij : i ≠ j)
    (hx : X.env.scope.names.lookup x = some .local) (hy : X.env.scope.names.lookup y = some .local)
    (hw : swappedStores [.Tuple [.Name x px', .Name y py] kt pt] (.Tuple [a, b] k2 pt2) X.env = pure (some [x, y]))
    (hs1 : starEach [a, b] X.env = (false, eval a X.env) :: starEach [b] X.env) (hs2 : starEach [b] X.env = [(false, eval b X.env)])
    (ma : MonoW (wa XF)) (mb : MonoW (wb XF)) (ha : PE X a (tX X.K ca (wa XF))) (hb : PE X b (tX X.K cb (wb XF))) :
    PS X (.Assign [.Tuple [.Name x px', .Name y py] kt pt] (.Tuple [a, b] k2 pt2) pos) (tS X.K (ca + cb) fun ρ P => wa P.ex (dem ρ is) fun d k => wb P.ex (dem ρ is) fun e k' => k ≠ .bor ∧ k' ≠ .bor ∧ P.nx (((dem ρ is).set i (slK d k)).set j (slK e k'))) := by
  refine PS.weak (ps_par hc hN hi hj hij hx hy (pa_cons ha (pa_cons hb pa_nil hs2) hs1) hw rfl) fun D σ H ⟨H0, B, pn0, fr, P, pn, ρ, Z, tb, px, ok, w, f⟩ => ?_
  dsimp only at w
  rw [f.ex] at w
  obtain ⟨Z', hz, ok'⟩ := dem_ok is ok
  refine ⟨H0, B, pn, fr, _, Z', (cb + tb), ok'.lt (by omega), ma _ _ _ (fun d k q v H1 s1 r1 => ?_) w⟩
  by_cases hk : k = .own
  · subst hk
    obtain ⟨a1, rfl, hn, ho⟩ := r1
    refine ⟨H0, B, pn, fr, _, Zp Z' a1, _, ok'.more hn s1 ho.there, mb _ _ _ (fun e k' q w' H2 s2 r2 => ?_) q⟩
    have ok1 := ok'.own i hn s1 ho
    obtain ⟨Z2, ok2⟩ := ok1.sto j s2 r2 q.2.1
    exact ⟨_, _, rfl, f.nx _ _ ⟨pn, _, Z2, px, ok2, q.2.2⟩⟩
  · refine ⟨H0, B, pn, fr, _, Z', _, ok'.to s1, mb _ _ _ (fun e k' q w' H2 s2 r2 => ?_) q⟩
    have hd := r1.dn q.1 ok'.zt
    have ok1 := (ok'.to s1).val i hd
    obtain ⟨Z2, ok2⟩ := ok1.sto j s2 r2 q.2.1
    have es : slK d k = .val d := by cases k <;> first | rfl | exact absurd rfl hk
    rw [es] at q
    exact ⟨_, _, rfl, f.nx _ _ ⟨pn, _, Z2, px, ok2, q.2.2⟩⟩
/-- for t in it: .. -/
theorem s_loop {cd ci : Nat} {t : Tg} {tg iter : Expr} {body : List Stmt} {wi : XQ → En → (List D → Prop) → Prop} {wbd : En → Pq → Prop} {pos : Pos} (hp : PassesOwn (model X.prog X.w) X.A X.env X.xe) (hc : X.calm = true) (hi : PI X tg iter (tI X.K true ci (wi XF))) (mi : MonoL (wi XF)) (hg : PG X tg (gT X.K t)) (hb : PSs X body (tS X.K cd wbd))
    (hs : ∀ x, foldedSetIterable iter X.env x = pure x) : PS X (.For tg iter body [] pos) (tS X.K (ci + LOOPN * cd) fun ρ P => wi P.ex (dem ρ is) fun ds => ds.length ≤ LOOPN ∧ wFor t wbd ds (dem ρ is) P) := by
  refine PS.weak (ps_for hp hc hi hg hb hs) fun D σ H ⟨H0, B, pn0, fr, P, pn, ρ, Z, tb, px, ok, w, f⟩ => ?_
  dsimp only at w
  rw [f.ex] at w
  obtain ⟨Z', hz, ok'⟩ := dem_ok is ok
  refine ⟨H0, B, pn, fr, _, Z', (LOOPN * cd + tb), ok'.lt (by omega), mi _ _ _ (fun ds q J H1 fv s1 hfv hJ => ?_) w⟩
  have frAll : ∀ {Zz : Addr → Prop} {Hz : Hp} {pnz : List Addr} {tz : Nat} {σz : L2.St} {ρz : En}, EnvOk X.K H0 B pnz (fv ++ fr) Zz tz σz ρz Hz → EnvOk X.K H0 B pnz fr Zz tz σz ρz Hz := fun o => o.frs fun p hp => o.fr p (List.mem_append_right _ hp)
  refine ⟨fun i m σ H => m = ds.length - i ∧ i ≤ ds.length ∧ Lift X.K H0 B pn0 (fv ++ fr) (bgt ds.length i cd tb) (fun ρ => wFor t wbd (ds.drop i) ρ P) σ H, ⟨ds.length, rfl, Nat.zero_le _, pn, _, Z', px, ((ok'.to s1).lt (bgt_0 q.1)).frs fun p hp => ?_, q.2⟩, ?_⟩
  · rcases List.mem_append.mp hp with h | h
    · exact (hfv p h).2 rfl
    · exact (ok'.to s1).fr p h
  · rintro i m σ2 H2 ⟨rfl, hile, pn2, ρ2, Z2, px2, ok2, q2⟩
    obtain ⟨jstop, jgo⟩ := hJ H2 Z2 i ok2.zt fun p hp => .inl (ok2.fr p (List.mem_append_left _ hp))
    by_cases hlt : i < ds.length
    · obtain ⟨go, yl⟩ := jgo hlt
      refine .inr ⟨go, Lift X.K H0 B pn0 (fv ++ fr) (bgt ds.length (i + 1) cd tb) (fun ρ => wFor t wbd (ds.drop (i + 1)) ρ P), fun σ' H' h => ⟨ds.length - (i + 1), by omega, rfl, hlt, h⟩, fun x H3 y => ?_⟩
      obtain ⟨s3, d, ed, nd⟩ := yl x H3 y
      have edr : ds.drop i = d :: ds.drop (i + 1) := by
        rw [List.drop_eq_getElem_cons hlt]
        have : ds[i] = d := by
          have := List.getElem?_eq_getElem hlt
          rw [ed] at this
          exact (Option.some.inj this).symm
        rw [this]
      rw [edr] at q2
      simp only [wFor] at q2
      split at q2
      · rename_i ρ' eρ
        refine tg_ok (ok2.to (ok2.ss s3)) eρ nd fun σ' ok3 _ => ?_
        refine ⟨H0, B, pn0, fv ++ fr, _, pn2, ρ', Z2, bgt ds.length (i + 1) cd tb, px2, ok3.lt (by rw [bgt_s hlt]; omega), q2, ⟨fun _ _ h => h, fun σ4 H4 ⟨pn4, ρ4, Z4, px4, ok4, q4⟩ => f.nx _ _ ⟨pn4, ρ4, Z4, px4, (frAll ok4).lt (by unfold bgt; omega), q4⟩, fun _ _ h => h, fun v d k H' s => f.rt v d k H' (s.less (by unfold bgt; omega)), f.ex⟩⟩
      · exact q2.elim
    · have ei : i = ds.length := by omega
      subst ei
      rw [List.drop_length] at q2
      exact .inl ⟨jstop rfl, f.nx _ _ ⟨pn2, ρ2, Z2, px2, (frAll ok2).lt (by rw [bgt_e]; omega), q2⟩⟩
theorem s_whil {cd cc : Nat} {c : Expr} {body : List Stmt} {wc : XQ → En → (Bool → Prop) → Prop} {wbd : En → Pq → Prop} {pos : Pos} (hp : PassesOwn (model X.prog X.w) X.A X.env X.xe) (mc : MonoT (wc XF)) (hc : PT X c (tT X.K cc (wc XF))) (hb : PSs X body (tS X.K cd wbd)) :
    PS X (.While c body [] pos) (tS X.K ((LOOPN + 1) * (cc + cd)) fun ρ P => wWhile (wc P.ex) wbd ρ P) := by
  refine PS.weak (ps_while hp hc hb) fun D σ H ⟨H0, B, pn0, fr, P, pn, ρ, Z, tb, px, ok, w, f⟩ => ?_
  dsimp only at w
  rw [f.ex] at w
  obtain ⟨W, ⟨m0, hm0, w0⟩, turn⟩ := w
  refine ⟨fun m σ H => Lift X.K H0 B pn0 fr ((m + 1) * (cc + cd) + tb) (W m) σ H, ⟨m0, pn, ρ, Z, px, ok.lt (Nat.add_le_add_right (Nat.mul_le_mul_right _ (Nat.succ_le_succ hm0)) tb), w0⟩, ?_⟩
  rintro m σ2 H2 ⟨pn2, ρ2, Z2, px2, ok2, q2⟩
  refine ⟨H0, B, pn2, fr, ρ2, Z2, (cd + (m * (cc + cd) + tb)), ok2.lt (by rw [Nat.succ_mul]; omega), mc _ _ _ (fun b q H3 s3 => ?_) (turn m ρ2 q2)⟩
  cases b with
  | false => exact iteF (f.nx _ _ ⟨pn2, ρ2, Z2, px2, (ok2.to s3).lt (by omega), q.2 rfl⟩)
  | true =>
    refine iteT ⟨fun σ' H' => ∃ m', m' < m ∧ Lift X.K H0 B pn0 fr ((m' + 1) * (cc + cd) + tb) (W m') σ' H', fun _ _ h => h, ?_⟩
    have conv : ∀ σ' H', Lift X.K H0 B pn0 fr (m * (cc + cd) + tb) (fun ρ2 => ∃ m', m' < m ∧ W m' ρ2) σ' H' → ∃ m', m' < m ∧ Lift X.K H0 B pn0 fr ((m' + 1) * (cc + cd) + tb) (W m') σ' H' := fun σ' H' ⟨pn4, ρ4, Z4, px4, ok4, m', hm, q4⟩ => ⟨m', hm, pn4, ρ4, Z4, px4, ok4.lt (Nat.add_le_add_right (Nat.mul_le_mul_right _ hm) tb), q4⟩
    exact ⟨H0, B, pn0, fr, _, pn2, ρ2, Z2, _, px2, ok2.to s3, q.1 rfl, ⟨conv, fun σ4 H4 ⟨pn4, ρ4, Z4, px4, ok4, q4⟩ => f.nx _ _ ⟨pn4, ρ4, Z4, px4, ok4.lt (by omega), q4⟩, conv, fun v d k H' s => f.rt v d k H' (s.less (by omega)), f.ex⟩⟩
/-! ### the pen is made -/
def spPen (K : PySem.W.Frag) : Sp := fun vs H Q _ => ∃ (a : Addr) (ns : List Int), vs = [.ref a] ∧ SqL K H a (ns.map V.int) ∧
  ∀ (d c : Addr) (r : Int) (ms : List Int) (H' : Hp), 0 ≤ r → H d = none → H c = none → c ≠ d → Same H H' → H' d = some (penO NX c 0 r) → H' c = some (.lst (ms.map V.int)) → Q (.ref d) H'
theorem dnl_ints {K : PySem.W.Frag} {H : Hp} {Z : Addr → Prop} : ∀ ms : List Int, DnL K H Z (ms.map V.int) (ms.map PyData.int)
  | [] => .nil
  | m :: ms => .cons (.int m) (dnl_ints ms)
theorem EnvOk.mkpen {K : PySem.W.Frag} {H0 H H' : Hp} {B Z : Addr → Prop} {pn : List Addr} {fr : List (V × D)} {σ : L2.St} {ρ : En} (ok : EnvOk K H0 B pn fr Z tb σ ρ H) (i : Nat) {d c : Addr} {r : Int} {ms : List Int} (h2 : 0 ≤ r) (hd : H d = none) (hc : H c = none) (ne : c ≠ d) (s : Same H H')
    (e1 : H' d = some (penO NX c 0 r)) (e2 : H' c = some (.lst (ms.map V.int))) : EnvOk K H0 B (d :: pn) fr (Zp Z d) tb (σ.set i (some (.ref d))) (ρ.set i .pen) H' := by
  have ok' := ok.more hd (ok.ss s) (by rw [e1]; exact fun z => nomatch z)
  have h0 : H0 d = none := ok.step.free hd
  have hp : d ∉ pn := fun z => ok.pnt d z hd
  have cz : ¬ Zp Z d c := fun z => z.elim (fun z => ok.zt c z hc) ne
  have base : EnvOk K H0 B (d :: pn) fr (Zp Z d) tb σ ρ H' := by
    refine ⟨⟨fun b o n e => ok'.step.keep b o (fun z => n (List.mem_cons_of_mem _ z)) e, fun b hb => ?_, ok'.step.there, ok'.bd.1, fun d' hd' c' i' r' e' => ?_⟩, ok'.zt, ok'.bz, ok'.bt, fun b hb => ?_, ok'.len, fun j t e => ?_, ok'.inj, ok'.fr⟩
    · rcases List.mem_cons.mp hb with z | z
      · intro c i r _ _ e
        rw [z, h0] at e
        cases e
      · exact ok'.step.pen b z
    · rcases List.mem_cons.mp hd' with z | z
      · subst z
        rw [e1] at e'
        have hb := ok'.step.bd.1
        simp only [Option.some.injEq, HO.dK.injEq, List.cons.injEq, Prod.mk.injEq, V.int.injEq, true_and, and_true] at e'
        omega
      · exact ok'.step.bd.2 d' z c' i' r' e'
    · rcases List.mem_cons.mp hb with z | z
      · subst z
        exact ⟨.inr rfl, c, 0, r, ms, Int.le_refl 0, h2, e1, .lst ⟨cz, e2⟩ (dnl_ints ms)⟩
      · exact ok'.pz b z
    · have h := ok'.sl j t e
      cases t with
      | emp => trivial
      | val d' => exact h
      | own d' =>
        obtain ⟨b, q1, q2, q3, q4, q5⟩ := h
        refine ⟨b, q1, q2, q3, fun z => ?_, q5⟩
        rcases List.mem_cons.mp z with z | z
        · subst z
          obtain ⟨b', e3, _, _, _, h4⟩ := ok.sl j _ e
          rw [q1] at e3
          cases e3
          exact h4.there hd
        · exact q4 z
      | pen => obtain ⟨b, q1, q2⟩ := h; exact ⟨b, q1, List.mem_cons_of_mem _ q2⟩
      | scr n => exact h
  exact base.put i _ .pen ⟨d, rfl, List.mem_cons_self⟩ fun _ z => nomatch z
theorem s_mkpen {i j k l : Nat} {x y f : Str} {ps : List Str} {p pc pos pos' py : Pos} (hN : X.N.Nodup) (hi : X.N[i]? = some x) (hx : Loc X.env.scope x) (hf : X.fn x = true ∨ X.env.scope.names.lookup x = some .local)
    (hj : X.N[j]? = some y) (hv : Vis X.env.scope y) (hd : (y == ("__debug__" : Str)) = false) (hcd : (y == ("__classdict__" : Str)) = false)
    (c : Cl X.prog X.w X.K X.mg X.base CX0 k f ps (spPen X.K)) (hr : Room l X.A) (hgd : X.A.guards = some []) (hk : k ≤ l) (gl : Gl X f) (hdf : (f == ("__debug__" : Str)) = false) :
    PS X (.Assign [.Name x pos'] (.Call (.Name f p) [.Name y py] [] pc) pos) (tS X.K 0 fun ρ P => match ρ[j]? with | some (.scr _) => P.nx (ρ.set i .pen) | _ => False) := by
  refine PS.weak (ps_set hN hi hx (pe_cl c hr hgd hk gl pass0 (pa_cons (pe_var hj hv hd hcd) pa_nil rfl) hdf rfl rfl) rfl hf) fun D σ H ⟨H0, B, pn0, fr, P, pn, ρ, Z, tb, px, ok, w, f⟩ => ?_
  dsimp only at w
  split at w
  · rename_i n e
    obtain ⟨a, ns, e1, hs, _⟩ := ok.sl j _ e
    refine ⟨.ref a, e1, a, ns, rfl, hs.sq, fun d c r ms H' h2 hd hc ne s q1 q2 => ?_⟩
    refine f.nx _ _ ⟨d :: pn, _, _, ⟨fun b hb => List.mem_cons_of_mem _ (px.1 b hb), fun b hb => ?_⟩, (ok.lt (by omega)).mkpen i h2 hd hc ne s q1 q2, w⟩
    rcases List.mem_cons.mp hb with z | z
    · exact .inr (by rw [z]; exact ok.step.free hd)
    · exact px.2 b z
  · exact w.elim
end
end Y

namespace Y
open PySem PySem.Spec PyProof.Rows L2 M
/-! ### x.index(y) -/
theorem occ_idx {x : Str} {c j : Nat} (h : x.cps.toList.findIdx? (· == c) = some j) : ∃ rest, Builtin.Str.occurrences x ⟨#[c]⟩ 0 x.length 1 = j :: rest := by
  obtain ⟨hj, h1, h2⟩ := List.findIdx?_eq_some_iff_getElem.mp h
  have at_iff : ∀ i, StrLaws.At x ⟨#[c]⟩ x.length i ↔ x.cps.toList[i]? = some c := fun i => StrLaws.subAt_one x c i
  have aj : StrLaws.At x ⟨#[c]⟩ x.length j := (at_iff j).mpr (by rw [List.getElem?_eq_getElem hj]; exact congrArg some (by simpa using h1))
  rcases StrLaws.occ_head x ⟨#[c]⟩ 1 (Nat.le_refl 1) with ⟨_, hn⟩ | ⟨i, r, e, ai, hk⟩
  · exact absurd aj (hn j)
  · have e1 : i = j := by
      rcases Nat.lt_trichotomy i j with z | z | z
      · have hi : i < x.cps.toList.length := by omega
        have q := (at_iff i).mp ai
        rw [List.getElem?_eq_getElem hi] at q
        exact absurd (by simpa using Option.some.inj q) (h2 i z)
      · exact z
      · exact absurd aj (hk j z)
    subst e1
    exact ⟨r, e⟩
section
variable {X : Cx}
theorem y_sindex {co ca : Nat} {o e : Expr} {apos cpos : Pos} {wo wa : En → VQ → Prop} (hst : starEach [e] X.env = [(false, eval e X.env)]) (hline : (apos.endLine == cpos.line) = true) (hbase : attributeBase o "index" X.env (eval o X.env) = eval o X.env) (mo : MonoW wo) (ma : MonoW wa) (ho : PE X o (tX X.K co wo)) (he : PE X e (tX X.K ca wa)) :
    PE X (.Call (.Attribute o "index" apos) [e] [] cpos) (tX X.K (co + ca) fun ρ Q => wo ρ fun x _ => recvB .sindex x = true ∧ wa ρ fun y _ => (mtD .sindex x [y]).to Q) := by
  refine PE.weak (pe_bm (hs := hst) (hbase := hbase) (hfew := few1 hst) (hline := hline) PySem.F.plainAttrs_str PySem.F.slot_str_index PySem.F.type_str_index mt_sindex ho (pa_cons he pa_nil hst)) fun σ H Q ⟨H0, B, pn, fr, ρ, Z, tb, ok, w⟩ => ?_
  refine ⟨H0, B, pn, fr, ρ, Z, (ca + tb), ok.lt (by omega), mo _ _ _ (fun d k q x H1 s1 r1 => ?_) w⟩
  obtain ⟨q0, q⟩ := q
  cases d with
  | str z =>
    rw [(r1.dr ok.pnt).str]
    refine ⟨rfl, H0, B, pn, fr, ρ, Z, _, ok.to s1, ma _ _ _ (fun e' k' q y H2 s2 r2 => ?_) q⟩
    cases e' with
    | str b =>
      rw [(r2.dr (ok.to s1).pnt).str]
      simp only [mtD] at q
      cases ej : z.cps.toList.findIdx? (· == b.cps.getD 0 0) with
      | none => rw [ej] at q; exact q.elim
      | some j =>
        rw [ej] at q
        obtain ⟨rest, er⟩ := occ_idx ej
        have eb := str1 q.1
        refine ⟨z, b, j, rest, rfl, rfl, ?_, q.2 _ H2 (s1.trans s2) (.int _)⟩
        rw [eb]
        exact er
    | _ => exact q.elim
  | _ => cases q0
theorem y_lindex {co ca : Nat} (hu : X.A.units + 65 < cLine) {o e : Expr} {apos cpos : Pos} {wo wa : En → VQ → Prop} (hst : starEach [e] X.env = [(false, eval e X.env)]) (hline : (apos.endLine == cpos.line) = true) (hbase : attributeBase o "index" X.env (eval o X.env) = eval o X.env) (mo : MonoW wo) (ma : MonoW wa) (ho : PE X o (tX X.K co wo)) (he : PE X e (tX X.K ca wa)) :
    PE X (.Call (.Attribute o "index" apos) [e] [] cpos) (tX X.K (co + ca) fun ρ Q => wo ρ fun x _ => recvB .lindex x = true ∧ wa ρ fun y _ => (mtD .lindex x [y]).to Q) := by
  refine PE.weak (pe_bm (hs := hst) (hbase := hbase) (hfew := few1 hst) (hline := hline) PySem.F.plainAttrs_list PySem.F.slot_list_index PySem.F.type_list_index (mt_indexD hu) ho (pa_cons he pa_nil hst)) fun σ H Q ⟨H0, B, pn, fr, ρ, Z, tb, ok, w⟩ => ?_
  refine ⟨H0, B, pn, fr, ρ, Z, (ca + tb), ok.lt (by omega), mo _ _ _ (fun d k q x H1 s1 r1 => ?_) w⟩
  obtain ⟨q0, q⟩ := q
  have hd := r1.dr ok.pnt
  cases d with
  | list ds =>
    obtain ⟨a, xs, rfl, sx, n⟩ := hd.list
    refine ⟨.inl ⟨rfl, xs, SqL.of sx⟩, H0, B, pn, fr, ρ, Z, _, ok.to s1, ma _ _ _ (fun e' k' q y H2 s2 r2 => ?_) q⟩
    simp only [mtD] at q
    cases ej : ds.findIdx? (fun z => PyData.eqv z e') with
    | none => rw [ej] at q; exact q.elim
    | some j =>
      rw [ej] at q
      obtain ⟨⟨c1, c2⟩, q⟩ := q
      obtain ⟨hj, h1, h2⟩ := List.findIdx?_eq_some_iff_getElem.mp ej
      refine ⟨a, y, e', ds, j, ds[j], rfl, rfl, (hd.step s2 ok.pnz).dp (shaped_nd c1), (r2.dr (ok.to s1).pnt).dp (shaped_nd c2), c1, c2, List.getElem?_eq_getElem hj, h1, fun m z' hm hz' => ?_, q _ H2 (s1.trans s2) (.int _)⟩
      have hml : m < ds.length := by omega
      rw [List.getElem?_eq_getElem hml] at hz'
      cases hz'
      exact Bool.eq_false_iff.mpr (h2 m hm)
  | _ => cases q0
end
end Y

namespace Y
open PySem PySem.Spec PyProof.Rows L2 M
/-! ### how many draws at most -/
section
variable (m : Str → Nat)
mutual
def kX : Ex → Nat
  | .bin _ a b => kX a + kX b | .neg a => kX a | .nt a => kX a
  | .cmp _ a b => kX a + kX b | .chn _ _ a b c => kX a + kX b + kX c
  | .and a b => kX a + kX b | .or a b => kX a + kX b | .ite c a b => kT c + kX a + kX b
  | .tup es => kXs es | .lst es => kXs es
  | .ix a i => kX a + kX i | .sl a lo hi => kX a + kO lo + kO hi | .rev a => kX a
  | .call f es => kAs es + m f | .bt _ es => kXs es | .mt _ o es => kX o + kXs es
  | .comp el _ it c => kI it + sizeLine * (kC c + kX el)
  | .lrg1 a => kX a | .lrg a b => kX a + kX b
  | _ => 0
def kXs : Exs → Nat
  | .nil => 0
  | .cons e es => kX e + kXs es
def kAs : Ags → Nat
  | .nil => 0
  | .ex e es => kX e + kAs es
  | .sl _ es => kAs es
def kO : Ox → Nat
  | .no => 0
  | .so e => kX e
def kT : Tx → Nat
  | .of e => kX e | .and a b => kT a + kT b | .or a b => kT a + kT b | .nt a => kT a
def kC : Oc → Nat
  | .no => 0
  | .so c => kT c
def kI : Itx → Nat
  | .over e => kX e | .rg1 a => kX a | .rg2 a b => kX a + kX b | .enum e => kX e | .zip a b => kX a + kX b
end
mutual
def kS : Sm → Nat
  | .set _ e => kX m e | .tset _ e => kX m e | .par _ _ a b => kX m a + kX m b | .aug _ _ e => kX m e
  | .ret e => kX m e | .expr e => kX m e | .app _ e => kX m e | .ext _ e => kX m e | .seti _ k e => kX m e + kX m k
  | .cond c a b => kSs a + kSs b + kT m c
  | .loop _ it b => kI m it + LOOPN * kSs b
  | .whil c b => (LOOPN + 1) * (kT m c + kSs b)
  | _ => 0
def kSs : Sms → Nat
  | .nil => 0
  | .cons s r => kS s + kSs r
end
end
/-! ### from the text to the small language -/
structure Gm where
  N : List Str
  sc : Scope
  fn : Str → Bool
  blts : List Str
  cons : List (Str × D)
  fns : List Str
  mks : List Str
  pens : List Str
  scals : List Str
  m : Str → Nat
  mts : List (Str × Mt)
def Gm.blk (G : Gm) (scope : Scope) : Gm := { G with sc := relS scope G.sc, fn := fun x => scope.names.lookup x == some .cell }
structure Cok (X : Cx) (G : Gm) (j : Nat) (C : Str → Ct) : Prop where
  N : X.N = G.N
  nd : G.N.Nodup
  sc : X.env.scope = G.sc
  fn : X.fn = G.fn
  calm : X.calm = true
  room : Room j X.A
  quiet : X.A.guards = some []
  xe : X.xe = fun _ _ => False
  blt : ∀ x ∈ G.blts, X.mg x = none
  con : ∀ x d, (x, d) ∈ G.cons → ∃ v, (∃ u, X.mg x = some u ∧ RelV v u) ∧ ∀ K H Z, Dn K H Z v d
  fns : ∀ f ∈ G.fns, ∃ k ps, k ≤ j ∧ Cl X.prog X.w X.K X.mg X.base CX0 k f ps (spC (C f) (G.m f) X.K)
  mks : ∀ f ∈ G.mks, ∃ k ps, k ≤ j ∧ Cl X.prog X.w X.K X.mg X.base CX0 k f ps (spPen X.K)
  mono : CMono C
theorem Cok.blk {X : Cx} {G : Gm} {j : Nat} {C : Str → Ct} (c : Cok X G j C) (scope : Scope) (s : Shared) (H : Hp) (cl : List (Str × Addr)) (L : Addr) (fp : List Addr) : Cok (X.blk s H scope (compEnvC scope cl L X.env) fp) (G.blk scope) j C :=
  ⟨c.N, c.nd, by show relS scope X.env.scope = relS scope G.sc; rw [c.sc], rfl, c.calm, c.room, c.quiet, rfl, c.blt, c.con, c.fns, c.mks, c.mono⟩
def slotB (G : Gm) (x : Str) (i : Nat) : Bool := decide (G.N[i]? = some x)
def slotOf (G : Gm) (x : Str) : Nat := G.N.idxOf x
def visB (G : Gm) (x : Str) : Bool := match G.sc.names.lookup x with | some .local => true | some .cell => true | some .free => true | _ => false
def locB (G : Gm) (x : Str) : Bool := (match G.sc.names.lookup x with | some .local => true | some .cell => G.fn x | _ => false)
def glB (G : Gm) (x : Str) : Bool := decide (G.sc.names.lookup x = some .globalImplicit)
def okN (x : Str) : Bool := !(x == ("__debug__" : Str)) && !(x == ("__classdict__" : Str)) && !(x == ("__name__" : Str))
def isStar : Expr → Bool | .Starred _ _ => true | _ => false
def isSet : Expr → Bool | .Set _ _ _ => true | _ => false
def isTup : Expr → Bool | .Tuple _ _ _ => true | _ => false
def isComp : Expr → Bool | .ListComp _ _ _ _ => true | .SetComp _ _ _ _ => true | .DictComp _ _ _ _ _ => true | _ => false
def isSlice : Expr → Bool | .Slice _ _ _ _ => true | _ => false
section
variable {env : Env}
theorem star_cons {e : Expr} {es : List Expr} (h : isStar e = false) : starEach (e :: es) env = (false, eval e env) :: starEach es env := by
  cases e <;> first | rfl | cases h
theorem star_any {pos : Pos} : ∀ {es : List Expr}, (es.all fun e => !isStar e) = true → (backTo pos (starEach es env)).any (·.1) = false
  | [], _ => rfl
  | e :: es, h => by
    rw [List.all_cons, Bool.and_eq_true] at h
    rw [star_cons (by simpa using h.1)]
    show ((backTo pos (starEach es env)).any (·.1)) = false
    exact star_any h.2
theorem plainIx {e : Expr} (h : isSlice e = false) : PlainIx e := by
  intro o i
  cases e <;> first | rfl | cases h
theorem folded_ok {e : Expr} (h : isSet e = false) : ∀ x, foldedSetIterable e env x = pure x := by
  intro x
  cases e <;> first | rfl | cases h
theorem swaps_ok {e : Expr} {t : Option Expr} {l : Nat} (h : isComp e = false) : swapsWith e t l env = pure false := by
  cases e <;> first | rfl | cases h
theorem stores_ok {t e : Expr} (h : isTup e = false) : swappedStores [t] e env = pure none := by
  cases e <;> first | (cases h; done) | (cases t <;> rfl)
end
def plainTB : Expr → Bool
  | .UnaryOp _ _ _ => false | .BoolOp _ _ _ => false | .IfExp _ _ _ _ => false | .Compare _ _ _ _ => false | _ => true
theorem plainT {e : Expr} (h : plainTB e = true) : PlainT e := by
  intro env whole
  cases e <;> first | rfl | cases h
def mapEs (f : Expr → Option Ex) : List Expr → Option Exs
  | [] => some .nil
  | e :: es => if isStar e then none else match f e, mapEs f es with | some x, some xs => some (.cons x xs) | _, _ => none
def mapAs (G : Gm) (sc : Bool) (f : Expr → Option Ex) : List Expr → Option Ags
  | [] => some .nil
  | .Name x p :: es => if (sc || decide (x ∈ G.pens)) && slotB G x (slotOf G x) && visB G x && okN x then (mapAs G sc f es).map (.sl (slotOf G x)) else match f (.Name x p), mapAs G sc f es with | some x, some xs => some (.ex x xs) | _, _ => none
  | e :: es => if isStar e then none else match f e, mapAs G sc f es with | some x, some xs => some (.ex x xs) | _, _ => none
def trO (f : Expr → Option Ex) : Option Expr → Option Ox
  | none => some .no
  | some e => (f e).map .so
def btOf (x : Str) (n : Nat) : Option Bt :=
  if x = "len" then some .len else if x = "abs" then some .abs else if x = "min" ∧ n = 2 then some .min2 else if x = "max" ∧ n = 2 then some .max2
  else if x = "sum" then some .sum else if x = "any" then some .any else if x = "all" then some .all else if x = "repr" then some .repr
  else if x = "int" then some .int else if x = "str" then some .str else if x = "list" then some .list else if x = "tuple" then some .tuple else none
theorem btOf_ok {x : Str} {n : Nat} {b : Bt} (h : btOf x n = some b) : plainB b = true ∧ bootBuiltins x = some (bval b) := by
  unfold btOf at h
  repeat' split at h
  all_goals first
    | (cases h; done)
    | (cases h; rename_i e; subst e; exact ⟨rfl, by decide +kernel⟩)
    | (cases h; rename_i e; obtain ⟨e, _⟩ := e; subst e; exact ⟨rfl, by decide +kernel⟩)
def tyOf (x : Str) : Option String :=
  if x = "int" then some "int" else if x = "bool" then some "bool" else if x = "str" then some "str" else if x = "list" then some "list" else if x = "tuple" then some "tuple" else if x = "dict" then some "dict" else none
theorem tyOf_ok {x : Str} {t : String} (h : tyOf x = some t) : t ∈ kindsD ∧ bootBuiltins x = some (.type t) := by
  unfold tyOf at h
  repeat' split at h
  all_goals first
    | (cases h; done)
    | (cases h; rename_i e; subst e; exact ⟨by decide, by decide +kernel⟩)
/-- and, or of values -/
def foldAnd : List Ex → Option Ex
  | [] => none
  | [a] => some a
  | a :: r => (foldAnd r).map (.and a)
def foldOr : List Ex → Option Ex
  | [] => none
  | [a] => some a
  | a :: r => (foldOr r).map (.or a)
def tAnd' : List Tx → Option Tx
  | [] => none
  | [a] => some a
  | a :: r => (tAnd' r).map (.and a)
def tOr' : List Tx → Option Tx
  | [] => none
  | [a] => some a
  | a :: r => (tOr' r).map (.or a)
def optAll {α β : Type} (f : α → Option β) : List α → Option (List β)
  | [] => some []
  | a :: r => match f a, optAll f r with | some x, some xs => some (x :: xs) | _, _ => none
def trT (f : Expr → Option Ex) : Nat → Expr → Option Tx
  | 0, _ => none
  | m + 1, e => match e with
    | .UnaryOp .Not a _ => (trT f m a).map .nt
    | .BoolOp .And vs _ => (optAll (trT f m) vs).bind tAnd'
    | .BoolOp .Or vs _ => (optAll (trT f m) vs).bind tOr'
    | .Compare a [o] [c] _ => if behindInMarks o c then none else match f a, f c with | some x, some y => some (.of (.cmp o x y)) | _, _ => none
    | .Compare a [o, o'] [c, d] _ => if lastMarks [o, o'] [c, d] then none else match f a, f c, f d with | some x, some y, some z => some (.of (.chn o o' x y z)) | _, _, _ => none
    | e => if plainTB e then (f e).map .of else none
def tgB (G : Gm) (x : Str) : Bool := slotB G x (slotOf G x) && locB G x
def trTgs (G : Gm) : List Expr → Option (List Nat)
  | [] => some []
  | .Name x _ :: r => if tgB G x then (trTgs G r).map (slotOf G x :: ·) else none
  | _ :: _ => none
def trTg (G : Gm) : Expr → Option Tg
  | .Name x _ => if tgB G x then some (.nm (slotOf G x)) else none
  | .Tuple es _ _ => (trTgs G es).map .tp
  | _ => none
def trI (G : Gm) (f : Expr → Option Ex) (tup : Bool) (e : Expr) : Option Itx :=
  match e with
  | .Call (.Name x _) [a] [] _ =>
    if x = "range" ∧ glB G x = true ∧ x ∈ G.blts ∧ isStar a = false then (f a).map .rg1
    else if x = "enumerate" ∧ tup = true ∧ glB G x = true ∧ x ∈ G.blts ∧ isStar a = false then (f a).map .enum
    else (f e).map .over
  | .Call (.Name x _) [a, b] [] _ =>
    if x = "range" ∧ glB G x = true ∧ x ∈ G.blts ∧ isStar a = false ∧ isStar b = false then match f a, f b with | some y, some z => some (.rg2 y z) | _, _ => none
    else (f e).map .over
  | e => if isSet e then none else (f e).map .over
def scrArg (G : Gm) : List Expr → Option Nat
  | [.Name y _] => if slotB G y (slotOf G y) && visB G y && okN y && decide (y = "_law_script") then some (slotOf G y) else none
  | _ => none
/-- the ends of a range under list(..) -/
def rgArg (G : Gm) : List Expr → Option (Expr × Option Expr)
  | [.Call (.Name y _) [a] [] _] => if y = "range" ∧ glB G y = true ∧ y ∈ G.blts ∧ isStar a = false then some (a, none) else none
  | [.Call (.Name y _) [a, b] [] _] => if y = "range" ∧ glB G y = true ∧ y ∈ G.blts ∧ isStar a = false ∧ isStar b = false then some (a, some b) else none
  | _ => none
def recvOk : Expr → Bool
  | .Name _ _ => true
  | .Constant _ _ _ => true
  | _ => false
def mtOf (G : Gm) : Expr → Option Mt
  | .Name x _ => G.mts.lookup x
  | .Constant (.str _) _ _ => some .sindex
  | _ => none
def trE (n : Nat) : Gm → Bool → Expr → Option Ex := match n with
  | 0 => fun _ _ _ => none
  | n + 1 => fun G b e => match e with
    | .Constant (.int i) _ _ => some (.con (.int i))
    | .Constant (.bool i) _ _ => some (.con (.bool i))
    | .Constant .none _ _ => some (.con .none)
    | .Constant (.str s) _ _ => some (.con (.str s))
    | .Name x _ =>
      if okN x then (if slotB G x (slotOf G x) && visB G x then some (if b then .bor (slotOf G x) else .var (slotOf G x))
        else if glB G x then (G.cons.lookup x).map .con else none) else none
    | .BinOp a o c _ => match trE n G true a, trE n G true c with | some x, some y => some (.bin o x y) | _, _ => none
    | .UnaryOp .USub a _ => (trE n G true a).map .neg
    | .UnaryOp .Not a _ => (trE n G true a).map .nt
    | .Compare a [o] [c] _ => if behindInMarks o c then none else match trE n G true a, trE n G true c with | some x, some y => some (.cmp o x y) | _, _ => none
    | .Compare a [o, o'] [c, d] _ => if lastMarks [o, o'] [c, d] then none else match trE n G true a, trE n G true c, trE n G true d with | some x, some y, some z => some (.chn o o' x y z) | _, _, _ => none
    | .BoolOp .And vs _ => (optAll (trE n G true) vs).bind foldAnd
    | .BoolOp .Or vs _ => (optAll (trE n G true) vs).bind foldOr
    | .IfExp c a d _ => match trT (trE n G true) n c, trE n G b a, trE n G b d with | some t, some x, some y => some (.ite t x y) | _, _, _ => none
    | .Tuple es _ _ => if es.length ≤ 1000 then (mapEs (trE n G false) es).map .tup else none
    | .List es _ => if es.length ≤ 1000 then (mapEs (trE n G false) es).map .lst else none
    | .Subscript a (.Slice none none (some (.UnaryOp .USub (.Constant (.int 1) _ _) _)) _) _ => (trE n G true a).map .rev
    | .Subscript a (.Slice lo hi none _) _ => match trE n G true a, trO (trE n G true) lo, trO (trE n G true) hi with | some x, some l, some h => some (.sl x l h) | _, _, _ => none
    | .Subscript a i _ => if isSlice i then none else match trE n G true a, trE n G true i with | some x, some y => some (.ix x y) | _, _ => none
    | .Call (.Name x p) args [] _ =>
      if !(okN x && glB G x) then none
      else if decide (x ∈ G.fns) then (mapAs G (decide (x ∈ G.scals)) (trE n G false) args).map (.call x)
      else if !decide (x ∈ G.blts) then none
      else if x = "isinstance" then match args with
        | [e, .Name ty _] => match tyOf ty, trE n G true e with
          | some t, some y => if !isStar e && okN ty && glB G ty && decide (ty ∈ G.blts) then some (.bt (.isi t) (.cons y .nil)) else none
          | _, _ => none
        | _ => none
      else match (if x = "list" then rgArg G args else none) with
      | some (a, none) => (trE n G true a).map .lrg1
      | some (a, some b) => match trE n G true a, trE n G true b with | some u, some v => some (.lrg u v) | _, _ => none
      | none => match (if x = "len" then scrArg G args else none) with
        | some i => some (.lenS i)
        | none => if args.isEmpty then none else match btOf x args.length, mapEs (trE n G true) args with | some t, some es => some (.bt t es) | _, _ => none
    | .Call (.Attribute o m apos) [e] [] pos =>
      if m = "join" ∧ (apos.endLine == pos.line) = true ∧ isStar e = false ∧ recvOk o = true then
        match trE n G true o, trE n G true e with | some x, some y => some (.mt .join x (.cons y .nil)) | _, _ => none
      else if m = "index" ∧ (apos.endLine == pos.line) = true ∧ isStar e = false ∧ recvOk o = true then
        match mtOf G o, trE n G true o, trE n G true e with
        | some .sindex, some x, some y => some (.mt .sindex x (.cons y .nil))
        | some .lindex, some x, some y => some (.mt .lindex x (.cons y .nil))
        | _, _, _ => none
      else none
    | .ListComp el [⟨tg, iter, ifs, 0⟩] scope _ =>
      match trTg (G.blk scope) tg, trI G (trE n G true) (isTup tg) iter, trE n (G.blk scope) false el, (match ifs with | [] => some Oc.no | [c] => (trT (trE n (G.blk scope) true) n c).map .so | _ => none) with
      | some t, some it, some x, some c => if !isSet iter && blkC G.N G.sc scope (t.ixs.map fun i => (G.N.getD i "", i)) then some (.comp x t it c) else none
      | _, _, _, _ => none
    | _ => none
end Y

namespace Y
open PySem PySem.Spec PyProof.Rows L2 M
section
variable {X : Cx} {G : Gm} {j : Nat} {C : Str → Ct}
theorem slot_ok (c : Cok X G j C) {x : Str} {i : Nat} (h : slotB G x i = true) : X.N[i]? = some x := by rw [c.N]; exact of_decide_eq_true h
theorem vis_ok (c : Cok X G j C) {x : Str} (h : visB G x = true) : Vis X.env.scope x := by
  rw [c.sc]
  unfold visB at h
  split at h
  · exact .inl (by assumption)
  · exact .inr (.inl (by assumption))
  · exact .inr (.inr (by assumption))
  · cases h
theorem loc_ok (c : Cok X G j C) {x : Str} (h : locB G x = true) : Loc X.env.scope x ∧ (X.fn x = true ∨ X.env.scope.names.lookup x = some .local) := by
  rw [c.sc, c.fn]
  unfold locB at h
  split at h
  · rename_i e; exact ⟨.inl e, .inr e⟩
  · rename_i e; exact ⟨.inr e, .inl h⟩
  · cases h
theorem gl_ok (c : Cok X G j C) {x : Str} (h : glB G x = true) : Gl X x := by
  show X.env.scope.names.lookup x = _
  rw [c.sc]
  exact of_decide_eq_true h
theorem okN_ok {x : Str} (h : okN x = true) : (x == ("__debug__" : Str)) = false ∧ (x == ("__classdict__" : Str)) = false ∧ x ≠ "__name__" := by
  unfold okN at h
  simp only [Bool.and_eq_true, Bool.not_eq_true'] at h
  exact ⟨h.1.1, h.1.2, fun z => by have := h.2; rw [z] at this; simp at this⟩
theorem wxs_mono (hC : CMono C) {E : XQ} {e : Exs} : MonoL (wXs C E e) := fun ρ Q Q' h q => wXs_mono hC e E E ρ Q Q' (fun _ z => z) h q
theorem wbs_mono (hC : CMono C) {E : XQ} {e : Exs} : MonoL (wBs C E e) := fun ρ Q Q' h q => wBs_mono hC e E E ρ Q Q' (fun _ z => z) h q
theorem was_mono (hC : CMono C) {E : XQ} {e : Ags} : MonoA (wAs C E e) := fun ρ Q Q' h q => wAs_mono hC e E E ρ Q Q' (fun _ z => z) h q
theorem wi_mono (hC : CMono C) {E : XQ} {e : Itx} : MonoL (wI C E e) := fun ρ Q Q' h q => wI_mono hC e E E ρ Q Q' (fun _ z => z) h q
theorem wc_mono (hC : CMono C) {e : Oc} : MonoT (wC C e) := fun ρ Q Q' h q => wC_mono hC e ρ Q Q' h q
variable {f : Expr → Option Ex}
theorem star_of {e : Expr} (h : ¬ isStar e = true) : isStar e = false := by simpa using h
theorem mapEs_ok (c : Cok X G j C) (hf : ∀ e x, f e = some x → PE X e (tX X.K (kX G.m x) (wX C XF x))) : ∀ (es : List Expr) (xs : Exs), mapEs f es = some xs → PA X es (tA X.K true (kXs G.m xs) (wXs C XF xs)) ∧ PA X es (tA X.K false (kXs G.m xs) (wBs C XF xs)) ∧ (es.all fun e => !isStar e) = true
  | [], xs, h => by
    cases h
    exact ⟨a_nil, a_nil, rfl⟩
  | e :: es, xs, h => by
    simp only [mapEs] at h
    split at h
    · cases h
    · rename_i hs
      have hs := star_of hs
      split at h
      · rename_i x ys e1 e2
        cases h
        obtain ⟨h1, h2, h3⟩ := mapEs_ok c hf es ys e2
        exact ⟨a_consT (star_cons hs) (wx_mono c.mono) (wxs_mono c.mono) (hf e x e1) h1, a_consF (star_cons hs) (wx_mono c.mono) (wbs_mono c.mono) (hf e x e1) h2, by rw [List.all_cons, hs, h3]; rfl⟩
      · cases h
theorem mapEs_len (hC : CMono C) : ∀ (es : List Expr) (xs : Exs), mapEs f es = some xs → ∀ (ρ : En) (Q : List D → Prop), wXs C XF xs ρ Q → wXs C XF xs ρ fun ds => ds.length = es.length ∧ Q ds
  | [], xs, h, ρ, Q, q => by
    cases h
    exact ⟨rfl, q⟩
  | e :: es, xs, h, ρ, Q, q => by
    simp only [mapEs] at h
    split at h
    · cases h
    · split at h
      · rename_i x ys e1 e2
        cases h
        simp only [wXs] at q ⊢
        exact wx_mono hC _ _ _ (fun d k z => ⟨z.1, wxs_mono hC _ _ _ (fun ds w => ⟨by simp [w.1], w.2⟩) (mapEs_len hC es ys e2 _ _ z.2)⟩) q
      · cases h
theorem mapAs_ok (c : Cok X G j C) {sc : Bool} (hf : ∀ e x, f e = some x → PE X e (tX X.K (kX G.m x) (wX C XF x))) : ∀ (es : List Expr) (xs : Ags), mapAs G sc f es = some xs → PA X es (tAr X.K (kAs G.m xs) (wAs C XF xs)) ∧ (es.all fun e => !isStar e) = true
  | [], xs, h => by
    simp only [mapAs] at h
    cases h
    exact ⟨r_nil, rfl⟩
  | e :: es, xs, h => by
    have plain : ∀ {h' : isStar e = false}, (match f e, mapAs G sc f es with | some x, some xs => some (Ags.ex x xs) | _, _ => none) = some xs → PA X (e :: es) (tAr X.K (kAs G.m xs) (wAs C XF xs)) ∧ ((e :: es).all fun e => !isStar e) = true := by
      intro hs h
      split at h
      · rename_i x ys e1 e2
        cases h
        obtain ⟨h1, h3⟩ := mapAs_ok c hf es ys e2
        exact ⟨r_ex (star_cons hs) (wx_mono c.mono) (was_mono c.mono) (hf e x e1) h1, by rw [List.all_cons, hs, h3]; rfl⟩
      · cases h
    unfold mapAs at h
    split at h
    · rename_i heq; cases heq
    · rename_i x p es' heq
      cases heq
      split at h
      · rename_i hh
        simp only [Bool.and_eq_true] at hh
        obtain ⟨⟨⟨_, h2⟩, h3⟩, h4⟩ := hh
        obtain ⟨o1, o2, _⟩ := okN_ok h4
        cases e2 : mapAs G sc f es with
        | none => rw [e2] at h; cases h
        | some ys =>
          rw [e2] at h
          cases h
          obtain ⟨h1, h5⟩ := mapAs_ok c hf es ys e2
          exact ⟨r_sl (slot_ok c h2) (vis_ok c h3) o1 o2 (was_mono c.mono) h1, by rw [List.all_cons, h5]; rfl⟩
      · exact plain (h' := rfl) h
    · rename_i e' es' _ heq
      cases heq
      split at h
      · cases h
      · rename_i hs
        exact plain (h' := star_of hs) h
theorem trO_ok (c : Cok X G j C) (hf : ∀ e x, f e = some x → PE X e (tX X.K (kX G.m x) (wX C XF x))) : ∀ (o : Option Expr) (x : Ox), trO f o = some x → PO X o (tO X.K (kO G.m x) (wO C XF x))
  | none, x, h => by
    cases h
    exact o_no
  | some e, x, h => by
    cases e1 : f e with
    | none => simp [trO, e1] at h
    | some y =>
      simp only [trO, e1, Option.map_some, Option.some.injEq] at h
      subst h
      exact o_so (wx_mono c.mono) (hf e y e1)
theorem foldAnd_ok (c : Cok X G j C) (hf : ∀ e x, f e = some x → PE X e (tX X.K (kX G.m x) (wX C XF x))) {pos : Pos} : ∀ (vs : List Expr) (xs : List Ex) (r : Ex), optAll f vs = some xs → foldAnd xs = some r → PE X (.BoolOp .And vs pos) (tX X.K (kX G.m r) (wX C XF r))
  | [], xs, r, h, hr => by cases h; cases hr
  | [a], xs, r, h, hr => by
    cases e1 : f a with
    | none => simp [optAll, e1] at h
    | some x =>
      simp only [optAll, e1, Option.some.injEq] at h
      subst h
      cases hr
      exact pe_one (hf a _ e1)
  | a :: b :: vs, xs, r, h, hr => by
    rw [optAll] at h
    split at h
    · rename_i x ys e1 e2
      cases h
      have hne : ∃ z zs, ys = z :: zs := by
        rw [optAll] at e2
        split at e2
        · cases e2; exact ⟨_, _, rfl⟩
        · cases e2
      obtain ⟨z, zs, rfl⟩ := hne
      simp only [foldAnd] at hr
      cases e3 : foldAnd (z :: zs) with
      | none => rw [e3] at hr; cases hr
      | some r' =>
        rw [e3] at hr
        cases hr
        exact y_and (wx_mono c.mono) (wx_mono c.mono) (hf a x e1) (foldAnd_ok c hf (b :: vs) (z :: zs) r' e2 e3)
    · cases h
theorem foldOr_ok (c : Cok X G j C) (hf : ∀ e x, f e = some x → PE X e (tX X.K (kX G.m x) (wX C XF x))) {pos : Pos} : ∀ (vs : List Expr) (xs : List Ex) (r : Ex), optAll f vs = some xs → foldOr xs = some r → PE X (.BoolOp .Or vs pos) (tX X.K (kX G.m r) (wX C XF r))
  | [], xs, r, h, hr => by cases h; cases hr
  | [a], xs, r, h, hr => by
    cases e1 : f a with
    | none => simp [optAll, e1] at h
    | some x =>
      simp only [optAll, e1, Option.some.injEq] at h
      subst h
      cases hr
      exact pe_one (hf a _ e1)
  | a :: b :: vs, xs, r, h, hr => by
    rw [optAll] at h
    split at h
    · rename_i x ys e1 e2
      cases h
      have hne : ∃ z zs, ys = z :: zs := by
        rw [optAll] at e2
        split at e2
        · cases e2; exact ⟨_, _, rfl⟩
        · cases e2
      obtain ⟨z, zs, rfl⟩ := hne
      simp only [foldOr] at hr
      cases e3 : foldOr (z :: zs) with
      | none => rw [e3] at hr; cases hr
      | some r' =>
        rw [e3] at hr
        cases hr
        exact y_or (wx_mono c.mono) (wx_mono c.mono) (hf a x e1) (foldOr_ok c hf (b :: vs) (z :: zs) r' e2 e3)
    · cases h
theorem tAnd_ok (c : Cok X G j C) {g : Expr → Option Tx} (hg : ∀ e x, g e = some x → PT X e (tT X.K (kT G.m x) (wT C XF x))) {pos : Pos} : ∀ (vs : List Expr) (xs : List Tx) (r : Tx), optAll g vs = some xs → tAnd' xs = some r → PW X (.BoolOp .And vs pos) (tT X.K (kT G.m r) (wT C XF r))
  | [], xs, r, h, hr => by cases h; cases hr
  | [a], xs, r, h, hr => by
    cases e1 : g a with
    | none => simp [optAll, e1] at h
    | some x =>
      simp only [optAll, e1, Option.some.injEq] at h
      subst h
      cases hr
      exact t_and1 (hg a _ e1)
  | a :: b :: vs, xs, r, h, hr => by
    rw [optAll] at h
    split at h
    · rename_i x ys e1 e2
      cases h
      have hne : ∃ z zs, ys = z :: zs := by
        rw [optAll] at e2
        split at e2
        · cases e2; exact ⟨_, _, rfl⟩
        · cases e2
      obtain ⟨z, zs, rfl⟩ := hne
      simp only [tAnd'] at hr
      cases e3 : tAnd' (z :: zs) with
      | none => rw [e3] at hr; cases hr
      | some r' =>
        rw [e3] at hr
        cases hr
        exact t_and (wt_mono c.mono) (wt_mono c.mono) (hg a x e1) (tAnd_ok c hg (b :: vs) (z :: zs) r' e2 e3)
    · cases h
theorem tOr_ok (c : Cok X G j C) {g : Expr → Option Tx} (hg : ∀ e x, g e = some x → PT X e (tT X.K (kT G.m x) (wT C XF x))) {pos : Pos} : ∀ (vs : List Expr) (xs : List Tx) (r : Tx), optAll g vs = some xs → tOr' xs = some r → PW X (.BoolOp .Or vs pos) (tT X.K (kT G.m r) (wT C XF r))
  | [], xs, r, h, hr => by cases h; cases hr
  | [a], xs, r, h, hr => by
    cases e1 : g a with
    | none => simp [optAll, e1] at h
    | some x =>
      simp only [optAll, e1, Option.some.injEq] at h
      subst h
      cases hr
      exact t_or1 (hg a _ e1)
  | a :: b :: vs, xs, r, h, hr => by
    rw [optAll] at h
    split at h
    · rename_i x ys e1 e2
      cases h
      have hne : ∃ z zs, ys = z :: zs := by
        rw [optAll] at e2
        split at e2
        · cases e2; exact ⟨_, _, rfl⟩
        · cases e2
      obtain ⟨z, zs, rfl⟩ := hne
      simp only [tOr'] at hr
      cases e3 : tOr' (z :: zs) with
      | none => rw [e3] at hr; cases hr
      | some r' =>
        rw [e3] at hr
        cases hr
        exact t_or (wt_mono c.mono) (wt_mono c.mono) (hg a x e1) (tOr_ok c hg (b :: vs) (z :: zs) r' e2 e3)
    · cases h
/-- a chain as a test -/
theorem t_chn {ca cb cc : Nat} (hu : X.A.units + 65 < cLine) {o o' : CmpOp} {a b d : Expr} {wa wb wc : En → VQ → Prop} {pos : Pos} (hm : lastMarks [o, o'] [b, d] = false) (ma : MonoW wa) (mb : MonoW wb) (mc : MonoW wc)
    (ha : PE X a (tX X.K ca wa)) (hb : PE X b (tX X.K cb wb)) (hc : PE X d (tX X.K cc wc)) :
    PT X (.Compare a [o, o'] [b, d] pos) (tT X.K (ca + cb + cc) fun ρ Q => wa ρ fun x _ => wb ρ fun y _ => match cmpD o x y with
      | some (p, r) => p ∧ (r = true → wc ρ fun z _ => (cmpR o' y z).to fun d _ => match truD d with | some (p, b) => p ∧ Q b | none => False) ∧ (r = false → match truD (.bool false) with | some (p, b) => p ∧ Q b | none => False)
      | none => False) := by
  refine PT.weak (pt_chain (op_cmpY hu o) (op_cmpY hu o') ha hb hc hm) fun σ H Q ⟨H0, B, pn, fr, ρ, Z, tb, ok, w⟩ => ?_
  refine ⟨H0, B, pn, fr, ρ, Z, (cb + (cc + tb)), ok.lt (by omega), ma _ _ _ (fun d k q x H1 s1 r1 => ⟨H0, B, pn, fr, ρ, Z, _, ok.to s1, mb _ _ _ (fun e k' q y H2 s2 r2 => ?_) q⟩) w⟩
  have ok1 := ok.to s1
  have ok2 := ok1.to s2
  split at q
  · rename_i p r e1
    refine ⟨pn, Z, d, e, ok2.zt, (r1.dr ok.pnt).step s2 ok.pnz, r2.dr ok1.pnt, ?_⟩
    unfold cmpR
    rw [e1]
    refine ⟨q.1, fun v H3 s3 r3 => ?_⟩
    cases r3
    have s3' : HStep (cc + tb) pn H2 H3 := ok2.ss s3
    refine ⟨r, rfl, ?_⟩
    cases r with
    | false => exact ⟨false, rfl, (q.2.2 rfl).2 H3 (((s1.trans s2).trans s3').less (by omega))⟩
    | true =>
      refine ⟨H0, B, pn, fr, ρ, Z, _, ok2.to s3', mc _ _ _ (fun f k3 q3 z H4 s4 r4 => ?_) (q.2.1 rfl)⟩
      obtain ⟨p', b', e2, hp', q4⟩ := cmpR_bool q3
      refine ⟨pn, Z, e, f, ((ok2.to s3').to s4).zt, ((r2.dr ok1.pnt).step s3' ok.pnz).step s4 ok.pnz, r4.dr (ok2.to s3').pnt, ?_⟩
      dsimp only
      rw [e2]
      refine ⟨hp', fun v H5 s5 r5 => ?_⟩
      cases r5
      exact ⟨b', rfl, q4.2 H5 ((((s1.trans s2).trans s3').trans s4).trans (((ok2.to s3').to s4).ss s5))⟩
  · exact q.elim
theorem hu_of' (c : Cok X G j C) : X.A.units + 65 < cLine := by have := c.room.un; omega
theorem trT_ok (c : Cok X G j C) (hf : ∀ e x, f e = some x → PE X e (tX X.K (kX G.m x) (wX C XF x))) : ∀ (m : Nat) (e : Expr) (x : Tx), trT f m e = some x → PT X e (tT X.K (kT G.m x) (wT C XF x))
  | 0, e, x, h => by cases h
  | m + 1, e, x, h => by
    have ih := trT_ok c hf m
    simp only [trT] at h
    split at h
    · rename_i a pos
      cases e1 : trT f m a with
      | none => rw [e1] at h; cases h
      | some y =>
        rw [e1] at h
        cases h
        exact t_nt (ih a y e1)
    · rename_i vs pos
      cases e1 : optAll (trT f m) vs with
      | none => rw [e1] at h; cases h
      | some xs =>
        rw [e1] at h
        exact (tAnd_ok c ih vs xs x e1 h).pt
    · rename_i vs pos
      cases e1 : optAll (trT f m) vs with
      | none => rw [e1] at h; cases h
      | some xs =>
        rw [e1] at h
        exact (tOr_ok c ih vs xs x e1 h).pt
    · rename_i a o d pos
      split at h
      · cases h
      · rename_i hm
        split at h
        · rename_i x y e1 e2
          cases h
          exact t_cmp (hu_of' c) (by simpa using hm) (wx_mono c.mono) (wx_mono c.mono) (hf a x e1) (hf d y e2)
        · cases h
    · rename_i a o o' b d pos
      split at h
      · cases h
      · rename_i hm
        split at h
        · rename_i x y z e1 e2 e3
          cases h
          exact t_chn (hu_of' c) (by simpa using hm) (wx_mono c.mono) (wx_mono c.mono) (wx_mono c.mono) (hf a x e1) (hf b y e2) (hf d z e3)
        · cases h
    · split at h
      · rename_i hp
        cases e1 : f e with
        | none => rw [e1] at h; cases h
        | some y =>
          rw [e1] at h
          cases h
          exact t_of (wx_mono c.mono) (plainT hp) (hf e y e1)
      · cases h
theorem tgs_ok (c : Cok X G j C) : ∀ (es : List Expr) (is : List Nat), trTgs G es = some is → PGs X es (gMany is) ∧ (assignEach es X.env).length = is.length ∧ (assignEach es X.env).findIdx? (·.1) = none
  | [], is, h => by cases h; exact ⟨pgs_nil, rfl, rfl⟩
  | e :: es, is, h => by
    unfold trTgs at h
    split at h
    · rename_i heq; cases heq
    · rename_i x p r heq
      cases heq
      split at h
      · rename_i hb
        unfold tgB at hb
        rw [Bool.and_eq_true] at hb
        cases e2 : trTgs G es with
        | none => rw [e2] at h; cases h
        | some ys =>
          rw [e2] at h
          cases h
          obtain ⟨h1, h2, h3⟩ := tgs_ok c es ys e2
          obtain ⟨l1, l2⟩ := loc_ok c hb.2
          refine ⟨pgs_cons (pg_name (i := slotOf G x) (by rw [c.N]; exact c.nd) (slot_ok c hb.1) l1 l2) h1, ?_, ?_⟩
          · show (assignEach es X.env).length + 1 = _
            rw [h2]; rfl
          · show List.findIdx? _ ((false, assign _ X.env) :: assignEach es X.env) = none
            rw [List.findIdx?_cons, h3]
            rfl
      · cases h
    · cases h
theorem tg_of (c : Cok X G j C) : ∀ (e : Expr) (t : Tg), trTg G e = some t → PG X e (gT X.K t) := by
  intro e t h
  unfold trTg at h
  split at h
  · rename_i x p
    split at h
    · rename_i hb
      unfold tgB at hb
      rw [Bool.and_eq_true] at hb
      cases h
      obtain ⟨l1, l2⟩ := loc_ok c hb.2
      exact pg_name (i := slotOf G x) (by rw [c.N]; exact c.nd) (slot_ok c hb.1) l1 l2
    · cases h
  · rename_i es k p
    cases e2 : trTgs G es with
    | none => rw [e2] at h; cases h
    | some ys =>
      rw [e2] at h
      cases h
      obtain ⟨h1, h2, h3⟩ := tgs_ok c es ys e2
      exact pg_tup c.calm h1 h2 h3
  · cases h
end
end Y

namespace Y
open PySem PySem.Spec PyProof.Rows L2 M
/-! ### no borrowed answers -/
def RzNb (r : Rz) : Prop := ∀ c d k, r = some (c, d, k) → k ≠ .bor
theorem RzNb.to {r : Rz} (h : RzNb r) {Q : VQ} (q : r.to Q) : r.to fun d k => k ≠ .bor ∧ Q d k := by
  cases e : r with
  | none => rw [e] at q; exact q.elim
  | some x =>
    obtain ⟨c, d, k⟩ := x
    rw [e] at q
    exact ⟨q.1, h c d k e, q.2⟩
theorem slD_nb (x : D) (l h : Option Int) : RzNb (slD x l h) := by
  intro c d k e
  unfold slD at e
  split at e <;> cases e <;> exact fun z => nomatch z
theorem bin_nb (o : Operator) (x y : D) : RzNb (bin o x y) := by
  intro c d k e
  unfold bin at e
  split at e <;> cases e <;> exact fun z => nomatch z
theorem map_nb {α : Type} {o : Option α} {g : α → Prop × D × Kd} (h : ∀ a, (g a).2.2 ≠ .bor) : RzNb (o.map g) := by
  intro c d k e
  cases o with
  | none => cases e
  | some a =>
    have : g a = (c, d, k) := Option.some.inj e
    have z := h a
    rw [this] at z
    exact z
theorem btD_nb (b : Bt) (ds : List D) : RzNb (btD b ds) := by
  unfold btD
  split <;> first
    | (intro c d k e; cases e; exact fun z => nomatch z)
    | exact map_nb (fun _ z => by cases z)
    | (intro c d k e; cases e)
theorem ixD_nb (x y : D) : RzNb (ixD x y) := by
  unfold ixD
  split <;> first
    | (intro c d k e; cases e; exact fun z => nomatch z)
    | exact map_nb (fun _ z => by cases z)
    | (intro c d k e; cases e)
def noBor : Ex → Bool
  | .var _ => true | .con _ => true | .bin _ _ _ => true | .tup _ => true | .lst _ => true | .ix _ _ => true | .sl _ _ _ => true | .call _ _ => true | .bt _ _ => true | .comp _ _ _ _ => true | .rev _ => true | .lrg1 _ => true | .lrg _ _ => true | _ => false
section
variable {X : Cx} {G : Gm} {j : Nat} {C : Str → Ct}
theorem noBor_ok (hC : CMono C) {x : Ex} (h : noBor x = true) {E : XQ} {ρ : En} {Q : VQ} (q : wX C E x ρ Q) : wX C E x ρ fun d k => k ≠ .bor ∧ Q d k := by
  cases x <;> first
    | (cases h; done)
    | skip
  case con => simp only [wX] at q ⊢; exact ⟨(fun z => nomatch z), q⟩
  case var =>
    simp only [wX] at q ⊢
    split at q
    · exact ⟨(fun z => nomatch z), q⟩
    · exact q
  case bin => simp only [wX] at q ⊢; exact wx_mono hC _ _ _ (fun _ _ z => wx_mono hC _ _ _ (fun _ _ z => (bin_nb _ _ _).to z) z) q
  case rev =>
    simp only [wX] at q ⊢
    refine wx_mono hC _ _ _ (fun x _ z => ?_) q
    split at z
    · exact ⟨(fun z => nomatch z), z⟩
    · exact ⟨z.1, (fun z => nomatch z), z.2⟩
    · exact z.elim
  case lrg1 =>
    simp only [wX] at q ⊢
    refine wx_mono hC _ _ _ (fun x _ z => ?_) q
    split at z
    · exact ⟨z.1, (fun z => nomatch z), z.2⟩
    · exact z.elim
  case lrg =>
    simp only [wX] at q ⊢
    refine wx_mono hC _ _ _ (fun x _ z => wx_mono hC _ _ _ (fun y _ z => ?_) z) q
    split at z
    · exact ⟨z.1, (fun z => nomatch z), z.2⟩
    · exact z.elim
  case tup => simp only [wX] at q ⊢; exact wxs_mono hC _ _ _ (fun _ z => ⟨(fun z => nomatch z), z⟩) q
  case lst => simp only [wX] at q ⊢; exact wxs_mono hC _ _ _ (fun _ z => ⟨(fun z => nomatch z), z⟩) q
  case ix => simp only [wX] at q ⊢; exact wx_mono hC _ _ _ (fun _ _ z => wx_mono hC _ _ _ (fun _ _ z => (ixD_nb _ _).to z) z) q
  case sl => simp only [wX] at q ⊢; exact wx_mono hC _ _ _ (fun _ _ z => wo_mono hC _ _ _ (fun _ z => wo_mono hC _ _ _ (fun _ z => (slD_nb _ _ _).to z) z) z) q
  case call => simp only [wX] at q ⊢; exact was_mono hC _ _ _ (fun _ _ z => hC _ _ _ _ _ _ (fun _ _ z => ⟨z.1, z.2.1, z.2.1, z.2.2⟩) (fun _ z => z) z) q
  case bt => simp only [wX] at q ⊢; exact wbs_mono hC _ _ _ (fun _ z => (btD_nb _ _).to z) q
  case comp => simp only [wX] at q ⊢; exact wi_mono hC _ _ _ (fun _ z => ⟨z.1, wComp_mono (fun _ _ _ h z => by
      split at z
      · exact wc_mono hC _ _ _ (fun _ w => ⟨fun t => wx_mono hC _ _ _ (fun _ _ w => ⟨w.1, h _ w.2⟩) (w.1 t), fun t => h _ (w.2 t)⟩) z
      · exact z) _ _ _ _ (fun _ z => ⟨(fun z => nomatch z), z⟩) z.2⟩) q
/-! ### what is walked -/
theorem trI_ok (c : Cok X G j C) {f : Expr → Option Ex} {nb : Bool} (hf : ∀ e x, f e = some x → PE X e (tX X.K (kX G.m x) (wX C XF x))) (hb : nb = true → ∀ e x, f e = some x → noBor x = true) {tg e : Expr} {x : Itx} (h : trI G f (isTup tg) e = some x) (hs : isSet e = false) : PI X tg e (tI X.K nb (kI G.m x) (wI C XF x)) := by
  have over : ∀ {y : Ex}, f e = some y → PI X tg e (tI X.K nb (kI G.m (.over y)) (wI C XF (.over y))) := fun {y} hy =>
    i_over (wx_mono c.mono) (fun z ρ Q q => noBor_ok c.mono (hb z e y hy) q) (hf e y hy)
  unfold trI at h
  split at h
  · rename_i n p a pos
    split at h
    · rename_i hh
      obtain ⟨rfl, g, hbl, hst⟩ := hh
      cases e1 : f a with
      | none => rw [e1] at h; cases h
      | some y =>
        rw [e1] at h
        cases h
        exact i_rg1 (gl_ok c g) (c.blt _ hbl) (star_cons hst) (wx_mono c.mono) (hf a y e1)
    · split at h
      · rename_i _ hh
        obtain ⟨rfl, ht, g, hbl, hst⟩ := hh
        cases e1 : f a with
        | none => rw [e1] at h; cases h
        | some y =>
          rw [e1] at h
          cases h
          cases tg <;> first
            | (cases ht; done)
            | exact i_enum2 (gl_ok c g) (c.blt _ hbl) (star_cons hst) (wx_mono c.mono) (fun z ρ Q q => noBor_ok c.mono (hb z a y e1) q) (hf a y e1)
      · cases e1 : f (Expr.Call (Expr.Name n p) [a] [] pos) with
        | none => rw [e1] at h; cases h
        | some y => rw [e1] at h; cases h; exact over e1
  · rename_i n p a b pos
    split at h
    · rename_i hh
      obtain ⟨rfl, g, hbl, hst, hst2⟩ := hh
      split at h
      · rename_i y z e1 e2
        cases h
        exact i_rg2 (gl_ok c g) (c.blt _ hbl) (by rw [star_cons hst, star_cons hst2]; rfl) (star_cons hst2) (wx_mono c.mono) (wx_mono c.mono) (hf a y e1) (hf b z e2)
      · cases h
    · cases e1 : f (Expr.Call (Expr.Name n p) [a, b] [] pos) with
      | none => rw [e1] at h; cases h
      | some y => rw [e1] at h; cases h; exact over e1
  · split at h
    · cases h
    · cases e1 : f e with
      | none => rw [e1] at h; cases h
      | some y => rw [e1] at h; cases h; exact over e1
theorem sizeLine_le {n : Nat} (h : n ≤ 1000) : n ≤ sizeLine := by rw [sizeLine_eq]; omega
theorem basesep {o : Expr} {a : Str} {w : Sem Value} {env : Env} (h : recvOk o = true) : attributeBase o a env w = w := by
  cases o <;> first | rfl | cases h
theorem baseidx {o : Expr} {a : Str} {w : Sem Value} {env : Env} (h : recvOk o = true) : attributeBase o a env w = w := by
  cases o <;> first | rfl | cases h
theorem name_glob (c : Cok X G j C) {x : Str} {d : D} {pos : Pos} (h : glB G x = true) (hk : okN x = true) (e : G.cons.lookup x = some d) : PE X (.Name x pos) (tX X.K (kX G.m (.con d)) (wX C XF (.con d))) := by
  obtain ⟨v, hu, hd⟩ := c.con x d (PySem.mem_of_lookup e)
  exact y_con (pe_globS (gl_ok c h) hu (okN_ok hk).1) (fun H Z => hd _ H Z)
theorem trE_ok {j : Nat} {C : Str → Ct} : ∀ (n : Nat) (X : Cx) (G : Gm), Cok X G j C → ∀ (b : Bool) (e : Expr) (x : Ex), trE n G b e = some x → PE X e (tX X.K (kX G.m x) (wX C XF x))
  | 0, X, G, c, b, e, x, h => by simp [trE] at h
  | n + 1, X, G, c, b, e, x, h => by
    have ih := fun X G (c : Cok X G j C) => trE_ok (j := j) (C := C) n X G c
    have ihx := ih X G c
    have m : ∀ {E : XQ} {e : Ex}, MonoW (wX C E e) := fun {E e} => wx_mono c.mono
    simp only [trE] at h
    split at h
    · cases h; exact y_con pe_int fun H Z => .int _
    · cases h; exact y_con pe_bl fun H Z => .bl _
    · cases h; exact y_con pe_non fun H Z => .non
    · cases h; exact y_con pe_str fun H Z => .str _
    · rename_i x' pos
      split at h
      · rename_i hk
        obtain ⟨o1, o2, _⟩ := okN_ok hk
        split at h
        · rename_i hh
          rw [Bool.and_eq_true] at hh
          cases b with
          | true => cases h; exact y_bor (slot_ok c hh.1) (vis_ok c hh.2) o1 o2
          | false => cases h; exact y_var (slot_ok c hh.1) (vis_ok c hh.2) o1 o2
        · split at h
          · rename_i hg
            cases e1 : G.cons.lookup x' with
            | none => rw [e1] at h; cases h
            | some d => rw [e1] at h; cases h; exact name_glob c hg hk e1
          · cases h
      · cases h
    · split at h
      · rename_i y z e1 e2
        cases h
        exact y_bin m m (ihx true _ _ e1) (ihx true _ _ e2)
      · cases h
    · rename_i a pos
      cases e1 : trE n G true a with
      | none => rw [e1] at h; cases h
      | some y => rw [e1] at h; cases h; exact y_neg m (ihx true _ _ e1)
    · rename_i a pos
      cases e1 : trE n G true a with
      | none => rw [e1] at h; cases h
      | some y => rw [e1] at h; cases h; exact y_nt m (ihx true _ _ e1)
    · split at h
      · cases h
      · rename_i hm
        split at h
        · rename_i y z e1 e2
          cases h
          exact y_cmp (hu_of' c) (by simpa using hm) m m (ihx true _ _ e1) (ihx true _ _ e2)
        · cases h
    · split at h
      · cases h
      · rename_i hm
        split at h
        · rename_i y z w e1 e2 e3
          cases h
          exact y_chn (hu_of' c) (by simpa using hm) m m m (ihx true _ _ e1) (ihx true _ _ e2) (ihx true _ _ e3)
        · cases h
    · rename_i vs pos
      cases e1 : optAll (trE n G true) vs with
      | none => rw [e1] at h; cases h
      | some xs => rw [e1] at h; exact foldAnd_ok c (ihx true) vs xs x e1 h
    · rename_i vs pos
      cases e1 : optAll (trE n G true) vs with
      | none => rw [e1] at h; cases h
      | some xs => rw [e1] at h; exact foldOr_ok c (ihx true) vs xs x e1 h
    · split at h
      · rename_i t y z e1 e2 e3
        cases h
        exact y_ite (wt_mono c.mono) m m (trT_ok c (ihx true) n _ _ e1) (ihx b _ _ e2) (ihx b _ _ e3)
      · cases h
    · rename_i es k pos
      split at h
      · rename_i hl
        cases e1 : mapEs (trE n G false) es with
        | none => rw [e1] at h; cases h
        | some xs =>
          rw [e1] at h
          cases h
          exact y_tup (wxs_mono c.mono) (fun ρ Q q => wxs_mono c.mono _ _ _ (fun ds z => ⟨by rw [z.1]; exact sizeLine_le hl, z.2⟩) (mapEs_len c.mono es xs e1 ρ Q q)) (mapEs_ok c (ihx false) es xs e1).1
      · cases h
    · rename_i es pos
      split at h
      · rename_i hl
        cases e1 : mapEs (trE n G false) es with
        | none => rw [e1] at h; cases h
        | some xs =>
          rw [e1] at h
          cases h
          exact y_lst (wxs_mono c.mono) (fun ρ Q q => wxs_mono c.mono _ _ _ (fun ds z => ⟨by rw [z.1]; exact sizeLine_le hl, z.2⟩) (mapEs_len c.mono es xs e1 ρ Q q)) (mapEs_ok c (ihx false) es xs e1).1
      · cases h
    · rename_i a k p1 p2 p3 pos
      cases e1 : trE n G true a with
      | none => rw [e1] at h; cases h
      | some y => rw [e1] at h; cases h; exact y_rev m (ihx true _ _ e1)
    · split at h
      · rename_i y l u e1 e2 e3
        cases h
        exact y_sl m (wo_mono c.mono) (wo_mono c.mono) (ihx true _ _ e1) (trO_ok c (ihx true) _ _ e2) (trO_ok c (ihx true) _ _ e3)
      · cases h
    · split at h
      · cases h
      · rename_i hsl
        split at h
        · rename_i y z e1 e2
          cases h
          exact y_ix (plainIx (by simpa using hsl)) m m (ihx true _ _ e1) (ihx true _ _ e2)
        · cases h
    · rename_i f p args pos
      split at h
      · cases h
      · rename_i hk
        simp only [Bool.not_eq_true', Bool.not_eq_false, Bool.and_eq_true] at hk
        obtain ⟨hk, hg⟩ := hk
        obtain ⟨o1, o2, o3⟩ := okN_ok hk
        split at h
        · rename_i hf
          have hf := of_decide_eq_true hf
          obtain ⟨k, ps, hkj, cl⟩ := c.fns f hf
          have mono1 : ∀ as Q Q' E E', (∀ d k, Q d k → Q' d k) → (∀ e, E e → E' e) → C f as Q E → C f as Q' E' := fun as Q Q' E E' h1 h2 h3 => c.mono f as Q Q' E E' h1 h2 h3
          cases e1 : mapAs G (decide (f ∈ G.scals)) (trE n G false) args with
          | none => rw [e1] at h; cases h
          | some xs =>
            rw [e1] at h
            cases h
            obtain ⟨a1, a2⟩ := mapAs_ok c (ihx false) args xs e1
            cases args with
            | nil =>
              simp only [mapAs] at e1
              cases e1
              exact y_call0 mono1 cl c.room c.quiet hkj (gl_ok c hg) o1
            | cons a as =>
              rw [List.all_cons, Bool.and_eq_true] at a2
              exact y_call mono1 cl c.room c.quiet hkj (gl_ok c hg) o1 (star_cons (by simpa using a2.1)) (star_any a2.2) (was_mono c.mono) a1
        · split at h
          · cases h
          · rename_i hbl
            have hbl : f ∈ G.blts := by simpa using hbl
            split at h
            · rename_i ei
              subst ei
              split at h
              · rename_i e' ty p2
                split at h
                · rename_i t y e1 e2
                  split at h
                  · rename_i hh
                    simp only [Bool.and_eq_true, Bool.not_eq_true'] at hh
                    obtain ⟨⟨⟨h1, h2⟩, h3⟩, h4⟩ := hh
                    obtain ⟨p1, p2', p3⟩ := okN_ok h2
                    obtain ⟨t1, t2⟩ := tyOf_ok e1
                    cases h
                    exact y_isi t1 (gl_ok c hg) (c.blt _ hbl) (pe_bltn (v := .ty t) (u := .type t) (gl_ok c h3) (c.blt _ (of_decide_eq_true h4)) t2 rfl p3 p1) (star_cons h1) m (ihx true _ _ e2)
                  · cases h
                · cases h
              · cases h
            · split at h
              · rename_i a er
                split at er
                · rename_i ef
                  subst ef
                  unfold rgArg at er
                  split at er
                  · split at er
                    · rename_i hh
                      obtain ⟨rfl, h1, h2, h3⟩ := hh
                      cases er
                      cases e1 : trE n G true a with
                      | none => rw [e1] at h; cases h
                      | some u => rw [e1] at h; cases h; exact y_lrg1 c.calm (gl_ok c hg) (c.blt _ hbl) (gl_ok c h1) (c.blt _ h2) (star_cons h3) m (ihx true _ _ e1)
                    · cases er
                  · split at er <;> cases er
                  · cases er
                · cases er
              · rename_i a b er
                split at er
                · rename_i ef
                  subst ef
                  unfold rgArg at er
                  split at er
                  · split at er <;> cases er
                  · split at er
                    · rename_i hh
                      obtain ⟨rfl, h1, h2, h3, h4⟩ := hh
                      cases er
                      split at h
                      · rename_i u v e1 e2
                        cases h
                        exact y_lrg c.calm (gl_ok c hg) (c.blt _ hbl) (gl_ok c h1) (c.blt _ h2) (star_cons h3) (star_cons h4) m m (ihx true _ _ e1) (ihx true _ _ e2)
                      · cases h
                    · cases er
                  · cases er
                · cases er
              split at h
              · rename_i i es
                cases h
                split at es
                · rename_i ef
                  subst ef
                  unfold scrArg at es
                  split at es
                  · rename_i y py
                    split at es
                    · rename_i hh
                      simp only [Bool.and_eq_true] at hh
                      obtain ⟨⟨⟨h1, h2⟩, h3⟩, _⟩ := hh
                      obtain ⟨p1, p2', p3⟩ := okN_ok h3
                      cases es
                      refine PE.weak (pe_callB call_len_seq (gl_ok c hg) (c.blt _ hbl) (by decide +kernel) (pa_cons (pe_var (slot_ok c h1) (vis_ok c h2) p1 p2') pa_nil rfl)) fun σ H Q ⟨H0, B, pn, fr, ρ, Z, tb, ok, w⟩ => ?_
                      simp only [wX] at w
                      split at w
                      · rename_i k e
                        obtain ⟨a, ns, e1, hs, rfl⟩ := ok.sl _ _ e
                        refine ⟨.ref a, e1, a, _, rfl, .inl hs.sq, ?_⟩
                        rw [List.length_map]
                        exact w _ H (HStep.refl (ok.bd.less (by omega))) (.int _)
                      · exact w.elim
                    · cases es
                  · cases es
                · cases es
              · split at h
                · cases h
                · rename_i hne
                  split at h
                  · rename_i t es e1 e2
                    cases h
                    obtain ⟨b1, b2⟩ := btOf_ok e1
                    obtain ⟨_, a2, a3⟩ := mapEs_ok c (ihx true) args es e2
                    cases args with
                    | nil => exact absurd rfl hne
                    | cons a as =>
                      rw [List.all_cons, Bool.and_eq_true] at a3
                      exact y_bt c.calm c.quiet c.room b1 (gl_ok c hg) (c.blt _ hbl) b2 o3 o1 (star_cons (by simpa using a3.1)) (star_any a3.2) (wbs_mono c.mono) a2
                  · cases h
    · rename_i o mm apos e' pos
      split at h
      · rename_i hh
        obtain ⟨rfl, h1, h2, h3⟩ := hh
        split at h
        · rename_i y z e1 e2
          cases h
          exact y_join m m (ihx true _ _ e1) (ihx true _ _ e2) (star_cons h2) (basesep h3) h1
        · cases h
      · split at h
        · rename_i hh
          obtain ⟨rfl, h1, h2, h3⟩ := hh
          split at h
          · rename_i y z _ e1 e2
            cases h
            exact y_sindex (star_cons h2) h1 (baseidx h3) m m (ihx true _ _ e1) (ihx true _ _ e2)
          · rename_i y z _ e1 e2
            cases h
            exact y_lindex (hu_of' c) (star_cons h2) h1 (baseidx h3) m m (ihx true _ _ e1) (ihx true _ _ e2)
          · cases h
        · cases h
    · rename_i el tg iter ifs scope pos
      split at h
      · rename_i t it y oc e1 e2 e3 e4
        split at h
        · rename_i hh
          simp only [Bool.and_eq_true, Bool.not_eq_true'] at hh
          cases h
          have cb := fun s H L cl fp => c.blk scope s H cl L fp
          refine y_comp (own := t.ixs.map fun i => (G.N.getD i "", i)) c.calm (by rw [c.N]; exact c.nd) (wi_mono c.mono) (wc_mono c.mono) m (trI_ok (nb := false) c (ihx true) (fun z => nomatch z) e2 hh.1) (by rw [c.N, c.sc]; exact blkOk_by hh.2) (by rw [List.map_map]; show List.map (fun i => i) t.ixs = t.ixs; simp) (fun s H L cl fp => tg_of (cb s H L cl fp) tg t e1) (fun s H L cl fp => ?_) (fun s H L cl fp => ih _ _ (cb s H L cl fp) false el y e3) (folded_ok hh.1)
          split at e4
          · cases e4; exact ⟨fun pins s σ H Q I ⟨_, _, _, _, _, _, tb, ok, w⟩ => pts_nil.run pins s σ H Q I (w H (HStep.refl (ok.bd.less (by omega))))⟩
          · rename_i cc
            cases e5 : trT (trE n (G.blk scope) true) n cc with
            | none => rw [e5] at e4; cases e4
            | some tx =>
              rw [e5] at e4
              cases e4
              exact pts_one (trT_ok (cb s H L cl fp) (ih _ _ (cb s H L cl fp) true) n cc tx e5)
          · cases e4
        · cases h
      · cases h
    · cases h
end
end Y

namespace Y
open PySem PySem.Spec PyProof.Rows L2 M
theorem anyStar : (fun e : Expr => match e with | .Starred .. => true | _ => false) = isStar := by funext e; cases e <;> rfl
theorem stores_par {x y : Str} {px py pt pt2 : Pos} {kt k2 : Nat} {a b : Expr} {env : Env} (hk : env.scope.kind = .function) (hx : env.scope.names.lookup x = some .local) (hy : env.scope.names.lookup y = some .local) (hl : (py.line == px.line) = true) (hne : x ≠ y)
    (hsa : isStar a = false) (hsb : isStar b = false) (hf : [a, b].all (foldedForSure 8) = false) (hc : [a, b].all (constantsAlone 8) = false) :
    swappedStores [.Tuple [.Name x px, .Name y py] kt pt] (.Tuple [a, b] k2 pt2) env = pure (some [x, y]) := by
  have kx : env.kindOf x = some .local := hx
  have ky : env.kindOf y = some .local := hy
  have hb : env.blockKind = .function := by unfold Env.blockKind; rw [hk]; rfl
  have hst : [a, b].any isStar = false := by simp [hsa, hsb]
  have hne' : ([x, y] : List Str).eraseDups.length = 2 := by
    have : (y == x) = false := by simpa using fun z => hne z.symm
    simp [List.eraseDups_cons, this]
  have hl' : py.line = px.line := by simpa using hl
  unfold swappedStores
  have e1 : (some (NameKind.local) == some NameKind.local) = true := by decide
  have e2 : (ScopeKind.function != ScopeKind.function) = false := by decide
  simp only [anyStar, hst, hb, e2, List.length_cons, List.length_nil, List.head?_cons, Option.map_some, Option.getD_some, Expr.pos, List.filterMap_cons, List.filterMap_nil, kx, ky, e1, hl', beq_self_eq_true, Bool.and_self, if_true, hne', hf, hc]
  refine (if_neg (by decide)).trans ((if_neg (show ¬ ([a, b].any isStar) = true by rw [hst]; decide)).trans ?_)
  rfl
theorem stores_cell {x y : Str} {px py pt pt2 : Pos} {kt k2 : Nat} {a b : Expr} {env : Env} (h : env.scope.names.lookup x = some .cell ∨ env.scope.names.lookup y = some .cell) :
    swappedStores [.Tuple [.Name x px, .Name y py] kt pt] (.Tuple [a, b] k2 pt2) env = pure none := by
  have hn : ([Expr.Name x px, Expr.Name y py].filterMap fun | .Name id pos => if (env.kindOf id == some .local && pos.line == px.line) = true then some id else none | _ => none).length ≠ 2 := by
    rcases h with h | h
    · have e : (env.kindOf x == some .local) = false := by show (env.scope.names.lookup x == _) = false; rw [h]; rfl
      simp only [List.filterMap_cons, List.filterMap_nil, e, Bool.false_and]
      (repeat' split) <;> simp_all
    · have e : (env.kindOf y == some .local) = false := by show (env.scope.names.lookup y == _) = false; rw [h]; rfl
      simp only [List.filterMap_cons, List.filterMap_nil, e, Bool.false_and]
      (repeat' split) <;> simp_all
  unfold swappedStores
  dsimp only
  split
  · rfl
  · split
    · rfl
    · simp only [List.head?_cons, Option.map_some, Option.getD_some, Expr.pos, List.length_cons, List.length_nil]
      have hc : ∀ {α : Type} (A B : α), (if (([Expr.Name x px, Expr.Name y py].filterMap fun | .Name id pos => if (env.kindOf id == some .local && pos.line == px.line) = true then some id else none | _ => none).length != 0 + 1 + 1 || ([Expr.Name x px, Expr.Name y py].filterMap fun | .Name id pos => if (env.kindOf id == some .local && pos.line == px.line) = true then some id else none | _ => none).eraseDups.length != ([Expr.Name x px, Expr.Name y py].filterMap fun | .Name id pos => if (env.kindOf id == some .local && pos.line == px.line) = true then some id else none | _ => none).length) = true then A else B) = A := fun A B => if_pos (by
        rw [Bool.or_eq_true]
        left
        simpa using hn)
      exact hc _ _
def noBorF (f : Expr → Option Ex) (e : Expr) : Option Ex := match f e with | some x => if noBor x then some x else none | none => none
theorem noBorF_ok {f : Expr → Option Ex} {e : Expr} {x : Ex} (h : noBorF f e = some x) : f e = some x ∧ noBor x = true := by
  unfold noBorF at h
  split at h
  · split at h
    · cases h; exact ⟨by assumption, by assumption⟩
    · cases h
  · cases h

def parB (G : Gm) (x y : Str) (px py : Pos) (a b : Expr) : Bool :=
  slotB G x (slotOf G x) && slotB G y (slotOf G y) && decide (G.sc.names.lookup x = some .local) && decide (G.sc.names.lookup y = some .local) && (py.line == px.line) && decide (x ≠ y) && decide (slotOf G x ≠ slotOf G y) &&
    !isStar a && !isStar b && !([a, b].all (foldedForSure 8)) && !([a, b].all (constantsAlone 8)) && decide (G.sc.kind = .function)
def celB (G : Gm) (x y : Str) : Bool := decide (G.sc.names.lookup x = some .cell) || decide (G.sc.names.lookup y = some .cell)
def compSw (G : Gm) (y : Str) (py pos : Pos) (scope : Scope) : Bool :=
  decide (G.sc.names.lookup y = some .local) && (py.line == pos.line) && !(scope.names.any fun (n, k) => n == y && (k == .local || k == .cell)) && decide (G.sc.kind = .function)
def trS (n : Nat) (G : Gm) : Nat → Stmt → Option Sm
  | 0, _ => none
  | m + 1, st => match st with
    | .Pass _ => some .pss
    | .Break _ => some .brk
    | .Continue _ => some .cnt
    | .Raise _ _ _ => some .never
    | .If c a b _ => match trT (trE n G true) n c, go (trS n G m) a, go (trS n G m) b with | some t, some x, some y => some (.cond t x y) | _, _, _ => none
    | .For tg iter body [] _ => if isSet iter then none else match trTg G tg, trI G (noBorF (trE n G false)) (isTup tg) iter, go (trS n G m) body with | some t, some it, some b => some (.loop t it b) | _, _, _ => none
    | .While c body [] _ => match trT (trE n G true) n c, go (trS n G m) body with | some t, some b => some (.whil t b) | _, _ => none
    | .Return none _ => some .retn
    | .Return (some (.Name x p)) _ => if slotB G x (slotOf G x) && visB G x && okN x then some (.retv (slotOf G x)) else (trE n G false (.Name x p)).map .ret
    | .Return (some e) _ => (trE n G false e).map .ret
    | .Expr (.Call (.Attribute (.Name x p) mt apos) [e] [] cpos) _ =>
      if slotB G x (slotOf G x) && visB G x && okN x && (apos.endLine == cpos.line) && !isStar e then
        (if mt = "append" then (trE n G false e).map (.app (slotOf G x)) else if mt = "extend" then (trE n G true e).map (.ext (slotOf G x)) else none)
      else none
    | .Expr e _ => if isComp e then none else (trE n G true e).map .expr
    | .Assign [.Name x px] e pos =>
      if !tgB G x then none else match e with
      | .Call (.Name f p) [.Name y py] [] pc =>
        if decide (f ∈ G.mks) then (if slotB G y (slotOf G y) && visB G y && okN y && glB G f && okN f then some (.mkpen (slotOf G x) f (slotOf G y)) else none)
        else (trE n G false (.Call (.Name f p) [.Name y py] [] pc)).map (.set (slotOf G x))
      | .ListComp el gs scope lp => if compSw G x px lp scope then (trE n G false (.ListComp el gs scope lp)).map (.set (slotOf G x)) else if decide (G.sc.names.lookup x = some .cell) then (trE n G false (.ListComp el gs scope lp)).map (.set (slotOf G x)) else none
      | e => if isComp e then none else (trE n G false e).map (.set (slotOf G x))
    | .Assign [.Tuple [.Name x px, .Name y py] _ _] (.Tuple [a, b] k2 p2) _ => if parB G x y px py a b then match trE n G false a, trE n G false b with | some u, some v => some (.par (slotOf G x) (slotOf G y) u v) | _, _ => none
      else if celB G x y then match trTgs G [.Name x px, .Name y py], trE n G false (.Tuple [a, b] k2 p2) with | some is, some e => some (.tset is e) | _, _ => none else none
    | .Assign [.Tuple es k p] e _ => if isTup e || isComp e then none else match trTgs G es, trE n G false e with | some is, some x => some (.tset is x) | _, _ => none
    | .Assign [.Subscript (.Name x p) ke spos] e _ => if slotB G x (slotOf G x) && visB G x && okN x && !isComp e && !isTup e && !isSlice ke then match trE n G true ke, trE n G false e with | some k, some v => some (.seti (slotOf G x) k v) | _, _ => none else none
    | .AugAssign (.Name x p) o e _ => if tgB G x && augOk o then (trE n G true e).map (.aug (slotOf G x) o) else none
    | _ => none
where go (f : Stmt → Option Sm) : List Stmt → Option Sms
  | [] => some .nil
  | s :: r => match f s, go f r with | some x, some y => some (.cons x y) | _, _ => none
theorem go_ok {X : Cx} {G : Gm} {C : Str → Ct} {f : Stmt → Option Sm} (hf : ∀ s x, f s = some x → PS X s (tS X.K (kS G.m x) (wS C x))) : ∀ (ss : List Stmt) (xs : Sms), trS.go f ss = some xs → PSs X ss (tS X.K (kSs G.m xs) (wSs C xs))
  | [], xs, h => by
    cases h
    exact ss_nil
  | s :: r, xs, h => by
    simp only [trS.go] at h
    split at h
    · rename_i x y e1 e2
      cases h
      exact ss_cons (c1 := kS G.m x) (c2 := kSs G.m y) (w1 := wS C x) (w2 := wSs C y) (hf s x e1) (go_ok hf r y e2)
    · cases h
theorem setcomp_ok {X : Cx} {G : Gm} {j : Nat} {C : Str → Ct} (c : Cok X G j C) {n : Nat} {el : Expr} {gs : List Comprehension} {scope : Scope} {lp px pos : Pos} {y : Str} {x : Ex} {i : Nat} (h : trE n G false (.ListComp el gs scope lp) = some x) (hi : X.N[i]? = some y) (hsw : compSw G y px lp scope = true) :
    PS X (.Assign [.Name y px] (.ListComp el gs scope lp) pos) (tAsg (tX X.K (kX G.m x) (wX C XF x)) (gName i)) := by
  cases n with
  | zero => simp [trE] at h
  | succ n =>
    have ihx := trE_ok (j := j) (C := C) n X G c
    have m : ∀ {E : XQ} {e : Ex}, MonoW (wX C E e) := fun {E e} => wx_mono c.mono
    simp only [trE] at h
    have ih := fun X G (c : Cok X G j C) => trE_ok (j := j) (C := C) n X G c
    split at h
    all_goals (rename_i heq; first | (cases heq; done) | skip)
    · rename_i el' tg iter ifs scope' pos'
      cases heq
      split at h
      · rename_i t it y' oc e1 e2 e3 e4
        split at h
        · rename_i hh
          simp only [Bool.and_eq_true, Bool.not_eq_true'] at hh
          cases h
          have cb := fun s H L cl fp => c.blk scope s H cl L fp
          unfold compSw at hsw
          simp only [Bool.and_eq_true, Bool.not_eq_true', decide_eq_true_eq] at hsw
          obtain ⟨⟨⟨k1, k2⟩, k3⟩, k4⟩ := hsw
          have sw : swapsWith (.ListComp el [⟨tg, iter, ifs, 0⟩] scope lp) (some (.Name y px)) pos.line X.env = pure true := sw_true (by rw [c.sc]; exact k4) (by rw [c.sc]; exact k1) k2 k3
          refine (y_setcomp (own := t.ixs.map fun i => (G.N.getD i "", i)) c.calm (by rw [c.N]; exact c.nd) hi (by rw [c.sc]; exact k1) sw (wi_mono c.mono) (wc_mono c.mono) m (trI_ok (nb := false) c (ihx true) (fun z => nomatch z) e2 hh.1) (by rw [c.N, c.sc]; exact blkOk_by hh.2) (by rw [List.map_map]; show List.map (fun i => i) t.ixs = t.ixs; simp) (fun s H L cl fp => tg_of (cb s H L cl fp) tg t e1) (fun s H L cl fp => ?_) (fun s H L cl fp => ih _ _ (cb s H L cl fp) false el y' e3) (folded_ok hh.1))
          split at e4
          · cases e4; exact ⟨fun pins s σ H Q I ⟨_, _, _, _, _, _, tb, ok, w⟩ => pts_nil.run pins s σ H Q I (w H (HStep.refl (ok.bd.less (by omega))))⟩
          · rename_i cc
            cases e5 : trT (trE n (G.blk scope) true) n cc with
            | none => rw [e5] at e4; cases e4
            | some tx =>
              rw [e5] at e4
              cases e4
              exact pts_one (trT_ok (cb s H L cl fp) (ih _ _ (cb s H L cl fp) true) n cc tx e5)
          · cases e4
        · cases h
      · cases h
    · cases h
theorem swaps_cell {el : Expr} {gs : List Comprehension} {scope : Scope} {lp px : Pos} {y : Str} {l : Nat} {env : Env} (h : env.scope.names.lookup y = some .cell) : swapsWith (.ListComp el gs scope lp) (some (.Name y px)) l env = pure false := by
  have ky : env.kindOf y = some .cell := h
  unfold swapsWith
  simp only [ky]
  have : (some NameKind.cell == some NameKind.local) = false := by decide
  simp only [this, Bool.and_false, Bool.false_and]
end Y

namespace Y
open PySem PySem.Spec PyProof.Rows L2 M
theorem pow_of {X : Cx} {G : Gm} {j : Nat} {C : Str → Ct} (c : Cok X G j C) : PassesOwn (model X.prog X.w) X.A X.env X.xe := by rw [c.xe]; exact PassesOwn.never
theorem trS_ok {j : Nat} {C : Str → Ct} {X : Cx} {G : Gm} (c : Cok X G j C) (n : Nat) : ∀ (m : Nat) (st : Stmt) (x : Sm), trS n G m st = some x → PS X st (tS X.K (kS G.m x) (wS C x))
  | 0, st, x, h => by simp [trS] at h
  | m + 1, st, x, h => by
    have ih := go_ok (trS_ok c n m)
    have ihx := trE_ok (j := j) (C := C) n X G c
    have mx : ∀ {E : XQ} {e : Ex}, MonoW (wX C E e) := fun {E e} => wx_mono c.mono
    have nd : X.N.Nodup := by rw [c.N]; exact c.nd
    have tg1 : ∀ {x : Str}, tgB G x = true → X.N[slotOf G x]? = some x ∧ Loc X.env.scope x ∧ (X.fn x = true ∨ X.env.scope.names.lookup x = some .local) := fun {x} h => by
      unfold tgB at h
      rw [Bool.and_eq_true] at h
      exact ⟨slot_ok c h.1, loc_ok c h.2⟩
    simp only [trS] at h
    split at h
    · cases h; exact s_pss
    · cases h; exact s_brk
    · cases h; exact s_cnt
    · cases h; exact s_never
    · split at h
      · rename_i t a b e1 e2 e3
        cases h
        exact s_cond (wc := fun E => wT C E t) (wa := wSs C a) (wb := wSs C b) (wt_mono c.mono) (trT_ok c (ihx true) n _ _ e1) (ih _ _ e2) (ih _ _ e3)
      · cases h
    · split at h
      · cases h
      · rename_i hs
        split at h
        · rename_i t it b e1 e2 e3
          cases h
          exact s_loop (wi := fun E => wI C E it) (wbd := wSs C b) (pow_of c) c.calm (trI_ok (nb := true) c (fun e x h => ihx false e x (noBorF_ok h).1) (fun _ e x h => (noBorF_ok h).2) e2 (by simpa using hs)) (wi_mono c.mono) (tg_of c _ _ e1) (ih _ _ e3) (folded_ok (by simpa using hs))
        · cases h
    · split at h
      · rename_i t b e1 e2
        cases h
        exact s_whil (wc := fun E => wT C E t) (wbd := wSs C b) (pow_of c) (wt_mono c.mono) (trT_ok c (ihx true) n _ _ e1) (ih _ _ e2)
      · cases h
    · cases h; exact s_retn
    · rename_i x' p pos
      split at h
      · rename_i hh
        simp only [Bool.and_eq_true] at hh
        obtain ⟨⟨h1, h2⟩, h3⟩ := hh
        obtain ⟨o1, o2, _⟩ := okN_ok h3
        cases h
        exact s_retv (slot_ok c h1) (vis_ok c h2) o1 o2
      · cases e1 : trE n G false (.Name x' p) with
        | none => rw [e1] at h; cases h
        | some y => rw [e1] at h; cases h; exact s_ret (wa := fun E => wX C E y) mx (ihx false _ _ e1)
    · rename_i e pos _
      cases e1 : trE n G false e with
      | none => rw [e1] at h; cases h
      | some y => rw [e1] at h; cases h; exact s_ret (wa := fun E => wX C E y) mx (ihx false _ _ e1)
    · rename_i x' p mt apos e cpos pos
      split at h
      · rename_i hh
        simp only [Bool.and_eq_true, Bool.not_eq_true'] at hh
        obtain ⟨⟨⟨⟨h1, h2⟩, h3⟩, h4⟩, h5⟩ := hh
        obtain ⟨o1, o2, _⟩ := okN_ok h3
        split at h
        · rename_i em
          subst em
          cases e1 : trE n G false e with
          | none => rw [e1] at h; cases h
          | some y => rw [e1] at h; cases h; exact s_app (wa := fun E => wX C E y) (slot_ok c h1) (vis_ok c h2) o1 o2 (star_cons h5) h4 mx (ihx false _ _ e1)
        · split at h
          · rename_i _ em
            subst em
            cases e1 : trE n G true e with
            | none => rw [e1] at h; cases h
            | some y => rw [e1] at h; cases h; exact s_ext (wa := fun E => wX C E y) (slot_ok c h1) (vis_ok c h2) o1 o2 (star_cons h5) h4 mx (ihx true _ _ e1)
          · cases h
      · cases h
    · rename_i e pos _
      split at h
      · cases h
      · rename_i hc
        cases e1 : trE n G true e with
        | none => rw [e1] at h; cases h
        | some y => rw [e1] at h; cases h; exact s_expr (wa := fun E => wX C E y) (swaps_ok (by simpa using hc)) mx (ihx true _ _ e1)
    · rename_i x' px e pos
      split at h
      · cases h
      · rename_i ht
        obtain ⟨t1, t2, t3⟩ := tg1 (by simpa using ht)
        split at h
        · rename_i f p y py pc
          split at h
          · rename_i hf
            have hf := of_decide_eq_true hf
            obtain ⟨k, ps, hkj, cl⟩ := c.mks f hf
            split at h
            · rename_i hh
              simp only [Bool.and_eq_true] at hh
              obtain ⟨⟨⟨⟨h1, h2⟩, h3⟩, h4⟩, h5⟩ := hh
              obtain ⟨o1, o2, _⟩ := okN_ok h3
              cases h
              exact s_mkpen nd t1 t2 t3 (slot_ok c h1) (vis_ok c h2) o1 o2 cl c.room c.quiet hkj (gl_ok c h4) (okN_ok h5).1
            · cases h
          · cases e1 : trE n G false (.Call (.Name f p) [.Name y py] [] pc) with
            | none => rw [e1] at h; cases h
            | some y => rw [e1] at h; cases h; exact s_set (wa := fun E => wX C E y) nd t1 t2 t3 (swaps_ok rfl) mx (ihx false _ _ e1)
        · rename_i el gs scope lp
          split at h
          · rename_i hsw
            cases e1 : trE n G false (.ListComp el gs scope lp) with
            | none => rw [e1] at h; cases h
            | some y => rw [e1] at h; cases h; exact PS.weak (setcomp_ok c e1 t1 hsw) fun D σ H h => set_end (wa := fun E => wX C E y) mx h
          · split at h
            · rename_i _ hcl
              have hcl := of_decide_eq_true hcl
              cases e1 : trE n G false (.ListComp el gs scope lp) with
              | none => rw [e1] at h; cases h
              | some y => rw [e1] at h; cases h; exact s_set (wa := fun E => wX C E y) nd t1 t2 t3 (swaps_cell (by rw [c.sc]; exact hcl)) mx (ihx false _ _ e1)
            · cases h
        · split at h
          · cases h
          · rename_i hc
            cases e1 : trE n G false e with
            | none => rw [e1] at h; cases h
            | some y => rw [e1] at h; cases h; exact s_set (wa := fun E => wX C E y) nd t1 t2 t3 (swaps_ok (by simpa using hc)) mx (ihx false _ _ e1)
    · rename_i x' px y' py k p a b k2 p2 pos
      split at h
      · rename_i hp
        unfold parB at hp
        simp only [Bool.and_eq_true, Bool.not_eq_true', decide_eq_true_eq] at hp
        obtain ⟨⟨⟨⟨⟨⟨⟨⟨⟨⟨⟨h1, h2⟩, h3⟩, h4⟩, h5⟩, h6⟩, h7⟩, h8⟩, h9⟩, h10⟩, h11⟩, h12⟩ := hp
        split at h
        · rename_i u v e1 e2
          cases h
          exact s_par (wa := fun E => wX C E u) (wb := fun E => wX C E v) c.calm nd (slot_ok c h1) (slot_ok c h2) h7 (by rw [c.sc]; exact h3) (by rw [c.sc]; exact h4)
            (stores_par (by rw [c.sc]; exact h12) (by rw [c.sc]; exact h3) (by rw [c.sc]; exact h4) h5 h6 h8 h9 h10 h11) (star_cons h8) (star_cons h9) mx mx (ihx false _ _ e1) (ihx false _ _ e2)
        · cases h
      · split at h
        · rename_i _ hc
          unfold celB at hc
          simp only [Bool.or_eq_true, decide_eq_true_eq] at hc
          split at h
          · rename_i is y e1 e2
            cases h
            obtain ⟨g1, g2, g3⟩ := tgs_ok c _ is e1
            exact s_tset (wa := fun E => wX C E y) (pg_tup c.calm g1 g2 g3) (by unfold swapsWithSole; exact swaps_ok rfl) (stores_cell (by rw [c.sc]; exact hc)) rfl mx (ihx false _ _ e2)
          · cases h
        · cases h
    · rename_i es k p e pos _
      split at h
      · cases h
      · rename_i hh
        simp only [Bool.or_eq_true, not_or, Bool.not_eq_true] at hh
        split at h
        · rename_i is y e1 e2
          cases h
          obtain ⟨g1, g2, g3⟩ := tgs_ok c es is e1
          exact s_tset (wa := fun E => wX C E y) (pg_tup c.calm g1 g2 g3) (by unfold swapsWithSole; exact swaps_ok hh.2) (stores_ok hh.1) rfl mx (ihx false _ _ e2)
        · cases h
    · rename_i x' p ke spos e pos
      split at h
      · rename_i hh
        simp only [Bool.and_eq_true, Bool.not_eq_true'] at hh
        obtain ⟨⟨⟨⟨⟨h1, h2⟩, h3⟩, h4⟩, h5⟩, h6⟩ := hh
        obtain ⟨o1, o2, _⟩ := okN_ok h3
        split at h
        · rename_i kx y e1 e2
          cases h
          refine s_seti (wa := fun E => wX C E y) (wb := fun E => wX C E kx) (slot_ok c h1) (vis_ok c h2) o1 o2 ?_ (by unfold swapsWithSole; exact swaps_ok h4) (stores_ok h5) rfl mx mx (ihx false _ _ e2) (ihx true _ _ e1)
          intro v
          cases ke <;> first | rfl | cases h6
        · cases h
      · cases h
    · rename_i x' p o e pos
      split at h
      · rename_i hh
        rw [Bool.and_eq_true] at hh
        obtain ⟨t1, t2, t3⟩ := tg1 hh.1
        cases e1 : trE n G true e with
        | none => rw [e1] at h; cases h
        | some y => rw [e1] at h; cases h; exact s_aug (wa := fun E => wX C E y) hh.2 nd t1 t2 t3 mx (ihx true _ _ e1)
      · cases h
    · cases h
end Y

namespace Y
open PySem PySem.Spec PyProof.Rows L2 M
/-! ### defs -/
structure Glo (P : Program) (w : World) (K : PySem.W.Frag) (mg : Str → Option Value) (base : Heap) (G : Gm) (j : Nat) (C : Str → Ct) : Prop where
  blt : ∀ x ∈ G.blts, mg x = none
  con : ∀ x d, (x, d) ∈ G.cons → ∃ v, (∃ u, mg x = some u ∧ RelV v u) ∧ ∀ K H Z, Dn K H Z v d
  fns : ∀ f ∈ G.fns, ∃ k ps, k ≤ j ∧ Cl P w K mg base CX0 k f ps (spC (C f) (G.m f) K)
  mks : ∀ f ∈ G.mks, ∃ k ps, k ≤ j ∧ Cl P w K mg base CX0 k f ps (spPen K)
  mono : CMono C
def slA : Ar → Sl
  | .v d => .val d
  | .pen => .pen
  | .scr n => .scr n
def ini (N : List Str) (as : List Ar) : En := as.map slA ++ List.replicate (N.length - as.length) .emp
def scopeB (N ps : List Str) (sc : Scope) : Bool :=
  (match sc.kind with | .function => true | _ => false) && !sc.isCoroutine && !sc.isGenerator && decide N.Nodup && decide (N.take ps.length = ps) &&
    (ps.all fun x => match sc.names.lookup x with | some .local => true | some .cell => true | _ => false) && (sc.names.all fun y => match y.2 with | .free => false | _ => true)
theorem scope_ok {N ps : List Str} {sc : Scope} (h : scopeB N ps sc = true) : FnScope N ps sc := by
  unfold scopeB at h
  simp only [Bool.and_eq_true, Bool.not_eq_true', List.all_eq_true, decide_eq_true_eq] at h
  obtain ⟨⟨⟨⟨⟨⟨h1, h2⟩, h3⟩, h4⟩, h5⟩, h6⟩, h7⟩ := h
  refine ⟨?_, h2, h3, h4, h5, fun x hx => ?_, fun y hy e => ?_⟩
  · split at h1
    · assumption
    · cases h1
  · have := h6 x hx
    split at this
    · exact .inl (by assumption)
    · exact .inr (by assumption)
    · cases this
  · have := h7 y hy
    rw [e] at this
    cases this
theorem arl_len {K : PySem.W.Frag} {pn : List Addr} {H : Hp} {Z : Addr → Prop} {vs : List V} {as : List Ar} (h : ArL K pn H Z vs as) : vs.length = as.length := by
  induction h with
  | nil => rfl
  | v _ _ ih => simp [ih]
  | pen _ _ ih => simp [ih]
  | scr _ _ ih => simp [ih]
theorem arl_sl {K : PySem.W.Frag} {pn : List Addr} {H0 H : Hp} {Z : Addr → Prop} {vs : List V} {as : List Ar} (h : ArL K pn H Z vs as) : ∀ (i : Nat) (s : Sl), (as.map slA)[i]? = some s → SlOk K H0 H Z pn ((vs.map some)[i]?) s := by
  induction h with
  | nil => intro i s e; simp at e
  | v a _ ih =>
    intro i s e
    cases i with
    | zero => simp [slA] at e; subst e; exact ⟨_, rfl, a⟩
    | succ i => exact ih i s (by simpa using e)
  | pen a _ ih =>
    intro i s e
    cases i with
    | zero => simp [slA] at e; subst e; exact ⟨_, rfl, a⟩
    | succ i => exact ih i s (by simpa using e)
  | scr a _ ih =>
    intro i s e
    cases i with
    | zero => simp [slA] at e; subst e; exact ⟨_, _, rfl, a, rfl⟩
    | succ i => exact ih i s (by simpa using e)
theorem slA_own {a : Ar} {d : D} : slA a ≠ .own d := by cases a <;> exact fun z => nomatch z
theorem env_start {tb : Nat} {K : PySem.W.Frag} {pn : List Addr} {H : Hp} {Z : Addr → Prop} {vs : List V} {as : List Ar} {N : List Str} (h : ArL K pn H Z vs as) (zt : ∀ a, Z a → H a ≠ none) (pz : ∀ a ∈ pn, Z a ∧ PenOk K H Z a) (bd : Bd tb pn H) : EnvOk K H Z pn [] Z tb (start N vs) (ini N as) H := by
  have hl := arl_len h
  have noown : ∀ (i : Nat) (d : D), (ini N as)[i]? ≠ some (.own d) := fun i d e => by
    unfold ini at e
    have := List.mem_of_getElem? e
    rcases List.mem_append.mp this with z | z
    · obtain ⟨a, _, ha⟩ := List.mem_map.mp z
      exact slA_own ha
    · have := List.eq_of_mem_replicate z
      cases this
  refine ⟨HStep.refl bd, zt, fun a z => z, zt, pz, ?_, fun i s e => ?_, fun i j d e a h1 => absurd h1 (noown i d), fun p hp => nomatch hp⟩
  · simp [ini, L2.start, hl]
  · unfold ini at e
    unfold L2.start
    by_cases hi : i < as.length
    · rw [List.getElem?_append_left (by simpa using hi)] at e
      rw [List.getElem?_append_left (by simpa [hl] using hi)]
      exact arl_sl h i s e
    · rw [List.getElem?_append_right (by simpa using hi)] at e
      have := List.mem_of_getElem? e
      have := List.eq_of_mem_replicate this
      subst this
      trivial
def wB (C : Str → Ct) (body : Sms) (N : List Str) (as : List Ar) (Q : VQ) : Prop := wSs C body (ini N as) ⟨fun _ => Q .none .shr, Q, fun _ => False, fun _ => False, XF⟩
section
variable {P : Program} {w : World} {K : PySem.W.Frag} {mg : Str → Option Value} {base : Heap} {k : Nat} {f : Addr} {fd : FuncData} {x qual : Str} {st : Stmt} {G : Gm} {C : Str → Ct} {ps : List Str} {body : Sms} {c : Ct} {mm : Nat}
theorem fn_ok (F : Fun K x qual st f fd) (g : Glo P w K mg base G k C) (hG : G.sc = defScope st) (hfn : G.fn = fun _ => true) (hS : scopeB G.N ps (defScope st) = true) (n m : Nat) (hb : trS.go (trS n G m) (defBody st) = some body) (hm : kSs G.m body ≤ mm)
    (hlen : ∀ as Q E, c as Q E → as.length = ps.length) (hw : ∀ as (Q : VQ), c as Q XF → wB C body G.N as Q) : FnG P w K mg base CX0 (k + 1) f fd ps (spC c mm K) := by
  have S := scope_ok hS
  refine Fun.okG0 F S (fun vs H Q E h => ?_) (fun cdv A outer s H vs Q E hr hg h => ?_)
  · obtain ⟨as, pn, Z, tb, h1, _, _, _, h2⟩ := h
    rw [arl_len h1]
    exact hlen _ _ _ h2
  · obtain ⟨as, pn, Z, tb, h1, zt, pz, bd, h2⟩ := h
    have cok : Cok (cxOf CX0 P w K mg base G.N qual (defScope st) f cdv A outer s H E).nox G k C :=
      ⟨rfl, S.nd, by rw [hG] <;> rfl, by rw [hfn] <;> rfl, rfl, hr, hg, rfl, g.blt, g.con, g.fns, g.mks, g.mono⟩
    have body_ok := go_ok (trS_ok cok n m) _ _ hb
    refine ⟨_, body_ok, H, Z, pn, [], _, pn, _, Z, tb, ⟨fun _ z => z, fun _ z => .inl z⟩, env_start h1 zt pz (bd.less (Nat.add_le_add_right hm tb)), hw as _ h2, ⟨fun σ' H' ⟨pn', ρ', Z', px, ok, q⟩ => ?_, fun _ _ ⟨_, _, _, _, _, q⟩ => q.elim, fun _ _ ⟨_, _, _, _, _, q⟩ => q.elim, fun v d k' H' s1 _ r q => q.2 v H' s1 r, rfl⟩⟩
    exact q.2 .non H' (px.hs ok.step) .non
theorem cl_ok (hT : ∃ (f : Addr) (fd : FuncData), mg x = some (.ref f) ∧ Fun K x x st f fd) (g : Glo P w K mg base G k C) (hG : G.sc = defScope st) (hfn : G.fn = fun _ => true) (hS : scopeB G.N ps (defScope st) = true) (n m : Nat) (hb : trS.go (trS n G m) (defBody st) = some body) (hm : kSs G.m body ≤ mm)
    (hlen : ∀ as Q E, c as Q E → as.length = ps.length) (hw : ∀ as (Q : VQ), c as Q XF → wB C body G.N as Q)
    (hbi : ∀ (us : List Value) (kV doc pm ct cdv : Value) (an : Option Addr), us.length = ps.length → bindArgs (PySem.W.fnOf x x (defArgs st) (defBody st) (defScope st) .none kV doc pm an cdv ct) ⟨us, []⟩ = pure (ps.zip us)) : Cl P w K mg base CX0 (k + 1) x ps (spC c mm K) := by
  obtain ⟨f, fd, gm, F⟩ := hT
  exact Cl.of (fn_ok F g hG hfn hS n m hb hm hlen hw) gm F.kp (F.binds fun _ _ _ _ _ _ us hl => hbi us _ _ _ _ _ _ hl)
end
/-! ### the law's own promise -/
def cLaw : Ct := fun as Q _ => ∃ n, as = [.scr n] ∧ n ≤ 63 ∧ Q (.bool true) .shr
theorem law_want {m : Nat} (hm : m ≤ LIM) {K : PySem.W.Frag} {H : Hp} {a : Addr} {ns : List Int} (hl : ns.length ≤ 63) (h : SqL K H a (ns.map V.int)) : spC cLaw m K [.ref a] H (fun v _ => v = .bl true) fun _ _ _ => False := by
  refine ⟨[.scr ns.length], [], fun _ => False, 0, .scr ?_ .nil, fun _ z => z.elim, fun _ z => (nomatch z), ⟨hm, fun _ z => (nomatch z)⟩, ns.length, rfl, hl, (fun z => nomatch z), fun v H' _ r => ?_⟩
  · rcases h with h | h
    · exact .inl ⟨fun z => z, h⟩
    · exact .inr h
  · cases r
    rfl
end Y

set_option exponentiation.threshold 500000
namespace M
open PySem PySem.Spec PyProof.Rows L2
/-! ### data: lists and tuples of ints, of tuples of ints -/
section
variable {K : PySem.W.Frag} {H H' : Hp}
theorem dpAll_ints : ∀ ns : List Int, DpAll K H (ns.map V.int) (ns.map PyData.int)
  | [] => .nil
  | n :: r => .cons (.int n) (dpAll_ints r)
theorem dp_ints {a : Addr} {ns : List Int} (h : SqL K H a (ns.map V.int)) : Dp K H (.ref a) (.list (ns.map PyData.int)) := .lst h (dpAll_ints ns)
theorem dp_intsT {a : Addr} {ns : List Int} (h : SqT K H a (ns.map V.int)) : Dp K H (.ref a) (.tuple (ns.map PyData.int)) := .tup h (dpAll_ints ns)
theorem dp_nil {a : Addr} (h : H a = some (.lst [])) : Dp K H (.ref a) (.list []) := .lst (.inl (.inl h)) .nil
theorem dp_nilT {a : Addr} (h : H a = some (.tup [])) : Dp K H (.ref a) (.tuple []) := .tup (.inl (.inl h)) .nil
theorem Same.seqT {a : Addr} {xs : List V} (e : Same H H') (h : SqT K H a xs) : SqT K H' a xs := by
  rcases h with (h | ⟨o, h⟩) | h
  · exact .inl (.inl (e _ _ h))
  · exact .inl (.inr ⟨o, e _ _ h⟩)
  · exact .inr h
theorem But.seqT {d a : Addr} {xs : List V} (e : But d H H') (n : a ≠ d) (h : SqT K H a xs) : SqT K H' a xs := by
  rcases h with (h | ⟨o, h⟩) | h
  · exact .inl (.inl (e _ _ n h))
  · exact .inl (.inr ⟨o, e _ _ n h⟩)
  · exact .inr h
mutual
theorem Dp.same (e : Same H H') : ∀ (d : PyData) (v : V), Dp K H v d → Dp K H' v d
  | .none, _, h => by cases h; exact .non
  | .bool b, _, h => by cases h; exact .bl b
  | .int i, _, h => by cases h; exact .int i
  | .str x, _, h => by cases h; exact .str x
  | .list ds, _, h => by
    cases h with
    | lst s a => exact .lst (e.seq s) (DpAll.same e ds _ a)
  | .tuple ds, _, h => by
    cases h with
    | tup s a => exact .tup (Same.seqT e s) (DpAll.same e ds _ a)
  | .dict _, _, h => by cases h
theorem DpAll.same (e : Same H H') : ∀ (ds : List PyData) (vs : List V), DpAll K H vs ds → DpAll K H' vs ds
  | [], _, h => by cases h; exact .nil
  | d :: ds, _, h => by
    cases h with
    | cons a b => exact .cons (Dp.same e d _ a) (DpAll.same e ds _ b)
end
end
theorem eqv_int (i j : Int) : PyData.eqv (.int i) (.int j) = decide (i = j) := by
  simp only [PyData.eqv]
  exact Bool.eq_iff_iff.mpr (by simp)
theorem eqvAll_ints : ∀ ns ms : List Int, PyData.eqvAll (ns.map PyData.int) (ms.map PyData.int) = decide (ns = ms)
  | [], [] => by simp [PyData.eqvAll]
  | [], _ :: _ => by simp [PyData.eqvAll]
  | _ :: _, [] => by simp [PyData.eqvAll]
  | n :: r, m :: q => by
    simp only [List.map_cons, PyData.eqvAll, eqv_int, eqvAll_ints r q]
    exact Bool.eq_iff_iff.mpr (by simp)
theorem eqv_intsL (ns ms : List Int) : PyData.eqv (.list (ns.map PyData.int)) (.list (ms.map PyData.int)) = decide (ns = ms) := by
  simp only [PyData.eqv, eqvAll_ints]
theorem eqv_intsT (ns ms : List Int) : PyData.eqv (.tuple (ns.map PyData.int)) (.tuple (ms.map PyData.int)) = decide (ns = ms) := by
  simp only [PyData.eqv, eqvAll_ints]
theorem eqv_nilL (ds : List PyData) : PyData.eqv (.list ds) (.list []) = ds.isEmpty := by
  cases ds <;> simp [PyData.eqv, PyData.eqvAll]
theorem eqv_nilT (ds : List PyData) : PyData.eqv (.tuple ds) (.tuple []) = ds.isEmpty := by
  cases ds <;> simp [PyData.eqv, PyData.eqvAll]
theorem lay_ints : ∀ ns : List Int, PyData.canLayAll0 (ns.map PyData.int) = true
  | [] => rfl
  | n :: r => by simp [PyData.canLayAll0, PyData.canLay0, lay_ints r]
theorem depth_ints : ∀ ns : List Int, PyData.depthAll (ns.map PyData.int) = 0
  | [] => rfl
  | n :: r => by simp [PyData.depthAll, PyData.depth, depth_ints r]
theorem shaped_intsL (ns : List Int) : SeqAt.shaped (.list (ns.map PyData.int)) = true := by
  simp [SeqAt.shaped, PyData.canLay0, PyData.depth, lay_ints, depth_ints]
theorem shaped_intsT (ns : List Int) : SeqAt.shaped (.tuple (ns.map PyData.int)) = true := by
  simp [SeqAt.shaped, PyData.canLay0, PyData.depth, lay_ints, depth_ints]
theorem shaped_nilL : SeqAt.shaped (.list []) = true := shaped_intsL []
theorem shaped_nilT : SeqAt.shaped (.tuple []) = true := shaped_intsT []
end M
namespace Y
open PySem PySem.Spec PyProof.Rows L2 M
/-! ### the draws -/
def cDraw : Ct := fun as Q _ => ∃ n : Int, as = [.pen, .v (.int n)] ∧ 0 < n ∧ n < 1073741824 ∧ ∀ k : Int, 0 ≤ k → k < n → Q (.int k) .shr
theorem cDraw_mono : ∀ (as : List Ar) (Q Q' : VQ) (E E' : XQ), (∀ d k, Q d k → Q' d k) → (∀ e, E e → E' e) → cDraw as Q E → cDraw as Q' E' := by
  rintro as Q Q' E E' h _ ⟨n, e, h1, h2, q⟩
  exact ⟨n, e, h1, h2, fun k a b => h _ _ (q k a b)⟩
/-- what a draw's text is shown for -/
def spDr (K : PySem.W.Frag) : Sp := fun vs H Q _ => ∃ (d c : Addr) (size i r : Int) (ns : List Int), vs = [.ref d, .int size] ∧ H d = some (penO NX c i r) ∧ SqL K H c (ns.map V.int) ∧ c ≠ d ∧ 0 ≤ i ∧ 0 ≤ r ∧ i.natAbs < 2 ^ 400000 ∧ 0 < size ∧ size < 1073741824 ∧
  ∀ (v i' r' : Int) (H' : Hp), 0 ≤ v → v < size → 0 ≤ i' → i' ≤ i + 1 → 0 ≤ r' → But d H H' → H' d = some (penO NX c i' r') → Q (.int v) H'
theorem intsD_map : ∀ ns : List Int, intsD (ns.map PyData.int) = some ns
  | [] => rfl
  | n :: ns => by simp only [List.map_cons, intsD, intsD_map ns, Option.map_some]
theorem lim_nat {i : Int} (h0 : 0 ≤ i) (h : i < (LIM : Int)) : i.natAbs < 2 ^ 400000 := by
  have : i.natAbs < LIM := by omega
  exact this
theorem draw_of {K : PySem.W.Frag} : ∀ vs H Q E, spC cDraw 1 K vs H Q E → spDr K vs H Q E := by
  rintro vs H Q E ⟨as, pn, Z, tb, hA, zt, pz, bd, n, rfl, h1, h2, q⟩
  cases hA with
  | pen hd hA =>
    rename_i d vs
    cases hA with
    | v dn hA =>
      cases hA
      cases dn
      obtain ⟨hz, c, i, r, ns, hi, hr, e, hn⟩ := pz d hd
      cases hn with
      | lst s l =>
        obtain ⟨nz, hc⟩ := s
        have ev := ints_vals l (intsD_map ns)
        subst ev
        have hl := bd.2 d hd c i r e
        refine ⟨d, c, n, i, r, ns, rfl, e, SqL.of hc, fun z => nz (by rw [z]; exact hz), hi, hr, lim_nat hi (by omega), h1, h2, fun v i' r' H' hv0 hv1 hi0 hi1 hr0 b e' => ?_⟩
        refine (q v hv0 hv1).2 (.int v) H' ⟨fun a o na ea => ?_, fun a ha => ?_, fun a ha => ?_, Nat.le_trans (by omega) bd.1, fun a ha c2 i2 r2 e2 => ?_⟩ (.int _)
        · exact b a o (fun z => na (by rw [z]; exact hd)) ea
        · intro c2 i2 r2 g1 g2 e2
          by_cases z : d = a
          · subst z
            rw [e] at e2
            cases e2
            exact ⟨i', r', hi0, hr0, e'⟩
          · exact ⟨i2, r2, g1, g2, b a _ (Ne.symm z) e2⟩
        · by_cases z : d = a
          · subst z; rw [e']; exact fun z => nomatch z
          · cases q : H a with
            | none => exact absurd q ha
            | some o => rw [b a o (Ne.symm z) q]; exact fun z => nomatch z
        · by_cases z : d = a
          · subst z
            rw [e'] at e2
            cases e2
            omega
          · cases q : H a with
            | none => exact absurd q (zt a (pz a ha).1)
            | some o =>
              have := b a o (Ne.symm z) q
              rw [this] at e2
              cases e2
              have := bd.2 a ha _ _ _ q
              omega
theorem get_rest {H : Hp} {d c : Addr} {i r : Int} (h : H d = some (penO NX c i r)) : DGet H d (.str "rest") (some (.int r)) := DGet.k (k := .inr "rest") h
theorem get_cells {H : Hp} {d c : Addr} {i r : Int} (h : H d = some (penO NX c i r)) : DGet H d (.str "cells") (some (.ref c)) := DGet.k (k := .inr "cells") h
theorem get_index {H : Hp} {d c : Addr} {i r : Int} (h : H d = some (penO NX c i r)) : DGet H d (.str NX) (some (.int i)) := DGet.k (k := .inr NX) h
theorem put_rest {H : Hp} {d c : Addr} {i r z : Int} (h : H d = some (penO NX c i r)) : DPut H d (.str "rest") (.int z) (upd H d (penO NX c i z)) := DPut.k (k := .inr "rest") h (by show 3 < sizeLine; decide)
theorem put_index {H : Hp} {d c : Addr} {i r z : Int} (h : H d = some (penO NX c i r)) : DPut H d (.str NX) (.int z) (upd H d (penO NX c z r)) := DPut.k (k := .inr NX) h (by show 3 < sizeLine; decide)
theorem cut63 (ns : List Int) : cutV (ns.map V.int) none (some 63) = (ns.take 63).map V.int := by
  unfold cutV
  rw [HT.sIx_none, show HT.sIx (ns.map V.int).length (ns.map V.int).length (some 63) = min 63 (ns.map V.int).length from HT.sIx_nat _ _ 63, List.drop_zero, Nat.sub_zero, List.map_take]
  rcases Nat.le_total 63 (ns.map V.int).length with h | h
  · rw [Nat.min_eq_left h]
  · rw [Nat.min_eq_right h, List.take_of_length_le (Nat.le_refl _), List.take_of_length_le h]
theorem cell_at {ns : List Int} {i : Int} (hi : 0 ≤ i) (hne : ns ≠ []) : 0 < ((ns.map V.int).length : Int) ∧ ∃ z : Int, atI (ns.map V.int) (i % ((ns.map V.int).length : Int)) = some (V.int z) := by
  have h0 : 0 < ns.length := List.length_pos_iff.mpr hne
  have hl : (ns.map V.int).length = ns.length := List.length_map ..
  rw [hl]
  refine ⟨by omega, ?_⟩
  have h1 : 0 ≤ i % (ns.length : Int) := Int.emod_nonneg _ (by omega)
  have h2 : i % (ns.length : Int) < ns.length := Int.emod_lt_of_pos _ (by omega)
  obtain ⟨j, hj⟩ : ∃ j : Nat, i % (ns.length : Int) = (j : Int) := ⟨_, (Int.toNat_of_nonneg h1).symm⟩
  have hj2 : j < ns.length := by omega
  exact ⟨ns[j], by rw [hj]; exact atI_nat (by simp [hj2])⟩
end Y

namespace Y
open PySem PySem.Spec PyProof.Rows L2 M
/-! ### statements: more is wanted of less; loops by an invariant -/
section
variable {C : Str → Ct} (hC : CMono C)
theorem Pq.Le.refl (P : Pq) : P.Le P := ⟨fun _ z => z, fun _ _ z => z, fun _ z => z, fun _ z => z, fun _ z => z⟩
theorem Pq.Le.sub {P P' : Pq} (h : P.Le P') {n n' b b' c c' : En → Prop} (hn : ∀ ρ, n ρ → n' ρ) (hb : ∀ ρ, b ρ → b' ρ) (hc : ∀ ρ, c ρ → c' ρ) : Pq.Le ⟨n, P.rt, b, c, P.ex⟩ ⟨n', P'.rt, b', c', P'.ex⟩ := ⟨hn, h.rt, hb, hc, h.ex⟩
def MonoB (B : En → Pq → Prop) : Prop := ∀ ρ P P', Pq.Le P P' → B ρ P → B ρ P'
theorem wFor_mono {t : Tg} {B : En → Pq → Prop} (mB : MonoB B) : ∀ (ds : List D) (ρ : En) (P P' : Pq), P.Le P' → wFor t B ds ρ P → wFor t B ds ρ P'
  | [], ρ, P, P', h, q => h.nx _ q
  | d :: ds, ρ, P, P', h, q => by
    simp only [wFor] at q ⊢
    split at q
    · exact mB _ _ _ (h.sub (fun ρ z => wFor_mono mB ds ρ P P' h z) h.nx (fun ρ z => wFor_mono mB ds ρ P P' h z)) q
    · exact q.elim
theorem wWhile_mono {T T' : En → (Bool → Prop) → Prop} {B : En → Pq → Prop} (mB : MonoB B) (mT : ∀ ρ Q Q', (∀ b, Q b → Q' b) → T ρ Q → T' ρ Q') {ρ : En} {P P' : Pq} (h : P.Le P') (q : wWhile T B ρ P) : wWhile T' B ρ P' := by
  obtain ⟨W, h0, h1⟩ := q
  exact ⟨W, h0, fun m ρ w => mT _ _ _ (fun b z => ⟨fun e => mB _ _ _ (h.sub (fun _ z => z) h.nx (fun _ z => z)) (z.1 e), fun e => h.nx _ (z.2 e)⟩) (h1 m ρ w)⟩
include hC
mutual
theorem wS_mono : ∀ (s : Sm) (ρ : En) (P P' : Pq), P.Le P' → wS C s ρ P → wS C s ρ P'
  | .set i e, ρ, P, P', h, q => by
    simp only [wS] at q ⊢
    exact wX_mono hC e _ _ _ _ _ h.ex (fun d k z => ⟨z.1, h.nx _ z.2⟩) q
  | .tset is e, ρ, P, P', h, q => by
    simp only [wS] at q ⊢
    refine wX_mono hC e _ _ _ _ _ h.ex (fun d k z => ⟨z.1, ?_⟩) q
    have z2 := z.2
    split at z2
    · exact h.nx _ z2
    · exact z2.elim
  | .par i j a b, ρ, P, P', h, q => by
    simp only [wS] at q ⊢
    exact wX_mono hC a _ _ _ _ _ h.ex (fun d k z => wX_mono hC b _ _ _ _ _ h.ex (fun d k z => ⟨z.1, z.2.1, h.nx _ z.2.2⟩) z) q
  | .aug i o e, ρ, P, P', h, q => by
    simp only [wS] at q ⊢
    split at q
    · exact ⟨q.1, wX_mono hC e _ _ _ _ _ h.ex (fun d k z => Rz.mono (fun r k y => ⟨y.1, h.nx _ y.2⟩) z) q.2⟩
    · exact q.elim
  | .ret e, ρ, P, P', h, q => by
    simp only [wS] at q ⊢
    exact wX_mono hC e _ _ _ _ _ h.ex (fun d k z => ⟨z.1, h.rt _ _ z.2⟩) q
  | .retv i, ρ, P, P', h, q => by
    simp only [wS] at q ⊢
    split at q
    · exact h.rt _ _ q
    · exact h.rt _ _ q
    · exact q.elim
  | .retn, ρ, P, P', h, q => by
    simp only [wS] at q ⊢
    exact h.rt _ _ q
  | .expr e, ρ, P, P', h, q => by
    simp only [wS] at q ⊢
    exact wX_mono hC e _ _ _ _ _ h.ex (fun d k z => h.nx _ z) q
  | .app i e, ρ, P, P', h, q => by
    simp only [wS] at q ⊢
    split at q
    · exact wX_mono hC e _ _ _ _ _ h.ex (fun d k z => ⟨z.1, z.2.1, h.nx _ z.2.2⟩) q
    · exact q.elim
  | .ext i e, ρ, P, P', h, q => by
    simp only [wS] at q ⊢
    split at q
    · refine wX_mono hC e _ _ _ _ _ h.ex (fun d k z => ?_) q
      split at z
      · exact ⟨z.1, h.nx _ z.2⟩
      · exact z.elim
    · exact q.elim
  | .seti i k e, ρ, P, P', h, q => by
    simp only [wS] at q ⊢
    split at q
    · refine wX_mono hC e _ _ _ _ _ h.ex (fun d kd z => ⟨z.1, wX_mono hC k _ _ _ _ _ h.ex (fun kx k2 y => ?_) z.2⟩) q
      split at y
      · split at y
        · exact h.nx _ y
        · exact y.elim
      · exact y.elim
    · exact q.elim
  | .cond c a b, ρ, P, P', h, q => by
    simp only [wS] at q ⊢
    exact wT_mono hC c _ _ _ _ _ h.ex (fun t z => ⟨fun e => wSs_mono a _ _ _ h (z.1 e), fun e => wSs_mono b _ _ _ h (z.2 e)⟩) q
  | .loop t it b, ρ, P, P', h, q => by
    simp only [wS] at q ⊢
    exact wI_mono hC it _ _ _ _ _ h.ex (fun ds z => ⟨z.1, wFor_mono (fun ρ P P' h => wSs_mono b ρ P P' h) ds _ _ _ h z.2⟩) q
  | .whil c b, ρ, P, P', h, q => by
    simp only [wS] at q ⊢
    exact wWhile_mono (T := wT C P.ex c) (T' := wT C P'.ex c) (fun ρ P P' h => wSs_mono b ρ P P' h) (fun ρ Q Q' z y => wT_mono hC c _ _ ρ _ _ h.ex z y) h q
  | .brk, ρ, P, P', h, q => h.bk _ q
  | .cnt, ρ, P, P', h, q => h.ct _ q
  | .pss, ρ, P, P', h, q => h.nx _ q
  | .never, ρ, P, P', h, q => q
  | .mkpen i f j, ρ, P, P', h, q => by
    simp only [wS] at q ⊢
    split at q
    · exact h.nx _ q
    · exact q.elim
theorem wSs_mono : ∀ (ss : Sms) (ρ : En) (P P' : Pq), P.Le P' → wSs C ss ρ P → wSs C ss ρ P'
  | .nil, ρ, P, P', h, q => h.nx _ q
  | .cons s r, ρ, P, P', h, q => by
    simp only [wSs] at q ⊢
    exact wS_mono s _ _ _ (h.sub (fun ρ z => wSs_mono r ρ P P' h z) h.bk h.ct) q
end
end
/-- a loop by an invariant -/
theorem wFor_inv {t : Tg} {B : En → Pq → Prop} (mB : MonoB B) {P : Pq} : ∀ (ds : List D) (ρ : En) (I : Nat → En → Prop), I 0 ρ → (∀ (i : Nat) (d : D) (ρ : En), ds[i]? = some d → I i ρ → ∃ ρ', setTg t d ρ = some ρ' ∧ B ρ' { P with nx := I (i + 1), ct := I (i + 1), bk := P.nx }) → (∀ ρ, I ds.length ρ → P.nx ρ) → wFor t B ds ρ P
  | [], ρ, I, h0, hs, he => he ρ h0
  | d :: ds, ρ, I, h0, hs, he => by
    obtain ⟨ρ', e, q⟩ := hs 0 d ρ rfl h0
    simp only [wFor, e]
    have go : ∀ ρ2, I 1 ρ2 → wFor t B ds ρ2 P := fun ρ2 h => wFor_inv mB ds ρ2 (fun i => I (i + 1)) h (fun i d ρ hd hi => hs (i + 1) d ρ (by simpa using hd) hi) fun ρ h => he ρ (by simpa using h)
    exact mB _ _ _ ((Pq.Le.refl P).sub (n' := fun ρ2 => wFor t B ds ρ2 P) (c' := fun ρ2 => wFor t B ds ρ2 P) go (fun _ z => z) go) q
theorem wFor_inv' {C : Str → Ct} (hC : CMono C) {t : Tg} {b : Sms} {P : Pq} (ds : List D) (ρ : En) (I : Nat → En → Prop) (h0 : I 0 ρ) (hs : ∀ (i : Nat) (d : D) (ρ : En), ds[i]? = some d → I i ρ → ∃ ρ', setTg t d ρ = some ρ' ∧ wSs C b ρ' { P with nx := I (i + 1), ct := I (i + 1), bk := P.nx }) (he : ∀ ρ, I ds.length ρ → P.nx ρ) : wFor t (wSs C b) ds ρ P :=
  wFor_inv (fun ρ P P' h => wSs_mono hC b ρ P P' h) ds ρ I h0 hs he
theorem rng_some {lo : Int} {n i : Nat} {d : D} (h : (rng lo n)[i]? = some d) : i < n ∧ d = .int (lo + i) := by
  have hl : i < n := by
    have := (List.getElem?_eq_some_iff.mp h).1
    rwa [rng_len] at this
  rw [rng_get n i lo hl] at h
  exact ⟨hl, (Option.some.inj h).symm⟩
theorem shape_int (i : Int) : SeqAt.shaped (.int i) = true := rfl
theorem shape_bool (i : Bool) : SeqAt.shaped (.bool i) = true := rfl
theorem eqv_refl_int (i : Int) : PyData.eqv (.int i) (.int i) = true := by rw [eqv_int]; exact decide_eq_true rfl
theorem nbS : Kd.shr ≠ Kd.bor := fun z => nomatch z
theorem nbO : Kd.own ≠ Kd.bor := fun z => nomatch z
end Y

namespace Y
open PySem PySem.Spec PyProof.Rows L2 M
/-! ### ints written -/
theorem shown_int (i : Int) : (PyData.int i).shown = Str.ofString (toString i) := rfl
theorem strOk_int (i : Int) : SeqAt.shaped (.str (PyData.int i).shown) = true := by
  have e : PyData.strOk (PyData.int i).shown = true := by
    unfold PyData.strOk
    rw [shown_int, Array.all_eq_true']
    intro c hc
    rw [Str.ofString_eq_toList] at hc
    simp only [List.mem_toArray, List.mem_map] at hc
    obtain ⟨x, hx, rfl⟩ := hc
    have := int_ascii i x hx
    exact decide_eq_true (by omega)
  simp [SeqAt.shaped, PyData.canLay0, PyData.depth, e]
theorem lim62 : (10 : Int) ^ 100 = 10 ^ 100 := rfl
/-- repr(i) for an int that is not too large -/
theorem repr_int_ok {i : Int} (h0 : 0 ≤ i) (h1 : i < 1000000000000000000000) : (PyData.int i).hasDict = false ∧ (PyData.int i).showable = true ∧ (PyData.int i).shown.length ≤ sizeLine ∧ (PyData.int i).depth ≤ 64 := by
  refine ⟨rfl, ?_, ?_, Nat.zero_le _⟩
  · have h2 : i.natAbs < 2 ^ 100 := Nat.lt_of_lt_of_le (show i.natAbs < 1000000000000000000000 by omega) (by decide)
    have := PySem.Flt.log2_lt_of (by decide) h2
    exact decide_eq_true (by omega)
  · rw [shown_int]
    have := toString_length_le h0 (k := 21) (by decide) h1
    exact Nat.le_trans this (by decide)
theorem ne_no {x y : Int} (e : x = y) : ¬ (!PyData.eqv (.int x) (.int y)) = true := by
  rw [e, eqv_refl_int]
  decide
theorem eqv_refl_str (x : Str) : PyData.eqv (.str x) (.str x) = true := by simp [PyData.eqv]
theorem ne_noS {x y : Str} (e : x = y) : ¬ (!PyData.eqv (.str x) (.str y)) = true := by
  rw [e, eqv_refl_str]
  decide
end Y

namespace Y
open PySem PySem.Spec PyProof.Rows L2 M
/-! ### sequences of ints written -/
theorem sok_append (a b : Str) : PyData.strOk (a ++ b) = (PyData.strOk a && PyData.strOk b) := by
  unfold PyData.strOk
  show (a.cps ++ b.cps).all _ = _
  exact Array.all_append
theorem sok_join {sep : Str} (hs : PyData.strOk sep = true) : ∀ ts : List Str, (∀ t ∈ ts, PyData.strOk t = true) → PyData.strOk (Str.join sep ts) = true
  | [], _ => by unfold Str.join; decide +kernel
  | [x], h => h x List.mem_cons_self
  | x :: y :: r, h => by
    show PyData.strOk (x ++ sep ++ Str.join sep (y :: r)) = true
    rw [sok_append, sok_append, h x List.mem_cons_self, hs, sok_join hs (y :: r) fun t ht => h t (List.mem_cons_of_mem _ ht)]
    rfl
theorem sok_from : ∀ (ts : List Str) (k : Nat) (acc : Str), PyData.strOk acc = true → (∀ t ∈ ts, PyData.strOk t = true) → PyData.strOk (textFrom k acc ts) = true
  | [], k, acc, h, _ => h
  | t :: r, k, acc, h, ht => by
    show PyData.strOk (textFrom (k + 1) (acc ++ (if k > 0 then ", " else "" : String) ++ t) r) = true
    refine sok_from r _ _ ?_ fun t ht' => ht t (List.mem_cons_of_mem _ ht')
    rw [sok_append, sok_append, h, ht t List.mem_cons_self]
    split <;> decide +kernel
theorem sok_list {ts : List Str} (h : ∀ t ∈ ts, PyData.strOk t = true) : PyData.strOk (listText ts) = true := by
  unfold listText
  rw [sok_append, sok_from ts 0 "[" (by decide +kernel) h]
  decide +kernel
theorem sok_tuple {ts : List Str} (h : ∀ t ∈ ts, PyData.strOk t = true) : PyData.strOk (tupleText ts) = true := by
  unfold tupleText
  rw [sok_append, sok_append, sok_join (by decide +kernel) ts h]
  split <;> decide +kernel
theorem sok_int (i : Int) : PyData.strOk (PyData.int i).shown = true := by
  have := strOk_int i
  simp only [SeqAt.shaped, PyData.canLay0, Bool.and_eq_true] at this
  exact this.1
theorem shape_of_sok {s : Str} (h : PyData.strOk s = true) : SeqAt.shaped (.str s) = true := by simp [SeqAt.shaped, PyData.canLay0, PyData.depth, h]
theorem shownAll_ints : ∀ l : List Int, PyData.shownAll (l.map PyData.int) = l.map fun i => (PyData.int i).shown
  | [] => rfl
  | i :: r => by simp only [List.map_cons, PyData.shownAll, shownAll_ints r]
theorem sok_intsT (l : List Int) : SeqAt.shaped (.str (PyData.tuple (l.map PyData.int)).shown) = true := by
  refine shape_of_sok ?_
  show PyData.strOk (tupleText (PyData.shownAll (l.map PyData.int))) = true
  rw [shownAll_ints]
  refine sok_tuple fun t ht => ?_
  obtain ⟨i, _, rfl⟩ := List.mem_map.mp ht
  exact sok_int i
theorem sok_intsL (l : List Int) : SeqAt.shaped (.str (PyData.list (l.map PyData.int)).shown) = true := by
  refine shape_of_sok ?_
  show PyData.strOk (listText (PyData.shownAll (l.map PyData.int))) = true
  rw [shownAll_ints]
  refine sok_list fun t ht => ?_
  obtain ⟨i, _, rfl⟩ := List.mem_map.mp ht
  exact sok_int i
def Small (l : List Int) : Prop := ∀ x ∈ l, 0 ≤ x ∧ x < 1000000000000000000000
theorem shown_sum : ∀ l : List Int, Small l → ((l.map fun i => (PyData.int i).shown).map (·.length)).sum ≤ 21 * l.length
  | [], _ => Nat.zero_le _
  | i :: r, h => by
    have h1 := shown_sum r fun x hx => h x (List.mem_cons_of_mem _ hx)
    obtain ⟨h2, h3⟩ := h i List.mem_cons_self
    have h4 := toString_length_le h2 (k := 21) (by decide) h3
    have h5 : (PyData.int i).shown.length ≤ 21 := h4
    simp only [List.map_cons, List.sum_cons, List.length_cons]
    omega
theorem showAll_ints : ∀ l : List Int, Small l → PyData.showableAll (l.map PyData.int) = true
  | [], _ => rfl
  | i :: r, h => by
    obtain ⟨h2, h3⟩ := h i List.mem_cons_self
    simp only [List.map_cons, PyData.showableAll, (repr_int_ok h2 h3).2.1, showAll_ints r fun x hx => h x (List.mem_cons_of_mem _ hx), Bool.and_self]
theorem noDict_ints : ∀ l : List Int, PyData.hasDictAll (l.map PyData.int) = false
  | [] => rfl
  | i :: r => by simp only [List.map_cons, PyData.hasDictAll, PyData.hasDict, noDict_ints r, Bool.or_self]
theorem repr_intsT {l : List Int} (h : Small l) (hl : l.length ≤ 100000) : (PyData.tuple (l.map PyData.int)).hasDict = false ∧ (PyData.tuple (l.map PyData.int)).showable = true ∧ (PyData.tuple (l.map PyData.int)).shown.length ≤ sizeLine ∧ (PyData.tuple (l.map PyData.int)).depth ≤ 64 := by
  refine ⟨by simpa only [PyData.hasDict] using noDict_ints l, by simpa only [PyData.showable] using showAll_ints l h, ?_, ?_⟩
  · show (tupleText (PyData.shownAll (l.map PyData.int))).length ≤ sizeLine
    rw [shownAll_ints]
    refine Nat.le_trans (tupleText_len_le _) ?_
    have := shown_sum l h
    rw [List.length_map]
    have e : 2300003 ≤ sizeLine := by decide
    omega
  · simp only [PyData.depth, depth_ints]
    omega
theorem repr_intsL {l : List Int} (h : Small l) (hl : l.length ≤ 100000) : (PyData.list (l.map PyData.int)).hasDict = false ∧ (PyData.list (l.map PyData.int)).showable = true ∧ (PyData.list (l.map PyData.int)).shown.length ≤ sizeLine ∧ (PyData.list (l.map PyData.int)).depth ≤ 64 := by
  refine ⟨by simpa only [PyData.hasDict] using noDict_ints l, by simpa only [PyData.showable] using showAll_ints l h, ?_, ?_⟩
  · show (listText (PyData.shownAll (l.map PyData.int))).length ≤ sizeLine
    rw [shownAll_ints]
    refine Nat.le_trans (listText_len_le _) ?_
    have := shown_sum l h
    rw [List.length_map]
    have e : 2300003 ≤ sizeLine := by decide
    omega
  · simp only [PyData.depth, depth_ints]
    omega
theorem ne_noT {l m : List Int} (e : l = m) : ¬ (!PyData.eqv (.tuple (l.map PyData.int)) (.tuple (m.map PyData.int))) = true := by
  rw [e, eqv_intsT]
  simp
end Y

namespace Y
open PySem PySem.Spec PyProof.Rows L2 M
/-! ### comprehensions by what each item gives -/
theorem wComp_filter {B : D → (Option D → Prop) → Prop} (f : D → Option D) : ∀ (ds acc : List D) (R : List D → Prop), (∀ d ∈ ds, ∀ S : Option D → Prop, S (f d) → B d S) → R (acc ++ ds.filterMap f) → wComp B ds acc R
  | [], acc, R, _, h => by simpa [wComp] using h
  | d :: ds, acc, R, hB, h => by
    refine hB d List.mem_cons_self _ ?_
    cases e : f d with
    | none =>
      refine wComp_filter f ds acc R (fun d hd => hB d (List.mem_cons_of_mem _ hd)) ?_
      simpa [List.filterMap_cons, e] using h
    | some r =>
      refine wComp_filter f ds (acc ++ [r]) R (fun d hd => hB d (List.mem_cons_of_mem _ hd)) ?_
      simpa [List.filterMap_cons, e] using h
theorem wComp_map {B : D → (Option D → Prop) → Prop} (f : D → D) (ds : List D) (R : List D → Prop) (hB : ∀ d ∈ ds, ∀ S : Option D → Prop, S (some (f d)) → B d S) (h : R (ds.map f)) : wComp B ds [] R := by
  refine wComp_filter (fun d => some (f d)) ds [] R (fun d hd S hS => hB d hd S hS) ?_
  have e : ds.filterMap (fun d => some (f d)) = ds.map f := by
    induction ds with
    | nil => rfl
    | cons d ds ih => simp
  rw [List.nil_append, e]
  exact h
theorem wComp_any {B : D → (Option D → Prop) → Prop} (P : D → Prop) : ∀ (ds acc : List D) (R : List D → Prop), (∀ d ∈ ds, ∀ S : Option D → Prop, (∀ r, P r → S (some r)) → B d S) → (∀ rs : List D, rs.length = ds.length → (∀ r ∈ rs, P r) → R (acc ++ rs)) → wComp B ds acc R
  | [], acc, R, _, h => by
    have := h [] rfl (fun _ z => nomatch z)
    simp only [List.append_nil] at this
    exact this
  | d :: ds, acc, R, hB, h => by
    refine hB d List.mem_cons_self _ fun r hr => ?_
    refine wComp_any P ds (acc ++ [r]) R (fun d hd => hB d (List.mem_cons_of_mem _ hd)) fun rs h1 h2 => ?_
    have := h (r :: rs) (by simp [h1]) fun x hx => (List.mem_cons.mp hx).elim (fun e => by rw [e]; exact hr) (h2 x)
    simpa using this
/-! ### texts as lists of signs -/
def S (l : List Nat) : Str := ⟨l.toArray⟩
theorem S_list (l : List Nat) : (S l).cps.toList = l := rfl
theorem S_of (z : Str) : S z.cps.toList = z := by cases z; simp [S]
theorem S_len (l : List Nat) : (S l).length = l.length := by simp [S, Str.length]
theorem S_app (a b : List Nat) : S a ++ S b = S (a ++ b) := by
  show (⟨a.toArray ++ b.toArray⟩ : Str) = _
  simp [S]
def sg (c : Nat) : D := .str (S [c])
theorem sg_def (c : Nat) : sg c = .str ⟨#[c]⟩ := rfl
theorem strsD_sg : ∀ l : List Nat, strsD (l.map sg) = some (l.map fun c => S [c])
  | [] => rfl
  | c :: r => by
    show (strsD (r.map sg)).map _ = _
    rw [strsD_sg r]
    rfl
theorem glued_two (sep x y : Str) (r : List Str) : Builtin.Str.glued sep (x :: y :: r) = x ++ sep ++ Builtin.Str.glued sep (y :: r) := by
  rw [StrLaws.glued_eq_join, StrLaws.glued_eq_join]
  rfl
theorem join_sg : ∀ l : List Nat, Txt.join (S []) (l.map fun c => S [c]) = S l := by
  intro l
  have e : ∀ l : List Nat, Txt.join (S []) (l.map fun c => S [c]) = S l := fun l => by
    induction l with
    | nil => rfl
    | cons c r ih =>
      cases r with
      | nil => rfl
      | cons c2 r2 =>
        have e : Txt.join (S []) ((c :: c2 :: r2).map fun c => S [c]) = S [c] ++ S [] ++ Txt.join (S []) ((c2 :: r2).map fun c => S [c]) := by
          simp only [List.map_cons, Txt.join]
          exact glued_two _ _ _ _
        rw [e, ih, S_app, S_app]
        rfl
  exact e l
theorem sum_sg : ∀ l : List Nat, ((l.map fun c => S [c]).map Str.length).sum = l.length
  | [] => rfl
  | c :: r => by
    simp only [List.map_cons, List.sum_cons, List.length_cons, sum_sg r]
    show 1 + r.length = r.length + 1
    omega
end Y

namespace Y
open PySem PySem.Spec PyProof.Rows L2 M
/-! ### the order of first occurrence; normal forms -/
def ordG (acc : List Nat) : List Nat → List Nat
  | [] => acc
  | c :: r => ordG (if c ∈ acc then acc else acc ++ [c]) r
def ordF (l : List Nat) : List Nat := ordG [] l
theorem mem_ordG : ∀ (l acc : List Nat) (x : Nat), x ∈ ordG acc l ↔ x ∈ acc ∨ x ∈ l
  | [], acc, x => by simp [ordG]
  | c :: r, acc, x => by
    rw [ordG, mem_ordG r]
    split
    · rename_i h
      simp only [List.mem_cons]
      constructor
      · rintro (h1 | h1)
        · exact .inl h1
        · exact .inr (.inr h1)
      · rintro (h1 | rfl | h1)
        · exact .inl h1
        · exact .inl h
        · exact .inr h1
    · simp only [List.mem_append, List.mem_cons, List.not_mem_nil, or_false]
      constructor
      · rintro ((h1 | h1) | h1)
        · exact .inl h1
        · exact .inr (.inl h1)
        · exact .inr (.inr h1)
      · rintro (h1 | h1 | h1)
        · exact .inl (.inl h1)
        · exact .inl (.inr h1)
        · exact .inr h1
theorem mem_ordF {l : List Nat} {x : Nat} : x ∈ ordF l ↔ x ∈ l := by simp [ordF, mem_ordG]
theorem nodup_ordG : ∀ (l acc : List Nat), acc.Nodup → (ordG acc l).Nodup
  | [], acc, h => h
  | c :: r, acc, h => by
    rw [ordG]
    refine nodup_ordG r _ ?_
    split
    · exact h
    · rename_i hc
      rw [List.nodup_append]
      refine ⟨h, by simp, fun a ha b hb => ?_⟩
      have : b = c := by simpa using hb
      subst this
      exact fun z => hc (by rw [← z]; exact ha)
theorem nodup_ordF (l : List Nat) : (ordF l).Nodup := nodup_ordG l [] List.nodup_nil
theorem ordG_map {σ : Nat → Nat} : ∀ (l acc : List Nat), (∀ x ∈ acc ++ l, ∀ y ∈ acc ++ l, σ x = σ y → x = y) → ordG (acc.map σ) (l.map σ) = (ordG acc l).map σ
  | [], acc, _ => rfl
  | c :: r, acc, hi => by
    rw [List.map_cons, ordG, ordG]
    have e : σ c ∈ acc.map σ ↔ c ∈ acc := by
      rw [List.mem_map]
      constructor
      · rintro ⟨x, hx, he⟩
        rw [← hi x (by simp [hx]) c (by simp) he]
        exact hx
      · exact fun h => ⟨c, h, rfl⟩
    by_cases hc : c ∈ acc
    · rw [if_pos (e.mpr hc), if_pos hc]
      exact ordG_map r acc fun x hx y hy => hi x (by simp only [List.mem_append, List.mem_cons] at hx ⊢; rcases hx with h | h <;> simp [h]) y (by simp only [List.mem_append, List.mem_cons] at hy ⊢; rcases hy with h | h <;> simp [h])
    · rw [if_neg (fun z => hc (e.mp z)), if_neg hc, show acc.map σ ++ [σ c] = (acc ++ [c]).map σ by simp]
      exact ordG_map r (acc ++ [c]) fun x hx y hy => hi x (by simpa using hx) y (by simpa using hy)
theorem ordF_map {σ : Nat → Nat} {l : List Nat} (hi : ∀ x ∈ l, ∀ y ∈ l, σ x = σ y → x = y) : ordF (l.map σ) = (ordF l).map σ := ordG_map l [] (by simpa using hi)
/-- distinct: those that stand at their first place -/
theorem ordG_filter (f : D) : ∀ (rest pre acc : List Nat), (∀ x, x ∈ acc ↔ x ∈ pre) → ordG acc rest = acc ++ (rest.zipIdx pre.length).filterMap (fun p => if (pre ++ rest).idxOf p.1 = p.2 then some p.1 else none)
  | [], pre, acc, _ => by simp [ordG]
  | c :: r, pre, acc, h => by
    have ix : (pre ++ c :: r).idxOf c = pre.length ↔ c ∉ pre := by
      constructor
      · intro e hc
        rw [List.idxOf_append, if_pos hc] at e
        have := List.idxOf_lt_length_of_mem hc
        omega
      · intro hc
        rw [List.idxOf_append, if_neg hc, List.idxOf_cons_self]
        omega
    have e2 : pre ++ c :: r = (pre ++ [c]) ++ r := by simp
    have ih := fun acc' h' => ordG_filter f r (pre ++ [c]) acc' h'
    rw [ordG, List.zipIdx_cons, List.filterMap_cons]
    by_cases hc : c ∈ acc
    · rw [if_pos hc]
      have hn : ¬ (pre ++ c :: r).idxOf c = pre.length := fun z => (ix.mp z) ((h c).mp hc)
      simp only [hn, if_false]
      rw [ih acc fun x => by rw [List.mem_append, ← h x]; simp; intro hx; rw [hx]; exact hc]
      rw [← e2]
      simp
    · rw [if_neg hc]
      have hp : (pre ++ c :: r).idxOf c = pre.length := ix.mpr fun z => hc ((h c).mpr z)
      simp only [hp, if_true]
      rw [ih (acc ++ [c]) fun x => by simp [h x]]
      rw [← e2]
      simp
theorem ordF_filter (l : List Nat) : ordF l = l.zipIdx.filterMap (fun p => if l.idxOf p.1 = p.2 then some p.1 else none) := by
  have := ordG_filter .none l [] [] (by simp)
  simpa [ordF] using this
def nf (l : List Nat) : List Nat := l.map fun c => 97 + (ordF l).idxOf c
theorem idx_map {σ : Nat → Nat} : ∀ (l : List Nat) (c : Nat), c ∈ l → (∀ x ∈ l, σ x = σ c → x = c) → (l.map σ).idxOf (σ c) = l.idxOf c
  | [], c, h, _ => nomatch h
  | a :: r, c, h, hi => by
    rw [List.map_cons, List.idxOf_cons, List.idxOf_cons]
    by_cases e : a = c
    · subst e; simp
    · have e2 : ¬ σ a = σ c := fun z => e (hi a List.mem_cons_self z)
      have hc : c ∈ r := by
        rcases List.mem_cons.mp h with z | z
        · exact absurd z.symm e
        · exact z
      have b1 : (a == c) = false := by simpa using e
      have b2 : (σ a == σ c) = false := by simpa using e2
      rw [b1, b2, cond_false, cond_false, idx_map r c hc fun x hx => hi x (List.mem_cons_of_mem _ hx)]
theorem nf_map {σ : Nat → Nat} {l : List Nat} (hi : ∀ x ∈ l, ∀ y ∈ l, σ x = σ y → x = y) : nf (l.map σ) = nf l := by
  unfold nf
  rw [ordF_map hi, List.map_map]
  apply List.map_congr_left
  intro c hc
  show 97 + ((ordF l).map σ).idxOf (σ c) = 97 + (ordF l).idxOf c
  rw [idx_map (ordF l) c (mem_ordF.mpr hc) fun x hx e => hi x (mem_ordF.mp hx) c hc e]
theorem nf_nf (l : List Nat) : nf (nf l) = nf l := by
  refine nf_map (σ := fun c => 97 + (ordF l).idxOf c) fun x hx y hy e => ?_
  have e : (ordF l).idxOf x = (ordF l).idxOf y := by have : 97 + (ordF l).idxOf x = 97 + (ordF l).idxOf y := e; omega
  have hx' := List.idxOf_lt_length_of_mem (mem_ordF.mpr hx)
  have h1 := List.getElem_idxOf hx'
  have hy' := List.idxOf_lt_length_of_mem (mem_ordF.mpr hy)
  have h2 := List.getElem_idxOf hy'
  rw [← h1, ← h2]
  simp only [e]
end Y

namespace Y
open PySem PySem.Spec PyProof.Rows L2 M Builtin.Str StrLaws
theorem char_lt (c : Char) : c.toNat < 1114112 := by
  have h := c.valid
  have e : c.toNat = c.val.toNat := rfl
  rcases h with h | ⟨_, h⟩
  · rw [e]; exact Nat.lt_of_lt_of_le h (by decide)
  · rw [e]; exact h
theorem reprChar_ok {q c : Nat} (hc : c < 1114112) : ∀ d ∈ Builtin.Str.reprChar q c, d < 1114112 := by
  have hex : ∀ w : Nat, ∀ d ∈ (List.replicate (w - ((Nat.toDigits 16 c).map Char.toNat).length) 48 ++ (Nat.toDigits 16 c).map Char.toNat), d < 1114112 := fun w d hd => by
    rcases List.mem_append.mp hd with h | h
    · rw [List.eq_of_mem_replicate h]; decide
    · obtain ⟨x, _, rfl⟩ := List.mem_map.mp h; exact char_lt x
  intro d hd
  unfold Builtin.Str.reprChar at hd
  repeat' split at hd
  all_goals first
    | (simp only [List.mem_cons, List.not_mem_nil, or_false] at hd; rcases hd with rfl | rfl <;> first | decide | exact hc)
    | (simp only [List.mem_cons, List.not_mem_nil, or_false] at hd; subst hd; exact hc)
    | (rcases List.mem_append.mp hd with h | h
       · simp only [List.mem_cons, List.not_mem_nil, or_false] at h; rcases h with rfl | rfl <;> decide
       · exact hex _ d h)
theorem fold_ok (q : Nat) : ∀ (l : List Nat) (acc : Array Nat), (∀ c ∈ l, c < 1114112) → (∀ d ∈ acc.toList, d < 1114112) → ∀ d ∈ (l.foldl (fun out c => out ++ (Builtin.Str.reprChar q c).toArray) acc).toList, d < 1114112
  | [], acc, _, h => h
  | c :: r, acc, hl, h => by
    refine fold_ok q r _ (fun c hc => hl c (List.mem_cons_of_mem _ hc)) fun d hd => ?_
    rw [Array.toList_append, List.mem_append] at hd
    rcases hd with hd | hd
    · exact h d hd
    · exact reprChar_ok (hl c List.mem_cons_self) d hd
theorem sok_iff {z : Str} : PyData.strOk z = true ↔ ∀ c ∈ z.cps.toList, c < 1114112 := by
  unfold PyData.strOk
  rw [Array.all_eq_true']
  constructor
  · intro h c hc
    exact of_decide_eq_true (h c (by simpa using hc))
  · intro h c hc
    exact decide_eq_true (h c (by simpa using hc))
theorem sok_repr {z : Str} (h : PyData.strOk z = true) : PyData.strOk (PyData.str z).shown = true := by
  rw [sok_iff] at h ⊢
  have hq : reprQuote z < 1114112 := by
    unfold reprQuote
    split <;> decide
  show ∀ c ∈ (reprText z).cps.toList, c < 1114112
  unfold reprText
  intro c hc
  rw [Array.toList_push, List.mem_append] at hc
  rcases hc with hc | hc
  · rw [← Array.foldl_toList] at hc
    exact fold_ok _ _ _ h (fun d hd => by simp at hd; rw [hd]; exact hq) c hc
  · simp at hc
    rw [hc]
    exact hq
theorem repr_str_ok {z : Str} (h : PyData.strOk z = true) (hl : z.length ≤ 100000) : (PyData.str z).hasDict = false ∧ (PyData.str z).showable = true ∧ (PyData.str z).shown.length ≤ sizeLine ∧ (PyData.str z).depth ≤ 64 := by
  refine ⟨rfl, rfl, ?_, Nat.zero_le _⟩
  have := reprText_len z fun c hc => Nat.lt_trans (sok_iff.mp h c hc) (by decide)
  have e : 1000002 ≤ sizeLine := by decide
  show (reprText z).length ≤ sizeLine
  omega
theorem sok_S {l : List Nat} (h : ∀ c ∈ l, c < 1114112) : PyData.strOk (S l) = true := sok_iff.mpr h
end Y

namespace Y
open PySem PySem.Spec PyProof.Rows L2 M
/-! ### letters a to z -/
def low (l : List Nat) : Prop := ∀ c ∈ l, 97 ≤ c ∧ c ≤ 122
def abc : List Nat := (List.range 26).map (97 + ·)
theorem abc_str : ("abcdefghijklmnopqrstuvwxyz" : Str) = S abc := by decide +kernel
theorem abc8_str : ("abcdefgh" : Str) = S ((List.range 8).map (97 + ·)) := by decide +kernel
theorem abc_mem {c : Nat} (h : 97 ≤ c ∧ c ≤ 122) : c ∈ abc := List.mem_map.mpr ⟨c - 97, List.mem_range.mpr (by omega), by show 97 + (c - 97) = c; omega⟩
theorem abc_get {i : Nat} (h : i < 26) : abc[i]? = some (97 + i) := by simp [abc, h]
theorem abc8_get {i : Nat} (h : i < 8) : ((List.range 8).map (97 + ·))[i]? = some (97 + i) := by simp [h]
theorem low_sok {l : List Nat} (h : low l) : PyData.strOk (S l) = true := sok_S fun c hc => by have := h c hc; omega
theorem low_ord {l : List Nat} (h : low l) : low (ordF l) := fun c hc => h c (mem_ordF.mp hc)
theorem low_nf {l : List Nat} (h : (ordF l).length ≤ 8) : low (nf l) := fun c hc => by
  obtain ⟨x, hx, rfl⟩ := List.mem_map.mp hc
  have := List.idxOf_lt_length_of_mem (mem_ordF.mpr hx)
  show 97 ≤ 97 + (ordF l).idxOf x ∧ 97 + (ordF l).idxOf x ≤ 122
  omega
theorem len_nf (l : List Nat) : (nf l).length = l.length := List.length_map ..
theorem ord_nf (l : List Nat) : (ordF (nf l)).length = (ordF l).length := by
  have e : ordF (nf l) = (ordF l).map fun c => 97 + (ordF l).idxOf c := ordF_map (σ := fun c => 97 + (ordF l).idxOf c) fun x hx y hy e => by
    have e : (ordF l).idxOf x = (ordF l).idxOf y := by have : 97 + (ordF l).idxOf x = 97 + (ordF l).idxOf y := e; omega
    have hx' := List.idxOf_lt_length_of_mem (mem_ordF.mpr hx)
    have h1 := List.getElem_idxOf hx'
    have hy' := List.idxOf_lt_length_of_mem (mem_ordF.mpr hy)
    have h2 := List.getElem_idxOf hy'
    rw [← h1, ← h2]
    simp only [e]
  rw [e, List.length_map]
theorem S_inj {a b : List Nat} (h : S a = S b) : a = b := by
  have := congrArg (fun z : Str => z.cps.toList) h
  exact this
theorem bools_true : ∀ ds : List D, boolsD (ds.map fun _ => PyData.bool true) = some (ds.map fun _ => true)
  | [] => rfl
  | d :: ds => by
    show (boolsD (ds.map fun _ => PyData.bool true)).map _ = _
    rw [bools_true ds]
    rfl
theorem all_true (ds : List D) : ((ds.map fun _ => true).all id) = true := by simp
theorem join_S {l : List Nat} (hl : l.length ≤ 100000) (Q : VQ) (h : Q (.str (S l)) .shr) : (mtD .join (.str (S [])) [.list (l.map sg)]).to Q := by
  show Rz.to ((strsD (l.map sg)).map fun ys => ((ys.map Str.length).sum + (S []).length * ys.length ≤ 16777216, .str (Txt.join (S []) ys), .shr)) Q
  rw [strsD_sg]
  refine ⟨?_, ?_⟩
  · rw [sum_sg, S_len]
    simp
    omega
  · rw [join_sg]
    exact h
theorem idx_find {c : Nat} : ∀ {l : List Nat}, c ∈ l → l.findIdx? (· == c) = some (l.idxOf c)
  | [], h => nomatch h
  | a :: r, h => by
    rw [List.findIdx?_cons, List.idxOf_cons]
    by_cases e : a = c
    · subst e; simp
    · have b1 : (a == c) = false := by simpa using e
      have hc : c ∈ r := by
        rcases List.mem_cons.mp h with z | z
        · exact absurd z.symm e
        · exact z
      rw [b1, idx_find hc]
      rfl
theorem sindex_S {l : List Nat} {c : Nat} (h : c ∈ l) (Q : VQ) (q : Q (.int ((l.idxOf c : Nat) : Int)) .shr) : (mtD .sindex (.str (S l)) [sg c]).to Q := by
  show Rz.to ((l.findIdx? (· == c)).map fun j => (([c].toArray).size = 1, .int (j : Nat), .shr)) Q
  rw [idx_find h]
  exact ⟨rfl, q⟩
theorem ix_S {l : List Nat} {i c : Nat} (h : l[i]? = some c) (hl : l.length ≤ 100000) (Q : VQ) (q : Q (sg c) .shr) : (ixD (.str (S l)) (.int (i : Int))).to Q := by
  show Rz.to ((L2.atI l (i : Int)).map fun c => ((S l).length ≤ sizeLine, .str ⟨#[c]⟩, .shr)) Q
  rw [atI_nat h]
  refine ⟨?_, q⟩
  rw [S_len]
  exact Nat.le_trans hl (by decide)
theorem wComp_mapE {B : D → (Option D → Prop) → Prop} (f : D → D) {ds rs : List D} {R : List D → Prop} (hr : ds.map f = rs) (hB : ∀ d ∈ ds, ∀ S : Option D → Prop, S (some (f d)) → B d S) (h : R rs) : wComp B ds [] R :=
  wComp_map f ds R hB (by rw [hr]; exact h)
theorem wComp_filterE {B : D → (Option D → Prop) → Prop} (f : D → Option D) {ds rs : List D} {R : List D → Prop} (hr : ds.filterMap f = rs) (hB : ∀ d ∈ ds, ∀ S : Option D → Prop, S (f d) → B d S) (h : R rs) : wComp B ds [] R :=
  wComp_filter f ds [] R hB (by rw [List.nil_append, hr]; exact h)
/-- a comprehension over a text's signs that gives signs -/
def sgF (g : Nat → Nat) : D → D := fun d => match d with | .str z => sg (g (z.cps.getD 0 0)) | _ => .none
theorem sgF_map (g : Nat → Nat) (l : List Nat) : ((S l).cps.toList.map fun c => PyData.str ⟨#[c]⟩).map (sgF g) = (l.map g).map sg := by
  rw [List.map_map, List.map_map]
  rfl
theorem nf_eq (l : List Nat) : (l.map fun c => 97 + (ordF l).idxOf c) = nf l := rfl
/-- distinct's own walk -/
def dsF (l : List Nat) : D → Option D := fun d => match d with | .tuple [.int i, .str z] => if (l.idxOf (z.cps.getD 0 0) : Int) = i then some (.str z) else none | _ => none
theorem ds_map (l m : List Nat) (k : Nat) : ((m.map fun c => PyData.str ⟨#[c]⟩).zipIdx k).map (fun p => PyData.tuple [.int p.2, p.1]) = (m.zipIdx k).map fun p => PyData.tuple [.int (p.2 : Nat), .str ⟨#[p.1]⟩] := by
  induction m generalizing k with
  | nil => rfl
  | cons c r ih => simp only [List.map_cons, List.zipIdx_cons, ih]
theorem ds_filter (l m : List Nat) (k : Nat) : (((m.zipIdx k).map fun p => PyData.tuple [.int (p.2 : Nat), .str ⟨#[p.1]⟩]).filterMap (dsF l)) = ((m.zipIdx k).filterMap fun p => if l.idxOf p.1 = p.2 then some p.1 else none).map sg := by
  induction m generalizing k with
  | nil => rfl
  | cons c r ih =>
    simp only [List.zipIdx_cons, List.map_cons, List.filterMap_cons, ih]
    have e : dsF l (PyData.tuple [.int ((k : Nat) : Int), .str ⟨#[c]⟩]) = if l.idxOf c = k then some (sg c) else none := by
      show (if ((l.idxOf c : Nat) : Int) = ((k : Nat) : Int) then some (PyData.str ⟨#[c]⟩) else none) = _
      by_cases h : l.idxOf c = k
      · rw [if_pos h, if_pos (by rw [h])]; rfl
      · rw [if_neg h, if_neg (by omega)]
    rw [e]
    by_cases h : l.idxOf c = k
    · simp [h]
    · simp [h]
theorem ds_all (l : List Nat) : (enumL ((S l).cps.toList.map fun c => PyData.str ⟨#[c]⟩)).filterMap (dsF l) = (ordF l).map sg := by
  unfold enumL
  have := ds_map l l 0
  rw [show (S l).cps.toList = l from rfl, this, ds_filter l l 0, ← ordF_filter]
theorem len_ordG : ∀ (l acc : List Nat), (ordG acc l).length ≤ acc.length + l.length
  | [], acc => Nat.le_refl _
  | c :: r, acc => by
    rw [ordG]
    have := len_ordG r (if c ∈ acc then acc else acc ++ [c])
    have e : (if c ∈ acc then acc else acc ++ [c]).length ≤ acc.length + 1 := by
      split
      · omega
      · simp
    simp only [List.length_cons]
    omega
theorem len_ord (l : List Nat) : (ordF l).length ≤ l.length := by
  have := len_ordG l []
  simpa [ordF] using this
theorem ordG_snoc (c : Nat) : ∀ (l acc : List Nat), ordG acc (l ++ [c]) = if c ∈ ordG acc l then ordG acc l else ordG acc l ++ [c]
  | [], acc => rfl
  | a :: r, acc => ordG_snoc c r _
theorem ordF_snoc (c : Nat) (l : List Nat) : ordF (l ++ [c]) = if c ∈ ordF l then ordF l else ordF l ++ [c] := ordG_snoc c l []
theorem take_snoc {l : List Nat} {i : Nat} (h : i < l.length) : l.take (i + 1) = l.take i ++ [l[i]] := by
  rw [List.take_add_one, List.getElem?_eq_getElem h]
  rfl
/-- each sign between two copies of what those ahead of it make -/
def nest (l : List Nat) : List Nat := l.foldl (fun w c => w ++ [c] ++ w) []
theorem nest_snoc (l : List Nat) (c : Nat) : nest (l ++ [c]) = nest l ++ [c] ++ nest l := by simp [nest]
theorem nest_len : ∀ (l : List Nat) (w : List Nat), (l.foldl (fun w c => w ++ [c] ++ w) w).length + 1 = (w.length + 1) * 2 ^ l.length
  | [], w => by simp
  | c :: r, w => by
    rw [List.foldl_cons, nest_len r, List.length_cons, Nat.pow_succ]
    simp only [List.length_append, List.length_cons, List.length_nil]
    rw [show w.length + (0 + 1) + w.length + 1 = (w.length + 1) * 2 by omega, Nat.mul_assoc, Nat.mul_comm 2]
theorem nest_pow (l : List Nat) : (Y.nest l).length + 1 = 2 ^ l.length := by
  have h1 := nest_len l []
  rw [List.length_nil, Nat.zero_add, Nat.one_mul] at h1
  exact h1
theorem nest_le {l : List Nat} (h : l.length ≤ 10) : (nest l).length ≤ 1023 := by
  have h1 := nest_len l []
  have h2 : 2 ^ l.length ≤ 2 ^ 10 := Nat.pow_le_pow_right (by decide) h
  have e : (nest l).length + 1 = 2 ^ l.length := by simpa [nest] using h1
  omega
theorem nest_mem : ∀ (l w : List Nat) (x : Nat), x ∈ l.foldl (fun w c => w ++ [c] ++ w) w → x ∈ w ∨ x ∈ l
  | [], w, x, h => .inl h
  | c :: r, w, x, h => by
    rcases nest_mem r _ x h with h | h
    · simp only [List.mem_append, List.mem_cons, List.not_mem_nil, or_false] at h
      rcases h with (h | h) | h
      · exact .inl h
      · exact .inr (by rw [h]; exact List.mem_cons_self)
      · exact .inl h
    · exact .inr (List.mem_cons_of_mem _ h)
theorem rot_inj {b st k k' : Int} (hs : st ∈ ([1, 3, 5, 7, 9, 11, 15, 17, 19, 21, 23, 25] : List Int)) (h0 : 0 ≤ k) (h1 : k < 26) (h2 : 0 ≤ k') (h3 : k' < 26) (e : (b + st * k) % 26 = (b + st * k') % 26) : k = k' := by
  simp only [List.mem_cons, List.not_mem_nil, or_false] at hs
  rcases hs with rfl | rfl | rfl | rfl | rfl | rfl | rfl | rfl | rfl | rfl | rfl | rfl <;> omega
theorem nodup_len : ∀ {a b : List Nat}, a.Nodup → (∀ x ∈ a, x ∈ b) → a.length ≤ b.length
  | [], _, _, _ => Nat.zero_le _
  | x :: r, b, h, hs => by
    have hx := hs x List.mem_cons_self
    obtain ⟨h1, h2⟩ := List.nodup_cons.mp h
    have ih := nodup_len (b := b.erase x) h2 fun y hy => (List.mem_erase_of_ne (fun e => h1 (by rw [← e]; exact hy))).mpr (hs y (List.mem_cons_of_mem _ hy))
    rw [List.length_erase_of_mem hx] at ih
    have := List.length_pos_of_mem hx
    simp only [List.length_cons]
    omega
theorem pat_ok {s l : List Nat} (h : ∀ c ∈ s, c ∈ l) (hl : low l) (h8 : l.length ≤ 8) : low s ∧ (ordF s).length ≤ 8 :=
  ⟨fun c hc => hl c (h c hc), Nat.le_trans (nodup_len (nodup_ordF s) fun x hx => h x (mem_ordF.mp hx)) h8⟩
theorem sgs_of {l : List Nat} : ∀ {rs : List D}, (∀ r ∈ rs, ∃ c ∈ l, r = sg c) → ∃ cs : List Nat, rs = cs.map sg ∧ (∀ c ∈ cs, c ∈ l) ∧ cs.length = rs.length
  | [], _ => ⟨[], rfl, (fun _ z => nomatch z), rfl⟩
  | r :: rs, h => by
    obtain ⟨c, hc, rfl⟩ := h r List.mem_cons_self
    obtain ⟨cs, rfl, h1, h2⟩ := sgs_of fun r hr => h r (List.mem_cons_of_mem _ hr)
    exact ⟨c :: cs, rfl, fun x hx => (List.mem_cons.mp hx).elim (fun e => by rw [e]; exact hc) (h1 x), by simp⟩
/-- a cut of a text: its signs, no longer than the cut -/
theorem cutS_of (t : List Nat) (lo hi : Option Int) : ∃ u : List Nat, L2.cutS (S t) lo hi = S u ∧ (∀ c ∈ u, c ∈ t) ∧ u.length ≤ HT.sIx t.length t.length hi - HT.sIx t.length 0 lo := by
  refine ⟨(t.drop (HT.sIx t.length 0 lo)).take (HT.sIx t.length t.length hi - HT.sIx t.length 0 lo), ?_, fun c hc => List.mem_of_mem_drop (List.mem_of_mem_take hc), ?_⟩
  · unfold L2.cutS
    rfl
  · rw [List.length_take]
    omega
end Y

local macro_rules | `(tactic| walk_at "side") => `(tactic| first | (with_reducible show (0 : Int) < _; decide) | omega | (dsimp only; omega) | (with_reducible refine Or.inl ⟨?_, ?_⟩ <;> first | decide | omega) | (with_reducible refine Or.inr ⟨?_, ?_⟩ <;> first | decide | omega) | (unfold L2.CMul; omega) | (unfold L2.CDiv; omega) | (unfold L2.CPow; first | decide | (refine ⟨?_, ?_, ?_⟩ <;> first | decide | omega)) | (unfold L2.CMul; first | exact Or.inl ⟨by decide, by decide⟩ | exact Or.inr ⟨by decide, by decide⟩) | (with_reducible rfl) | decide)
local macro_rules | `(tactic| walk_at "go") => `(tactic| first | (refine ⟨_, rfl, ?_⟩) | (refine ⟨_, _, rfl, rfl, (by walk_at "side"), ?_⟩) | (refine ⟨_, _, rfl, rfl, ?_⟩) | (refine ⟨rfl, ?_⟩) | (refine ⟨_, _, rfl, Or.inl (by assumption), ?_⟩) | (refine ⟨_, _, rfl, Or.inr (by assumption), ?_⟩))
local macro_rules | `(tactic| walk_at "run") => `(tactic| repeat walk_at "go")

namespace Law_k02
open PySem PySem.Spec PyProof.Rows L2 M Y
/-! ### the text by places -/
def topS (i : Nat) : Stmt := PySem.Challenge.pw_mustoccur_k02_normal_forms.main.body.getD i (.Pass ⟨0, 0, 0, 0⟩)
abbrev s__law_pen : Stmt := topS 14
theorem sc__law_pen : FnScope ["_law_script"] ["_law_script"] (defScope s__law_pen) := ⟨rfl, rfl, rfl, by decide +kernel, rfl, by decide +kernel, by decide +kernel⟩
abbrev s__law_draw : Stmt := topS 15
theorem sc__law_draw : FnScope ["_law_pen_here", "_law_size", "_law_digit", "_law_turn", "_law_cell", "_law_primes", "_law_prime", "_law_mixed"] ["_law_pen_here", "_law_size"] (defScope s__law_draw) := ⟨rfl, rfl, rfl, by decide +kernel, rfl, by decide +kernel, by decide +kernel⟩
abbrev s__law_pick : Stmt := topS 16
abbrev s__law_names : Stmt := topS 17
abbrev s__law_nested : Stmt := topS 18
abbrev s__law_pattern : Stmt := topS 19
abbrev s__law_order : Stmt := topS 20
abbrev s__law_normal : Stmt := topS 21
abbrev s_are_variables : Stmt := topS 6
abbrev s_distinct : Stmt := topS 7
abbrev s_fits_pattern : Stmt := topS 8
abbrev s_need_pattern : Stmt := topS 9
abbrev s_normal : Stmt := topS 12
abbrev s_variables : Stmt := topS 11
abbrev s_law : Stmt := topS 22
/-- what the top has left -/
structure Txt (K : PySem.W.Frag) (mg : Str → Option Value) : Prop where
  f__law_pen : ∃ (f : Addr) (fd : FuncData), mg "_law_pen" = some (.ref f) ∧ Fun K "_law_pen" "_law_pen" s__law_pen f fd
  f__law_draw : ∃ (f : Addr) (fd : FuncData), mg "_law_draw" = some (.ref f) ∧ Fun K "_law_draw" "_law_draw" s__law_draw f fd
  f__law_pick : ∃ (f : Addr) (fd : FuncData), mg "_law_pick" = some (.ref f) ∧ Fun K "_law_pick" "_law_pick" s__law_pick f fd
  f__law_names : ∃ (f : Addr) (fd : FuncData), mg "_law_names" = some (.ref f) ∧ Fun K "_law_names" "_law_names" s__law_names f fd
  f__law_nested : ∃ (f : Addr) (fd : FuncData), mg "_law_nested" = some (.ref f) ∧ Fun K "_law_nested" "_law_nested" s__law_nested f fd
  f__law_pattern : ∃ (f : Addr) (fd : FuncData), mg "_law_pattern" = some (.ref f) ∧ Fun K "_law_pattern" "_law_pattern" s__law_pattern f fd
  f__law_order : ∃ (f : Addr) (fd : FuncData), mg "_law_order" = some (.ref f) ∧ Fun K "_law_order" "_law_order" s__law_order f fd
  f__law_normal : ∃ (f : Addr) (fd : FuncData), mg "_law_normal" = some (.ref f) ∧ Fun K "_law_normal" "_law_normal" s__law_normal f fd
  f_are_variables : ∃ (f : Addr) (fd : FuncData), mg "are_variables" = some (.ref f) ∧ Fun K "are_variables" "are_variables" s_are_variables f fd
  f_distinct : ∃ (f : Addr) (fd : FuncData), mg "distinct" = some (.ref f) ∧ Fun K "distinct" "distinct" s_distinct f fd
  f_fits_pattern : ∃ (f : Addr) (fd : FuncData), mg "fits_pattern" = some (.ref f) ∧ Fun K "fits_pattern" "fits_pattern" s_fits_pattern f fd
  f_need_pattern : ∃ (f : Addr) (fd : FuncData), mg "need_pattern" = some (.ref f) ∧ Fun K "need_pattern" "need_pattern" s_need_pattern f fd
  f_normal : ∃ (f : Addr) (fd : FuncData), mg "normal" = some (.ref f) ∧ Fun K "normal" "normal" s_normal f fd
  f_variables : ∃ (f : Addr) (fd : FuncData), mg "variables" = some (.ref f) ∧ Fun K "variables" "variables" s_variables f fd
  f_law : ∃ (f : Addr) (fd : FuncData), mg "law" = some (.ref f) ∧ Fun K "law" "law" s_law f fd
  c_ALPHABET : ∃ u, mg "ALPHABET" = some u ∧ RelV (.str "abcdefghijklmnopqrstuvwxyz") u
  c_MAX_PATTERN : ∃ u, mg "MAX_PATTERN" = some u ∧ RelV (.int 40) u
  c_MAX_VARIABLES : ∃ u, mg "MAX_VARIABLES" = some u ∧ RelV (.int 8) u
  m_abs : mg "abs" = none
  m_all : mg "all" = none
  m_enumerate : mg "enumerate" = none
  m_isinstance : mg "isinstance" = none
  m_len : mg "len" = none
  m_list : mg "list" = none
  m_range : mg "range" = none
  m_repr : mg "repr" = none
  m_str : mg "str" = none
/-! ### promises -/
def c__law_pick : Ct := fun as Q _ => ∃ ds : List D, as = [.pen, .v (.list ds)] ∧ ds ≠ [] ∧ ds.length < 1073741824 ∧ ∀ d ∈ ds, Q d .shr
theorem m__law_pick : ∀ (as : List Ar) (Q Q' : VQ) (E E' : XQ), (∀ d k, Q d k → Q' d k) → (∀ e, E e → E' e) → c__law_pick as Q E → c__law_pick as Q' E' := by
  rintro as Q Q' E E' h _ ⟨ds, e, h1, h2, q⟩
  exact ⟨ds, e, h1, h2, fun d hd => h _ _ (q d hd)⟩
theorem l__law_pick : ∀ (as : List Ar) (Q : VQ) (E : XQ), c__law_pick as Q E → as.length = 2 := by rintro _ _ _ ⟨ds, rfl, _⟩; rfl
def c__law_names : Ct := fun as Q _ => ∃ n : Nat, as = [.pen, .v (.int (n : Int))] ∧ n ≤ 26 ∧ ∀ l : List Nat, l.length = n → l.Nodup → low l → Q (.list (l.map sg)) .own
theorem m__law_names : ∀ (as : List Ar) (Q Q' : VQ) (E E' : XQ), (∀ d k, Q d k → Q' d k) → (∀ e, E e → E' e) → c__law_names as Q E → c__law_names as Q' E' := by
  rintro as Q Q' E E' h _ ⟨n, e, h1, q⟩
  exact ⟨n, e, h1, fun l a b c => h _ _ (q l a b c)⟩
theorem l__law_names : ∀ (as : List Ar) (Q : VQ) (E : XQ), c__law_names as Q E → as.length = 2 := by rintro _ _ _ ⟨n, rfl, _⟩; rfl
def c__law_nested : Ct := fun as Q _ => ∃ (l : List Nat), as = [.v (.list (l.map sg))] ∧ l.length ≤ 10 ∧ l ≠ [] ∧ Q (.str (S (nest l))) .shr
theorem m__law_nested : ∀ (as : List Ar) (Q Q' : VQ) (E E' : XQ), (∀ d k, Q d k → Q' d k) → (∀ e, E e → E' e) → c__law_nested as Q E → c__law_nested as Q' E' := by
  rintro as Q Q' E E' h _ ⟨l, e, h0, h1, q⟩
  exact ⟨l, e, h0, h1, h _ _ q⟩
theorem l__law_nested : ∀ (as : List Ar) (Q : VQ) (E : XQ), c__law_nested as Q E → as.length = 1 := by rintro _ _ _ ⟨l, rfl, _⟩; rfl
def c__law_pattern : Ct := fun as Q _ => as = [.pen, .v (.int 40), .v (.int 8)] ∧ ∀ l : List Nat, low l → l.length ≤ 40 → (ordF l).length ≤ 8 → Q (.str (S l)) .shr
theorem m__law_pattern : ∀ (as : List Ar) (Q Q' : VQ) (E E' : XQ), (∀ d k, Q d k → Q' d k) → (∀ e, E e → E' e) → c__law_pattern as Q E → c__law_pattern as Q' E' := by
  rintro as Q Q' E E' h _ ⟨e, q⟩
  exact ⟨e, fun l a b c => h _ _ (q l a b c)⟩
theorem l__law_pattern : ∀ (as : List Ar) (Q : VQ) (E : XQ), c__law_pattern as Q E → as.length = 3 := by rintro _ _ _ ⟨rfl, _⟩; rfl
def c__law_order : Ct := fun as Q _ => ∃ (l : List Nat), as = [.v (.str (S l))] ∧ l.length ≤ 100000 ∧ Q (.str (S (ordF l))) .shr
theorem m__law_order : ∀ (as : List Ar) (Q Q' : VQ) (E E' : XQ), (∀ d k, Q d k → Q' d k) → (∀ e, E e → E' e) → c__law_order as Q E → c__law_order as Q' E' := by
  rintro as Q Q' E E' h _ ⟨l, e, h0, q⟩
  exact ⟨l, e, h0, h _ _ q⟩
theorem l__law_order : ∀ (as : List Ar) (Q : VQ) (E : XQ), c__law_order as Q E → as.length = 1 := by rintro _ _ _ ⟨l, rfl, _⟩; rfl
def c__law_normal : Ct := fun as Q _ => ∃ (l : List Nat), as = [.v (.str (S l))] ∧ l.length ≤ 40 ∧ (ordF l).length ≤ 8 ∧ Q (.str (S (nf l))) .shr
theorem m__law_normal : ∀ (as : List Ar) (Q Q' : VQ) (E E' : XQ), (∀ d k, Q d k → Q' d k) → (∀ e, E e → E' e) → c__law_normal as Q E → c__law_normal as Q' E' := by
  rintro as Q Q' E E' h _ ⟨l, e, h0, h1, q⟩
  exact ⟨l, e, h0, h1, h _ _ q⟩
theorem l__law_normal : ∀ (as : List Ar) (Q : VQ) (E : XQ), c__law_normal as Q E → as.length = 1 := by rintro _ _ _ ⟨l, rfl, _⟩; rfl
def c_are_variables : Ct := fun as Q _ => ∃ (l : List Nat), as = [.v (.str (S l))] ∧ low l ∧ l.length ≤ 100000 ∧ Q (.bool true) .shr
theorem m_are_variables : ∀ (as : List Ar) (Q Q' : VQ) (E E' : XQ), (∀ d k, Q d k → Q' d k) → (∀ e, E e → E' e) → c_are_variables as Q E → c_are_variables as Q' E' := by
  rintro as Q Q' E E' h _ ⟨l, e, h0, h1, q⟩
  exact ⟨l, e, h0, h1, h _ _ q⟩
theorem l_are_variables : ∀ (as : List Ar) (Q : VQ) (E : XQ), c_are_variables as Q E → as.length = 1 := by rintro _ _ _ ⟨l, rfl, _⟩; rfl
def c_distinct : Ct := fun as Q _ => ∃ (l : List Nat), as = [.v (.str (S l))] ∧ l.length ≤ 100000 ∧ Q (.str (S (ordF l))) .shr
theorem m_distinct : ∀ (as : List Ar) (Q Q' : VQ) (E E' : XQ), (∀ d k, Q d k → Q' d k) → (∀ e, E e → E' e) → c_distinct as Q E → c_distinct as Q' E' := by
  rintro as Q Q' E E' h _ ⟨l, e, h0, q⟩
  exact ⟨l, e, h0, h _ _ q⟩
theorem l_distinct : ∀ (as : List Ar) (Q : VQ) (E : XQ), c_distinct as Q E → as.length = 1 := by rintro _ _ _ ⟨l, rfl, _⟩; rfl
def c_fits_pattern : Ct := fun as Q _ => ∃ (l : List Nat), as = [.v (.str (S l))] ∧ low l ∧ l.length ≤ 40 ∧ (ordF l).length ≤ 8 ∧ Q (.bool true) .shr
theorem m_fits_pattern : ∀ (as : List Ar) (Q Q' : VQ) (E E' : XQ), (∀ d k, Q d k → Q' d k) → (∀ e, E e → E' e) → c_fits_pattern as Q E → c_fits_pattern as Q' E' := by
  rintro as Q Q' E E' h _ ⟨l, e, h0, h1, h2, q⟩
  exact ⟨l, e, h0, h1, h2, h _ _ q⟩
theorem l_fits_pattern : ∀ (as : List Ar) (Q : VQ) (E : XQ), c_fits_pattern as Q E → as.length = 1 := by rintro _ _ _ ⟨l, rfl, _⟩; rfl
def c_need_pattern : Ct := fun as Q _ => ∃ (l : List Nat), as = [.v (.str (S l))] ∧ low l ∧ l.length ≤ 40 ∧ (ordF l).length ≤ 8 ∧ Q .none .shr
theorem m_need_pattern : ∀ (as : List Ar) (Q Q' : VQ) (E E' : XQ), (∀ d k, Q d k → Q' d k) → (∀ e, E e → E' e) → c_need_pattern as Q E → c_need_pattern as Q' E' := by
  rintro as Q Q' E E' h _ ⟨l, e, h0, h1, h2, q⟩
  exact ⟨l, e, h0, h1, h2, h _ _ q⟩
theorem l_need_pattern : ∀ (as : List Ar) (Q : VQ) (E : XQ), c_need_pattern as Q E → as.length = 1 := by rintro _ _ _ ⟨l, rfl, _⟩; rfl
def c_normal : Ct := fun as Q _ => ∃ (l : List Nat), as = [.v (.str (S l))] ∧ low l ∧ l.length ≤ 40 ∧ (ordF l).length ≤ 8 ∧ Q (.str (S (nf l))) .shr
theorem m_normal : ∀ (as : List Ar) (Q Q' : VQ) (E E' : XQ), (∀ d k, Q d k → Q' d k) → (∀ e, E e → E' e) → c_normal as Q E → c_normal as Q' E' := by
  rintro as Q Q' E E' h _ ⟨l, e, h0, h1, h2, q⟩
  exact ⟨l, e, h0, h1, h2, h _ _ q⟩
theorem l_normal : ∀ (as : List Ar) (Q : VQ) (E : XQ), c_normal as Q E → as.length = 1 := by rintro _ _ _ ⟨l, rfl, _⟩; rfl
def c_variables : Ct := fun as Q _ => ∃ (l : List Nat), as = [.v (.str (S l))] ∧ low l ∧ l.length ≤ 40 ∧ (ordF l).length ≤ 8 ∧ Q (.str (S (ordF l))) .shr
theorem m_variables : ∀ (as : List Ar) (Q Q' : VQ) (E E' : XQ), (∀ d k, Q d k → Q' d k) → (∀ e, E e → E' e) → c_variables as Q E → c_variables as Q' E' := by
  rintro as Q Q' E E' h _ ⟨l, e, h0, h1, h2, q⟩
  exact ⟨l, e, h0, h1, h2, h _ _ q⟩
theorem l_variables : ∀ (as : List Ar) (Q : VQ) (E : XQ), c_variables as Q E → as.length = 1 := by rintro _ _ _ ⟨l, rfl, _⟩; rfl
@[irreducible] def C : Str → Ct := fun x => if x = "_law_draw" then cDraw else if x = "_law_pick" then c__law_pick else if x = "_law_names" then c__law_names else if x = "_law_nested" then c__law_nested else if x = "_law_pattern" then c__law_pattern else if x = "_law_order" then c__law_order else if x = "_law_normal" then c__law_normal else if x = "are_variables" then c_are_variables else if x = "distinct" then c_distinct else if x = "fits_pattern" then c_fits_pattern else if x = "need_pattern" then c_need_pattern else if x = "normal" then c_normal else if x = "variables" then c_variables else fun _ _ _ => False
theorem C__law_draw : C "_law_draw" = cDraw := by
  unfold C
  rw [if_pos rfl]
theorem at__law_draw {as : List Ar} {Q : VQ} {E : XQ} (h : cDraw as Q E) : C "_law_draw" as Q E := by rw [C__law_draw]; exact h
theorem C__law_pick : C "_law_pick" = c__law_pick := by
  unfold C
  rw [if_neg (by decide +kernel)]; rw [if_pos rfl]
theorem at__law_pick {as : List Ar} {Q : VQ} {E : XQ} (h : c__law_pick as Q E) : C "_law_pick" as Q E := by rw [C__law_pick]; exact h
theorem C__law_names : C "_law_names" = c__law_names := by
  unfold C
  rw [if_neg (by decide +kernel)]; rw [if_neg (by decide +kernel)]; rw [if_pos rfl]
theorem at__law_names {as : List Ar} {Q : VQ} {E : XQ} (h : c__law_names as Q E) : C "_law_names" as Q E := by rw [C__law_names]; exact h
theorem C__law_nested : C "_law_nested" = c__law_nested := by
  unfold C
  rw [if_neg (by decide +kernel)]; rw [if_neg (by decide +kernel)]; rw [if_neg (by decide +kernel)]; rw [if_pos rfl]
theorem at__law_nested {as : List Ar} {Q : VQ} {E : XQ} (h : c__law_nested as Q E) : C "_law_nested" as Q E := by rw [C__law_nested]; exact h
theorem C__law_pattern : C "_law_pattern" = c__law_pattern := by
  unfold C
  rw [if_neg (by decide +kernel)]; rw [if_neg (by decide +kernel)]; rw [if_neg (by decide +kernel)]; rw [if_neg (by decide +kernel)]; rw [if_pos rfl]
theorem at__law_pattern {as : List Ar} {Q : VQ} {E : XQ} (h : c__law_pattern as Q E) : C "_law_pattern" as Q E := by rw [C__law_pattern]; exact h
theorem C__law_order : C "_law_order" = c__law_order := by
  unfold C
  rw [if_neg (by decide +kernel)]; rw [if_neg (by decide +kernel)]; rw [if_neg (by decide +kernel)]; rw [if_neg (by decide +kernel)]; rw [if_neg (by decide +kernel)]; rw [if_pos rfl]
theorem at__law_order {as : List Ar} {Q : VQ} {E : XQ} (h : c__law_order as Q E) : C "_law_order" as Q E := by rw [C__law_order]; exact h
theorem C__law_normal : C "_law_normal" = c__law_normal := by
  unfold C
  rw [if_neg (by decide +kernel)]; rw [if_neg (by decide +kernel)]; rw [if_neg (by decide +kernel)]; rw [if_neg (by decide +kernel)]; rw [if_neg (by decide +kernel)]; rw [if_neg (by decide +kernel)]; rw [if_pos rfl]
theorem at__law_normal {as : List Ar} {Q : VQ} {E : XQ} (h : c__law_normal as Q E) : C "_law_normal" as Q E := by rw [C__law_normal]; exact h
theorem C_are_variables : C "are_variables" = c_are_variables := by
  unfold C
  rw [if_neg (by decide +kernel)]; rw [if_neg (by decide +kernel)]; rw [if_neg (by decide +kernel)]; rw [if_neg (by decide +kernel)]; rw [if_neg (by decide +kernel)]; rw [if_neg (by decide +kernel)]; rw [if_neg (by decide +kernel)]; rw [if_pos rfl]
theorem at_are_variables {as : List Ar} {Q : VQ} {E : XQ} (h : c_are_variables as Q E) : C "are_variables" as Q E := by rw [C_are_variables]; exact h
theorem C_distinct : C "distinct" = c_distinct := by
  unfold C
  rw [if_neg (by decide +kernel)]; rw [if_neg (by decide +kernel)]; rw [if_neg (by decide +kernel)]; rw [if_neg (by decide +kernel)]; rw [if_neg (by decide +kernel)]; rw [if_neg (by decide +kernel)]; rw [if_neg (by decide +kernel)]; rw [if_neg (by decide +kernel)]; rw [if_pos rfl]
theorem at_distinct {as : List Ar} {Q : VQ} {E : XQ} (h : c_distinct as Q E) : C "distinct" as Q E := by rw [C_distinct]; exact h
theorem C_fits_pattern : C "fits_pattern" = c_fits_pattern := by
  unfold C
  rw [if_neg (by decide +kernel)]; rw [if_neg (by decide +kernel)]; rw [if_neg (by decide +kernel)]; rw [if_neg (by decide +kernel)]; rw [if_neg (by decide +kernel)]; rw [if_neg (by decide +kernel)]; rw [if_neg (by decide +kernel)]; rw [if_neg (by decide +kernel)]; rw [if_neg (by decide +kernel)]; rw [if_pos rfl]
theorem at_fits_pattern {as : List Ar} {Q : VQ} {E : XQ} (h : c_fits_pattern as Q E) : C "fits_pattern" as Q E := by rw [C_fits_pattern]; exact h
theorem C_need_pattern : C "need_pattern" = c_need_pattern := by
  unfold C
  rw [if_neg (by decide +kernel)]; rw [if_neg (by decide +kernel)]; rw [if_neg (by decide +kernel)]; rw [if_neg (by decide +kernel)]; rw [if_neg (by decide +kernel)]; rw [if_neg (by decide +kernel)]; rw [if_neg (by decide +kernel)]; rw [if_neg (by decide +kernel)]; rw [if_neg (by decide +kernel)]; rw [if_neg (by decide +kernel)]; rw [if_pos rfl]
theorem at_need_pattern {as : List Ar} {Q : VQ} {E : XQ} (h : c_need_pattern as Q E) : C "need_pattern" as Q E := by rw [C_need_pattern]; exact h
theorem C_normal : C "normal" = c_normal := by
  unfold C
  rw [if_neg (by decide +kernel)]; rw [if_neg (by decide +kernel)]; rw [if_neg (by decide +kernel)]; rw [if_neg (by decide +kernel)]; rw [if_neg (by decide +kernel)]; rw [if_neg (by decide +kernel)]; rw [if_neg (by decide +kernel)]; rw [if_neg (by decide +kernel)]; rw [if_neg (by decide +kernel)]; rw [if_neg (by decide +kernel)]; rw [if_neg (by decide +kernel)]; rw [if_pos rfl]
theorem at_normal {as : List Ar} {Q : VQ} {E : XQ} (h : c_normal as Q E) : C "normal" as Q E := by rw [C_normal]; exact h
theorem C_variables : C "variables" = c_variables := by
  unfold C
  rw [if_neg (by decide +kernel)]; rw [if_neg (by decide +kernel)]; rw [if_neg (by decide +kernel)]; rw [if_neg (by decide +kernel)]; rw [if_neg (by decide +kernel)]; rw [if_neg (by decide +kernel)]; rw [if_neg (by decide +kernel)]; rw [if_neg (by decide +kernel)]; rw [if_neg (by decide +kernel)]; rw [if_neg (by decide +kernel)]; rw [if_neg (by decide +kernel)]; rw [if_neg (by decide +kernel)]; rw [if_pos rfl]
theorem at_variables {as : List Ar} {Q : VQ} {E : XQ} (h : c_variables as Q E) : C "variables" as Q E := by rw [C_variables]; exact h
theorem C_mono : CMono C := by
  intro f as Q Q' E E' h h' w
  unfold C at w ⊢
  by_cases e : f = "_law_draw"
  · rw [if_pos e] at w ⊢
    exact cDraw_mono as Q Q' E E' h h' w
  rw [if_neg e] at w ⊢
  by_cases e : f = "_law_pick"
  · rw [if_pos e] at w ⊢
    exact m__law_pick as Q Q' E E' h h' w
  rw [if_neg e] at w ⊢
  by_cases e : f = "_law_names"
  · rw [if_pos e] at w ⊢
    exact m__law_names as Q Q' E E' h h' w
  rw [if_neg e] at w ⊢
  by_cases e : f = "_law_nested"
  · rw [if_pos e] at w ⊢
    exact m__law_nested as Q Q' E E' h h' w
  rw [if_neg e] at w ⊢
  by_cases e : f = "_law_pattern"
  · rw [if_pos e] at w ⊢
    exact m__law_pattern as Q Q' E E' h h' w
  rw [if_neg e] at w ⊢
  by_cases e : f = "_law_order"
  · rw [if_pos e] at w ⊢
    exact m__law_order as Q Q' E E' h h' w
  rw [if_neg e] at w ⊢
  by_cases e : f = "_law_normal"
  · rw [if_pos e] at w ⊢
    exact m__law_normal as Q Q' E E' h h' w
  rw [if_neg e] at w ⊢
  by_cases e : f = "are_variables"
  · rw [if_pos e] at w ⊢
    exact m_are_variables as Q Q' E E' h h' w
  rw [if_neg e] at w ⊢
  by_cases e : f = "distinct"
  · rw [if_pos e] at w ⊢
    exact m_distinct as Q Q' E E' h h' w
  rw [if_neg e] at w ⊢
  by_cases e : f = "fits_pattern"
  · rw [if_pos e] at w ⊢
    exact m_fits_pattern as Q Q' E E' h h' w
  rw [if_neg e] at w ⊢
  by_cases e : f = "need_pattern"
  · rw [if_pos e] at w ⊢
    exact m_need_pattern as Q Q' E E' h h' w
  rw [if_neg e] at w ⊢
  by_cases e : f = "normal"
  · rw [if_pos e] at w ⊢
    exact m_normal as Q Q' E E' h h' w
  rw [if_neg e] at w ⊢
  by_cases e : f = "variables"
  · rw [if_pos e] at w ⊢
    exact m_variables as Q Q' E E' h h' w
  rw [if_neg e] at w ⊢
  exact w
/-! ### what the defs say -/
def G__law_pick : Gm := ⟨["_law_pen_here", "_law_options"], defScope s__law_pick, fun _ => true, ["len"], [], ["_law_draw"], [], ["_law_pen_here"], [], fun x => if x = "_law_draw" then 1 else 0, []⟩
def b__law_pick : Sms := (.cons (.ret (.ix (.bor 1) (.call "_law_draw" (.sl 0 (.ex (.bt .len (.cons (.bor 1) .nil)) .nil)))))
  .nil)
theorem tr__law_pick : trS.go (trS 40 G__law_pick 40) (defBody s__law_pick) = some b__law_pick := by kernel_rfl
def k__law_pick : Nat := kSs G__law_pick.m b__law_pick
def G__law_names : Gm := ⟨["_law_pen_here", "_law_count", "_law_letters", "_law_begin", "_law_step", "_law_k"], defScope s__law_names, fun _ => true, ["range"], [], ["_law_draw", "_law_pick"], [], ["_law_pen_here"], [], fun x => if x = "_law_draw" then 1 else if x = "_law_pick" then k__law_pick else 0, []⟩
def b__law_names : Sms := (.cons (.set 2 (.con (.str "abcdefghijklmnopqrstuvwxyz")))
  (.cons (.tset [3, 4] (.tup (.cons (.call "_law_draw" (.sl 0 (.ex (.con (.int 26)) .nil))) (.cons (.call "_law_pick" (.sl 0 (.ex (.lst (.cons (.con (.int 1)) (.cons (.con (.int 3)) (.cons (.con (.int 5)) (.cons (.con (.int 7)) (.cons (.con (.int 9)) (.cons (.con (.int 11)) (.cons (.con (.int 15)) (.cons (.con (.int 17)) (.cons (.con (.int 19)) (.cons (.con (.int 21)) (.cons (.con (.int 23)) (.cons (.con (.int 25)) .nil))))))))))))) .nil))) .nil))))
  (.cons (.ret (.comp (.ix (.bor 2) (.bin .Mod (.bin .Add (.bor 3) (.bin .Mult (.bor 4) (.bor 5))) (.con (.int 26)))) (.nm 5) (.rg1 (.bor 1)) .no))
  .nil)))
theorem tr__law_names : trS.go (trS 40 G__law_names 40) (defBody s__law_names) = some b__law_names := by kernel_rfl
def k__law_names : Nat := kSs G__law_names.m b__law_names
def G__law_nested : Gm := ⟨["_law_names_here", "_law_word", "_law_name"], defScope s__law_nested, fun _ => true, [], [], [], [], [], [], fun x =>  0, []⟩
def b__law_nested : Sms := (.cons (.set 1 (.con (.str "")))
  (.cons (.loop (.nm 2) (.over (.var 0)) (.cons (.set 1 (.bin .Add (.bin .Add (.bor 1) (.bor 2)) (.bor 1)))
  .nil))
  (.cons (.retv 1)
  .nil)))
theorem tr__law_nested : trS.go (trS 40 G__law_nested 40) (defBody s__law_nested) = some b__law_nested := by kernel_rfl
def k__law_nested : Nat := kSs G__law_nested.m b__law_nested
def G__law_pattern : Gm := ⟨["_law_pen_here", "_law_size", "_law_count", "_law_names_here", "_law_way", "_law_many", "_law_word", "_law_at", "_law_half", "_law_k"], defScope s__law_pattern, fun _ => true, ["len", "range"], [], ["_law_pick", "_law_draw", "_law_nested", "_law_names"], [], ["_law_pen_here"], [], fun x => if x = "_law_pick" then k__law_pick else if x = "_law_draw" then 1 else if x = "_law_nested" then k__law_nested else if x = "_law_names" then k__law_names else 0, []⟩
def b__law_pattern : Sms := (.cons (.tset [3, 4] (.tup (.cons (.call "_law_names" (.sl 0 (.ex (.bin .Add (.con (.int 1)) (.call "_law_draw" (.sl 0 (.ex (.var 2) .nil)))) .nil))) (.cons (.call "_law_draw" (.sl 0 (.ex (.con (.int 5)) .nil))) .nil))))
  (.cons (.set 5 (.call "_law_draw" (.sl 0 (.ex (.bin .Add (.bor 1) (.con (.int 1))) .nil))))
  (.cons (.cond (.of (.cmp .Eq (.bor 4) (.con (.int 0)))) (.cons (.ret (.mt .join (.con (.str "")) (.cons (.comp (.call "_law_pick" (.sl 0 (.ex (.var 3) .nil))) (.nm 9) (.rg1 (.bor 5)) .no) .nil)))
  .nil) .nil)
  (.cons (.cond (.of (.cmp .Lt (.bor 4) (.con (.int 3)))) (.cons (.set 6 (.call "_law_nested" (.ex (.var 3) .nil)))
  (.cons (.set 7 (.call "_law_draw" (.sl 0 (.ex (.bt .len (.cons (.bor 6) .nil)) .nil))))
  (.cons (.ret (.sl (.bor 6) (.so (.bor 7)) (.so (.bin .Add (.bor 7) (.bor 5)))))
  .nil))) .nil)
  (.cons (.cond (.of (.cmp .Eq (.bor 4) (.con (.int 3)))) (.cons (.ret (.mt .join (.con (.str "")) (.cons (.comp (.ix (.bor 3) (.bin .Mod (.bor 9) (.bt .len (.cons (.bor 3) .nil)))) (.nm 9) (.rg1 (.bor 5)) .no) .nil)))
  .nil) .nil)
  (.cons (.set 8 (.mt .join (.con (.str "")) (.cons (.comp (.call "_law_pick" (.sl 0 (.ex (.var 3) .nil))) (.nm 9) (.rg1 (.bin .FloorDiv (.bor 5) (.con (.int 2)))) .no) .nil)))
  (.cons (.ret (.sl (.call "_law_pick" (.sl 0 (.ex (.lst (.cons (.bin .Add (.bor 8) (.bor 8)) (.cons (.bin .Add (.bor 8) (.rev (.bor 8))) (.cons (.bin .Add (.bor 8) (.ix (.bor 3) (.con (.int 0)))) .nil)))) .nil))) .no (.so (.bor 1))))
  .nil)))))))
theorem tr__law_pattern : trS.go (trS 40 G__law_pattern 40) (defBody s__law_pattern) = some b__law_pattern := by kernel_rfl
def k__law_pattern : Nat := kSs G__law_pattern.m b__law_pattern
def G__law_order : Gm := ⟨["_law_pattern_here", "_law_found", "_law_sign"], defScope s__law_order, fun _ => true, [], [], [], [], [], [], fun x =>  0, []⟩
def b__law_order : Sms := (.cons (.set 1 (.con (.str "")))
  (.cons (.loop (.nm 2) (.over (.var 0)) (.cons (.cond (.of (.cmp .NotIn (.bor 2) (.bor 1))) (.cons (.set 1 (.bin .Add (.bor 1) (.bor 2)))
  .nil) .nil)
  .nil))
  (.cons (.retv 1)
  .nil)))
theorem tr__law_order : trS.go (trS 40 G__law_order 40) (defBody s__law_order) = some b__law_order := by kernel_rfl
def k__law_order : Nat := kSs G__law_order.m b__law_order
def G__law_normal : Gm := ⟨["_law_pattern_here", "_law_order_here", "_law_sign"], defScope s__law_normal, fun _ => true, [], [], ["_law_order"], [], [], [], fun x => if x = "_law_order" then k__law_order else 0, [("_law_order_here", .sindex)]⟩
def b__law_normal : Sms := (.cons (.set 1 (.call "_law_order" (.ex (.var 0) .nil)))
  (.cons (.ret (.mt .join (.con (.str "")) (.cons (.comp (.ix (.con (.str "abcdefgh")) (.mt .sindex (.bor 1) (.cons (.bor 2) .nil))) (.nm 2) (.over (.bor 0)) .no) .nil)))
  .nil))
theorem tr__law_normal : trS.go (trS 40 G__law_normal 40) (defBody s__law_normal) = some b__law_normal := by kernel_rfl
def k__law_normal : Nat := kSs G__law_normal.m b__law_normal
def G_are_variables : Gm := ⟨["value", "sign"], defScope s_are_variables, fun _ => true, ["all", "isinstance", "str"], [("ALPHABET", (.str "abcdefghijklmnopqrstuvwxyz"))], [], [], [], [], fun x =>  0, []⟩
def b_are_variables : Sms := (.cons (.ret (.and (.bt (.isi "str") (.cons (.bor 0) .nil)) (.bt .all (.cons (.comp (.cmp .In (.bor 1) (.con (.str "abcdefghijklmnopqrstuvwxyz"))) (.nm 1) (.over (.bor 0)) .no) .nil))))
  .nil)
theorem tr_are_variables : trS.go (trS 40 G_are_variables 40) (defBody s_are_variables) = some b_are_variables := by kernel_rfl
def k_are_variables : Nat := kSs G_are_variables.m b_are_variables
def G_distinct : Gm := ⟨["pattern", "index", "sign"], defScope s_distinct, fun _ => true, ["enumerate"], [], [], [], [], [], fun x =>  0, [("pattern", .sindex)]⟩
def b_distinct : Sms := (.cons (.ret (.mt .join (.con (.str "")) (.cons (.comp (.var 2) (.tp [1, 2]) (.enum (.bor 0)) (.so (.of (.cmp .Eq (.mt .sindex (.bor 0) (.cons (.bor 2) .nil)) (.bor 1))))) .nil)))
  .nil)
theorem tr_distinct : trS.go (trS 40 G_distinct 40) (defBody s_distinct) = some b_distinct := by kernel_rfl
def k_distinct : Nat := kSs G_distinct.m b_distinct
def G_fits_pattern : Gm := ⟨["value"], defScope s_fits_pattern, fun _ => true, ["len"], [("MAX_PATTERN", (.int 40)), ("MAX_VARIABLES", (.int 8))], ["distinct", "are_variables"], [], [], ["are_variables"], fun x => if x = "distinct" then k_distinct else if x = "are_variables" then k_are_variables else 0, []⟩
def b_fits_pattern : Sms := (.cons (.cond (.or (.nt (.of (.call "are_variables" (.sl 0 .nil)))) (.of (.cmp .Gt (.bt .len (.cons (.bor 0) .nil)) (.con (.int 40))))) (.cons (.ret (.con (.bool false)))
  .nil) .nil)
  (.cons (.ret (.cmp .LtE (.bt .len (.cons (.call "distinct" (.ex (.var 0) .nil)) .nil)) (.con (.int 8))))
  .nil))
theorem tr_fits_pattern : trS.go (trS 40 G_fits_pattern 40) (defBody s_fits_pattern) = some b_fits_pattern := by kernel_rfl
def k_fits_pattern : Nat := kSs G_fits_pattern.m b_fits_pattern
def G_need_pattern : Gm := ⟨["value"], defScope s_need_pattern, fun _ => true, [], [], ["fits_pattern"], [], [], ["fits_pattern"], fun x => if x = "fits_pattern" then k_fits_pattern else 0, []⟩
def b_need_pattern : Sms := (.cons (.cond (.nt (.of (.call "fits_pattern" (.sl 0 .nil)))) (.cons .never
  .nil) .nil)
  .nil)
theorem tr_need_pattern : trS.go (trS 40 G_need_pattern 40) (defBody s_need_pattern) = some b_need_pattern := by kernel_rfl
def k_need_pattern : Nat := kSs G_need_pattern.m b_need_pattern
def G_normal : Gm := ⟨["pattern", "order", "sign"], defScope s_normal, fun _ => true, [], [("ALPHABET", (.str "abcdefghijklmnopqrstuvwxyz"))], ["distinct", "need_pattern"], [], [], ["need_pattern"], fun x => if x = "distinct" then k_distinct else if x = "need_pattern" then k_need_pattern else 0, [("order", .sindex)]⟩
def b_normal : Sms := (.cons (.expr (.call "need_pattern" (.sl 0 .nil)))
  (.cons (.set 1 (.call "distinct" (.ex (.var 0) .nil)))
  (.cons (.ret (.mt .join (.con (.str "")) (.cons (.comp (.ix (.con (.str "abcdefghijklmnopqrstuvwxyz")) (.mt .sindex (.bor 1) (.cons (.bor 2) .nil))) (.nm 2) (.over (.bor 0)) .no) .nil)))
  .nil)))
theorem tr_normal : trS.go (trS 40 G_normal 40) (defBody s_normal) = some b_normal := by kernel_rfl
def k_normal : Nat := kSs G_normal.m b_normal
def G_variables : Gm := ⟨["pattern"], defScope s_variables, fun _ => true, [], [], ["distinct", "need_pattern"], [], [], ["need_pattern"], fun x => if x = "distinct" then k_distinct else if x = "need_pattern" then k_need_pattern else 0, []⟩
def b_variables : Sms := (.cons (.expr (.call "need_pattern" (.sl 0 .nil)))
  (.cons (.ret (.call "distinct" (.ex (.var 0) .nil)))
  .nil))
theorem tr_variables : trS.go (trS 40 G_variables 40) (defBody s_variables) = some b_variables := by kernel_rfl
def k_variables : Nat := kSs G_variables.m b_variables
def G_law : Gm := ⟨["_law_script", "_law_pen_here", "_law_before", "_law_turn", "_law_pattern_here", "_law_names_here", "_law_order_here", "_law_renamed", "_law_due", "_law_sign"], defScope s_law, fun _ => true, ["len", "range", "repr"], [], ["normal", "_law_normal", "variables", "_law_order", "_law_names", "_law_pattern"], ["_law_pen"], ["_law_script", "_law_pen_here"], [], fun x => if x = "normal" then k_normal else if x = "_law_normal" then k__law_normal else if x = "variables" then k_variables else if x = "_law_order" then k__law_order else if x = "_law_names" then k__law_names else if x = "_law_pattern" then k__law_pattern else 0, [("_law_order_here", .sindex)]⟩
def b_law : Sms := (.cons (.mkpen 1 "_law_pen" 0)
  (.cons (.set 2 (.con (.str "")))
  (.cons (.loop (.nm 3) (.rg1 (.con (.int 10))) (.cons (.set 4 (.call "_law_pattern" (.sl 1 (.ex (.con (.int 40)) (.ex (.con (.int 8)) .nil)))))
  (.cons (.set 5 (.call "_law_names" (.sl 1 (.ex (.con (.int 8)) .nil))))
  (.cons (.set 6 (.call "_law_order" (.ex (.var 4) .nil)))
  (.cons (.set 7 (.mt .join (.con (.str "")) (.cons (.comp (.ix (.bor 5) (.mt .sindex (.bor 6) (.cons (.bor 9) .nil))) (.nm 9) (.over (.bor 4)) .no) .nil)))
  (.cons (.set 8 (.call "_law_normal" (.ex (.var 4) .nil)))
  (.cons (.cond (.or (.of (.cmp .NotEq (.bt .repr (.cons (.call "variables" (.ex (.var 4) .nil)) .nil)) (.bt .repr (.cons (.bor 6) .nil)))) (.of (.cmp .NotEq (.bt .repr (.cons (.call "normal" (.ex (.var 4) .nil)) .nil)) (.bt .repr (.cons (.bor 8) .nil))))) (.cons (.ret (.con (.bool false)))
  .nil) .nil)
  (.cons (.cond (.or (.of (.cmp .NotEq (.call "normal" (.ex (.var 7) .nil)) (.bor 8))) (.or (.of (.cmp .NotEq (.call "normal" (.ex (.var 8) .nil)) (.bor 8))) (.of (.cmp .NotEq (.bt .len (.cons (.call "variables" (.ex (.var 7) .nil)) .nil)) (.bt .len (.cons (.bor 6) .nil)))))) (.cons (.ret (.con (.bool false)))
  .nil) .nil)
  (.cons (.cond (.of (.cmp .NotEq (.cmp .Eq (.call "normal" (.ex (.var 2) .nil)) (.call "normal" (.ex (.var 7) .nil))) (.cmp .Eq (.call "_law_normal" (.ex (.var 2) .nil)) (.bor 8)))) (.cons (.ret (.con (.bool false)))
  .nil) .nil)
  (.cons (.set 2 (.var 4))
  .nil))))))))))
  (.cons (.ret (.con (.bool true)))
  .nil))))
theorem tr_law : trS.go (trS 40 G_law 40) (defBody s_law) = some b_law := by kernel_rfl
def k_law : Nat := kSs G_law.m b_law
theorem w__law_pick : ∀ as (Q : VQ), c__law_pick as Q XF → wB C b__law_pick G__law_pick.N as Q := by
  rintro _ Q ⟨ds, rfl, h1, h2, q⟩
  have h0 : 0 < ds.length := List.length_pos_iff.mpr h1
  refine ⟨trivial, ?_⟩
  refine ⟨nbS, at__law_draw ⟨_, rfl, by omega, by omega, fun k k0 k1 => ⟨fun _ => rfl, nbS, ?_⟩⟩⟩
  obtain ⟨j, rfl⟩ := Int.eq_ofNat_of_zero_le k0
  have hj : j < ds.length := by omega
  have e : atI ds (j : Int) = some ds[j] := atI_nat (by simp [hj])
  show Rz.to (Option.map (fun d => (True, d, Kd.shr)) (atI ds (j : Int))) _
  rw [e]
  exact ⟨trivial, nbS, q _ (List.getElem_mem hj)⟩
theorem w__law_names : ∀ as (Q : VQ), c__law_names as Q XF → wB C b__law_names G__law_names.N as Q := by
  rintro _ Q ⟨n, rfl, hn, q⟩
  refine ⟨nbS, ?_⟩
  refine ⟨nbS, at__law_draw ⟨_, rfl, by decide, by decide, fun b b0 b1 => ⟨fun _ => rfl, nbS, nbS, ?_⟩⟩⟩
  refine ⟨nbS, nbS, nbS, nbS, nbS, nbS, nbS, nbS, nbS, nbS, nbS, nbS, nbO, at__law_pick ⟨_, rfl, List.cons_ne_nil _ _, (show 12 < 1073741824 by decide), fun d hd => ⟨(fun z => nomatch z), nbS, nbS, nbS, ?_⟩⟩⟩
  obtain ⟨st, hst, rfl⟩ : ∃ st : Int, st ∈ ([1, 3, 5, 7, 9, 11, 15, 17, 19, 21, 23, 25] : List Int) ∧ d = .int st := by
    simp only [List.mem_cons, List.not_mem_nil, or_false] at hd
    rcases hd with rfl | rfl | rfl | rfl | rfl | rfl | rfl | rfl | rfl | rfl | rfl | rfl <;> exact ⟨_, by decide, rfl⟩
  have hst2 : 0 ≤ st ∧ st < 26 := by
    simp only [List.mem_cons, List.not_mem_nil, or_false] at hst
    rcases hst with rfl | rfl | rfl | rfl | rfl | rfl | rfl | rfl | rfl | rfl | rfl | rfl <;> omega
  refine ⟨⟨by omega, by omega⟩, Nat.le_trans (by rw [rng_len]; exact (show ((n : Int)).toNat ≤ 26 by omega)) (by decide), ?_⟩
  have er : (rng 0 (n : Int).toNat).map (fun d => match d with | .int k => sg (97 + ((b + st * k) % 26).toNat) | _ => .none) = ((List.range n).map fun k => 97 + ((b + st * (k : Nat)) % 26).toNat).map sg := by
    rw [rng_eq, List.map_map, List.map_map, show (n : Int).toNat = n by omega]
    apply List.map_congr_left
    intro k _
    show sg (97 + ((b + st * (0 + (k : Int))) % 26).toNat) = sg (97 + ((b + st * (k : Int)) % 26).toNat)
    rw [Int.zero_add]
  refine wComp_mapE _ er (fun d hd T hT => ?_) ?_
  · obtain ⟨k, hk⟩ := List.mem_iff_getElem?.mp hd
    obtain ⟨hk, rfl⟩ := rng_some hk
    refine ⟨fun _ => ?_, fun z => nomatch z⟩
    have m0 : 0 ≤ (b + st * (0 + (k : Int))) % 26 := Int.emod_nonneg _ (by decide)
    have m1 : (b + st * (0 + (k : Int))) % 26 < 26 := Int.emod_lt_of_pos _ (by decide)
    refine ⟨.inl ⟨by omega, by omega⟩, trivial, by show (0 : Int) < 26; decide, ?_⟩
    show (ixD (.str ("abcdefghijklmnopqrstuvwxyz" : Str)) (.int ((b + st * (0 + (k : Int))) % 26))).to _
    obtain ⟨j, hj⟩ := Int.eq_ofNat_of_zero_le m0
    have hT : T (some (sg (97 + ((b + st * (0 + (k : Int))) % 26).toNat))) := hT
    rw [hj] at m1 hT ⊢
    rw [abc_str]
    exact ix_S (abc_get (by omega)) (by decide) _ ⟨nbS, hT⟩
  · refine ⟨nbO, q _ (by simp) ?_ ?_⟩
    · rw [List.nodup_iff_pairwise_ne, List.pairwise_map]
      refine List.Pairwise.imp_of_mem ?_ List.nodup_range
      intro a c ha hc hne e
      have ha := List.mem_range.mp ha
      have hc := List.mem_range.mp hc
      have a0 : 0 ≤ (b + st * (a : Int)) % 26 := Int.emod_nonneg _ (by decide)
      have c0 : 0 ≤ (b + st * (c : Int)) % 26 := Int.emod_nonneg _ (by decide)
      have := rot_inj (b := b) (k := (a : Int)) (k' := (c : Int)) hst (by omega) (by omega) (by omega) (by omega) (by omega)
      exact hne (by omega)
    · intro c hc
      obtain ⟨k, _, rfl⟩ := List.mem_map.mp hc
      have a0 : 0 ≤ (b + st * (k : Int)) % 26 := Int.emod_nonneg _ (by decide)
      have a1 : (b + st * (k : Int)) % 26 < 26 := Int.emod_lt_of_pos _ (by decide)
      show 97 ≤ 97 + ((b + st * (k : Int)) % 26).toNat ∧ 97 + ((b + st * (k : Int)) % 26).toNat ≤ 122
      omega
theorem w__law_nested : ∀ as (Q : VQ), c__law_nested as Q XF → wB C b__law_nested G__law_nested.N as Q := by
  rintro _ Q ⟨l, rfl, h0, h1, q⟩
  have hs : ∀ k : Nat, k ≤ 100000 → k ≤ sizeLine := fun k h => Nat.le_trans h (by decide)
  refine ⟨nbS, loopn (by rw [List.length_map]; exact Nat.le_trans h0 (by decide)), ?_⟩
  refine wFor_inv' C_mono _ _ (fun i ρ => ∃ s : Sl, ρ = [.val (.list (l.map sg)), .val (.str (S (nest (l.take i)))), s]) ⟨.emp, rfl⟩ ?_ ?_
  · rintro i d ρ hd ⟨s, rfl⟩
    rw [List.getElem?_map] at hd
    obtain ⟨c, hc, rfl⟩ := Option.map_eq_some_iff.mp hd
    have hil := (List.getElem?_eq_some_iff.mp hc).1
    have ec : l[i] = c := (List.getElem?_eq_some_iff.mp hc).2
    have hn := nest_le (l := l.take i) (by rw [List.length_take]; omega)
    have e1 : S (nest (l.take i)) ++ S [c] = S (nest (l.take i) ++ [c]) := S_app _ _
    have e2 : S (nest (l.take i) ++ [c]) ++ S (nest (l.take i)) = S (nest (l.take (i + 1))) := by rw [S_app, take_snoc hil, ec, nest_snoc]
    refine ⟨_, rfl, hs _ ?_, hs _ ?_, nbS, .val (sg c), ?_⟩
    · rw [S_len, S_len]
      simp only [List.length_cons, List.length_nil]
      omega
    · rw [show S (nest (l.take i)) ++ S [c] = S (nest (l.take i) ++ [c]) from e1, S_len, S_len]
      simp only [List.length_append, List.length_cons, List.length_nil]
      omega
    · show [_, Sl.val (.str (S (nest (l.take i)) ++ S [c] ++ S (nest (l.take i)))), _] = _
      rw [e1, e2]
  · rintro ρ ⟨s, rfl⟩
    rw [List.length_map, List.take_of_length_le (Nat.le_refl _)]
    exact q
theorem w__law_pattern : ∀ as (Q : VQ), c__law_pattern as Q XF → wB C b__law_pattern G__law_pattern.N as Q := by
  rintro _ Q ⟨rfl, q⟩
  have hs : ∀ k : Nat, k ≤ 100000 → k ≤ sizeLine := fun k h => Nat.le_trans h (by decide)
  refine ⟨nbS, at__law_draw ⟨_, rfl, by decide, by decide, fun k k0 k1 => ⟨fun _ => rfl, nbS, trivial, nbS, ?_⟩⟩⟩
  obtain ⟨k, rfl⟩ := Int.eq_ofNat_of_zero_le k0
  refine at__law_names ⟨1 + k, (by rw [Int.natCast_add]; rfl), by omega, fun l hl hn hlow => ⟨(fun z => nomatch z), nbO, nbO, nbS, at__law_draw ⟨_, rfl, by decide, by decide, fun w w0 w1 => ⟨fun _ => rfl, nbS, nbS, nbS, ?_⟩⟩⟩⟩
  have hne : l ≠ [] := fun z => by rw [z] at hl; simp at hl; omega
  have hl8 : l.length ≤ 8 := by omega
  have hl0 : 0 < l.length := by omega
  have hne2 : l.map sg ≠ [] := by simpa using hne
  have hlm : (l.map sg).length = l.length := List.length_map ..
  have pick : ∀ (Q : VQ), (∀ c ∈ l, Q (sg c) .shr) → c__law_pick [.pen, .v (.list (l.map sg))] Q XF := fun Q h => ⟨_, rfl, hne2, by omega, fun d hd => by
    obtain ⟨c, hc, rfl⟩ := List.mem_map.mp hd
    exact h c hc⟩
  have fin : ∀ s : List Nat, (∀ c ∈ s, c ∈ l) → s.length ≤ 40 → Q (.str (S s)) .shr := fun s h1 h2 => q s (pat_ok h1 hlow hl8).1 h2 (pat_ok h1 hlow hl8).2
  refine ⟨trivial, nbS, at__law_draw ⟨_, rfl, by decide, by decide, fun m m0 m1 => ⟨fun _ => rfl, nbS, nbS, ?_⟩⟩⟩
  have m1 : m < 41 := m1
  refine ⟨⟨shape_int _, shape_int _⟩, trivial, fun _ => ?_, fun _ => ?_⟩
  · refine ⟨rfl, ⟨by omega, by omega⟩, hs _ (by rw [rng_len]; omega), ?_⟩
    refine wComp_any (fun d => ∃ c ∈ l, d = sg c) _ [] _ (fun d hd T hT => ⟨fun _ => ⟨nbS, at__law_pick (pick _ fun c hc => ⟨(fun z => nomatch z), nbS, nbS, hT _ ⟨c, hc, rfl⟩⟩)⟩, fun z => nomatch z⟩) fun rs hr1 hr2 => ?_
    obtain ⟨cs, rfl, h1, h2⟩ := sgs_of hr2
    rw [rng_len] at hr1
    exact join_S (by omega) _ ⟨nbS, fin cs h1 (by omega)⟩
  refine ⟨trivial, trivial, fun _ => ?_, fun _ => ?_⟩
  · refine ⟨nbS, at__law_nested ⟨l, rfl, by omega, hne, fun _ => rfl, nbS, nbS, ?_⟩⟩
    have hn1 := nest_le (l := l) (by omega)
    have hn0 : 0 < (nest l).length := by
      have h2 : 2 ^ 1 ≤ 2 ^ l.length := Nat.pow_le_pow_right (by decide) hl0
      have e := nest_pow l
      omega
    have eN : (S (nest l)).length = (nest l).length := S_len _
    refine ⟨hs _ (by omega), nbS, at__law_draw ⟨_, rfl, by rw [eN]; omega, by rw [eN]; omega, fun a a0 a1 => ⟨fun _ => rfl, nbS, nbS, ?_⟩⟩⟩
    refine ⟨trivial, hs _ (by omega), nbS, ?_⟩
    obtain ⟨u, eu, h1, h2⟩ := cutS_of (nest l) (some a) (some (a + m))
    show Q (.str (L2.cutS (S (nest l)) (some a) (some (a + m)))) .shr
    rw [eu]
    refine fin u (fun c hc => (nest_mem l [] c (h1 c hc)).elim (fun z => nomatch z) id) ?_
    obtain ⟨a, rfl⟩ := Int.eq_ofNat_of_zero_le a0
    obtain ⟨m, rfl⟩ := Int.eq_ofNat_of_zero_le m0
    rw [← Int.natCast_add, HT.sIx_nat, HT.sIx_nat] at h2
    omega
  refine ⟨⟨shape_int _, shape_int _⟩, trivial, fun _ => ?_, fun _ => ?_⟩
  · refine ⟨rfl, ⟨by omega, by omega⟩, hs _ (by rw [rng_len]; omega), ?_⟩
    refine wComp_any (fun d => ∃ c ∈ l, d = sg c) _ [] _ (fun d hd T hT => ?_) fun rs hr1 hr2 => ?_
    · obtain ⟨i, hi⟩ := List.mem_iff_getElem?.mp hd
      obtain ⟨hi, rfl⟩ := rng_some hi
      have e0 : 0 < (((l.map sg).length : Nat) : Int) := by omega
      refine ⟨fun _ => ⟨trivial, e0, ?_⟩, fun z => nomatch z⟩
      have j0 : 0 ≤ (0 + (i : Int)) % (((l.map sg).length : Nat) : Int) := Int.emod_nonneg _ (by omega)
      have j1 : (0 + (i : Int)) % (((l.map sg).length : Nat) : Int) < (((l.map sg).length : Nat) : Int) := Int.emod_lt_of_pos _ e0
      show Rz.to ((L2.atI (l.map sg) ((0 + (i : Int)) % (((l.map sg).length : Nat) : Int))).map fun d => (True, d, .shr)) _
      obtain ⟨j, hj⟩ := Int.eq_ofNat_of_zero_le j0
      rw [hj] at j1 ⊢
      have hjl : j < l.length := by omega
      have ea : L2.atI (l.map sg) (j : Int) = some (sg l[j]) := atI_nat (by simp [hjl])
      rw [ea]
      exact ⟨trivial, nbS, hT _ ⟨_, List.getElem_mem hjl, rfl⟩⟩
    · obtain ⟨cs, rfl, h1, h2⟩ := sgs_of hr2
      rw [rng_len] at hr1
      exact join_S (by omega) _ ⟨nbS, fin cs h1 (by omega)⟩
  refine ⟨rfl, ⟨by decide, by decide⟩, ⟨by omega, by omega⟩, hs _ (by rw [rng_len]; omega), ?_⟩
  refine wComp_any (fun d => ∃ c ∈ l, d = sg c) _ [] _ (fun d hd T hT => ⟨fun _ => ⟨nbS, at__law_pick (pick _ fun c hc => ⟨(fun z => nomatch z), nbS, nbS, hT _ ⟨c, hc, rfl⟩⟩)⟩, fun z => nomatch z⟩) fun rs hr1 hr2 => ?_
  obtain ⟨cs, rfl, h1, h2⟩ := sgs_of hr2
  rw [rng_len] at hr1
  have hcs : cs.length ≤ 40 := by omega
  refine join_S (by omega) _ ⟨nbS, ?_⟩
  have eC : (S cs).length = cs.length := S_len _
  have eR : (⟨(S cs).cps.toList.reverse.toArray⟩ : Str) = S cs.reverse := rfl
  have eA : L2.atI (l.map sg) (0 : Int) = some (sg l[0]) := atI_nat (j := 0) (by simp [hl0])
  refine ⟨hs _ (by omega), nbS, hs _ (by omega), hs _ (by show (S cs).length + (S cs.reverse).length ≤ 100000; rw [S_len, S_len, List.length_reverse]; omega), nbS, ?_⟩
  show Rz.to ((L2.atI (l.map sg) (0 : Int)).map fun d => (True, d, .shr)) _
  rw [eA]
  refine ⟨trivial, hs _ (by show (S cs).length + (S [l[0]]).length ≤ 100000; rw [S_len, S_len]; simp only [List.length_cons, List.length_nil]; omega), nbS, nbO, at__law_pick ⟨_, rfl, List.cons_ne_nil _ _, (show 3 < 1073741824 by decide), fun d hd => ⟨(fun z => nomatch z), nbS, ?_⟩⟩⟩
  obtain ⟨t, ht, htl, rfl⟩ : ∃ t : List Nat, (∀ c ∈ t, c ∈ l) ∧ t.length ≤ 100 ∧ d = .str (S t) := by
    simp only [List.mem_cons, List.not_mem_nil, or_false] at hd
    rcases hd with rfl | rfl | rfl
    · exact ⟨cs ++ cs, fun c hc => (List.mem_append.mp hc).elim (h1 c) (h1 c), by simp <;> omega, by rw [S_app]⟩
    · exact ⟨cs ++ cs.reverse, fun c hc => (List.mem_append.mp hc).elim (h1 c) fun z => h1 c (List.mem_reverse.mp z), by simp <;> omega, by rw [eR, S_app]⟩
    · exact ⟨cs ++ [l[0]], fun c hc => (List.mem_append.mp hc).elim (h1 c) fun z => by rw [List.mem_singleton.mp z]; exact List.getElem_mem hl0, by simp <;> omega, by rw [← S_app]⟩
  have eT : (S t).length = t.length := S_len _
  refine ⟨hs _ (by omega), nbS, ?_⟩
  obtain ⟨u, eu, g1, g2⟩ := cutS_of t none (some 40)
  show Q (.str (L2.cutS (S t) none (some 40))) .shr
  rw [eu]
  refine fin u (fun c hc => ht c (g1 c hc)) ?_
  rw [HT.sIx_none, show HT.sIx t.length t.length (some 40) = min 40 t.length from HT.sIx_nat _ _ 40] at g2
  omega
theorem w__law_order : ∀ as (Q : VQ), c__law_order as Q XF → wB C b__law_order G__law_order.N as Q := by
  rintro _ Q ⟨l, rfl, h0, q⟩
  refine ⟨nbS, loopn (by rw [List.length_map]; exact Nat.le_trans h0 (by decide)), ?_⟩
  refine wFor_inv' C_mono _ _ (fun i ρ => ∃ s : Sl, ρ = [.val (.str (S l)), .val (.str (S (ordF (l.take i)))), s]) ⟨.emp, rfl⟩ ?_ ?_
  · rintro i d ρ hd ⟨s, rfl⟩
    rw [List.getElem?_map] at hd
    obtain ⟨c, hc, rfl⟩ := Option.map_eq_some_iff.mp hd
    have hc : l[i]? = some c := hc
    have hil := (List.getElem?_eq_some_iff.mp hc).1
    have ec : l[i] = c := (List.getElem?_eq_some_iff.mp hc).2
    have hl := len_ord (l.take i)
    rw [List.length_take] at hl
    have es : ordF (l.take (i + 1)) = if c ∈ ordF (l.take i) then ordF (l.take i) else ordF (l.take i) ++ [c] := by rw [take_snoc hil, ec, ordF_snoc]
    refine ⟨_, rfl, rfl, trivial, fun z => ?_, fun z => ?_⟩
    · have z : (!decide (c ∈ ordF (l.take i))) = true := z
      have z : c ∉ ordF (l.take i) := by simpa using z
      rw [if_neg z] at es
      refine ⟨Nat.le_trans (show (S (ordF (l.take i))).length + (S [c]).length ≤ 200000 by rw [S_len, S_len]; simp only [List.length_cons, List.length_nil]; omega) (by decide), nbS, .val (sg c), ?_⟩
      show [_, Sl.val (.str (S (ordF (l.take i)) ++ S [c])), _] = _
      rw [S_app, ← es]
      rfl
    · have z : (!decide (c ∈ ordF (l.take i))) = false := z
      have z : c ∈ ordF (l.take i) := by simpa using z
      rw [if_pos z] at es
      refine ⟨.val (sg c), ?_⟩
      rw [es]
      rfl
  · rintro ρ ⟨s, rfl⟩
    rw [List.length_map]
    show Q (.str (S (ordF (l.take l.length)))) .shr
    rw [List.take_of_length_le (Nat.le_refl _)]
    exact q
theorem w__law_normal : ∀ as (Q : VQ), c__law_normal as Q XF → wB C b__law_normal G__law_normal.N as Q := by
  rintro _ Q ⟨l, rfl, h0, h1, q⟩
  refine ⟨nbS, at__law_order ⟨l, rfl, by omega, fun _ => rfl, nbS, nbS, ?_⟩⟩
  refine ⟨rfl, Nat.le_trans (by rw [List.length_map]; exact (show l.length ≤ 100000 by omega)) (by decide), ?_⟩
  refine wComp_mapE (sgF fun c => 97 + (ordF l).idxOf c) (sgF_map _ l) (fun d hd T hT => ?_) ?_
  · obtain ⟨c, hc, rfl⟩ := List.mem_map.mp hd
    refine ⟨fun _ => ?_, fun z => nomatch z⟩
    have hc : c ∈ l := hc
    have hi := List.idxOf_lt_length_of_mem (mem_ordF.mpr hc)
    refine ⟨rfl, sindex_S (mem_ordF.mpr hc) _ ?_⟩
    show (ixD (.str ("abcdefgh" : Str)) (.int ((List.idxOf c (ordF l) : Nat) : Int))).to _
    rw [abc8_str]
    exact ix_S (abc8_get (by omega)) (by decide) _ ⟨nbS, hT⟩
  · rw [nf_eq]
    exact join_S (by rw [len_nf]; omega) _ ⟨nbS, q⟩
theorem w_are_variables : ∀ as (Q : VQ), c_are_variables as Q XF → wB C b_are_variables G_are_variables.N as Q := by
  rintro _ Q ⟨l, rfl, h0, h1, q⟩
  refine ⟨by decide, fun _ => ?_, fun z => nomatch z⟩
  refine ⟨Nat.le_trans (by rw [List.length_map]; exact h1) (by decide), ?_⟩
  refine wComp_map (fun _ => .bool true) _ _ (fun d hd T hT => ?_) ?_
  · obtain ⟨c, hc, rfl⟩ := List.mem_map.mp hd
    refine ⟨fun _ => ⟨rfl, nbS, ?_⟩, fun z => nomatch z⟩
    have e : decide (c ∈ ("abcdefghijklmnopqrstuvwxyz" : Str).cps.toList) = true := decide_eq_true (by rw [abc_str]; exact abc_mem (h0 c hc))
    show T (some (.bool (decide (c ∈ ("abcdefghijklmnopqrstuvwxyz" : Str).cps.toList))))
    rw [e]
    exact hT
  · show Rz.to ((boolsD (List.map (fun _ => PyData.bool true) _)).map fun l => (True, .bool (l.all id), .shr)) _
    rw [bools_true]
    refine ⟨trivial, nbS, ?_⟩
    rw [all_true]
    exact q
theorem w_distinct : ∀ as (Q : VQ), c_distinct as Q XF → wB C b_distinct G_distinct.N as Q := by
  rintro _ Q ⟨l, rfl, h0, q⟩
  refine ⟨rfl, ?_⟩
  refine ⟨Nat.le_trans (by rw [enum_len, List.length_map]; exact h0) (by decide), ?_⟩
  refine wComp_filterE (dsF l) (ds_all l) (fun d hd T hT => ?_) ?_
  · obtain ⟨i, hi⟩ := List.mem_iff_getElem?.mp hd
    have hil : i < l.length := by
      have := (List.getElem?_eq_some_iff.mp hi).1
      rw [enum_len, List.length_map] at this
      exact this
    have e := enum_get ((S l).cps.toList.map fun c => PyData.str ⟨#[c]⟩) i (sg l[i]) (by rw [List.getElem?_map]; show (l[i]?).map _ = _; rw [List.getElem?_eq_getElem hil]; rfl)
    rw [e] at hi
    cases hi
    have hc : l[i] ∈ l := List.getElem_mem hil
    have hT : T (if ((l.idxOf l[i] : Nat) : Int) = ((i : Nat) : Int) then some (sg l[i]) else none) := hT
    refine ⟨rfl, sindex_S hc _ ?_⟩
    refine ⟨⟨shape_int _, shape_int _⟩, trivial, fun z => ?_, fun z => ?_⟩
    · have z : PyData.eqv (.int ((l.idxOf l[i] : Nat) : Int)) (.int ((i : Nat) : Int)) = true := z
      rw [eqv_int, decide_eq_true_iff] at z
      rw [if_pos z] at hT
      exact ⟨nbS, hT⟩
    · have z : PyData.eqv (.int ((l.idxOf l[i] : Nat) : Int)) (.int ((i : Nat) : Int)) = false := z
      rw [eqv_int, decide_eq_false_iff_not] at z
      rw [if_neg z] at hT
      exact hT
  · refine join_S ?_ _ ⟨nbS, q⟩
    exact Nat.le_trans (len_ord l) h0
theorem w_fits_pattern : ∀ as (Q : VQ), c_fits_pattern as Q XF → wB C b_fits_pattern G_fits_pattern.N as Q := by
  rintro _ Q ⟨l, rfl, h0, h1, h2, q⟩
  refine at_are_variables ⟨l, rfl, h0, by omega, fun _ => rfl, nbS, trivial, fun z => (nomatch z), fun _ => ?_⟩
  have e1 : (S l).length = l.length := S_len l
  refine ⟨?_, trivial, trivial, fun z => ?_, fun _ => ?_⟩
  · rw [e1]; exact Nat.le_trans h1 (by decide)
  · have z := of_decide_eq_true z
    have z : (40 : Int) < ((S l).length : Int) := z
    rw [e1] at z
    omega
  · have e2 : (S (ordF l)).length = (ordF l).length := S_len _
    refine ⟨nbS, at_distinct ⟨l, rfl, by omega, fun _ => rfl, nbS, ?_, trivial, nbS, ?_⟩⟩
    · rw [e2]; exact Nat.le_trans h2 (by decide)
    · have e : decide (((S (ordF l)).length : Int) ≤ 8) = true := decide_eq_true (by rw [e2]; omega)
      show Q (.bool (decide (((S (ordF l)).length : Int) ≤ 8))) .shr
      rw [e]
      exact q
theorem w_need_pattern : ∀ as (Q : VQ), c_need_pattern as Q XF → wB C b_need_pattern G_need_pattern.N as Q := by
  rintro _ Q ⟨l, rfl, h0, h1, h2, q⟩
  exact at_fits_pattern ⟨l, rfl, h0, h1, h2, fun _ => rfl, nbS, trivial, fun z => (nomatch z), fun _ => q⟩
theorem w_normal : ∀ as (Q : VQ), c_normal as Q XF → wB C b_normal G_normal.N as Q := by
  rintro _ Q ⟨l, rfl, h0, h1, h2, q⟩
  refine at_need_pattern ⟨l, rfl, h0, h1, h2, fun _ => rfl, nbS, ?_⟩
  refine ⟨nbS, at_distinct ⟨l, rfl, by omega, fun _ => rfl, nbS, nbS, ?_⟩⟩
  refine ⟨rfl, Nat.le_trans (by rw [List.length_map]; exact (show l.length ≤ 100000 by omega)) (by decide), ?_⟩
  refine wComp_mapE (sgF fun c => 97 + (ordF l).idxOf c) (sgF_map _ l) (fun d hd T hT => ?_) ?_
  · obtain ⟨c, hc, rfl⟩ := List.mem_map.mp hd
    refine ⟨fun _ => ?_, fun z => nomatch z⟩
    have hc : c ∈ l := hc
    have hi := List.idxOf_lt_length_of_mem (mem_ordF.mpr hc)
    refine ⟨rfl, sindex_S (mem_ordF.mpr hc) _ ?_⟩
    show (ixD (.str ("abcdefghijklmnopqrstuvwxyz" : Str)) (.int ((List.idxOf c (ordF l) : Nat) : Int))).to _
    rw [abc_str]
    exact ix_S (abc_get (by omega)) (by decide) _ ⟨nbS, hT⟩
  · rw [nf_eq]
    exact join_S (by rw [len_nf]; omega) _ ⟨nbS, q⟩
theorem w_variables : ∀ as (Q : VQ), c_variables as Q XF → wB C b_variables G_variables.N as Q := by
  rintro _ Q ⟨l, rfl, h0, h1, h2, q⟩
  refine at_need_pattern ⟨l, rfl, h0, h1, h2, fun _ => rfl, nbS, ?_⟩
  exact ⟨nbS, at_distinct ⟨l, rfl, by omega, fun _ => rfl, nbS, nbS, q⟩⟩
theorem ne_noB {x y : Bool} (e : x = y) : ¬ (!PyData.eqv (.bool x) (.bool y)) = true := by
  rw [e]
  simp [PyData.eqv]
/-- the letters renamed by v -/
def ren (l v : List Nat) : Nat → Nat := fun c => v.getD ((ordF l).idxOf c) 0
theorem ren_get {l v : List Nat} (h8 : (ordF l).length ≤ 8) (hv : v.length = 8) {c : Nat} (hc : c ∈ l) : v[(ordF l).idxOf c]? = some (ren l v c) := by
  have hi := List.idxOf_lt_length_of_mem (mem_ordF.mpr hc)
  have hl : (ordF l).idxOf c < v.length := by omega
  unfold ren
  rw [List.getD_eq_getElem?_getD, List.getElem?_eq_getElem hl]
  rfl
theorem ren_inj {l v : List Nat} (h8 : (ordF l).length ≤ 8) (hv : v.length = 8) (hn : v.Nodup) : ∀ x ∈ l, ∀ y ∈ l, ren l v x = ren l v y → x = y := by
  intro x hx y hy e
  have hi := List.idxOf_lt_length_of_mem (mem_ordF.mpr hx)
  have hj := List.idxOf_lt_length_of_mem (mem_ordF.mpr hy)
  have h1 := ren_get h8 hv hx
  have h2 := ren_get h8 hv hy
  rw [e, ← h2] at h1
  have e2 := (List.getElem?_inj (by omega) hn).mp h1
  have g1 := List.getElem_idxOf hi
  have g2 := List.getElem_idxOf hj
  rw [← g1, ← g2]
  simp only [e2]
theorem ren_low {l v : List Nat} (h8 : (ordF l).length ≤ 8) (hv : v.length = 8) (hl : low v) : low (l.map (ren l v)) := fun c hc => by
  obtain ⟨x, hx, rfl⟩ := List.mem_map.mp hc
  exact hl _ (List.mem_of_getElem? (ren_get h8 hv hx))
theorem w_law : ∀ as (Q : VQ), cLaw as Q XF → wB C b_law G_law.N as Q := by
  rintro _ Q ⟨n, rfl, hn, q⟩
  refine ⟨nbS, ⟨by decide, by decide⟩, loopn (by decide), ?_⟩
  refine wFor_inv' C_mono _ _ (fun _ ρ => ∃ (p : List Nat) (a b c d e f g : Sl), (low p ∧ p.length ≤ 40 ∧ (ordF p).length ≤ 8) ∧ ρ = [.scr n, .pen, .val (.str (S p)), a, b, c, d, e, f, g]) ⟨[], _, _, _, _, _, _, _, ⟨(fun _ z => nomatch z), by decide, by decide⟩, rfl⟩ ?_ ?_
  · rintro i dd ρ hd ⟨p, a, b, c, d, e, f, g, ⟨p1, p2, p3⟩, rfl⟩
    refine ⟨_, rfl, nbS, nbS, at__law_pattern ⟨rfl, fun l hlow h40 h8 => ⟨(fun z => nomatch z), nbS, nbS, nbS, at__law_names ⟨8, rfl, by decide, fun v hv hnd hvl => ⟨(fun z => nomatch z), nbO, nbO, nbS, at__law_order ⟨l, rfl, by omega, fun _ => rfl, nbS, nbS, ?_⟩⟩⟩⟩⟩⟩
    have inj := ren_inj h8 hv hnd
    have r1 := ren_low h8 hv hvl
    have r2 : (l.map (ren l v)).length ≤ 40 := by rw [List.length_map]; exact h40
    have r4 : (ordF (l.map (ren l v))).length = (ordF l).length := by rw [ordF_map inj, List.length_map]
    have r3 : (ordF (l.map (ren l v))).length ≤ 8 := by omega
    have en : nf (l.map (ren l v)) = nf l := nf_map inj
    have sk : ∀ t : List Nat, low t → SeqAt.shaped (.str (S t)) = true := fun t ht => shape_of_sok (low_sok ht)
    have ro : ∀ t : List Nat, low t → t.length ≤ 40 → (PyData.str (S t)).hasDict = false ∧ (PyData.str (S t)).showable = true ∧ (PyData.str (S t)).shown.length ≤ sizeLine ∧ (PyData.str (S t)).depth ≤ 64 := fun t ht h => repr_str_ok (low_sok ht) (by rw [S_len]; omega)
    have sr : ∀ t : List Nat, low t → SeqAt.shaped (.str (PyData.str (S t)).shown) = true := fun t ht => shape_of_sok (sok_repr (low_sok ht))
    have lo := low_ord hlow
    have ll := len_ord l
    have ln := low_nf h8
    have lln := len_nf l
    have oo := ord_nf l
    have lp := low_nf p3
    refine ⟨rfl, Nat.le_trans (by rw [List.length_map]; exact (show l.length ≤ 100000 by omega)) (by decide), ?_⟩
    refine wComp_mapE (sgF (ren l v)) (sgF_map _ l) (fun d hd T hT => ?_) ?_
    · obtain ⟨c, hc, rfl⟩ := List.mem_map.mp hd
      have hc : c ∈ l := hc
      refine ⟨fun _ => ⟨rfl, sindex_S (mem_ordF.mpr hc) _ ?_⟩, fun z => nomatch z⟩
      show Rz.to ((L2.atI (v.map sg) (((ordF l).idxOf c : Nat) : Int)).map fun d => (True, d, .shr)) _
      have ea : L2.atI (v.map sg) (((ordF l).idxOf c : Nat) : Int) = some (sg (ren l v c)) := atI_nat (by rw [List.getElem?_map, ren_get h8 hv hc]; rfl)
      rw [ea]
      exact ⟨trivial, nbS, hT⟩
    refine join_S (by omega) _ ⟨nbS, ?_⟩
    refine ⟨nbS, at__law_normal ⟨l, rfl, h40, h8, fun _ => rfl, nbS, nbS, ?_⟩⟩
    refine ⟨nbS, at_variables ⟨l, rfl, hlow, h40, h8, fun _ => rfl, nbS, ro _ lo (by omega), ro _ lo (by omega), ⟨sr _ lo, sr _ lo⟩, trivial, fun z => absurd z (ne_noS rfl), fun _ => ?_⟩⟩
    refine ⟨nbS, at_normal ⟨l, rfl, hlow, h40, h8, fun _ => rfl, nbS, ro _ ln (by omega), ro _ ln (by omega), ⟨sr _ ln, sr _ ln⟩, trivial, fun z => absurd z (ne_noS rfl), fun _ => ?_⟩⟩
    refine ⟨nbS, at_normal ⟨l.map (ren l v), rfl, r1, r2, r3, fun _ => rfl, nbS, ⟨sk _ (by rw [en]; exact ln), sk _ ln⟩, trivial, fun z => absurd z (ne_noS (by rw [en])), fun _ => ?_⟩⟩
    refine ⟨nbS, at_normal ⟨nf l, rfl, ln, by omega, by omega, fun _ => rfl, nbS, ⟨sk _ (by rw [nf_nf]; exact ln), sk _ ln⟩, trivial, fun z => absurd z (ne_noS (by rw [nf_nf])), fun _ => ?_⟩⟩
    have sz : ∀ t : List Nat, t.length ≤ 40 → (S t).length ≤ sizeLine := fun t h => Nat.le_trans (by rw [S_len]; exact h) (by decide)
    refine ⟨nbS, at_variables ⟨l.map (ren l v), rfl, r1, r2, r3, fun _ => rfl, nbS, sz _ (by omega), sz _ (by omega), ⟨shape_int _, shape_int _⟩, trivial, fun z => absurd z (ne_no (by rw [S_len, S_len, r4])), fun _ => ?_⟩⟩
    refine ⟨nbS, at_normal ⟨p, rfl, p1, p2, p3, fun _ => rfl, nbS, nbS, at_normal ⟨l.map (ren l v), rfl, r1, r2, r3, fun _ => rfl, nbS, ⟨sk _ lp, sk _ (by rw [en]; exact ln)⟩, nbS, at__law_normal ⟨p, rfl, p2, p3, fun _ => rfl, nbS, ⟨sk _ lp, sk _ ln⟩, ⟨shape_bool _, shape_bool _⟩, trivial, fun z => absurd z (ne_noB (by rw [en])), fun _ => ?_⟩⟩⟩⟩
    exact ⟨nbS, l, _, _, _, _, _, _, _, ⟨hlow, h40, h8⟩, rfl⟩
  · rintro ρ ⟨p, a, b, c, d, e, f, g, _, rfl⟩
    exact ⟨nbS, q⟩
section
variable {P : Program} {w : World} {K : PySem.W.Frag} {mg : Str → Option Value} {base : Heap}
theorem raw__law_pen (T : Txt K mg) {f : Addr} {fd : FuncData} (F : Fun K "_law_pen" "_law_pen" s__law_pen f fd) : FnG P w K mg base CX0 1 f fd ["_law_script"] (spPen K) := by
  refine M.Fun.okG0 F sc__law_pen (fun vs H Q E h => ?_) (fun cdv A outer s H vs Q E hr hg h => ?_)
  · obtain ⟨_, _, rfl, _⟩ := h
    rfl
  obtain ⟨a, ns, rfl, hS, q⟩ := h
  refine ⟨_, ((pss_one (ps_ret (pe_disp (pps_cons pe_str (pe_callTy call_list_of rfl T.m_list (by decide +kernel) (pa_cons (pe_slice sl_list (pv 0) po_none (po_some pe_int)) pa_nil)) (pps_cons pe_str pe_int (pps_cons pe_str pe_int pps_nil))) (by rfl) (by rfl) (fun z => by cases z) (by decide))))), ?_⟩
  intro p np
  have s1 : Same H (upd H p (.dK [])) := M.same_upd np
  refine ⟨_, rfl, _, rfl, a, _, rfl, s1.seq hS, fun e ne => ?_⟩
  have s2 := M.same_upd (o := .lst (cutV (ns.map V.int) none (some 63))) ne
  refine ⟨e, _, rfl, .inl (.inl (.inl upd_same)), fun c nc => ?_⟩
  have s3 := M.same_upd (o := .lst (cutV (ns.map V.int) none (some 63))) nc
  have hp : (upd (upd (upd H p (.dK [])) e (.lst (cutV (ns.map V.int) none (some 63)))) c (.lst (cutV (ns.map V.int) none (some 63)))) p = some (.dK []) := s3 _ _ (s2 _ _ upd_same)
  refine ⟨hp, [(.inr "cells", .ref c), (.inr Y.NX, .int 0), (.inr "rest", .int 0)], rfl, (by show 3 ≤ 15; decide), ?_⟩
  have ncp : c ≠ p := fun z => by
    rw [z] at nc
    have := s2 _ _ (upd_same (H := H) (a := p) (o := .dK []))
    rw [this] at nc
    cases nc
  have nc0 : H c = none := (s1.trans s2).free nc
  refine q p c 0 (ns.take 63) _ (by decide) np nc0 ncp ?_ upd_same ?_
  · intro b o z
    have nb := ne_of_none z np
    rw [upd_ne nb]
    exact s3 _ _ (s2 _ _ (s1 _ _ z))
  · rw [upd_ne ncp, upd_same, Y.cut63]
theorem ok__law_pen (T : Txt K mg) : Cl P w K mg base CX0 1 "_law_pen" ["_law_script"] (spPen K) := by
  obtain ⟨f, fd, gm, F⟩ := T.f__law_pen
  exact (Cl.of (raw__law_pen T F) gm F.kp (F.binds fun _ _ _ _ _ _ us hl => match us, hl with | [_], _ => rfl))
theorem raw__law_draw (T : Txt K mg) {f : Addr} {fd : FuncData} (F : Fun K "_law_draw" "_law_draw" s__law_draw f fd) : FnG P w K mg base CX0 1 f fd ["_law_pen_here", "_law_size"] (spDr K) := by
  refine M.Fun.okG0 F sc__law_draw (fun vs H Q E h => ?_) (fun cdv A outer s H vs Q E hr hg h => ?_)
  · obtain ⟨_, _, _, _, _, _, rfl, _⟩ := h
    rfl
  obtain ⟨d, c, size, i, r, ns, rfl, hd, hS, ncd, hi, hr0, hlim, hs, hs2, q⟩ := h
  refine ⟨_, ((pss_cons (ps_if (pt_cmpR op_gt (pe_dget (hu_of hr) (pv 0) pe_str (fun _ _ => rfl)) pe_int (nomark _))
      (pss_cons (ps_set (i := 2) sc__law_draw.nd rfl (Or.inl rfl) (pe_op op_mod (pe_dget (hu_of hr) (pv 0) pe_str (fun _ _ => rfl)) (pv 1)))
      (pss_cons (ps_dput (hu_of hr) (pv 0) pe_str (pe_op op_fdiv (pe_dget (hu_of hr) (pv 0) pe_str (fun _ _ => rfl)) (pv 1)) rfl)
      (pss_one (ps_ret (pv 2)))))
      pss_nil)
      (pss_cons (ps_set (i := 3) sc__law_draw.nd rfl (Or.inl rfl) (pe_dget (hu_of hr) (pv 0) pe_str (fun _ _ => rfl)))
      (pss_cons (ps_dput (hu_of hr) (pv 0) pe_str (pe_op op_add (pv 3) pe_int) rfl)
      (pss_cons (ps_set (i := 4) sc__law_draw.nd rfl (Or.inl rfl) (pe_op op_add (pe_op op_mul pe_int (pv 3)) pe_int))
      (C8.pss_cut (ps_if (pt_cmpR (op_neD hr.units) (pe_dget (hu_of hr) (pv 0) pe_str (fun _ _ => rfl)) (pe_lst pa_nil) (nomark _))
      (pss_one (ps_set (i := 4) sc__law_draw.nd rfl (Or.inl rfl) (pe_ix ix_list (pe_dget (hu_of hr) (pv 0) pe_str (fun _ _ => rfl)) (pe_op op_mod (pv 3) (pe_callB call_len_seq rfl T.m_len (by decide +kernel) (pa_cons (pe_dget (hu_of hr) (pv 0) pe_str (fun _ _ => rfl)) pa_nil))) (fun _ _ => rfl))))
      pss_nil)
      (pss_cons (ps_if (PW.pt (pw_and (pt_cmpR op_lt (pv 3) (pe_callB call_len_seq rfl T.m_len (by decide +kernel) (pa_cons (pe_dget (hu_of hr) (pv 0) pe_str (fun _ _ => rfl)) pa_nil)) (nomark _)) (pw_and1 (pt_cmpR op_ge (pe_callB call_abs rfl T.m_abs (by decide +kernel) (pa_cons (pv 4) pa_nil)) (pe_op op_pow pe_int pe_int) (nomark _)))))
      (pss_cons (ps_dput (hu_of hr) (pv 0) pe_str (pe_op op_fdiv (pe_op op_sub (pe_callB call_abs rfl T.m_abs (by decide +kernel) (pa_cons (pv 4) pa_nil)) (pe_op op_pow pe_int pe_int)) (pv 1)) rfl)
      (pss_one (ps_ret (pe_op op_mod (pe_op op_sub (pe_callB call_abs rfl T.m_abs (by decide +kernel) (pa_cons (pv 4) pa_nil)) (pe_op op_pow pe_int pe_int)) (pv 1)))))
      pss_nil)
      (pss_cons (ps_set (i := 5) sc__law_draw.nd rfl (Or.inl rfl) (pe_lst (pa_cons pe_int (pa_cons pe_int (pa_cons pe_int (pa_cons pe_int (pa_cons pe_int pa_nil)))))))
      (pss_cons (ps_set (i := 6) sc__law_draw.nd rfl (Or.inl rfl) (pe_ix ix_list (pv 5) (pe_op op_mod (pv 3) pe_int) (fun _ _ => rfl)))
      (pss_cons (ps_set (i := 7) sc__law_draw.nd rfl (Or.inl rfl) (pe_op op_mod (pe_op op_add (pe_op op_add (pe_op op_add (pe_op op_mul (pe_op op_mod (pv 4) pe_int) pe_int) (pe_op op_mulW (pe_op op_mul pe_int (pv 3)) (pv 3))) (pe_op op_mul pe_int (pv 3))) pe_int) (pv 6)))
      (pss_cons (ps_set (i := 7) sc__law_draw.nd rfl (Or.inl rfl) (pe_op op_mod (pe_op op_add (pe_op op_add (pe_op op_add (pe_op op_mul (pv 7) (pv 7)) (pe_op op_mul pe_int (pv 7))) (pe_op op_mul pe_int (pv 3))) pe_int) pe_int))
      (pss_one (ps_ret (pe_op op_mod (pe_op op_fdiv (pe_op op_mod (pe_op op_mul (pv 7) (pe_op op_add (pv 7) pe_int)) pe_int) pe_int) (pv 1))))))))))))))), ?_⟩
  refine ⟨_, rfl, _, _, rfl, Y.get_rest hd, _, _, rfl, rfl, _, rfl, ite2 (fun cc => ?_) (fun cc => ?_)⟩
  · -- the rest's next digit
    refine ⟨_, rfl, _, _, rfl, Y.get_rest hd, _, rfl, _, _, rfl, rfl, hs, ?_⟩
    refine ⟨_, rfl, _, _, rfl, Y.get_rest hd, _, rfl, _, _, rfl, rfl, ⟨hs, hs2⟩, _, rfl, _, _, rfl, Y.put_rest hd, ?_⟩
    refine ⟨_, rfl, ?_⟩
    exact q _ i _ _ (Int.emod_nonneg _ (by omega)) (Int.emod_lt_of_pos _ hs) hi (by omega) (Int.ediv_nonneg hr0 (by omega)) but_upd upd_same
  refine ⟨_, rfl, _, _, rfl, Y.get_index hd, ?_⟩
  refine ⟨_, rfl, _, _, rfl, rfl, _, rfl, _, _, rfl, Y.put_index hd, ?_⟩
  walk_at "run"
  have b1 : But d H (upd H d (penO NX c (i + 1) r)) := but_upd
  have e1 : (upd H d (penO NX c (i + 1) r)) d = some (penO NX c (i + 1) r) := upd_same
  revert b1 e1
  generalize upd H d (penO NX c (i + 1) r) = H1
  intro b1 e1
  refine ⟨fun σ H2 => ∃ cell : Int, σ = [some (.ref d), some (.int size), none, some (.int i), some (.int cell), none, none, none] ∧ But d H H2 ∧ H2 d = some (penO NX c (i + 1) r), ?_, ?_⟩
  · refine ⟨_, rfl, _, _, rfl, Y.get_cells e1, by decide, fun p np => ⟨.list (ns.map PyData.int), .list [], dp_ints (Same.seq (M.same_upd np) (b1.seq ncd hS)), dp_nil upd_same, shaped_intsL ns, shaped_nilL, ?_⟩⟩
    have s2 : Same H1 (upd H1 p (.lst [])) := M.same_upd np
    have b2 := b1.trans (M.Same.but s2)
    have e2 := s2 _ _ e1
    have hS2 := b2.seq ncd hS
    revert b2 e2 hS2
    generalize upd H1 p (.lst []) = H2
    intro b2 e2 hS2
    refine ⟨_, rfl, ite2 (fun c2 => ?_) (fun c2 => ?_)⟩
    · have hne : ns ≠ [] := fun z => by rw [z] at c2; simp [eqv_nilL] at c2
      obtain ⟨hl, z, hat⟩ := cell_at hi hne
      exact ⟨_, rfl, _, _, rfl, Y.get_cells e2, _, rfl, _, rfl, _, _, rfl, Y.get_cells e2, c, _, rfl, .inl hS2, _, _, rfl, rfl, hl, c, _, _, _, rfl, rfl, hS2, hat, z, rfl, b2, e2⟩
    · exact ⟨_, rfl, b2, e2⟩
  · rintro σ H2 ⟨cell, rfl, b2, e2⟩
    have hS2 := b2.seq ncd hS
    refine ⟨_, rfl, _, rfl, _, _, rfl, Y.get_cells e2, c, _, rfl, .inl hS2, _, _, rfl, rfl, _, rfl, ite2 (fun c3 => ?_) (fun c3 => ?_)⟩
    · refine ⟨_, rfl, _, rfl, _, _, rfl, rfl, ⟨by decide, by decide, by decide⟩, _, _, rfl, rfl, _, rfl, ite2 (fun c4 => ?_) (fun c4 => ?_)⟩
      · have c4 := of_decide_eq_true c4
        refine ⟨_, rfl, _, rfl, _, _, rfl, rfl, ⟨by decide, by decide, by decide⟩, _, _, rfl, rfl, _, rfl, _, _, rfl, rfl, ⟨hs, hs2⟩, _, rfl, _, _, rfl, Y.put_rest e2, ?_⟩
        refine ⟨_, rfl, _, rfl, _, _, rfl, rfl, ⟨by decide, by decide, by decide⟩, _, _, rfl, rfl, _, rfl, _, _, rfl, rfl, hs, ?_⟩
        exact q _ (i + 1) _ _ (Int.emod_nonneg _ (by omega)) (Int.emod_lt_of_pos _ hs) (by omega) (by omega) (Int.ediv_nonneg (Int.sub_nonneg_of_le c4) (by omega)) (b2.trans but_upd) upd_same
      · have hW : CMulW (40503 * i) i := wide_mul (a := 16 + 400000) (b := 400000) (wide_lt (by decide) hlim) hlim (by decide) (by decide) (by decide)
        clear hlim
        refine ⟨by decide, fun p np => ?_⟩
        have s3 : Same H2 (upd H2 p (.lst [.int 2147483629, .int 2147483647, .int 2147483563, .int 2147483587, .int 2147483579])) := M.same_upd np
        have b3 := b2.trans (M.Same.but s3)
        have e3 := s3 _ _ e2
        have ep : (upd H2 p (.lst [.int 2147483629, .int 2147483647, .int 2147483563, .int 2147483587, .int 2147483579])) p = some (.lst [.int 2147483629, .int 2147483647, .int 2147483563, .int 2147483587, .int 2147483579]) := upd_same
        revert b3 e3 ep
        generalize (upd H2 p (.lst [.int 2147483629, .int 2147483647, .int 2147483563, .int 2147483587, .int 2147483579])) = H3
        intro b3 e3 ep
        obtain ⟨pr, hat, hp0, hp1⟩ : ∃ pr : Int, atI [V.int 2147483629, V.int 2147483647, V.int 2147483563, V.int 2147483587, V.int 2147483579] (i % 5) = some (.int pr) ∧ 0 < pr ∧ pr ≤ 2147483647 := by
          have h0 : 0 ≤ i % 5 := Int.emod_nonneg _ (by decide)
          have h1 : i % 5 < 5 := Int.emod_lt_of_pos _ (by decide)
          obtain ⟨j, hj⟩ := Int.eq_ofNat_of_zero_le h0
          rw [hj] at h1 ⊢
          match j, h1 with
          | 0, _ => exact ⟨_, rfl, by decide, by decide⟩
          | 1, _ => exact ⟨_, rfl, by decide, by decide⟩
          | 2, _ => exact ⟨_, rfl, by decide, by decide⟩
          | 3, _ => exact ⟨_, rfl, by decide, by decide⟩
          | 4, _ => exact ⟨_, rfl, by decide, by decide⟩
          | n + 5, h => omega
        refine ⟨_, rfl, _, rfl, _, _, rfl, rfl, (by show (0 : Int) < _; decide), p, _, _, _, rfl, rfl, SqL.of ep, hat, ?_⟩
        refine ⟨_, rfl, _, _, rfl, rfl, (by show (0 : Int) < _; decide), _, _, rfl, rfl, .inr ⟨by decide, by decide⟩, _, rfl, _, _, rfl, rfl, .inl ⟨by decide, by decide⟩, _, rfl, _, _, rfl, rfl, hW, _, _, rfl, rfl, _, rfl, _, _, rfl, rfl, .inl ⟨by decide, by decide⟩, _, _, rfl, rfl, _, _, rfl, rfl, _, rfl, _, _, rfl, rfl, hp0, ?_⟩
        have m0 : 0 ≤ (cell % 4294967291 * 48271 + 40503 * i * i + 69621 * i + 11) % pr := Int.emod_nonneg _ (by omega)
        have m1 : (cell % 4294967291 * 48271 + 40503 * i * i + 69621 * i + 11) % pr < pr := Int.emod_lt_of_pos _ hp0
        refine ⟨_, rfl, _, rfl, _, _, rfl, rfl, .inl ⟨by omega, by omega⟩, _, rfl, _, _, rfl, rfl, .inl ⟨by decide, by decide⟩, _, _, rfl, rfl, _, rfl, _, _, rfl, rfl, .inl ⟨by decide, by decide⟩, _, _, rfl, rfl, _, _, rfl, rfl, _, _, rfl, rfl, (by show (0 : Int) < _; decide), ?_⟩
        have n0 : 0 ≤ (((cell % 4294967291 * 48271 + 40503 * i * i + 69621 * i + 11) % pr) * ((cell % 4294967291 * 48271 + 40503 * i * i + 69621 * i + 11) % pr) + 16807 * ((cell % 4294967291 * 48271 + 40503 * i * i + 69621 * i + 11) % pr) + 7 * i + 5) % 4294967279 := Int.emod_nonneg _ (by decide)
        have n1 : (((cell % 4294967291 * 48271 + 40503 * i * i + 69621 * i + 11) % pr) * ((cell % 4294967291 * 48271 + 40503 * i * i + 69621 * i + 11) % pr) + 16807 * ((cell % 4294967291 * 48271 + 40503 * i * i + 69621 * i + 11) % pr) + 7 * i + 5) % 4294967279 < 4294967279 := Int.emod_lt_of_pos _ (by decide)
        refine ⟨_, rfl, _, rfl, _, _, rfl, rfl, _, _, rfl, rfl, .inl ⟨by omega, by omega⟩, _, _, rfl, rfl, (by show (0 : Int) < _; decide), _, _, rfl, rfl, ⟨by decide, by decide⟩, _, rfl, _, _, rfl, rfl, hs, ?_⟩
        exact q _ (i + 1) _ _ (Int.emod_nonneg _ (by omega)) (Int.emod_lt_of_pos _ hs) (by omega) (by omega) hr0 b3 e3
    · have hW : CMulW (40503 * i) i := wide_mul (a := 16 + 400000) (b := 400000) (wide_lt (by decide) hlim) hlim (by decide) (by decide) (by decide)
      clear hlim
      refine ⟨by decide, fun p np => ?_⟩
      have s3 : Same H2 (upd H2 p (.lst [.int 2147483629, .int 2147483647, .int 2147483563, .int 2147483587, .int 2147483579])) := M.same_upd np
      have b3 := b2.trans (M.Same.but s3)
      have e3 := s3 _ _ e2
      have ep : (upd H2 p (.lst [.int 2147483629, .int 2147483647, .int 2147483563, .int 2147483587, .int 2147483579])) p = some (.lst [.int 2147483629, .int 2147483647, .int 2147483563, .int 2147483587, .int 2147483579]) := upd_same
      revert b3 e3 ep
      generalize (upd H2 p (.lst [.int 2147483629, .int 2147483647, .int 2147483563, .int 2147483587, .int 2147483579])) = H3
      intro b3 e3 ep
      obtain ⟨pr, hat, hp0, hp1⟩ : ∃ pr : Int, atI [V.int 2147483629, V.int 2147483647, V.int 2147483563, V.int 2147483587, V.int 2147483579] (i % 5) = some (.int pr) ∧ 0 < pr ∧ pr ≤ 2147483647 := by
        have h0 : 0 ≤ i % 5 := Int.emod_nonneg _ (by decide)
        have h1 : i % 5 < 5 := Int.emod_lt_of_pos _ (by decide)
        obtain ⟨j, hj⟩ := Int.eq_ofNat_of_zero_le h0
        rw [hj] at h1 ⊢
        match j, h1 with
        | 0, _ => exact ⟨_, rfl, by decide, by decide⟩
        | 1, _ => exact ⟨_, rfl, by decide, by decide⟩
        | 2, _ => exact ⟨_, rfl, by decide, by decide⟩
        | 3, _ => exact ⟨_, rfl, by decide, by decide⟩
        | 4, _ => exact ⟨_, rfl, by decide, by decide⟩
        | n + 5, h => omega
      refine ⟨_, rfl, _, rfl, _, _, rfl, rfl, (by show (0 : Int) < _; decide), p, _, _, _, rfl, rfl, SqL.of ep, hat, ?_⟩
      refine ⟨_, rfl, _, _, rfl, rfl, (by show (0 : Int) < _; decide), _, _, rfl, rfl, .inr ⟨by decide, by decide⟩, _, rfl, _, _, rfl, rfl, .inl ⟨by decide, by decide⟩, _, rfl, _, _, rfl, rfl, hW, _, _, rfl, rfl, _, rfl, _, _, rfl, rfl, .inl ⟨by decide, by decide⟩, _, _, rfl, rfl, _, _, rfl, rfl, _, rfl, _, _, rfl, rfl, hp0, ?_⟩
      have m0 : 0 ≤ (cell % 4294967291 * 48271 + 40503 * i * i + 69621 * i + 11) % pr := Int.emod_nonneg _ (by omega)
      have m1 : (cell % 4294967291 * 48271 + 40503 * i * i + 69621 * i + 11) % pr < pr := Int.emod_lt_of_pos _ hp0
      refine ⟨_, rfl, _, rfl, _, _, rfl, rfl, .inl ⟨by omega, by omega⟩, _, rfl, _, _, rfl, rfl, .inl ⟨by decide, by decide⟩, _, _, rfl, rfl, _, rfl, _, _, rfl, rfl, .inl ⟨by decide, by decide⟩, _, _, rfl, rfl, _, _, rfl, rfl, _, _, rfl, rfl, (by show (0 : Int) < _; decide), ?_⟩
      have n0 : 0 ≤ (((cell % 4294967291 * 48271 + 40503 * i * i + 69621 * i + 11) % pr) * ((cell % 4294967291 * 48271 + 40503 * i * i + 69621 * i + 11) % pr) + 16807 * ((cell % 4294967291 * 48271 + 40503 * i * i + 69621 * i + 11) % pr) + 7 * i + 5) % 4294967279 := Int.emod_nonneg _ (by decide)
      have n1 : (((cell % 4294967291 * 48271 + 40503 * i * i + 69621 * i + 11) % pr) * ((cell % 4294967291 * 48271 + 40503 * i * i + 69621 * i + 11) % pr) + 16807 * ((cell % 4294967291 * 48271 + 40503 * i * i + 69621 * i + 11) % pr) + 7 * i + 5) % 4294967279 < 4294967279 := Int.emod_lt_of_pos _ (by decide)
      refine ⟨_, rfl, _, rfl, _, _, rfl, rfl, _, _, rfl, rfl, .inl ⟨by omega, by omega⟩, _, _, rfl, rfl, (by show (0 : Int) < _; decide), _, _, rfl, rfl, ⟨by decide, by decide⟩, _, rfl, _, _, rfl, rfl, hs, ?_⟩
      exact q _ (i + 1) _ _ (Int.emod_nonneg _ (by omega)) (Int.emod_lt_of_pos _ hs) (by omega) (by omega) hr0 b3 e3
theorem ok__law_draw (T : Txt K mg) : Cl P w K mg base CX0 1 "_law_draw" ["_law_pen_here", "_law_size"] (spC cDraw 1 K) := by
  obtain ⟨f, fd, gm, F⟩ := T.f__law_draw
  exact (Cl.of (raw__law_draw T F) gm F.kp (F.binds fun _ _ _ _ _ _ us hl => match us, hl with | [_, _], _ => rfl)).imp draw_of
theorem glo__law_pick (T : Txt K mg) : Glo P w K mg base G__law_pick 1 C := by
  refine ⟨fun x hx => ?_, fun x d hx => ?_, fun f hf => ?_, fun f hf => ?_, C_mono⟩
  · simp only [G__law_pick, List.mem_cons, List.not_mem_nil, or_false] at hx
    obtain rfl := hx
    exact T.m_len
  · cases hx
  · simp only [G__law_pick, List.mem_cons, List.not_mem_nil, or_false] at hf
    obtain rfl := hf
    exact ⟨1, ["_law_pen_here", "_law_size"], by decide, by rw [C__law_draw, show G__law_pick.m "_law_draw" = 1 from rfl]; exact ok__law_draw T⟩
  · cases hf
theorem ok__law_pick (T : Txt K mg) : Cl P w K mg base CX0 2 "_law_pick" ["_law_pen_here", "_law_options"] (spC c__law_pick k__law_pick K) := by
  exact cl_ok T.f__law_pick (glo__law_pick T) rfl rfl (by decide +kernel) 40 40 tr__law_pick (Nat.le_refl _) l__law_pick w__law_pick (fun us _ _ _ _ _ _ hl => match us, hl with | [_, _], _ => rfl)
theorem glo__law_names (T : Txt K mg) : Glo P w K mg base G__law_names 2 C := by
  refine ⟨fun x hx => ?_, fun x d hx => ?_, fun f hf => ?_, fun f hf => ?_, C_mono⟩
  · simp only [G__law_names, List.mem_cons, List.not_mem_nil, or_false] at hx
    obtain rfl := hx
    exact T.m_range
  · cases hx
  · simp only [G__law_names, List.mem_cons, List.not_mem_nil, or_false] at hf
    rcases hf with rfl | rfl
    · exact ⟨1, ["_law_pen_here", "_law_size"], by decide, by rw [C__law_draw, show G__law_names.m "_law_draw" = 1 from rfl]; exact ok__law_draw T⟩
    · exact ⟨2, ["_law_pen_here", "_law_options"], by decide, by rw [C__law_pick, show G__law_names.m "_law_pick" = k__law_pick from rfl]; exact ok__law_pick T⟩
  · cases hf
theorem ok__law_names (T : Txt K mg) : Cl P w K mg base CX0 3 "_law_names" ["_law_pen_here", "_law_count"] (spC c__law_names k__law_names K) := by
  exact cl_ok T.f__law_names (glo__law_names T) rfl rfl (by decide +kernel) 40 40 tr__law_names (Nat.le_refl _) l__law_names w__law_names (fun us _ _ _ _ _ _ hl => match us, hl with | [_, _], _ => rfl)
theorem glo__law_nested (T : Txt K mg) : Glo P w K mg base G__law_nested 0 C := by
  refine ⟨fun x hx => ?_, fun x d hx => ?_, fun f hf => ?_, fun f hf => ?_, C_mono⟩
  · cases hx
  · cases hx
  · cases hf
  · cases hf
theorem ok__law_nested (T : Txt K mg) : Cl P w K mg base CX0 1 "_law_nested" ["_law_names_here"] (spC c__law_nested k__law_nested K) := by
  exact cl_ok T.f__law_nested (glo__law_nested T) rfl rfl (by decide +kernel) 40 40 tr__law_nested (Nat.le_refl _) l__law_nested w__law_nested (fun us _ _ _ _ _ _ hl => match us, hl with | [_], _ => rfl)
theorem glo__law_pattern (T : Txt K mg) : Glo P w K mg base G__law_pattern 3 C := by
  refine ⟨fun x hx => ?_, fun x d hx => ?_, fun f hf => ?_, fun f hf => ?_, C_mono⟩
  · simp only [G__law_pattern, List.mem_cons, List.not_mem_nil, or_false] at hx
    rcases hx with rfl | rfl
    · exact T.m_len
    · exact T.m_range
  · cases hx
  · simp only [G__law_pattern, List.mem_cons, List.not_mem_nil, or_false] at hf
    rcases hf with rfl | rfl | rfl | rfl
    · exact ⟨2, ["_law_pen_here", "_law_options"], by decide, by rw [C__law_pick, show G__law_pattern.m "_law_pick" = k__law_pick from rfl]; exact ok__law_pick T⟩
    · exact ⟨1, ["_law_pen_here", "_law_size"], by decide, by rw [C__law_draw, show G__law_pattern.m "_law_draw" = 1 from rfl]; exact ok__law_draw T⟩
    · exact ⟨1, ["_law_names_here"], by decide, by rw [C__law_nested, show G__law_pattern.m "_law_nested" = k__law_nested from rfl]; exact ok__law_nested T⟩
    · exact ⟨3, ["_law_pen_here", "_law_count"], by decide, by rw [C__law_names, show G__law_pattern.m "_law_names" = k__law_names from rfl]; exact ok__law_names T⟩
  · cases hf
theorem ok__law_pattern (T : Txt K mg) : Cl P w K mg base CX0 4 "_law_pattern" ["_law_pen_here", "_law_size", "_law_count"] (spC c__law_pattern k__law_pattern K) := by
  exact cl_ok T.f__law_pattern (glo__law_pattern T) rfl rfl (by decide +kernel) 40 40 tr__law_pattern (Nat.le_refl _) l__law_pattern w__law_pattern (fun us _ _ _ _ _ _ hl => match us, hl with | [_, _, _], _ => rfl)
theorem glo__law_order (T : Txt K mg) : Glo P w K mg base G__law_order 0 C := by
  refine ⟨fun x hx => ?_, fun x d hx => ?_, fun f hf => ?_, fun f hf => ?_, C_mono⟩
  · cases hx
  · cases hx
  · cases hf
  · cases hf
theorem ok__law_order (T : Txt K mg) : Cl P w K mg base CX0 1 "_law_order" ["_law_pattern_here"] (spC c__law_order k__law_order K) := by
  exact cl_ok T.f__law_order (glo__law_order T) rfl rfl (by decide +kernel) 40 40 tr__law_order (Nat.le_refl _) l__law_order w__law_order (fun us _ _ _ _ _ _ hl => match us, hl with | [_], _ => rfl)
theorem glo__law_normal (T : Txt K mg) : Glo P w K mg base G__law_normal 1 C := by
  refine ⟨fun x hx => ?_, fun x d hx => ?_, fun f hf => ?_, fun f hf => ?_, C_mono⟩
  · cases hx
  · cases hx
  · simp only [G__law_normal, List.mem_cons, List.not_mem_nil, or_false] at hf
    obtain rfl := hf
    exact ⟨1, ["_law_pattern_here"], by decide, by rw [C__law_order, show G__law_normal.m "_law_order" = k__law_order from rfl]; exact ok__law_order T⟩
  · cases hf
theorem ok__law_normal (T : Txt K mg) : Cl P w K mg base CX0 2 "_law_normal" ["_law_pattern_here"] (spC c__law_normal k__law_normal K) := by
  exact cl_ok T.f__law_normal (glo__law_normal T) rfl rfl (by decide +kernel) 40 40 tr__law_normal (Nat.le_refl _) l__law_normal w__law_normal (fun us _ _ _ _ _ _ hl => match us, hl with | [_], _ => rfl)
theorem glo_are_variables (T : Txt K mg) : Glo P w K mg base G_are_variables 0 C := by
  refine ⟨fun x hx => ?_, fun x d hx => ?_, fun f hf => ?_, fun f hf => ?_, C_mono⟩
  · simp only [G_are_variables, List.mem_cons, List.not_mem_nil, or_false] at hx
    rcases hx with rfl | rfl | rfl
    · exact T.m_all
    · exact T.m_isinstance
    · exact T.m_str
  · simp only [G_are_variables, List.mem_cons, List.not_mem_nil, or_false, Prod.mk.injEq] at hx
    obtain ⟨rfl, rfl⟩ := hx
    exact ⟨_, T.c_ALPHABET, fun _ _ _ => .str _⟩
  · cases hf
  · cases hf
theorem ok_are_variables (T : Txt K mg) : Cl P w K mg base CX0 1 "are_variables" ["value"] (spC c_are_variables k_are_variables K) := by
  exact cl_ok T.f_are_variables (glo_are_variables T) rfl rfl (by decide +kernel) 40 40 tr_are_variables (Nat.le_refl _) l_are_variables w_are_variables (fun us _ _ _ _ _ _ hl => match us, hl with | [_], _ => rfl)
theorem glo_distinct (T : Txt K mg) : Glo P w K mg base G_distinct 0 C := by
  refine ⟨fun x hx => ?_, fun x d hx => ?_, fun f hf => ?_, fun f hf => ?_, C_mono⟩
  · simp only [G_distinct, List.mem_cons, List.not_mem_nil, or_false] at hx
    obtain rfl := hx
    exact T.m_enumerate
  · cases hx
  · cases hf
  · cases hf
theorem ok_distinct (T : Txt K mg) : Cl P w K mg base CX0 1 "distinct" ["pattern"] (spC c_distinct k_distinct K) := by
  exact cl_ok T.f_distinct (glo_distinct T) rfl rfl (by decide +kernel) 40 40 tr_distinct (Nat.le_refl _) l_distinct w_distinct (fun us _ _ _ _ _ _ hl => match us, hl with | [_], _ => rfl)
theorem glo_fits_pattern (T : Txt K mg) : Glo P w K mg base G_fits_pattern 1 C := by
  refine ⟨fun x hx => ?_, fun x d hx => ?_, fun f hf => ?_, fun f hf => ?_, C_mono⟩
  · simp only [G_fits_pattern, List.mem_cons, List.not_mem_nil, or_false] at hx
    obtain rfl := hx
    exact T.m_len
  · simp only [G_fits_pattern, List.mem_cons, List.not_mem_nil, or_false, Prod.mk.injEq] at hx
    rcases hx with ⟨rfl, rfl⟩ | ⟨rfl, rfl⟩
    · exact ⟨_, T.c_MAX_PATTERN, fun _ _ _ => .int _⟩
    · exact ⟨_, T.c_MAX_VARIABLES, fun _ _ _ => .int _⟩
  · simp only [G_fits_pattern, List.mem_cons, List.not_mem_nil, or_false] at hf
    rcases hf with rfl | rfl
    · exact ⟨1, ["pattern"], by decide, by rw [C_distinct, show G_fits_pattern.m "distinct" = k_distinct from rfl]; exact ok_distinct T⟩
    · exact ⟨1, ["value"], by decide, by rw [C_are_variables, show G_fits_pattern.m "are_variables" = k_are_variables from rfl]; exact ok_are_variables T⟩
  · cases hf
theorem ok_fits_pattern (T : Txt K mg) : Cl P w K mg base CX0 2 "fits_pattern" ["value"] (spC c_fits_pattern k_fits_pattern K) := by
  exact cl_ok T.f_fits_pattern (glo_fits_pattern T) rfl rfl (by decide +kernel) 40 40 tr_fits_pattern (Nat.le_refl _) l_fits_pattern w_fits_pattern (fun us _ _ _ _ _ _ hl => match us, hl with | [_], _ => rfl)
theorem glo_need_pattern (T : Txt K mg) : Glo P w K mg base G_need_pattern 2 C := by
  refine ⟨fun x hx => ?_, fun x d hx => ?_, fun f hf => ?_, fun f hf => ?_, C_mono⟩
  · cases hx
  · cases hx
  · simp only [G_need_pattern, List.mem_cons, List.not_mem_nil, or_false] at hf
    obtain rfl := hf
    exact ⟨2, ["value"], by decide, by rw [C_fits_pattern, show G_need_pattern.m "fits_pattern" = k_fits_pattern from rfl]; exact ok_fits_pattern T⟩
  · cases hf
theorem ok_need_pattern (T : Txt K mg) : Cl P w K mg base CX0 3 "need_pattern" ["value"] (spC c_need_pattern k_need_pattern K) := by
  exact cl_ok T.f_need_pattern (glo_need_pattern T) rfl rfl (by decide +kernel) 40 40 tr_need_pattern (Nat.le_refl _) l_need_pattern w_need_pattern (fun us _ _ _ _ _ _ hl => match us, hl with | [_], _ => rfl)
theorem glo_normal (T : Txt K mg) : Glo P w K mg base G_normal 3 C := by
  refine ⟨fun x hx => ?_, fun x d hx => ?_, fun f hf => ?_, fun f hf => ?_, C_mono⟩
  · cases hx
  · simp only [G_normal, List.mem_cons, List.not_mem_nil, or_false, Prod.mk.injEq] at hx
    obtain ⟨rfl, rfl⟩ := hx
    exact ⟨_, T.c_ALPHABET, fun _ _ _ => .str _⟩
  · simp only [G_normal, List.mem_cons, List.not_mem_nil, or_false] at hf
    rcases hf with rfl | rfl
    · exact ⟨1, ["pattern"], by decide, by rw [C_distinct, show G_normal.m "distinct" = k_distinct from rfl]; exact ok_distinct T⟩
    · exact ⟨3, ["value"], by decide, by rw [C_need_pattern, show G_normal.m "need_pattern" = k_need_pattern from rfl]; exact ok_need_pattern T⟩
  · cases hf
theorem ok_normal (T : Txt K mg) : Cl P w K mg base CX0 4 "normal" ["pattern"] (spC c_normal k_normal K) := by
  exact cl_ok T.f_normal (glo_normal T) rfl rfl (by decide +kernel) 40 40 tr_normal (Nat.le_refl _) l_normal w_normal (fun us _ _ _ _ _ _ hl => match us, hl with | [_], _ => rfl)
theorem glo_variables (T : Txt K mg) : Glo P w K mg base G_variables 3 C := by
  refine ⟨fun x hx => ?_, fun x d hx => ?_, fun f hf => ?_, fun f hf => ?_, C_mono⟩
  · cases hx
  · cases hx
  · simp only [G_variables, List.mem_cons, List.not_mem_nil, or_false] at hf
    rcases hf with rfl | rfl
    · exact ⟨1, ["pattern"], by decide, by rw [C_distinct, show G_variables.m "distinct" = k_distinct from rfl]; exact ok_distinct T⟩
    · exact ⟨3, ["value"], by decide, by rw [C_need_pattern, show G_variables.m "need_pattern" = k_need_pattern from rfl]; exact ok_need_pattern T⟩
  · cases hf
theorem ok_variables (T : Txt K mg) : Cl P w K mg base CX0 4 "variables" ["pattern"] (spC c_variables k_variables K) := by
  exact cl_ok T.f_variables (glo_variables T) rfl rfl (by decide +kernel) 40 40 tr_variables (Nat.le_refl _) l_variables w_variables (fun us _ _ _ _ _ _ hl => match us, hl with | [_], _ => rfl)
theorem glo_law (T : Txt K mg) : Glo P w K mg base G_law 4 C := by
  refine ⟨fun x hx => ?_, fun x d hx => ?_, fun f hf => ?_, fun f hf => ?_, C_mono⟩
  · simp only [G_law, List.mem_cons, List.not_mem_nil, or_false] at hx
    rcases hx with rfl | rfl | rfl
    · exact T.m_len
    · exact T.m_range
    · exact T.m_repr
  · cases hx
  · simp only [G_law, List.mem_cons, List.not_mem_nil, or_false] at hf
    rcases hf with rfl | rfl | rfl | rfl | rfl | rfl
    · exact ⟨4, ["pattern"], by decide, by rw [C_normal, show G_law.m "normal" = k_normal from rfl]; exact ok_normal T⟩
    · exact ⟨2, ["_law_pattern_here"], by decide, by rw [C__law_normal, show G_law.m "_law_normal" = k__law_normal from rfl]; exact ok__law_normal T⟩
    · exact ⟨4, ["pattern"], by decide, by rw [C_variables, show G_law.m "variables" = k_variables from rfl]; exact ok_variables T⟩
    · exact ⟨1, ["_law_pattern_here"], by decide, by rw [C__law_order, show G_law.m "_law_order" = k__law_order from rfl]; exact ok__law_order T⟩
    · exact ⟨3, ["_law_pen_here", "_law_count"], by decide, by rw [C__law_names, show G_law.m "_law_names" = k__law_names from rfl]; exact ok__law_names T⟩
    · exact ⟨4, ["_law_pen_here", "_law_size", "_law_count"], by decide, by rw [C__law_pattern, show G_law.m "_law_pattern" = k__law_pattern from rfl]; exact ok__law_pattern T⟩
  · simp only [G_law, List.mem_cons, List.not_mem_nil, or_false] at hf
    obtain rfl := hf
    exact ⟨1, ["_law_script"], by decide, ok__law_pen T⟩
theorem raw_law (T : Txt K mg) {f : Addr} {fd : FuncData} (F : Fun K "law" "law" s_law f fd) : FnG P w K mg base CX0 5 f fd ["_law_script"] (spC cLaw k_law K) := by
  exact fn_ok F (glo_law T) rfl rfl (by decide +kernel) 40 40 tr_law (Nat.le_refl _) (fun as Q E h => by obtain ⟨n, rfl, _⟩ := h; rfl) w_law
end
theorem all_mk {P : Program} {w : World} {K : PySem.W.Frag} {h : Heap} {mg : Str → Option Value} {fa : Addr} (X : K.In h) (G : h.Ns mainGlobals mg) (hfa : mg "law" = some (.ref fa))
    {f0 : Addr} {od0 an0 : Option Addr} {sl0 : Array (Option Value)} {oc0 kV0 dc0 pm0 cd0 ct0 : Value} (a0 : PySem.W.nsIn K mainGlobals "_law_pen" = some (some (.ref f0))) (l0 : K.lookup f0 = some ⟨oc0, od0, .func (PySem.W.fnOf "_law_pen" "_law_pen" (defArgs s__law_pen) (defBody s__law_pen) (defScope s__law_pen) .none kV0 dc0 pm0 an0 cd0 ct0), sl0⟩) (b0 : PySem.W.codeIn K cd0 "_law_pen" = true) (k0 : PySem.W.keepIn K (.ref f0) = true)
    {f1 : Addr} {od1 an1 : Option Addr} {sl1 : Array (Option Value)} {oc1 kV1 dc1 pm1 cd1 ct1 : Value} (a1 : PySem.W.nsIn K mainGlobals "_law_draw" = some (some (.ref f1))) (l1 : K.lookup f1 = some ⟨oc1, od1, .func (PySem.W.fnOf "_law_draw" "_law_draw" (defArgs s__law_draw) (defBody s__law_draw) (defScope s__law_draw) .none kV1 dc1 pm1 an1 cd1 ct1), sl1⟩) (b1 : PySem.W.codeIn K cd1 "_law_draw" = true) (k1 : PySem.W.keepIn K (.ref f1) = true)
    {f2 : Addr} {od2 an2 : Option Addr} {sl2 : Array (Option Value)} {oc2 kV2 dc2 pm2 cd2 ct2 : Value} (a2 : PySem.W.nsIn K mainGlobals "_law_pick" = some (some (.ref f2))) (l2 : K.lookup f2 = some ⟨oc2, od2, .func (PySem.W.fnOf "_law_pick" "_law_pick" (defArgs s__law_pick) (defBody s__law_pick) (defScope s__law_pick) .none kV2 dc2 pm2 an2 cd2 ct2), sl2⟩) (b2 : PySem.W.codeIn K cd2 "_law_pick" = true) (k2 : PySem.W.keepIn K (.ref f2) = true)
    {f3 : Addr} {od3 an3 : Option Addr} {sl3 : Array (Option Value)} {oc3 kV3 dc3 pm3 cd3 ct3 : Value} (a3 : PySem.W.nsIn K mainGlobals "_law_names" = some (some (.ref f3))) (l3 : K.lookup f3 = some ⟨oc3, od3, .func (PySem.W.fnOf "_law_names" "_law_names" (defArgs s__law_names) (defBody s__law_names) (defScope s__law_names) .none kV3 dc3 pm3 an3 cd3 ct3), sl3⟩) (b3 : PySem.W.codeIn K cd3 "_law_names" = true) (k3 : PySem.W.keepIn K (.ref f3) = true)
    {f4 : Addr} {od4 an4 : Option Addr} {sl4 : Array (Option Value)} {oc4 kV4 dc4 pm4 cd4 ct4 : Value} (a4 : PySem.W.nsIn K mainGlobals "_law_nested" = some (some (.ref f4))) (l4 : K.lookup f4 = some ⟨oc4, od4, .func (PySem.W.fnOf "_law_nested" "_law_nested" (defArgs s__law_nested) (defBody s__law_nested) (defScope s__law_nested) .none kV4 dc4 pm4 an4 cd4 ct4), sl4⟩) (b4 : PySem.W.codeIn K cd4 "_law_nested" = true) (k4 : PySem.W.keepIn K (.ref f4) = true)
    {f5 : Addr} {od5 an5 : Option Addr} {sl5 : Array (Option Value)} {oc5 kV5 dc5 pm5 cd5 ct5 : Value} (a5 : PySem.W.nsIn K mainGlobals "_law_pattern" = some (some (.ref f5))) (l5 : K.lookup f5 = some ⟨oc5, od5, .func (PySem.W.fnOf "_law_pattern" "_law_pattern" (defArgs s__law_pattern) (defBody s__law_pattern) (defScope s__law_pattern) .none kV5 dc5 pm5 an5 cd5 ct5), sl5⟩) (b5 : PySem.W.codeIn K cd5 "_law_pattern" = true) (k5 : PySem.W.keepIn K (.ref f5) = true)
    {f6 : Addr} {od6 an6 : Option Addr} {sl6 : Array (Option Value)} {oc6 kV6 dc6 pm6 cd6 ct6 : Value} (a6 : PySem.W.nsIn K mainGlobals "_law_order" = some (some (.ref f6))) (l6 : K.lookup f6 = some ⟨oc6, od6, .func (PySem.W.fnOf "_law_order" "_law_order" (defArgs s__law_order) (defBody s__law_order) (defScope s__law_order) .none kV6 dc6 pm6 an6 cd6 ct6), sl6⟩) (b6 : PySem.W.codeIn K cd6 "_law_order" = true) (k6 : PySem.W.keepIn K (.ref f6) = true)
    {f7 : Addr} {od7 an7 : Option Addr} {sl7 : Array (Option Value)} {oc7 kV7 dc7 pm7 cd7 ct7 : Value} (a7 : PySem.W.nsIn K mainGlobals "_law_normal" = some (some (.ref f7))) (l7 : K.lookup f7 = some ⟨oc7, od7, .func (PySem.W.fnOf "_law_normal" "_law_normal" (defArgs s__law_normal) (defBody s__law_normal) (defScope s__law_normal) .none kV7 dc7 pm7 an7 cd7 ct7), sl7⟩) (b7 : PySem.W.codeIn K cd7 "_law_normal" = true) (k7 : PySem.W.keepIn K (.ref f7) = true)
    {f8 : Addr} {od8 an8 : Option Addr} {sl8 : Array (Option Value)} {oc8 kV8 dc8 pm8 cd8 ct8 : Value} (a8 : PySem.W.nsIn K mainGlobals "are_variables" = some (some (.ref f8))) (l8 : K.lookup f8 = some ⟨oc8, od8, .func (PySem.W.fnOf "are_variables" "are_variables" (defArgs s_are_variables) (defBody s_are_variables) (defScope s_are_variables) .none kV8 dc8 pm8 an8 cd8 ct8), sl8⟩) (b8 : PySem.W.codeIn K cd8 "are_variables" = true) (k8 : PySem.W.keepIn K (.ref f8) = true)
    {f9 : Addr} {od9 an9 : Option Addr} {sl9 : Array (Option Value)} {oc9 kV9 dc9 pm9 cd9 ct9 : Value} (a9 : PySem.W.nsIn K mainGlobals "distinct" = some (some (.ref f9))) (l9 : K.lookup f9 = some ⟨oc9, od9, .func (PySem.W.fnOf "distinct" "distinct" (defArgs s_distinct) (defBody s_distinct) (defScope s_distinct) .none kV9 dc9 pm9 an9 cd9 ct9), sl9⟩) (b9 : PySem.W.codeIn K cd9 "distinct" = true) (k9 : PySem.W.keepIn K (.ref f9) = true)
    {f10 : Addr} {od10 an10 : Option Addr} {sl10 : Array (Option Value)} {oc10 kV10 dc10 pm10 cd10 ct10 : Value} (a10 : PySem.W.nsIn K mainGlobals "fits_pattern" = some (some (.ref f10))) (l10 : K.lookup f10 = some ⟨oc10, od10, .func (PySem.W.fnOf "fits_pattern" "fits_pattern" (defArgs s_fits_pattern) (defBody s_fits_pattern) (defScope s_fits_pattern) .none kV10 dc10 pm10 an10 cd10 ct10), sl10⟩) (b10 : PySem.W.codeIn K cd10 "fits_pattern" = true) (k10 : PySem.W.keepIn K (.ref f10) = true)
    {f11 : Addr} {od11 an11 : Option Addr} {sl11 : Array (Option Value)} {oc11 kV11 dc11 pm11 cd11 ct11 : Value} (a11 : PySem.W.nsIn K mainGlobals "need_pattern" = some (some (.ref f11))) (l11 : K.lookup f11 = some ⟨oc11, od11, .func (PySem.W.fnOf "need_pattern" "need_pattern" (defArgs s_need_pattern) (defBody s_need_pattern) (defScope s_need_pattern) .none kV11 dc11 pm11 an11 cd11 ct11), sl11⟩) (b11 : PySem.W.codeIn K cd11 "need_pattern" = true) (k11 : PySem.W.keepIn K (.ref f11) = true)
    {f12 : Addr} {od12 an12 : Option Addr} {sl12 : Array (Option Value)} {oc12 kV12 dc12 pm12 cd12 ct12 : Value} (a12 : PySem.W.nsIn K mainGlobals "normal" = some (some (.ref f12))) (l12 : K.lookup f12 = some ⟨oc12, od12, .func (PySem.W.fnOf "normal" "normal" (defArgs s_normal) (defBody s_normal) (defScope s_normal) .none kV12 dc12 pm12 an12 cd12 ct12), sl12⟩) (b12 : PySem.W.codeIn K cd12 "normal" = true) (k12 : PySem.W.keepIn K (.ref f12) = true)
    {f13 : Addr} {od13 an13 : Option Addr} {sl13 : Array (Option Value)} {oc13 kV13 dc13 pm13 cd13 ct13 : Value} (a13 : PySem.W.nsIn K mainGlobals "variables" = some (some (.ref f13))) (l13 : K.lookup f13 = some ⟨oc13, od13, .func (PySem.W.fnOf "variables" "variables" (defArgs s_variables) (defBody s_variables) (defScope s_variables) .none kV13 dc13 pm13 an13 cd13 ct13), sl13⟩) (b13 : PySem.W.codeIn K cd13 "variables" = true) (k13 : PySem.W.keepIn K (.ref f13) = true)
    {f14 : Addr} {od14 an14 : Option Addr} {sl14 : Array (Option Value)} {oc14 kV14 dc14 pm14 cd14 ct14 : Value} (a14 : PySem.W.nsIn K mainGlobals "law" = some (some (.ref f14))) (l14 : K.lookup f14 = some ⟨oc14, od14, .func (PySem.W.fnOf "law" "law" (defArgs s_law) (defBody s_law) (defScope s_law) .none kV14 dc14 pm14 an14 cd14 ct14), sl14⟩) (b14 : PySem.W.codeIn K cd14 "law" = true) (k14 : PySem.W.keepIn K (.ref f14) = true)
    {t0 : Tok} (n0 : PySem.W.nsIn K mainGlobals "ALPHABET" = some (some (Value.str "abcdefghijklmnopqrstuvwxyz" t0)))
    {t1 : Tok} (n1 : PySem.W.nsIn K mainGlobals "MAX_PATTERN" = some (some (Value.int 40 t1)))
    {t2 : Tok} (n2 : PySem.W.nsIn K mainGlobals "MAX_VARIABLES" = some (some (Value.int 8 t2)))
    (z0 : PySem.W.nsIn K mainGlobals "abs" = some none)
    (z1 : PySem.W.nsIn K mainGlobals "all" = some none)
    (z2 : PySem.W.nsIn K mainGlobals "enumerate" = some none)
    (z3 : PySem.W.nsIn K mainGlobals "isinstance" = some none)
    (z4 : PySem.W.nsIn K mainGlobals "len" = some none)
    (z5 : PySem.W.nsIn K mainGlobals "list" = some none)
    (z6 : PySem.W.nsIn K mainGlobals "range" = some none)
    (z7 : PySem.W.nsIn K mainGlobals "repr" = some none)
    (z8 : PySem.W.nsIn K mainGlobals "str" = some none)
    : ∃ fd : FuncData, (∀ (s : Shared) (v : Value), BindsTo s fd ⟨[v], []⟩ [("_law_script", v)]) ∧ ∀ base : Heap, K.In base → base.Ns mainGlobals mg → FnG P w K mg base CX0 5 fa fd ["_law_script"] (spC cLaw k_law K) := by
  have e := hfa.symm.trans (PySem.W.mg_of X G a14)
  cases e
  have T : Txt K mg := {
    f__law_pen := ⟨_, _, PySem.W.mg_of X G a0, fun_mk (st := s__law_pen) l0 b0 k0⟩
    f__law_draw := ⟨_, _, PySem.W.mg_of X G a1, fun_mk (st := s__law_draw) l1 b1 k1⟩
    f__law_pick := ⟨_, _, PySem.W.mg_of X G a2, fun_mk (st := s__law_pick) l2 b2 k2⟩
    f__law_names := ⟨_, _, PySem.W.mg_of X G a3, fun_mk (st := s__law_names) l3 b3 k3⟩
    f__law_nested := ⟨_, _, PySem.W.mg_of X G a4, fun_mk (st := s__law_nested) l4 b4 k4⟩
    f__law_pattern := ⟨_, _, PySem.W.mg_of X G a5, fun_mk (st := s__law_pattern) l5 b5 k5⟩
    f__law_order := ⟨_, _, PySem.W.mg_of X G a6, fun_mk (st := s__law_order) l6 b6 k6⟩
    f__law_normal := ⟨_, _, PySem.W.mg_of X G a7, fun_mk (st := s__law_normal) l7 b7 k7⟩
    f_are_variables := ⟨_, _, PySem.W.mg_of X G a8, fun_mk (st := s_are_variables) l8 b8 k8⟩
    f_distinct := ⟨_, _, PySem.W.mg_of X G a9, fun_mk (st := s_distinct) l9 b9 k9⟩
    f_fits_pattern := ⟨_, _, PySem.W.mg_of X G a10, fun_mk (st := s_fits_pattern) l10 b10 k10⟩
    f_need_pattern := ⟨_, _, PySem.W.mg_of X G a11, fun_mk (st := s_need_pattern) l11 b11 k11⟩
    f_normal := ⟨_, _, PySem.W.mg_of X G a12, fun_mk (st := s_normal) l12 b12 k12⟩
    f_variables := ⟨_, _, PySem.W.mg_of X G a13, fun_mk (st := s_variables) l13 b13 k13⟩
    f_law := ⟨_, _, PySem.W.mg_of X G a14, fun_mk (st := s_law) l14 b14 k14⟩
    c_ALPHABET := ⟨_, PySem.W.mg_of X G n0, ⟨_, rfl⟩⟩
    c_MAX_PATTERN := ⟨_, PySem.W.mg_of X G n1, ⟨_, rfl⟩⟩
    c_MAX_VARIABLES := ⟨_, PySem.W.mg_of X G n2, ⟨_, rfl⟩⟩
    m_abs := PySem.W.mg_none_of X G z0
    m_all := PySem.W.mg_none_of X G z1
    m_enumerate := PySem.W.mg_none_of X G z2
    m_isinstance := PySem.W.mg_none_of X G z3
    m_len := PySem.W.mg_none_of X G z4
    m_list := PySem.W.mg_none_of X G z5
    m_range := PySem.W.mg_none_of X G z6
    m_repr := PySem.W.mg_none_of X G z7
    m_str := PySem.W.mg_none_of X G z8
  }
  exact ⟨_, fun s v => .of_eq rfl, fun base _ _ => raw_law T (fun_mk (st := s_law) l14 b14 k14)⟩
theorem k_law_ok : k_law ≤ LIM := by decide +kernel
end Law_k02
open PySem PySem.W PyProof.Rows
set_option maxRecDepth 100000 in
set_option maxHeartbeats 0 in
theorem PySem.Challenge.cw_mustoccur_k02_normal_forms_holds : PySem.Challenge.rw_mustoccur_k02_normal_forms.Holds := by
  w_on; o_law; k_head; (case hw => w_witness2)
  k_fill
  refine M.walk_G (l := PySem.Challenge.rw_mustoccur_k02_normal_forms) (n := 63) (k := 5) (x := "_law_script") (sp := fun K => Y.spC Y.cLaw Law_k02.k_law K) rfl (by decide) rfl ⟨rfl, by decide, by decide⟩ (fun w h Y => PySem.W.kIn_of Y) ?F (fun K H a ns hl _ hS => Y.law_want Law_k02.k_law_ok hl hS)
  case F =>
    intro w mg fa h KX G hmg
    refine' Law_k02.all_mk KX G hmg ?a0 ?l0 ?b0 ?k0 ?a1 ?l1 ?b1 ?k1 ?a2 ?l2 ?b2 ?k2 ?a3 ?l3 ?b3 ?k3 ?a4 ?l4 ?b4 ?k4 ?a5 ?l5 ?b5 ?k5 ?a6 ?l6 ?b6 ?k6 ?a7 ?l7 ?b7 ?k7 ?a8 ?l8 ?b8 ?k8 ?a9 ?l9 ?b9 ?k9 ?a10 ?l10 ?b10 ?k10 ?a11 ?l11 ?b11 ?k11 ?a12 ?l12 ?b12 ?k12 ?a13 ?l13 ?b13 ?k13 ?a14 ?l14 ?b14 ?k14 ?n0 ?n1 ?n2 ?z0 ?z1 ?z2 ?z3 ?z4 ?z5 ?z6 ?z7 ?z8
    (case a0 => k_is)
    (case l0 => k_is)
    (case b0 => k_is)
    (case k0 => k_is)
    (case a1 => k_is)
    (case l1 => k_is)
    (case b1 => k_is)
    (case k1 => k_is)
    (case a2 => k_is)
    (case l2 => k_is)
    (case b2 => k_is)
    (case k2 => k_is)
    (case a3 => k_is)
    (case l3 => k_is)
    (case b3 => k_is)
    (case k3 => k_is)
    (case a4 => k_is)
    (case l4 => k_is)
    (case b4 => k_is)
    (case k4 => k_is)
    (case a5 => k_is)
    (case l5 => k_is)
    (case b5 => k_is)
    (case k5 => k_is)
    (case a6 => k_is)
    (case l6 => k_is)
    (case b6 => k_is)
    (case k6 => k_is)
    (case a7 => k_is)
    (case l7 => k_is)
    (case b7 => k_is)
    (case k7 => k_is)
    (case a8 => k_is)
    (case l8 => k_is)
    (case b8 => k_is)
    (case k8 => k_is)
    (case a9 => k_is)
    (case l9 => k_is)
    (case b9 => k_is)
    (case k9 => k_is)
    (case a10 => k_is)
    (case l10 => k_is)
    (case b10 => k_is)
    (case k10 => k_is)
    (case a11 => k_is)
    (case l11 => k_is)
    (case b11 => k_is)
    (case k11 => k_is)
    (case a12 => k_is)
    (case l12 => k_is)
    (case b12 => k_is)
    (case k12 => k_is)
    (case a13 => k_is)
    (case l13 => k_is)
    (case b13 => k_is)
    (case k13 => k_is)
    (case a14 => k_is)
    (case l14 => k_is)
    (case b14 => k_is)
    (case k14 => k_is)
    (case n0 => k_is)
    (case n1 => k_is)
    (case n2 => k_is)
    (case z0 => k_is)
    (case z1 => k_is)
    (case z2 => k_is)
    (case z3 => k_is)
    (case z4 => k_is)
    (case z5 => k_is)
    (case z6 => k_is)
    (case z7 => k_is)
    (case z8 => k_is)
