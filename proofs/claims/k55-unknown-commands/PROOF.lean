import PyProof.Rows.All
import Wide.All
import OpenK.AllK
import Wide.FinOn
import HandS.ForMost
import PyProof.ReprRoads
import KE.KDictKeyed
import KE.KDictWalk
import KE.KDictZip
import KE.DataEq
import HandS.TupAny
import HandS.Deep
import HandS.Conv
import HandS.Wide
import HandS.Evl
import PyProof.ReprLen
import PyProof.Rows.Chain
import HandS.TupSets
import HandS.SortInts
import HandS.IsInst
import HandS.Zip
import HandS.Defaults
import KE.DataMinKey
import KE.KDictDisplayH
import HandS.Zip0
import HandS.SetFor
import HandS.Strs
import HandS.Style
import KE.GoesEnum
import HandS.TupMul
import PyProof.MinMaxWalk
import HandS.TryOnly
import HandS.SortRule
import KE.DataCmp
import HandS.ExcInit
import HandS.ExcOwn
import HandS.ExcIs
import KE.KExcIs
import HandS.ExcField
import HandS.ExcCtx
import HandS.HotCalls
import HandS.RaiseFrom
import HandS.SuiteRaise
import HandS.ExcInitHot
import KE.RegKIsAll
import PyProof.ExcBaseAll.ValueError
import HandS.FStr
import HandS.Codes
import KE.KCallOwn
import HandS.MakeKwOnly
import HandS.TryMany
import PyProof.Rows.IntBool
import HandS.Finally
import HandS.Steps
import HandS.Replace
import HandS.ReplaceLit
import PySem.Challenge.RW_fewspans_k55_unknown_commands
set_option Elab.async false
set_option linter.all false
set_option maxRecDepth 100000
set_option maxHeartbeats 4000000
/-! part G: defs called where no repr is under way (guards known to be none) -/
namespace Fz
open PySem PySem.Spec PyProof.Rows L2

/-- like FnOk, asked only where it is known that no guarded built-in runs around -/
structure FnG (P : Program) (w : World) (K : PySem.W.Frag) (mg : Str → Option Value) (base : Heap)
    (CX : CXT) (k : Nat) (f : Addr) (fd : FuncData) (ps : List Str) (sp : Sp) : Prop where
  len : ∀ vs H Q E, sp vs H Q E → vs.length = ps.length
  run : ∀ (A : Around) (outer : List Env) (s : Shared) (H : Hp) (args : Args) (us : List Value)
    (vs : List V) (Q : VK) (E : XK), Room k A → A.guards = some [] → Env0 P w K mg base A outer s H →
    BindsTo s fd args (ps.zip us) → Vals vs us → sp vs H Q E →
    codeAny (model P w) A (.call (.ref f) args) (CR CX outer P w H s Q E) s

section
variable {P : Program} {w : World} {K : PySem.W.Frag} {mg : Str → Option Value} {base : Heap}
  {CX : CXT} {k j : Nat} {f : Addr} {fd : FuncData} {ps : List Str} {sp sp' : Sp}
theorem FnG.mono (F : FnG P w K mg base CX j f fd ps sp) (h : j ≤ k) :
    FnG P w K mg base CX k f fd ps sp :=
  ⟨F.len, fun A o s H a us vs Q E r => F.run A o s H a us vs Q E (r.mono h)⟩
theorem FnG.imp (F : FnG P w K mg base CX k f fd ps sp) (h : ∀ vs H Q E, sp' vs H Q E → sp vs H Q E) :
    FnG P w K mg base CX k f fd ps sp' :=
  ⟨fun vs H Q E q => F.len vs H Q E (h _ _ _ _ q),
   fun A o s H a us vs Q E r g e b v q => F.run A o s H a us vs Q E r g e b v (h _ _ _ _ q)⟩

/-- a def of the text, by its body, the guards known -/
theorem fnG_of {name qual : Str} {params : Arguments} {body : List Stmt} {scope : Scope}
    {dV kV doc pm cdv ct oc : Value} {an od : Option Addr} {osl : Array (Option Value)} {N : List Str}
    (lk : K.lookup f = some ⟨oc, od, .func (PySem.W.fnOf name qual params body scope dV kV doc pm an cdv ct), osl⟩)
    (hcd : PySem.W.codeIn K cdv qual = true) (S : FnScope N ps scope)
    (len : ∀ vs H Q E, sp vs H Q E → vs.length = ps.length)
    (hb0 : ∀ (A : Around) (outer : List Env) (s : Shared) (H : Hp) (vs : List V) (Q : VK) (E : XK),
      Room k (A.deeper (envOfC qual scope s.heap.objs.size f cdv)) → A.guards = some [] → sp vs H Q E →
      ∃ t, PSs (cxOf CX P w K mg base N qual scope f cdv A outer s H E) body t ∧
        t { nx := fun _ H' => Q .non H', rt := Q } (start N vs) H) :
    FnG P w K mg base CX (k + 1) f (PySem.W.fnOf name qual params body scope dV kV doc pm an cdv ct) ps sp := by
  constructor
  · exact len
  intro A outer s H args us vs Q E hr hg e0 bt rv hsp
  have lens := len vs H Q E hsp
  have keeps : ∀ b o, base.get? b = some o → s.heap.get? b = some o := fun b o z => (e0.bs b o z).1
  have kin : K.In s.heap := e0.mod.kin.keeps keeps
  have nolim : s.heap.NoLimit := e0.mod.nolimit.keeps keeps
  have kinds : ∀ y ∈ ps.zip us, scope.names.lookup y.1 = some .local ∨
      (scope.names.lookup y.1 = some .cell ∧
        ((cellsFrom (s.heap.objs.size + 1) scope.names []).lookup y.1).isSome = true) := by
    rintro ⟨n, v⟩ hy
    cases S.par n (List.of_mem_zip hy).1 with
    | inl q => exact .inl q
    | inr q => exact .inr ⟨q, PySem.W.cellsFrom_some _ _ _ (.inl q)⟩
  refine codeAny_call_function hr.depth (kin _ _ lk) rfl S.co S.gen rfl
    (PySem.W.codeRec_of kin hcd) (bt _ _ _ _ ?_)
  refine wpAny_newFunctionEnv_cells S.kind kinds ?_
  rintro env rfl s1 x
  refine ⟨nolim.keeps x.toInCall.keep, codeAny_func ?_⟩
  obtain ⟨t, ht, hq⟩ := hb0 A outer s H vs Q E (hr.deeper _) hg hsp
  have I0 := inv_start (CX := CX) (E := E) (f := f) S hr.hd e0 lens rv x
  refine wpAny_mono (ht.run [] s1 _ H _ I0 hq) ?_ (fun _ _ z => z)
  intro fl s' hs
  cases fl with
  | ret u => obtain ⟨v, σ', H', J, r, q⟩ := hs; exact ⟨v, H', J.os, J.bare, J.base, J.hok, r, q⟩
  | next => obtain ⟨σ', H', J, q⟩ := hs; exact ⟨.non, H', J.os, J.bare, J.base, J.hok, rfl, q⟩
  | brk => exact False.elim (let ⟨_, _, _, q⟩ := hs; q)
  | cont => exact False.elim (let ⟨_, _, _, q⟩ := hs; q)

/-- a def as it stands behind the top, no exception leaves -/
theorem okG {x qual : Str} {st : Stmt} {N : List Str} (F : Fun K x qual st f fd)
    (S : FnScope N ps (defScope st)) (len : ∀ vs H Q E, sp vs H Q E → vs.length = ps.length)
    (hb0 : ∀ (cdv : Value) (A : Around) (outer : List Env) (s : Shared) (H : Hp) (vs : List V) (Q : VK) (E : XK),
      Room k (A.deeper (envOfC qual (defScope st) s.heap.objs.size f cdv)) → A.guards = some [] → sp vs H Q E →
      ∃ t, PSs (cxOf CX0 P w K mg base N qual (defScope st) f cdv A outer s H E).nox (defBody st) t ∧
        t { nx := fun _ H' => Q .non H', rt := Q } (start N vs) H) :
    FnG P w K mg base CX0 (k + 1) f fd ps sp := by
  obtain ⟨oc, od, kV, doc, pm, an, cdv, ct, osl, rfl, lk, hcd⟩ := F.ex
  refine fnG_of lk hcd S len ?_
  intro A outer s H vs Q E hr hg hsp
  obtain ⟨t, h, q⟩ := hb0 cdv A outer s H vs Q E hr hg hsp
  exact ⟨t, h.nox, q⟩
end

section
variable {X : Cx} {CX : CXT} {k : Nat} {f : Addr} {fd : FuncData} {ps : List Str} {sp : Sp} {dvs : List V}
  {ds : List Value} {E : XK} {x : Str} {p pos : Pos} {e : Expr} {es : List Expr} {t : TA}

theorem runG {pins : List (Addr × Obj)} {σ : L2.St} {H : Hp} {s : Shared} {Q : VK} {us : List Value} {vs : List V}
    (F : FnG X.prog X.w X.K X.mg X.base CX k f fd ps sp) (hr : Room k X.A) (hg : X.A.guards = some [])
    (hb : Binds X.K fd ps ds) (hd : Vals dvs ds) (hx : Passes CX X E) (I : Inv X pins σ H s)
    (r : Vals vs us) (h : sp (vs ++ dvs) H Q E) :
    wpAny (model X.prog X.w) X.A (call (.ref f) us) (EP X pins σ Q) X.xe s := by
  have r2 := r.append hd
  have le : (us ++ ds).length = ps.length := r2.length.symm.trans (F.len _ _ _ _ h)
  have go := F.run X.A X.stack s H ⟨us, []⟩ (us ++ ds) _ Q E hr hg I.env0 (hb s us I.kIn le) r2 h
  refine wpAny_call (codeAny_mono go ?_)
  intro r s' hq
  match r, hq with
  | .error e, hq => exact hx pins σ H s e s' I hq
  | .ok (.ret u), hq => exact I.after hq
  | .ok .next, hq => exact hq.elim
  | .ok .brk, hq => exact hq.elim
  | .ok .cont, hq => exact hq.elim

theorem pe_callG (F : FnG X.prog X.w X.K X.mg X.base CX k f fd ps sp) (hr : Room k X.A)
    (hgd : X.A.guards = some []) (hg : Gl X x) (hm : X.mg x = some (.ref f))
    (hk : PySem.W.keepIn X.K (.ref f) = true) (hb : Binds X.K fd ps ds) (hd : Vals dvs ds) (hx : Passes CX X E)
    (ha : PA X (e :: es) t) (hdb : (x == ("__debug__" : Str)) = false := by decide)
    (he : starEach (e :: es) X.env = (false, eval e X.env) :: starEach es X.env := by rfl)
    (hpl : (backTo pos (starEach es X.env)).any (·.1) = false := by rfl) :
    PE X (.Call (.Name x p) (e :: es) [] pos) (tCall sp dvs E t) := by
  constructor
  intro pins s σ H Q I h
  refine wpAny_Call_Name_kw (ld_glob I hg hm ?_ hdb)
  have step := thn (ha.run pos pins s σ H _ I h) (Q' := fun us s1 => X.K.In s1.heap ∧
    wpAny (model X.prog X.w) X.A (call (.ref f) us) (EP X pins σ Q) X.xe s1) (fun us s1 z => by
      obtain ⟨vs, H1, I1, r, q⟩ := z
      exact ⟨I1.kIn, runG F hr hgd hb hd hx I1 r q⟩)
  exact PySem.W.callWith_K (h₀ := X.base) I.ok.mod.kin hk step he hpl

end

/-! ### the law's own call -/
theorem law_callG {P : Program} {w : World} {K : PySem.W.Frag} {mg mb : Str → Option Value} {CX : CXT}
    {k : Nat} {fa a : Addr} {fd : FuncData} {x : Str} {sp : Sp} {s₁ : Shared} {vs : List Value} {ns : List Int}
    (KX : K.In s₁.heap) (hns : s₁.heap.Ns mainGlobals mg) (hb : s₁.heap.Ns builtinsNs mb)
    (hbb : ∀ x : Str, x ≠ "__name__" → mb x = bootBuiltins x) (hlim : s₁.heap.NoLimit) (hg : s₁.gens = #[])
    (ha : s₁.heap.get? a = some { cls := .type "list", data := .seq vs.toArray }) (hi : IntsAre vs ns)
    (hl : ns.length ≤ sizeLine) (hr : Room k callerA)
    (F : ∀ base : Heap, K.In base → base.Ns mainGlobals mg → FnG P w K mg base CX k fa fd [x] sp)
    (hbind : ∀ (s : Shared) (u : Value), BindsTo s fd ⟨[u], []⟩ [(x, u)])
    (hsp : ∀ H : Hp, Only H → SqL K H a (ns.map V.int) → sp [.ref a] H (fun v _ => v = .bl true) fun _ _ _ => False)
    (hCX : ∀ H e s', CX [] H s₁ (fun _ _ _ => False) e s' → False) :
    codeAny (model P w) callerA (.call (.ref fa) ⟨[.ref a], []⟩)
      (fun r s' => r = .ok (.ret (.bool true)) ∧ OldK s₁.heap s'.heap ∧ s'.os = s₁.os ∧ AllBare s'.gens) s₁ := by
  have rv := vals_ints hi
  have lv := hi.length
  -- H tracks nothing but the script
  have main : ∀ H : Hp, Only H → SqL K H a (ns.map V.int) → HOk P w H s₁.heap → (∀ b, H b ≠ none → b = a) →
      (H a ≠ none → K.lookup a = none) → codeAny (model P w) callerA (.call (.ref fa) ⟨[.ref a], []⟩)
        (fun r s' => r = .ok (.ret (.bool true)) ∧ OldK s₁.heap s'.heap ∧ s'.os = s₁.os ∧ AllBare s'.gens) s₁ := by
    intro H hO hS hok hA hK
    have dictFree : ∀ {b : Addr} {o : Obj} {es : Array DictEntry} {ep : Nat},
        s₁.heap.get? b = some o → o.data = .dict es ep → H b = none := by
      intro b o es ep e d
      cases q : H b with
      | none => rfl
      | some u =>
        obtain rfl : b = a := hA b (by rw [q]; simp)
        rw [ha] at e
        cases e
        cases (show Data.seq vs.toArray _ = Data.dict es ep from d)
    have nsKeep : ∀ {b : Addr} {m : Str → Option Value}, s₁.heap.Ns b m → (hidT s₁.heap H).Ns b m := by
      rintro b m ⟨o, es, ep, e, d, r⟩
      exact ⟨o, es, ep, hidT_get e (dictFree e d), d, r⟩
    have kinB : K.In (hidT s₁.heap H) := by
      intro b o e
      refine hidT_get (KX b o e) ?_
      cases q : H b with
      | none => rfl
      | some u =>
        obtain rfl : b = a := hA b (by rw [q]; simp)
        rw [hK (by rw [q]; simp)] at e
        cases e
    have modB : Mod K mg (hidT s₁.heap H) := by
      obtain ⟨mc, l1, l2⟩ := hlim
      exact ⟨kinB, nsKeep hns, ⟨mb, nsKeep hb, hbb⟩, mc, nsKeep l1, l2⟩
    have e0 : Env0 P w K mg (hidT s₁.heap H) callerA [] s₁ H := by
      refine ⟨rfl, modB, fun b o e => of_hidT e, Nat.le_of_eq (hidT_size _ _), trivial, ?_, hok, .of_eq hg⟩
      intro b z
      exact absurd (show b ∈ ([] : List Addr) from z) (by simp)
    have go := (F _ kinB (nsKeep hns)).run callerA [] s₁ H ⟨[.ref a], []⟩ [.ref a] [.ref a] _ _ hr rfl e0
      (hbind s₁ (.ref a)) (.cons rfl .nil) (hsp H hO hS)
    refine codeAny_mono go ?_
    intro r s' h
    match r, h with
    | .error e, h => exact (hCX H e s' h).elim
    | .ok .next, h => exact h.elim
    | .ok .brk, h => exact h.elim
    | .ok .cont, h => exact h.elim
    | .ok (.ret u), h =>
      obtain ⟨v, H', os, bare, un, hok', r', q⟩ := h
      obtain rfl : v = .bl true := q
      obtain rfl : u = Value.bool true := r'
      have noFr : ∀ b : Addr, b ∉ frs ([] : List Env) := fun b z => absurd (show b ∈ ([] : List Addr) from z) (by simp)
      refine ⟨rfl, OldK.of_keep ?_, os, bare⟩
      intro b o e
      cases q : H b with
      | none => exact un.keep b o e q (noFr b) (by simp)
      | some u =>
        cases hO b with
        | inl z => rw [q] at z; cases z
        | inr z =>
          obtain ⟨ob, xs, z⟩ := z
          obtain ⟨e1, _⟩ := hok b _ z
          obtain ⟨e2, _⟩ := hok' b _ (un.frzs b ob _ z)
          rw [e] at e1
          cases e1
          exact e2
  have lxs : (ns.map V.int).length ≤ sizeLine := by rw [List.length_map]; exact hl
  cases hk : K.lookup a with
  | some o =>
    have e := KX a o hk
    rw [ha] at e
    cases e
    have inK : SqL K (fun _ => none) a (ns.map V.int) :=
      .inr ⟨_, vs.toArray, _, hk, rfl, rfl, rfl, by rw [List.size_toArray, lv]; exact hl, by simpa using rv⟩
    refine main (fun _ => none) (fun _ => .inl rfl) inK ?_ (fun b z => absurd rfl z) (fun z => absurd rfl z)
    intro b u z
    cases (show (none : Option HO) = some u from z)
  | none =>
    let H1 : Hp := fun b => if b = a then some (.frz { cls := .type "list", data := .seq vs.toArray } (.lst (ns.map V.int))) else none
    have at1 : H1 a = some (.frz { cls := .type "list", data := .seq vs.toArray } (.lst (ns.map V.int))) := if_pos rfl
    have off1 : ∀ b, b ≠ a → H1 b = none := fun b hb => if_neg hb
    refine main H1 (fun b => ?_) (.inl (.inr ⟨_, at1⟩)) (fun b u z => ?_) (fun b z => ?_) (fun _ => hk)
    · by_cases hb : b = a
      · subst hb; exact .inr ⟨_, _, at1⟩
      · exact .inl (off1 b hb)
    · by_cases hb : b = a
      · subst hb
        rw [at1] at z
        cases z
        exact ⟨ha, lxs, vs, _, rv, ha⟩
      · rw [off1 b hb] at z
        cases z
    · by_cases hb : b = a
      · exact hb
      · exact absurd (off1 b hb) z

theorem walkG {l : PySem.W.OpenLaw} {n k : Nat} {q : Program} {loose : List Str}
    {XP : (Str → Option Value) → Heap → Prop} {YP : World → Heap → Prop} {d : DefRec} {K : Params → PySem.W.Frag}
    {sp : PySem.W.Frag → Sp} {x : Str}
    (hn : l.most = some n) (hn2 : n ≤ sizeLine) (hdf : d.params.defaults = []) (hr : Room k callerA)
    (hY : ∀ (w : World) (h : Heap), YP w h → (K w.params).In h)
    (F : ∀ (w : World) (mg : Str → Option Value) (fa : Addr) (h : Heap), (K w.params).In h → h.Ns mainGlobals mg →
      mg d.name = some (.ref fa) → ∃ fd : FuncData, (∀ (s : Shared) (u : Value), BindsTo s fd ⟨[u], []⟩ [(x, u)]) ∧
        ∀ base : Heap, (K w.params).In base → base.Ns mainGlobals mg →
          FnG l.prog w (K w.params) mg base CX0 k fa fd [x] (sp (K w.params)))
    (hsp : ∀ (K : PySem.W.Frag) (H : Hp) (a : Addr) (ns : List Int), ns.length ≤ n → Only H → SqL K H a (ns.map V.int) →
      sp K [.ref a] H (fun v _ => v = .bl true) fun _ _ _ => False) :
    PySem.W.WalkO q loose XP YP l.row.toRowW d [] (fun f vs => PySem.call f vs) := by
  refine Att.attach_call hn hdf ?_
  intro w s₀ s₁ mg mb fa o pm cd doc a vs ns G Y ho hd hcd hmg hobj hints hlen hg
  obtain ⟨fd, hb, hF⟩ := F w mg fa _ (hY w _ Y) G.T.g hmg
  exact law_callG (hY w _ Y) G.T.g G.T.b G.T.builtins G.T.nolimit hg hobj hints (Nat.le_trans hlen hn2) hr hF hb
    (fun H hO hS => hsp _ H a ns hlen hO hS) (fun _ _ _ h => h.elim)
end Fz

set_option Elab.async false
set_option linter.all false
set_option maxRecDepth 100000
set_option maxHeartbeats 4000000
/-! part S: what a def does, told over data: slots hold data (frozen) or things of the def's own; no heap in sight -/
namespace Fz
open PySem PySem.Spec PyProof.Rows L2

abbrev Fg := PySem.W.Frag
abbrev Ad := PySem.Addr
section
variable {K : Fg}
theorem sqT_up {H H' : Hp} {a : Ad} {xs : List V} (s : Same H H') (h : SqT K H a xs) : SqT K H' a xs := by
  rcases h with (h | ⟨o, h⟩) | h
  · exact .inl (.inl (s _ _ h))
  · exact .inl (.inr ⟨o, s _ _ h⟩)
  · exact .inr h
/-! data in the heap, of bounded length -/
/-- a dict whose keys are tuples without texts, by its one object -/
def dnO (a : Ad) (ep : Nat) (xs : List (NestedKey × Ad × Value)) : HO := .ext fun h => ∃ o es, h.get? a = some o ∧ o.ExactDict ∧ o.data = .dict es ep ∧ ∀ w : World, es.toList = xs.map fun x => ⟨x.1.hash w, .ref x.2.1, x.2.2⟩
/-- a dict's key that is a number or a text -/
def keyD : L2.Key → PyData
  | .inl i => .int i
  | .inr x => .str x
mutual
inductive Dp (K : Fg) (H : Hp) : V → PyData → Prop
  | non : Dp K H .non .none
  | bl (b : Bool) : Dp K H (.bl b) (.bool b)
  | int (i : Int) : Dp K H (.int i) (.int i)
  | str (x : Str) : Dp K H (.str x) (.str x)
  | lst {a : Ad} {xs : List V} {ds : List PyData} : SqL K H a xs → DpAll K H xs ds → ds.length ≤ 100000 → Dp K H (.ref a) (.list ds)
  | tup {a : Ad} {xs : List V} {ds : List PyData} : SqT K H a xs → DpAll K H xs ds → ds.length ≤ 100000 → Dp K H (.ref a) (.tuple ds)
  | ob {a C dx : Ad} {cn : Str} {fs : List (Str × V)} {ds : List PyData} : PySem.W.nsIn K mainGlobals cn = some (some (.ref C)) → H a = some (.ins C dx fs) → H dx = some (.own a) → DpAll K H (fs.map (·.2)) ds → Dp K H (.ref a) (.dict [(.tuple (.str cn :: fs.map fun f => .str f.1), .tuple ds)])
  | dn {a : Ad} {ep : Nat} {xs : List (NestedKey × Ad × Value)} {vs : List V} {ks ds : List PyData} : (a == sysModules) = false → H a = some (dnO a ep xs) → (xs.map (·.1)).Nodup → (∀ x ∈ xs, x.1.depth ≤ 8) → ks = xs.map (fun x => x.1.data) → DpAll K H (xs.map fun x => .ref x.2.1) ks → Vals vs (xs.map (·.2.2)) → DpAll K H vs ds → ds.length ≤ 100000 → Dp K H (.ref a) (.dict [(.none, .list ks), (.none, .tuple ds)])
  | dk {a : Ad} {kvs : List (L2.Key × V)} {es : List (PyData × PyData)} : H a = some (.dK kvs) → es.map (·.1) = kvs.map (fun p => keyD p.1) → DpAll K H (kvs.map (·.2)) (es.map (·.2)) → Dp K H (.ref a) (.dict es)
inductive DpAll (K : Fg) (H : Hp) : List V → List PyData → Prop
  | nil : DpAll K H [] []
  | cons {v : V} {vs : List V} {d : PyData} {ds : List PyData} : Dp K H v d → DpAll K H vs ds → DpAll K H (v :: vs) (d :: ds)
end
theorem keyD_no {k : PyData} {ks : List PyData} {kvs : List (L2.Key × V)} (e : k :: ks = kvs.map fun p => keyD p.1) : (∃ i, k = .int i) ∨ ∃ x, k = .str x := by
  cases kvs with
  | nil => exact nomatch e
  | cons p r =>
    have q := (List.cons.inj e).1
    obtain ⟨z, v⟩ := p
    cases z with
    | inl i => exact .inl ⟨i, q⟩
    | inr x => exact .inr ⟨x, q⟩
theorem plain_cons {d : PyData} {ds : List PyData} (h : PyData.plainAll (d :: ds) = true) : d.plain = true ∧ PyData.plainAll ds = true := by
  simpa only [PyData.plainAll, Bool.and_eq_true] using h
/-- data without dicts and objects -/
theorem Dp.old' {H : Hp} {v : V} {d : PyData} (h : Dp K H v d) : d.plain = true → L2.Dp K H v d :=
  Dp.rec (K := K) (H := H) (motive_1 := fun v d _ => d.plain = true → L2.Dp K H v d) (motive_2 := fun vs ds _ => PyData.plainAll ds = true → L2.DpAll K H vs ds)
    (fun _ => .non) (fun b _ => .bl b) (fun i _ => .int i) (fun x _ => .str x) (fun h1 _ _ ih p => .lst h1 (ih (by simpa only [PyData.plain] using p))) (fun h1 _ _ ih p => .tup h1 (ih (by simpa only [PyData.plain] using p)))
    (fun _ _ _ _ _ p => by cases p) (fun _ _ _ _ _ _ _ _ _ _ _ p => by cases p) (fun _ _ _ _ p => by cases p) (fun _ => .nil) (fun _ _ ih1 ih2 p => .cons (ih1 (plain_cons p).1) (ih2 (plain_cons p).2)) h
theorem Dp.old {H : Hp} (d : PyData) (v : V) (h : Dp K H v d) (p : SeqAt.shaped d = true) : L2.Dp K H v d := h.old' (PyData.plain_of_canLay0 _ (SeqAt.canLay_of_shaped p))
mutual
theorem plain_of_noDict : ∀ d : PyData, d.hasDict = false → d.plain = true
  | .none, _ => rfl
  | .bool _, _ => rfl
  | .int _, _ => rfl
  | .str _, _ => rfl
  | .list xs, h => by
    simp only [PyData.plain]
    exact plainAll_of_noDict xs (by simpa only [PyData.hasDict] using h)
  | .tuple xs, h => by
    simp only [PyData.plain]
    exact plainAll_of_noDict xs (by simpa only [PyData.hasDict] using h)
  | .dict _, h => by simp only [PyData.hasDict] at h; cases h
theorem plainAll_of_noDict : ∀ xs : List PyData, PyData.hasDictAll xs = false → PyData.plainAll xs = true
  | [], _ => rfl
  | x :: xs, h => by
    simp only [PyData.hasDictAll, Bool.or_eq_false_iff] at h
    simp only [PyData.plainAll, plain_of_noDict x h.1, plainAll_of_noDict xs h.2, Bool.and_self]
end
theorem dp_up {H H' : Hp} (s : Same H H') (d : PyData) (v : V) (h : Dp K H v d) : Dp K H' v d :=
  Dp.rec (K := K) (H := H) (motive_1 := fun v d _ => Dp K H' v d) (motive_2 := fun vs ds _ => DpAll K H' vs ds)
    .non .bl .int .str (fun h1 _ hz ih => .lst (s.seq h1) ih hz) (fun h1 _ hz ih => .tup (sqT_up s h1) ih hz) (fun h1 h2 h3 _ ih => .ob h1 (s _ _ h2) (s _ _ h3) ih)
    (fun h1 h2 h3 h4 h5 _ h7 _ h9 ih1 ih2 => .dn h1 (s _ _ h2) h3 h4 h5 ih1 h7 ih2 h9) (fun h1 h2 _ ih => .dk (s _ _ h1) h2 ih) .nil (fun _ _ ih1 ih2 => .cons ih1 ih2) h
theorem dpa_up {H H' : Hp} (s : Same H H') (ds : List PyData) (vs : List V) (h : DpAll K H vs ds) : DpAll K H' vs ds := by
  induction ds generalizing vs with
  | nil => cases h; exact .nil
  | cons d ds ih =>
    cases h with
    | cons h1 h2 => exact .cons (dp_up s d _ h1) (ih _ h2)
theorem dpa_len {H : Hp} : ∀ {vs : List V} {ds : List PyData}, DpAll K H vs ds → vs.length = ds.length
  | _, _, .nil => rfl
  | _, _, .cons _ t => by rw [List.length_cons, List.length_cons, dpa_len t]
theorem dpa_get {H : Hp} : ∀ {vs : List V} {ds : List PyData} {i : Nat} {d : PyData}, DpAll K H vs ds → ds[i]? = some d → ∃ v, vs[i]? = some v ∧ Dp K H v d
  | _, _, _, _, .nil, e => by simp at e
  | _, _, 0, _, .cons h _, e => by simp at e; subst e; exact ⟨_, rfl, h⟩
  | _, _, i + 1, _, .cons _ t, e => by
    obtain ⟨v, h1, h2⟩ := dpa_get (i := i) t (by simpa using e)
    exact ⟨v, by simpa using h1, h2⟩
theorem dpa_get' {H : Hp} {vs : List V} {ds : List PyData} {i : Nat} {v : V} (h : DpAll K H vs ds) (e : vs[i]? = some v) : ∃ d, ds[i]? = some d ∧ Dp K H v d := by
  have hl := dpa_len h
  have hi := (List.getElem?_eq_some_iff.mp e).1
  obtain ⟨w, h1, h2⟩ := dpa_get h (List.getElem?_eq_getElem (show i < ds.length by omega))
  rw [e] at h1
  cases h1
  exact ⟨_, List.getElem?_eq_getElem (by omega), h2⟩
theorem dpa_app {H : Hp} : ∀ {vs : List V} {ds : List PyData} {ws es}, DpAll K H vs ds → DpAll K H ws es → DpAll K H (vs ++ ws) (ds ++ es)
  | _, _, _, _, .nil, h => h
  | _, _, _, _, .cons a t, h => .cons a (dpa_app t h)
theorem dpa_take {H : Hp} : ∀ {vs : List V} {ds : List PyData} (n : Nat), DpAll K H vs ds → DpAll K H (vs.take n) (ds.take n)
  | _, _, 0, _ => by simpa using DpAll.nil
  | _, _, _ + 1, .nil => .nil
  | _, _, n + 1, .cons a t => .cons a (dpa_take n t)
theorem dpa_drop {H : Hp} : ∀ {vs : List V} {ds : List PyData} (n : Nat), DpAll K H vs ds → DpAll K H (vs.drop n) (ds.drop n)
  | _, _, 0, h => h
  | _, _, _ + 1, .nil => .nil
  | _, _, n + 1, .cons _ t => dpa_drop n t
theorem dp_int {H : Hp} {v : V} {i : Int} (h : Dp K H v (.int i)) : v = .int i := by cases h; rfl
theorem dp_bl {H : Hp} {v : V} {b : Bool} (h : Dp K H v (.bool b)) : v = .bl b := by cases h; rfl
theorem dp_str {H : Hp} {v : V} {x : Str} (h : Dp K H v (.str x)) : v = .str x := by cases h; rfl
theorem dp_non {H : Hp} {v : V} (h : Dp K H v .none) : v = .non := by cases h; rfl
theorem dp_tup {H : Hp} {v : V} {ds : List PyData} (h : Dp K H v (.tuple ds)) : ∃ a vs, v = .ref a ∧ SqT K H a vs ∧ DpAll K H vs ds := by
  cases h with
  | tup h1 h2 _ => exact ⟨_, _, rfl, h1, h2⟩
theorem dp_lst {H : Hp} {v : V} {ds : List PyData} (h : Dp K H v (.list ds)) : ∃ a vs, v = .ref a ∧ SqL K H a vs ∧ DpAll K H vs ds := by
  cases h with
  | lst h1 h2 _ => exact ⟨_, _, rfl, h1, h2⟩
theorem dp_tupZ {H : Hp} {v : V} {ds : List PyData} (h : Dp K H v (.tuple ds)) : ds.length ≤ 100000 := by
  cases h with
  | tup _ _ hz => exact hz
theorem dp_lstZ {H : Hp} {v : V} {ds : List PyData} (h : Dp K H v (.list ds)) : ds.length ≤ 100000 := by
  cases h with
  | lst _ _ hz => exact hz
theorem dpa_nil {H : Hp} {vs : List V} (h : DpAll K H vs []) : vs = [] := by cases h; rfl
theorem dpa_cons {H : Hp} {vs : List V} {d : PyData} {ds : List PyData} (h : DpAll K H vs (d :: ds)) : ∃ v ws, vs = v :: ws ∧ Dp K H v d ∧ DpAll K H ws ds := by
  cases h with
  | cons h1 h2 => exact ⟨_, _, rfl, h1, h2⟩
theorem dpa_ints {H : Hp} : ∀ {ns : List Int} {vs : List V}, DpAll K H vs (ns.map PyData.int) → vs = ns.map V.int
  | [], vs, h => dpa_nil h
  | n :: ns, vs, h => by
    obtain ⟨v, ws, rfl, h1, h2⟩ := dpa_cons h
    rw [dp_int h1, dpa_ints h2]
    rfl
theorem dpa_bls {H : Hp} : ∀ {bs : List Bool} {vs : List V}, DpAll K H vs (bs.map PyData.bool) → vs = bs.map V.bl
  | [], vs, h => dpa_nil h
  | n :: ns, vs, h => by
    obtain ⟨v, ws, rfl, h1, h2⟩ := dpa_cons h
    rw [dp_bl h1, dpa_bls h2]
    rfl
theorem ints_dpa {H : Hp} : ∀ ns : List Int, DpAll K H (ns.map V.int) (ns.map PyData.int)
  | [] => .nil
  | n :: ns => .cons (.int n) (ints_dpa ns)
end

/-! ### slots -/
/-- a thing of the def's own: what its value and its addresses A hold -/
structure Res (K : Fg) where
  holds : Hp → V → Hp → (Ad → Prop) → Prop
  mono : ∀ {F F' : Hp} {v : V} {H H' : Hp} {A : Ad → Prop}, Same F F' → (∀ a o, A a → H a = some o → H' a = some o) → holds F v H A → holds F' v H' A
inductive Sl (K : Fg) where
  | un
  | da (d : PyData)
  | ow (r : Res K)
/-- a list of the def's own, its items are data -/
def lsR {K : Fg} (ds : List PyData) : Res K where
  holds := fun F v H A => ∃ p vs, v = .ref p ∧ A p ∧ H p = some (.lst vs) ∧ DpAll K F vs ds ∧ ds.length ≤ 100000
  mono := fun s k h => let ⟨p, vs, e, a, hp, h, hz⟩ := h; ⟨p, vs, e, a, k _ _ a hp, dpa_up s _ _ h, hz⟩
/-- the law's deck: [cells, count], at most m draws so far -/
def dkR {K : Fg} (p : Ad) (m : Nat) : Res K where
  holds := fun _ v H A => v = .ref p ∧ A p ∧ ∃ (c : Ad) (cells : List Int) (n : Int), A c ∧ p ≠ c ∧ H p = some (.lst [.ref c, .int n]) ∧ H c = some (.lst (cells.map V.int)) ∧
    cells.length ≤ 63 ∧ (∀ x ∈ cells, 0 ≤ x) ∧ 0 ≤ n ∧ n ≤ m
  mono := fun _ k h => let ⟨e, ap, c, cells, n, ac, ne, hp, hc, r⟩ := h; ⟨e, ap, c, cells, n, ac, ne, k _ _ ap hp, k _ _ ac hc, r⟩
/-- the entry: what was frozen, what stood; dk a n: the address a that stood may be a part of slot n - 1's thing -/
structure Bs where
  F0 : Hp
  H0 : Hp
  dk : Ad → Nat → Prop
section
variable {K : Fg}
def SlOk (s : Sl K) (x : Option V) (F H : Hp) (own : Ad → Nat) (i : Nat) : Prop := match s with
  | .un => True
  | .da d => ∃ v, x = some v ∧ Dp K F v d
  | .ow r => ∃ v, x = some v ∧ r.holds F v H (fun a => own a = i + 1)

structure Sat (B : Bs) (G : List (Sl K)) (F : Hp) (σ : L2.St) (H : Hp) (own : Ad → Nat) : Prop where
  len : σ.length = G.length
  fh : Same F H
  fz : ∀ a o, F a = some o → own a = 0
  al : ∀ a, own a ≠ 0 → H a ≠ none
  sl : ∀ i s x, G[i]? = some s → σ[i]? = some x → SlOk s x F H own i
  b0 : Same B.F0 F
  bf : ∀ a o, F a = some o → B.F0 a = some o ∨ B.H0 a = none
  bn : ∀ a, B.H0 a ≠ none → H a ≠ none
  bh : ∀ a o, B.H0 a = some o → (∀ n, ¬ B.dk a n) → H a = some o
  bd : ∀ a, own a ≠ 0 → B.H0 a ≠ none → B.dk a (own a)

variable {B : Bs} {G : List (Sl K)} {F F' : Hp} {σ : L2.St} {H H' : Hp} {own : Ad → Nat}
theorem own_eq {own own' : Ad → Nat} {i : Nat} (h : ∀ a, own' a = i + 1 ↔ own a = i + 1) : (fun a => own' a = i + 1) = (fun a => own a = i + 1) := funext fun a => propext (h a)

theorem SlOk.go {s : Sl K} {x : Option V} {own own' : Ad → Nat} {i : Nat} (h : SlOk s x F H own i) (f : Same F F') (k : ∀ a o, own a = i + 1 → H a = some o → H' a = some o) (e : ∀ a, own' a = i + 1 ↔ own a = i + 1) : SlOk s x F' H' own' i := by
  cases s with
  | un => trivial
  | da d => obtain ⟨v, h1, h2⟩ := h; exact ⟨v, h1, dp_up f _ _ h2⟩
  | ow r =>
    obtain ⟨v, h1, h2⟩ := h
    refine ⟨v, h1, ?_⟩
    rw [own_eq e]
    exact r.mono f k h2

open Classical in
/-- new objects, all that stood stands -/
theorem Sat.step (s : Sat B G F σ H own) (f : Same F F') (fh : Same F' H') (h : Same H H') (g : ∀ a o, F' a = some o → F a = some o ∨ H a = none) : ∃ own', Sat B G F' σ H' own' ∧ ∀ a, H a = none → own' a = 0 := by
  let own' : Ad → Nat := fun a => if H a = none then 0 else own a
  have o1 : ∀ a, H a = none → own' a = 0 := fun a z => if_pos z
  have o2 : ∀ a, H a ≠ none → own' a = own a := fun a z => if_neg z
  have oe : ∀ a, own' a = own a := fun a => by
    by_cases z : H a = none
    · rw [o1 a z]
      by_cases q : own a = 0
      · exact q.symm
      · exact absurd z (s.al a q)
    · exact o2 a z
  have he : own' = own := funext oe
  rw [show (∃ own', Sat B G F' σ H' own' ∧ ∀ a, H a = none → own' a = 0) ↔ _ from Iff.rfl]
  refine ⟨own', ?_, o1⟩
  rw [he]
  have ne : ∀ a, H a ≠ none → H' a ≠ none := fun a z => by
    cases q : H a with
    | none => exact absurd q z
    | some o => rw [h a o q]; simp
  refine ⟨s.len, fh, fun a o e => ?_, fun a z => ne a (s.al a z), fun i t x h1 h2 => (s.sl i t x h1 h2).go f (fun a o _ q => h a o q) fun _ => Iff.rfl, s.b0.trans f, fun a o e => ?_, fun a z => ne a (s.bn a z), fun a o z nd => h a o (s.bh a o z nd), s.bd⟩
  · rcases g a o e with z | z
    · exact s.fz a o z
    · by_cases q : own a = 0
      · exact q
      · exact absurd z (s.al a q)
  · rcases g a o e with z | z
    · exact s.bf a o z
    · refine .inr ?_
      by_cases q : B.H0 a = none
      · exact q
      · exact absurd z (s.bn a q)

open Classical in
/-- a slot takes data -/
theorem Sat.put (s : Sat B G F σ H own) (i : Nat) {v : V} {d : PyData} (hd : Dp K F v d) : ∃ own', Sat B (G.set i (.da d)) F (σ.set i (some v)) H own' := by
  refine ⟨fun a => if own a = i + 1 then 0 else own a, ?_⟩
  have le : ∀ a, (if own a = i + 1 then 0 else own a) ≤ own a := fun a => by split <;> omega
  refine ⟨by simp [s.len], s.fh, fun a o e => ?_, fun a z => s.al a fun q => z (by rw [q]; split <;> rfl), fun j t x h1 h2 => ?_, s.b0, s.bf, s.bn, s.bh, fun a z q => ?_⟩
  · rw [s.fz a o e]; split <;> rfl
  · by_cases hj : j = i
    · subst hj
      have l1 : j < G.length := by have := (List.getElem?_eq_some_iff.mp h1).1; simpa using this
      rw [List.getElem?_set_self l1] at h1
      rw [List.getElem?_set_self (by rw [s.len]; exact l1)] at h2
      cases h1; cases h2
      exact ⟨v, rfl, hd⟩
    · rw [List.getElem?_set_ne (Ne.symm hj)] at h1 h2
      refine (s.sl j t x h1 h2).go (Same.refl _) (fun _ _ _ q => q) fun a => ?_
      constructor
      · intro z; split at z <;> omega
      · intro z; rw [if_neg (by omega)]; exact z
  · by_cases e : own a = i + 1
    · rw [if_pos e] at z; exact absurd rfl z
    · rw [if_neg e] at z ⊢
      exact s.bd a z q

open Classical in
/-- a slot takes a new thing of the def's own, whose addresses A nobody has -/
theorem Sat.fresh (s : Sat B G F σ H own) (i : Nat) {v : V} {r : Res K} {A : Ad → Prop} (hA : ∀ a, A a → own a = 0 ∧ F a = none ∧ H a ≠ none ∧ B.H0 a = none) (hr : r.holds F v H A) :
    ∃ own', Sat B (G.set i (.ow r)) F (σ.set i (some v)) H own' := by
  let own' : Ad → Nat := fun a => if A a then i + 1 else if own a = i + 1 then 0 else own a
  have p1 : ∀ a, A a → own' a = i + 1 := fun a z => if_pos z
  have p2 : ∀ a, ¬ A a → own' a = if own a = i + 1 then 0 else own a := fun a z => if_neg z
  have pe : ∀ a, own' a = i + 1 ↔ A a := fun a => by
    by_cases z : A a
    · exact ⟨fun _ => z, p1 a⟩
    · refine ⟨fun q => ?_, fun q => absurd q z⟩
      rw [p2 a z] at q
      split at q <;> omega
  have pj : ∀ j a, j ≠ i → (own' a = j + 1 ↔ own a = j + 1) := fun j a hj => by
    by_cases z : A a
    · rw [p1 a z, (hA a z).1]; omega
    · rw [p2 a z]
      by_cases q : own a = i + 1
      · rw [if_pos q]; omega
      · rw [if_neg q]
  refine ⟨own', by simp [s.len], s.fh, fun a o e => ?_, fun a z => ?_, fun j t x h1 h2 => ?_, s.b0, s.bf, s.bn, s.bh, fun a z q => ?_⟩
  · by_cases z : A a
    · rw [(hA a z).2.1] at e; cases e
    · rw [p2 a z, s.fz a o e]; split <;> rfl
  · by_cases q : A a
    · exact (hA a q).2.2.1
    · rw [p2 a q] at z
      exact s.al a fun e => z (by rw [e]; split <;> rfl)
  · by_cases hj : j = i
    · subst hj
      have l1 : j < G.length := by have := (List.getElem?_eq_some_iff.mp h1).1; simpa using this
      rw [List.getElem?_set_self l1] at h1
      rw [List.getElem?_set_self (by rw [s.len]; exact l1)] at h2
      cases h1; cases h2
      refine ⟨v, rfl, ?_⟩
      rw [show (fun a => own' a = j + 1) = A from funext fun a => propext (pe a)]
      exact hr
    · rw [List.getElem?_set_ne (Ne.symm hj)] at h1 h2
      exact (s.sl j t x h1 h2).go (Same.refl _) (fun _ _ _ q => q) fun a => pj j a hj
  · by_cases e : A a
    · exact absurd (hA a e).2.2.2 q
    · rw [p2 a e] at z ⊢
      by_cases e2 : own a = i + 1
      · rw [if_pos e2] at z; exact absurd rfl z
      · rw [if_neg e2] at z ⊢
        exact s.bd a z q

open Classical in
/-- the thing in slot i changes (within its own addresses, or with new ones) -/
theorem Sat.chg (s : Sat B G F σ H own) {i : Nat} {r r' : Res K} {v : V} {A' : Ad → Prop} (hi : G[i]? = some (.ow r)) (hv : σ[i]? = some (some v)) (f : Same F F') (fh : Same F' H')
    (g : ∀ a o, F' a = some o → F a = some o ∨ H a = none) (k : ∀ a o, H a = some o → own a ≠ i + 1 → H' a = some o) (kn : ∀ a, H a ≠ none → H' a ≠ none)
    (hA : ∀ a, A' a → (own a = i + 1 ∨ H a = none) ∧ F' a = none ∧ H' a ≠ none) (hr : r'.holds F' v H' A') :
    ∃ own', Sat B (G.set i (.ow r')) F' σ H' own' := by
  let own' : Ad → Nat := fun a => if A' a then i + 1 else if own a = i + 1 then 0 else own a
  have p1 : ∀ a, A' a → own' a = i + 1 := fun a z => if_pos z
  have p2 : ∀ a, ¬ A' a → own' a = if own a = i + 1 then 0 else own a := fun a z => if_neg z
  have h0 : ∀ a, H a = none → own a = 0 := fun a z => by
    by_cases q : own a = 0
    · exact q
    · exact absurd z (s.al a q)
  have pe : ∀ a, own' a = i + 1 ↔ A' a := fun a => by
    by_cases z : A' a
    · exact ⟨fun _ => z, p1 a⟩
    · refine ⟨fun q => ?_, fun q => absurd q z⟩
      rw [p2 a z] at q
      split at q <;> omega
  have pj : ∀ j a, j ≠ i → (own' a = j + 1 ↔ own a = j + 1) := fun j a hj => by
    by_cases z : A' a
    · rw [p1 a z]
      rcases (hA a z).1 with q | q
      · rw [q]
      · rw [h0 a q]; omega
    · rw [p2 a z]
      by_cases q : own a = i + 1
      · rw [if_pos q]; omega
      · rw [if_neg q]
  refine ⟨own', by simp [s.len], fh, fun a o e => ?_, fun a z => ?_, fun j t x h1 h2 => ?_, s.b0.trans f, fun a o e => ?_, fun a z => kn a (s.bn a z), fun a o z nd => ?_, fun a z q => ?_⟩
  · by_cases z : A' a
    · rw [(hA a z).2.1] at e; cases e
    · rw [p2 a z]
      rcases g a o e with q | q
      · rw [s.fz a o q]; split <;> rfl
      · rw [h0 a q]; split <;> rfl
  · by_cases q : A' a
    · exact (hA a q).2.2
    · rw [p2 a q] at z
      exact kn a (s.al a fun e => z (by rw [e]; split <;> rfl))
  · by_cases hj : j = i
    · subst hj
      have l1 : j < G.length := (List.getElem?_eq_some_iff.mp hi).1
      rw [List.getElem?_set_self l1] at h1
      rw [hv] at h2
      cases h1; cases h2
      refine ⟨v, rfl, ?_⟩
      rw [show (fun a => own' a = j + 1) = A' from funext fun a => propext (pe a)]
      exact hr
    · rw [List.getElem?_set_ne (Ne.symm hj)] at h1
      exact (s.sl j t x h1 h2).go f (fun a o q1 q2 => k a o q2 (by omega)) fun a => pj j a hj
  · rcases g a o e with q | q
    · exact s.bf a o q
    · refine .inr ?_
      by_cases q2 : B.H0 a = none
      · exact q2
      · exact absurd q (s.bn a q2)
  · refine k a o (s.bh a o z nd) fun e => ?_
    have q := s.bd a (by omega) (by rw [z]; simp)
    exact nd _ q
  · by_cases e : A' a
    · rw [p1 a e]
      rcases (hA a e).1 with q2 | q2
      · have := s.bd a (by omega) q
        rw [q2] at this
        exact this
      · exact absurd q2 (s.bn a q)
    · rw [p2 a e] at z ⊢
      by_cases e2 : own a = i + 1
      · rw [if_pos e2] at z; exact absurd rfl z
      · rw [if_neg e2] at z ⊢
        exact s.bd a z q

open Classical in
/-- the thing in slot i becomes data: nothing of it stood at the entry -/
theorem Sat.ice (s : Sat B G F σ H own) (dk0 : ∀ a n, B.dk a n → n = 1) {i : Nat} {v : V} {d : PyData} (hi : i ≠ 0) (hv : σ[i]? = some (some v)) (f : Same F F') (fh : Same F' H)
    (g : ∀ a o, F' a = some o → F a = some o ∨ own a = i + 1) (hd : Dp K F' v d) : ∃ own', Sat B (G.set i (.da d)) F' σ H own' := by
  have off : ∀ a, own a = i + 1 → B.H0 a = none := fun a e => by
    by_cases q : B.H0 a = none
    · exact q
    · have := dk0 _ _ (s.bd a (by omega) q)
      omega
  refine ⟨fun a => if own a = i + 1 then 0 else own a, ?_⟩
  refine ⟨by simp [s.len], fh, fun a o e => ?_, fun a z => s.al a fun q => z (by rw [q]; split <;> rfl), fun j t x h1 h2 => ?_, s.b0.trans f, fun a o e => ?_, s.bn, s.bh, fun a z q => ?_⟩
  · rcases g a o e with q | q
    · rw [s.fz a o q]; split <;> rfl
    · exact if_pos q
  · by_cases hj : j = i
    · subst hj
      have l1 : j < G.length := by have := (List.getElem?_eq_some_iff.mp h1).1; simpa using this
      rw [List.getElem?_set_self l1] at h1
      rw [hv] at h2
      cases h1; cases h2
      exact ⟨v, rfl, hd⟩
    · rw [List.getElem?_set_ne (Ne.symm hj)] at h1
      refine (s.sl j t x h1 h2).go f (fun _ _ _ q => q) fun a => ?_
      constructor
      · intro z; split at z <;> omega
      · intro z; rw [if_neg (by omega)]; exact z
  · rcases g a o e with q | q
    · exact s.bf a o q
    · exact .inr (off a q)
  · by_cases e : own a = i + 1
    · rw [if_pos e] at z; exact absurd rfl z
    · rw [if_neg e] at z ⊢
      exact s.bd a z q

/-- less is known of the slots -/
inductive Wk : List (Sl K) → List (Sl K) → Prop where
  | nil : Wk [] []
  | same {s : Sl K} {G G' : List (Sl K)} : Wk G G' → Wk (s :: G) (s :: G')
  | un {s : Sl K} {G G' : List (Sl K)} : Wk G G' → Wk (s :: G) (.un :: G')
theorem Wk.refl : ∀ G : List (Sl K), Wk G G
  | [] => .nil
  | _ :: G => .same (Wk.refl G)
theorem Wk.len : ∀ {G G' : List (Sl K)}, Wk G G' → G.length = G'.length
  | _, _, .nil => rfl
  | _, _, .same h => by rw [List.length_cons, List.length_cons, Wk.len h]
  | _, _, .un h => by rw [List.length_cons, List.length_cons, Wk.len h]
theorem Wk.get : ∀ {G G' : List (Sl K)}, Wk G G' → ∀ (i : Nat) (s : Sl K), G'[i]? = some s → s = .un ∨ G[i]? = some s
  | _, _, .nil, _, _, e => by simp at e
  | _, _, .same _, 0, _, e => .inr (by simpa using e)
  | _, _, .un _, 0, _, e => .inl (by simpa using e.symm)
  | _, _, .same h, i + 1, s, e => by simpa using Wk.get h i s (by simpa using e)
  | _, _, .un h, i + 1, s, e => by simpa using Wk.get h i s (by simpa using e)
theorem Sat.wk {G' : List (Sl K)} (s : Sat B G F σ H own) (w : Wk G G') : Sat B G' F σ H own := by
  refine ⟨by rw [s.len, w.len], s.fh, s.fz, s.al, fun i t x h1 h2 => ?_, s.b0, s.bf, s.bn, s.bh, s.bd⟩
  rcases w.get i t h1 with z | z
  · subst z; trivial
  · exact s.sl i t x z h2
end
end Fz

set_option Elab.async false
set_option linter.all false
set_option maxRecDepth 100000
set_option maxHeartbeats 4000000
/-! part J: the judgements over slots and their rules -/
namespace Fz
open PySem PySem.Spec PyProof.Rows L2

/-- the frozen part grows by new objects alone -/
def Gr (F F' H : Hp) : Prop := ∀ a o, F' a = some o → F a = some o ∨ H a = none
theorem Gr.refl (F H : Hp) : Gr F F H := fun _ _ e => .inl e
theorem gr_new {F H : Hp} {p : Ad} {o : HO} (n : H p = none) : Gr F (upd F p o) H := fun a u e => by
  by_cases h : a = p
  · subst h; exact .inr n
  · rw [upd_ne h] at e; exact .inl e
theorem same_new {H : Hp} {p : Ad} {o : HO} (n : H p = none) : Same H (upd H p o) := fun b u e => by
  rw [upd_ne (ne_of_none e n)]; exact e
theorem none_dn {F H : Hp} (s : Same F H) {p : Ad} (n : H p = none) : F p = none := s.free n
theorem same_both {F H : Hp} (s : Same F H) {p : Ad} {o : HO} : Same (upd F p o) (upd H p o) := fun a u e => by
  by_cases h : a = p
  · subst h; rw [upd_same] at e ⊢; exact e
  · rw [upd_ne h] at e ⊢; exact s a u e

section
variable {K : Fg}
abbrev Ctx (K : Fg) := List (Sl K)
/-- an expression: from these slots it hands back some data d with P d at the slots behind it -/
def EJ (K : Fg) (t : TE) (G : Ctx K) (P : PyData → Ctx K → Prop) : Prop := ∀ (B : Bs) (F : Hp) (σ : L2.St) (H : Hp) (own : Ad → Nat) (Q : VK), Sat B G F σ H own →
  (∀ v d G' F' H' own', P d G' → Sat B G' F' σ H' own' → Dp K F' v d → Same F F' → Q v H') → t σ H Q
/-- .. this data, the slots as they were -/
def EV (K : Fg) (t : TE) (G : Ctx K) (d : PyData) : Prop := ∀ (B : Bs) (F : Hp) (σ : L2.St) (H : Hp) (own : Ad → Nat) (Q : VK), Sat B G F σ H own →
  (∀ v F' H' own', Sat B G F' σ H' own' → Dp K F' v d → Same F F' → Q v H') → t σ H Q
/-- .. a new list of these -/
def EL (K : Fg) (t : TE) (G : Ctx K) (ds : List PyData) : Prop := ∀ (B : Bs) (F : Hp) (σ : L2.St) (H : Hp) (own : Ad → Nat) (Q : VK), Sat B G F σ H own →
  (∀ p vs F' H' own', Sat B G F' σ H' own' → own' p = 0 → F' p = none → B.H0 p = none → H' p = some (.lst vs) → DpAll K F' vs ds → ds.length ≤ 100000 → Same F F' → Q (.ref p) H') → t σ H Q
def EJL (K : Fg) (t : TE) (G : Ctx K) (P : List PyData → Ctx K → Prop) : Prop := ∀ (B : Bs) (F : Hp) (σ : L2.St) (H : Hp) (own : Ad → Nat) (Q : VK), Sat B G F σ H own →
  (∀ p vs ds G' F' H' own', P ds G' → Sat B G' F' σ H' own' → own' p = 0 → F' p = none → B.H0 p = none → H' p = some (.lst vs) → DpAll K F' vs ds → ds.length ≤ 100000 → Same F F' → Q (.ref p) H') → t σ H Q
def EVA (K : Fg) (t : TA) (G : Ctx K) (ds : List PyData) : Prop := ∀ (B : Bs) (F : Hp) (σ : L2.St) (H : Hp) (own : Ad → Nat) (Q : List V → Hp → Prop), Sat B G F σ H own →
  (∀ vs F' H' own', Sat B G F' σ H' own' → DpAll K F' vs ds → Same F F' → Q vs H') → t σ H Q
def EJA (K : Fg) (t : TA) (G : Ctx K) (P : List PyData → Ctx K → Prop) : Prop := ∀ (B : Bs) (F : Hp) (σ : L2.St) (H : Hp) (own : Ad → Nat) (Q : List V → Hp → Prop), Sat B G F σ H own →
  (∀ vs ds G' F' H' own', P ds G' → Sat B G' F' σ H' own' → DpAll K F' vs ds → Same F F' → Q vs H') → t σ H Q
def EVT (K : Fg) (t : TT) (G : Ctx K) (b : Bool) : Prop := ∀ (B : Bs) (F : Hp) (σ : L2.St) (H : Hp) (own : Ad → Nat) (Q : Bool → Hp → Prop), Sat B G F σ H own →
  (∀ F' H' own', Sat B G F' σ H' own' → Same F F' → Q b H') → t σ H Q
variable {G : Ctx K} {t ta tb tc : TE} {tA tB' : TT} {ta' : TA} {d d1 d2 d3 : PyData} {ds : List PyData} {P : PyData → Ctx K → Prop}

theorem ej_of (h : EV K t G d) (p : P d G) : EJ K t G P := fun B F σ H own Q s k =>
  h B F σ H own Q s fun v F' H' own' s' hd f => k v d G F' H' own' p s' hd f
theorem ej_mono {P' : PyData → Ctx K → Prop} (h : EJ K t G P) (p : ∀ d G', P d G' → P' d G') : EJ K t G P' := fun B F σ H own Q s k =>
  h B F σ H own Q s fun v d G' F' H' own' q s' hd f => k v d G' F' H' own' (p _ _ q) s' hd f
theorem eja_of {P : List PyData → Ctx K → Prop} (h : EVA K ta' G ds) (p : P ds G) : EJA K ta' G P := fun B F σ H own Q s k =>
  h B F σ H own Q s fun v F' H' own' s' hd f => k v ds G F' H' own' p s' hd f
theorem ev_is (h : EV K t G d) (e : d = d1) : EV K t G d1 := by rw [← e]; exact h
theorem el_is {es : List PyData} (h : EL K t G ds) (e : ds = es) : EL K t G es := by rw [← e]; exact h

theorem Sat.slot {B : Bs} {F H : Hp} {σ : L2.St} {own : Ad → Nat} (s : Sat B G F σ H own) {i : Nat} {x : Sl K} (h : G[i]? = some x) : ∃ y, σ[i]? = some y ∧ SlOk x y F H own i := by
  have hi := (List.getElem?_eq_some_iff.mp h).1
  have l := s.len
  exact ⟨_, List.getElem?_eq_getElem (by omega), s.sl i x _ h (List.getElem?_eq_getElem (by omega))⟩

theorem ev_var {i : Nat} (h : G[i]? = some (.da d)) : EV K (tVar i) G d := fun B F σ H own Q s k => by
  obtain ⟨y, hy, v, rfl, hv⟩ := s.slot h
  exact ⟨v, hy, k v F H own s hv (Same.refl _)⟩
theorem ev_int {n : Int} : EV K (tC (.int n)) G (.int n) := fun B F σ H own Q s k => k _ F H own s (.int n) (Same.refl _)
theorem ev_bl {b : Bool} : EV K (tC (.bl b)) G (.bool b) := fun B F σ H own Q s k => k _ F H own s (.bl b) (Same.refl _)
theorem ev_non : EV K (tC .non) G .none := fun B F σ H own Q s k => k _ F H own s .non (Same.refl _)
theorem ev_str {x : Str} : EV K (tC (.str x)) G (.str x) := fun B F σ H own Q s k => k _ F H own s (.str x) (Same.refl _)

/-! ### operations on data -/
/-- what an operation on values does with data -/
def RD1 (K : Fg) (r : V → Hp → VK → Prop) (d1 d : PyData) : Prop := ∀ (F H : Hp) (x : V) (Q : VK), Same F H → Dp K F x d1 →
  (∀ v F' H', Same F F' → Same F' H' → Same H H' → Gr F F' H → Dp K F' v d → Q v H') → r x H Q
def RD2 (K : Fg) (r : R2) (d1 d2 d : PyData) : Prop := ∀ (F H : Hp) (x y : V) (Q : VK), Same F H → Dp K F x d1 → Dp K F y d2 →
  (∀ v F' H', Same F F' → Same F' H' → Same H H' → Gr F F' H → Dp K F' v d → Q v H') → r x y H Q
def RDL (K : Fg) (r : List V → Hp → VK → Prop) (ds : List PyData) (d : PyData) : Prop := ∀ (F H : Hp) (vs : List V) (Q : VK), Same F H → DpAll K F vs ds →
  (∀ v F' H', Same F F' → Same F' H' → Same H H' → Gr F F' H → Dp K F' v d → Q v H') → r vs H Q
def RL2 (K : Fg) (r : R2) (d1 d2 : PyData) (es : List PyData) : Prop := ∀ (F H : Hp) (x y : V) (Q : VK), Same F H → Dp K F x d1 → Dp K F y d2 →
  (∀ p ws F' H', H p = none → F' p = none → H' p = some (.lst ws) → Same F F' → Same F' H' → Same H H' → Gr F F' H → DpAll K F' ws es → es.length ≤ 100000 → Q (.ref p) H') → r x y H Q
/-- a value's operation that makes nothing -/
theorem rd2_val {r : R2} (h : ∀ (F H : Hp) (x y : V) (Q : VK), Same F H → Dp K F x d1 → Dp K F y d2 → (∀ v, Dp K F v d → Q v H) → r x y H Q) : RD2 K r d1 d2 d := fun F H x y Q s h1 h2 k =>
  h F H x y Q s h1 h2 fun v hv => k v F H (Same.refl _) s (Same.refl _) (Gr.refl _ _) hv
theorem rdl_val {r : List V → Hp → VK → Prop} (h : ∀ (F H : Hp) (vs : List V) (Q : VK), Same F H → DpAll K F vs ds → (∀ v, Dp K F v d → Q v H) → r vs H Q) : RDL K r ds d := fun F H vs Q s h1 k =>
  h F H vs Q s h1 fun v hv => k v F H (Same.refl _) s (Same.refl _) (Gr.refl _ _) hv
theorem rd2_of {r : R2} {es : List PyData} (h : RL2 K r d1 d2 es) : RD2 K r d1 d2 (.list es) := fun F H x y Q s h1 h2 k =>
  h F H x y Q s h1 h2 fun p ws F' H' np nf hp f fh hh g hd hz =>
    k (.ref p) (upd F' p (.lst ws)) H' (f.trans (same_new nf)) (fun a o e => by
      by_cases z : a = p
      · subst z; rw [upd_same] at e; rw [← e]; exact hp
      · rw [upd_ne z] at e; exact fh a o e) hh (fun a o e => by
      by_cases z : a = p
      · subst z; exact .inr np
      · rw [upd_ne z] at e; exact g a o e) (.lst (SqL.of upd_same) (dpa_up (same_new nf) _ _ hd) hz)

theorem ev_un {r : V → Hp → VK → Prop} (ha : EV K ta G d1) (hr : RD1 K r d1 d) : EV K (tUn r ta) G d := fun B F σ H own Q s k =>
  ha B F σ H own _ s fun x F1 H1 own1 s1 h1 f1 => hr F1 H1 x Q s1.fh h1 fun v F2 H2 f2 fh hh g hd =>
    let ⟨own2, s2, _⟩ := s1.step f2 fh hh g
    k v F2 H2 own2 s2 hd (f1.trans f2)
theorem ev_op {r : R2} (ha : EV K ta G d1) (hb : EV K tb G d2) (hr : RD2 K r d1 d2 d) : EV K (tOp r ta tb) G d := fun B F σ H own Q s k =>
  ha B F σ H own _ s fun x F1 H1 own1 s1 h1 f1 => hb B F1 σ H1 own1 _ s1 fun y F2 H2 own2 s2 h2 f2 =>
    hr F2 H2 x y Q s2.fh (dp_up f2 _ _ h1) h2 fun v F3 H3 f3 fh hh g hd =>
      let ⟨own3, s3, _⟩ := s2.step f3 fh hh g
      k v F3 H3 own3 s3 hd ((f1.trans f2).trans f3)
theorem ej_op {r : R2} (ha : EJ K ta G fun d1 G1 => EJ K tb G1 fun d2 G2 => ∃ d, RD2 K r d1 d2 d ∧ P d G2) : EJ K (tOp r ta tb) G P := fun B F σ H own Q s k =>
  ha B F σ H own _ s fun x d1 G1 F1 H1 own1 hb s1 h1 f1 => hb B F1 σ H1 own1 _ s1 fun y d2 G2 F2 H2 own2 hr s2 h2 f2 => by
    obtain ⟨d, hr, p⟩ := hr
    exact hr F2 H2 x y Q s2.fh (dp_up f2 _ _ h1) h2 fun v F3 H3 f3 fh hh g hd =>
      let ⟨own3, s3, _⟩ := s2.step f3 fh hh g
      k v d G2 F3 H3 own3 p s3 hd ((f1.trans f2).trans f3)
theorem eva_nil : EVA K tNil G [] := fun B F σ H own Q s k => k [] F H own s .nil (Same.refl _)
theorem eva_cons {tr : TA} (ha : EV K ta G d) (hr : EVA K tr G ds) : EVA K (tCons ta tr) G (d :: ds) := fun B F σ H own Q s k =>
  ha B F σ H own _ s fun x F1 H1 own1 s1 h1 f1 => hr B F1 σ H1 own1 _ s1 fun vs F2 H2 own2 s2 h2 f2 =>
    k (x :: vs) F2 H2 own2 s2 (.cons (dp_up f2 _ _ h1) h2) (f1.trans f2)
theorem eja_nil {P : List PyData → Ctx K → Prop} (p : P [] G) : EJA K tNil G P := fun B F σ H own Q s k => k [] [] G F H own p s .nil (Same.refl _)
theorem eja_cons {tr : TA} {P : List PyData → Ctx K → Prop} (ha : EJ K ta G fun d G1 => EJA K tr G1 fun ds G2 => P (d :: ds) G2) : EJA K (tCons ta tr) G P := fun B F σ H own Q s k =>
  ha B F σ H own _ s fun x d G1 F1 H1 own1 hr s1 h1 f1 => hr B F1 σ H1 own1 _ s1 fun vs ds G2 F2 H2 own2 p s2 h2 f2 =>
    k (x :: vs) (d :: ds) G2 F2 H2 own2 p s2 (.cons (dp_up f2 _ _ h1) h2) (f1.trans f2)
theorem ev_cb {r : List V → Hp → VK → Prop} (ha : EVA K ta' G ds) (hr : RDL K r ds d) : EV K (tCB r ta') G d := fun B F σ H own Q s k =>
  ha B F σ H own _ s fun vs F1 H1 own1 s1 h1 f1 => hr F1 H1 vs Q s1.fh h1 fun v F2 H2 f2 fh hh g hd =>
    let ⟨own2, s2, _⟩ := s1.step f2 fh hh g
    k v F2 H2 own2 s2 hd (f1.trans f2)
/-- a new list that nobody has -/
theorem Sat.newl {B : Bs} {F F' H H' : Hp} {σ : L2.St} {own : Ad → Nat} (s : Sat B G F σ H own) {p : Ad} (np : H p = none) (f : Same F F') (fh : Same F' H') (hh : Same H H') (g : Gr F F' H) :
    ∃ own', Sat B G F' σ H' own' ∧ own' p = 0 ∧ B.H0 p = none := by
  obtain ⟨own', s', z⟩ := s.step f fh hh g
  refine ⟨own', s', z p np, ?_⟩
  cases q : B.H0 p with
  | none => rfl
  | some o => exact absurd np (s.bn p (by rw [q]; simp))
theorem el_op {r : R2} {es : List PyData} (ha : EV K ta G d1) (hb : EV K tb G d2) (hr : RL2 K r d1 d2 es) : EL K (tOp r ta tb) G es := fun B F σ H own Q s k =>
  ha B F σ H own _ s fun x F1 H1 own1 s1 h1 f1 => hb B F1 σ H1 own1 _ s1 fun y F2 H2 own2 s2 h2 f2 =>
    hr F2 H2 x y Q s2.fh (dp_up f2 _ _ h1) h2 fun p ws F3 H3 np nf hp f3 fh hh g hd hz =>
      let ⟨own3, s3, o3, b3⟩ := s2.newl np f3 fh hh g
      k p ws F3 H3 own3 s3 o3 nf b3 hp hd hz ((f1.trans f2).trans f3)
/-- a new list is data -/
theorem ev_ofL (h : EL K t G ds) : EV K t G (.list ds) := fun B F σ H own Q s k =>
  h B F σ H own Q s fun p vs F' H' own' s' o nf nb hp hd hz f => by
    have f2 : Same F' (upd F' p (.lst vs)) := same_new nf
    have ff : Same (upd F' p (.lst vs)) H' := fun a u e => by
      by_cases z : a = p
      · subst z; rw [upd_same] at e; rw [← e]; exact hp
      · rw [upd_ne z] at e; exact s'.fh a u e
    refine k (.ref p) (upd F' p (.lst vs)) H' own' ⟨s'.len, ff, fun a u e => ?_, s'.al, fun i x y h1 h2 => (s'.sl i x y h1 h2).go f2 (fun _ _ _ q => q) fun _ => Iff.rfl, s'.b0.trans f2, fun a u e => ?_, s'.bn, s'.bh, s'.bd⟩ (.lst (SqL.of upd_same) (dpa_up f2 _ _ hd) hz) (f.trans f2)
    · by_cases z : a = p
      · rw [z]; exact o
      · rw [upd_ne z] at e; exact s'.fz a u e
    · by_cases z : a = p
      · rw [z]; exact .inr nb
      · rw [upd_ne z] at e; exact s'.bf a u e
theorem ej_ofL (h : EJL K t G fun ds G' => P (.list ds) G') : EJ K t G P := fun B F σ H own Q s k =>
  h B F σ H own Q s fun p vs ds G' F' H' own' pp s' o nf nb hp hd hz f => by
    have f2 : Same F' (upd F' p (.lst vs)) := same_new nf
    have ff : Same (upd F' p (.lst vs)) H' := fun a u e => by
      by_cases z : a = p
      · subst z; rw [upd_same] at e; rw [← e]; exact hp
      · rw [upd_ne z] at e; exact s'.fh a u e
    refine k (.ref p) (.list ds) G' (upd F' p (.lst vs)) H' own' pp ⟨s'.len, ff, fun a u e => ?_, s'.al, fun i x y h1 h2 => (s'.sl i x y h1 h2).go f2 (fun _ _ _ q => q) fun _ => Iff.rfl, s'.b0.trans f2, fun a u e => ?_, s'.bn, s'.bh, s'.bd⟩ (.lst (SqL.of upd_same) (dpa_up f2 _ _ hd) hz) (f.trans f2)
    · by_cases z : a = p
      · rw [z]; exact o
      · rw [upd_ne z] at e; exact s'.fz a u e
    · by_cases z : a = p
      · rw [z]; exact .inr nb
      · rw [upd_ne z] at e; exact s'.bf a u e
theorem ev_tup (ha : EVA K ta' G ds) (hz : ds.length ≤ 100000 := by exact Nat.le_of_ble_eq_true rfl) : EV K (tTup ta') G (.tuple ds) := fun B F σ H own Q s k =>
  ha B F σ H own _ s fun vs F1 H1 own1 s1 h1 f1 => by
    refine ⟨Nat.le_trans (by rw [dpa_len h1]; exact hz) (by decide), fun p np => ?_⟩
    have nf := none_dn s1.fh np
    obtain ⟨own2, s2, _⟩ := s1.step (same_new (o := .tup vs) nf) (same_both s1.fh) (same_new np) (gr_new np)
    exact k (.ref p) _ _ own2 s2 (.tup (SqT.of upd_same) (dpa_up (same_new nf) _ _ h1) hz) (f1.trans (same_new nf))
theorem ej_tup (ha : EJA K ta' G fun ds G1 => ds.length ≤ 100000 ∧ P (.tuple ds) G1) : EJ K (tTup ta') G P := fun B F σ H own Q s k =>
  ha B F σ H own _ s fun vs ds G1 F1 H1 own1 p s1 h1 f1 => by
    obtain ⟨hz, pp⟩ := p
    refine ⟨Nat.le_trans (by rw [dpa_len h1]; exact hz) (by decide), fun p np => ?_⟩
    have nf := none_dn s1.fh np
    obtain ⟨own2, s2, _⟩ := s1.step (same_new (o := .tup vs) nf) (same_both s1.fh) (same_new np) (gr_new np)
    exact k (.ref p) _ G1 _ _ own2 pp s2 (.tup (SqT.of upd_same) (dpa_up (same_new nf) _ _ h1) hz) (f1.trans (same_new nf))
theorem el_lst (ha : EVA K ta' G ds) (hz : ds.length ≤ 100000 := by exact Nat.le_of_ble_eq_true rfl) : EL K (tLst ta') G ds := fun B F σ H own Q s k =>
  ha B F σ H own _ s fun vs F1 H1 own1 s1 h1 f1 => by
    refine ⟨Nat.le_trans (by rw [dpa_len h1]; exact hz) (by decide), fun p np => ?_⟩
    have nf := none_dn s1.fh np
    have f2 : Same F1 (upd H1 p (.lst vs)) := s1.fh.trans (same_new np)
    obtain ⟨own2, s2, o2, b2⟩ := s1.newl np (Same.refl F1) f2 (same_new np) (Gr.refl _ _)
    exact k p vs F1 _ own2 s2 o2 nf b2 upd_same h1 hz f1
theorem ejl_lst {P : List PyData → Ctx K → Prop} (ha : EJA K ta' G fun ds G1 => ds.length ≤ 100000 ∧ P ds G1) : EJL K (tLst ta') G P := fun B F σ H own Q s k =>
  ha B F σ H own _ s fun vs ds G1 F1 H1 own1 p s1 h1 f1 => by
    obtain ⟨hz, pp⟩ := p
    refine ⟨Nat.le_trans (by rw [dpa_len h1]; exact hz) (by decide), fun p np => ?_⟩
    have nf := none_dn s1.fh np
    have f2 : Same F1 (upd H1 p (.lst vs)) := s1.fh.trans (same_new np)
    obtain ⟨own2, s2, o2, b2⟩ := s1.newl np (Same.refl F1) f2 (same_new np) (Gr.refl _ _)
    exact k p vs ds G1 F1 _ own2 pp s2 o2 nf b2 upd_same h1 hz f1

/-! ### tests -/
theorem et_test {b : Bool} (h : EV K t G (.bool b)) : EVT K (tTest t) G b := fun B F σ H own Q s k =>
  h B F σ H own _ s fun v F' H' own' s' hd f => ⟨b, dp_bl hd, k F' H' own' s' f⟩
theorem et_B {b : Bool} (h : EV K t G (.bool b)) : EVT K (tB t) G b := fun B F σ H own Q s k =>
  h B F σ H own _ s fun v F' H' own' s' hd f => ⟨b, dp_bl hd, k F' H' own' s' f⟩
theorem et_and {a b : Bool} (h1 : EVT K tA G a) (h2 : a = true → EVT K tB' G b) : EVT K (tAnd tA tB') G (a && b) := fun B F σ H own Q s k =>
  h1 B F σ H own _ s fun F1 H1 own1 s1 f1 => by
    cases a with
    | true => exact (show tB' σ H1 Q from h2 rfl B F1 σ H1 own1 Q s1 fun F2 H2 own2 s2 f2 => k F2 H2 own2 s2 (f1.trans f2))
    | false => exact (show Q false H1 from k F1 H1 own1 s1 f1)
theorem et_or {a b : Bool} (h1 : EVT K tA G a) (h2 : a = false → EVT K tB' G b) : EVT K (tOr tA tB') G (a || b) := fun B F σ H own Q s k =>
  h1 B F σ H own _ s fun F1 H1 own1 s1 f1 => by
    cases a with
    | false => exact (show tB' σ H1 Q from h2 rfl B F1 σ H1 own1 Q s1 fun F2 H2 own2 s2 f2 => k F2 H2 own2 s2 (f1.trans f2))
    | true => exact (show Q true H1 from k F1 H1 own1 s1 f1)
theorem et_not {a : Bool} (h1 : EVT K tA G a) : EVT K (tNot tA) G (!a) := fun B F σ H own Q s k =>
  h1 B F σ H own _ s fun F1 H1 own1 s1 f1 => k F1 H1 own1 s1 f1
theorem et_yes : EVT K tYes G true := fun B F σ H own Q s k => k F H own s (Same.refl _)
theorem ev_andV {a b : Bool} (h1 : EV K ta G (.bool a)) (h2 : a = true → EV K tb G (.bool b)) : EV K (tAndV ta tb) G (.bool (a && b)) := fun B F σ H own Q s k =>
  h1 B F σ H own _ s fun v F1 H1 own1 s1 hv f1 => ⟨a, dp_bl hv, by
    cases a with
    | true => exact (show tb σ H1 Q from h2 rfl B F1 σ H1 own1 Q s1 fun v F2 H2 own2 s2 hv f2 => k v F2 H2 own2 s2 hv (f1.trans f2))
    | false => exact (show Q (.bl false) H1 from k _ F1 H1 own1 s1 (.bl false) f1)⟩
theorem ev_notV {a : Bool} (h1 : EV K ta G (.bool a)) : EV K (tNotV ta) G (.bool (!a)) := fun B F σ H own Q s k =>
  h1 B F σ H own _ s fun v F1 H1 own1 s1 hv f1 => ⟨a, dp_bl hv, k _ F1 H1 own1 s1 (.bl _) f1⟩
theorem ev_if {b : Bool} (h : EVT K tA G b) (h1 : b = true → EV K ta G d1) (h2 : b = false → EV K tb G d2) : EV K (tIf tA ta tb) G (if b = true then d1 else d2) := fun B F σ H own Q s k =>
  h B F σ H own _ s fun F1 H1 own1 s1 f1 => by
    cases b with
    | true => exact (show ta σ H1 Q from h1 rfl B F1 σ H1 own1 Q s1 fun v F2 H2 own2 s2 hv f2 => k v F2 H2 own2 s2 hv (f1.trans f2))
    | false => exact (show tb σ H1 Q from h2 rfl B F1 σ H1 own1 Q s1 fun v F2 H2 own2 s2 hv f2 => k v F2 H2 own2 s2 hv (f1.trans f2))
theorem ev_chain {r r' : R2} {a b : Bool} (ha : EV K ta G d1) (hb : EV K tb G d2) (hc : a = true → EV K tc G d3) (hr : RD2 K r d1 d2 (.bool a)) (hr' : a = true → RD2 K r' d2 d3 (.bool b)) :
    EV K (tChain r r' ta tb tc) G (.bool (a && b)) := fun B F σ H own Q s k =>
  ha B F σ H own _ s fun x F1 H1 own1 s1 h1 f1 => hb B F1 σ H1 own1 _ s1 fun y F2 H2 own2 s2 h2 f2 =>
    hr F2 H2 x y _ s2.fh (dp_up f2 _ _ h1) h2 fun z F3 H3 f3 fh hh g hz => by
      obtain ⟨own3, s3, _⟩ := s2.step f3 fh hh g
      refine ⟨a, dp_bl hz, ?_⟩
      cases a with
      | false => exact (show Q (.bl false) H3 from k _ F3 H3 own3 s3 (.bl _) ((f1.trans f2).trans f3))
      | true =>
        show tc σ H3 fun w' H4 => r' y w' H4 Q
        refine hc rfl B F3 σ H3 own3 _ s3 fun w F4 H4 own4 s4 h4 f4 => ?_
        refine hr' rfl F4 H4 y w Q s4.fh (dp_up (f3.trans f4) _ _ h2) h4 fun v F5 H5 f5 fh5 hh5 g5 hv => ?_
        obtain ⟨own5, s5, _⟩ := s4.step f5 fh5 hh5 g5
        exact k v F5 H5 own5 s5 hv ((((f1.trans f2).trans f3).trans f4).trans f5)
end
end Fz

set_option Elab.async false
set_option linter.all false
set_option maxRecDepth 100000
set_option maxHeartbeats 4000000
/-! part T: targets, walks, comprehensions, statements, defs -/
namespace Fz
open PySem PySem.Spec PyProof.Rows L2
section
variable {K : Fg}

/-! ### targets: they store in the slots vs alone -/
def GJ (K : Fg) (g : TG) (d : PyData) (G : Ctx K) (vs : List Nat) (P : Ctx K → Prop) : Prop := ∀ (B : Bs) (F : Hp) (σ : L2.St) (H : Hp) (own : Ad → Nat) (v : V) (Q : L2.St → Hp → Prop), Sat B G F σ H own → Dp K F v d →
  (∀ G' σ' own', P G' → Sat B G' F σ' H own' → σ'.length = σ.length → (∀ i, i ∉ vs → σ'[i]? = σ[i]? ∧ G'[i]? = G[i]?) → Q σ' H) → g v σ H Q
def GJs (K : Fg) (g : TGs) (ds : List PyData) (G : Ctx K) (vs : List Nat) (P : Ctx K → Prop) : Prop := ∀ (B : Bs) (F : Hp) (σ : L2.St) (H : Hp) (own : Ad → Nat) (xs : List V) (Q : L2.St → Hp → Prop), Sat B G F σ H own → DpAll K F xs ds →
  (∀ G' σ' own', P G' → Sat B G' F σ' H own' → σ'.length = σ.length → (∀ i, i ∉ vs → σ'[i]? = σ[i]? ∧ G'[i]? = G[i]?) → Q σ' H) → g xs σ H Q
variable {G : Ctx K} {t ta tb : TE} {d : PyData} {ds : List PyData} {vs : List Nat} {Pg : Ctx K → Prop} {tA : TT} {g : TG} {gs : TGs}
theorem gj_name {i : Nat} (p : Pg (G.set i (.da d))) (hi : i ∈ vs := by decide) : GJ K (gName i) d G vs Pg := fun B F σ H own v Q s hv k => by
  obtain ⟨own', s'⟩ := s.put i hv
  refine k _ (σ.set i (some v)) own' p s' (by simp) fun j hj => ?_
  have ne : i ≠ j := fun e => hj (e ▸ hi)
  exact ⟨List.getElem?_set_ne ne, List.getElem?_set_ne ne⟩
theorem gjs_nil (p : Pg G) : GJs K gNil [] G vs Pg := fun B F σ H own xs Q s hv k => ⟨dpa_nil hv, k G σ own p s rfl fun _ _ => ⟨rfl, rfl⟩⟩
theorem gjs_cons (h : GJ K g d G vs fun G1 => GJs K gs ds G1 vs Pg) : GJs K (gCons g gs) (d :: ds) G vs Pg := fun B F σ H own xs Q s hv k => by
  obtain ⟨v, ws, rfl, h1, h2⟩ := dpa_cons hv
  refine ⟨v, ws, rfl, h B F σ H own v _ s h1 fun G1 σ1 own1 hs s1 l1 e1 => hs B F σ1 H own1 ws Q s1 h2 fun G2 σ2 own2 p s2 l2 e2 => k G2 σ2 own2 p s2 (l2.trans l1) fun i hi => ⟨(e2 i hi).1.trans (e1 i hi).1, (e2 i hi).2.trans (e1 i hi).2⟩⟩
theorem gj_tup {n : Nat} (h : GJs K gs ds G vs Pg) (hn : ds.length = n := by rfl) : GJ K (gTup K n gs) (.tuple ds) G vs Pg := fun B F σ H own v Q s hv k => by
  obtain ⟨a, xs, rfl, h1, h2⟩ := dp_tup hv
  exact ⟨a, xs, rfl, sqT_up s.fh h1, by rw [dpa_len h2]; exact hn, h B F σ H own xs Q s h2 k⟩
/-! ### what is walked -/
/-- the items are ds, in a heap above F -/
def ItD (K : Fg) (J : It) (F : Hp) (ds : List PyData) : Prop := ds.length ≤ 100000 ∧ ∀ H, Same F H → (∀ i, i < ds.length → J.go i H) ∧ (∀ i, ds.length ≤ i → J.stop i H) ∧
  ∀ i x H', i < ds.length → J.yld i H x H' → ∃ d, ds[i]? = some d ∧ ((H' = H ∧ Dp K F x d) ∨ ∃ T xs es, x = .ref T ∧ H T = none ∧ H' = upd H T (.tup xs) ∧ d = .tuple es ∧ DpAll K F xs es ∧ es.length ≤ 100000)
def DI (K : Fg) (wi : TI) (G : Ctx K) (ds : List PyData) : Prop := ∀ (B : Bs) (F : Hp) (σ : L2.St) (H : Hp) (own : Ad → Nat) (R : It → Hp → Prop), Sat B G F σ H own →
  (∀ J F' H' own', Sat B G F' σ H' own' → Same F F' → ItD K J F' ds → R J H') → wi σ H R
def DIJ (K : Fg) (wi : TI) (G : Ctx K) (P : List PyData → Ctx K → Prop) : Prop := ∀ (B : Bs) (F : Hp) (σ : L2.St) (H : Hp) (own : Ad → Nat) (R : It → Hp → Prop), Sat B G F σ H own →
  (∀ J ds G' F' H' own', P ds G' → Sat B G' F' σ H' own' → Same F F' → ItD K J F' ds → R J H') → wi σ H R
theorem dij_of {wi : TI} {P : List PyData → Ctx K → Prop} (h : DI K wi G ds) (p : P ds G) : DIJ K wi G P := fun B F σ H own R s k =>
  h B F σ H own R s fun J F' H' own' s' f i => k J ds G F' H' own' p s' f i
theorem itd_up {J : It} {F F' : Hp} (h : ItD K J F ds) (f : Same F F') : ItD K J F' ds := ⟨h.1, fun H s => by
  obtain ⟨h1, h2, h3⟩ := h.2 H (f.trans s)
  refine ⟨h1, h2, fun i x H' hi hy => ?_⟩
  obtain ⟨d, e, q⟩ := h3 i x H' hi hy
  refine ⟨d, e, ?_⟩
  rcases q with ⟨q1, q2⟩ | ⟨T, xs, es, q1, q2, q3, q4, q5, q6⟩
  · exact .inl ⟨q1, dp_up f _ _ q2⟩
  · exact .inr ⟨T, xs, es, q1, q2, q3, q4, dpa_up f _ _ q5, q6⟩⟩
/-- one item comes -/
theorem itd_item {J : It} {B : Bs} {F H : Hp} {σ : L2.St} {own : Ad → Nat} (h : ItD K J F ds) (s : Sat B G F σ H own) {i : Nat} {x : V} {H' : Hp} (hi : i < ds.length) (hy : J.yld i H x H') :
    ∃ d F' own', ds[i]? = some d ∧ Sat B G F' σ H' own' ∧ Dp K F' x d ∧ Same F F' ∧ Same H H' ∧ ∀ a, H a = none → own' a = 0 := by
  obtain ⟨d, e, q⟩ := (h.2 H s.fh).2.2 i x H' hi hy
  rcases q with ⟨rfl, q2⟩ | ⟨T, xs, es, rfl, q2, rfl, rfl, q5, q6⟩
  · refine ⟨d, F, own, e, s, q2, Same.refl _, Same.refl _, fun a z => ?_⟩
    by_cases q : own a = 0
    · exact q
    · exact absurd z (s.al a q)
  · have nf := none_dn s.fh q2
    obtain ⟨own2, s2, o2⟩ := s.step (same_new (o := .tup xs) nf) (same_both s.fh) (same_new q2) (gr_new q2)
    exact ⟨_, _, own2, e, s2, .tup (SqT.of upd_same) (dpa_up (same_new nf) _ _ q5) q6, same_new nf, same_new q2, o2⟩
theorem di_list (h : EV K t G (.list ds)) : DI K (iList K t) G ds := fun B F σ H own R s k =>
  h B F σ H own _ s fun v F' H' own' s' hd f => by
    have hzz := dp_lstZ hd
    obtain ⟨a, xs, rfl, h1, h2⟩ := dp_lst hd
    refine ⟨a, rfl, ⟨xs, s'.fh.seq h1⟩, k _ F' H' own' s' f ⟨hzz, fun H2 f2 => ?_⟩⟩
    have l := dpa_len h2
    refine ⟨fun i hi => ⟨xs, xs[i], f2.seq h1, List.getElem?_eq_getElem (by omega)⟩, fun i hi => ⟨xs, f2.seq h1, by omega⟩, fun i x H' hi hy => ?_⟩
    obtain ⟨rfl, q⟩ := hy
    obtain ⟨d, e, hd⟩ := dpa_get' h2 (q xs (f2.seq h1))
    exact ⟨d, e, .inl ⟨rfl, hd⟩⟩
theorem di_tup (h : EV K t G (.tuple ds)) : DI K (iTup K t) G ds := fun B F σ H own R s k =>
  h B F σ H own _ s fun v F' H' own' s' hd f => by
    have hzz := dp_tupZ hd
    obtain ⟨a, xs, rfl, h1, h2⟩ := dp_tup hd
    refine ⟨a, rfl, ⟨xs, sqT_up s'.fh h1⟩, k _ F' H' own' s' f ⟨hzz, fun H2 f2 => ?_⟩⟩
    have l := dpa_len h2
    refine ⟨fun i hi => ⟨xs, xs[i], sqT_up f2 h1, List.getElem?_eq_getElem (by omega)⟩, fun i hi => ⟨xs, sqT_up f2 h1, by omega⟩, fun i x H' hi hy => ?_⟩
    obtain ⟨rfl, q⟩ := hy
    obtain ⟨d, e, hd⟩ := dpa_get' h2 (q xs (sqT_up f2 h1))
    exact ⟨d, e, .inl ⟨rfl, hd⟩⟩
theorem dij_list {P : List PyData → Ctx K → Prop} (h : EJ K t G fun d G' => ∃ ds, d = .list ds ∧ P ds G') : DIJ K (iList K t) G P := fun B F σ H own R s k =>
  h B F σ H own _ s fun v d G' F' H' own' q s' hd f => by
    obtain ⟨ds, rfl, p⟩ := q
    have hzz := dp_lstZ hd
    obtain ⟨a, xs, rfl, h1, h2⟩ := dp_lst hd
    refine ⟨a, rfl, ⟨xs, s'.fh.seq h1⟩, k _ ds G' F' H' own' p s' f ⟨hzz, fun H2 f2 => ?_⟩⟩
    have l := dpa_len h2
    refine ⟨fun i hi => ⟨xs, xs[i], f2.seq h1, List.getElem?_eq_getElem (by omega)⟩, fun i hi => ⟨xs, f2.seq h1, by omega⟩, fun i x H' hi hy => ?_⟩
    obtain ⟨rfl, q⟩ := hy
    obtain ⟨d, e, hd⟩ := dpa_get' h2 (q xs (f2.seq h1))
    exact ⟨d, e, .inl ⟨rfl, hd⟩⟩
/-- lo, lo + 1, .. (n of them) -/
def rgI (lo : Int) (n : Nat) : List Int := (List.range n).map fun i => lo + (i : Nat)
theorem rgI_len (lo : Int) (n : Nat) : (rgI lo n).length = n := by unfold rgI; simp
abbrev rgD (lo : Int) (n : Nat) : List PyData := (rgI lo n).map PyData.int
theorem itd_rng {lo : Int} {n : Nat} {F : Hp} (hn : n ≤ 100000) : ItD K (Itr lo n) F (rgD lo n) := by
  have l : (rgD lo n).length = n := by rw [List.length_map, rgI_len]
  refine ⟨by omega, fun H s => ?_⟩
  refine ⟨fun i hi => (show i < n by omega), fun i hi => (show n ≤ i by omega), fun i x H' hi hy => ?_⟩
  obtain ⟨rfl, rfl⟩ := hy
  refine ⟨.int (lo + (i : Nat)), ?_, .inl ⟨rfl, .int _⟩⟩
  show ((rgI lo n).map PyData.int)[i]? = _
  unfold rgI
  rw [List.getElem?_map, List.getElem?_map, List.getElem?_range (by omega)]
  rfl
theorem dij_rng1 {ta : TA} {P : List PyData → Ctx K → Prop} (h : EJA K ta G fun ds G' => ∃ n : Int, ds = [.int n] ∧ n ≤ 100000 ∧ -(2 ^ 60) < n ∧ P (rgD 0 n.toNat) G') : DIJ K (iRng1 ta) G P := fun B F σ H own R s k =>
  h B F σ H own _ s fun vs ds G' F' H' own' q s' hd f => by
    obtain ⟨n, rfl, h1, h2, p⟩ := q
    obtain ⟨v, ws, rfl, hv, hw⟩ := dpa_cons hd
    rw [dp_int hv, dpa_nil hw]
    exact ⟨n, rfl, by omega, by omega, k _ _ G' F' H' own' p s' f (itd_rng (by omega))⟩
/-! ### comprehensions -/
theorem Sat.unset {B : Bs} {F H : Hp} {σ : L2.St} {own : Ad → Nat} (s : Sat B G F σ H own) (i : Nat) : Sat B (G.set i .un) F (σ.set i none) H own := by
  refine ⟨by simp [s.len], s.fh, s.fz, s.al, fun j t x h1 h2 => ?_, s.b0, s.bf, s.bn, s.bh, s.bd⟩
  by_cases hj : j = i
  · subst hj
    have l1 : j < G.length := by have := (List.getElem?_eq_some_iff.mp h1).1; simpa using this
    rw [List.getElem?_set_self l1] at h1
    cases h1
    trivial
  · rw [List.getElem?_set_ne (Ne.symm hj)] at h1 h2
    exact s.sl j t x h1 h2
def wipeG (G : Ctx K) : List Nat → Ctx K
  | [] => G
  | v :: vs => (wipeG G vs).set v .un
theorem Sat.wipe {B : Bs} {F H : Hp} {σ : L2.St} {own : Ad → Nat} (s : Sat B G F σ H own) : ∀ vs : List Nat, Sat B (wipeG G vs) F (L2.wipe σ vs) H own
  | [] => s
  | v :: vs => (s.wipe vs).unset v
theorem wipe_get (σ : L2.St) : ∀ (vs : List Nat) (i : Nat), (L2.wipe σ vs)[i]? = if i ∈ vs then (if i < σ.length then some none else none) else σ[i]?
  | [], i => by simp [L2.wipe]
  | v :: vs, i => by
    unfold L2.wipe
    by_cases e : v = i
    · subst e
      rw [if_pos List.mem_cons_self]
      by_cases l : v < σ.length
      · rw [if_pos l, List.getElem?_set_self (by rw [wipe_length]; exact l)]
      · rw [if_neg l, List.getElem?_eq_none (by rw [List.length_set, wipe_length]; omega)]
    · rw [List.getElem?_set_ne e, wipe_get σ vs i]
      by_cases q : i ∈ vs
      · rw [if_pos q, if_pos (List.mem_cons_of_mem _ q)]
      · rw [if_neg q, if_neg (by simp only [List.mem_cons, not_or]; exact ⟨fun z => e z.symm, q⟩)]
theorem wipe_of {σ τ : L2.St} {vs : List Nat} (hl : τ.length = (L2.wipe σ vs).length) (h : ∀ i, i ∉ vs → τ[i]? = (L2.wipe σ vs)[i]?) : L2.wipe τ vs = L2.wipe σ vs := by
  rw [wipe_length] at hl
  apply List.ext_getElem?
  intro i
  rw [wipe_get, wipe_get]
  by_cases q : i ∈ vs
  · rw [if_pos q, if_pos q, hl]
  · rw [if_neg q, if_neg q, h i q, wipe_get, if_neg q]
/-- the same state, told from here -/
theorem Sat.here {B : Bs} {F H : Hp} {σ : L2.St} {own : Ad → Nat} (s : Sat B G F σ H own) : Sat ⟨F, H, fun a n => own a ≠ 0 ∧ n = own a⟩ G F σ H own :=
  ⟨s.len, s.fh, s.fz, s.al, s.sl, Same.refl _, fun a o e => .inl e, fun a z => z, fun a o z _ => z, fun a z _ => ⟨z, rfl⟩⟩
theorem Sat.back {B : Bs} {F H F' H' : Hp} {G0 G' : Ctx K} {σ σ' : L2.St} {own own' : Ad → Nat} (s : Sat B G0 F σ H own) (s' : Sat ⟨F, H, fun a n => own a ≠ 0 ∧ n = own a⟩ G' F' σ' H' own') : Sat B G' F' σ' H' own' := by
  refine ⟨s'.len, s'.fh, s'.fz, s'.al, s'.sl, s.b0.trans s'.b0, fun a o e => ?_, fun a z => s'.bn a (s.bn a z), fun a o z nd => ?_, fun a z q => ?_⟩
  · rcases s'.bf a o e with z | z
    · exact s.bf a o z
    · refine .inr ?_
      cases q : B.H0 a with
      | none => rfl
      | some u => exact absurd z (s.bn a (by rw [q]; simp))
  · have h := s.bh a o z nd
    refine s'.bh a o h fun n ⟨z1, _⟩ => ?_
    exact nd _ (s.bd a z1 (by rw [z]; simp))
  · obtain ⟨z1, z2⟩ := s'.bd a z (s.bn a q)
    rw [z2]
    exact s.bd a z1 q
/-- an object that is nobody's stays through what the def does -/
theorem Sat.stays {F H F' H' : Hp} {G' : Ctx K} {σ' : L2.St} {own own' : Ad → Nat} (s' : Sat ⟨F, H, fun a n => own a ≠ 0 ∧ n = own a⟩ G' F' σ' H' own') {p : Ad} {o : HO} (hp : H p = some o) (ho : own p = 0) (hf : F p = none) : H' p = some o ∧ own' p = 0 ∧ F' p = none := by
  refine ⟨s'.bh p o hp fun n ⟨z, _⟩ => z ho, ?_, ?_⟩
  · by_cases q : own' p = 0
    · exact q
    · exact absurd ho (s'.bd p q (by show H p ≠ none; rw [hp]; simp)).1
  · cases q : F' p with
    | none => rfl
    | some u =>
      rcases s'.bf p u q with z | z
      · exact absurd (hf.symm.trans z) (by simp)
      · exact absurd (hp.symm.trans z) (by simp)

theorem wipeG_get (G : Ctx K) : ∀ (vs : List Nat) (i : Nat), i ∉ vs → (wipeG G vs)[i]? = G[i]?
  | [], _, _ => rfl
  | v :: vs, i, h => by
    simp only [List.mem_cons, not_or] at h
    unfold wipeG
    rw [List.getElem?_set_ne (fun e => h.1 e.symm), wipeG_get G vs i h.2]
/-- none of these slots holds a thing of the def's own -/
def noOw (G : Ctx K) (vs : List Nat) : Bool := vs.all fun i => match G[i]? with
  | some (.ow _) => false
  | _ => true
theorem noOw_at {vs : List Nat} (h : noOw G vs = true) {i : Nat} (hi : i ∈ vs) {r : Res K} : G[i]? ≠ some (.ow r) := fun e => by
  have := List.all_eq_true.mp h i hi
  rw [e] at this
  cases this
/-- behind a block: the slots vs are as ahead of it -/
theorem Sat.unwipe {B : Bs} {F F5 H H5 : Hp} {G5 G6 : Ctx K} {σ σ5 : L2.St} {own own5 : Ad → Nat} (s : Sat B G F σ H own) (s5 : Sat B G5 F5 σ5 H5 own5) (f : Same F F5) (no : noOw G vs = true)
    (hs : ∀ i, i ∉ vs → σ5[i]? = σ[i]? ∧ G6[i]? = G5[i]?) (hv : ∀ i, i ∈ vs → G6[i]? = G[i]?) (hl : G6.length = G.length) : Sat B G6 F5 σ H5 own5 := by
  refine ⟨by rw [hl]; exact s.len, s5.fh, s5.fz, s5.al, fun i x y h1 h2 => ?_, s5.b0, s5.bf, s5.bn, s5.bh, s5.bd⟩
  by_cases q : i ∈ vs
  · rw [hv i q] at h1
    have h := s.sl i x y h1 h2
    cases x with
    | un => trivial
    | da d => obtain ⟨v, e, hd⟩ := h; exact ⟨v, e, dp_up f _ _ hd⟩
    | ow r => exact absurd h1 (noOw_at no q)
  · rw [(hs i q).2] at h1
    rw [← (hs i q).1] at h2
    exact s5.sl i x y h1 h2

/-- an object that is nobody's and not frozen may change -/
theorem Sat.poke {B : Bs} {F H : Hp} {σ : L2.St} {own : Ad → Nat} (s : Sat B G F σ H own) {p : Ad} {o : HO} (z : own p = 0) (nf : F p = none) (hn : H p ≠ none) (nb : B.H0 p = none) : Sat B G F σ (upd H p o) own := by
  have kp : ∀ a u, a ≠ p → H a = some u → upd H p o a = some u := fun a u ne e => by rw [upd_ne ne]; exact e
  refine ⟨s.len, fun a u e => kp a u (fun q => by rw [q, nf] at e; cases e) (s.fh a u e), s.fz, fun a q => ?_, fun i x y h1 h2 => (s.sl i x y h1 h2).go (Same.refl _) (fun a u q e => kp a u (fun w => by rw [w, z] at q; cases q) e) fun _ => Iff.rfl, s.b0, s.bf, fun a q => ?_, fun a u e nd => ?_, s.bd⟩
  · by_cases w : a = p
    · rw [w, upd_same]; simp
    · rw [upd_ne w]; exact s.al a q
  · by_cases w : a = p
    · rw [w, upd_same]; simp
    · rw [upd_ne w]; exact s.bn a q
  · refine kp a u (fun w => ?_) (s.bh a u e nd)
    rw [w, nb] at e
    cases e
/-- a list comprehension that changes no slot -/
theorem el_lc {α : Type} {wi : TI} {tt : TT} {te : TE} {xs : List α} {en : α → PyData} (p : α → Bool) (q : α → PyData) (hd : DI K wi G (xs.map en)) (no : noOw G vs = true)
    (ht : ∀ x ∈ xs, GJ K g (en x) (wipeG G vs) vs fun G2 => EVT K tt G2 (p x) ∧ (p x = true → EV K te G2 (q x))) : EL K (tLc wi g tt te vs) G ((xs.filter p).map q) := fun B F σ H own Q s k =>
  hd B F σ H own _ s fun J F1 H1 own1 s1 f1 it D nD => by
    have lz : (xs.map en).length = xs.length := by simp
    have hz : xs.length ≤ 100000 := lz ▸ it.1
    have nF := none_dn s1.fh nD
    have bD : B.H0 D = none := by
      cases e : B.H0 D with
      | none => rfl
      | some u => exact absurd nD (s1.bn D (by rw [e]; simp))
    let out : Nat → List PyData := fun i => ((xs.take i).filter p).map q
    have outS : ∀ i (hi : i < xs.length), out (i + 1) = out i ++ (if p xs[i] = true then [q xs[i]] else []) := fun i hi => by
      show ((xs.take (i + 1)).filter p).map q = ((xs.take i).filter p).map q ++ _
      rw [List.take_succ_eq_append_getElem hi, List.filter_append, List.map_append]
      congr 1
      by_cases z : p xs[i] = true
      · rw [if_pos z, List.filter_cons_of_pos z]; rfl
      · rw [if_neg z, List.filter_cons_of_neg z]; rfl
    refine ⟨fun i m H => ∃ F' own' acc, i ≤ xs.length ∧ m + i = xs.length ∧ Same F1 F' ∧ Sat B G F' σ H own' ∧ own' D = 0 ∧ F' D = none ∧ H D = some (.lst acc) ∧ DpAll K F' acc (out i) ∧ acc.length ≤ i, ⟨xs.length, ?_⟩, ?_⟩
    · obtain ⟨own2, s2, z2⟩ := s1.step (Same.refl F1) (s1.fh.trans (same_new (o := .lst []) nD)) (same_new nD) (Gr.refl _ _)
      exact ⟨F1, own2, [], Nat.zero_le _, by omega, Same.refl _, s2, z2 D nD, nF, upd_same, .nil, Nat.le_refl _⟩
    rintro i m H2 ⟨F2, own2, acc, hi, hm, f2, s2, z2, nF2, hD, ha, hl⟩
    have it2 := itd_up it f2
    by_cases e : i = xs.length
    · refine .inl ⟨(it2.2 H2 s2.fh).2.1 i (by omega), ?_⟩
      have oe : out i = (xs.filter p).map q := by show ((xs.take i).filter p).map q = _; rw [List.take_of_length_le (by omega)]
      rw [oe] at ha
      exact k D acc F2 H2 own2 s2 z2 nF2 bD hD ha (by rw [List.length_map]; exact Nat.le_trans (List.length_filter_le _ _) hz) (f1.trans f2)
    · have hi2 : i < xs.length := by omega
      refine .inr ⟨(it2.2 H2 s2.fh).1 i (by omega), fun H' => ∃ F' own' acc, i + 1 ≤ xs.length ∧ (m - 1) + (i + 1) = xs.length ∧ Same F1 F' ∧ Sat B G F' σ H' own' ∧ own' D = 0 ∧ F' D = none ∧ H' D = some (.lst acc) ∧ DpAll K F' acc (out (i + 1)) ∧ acc.length ≤ i + 1, fun H' h' => ⟨m - 1, by omega, h'⟩, fun x H3 hy => ?_⟩
      have sh := s2.here
      obtain ⟨d, F3, own3, hd3, s3, hx, f3, h3, z3⟩ := itd_item it2 sh (by omega) hy
      have ex : d = en xs[i] := by
        rw [List.getElem?_map, List.getElem?_eq_getElem hi2] at hd3
        exact (Option.some.inj hd3).symm
      subst ex
      refine ht xs[i] (List.getElem_mem hi2) _ F3 _ H3 own3 x _ (s3.wipe vs) hx fun G4 σ4 own4 hp s4 l4 e4 => ⟨wipe_of l4 fun i hi => (e4 i hi).1, ?_⟩
      obtain ⟨hp1, hp2⟩ := hp
      refine hp1 _ F3 σ4 H3 own4 _ s4 fun F5 H5 own5 s5 f5 => ?_
      have back : ∀ {F6 H6 own6}, Sat _ G4 F6 σ4 H6 own6 → Same F3 F6 → Sat _ G F6 σ H6 own6 := fun {F6 H6 own6} s6 f6 =>
        s3.unwipe s6 f6 no (fun i hi => ⟨by rw [(e4 i hi).1, wipe_get, if_neg hi], by rw [(e4 i hi).2, wipeG_get G vs i hi]⟩) (fun _ _ => rfl) rfl
      cases hb : p xs[i] with
      | false =>
        rw [if_neg Bool.false_ne_true]
        have s6 := back s5 f5
        obtain ⟨hD5, z5, nF5⟩ := s6.stays hD z2 nF2
        refine ⟨F5, own5, acc, hi2, by omega, f2.trans (f3.trans f5), s2.back s6, z5, nF5, hD5, ?_, by omega⟩
        rw [outS i hi2, hb, if_neg Bool.false_ne_true, List.append_nil]
        exact dpa_up (f3.trans f5) _ _ ha
      | true =>
        rw [if_pos rfl]
        refine hp2 hb _ F5 σ4 H5 own5 _ s5 fun y F6 H6 own6 s6 hy6 f6 => ?_
        have s7 := back s6 (f5.trans f6)
        obtain ⟨hD6, z6, nF6⟩ := s7.stays hD z2 nF2
        have bs := s2.back s7
        refine ⟨acc, hD6, Nat.lt_of_lt_of_le (by omega : acc.length < 100001) (by decide), F6, own6, acc ++ [y], hi2, by omega, f2.trans (f3.trans (f5.trans f6)), ?_, z6, nF6, upd_same, ?_, by rw [List.length_append]; simp; omega⟩
        · exact bs.poke z6 nF6 (by rw [hD6]; simp) bD
        · rw [outS i hi2, hb, if_pos rfl]
          exact dpa_app (dpa_up (f3.trans (f5.trans f6)) _ _ ha) (.cons hy6 .nil)
/-- .. all items, each by f -/
theorem el_lc0 {α β : Type} {wi : TI} {te : TE} {xs : List α} {en : α → PyData} {en' : β → PyData} (f : α → β) (hd : DI K wi G (xs.map en)) (no : noOw G vs = true)
    (ht : ∀ x ∈ xs, GJ K g (en x) (wipeG G vs) vs fun G2 => EV K te G2 (en' (f x))) : EL K (tLc wi g tYes te vs) G ((xs.map f).map en') := by
  have h := el_lc (vs := vs) (tt := tYes) (fun _ => true) (fun x => en' (f x)) hd no (fun x hx B F σ H own v Q s hv k => ht x hx B F σ H own v Q s hv fun G' σ' own' p s' l e => k G' σ' own' ⟨et_yes, fun _ => p⟩ s' l e)
  rw [List.filter_eq_self.mpr (fun _ _ => rfl)] at h
  rw [List.map_map]
  exact h
theorem el_lcM {α β : Type} {wi : TI} {tt : TT} {te : TE} {xs : List α} {en : α → PyData} {en' : β → PyData} (p : α → Bool) (f : α → β) (hd : DI K wi G (xs.map en)) (no : noOw G vs = true)
    (ht : ∀ x ∈ xs, GJ K g (en x) (wipeG G vs) vs fun G2 => EVT K tt G2 (p x) ∧ (p x = true → EV K te G2 (en' (f x)))) : EL K (tLc wi g tt te vs) G (((xs.filter p).map f).map en') := by
  rw [List.map_map]
  exact el_lc p (fun x => en' (f x)) hd no ht
end
end Fz

set_option Elab.async false
set_option linter.all false
set_option maxRecDepth 100000
set_option maxHeartbeats 4000000
/-! part U: statements, defs -/
namespace Fz
open PySem PySem.Spec PyProof.Rows L2
section
variable {K : Fg}
variable {G : Ctx K} {t ta tb te : TE} {d : PyData} {ds : List PyData} {vs : List Nat} {g : TG} {tt : TT}
/-! ### statements -/
structure JE (K : Fg) where
  nx : Ctx K → Prop
  rt : PyData → Ctx K → Prop
  bk : Ctx K → Prop := fun _ => False
  ct : Ctx K → Prop := fun _ => False
structure Meets (E : JE K) (B : Bs) (F : Hp) (D : Ends) : Prop where
  nx : ∀ G' F' σ' H' own', E.nx G' → Sat B G' F' σ' H' own' → Same F F' → D.nx σ' H'
  rt : ∀ d v G' F' σ' H' own', E.rt d G' → Sat B G' F' σ' H' own' → Dp K F' v d → Same F F' → D.rt v H'
  bk : ∀ G' F' σ' H' own', E.bk G' → Sat B G' F' σ' H' own' → Same F F' → D.bk σ' H'
  ct : ∀ G' F' σ' H' own', E.ct G' → Sat B G' F' σ' H' own' → Same F F' → D.ct σ' H'
def SJ (K : Fg) (t : TS) (G : Ctx K) (E : JE K) : Prop := ∀ (B : Bs) (F : Hp) (σ : L2.St) (H : Hp) (own : Ad → Nat) (D : Ends), (∀ a n, B.dk a n → n = 1) → Sat B G F σ H own → Meets E B F D → t D σ H
variable {E : JE K} {u w : TS} {tA : TT} {s1 s2 : TS}
theorem Meets.up {B : Bs} {F F' : Hp} {D : Ends} (m : Meets E B F D) (f : Same F F') : Meets E B F' D :=
  ⟨fun G' F2 σ' H' own' p s f2 => m.nx G' F2 σ' H' own' p s (f.trans f2), fun d v G' F2 σ' H' own' p s h f2 => m.rt d v G' F2 σ' H' own' p s h (f.trans f2),
   fun G' F2 σ' H' own' p s f2 => m.bk G' F2 σ' H' own' p s (f.trans f2), fun G' F2 σ' H' own' p s f2 => m.ct G' F2 σ' H' own' p s (f.trans f2)⟩
theorem sj_seq (h : SJ K s1 G { E with nx := fun G' => SJ K s2 G' E }) : SJ K (tSeq s1 s2) G E := fun B F σ H own D dk s m =>
  h B F σ H own _ dk s ⟨fun G' F' σ' H' own' p s' f => p B F' σ' H' own' D dk s' (m.up f), m.rt, m.bk, m.ct⟩
theorem sj_next (h : E.nx G) : SJ K tNext G E := fun B F σ H own D dk s m => m.nx G F σ H own h s (Same.refl _)
theorem sj_ret (h : EV K te G d) (p : E.rt d G) : SJ K (tRet te) G E := fun B F σ H own D dk s m =>
  h B F σ H own _ s fun v F' H' own' s' hd f => m.rt d v G F' σ H' own' p s' hd f
theorem sj_retJ (h : EJ K te G E.rt) : SJ K (tRet te) G E := fun B F σ H own D dk s m =>
  h B F σ H own _ s fun v d G' F' H' own' p s' hd f => m.rt d v G' F' σ H' own' p s' hd f
theorem sj_set {i : Nat} (h : EV K te G d) (p : E.nx (G.set i (.da d))) : SJ K (tAsg te (gName i)) G E := fun B F σ H own D dk s m =>
  h B F σ H own _ s fun v F' H' own' s' hd f =>
    let ⟨own2, s2⟩ := s'.put i hd
    m.nx _ F' _ H' own2 p s2 f
theorem sj_setJ {i : Nat} (h : EJ K te G fun d G' => E.nx (G'.set i (.da d))) : SJ K (tAsg te (gName i)) G E := fun B F σ H own D dk s m =>
  h B F σ H own _ s fun v d G' F' H' own' p s' hd f =>
    let ⟨own2, s2⟩ := s'.put i hd
    m.nx _ F' _ H' own2 p s2 f
theorem sj_setL {i : Nat} (h : EL K te G ds) (p : E.nx (G.set i (.ow (lsR ds)))) : SJ K (tAsg te (gName i)) G E := fun B F σ H own D dk s m =>
  h B F σ H own _ s fun q xs F' H' own' s' o nf nb hq hd hz f => by
    obtain ⟨own2, s2⟩ := s'.fresh i (v := .ref q) (r := lsR ds) (A := fun a => a = q) (fun a e => by subst e; exact ⟨o, nf, by rw [hq]; simp, nb⟩) ⟨q, xs, rfl, rfl, hq, hd, hz⟩
    exact m.nx _ F' _ H' own2 p s2 f
theorem sj_par {ta' : TA} {i j : Nat} (h : EJA K ta' G fun ds G' => ∃ d1 d2, ds = [d1, d2] ∧ E.nx ((G'.set i (.da d1)).set j (.da d2))) : SJ K (tPar i j ta') G E := fun B F σ H own D dk s m =>
  h B F σ H own _ s fun vs ds G' F' H' own' q s' hd f => by
    obtain ⟨d1, d2, rfl, p⟩ := q
    obtain ⟨v, ws, rfl, hv, hw⟩ := dpa_cons hd
    obtain ⟨v2, ws2, rfl, hv2, hw2⟩ := dpa_cons hw
    cases dpa_nil hw2
    obtain ⟨o1, s1⟩ := s'.put i hv
    obtain ⟨o2, s2⟩ := s1.put j hv2
    exact ⟨v, v2, rfl, m.nx _ F' _ H' o2 p s2 f⟩
theorem sj_if {b : Bool} (h : EVT K tA G b) (h1 : b = true → SJ K u G E) (h2 : b = false → SJ K w G E) : SJ K (tIfS tA u w) G E := fun B F σ H own D dk s m =>
  h B F σ H own _ s fun F' H' own' s' f => by
    cases b with
    | true => exact (show u D σ H' from h1 rfl B F' σ H' own' D dk s' (m.up f))
    | false => exact (show w D σ H' from h2 rfl B F' σ H' own' D dk s' (m.up f))
theorem sj_never (h : False) : SJ K u G E := h.elim
/-- less is known from here on -/
theorem sj_wk {G' : Ctx K} (w : Wk G G') (h : SJ K u G' E) : SJ K u G E := fun B F σ H own D dk s m => h B F σ H own D dk (s.wk w) m
/-- a list of the def's own is not changed any more -/
theorem sj_ice (i : Nat) (hi : G[i]? = some (.ow (lsR ds))) (h0 : i ≠ 0) (h : SJ K u (G.set i (.da (.list ds))) E) : SJ K u G E := fun B F σ H own D dk s m => by
  obtain ⟨y, hy, v, rfl, p, xs, rfl, op, hp, hd, hzd⟩ := s.slot hi
  have nf : F p = none := by
    cases q : F p with
    | none => rfl
    | some o => have := s.fz p o q; rw [op] at this; omega
  have f : Same F (upd F p (.lst xs)) := same_new nf
  obtain ⟨own', s'⟩ := s.ice (F' := upd F p (.lst xs)) (d := .list ds) dk h0 hy f (fun a u e => by
    by_cases z : a = p
    · subst z; rw [upd_same] at e; rw [← e]; exact hp
    · rw [upd_ne z] at e; exact s.fh a u e) (fun a u e => by
    by_cases z : a = p
    · rw [z]; exact .inr op
    · rw [upd_ne z] at e; exact .inl e) (.lst (SqL.of upd_same) (dpa_up f _ _ hd) hzd)
  exact h B _ σ H own' D dk s' (m.up f)
/-- x.append(e) -/
theorem sj_app {i : Nat} (hi : G[i]? = some (.ow (lsR ds))) (h : EJ K te G fun d G' => ∃ ds, G'[i]? = some (.ow (lsR ds)) ∧ ds.length < 100000 ∧ E.nx (G'.set i (.ow (lsR (ds ++ [d]))))) :
    SJ K (tDrop (tBM K "list" rAppend (tVar i) (tCons te tNil))) G E := fun B F σ H own D dk s m => by
  obtain ⟨y, hy, v, rfl, p, xs, rfl, op, hp, hd, hzd⟩ := s.slot hi
  refine ⟨.ref p, hy, .inl ⟨rfl, _, SqL.of hp⟩, h B F σ H own _ s fun z d G' F' H' own' q s' hz f => ?_⟩
  obtain ⟨ds', gi, hl, pn⟩ := q
  obtain ⟨y', hy', v', rfl, p', xs', rfl, op', hp', hd', hzd'⟩ := s'.slot gi
  rw [hy] at hy'
  cases hy'
  have nf : F' p = none := by
    cases q : F' p with
    | none => rfl
    | some o => have := s'.fz p o q; rw [op'] at this; omega
  refine ⟨p, xs', z, rfl, rfl, hp', Nat.lt_of_lt_of_le (by rw [dpa_len hd']; exact hl) (by decide), ?_⟩
  obtain ⟨own2, s2⟩ := s'.chg (r' := lsR (ds' ++ [d])) (A' := fun a => a = p) (H' := upd H' p (.lst (xs' ++ [z]))) gi hy (Same.refl F') (fun a u e => by
      rw [upd_ne (fun w => by rw [w, nf] at e; cases e)]; exact s'.fh a u e) (Gr.refl _ _)
    (fun a u e w => by rw [upd_ne (fun q => w (by rw [q]; exact op'))]; exact e) (fun a e => by
      by_cases w : a = p
      · rw [w, upd_same]; simp
      · rw [upd_ne w]; exact e) (fun a e => by subst e; exact ⟨.inl op', nf, by rw [upd_same]; simp⟩)
    ⟨p, _, rfl, rfl, upd_same, dpa_app hd' (.cons hz .nil), by rw [List.length_append]; exact hl⟩
  exact m.nx _ F' σ _ own2 pn s2 f
/-- a for -/
theorem sj_for {wi : TI} (hd : DIJ K wi G fun ds G0 => ∃ (vs : List Nat) (Iv : Nat → Ctx K → Prop), Iv 0 G0 ∧
      (∀ i d G', ds[i]? = some d → Iv i G' → GJ K g d G' vs fun G2 => SJ K u G2 ⟨fun G3 => ∃ G4, Wk G3 G4 ∧ Iv (i + 1) G4, E.rt, E.nx, fun G3 => ∃ G4, Wk G3 G4 ∧ Iv (i + 1) G4⟩) ∧ ∀ G', Iv ds.length G' → E.nx G') : SJ K (tFor wi g u) G E := fun B F σ H own D dk s m =>
  hd B F σ H own _ s fun J ds G0 F1 H1 own1 hp s1 f1 it => by
    obtain ⟨vs, Iv, i0, is, ie⟩ := hp
    refine ⟨fun i k σ H => ∃ G' F' own', i ≤ ds.length ∧ k + i = ds.length ∧ Same F1 F' ∧ Iv i G' ∧ Sat B G' F' σ H own', ⟨ds.length, G0, F1, own1, Nat.zero_le _, by omega, Same.refl _, i0, s1⟩, ?_⟩
    rintro i k σ2 H2 ⟨G2, F2, own2, hi, hk, f2, hI, s2⟩
    have it2 := itd_up it f2
    by_cases e : i = ds.length
    · subst e
      exact .inl ⟨(it2.2 H2 s2.fh).2.1 _ (Nat.le_refl _), m.nx G2 F2 σ2 H2 own2 (ie G2 hI) s2 (f1.trans f2)⟩
    · have hi2 : i < ds.length := by omega
      refine .inr ⟨(it2.2 H2 s2.fh).1 i hi2, fun σ' H' => ∃ G' F' own', Same F1 F' ∧ Iv (i + 1) G' ∧ Sat B G' F' σ' H' own', fun σ' H' ⟨G', F', own', a1, a2, a3⟩ => ⟨k - 1, by omega, G', F', own', hi2, by omega, a1, a2, a3⟩, fun x H3 hy => ?_⟩
      obtain ⟨d, F3, own3, hd3, s3, hx, f3, h3, z3⟩ := itd_item it2 s2 hi2 hy
      refine is i d G2 hd3 hI B F3 σ2 H3 own3 x _ s3 hx fun G4 σ4 own4 hp s4 _ _ => hp B F3 σ4 H3 own4 _ dk s4 ⟨fun G5 F5 σ5 H5 own5 q s5 f5 => ?_, fun d v G5 F5 σ5 H5 own5 q s5 hv f5 => ?_, fun G5 F5 σ5 H5 own5 q s5 f5 => ?_, fun G5 F5 σ5 H5 own5 q s5 f5 => ?_⟩
      · obtain ⟨G6, w, q⟩ := q
        exact ⟨G6, F5, own5, f2.trans (f3.trans f5), q, s5.wk w⟩
      · exact m.rt d v G5 F5 σ5 H5 own5 q s5 hv (f1.trans (f2.trans (f3.trans f5)))
      · exact m.nx G5 F5 σ5 H5 own5 q s5 (f1.trans (f2.trans (f3.trans f5)))
      · obtain ⟨G6, w, q⟩ := q
        exact ⟨G6, F5, own5, f2.trans (f3.trans f5), q, s5.wk w⟩
end
end Fz

set_option Elab.async false
set_option linter.all false
set_option maxRecDepth 100000
set_option maxHeartbeats 4000000
/-! part F: defs by their promise -/
namespace Fz
open PySem PySem.Spec PyProof.Rows L2
/-- more draws than that are never made -/
def DB : Nat := 2 ^ 7000
section
variable {K : Fg} {ι : Type}
/-- a def over data: called with (args x) where pre x holds it hands back some d with res x d and changes nothing -/
def spP (K : Fg) (args : ι → List PyData) (pre : ι → Prop) (res : ι → PyData → Prop) : Sp := fun vs H Q _ => ∃ (x : ι) (F : Hp), Same F H ∧ DpAll K F vs (args x) ∧ pre x ∧
  ∀ v d F' H', res x d → Same F F' → Same F' H' → Same H H' → Gr F F' H → Dp K F' v d → Q v H'
/-- a def whose first argument is the deck: at most (cost x) draws -/
def spD (K : Fg) (R : Ad → Nat → Res K) (args : ι → List PyData) (pre : ι → Prop) (cost : ι → Nat) (res : ι → PyData → Prop) : Sp := fun vs H Q _ => ∃ (x : ι) (F : Hp) (p : Ad) (m : Nat) (ws : List V) (A : Ad → Prop),
  vs = .ref p :: ws ∧ Same F H ∧ (∀ a, A a → F a = none ∧ H a ≠ none) ∧ (R p m).holds F (.ref p) H A ∧ DpAll K F ws (args x) ∧ pre x ∧ m + cost x ≤ DB ∧
  ∀ v d F' H' A', res x d → Same F F' → Same F' H' → Gr F F' H → (∀ a o, H a = some o → ¬ A a → H' a = some o) → (∀ a, H a ≠ none → H' a ≠ none) → (∀ a, A' a → (A a ∨ H a = none) ∧ F' a = none ∧ H' a ≠ none) →
    (R p (m + cost x)).holds F' (.ref p) H' A' → Dp K F' v d → Q v H'

variable {P : Program} {w : World} {mg : Str → Option Value} {base : Heap} {k : Nat} {f : Ad} {fd : FuncData} {ps N : List Str} {x qual : Str} {st : Stmt}
  {args : ι → List PyData} {pre : ι → Prop} {res : ι → PyData → Prop} {cost : ι → Nat} {R : Ad → Nat → Res K}

theorem get_app_un {l : List (Sl K)} {n i : Nat} {s : Sl K} (h : (l ++ List.replicate n .un)[i]? = some s) : s = .un ∨ (i < l.length ∧ l[i]? = some s) := by
  by_cases hi : i < l.length
  · rw [List.getElem?_append_left hi] at h
    exact .inr ⟨hi, h⟩
  · rw [List.getElem?_append_right (by omega), List.getElem?_replicate] at h
    split at h <;> cases h
    exact .inl rfl
theorem start_get {N : List Str} {vs : List V} {i : Nat} (hi : i < vs.length) : (start N vs)[i]? = some vs[i]? := by
  unfold L2.start
  rw [List.getElem?_append_left (by simpa using hi), List.getElem?_map, List.getElem?_eq_getElem hi]
  rfl
theorem start_len {N : List Str} {vs : List V} (h : vs.length ≤ N.length) : (start N vs).length = N.length := by
  unfold L2.start
  rw [List.length_append, List.length_map, List.length_replicate]
  omega

theorem scope_le {ps N : List Str} {sc : Scope} (S : FnScope N ps sc) : ps.length ≤ N.length := by
  have := congrArg List.length S.pre
  rw [List.length_take] at this
  omega
/-- a def over data, by its body -/
theorem okP (F : Fun K x qual st f fd) (S : FnScope N ps (defScope st)) (hl : ∀ x, (args x).length = ps.length)
    (hb : ∀ (cdv : Value) (A : Around) (outer : List Env) (s : Shared) (H : Hp) (E : XK), Room k (A.deeper (envOfC qual (defScope st) s.heap.objs.size f cdv)) → A.guards = some [] →
      ∃ t, PSs (cxOf CX0 P w K mg base N qual (defScope st) f cdv A outer s H E).nox (defBody st) t ∧
        ∀ x, pre x → SJ K t ((args x).map .da ++ List.replicate (N.length - ps.length) .un) ⟨fun _ => res x .none, fun d _ => res x d, fun _ => False, fun _ => False⟩) :
    FnG P w K mg base CX0 (k + 1) f fd ps (spP K args pre res) := by
  refine okG F S (fun vs H Q E h => ?_) (fun cdv A outer s H vs Q E hr hg h => ?_)
  · obtain ⟨x, F0, _, hd, _⟩ := h
    rw [dpa_len hd, hl]
  · obtain ⟨x, F0, f0, hd, hp, q⟩ := h
    obtain ⟨t, ht, hs⟩ := hb cdv A outer s H E hr hg
    refine ⟨t, ht, ?_⟩
    have lv : vs.length = ps.length := by rw [dpa_len hd, hl]
    have le := scope_le S
    have s0 : Sat (K := K) ⟨F0, H, fun _ _ => False⟩ ((args x).map .da ++ List.replicate (N.length - ps.length) .un) F0 (start N vs) H (fun _ => 0) := by
      refine ⟨?_, f0, fun _ _ _ => rfl, fun a z => absurd rfl z, fun i t y h1 h2 => ?_, Same.refl _, fun a o e => .inl e, fun a z => z, fun a o z _ => z, fun a z _ => absurd rfl z⟩
      · rw [start_len (by omega), List.length_append, List.length_map, List.length_replicate, hl]; omega
      · rcases get_app_un h1 with z | ⟨hi, z⟩
        · subst z; trivial
        · rw [List.length_map] at hi
          rw [List.getElem?_map] at z
          have hi2 : i < vs.length := by rw [lv, ← hl x]; exact hi
          rw [start_get hi2] at h2
          cases e : (args x)[i]? with
          | none => rw [e] at z; cases z
          | some d =>
            rw [e] at z
            cases z
            obtain ⟨v, h3, h4⟩ := dpa_get hd e
            rw [h3] at h2
            cases h2
            exact ⟨v, rfl, h4⟩
    have fin : ∀ {d v G' F' σ' H' own'}, res x d → Sat (K := K) ⟨F0, H, fun _ _ => False⟩ G' F' σ' H' own' → Dp K F' v d → Q v H' := fun {d v G' F' σ' H' own'} r s' hv =>
      q v d F' H' r s'.b0 s'.fh (fun a o e => s'.bh a o e fun _ z => z) (fun a o e => s'.bf a o e) hv
    exact hs x hp ⟨F0, H, fun _ _ => False⟩ F0 (start N vs) H _ { nx := fun _ H' => Q .non H', rt := Q } (fun _ _ z => z.elim) s0 ⟨fun G' F' σ' H' own' r s' _ => fin r s' .non, fun d v G' F' σ' H' own' r s' hv _ => fin r s' hv, fun G' F' σ' H' own' r s' _ => r.elim, fun G' F' σ' H' own' r s' _ => r.elim⟩

open Classical in
/-- a def that draws, by its body -/
theorem okD (Rm : ∀ {p m m' F v H A}, m ≤ m' → (R p m).holds F v H A → (R p m').holds F v H A) (Re : ∀ {p m F v H A}, (R p m).holds F v H A → v = .ref p)
    (F : Fun K x qual st f fd) (S : FnScope N ps (defScope st)) (hl : ∀ x, (args x).length + 1 = ps.length)
    (hb : ∀ (cdv : Value) (A : Around) (outer : List Env) (s : Shared) (H : Hp) (E : XK), Room k (A.deeper (envOfC qual (defScope st) s.heap.objs.size f cdv)) → A.guards = some [] →
      ∃ t, PSs (cxOf CX0 P w K mg base N qual (defScope st) f cdv A outer s H E).nox (defBody st) t ∧
        ∀ x (p : Ad) (m : Nat), pre x → m + cost x ≤ DB → SJ K t (.ow (R p m) :: ((args x).map .da ++ List.replicate (N.length - ps.length) .un))
          ⟨fun G' => res x .none ∧ ∃ m', m' ≤ m + cost x ∧ G'[0]? = some (.ow (R p m')), fun d G' => res x d ∧ ∃ m', m' ≤ m + cost x ∧ G'[0]? = some (.ow (R p m')), fun _ => False, fun _ => False⟩) :
    FnG P w K mg base CX0 (k + 1) f fd ps (spD K R args pre cost res) := by
  refine okG F S (fun vs H Q E h => ?_) (fun cdv A outer s H vs Q E hr hg h => ?_)
  · obtain ⟨x, F0, p, m, ws, A0, rfl, _, _, _, hd, _⟩ := h
    rw [List.length_cons, dpa_len hd, hl]
  · obtain ⟨x, F0, p, m, ws, A0, rfl, f0, fa, hR, hd, hp, hm, q⟩ := h
    obtain ⟨t, ht, hs⟩ := hb cdv A outer s H E hr hg
    refine ⟨t, ht, ?_⟩
    have lv : ws.length + 1 = ps.length := by rw [dpa_len hd, hl]
    have le := scope_le S
    let own0 : Ad → Nat := fun a => if A0 a then 1 else 0
    have o1 : ∀ a, A0 a → own0 a = 1 := fun a z => if_pos z
    have o0 : ∀ a, ¬ A0 a → own0 a = 0 := fun a z => if_neg z
    have oe : (fun a => own0 a = 0 + 1) = A0 := funext fun a => propext ⟨fun z => (by
      by_cases w : A0 a
      · exact w
      · rw [o0 a w] at z; cases z), fun z => o1 a z⟩
    have s0 : Sat (K := K) ⟨F0, H, fun a n => A0 a ∧ n = 1⟩ (.ow (R p m) :: ((args x).map .da ++ List.replicate (N.length - ps.length) .un)) F0 (start N (.ref p :: ws)) H own0 := by
      refine ⟨?_, f0, fun a o e => ?_, fun a z => ?_, fun i t y h1 h2 => ?_, Same.refl _, fun a o e => .inl e, fun a z => z, fun a o z _ => z, fun a z _ => ?_⟩
      · rw [start_len (by rw [List.length_cons]; omega), List.length_cons, List.length_append, List.length_map, List.length_replicate]; have := hl x; omega
      · refine o0 a fun z => ?_
        rw [(fa a z).1] at e
        cases e
      · by_cases w : A0 a
        · exact (fa a w).2
        · exact absurd (o0 a w) z
      · cases i with
        | zero =>
          rw [start_get (by simp)] at h2
          cases h1
          cases h2
          refine ⟨.ref p, rfl, ?_⟩
          rw [oe]
          exact hR
        | succ i =>
          rw [List.getElem?_cons_succ] at h1
          rcases get_app_un h1 with z | ⟨hi, z⟩
          · subst z; trivial
          · rw [List.length_map] at hi
            rw [List.getElem?_map] at z
            have hi2 : i + 1 < (V.ref p :: ws).length := by rw [List.length_cons]; have := dpa_len hd; omega
            rw [start_get hi2, List.getElem?_cons_succ] at h2
            cases e : (args x)[i]? with
            | none => rw [e] at z; cases z
            | some d =>
              rw [e] at z
              cases z
              obtain ⟨v, h3, h4⟩ := dpa_get hd e
              rw [h3] at h2
              cases h2
              exact ⟨v, rfl, h4⟩
      · by_cases w : A0 a
        · exact ⟨w, o1 a w⟩
        · exact absurd (o0 a w) z
    have fin : ∀ {d v G' F' σ' H' own'}, res x d → (∃ m', m' ≤ m + cost x ∧ G'[0]? = some (.ow (R p m'))) → Sat (K := K) ⟨F0, H, fun a n => A0 a ∧ n = 1⟩ G' F' σ' H' own' → Dp K F' v d → Q v H' := fun {d v G' F' σ' H' own'} r hm' s' hv => by
      obtain ⟨m', lm, hg0⟩ := hm'
      obtain ⟨y, hy, v', rfl, hR'⟩ := s'.slot hg0
      cases Re hR'
      refine q v d F' H' (fun a => own' a = 1) r s'.b0 s'.fh (fun a o e => s'.bf a o e) (fun a o e na => s'.bh a o e fun n z => na z.1) (fun a z => s'.bn a z) (fun a e => ⟨?_, ?_, s'.al a (by rw [e]; decide)⟩) (Rm lm hR') hv
      · cases z : H a with
        | none => exact .inr rfl
        | some u => exact .inl (s'.bd a (by rw [e]; decide) (by show H a ≠ none; rw [z]; simp)).1
      · cases z : F' a with
        | none => rfl
        | some u => have := s'.fz a u z; rw [e] at this; cases this
    exact hs x p m hp hm ⟨F0, H, fun a n => A0 a ∧ n = 1⟩ F0 (start N (.ref p :: ws)) H own0 { nx := fun _ H' => Q .non H', rt := Q } (fun _ _ z => z.2) s0
      ⟨fun G' F' σ' H' own' r s' _ => fin r.1 r.2 s' .non, fun d v G' F' σ' H' own' r s' hv _ => fin r.1 r.2 s' hv, fun G' F' σ' H' own' r s' _ => r.elim, fun G' F' σ' H' own' r s' _ => r.elim⟩

theorem dkR_up {p : Ad} {m m' : Nat} {F : Hp} {v : V} {H : Hp} {A : Ad → Prop} (l : m ≤ m') (h : (dkR (K := K) p m).holds F v H A) : (dkR (K := K) p m').holds F v H A := by
  obtain ⟨e, ap, c, cells, n, h1, h2, h3, h4, h5, h6, h7, h8⟩ := h
  exact ⟨e, ap, c, cells, n, h1, h2, h3, h4, h5, h6, h7, by omega⟩
theorem dkR_eq {p : Ad} {m : Nat} {F : Hp} {v : V} {H : Hp} {A : Ad → Prop} (h : (dkR (K := K) p m).holds F v H A) : v = .ref p := h.1
/-! ### calls -/
variable {G : Ctx K} {ta : TA} {E : XK} {Pj : PyData → Ctx K → Prop}
theorem ev_call {r : ι → PyData} (x : ι) (h : EVA K ta G (args x)) (hp : pre x) : EV K (tCall (spP K args pre fun x d => d = r x) [] E ta) G (r x) := fun B F σ H own Q s k =>
  h B F σ H own _ s fun vs F1 H1 own1 s1 hd f1 => by
    refine ⟨x, F1, s1.fh, by rw [List.append_nil]; exact hd, hp, fun v d F2 H2 hr f2 fh hh g hv => ?_⟩
    subst hr
    obtain ⟨own2, s2, _⟩ := s1.step f2 fh hh g
    exact k v F2 H2 own2 s2 hv (f1.trans f2)
theorem ej_callD (Re : ∀ {p m F v H A}, (R p m).holds F v H A → v = .ref p) {i : Nat} {p : Ad} {m : Nat} (hi : G[i]? = some (.ow (R p m)))
    (h : EJA K ta G fun ds G1 => ∃ x m1, ds = args x ∧ G1[i]? = some (.ow (R p m1)) ∧ pre x ∧ m1 + cost x ≤ DB ∧ ∀ d, res x d → Pj d (G1.set i (.ow (R p (m1 + cost x))))) :
    EJ K (tCall (spD K R args pre cost res) [] E (tCons (tVar i) ta)) G Pj := fun B F σ H own Q s k => by
  obtain ⟨y, hy, v0, rfl, hR0⟩ := s.slot hi
  cases Re hR0
  refine ⟨.ref p, hy, h B F σ H own _ s fun vs ds G1 F1 H1 own1 q s1 hd f1 => ?_⟩
  obtain ⟨x, m1, rfl, g1, hp, hm, r⟩ := q
  obtain ⟨y', hy', v', rfl, hR⟩ := s1.slot g1
  rw [hy] at hy'
  cases hy'
  have nf : ∀ a, own1 a = i + 1 → F1 a = none := fun a e => by
    cases z : F1 a with
    | none => rfl
    | some u => have := s1.fz a u z; omega
  refine ⟨x, F1, p, m1, vs, fun a => own1 a = i + 1, by rw [List.append_nil], s1.fh, fun a e => ⟨nf a e, s1.al a (by omega)⟩, hR, hd, hp, hm, fun v d F2 H2 A' hr f2 fh g hk hn hA hR2 hv => ?_⟩
  obtain ⟨own2, s2⟩ := s1.chg (r' := R p (m1 + cost x)) g1 hy f2 fh g hk hn hA hR2
  exact k v d _ F2 H2 own2 (r d hr) s2 hv (f1.trans f2)
end
end Fz

set_option Elab.async false
set_option linter.all false
set_option maxRecDepth 100000
set_option maxHeartbeats 4000000
/-! part D: operations and built-ins over data -/
namespace Fz
open PySem PySem.Spec PyProof.Rows L2
section
variable {K : Fg} {G : Ctx K} {a b : Int} {d d1 d2 : PyData} {ds es : List PyData}
theorem rd_ii {g : Int → Int → Int} : RD2 K (rI0 fun i j => .int (g i j)) (.int a) (.int b) (.int (g a b)) := rd2_val fun F H x y Q s h1 h2 k => ⟨a, b, dp_int h1, dp_int h2, k _ (.int _)⟩
theorem rd_ib {g : Int → Int → Bool} : RD2 K (rI0 fun i j => .bl (g i j)) (.int a) (.int b) (.bool (g a b)) := rd2_val fun F H x y Q s h1 h2 k => ⟨a, b, dp_int h1, dp_int h2, k _ (.bl _)⟩
theorem rd_iC {C : Int → Int → Prop} {g : Int → Int → Int} (h : C a b) : RD2 K (rI C fun i j => .int (g i j)) (.int a) (.int b) (.int (g a b)) := rd2_val fun F H x y Q s h1 h2 k => ⟨a, b, dp_int h1, dp_int h2, h, k _ (.int _)⟩
theorem rd_neg : RD1 K (rU fun i => .int (-i)) (.int a) (.int (-a)) := fun F H x Q s h k => ⟨a, dp_int h, k _ F H (Same.refl _) s (Same.refl _) (Gr.refl _ _) (.int _)⟩
def isNo : PyData → Bool
  | .none => true
  | _ => false
theorem dp_isNo {F : Hp} {x : V} (h : Dp K F x d) : decide (x = .non) = isNo d := by
  cases h <;> first | rfl | (apply decide_eq_false; intro z; cases z)
theorem rd_isN : RD2 K (fun x y H Q => y = .non ∧ Q (.bl (decide (x = .non))) H) d .none (.bool (isNo d)) := rd2_val fun F H x y Q s h1 h2 k => ⟨dp_non h2, by rw [dp_isNo h1]; exact k _ (.bl _)⟩
theorem rd_notN : RD2 K (fun x y H Q => y = .non ∧ Q (.bl (!decide (x = .non))) H) d .none (.bool (!isNo d)) := rd2_val fun F H x y Q s h1 h2 k => ⟨dp_non h2, by rw [dp_isNo h1]; exact k _ (.bl _)⟩
theorem rd_eqD (h1 : SeqAt.shaped d1 = true) (h2 : SeqAt.shaped d2 = true) : RD2 K (rEqD K) d1 d2 (.bool (PyData.eqv d1 d2)) := rd2_val fun F H x y Q s a1 a2 k => ⟨d1, d2, Dp.old _ _ (dp_up s _ _ a1) h1, Dp.old _ _ (dp_up s _ _ a2) h2, h1, h2, k _ (.bl _)⟩
theorem atI_dp {F : Hp} {vs : List V} {i : Int} (h : DpAll K F vs ds) (e : atI ds i = some d) : ∃ v, atI vs i = some v ∧ Dp K F v d := by
  unfold atI at e ⊢
  rw [dpa_len h]
  cases q : ixN ds.length i with
  | none => rw [q] at e; cases e
  | some j => rw [q] at e; exact dpa_get h e
theorem rd_ixL (e : atI ds a = some d) : RD2 K (rIxL K) (.list ds) (.int a) d := rd2_val fun F H x y Q s h1 h2 k => by
  obtain ⟨p, vs, rfl, q1, q2⟩ := dp_lst h1
  obtain ⟨v, e1, e2⟩ := atI_dp q2 e
  exact ⟨p, vs, a, v, rfl, dp_int h2, s.seq q1, e1, k v e2⟩
theorem rd_ixT (e : atI ds a = some d) : RD2 K (rIxT K) (.tuple ds) (.int a) d := rd2_val fun F H x y Q s h1 h2 k => by
  obtain ⟨p, vs, rfl, q1, q2⟩ := dp_tup h1
  obtain ⟨v, e1, e2⟩ := atI_dp q2 e
  exact ⟨p, vs, a, v, rfl, dp_int h2, sqT_up s q1, e1, k v e2⟩
/-- list + list -/
def rCatD (K : Fg) : R2 := fun x y H Q => ∃ l b xs zs, x = .ref l ∧ y = .ref b ∧ SqL K H l xs ∧ SqL K H b zs ∧ xs.length + zs.length ≤ sizeLine ∧ ∀ p, H p = none → Q (.ref p) (upd H p (.lst (xs ++ zs)))
theorem op_catD {X : Cx} : OpR X (binaryOp .Add) (rCatD X.K) := by
  intro pins s σ H x y v u Q I rx ry h
  obtain ⟨l, b, xs, zs, rfl, rfl, hl, hb, hz, q⟩ := h
  cases rx
  cases ry
  obtain ⟨its, r1, p1, z1⟩ := I.list hl
  obtain ⟨its2, r2, p2, z2⟩ := I.list hb
  have i1 := p1.isList
  have i2 := p2.isList
  obtain ⟨⟨c1, dd1, data1, sl1⟩, g1, e1, n1, f1⟩ := i1
  obtain ⟨⟨c2, dd2, data2, sl2⟩, g2, e2, n2, f2⟩ := i2
  simp only at e1 f1 e2 f2
  subst e1 f1 e2 f2
  have ls := r1.length
  have ls2 := r2.length
  refine concat_meets ⟨_, g1, rfl⟩ ⟨_, g2, rfl⟩ noFill_list_add seq_list_add PySem.F.slot_list_add PySem.F.entry_list_add (PySem.F.args_list_add_2 _ _)
    (PyProof.Rows.list_addW l b its.toArray its2.toArray n1 n2 dd1 dd2 sl1 sl2 (by rw [List.size_toArray, List.size_toArray]; omega)) ⟨g1, g2, ?_⟩
  rw [show its.toArray ++ its2.toArray = (its ++ its2).toArray by simp]
  exact ⟨.ref _, _, I.lnew (t' := s.toks) (r1.append r2) (by rw [List.length_append]; omega), rfl, q _ I.fresh⟩
theorem rl_cat (hz : ds.length + es.length ≤ 100000) : RL2 K (rCatD K) (.list ds) (.list es) (ds ++ es) := fun F H x y Q s h1 h2 k => by
  obtain ⟨p, vs, rfl, q1, q2⟩ := dp_lst h1
  obtain ⟨p', vs', rfl, q3, q4⟩ := dp_lst h2
  refine ⟨p, p', vs, vs', rfl, rfl, s.seq q1, s.seq q3, Nat.le_trans (by rw [dpa_len q2, dpa_len q4]; exact hz) (by decide), fun n nn => ?_⟩
  exact k n _ F _ nn (none_dn s nn) upd_same (Same.refl _) (s.trans (same_new nn)) (same_new nn) (Gr.refl _ _) (dpa_app q2 q4) (by rw [List.length_append]; exact hz)
theorem rd_catA (hz : ds.length + es.length ≤ 100000) : RD2 K (rCatA K) (.tuple ds) (.tuple es) (.tuple (ds ++ es)) := fun F H x y Q s h1 h2 k => by
  obtain ⟨p, vs, rfl, q1, q2⟩ := dp_tup h1
  obtain ⟨p', vs', rfl, q3, q4⟩ := dp_tup h2
  refine ⟨p, p', vs, vs', rfl, rfl, sqT_up s q1, sqT_up s q3, Nat.le_trans (by rw [dpa_len q2, dpa_len q4]; exact hz) (by decide), fun e => ?_, fun _ e => ?_, fun _ _ n nn => ?_⟩
  · subst e
    cases q2
    exact k _ F H (Same.refl _) s (Same.refl _) (Gr.refl _ _) h2
  · subst e
    cases q4
    rw [List.append_nil] at k
    exact k _ F H (Same.refl _) s (Same.refl _) (Gr.refl _ _) h1
  · have nf := none_dn s nn
    exact k (.ref n) _ _ (same_new (o := .tup (vs ++ vs')) nf) (same_both s) (same_new nn) (gr_new nn) (.tup (SqT.of upd_same) (dpa_up (same_new nf) _ _ (dpa_app q2 q4)) (by rw [List.length_append]; exact hz))

/-! ### encodings -/
abbrev eI : Int → PyData := .int
abbrev eB : Bool → PyData := .bool
abbrev eS : Str → PyData := .str
abbrev eN : Unit → PyData := fun _ => .none
abbrev eD : PyData → PyData := fun d => d
abbrev eT2 {α β : Type} (f : α → PyData) (g : β → PyData) (p : α × β) : PyData := .tuple [f p.1, g p.2]
abbrev eSq {α : Type} (f : α → PyData) (xs : List α) : PyData := .tuple (xs.map f)
abbrev eLs {α : Type} (f : α → PyData) (xs : List α) : PyData := .list (xs.map f)
def eO {α : Type} (f : α → PyData) : Option α → PyData
  | none => .none
  | some x => f x
abbrev eP : Int × Int → PyData := eT2 eI eI

/-! ### slices -/
def EVO (K : Fg) (t : TO) (G : Ctx K) (o : Option Int) : Prop := ∀ (B : Bs) (F : Hp) (σ : L2.St) (H : Hp) (own : Ad → Nat) (Q : Option Int → Hp → Prop), Sat B G F σ H own →
  (∀ F' H' own', Sat B G F' σ H' own' → Same F F' → Q o H') → t σ H Q
theorem eo_no : EVO K tNoPart G none := fun B F σ H own Q s k => k F H own s (Same.refl _)
theorem eo_some {t : TE} (h : EV K t G (.int a)) : EVO K (tPart t) G (some a) := fun B F σ H own Q s k =>
  h B F σ H own _ s fun v F' H' own' s' hd f => ⟨a, dp_int hd, k F' H' own' s' f⟩
/-- xs[lo:hi] of data -/
def cutD (xs : List PyData) (lo hi : Option Int) : List PyData := (xs.drop (HT.sIx xs.length 0 lo)).take (HT.sIx xs.length xs.length hi - HT.sIx xs.length 0 lo)
theorem cut_dpa {F : Hp} {vs : List V} (h : DpAll K F vs ds) (lo hi : Option Int) : DpAll K F (cutV vs lo hi) (cutD ds lo hi) := by
  unfold cutV cutD
  rw [dpa_len h]
  exact dpa_take _ (dpa_drop _ h)
theorem cut_le {ds : List PyData} {lo hi : Option Int} {n : Nat} (h : ds.length ≤ n) : (cutD ds lo hi).length ≤ n := by
  unfold cutD
  rw [List.length_take, List.length_drop]
  omega
theorem el_slL {t : TE} {tl th : TO} {lo hi : Option Int} (h : EV K t G (.list ds)) (h1 : EVO K tl G lo) (h2 : EVO K th G hi) : EL K (tSl (rSlL K) t tl th) G (cutD ds lo hi) := fun B F σ H own Q s k =>
  h B F σ H own _ s fun v F1 H1 o1 s1 hd f1 => h1 B F1 σ H1 o1 _ s1 fun F2 H2 o2 s2 f2 => h2 B F2 σ H2 o2 _ s2 fun F3 H3 o3 s3 f3 => by
    obtain ⟨p, vs, rfl, q1, q2⟩ := dp_lst hd
    refine ⟨p, vs, rfl, (f2.trans (f3.trans s3.fh)).seq q1, fun n nn => ?_⟩
    obtain ⟨o4, s4, z4, b4⟩ := s3.newl nn (Same.refl F3) (s3.fh.trans (same_new (o := .lst (cutV vs lo hi)) nn)) (same_new nn) (Gr.refl _ _)
    exact k n _ F3 _ o4 s4 z4 (none_dn s3.fh nn) b4 upd_same (dpa_up (f2.trans f3) _ _ (cut_dpa q2 lo hi)) (cut_le (dp_lstZ hd)) (f1.trans (f2.trans f3))
theorem ev_slT {t : TE} {tl th : TO} {lo hi : Option Int} (h : EV K t G (.tuple ds)) (h1 : EVO K tl G lo) (h2 : EVO K th G hi) : EV K (tSl (rSlA K) t tl th) G (.tuple (cutD ds lo hi)) := fun B F σ H own Q s k =>
  h B F σ H own _ s fun v F1 H1 o1 s1 hd f1 => h1 B F1 σ H1 o1 _ s1 fun F2 H2 o2 s2 f2 => h2 B F2 σ H2 o2 _ s2 fun F3 H3 o3 s3 f3 => by
    obtain ⟨p, vs, rfl, q1, q2⟩ := dp_tup hd
    have l := dpa_len q2
    refine ⟨p, vs, rfl, sqT_up (f2.trans (f3.trans s3.fh)) q1, fun e => ?_, fun _ n nn => ?_⟩
    · have ec : cutD ds lo hi = ds := by
        unfold cutD
        rw [← l, e.1, e.2, List.drop_zero, Nat.sub_zero, l, List.take_length]
      rw [ec] at k
      exact k _ F3 H3 o3 s3 (dp_up (f2.trans f3) _ _ hd) (f1.trans (f2.trans f3))
    · have nf := none_dn s3.fh nn
      obtain ⟨o4, s4, z4⟩ := s3.step (same_new (o := .tup (cutV vs lo hi)) nf) (same_both s3.fh) (same_new nn) (gr_new nn)
      exact k (.ref n) _ _ o4 s4 (.tup (SqT.of upd_same) (dpa_up ((f2.trans f3).trans (same_new nf)) _ _ (cut_dpa q2 lo hi)) (cut_le (dp_tupZ hd))) ((f1.trans (f2.trans f3)).trans (same_new nf))

/-! ### built-ins -/
theorem dpa_one {F : Hp} {vs : List V} (h : DpAll K F vs [d]) : ∃ v, vs = [v] ∧ Dp K F v d := by
  obtain ⟨v, ws, rfl, h1, h2⟩ := dpa_cons h
  cases dpa_nil h2
  exact ⟨v, rfl, h1⟩
theorem dpa_two {F : Hp} {vs : List V} (h : DpAll K F vs [d1, d2]) : ∃ v w, vs = [v, w] ∧ Dp K F v d1 ∧ Dp K F w d2 := by
  obtain ⟨v, ws, rfl, h1, h2⟩ := dpa_cons h
  obtain ⟨w, rfl, h3⟩ := dpa_one h2
  exact ⟨v, w, rfl, h1, h3⟩
theorem rdl_abs : RDL K (fun xs H Q => ∃ i, xs = [.int i] ∧ Q (.int (if i < 0 then -i else i)) H) [.int a] (.int (if a < 0 then -a else a)) := rdl_val fun F H vs Q s h k => by
  obtain ⟨v, rfl, h1⟩ := dpa_one h
  exact ⟨a, by rw [dp_int h1], k _ (.int _)⟩
theorem rdl_lenL : RDL K (fun xs H Q => ∃ p ys, xs = [.ref p] ∧ (SqL K H p ys ∨ SqT K H p ys) ∧ Q (.int ys.length) H) [.list ds] (.int ds.length) := rdl_val fun F H vs Q s h k => by
  obtain ⟨v, rfl, h1⟩ := dpa_one h
  obtain ⟨p, vs, rfl, q1, q2⟩ := dp_lst h1
  exact ⟨p, vs, rfl, .inl (s.seq q1), by rw [dpa_len q2]; exact k _ (.int _)⟩
theorem rdl_lenT : RDL K (fun xs H Q => ∃ p ys, xs = [.ref p] ∧ (SqL K H p ys ∨ SqT K H p ys) ∧ Q (.int ys.length) H) [.tuple ds] (.int ds.length) := rdl_val fun F H vs Q s h k => by
  obtain ⟨v, rfl, h1⟩ := dpa_one h
  obtain ⟨p, vs, rfl, q1, q2⟩ := dp_tup h1
  exact ⟨p, vs, rfl, .inr (sqT_up s q1), by rw [dpa_len q2]; exact k _ (.int _)⟩
theorem rdl_tupL : RDL K (fun xs H Q => ∃ p ys, xs = [.ref p] ∧ ((SqL K H p ys ∧ ∀ l, H l = none → Q (.ref l) (upd H l (.tup ys))) ∨ (SqT K H p ys ∧ Q (.ref p) H))) [.list ds] (.tuple ds) := fun F H vs Q s h k => by
  obtain ⟨v, rfl, h1⟩ := dpa_one h
  obtain ⟨p, vs, rfl, q1, q2⟩ := dp_lst h1
  refine ⟨p, vs, rfl, .inl ⟨s.seq q1, fun n nn => ?_⟩⟩
  have nf := none_dn s nn
  exact k (.ref n) _ _ (same_new (o := .tup vs) nf) (same_both s) (same_new nn) (gr_new nn) (.tup (SqT.of upd_same) (dpa_up (same_new nf) _ _ q2) (dp_lstZ h1))
theorem rdl_all {bs : List Bool} : RDL K (rAll K) [.list (bs.map .bool)] (.bool (bs.all id)) := rdl_val fun F H vs Q s h k => by
  obtain ⟨v, rfl, h1⟩ := dpa_one h
  obtain ⟨p, vs, rfl, q1, q2⟩ := dp_lst h1
  exact ⟨p, bs, rfl, by rw [← dpa_bls q2]; exact s.seq q1, k _ (.bl _)⟩
end
end Fz

set_option Elab.async false
set_option linter.all false
set_option maxRecDepth 100000
set_option maxHeartbeats 4000000
/-! part B: what the printed texts lean on -/
namespace Fz
open PySem PySem.Spec PyProof.Rows L2
/-- a def that may be called: where it stands, its promise -/
def Cal (P : Program) (w : World) (K : Fg) (mg : Str → Option Value) (base : Heap) (k : Nat) (x : Str) (ps : List Str) (sp : Sp) : Prop :=
  ∃ (f : Ad) (fd : FuncData), FnG P w K mg base CX0 k f fd ps sp ∧ PySem.W.keepIn K (.ref f) = true ∧ Binds K fd ps [] ∧ mg x = some (.ref f)
theorem cal_mk {P : Program} {w : World} {K : Fg} {mg : Str → Option Value} {base : Heap} {k : Nat} {x : Str} {ps : List Str} {sp : Sp} {st : Stmt} {f : Ad} {fd : FuncData} (F : Fun K x x st f fd) (b : Binds K fd ps [])
    (m : mg x = some (.ref f)) (G : FnG P w K mg base CX0 k f fd ps sp) : Cal P w K mg base k x ps sp := ⟨f, fd, G, F.kp, b, m⟩
theorem rm65 {k : Nat} {A : Around} (r : Room k A) : A.units + 65 < cLine := by have := r.un; omega
section
variable {X : Cx} (K : Fg)
theorem ix_listK (h : X.K = K) : IxR X (rIxL K) := h ▸ ix_list
theorem ix_tupK (h : X.K = K) : IxR X (rIxT K) := h ▸ ix_tup
theorem sl_listK (h : X.K = K) : SlR X (rSlL K) := h ▸ sl_list
theorem sl_tupK (h : X.K = K) : SlR X (rSlA K) := h ▸ sl_tupA
theorem op_eqK (h : X.K = K) (hu : X.A.units + 64 < cLine) : OpR X (compareOp .Eq) (rEqD K) := h ▸ op_eqD hu
theorem op_catLK (h : X.K = K) : OpR X (binaryOp .Add) (rCatD K) := h ▸ op_catD
theorem op_catTK (h : X.K = K) : OpR X (binaryOp .Add) (rCatA K) := h ▸ op_catA
abbrev rLenQ (K : Fg) : List V → Hp → VK → Prop := fun xs H Q => ∃ p ys, xs = [.ref p] ∧ (SqL K H p ys ∨ SqT K H p ys) ∧ Q (.int ys.length) H
abbrev rTupQ (K : Fg) : List V → Hp → VK → Prop := fun xs H Q => ∃ p ys, xs = [.ref p] ∧ ((SqL K H p ys ∧ ∀ l, H l = none → Q (.ref l) (upd H l (.tup ys))) ∨ (SqT K H p ys ∧ Q (.ref p) H))
theorem call_lenK (h : X.K = K) : CallR X (.builtin "len") (rLenQ K) := h ▸ call_len_seq
theorem call_tupK (h : X.K = K) : CallR X (.type "tuple") (rTupQ K) := h ▸ call_tuple_of
theorem cr_allK (h : X.K = K) (hc : X.calm = true) : CallR X (.builtin "all") (rAll K) := h ▸ cr_all hc
theorem pi_listK {tg l : Expr} {tl : TE} (h : X.K = K) (hl : PE X l tl) : PI X tg l (iList K tl) := h ▸ pi_list hl
theorem pi_tupK {tg l : Expr} {tl : TE} (h : X.K = K) (hl : PE X l tl) : PI X tg l (iTup K tl) := h ▸ pi_tup hl
theorem pg_tupK {es : List Expr} {k : Nat} {pos : Pos} {t : TGs} (n : Nat) (h : X.K = K) (hc : X.calm = true) (ht : PGs X es t) (hn : (assignEach es X.env).length = n) (hst : (assignEach es X.env).findIdx? (·.1) = none) :
    PG X (.Tuple es k pos) (gTup K n t) := h ▸ pg_tup hc ht hn hst
end
section
variable {K : Fg} {G : Ctx K} {tA : TT} {ta tb : TE} {b : Bool}
theorem ev_ifT {α : Type} (en : α → PyData) {x y : α} (h : EVT K tA G b) (h1 : b = true → EV K ta G (en x)) (h2 : b = false → EV K tb G (en y)) : EV K (tIf tA ta tb) G (en (if b = true then x else y)) :=
  ev_is (ev_if h h1 h2) (by cases b <;> rfl)
end
theorem bnf {b : Bool} (h : b = false) : ¬ b = true := by rw [h]; decide
/-- xs[lo:hi] -/
def cutL {α : Type} (xs : List α) (lo hi : Option Int) : List α := (xs.drop (HT.sIx xs.length 0 lo)).take (HT.sIx xs.length xs.length hi - HT.sIx xs.length 0 lo)
theorem cutD_map {α : Type} (f : α → PyData) (xs : List α) (lo hi : Option Int) : cutD (xs.map f) lo hi = (cutL xs lo hi).map f := by
  unfold cutD cutL
  rw [List.length_map, List.map_take, List.map_drop]
theorem cutL_len {α : Type} (xs : List α) (k : Nat) : (cutL xs none (some (k : Int))).length ≤ k := by
  unfold cutL
  rw [HT.sIx_none, HT.sIx_nat, List.length_take]
  omega
def atL {α : Type} [Inhabited α] (xs : List α) (i : Int) : α := (atI xs i).getD default
theorem at_ok {α : Type} [Inhabited α] (f : α → PyData) {xs : List α} {i : Int} (h0 : -(xs.length : Int) ≤ i) (h1 : i < xs.length) : atI (xs.map f) i = some (f (atL xs i)) := by
  have key : ∃ j, ixN xs.length i = some j ∧ j < xs.length := by
    unfold ixN
    by_cases h : 0 ≤ i
    · rw [if_pos h, if_pos h1]; exact ⟨_, rfl, by omega⟩
    · rw [if_neg h, if_pos h0]; exact ⟨_, rfl, by omega⟩
  obtain ⟨j, e, hj⟩ := key
  unfold atL atI
  rw [List.length_map, e]
  show (xs.map f)[j]? = some (f ((xs[j]?).getD default))
  rw [List.getElem?_map, List.getElem?_eq_getElem hj]
  rfl
end Fz

set_option Elab.async false
set_option linter.all false
set_option maxRecDepth 100000
set_option maxHeartbeats 4000000
/-! part K: the laws' decks -/
namespace Fz
open PySem PySem.Spec PyProof.Rows L2
section
variable {K : Fg}
/-- a draw below l -/
abbrev preDraw (l : Int) : Prop := 0 < l ∧ l ≤ 1000000000000000000
abbrev resDraw (l : Int) (d : PyData) : Prop := ∃ k : Int, d = .int k ∧ 0 ≤ k ∧ k < l
abbrev spDraw (K : Fg) : Sp := spD K dkR (fun l : Int => [.int l]) preDraw (fun _ => 1) resDraw
/-- the deck made: a new thing -/
abbrev spDeck (K : Fg) (R : Ad → Nat → Res K) : Sp := fun vs H Q _ => ∃ (F : Hp) (ns : List Int), Same F H ∧ DpAll K F vs [.list (ns.map .int)] ∧ ns.length ≤ 63 ∧
  ∀ p F' H' A', Same F F' → Same F' H' → Same H H' → Gr F F' H → (∀ a, A' a → H a = none ∧ F' a = none ∧ H' a ≠ none) → (R p 0).holds F' (.ref p) H' A' → Q (.ref p) H'
theorem ej_deck {R : Ad → Nat → Res K} {G : Ctx K} {ta : TA} {E : XK} {ns : List Int} {i : Nat} {En : JE K} (h : EVA K ta G [.list (ns.map .int)]) (hl : ns.length ≤ 63) (k : ∀ p, En.nx (G.set i (.ow (R p 0)))) :
    SJ K (tAsg (tCall (spDeck K R) [] E ta) (gName i)) G En := fun B F σ H own D dk s m =>
  h B F σ H own _ s fun vs F1 H1 own1 s1 hd f1 => by
    refine ⟨F1, ns, s1.fh, by rw [List.append_nil]; exact hd, hl, fun p F2 H2 A' f2 fh hh g hA hR => ?_⟩
    obtain ⟨own2, s2, z2⟩ := s1.step f2 fh hh g
    obtain ⟨own3, s3⟩ := s2.fresh i (v := .ref p) (r := R p 0) (A := A') (fun a e => ⟨z2 a (hA a e).1, (hA a e).2.1, (hA a e).2.2, by
      cases q : B.H0 a with
      | none => rfl
      | some u => exact absurd (hA a e).1 (s1.bn a (by rw [q]; simp))⟩) hR
    exact m.nx _ F2 _ H2 own3 (k p) s3 (f1.trans f2)
/-- the end of every draw -/
theorem draw_end {l : Int} {F0 H : Hp} {p c : Ad} {m : Nat} {n : Int} {A0 : Ad → Prop} {Q : VK} (f0 : Same F0 H) (fa : ∀ a, A0 a → F0 a = none ∧ H a ≠ none) (ap : A0 p) (ac : A0 c) (npc : p ≠ c) (n0 : 0 ≤ n) (nm : n ≤ m)
    (q : ∀ v d F' H' A', resDraw l d → Same F0 F' → Same F' H' → Gr F0 F' H → (∀ a o, H a = some o → ¬ A0 a → H' a = some o) → (∀ a, H a ≠ none → H' a ≠ none) → (∀ a, A' a → (A0 a ∨ H a = none) ∧ F' a = none ∧ H' a ≠ none) →
      (dkR (K := K) p (m + 1)).holds F' (.ref p) H' A' → Dp K F' v d → Q v H') :
    ∀ (H' : Hp) (cells' : List Int) (k : Int), H' p = some (.lst [.ref c, .int (n + 1)]) → H' c = some (.lst (cells'.map V.int)) → cells'.length ≤ 63 → (∀ x ∈ cells', 0 ≤ x) →
      (∀ a o, a ≠ p → a ≠ c → H a = some o → H' a = some o) → 0 ≤ k → k < l → Q (.int k) H' := fun H' cells' k hp hc h63 hpos keep k0 kl => by
  have nn : ∀ a, H a ≠ none → H' a ≠ none := fun a z => by
    by_cases e : a = p
    · rw [e, hp]; simp
    · by_cases e2 : a = c
      · rw [e2, hc]; simp
      · cases w : H a with
        | none => exact absurd w z
        | some o => rw [keep a o e e2 w]; simp
  refine q (.int k) (.int k) F0 H' A0 ⟨k, rfl, k0, kl⟩ (Same.refl _) (fun a o e => ?_) (Gr.refl _ _) (fun a o e na => keep a o (fun z => na (z ▸ ap)) (fun z => na (z ▸ ac)) e) nn (fun a e => ⟨.inl e, (fa a e).1, nn a (fa a e).2⟩)
    ⟨rfl, ap, c, cells', n + 1, ac, npc, hp, hc, h63, hpos, by omega, by omega⟩ (.int k)
  refine keep a o (fun z => ?_) (fun z => ?_) (f0 a o e)
  · rw [z, (fa p ap).1] at e; cases e
  · rw [z, (fa c ac).1] at e; cases e
theorem cell_ix {cells : List Int} {i : Int} (h0 : 0 ≤ i) (h1 : i < cells.length) : ∃ (j : Nat) (hj : j < cells.length), i = (j : Int) ∧ atI (cells.map V.int) i = some (.int cells[j]) ∧ ixN (cells.map V.int).length i = some j := by
  have hj : i.toNat < cells.length := by omega
  refine ⟨i.toNat, hj, by omega, ?_, ?_⟩
  · unfold atI ixN
    rw [List.length_map, if_pos h0, if_pos h1]
    show (cells.map V.int)[i.toNat]? = _
    rw [List.getElem?_map, List.getElem?_eq_getElem hj]
    rfl
  · unfold ixN
    rw [List.length_map, if_pos h0, if_pos h1]
/-- [[..], 0] made of a list of the script's cells -/
theorem deck_go {te0 : TE} {F0 H : Hp} {ns ds : List Int} {v : V} {Q : VK} {nx : L2.St → Hp → Prop} (f0 : Same F0 H) (hv : Dp K F0 v (.list (ns.map .int)))
    (q : ∀ p F' H' A', Same F0 F' → Same F' H' → Same H H' → Gr F0 F' H → (∀ a, A' a → H a = none ∧ F' a = none ∧ H' a ≠ none) → (dkR (K := K) p 0).holds F' (.ref p) H' A' → Q (.ref p) H')
    (el : EL K te0 [.da (eLs eI ns), .un] (ds.map eI)) (hz : ds.length ≤ 63) (hp : ∀ x ∈ ds, 0 ≤ x) : tRet (tLst (tCons te0 (tCons (tC (.int 0)) tNil))) { nx := nx, rt := Q } [some v, none] H := by
  have s0 : Sat (K := K) ⟨F0, H, fun _ _ => False⟩ [.da (eLs eI ns), .un] F0 [some v, none] H (fun _ => 0) := by
    refine ⟨rfl, f0, fun _ _ _ => rfl, fun a z => absurd rfl z, fun i t y h1 h2 => ?_, Same.refl _, fun a o e => .inl e, fun a z => z, fun a o z _ => z, fun a z _ => absurd rfl z⟩
    match i, h1, h2 with
    | 0, h1, h2 => cases h1; cases h2; exact ⟨v, rfl, hv⟩
    | 1, h1, h2 => cases h1; trivial
    | i + 2, h1, h2 => simp at h1
  refine el _ F0 _ H _ _ s0 fun c ws F1 H1 o1 s1 z1 nf1 b1 hc hw _ f1 => ?_
  have ew := dpa_ints hw
  subst ew
  refine ⟨(by show 2 ≤ sizeLine; decide), fun p np => ?_⟩
  have ncp : c ≠ p := ne_of_none hc np
  refine q p F1 _ (fun a => a = p ∨ a = c) s1.b0 (s1.fh.trans (same_new np)) (fun a o e => by rw [upd_ne (ne_of_none (s1.bh a o e (fun _ z => z)) np)]; exact s1.bh a o e fun _ z => z) (fun a o e => s1.bf a o e) (fun a e => ?_)
    ⟨rfl, .inl rfl, c, _, 0, .inr rfl, ncp.symm, upd_same, by rw [upd_ne ncp]; exact hc, hz, hp, Int.le_refl _, Int.le_refl _⟩
  · rcases e with e | e
    · subst e
      refine ⟨?_, none_dn s1.fh np, by rw [upd_same]; simp⟩
      cases z : H a with
      | none => rfl
      | some u => exact absurd np (s1.bn a (by show H a ≠ none; rw [z]; simp))
    · subst e
      exact ⟨b1, nf1, by rw [upd_ne ncp, hc]; simp⟩
theorem abs_nn {x : Int} : 0 ≤ (if x < 0 then -x else x) := by split <;> omega
end
end Fz
namespace Fz
open PySem PySem.Spec PyProof.Rows L2
/-- ** of great numbers -/
def CPowW (i j : Int) : Prop := 0 ≤ j ∧ (Builtin.Int.intBits i : Int) * j ≤ 2 ^ 27
theorem op_powW {X : Cx} : OpR X (binaryOp .Pow) (rI CPowW fun i j => .int (i ^ j.toNat)) := opI fun _ _ _ _ _ _ _ hc q => pow_int hc.1 hc.2 q
theorem draw_pow {c n a b q j : Int} (h0 : 0 ≤ c) (h1 : c < q) (h2 : q ≤ 2 ^ 40) (ha : 0 ≤ a) (hn : 0 ≤ n) (hn2 : n ≤ DB) (ha2 : a ≤ 2 ^ 40) (hb : 0 ≤ b ∧ b ≤ 2 ^ 40) (hj : 0 ≤ j) (hj2 : j ≤ 5) : CPowW (c + a * n + b) j := by
  have an0 : 0 ≤ a * n := Int.mul_nonneg ha hn
  have an1 : a * n ≤ 2 ^ 40 * DB := Int.mul_le_mul ha2 hn2 hn (by decide)
  have d1 : (1 : Int) ≤ (DB : Int) := by exact_mod_cast Nat.one_le_two_pow
  have lt : (c + a * n + b).natAbs < 2 ^ 7050 := by
    have e : ((2 ^ 7050 : Nat) : Int) = 2 ^ 50 * (DB : Int) := by
      unfold DB
      rw [show (7050 : Nat) = 50 + 7000 from rfl, Nat.pow_add]
      rfl
    have : ((c + a * n + b).natAbs : Int) < ((2 ^ 7050 : Nat) : Int) := by
      rw [e, Int.natAbs_of_nonneg (by omega)]
      omega
    exact_mod_cast this
  have l := PySem.Flt.log2_lt_of (by decide) lt
  have ib : Builtin.Int.intBits (c + a * n + b) ≤ 7050 := by
    unfold Builtin.Int.intBits
    split <;> omega
  refine ⟨hj, ?_⟩
  have := Int.mul_le_mul (show (Builtin.Int.intBits (c + a * n + b) : Int) ≤ 7050 by omega) hj2 hj (by decide)
  omega
end Fz

set_option Elab.async false
set_option linter.all false
set_option maxRecDepth 100000
set_option maxHeartbeats 4000000
/-! part E: encodings: what == and repr say of them -/
namespace Fz
open PySem PySem.Spec PyProof.Rows L2
/-! ### shape -/
structure Pl {α : Type} (en : α → PyData) (k : Nat) : Prop where
  lay : ∀ x, (en x).canLay0 = true
  dep : ∀ x, (en x).depth ≤ k
theorem pl_I : Pl eI 0 := ⟨fun _ => rfl, fun _ => Nat.le_refl _⟩
section
variable {α β γ δ : Type} {f : α → PyData} {g : β → PyData} {h : γ → PyData} {i : δ → PyData} {a b c d : Nat}
theorem pl_T2 (p : Pl f a) (q : Pl g b) : Pl (eT2 f g) (max a b + 1) := ⟨fun x => by
  show ((f x.1).canLay0 && ((g x.2).canLay0 && true)) = true
  rw [p.lay, q.lay]; rfl, fun x => by
  show max (f x.1).depth (max (g x.2).depth 0) + 1 ≤ _
  have := p.dep x.1; have := q.dep x.2; omega⟩
theorem layAll : ∀ {ds : List PyData}, (∀ d ∈ ds, d.canLay0 = true) → PyData.canLayAll0 ds = true
  | [], _ => rfl
  | d :: ds, h => by
    show (d.canLay0 && PyData.canLayAll0 ds) = true
    rw [h d List.mem_cons_self, layAll fun x hx => h x (List.mem_cons_of_mem _ hx)]; rfl
theorem depAll {k : Nat} : ∀ {ds : List PyData}, (∀ d ∈ ds, d.depth ≤ k) → PyData.depthAll ds ≤ k
  | [], _ => Nat.zero_le _
  | d :: ds, h => by
    show max d.depth (PyData.depthAll ds) ≤ k
    have := h d List.mem_cons_self
    have := depAll fun x hx => h x (List.mem_cons_of_mem _ hx)
    omega
theorem pl_Sq (p : Pl f a) : Pl (eSq f) (a + 1) := ⟨fun xs => layAll fun d hd => by obtain ⟨x, _, rfl⟩ := List.mem_map.mp hd; exact p.lay x, fun xs => by
  show PyData.depthAll _ + 1 ≤ _
  have := depAll (k := a) (ds := xs.map f) fun d hd => by obtain ⟨x, _, rfl⟩ := List.mem_map.mp hd; exact p.dep x
  omega⟩
theorem pl_Ls (p : Pl f a) : Pl (eLs f) (a + 1) := ⟨fun xs => layAll fun d hd => by obtain ⟨x, _, rfl⟩ := List.mem_map.mp hd; exact p.lay x, fun xs => by
  show PyData.depthAll _ + 1 ≤ _
  have := depAll (k := a) (ds := xs.map f) fun d hd => by obtain ⟨x, _, rfl⟩ := List.mem_map.mp hd; exact p.dep x
  omega⟩
theorem shaped_pl (p : Pl f a) (x : α) (ha : a ≤ 64 := by decide) : SeqAt.shaped (f x) = true := by
  unfold SeqAt.shaped
  rw [p.lay, decide_eq_true (Nat.le_trans (p.dep x) ha)]; rfl

/-! ### == -/
def EqE (f : α → PyData) : Prop := ∀ x y, PyData.eqv (f x) (f y) = true ↔ x = y
theorem eqd [DecidableEq α] (e : EqE f) (x y : α) : PyData.eqv (f x) (f y) = decide (x = y) := by
  rw [Bool.eq_iff_iff, e]; simp
theorem eq_I : EqE eI := fun x y => by simp [PyData.eqv]
theorem eq_S : EqE eS := fun x y => by simp [PyData.eqv]
theorem eq_T2 (p : EqE f) (q : EqE g) : EqE (eT2 f g) := fun x y => by
  obtain ⟨x1, x2⟩ := x
  obtain ⟨y1, y2⟩ := y
  simp only [PyData.eqv, PyData.eqvAll, Bool.and_true, Bool.and_eq_true, Prod.mk.injEq]
  rw [p, q]
theorem eqvAll_map (p : EqE f) : ∀ xs ys : List α, PyData.eqvAll (xs.map f) (ys.map f) = true ↔ xs = ys
  | [], [] => by simp [PyData.eqvAll]
  | [], y :: ys => by simp [PyData.eqvAll]
  | x :: xs, [] => by simp [PyData.eqvAll]
  | x :: xs, y :: ys => by
    simp only [List.map_cons, PyData.eqvAll, Bool.and_eq_true, List.cons.injEq]
    rw [p, eqvAll_map p xs ys]
theorem eq_Sq (p : EqE f) : EqE (eSq f) := fun xs ys => by
  show PyData.eqv (.tuple _) (.tuple _) = true ↔ _
  rw [PyData.eqv]; exact eqvAll_map p xs ys
theorem eq_Ls (p : EqE f) : EqE (eLs f) := fun xs ys => by
  show PyData.eqv (.list _) (.list _) = true ↔ _
  rw [PyData.eqv]; exact eqvAll_map p xs ys
section
variable {K : Fg}
theorem rd_eqT [DecidableEq α] (p : Pl f a) (e : EqE f) {x y : α} (ha : a ≤ 64 := by decide) : RD2 K (rEqD K) (f x) (f y) (.bool (decide (x = y))) := by
  rw [← eqd e x y]; exact rd_eqD (shaped_pl p x ha) (shaped_pl p y ha)
theorem rd_eqI {x y : Int} : RD2 K rEq (.int x) (.int y) (.bool (decide (x = y))) := rd2_val fun F H v w Q s h1 h2 k => by
  cases dp_int h1; cases dp_int h2
  exact ⟨rfl, by rw [show decide (V.int x = V.int y) = decide (x = y) by simp]; exact k _ (.bl _)⟩
theorem rd_neI {x y : Int} : RD2 K rNe (.int x) (.int y) (.bool (!decide (x = y))) := rd2_val fun F H v w Q s h1 h2 k => by
  cases dp_int h1; cases dp_int h2
  exact ⟨rfl, by rw [show decide (V.int x = V.int y) = decide (x = y) by simp]; exact k _ (.bl _)⟩
theorem rd_eqB {x y : Bool} : RD2 K rEq (.bool x) (.bool y) (.bool (decide (x = y))) := rd2_val fun F H v w Q s h1 h2 k => by
  cases dp_bl h1; cases dp_bl h2
  exact ⟨rfl, by rw [show decide (V.bl x = V.bl y) = decide (x = y) by simp]; exact k _ (.bl _)⟩
theorem rd_eqS {x y : Str} : RD2 K rEq (.str x) (.str y) (.bool (decide (x = y))) := rd2_val fun F H v w Q s h1 h2 k => by
  cases dp_str h1; cases dp_str h2
  exact ⟨rfl, by rw [show decide (V.str x = V.str y) = decide (x = y) by simp]; exact k _ (.bl _)⟩
theorem rd_neS {x y : Str} : RD2 K rNe (.str x) (.str y) (.bool (!decide (x = y))) := rd2_val fun F H v w Q s h1 h2 k => by
  cases dp_str h1; cases dp_str h2
  exact ⟨rfl, by rw [show decide (V.str x = V.str y) = decide (x = y) by simp]; exact k _ (.bl _)⟩
end
/-! ### repr -/
structure Rp (k b : Nat) (d : PyData) : Prop where
  lay : d.canLay0 = true
  dep : d.depth ≤ k
  shw : d.showable = true
  len : d.shown.length ≤ b
theorem Rp.mono {k k' b b' : Nat} {d : PyData} (r : Rp k b d) (h : k ≤ k') (h2 : b ≤ b') : Rp k' b' d := ⟨r.lay, Nat.le_trans r.dep h, r.shw, Nat.le_trans r.len h2⟩
theorem log_lt {n : Nat} (h : n < 10 ^ 30) : n.log2 < 1920 := by
  by_cases z : n = 0
  · subst z; decide
  · exact Nat.lt_of_lt_of_le ((Nat.log2_lt z).mpr (Nat.lt_trans h (by decide : 10 ^ 30 < 2 ^ 100))) (by decide)
section
variable {K : Fg}
end
end
end Fz

set_option Elab.async false
set_option linter.all false
set_option maxRecDepth 100000
set_option maxHeartbeats 4000000
/-! part V: what the flow of a law leans on -/
namespace Fz
open PySem PySem.Spec PyProof.Rows L2
section
variable {K : Fg} {G : Ctx K} {s1 s2 : TS} {E : JE K}
end
theorem map_get {α : Type} {en : α → PyData} {xs : List α} {i : Nat} {d : PyData} (h : (xs.map en)[i]? = some d) : ∃ x, xs[i]? = some x ∧ x ∈ xs ∧ i < xs.length ∧ d = en x := by
  rw [List.getElem?_map] at h
  cases e : xs[i]? with
  | none => rw [e] at h; cases h
  | some x =>
    rw [e] at h
    cases h
    obtain ⟨hi, e2⟩ := List.getElem?_eq_some_iff.mp e
    exact ⟨x, rfl, e2 ▸ List.getElem_mem hi, hi, rfl⟩
theorem rg_get {lo : Int} {n i : Nat} {x : Int} (h : (rgI lo n)[i]? = some x) : x = lo + i ∧ i < n := by
  unfold rgI at h
  rw [List.getElem?_map] at h
  by_cases hi : i < n
  · rw [List.getElem?_range hi] at h
    cases h
    exact ⟨rfl, hi⟩
  · rw [List.getElem?_eq_none (by simp; omega)] at h
    cases h
theorem eo_get {α : Type} [Inhabited α] {f : α → PyData} {o : Option α} (h : isNo (eO f o) = false) : eO f o = f (o.getD default) := by
  cases o with
  | none => exact absurd h (by show ¬ (true = false); decide)
  | some x => rfl
/-! ### repr, by shape -/
section
variable {α β γ δ : Type} {f : α → PyData} {g : β → PyData} {h : γ → PyData} {i : δ → PyData} {k k2 k3 k4 b b2 b3 b4 : Nat}
end
end Fz
namespace Fz
open PySem PySem.Spec PyProof.Rows L2
end Fz

set_option Elab.async false
set_option linter.all false
set_option maxRecDepth 100000
set_option maxHeartbeats 4000000
/-! part M: plain facts on lists of integers -/
namespace Fz
open PySem PySem.Spec PyProof.Rows L2
section
variable {α : Type} [Inhabited α]
theorem atL_nat {xs : List α} {i : Nat} (h : i < xs.length) : atL xs (i : Int) = xs[i] := by
  unfold atL atI ixN
  rw [if_pos (by omega), if_pos (by omega)]
  show (xs[(i : Int).toNat]?).getD default = xs[i]
  rw [Int.toNat_natCast, List.getElem?_eq_getElem h]
  rfl
theorem atL_neg {xs : List α} {i : Nat} (h : i < xs.length) : atL xs (-((i : Int) + 1)) = xs[xs.length - 1 - i] := by
  unfold atL atI ixN
  rw [if_neg (by omega), if_pos (by omega)]
  show (xs[(((xs.length : Int) + -((i : Int) + 1))).toNat]?).getD default = xs[xs.length - 1 - i]
  have e : ((xs.length : Int) + -((i : Int) + 1)).toNat = xs.length - 1 - i := by omega
  rw [e, List.getElem?_eq_getElem (by omega)]
  rfl
theorem atL_mem {xs : List α} {i : Int} (h0 : 0 ≤ i) (h1 : i < xs.length) : atL xs i ∈ xs := by
  obtain ⟨j, rfl⟩ : ∃ j : Nat, i = j := ⟨i.toNat, by omega⟩
  rw [atL_nat (by omega)]
  exact List.getElem_mem _
end
end Fz
namespace Fz
open PySem PySem.Spec PyProof.Rows L2
/-- what is asked of a law's own call -/
theorem law_asks {K : Fg} {H : Hp} {a : Ad} {ns : List Int} {n m : Nat} (hl : ns.length ≤ n) (hn : n ≤ m) (hm : m ≤ 100000) (hS : SqL K H a (ns.map V.int)) (E : XK) :
    spP K (fun x : List Int => [.list (x.map .int)]) (fun x => x.length ≤ m) (fun _ d => d = .bool true) [.ref a] H (fun v _ => v = .bl true) E :=
  ⟨ns, H, Same.refl _, .cons (.lst hS (ints_dpa ns) (by rw [List.length_map]; omega)) .nil, Nat.le_trans hl hn, fun v d F' H' hr _ _ _ _ hd => by subst hr; exact dp_bl hd⟩
end Fz

set_option Elab.async false
set_option linter.all false
set_option maxRecDepth 100000
set_option maxHeartbeats 4000000
/-! part W: longer chains; lists of one's own that are looked at -/
namespace Fz
open PySem PySem.Spec PyProof.Rows L2
abbrev TC := V → L2.St → Hp → VK → Prop
/-- the rest of a chain behind a value -/
structure PCh (X : Cx) (ops : List CmpOp) (es : List Expr) (tt : TC) : Prop where
  val : ∀ (pos : Pos) (pins : List (Addr × Obj)) (s : Shared) (σ : L2.St) (H : Hp) (Q : VK) (x : V) (u : Value), Inv X pins σ H s → RelV x u → tt x σ H Q →
    wpAny (model X.prog X.w) X.A (compareChain pos u ops (evalEach es X.env)) (EP X pins σ Q) X.xe s
  tst : ∀ (pos : Pos) (pins : List (Addr × Obj)) (s : Shared) (σ : L2.St) (H : Hp) (Q : Bool → Hp → Prop) (x : V) (u : Value), Inv X pins σ H s → RelV x u → tt x σ H (fun z H' => ∃ k, z = .bl k ∧ Q k H') →
    wpAny (model X.prog X.w) X.A (testChain pos u ops (evalEach es X.env)) (TP X pins σ Q) X.xe s
section
variable {X : Cx} {op op' : CmpOp} {ops : List CmpOp} {a e e' : Expr} {es : List Expr} {r : R2} {ta tc : TE} {tt : TC} {pos : Pos}
end
section
variable {K : Fg} {G : Ctx K} {r : R2} {ta tc : TE} {tt : TC} {d d1 d2 : PyData} {a b : Bool} {ds : List PyData}
end
end Fz
namespace Fz
open PySem PySem.Spec PyProof.Rows L2
section
variable {K : Fg} {G : Ctx K} {te : TE} {E : JE K}
/-- x.append(e), typed -/
theorem sj_appT {α : Type} (en : α → PyData) {i : Nat} {xs : List α} (hi : G[i]? = some (.ow (lsR (xs.map en)))) (h : EJ K te G fun d G' => ∃ (ys : List α) (v : α), G'[i]? = some (.ow (lsR (ys.map en))) ∧ d = en v ∧ ys.length < 100000 ∧ E.nx (G'.set i (.ow (lsR ((ys ++ [v]).map en))))) :
    SJ K (tDrop (tBM K "list" rAppend (tVar i) (tCons te tNil))) G E :=
  sj_app hi (ej_mono h fun d G' ⟨ys, v, h1, h2, h3, h4⟩ => ⟨ys.map en, h1, by rw [List.length_map]; exact h3, by rw [h2, show ys.map en ++ [en v] = (ys ++ [v]).map en by rw [List.map_append]; rfl]; exact h4⟩)
theorem sj_iceT {α : Type} (en : α → PyData) {u : TS} (i : Nat) {xs : List α} (hi : G[i]? = some (.ow (lsR (xs.map en)))) (h0 : i ≠ 0) (h : SJ K u (G.set i (.da (eLs en xs))) E) : SJ K u G E := sj_ice i hi h0 h
end
end Fz

set_option Elab.async false
set_option linter.all false
set_option maxRecDepth 100000
set_option maxHeartbeats 4000000
/-! part X: sorted, sets of pairs -/
namespace Fz
open PySem PySem.Spec PyProof.Rows L2
/-- pairs in order -/
def LtP (p q : Int × Int) : Prop := p.1 < q.1 ∨ (p.1 = q.1 ∧ p.2 < q.2)
def LeP (p q : Int × Int) : Prop := p.1 < q.1 ∨ (p.1 = q.1 ∧ p.2 ≤ q.2)
instance (p q : Int × Int) : Decidable (LtP p q) := by unfold LtP; infer_instance
instance (p q : Int × Int) : Decidable (LeP p q) := by unfold LeP; infer_instance
theorem ltP_irr {p : Int × Int} : ¬ LtP p p := by unfold LtP; omega
theorem ltP_tr {p q r : Int × Int} (h : LtP p q) (h2 : LtP q r) : LtP p r := by unfold LtP at *; omega
theorem ltP_tri {p q : Int × Int} : LtP p q ∨ p = q ∨ LtP q p := by
  obtain ⟨a, b⟩ := p
  obtain ⟨c, d⟩ := q
  simp only [LtP, Prod.mk.injEq]
  omega
def insP (x : Int × Int) : List (Int × Int) → List (Int × Int)
  | [] => [x]
  | y :: ys => if x = y then y :: ys else if LtP x y then x :: y :: ys else y :: insP x ys
/-- sorted(set(xs)) -/
def srt (xs : List (Int × Int)) : List (Int × Int) := xs.foldr insP []
theorem mem_insP {x z : Int × Int} : ∀ {l : List (Int × Int)}, z ∈ insP x l ↔ z = x ∨ z ∈ l
  | [] => by simp [insP]
  | y :: ys => by
    unfold insP
    split
    · rename_i e; subst e; simp
    · split
      · simp
      · simp only [List.mem_cons, mem_insP (l := ys)]
        constructor
        · rintro (h | h | h)
          · exact .inr (.inl h)
          · exact .inl h
          · exact .inr (.inr h)
        · rintro (h | h | h)
          · exact .inr (.inl h)
          · exact .inl h
          · exact .inr (.inr h)
theorem pw_insP {x : Int × Int} : ∀ {l : List (Int × Int)}, l.Pairwise LtP → (insP x l).Pairwise LtP
  | [], _ => List.pairwise_singleton _ _
  | y :: ys, h => by
    obtain ⟨h1, h2⟩ := List.pairwise_cons.mp h
    unfold insP
    split
    · exact h
    · rename_i ne
      split
      · rename_i lt
        refine List.pairwise_cons.mpr ⟨fun z hz => ?_, h⟩
        rcases List.mem_cons.mp hz with e | e
        · rw [e]; exact lt
        · exact ltP_tr lt (h1 z e)
      · rename_i nlt
        refine List.pairwise_cons.mpr ⟨fun z hz => ?_, pw_insP h2⟩
        rcases mem_insP.mp hz with e | e
        · rw [e]
          rcases ltP_tri (p := x) (q := y) with a | a | a
          · exact absurd a nlt
          · exact absurd a ne
          · exact a
        · exact h1 z e
theorem mem_srt {z : Int × Int} : ∀ {xs : List (Int × Int)}, z ∈ srt xs ↔ z ∈ xs
  | [] => Iff.rfl
  | x :: xs => by
    show z ∈ insP x (srt xs) ↔ _
    rw [mem_insP, mem_srt, List.mem_cons]
theorem srt_pw : ∀ xs : List (Int × Int), (srt xs).Pairwise LtP
  | [] => List.Pairwise.nil
  | x :: xs => pw_insP (srt_pw xs)
theorem pwP_eq : ∀ {l l' : List (Int × Int)}, l.Pairwise LtP → l'.Pairwise LtP → (∀ z, z ∈ l ↔ z ∈ l') → l = l'
  | [], [], _, _, _ => rfl
  | [], y :: ys, _, _, h => nomatch (h y).mpr List.mem_cons_self
  | x :: xs, [], _, _, h => nomatch (h x).mp List.mem_cons_self
  | x :: xs, y :: ys, p, q, h => by
    obtain ⟨p1, p2⟩ := List.pairwise_cons.mp p
    obtain ⟨q1, q2⟩ := List.pairwise_cons.mp q
    have e : x = y := by
      rcases List.mem_cons.mp ((h x).mp List.mem_cons_self) with a | a
      · exact a
      · rcases List.mem_cons.mp ((h y).mpr List.mem_cons_self) with b | b
        · exact b.symm
        · exact absurd (ltP_tr (p1 y b) (q1 x a)) ltP_irr
    subst e
    rw [pwP_eq p2 q2 fun z => ?_]
    constructor
    · intro hz
      rcases List.mem_cons.mp ((h z).mp (List.mem_cons_of_mem _ hz)) with a | a
      · rw [a] at hz; exact absurd (p1 _ hz) ltP_irr
      · exact a
    · intro hz
      rcases List.mem_cons.mp ((h z).mpr (List.mem_cons_of_mem _ hz)) with a | a
      · rw [a] at hz; exact absurd (q1 _ hz) ltP_irr
      · exact a
theorem srt_of {l xs : List (Int × Int)} (p : l.Pairwise LtP) (h : ∀ z, z ∈ l ↔ z ∈ xs) : l = srt xs := pwP_eq p (srt_pw xs) fun z => (h z).trans mem_srt.symm
theorem len_insP {x : Int × Int} : ∀ {l : List (Int × Int)}, (insP x l).length ≤ l.length + 1
  | [] => Nat.le_refl _
  | y :: ys => by
    unfold insP
    split
    · simp
    · split
      · simp
      · have := len_insP (x := x) (l := ys)
        simp only [List.length_cons]; omega
theorem srt_len : ∀ xs : List (Int × Int), (srt xs).length ≤ xs.length
  | [] => Nat.le_refl _
  | x :: xs => by
    have := srt_len xs
    have := len_insP (x := x) (l := srt xs)
    show (insP x (srt xs)).length ≤ xs.length + 1
    omega
/-! ### sorted(xs), twins kept -/
def insD (x : Int × Int) : List (Int × Int) → List (Int × Int)
  | [] => [x]
  | y :: ys => if LeP x y then x :: y :: ys else y :: insD x ys
def srtD (xs : List (Int × Int)) : List (Int × Int) := xs.foldr insD []
theorem leP_tr {p q r : Int × Int} (h : LeP p q) (h2 : LeP q r) : LeP p r := by unfold LeP at *; omega
theorem perm_insD {x : Int × Int} : ∀ {l : List (Int × Int)}, (insD x l).Perm (x :: l)
  | [] => List.Perm.refl _
  | y :: ys => by
    unfold insD
    split
    · exact List.Perm.refl _
    · exact (perm_insD.cons y).trans (List.Perm.swap x y ys)
theorem perm_srtD : ∀ xs : List (Int × Int), (srtD xs).Perm xs
  | [] => List.Perm.refl _
  | x :: xs => perm_insD.trans ((perm_srtD xs).cons x)
theorem pw_insD {x : Int × Int} : ∀ {l : List (Int × Int)}, l.Pairwise LeP → (insD x l).Pairwise LeP
  | [], _ => List.pairwise_singleton _ _
  | y :: ys, h => by
    obtain ⟨h1, h2⟩ := List.pairwise_cons.mp h
    unfold insD
    split
    · rename_i lt
      refine List.pairwise_cons.mpr ⟨fun z hz => ?_, h⟩
      rcases List.mem_cons.mp hz with e | e
      · rw [e]; exact lt
      · exact leP_tr lt (h1 z e)
    · rename_i nlt
      refine List.pairwise_cons.mpr ⟨fun z hz => ?_, pw_insD h2⟩
      rcases List.mem_cons.mp (perm_insD.mem_iff.mp hz) with e | e
      · rw [e]; unfold LeP at *; omega
      · exact h1 z e
theorem srtD_pw : ∀ xs : List (Int × Int), (srtD xs).Pairwise LeP
  | [] => List.Pairwise.nil
  | x :: xs => pw_insD (srtD_pw xs)
/-! ### the calls -/
abbrev BB : Int := 1000000000000000
def InB (x : Int × Int) : Prop := 0 ≤ x.1 ∧ x.1 < BB ∧ 0 ≤ x.2 ∧ x.2 < BB
theorem inB_bd {x : Int × Int} (h : InB x) : TS.Bd BB [x.1, x.2] := fun m hm => by
  obtain ⟨h1, h2, h3, h4⟩ := h
  simp only [List.mem_cons, List.not_mem_nil, or_false] at hm
  rcases hm with e | e <;> subst e
  · exact ⟨h1, h2⟩
  · exact ⟨h3, h4⟩
section
variable {X : Cx} {K : Fg} {P : Program} {w : World}
theorem cr_setOfTK (h : X.K = K) (hP : X.prog = P) (hw : X.w = w) (hc : X.calm = true) (hu : X.A.units + 64 < cLine) : CallR X (.type "set") (rSetOfT K P w) := h ▸ hP ▸ hw ▸ cr_setOfT hc hu
theorem cr_sortedTK (h : X.K = K) (hP : X.prog = P) (hw : X.w = w) (hc : X.calm = true) : CallR X (.builtin "sorted") (rSortedT K P w) := h ▸ hP ▸ hw ▸ cr_sortedT hc
/-- the pairs' objects -/
theorem pairs_of {F : Hp} : ∀ {vs : List V} {xs : List (Int × Int)}, DpAll K F vs (xs.map eP) → ∃ ks : List (Ad × Int × Int), vs = ks.map (fun k => V.ref k.1) ∧ ks.map (·.2) = xs ∧ ∀ k ∈ ks, SqT K F k.1 [.int k.2.1, .int k.2.2]
  | _, [], h => by cases dpa_nil h; exact ⟨[], rfl, rfl, fun _ h => nomatch h⟩
  | _, x :: xs, h => by
    obtain ⟨v, ws, rfl, h1, h2⟩ := dpa_cons h
    obtain ⟨ks, e1, e2, e3⟩ := pairs_of h2
    obtain ⟨t, us, rfl, q1, q2⟩ := dp_tup h1
    obtain ⟨a, b, rfl, qa, qb⟩ := dpa_two q2
    cases dp_int qa
    cases dp_int qb
    refine ⟨(t, x) :: ks, by rw [e1]; rfl, by rw [← e2]; rfl, fun k hk => ?_⟩
    rcases List.mem_cons.mp hk with e | e
    · rw [e]; exact q1
    · exact e3 k e
theorem dpa_of_pairs {F : Hp} : ∀ {ks : List (Ad × Int × Int)}, (∀ k ∈ ks, SqT K F k.1 [.int k.2.1, .int k.2.2]) → DpAll K F (ks.map fun k => V.ref k.1) ((ks.map (·.2)).map eP)
  | [], _ => .nil
  | k :: ks, h => .cons (.tup (h k List.mem_cons_self) (.cons (.int _) (.cons (.int _) .nil)) (by show 2 ≤ 100000; decide)) (dpa_of_pairs fun j hj => h j (List.mem_cons_of_mem _ hj))
variable {G : Ctx K} {te : TE} {xs : List (Int × Int)}
theorem el_sortSet (h : EV K te G (eLs eP xs)) (hl : xs.length < 64) (hb : ∀ x ∈ xs, InB x) : EL K (tCB (rSortedT K P w) (tCons (tCB (rSetOfT K P w) (tCons te tNil)) tNil)) G ((srt xs).map eP) := fun B F σ H own Q s k =>
  h B F σ H own _ s fun v F1 H1 own1 s1 hd f1 => by
    obtain ⟨p, vs, rfl, q1, q2⟩ := dp_lst hd
    obtain ⟨ks, rfl, e2, e3⟩ := pairs_of q2
    have hlen : ks.length = xs.length := by rw [← e2, List.length_map]
    let js : List (Ad × List Int) := ks.map fun k => (k.1, [k.2.1, k.2.2])
    refine ⟨p, js, rfl, ?_, fun j hj => ?_, by rw [List.length_map]; omega, fun a L na hL1 hL2 => ?_⟩
    · show SqL K H1 p ((ks.map fun k => (k.1, [k.2.1, k.2.2])).map fun j : Ad × List Int => V.ref j.1)
      rw [List.map_map]; exact s1.fh.seq q1
    · obtain ⟨k', hk', rfl⟩ := List.mem_map.mp hj
      exact sqT_up s1.fh (e3 k' hk')
    · have nf := none_dn s1.fh na
      have u := same_new (o := SetTO P w a L) na
      obtain ⟨own2, s2, z2, b2⟩ := s1.newl na (Same.refl F1) (s1.fh.trans u) u (Gr.refl _ _)
      have hj : ∀ j ∈ L, ∃ k' ∈ ks, j = (k'.1, [k'.2.1, k'.2.2]) := fun j hj => by
        obtain ⟨k', hk', e⟩ := List.mem_map.mp (hL1 j hj)
        exact ⟨k', hk', e.symm⟩
      have mx : ∀ k' ∈ ks, k'.2 ∈ xs := fun k' hk' => by rw [← e2]; exact List.mem_map.mpr ⟨k', hk', rfl⟩
      refine ⟨a, L, 2, BB, rfl, upd_same, fun j h => ?_, by decide, fun j h => ?_, fun L' q hp hn h64 hs nq => ?_⟩
      · obtain ⟨k', hk', rfl⟩ := hj j h
        exact sqT_up s2.fh (e3 k' hk')
      · obtain ⟨k', hk', rfl⟩ := hj j h
        exact ⟨rfl, inB_bd (hb _ (mx k' hk'))⟩
      · have hj' : ∀ j ∈ L', ∃ k' ∈ ks, j = (k'.1, [k'.2.1, k'.2.2]) := fun j h => hj j (hp.mem_iff.mp h)
        let back : Ad × List Int → Ad × Int × Int := fun j => (j.1, j.2.getD 0 0, j.2.getD 1 0)
        have bk : ∀ j ∈ L', (back j) ∈ ks ∧ j = ((back j).1, [(back j).2.1, (back j).2.2]) := fun j h => by
          obtain ⟨k', hk', rfl⟩ := hj' j h
          exact ⟨hk', rfl⟩
        have er : (L'.map fun j => V.ref j.1) = (L'.map back).map fun k => V.ref k.1 := by rw [List.map_map]; rfl
        have eo : (L'.map back).map (·.2) = srt xs := by
          refine srt_of ?_ fun z => ?_
          · rw [List.map_map, List.pairwise_map]
            have hn' : L'.Pairwise fun q r => q.2 ≠ r.2 := List.pairwise_map.mp hn
            refine (hs.and hn').imp_of_mem fun {q r} hq hr hh => ?_
            obtain ⟨b1, c1⟩ := bk q hq
            obtain ⟨b2, c2⟩ := bk r hr
            have e1 : q.2 = [(back q).2.1, (back q).2.2] := congrArg Prod.snd c1
            have e2' : r.2 = [(back r).2.1, (back r).2.2] := congrArg Prod.snd c2
            obtain ⟨h1, h2⟩ := hh
            rw [e1, e2'] at h1 h2
            rcases code_lex (inB_bd (hb _ (mx _ b1))) (inB_bd (hb _ (mx _ b2))) h1 with y | ⟨y, y2⟩
            · exact .inl y
            · refine .inr ⟨y, ?_⟩
              have : (back q).2.2 ≠ (back r).2.2 := fun e => h2 (by rw [y, e])
              show (back q).2.2 < (back r).2.2
              omega
          · rw [List.map_map]
            constructor
            · intro hz
              obtain ⟨j, h, rfl⟩ := List.mem_map.mp hz
              exact mx _ (bk j h).1
            · intro hz
              rw [← e2] at hz
              obtain ⟨k', hk', rfl⟩ := List.mem_map.mp hz
              have : (k'.1, [k'.2.1, k'.2.2]).2 ∈ L.map (·.2) := hL2 _ (List.mem_map.mpr ⟨k', hk', rfl⟩)
              obtain ⟨j, h, e⟩ := List.mem_map.mp this
              refine List.mem_map.mpr ⟨j, hp.mem_iff.mpr h, ?_⟩
              show (j.2.getD 0 0, j.2.getD 1 0) = k'.2
              rw [e]; rfl
        obtain ⟨own3, s3, z3, b3⟩ := s2.newl nq (Same.refl F1) (s2.fh.trans (same_new (o := .lst (L'.map fun j => V.ref j.1)) nq)) (same_new nq) (Gr.refl _ _)
        refine k q _ F1 _ own3 s3 z3 (none_dn s2.fh nq) b3 upd_same ?_ (by rw [List.length_map]; exact Nat.le_trans (srt_len xs) (by omega)) f1
        rw [er, ← eo]
        exact dpa_of_pairs fun k' hk' => by
          obtain ⟨j, h, rfl⟩ := List.mem_map.mp hk'
          exact e3 _ (bk j h).1
end
end Fz
namespace Fz
open PySem PySem.Spec PyProof.Rows L2
theorem not_no {α : Type} {f : α → PyData} {o : Option α} (h : isNo (eO f o) = false) : ∃ y, o = some y := by
  cases o with
  | none => exact absurd h (by show ¬ (true = false); decide)
  | some y => exact ⟨y, rfl⟩
theorem not_no' {α : Type} {f : α → PyData} {o : Option α} (h : (!isNo (eO f o)) = true) : ∃ y, o = some y := not_no (f := f) (by simpa using h)
theorem sj_ctx {K : Fg} {G G' : Ctx K} {u : TS} {E : JE K} (e : G = G') (h : SJ K u G' E) : SJ K u G E := e ▸ h
theorem drop_at {α : Type} {xs : List α} {i : Nat} {t : α} (h : xs[i]? = some t) : xs.drop i = t :: xs.drop (i + 1) := by
  obtain ⟨hi, e⟩ := List.getElem?_eq_some_iff.mp h
  rw [List.drop_eq_getElem_cons hi, e]
theorem take_at {α : Type} {xs : List α} {i : Nat} {t : α} (h : xs[i]? = some t) : xs.take (i + 1) = xs.take i ++ [t] := by
  rw [List.take_add_one, h]; rfl
end Fz

set_option Elab.async false
set_option linter.all false
set_option maxRecDepth 100000
set_option maxHeartbeats 4000000
/-! part Y: isinstance, zip, enumerate -/
namespace Fz
open PySem PySem.Spec PyProof.Rows L2 RZ
/-- the class of data -/
def tyD : PyData → String
  | .none => "NoneType"
  | .bool _ => "bool"
  | .int _ => "int"
  | .str _ => "str"
  | .list _ => "list"
  | .tuple _ => "tuple"
  | .dict _ => "dict"
section
variable {X : Cx}
theorem call_isiK1 {K : Fg} (h : X.K = K) : CallR X (.builtin "isinstance") (rIsi K) := h ▸ call_isi
theorem pi_zipK {K : Fg} (h : X.K = K) {e e2 : Expr} {ta : TA} {p pos tpos : Pos} {elts : List Expr} {kk : Nat} (hg : Gl X "zip") (hm : X.mg "zip" = none) (ha : PA X [e, e2] ta)
    (hs : starEach [e, e2] X.env = (false, eval e X.env) :: starEach [e2] X.env := by rfl) (hpl : (backTo pos (starEach [e2] X.env)).any (·.1) = false := by rfl) :
    PI X (.Tuple elts kk tpos) (.Call (.Name "zip" p) [e, e2] [] pos) (iZipA K ta) := h ▸ pi_zipA hg hm ha hs hpl
end
section
variable {K : Fg} {G : Ctx K} {te : TE} {ta : TA} {d : PyData} {b : Bool}
theorem ty_of {F H : Hp} {v : V} (s : Same F H) (h : Dp K F v d) (nd : tyD d ≠ "dict") : TyX K H v (.type (tyD d)) := by
  cases d with
  | none => cases h; exact .base .non
  | bool x => cases h; exact .base (.bl x)
  | int x => cases h; exact .base (.int x)
  | str x => cases h; exact .base (.str x)
  | list ds =>
    obtain ⟨a, xs, rfl, q1, q2⟩ := dp_lst h
    rcases s.seq q1 with (e | ⟨o, e⟩) | ⟨o, its, n, e, c, _⟩
    · exact .base (.lst e)
    · exact .base (.frz e)
    · exact .kList e c
  | tuple ds =>
    obtain ⟨a, xs, rfl, q1, q2⟩ := dp_tup h
    rcases sqT_up s q1 with (e | ⟨o, e⟩) | ⟨o, its, n, e, c, _⟩
    · exact .base (.tup e)
    · exact .fTuple e
    · exact .kTuple e c
  | dict es => exact absurd rfl nd
theorem ev_isi {T : String} (T0 : String) (h : EV K te G d) (ht : tyD d = T0) (hk : kitB T0 T = some b := by decide +kernel) (nd : T0 ≠ "dict" := by decide) : EV K (tCB (rIsi K) (tCons te (tCons (tC (.ty T)) tNil))) G (.bool b) := fun B F σ H own Q s k =>
  h B F σ H own _ s fun v F1 H1 own1 s1 hd f1 => ⟨v, .ty T, .type T0, .type T, b, rfl, .ty T, ht ▸ ty_of s1.fh hd (ht ▸ nd), kit_ty hk, k _ F1 H1 own1 s1 (.bl b) f1⟩
theorem di_zipT {α β : Type} {f : α → PyData} {g : β → PyData} {xs : List α} {ys : List β} (h : EVA K ta G [eSq f xs, eSq g ys]) : DI K (iZipA K ta) G ((xs.zip ys).map (eT2 f g)) := by
  intro B F σ H own R s k
  refine h B F σ H own _ s fun vs F' H' own' s' hd ff => ?_
  obtain ⟨v, w, rfl, hv, hw⟩ := dpa_two hd
  obtain ⟨a, us, rfl, q1, q2⟩ := dp_tup hv
  obtain ⟨b, ws, rfl, q3, q4⟩ := dp_tup hw
  have lz : ((xs.zip ys).map (eT2 f g)).length = min xs.length ys.length := by rw [List.length_map, List.length_zip]
  refine ⟨a, b, us, ws, rfl, .inr ⟨sqT_up s'.fh q1, sqT_up s'.fh q3, k _ F' H' own' s' ff ⟨(by rw [lz]; exact Nat.le_trans (Nat.min_le_left _ _) (by simpa using dp_tupZ hv)), fun H2 f2 => ?_⟩⟩⟩
  have l1 : us.length = xs.length := by rw [dpa_len q2, List.length_map]
  have l2 : ws.length = ys.length := by rw [dpa_len q4, List.length_map]
  have lz : ((xs.zip ys).map (eT2 f g)).length = min xs.length ys.length := by rw [List.length_map, List.length_zip]
  refine ⟨fun i hi => ⟨us, ws, us[i]'(by omega), ws[i]'(by omega), sqT_up f2 q1, sqT_up f2 q3, List.getElem?_eq_getElem _, List.getElem?_eq_getElem _⟩, fun i hi => ⟨us, ws, sqT_up f2 q1, sqT_up f2 q3, by omega⟩, fun i x H3 hi hy => ?_⟩
  obtain ⟨T, x1, y1, rfl, nT, rfl, hx, hy'⟩ := hy
  have hx := hx us (sqT_up f2 q1)
  have hy' := hy' ws (sqT_up f2 q3)
  obtain ⟨d1, e1, g1⟩ := dpa_get' q2 hx
  obtain ⟨d2, e2, g2⟩ := dpa_get' q4 hy'
  refine ⟨.tuple [d1, d2], ?_, .inr ⟨T, [x1, y1], [d1, d2], rfl, nT, rfl, rfl, .cons g1 (.cons g2 .nil), by show 2 ≤ 100000; decide⟩⟩
  rw [List.getElem?_map] at e1 e2
  obtain ⟨x0, h1, h2⟩ := Option.map_eq_some_iff.mp e1
  obtain ⟨y0, h3, h4⟩ := Option.map_eq_some_iff.mp e2
  rw [List.getElem?_map, (List.getElem?_zip_eq_some (z := (x0, y0))).mpr ⟨h1, h3⟩]
  show some (PyData.tuple [f x0, g y0]) = _
  rw [h2, h4]
end
end Fz
namespace Fz
open PySem PySem.Spec PyProof.Rows L2
end Fz
namespace Fz
open PySem PySem.Spec PyProof.Rows L2
end Fz

set_option Elab.async false
set_option linter.all false
set_option maxRecDepth 100000
set_option maxHeartbeats 4000000
/-! part Z: sorted ints -/
namespace Fz
open PySem PySem.Spec PyProof.Rows L2
section
variable {K : Fg} {G : Ctx K} {te : TE} {xs : List Int}
end
end Fz

set_option Elab.async false
set_option linter.all false
set_option maxRecDepth 100000
set_option maxHeartbeats 4000000
/-! part P: mirrors in the style of continuations, and how a body is walked along its mirror -/
namespace Fz
open PySem PySem.Spec PyProof.Rows L2

/-- for x in xs: body x state next break -/
def forW {α σ : Type} (body : α → σ → (σ → Prop) → (σ → Prop) → Prop) : List α → σ → (σ → Prop) → Prop
  | [], s, k => k s
  | x :: xs, s, k => body x s (fun s' => forW body xs s' k) k
/-! ### proving mirrors -/
section
variable {α β σ : Type}
theorem forW_inv {body : α → σ → (σ → Prop) → (σ → Prop) → Prop} {xs : List α} {s : σ} {k : σ → Prop} (I : Nat → σ → Prop) (h0 : I 0 s)
    (hs : ∀ (i : Nat) (x : α) (s : σ) (κ : σ → Prop), xs[i]? = some x → I i s → (∀ s', I (i + 1) s' → κ s') → body x s κ k) (hk : ∀ s, I xs.length s → k s) : forW body xs s k := by
  induction xs generalizing I s with
  | nil => exact hk s h0
  | cons x xs ih =>
    refine hs 0 x s _ rfl h0 fun s' h' => ih (fun i => I (i + 1)) h' (fun i y t κ e hI hκ => hs (i + 1) y t κ (by simpa using e) hI hκ) fun t ht => hk t (by simpa using ht)
end

/-! ### what mirrors ask -/
/-- xs[i] is there -/
def Ix {α : Type} (xs : List α) (i : Int) : Prop := -(xs.length : Int) ≤ i ∧ i < xs.length
def Rg1 (n : Int) : Prop := n ≤ 100000 ∧ -(2 ^ 60) < n
/-- a draw below n may be asked -/
def Dr (n : Int) : Prop := 0 < n ∧ n ≤ 1000000000000000000
def Rp' (x : Int) : Prop := x.natAbs < 10 ^ 30

theorem eo_is {α : Type} {f : α → PyData} {o : Option α} (h : (!isNo (eO f o)) = true ∨ isNo (eO f o) = false) : isNo (eO f o) = false := by
  rcases h with h | h
  · simpa using h
  · exact h
theorem rd_catL {K : Fg} {α : Type} {f : α → PyData} {xs ys : List α} (h : xs.length + ys.length ≤ 100000) : RD2 K (rCatD K) (.list (xs.map f)) (.list (ys.map f)) (eLs f (xs ++ ys)) := by
  have q := rd2_of (K := K) (rl_cat (ds := xs.map f) (es := ys.map f) (by rw [List.length_map, List.length_map]; exact h))
  rw [← List.map_append] at q
  exact q
/-! ### promises by mirrors -/
section
variable {K : Fg} {ι β : Type}
abbrev spW (K : Fg) (args : ι → List PyData) (en : β → PyData) (M : ι → (β → Prop) → Prop) : Sp :=
  spP K (fun x : ι × (β → Prop) => args x.1) (fun x => M x.1 x.2) (fun x d => ∃ r, d = en r ∧ x.2 r)
abbrev spWD (K : Fg) (R : Ad → Nat → Res K) (args : ι → List PyData) (en : β → PyData) (cost : Nat) (M : ι → (β → Prop) → Prop) : Sp :=
  spD K R (fun x : ι × (β → Prop) => args x.1) (fun x => M x.1 x.2) (fun _ => cost) (fun x d => ∃ r, d = en r ∧ x.2 r)
theorem imp_W {args : ι → List PyData} {en : β → PyData} {M : ι → (β → Prop) → Prop} {P : ι → Prop} {V : ι → β} (pf : ∀ x, P x → M x fun r => r = V x) :
    ∀ vs H Q E, spP K args P (fun x d => d = en (V x)) vs H Q E → spW K args en M vs H Q E := by
  rintro vs H Q E ⟨x, F, f, hd, hp, q⟩
  refine ⟨(x, fun r => r = V x), F, f, hd, pf x hp, fun v d F' H' hr => ?_⟩
  obtain ⟨r, rfl, rfl⟩ := hr
  exact q v _ F' H' rfl
theorem imp_WD {R : Ad → Nat → Res K} {args : ι → List PyData} {en : β → PyData} {c : Nat} {M : ι → (β → Prop) → Prop} {P : ι → Prop} {post : ι → β → Prop} (pf : ∀ x, P x → M x fun r => post x r) :
    ∀ vs H Q E, spD K R args P (fun _ => c) (fun x d => ∃ r, d = en r ∧ post x r) vs H Q E → spWD K R args en c M vs H Q E := by
  rintro vs H Q E ⟨x, F, p, m, ws, A, e, f, fa, hR, hd, hp, hm, q⟩
  exact ⟨(x, fun r => post x r), F, p, m, ws, A, e, f, fa, hR, hd, pf x hp, hm, fun v d F' H' A' hr => q v d F' H' A' hr⟩
end

/-! ### walking -/
section
variable {K : Fg} {α β σ : Type} {G : Ctx K} {E : JE K} {u s1 s2 : TS} {wi : TI} {g : TG} {tA tB : TT}
theorem Wk.trans {K : Fg} : ∀ {A B C : List (Sl K)}, Wk A B → Wk B C → Wk A C
  | _, _, _, .nil, .nil => .nil
  | _, _, _, .same a, .same b => .same (a.trans b)
  | _, _, _, .same a, .un b => .un (a.trans b)
  | _, _, _, .un a, .same b => .un (a.trans b)
  | _, _, _, .un a, .un b => .un (a.trans b)
theorem sj_mono {E' : JE K} (h : SJ K u G E') (n : ∀ G', E'.nx G' → E.nx G') (r : ∀ d G', E'.rt d G' → E.rt d G') (b : ∀ G', E'.bk G' → E.bk G') (c : ∀ G', E'.ct G' → E.ct G') : SJ K u G E := fun B F σ H own D dk s m =>
  h B F σ H own D dk s ⟨fun G' F' σ' H' own' q => m.nx G' F' σ' H' own' (n _ q), fun d v G' F' σ' H' own' q => m.rt d v G' F' σ' H' own' (r _ _ q), fun G' F' σ' H' own' q => m.bk G' F' σ' H' own' (b _ q), fun G' F' σ' H' own' q => m.ct G' F' σ' H' own' (c _ q)⟩
/-- a value gets a name -/
theorem sj_nameV (e : α) (C : α → Ctx K) (h : ∀ x, x = e → SJ K u (C x) E) : SJ K u (C e) E := h e rfl
/-- nothing but a state is left: more knowledge does no harm -/
def Up (P : Ctx K → Prop) : Prop := ∀ A A', Wk A A' → P A' → P A
theorem up_sj {t : TS} : Up fun G' : Ctx K => SJ K t G' E := fun _ _ w h => sj_wk w h
theorem up_un {p : Prop} : Up fun _ : Ctx K => p := fun _ _ _ h => h

theorem sj_forP (hd : DIJ K wi G fun ds G0 => ds.length ≤ 100000 → ∃ (vs : List Nat) (Iv : Nat → Ctx K → Prop), Iv 0 G0 ∧
      (∀ i d G', ds[i]? = some d → Iv i G' → GJ K g d G' vs fun G2 => SJ K u G2 ⟨fun G3 => ∃ G4, Wk G3 G4 ∧ Iv (i + 1) G4, E.rt, E.nx, fun G3 => ∃ G4, Wk G3 G4 ∧ Iv (i + 1) G4⟩) ∧ ∀ G', Iv ds.length G' → E.nx G') : SJ K (tFor wi g u) G E :=
  sj_for fun B F σ' H own R s kk => hd B F σ' H own R s fun J ds G' F' H' own' p s' f it => kk J ds G' F' H' own' (p it.1) s' f it
/-- a for along its mirror -/
theorem forOk_W (en : α → PyData) {body : α → σ → (σ → Prop) → (σ → Prop) → Prop} {xs : List α} {s0 : σ} {k : σ → Prop} (h : forW body xs s0 k) (c m0 : Nat) (ctx : Nat → σ → Ctx K) (vs : List Nat) (up : Up E.nx)
    (hb : ∀ (x : α) (s : σ) (κ : σ → Prop) (m : Nat), m + c ≤ m0 + c * 100000 → body x s κ k → GJ K g (en x) (ctx m s) vs fun G2 => SJ K u G2
      ⟨fun G3 => ∃ (s' : σ) (m' : Nat), κ s' ∧ m' ≤ m + c ∧ Wk G3 (ctx m' s'), E.rt, fun G3 => ∃ (s' : σ) (m' : Nat), k s' ∧ m' ≤ m + c ∧ Wk G3 (ctx m' s'), fun G3 => ∃ (s' : σ) (m' : Nat), κ s' ∧ m' ≤ m + c ∧ Wk G3 (ctx m' s')⟩)
    (hk : ∀ (s : σ) (m : Nat), m ≤ m0 + c * 100000 → k s → E.nx (ctx m s)) : (xs.map en).length ≤ 100000 → ∃ (vs : List Nat) (Iv : Nat → Ctx K → Prop), Iv 0 (ctx m0 s0) ∧
      (∀ i d G', (xs.map en)[i]? = some d → Iv i G' → GJ K g d G' vs fun G2 => SJ K u G2 ⟨fun G3 => ∃ G4, Wk G3 G4 ∧ Iv (i + 1) G4, E.rt, E.nx, fun G3 => ∃ G4, Wk G3 G4 ∧ Iv (i + 1) G4⟩) ∧ ∀ G', Iv (xs.map en).length G' → E.nx G' := by
  intro hz
  rw [List.length_map] at hz
  refine ⟨vs, fun i G' => ∃ (s : σ) (m : Nat), forW body (xs.drop i) s k ∧ m ≤ m0 + c * i ∧ G' = ctx m s, ⟨s0, m0, h, by omega, rfl⟩, ?_, ?_⟩
  · rintro i d G' hi ⟨s, m, hf, hm, rfl⟩
    obtain ⟨x, hx, hxm, hxl, rfl⟩ := map_get hi
    have e : xs.drop i = x :: xs.drop (i + 1) := drop_at hx
    rw [e] at hf
    have bi : m + c ≤ m0 + c * 100000 := by
      have h1 : c * (i + 1) ≤ c * 100000 := Nat.mul_le_mul_left c (by omega)
      rw [Nat.mul_add, Nat.mul_one] at h1
      omega
    have q := hb x s _ m bi hf
    refine fun B F σ' H own v Q st hv kq => q B F σ' H own v Q st hv fun G2 σ2 own2 p2 => kq G2 σ2 own2 (sj_mono p2 ?_ (fun _ _ z => z) ?_ ?_)
    · rintro G3 ⟨s', m', h1, h2, h3⟩
      exact ⟨_, h3, s', m', h1, by rw [Nat.mul_add]; omega, rfl⟩
    · rintro G3 ⟨s', m', h1, h2, h3⟩
      exact up _ _ h3 (hk s' m' (by omega) h1)
    · rintro G3 ⟨s', m', h1, h2, h3⟩
      exact ⟨_, h3, s', m', h1, by rw [Nat.mul_add]; omega, rfl⟩
  · rintro G' ⟨s, m, hf, hm, rfl⟩
    rw [List.length_map, List.drop_length] at hf
    rw [List.length_map] at hm
    exact hk s m (Nat.le_trans hm (Nat.add_le_add_left (Nat.mul_le_mul_left c hz) _)) hf

end
end Fz

set_option Elab.async false
set_option linter.all false
set_option maxRecDepth 100000
set_option maxHeartbeats 4000000
/-! part Ob: objects of the program's classes -/
namespace Fz
open PySem PySem.Spec PyProof.Rows L2

/-! ### methods and making, where no repr is under way -/
section
variable {X : Cx} {CX : CXT} {k : Nat} {f C : Ad} {fd : FuncData} {ps : List Str} {sp : Sp} {dvs : List V}
  {ds : List Value} {E : XK} {x m : Str} {p pos apos : Pos} {e o : Expr} {es : List Expr} {ta : TE} {t : TA}
theorem pe_methG {pl : Sem Bool} (he : PE X o ta) (c : Cls X.K C) (hm : Meth X.K C m f) (F : FnG X.prog X.w X.K X.mg X.base CX k f fd ps sp) (hr : Room k X.A) (hgd : X.A.guards = some []) (hb : Binds X.K fd ps ds) (hd : Vals dvs ds) (hx : Passes CX X E) (ha : PA X (e :: es) t)
    (hst : starEach (e :: es) X.env = (false, eval e X.env) :: starEach es X.env := by rfl) (hpl : (backTo pos (starEach es X.env)).any (·.1) = false := by rfl)
    (ht : eval (.Call (.Attribute o m apos) (e :: es) [] pos) X.env = (do
      let ov ← eval o X.env
      standAt apos.atName
      let (f, first) ← holding [ov] (getMethod ov m pl)
      callWith pos f first (backTo pos (starEach (e :: es) X.env)) (backToKw pos (keywordEach [] X.env))) := by rfl) :
    PE X (.Call (.Attribute o m apos) (e :: es) [] pos) (tMeth C m sp dvs E ta t) := by
  refine ⟨fun pins s σ H Q I h => ?_⟩
  refine PySem.W.methodCall_KW (pl := pl) (thn (he.run pins s σ H _ I h) fun u s1 ⟨x, H1, I1, rx, a, dx, fs, ex, ea, l, q⟩ => ?_) ht
  subst ex
  obtain rfl : u = Value.ref a := rx
  refine getmeth_ok I1 ea c hm l ?_
  refine PySem.W.callWith_K (first := [.ref a]) (h₀ := X.base) I.ok.mod.kin hm.kp (thn (ha.run pos pins s1 σ H1 _ I1 q) fun us s2 ⟨vs, H2, I2, r, q2⟩ => ⟨I2.kIn, ?_⟩) hst hpl
  exact runG (us := .ref a :: us) (vs := .ref a :: vs) F hr hgd hb hd hx I2 (.cons rfl r) q2
theorem pe_meth0G {pl : Sem Bool} (he : PE X o ta) (c : Cls X.K C) (hm : Meth X.K C m f) (F : FnG X.prog X.w X.K X.mg X.base CX k f fd ps sp) (hr : Room k X.A) (hgd : X.A.guards = some []) (hb : Binds X.K fd ps ds) (hd : Vals dvs ds) (hx : Passes CX X E)
    (ht : eval (.Call (.Attribute o m apos) [] [] pos) X.env = (do
      let ov ← eval o X.env
      standAt apos.atName
      let (f, first) ← holding [ov] (getMethod ov m pl)
      callWith pos f first (backTo pos (starEach [] X.env)) (backToKw pos (keywordEach [] X.env))) := by rfl) :
    PE X (.Call (.Attribute o m apos) [] [] pos) (tMeth C m sp dvs E ta tNil) := by
  refine ⟨fun pins s σ H Q I h => ?_⟩
  refine PySem.W.methodCall_KW (pl := pl) (thn (he.run pins s σ H _ I h) fun u s1 ⟨x, H1, I1, rx, a, dx, fs, ex, ea, l, q⟩ => ?_) ht
  subst ex
  obtain rfl : u = Value.ref a := rx
  refine getmeth_ok I1 ea c hm l ?_
  exact PySem.W.callWith_K0 (first := [.ref a]) I1.kIn hm.kp (runG (us := [.ref a]) (vs := [.ref a]) F hr hgd hb hd hx I1 (.cons rfl .nil) q)
theorem run_makeG {pins : List (Addr × Obj)} {σ : L2.St} {H : Hp} {s : Shared} {Q : VK} {us : List Value} {vs : List V} (M : Mk X.K C f) (F : FnG X.prog X.w X.K X.mg X.base CX k f fd ps sp) (hr : Room (k + 1) X.A) (hgd : X.A.guards = some []) (hb : Binds X.K fd ps ds) (hd : Vals dvs ds)
    (hx : Passes CX X E) (I : Inv X pins σ H s) (r : Vals vs us)
    (h : ∀ x dx, H x = none → H dx = none → dx ≠ x → sp (.ref x :: (vs ++ dvs)) (upd (upd H dx (.own x)) x (.ins C dx [])) (fun v H2 => v = .non ∧ Q (.ref x) H2) E) :
    wpAny (model X.prog X.w) X.A (call (.ref C) us) (EP X pins σ Q) X.xe s := by
  have hq := h (s.heap.objs.size + 1) s.heap.objs.size (I.hok.fresh (Nat.le_succ _)) (I.hok.fresh (Nat.le_refl _)) (Nat.ne_of_lt (Nat.lt_succ_self _))
  have I2 := Inv.made (C := C) I
  have r2 : Vals (V.ref (s.heap.objs.size + 1) :: (vs ++ dvs)) (Value.ref (s.heap.objs.size + 1) :: (us ++ ds)) := .cons rfl (r.append hd)
  have hl : (Value.ref (s.heap.objs.size + 1) :: us ++ ds).length = ps.length := by
    have e := r2.length
    rw [F.len _ _ _ _ hq] at e
    exact e.symm
  refine wpAny_call (make_map (f := f) I.kIn M.makes M.init (beq_iff_eq.mp M.fn) (codeAny_mono (F.run _ X.stack _ _ ⟨Value.ref (s.heap.objs.size + 1) :: us, []⟩ (Value.ref (s.heap.objs.size + 1) :: (us ++ ds)) _ _ E (hr.make C us []) (by exact hgd)
    (I2.env0.make C us []) (hb _ (Value.ref (s.heap.objs.size + 1) :: us) I2.kIn hl) r2 hq) fun r s' hq' => ?_))
  cases r with
  | error e => exact hx pins σ _ _ e s' I2 hq'
  | ok fl =>
    cases fl with
    | ret u =>
      obtain ⟨v, H', I3, rv, ev, q3⟩ := I2.after hq'
      subst ev
      exact ⟨rv, ⟨V.ref (s.heap.objs.size + 1), H', I3, rfl, q3⟩⟩
    | next => exact False.elim hq'
    | brk => exact False.elim hq'
    | cont => exact False.elim hq'
theorem pe_makeG (M : Mk X.K C f) (F : FnG X.prog X.w X.K X.mg X.base CX k f fd ps sp) (hr : Room (k + 1) X.A) (hgd : X.A.guards = some []) (hg : Gl X x) (hm : X.mg x = some (.ref C)) (hb : Binds X.K fd ps ds) (hd : Vals dvs ds) (hx : Passes CX X E)
    (ha : PA X (e :: es) t) (hdb : (x == ("__debug__" : Str)) = false := by decide) (he : starEach (e :: es) X.env = (false, eval e X.env) :: starEach es X.env := by rfl) (hpl : (backTo pos (starEach es X.env)).any (·.1) = false := by rfl) :
    PE X (.Call (.Name x p) (e :: es) [] pos) (tMake C sp dvs E t) := by
  refine ⟨fun pins s σ H Q I h => ?_⟩
  refine wpAny_Call_Name_kw (ld_glob I hg hm ?_ hdb)
  refine PySem.W.callWith_K (h₀ := X.base) I.ok.mod.kin M.kp (thn (ha.run pos pins s σ H _ I h) fun us s1 ⟨vs, H1, I1, r, q⟩ => ⟨I1.kIn, ?_⟩) he hpl
  exact run_makeG M F hr hgd hb hd hx I1 r q
end

/-! ### objects as data -/
section
variable {K : Fg} {ι : Type} {G : Ctx K}
/-- an object of the class cn that is not changed any more: its attributes ns hold ds -/
abbrev obL (cn : Str) (ns : List Str) (ds : List PyData) : PyData := .dict [(.tuple (.str cn :: ns.map .str), .tuple ds)]
theorem map_str_inj : ∀ {l m : List Str}, l.map PyData.str = m.map PyData.str → l = m
  | [], [], _ => rfl
  | x :: l, y :: m, h => by
    rw [List.map_cons, List.map_cons] at h
    obtain ⟨h1, h2⟩ := List.cons.inj h
    cases h1
    rw [map_str_inj h2]
theorem dp_ob {F : Hp} {v : V} {cn : Str} {ns : List Str} {ds : List PyData} (h : Dp K F v (obL cn ns ds)) : ∃ a C dx fs, v = .ref a ∧ PySem.W.nsIn K mainGlobals cn = some (some (.ref C)) ∧ F a = some (.ins C dx fs) ∧ F dx = some (.own a) ∧ fs.map (·.1) = ns ∧ DpAll K F (fs.map (·.2)) ds := by
  generalize hl : obL cn ns ds = l at h
  cases h with
  | ob h1 h2 h3 h4 =>
    rename_i a C dx cn' fs ds'
    obtain ⟨e1, e2⟩ := Prod.mk.inj (List.cons.inj (PyData.dict.inj hl)).1
    obtain ⟨e3, e4⟩ := List.cons.inj (PyData.tuple.inj e1)
    cases PyData.str.inj e3
    cases PyData.tuple.inj e2
    refine ⟨a, C, dx, fs, rfl, h1, h2, h3, ?_, h4⟩
    have e5 : (fs.map (·.1)).map PyData.str = ns.map PyData.str := by rw [List.map_map]; exact e4.symm
    exact map_str_inj e5
  | dn h1 h2 h3 h4 h5 h6 h7 h8 h9 => cases hl
  | dk h1 h2 h3 =>
    have e := PyData.dict.inj hl
    rw [← e] at h2
    rcases keyD_no h2 with ⟨i, z⟩ | ⟨x, z⟩ <;> cases z
  | _ => cases hl
def lkF : List Str → List PyData → Str → Option PyData
  | n :: ns, d :: ds, f => if f = n then some d else lkF ns ds f
  | _, _, _ => none
theorem lk_of {F : Hp} {f : Str} {d : PyData} : ∀ {fs : List (Str × V)} {ds : List PyData}, DpAll K F (fs.map (·.2)) ds → lkF (fs.map (·.1)) ds f = some d → ∃ v, fs.lookup f = some v ∧ Dp K F v d
  | [], _, h, e => by cases h; cases e
  | (g, x) :: fs, ds, h, e => by
    obtain _ | ⟨h1, h2⟩ := h
    rw [List.map_cons, lkF] at e
    by_cases w : f = g
    · rw [if_pos w] at e
      cases e
      exact ⟨x, by rw [List.lookup_cons, w, beq_self_eq_true], h1⟩
    · rw [if_neg w] at e
      obtain ⟨v, v1, v2⟩ := lk_of h2 e
      exact ⟨v, by rw [List.lookup_cons, beq_eq_false_iff_ne.mpr w]; exact v1, v2⟩
theorem lk_no {f : Str} : ∀ {fs : List (Str × V)}, f ∉ fs.map (·.1) → fs.lookup f = none
  | [], _ => rfl
  | (g, x) :: fs, h => by
    rw [List.map_cons, List.mem_cons, not_or] at h
    rw [List.lookup_cons, beq_eq_false_iff_ne.mpr h.1]
    exact lk_no h.2
/-- e.f -/
theorem ev_fld {ta : TE} {cn f : Str} {ns : List Str} {ds : List PyData} {d : PyData} {C : Ad} (h : EV K ta G (obL cn ns ds)) (hC : PySem.W.nsIn K mainGlobals cn = some (some (.ref C))) (c : Cls K C) (n : NoAttr K C f) (l : lkF ns ds f = some d) : EV K (tFld K ta f) G d := fun B F σ H own Q s k =>
  h B F σ H own _ s fun v F' H' own' s' hd ff => by
    obtain ⟨a, C', dx, fs, rfl, h1, h2, h3, h4, h5⟩ := dp_ob hd
    rw [hC] at h1
    cases h1
    rw [← h4] at l
    obtain ⟨v, v1, v2⟩ := lk_of h5 l
    exact ⟨a, C, dx, fs, v, rfl, s'.fh _ _ h2, c, n, v1, k v F' H' own' s' v2 ff⟩
/-- o.m(..), an own method over data -/
theorem ev_meth {ta : TE} {t : TA} {cn m : Str} {ns : List Str} {os ds : List PyData} {C : Ad} {args : ι → List PyData} {pre : ι → Prop} {r : ι → PyData} {E : XK} (x : ι) (h : EV K ta G (obL cn ns os)) (hC : PySem.W.nsIn K mainGlobals cn = some (some (.ref C))) (hm : m ∉ ns) (ha : EVA K t G ds) (hx : args x = obL cn ns os :: ds) (hp : pre x) :
    EV K (tMeth C m (spP K args pre fun x d => d = r x) [] E ta t) G (r x) := fun B F σ H own Q s k =>
  h B F σ H own _ s fun v F1 H1 own1 s1 hd f1 => by
    obtain ⟨a, C', dx, fs, rfl, h1, h2, h3, h4, h5⟩ := dp_ob hd
    rw [hC] at h1
    cases h1
    refine ⟨a, dx, fs, rfl, s1.fh _ _ h2, lk_no (by rw [h4]; exact hm), ?_⟩
    · refine ha B F1 σ H1 own1 _ s1 fun vs F2 H2 own2 s2 hd2 f2 => ?_
      refine ⟨x, F2, s2.fh, ?_, hp, fun v d F3 H3 hr f3 fh hh g hv => ?_⟩
      · rw [hx, List.append_nil]
        exact .cons (dp_up f2 _ _ hd) hd2
      · subst hr
        obtain ⟨own3, s3, _⟩ := s2.step f3 fh hh g
        exact k v F3 H3 own3 s3 hv ((f1.trans f2).trans f3)

/-! ### promises of methods that change their object -/
/-- the first argument is a thing R x p at p; behind the call it is R' p -/
def spR (K : Fg) (R : ι → Ad → Res K) (args : ι → List PyData) (pre : ι → Prop) (res : ι → PyData → (Ad → Res K) → Prop) : Sp := fun vs H Q _ => ∃ (x : ι) (F : Hp) (p : Ad) (ws : List V) (A : Ad → Prop),
  vs = .ref p :: ws ∧ Same F H ∧ (∀ a, A a → F a = none ∧ H a ≠ none) ∧ (R x p).holds F (.ref p) H A ∧ DpAll K F ws (args x) ∧ pre x ∧
  ∀ v d R' F' H' A', res x d R' → Same F F' → Same F' H' → Gr F F' H → (∀ a o, H a = some o → ¬ A a → H' a = some o) → (∀ a, H a ≠ none → H' a ≠ none) → (∀ a, A' a → (A a ∨ H a = none) ∧ F' a = none ∧ H' a ≠ none) →
    (R' p).holds F' (.ref p) H' A' → Dp K F' v d → Q v H'
section
variable {P : Program} {w : World} {mg : Str → Option Value} {base : Heap} {k : Nat} {f : Ad} {fd : FuncData} {ps N : List Str} {x qual : Str} {st : Stmt}
  {args : ι → List PyData} {pre : ι → Prop} {R : ι → Ad → Res K} {res : ι → PyData → (Ad → Res K) → Prop}
open Classical in
/-- such a method, by its body (CH: the def as it stands) -/
theorem sp_R {E : XK} {vs : List V} {H : Hp} {Q : VK} {t : TS} (hl : ∀ x, (args x).length + 1 = ps.length) (le : ps.length ≤ N.length)
    (hs : ∀ x (p : Ad), pre x → SJ K t (.ow (R x p) :: ((args x).map .da ++ List.replicate (N.length - ps.length) .un))
          ⟨fun G' => ∃ R', res x .none R' ∧ G'[0]? = some (.ow (R' p)), fun d G' => ∃ R', res x d R' ∧ G'[0]? = some (.ow (R' p)), fun _ => False, fun _ => False⟩)
    (Re : ∀ {x d R' p F v H A}, res x d R' → (R' p).holds F v H A → v = .ref p)
    (h : spR K R args pre res vs H Q E) : t { nx := fun _ H' => Q .non H', rt := Q } (start N vs) H := by
  obtain ⟨x, F0, p, ws, A0, rfl, f0, fa, hR, hd, hp, q⟩ := h
  have lv : ws.length + 1 = ps.length := by rw [dpa_len hd, hl]
  let own0 : Ad → Nat := fun a => if A0 a then 1 else 0
  have o1 : ∀ a, A0 a → own0 a = 1 := fun a z => if_pos z
  have o0 : ∀ a, ¬ A0 a → own0 a = 0 := fun a z => if_neg z
  have oe : (fun a => own0 a = 0 + 1) = A0 := funext fun a => propext ⟨fun z => (by
    by_cases w : A0 a
    · exact w
    · rw [o0 a w] at z; cases z), fun z => o1 a z⟩
  have s0 : Sat (K := K) ⟨F0, H, fun a n => A0 a ∧ n = 1⟩ (.ow (R x p) :: ((args x).map .da ++ List.replicate (N.length - ps.length) .un)) F0 (start N (.ref p :: ws)) H own0 := by
    refine ⟨?_, f0, fun a o e => ?_, fun a z => ?_, fun i t y h1 h2 => ?_, Same.refl _, fun a o e => .inl e, fun a z => z, fun a o z _ => z, fun a z _ => ?_⟩
    · rw [start_len (by rw [List.length_cons]; omega), List.length_cons, List.length_append, List.length_map, List.length_replicate]; have := hl x; omega
    · refine o0 a fun z => ?_
      rw [(fa a z).1] at e
      cases e
    · by_cases w : A0 a
      · exact (fa a w).2
      · exact absurd (o0 a w) z
    · cases i with
      | zero =>
        rw [start_get (by simp)] at h2
        cases h1
        cases h2
        refine ⟨.ref p, rfl, ?_⟩
        rw [oe]
        exact hR
      | succ i =>
        rw [List.getElem?_cons_succ] at h1
        rcases get_app_un h1 with z | ⟨hi, z⟩
        · subst z; trivial
        · rw [List.length_map] at hi
          rw [List.getElem?_map] at z
          have hi2 : i + 1 < (V.ref p :: ws).length := by rw [List.length_cons]; have := dpa_len hd; omega
          rw [start_get hi2, List.getElem?_cons_succ] at h2
          cases e : (args x)[i]? with
          | none => rw [e] at z; cases z
          | some d =>
            rw [e] at z
            cases z
            obtain ⟨v, h3, h4⟩ := dpa_get hd e
            rw [h3] at h2
            cases h2
            exact ⟨v, rfl, h4⟩
    · by_cases w : A0 a
      · exact ⟨w, o1 a w⟩
      · exact absurd (o0 a w) z
  have fin : ∀ {d v G' F' σ' H' own'}, (∃ R', res x d R' ∧ G'[0]? = some (.ow (R' p))) → Sat (K := K) ⟨F0, H, fun a n => A0 a ∧ n = 1⟩ G' F' σ' H' own' → Dp K F' v d → Q v H' := fun {d v G' F' σ' H' own'} hm' s' hv => by
    obtain ⟨R', r, hg0⟩ := hm'
    obtain ⟨y, hy, v', rfl, hR'⟩ := s'.slot hg0
    cases Re r hR'
    refine q v d R' F' H' (fun a => own' a = 1) r s'.b0 s'.fh (fun a o e => s'.bf a o e) (fun a o e na => s'.bh a o e fun n z => na z.1) (fun a z => s'.bn a z) (fun a e => ⟨?_, ?_, s'.al a (by rw [e]; decide)⟩) hR' hv
    · cases z : H a with
      | none => exact .inr rfl
      | some u => exact .inl (s'.bd a (by rw [e]; decide) (by show H a ≠ none; rw [z]; simp)).1
    · cases z : F' a with
      | none => rfl
      | some u => have := s'.fz a u z; rw [e] at this; cases this
  exact hs x p hp ⟨F0, H, fun a n => A0 a ∧ n = 1⟩ F0 (start N (.ref p :: ws)) H own0 { nx := fun _ H' => Q .non H', rt := Q } (fun _ _ z => z.2) s0
    ⟨fun G' F' σ' H' own' r s' _ => fin r s' .non, fun d v G' F' σ' H' own' r s' hv _ => fin r s' hv, fun G' F' σ' H' own' r s' _ => r.elim, fun G' F' σ' H' own' r s' _ => r.elim⟩
theorem okR (Re : ∀ {x d R' p F v H A}, res x d R' → (R' p).holds F v H A → v = .ref p) (F : Fun K x qual st f fd) (S : FnScope N ps (defScope st)) (hl : ∀ x, (args x).length + 1 = ps.length)
    (hb : ∀ (cdv : Value) (A : Around) (outer : List Env) (s : Shared) (H : Hp) (E : XK), Room k (A.deeper (envOfC qual (defScope st) s.heap.objs.size f cdv)) → A.guards = some [] →
      ∃ t, PSs (cxOf CX0 P w K mg base N qual (defScope st) f cdv A outer s H E).nox (defBody st) t ∧
        ∀ x (p : Ad), pre x → SJ K t (.ow (R x p) :: ((args x).map .da ++ List.replicate (N.length - ps.length) .un))
          ⟨fun G' => ∃ R', res x .none R' ∧ G'[0]? = some (.ow (R' p)), fun d G' => ∃ R', res x d R' ∧ G'[0]? = some (.ow (R' p)), fun _ => False, fun _ => False⟩) :
    FnG P w K mg base CX0 (k + 1) f fd ps (spR K R args pre res) := by
  refine okG F S (fun vs H Q E h => ?_) (fun cdv A outer s H vs Q E hr hg h => ?_)
  · obtain ⟨x, F0, p, ws, A0, rfl, _, _, _, hd, _⟩ := h
    rw [List.length_cons, dpa_len hd, hl]
  · obtain ⟨t, ht, hs⟩ := hb cdv A outer s H E hr hg
    exact ⟨t, ht, sp_R hl (scope_le S) hs Re h⟩
/-- a def with defaults as it stands behind the top, no exception leaves -/
theorem okGD {sp : Sp} {params : Arguments} {body : List Stmt} {scope : Scope} {dvs : List V} {kws : List (Str × V)} (F : FunD K x qual params body scope dvs kws f fd)
    (S : FnScope N ps scope) (len : ∀ vs H Q E, sp vs H Q E → vs.length = ps.length)
    (hb0 : ∀ (cdv : Value) (A : Around) (outer : List Env) (s : Shared) (H : Hp) (vs : List V) (Q : VK) (E : XK),
      Room k (A.deeper (envOfC qual scope s.heap.objs.size f cdv)) → A.guards = some [] → sp vs H Q E →
      ∃ t, PSs (cxOf CX0 P w K mg base N qual scope f cdv A outer s H E).nox body t ∧
        t { nx := fun _ H' => Q .non H', rt := Q } (start N vs) H) :
    FnG P w K mg base CX0 (k + 1) f fd ps sp := by
  obtain ⟨oc, od, dV, kV, doc, pm, an, cdv, ct, osl, rfl, lk, hcd, _, _⟩ := F.ex
  refine fnG_of lk hcd S len ?_
  intro A outer s H vs Q E hr hg hsp
  obtain ⟨t, h, q⟩ := hb0 cdv A outer s H vs Q E hr hg hsp
  exact ⟨t, h.nox, q⟩
end
end
end Fz

set_option Elab.async false
set_option linter.all false
set_option maxRecDepth 100000
set_option maxHeartbeats 4000000
/-! part Dn: dicts whose keys are tuples -/
namespace Fz
open PySem PySem.Spec PyProof.Rows L2
/-! ### keys -/
mutual
def tfK : NestedKey → Bool
  | .none => true
  | .num _ => true
  | .text _ => false
  | .tup ks => tfKs ks
def tfKs : List NestedKey → Bool
  | [] => true
  | k :: ks => tfK k && tfKs ks
end
mutual
theorem hash_tf {w w' : World} : ∀ k : NestedKey, tfK k = true → k.hash w = k.hash w'
  | .none, _ => rfl
  | .num _, _ => rfl
  | .text _, h => by simp only [tfK] at h; cases h
  | .tup ks, h => by
    simp only [tfK] at h
    rw [NestedKey.hash, NestedKey.hash, hashes_tf (w := w) (w' := w') ks h]
theorem hashes_tf {w w' : World} : ∀ ks : List NestedKey, tfKs ks = true → NestedKey.hashes w ks = NestedKey.hashes w' ks
  | [], _ => rfl
  | k :: ks, h => by
    simp only [tfKs, Bool.and_eq_true] at h
    rw [NestedKey.hashes, NestedKey.hashes, hash_tf (w := w) (w' := w') k h.1, hashes_tf (w := w) (w' := w') ks h.2]
end
section
variable {X : Cx} {pins : List (Addr × Obj)} {σ : L2.St} {H : Hp} {s : Shared}
mutual
theorem nested_of (I : Inv X pins σ H s) : ∀ (k : NestedKey) (v : V) (u : Value), Dp X.K H v k.data → RelV v u → NestedIs s.heap k u
  | .none, v, u, h, r => by
    rw [NestedKey.data] at h
    cases dp_non h
    cases (show u = Value.none from r)
    exact .none
  | .num i, v, u, h, r => by
    rw [NestedKey.data] at h
    cases dp_int h
    obtain ⟨t, rfl⟩ := (show ∃ t, u = Value.int i t from r)
    exact .int i t
  | .text x, v, u, h, r => by
    rw [NestedKey.data] at h
    cases dp_str h
    obtain ⟨t, rfl⟩ := (show ∃ t, u = Value.str x t from r)
    exact .text x t
  | .tup ks, v, u, h, r => by
    rw [NestedKey.data] at h
    obtain ⟨a, vs, rfl, h1, h2⟩ := dp_tup h
    obtain rfl : u = Value.ref a := r
    obtain ⟨its, rv, ⟨o, g1, g2, n, g3⟩, _⟩ := I.tuple h1
    exact .tup g1 g2 g3 (nesteds_of I ks vs its h2 rv)
theorem nesteds_of (I : Inv X pins σ H s) : ∀ (ks : List NestedKey) (vs : List V) (us : List Value), DpAll X.K H vs (NestedKey.datas ks) → Vals vs us → NestedAll s.heap ks us
  | [], vs, us, h, r => by
    rw [NestedKey.datas] at h
    cases dpa_nil h
    cases r
    exact .nil
  | k :: ks, vs, us, h, r => by
    rw [NestedKey.datas] at h
    obtain ⟨v, ws, rfl, h1, h2⟩ := dpa_cons h
    obtain _ | ⟨r1, r2⟩ := r
    exact .cons (nested_of I k v _ h1 r1) (nesteds_of I ks ws _ h2 r2)
end
abbrev Ent := NestedKey × Ad × Value
end

/-! ### rules -/
section
variable {X : Cx} {o i e value : Expr} {td ty tv : TE} {pos pos' : Pos}
end

section
variable {X : Cx} {e : Expr} {td : TE} {pos apos cpos : Pos}
end

section
variable {X : Cx} {e : Expr} {td : TE} {pos apos cpos p p2 kpos : Pos}
end
end Fz

set_option Elab.async false
set_option linter.all false
set_option maxRecDepth 100000
set_option maxHeartbeats 1000000
/-! part Dd: dicts with tuple keys, told over data -/
namespace Fz
open PySem PySem.Spec PyProof.Rows L2
mutual
theorem data_inj : ∀ {a b : NestedKey}, a.data = b.data → a = b
  | .none, b, h => by cases b <;> simp only [NestedKey.data] at h <;> first | rfl | cases h
  | .num i, b, h => by
    cases b <;> simp only [NestedKey.data] at h <;> first | (cases h; rfl) | cases h
  | .text x, b, h => by
    cases b <;> simp only [NestedKey.data] at h <;> first | (cases h; rfl) | cases h
  | .tup ks, b, h => by
    cases b with
    | tup js =>
      simp only [NestedKey.data] at h
      rw [datas_inj (PyData.tuple.inj h)]
    | _ => simp only [NestedKey.data] at h; cases h
theorem datas_inj : ∀ {a b : List NestedKey}, NestedKey.datas a = NestedKey.datas b → a = b
  | [], b, h => by cases b <;> simp only [NestedKey.datas] at h <;> first | rfl | cases h
  | k :: ks, b, h => by
    cases b with
    | nil => simp only [NestedKey.datas] at h; cases h
    | cons j js =>
      simp only [NestedKey.datas] at h
      obtain ⟨h1, h2⟩ := List.cons.inj h
      rw [data_inj h1, datas_inj h2]
end
abbrev KvD := NestedKey × PyData
def lkN (kvs : List KvD) (k : NestedKey) : Option PyData := (kvs.find? fun t => decide (t.1 = k)).map (·.2)
def putN (kvs : List KvD) (k : NestedKey) (d : PyData) : List KvD := if (lkN kvs k).isSome = true then kvs.map (fun t => if t.1 = k then (t.1, d) else t) else kvs ++ [(k, d)]
section
variable {K : Fg}
/-- the entries and what they hold -/
inductive Al (K : Fg) (F : Hp) : List Ent → List KvD → Prop
  | nil : Al K F [] []
  | cons {x : Ent} {t : KvD} {v : V} {xs : List Ent} {ts : List KvD} : x.1 = t.1 → Dp K F (.ref x.2.1) t.1.data → RelV v x.2.2 → Dp K F v t.2 → Al K F xs ts → Al K F (x :: xs) (t :: ts)
theorem Al.up {F F' : Hp} (s : Same F F') : ∀ {xs : List Ent} {ts : List KvD}, Al K F xs ts → Al K F' xs ts
  | _, _, .nil => .nil
  | _, _, .cons a b c d e => .cons a (dp_up s _ _ b) c (dp_up s _ _ d) (e.up s)
theorem Al.fst {F : Hp} : ∀ {xs : List Ent} {ts : List KvD}, Al K F xs ts → xs.map (·.1) = ts.map (·.1)
  | _, _, .nil => rfl
  | _, _, .cons a _ _ _ e => by rw [List.map_cons, List.map_cons, a, e.fst]
theorem Al.len {F : Hp} {xs : List Ent} {ts : List KvD} (h : Al K F xs ts) : xs.length = ts.length := by
  have := congrArg List.length h.fst
  simpa using this
theorem Al.of {F : Hp} : ∀ {xs : List Ent} {ts : List KvD} {vs : List V}, xs.map (·.1) = ts.map (·.1) → DpAll K F (xs.map fun x => V.ref x.2.1) (ts.map fun t => t.1.data) → Vals vs (xs.map (·.2.2)) → DpAll K F vs (ts.map (·.2)) → Al K F xs ts
  | [], [], _, _, _, _, _ => .nil
  | [], t :: ts, _, h, _, _, _ => by cases h
  | x :: xs, [], _, h, _, _, _ => by cases h
  | x :: xs, t :: ts, vs, h1, h2, h3, h4 => by
    rw [List.map_cons, List.map_cons] at h1
    obtain ⟨e1, e2⟩ := List.cons.inj h1
    obtain _ | ⟨a, b⟩ := h2
    obtain _ | ⟨c, d⟩ := h3
    obtain _ | ⟨e, f⟩ := h4
    exact .cons e1 a c e (Al.of e2 b d f)
theorem Al.at_ {F : Hp} {k : NestedKey} : ∀ {xs : List Ent} {ts : List KvD}, Al K F xs ts → (atKey xs k = none ∧ lkN ts k = none) ∨ ∃ p d v, atKey xs k = some p ∧ lkN ts k = some d ∧ RelV v p.2 ∧ Dp K F v d
  | _, _, .nil => .inl ⟨rfl, rfl⟩
  | _, _, .cons (x := x) (t := t) a b c d e => by
    by_cases w : x.1 = k
    · refine .inr ⟨x.2, t.2, _, ?_, ?_, c, d⟩
      · unfold atKey; rw [List.find?_cons]; simp only [w, decide_true]; rfl
      · unfold lkN; rw [List.find?_cons]; simp only [a.symm.trans w, decide_true]; rfl
    · have w2 : ¬ t.1 = k := fun z => w (a.trans z)
      have e1 : ∀ xs, atKey (x :: xs) k = atKey xs k := fun xs => by unfold atKey; rw [List.find?_cons]; simp only [w, decide_false]
      have e2 : ∀ ts, lkN (t :: ts) k = lkN ts k := fun ts => by unfold lkN; rw [List.find?_cons]; simp only [w2, decide_false]
      rw [e1, e2]
      exact e.at_
theorem Al.isSome {F : Hp} {k : NestedKey} {xs : List Ent} {ts : List KvD} (h : Al K F xs ts) : (atKey xs k).isSome = (lkN ts k).isSome := by
  rcases h.at_ (k := k) with ⟨a, b⟩ | ⟨p, d, v, a, b, _⟩ <;> rw [a, b] <;> rfl
theorem Al.app {F : Hp} {x : Ent} {t : KvD} {v : V} (a : x.1 = t.1) (b : Dp K F (.ref x.2.1) t.1.data) (c : RelV v x.2.2) (d : Dp K F v t.2) : ∀ {xs : List Ent} {ts : List KvD}, Al K F xs ts → Al K F (xs ++ [x]) (ts ++ [t])
  | _, _, .nil => .cons a b c d .nil
  | _, _, .cons p q r s e => .cons p q r s (e.app a b c d)
theorem Al.upd {F : Hp} {k : NestedKey} {v : V} {r : Value} {d : PyData} (c : RelV v r) (dd : Dp K F v d) : ∀ {xs : List Ent} {ts : List KvD}, Al K F xs ts → Al K F (xs.map (putAt k r)) (ts.map fun t => if t.1 = k then (t.1, d) else t)
  | _, _, .nil => .nil
  | _, _, .cons (x := x) (t := t) p q r' s e => by
    rw [List.map_cons, List.map_cons]
    by_cases w : t.1 = k
    · have w2 : x.1 = k := p.trans w
      have e1 : putAt k r x = (x.1, x.2.1, r) := if_pos w2
      rw [e1, if_pos w]
      exact .cons p q c dd (e.upd c dd)
    · have w2 : ¬ x.1 = k := fun z => w (p ▸ z)
      have e1 : putAt k r x = x := if_neg w2
      rw [e1, if_neg w]
      exact .cons p q r' s (e.upd c dd)
theorem Al.put {F : Hp} {k : NestedKey} {b : Ad} {v : V} {r : Value} {d : PyData} {xs : List Ent} {ts : List KvD} (h : Al K F xs ts) (hk : Dp K F (.ref b) k.data) (c : RelV v r) (dd : Dp K F v d) : Al K F (storedH xs k b r) (putN ts k d) := by
  unfold storedH putN
  rw [h.isSome (k := k)]
  by_cases w : (lkN ts k).isSome = true
  · rw [if_pos w, if_pos w]; exact h.upd c dd
  · rw [if_neg w, if_neg w]; exact h.app rfl hk c dd
/-! ### rules -/
variable {G : Ctx K} {td ty te : TE} {E : JE K}
end
end Fz

set_option Elab.async false
set_option linter.all false
set_option maxRecDepth 100000
set_option maxHeartbeats 1000000
/-! part Dz: dict(zip(tuple, tuple)) -/
namespace Fz
open PySem PySem.Spec PyProof.Rows L2
section
variable {prog : Program} {w : World} {A : Around} {E : Value → Shared → Prop} {s : Shared}
/-- a zip over two tuples that has handed out a pair which somebody holds -/
structure ZHeld (h : Heap) (z TI TO T i1 i2 l1 l2 : Ad) (f : Bool) (oT : Obj) (k : Nat) (xs ys : Array Value) : Prop where
  zz : IsZipHeld h z TI TO T f
  tt : h.get? T = some oT
  ti : IsPair h TI (.ref i1) (.ref i2)
  j1 : h.IsTupleIter i1 l1 k
  j2 : h.IsTupleIter i2 l2 k
  t1 : h.IsTuple l1 xs
  t2 : h.IsTuple l2 ys
theorem tupI_at {h h' : Heap} {a l : Ad} {k : Nat} (x : h.IsTupleIter a l k) (e : ∀ o, h.get? a = some o → h'.get? a = some o) : h'.IsTupleIter a l k := let ⟨o, q, r⟩ := x; ⟨o, e o q, r⟩
theorem tup_at {h h' : Heap} {l : Ad} {xs : Array Value} (x : h.IsTuple l xs) (e : ∀ o, h.get? l = some o → h'.get? l = some o) : h'.IsTuple l xs := let ⟨o, q, r⟩ := x; ⟨o, e o q, r⟩
/-- a fresh zip over two tuples as dict's argument -/
structure ZNew (h : Heap) (z TI TO i1 i2 l1 l2 : Ad) (xs ys : Array Value) : Prop where
  zz : IsZip h z TI TO .none
  ti : IsPair h TI (.ref i1) (.ref i2)
  to : IsPair h TO .none .none
  j1 : h.IsTupleIter i1 l1 0
  j2 : h.IsTupleIter i2 l2 0
  t1 : h.IsTuple l1 xs
  t2 : h.IsTuple l2 ys
theorem ZNew.up {h h' : Heap} {z TI TO i1 i2 l1 l2 : Ad} {xs ys : Array Value} (Z : ZNew h z TI TO i1 i2 l1 l2 xs ys) (k : ∀ b o, h.get? b = some o → h'.get? b = some o) : ZNew h' z TI TO i1 i2 l1 l2 xs ys :=
  ⟨k _ _ Z.zz, k _ _ Z.ti, k _ _ Z.to, tupI_at Z.j1 fun o e => k _ o e, tupI_at Z.j2 fun o e => k _ o e, tup_at Z.t1 fun o e => k _ o e, tup_at Z.t2 fun o e => k _ o e⟩
end
end Fz

set_option Elab.async false
set_option linter.all false
set_option maxRecDepth 100000
set_option maxHeartbeats 1000000
/-! part De: dict(zip(..)), a written dict of one entry, the longest value, over data -/
namespace Fz
open PySem PySem.Spec PyProof.Rows L2
section
variable {X : Cx} {a b : Expr} {ta tb : TE} {pos zpos p p2 : Pos}
end

/-! ### over data -/
section
variable {K : Fg} {G : Ctx K} {ta tb td : TE}
end
end Fz

set_option Elab.async false
set_option linter.all false
set_option maxRecDepth 100000
set_option maxHeartbeats 1000000
/-! part Dt: typed dicts; the truth of tuples; own lists added -/
namespace Fz
open PySem PySem.Spec PyProof.Rows L2
section
variable {κ β : Type} [DecidableEq κ]
def dGet (kvs : List (κ × β)) (k : κ) : Option β := (kvs.find? fun t => decide (t.1 = k)).map (·.2)
/-- how keys of a type stand in a dict -/
structure NK (nk : κ → NestedKey) (fk : κ → PyData) : Prop where
  data : ∀ k, (nk k).data = fk k
  inj : ∀ a b, nk a = nk b → a = b
  tup : ∀ k, ∃ js, nk k = .tup js
  dep : ∀ k, (nk k).depth ≤ 8
  tf : ∀ k, tfK (nk k) = true
end
section
variable {K : Fg} {G : Ctx K} {ta td ty te : TE} {E : JE K} {κ β : Type} [DecidableEq κ] {nk : κ → NestedKey} {fk : κ → PyData} {en : β → PyData}
end
end Fz
namespace Fz
open PySem PySem.Spec PyProof.Rows L2
/-! ### classes in printed texts -/
/-- what is asked of a class: where it stands, its attributes are no attributes of the class -/
structure ObT (K : Fg) (mg : Str → Option Value) (cn : Str) (C : Ad) (fs : List Str) : Prop where
  ns : PySem.W.nsIn K mainGlobals cn = some (some (.ref C))
  cl : Cls K C
  mgC : mg cn = some (.ref C)
  nf : ∀ {f : Str}, f ∈ fs → NoAttr K C f
/-- a method by its promise -/
def CalM (P : Program) (w : World) (K : Fg) (mg : Str → Option Value) (base : Heap) (k : Nat) (C : Ad) (x : Str) (ps : List Str) (sp : Sp) : Prop :=
  ∃ (f : Ad) (fd : FuncData), FnG P w K mg base CX0 k f fd ps sp ∧ Meth K C x f ∧ Binds K fd ps []
section
variable {K : Fg} {ι β : Type} {G : Ctx K} {E : JE K} {tv : TE}
end
end Fz

set_option Elab.async false
set_option linter.all false
set_option maxRecDepth 100000
set_option maxHeartbeats 4000000
/-! part Set: a set made of a list of ints, sorted -/
namespace Fz
open PySem PySem.Spec PyProof.Rows L2
section
variable {P : Program} {w : World} {A : Around} {E : Value → Shared → Prop} {s : Shared}
end
section
variable {X : Cx} {K : Fg} {P : Program} {w : World}
end
end Fz

set_option Elab.async false
set_option linter.all false
set_option maxRecDepth 100000
set_option maxHeartbeats 4000000
/-! part Q: more operations over data -/
namespace Fz
open PySem PySem.Spec PyProof.Rows L2
section
variable {K : Fg} {P : Program} {w : World} {G : Ctx K} {te : TE} {xs : List Int}
/-! ### x in t -/
def rInT (K : Fg) (neg : Bool) : R2 := fun x y H Q => ∃ d ds, L2.Dp K H x d ∧ L2.Dp K H y (.tuple ds) ∧ SeqAt.shaped d = true ∧ SeqAt.shaped (.tuple ds) = true ∧ Q (.bl (if neg then !ds.any fun z => PyData.eqv z d else ds.any fun z => PyData.eqv z d)) H
theorem op_notInT {X : Cx} (h : X.K = K) (hu : X.A.units + 65 < cLine) : OpR X (compareOp .NotIn) (rInT K true) := by
  subst h
  rintro pins s σ H x y v u Q I rx ry ⟨d, ds, a1, a2, s1, s2, q⟩
  obtain ⟨as, r1⟩ := L2.Dp.reads I d x v a1 rx
  obtain ⟨bs, r2⟩ := L2.Dp.reads I (.tuple ds) y u a2 ry
  exact SeqAt.notIn_tuple_reads r2 r1 (SeqAt.canLay_of_shaped s2) (SeqAt.canLay_of_shaped s1) (room_in_shaped s1 hu) ⟨.bl _, H, I, rfl, q⟩
theorem any_mem' {α : Type} {f : α → PyData} (p : EqE f) {xs : List α} {x : α} {_ : Decidable (x ∈ xs)} : ((xs.map f).any fun z => PyData.eqv z (f x)) = decide (x ∈ xs) := by
  rw [Bool.eq_iff_iff, decide_eq_true_iff, List.any_eq_true]
  constructor
  · rintro ⟨d, hd, e⟩
    obtain ⟨y, hy, rfl⟩ := List.mem_map.mp hd
    rw [← (p y x).mp e]; exact hy
  · exact fun h => ⟨f x, List.mem_map.mpr ⟨x, h, rfl⟩, (p x x).mpr rfl⟩
/-! ### lists of the def's own: store, pop, extend -/
variable {E : JE K} {α : Type}
/-- the own list changes to vs' -/
theorem Sat.own {B : Bs} {F H : Hp} {σ : L2.St} {own : Ad → Nat} (s : Sat B G F σ H own) {i : Nat} {ds ds' : List PyData} {p : Ad} {vs' : List V} (gi : G[i]? = some (.ow (lsR ds))) (hv : σ[i]? = some (some (.ref p))) (op : own p = i + 1)
    (h : DpAll K F vs' ds') (hz : ds'.length ≤ 100000) : ∃ own', Sat B (G.set i (.ow (lsR ds'))) F σ (upd H p (.lst vs')) own' := by
  have nf : F p = none := by
    cases q : F p with
    | none => rfl
    | some o => have := s.fz p o q; rw [op] at this; omega
  exact s.chg (r' := lsR ds') (A' := fun a => a = p) (H' := upd H p (.lst vs')) gi hv (Same.refl F) (fun a u e => by
      rw [upd_ne (fun w => by rw [w, nf] at e; cases e)]; exact s.fh a u e) (Gr.refl _ _)
    (fun a u e w => by rw [upd_ne (fun q => w (by rw [q]; exact op))]; exact e) (fun a e => by
      by_cases w : a = p
      · rw [w, upd_same]; simp
      · rw [upd_ne w]; exact e) (fun a e => by subst e; exact ⟨.inl op, nf, by rw [upd_same]; simp⟩)
    ⟨p, _, rfl, rfl, upd_same, h, hz⟩
end
end Fz
namespace Fz
open PySem PySem.Spec PyProof.Rows L2
section
variable {K : Fg} {G : Ctx K}
/-! ### closing the small goals of straight mirrors -/
end
end Fz
namespace Fz
open PySem PySem.Spec PyProof.Rows L2
end Fz
namespace Fz
open PySem PySem.Spec PyProof.Rows L2
section
variable {K : Fg} {G : Ctx K} {t : TE} {tA : TT}
end
end Fz
namespace Fz
open PySem PySem.Spec PyProof.Rows L2
section
variable {K : Fg} {G : Ctx K} {t : TE} {tl th : TO} {ta : TA}
end
end Fz
namespace Fz
open PySem PySem.Spec PyProof.Rows L2
end Fz

set_option Elab.async false
set_option linter.all false
set_option maxRecDepth 100000
set_option maxHeartbeats 4000000
/-! part En: enumerate over tuples and lists -/
namespace Fz
open PySem PySem.Spec PyProof.Rows L2 RZ
/-! ### the call -/
theorem meets_enumT (t : Ad) (us : Array Value) :
    PySem.Meets (Builtin.«enumerate.__new__» ⟨[.type "enumerate", .ref t], []⟩) (fun _ R s => s.heap.IsTuple t us ∧
      R (.ok (.ret (.ref (s.heap.push { cls := .type "tuple_iterator", data := .fields #[.ref t, .int 0 0] }).objs.size)))
        { s with heap := (s.heap.push { cls := .type "tuple_iterator", data := .fields #[.ref t, .int 0 0] }).push { cls := .type "enumerate", data := .fields #[.none, .bool false, .ref s.heap.objs.size, rawInt 0, .none, .none] } }) :=
  .of_wp fun P1 w1 A1 R1 s1 h1 => by
    obtain ⟨hp, g, d, tk, os⟩ := s1; obtain ⟨hL, h1⟩ := h1
    have hsub := sub_enumerate
    have hit : ∀ {A' : Around} {E : Value → Shared → Prop} {Q : Value → Shared → Prop}, Q (.ref hp.objs.size) ⟨hp.push { cls := .type "tuple_iterator", data := .fields #[.ref t, .int 0 0] }, g, d, tk, os⟩ → wpAny (model P1 w1) A' (pyIter (.ref t)) Q E ⟨hp, g, d, tk, os⟩ :=
      fun q => wpAny_pyIter_tuple hL q
    wp_walk using hit
    refine wpAny_stack_any fun st => wpAny_pure ?_
    split
    · rename_i c _ _ _ _ _
      cases (c == Value.type "enumerate")
      all_goals
        wp_walk using hit
        exact ⟨_, rfl, h1⟩
    · wp_walk using hit
      exact ⟨_, rfl, h1⟩
theorem call_enumT {prog : Program} {w : World} {A : Around} {E : Value → Shared → Prop} {s : Shared} {t : Ad} {us : Array Value} {Q : Value → Shared → Prop} (hL : s.heap.IsTuple t us)
    (h : ∀ h', IsEnum h' (s.heap.objs.size + 1) s.heap.objs.size 0 .none → h'.IsTupleIter s.heap.objs.size t 0 → h'.objs.size = s.heap.objs.size + 2 →
      (∀ b o, s.heap.get? b = some o → h'.get? b = some o) → Q (.ref (s.heap.objs.size + 1)) { s with heap := h' }) :
    wpAny (model prog w) A (call (.type "enumerate") [.ref t]) Q E s := by
  refine callType_new F.called_enumerate (by decide) (F.typeCall_enumerate_1 _) (F.newCall_enumerate_1 _) (fun obj => F.args_object_init_2 obj _) F.entry_enumerate_new
    (meets_enumT t us) ⟨hL, ?_⟩
  have hz : (s.heap.push { cls := .type "tuple_iterator", data := .fields #[.ref t, .int 0 0] }).objs.size = s.heap.objs.size + 1 := Heap.size_push ..
  show _ ∧ _
  rw [hz]
  have he : IsEnum ((s.heap.push { cls := .type "tuple_iterator", data := .fields #[.ref t, .int 0 0] }).push
      { cls := .type "enumerate", data := .fields #[.none, .bool false, .ref s.heap.objs.size, rawInt 0, .none, .none] }) (s.heap.objs.size + 1) s.heap.objs.size 0 .none := by
    have := Heap.get?_push_size (s.heap.push { cls := .type "tuple_iterator", data := .fields #[.ref t, .int 0 0] })
      (o := { cls := .type "enumerate", data := .fields #[.none, .bool false, .ref s.heap.objs.size, rawInt 0, .none, .none] }) rfl
    rw [hz] at this; exact this
  exact ⟨⟨_, he, rfl⟩, h _ he ⟨_, Heap.get?_push_of_some _ (Heap.get?_push_size _ rfl), rfl, rfl⟩ (by rw [Heap.size_push, hz]) fun b o x => Heap.get?_push_of_some _ (Heap.get?_push_of_some _ x)⟩
/-! ### the walk -/
theorem draws_past {prog : Program} {w : World} {A : Around} (hh : A.handled = none) (it t : Ad) (us : Array Value) (i : Nat) (hi : us[i]? = none) :
    Draws prog w A it [it, t] 0 (fun _ _ => False) (fun j h => h.IsTupleIter it t (j + i) ∧ h.IsTuple t us) where
  live := fun _ _ st => let ⟨o, ho, _⟩ := st.1; ⟨o, ho⟩
  frame := fun _ _ _ st hk => ⟨st.1.at fun o e => hk it (by simp) o e, st.2.at fun o e => hk t (by simp) o e⟩
  item := fun i s Q E hi st hQ => absurd hi (Nat.not_lt_zero _)
  done := fun s Q E st hE => wpAny_nextOf_tuple_end hh st.1 st.2 (by rw [Nat.zero_add]; exact hi) hE
/-- a tuple's items with their numbers, each in a new pair -/
def IteT (K : Fg) (a : Ad) : It :=
  ⟨fun i H => ∃ (xs : List V) (x : V), SqT K H a xs ∧ xs[i]? = some x, fun i H v H' => ∃ T x, v = .ref T ∧ H T = none ∧ H' = upd H T (.tup [.int (i : Nat), x]) ∧ ∀ xs, SqT K H a xs → xs[i]? = some x, fun i H => ∃ xs : List V, SqT K H a xs ∧ xs.length ≤ i⟩
theorem turn_enumT {P : Program} {w : World} {K : Fg} {elts : List Expr} {kk : Nat} {tpos : Pos} (a e it : Ad) :
    Turn P w K (.Tuple elts kk tpos) (IteT K a) [e, it] e (fun i h => (∃ old, IsEnum h e it ((i : Nat) : Int) old) ∧ h.IsTupleIter it a i ∧ e ≠ it ∧ a ≠ it ∧ a ≠ e) where
  mem := by simp
  obj := fun i h st b hb => by
    obtain ⟨⟨old, he⟩, ⟨o, ho, hc, hd⟩, _⟩ := st
    have z0 : b = e ∨ b = it := by simpa using hb
    rcases z0 with z | z
    · rw [z]; exact ⟨_, he, fun v q => nomatch q⟩
    · rw [z]; exact ⟨o, ho, fun v q => by rw [hd] at q; cases q⟩
  keep := fun i h h' st k => let ⟨⟨old, he⟩, hi, hne⟩ := st; ⟨⟨old, k e (by simp) _ he⟩, hi.at fun o q => k it (by simp) o q, hne⟩
  item := by
    intro X hP hw hK hc i pins s σ H E I hf st hg
    subst hP hw hK
    obtain ⟨⟨old, he⟩, hit, hne, ha1, ha2⟩ := st
    obtain ⟨xs, x, hq, hx⟩ := hg
    obtain ⟨its, rv, p, hz⟩ := I.tuple hq
    obtain ⟨u, hu, ru⟩ := rv.get hx
    have hel : e < s.heap.objs.size := Heap.lt_size he
    have hil : it < s.heap.objs.size := by obtain ⟨_, q, _⟩ := hit; exact Heap.lt_size q
    have hiz : i < its.toArray.size := by
      have := (List.getElem?_eq_some_iff.mp hu).1
      simpa using this
    refine wpAny_pyNext_enum_itemD (Draws.tuple (show X.A.in1.handled = none from I.ok.hd hc) it a ha1 its.toArray) he (show _ ∧ _ from ⟨hit, p⟩) hiz hne (by simp only [List.mem_cons, List.not_mem_nil, or_false, not_or]; exact ⟨hne, Ne.symm ha2⟩) fun x' h' tk hP ho hs' hT hsz hk => ?_
    have ex : x' = u := by
      have hP' : its[i]? = some x' := by simpa using hP
      rw [hP'] at hu; exact Option.some.inj hu
    subst ex
    refine ⟨_, rfl, wpAny_letOwnedTupleGo_enum (s := { s with heap := h', toks := tk + 1 }) ho fun h'' he' sb => ?_⟩
    have hT2 : h''.get? s.heap.objs.size = some { cls := .type "tuple", data := .seq #[.int i tk, x'] } := (sb.2 _ (Nat.ne_of_gt hel)).trans hT
    have new : ObjOk X.prog X.w (upd H s.heap.objs.size (.tup [.int (i : Nat), x])) h'' s.heap.objs.size (.tup [.int (i : Nat), x]) :=
      ⟨by show 2 ≤ sizeLine; decide, [.int i tk, x'], .cons ⟨_, rfl⟩ (.cons ru .nil), ⟨_, hT2, rfl, _, rfl⟩⟩
    have I1 : Inv X pins σ (upd H s.heap.objs.size (.tup [.int (i : Nat), x])) { s with heap := h'', toks := tk + 1 } :=
      I.turnedNew (ch := [e, it]) (fun b ob hb q => (sb.2 b (fun z => hb (by simp [z]))).trans (hk b ob (fun z => hb (by simp [z])) (fun z => hb (by simp [z])) q)) hf (Nat.le_refl _) new
    refine ⟨.ref s.heap.objs.size, _, I1, rfl, ⟨_, x, rfl, I.hok.fresh (Nat.le_refl _), rfl, fun ys hy => by rw [I.tuple_inj hy hq]; exact hx⟩, ⟨⟨x', ?_⟩, hs'.1.at fun o q => (sb.2 it (Ne.symm hne)).trans q, hne, ha1, ha2⟩, fun b hb => ?_⟩
    · have z1 : ((i + 1 : Nat) : Int) = (i : Int) + 1 := by omega
      rw [z1]; exact he'
    · have hb' : b < s.heap.objs.size := by
        have z0 : b = e ∨ b = it := by simpa using hb
        rcases z0 with z | z
        · rw [z]; exact hel
        · rw [z]; exact hil
      rw [upd_ne (Nat.ne_of_lt hb')]
      exact (hf b hb).1
  done := by
    intro X hP hw hK hc i pins s σ H E I hf st hg
    subst hP hw hK
    obtain ⟨⟨old, he⟩, hit, hne, ha1, ha2⟩ := st
    obtain ⟨xs, hq, hx⟩ := hg
    obtain ⟨its, rv, p, hz⟩ := I.tuple hq
    have hn : its.toArray[i]? = none := by
      have := rv.length
      rw [List.getElem?_toArray, List.getElem?_eq_none_iff]
      omega
    refine wpAny_pyNext_enum_endD (draws_past (show X.A.in1.handled = none from I.ok.hd hc) it a its.toArray i hn) he ⟨by rw [Nat.zero_add]; exact hit, p⟩ fun h' eb => ⟨rfl, I.turnedL (t' := s.toks) (ch := [e, it]) (fun b o hb q => eb b o (fun z => hb (by simp [z])) q) hf⟩
  self := fun A i s Q E st h => let ⟨⟨_, he⟩, _⟩ := st; wpAny_pyIter_enum he h
/-- enumerate over a tuple or a list -/
def iEnumA (K : Fg) (ta : TA) : TI := fun σ H R => ta σ H fun vs H1 => ∃ a xs, vs = [.ref a] ∧ ((SqL K H1 a xs ∧ R (Ite K a) H1) ∨ (SqT K H1 a xs ∧ R (IteT K a) H1))
theorem pi_enumA {K : Fg} {X : Cx} (h : X.K = K) {e : Expr} {ta : TA} {p pos tpos : Pos} {elts : List Expr} {kk : Nat} (hg : Gl X "enumerate") (hm : X.mg "enumerate" = none) (ha : PA X [e] ta) (hs : starEach [e] X.env = [(false, eval e X.env)] := by rfl) :
    PI X (.Tuple elts kk tpos) (.Call (.Name "enumerate" p) [e] [] pos) (iEnumA K ta) := by
  subst h
  refine ⟨fun pins s σ H R I h => ?_⟩
  refine Call_ (ld_blt I hg hm boot_enumerate (PyProof.Rows.callWith_type1 (thn (ha.run pos pins s σ H _ I h) fun us s1 ⟨vs, H1, I1, r1, q1⟩ => ?_) hs rfl))
  obtain ⟨a, xs, ex, q1⟩ := q1
  subst ex
  cases r1 with
  | cons r rr =>
    cases rr
    cases r
    have fresh2 : ∀ b, b ∈ [s1.heap.objs.size + 1, s1.heap.objs.size] → FpOk X pins H1 b := fun b hb => by
      have z0 : b = s1.heap.objs.size + 1 ∨ b = s1.heap.objs.size := by simpa using hb
      have hle : s1.heap.objs.size ≤ b := by
        rcases z0 with z | z
        · rw [z]; exact Nat.le_add_right _ _
        · rw [z]; exact Nat.le_refl _
      exact I1.fpOk hle (I1.hok.fresh hle)
    rcases q1 with ⟨hq, q⟩ | ⟨hq, q⟩
    · obtain ⟨its, rv, p', hz⟩ := I1.list hq
      refine call_enumerate_list p'.isList fun h' he hit hsz hk => wpAny_pyIter_enum he ?_
      have I2 : Inv X pins σ H1 { s1 with heap := h' } := I1.kept (t' := s1.toks) hk
      exact ⟨s1.heap.objs.size + 1, [s1.heap.objs.size + 1, s1.heap.objs.size], _, _, H1, rfl, I2, turn_enum a (s1.heap.objs.size + 1) s1.heap.objs.size, ⟨⟨.none, he⟩, hit, Nat.succ_ne_self _⟩, fresh2, q⟩
    · obtain ⟨its, rv, p', hz⟩ := I1.tuple hq
      obtain ⟨o1, ho1, _⟩ := id p'
      have hlt := Heap.lt_size ho1
      refine call_enumT (show s1.heap.IsTuple a its.toArray from p') fun h' he hit hsz hk => wpAny_pyIter_enum he ?_
      have I2 : Inv X pins σ H1 { s1 with heap := h' } := I1.kept (t' := s1.toks) hk
      exact ⟨s1.heap.objs.size + 1, [s1.heap.objs.size + 1, s1.heap.objs.size], _, _, H1, rfl, I2, turn_enumT a (s1.heap.objs.size + 1) s1.heap.objs.size, ⟨⟨.none, he⟩, hit, Nat.succ_ne_self _, Nat.ne_of_lt hlt, Nat.ne_of_lt (Nat.lt_succ_of_lt hlt)⟩, fresh2, q⟩
/-- the items with their numbers, from k on -/
def enF {α : Type} : Nat → List α → List (Int × α)
  | _, [] => []
  | k, x :: xs => ((k : Int), x) :: enF (k + 1) xs
theorem enF_len {α : Type} : ∀ (k : Nat) (xs : List α), (enF k xs).length = xs.length
  | _, [] => rfl
  | k, x :: xs => by rw [enF, List.length_cons, List.length_cons, enF_len]
theorem enF_get {α : Type} : ∀ (k : Nat) (xs : List α) (i : Nat) (x : α), xs[i]? = some x → (enF k xs)[i]? = some (((k + i : Nat) : Int), x)
  | _, [], i, x, h => by simp at h
  | k, y :: xs, 0, x, h => by
    rw [List.getElem?_cons_zero] at h
    cases h
    rfl
  | k, y :: xs, i + 1, x, h => by
    rw [List.getElem?_cons_succ] at h
    rw [enF, List.getElem?_cons_succ, enF_get (k + 1) xs i x h]
    congr 2
    omega
section
variable {K : Fg} {G : Ctx K} {ta : TA}
theorem di_enumT {α : Type} {f : α → PyData} {xs : List α} (h : EVA K ta G [eSq f xs]) : DI K (iEnumA K ta) G ((enF 0 xs).map (eT2 eI f)) := by
  intro B F σ H own R s k
  refine h B F σ H own _ s fun vs F' H' own' s' hd ff => ?_
  obtain ⟨v, rfl, hv⟩ := dpa_one hd
  obtain ⟨a, us, rfl, q1, q2⟩ := dp_tup hv
  have l1 : us.length = xs.length := by rw [dpa_len q2, List.length_map]
  have lz : ((enF 0 xs).map (eT2 eI f)).length = xs.length := by rw [List.length_map, enF_len]
  refine ⟨a, us, rfl, .inr ⟨sqT_up s'.fh q1, k _ F' H' own' s' ff ⟨(by rw [lz]; simpa using dp_tupZ hv), fun H2 f2 => ?_⟩⟩⟩
  refine ⟨fun i hi => ⟨us, us[i]'(by omega), sqT_up f2 q1, List.getElem?_eq_getElem _⟩, fun i hi => ⟨us, sqT_up f2 q1, by omega⟩, fun i x H3 hi hy => ?_⟩
  obtain ⟨T, x1, rfl, nT, rfl, hx⟩ := hy
  have hx := hx us (sqT_up f2 q1)
  obtain ⟨d1, e1, g1⟩ := dpa_get' q2 hx
  refine ⟨.tuple [.int (i : Nat), d1], ?_, .inr ⟨T, [.int (i : Nat), x1], [.int (i : Nat), d1], rfl, nT, rfl, rfl, .cons (.int _) (.cons g1 .nil), by show 2 ≤ 100000; decide⟩⟩
  rw [List.getElem?_map] at e1
  obtain ⟨x0, h1, h2⟩ := Option.map_eq_some_iff.mp e1
  rw [List.getElem?_map, enF_get 0 xs i x0 h1]
  show some (PyData.tuple [.int ((0 + i : Nat) : Int), f x0]) = _
  rw [h2, Nat.zero_add]
end
end Fz

set_option Elab.async false
set_option linter.all false
set_option maxRecDepth 100000
set_option maxHeartbeats 4000000
/-! part Sl: reversed lists and tuples -/
namespace Fz
open PySem PySem.Spec PyProof.Rows L2 HT
section
variable {prog : Program} {w : World} {A : Around} {E : Value → Shared → Prop} {s : Shared}
end
section
variable {X : Cx} {K : Fg} {G : Ctx K} {te : TE} {ds : List PyData}
end
end Fz

set_option Elab.async false
set_option linter.all false
set_option maxRecDepth 100000
set_option maxHeartbeats 4000000
/-! part Rep: tuple * int -/
namespace Fz
open PySem PySem.Spec PyProof.Rows L2
section
variable {K : Fg} {α : Type}
/-- t * n -/
def repL (xs : List α) (n : Int) : List α := (List.replicate n.toNat xs).flatten
theorem dpa_rep {F : Hp} {vs : List V} {ds : List PyData} (h : DpAll K F vs ds) : ∀ n, DpAll K F (List.replicate n vs).flatten (List.replicate n ds).flatten
  | 0 => .nil
  | n + 1 => by rw [List.replicate_succ, List.replicate_succ, List.flatten_cons, List.flatten_cons]; exact dpa_app h (dpa_rep h n)
theorem repL_len {xs : List α} {n : Int} : (repL xs n).length = n.toNat * xs.length := by
  unfold repL
  simp
theorem repL_map {β : Type} (f : α → β) (xs : List α) (n : Int) : repL (xs.map f) n = (repL xs n).map f := by
  unfold repL
  rw [List.map_flatten, List.map_replicate]
end
end Fz

set_option Elab.async false
set_option linter.all false
set_option maxRecDepth 100000
set_option maxHeartbeats 4000000
/-! part R: plain facts for proving mirrors -/
namespace Fz
open PySem PySem.Spec PyProof.Rows L2
section
variable {α β σ : Type}
theorem db_ge : 2 ^ 512 ≤ DB := by unfold DB; exact Nat.pow_le_pow_right (by decide) (by decide)
theorem ix_of {xs : List α} {k : Int} (h0 : 0 ≤ k) (h1 : k < xs.length) : Ix xs k := ⟨by omega, h1⟩
theorem dr_of {n : Int} (h : 0 < n) (h2 : n ≤ 1000000000000000000) : Dr n := ⟨h, h2⟩
theorem rg1_of {n : Int} (h : n ≤ 100000) (h2 : -1000 ≤ n) : Rg1 n := ⟨h, by omega⟩
end
end Fz

set_option Elab.async false
set_option linter.all false
set_option maxRecDepth 100000
set_option maxHeartbeats 4000000
/-! part L: plain laws about intervals: gaps -/
namespace Fz
open PySem PySem.Spec PyProof.Rows L2
theorem mem_srtD {z : Int × Int} {xs : List (Int × Int)} : z ∈ srtD xs ↔ z ∈ xs := (perm_srtD xs).mem_iff
end Fz

set_option Elab.async false
set_option linter.all false
set_option maxRecDepth 100000
set_option maxHeartbeats 4000000
/-! part Bl: blocks -/
namespace Fz
open PySem PySem.Spec PyProof.Rows L2
theorem cutL_from {α : Type} (xs : List α) : cutL xs (some 1) none = xs.drop 1 := by
  unfold cutL
  have e1 : HT.sIx xs.length xs.length none = xs.length := rfl
  rw [e1]
  cases xs with
  | nil => simp
  | cons a l =>
    have e2 : HT.sIx (a :: l).length 0 (some 1) = 1 := by
      unfold HT.sIx
      simp
    rw [e2, List.take_of_length_le]
    rw [List.length_drop]
    exact Nat.le_refl _
end Fz

set_option Elab.async false
set_option linter.all false
set_option maxRecDepth 100000
set_option maxHeartbeats 4000000
/-! part N: more plain facts on lists -/
namespace Fz
open PySem PySem.Spec PyProof.Rows L2
section
variable {α : Type}
theorem cutL_take (xs : List α) (k : Nat) : cutL xs none (some (k : Int)) = xs.take k := by
  unfold cutL
  rw [HT.sIx_none, HT.sIx_nat, List.drop_zero, Nat.sub_zero]
  by_cases h : k ≤ xs.length
  · rw [Nat.min_eq_left h]
  · rw [Nat.min_eq_right (by omega), List.take_of_length_le (Nat.le_refl _), List.take_of_length_le (by omega)]
theorem enF_at {k : Nat} {xs : List α} {i : Nat} {t : Int × α} (h : (enF k xs)[i]? = some t) : t.1 = ((k + i : Nat) : Int) ∧ xs[i]? = some t.2 := by
  have hi : i < xs.length := by
    have := (List.getElem?_eq_some_iff.mp h).1
    rwa [enF_len] at this
  have q := enF_get k xs i xs[i] (List.getElem?_eq_getElem hi)
  rw [h] at q
  cases q
  exact ⟨rfl, List.getElem?_eq_getElem hi⟩
theorem enF_at0 {xs : List α} {i : Nat} {t : Int × α} (h : (enF 0 xs)[i]? = some t) : t.1 = (i : Int) ∧ xs[i]? = some t.2 := by
  have := enF_at h
  rwa [Nat.zero_add] at this
end
end Fz

set_option Elab.async false
set_option linter.all false
set_option maxRecDepth 100000
set_option maxHeartbeats 4000000
/-! part St: a set made of a tuple of pairs; how many a set holds -/
namespace Fz
open PySem PySem.Spec PyProof.Rows L2
section
variable {P : Program} {w : World} {A : Around} {E : Value → Shared → Prop} {s : Shared}
end
section
variable {X : Cx} {K : Fg} {P : Program} {w : World}
variable {G : Ctx K} {te : TE} {xs : List (Int × Int)}
end
end Fz

set_option Elab.async false
set_option linter.all false
set_option maxRecDepth 100000
set_option maxHeartbeats 4000000
/-! part Bi: the block of a position -/
namespace Fz
open PySem PySem.Spec PyProof.Rows L2
end Fz

set_option Elab.async false
set_option linter.all false
set_option maxRecDepth 100000
set_option maxHeartbeats 4000000
/-! part Bm: blocks alike, mirrored, joined, finer -/
namespace Fz
open PySem PySem.Spec PyProof.Rows L2
section
variable {α : Type} [Inhabited α]
theorem atL_last {xs : List α} (h : 0 < xs.length) : atL xs (-1) = xs[xs.length - 1] := by
  unfold atL atI ixN
  rw [if_neg (by decide), if_pos (by omega)]
  show (xs[(-1 + (xs.length : Int)).toNat]?).getD default = _
  rw [show (-1 + (xs.length : Int)).toNat = xs.length - 1 by omega, List.getElem?_eq_getElem (by omega)]
  rfl
end
end Fz

set_option Elab.async false
set_option linter.all false
set_option maxRecDepth 100000
set_option maxHeartbeats 4000000
/-! part Sn: sorted demands (position, (low, high)) -/
namespace Fz
open PySem PySem.Spec PyProof.Rows L2
/-- demands in order -/
def LtD (p q : Int × Int × Int) : Prop := p.1 < q.1 ∨ (p.1 = q.1 ∧ (p.2.1 < q.2.1 ∨ (p.2.1 = q.2.1 ∧ p.2.2 < q.2.2)))
def LeD (p q : Int × Int × Int) : Prop := p.1 < q.1 ∨ (p.1 = q.1 ∧ (p.2.1 < q.2.1 ∨ (p.2.1 = q.2.1 ∧ p.2.2 ≤ q.2.2)))
instance (p q : Int × Int × Int) : Decidable (LtD p q) := by unfold LtD; infer_instance
instance (p q : Int × Int × Int) : Decidable (LeD p q) := by unfold LeD; infer_instance
def IsDm (h : Heap) (v : Value) (d : Int × Int × Int) : Prop := ∃ a o t b n, v = .ref a ∧ h.get? a = some o ∧ o.cls = .type "tuple" ∧ o.data = .seq #[.int d.1 t, .ref b] n ∧ Srt.IsPair h (.ref b) d.2.1 d.2.2
theorem IsDm.keeps {h h' : Heap} {v : Value} {d : Int × Int × Int} (p : IsDm h v d) (k : ∀ b o, h.get? b = some o → o.cls = .type "tuple" → h'.get? b = some o) : IsDm h' v d := by
  obtain ⟨a, o, t, b, n, e, ho, hc, hd, ip⟩ := p
  exact ⟨a, o, t, b, n, e, k a o ho hc, hc, hd, ip.keeps k⟩
section
variable {prog : Program} {w : World} {A : Around} {E : Value → Shared → Prop} {s : Shared}
end
section
variable {X : Cx} {K : Fg}
end
section
variable {K : Fg} {G : Ctx K} {te : TE} {xs : List (Int × Int × Int)}
end
end Fz

set_option Elab.async false
set_option linter.all false
set_option maxRecDepth 100000
set_option maxHeartbeats 4000000
/-! part Dm: demands of targets at positions -/
namespace Fz
open PySem PySem.Spec PyProof.Rows L2
abbrev Dm := Int × Int × Int
end Fz

set_option Elab.async false
set_option linter.all false
set_option maxRecDepth 100000
set_option maxHeartbeats 4000000
/-! part Mn: the least of a list of pairs -/
namespace Fz
open PySem PySem.Spec PyProof.Rows L2
section
variable {prog : Program} {w : World} {A : Around} {R : Result → Shared → Prop} {it : Ad} {fp wr : List Ad} {n : Nat} {Pv : Nat → Value → Prop} {St : Nat → Heap → Prop}
end
section
variable {prog : Program} {w : World} {A : Around} {E : Value → Shared → Prop} {s : Shared}
end
section
variable {X : Cx} {K : Fg}
end
section
variable {K : Fg} {G : Ctx K} {te : TE} {xs : List (Int × Int)}
end
end Fz

set_option Elab.async false
set_option linter.all false
set_option maxRecDepth 100000
set_option maxHeartbeats 4000000
/-! part Ch: the greedy chain of pieces over a target -/
namespace Fz
open PySem PySem.Spec PyProof.Rows L2
end Fz

set_option Elab.async false
set_option linter.all false
set_option maxRecDepth 100000
set_option maxHeartbeats 4000000
/-! part Ge: pieces that can be left out -/
namespace Fz
open PySem PySem.Spec PyProof.Rows L2
theorem atL_memx {α : Type} [Inhabited α] {xs : List α} {i : Int} (h : Ix xs i) : atL xs i ∈ xs := by
  obtain ⟨h1, h2⟩ := h
  by_cases w : 0 ≤ i
  · exact atL_mem w h2
  · obtain ⟨j, rfl⟩ : ∃ j : Nat, i = -((j : Int) + 1) := ⟨(-i - 1).toNat, by omega⟩
    rw [atL_neg (by omega)]
    exact List.getElem_mem _
end Fz

set_option Elab.async false
set_option linter.all false
set_option maxRecDepth 100000
set_option maxHeartbeats 1000000
/-! part Ds: the draws of the solving laws -/
namespace Fz
open PySem PySem.Spec PyProof.Rows L2
section
variable {K : Fg}
section
variable {G : Ctx K} {ta tb : TE} {ds : List PyData}
/-- a new list times an int -/
theorem el_rep {k : Int} (ha : EL K ta G ds) (hb : EV K tb G (.int k)) (hk : 0 ≤ k ∧ k ≤ 1000) (hz : ds.length * k.toNat ≤ 100000) : EL K (tOp rRep ta tb) G (repL ds k) := fun B F σ H own Q s kk =>
  ha B F σ H own _ s fun p vs F1 H1 o1 s1 z1 nf1 b1 hp hv hz1 f1 =>
    hb _ F1 σ H1 o1 _ s1.here fun v F2 H2 o2 s2 hd f2 => by
      cases dp_int hd
      obtain ⟨hp2, -, -⟩ := s2.stays hp z1 nf1
      have s3 := s1.back s2
      refine ⟨p, k, vs, rfl, rfl, hp2, by omega, by omega, ?_, fun q nq => ?_⟩
      · rw [dpa_len hv, sizeLine_eq]; omega
      · obtain ⟨o4, s4, z4, b4⟩ := s3.newl nq (Same.refl F2) (s3.fh.trans (same_new (o := .lst (List.replicate k.toNat vs).flatten) nq)) (same_new nq) (Gr.refl _ _)
        refine kk q _ F2 _ o4 s4 z4 (none_dn s3.fh nq) b4 upd_same (dpa_rep (dpa_up f2 _ _ hv) _) ?_ (f1.trans f2)
        rw [repL_len, Nat.mul_comm]; exact hz
theorem rdl_intB {b : Bool} : RDL K (fun xs H Q => (∃ i, xs = [.int i] ∧ Q (.int i) H) ∨ ∃ k, xs = [.bl k] ∧ Q (.int (if k then 1 else 0)) H) [.bool b] (.int (if b = true then 1 else 0)) := rdl_val fun F H vs Q s h k => by
  obtain ⟨v, rfl, hv⟩ := dpa_one h
  cases dp_bl hv
  exact .inr ⟨b, rfl, k _ (.int _)⟩
theorem ev_intB {b : Bool} (h : EV K ta G (.bool b)) : EV K (tCB (fun xs H Q => (∃ i, xs = [.int i] ∧ Q (.int i) H) ∨ ∃ k, xs = [.bl k] ∧ Q (.int (if k then 1 else 0)) H) (tCons ta tNil)) G (.int (if b = true then 1 else 0)) :=
  ev_cb (eva_cons h eva_nil) rdl_intB
end
end
end Fz
namespace Fz
open PySem PySem.Spec PyProof.Rows L2
end Fz
namespace Fz
end Fz
namespace Fz
open PySem PySem.Spec PyProof.Rows L2
/-- ascending intervals between 0 and w - 1 -/
def Spn (w : Int) (y : List (Int × Int)) : Prop := y.Pairwise LtP ∧ ∀ z ∈ y, 0 ≤ z.1 ∧ z.1 ≤ z.2 ∧ z.2 < w
theorem Spn.sub {w : Int} {x y : List (Int × Int)} (h : Spn w y) (s : x.Sublist y) : Spn w x := ⟨h.1.sublist s, fun z hz => h.2 z (s.subset hz)⟩
theorem Spn.inB {w : Int} {y : List (Int × Int)} (h : Spn w y) (hw : w ≤ 1000000) : ∀ z ∈ y, InB z := fun z hz => by
  have := h.2 z hz
  unfold InB BB
  omega
end Fz

set_option Elab.async false
set_option linter.all false
set_option maxRecDepth 100000
set_option maxHeartbeats 1000000
/-! part Wd: what an interval can be replaced by -/
namespace Fz
open PySem PySem.Spec PyProof.Rows L2
def inB (t z : Int × Int) : Bool := decide (t.1 ≤ z.1) && decide (z.2 ≤ t.2)
end Fz

set_option Elab.async false
set_option linter.all false
set_option maxRecDepth 100000
set_option maxHeartbeats 1000000
/-! part M3: the least of a list of triples -/
namespace Fz
open PySem PySem.Spec PyProof.Rows L2
def IsTr (h : Heap) (v : Value) (d : Int × Int × Int) : Prop := ∃ (a : Ad) (o : Obj) (t u x : Tok) (n : Nat), v = .ref a ∧ h.get? a = some o ∧ o.cls = .type "tuple" ∧ o.data = .seq #[.int d.1 t, .int d.2.1 u, .int d.2.2 x] n
theorem IsTr.keeps {h h' : Heap} {v : Value} {d : Int × Int × Int} (q : IsTr h v d) (k : ∀ b o, h.get? b = some o → h'.get? b = some o) : IsTr h' v d :=
  let ⟨a, o, t, u, x, n, e, ho, hc, hd⟩ := q; ⟨a, o, t, u, x, n, e, k a o ho, hc, hd⟩
section
variable {prog : Program} {w : World} {A : Around} {E : Value → Shared → Prop} {s : Shared}
end
section
variable {prog : Program} {w : World} {A : Around} {E : Value → Shared → Prop} {s : Shared}
end
section
variable {X : Cx} {K : Fg}
end
section
variable {K : Fg} {G : Ctx K} {te : TE} {xs : List (Int × Int × Int)}
end
end Fz

set_option Elab.async false
set_option linter.all false
set_option maxRecDepth 100000
set_option maxHeartbeats 1000000
/-! part Ts: sorted of a tuple of pairs, any number -/
namespace Fz
open PySem PySem.Spec PyProof.Rows L2
section
variable {prog : Program} {w : World} {A : Around} {E : Value → Shared → Prop} {s : Shared}
end
end Fz
namespace Fz
open PySem PySem.Spec PyProof.Rows L2
section
variable {X : Cx} {K : Fg}
end
section
variable {K : Fg} {G : Ctx K} {te : TE} {xs : List (Int × Int)}
end
end Fz
namespace Fz
open PySem PySem.Spec PyProof.Rows L2
theorem pe_fldK {X : Cx} {e : Expr} {ta : TE} {f : Str} {pos : Pos} (K : Fg) (h : X.K = K) (he : PE X e ta) (hb : attributeBase e f X.env (eval e X.env) = eval e X.env) : PE X (.Attribute e f pos) (tFld K ta f) := h ▸ pe_fld he hb
end Fz

set_option Elab.async false
set_option linter.all false
set_option maxRecDepth 100000
set_option maxHeartbeats 4000000
/-! part MM: as many pieces are needed as there are open demands without conflicts -/
namespace Fz
/-- a piece serves a demand -/
def Svs (z : Int × Int) (d : Dm) : Prop := d.2.1 ≤ z.1 ∧ z.1 ≤ d.1 ∧ d.1 ≤ z.2 ∧ z.2 ≤ d.2.2
instance (z : Int × Int) (d : Dm) : Decidable (Svs z d) := by unfold Svs; infer_instance
def Cfl (d e : Dm) : Prop := d.2.1 ≤ e.1 ∧ e.1 ≤ d.2.2 ∧ e.2.1 ≤ d.1 ∧ d.1 ≤ e.2.2
instance (d e : Dm) : Decidable (Cfl d e) := by unfold Cfl; infer_instance
def Dok (d : Dm) : Prop := d.2.1 ≤ d.1 ∧ d.1 ≤ d.2.2
def Ind (L : List Dm) : Prop := L.Pairwise fun d e => ¬ Cfl d e
/-- what uncrossing wants of the open demands -/
structure ClsO (O : Dm → Prop) : Prop where
  ok : ∀ d, O d → Dok d
  rep : ∀ p I q J, O (p, I) → O (q, J) → I.1 ≤ J.1 → J.2 ≤ I.2 → J.1 ≤ p → p ≤ J.2 → O (p, J)
  exch : ∀ p I q J, O (p, I) → O (q, J) → I.1 < J.1 → I.2 < J.2 → p < q → Cfl (p, I) (q, J) → O (p, J) ∧ O (q, I)
def CLe (d e : Dm) : Prop := e.2.1 ≤ d.2.1 ∧ d.1 ≤ e.1 ∧ e.2.2 ≤ d.2.2
instance (d e : Dm) : Decidable (CLe d e) := by unfold CLe; infer_instance
def ct (z : Int × Int) (d : Dm) : Nat := if Svs z d then 1 else 0
/-! ### the open demands of targets and pieces -/
def Opn (T P : List (Int × Int)) (d : Dm) : Prop := (d.2 ∈ T ∧ Dok d) ∧ ∀ z ∈ P, ¬ Svs z d
end Fz

set_option Elab.async false
set_option linter.all false
set_option maxRecDepth 100000
set_option maxHeartbeats 1000000
/-! part Pb: largest sets of open demands, block by block -/
namespace Fz
open PySem PySem.Spec PyProof.Rows L2
def srvP (b : Int) (t a : Int × Int) : Bool := decide (t.1 ≤ a.1) && (decide (a.1 ≤ b) && (decide (b ≤ a.2) && decide (a.2 ≤ t.2)))
def fndB (ps : List (Int × Int)) (b : Int) (t : Int × Int) : Bool := (decide (t.1 ≤ b) && decide (b ≤ t.2)) && !((ps.map (srvP b t)).any id)
def fndF (tp ps : List (Int × Int)) (b : Int) : List (Int × Int) := tp.filter (fndB ps b)
def lstF (l : List (Int × Int)) (x : Int × Int) : Bool := !((l.map fun y => !(decide (y = x)) && inB x y).any id)
/-- the smallest open targets at a block -/
def opF (tp ps : List (Int × Int)) (b : Int) : List (Int × Int) := (fndF tp ps b).filter (lstF (fndF tp ps b))
/-- an open demand none of whose smaller targets is open there -/
def MinO (tp ps : List (Int × Int)) (d : Dm) : Prop := Opn tp ps d ∧ ∀ y, Opn tp ps (d.1, y) → d.2.1 ≤ y.1 → y.2 ≤ d.2.2 → y = d.2
/-! ### runs over the blocks -/
def lastF (al : List (Int × Int)) : Int := if (!al.isEmpty) = true then (atL al (-1)).1 else -1
def aliF (b : Int) (key : List (Int × Int)) : List (Int × Int) := key.filter fun x => decide (b ≤ x.2)
def nxtF (b : Int) (key : List (Int × Int)) (t : Int × Int) : List (Int × Int) := ((aliF b key).filter fun x => decide (t.2 < x.2)) ++ [(b, t.2)]
inductive Run (tp ps : List (Int × Int)) : Nat → List (Int × Int) → List Dm → Prop
  | nil : Run tp ps 0 [] []
  | skip {b : Nat} {key : List (Int × Int)} {C : List Dm} (h : Run tp ps b key C) : Run tp ps (b + 1) (aliF b key) C
  | take {b : Nat} {key : List (Int × Int)} {C : List Dm} {t : Int × Int} (h : Run tp ps b key C) (ht : t ∈ opF tp ps b) (hl : lastF (aliF b key) < t.1) : Run tp ps (b + 1) (nxtF b key t) (C ++ [((b : Int), t)])
structure Snd (tp ps : List (Int × Int)) (b : Nat) (key : List (Int × Int)) (C : List Dm) : Prop where
  mins : ∀ d ∈ C, MinO tp ps d ∧ 0 ≤ d.1 ∧ d.1 < b
  asc : C.Pairwise fun d e => d.1 < e.1
  ind : Ind C
  stair : key.Pairwise fun s u => s.1 < u.1 ∧ u.2 < s.2
  frm : ∀ s ∈ key, (0 ≤ s.1 ∧ s.1 < b) ∧ ∃ d ∈ C, d.1 = s.1 ∧ d.2.2 = s.2
  dom : ∀ d ∈ C, (b : Int) ≤ d.2.2 → ∃ s ∈ key, d.1 ≤ s.1 ∧ d.2.2 ≤ s.2
def HasL {κ β : Type} [DecidableEq κ] (fo : List (κ × List β)) (k : κ) (n : Nat) : Prop := ∃ C, dGet fo k = some C ∧ n ≤ C.length
structure StOk (tp ps : List (Int × Int)) (b : Nat) (st : List (List (Int × Int) × List Dm)) : Prop where
  run : ∀ x ∈ st, Run tp ps b x.1 x.2
  all : ∀ key C, Run tp ps b key C → HasL st key C.length
  nd : (st.map (·.1)).Nodup
end Fz

set_option Elab.async false
set_option linter.all false
set_option maxRecDepth 100000
set_option maxHeartbeats 1000000
/-! part Pc: sizes, the next piece, the pieces one after another -/
namespace Fz
open PySem PySem.Spec PyProof.Rows L2
section
variable {tp ps : List (Int × Int)} {n : Nat}
end
end Fz

set_option Elab.async false
set_option linter.all false
set_option maxRecDepth 100000
set_option maxHeartbeats 1000000
/-! part Pd: block indexes and positions -/
namespace Fz
open PySem PySem.Spec PyProof.Rows L2
/-- blocks lo i .. hi i one behind another -/
structure Blk (n : Nat) (lo hi : Int → Int) : Prop where
  ok : ∀ i : Int, 0 ≤ i → i < n → lo i ≤ hi i
  apart : ∀ i j : Int, 0 ≤ i → i < j → j < n → hi i < lo j
def InR (n : Nat) (z : Int × Int) : Prop := 0 ≤ z.1 ∧ z.1 ≤ z.2 ∧ z.2 < n
def outP (lo hi : Int → Int) (z : Int × Int) : Int × Int := (lo z.1, hi z.2)
section
variable {n : Nat} {lo hi : Int → Int}
theorem Blk.lo_le (B : Blk n lo hi) {i j : Int} (h1 : 0 ≤ i) (h2 : j < n) (h : i ≤ j) : lo i ≤ lo j := by
  by_cases e : i = j
  · rw [e]; exact Int.le_refl _
  · have := B.apart i j h1 (by omega) h2
    have := B.ok i h1 (by omega)
    omega
theorem Blk.hi_le (B : Blk n lo hi) {i j : Int} (h1 : 0 ≤ i) (h2 : j < n) (h : i ≤ j) : hi i ≤ hi j := by
  by_cases e : i = j
  · rw [e]; exact Int.le_refl _
  · have := B.apart i j h1 (by omega) h2
    have := B.ok j (by omega) h2
    omega
theorem Blk.lo_iff (B : Blk n lo hi) {i j : Int} (i0 : 0 ≤ i) (i1 : i < n) (j0 : 0 ≤ j) (j1 : j < n) : lo i ≤ lo j ↔ i ≤ j := by
  refine ⟨fun h => ?_, fun h => B.lo_le i0 j1 h⟩
  by_cases w : i ≤ j
  · exact w
  · have := B.apart j i j0 (by omega) i1
    have := B.ok j j0 j1
    omega
theorem Blk.hi_iff (B : Blk n lo hi) {i j : Int} (i0 : 0 ≤ i) (i1 : i < n) (j0 : 0 ≤ j) (j1 : j < n) : hi i ≤ hi j ↔ i ≤ j := by
  refine ⟨fun h => ?_, fun h => B.hi_le i0 j1 h⟩
  by_cases w : i ≤ j
  · exact w
  · have := B.apart j i j0 (by omega) i1
    have := B.ok i i0 i1
    omega
/-- a position q of block p -/
theorem Blk.at_lo (B : Blk n lo hi) {a p q : Int} (a0 : 0 ≤ a) (a1 : a < n) (p0 : 0 ≤ p) (p1 : p < n) (q1 : lo p ≤ q) (q2 : q ≤ hi p) : lo a ≤ q ↔ a ≤ p := by
  constructor
  · intro h
    by_cases w : a ≤ p
    · exact w
    · have := B.apart p a p0 (by omega) a1
      omega
  · intro h
    have := B.lo_le a0 p1 h
    omega
theorem Blk.at_hi (B : Blk n lo hi) {a p q : Int} (a0 : 0 ≤ a) (a1 : a < n) (p0 : 0 ≤ p) (p1 : p < n) (q1 : lo p ≤ q) (q2 : q ≤ hi p) : q ≤ hi a ↔ p ≤ a := by
  constructor
  · intro h
    by_cases w : p ≤ a
    · exact w
    · have := B.apart a p a0 (by omega) p1
      omega
  · intro h
    have := B.hi_le p0 a1 h
    omega
theorem Blk.svs (B : Blk n lo hi) {z t : Int × Int} {p q : Int} (hz : InR n z) (ht : InR n t) (p0 : 0 ≤ p) (p1 : p < n) (q1 : lo p ≤ q) (q2 : q ≤ hi p) : Svs (outP lo hi z) (q, outP lo hi t) ↔ Svs z (p, t) := by
  obtain ⟨z0, z1, z2⟩ := hz
  obtain ⟨t0, t1, t2⟩ := ht
  unfold Svs outP
  dsimp only
  rw [B.lo_iff t0 (by omega) z0 (by omega), B.at_lo z0 (by omega) p0 p1 q1 q2, B.at_hi (by omega) z2 p0 p1 q1 q2, B.hi_iff (by omega) z2 (by omega) t2]
theorem Blk.dok (B : Blk n lo hi) {t : Int × Int} {p q : Int} (ht : InR n t) (p0 : 0 ≤ p) (p1 : p < n) (q1 : lo p ≤ q) (q2 : q ≤ hi p) : Dok (q, outP lo hi t) ↔ Dok (p, t) := by
  obtain ⟨t0, t1, t2⟩ := ht
  unfold Dok outP
  dsimp only
  rw [B.at_lo t0 (by omega) p0 p1 q1 q2, B.at_hi (by omega) t2 p0 p1 q1 q2]
theorem Blk.cfl (B : Blk n lo hi) {t u : Int × Int} {p q p' q' : Int} (ht : InR n t) (hu : InR n u) (p0 : 0 ≤ p) (p1 : p < n) (q1 : lo p ≤ q) (q2 : q ≤ hi p) (p0' : 0 ≤ p') (p1' : p' < n) (q1' : lo p' ≤ q') (q2' : q' ≤ hi p') :
    Cfl (q, outP lo hi t) (q', outP lo hi u) ↔ Cfl (p, t) (p', u) := by
  obtain ⟨t0, t1, t2⟩ := ht
  obtain ⟨u0, u1, u2⟩ := hu
  unfold Cfl outP
  dsimp only
  rw [B.at_lo t0 (by omega) p0' p1' q1' q2', B.at_hi (by omega) t2 p0' p1' q1' q2', B.at_lo u0 (by omega) p0 p1 q1 q2, B.at_hi (by omega) u2 p0 p1 q1 q2]
theorem Blk.inj (B : Blk n lo hi) {z t : Int × Int} (hz : InR n z) (ht : InR n t) (e : outP lo hi z = outP lo hi t) : z = t := by
  obtain ⟨z0, z1, z2⟩ := hz
  obtain ⟨t0, t1, t2⟩ := ht
  unfold outP at e
  simp only [Prod.mk.injEq] at e
  have a := B.lo_iff z0 (by omega) t0 (by omega)
  have b := B.lo_iff t0 (by omega) z0 (by omega)
  have c := B.hi_iff (i := z.2) (j := t.2) (by omega) z2 (by omega) t2
  have d := B.hi_iff (i := t.2) (j := z.2) (by omega) t2 (by omega) z2
  exact Prod.ext (by omega) (by omega)
variable {tp pp : List (Int × Int)}
theorem Blk.opn (B : Blk n lo hi) (ht : ∀ t ∈ tp, InR n t) (hp : ∀ z ∈ pp, InR n z) {t : Int × Int} {p q : Int} (it : InR n t) (p0 : 0 ≤ p) (p1 : p < n) (q1 : lo p ≤ q) (q2 : q ≤ hi p) :
    Opn (tp.map (outP lo hi)) (pp.map (outP lo hi)) (q, outP lo hi t) ↔ Opn tp pp (p, t) := by
  unfold Opn
  rw [B.dok it p0 p1 q1 q2]
  refine and_congr (and_congr ?_ Iff.rfl) ?_
  · dsimp only
    rw [List.mem_map]
    constructor
    · rintro ⟨u, hu, e⟩
      rw [← B.inj (ht u hu) it e]; exact hu
    · intro h
      exact ⟨t, h, rfl⟩
  · constructor
    · intro h z hz w
      exact h _ (List.mem_map.mpr ⟨z, hz, rfl⟩) ((B.svs (hp z hz) it p0 p1 q1 q2).mpr w)
    · intro h z hz w
      obtain ⟨y, hy, rfl⟩ := List.mem_map.mp hz
      exact h y hy ((B.svs (hp y hy) it p0 p1 q1 q2).mp w)
/-- each position of a target lies in a block -/
def Full (n : Nat) (lo hi : Int → Int) (tp : List (Int × Int)) : Prop := ∀ t ∈ tp, ∀ q, lo t.1 ≤ q → q ≤ hi t.2 → ∃ i, 0 ≤ i ∧ i < (n : Int) ∧ lo i ≤ q ∧ q ≤ hi i
theorem Blk.back (B : Blk n lo hi) (F : Full n lo hi tp) (ht : ∀ t ∈ tp, InR n t) (hp : ∀ z ∈ pp, InR n z) {d : Dm} (o : Opn (tp.map (outP lo hi)) (pp.map (outP lo hi)) d) :
    ∃ (p : Int) (t : Int × Int), t ∈ tp ∧ (0 ≤ p ∧ p < n) ∧ (lo p ≤ d.1 ∧ d.1 ≤ hi p) ∧ d.2 = outP lo hi t ∧ Opn tp pp (p, t) := by
  obtain ⟨t, ht', e⟩ := List.mem_map.mp o.1.1
  have kd := o.1.2
  unfold Dok at kd
  rw [← e] at kd
  obtain ⟨i, i0, i1, i2, i3⟩ := F t ht' d.1 kd.1 kd.2
  refine ⟨i, t, ht', ⟨i0, i1⟩, ⟨i2, i3⟩, e.symm, (B.opn ht hp (ht t ht') i0 i1 i2 i3).mp ?_⟩
  rw [e]; exact o
theorem Blk.list (B : Blk n lo hi) (F : Full n lo hi tp) (ht : ∀ t ∈ tp, InR n t) (hp : ∀ z ∈ pp, InR n z) : ∀ L : List Dm, (∀ d ∈ L, Opn (tp.map (outP lo hi)) (pp.map (outP lo hi)) d) → Ind L →
    ∃ M : List Dm, M.length = L.length ∧ (∀ d ∈ M, Opn tp pp d) ∧ Ind M ∧ ∀ e ∈ M, InR n e.2 ∧ (0 ≤ e.1 ∧ e.1 < n) ∧ ∃ d ∈ L, (lo e.1 ≤ d.1 ∧ d.1 ≤ hi e.1) ∧ d.2 = outP lo hi e.2
  | [], _, _ => ⟨[], rfl, (fun _ h => nomatch h), .nil, (fun _ h => nomatch h)⟩
  | d :: L, h, i => by
    obtain ⟨i1, i2⟩ := List.pairwise_cons.mp i
    obtain ⟨M, m1, m2, m3, m4⟩ := B.list F ht hp L (fun x hx => h x (List.mem_cons_of_mem _ hx)) i2
    obtain ⟨p, t, t1, ⟨p0, p1⟩, ⟨q1, q2⟩, e, o⟩ := B.back F ht hp (h d List.mem_cons_self)
    have dd : d = (d.1, outP lo hi t) := by rw [← e]
    refine ⟨(p, t) :: M, by rw [List.length_cons, List.length_cons, m1], fun x hx => ?_, List.pairwise_cons.mpr ⟨fun x hx c => ?_, m3⟩, fun x hx => ?_⟩
    · rcases List.mem_cons.mp hx with w | w
      · rw [w]; exact o
      · exact m2 x w
    · obtain ⟨x1, ⟨x2, x3⟩, d', d1, ⟨d2, d3⟩, d4⟩ := m4 x hx
      refine i1 d' d1 ?_
      have dd' : d' = (d'.1, outP lo hi x.2) := by rw [← d4]
      rw [dd, dd']
      exact (B.cfl (ht t t1) x1 p0 p1 q1 q2 x2 x3 d2 d3).mpr c
    · rcases List.mem_cons.mp hx with w | w
      · rw [w]; exact ⟨ht t t1, ⟨p0, p1⟩, d, List.mem_cons_self, ⟨q1, q2⟩, e⟩
      · obtain ⟨x1, x2, d', d1, d2⟩ := m4 x w
        exact ⟨x1, x2, d', List.mem_cons_of_mem _ d1, d2⟩
end
end Fz

set_option Elab.async false
set_option linter.all false
set_option maxRecDepth 100000
set_option maxHeartbeats 1000000
/-! part Pe: targets and pieces as pairs of block indexes, and back -/
namespace Fz
open PySem PySem.Spec PyProof.Rows L2
theorem atL_nn {α : Type} [Inhabited α] {xs : List α} {i : Int} (h0 : 0 ≤ i) (h1 : i < xs.length) : ∃ h : i.toNat < xs.length, atL xs i = xs[i.toNat] := by
  have h : i.toNat < xs.length := by omega
  refine ⟨h, ?_⟩
  have e : ((i.toNat : Nat) : Int) = i := by omega
  have : atL xs ((i.toNat : Nat) : Int) = xs[i.toNat] := by
    unfold atL atI ixN
    rw [if_pos (by omega), if_pos (by omega)]
    show (xs[((i.toNat : Nat) : Int).toNat]?).getD default = _
    rw [Int.toNat_natCast, List.getElem?_eq_getElem h]; rfl
  rw [e] at this
  exact this
section
variable {ts ps ex : List (Int × Int)}
end
end Fz

set_option Elab.async false
set_option linter.all false
set_option maxRecDepth 100000
set_option maxHeartbeats 1000000
/-! part Pf: what solve returns -/
namespace Fz
open PySem PySem.Spec PyProof.Rows L2
section
variable {ts ps : List (Int × Int)}
variable (h : ∀ z ∈ (ts ++ ps) ++ [], z.1 ≤ z.2)
include h
end
end Fz

set_option Elab.async false
set_option linter.all false
set_option maxRecDepth 100000
set_option maxHeartbeats 1000000
/-! part Cp: tuples compared by <, <=, >, >= -/
namespace Fz
open PySem PySem.Spec PyProof.Rows L2
/-- two data that can be compared place by place -/
def rCmpA (K : Fg) (f : PyData → PyData → Bool) : R2 := fun x y H Q => ∃ a b : PyData, L2.Dp K H x a ∧ L2.Dp K H y b ∧ PySem.W.alike a b = true ∧ a ≠ .none ∧ a.depth ≤ 60 ∧ Q (.bl (f a b)) H
section
variable {X : Cx} {K : Fg}
theorem op_ltA (e : X.K = K) (hu : X.A.units + 64 < cLine) : OpR X (compareOp .Lt) (rCmpA K fun a b => PySem.W.dataLt a b) := by
  subst e
  intro pins s σ H x y v u Q I rx ry g
  obtain ⟨a, b, h1, h2, al, nn, dp, q⟩ := g
  obtain ⟨_, r1⟩ := L2.Dp.reads I a x v h1 rx
  obtain ⟨_, r2⟩ := L2.Dp.reads I b y u h2 ry
  exact PySem.W.lt_data r1 r2 al nn (by have := Nat.min_le_left a.depth b.depth; omega) ⟨.bl _, H, I, rfl, q⟩
end
/-- data of a type that can be compared -/
structure CmpT {α : Type} (en : α → PyData) (lt : α → α → Bool) : Prop where
  shp : ∀ x, SeqAt.shaped (en x) = true
  alk : ∀ x y, PySem.W.alike (en x) (en y) = true
  nn : ∀ x, en x ≠ .none
  dep : ∀ x, (en x).depth ≤ 60
  lt : ∀ x y, PySem.W.dataLt (en x) (en y) = lt x y
section
variable {K : Fg} {α : Type} {en : α → PyData} {lt : α → α → Bool} {x y : α}
theorem rd_cmpA {f : PyData → PyData → Bool} (C : CmpT en lt) : RD2 K (rCmpA K f) (en x) (en y) (.bool (f (en x) (en y))) := rd2_val fun F H v u Q s h1 h2 k =>
  ⟨en x, en y, Dp.old _ _ (dp_up s _ _ h1) (C.shp x), Dp.old _ _ (dp_up s _ _ h2) (C.shp y), C.alk x y, C.nn x, C.dep x, k _ (.bl _)⟩
theorem rd_ltA (C : CmpT en lt) : RD2 K (rCmpA K fun a b => PySem.W.dataLt a b) (en x) (en y) (.bool (lt x y)) := by rw [← C.lt x y]; exact rd_cmpA C
end
def ltPB (p q : Int × Int) : Bool := decide (LtP p q)
theorem lexL_step {x y : Int} {l m : List (Int ⊕ List Nat)} : PyProof.Rows.lexLt itemOrd (Sum.inl x :: l) (Sum.inl y :: m) = if x = y then PyProof.Rows.lexLt itemOrd l m else decide (x < y) := by
  by_cases e : x = y
  · subst e
    rw [if_pos rfl]
    exact lex_self (O := itemOrd) _ _ _
  · rw [if_neg e, lex_diff (O := itemOrd) (fun q => e (Sum.inl.inj q))]
    rfl
theorem lt_eP (p q : Int × Int) : PySem.W.dataLt (eP p) (eP q) = ltPB p q := by
  obtain ⟨a, b⟩ := p
  obtain ⟨c, d⟩ := q
  show PyProof.Rows.lexLt itemOrd ([.inl 1, .inl a, .inl 1, .inl b, .inl 0] : List (Int ⊕ List Nat)) ([.inl 1, .inl c, .inl 1, .inl d, .inl 0] : List (Int ⊕ List Nat)) = _
  rw [lexL_step, if_pos rfl, lexL_step, lexL_step, if_pos rfl, lexL_step, lexL_step, if_pos rfl]
  unfold ltPB
  by_cases e : a = c
  · rw [if_pos e]
    by_cases f : b = d
    · rw [if_pos f]
      exact (decide_eq_false (by unfold LtP; dsimp only; omega)).symm
    · rw [if_neg f, Bool.eq_iff_iff, decide_eq_true_eq, decide_eq_true_eq]
      unfold LtP; dsimp only; omega
  · rw [if_neg e, Bool.eq_iff_iff, decide_eq_true_eq, decide_eq_true_eq]
    unfold LtP; dsimp only; omega
theorem cmpT_P : CmpT eP ltPB where
  shp := fun x => rfl
  alk := fun x y => rfl
  nn := fun x h => nomatch h
  dep := fun x => by show 1 ≤ 60; decide
  lt := lt_eP
end Fz

set_option Elab.async false
set_option linter.all false
set_option maxRecDepth 100000
set_option maxHeartbeats 1000000
/-! part Pg: what the laws use of the solver -/
namespace Fz
open PySem PySem.Spec PyProof.Rows L2
end Fz

set_option Elab.async false
set_option linter.all false
set_option maxRecDepth 100000
set_option maxHeartbeats 1000000
/-! part R3: range of three, lists unpacked, comprehensions with drawn tests, while with draws -/
namespace Fz
open PySem PySem.Spec PyProof.Rows L2
section
variable {K : Fg} {G : Ctx K} {ta tb t : TE} {d : PyData} {ds : List PyData} {vs : List Nat} {Pg : Ctx K → Prop} {tA : TT} {g : TG} {gs : TGs} {u : TS} {E : JE K}
end
section
variable {α β σ : Type}
variable {K : Fg} {G : Ctx K} {tA : TT} {g : TG} {u : TS} {E : JE K}
end
section
variable {K : Fg} {G : Ctx K} {te : TE}
end
end Fz

set_option Elab.async false
set_option linter.all false
set_option maxRecDepth 100000
set_option maxHeartbeats 1000000
/-! part Cn: how many pieces are needed, compared -/
namespace Fz
open PySem PySem.Spec PyProof.Rows L2
abbrev Okl (ts ps : List (Int × Int)) : Prop := ∀ z ∈ (ts ++ ps) ++ [], z.1 ≤ z.2
theorem Okl.t {ts ps : List (Int × Int)} (h : Okl ts ps) : ∀ z ∈ ts, z.1 ≤ z.2 := fun z hz => h z (List.mem_append_left _ (List.mem_append_left _ hz))
theorem Okl.p {ts ps : List (Int × Int)} (h : Okl ts ps) : ∀ z ∈ ps, z.1 ≤ z.2 := fun z hz => h z (List.mem_append_left _ (List.mem_append_right _ hz))
variable {ts ps us qs : List (Int × Int)}
end Fz

set_option Elab.async false
set_option linter.all false
set_option maxRecDepth 100000
set_option maxHeartbeats 1000000
/-! part Co: targets that are left when as much is needed -/
namespace Fz
open PySem PySem.Spec PyProof.Rows L2
variable {ts ps us qs : List (Int × Int)}
end Fz

set_option Elab.async false
set_option linter.all false
set_option maxRecDepth 100000
set_option maxHeartbeats 1000000
/-! part Ct: how many a set of ints holds -/
namespace Fz
open PySem PySem.Spec PyProof.Rows L2
section
variable {X : Cx} {K : Fg} {w : World} {G : Ctx K} {te : TE} {xs : List Int}
end
end Fz

set_option Elab.async false
set_option linter.all false
set_option maxRecDepth 100000
set_option maxHeartbeats 1000000
/-! part Cf: targets with a known number -/
namespace Fz
open PySem PySem.Spec PyProof.Rows L2
variable {ts ps us qs : List (Int × Int)}
end Fz

set_option Elab.async false
set_option linter.all false
set_option maxRecDepth 100000
set_option maxHeartbeats 1000000
/-! part Cg: drawn numbers sorted -/
namespace Fz
open PySem PySem.Spec PyProof.Rows L2
section
variable {K : Fg} {G : Ctx K} {te : TE}
end
end Fz

set_option Elab.async false
set_option linter.all false
set_option maxRecDepth 100000
set_option maxHeartbeats 1000000
/-! part Lc: lines of blocks that follow one another -/
namespace Fz
open PySem PySem.Spec PyProof.Rows L2
variable {n : Nat} {f : Nat → Int} {l : List (Int × Int)}
def OnB (n : Nat) (f : Nat → Int) (z : Int × Int) : Prop := ∃ i j, i ≤ j ∧ j < n ∧ z = (f i, f (j + 1) - 1)
end Fz

set_option Elab.async false
set_option linter.all false
set_option maxRecDepth 100000
set_option maxHeartbeats 1000000
/-! part Tr: numbers of transformed targets -/
namespace Fz
open PySem PySem.Spec PyProof.Rows L2
variable {ts ps us qs : List (Int × Int)}
theorem zip_asc {α : Type} {lt : α → α → Bool} (tr : ∀ a b c, lt a b = true → lt b c = true → lt a c = true) : ∀ l : List α, (((l.zip (cutL l (some (1 : Int)) none)).map fun x => lt x.1 x.2).all id) = true ↔ l.Pairwise fun a b => lt a b = true := by
  intro l
  rw [cutL_from]
  induction l with
  | nil => exact ⟨fun _ => List.Pairwise.nil, fun _ => rfl⟩
  | cons a l ih =>
    match l, ih with
    | [], _ => exact ⟨fun _ => List.pairwise_singleton _ _, fun _ => rfl⟩
    | b :: l, ih =>
      have e : (((a :: b :: l).zip ((a :: b :: l).drop 1)).map fun x => lt x.1 x.2).all id = (lt a b && (((b :: l).zip ((b :: l).drop 1)).map fun x => lt x.1 x.2).all id) := rfl
      rw [e, Bool.and_eq_true, ih]
      refine ⟨fun ⟨h1, h2⟩ => List.pairwise_cons.mpr ⟨fun c hc => ?_, h2⟩, fun h => ⟨(List.pairwise_cons.mp h).1 b List.mem_cons_self, (List.pairwise_cons.mp h).2⟩⟩
      rcases List.mem_cons.mp hc with rfl | hc
      · exact h1
      · exact tr a b c h1 ((List.pairwise_cons.mp h2).1 c hc)
theorem ltPB_tr (a b c : Int × Int) (h : ltPB a b = true) (g : ltPB b c = true) : ltPB a c = true := by
  unfold ltPB at h g ⊢
  rw [decide_eq_true_iff] at h g ⊢
  unfold LtP at h g ⊢
  omega
/-! ### order of transformed lists -/
theorem srtD_asc {l : List (Int × Int)} (nd : l.Nodup) : (srtD l).Pairwise LtP := by
  have a := srtD_pw l
  have b : (srtD l).Nodup := (perm_srtD l).nodup_iff.mpr nd
  refine (a.and b).imp fun {x y} ⟨h, n⟩ => ?_
  have n' : ¬ (x.1 = y.1 ∧ x.2 = y.2) := fun e => n (Prod.ext e.1 e.2)
  unfold LeP at h
  unfold LtP
  omega
end Fz

set_option Elab.async false
set_option linter.all false
set_option maxRecDepth 100000
set_option maxHeartbeats 1000000
/-! part Mo: positions replaced by groups -/
namespace Fz
open PySem PySem.Spec PyProof.Rows L2
variable {S : Int → Int} {ts ps us qs E : List (Int × Int)}
end Fz

set_option Elab.async false
set_option linter.all false
set_option maxRecDepth 100000
set_option maxHeartbeats 1000000
/-! part Ow: own lists compared -/
namespace Fz
open PySem PySem.Spec PyProof.Rows L2
section
variable {K : Fg} {G : Ctx K} {tb : TE} {r : R2} {ds : List PyData} {d2 : PyData} {b : Bool}
end
section
variable {X : Cx} {K : Fg}
variable {G : Ctx K} {to te : TE}
end
end Fz

set_option Elab.async false
set_option linter.all false
set_option maxRecDepth 100000
set_option maxHeartbeats 1000000
/-! part Hp: a helpful interval; pieces and demands one by one -/
namespace Fz
open PySem PySem.Spec PyProof.Rows L2
variable {ts ps us qs E F : List (Int × Int)}
end Fz

set_option Elab.async false
set_option linter.all false
set_option maxRecDepth 100000
set_option maxHeartbeats 1000000
/-! part Id: own dicts keyed by ints; the keys of a dict as a list -/
namespace Fz
open PySem PySem.Spec PyProof.Rows L2
section
variable {K : Fg} {G : Ctx K} {E : JE K} {te ty : TE}
end
/-! ### list(d) of a dict with tuple keys -/
section
variable {X : Cx} {K : Fg} {G : Ctx K} {td : TE}
end
/-! ### own lists read at drawn places, drawn values stored -/
section
variable {K : Fg} {G : Ctx K} {E : JE K}
end
end Fz

set_option Elab.async false
set_option linter.all false
set_option maxRecDepth 100000
set_option maxHeartbeats 1000000
/-! part Sd: sorted of a dict keyed by pairs -/
namespace Fz
open PySem PySem.Spec PyProof.Rows L2
section
variable {prog : Program} {w : World} {A : Around} {E : Value → Shared → Prop} {s : Shared}
end
section
variable {X : Cx} {K : Fg}
end
section
variable {K : Fg} {G : Ctx K} {td : TE} {β : Type} {en : β → PyData} {kvs : List ((Int × Int) × β)}
end
end Fz

set_option Elab.async false
set_option linter.all false
set_option maxRecDepth 100000
set_option maxHeartbeats 1000000
/-! part Se: a tuple times a number from one on -/
namespace Fz
open PySem PySem.Spec PyProof.Rows L2
section
variable {K : Fg} {α : Type}
theorem repL_one (xs : List α) : repL xs 1 = xs := by
  unfold repL
  show (List.replicate 1 xs).flatten = xs
  simp
end
end Fz

set_option Elab.async false
set_option linter.all false
set_option maxRecDepth 100000
set_option maxHeartbeats 1000000
/-! part Xj: statements that may be left by an exception -/
namespace Fz
open PySem PySem.Spec PyProof.Rows L2
section
variable {K : Fg} {B : Bs} {G : Ctx K} {F F' : Hp} {σ : L2.St} {H : Hp} {own : Ad → Nat} {E : JE K}
/-- what may be said of an exception that leaves: its class's name and its fields, data; and of the slots -/
abbrev XW (K : Fg) := Str → List (Str × PyData) → Ctx K → Prop
/-- the wish W takes every exception that EX names: the error's dict stands in the frozen part -/
def MeetsX (EX : XW K) (B : Bs) (F : Hp) (W : WX) : Prop :=
  (∀ cn fd fs C dd G' F' σ' H' own', EX cn fd G' → PySem.W.nsIn K mainGlobals cn = some (some (.ref C)) → Sat B G' F' σ' H' own' → F' dd = some (.xd fs) → fs.map (·.1) = fd.map (·.1) → DpAll K F' (fs.map (·.2)) (fd.map (·.2)) → fd ≠ [] → Same F F' → W (.ref C) (some dd) σ' H') ∧
  ∀ cn C G' F' σ' H' own', EX cn [] G' → PySem.W.nsIn K mainGlobals cn = some (some (.ref C)) → Sat B G' F' σ' H' own' → Same F F' → W (.ref C) none σ' H'
theorem MeetsX.up {EX : XW K} {W : WX} (m : MeetsX EX B F W) (f : Same F F') : MeetsX EX B F' W :=
  ⟨fun cn fd fs C dd G' F2 σ' H' own' e hC s hd hn ha ne f2 => m.1 cn fd fs C dd G' F2 σ' H' own' e hC s hd hn ha ne (f.trans f2), fun cn C G' F2 σ' H' own' e hC s f2 => m.2 cn C G' F2 σ' H' own' e hC s (f.trans f2)⟩
/-- t W: the statement's reading, W being asked where an exception leaves -/
def SJX (K : Fg) (t : WX → TS) (G : Ctx K) (E : JE K) (EX : XW K) : Prop := ∀ (B : Bs) (F : Hp) (σ : L2.St) (H : Hp) (own : Ad → Nat) (D : Ends) (W : WX), (∀ a n, B.dk a n → n = 1) → Sat B G F σ H own → Meets E B F D → MeetsX EX B F W → t W D σ H
variable {EX : XW K} {t t1 t2 u w : WX → TS} {tA : TT}
theorem sx_of {t : TS} (h : SJ K t G E) : SJX K (fun _ => t) G E EX := fun B F σ H own D W dk s m _ => h B F σ H own D dk s m
theorem sx_seq (h : SJX K t1 G { E with nx := fun G' => SJX K t2 G' E EX } EX) : SJX K (fun W => tSeq (t1 W) (t2 W)) G E EX := fun B F σ H own D W dk s m mx =>
  h B F σ H own _ W dk s ⟨fun G' F' σ' H' own' p s' f => p B F' σ' H' own' D W dk s' (m.up f) (mx.up f), m.rt, m.bk, m.ct⟩ mx
theorem sx_next (h : E.nx G) : SJX K (fun _ => tNext) G E EX := sx_of (sj_next h)
theorem sx_if {b : Bool} (h : EVT K tA G b) (h1 : b = true → SJX K u G E EX) (h2 : b = false → SJX K w G E EX) : SJX K (fun W => tIfS tA (u W) (w W)) G E EX := fun B F σ H own D W dk s m mx =>
  h B F σ H own _ s fun F' H' own' s' f => by
    cases b with
    | true => exact (show u W D σ H' from h1 rfl B F' σ H' own' D W dk s' (m.up f) (mx.up f))
    | false => exact (show w W D σ H' from h2 rfl B F' σ H' own' D W dk s' (m.up f) (mx.up f))
/-- an exception's own __init__ of one line, self.f = v -/
def spXi (C : Ad) (f : Str) : Sp := fun vs H Q _ => ∃ a v, vs = [.ref a, v] ∧ H a = some (exo a C none) ∧ ∀ dx, H dx = none → dx ≠ a → Q .non (upd (upd H dx (exd dx [(f, v)])) a (exo a C (some dx)))
end
/-! ### defs that may raise -/
section
variable {K : Fg} {ι : Type} {P : Program} {w : World} {mg : Str → Option Value} {base : Heap} {k : Nat} {f : Ad} {fd : FuncData} {ps N : List Str} {x qual : Str} {st : Stmt}
  {args : ι → List PyData} {pre : ι → Prop} {res : ι → PyData → Prop} {exc : ι → Str → List (Str × PyData) → Prop}
/-- called with args x, where pre x holds: some d with res x d comes back, or an exception leaves that exc x names -/
def spX (K : Fg) (args : ι → List PyData) (pre : ι → Prop) (res : ι → PyData → Prop) (exc : ι → Str → List (Str × PyData) → Prop) : Sp := fun vs H Q E => ∃ (x : ι) (F : Hp), Same F H ∧ DpAll K F vs (args x) ∧ pre x ∧
  (∀ v d F' H', res x d → Same F F' → Same F' H' → Same H H' → Gr F F' H → Dp K F' v d → Q v H') ∧
  (∀ cn fd fs C dd F' H', exc x cn fd → PySem.W.nsIn K mainGlobals cn = some (some (.ref C)) → Same F F' → Same F' H' → Same H H' → Gr F F' H → F' dd = some (.xd fs) → fs.map (·.1) = fd.map (·.1) → DpAll K F' (fs.map (·.2)) (fd.map (·.2)) → fd ≠ [] → E (.ref C) (some dd) H') ∧
  ∀ cn C F' H', exc x cn [] → PySem.W.nsIn K mainGlobals cn = some (some (.ref C)) → Same F F' → Same F' H' → Same H H' → Gr F F' H → E (.ref C) none H'
theorem okX (F : Fun K x qual st f fd) (S : FnScope N ps (defScope st)) (hl : ∀ x, (args x).length = ps.length)
    (hb : ∀ (cdv : Value) (A : Around) (outer : List Env) (s : Shared) (H : Hp) (E : XK), Room k (A.deeper (envOfC qual (defScope st) s.heap.objs.size f cdv)) → A.guards = some [] →
      ∃ t : WX → TS, (∀ W, L2N.Takes (cxOf (L2N.CX P w) P w K mg base N qual (defScope st) f cdv A outer s H E) W → PSs (cxOf (L2N.CX P w) P w K mg base N qual (defScope st) f cdv A outer s H E) (defBody st) (t W)) ∧
        ∀ x, pre x → SJX K t ((args x).map .da ++ List.replicate (N.length - ps.length) .un) ⟨fun _ => res x .none, fun d _ => res x d, fun _ => False, fun _ => False⟩ (fun cn fd _ => exc x cn fd)) :
    FnG P w K mg base (L2N.CX P w) (k + 1) f fd ps (spX K args pre res exc) := by
  obtain ⟨oc, od, kV, doc, pm, an, cdv, ct, osl, rfl, lk, hcd⟩ := F.ex
  refine fnG_of lk hcd S (fun vs H Q E h => ?_) (fun A outer s H vs Q E hr hg h => ?_)
  · obtain ⟨x, F0, _, hd, _⟩ := h
    rw [dpa_len hd, hl]
  · obtain ⟨x, F0, f0, hd, hp, q, qx, qn⟩ := h
    obtain ⟨t, ht, hs⟩ := hb cdv A outer s H E hr hg
    refine ⟨t (fun cls d _ H => E cls d H), ht _ (L2N.takes_of rfl rfl rfl rfl), ?_⟩
    have lv : vs.length = ps.length := by rw [dpa_len hd, hl]
    have le := scope_le S
    have s0 : Sat (K := K) ⟨F0, H, fun _ _ => False⟩ ((args x).map .da ++ List.replicate (N.length - ps.length) .un) F0 (start N vs) H (fun _ => 0) := by
      refine ⟨?_, f0, fun _ _ _ => rfl, fun a z => absurd rfl z, fun i t y h1 h2 => ?_, Same.refl _, fun a o e => .inl e, fun a z => z, fun a o z _ => z, fun a z _ => absurd rfl z⟩
      · rw [start_len (by omega), List.length_append, List.length_map, List.length_replicate, hl]; omega
      · rcases get_app_un h1 with z | ⟨hi, z⟩
        · subst z; trivial
        · rw [List.length_map] at hi
          rw [List.getElem?_map] at z
          have hi2 : i < vs.length := by rw [lv, ← hl x]; exact hi
          rw [start_get hi2] at h2
          cases e : (args x)[i]? with
          | none => rw [e] at z; cases z
          | some d =>
            rw [e] at z
            cases z
            obtain ⟨v, h3, h4⟩ := dpa_get hd e
            rw [h3] at h2
            cases h2
            exact ⟨v, rfl, h4⟩
    have fin : ∀ {d v G' F' σ' H' own'}, res x d → Sat (K := K) ⟨F0, H, fun _ _ => False⟩ G' F' σ' H' own' → Dp K F' v d → Q v H' := fun {d v G' F' σ' H' own'} r s' hv =>
      q v d F' H' r s'.b0 s'.fh (fun a o e => s'.bh a o e fun _ z => z) (fun a o e => s'.bf a o e) hv
    exact hs x hp ⟨F0, H, fun _ _ => False⟩ F0 (start N vs) H _ { nx := fun _ H' => Q .non H', rt := Q } _ (fun _ _ z => z.elim) s0
      ⟨fun G' F' σ' H' own' r s' _ => fin r s' .non, fun d v G' F' σ' H' own' r s' hv _ => fin r s' hv, fun G' F' σ' H' own' r s' _ => r.elim, fun G' F' σ' H' own' r s' _ => r.elim⟩
      ⟨fun cn fd fs C dd G' F' σ' H' own' e hC s' hdd hn ha ne _ => qx cn fd fs C dd F' H' e hC s'.b0 s'.fh (fun a o e => s'.bh a o e fun _ z => z) (fun a o e => s'.bf a o e) hdd hn ha ne,
       fun cn C G' F' σ' H' own' e hC s' _ => qn cn C F' H' e hC s'.b0 s'.fh (fun a o e => s'.bh a o e fun _ z => z) (fun a o e => s'.bf a o e)⟩
end
/-! ### calls that may raise -/
section
variable {X : Cx} {W : WX} {k : Nat} {f : Ad} {fd : FuncData} {ps : List Str} {sp : Sp} {dvs : List V} {ds : List Value} {x : Str} {p pos : Pos} {e : Expr} {es : List Expr} {t : TA}
end
section
variable {K : Fg} {G : Ctx K} {E : JE K} {EX : XW K} {ι : Type} {te : WX → TE} {P : PyData → Prop}
end
/-! ### an exception caught -/
section
variable {K : Fg} {G : Ctx K} {E : JE K} {EX EXb : XW K} {tb : WX → TS} {ts : Ad → Value → Option Ad → TS} {i : Nat} {c : Value}
/-- the slot of the caught one: its address, its dict, its fields -/
def exR (a : Ad) (d : Option Ad) (fd : List (Str × PyData)) : Res K where
  holds := fun F v _ _ => v = .ref a ∧ ∀ dd, d = some dd → ∃ fs : List (Str × V), F dd = some (.xd fs) ∧ fs.map (·.1) = fd.map (·.1) ∧ DpAll K F (fs.map (·.2)) (fd.map (·.2))
  mono := fun s _ h => ⟨h.1, fun dd e => let ⟨fs, h1, h2, h3⟩ := h.2 dd e; ⟨fs, s _ _ h1, h2, dpa_up s (fd.map (·.2)) (fs.map (·.2)) h3⟩⟩
open Classical in
theorem Sat.clear {B : Bs} {F H : Hp} {σ : L2.St} {own : Ad → Nat} (s : Sat B G F σ H own) (i : Nat) : ∃ own', Sat B (G.set i .un) F (σ.set i none) H own' := by
  refine ⟨fun a => if own a = i + 1 then 0 else own a, ?_⟩
  refine ⟨by simp [s.len], s.fh, fun a o e => ?_, fun a z => s.al a fun q => z (by rw [q]; split <;> rfl), fun j t x h1 h2 => ?_, s.b0, s.bf, s.bn, s.bh, fun a z q => ?_⟩
  · rw [s.fz a o e]; split <;> rfl
  · by_cases hj : j = i
    · subst hj
      have l1 : j < G.length := by have := (List.getElem?_eq_some_iff.mp h1).1; simpa using this
      rw [List.getElem?_set_self l1] at h1
      cases h1
      trivial
    · rw [List.getElem?_set_ne (Ne.symm hj)] at h1 h2
      refine (s.sl j t x h1 h2).go (Same.refl _) (fun _ _ _ q => q) fun a => ?_
      constructor
      · intro z; split at z <;> omega
      · intro z; rw [if_neg (by omega)]; exact z
  · by_cases e : own a = i + 1
    · rw [if_pos e] at z; exact absurd rfl z
    · rw [if_neg e] at z ⊢
      exact s.bd a z q
/-- the suite's ends: the name is gone behind it -/
abbrev unJ (E : JE K) (i : Nat) : JE K := ⟨fun G => E.nx (G.set i .un), E.rt, fun G => E.bk (G.set i .un), fun G => E.ct (G.set i .un)⟩
theorem Meets.un {B : Bs} {F : Hp} {D : Ends} (m : Meets E B F D) : Meets (unJ E i) B F { nx := fun σ' H' => D.nx (σ'.set i none) H', rt := D.rt, bk := fun σ' H' => D.bk (σ'.set i none) H', ct := fun σ' H' => D.ct (σ'.set i none) H' } :=
  ⟨fun G' F' σ' H' own' p s f => by obtain ⟨o2, s2⟩ := s.clear i; exact m.nx _ F' _ H' o2 p s2 f, m.rt,
   fun G' F' σ' H' own' p s f => by obtain ⟨o2, s2⟩ := s.clear i; exact m.bk _ F' _ H' o2 p s2 f, fun G' F' σ' H' own' p s f => by obtain ⟨o2, s2⟩ := s.clear i; exact m.ct _ F' _ H' o2 p s2 f⟩
end
/-! ### an error's own __init__ -/
section
variable {K : Fg} {P : Program} {w : World} {mg : Str → Option Value} {base : Heap} {C : Ad} {f : Str} {fI : Ad} {fd : FuncData} {qual p : Str} {st : Stmt}
end
/-! ### raise C() -/
section
variable {K : Fg} {G : Ctx K} {E : JE K} {EX : XW K}
end
/-! ### fields of a caught error -/
section
variable {K : Fg} {G : Ctx K}
end
/-! ### isinstance of a caught error that has fields -/
section
variable {X : Cx} {a D dd : Ad} {oe : Obj} {pn : List (Addr × Obj)}
theorem inst_xd {pins : List (Addr × Obj)} {σ : L2.St} {H : Hp} {s : Shared} {fs : List (PySem.Str × V)} (I : Inv (X.suite a ((a, oe) :: pn)) pins σ H s) (hz : L2N.Zn (.ref D) (some dd) oe) (hf : ∃ vs, oe.data = .fields vs) (hH : H dd = some (.xd fs)) :
    ∃ od, PySem.W.InstAt s.heap a oe D (some od) := by
  obtain ⟨ha, _⟩ := I.pin (a, oe) (List.mem_append.mpr (.inl List.mem_cons_self))
  obtain ⟨vs, hd⟩ := hf
  obtain ⟨mA, hns, _⟩ := I.hok dd _ hH
  obtain ⟨od, ho, _⟩ := lookIn_ns hns
  exact ⟨od, ⟨ha, hz.1, by unfold PySem.W.notCls; rw [hd] <;> rfl, by rw [hz.2.1]; exact ho⟩⟩
theorem kit_xd (C : ExcC X.K D) {od : Obj} : PySem.W.KitX X.K (.ref a) (.ref D) (fun h => PySem.W.InstAt h a oe D (some od)) := by
  obtain ⟨cd, hc, _⟩ := PySem.W.any_some C.hd
  exact PySem.W.kitx_exc (by rw [hc]; rfl) C.hg C.hk C.hs C.ha C.hn C.ht C.hm
def rIsX (K : PySem.W.Frag) (D a dd : Ad) : List V → Hp → VK → Prop := fun xs H Q => (∃ fs, H dd = some (.xd fs)) ∧ ∃ (c : V) (cv : Value) (b : Bool), xs = [.ref a, c] ∧ (∀ u, RelV c u → u = cv) ∧ PySem.W.kitOne K (.ref D) cv = some b ∧ Q (.bl b) H
theorem call_isX (C : ExcC X.K D) (hz : L2N.Zn (.ref D) (some dd) oe) (hf : ∃ vs, oe.data = .fields vs) : CallR (X.suite a ((a, oe) :: pn)) (.builtin "isinstance") (rIsX X.K D a dd) := by
  intro pins s σ H xs us Q I r h
  obtain ⟨⟨fs, hH⟩, c, cv, b, rfl, hcv, e, q⟩ := h
  obtain ⟨u, w', rfl, ru, rw'⟩ := vals2 r
  cases ru
  have ec := hcv _ rw'
  subst ec
  obtain ⟨od, J⟩ := inst_xd I hz hf hH
  exact PySem.W.kia_one (kit_xd C) I.kIn J e (fun z => nomatch z) fun tk => ⟨.bl b, H, I.kept (t' := tk) fun _ _ z => z, rfl, q⟩
end
/-! ### for, the body may raise -/
section
variable {K : Fg} {G : Ctx K} {E : JE K} {EX : XW K}
end
/-! ### promises along a mirror -/
section
variable {K : Fg} {ι β : Type}
variable {G G' : Ctx K} {E : JE K} {EX : XW K} {t : WX → TS}
theorem sx_nameV {α : Type} (e : α) (C : α → Ctx K) (h : ∀ x, x = e → SJX K t (C x) E EX) : SJX K t (C e) E EX := h e rfl
/-- a statement that cannot raise, then one that may -/
theorem sx_seqL {t1 : TS} (h : SJ K t1 G { E with nx := fun G' => SJX K t G' E EX }) : SJX K (fun W => tSeq t1 (t W)) G E EX := sx_seq (sx_of h)
theorem FnG.calm {P : Program} {w : World} {mg : PySem.Str → Option Value} {base : Heap} {k : Nat} {f : Ad} {fd : FuncData} {ps : List PySem.Str} {args : ι → List PyData} {pre : ι → Prop} {res : ι → PyData → Prop} (F : FnG P w K mg base (L2N.CX P w) k f fd ps (spX K args pre res fun _ _ _ => False)) :
    FnG P w K mg base CX0 k f fd ps (spP K args pre res) := by
  have tr : ∀ vs H Q E, spP K args pre res vs H Q E → spX K args pre res (fun _ _ _ => False) vs H Q (fun _ _ _ => False) := fun vs H Q E h => by
    obtain ⟨x, F0, f0, hd, hp, q⟩ := h
    exact ⟨x, F0, f0, hd, hp, q, fun _ _ _ _ _ _ _ z => z.elim, fun _ _ _ _ z => z.elim⟩
  refine ⟨fun vs H Q E h => F.len vs H Q _ (tr vs H Q E h), fun A outer s H a us vs Q E r g e b v h => ?_⟩
  refine codeAny_mono (F.run A outer s H a us vs Q _ r g e b v (tr vs H Q E h)) fun r s' hq => ?_
  match r, hq with
  | .error e, hq =>
    obtain ⟨_, _, _, _, _, _, _, _, _, _, _, _, z⟩ := hq
    exact z.elim
  | .ok (.ret u), hq => exact hq
  | .ok .next, hq => exact hq
  | .ok .brk, hq => exact hq
  | .ok .cont, hq => exact hq
end
/-- an error class of the program whose __init__(self, p) stores self.f -/
structure ErC (P : Program) (w : World) (K : Fg) (mg : PySem.Str → Option Value) (base : Heap) (cn f p : PySem.Str) (C : Ad) : Prop where
  ns : PySem.W.nsIn K mainGlobals cn = some (some (.ref C))
  mgC : mg cn = some (.ref C)
  ox : OexC K C
  ini : ∃ (fI : Ad) (fd : FuncData), PySem.W.findIn K (.ref C) "__init__" = some (some (.ref fI)) ∧ PySem.W.typeIn K (.ref fI) = some (.type "function") ∧ FnOk P w K mg base CX0 1 fI fd ["self", p] (spXi C f) ∧ Binds K fd ["self", p] []
/-! ### isinstance in a suite, whatever the class of the caught error -/
section
variable {X : Cx} {a : Ad} {cls : Value} {d : Option Ad} {oe : Obj} {pn : List (Addr × Obj)}
def rIsU (K : PySem.W.Frag) (a : Ad) (cls : Value) (d : Option Ad) : List V → Hp → VK → Prop := fun xs H Q => ∃ D, cls = .ref D ∧ ExcC K D ∧ (∀ dd, d = some dd → ∃ fs, H dd = some (.xd fs)) ∧
  ∃ (c : V) (cv : Value) (b : Bool), xs = [.ref a, c] ∧ (∀ u, RelV c u → u = cv) ∧ PySem.W.kitOne K (.ref D) cv = some b ∧ Q (.bl b) H
theorem call_isU (hz : L2N.Zn cls d oe) (hf : ∃ vs, oe.data = .fields vs) : CallR (X.suite a ((a, oe) :: pn)) (.builtin "isinstance") (rIsU X.K a cls d) := by
  intro pins s σ H xs us Q I r h
  obtain ⟨D, rfl, C, hd, c, cv, b, rfl, hcv, e, q⟩ := h
  cases d with
  | none => exact call_isE C hz.zc hf pins s σ H _ us Q I r ⟨c, cv, b, rfl, hcv, e, q⟩
  | some dd => exact call_isX C hz hf pins s σ H _ us Q I r ⟨hd dd rfl, c, cv, b, rfl, hcv, e, q⟩
end
section
variable {K : Fg} {G : Ctx K} {i : Nat} {a C : Ad} {d : Option Ad} {fd : List (PySem.Str × PyData)} {b : Bool}
theorem ev_isU {c : V} {cv : Value} (hi : G[i]? = some (.ow (exR a d fd))) (hC : ExcC K C) (hcv : ∀ u, RelV c u → u = cv) (hk : PySem.W.kitOne K (.ref C) cv = some b) :
    EV K (tCB (rIsU K a (.ref C) d) (tCons (tVar i) (tCons (tC c) tNil))) G (.bool b) := fun B F σ H own Q s k => by
  obtain ⟨y, hy, v', rfl, hR⟩ := s.slot hi
  obtain ⟨e, r⟩ := hR
  subst e
  exact ⟨.ref a, hy, C, rfl, hC, fun dd e => let ⟨fs, h1, _⟩ := r dd e; ⟨fs, s.fh _ _ h1⟩, c, cv, b, rfl, hcv, hk, k (.bl b) F H own s (.bl b) (Same.refl _)⟩
end
/-! ### try, by a name of its own -/
section
variable {K : Fg} {G : Ctx K} {E : JE K} {EX EXb : XW K} {tb : WX → TS} {ts : Ad → Value → Option Ad → TS} {i : Nat} {c : Value}
end
end Fz

set_option Elab.async false
set_option linter.all false
set_option maxRecDepth 100000
set_option maxHeartbeats 1000000
/-! part Xk: what texts of defs that raise lean on -/
namespace Fz
open PySem PySem.Spec PyProof.Rows L2
section
variable {K : Fg} {G G' : Ctx K} {E : JE K} {EX : XW K} {t : WX → TS} {σ : Type}
end
/-- an error class of the program without an __init__ of its own -/
structure Er0 (K : Fg) (mg : PySem.Str → Option Value) (cn : PySem.Str) (C : Ad) : Prop where
  ns : PySem.W.nsIn K mainGlobals cn = some (some (.ref C))
  mgC : mg cn = some (.ref C)
  q : PySem.W.excIn K C [.type "ValueError", .type "Exception", .type "BaseException", .type "object"] "ValueError.__new__" = true
  kC : PySem.W.keepIn K (.ref C) = true
  exC : PySem.W.subIn K (.ref C) (.type "BaseException") = some true
  tyC : PySem.W.typeIn K (.ref C) = some (.type "type")
end Fz

set_option Elab.async false
set_option linter.all false
set_option maxRecDepth 100000
set_option maxHeartbeats 4000000
/-! part Pl: an object of the def's own that holds two lists of its own and a truth -/
namespace Fz
open PySem PySem.Spec PyProof.Rows L2
section
variable {K : Fg} {B : Bs} {G : Ctx K} {F F' : Hp} {σ : L2.St} {H H' : Hp} {own : Ad → Nat}
open Classical in
/-- the thing in slot i takes addresses that nobody has -/
theorem Sat.grow (s : Sat B G F σ H own) {i : Nat} {r r' : Res K} {v : V} {A' : Ad → Prop} (hi : G[i]? = some (.ow r)) (hv : σ[i]? = some (some v)) (fh : Same F H')
    (k : ∀ a o, H a = some o → own a ≠ i + 1 → H' a = some o) (kn : ∀ a, H a ≠ none → H' a ≠ none)
    (hA : ∀ a, A' a → (own a = i + 1 ∨ own a = 0 ∧ B.H0 a = none) ∧ F a = none ∧ H' a ≠ none) (hr : r'.holds F v H' A') :
    ∃ own', Sat B (G.set i (.ow r')) F σ H' own' := by
  let own' : Ad → Nat := fun a => if A' a then i + 1 else if own a = i + 1 then 0 else own a
  have p1 : ∀ a, A' a → own' a = i + 1 := fun a z => if_pos z
  have p2 : ∀ a, ¬ A' a → own' a = if own a = i + 1 then 0 else own a := fun a z => if_neg z
  have pe : ∀ a, own' a = i + 1 ↔ A' a := fun a => by
    by_cases z : A' a
    · exact ⟨fun _ => z, p1 a⟩
    · refine ⟨fun q => ?_, fun q => absurd q z⟩
      rw [p2 a z] at q
      split at q <;> omega
  have pj : ∀ j a, j ≠ i → (own' a = j + 1 ↔ own a = j + 1) := fun j a hj => by
    by_cases z : A' a
    · rw [p1 a z]
      rcases (hA a z).1 with q | ⟨q, _⟩
      · rw [q]
      · rw [q]; omega
    · rw [p2 a z]
      by_cases q : own a = i + 1
      · rw [if_pos q]; omega
      · rw [if_neg q]
  refine ⟨own', by simp [s.len], fh, fun a o e => ?_, fun a z => ?_, fun j t x h1 h2 => ?_, s.b0, s.bf, fun a z => kn a (s.bn a z), fun a o z nd => ?_, fun a z q => ?_⟩
  · by_cases z : A' a
    · rw [(hA a z).2.1] at e; cases e
    · rw [p2 a z, s.fz a o e]; split <;> rfl
  · by_cases q : A' a
    · exact (hA a q).2.2
    · rw [p2 a q] at z
      exact kn a (s.al a fun e => z (by rw [e]; split <;> rfl))
  · by_cases hj : j = i
    · subst hj
      have l1 : j < G.length := (List.getElem?_eq_some_iff.mp hi).1
      rw [List.getElem?_set_self l1] at h1
      rw [hv] at h2
      cases h1; cases h2
      refine ⟨v, rfl, ?_⟩
      rw [show (fun a => own' a = j + 1) = A' from funext fun a => propext (pe a)]
      exact hr
    · rw [List.getElem?_set_ne (Ne.symm hj)] at h1
      exact (s.sl j t x h1 h2).go (Same.refl _) (fun a o q1 q2 => k a o q2 (by omega)) fun a => pj j a hj
  · refine k a o (s.bh a o z nd) fun e => ?_
    have q := s.bd a (by omega) (by rw [z]; simp)
    exact nd _ q
  · by_cases e : A' a
    · rw [p1 a e]
      rcases (hA a e).1 with q2 | ⟨_, q2⟩
      · have := s.bd a (by omega) q
        rw [q2] at this
        exact this
      · exact absurd q2 q
    · rw [p2 a e] at z ⊢
      by_cases e2 : own a = i + 1
      · rw [if_pos e2] at z; exact absurd rfl z
      · rw [if_neg e2] at z ⊢
        exact s.bd a z q
theorem Sat.offF (s : Sat B G F σ H own) {a : Ad} {j : Nat} (h : own a = j + 1) : F a = none := by
  cases z : F a with
  | none => rfl
  | some u => have := s.fz a u z; omega
/-! ### the thing -/
def plF (q r : Ad) (b : Bool) : List (Str × V) := [("states", .ref q), ("standing", .ref r), ("applying", .bl b)]
def plR (n : Nat) (b : Bool) (sts eds : List PyData) (q r p : Ad) : Res K where
  holds := fun F v H A => v = .ref p ∧ A p ∧ ∃ (C dx : Ad) (vs ws : List V), A dx ∧ p ≠ dx ∧ PySem.W.nsIn K mainGlobals "Plan" = some (some (.ref C)) ∧ H p = some (.ins C dx ((plF q r b).take n)) ∧ H dx = some (.own p) ∧
    (1 ≤ n → A q ∧ H q = some (.lst vs) ∧ DpAll K F vs sts ∧ sts.length ≤ 100000) ∧ (2 ≤ n → A r ∧ q ≠ r ∧ H r = some (.lst ws) ∧ DpAll K F ws eds ∧ eds.length ≤ 100000)
  mono := fun s k h => by
    obtain ⟨e, ap, C, dx, vs, ws, ad, ne, hc, hp, hd, h1, h2⟩ := h
    refine ⟨e, ap, C, dx, vs, ws, ad, ne, hc, k _ _ ap hp, k _ _ ad hd, fun l => ?_, fun l => ?_⟩
    · obtain ⟨a, b, c, d⟩ := h1 l
      exact ⟨a, k _ _ a b, dpa_up s _ _ c, d⟩
    · obtain ⟨a, z, b, c, d⟩ := h2 l
      exact ⟨a, z, k _ _ a b, dpa_up s _ _ c, d⟩
variable {E : JE K} {t ta : TE} {i : Nat} {sts eds ds : List PyData} {p q r : Ad} {b : Bool} {n : Nat}
theorem pl_put (s : Sat B G F σ H own) {sts' eds' : List PyData} {b' : Bool} {q0 r0 : Ad} (hi : G[i]? = some (.ow (plR n b sts eds q0 r0 p))) (hv : σ[i]? = some (some (.ref p))) {C dx : Ad} {vs ws : List V} (op : own p = i + 1) (od : own dx = i + 1)
    (oq : own q = i + 1 ∨ own q = 0 ∧ F q = none ∧ B.H0 q = none) (or : own r = i + 1 ∨ own r = 0 ∧ F r = none ∧ B.H0 r = none) (pd : p ≠ dx) (qr : q ≠ r) (hc : PySem.W.nsIn K mainGlobals "Plan" = some (some (.ref C)))
    (h' : ∀ a o, H a = some o → own a ≠ i + 1 → H' a = some o) (hn : ∀ a, H a ≠ none → H' a ≠ none) (hp : H' p = some (.ins C dx (plF q r b'))) (hd : H' dx = some (.own p)) (hq : H' q = some (.lst vs)) (hr : H' r = some (.lst ws))
    (d1 : DpAll K F vs sts') (d2 : DpAll K F ws eds') (l1 : sts'.length ≤ 100000) (l2 : eds'.length ≤ 100000) : ∃ own', Sat B (G.set i (.ow (plR 3 b' sts' eds' q r p))) F σ H' own' := by
  refine s.grow (A' := fun a => a = p ∨ a = dx ∨ a = q ∨ a = r) hi hv (fun a o e => h' a o (s.fh a o e) fun z => by have := s.fz a o e; omega) h' hn (fun a z => ?_)
    ⟨rfl, .inl rfl, C, dx, vs, ws, .inr (.inl rfl), pd, hc, hp, hd, fun _ => ⟨.inr (.inr (.inl rfl)), hq, d1, l1⟩, fun _ => ⟨.inr (.inr (.inr rfl)), qr, hr, d2, l2⟩⟩
  rcases z with z | z | z | z
  · rw [z]; exact ⟨.inl op, s.offF op, by rw [hp]; simp⟩
  · rw [z]; exact ⟨.inl od, s.offF od, by rw [hd]; simp⟩
  · rw [z]
    refine ⟨oq.elim .inl fun x => .inr ⟨x.1, x.2.2⟩, oq.elim (fun x => s.offF x) fun x => x.2.1, by rw [hq]; simp⟩
  · rw [z]
    refine ⟨or.elim .inl fun x => .inr ⟨x.1, x.2.2⟩, or.elim (fun x => s.offF x) fun x => x.2.1, by rw [hr]; simp⟩
end
end Fz

set_option Elab.async false
set_option linter.all false
set_option maxRecDepth 100000
set_option maxHeartbeats 4000000
/-! part Pm: what is done with such a thing -/
namespace Fz
open PySem PySem.Spec PyProof.Rows L2
section
variable {K : Fg} {G : Ctx K} {E : JE K} {t ta te : TE} {i : Nat} {sts eds ds : List PyData} {d : PyData} {p q r C0 : Ad} {b : Bool}
theorem upd_keep {own : Ad → Nat} {H : Hp} {a q : Ad} {o u : HO} {n : Nat} (oq : own q = n) (e : H a = some o) (w : own a ≠ n) : upd H q u a = some o := by
  by_cases z : a = q
  · rw [z] at w; exact absurd oq w
  · rw [upd_ne z]; exact e
theorem upd_some {H : Hp} {a q : Ad} {u : HO} (e : H a ≠ none) : upd H q u a ≠ none := by
  by_cases w : a = q
  · rw [w, upd_same]; simp
  · rw [upd_ne w]; exact e
/-- what is known of the class -/
structure PlC (K : Fg) (C : Ad) : Prop where
  ns : PySem.W.nsIn K mainGlobals "Plan" = some (some (.ref C))
  cl : Cls K C
  n1 : NoAttr K C "states"
  n2 : NoAttr K C "standing"
  n3 : NoAttr K C "applying"
end
end Fz

set_option Elab.async false
set_option linter.all false
set_option maxRecDepth 100000
set_option maxHeartbeats 4000000
/-! part Pn: making such a thing; a walk over its list; promises of its methods -/
namespace Fz
open PySem PySem.Spec PyProof.Rows L2
section
variable {K : Fg} {G : Ctx K} {vs : List Nat} {g : TG}
end
section
variable {K : Fg} {G : Ctx K} {E : JE K} {t ta te tv : TE} {i : Nat} {sts eds ds : List PyData} {d : PyData} {p q r q0 r0 C0 : Ad} {b b0 : Bool}
/-! ### making -/
theorem sj_plS0 (T : PlC K C0) (hi : G[i]? = some (.ow (plR 0 b0 sts eds q r p))) (h : EL K tv G ds) (x : ∀ l, E.nx (G.set i (.ow (plR 1 b0 ds eds l r p)))) : SJ K (sFld K (tVar i) tv "states") G E := fun B F σ H own D dk s m =>
  h B F σ H own _ s fun l vs F1 H1 own1 s1 ol nl bl hl hv hz f1 => by
    obtain ⟨y, hy, v, rfl, e, op, C, dx, _, _, od, pd, hc, hp, hd, _, _⟩ := s1.slot hi
    subst e
    cases hc.symm.trans T.ns
    refine ⟨.ref p, hy, p, C0, dx, [], rfl, hp, T.cl, T.n1, by decide, ?_⟩
    have lp : l ≠ p := fun z => by rw [z] at ol; omega
    have ld : l ≠ dx := fun z => by rw [z] at ol; omega
    obtain ⟨own2, s2⟩ := s1.grow (r' := plR 1 b0 ds eds l r p) (A' := fun a => a = p ∨ a = dx ∨ a = l) (H' := upd H1 p (.ins C0 dx (putF "states" (.ref l) []))) hi hy (fun a o e => upd_keep op (s1.fh a o e) (by rw [s1.fz a o e]; omega)) (fun a o e w => upd_keep op e w) (fun a e => upd_some e) (fun a z => by
        rcases z with z | z | z
        · rw [z]; exact ⟨.inl op, s1.offF op, by rw [upd_same]; simp⟩
        · rw [z]; exact ⟨.inl od, s1.offF od, upd_some (by rw [hd]; simp)⟩
        · rw [z]; exact ⟨.inr ⟨ol, bl⟩, nl, upd_some (by rw [hl]; simp)⟩)
      ⟨rfl, .inl rfl, C0, dx, vs, [], .inr (.inl rfl), pd, T.ns, upd_same, by rw [upd_ne (Ne.symm pd)]; exact hd, fun _ => ⟨.inr (.inr rfl), by rw [upd_ne lp]; exact hl, hv, hz⟩, fun z => absurd z (by decide)⟩
    exact m.nx _ F1 σ _ own2 (x l) s2 f1
theorem sj_plS1 (T : PlC K C0) (hi : G[i]? = some (.ow (plR 1 b0 sts eds q r p))) (h : EL K tv G ds) (x : ∀ l, E.nx (G.set i (.ow (plR 2 b0 sts ds q l p)))) : SJ K (sFld K (tVar i) tv "standing") G E := fun B F σ H own D dk s m =>
  h B F σ H own _ s fun l vs F1 H1 own1 s1 ol nl bl hl hv hz f1 => by
    obtain ⟨y, hy, v, rfl, e, op, C, dx, us, _, od, pd, hc, hp, hd, hs, _⟩ := s1.slot hi
    subst e
    cases hc.symm.trans T.ns
    obtain ⟨oq, hq, d1, l1⟩ := hs (by decide)
    refine ⟨.ref p, hy, p, C0, dx, (plF q r b0).take 1, rfl, hp, T.cl, T.n2, (by decide : 1 < 1000), ?_⟩
    have lp : l ≠ p := fun z => by rw [z] at ol; omega
    have lq : q ≠ l := fun z => by rw [← z] at ol; omega
    have pq : q ≠ p := fun e => by rw [e, hp] at hq; cases hq
    obtain ⟨own2, s2⟩ := s1.grow (r' := plR 2 b0 sts ds q l p) (A' := fun a => a = p ∨ a = dx ∨ a = l ∨ a = q) (H' := upd H1 p (.ins C0 dx (putF "standing" (.ref l) ((plF q r b0).take 1)))) hi hy (fun a o e => upd_keep op (s1.fh a o e) (by rw [s1.fz a o e]; omega)) (fun a o e w => upd_keep op e w) (fun a e => upd_some e) (fun a z => by
        rcases z with z | z | z | z
        · rw [z]; exact ⟨.inl op, s1.offF op, by rw [upd_same]; simp⟩
        · rw [z]; exact ⟨.inl od, s1.offF od, upd_some (by rw [hd]; simp)⟩
        · rw [z]; exact ⟨.inr ⟨ol, bl⟩, nl, upd_some (by rw [hl]; simp)⟩
        · rw [z]; exact ⟨.inl oq, s1.offF oq, upd_some (by rw [hq]; simp)⟩)
      ⟨rfl, .inl rfl, C0, dx, us, vs, .inr (.inl rfl), pd, T.ns, upd_same, by rw [upd_ne (Ne.symm pd)]; exact hd, fun _ => ⟨.inr (.inr (.inr rfl)), by rw [upd_ne pq]; exact hq, d1, l1⟩, fun _ => ⟨.inr (.inr (.inl rfl)), lq, by rw [upd_ne lp]; exact hl, hv, hz⟩⟩
    exact m.nx _ F1 σ _ own2 (x l) s2 f1
theorem sj_plS2 {n : Nat} (hn : n = 2 ∨ n = 3) (T : PlC K C0) (hi : G[i]? = some (.ow (plR n b0 sts eds q r p))) (h : EV K tv G (.bool b)) (x : E.nx (G.set i (.ow (plR 3 b sts eds q r p)))) : SJ K (sFld K (tVar i) tv "applying") G E := fun B F σ H own D dk s m =>
  h B F σ H own _ s fun v0 F1 H1 own1 s1 hv f1 => by
    cases dp_bl hv
    obtain ⟨y, hy, v, rfl, e, op, C, dx, us, ws, od, pd, hc, hp, hd, h1, h2⟩ := s1.slot hi
    subst e
    cases hc.symm.trans T.ns
    obtain ⟨oq, hq, d1, l1⟩ := h1 (by omega)
    obtain ⟨or, qr, hr, d2, l2⟩ := h2 (by omega)
    refine ⟨.ref p, hy, p, C0, dx, (plF q r b0).take n, rfl, hp, T.cl, T.n3, ?_, ?_⟩
    · rw [List.length_take]
      show min n 3 < 1000
      omega
    have pq : q ≠ p := fun e => by rw [e, hp] at hq; cases hq
    have pr : r ≠ p := fun e => by rw [e, hp] at hr; cases hr
    have ef : putF "applying" (.bl b) ((plF q r b0).take n) = plF q r b := by rcases hn with e | e <;> rw [e] <;> rfl
    obtain ⟨own2, s2⟩ := pl_put (b' := b) s1 hi hy (H' := upd H1 p (.ins C0 dx (putF "applying" (.bl b) ((plF q r b0).take n)))) op od (.inl oq) (.inl or) pd qr T.ns (fun a o e w => upd_keep op e w) (fun a e => upd_some e) (by rw [upd_same, ef]) (by rw [upd_ne (Ne.symm pd)]; exact hd) (by rw [upd_ne pq]; exact hq) (by rw [upd_ne pr]; exact hr) d1 d2 l1 l2
    exact m.nx _ F1 σ _ own2 x s2 f1
end
end Fz

set_option Elab.async false
set_option linter.all false
set_option maxRecDepth 100000
set_option maxHeartbeats 4000000
/-! part Po: promises of the methods of such a thing, and of defs that are handed one -/
namespace Fz
open PySem PySem.Spec PyProof.Rows L2
/-- the states (two tuples of pairs each), the edits, whether a batch is under way -/
abbrev PlS := List (List (Int × Int) × List (Int × Int)) × List (Str × Int × Int) × Bool
abbrev eSS : List (Int × Int) × List (Int × Int) → PyData := eT2 (eSq eP) (eSq eP)
abbrev eEd : Str × Int × Int → PyData := eT2 eS eP
section
variable {K : Fg} {α : Type} {G : Ctx K} {En : JE K} {E : XK} {ta : TA} {i : Nat} {ds des : List PyData} {dvs : List V} {s s' : PlS} {p q r C C0 : Ad} {m : Str}
  {args : α → List PyData} {pre : PlS → α → Prop} {f : PlS → α → PyData} {g : PlS → α → PlS} {Pj : PyData → Ctx K → Prop}
abbrev plT (s : PlS) (q r p : Ad) : Res K := plR 3 s.2.2 (s.1.map eSS) (s.2.1.map eEd) q r p
/-- __init__ -/
abbrev spMk (K : Fg) (args : α → List PyData) (pre : α → Prop) (s0 : α → PlS) : Sp :=
  spR K (fun (_ : α) p => plR 0 false [] [] p p p) args pre (fun x d R' => d = .none ∧ ∃ q r, R' = fun p => plT (s0 x) q r p)
end
end Fz

set_option Elab.async false
set_option linter.all false
set_option maxRecDepth 100000
set_option maxHeartbeats 4000000
/-! part Pq: len, str and == by own methods; texts -/
namespace Fz
open PySem PySem.Spec PyProof.Rows L2
theorem in1_guards {A : Around} (h : A.guards = some []) : A.in1.guards = some [] := h
theorem in1_frames (A : Around) : A.in1.frames = A.frames := rfl
section
variable {X : Cx} {CX : CXT} {k : Nat} {f C : Ad} {fd : FuncData} {ps : List Str} {sp : Sp} {E : XK}
theorem env0_in1 {pins : List (Addr × Obj)} {σ : L2.St} {H : Hp} {s : Shared} (I : Inv X pins σ H s) : Env0 X.prog X.w X.K X.mg X.base X.A.in1 X.stack s H := by
  have e := I.env0
  exact ⟨by rw [in1_frames]; exact e.frames, e.mod, e.bs, e.bsz, e.funs, e.frf, e.hok, e.bare⟩
/-- a def called from inside a built-in -/
theorem run1 {A : Around} {pins : List (Addr × Obj)} {σ : L2.St} {H : Hp} {s : Shared} {Q : VK} {us : List Value} {vs : List V}
    (F : FnG X.prog X.w X.K X.mg X.base CX k f fd ps sp) (hr : Room k A) (hg : A.guards = some []) (e0 : Env0 X.prog X.w X.K X.mg X.base A X.stack s H) (hb : Binds X.K fd ps []) (hx : Passes CX X E) (I : Inv X pins σ H s)
    (r : Vals vs us) (h : sp vs H Q E) : wpAny (model X.prog X.w) A (call (.ref f) us) (EP X pins σ Q) X.xe s := by
  have le : us.length = ps.length := r.length.symm.trans (F.len _ _ _ _ h)
  have b := hb s us I.kIn (by rw [List.append_nil]; exact le)
  rw [List.append_nil] at b
  refine wpAny_call (codeAny_mono (F.run A X.stack s H ⟨us, []⟩ us vs Q E hr hg e0 b r h) ?_)
  intro r s' hq
  match r, hq with
  | .error e, hq => exact hx pins σ H s e s' I hq
  | .ok (.ret u), hq => exact I.after hq
  | .ok .next, hq => exact hq.elim
  | .ok .brk, hq => exact hq.elim
  | .ok .cont, hq => exact hq.elim
theorem inst_of {pins : List (Addr × Obj)} {σ : L2.St} {H : Hp} {s : Shared} {a dx : Ad} {fs : List (Str × V)} (I : Inv X pins σ H s) (h : H a = some (.ins C dx fs)) : ∃ ox od, PySem.W.InstAt s.heap a ox C od ∧ ox.data = .plain := by
  obtain ⟨mA, J, _⟩ := ins_get I.hok h
  obtain ⟨od, J, _⟩ := J.look
  exact ⟨_, _, J, rfl⟩
def rLenO (C : Ad) (sp : Sp) (E : XK) : List V → Hp → VK → Prop := fun xs H Q => ∃ a dx fs, xs = [.ref a] ∧ H a = some (.ins C dx fs) ∧ sp [.ref a] H (fun v H' => ∃ n : Int, v = .int n ∧ 0 ≤ n ∧ n < 2 ^ 63 ∧ Q (.int n) H') E
/-- len(x), x of a class with its own __len__ -/
theorem cr_lenO (hm : Meth X.K C "__len__" f) (F : FnG X.prog X.w X.K X.mg X.base CX k f fd ps sp) (hr : Room (k + 1) X.A) (hgd : X.A.guards = some []) (hb : Binds X.K fd ps []) (hx : Passes CX X E) : CallR X (.builtin "len") (rLenO C sp E) := by
  intro pins s σ H xs us Q I r h
  obtain ⟨a, dx, fs, rfl, ha, q⟩ := h
  obtain ⟨u, rfl, ru⟩ := vals1 r
  cases ru
  obtain ⟨ox, od, J, hpl⟩ := inst_of I ha
  refine Calls.call_function_entry kind_len plain_len entry_len (args_len1 _) ?_
  unfold Builtin.«len»
  refine wpAny_bind (m := oneArg "len" _) (wpAny_pure ?_)
  have go := run1 (us := [.ref a]) (vs := [.ref a]) F hr.in1 (in1_guards hgd) (env0_in1 I) hb hx I (.cons rfl .nil) q
  refine wpAny_bind (m := callSpecial? (.ref a) (Str.ofString "__len__")) (PySem.W.special_fn I.kIn J hm.at_ (beq_iff_eq.mp hm.fn) (wpAny_mono go (fun r s' hr => ?_) fun _ _ y => y))
  obtain ⟨v, H', I', rv, n, rfl, h0, h1, hq⟩ := hr
  obtain ⟨t, rfl⟩ := rv
  refine wpAny_bind (wpAny_holding (wpAny_pure ?_))
  refine wpAny_bind (wpAny_letGo ?_)
  show wpAny _ _ (if n < 0 then _ else _) _ _ _
  rw [if_neg (by omega)]
  show wpAny _ _ (if n ≥ 2 ^ 63 then _ else _) _ _ _
  rw [if_neg (by omega)]
  exact wpAny_bind (wpAny_mkInt (wpAny_pure ⟨_, rfl, .int n, H', I'.tok _, ⟨_, rfl⟩, hq⟩))
def rEqO (C : Ad) (sp : Sp) (E : XK) : R2 := fun x y H Q => ∃ a b dx dy fs gs, x = .ref a ∧ y = .ref b ∧ H a = some (.ins C dx fs) ∧ H b = some (.ins C dy gs) ∧ sp [.ref a, .ref b] H (fun v H' => ∃ c : Bool, v = .bl c ∧ Q (.bl c) H') E
/-- x == y by an own __eq__ -/
theorem op_eqO (hm : Meth X.K C "__eq__" f) (F : FnG X.prog X.w X.K X.mg X.base CX k f fd ps sp) (hr : Room k X.A) (hgd : X.A.guards = some []) (hb : Binds X.K fd ps []) (hx : Passes CX X E) : OpR X (compareOp .Eq) (rEqO C sp E) := by
  intro pins s σ H x y v u Q I rx ry h
  obtain ⟨a, b, dx, dy, fs, gs, rfl, rfl, ha, hb', q⟩ := h
  cases rx
  cases ry
  show wpAny (model X.prog X.w) X.A (richCompare .Eq (.ref a) (.ref b)) (EP X pins σ Q) X.xe s
  obtain ⟨mA, J, _⟩ := ins_get I.hok ha
  obtain ⟨mB, J', _⟩ := ins_get I.hok hb'
  obtain ⟨od, J, _⟩ := J.look
  obtain ⟨od', J', _⟩ := J'.look
  obtain ⟨m, hF⟩ := I.fr
  have go := run1 (us := [.ref a, .ref b]) (vs := [.ref a, .ref b]) F hr hgd I.env0 hb hx I (.cons rfl (.cons rfl .nil)) q
  refine PySem.W.cmp_K (op := .Eq) (tb := .ref C) hr.units0 hF I.ok.mod.kin J J'.type (by simp [PySem.W.notFirst]) hm.at_ hm.fn (wpAny_mono go (fun r s' hr => ?_) fun _ _ y => y)
  obtain ⟨v, H', I', rv, c, rfl, hq⟩ := hr
  cases rv
  exact ⟨.bl c, H', I', rfl, hq⟩
end
end Fz

set_option Elab.async false
set_option linter.all false
set_option maxRecDepth 100000
set_option maxHeartbeats 4000000
/-! part Tx: texts made: str(i), join, f-strings -/
namespace Fz
open PySem PySem.Spec PyProof.Rows L2
abbrev sI (i : Int) : PySem.Str := PySem.Str.ofString (toString i)
section
variable {K : Fg} {G : Ctx K}
abbrev rStrI : List V → Hp → VK → Prop := fun xs H Q => ∃ i, xs = [.int i] ∧ i.natAbs.log2 < 1920 ∧ Q (.str (toString i)) H
theorem rdl_strI {i : Int} (h : Rp' i) : RDL K rStrI [.int i] (.str (sI i)) := rdl_val fun F H vs Q s h1 k => by
  obtain ⟨v, ws, rfl, hv, hw⟩ := dpa_cons h1
  cases dpa_nil hw
  cases dp_int hv
  exact ⟨i, rfl, log_lt h, k _ (.str _)⟩
theorem dpa_strs {F : Hp} : ∀ {l : List PySem.Str} {vs : List V}, DpAll K F vs (l.map PyData.str) → vs = l.map V.str
  | [], vs, h => dpa_nil h
  | n :: ns, vs, h => by
    obtain ⟨v, ws, rfl, h1, h2⟩ := dpa_cons h
    rw [dp_str h1, dpa_strs h2]
    rfl
abbrev rJoin (K : Fg) : V → List V → Hp → VK → Prop := fun x xs H Q => ∃ a p, ∃ ys : List PySem.Str, x = .str a ∧ xs = [.ref p] ∧ (SqL K H p (ys.map V.str) ∨ SqT K H p (ys.map V.str)) ∧
  (ys.map (·.length)).sum + ys.length * a.length ≤ 16777216 ∧ Q (.str (Txt.join a ys)) H
/-- a.join(a list of texts) -/
theorem ev_join {to te : TE} {a : PySem.Str} {ys : List PySem.Str} (ho : EV K to G (.str a)) (he : EV K te G (.list (ys.map .str))) (hz : (ys.map (·.length)).sum + ys.length * a.length ≤ 16777216) :
    EV K (tM1 (rJoin K) to te) G (.str (Txt.join a ys)) := fun B F σ H own Q s k =>
  ho B F σ H own _ s fun x F1 H1 own1 s1 h1 f1 => ⟨⟨a, dp_str h1⟩, he B F1 σ H1 own1 _ s1 fun y F2 H2 own2 s2 h2 f2 => by
    cases dp_str h1
    obtain ⟨p, vs, rfl, hq, hd⟩ := dp_lst h2
    rw [dpa_strs hd] at hq
    exact ⟨a, p, ys, rfl, rfl, .inl (s2.fh.seq hq), hz, k _ F2 H2 own2 s2 (.str _) (f1.trans f2)⟩⟩
theorem str_ext {a b : PySem.Str} (h : a.cps.toList = b.cps.toList) : a = b := by
  obtain ⟨a⟩ := a
  obtain ⟨b⟩ := b
  congr 1
  exact Array.toList_inj.mp h
theorem str_app (a b : PySem.Str) : (a ++ b).cps.toList = a.cps.toList ++ b.cps.toList := by
  show (Str.append a b).cps.toList = _
  simp [Str.append]
theorem str_alen (a b : PySem.Str) : (a ++ b).length = a.length + b.length := by
  show (a ++ b).cps.size = a.cps.size + b.cps.size
  rw [← Array.length_toList, str_app, List.length_append, Array.length_toList, Array.length_toList]
theorem join_1 (y x : PySem.Str) : Txt.join y [x] = x := by rw [TL.join_eq]; rfl
theorem join_2 (y x z : PySem.Str) (r : List PySem.Str) : Txt.join y (x :: z :: r) = x ++ y ++ Txt.join y (z :: r) := by rw [TL.join_eq, TL.join_eq]; rfl
theorem join_0 (y : PySem.Str) : Txt.join y [] = PySem.Str.empty := by rw [TL.join_eq]; rfl
end
end Fz

set_option Elab.async false
set_option linter.all false
set_option maxRecDepth 100000
set_option maxHeartbeats 4000000
/-! part Pr: promises of methods by mirrors; len, str, == of such a thing -/
namespace Fz
open PySem PySem.Spec PyProof.Rows L2
theorem plC {K : Fg} {mg : Str → Option Value} {C : Ad} (T : ObT K mg "Plan" C ["states", "standing", "applying"]) : PlC K C := ⟨T.ns, T.cl, T.nf (by decide +kernel), T.nf (by decide +kernel), T.nf (by decide +kernel)⟩
section
variable {K : Fg} {α β : Type} {G : Ctx K} {E : XK} {i j : Nat} {s s' : PlS} {p q r p' q' r' C0 : Ad} {En : JE K}
  {args : α → List PyData} {pre : PlS → α → Prop} {f : PlS → α → β} {g : PlS → α → PlS} {en : β → PyData}
abbrev spMkW (K : Fg) (args : α → List PyData) (M : α → (PlS → Prop) → Prop) : Sp :=
  spR K (fun (_ : α × (PlS → Prop)) p => plR 0 false [] [] p p p) (fun x => args x.1) (fun x => M x.1 x.2) (fun x d R' => d = .none ∧ ∃ s, x.2 s ∧ ∃ q r, R' = fun p => plT s q r p)
theorem spMkW_re {x : α × (PlS → Prop)} {d : PyData} {R' : Ad → Res K} {p : Ad} {F : Hp} {v : V} {H : Hp} {A : Ad → Prop} (h : d = .none ∧ ∃ s, x.2 s ∧ ∃ q r, R' = fun p => plT (K := K) s q r p) (hh : (R' p).holds F v H A) : v = .ref p := by
  obtain ⟨_, s, _, q, r, e⟩ := h
  rw [e] at hh
  exact hh.1
theorem imp_MkW {pre : α → Prop} {s0 : α → PlS} {M : α → (PlS → Prop) → Prop} (pf : ∀ a, pre a → M a fun s => s = s0 a) : ∀ vs H Q E, spMk K args pre s0 vs H Q E → spMkW K args M vs H Q E := by
  rintro vs H Q E ⟨a, F, p, ws, A, e, fh, fa, hR, hd, hp, k⟩
  refine ⟨(a, fun s => s = s0 a), F, p, ws, A, e, fh, fa, hR, hd, pf a hp, fun v d R' F' H' A' hr => ?_⟩
  obtain ⟨rfl, s, rfl, q, r, rfl⟩ := hr
  exact k v _ _ F' H' A' ⟨rfl, q, r, rfl⟩

end
end Fz

set_option Elab.async false
set_option linter.all false
set_option maxRecDepth 100000
set_option maxHeartbeats 4000000
/-! part Vw: own things looked at as data, for a while -/
namespace Fz
open PySem PySem.Spec PyProof.Rows L2
mutual
/-- data made of tuples alone -/
def tupO : PyData → Bool
  | .none => true
  | .bool _ => true
  | .int _ => true
  | .str _ => true
  | .tuple xs => tupOAll xs
  | .list _ => false
  | .dict _ => false
def tupOAll : List PyData → Bool
  | [] => true
  | x :: xs => tupO x && tupOAll xs
end
def NoTup (o : Option HO) : Prop := (∀ xs, o ≠ some (.tup xs)) ∧ ∀ ob u, o ≠ some (.frz ob u)
section
variable {K : Fg} {G G' : Ctx K} {t : TE} {tA : TT} {d : PyData}
/-- a thing may be looked at as this data -/
def Vb (r : Res K) (d : PyData) : Prop := ∀ (F : Hp) (v : V) (H : Hp) (A : Ad → Prop), r.holds F v H A → ∀ F1 : Hp, Same F F1 → (∀ a o, A a → H a = some o → NoTup (some o) → F1 a = some o) → Dp K F1 v d
theorem nt_lst {xs : List V} : NoTup (some (.lst xs)) := ⟨fun _ h => (nomatch h), fun _ _ h => (nomatch h)⟩
theorem nt_ins {C dx : Ad} {fs : List (Str × V)} : NoTup (some (.ins C dx fs)) := ⟨fun _ h => (nomatch h), fun _ _ h => (nomatch h)⟩
theorem nt_own {a : Ad} : NoTup (some (.own a)) := ⟨fun _ h => (nomatch h), fun _ _ h => (nomatch h)⟩
theorem vb_pl {b : Bool} {sts eds : List PyData} {q r p : Ad} : Vb (plR (K := K) 3 b sts eds q r p) (obL "Plan" ["states", "standing", "applying"] [.list sts, .list eds, .bool b]) := fun F v H A h F1 f g => by
  obtain ⟨e, ap, C, dx, vs, ws, ad, ne, hc, hp, hd, h1, h2⟩ := h
  obtain ⟨aq, hq, d1, l1⟩ := h1 (by decide)
  obtain ⟨ar, qr, hr, d2, l2⟩ := h2 (by decide)
  subst e
  exact Dp.ob (fs := plF q r b) hc (g _ _ ap hp nt_ins) (g _ _ ad hd nt_own) (.cons (.lst (SqL.of (g _ _ aq hq nt_lst)) (dpa_up f _ _ d1) l1) (.cons (.lst (SqL.of (g _ _ ar hr nt_lst)) (dpa_up f _ _ d2) l2) (.cons (.bl b) .nil)))
inductive Vw : Ctx K → Ctx K → Prop where
  | nil : Vw [] []
  | da {d : PyData} {G G' : Ctx K} : Vw G G' → Vw (.da d :: G) (.da d :: G')
  | un {s : Sl K} {G G' : Ctx K} : Vw G G' → Vw (s :: G) (.un :: G')
  | ow {r : Res K} {d : PyData} {G G' : Ctx K} : Vb r d → Vw G G' → Vw (.ow r :: G) (.da d :: G')
theorem Vw.len : ∀ {G G' : Ctx K}, Vw G G' → G.length = G'.length
  | _, _, .nil => rfl
  | _, _, .da h => by rw [List.length_cons, List.length_cons, Vw.len h]
  | _, _, .un h => by rw [List.length_cons, List.length_cons, Vw.len h]
  | _, _, .ow _ h => by rw [List.length_cons, List.length_cons, Vw.len h]
theorem Vw.get : ∀ {G G' : Ctx K}, Vw G G' → ∀ (i : Nat) (s : Sl K), G'[i]? = some s → s = .un ∨ (∃ d, s = .da d ∧ G[i]? = some (.da d)) ∨ ∃ d r, s = .da d ∧ G[i]? = some (.ow r) ∧ Vb r d
  | _, _, .nil, _, _, e => by simp at e
  | _, _, .da _, 0, _, e => .inr (.inl ⟨_, by simpa using e.symm, rfl⟩)
  | _, _, .un _, 0, _, e => .inl (by simpa using e.symm)
  | _, _, .ow h _, 0, _, e => .inr (.inr ⟨_, _, by simpa using e.symm, rfl, h⟩)
  | _, _, .da h, i + 1, s, e => by simpa using Vw.get h i s (by simpa using e)
  | _, _, .un h, i + 1, s, e => by simpa using Vw.get h i s (by simpa using e)
  | _, _, .ow _ h, i + 1, s, e => by simpa using Vw.get h i s (by simpa using e)
/-! ### encodings made of tuples alone -/
def TO {α : Type} (f : α → PyData) : Prop := ∀ x, tupO (f x) = true
section
variable {α β γ δ : Type} {f : α → PyData} {g : β → PyData} {h : γ → PyData} {i : δ → PyData}
end

/-! ### len, str, == of an object -/
variable {ι : Type} {args : ι → List PyData} {pre : ι → Prop} {r : ι → PyData} {E : XK} {cn : Str} {ns ms : List Str} {ds es : List PyData} {C : Ad} {ta tb : TE}
theorem ev_lenOb (a : ι) (h : EV K ta G (obL cn ns ds)) (hC : PySem.W.nsIn K mainGlobals cn = some (some (.ref C))) (hx : args a = [obL cn ns ds]) (hp : pre a) {n : Int} (hr : r a = .int n) (h0 : 0 ≤ n) (h1 : n < 2 ^ 63) :
    EV K (tCB (rLenO C (spP K args pre fun x d => d = r x) E) (tCons ta tNil)) G (.int n) := fun B F σ H own Q s k =>
  h B F σ H own _ s fun v F1 H1 own1 s1 hd f1 => by
    obtain ⟨x, C', dx, fs, rfl, c1, c2, c3, c4, c5⟩ := dp_ob hd
    rw [hC] at c1
    cases c1
    refine ⟨x, dx, fs, rfl, s1.fh _ _ c2, a, F1, s1.fh, by rw [hx]; exact .cons hd .nil, hp, fun v d F2 H2 hres f2 fh hh g hv => ?_⟩
    subst hres
    rw [hr] at hv
    obtain ⟨own2, s2, _⟩ := s1.step f2 fh hh g
    exact ⟨n, dp_int hv, h0, h1, k _ F2 H2 own2 s2 (.int n) (f1.trans f2)⟩
theorem ev_eqOb (a : ι) (h : EV K ta G (obL cn ns ds)) (h' : EV K tb G (obL cn ms es)) (hC : PySem.W.nsIn K mainGlobals cn = some (some (.ref C))) (hx : args a = [obL cn ns ds, obL cn ms es]) (hp : pre a) {b : Bool} (hr : r a = .bool b) :
    EV K (tOp (rEqO C (spP K args pre fun x d => d = r x) E) ta tb) G (.bool b) := fun B F σ H own Q s k =>
  h B F σ H own _ s fun v F1 H1 own1 s1 hd f1 => h' B F1 σ H1 own1 _ s1 fun w F2 H2 own2 s2 hd' f2 => by
    have hd := dp_up f2 _ _ hd
    obtain ⟨x, C', dx, fs, e1, c1, c2, c3, c4, c5⟩ := dp_ob hd
    obtain ⟨y, C2, dy, gs, e2, k1, k2, k3, k4, k5⟩ := dp_ob hd'
    rw [hC] at c1 k1
    cases c1
    cases k1
    subst e1
    subst e2
    refine ⟨x, y, dx, dy, fs, gs, rfl, rfl, s2.fh _ _ c2, s2.fh _ _ k2, a, F2, s2.fh, by rw [hx]; exact .cons hd (.cons hd' .nil), hp, fun v d F3 H3 hres f3 fh hh g hv => ?_⟩
    subst hres
    rw [hr] at hv
    obtain ⟨own3, s3, _⟩ := s2.step f3 fh hh g
    exact ⟨b, dp_bl hv, k _ F3 H3 own3 s3 (.bl b) ((f1.trans f2).trans f3)⟩
end
end Fz

set_option Elab.async false
set_option linter.all false
set_option maxRecDepth 100000
set_option maxHeartbeats 4000000
/-! part Ps: what printed texts about plans lean on -/
namespace Fz
open PySem PySem.Spec PyProof.Rows L2
section
variable {α β : Type} {f : α → β} {xs : List α} {x : α}
end
/-- a short text -/
def WOk (x : PySem.Str) : Prop := (PyData.str x).shown.length ≤ 31 ∧ (PyData.str x).canLay0 = true
/-! == and in, where the shape must be asked of the values -/
section
variable {K : Fg} {α : Type} {f : α → PyData}
theorem rd_notInTupV (e : EqE f) {x : α} {ys : List α} {_ : Decidable (x ∈ ys)} (h1 : SeqAt.shaped (f x) = true) (h2 : SeqAt.shaped (eSq f ys) = true) : RD2 K (rInT K true) (f x) (eSq f ys) (.bool (!decide (x ∈ ys))) := rd2_val fun F H v w Q s a1 a2 k => by
  refine ⟨_, _, Dp.old _ _ (dp_up s _ _ a1) h1, Dp.old _ _ (dp_up s _ _ a2) h2, h1, h2, ?_⟩
  show Q (.bl (!(ys.map f).any fun z => PyData.eqv z (f x))) H
  rw [any_mem' e]
  exact k _ (.bl _)
end
/-- edits whose words are short texts -/
theorem shp_S {x : PySem.Str} (h : WOk x) : SeqAt.shaped (eS x) = true := by
  unfold SeqAt.shaped
  rw [show (eS x).canLay0 = true from h.2]; rfl
section
variable {K : Fg} {G : Ctx K}
theorem ev_isC {ta : TE} {cn : Str} {ns : List Str} {ds : List PyData} {C : Ad} (h : EV K ta G (obL cn ns ds)) (hC : PySem.W.nsIn K mainGlobals cn = some (some (.ref C))) :
    EV K (tCB (fun xs H Q => ∃ a dx fs, xs = [.ref a, .ref C] ∧ H a = some (.ins C dx fs) ∧ Q (.bl true) H) (tCons ta (tCons (tC (.ref C)) tNil))) G (.bool true) := fun B F σ H own Q s k =>
  h B F σ H own _ s fun v F' H' own' s' hd ff => by
    obtain ⟨a, C', dx, fs, rfl, h1, h2, h3, h4, h5⟩ := dp_ob hd
    rw [hC] at h1
    cases h1
    exact ⟨a, dx, fs, rfl, s'.fh _ _ h2, k _ F' H' own' s' (.bl true) ff⟩
end
section
variable {K : Fg} {G : Ctx K} {ι : Type}
/-- o.m(..), an own method over data, some of its parameters left out -/
theorem ev_methD {ta : TE} {t : TA} {cn m : Str} {ns : List Str} {os ds des : List PyData} {dvs : List V} {C : Ad} {args : ι → List PyData} {pre : ι → Prop} {r : ι → PyData} {E : XK} (x : ι) (h : EV K ta G (obL cn ns os)) (hC : PySem.W.nsIn K mainGlobals cn = some (some (.ref C))) (hm : m ∉ ns) (ha : EVA K t G ds) (hdv : ∀ F : Hp, DpAll K F dvs des) (hx : args x = obL cn ns os :: (ds ++ des)) (hp : pre x) :
    EV K (tMeth C m (spP K args pre fun x d => d = r x) dvs E ta t) G (r x) := fun B F σ H own Q s k =>
  h B F σ H own _ s fun v F1 H1 own1 s1 hd f1 => by
    obtain ⟨a, C', dx, fs, rfl, h1, h2, h3, h4, h5⟩ := dp_ob hd
    rw [hC] at h1
    cases h1
    refine ⟨a, dx, fs, rfl, s1.fh _ _ h2, lk_no (by rw [h4]; exact hm), ?_⟩
    · refine ha B F1 σ H1 own1 _ s1 fun vs F2 H2 own2 s2 hd2 f2 => ?_
      refine ⟨x, F2, s2.fh, ?_, hp, fun v d F3 H3 hr f3 fh hh g hv => ?_⟩
      · rw [hx]
        exact .cons (dp_up f2 _ _ hd) (dpa_app hd2 (hdv F2))
      · subst hr
        obtain ⟨own3, s3, _⟩ := s2.step f3 fh hh g
        exact k v F3 H3 own3 s3 hv ((f1.trans f2).trans f3)
end
/-- __init__ without defaults by its promise -/
def CalMk (P : Program) (w : World) (K : Fg) (mg : Str → Option Value) (base : Heap) (k : Nat) (C : Ad) (ps : List Str) (sp : Sp) : Prop :=
  ∃ (f : Ad) (fd : FuncData), FnG P w K mg base CX0 k f fd ps sp ∧ Mk K C f ∧ Binds K fd ps []
/-- a method whose last parameter, by keyword alone, is left out: None then -/
def CalK (P : Program) (w : World) (K : Fg) (mg : Str → Option Value) (base : Heap) (k : Nat) (C : Ad) (x : Str) (ps : List Str) (sp : Sp) : Prop :=
  ∃ (f : Ad) (fd : FuncData) (ds : List Value), FnG P w K mg base CX0 k f fd ps sp ∧ Meth K C x f ∧ Binds K fd ps ds ∧ Vals [V.non] ds
section
variable {K : Fg} {ι : Type} {P : Program} {w : World} {mg : Str → Option Value} {base : Heap} {k : Nat} {f : Ad} {fd : FuncData} {ps N : List Str} {x qual : Str} {params : Arguments} {body : List Stmt} {scope : Scope} {dvs : List V} {kws : List (Str × V)}
  {args : ι → List PyData} {pre : ι → Prop} {res : ι → PyData → Prop}
/-- a def with defaults over data, by its body -/
theorem okPD (F : FunD K x qual params body scope dvs kws f fd) (S : FnScope N ps scope) (hl : ∀ x, (args x).length = ps.length)
    (hb : ∀ (cdv : Value) (A : Around) (outer : List Env) (s : Shared) (H : Hp) (E : XK), Room k (A.deeper (envOfC qual scope s.heap.objs.size f cdv)) → A.guards = some [] →
      ∃ t, PSs (cxOf CX0 P w K mg base N qual scope f cdv A outer s H E).nox body t ∧
        ∀ x, pre x → SJ K t ((args x).map .da ++ List.replicate (N.length - ps.length) .un) ⟨fun _ => res x .none, fun d _ => res x d, fun _ => False, fun _ => False⟩) :
    FnG P w K mg base CX0 (k + 1) f fd ps (spP K args pre res) := by
  refine okGD F S (fun vs H Q E h => ?_) (fun cdv A outer s H vs Q E hr hg h => ?_)
  · obtain ⟨x, F0, _, hd, _⟩ := h
    rw [dpa_len hd, hl]
  · obtain ⟨x, F0, f0, hd, hp, q⟩ := h
    obtain ⟨t, ht, hs⟩ := hb cdv A outer s H E hr hg
    refine ⟨t, ht, ?_⟩
    have lv : vs.length = ps.length := by rw [dpa_len hd, hl]
    have le := scope_le S
    have s0 : Sat (K := K) ⟨F0, H, fun _ _ => False⟩ ((args x).map .da ++ List.replicate (N.length - ps.length) .un) F0 (start N vs) H (fun _ => 0) := by
      refine ⟨?_, f0, fun _ _ _ => rfl, fun a z => absurd rfl z, fun i t y h1 h2 => ?_, Same.refl _, fun a o e => .inl e, fun a z => z, fun a o z _ => z, fun a z _ => absurd rfl z⟩
      · rw [start_len (by omega), List.length_append, List.length_map, List.length_replicate, hl]; omega
      · rcases get_app_un h1 with z | ⟨hi, z⟩
        · subst z; trivial
        · rw [List.length_map] at hi
          rw [List.getElem?_map] at z
          have hi2 : i < vs.length := by rw [lv, ← hl x]; exact hi
          rw [start_get hi2] at h2
          cases e : (args x)[i]? with
          | none => rw [e] at z; cases z
          | some d =>
            rw [e] at z
            cases z
            obtain ⟨v, h3, h4⟩ := dpa_get hd e
            rw [h3] at h2
            cases h2
            exact ⟨v, rfl, h4⟩
    have fin : ∀ {d v G' F' σ' H' own'}, res x d → Sat (K := K) ⟨F0, H, fun _ _ => False⟩ G' F' σ' H' own' → Dp K F' v d → Q v H' := fun {d v G' F' σ' H' own'} r s' hv =>
      q v d F' H' r s'.b0 s'.fh (fun a o e => s'.bh a o e fun _ z => z) (fun a o e => s'.bf a o e) hv
    exact hs x hp ⟨F0, H, fun _ _ => False⟩ F0 (start N vs) H _ { nx := fun _ H' => Q .non H', rt := Q } (fun _ _ z => z.elim) s0 ⟨fun G' F' σ' H' own' r s' _ => fin r s' .non, fun d v G' F' σ' H' own' r s' hv _ => fin r s' hv, fun G' F' σ' H' own' r s' _ => r.elim, fun G' F' σ' H' own' r s' _ => r.elim⟩
end
end Fz

set_option Elab.async false
set_option linter.all false
set_option maxRecDepth 100000
set_option maxHeartbeats 1000000
/-! part Px: what edits do, in plain words -/
namespace Fz
open PySem PySem.Spec PyProof.Rows L2
abbrev Sta := List (Int × Int) × List (Int × Int)
abbrev Edt := PySem.Str × Int × Int
abbrev wAT : PySem.Str := PySem.Str.ofString "add_target"
abbrev wRT : PySem.Str := PySem.Str.ofString "remove_target"
abbrev wAP : PySem.Str := PySem.Str.ofString "add_piece"
abbrev wRP : PySem.Str := PySem.Str.ofString "remove_piece"
def rmvF (l : List (Int × Int)) (v : Int × Int) : List (Int × Int) := l.filter fun x => !(decide (x = v))
def insF (l : List (Int × Int)) (v : Int × Int) : List (Int × Int) := srtD (l ++ [v])
def edF (s : Sta) (e : Edt) : Sta :=
  if e.1 = wAT then (insF s.1 e.2, s.2) else if e.1 = wRT then (rmvF s.1 e.2, s.2) else if e.1 = wAP then (s.1, insF s.2 e.2) else (s.1, rmvF s.2 e.2)
def IvP (v : Int × Int) : Prop := 0 ≤ v.1 ∧ v.1 ≤ v.2 ∧ v.2 ≤ 1000000000000
instance (v : Int × Int) : Decidable (IvP v) := by unfold IvP; infer_instance
def Asc (l : List (Int × Int)) : Prop := l.Pairwise LtP ∧ ∀ z ∈ l, IvP z
def StP (s : Sta) : Prop := (Asc s.1 ∧ s.1.length ≤ 24) ∧ Asc s.2 ∧ s.2.length ≤ 30
/-- the edit can be done -/
def EdP (s : Sta) (e : Edt) : Prop := IvP e.2 ∧
  ((e.1 = wAT ∧ e.2 ∉ s.1 ∧ s.1.length < 24) ∨ (e.1 = wRT ∧ e.2 ∈ s.1) ∨ (e.1 = wAP ∧ e.2 ∉ s.2 ∧ s.2.length < 30) ∨ (e.1 = wRP ∧ e.2 ∈ s.2))
theorem ne_ATRT : wAT ≠ wRT := by decide +kernel
theorem ne_ATAP : wAT ≠ wAP := by decide +kernel
theorem ne_ATRP : wAT ≠ wRP := by decide +kernel
theorem ne_RTAP : wRT ≠ wAP := by decide +kernel
theorem ne_RTRP : wRT ≠ wRP := by decide +kernel
theorem ne_APRP : wAP ≠ wRP := by decide +kernel
theorem wok_AT : WOk wAT := ⟨by decide +kernel, by decide +kernel⟩
theorem wok_RT : WOk wRT := ⟨by decide +kernel, by decide +kernel⟩
theorem wok_AP : WOk wAP := ⟨by decide +kernel, by decide +kernel⟩
theorem wok_RP : WOk wRP := ⟨by decide +kernel, by decide +kernel⟩
theorem edF_AT (s : Sta) (v : Int × Int) : edF s (wAT, v) = (insF s.1 v, s.2) := if_pos rfl
theorem edF_RT (s : Sta) (v : Int × Int) : edF s (wRT, v) = (rmvF s.1 v, s.2) := by
  unfold edF
  rw [if_neg (show ¬ (wRT, v).1 = wAT from fun e => ne_ATRT e.symm), if_pos rfl]
theorem edF_AP (s : Sta) (v : Int × Int) : edF s (wAP, v) = (s.1, insF s.2 v) := by
  unfold edF
  rw [if_neg (show ¬ (wAP, v).1 = wAT from fun e => ne_ATAP e.symm), if_neg (show ¬ (wAP, v).1 = wRT from fun e => ne_RTAP e.symm), if_pos rfl]
theorem edF_RP (s : Sta) (v : Int × Int) : edF s (wRP, v) = (s.1, rmvF s.2 v) := by
  unfold edF
  rw [if_neg (show ¬ (wRP, v).1 = wAT from fun e => ne_ATRP e.symm), if_neg (show ¬ (wRP, v).1 = wRT from fun e => ne_RTRP e.symm), if_neg (show ¬ (wRP, v).1 = wAP from fun e => ne_APRP e.symm)]
theorem edP_word {s : Sta} {e : Edt} (h : EdP s e) : e.1 = wAT ∨ e.1 = wRT ∨ e.1 = wAP ∨ e.1 = wRP := by
  obtain ⟨_, h | h | h | h⟩ := h
  · exact .inl h.1
  · exact .inr (.inl h.1)
  · exact .inr (.inr (.inl h.1))
  · exact .inr (.inr (.inr h.1))
theorem edP_wok {s : Sta} {e : Edt} (h : EdP s e) : WOk e.1 := by
  rcases edP_word h with q | q | q | q <;> rw [q]
  · exact wok_AT
  · exact wok_RT
  · exact wok_AP
  · exact wok_RP
theorem mem_rmvF {l : List (Int × Int)} {v z : Int × Int} : z ∈ rmvF l v ↔ z ∈ l ∧ z ≠ v := by
  unfold rmvF
  rw [List.mem_filter, Bool.not_eq_true', decide_eq_false_iff_not]
theorem mem_insF {l : List (Int × Int)} {v z : Int × Int} : z ∈ insF l v ↔ z ∈ l ∨ z = v := by
  unfold insF
  rw [mem_srtD, List.mem_append, List.mem_singleton]
theorem insF_len {l : List (Int × Int)} {v : Int × Int} : (insF l v).length = l.length + 1 := by
  unfold insF
  rw [(perm_srtD _).length_eq, List.length_append]; rfl
theorem rmvF_len {l : List (Int × Int)} {v : Int × Int} : (rmvF l v).length ≤ l.length := List.length_filter_le _ _
theorem asc_nd {l : List (Int × Int)} (h : Asc l) : l.Nodup := h.1.imp fun {a b} (q : LtP a b) (e : a = b) => ltP_irr (p := b) (e ▸ q)
theorem asc_rem {l : List (Int × Int)} {v : Int × Int} (h : Asc l) : Asc (rmvF l v) := ⟨h.1.sublist List.filter_sublist, fun z hz => h.2 z (mem_rmvF.mp hz).1⟩
theorem asc_add {l : List (Int × Int)} {v : Int × Int} (h : Asc l) (hv : IvP v) (hn : v ∉ l) : Asc (insF l v) := by
  refine ⟨srtD_asc (List.nodup_append.mpr ⟨asc_nd h, List.pairwise_singleton _ _, fun a ha b hb e => hn ?_⟩), fun z hz => ?_⟩
  · rw [List.mem_singleton.mp hb] at e
    rw [← e]; exact ha
  · rcases mem_insF.mp hz with q | q
    · exact h.2 z q
    · rw [q]; exact hv
theorem stP_ed {s : Sta} {e : Edt} (h : StP s) (p : EdP s e) : StP (edF s e) := by
  obtain ⟨w, v⟩ := e
  obtain ⟨iv, p⟩ := p
  obtain ⟨⟨a1, a2⟩, b1, b2⟩ := h
  rcases p with ⟨q, n, l⟩ | ⟨q, m⟩ | ⟨q, n, l⟩ | ⟨q, m⟩
  · obtain rfl : w = wAT := q
    rw [edF_AT]
    exact ⟨⟨asc_add a1 iv n, by show (insF _ _).length ≤ 24; rw [insF_len]; exact l⟩, b1, b2⟩
  · obtain rfl : w = wRT := q
    rw [edF_RT]
    exact ⟨⟨asc_rem a1, Nat.le_trans rmvF_len a2⟩, b1, b2⟩
  · obtain rfl : w = wAP := q
    rw [edF_AP]
    exact ⟨⟨a1, a2⟩, asc_add b1 iv n, by show (insF _ _).length ≤ 30; rw [insF_len]; exact l⟩
  · obtain rfl : w = wRP := q
    rw [edF_RP]
    exact ⟨⟨a1, a2⟩, asc_rem b1, Nat.le_trans rmvF_len b2⟩
/-- a plan that is well -/
structure PlP (pl : PlS) : Prop where
  idle : pl.2.2 = false
  len : pl.1.length = pl.2.1.length + 1
  sts : ∀ s ∈ pl.1, StP s
  wds : ∀ e ∈ pl.2.1, WOk e.1 ∧ IvP e.2
theorem PlP.ne {pl : PlS} (h : PlP pl) : pl.1 ≠ [] := fun e => by
  have := h.len
  rw [e] at this
  simp at this
/-- the present state -/
abbrev now (pl : PlS) : Sta := atL pl.1 (-1)
theorem PlP.now {pl : PlS} (h : PlP pl) : StP (now pl) := by
  have l := h.len
  refine h.sts _ ?_
  show atL pl.1 (-1) ∈ pl.1
  rw [atL_last (by omega)]
  exact List.getElem_mem _
def perF (pl : PlS) (e : Edt) : PlS := (pl.1 ++ [edF (now pl) e], pl.2.1 ++ [e], pl.2.2)
theorem PlP.per {pl : PlS} {e : Edt} (h : PlP pl) (p : EdP (Fz.now pl) e) : PlP (perF pl e) := by
  refine ⟨h.idle, ?_, fun s hs => ?_, fun x hx => ?_⟩
  · show (pl.1 ++ [_]).length = (pl.2.1 ++ [e]).length + 1
    rw [List.length_append, List.length_append, h.len]; rfl
  · rcases List.mem_append.mp hs with q | q
    · exact h.sts s q
    · rw [List.mem_singleton.mp q]; exact stP_ed h.now p
  · rcases List.mem_append.mp hx with q | q
    · exact h.wds x q
    · rw [List.mem_singleton.mp q]; exact ⟨edP_wok p, p.1⟩
def newF (s : Sta) : PlS := ([s], [], false)
theorem newP {s : Sta} (h : StP s) : PlP (newF s) := ⟨rfl, rfl, fun x hx => by rw [List.mem_singleton.mp hx]; exact h, fun _ h => nomatch h⟩
/-! ### on a line -/
def OnS (n : Nat) (f : Nat → Int) (s : Sta) : Prop := (∀ z ∈ s.1, OnB n f z) ∧ ∀ z ∈ s.2, OnB n f z
theorem onS_ed {n : Nat} {f : Nat → Int} {s : Sta} {e : Edt} (h : OnS n f s) (o : OnB n f e.2) (p : EdP s e) : OnS n f (edF s e) := by
  obtain ⟨w, v⟩ := e
  obtain ⟨a, b⟩ := h
  have ins : ∀ {l : List (Int × Int)}, (∀ z ∈ l, OnB n f z) → ∀ z ∈ insF l v, OnB n f z := fun h z hz => (mem_insF.mp hz).elim (h z) fun e => by rw [e]; exact o
  have rem : ∀ {l : List (Int × Int)}, (∀ z ∈ l, OnB n f z) → ∀ z ∈ rmvF l v, OnB n f z := fun h z hz => h z (mem_rmvF.mp hz).1
  rcases edP_word p with q | q | q | q
  · obtain rfl : w = wAT := q
    rw [edF_AT]; exact ⟨ins a, b⟩
  · obtain rfl : w = wRT := q
    rw [edF_RT]; exact ⟨rem a, b⟩
  · obtain rfl : w = wAP := q
    rw [edF_AP]; exact ⟨a, ins b⟩
  · obtain rfl : w = wRP := q
    rw [edF_RP]; exact ⟨a, rem b⟩
structure PlW (n : Nat) (f : Nat → Int) (pl : PlS) : Prop where
  p : PlP pl
  on : ∀ s ∈ pl.1, OnS n f s
theorem PlW.now {n : Nat} {f : Nat → Int} {pl : PlS} (h : PlW n f pl) : OnS n f (now pl) := by
  have l := h.p.len
  refine h.on _ ?_
  show atL pl.1 (-1) ∈ pl.1
  rw [atL_last (by omega)]
  exact List.getElem_mem _
theorem PlW.per {n : Nat} {f : Nat → Int} {pl : PlS} {e : Edt} (h : PlW n f pl) (p : EdP (Fz.now pl) e) (o : OnB n f e.2) : PlW n f (perF pl e) := by
  refine ⟨h.p.per p, fun s hs => ?_⟩
  rcases List.mem_append.mp hs with q | q
  · exact h.on s q
  · rw [List.mem_singleton.mp q]; exact onS_ed h.now o p
theorem newW {n : Nat} {f : Nat → Int} {s : Sta} (h : StP s) (o : OnS n f s) : PlW n f (newF s) := ⟨newP h, fun x hx => by rw [List.mem_singleton.mp hx]; exact o⟩
end Fz

set_option Elab.async false
set_option linter.all false
set_option maxRecDepth 100000
set_option maxHeartbeats 1000000
/-! part Py: longer lists, plans compared -/
namespace Fz
open PySem PySem.Spec PyProof.Rows L2
abbrev InsC (K : PySem.W.Frag) (C : Addr) : Prop := C8.InsC K C
theorem call_isC {X : Cx} {C : Addr} (c : InsC X.K C) : CallR X (.builtin "isinstance") (fun xs H Q => ∃ a dx fs, xs = [.ref a, .ref C] ∧ H a = some (.ins C dx fs) ∧ Q (.bl true) H) := C8.call_isC c
section
variable {α β γ δ ε : Type} {f : α → PyData} {g : β → PyData} {h : γ → PyData} {i : δ → PyData} {j : ε → PyData} {k k2 k3 k4 k5 b b2 b3 b4 b5 : Nat}
end
section
variable {K : Fg} {G : Ctx K} {E : JE K}
end
section
variable {K : Fg} {α : Type} {G : Ctx K} {E : XK} {ta : TA} {C : Ad} {args : α → List PyData}
open Classical in
/-- Plan(..), data from then on -/
theorem ev_mkM {pre : α → Prop} {s0 : α → PlS} (T : PlC K C) (a : α) (ha : EVA K ta G (args a)) (hp : pre a) :
    EV K (tMake C (spMk K args pre s0) [] E ta) G (obL "Plan" ["states", "standing", "applying"] [.list ((s0 a).1.map eSS), .list ((s0 a).2.1.map eEd), .bool (s0 a).2.2]) := fun B F σ H own Q st k =>
  ha B F σ H own _ st fun vs F1 H1 own1 s1 hd f1 p dx np ndx ne => by
    have fp := none_dn s1.fh np
    have fdx := none_dn s1.fh ndx
    have sm : Same H1 (upd (upd H1 dx (.own p)) p (.ins C dx [])) := fun b o e => by
      rw [upd_ne (ne_of_none e np), upd_ne (ne_of_none e ndx)]; exact e
    refine ⟨a, F1, p, vs ++ [], fun a => a = p ∨ a = dx, rfl, s1.fh.trans sm, fun a e => ?_, ?_, ?_, hp, fun v d R' F' H' A' hr ff fh g hk hn hA hR hv => ?_⟩
    · rcases e with e | e
      · rw [e]; exact ⟨fp, by rw [upd_same]; simp⟩
      · rw [e]; exact ⟨fdx, by rw [upd_ne ne, upd_same]; simp⟩
    · exact ⟨rfl, .inl rfl, C, dx, [], [], .inr rfl, Ne.symm ne, T.ns, upd_same, by rw [upd_ne ne, upd_same], fun z => absurd z (by decide), fun z => absurd z (by decide)⟩
    · rw [List.append_nil]; exact hd
    · obtain ⟨rfl, q, r, rfl⟩ := hr
      refine ⟨dp_non hv, ?_⟩
      have off : ∀ a, A' a → H1 a = none := fun a e => by
        rcases (hA a e).1 with (z | z) | z
        · rw [z]; exact np
        · rw [z]; exact ndx
        · cases q : H1 a with
          | none => rfl
          | some o => rw [sm _ _ q] at z; cases z
      let F2 : Hp := fun a => if A' a then H' a else F' a
      have e1 : ∀ a, A' a → F2 a = H' a := fun a h => if_pos h
      have e2 : ∀ a, ¬ A' a → F2 a = F' a := fun a h => if_neg h
      have f2 : Same F' F2 := fun b o e => by
        by_cases w : A' b
        · rw [(hA b w).2.1] at e; cases e
        · rw [e2 b w]; exact e
      obtain ⟨own2, s2, z2⟩ := s1.step (F' := F2) (H' := H') (ff.trans f2) (fun b o e => by
          by_cases w : A' b
          · rw [e1 b w] at e; exact e
          · rw [e2 b w] at e; exact fh b o e) (fun a o e => hk a o (sm a o e) (fun z => by
          rcases z with z | z
          · rw [z, np] at e; cases e
          · rw [z, ndx] at e; cases e))
        (fun a o e => by
          by_cases w : A' a
          · exact .inr (off a w)
          · rw [e2 a w] at e
            rcases g a o e with z | z
            · exact .inl z
            · refine .inr ?_
              cases q : H1 a with
              | none => rfl
              | some o => rw [sm _ _ q] at z; cases z)
      exact k (.ref p) F2 H' own2 s2 (vb_pl F' (.ref p) H' A' hR F2 f2 fun a o ha ho _ => by rw [e1 a ha]; exact ho) ((f1.trans ff).trans f2)
end
/-! ### a plan with its past -/
inductive His (n : Nat) (f : Nat → Int) (s0 : Sta) : PlS → Prop
  | new : His n f s0 (newF s0)
  | per {p : PlS} {e : Edt} : His n f s0 p → EdP (now p) e → OnB n f e.2 → His n f s0 (perF p e)
variable {n : Nat} {f : Nat → Int} {s0 : Sta}
theorem His.W {p : PlS} (h : His n f s0 p) (s : StP s0) (o : OnS n f s0) : PlW n f p := by
  induction h with
  | new => exact newW s o
  | per _ b c ih => exact ih.per b c
theorem per_ed {p : PlS} {e : Edt} : (perF p e).2.1 = p.2.1 ++ [e] := rfl
/-- what stood before the i-th edit -/
theorem His.at {p : PlS} (h : His n f s0 p) : ∀ {i : Nat} {e : Edt}, p.2.1[i]? = some e → ∃ q, His n f s0 q ∧ q.2.1 = p.2.1.take i ∧ EdP (now q) e ∧ OnB n f e.2 := by
  induction h with
  | new => intro i e g; exact nomatch g
  | @per p e2 a b c ih =>
    intro i e g
    rw [per_ed] at g ⊢
    by_cases hi : i < p.2.1.length
    · rw [List.getElem?_append_left hi] at g
      obtain ⟨q, q1, q2, q3⟩ := ih g
      exact ⟨q, q1, by rw [List.take_append_of_le_length (by omega)]; exact q2, q3⟩
    · rw [List.getElem?_append_right (by omega)] at g
      have h0 : i - p.2.1.length = 0 := by
        have := (List.getElem?_eq_some_iff.mp g).1
        simp at this
        omega
      rw [h0] at g
      cases g
      have hi : i = p.2.1.length := by omega
      subst hi
      exact ⟨p, a, by simp, b, c⟩
end Fz

set_option Elab.async false
set_option linter.all false
set_option maxRecDepth 100000
set_option maxHeartbeats 1000000
/-! part Nd: the largest number of open demands, tried out block by block -/
namespace Fz
open PySem PySem.Spec PyProof.Rows L2
section
variable {cf : Dm → Dm → Bool} (H : ∀ d e, Dok d → Dok e → (cf d e = true ↔ Cfl d e))
include H
end
/-! ### blocks of a line -/
section
variable {n : Nat} {f : Nat → Int} {l : List (Int × Int)}
end
end Fz

set_option Elab.async false
set_option linter.all false
set_option maxRecDepth 100000
set_option maxHeartbeats 1000000
/-! part Pv: several lists of the def's own set at once -/
namespace Fz
open PySem PySem.Spec PyProof.Rows L2
section
variable {K : Fg} {B : Bs} {G : List (Sl K)} {F F' : Hp} {σ : L2.St} {H H' : Hp} {own : Ad → Nat} {E : JE K}
open Classical in
theorem Sat.fresh2 (s : Sat B G F σ H own) (i : Nat) {v : V} {r : Res K} {A : Ad → Prop} (hA : ∀ a, A a → own a = 0 ∧ F a = none ∧ H a ≠ none ∧ B.H0 a = none) (hr : r.holds F v H A) :
    ∃ own', Sat B (G.set i (.ow r)) F (σ.set i (some v)) H own' ∧ ∀ b, own b = 0 → ¬ A b → own' b = 0 := by
  let own' : Ad → Nat := fun a => if A a then i + 1 else if own a = i + 1 then 0 else own a
  have p1 : ∀ a, A a → own' a = i + 1 := fun a z => if_pos z
  have p2 : ∀ a, ¬ A a → own' a = if own a = i + 1 then 0 else own a := fun a z => if_neg z
  have pe : ∀ a, own' a = i + 1 ↔ A a := fun a => by
    by_cases z : A a
    · exact ⟨fun _ => z, p1 a⟩
    · refine ⟨fun q => ?_, fun q => absurd q z⟩
      rw [p2 a z] at q
      split at q <;> omega
  have pj : ∀ j a, j ≠ i → (own' a = j + 1 ↔ own a = j + 1) := fun j a hj => by
    by_cases z : A a
    · rw [p1 a z, (hA a z).1]; omega
    · rw [p2 a z]
      by_cases q : own a = i + 1
      · rw [if_pos q]; omega
      · rw [if_neg q]
  refine ⟨own', ⟨by simp [s.len], s.fh, fun a o e => ?_, fun a z => ?_, fun j t x h1 h2 => ?_, s.b0, s.bf, s.bn, s.bh, fun a z q => ?_⟩, fun b h n => by rw [p2 b n, h]; split <;> rfl⟩
  · by_cases z : A a
    · rw [(hA a z).2.1] at e; cases e
    · rw [p2 a z, s.fz a o e]; split <;> rfl
  · by_cases q : A a
    · exact (hA a q).2.2.1
    · rw [p2 a q] at z
      exact s.al a fun e => z (by rw [e]; split <;> rfl)
  · by_cases hj : j = i
    · subst hj
      have l1 : j < G.length := by have := (List.getElem?_eq_some_iff.mp h1).1; simpa using this
      rw [List.getElem?_set_self l1] at h1
      rw [List.getElem?_set_self (by rw [s.len]; exact l1)] at h2
      cases h1; cases h2
      refine ⟨v, rfl, ?_⟩
      rw [show (fun a => own' a = j + 1) = A from funext fun a => propext (pe a)]
      exact hr
    · rw [List.getElem?_set_ne (Ne.symm hj)] at h1 h2
      exact (s.sl j t x h1 h2).go (Same.refl _) (fun _ _ _ q => q) fun a => pj j a hj
  · by_cases e : A a
    · exact absurd (hA a e).2.2.2 q
    · rw [p2 a e] at z ⊢
      by_cases w : own a = i + 1
      · rw [if_pos w] at z; exact absurd rfl z
      · rw [if_neg w] at z ⊢
        exact s.bd a z q
/-- own things out of sight -/
def calmS : Sl K → Sl K
  | .ow _ => .un
  | s => s
abbrev calmC (G : Ctx K) : Ctx K := G.map calmS
theorem Sat.calm (s : Sat B G F σ H own) : Sat ⟨F, H, fun _ _ => False⟩ (calmC G) F σ H (fun _ => 0) := by
  refine ⟨by rw [s.len, List.length_map], s.fh, fun _ _ _ => rfl, fun a z => absurd rfl z, fun i t x h1 h2 => ?_, Same.refl _, fun a o e => .inl e, fun a z => z, fun a o z _ => z, fun a z _ => absurd rfl z⟩
  rw [List.getElem?_map] at h1
  cases e : G[i]? with
  | none => rw [e] at h1; cases h1
  | some u =>
    rw [e] at h1
    cases h1
    have k := s.sl i u x e h2
    cases u with
    | un => trivial
    | da d => exact k
    | ow r => trivial
variable {t1 t2 t3 : TE} {ds1 ds2 ds3 : List PyData} {i j l : Nat}
end
end Fz

set_option Elab.async false
set_option linter.all false
set_option maxRecDepth 100000
set_option maxHeartbeats 1000000
/-! part Pw: methods called with a keyword -/
namespace Fz
open PySem PySem.Spec PyProof.Rows L2
section
variable {X : Cx} {CX : CXT} {k : Nat} {f C : Ad} {fd : FuncData} {ps ks : List Str} {sp : Sp} {E : XK} {x m : Str} {p pos apos : Pos} {e o : Expr} {kws : List Keyword} {ta : TE} {tk : TA}
end
section
variable {K : Fg} {G : Ctx K} {ι : Type}
end
end Fz

set_option Elab.async false
set_option linter.all false
/-! part Pu: all on plans -/

set_option Elab.async false
set_option linter.all false
set_option maxRecDepth 100000
set_option maxHeartbeats 4000000
/-! part Xm: methods that change their object and may raise -/
namespace Fz
open PySem PySem.Spec PyProof.Rows L2
section
variable {K : Fg} {ι : Type}
variable {P : Program} {w : World} {mg : Str → Option Value} {base : Heap} {k : Nat} {f : Ad} {fd : FuncData} {ps N : List Str} {x qual : Str} {st : Stmt}
  {args : ι → List PyData} {pre : ι → Prop} {R : ι → Ad → Res K} {res : ι → PyData → (Ad → Res K) → Prop} {exc : ι → Str → List (Str × PyData) → (Ad → Res K) → Prop}
end
/-! ### a method's call that may raise -/
section
variable {X : Cx} {W : WX} {k : Nat} {f C : Ad} {fd : FuncData} {ps : List Str} {sp : Sp} {dvs : List V} {ds : List Value} {m : Str} {p pos apos : Pos} {o e : Expr} {es : List Expr} {ta : TE} {t : TA}
end
/-! ### .. along the slots -/
section
variable {K : Fg} {G : Ctx K} {E : JE K} {EX : XW K} {te : WX → TE} {Pj : PyData → Ctx K → Prop}
end
/-! ### plans -/
section
variable {K : Fg} {α β : Type} {G : Ctx K} {EX : XW K} {ta : TA} {i : Nat} {ds des : List PyData} {dvs : List V} {s : PlS} {p q r C0 : Ad} {m : Str}
  {args : α → List PyData} {pre : PlS → α → Prop} {res : PlS → α → PyData → PlS → Prop} {exc : PlS → α → Str → List (Str × PyData) → PlS → Prop} {Pj : PyData → Ctx K → Prop} {en : β → PyData}
end
end Fz

set_option Elab.async false
set_option linter.all false
set_option maxRecDepth 100000
set_option maxHeartbeats 4000000
/-! part Xn: several clauses, each with a name; clauses of two classes -/
namespace Fz
open PySem PySem.Spec PyProof.Rows L2
/-- what stands behind except: a class, or a tuple of two; what it says of a class -/
inductive CTest (X : Cx) : Expr → (Value → Option Bool) → Prop
  | one {x : Str} {c : Value} {np : Pos} (hc : Names X x c) : CTest X (.Name x np) (fun cls => PySem.W.exmOne X.K cls c)
  | two {x y : Str} {c d : Value} {np nq pos : Pos} {x1} (hc : Names X x c) (hd : Names X y d) : CTest X (.Tuple [.Name x np, .Name y nq] x1 pos) (fun cls => PySem.W.exmAny X.K cls [c, d])
section
variable {X : Cx} {pins pn : List (Addr × Obj)} {σ : L2.St} {H : Hp} {s : Shared} {a : Addr} {oe : Obj} {cls : Value} {b : Bool} {t : Expr} {m : Value → Option Bool}
theorem names_ld {x : Str} {c : Value} {np : Pos} (hc : Names X x c) (S : Inv (X.suite a ((a, oe) :: pn)) pins σ H s) {Q E : Value → Shared → Prop} (q : Q c s) : wpAny (model X.prog X.w) (X.A.mark (some (.ref a))) (eval (.Name x np) X.env) Q E s := by
  rcases hc with ⟨g1, g2, g3 | ⟨g3, g4, g5⟩⟩
  · exact ld_glob (X := X.suite a ((a, oe) :: pn)) S g1 g3 q g2
  · exact ld_blt (X := X.suite a ((a, oe) :: pn)) S g1 g3 g4 q g5 g2
theorem CTest.run (h : CTest X t m) (S : Inv (X.suite a ((a, oe) :: pn)) pins σ H s) (LT : PySem.W.Looks (model X.prog X.w) s.heap (typeOf (.ref a)) cls) (hb : m cls = some b) {Q : Bool → Shared → Prop} {E : Value → Shared → Prop}
    (q : ∀ h', (∀ b o, s.heap.get? b = some o → h'.get? b = some o) → Q b { s with heap := h' }) :
    wpAny (model X.prog X.w) (X.A.mark (some (.ref a))) (eval t X.env) (fun c s1 => wpAny (model X.prog X.w) (X.A.mark (some (.ref a))) (excMatches (.ref a) c) Q E s1) E s := by
  cases h with
  | one hc => exact names_ld hc S ((PySem.W.exm_one S.kIn LT hb).here (q s.heap fun _ _ e => e))
  | @two x y c d np nq pos x1 hc hd =>
    refine wpAny_Tuple_spliced ?_
    show wpAny _ _ (spliced [(false, eval (.Name x np) X.env), (false, eval (.Name y nq) X.env)]) _ _ s
    refine Calls.spliced_cons (names_ld hc S (Calls.spliced_cons (names_ld hd S (Calls.spliced_nil ⟨by show 2 ≤ sizeLine; rw [sizeLine_eq]; omega, ?_⟩))))
    have kp : ∀ b o, s.heap.get? b = some o → (s.heap.push { cls := .type "tuple", data := .seq [c, d].toArray }).get? b = some o := fun _ _ e => Heap.get?_push_of_some _ e
    exact (PySem.W.exm_tup2 (S.kIn.keeps kp) (LT.keeps kp) (Heap.get?_push_size _ rfl) hb).here (q _ kp)
end
/-- the ends of a suite whose name stands at i -/
def endN (D : Ends) (i : Nat) : Ends := { nx := fun σ' H' => D.nx (σ'.set i none) H', rt := D.rt, bk := fun σ' H' => D.bk (σ'.set i none) H', ct := fun σ' H' => D.ct (σ'.set i none) H' }
abbrev Cls1 := (Value → Option Bool) × Nat × (Addr → Value → Option Addr → TS)
/-- what the clauses wish, one after the other -/
def wMen (Wout : WX) (D : Ends) : List Cls1 → WX
  | [] => Wout
  | (m, i, ts) :: r => fun cls d σ H => ∃ b, m cls = some b ∧ (b = true → ∀ a, H a = none → ts a cls d (endN D i) (σ.set i (some (.ref a))) H) ∧ (b = false → wMen Wout D r cls d σ H)
inductive HdsN (X : Cx) : List ExceptHandler → List Cls1 → Prop
  | nil : HdsN X [] []
  | cons {t : Expr} {m : Value → Option Bool} {n : Str} {i : Nat} {ts : Addr → Value → Option Addr → TS} {b₀ : Stmt} {suite : List Stmt} {pos' : Pos} {hds : List ExceptHandler} {l : List Cls1} (hi : X.N[i]? = some n) (hln : X.env.kindOf n = some .local) (ht : CTest X t m)
      (hsu : ∀ (a : Addr) (oe : Obj) (cls : Value) (d : Option Addr) (pn : List (Addr × Obj)), L2N.Zn cls d oe → (∃ vs, oe.data = .fields vs) → PSs (X.suite a ((a, oe) :: pn)) (b₀ :: suite) (ts a cls d)) (r : HdsN X hds l) :
      HdsN X (.ExceptHandler (some t) (some n) (b₀ :: suite) pos' :: hds) ((m, i, ts) :: l)
section
variable {X : Cx} {body : List Stmt} {h₀ : ExceptHandler} {hds : List ExceptHandler} {l : List Cls1} {pos : Pos} {tb : WX → TS} {Wout : WX}
theorem flying_keep {B h h' : Heap} {fl : List Env} {e : Addr} {Z : Obj → Prop} (x : HandSPX.FlyingZ B fl e Z h) (k : ∀ b o, h.get? b = some o → h'.get? b = some o) : HandSPX.FlyingZ B fl e Z h' := by
  obtain ⟨x1, x2, x3, oe, vs, T, oT, ts, q1, q2, q3, q4, q5, q6, q7, q8, q9⟩ := x
  exact ⟨fun b o e => k _ _ (x1 b o e), x2, x3.of_keeps fun b o e _ => ⟨o, k _ _ e, rfl⟩, oe, vs, T, oT, ts, k _ _ q1, q2, q3, q4, q5, q6, k _ _ q7, q8, q9⟩
theorem upto_keep {h0 h h' : Heap} (x : h0.UpToSlots h) (k : ∀ b o, h.get? b = some o → h'.get? b = some o) : h0.UpToSlots h' := fun b o e n => by
  obtain ⟨sl, q⟩ := x b o e n
  exact ⟨sl, k _ _ q⟩
theorem ps_tryN (hs : X.stack = X.env :: X.outer) (hf : X.env.frame = some X.env.locals) (hN : X.N.Nodup) (tk : L2N.Takes X Wout)
    (hb : ∀ (W : WX) (pn : List (Addr × Obj)) (xe : Value → Shared → Prop), L2N.Takes (X.tr pn xe) W → PassesOwn (model X.prog X.w) X.A X.env xe → PSs (X.tr pn xe) body (tb W))
    (hh : HdsN X (h₀ :: hds) l) : PS X (.Try body (h₀ :: hds) [] [] pos) (fun D σ H => tb (wMen Wout D l) D σ H) := by
  refine ⟨fun pins s σ H D I h => ?_⟩
  have ok := I.ok
  have hfr : X.A.frames = some (X.env :: X.outer) := ok.frames.trans (congrArg some hs)
  refine wpAny_Try_except (wpAny_mono ((hb (wMen Wout D l) (X.pn ++ pins) (fun e s₁ => wpAny (model X.prog X.w) X.A (noteFrame e X.env) (fun _ s₂ => wpAny (model X.prog X.w) X.A (setFlight e none) (fun _ s₃ => wpAny (model X.prog X.w) X.A (handleBy e X.env (h₀ :: hds)) (SP X pins D) X.xe s₃) X.xe s₂) X.xe s₁) (fun u s' xx => ?_) PassesOwn.looking).run [] s σ H D (I.toTry _) h) (fun f s1 hsp => ?_) (fun e s1 he => he))
  · obtain ⟨a, B, sI, pins', σ', H', cls, d, rfl, J', nb, up, sky, na, os, ag, w⟩ := xx
    have J : Inv X pins σ' H' sI := J'.ofTry ok
    have sk : Sky B (X.env :: X.outer) a (L2N.Zn cls d) X.env.locals s'.heap := hs ▸ sky
    show wpAny (model X.prog X.w) X.A (noteFrame (.ref a) X.env) _ _ _
    refine L2N.Sky.land L2N.Zn.steady hfr hf sk fun h3 fl3 up3 => ?_
    have noF : ∀ {h : Heap} {o : Obj} {vs : Array Value}, h.FunFrames B (X.env :: X.outer) → h.get? a = some o → o.data = .fields vs → a ∉ frs (X.env :: X.outer) := fun {h o vs} ff e dd hm => by
      obtain ⟨_, o2, e2, hnf⟩ := ff.mem hm
      exact hnf _ (by rw [e] at e2; cases e2; exact dd)
    have go : ∀ {hds' : List ExceptHandler} {l' : List Cls1}, HdsN X hds' l' → ∀ h3, HandSPX.FlyingZ B (X.env :: X.outer) a (L2N.Zn cls d) h3 → sI.heap.UpToSlots h3 → wMen Wout D l' cls d σ' H' →
        wpAny (model X.prog X.w) X.A (handleBy (.ref a) X.env hds') (SP X pins D) X.xe { s' with heap := h3 } := by
      intro hds' l' hk
      induction hk with
      | nil =>
        intro h3 fl3 up3 w
        refine wpAny_handleBy_nil ?_
        have fl3' := fl3
        obtain ⟨k1, k2, k3, oe, vs, T, oT, ts', he, hz, hd, h1, hr⟩ := fl3'
        unfold PySem.passOn
        refine wpAny_bind (wpAny_field he hd h1 ?_)
        rw [if_neg (show ¬ ((Value.ref T == Value.none) = true) from by simp)]
        have fin : wpAny (model X.prog X.w) X.A (setFlight (.ref a) X.env.frame) (fun _ s4 => wpAny (model X.prog X.w) X.A (throw (.ref a) : Sem Flow) (SP X pins D) X.xe s4) X.xe { s' with heap := h3 } := by
          rw [hf]
          exact HandSPX.setFlight_upZ fl3 fun h4 hh4 up4 => wpAny_throw (tk _ _ ⟨a, B, sI, pins, σ', H', cls, d, rfl, J, nb, up3.trans up4, .inr (.inr (hs ▸ hh4)), na, os, ag, w⟩)
        first | exact wpAny_bind fin | exact wpAny_bind (wpAny_pure (wpAny_bind fin))
      | @cons t m n i ts b₀ suite pos' hds2 l2 hi hln ht hsu r ih =>
        intro h3 fl3 up3 w
        obtain ⟨b, hb1, hyes, hno⟩ := w
        have J3 : Inv X pins σ' H' { s' with heap := h3 } := J.landed nb fl3.1 up3 os ag
        obtain ⟨oe3, vs3, he3, hz3, hd3⟩ := fl3.there
        have nfr := noF fl3.2.2.1 he3 hd3
        have nL : a ≠ X.env.locals := fun z => nfr (List.mem_filterMap.mpr ⟨X.env, List.mem_cons_self, hf.trans (congrArg some z.symm)⟩)
        have nF : a ∉ X.fs := fun hm => let ⟨e, he, q⟩ := List.mem_filterMap.mp hm; nfr (List.mem_filterMap.mpr ⟨e, List.mem_cons_of_mem _ he, q⟩)
        have S3 := J3.suite he3 hd3 na nL nF
        have LT : PySem.W.Looks (model X.prog X.w) h3 (typeOf (.ref a)) cls := fun A Q E s k q => wpAny_typeOf_ref (k _ _ he3) (hz3.1.symm ▸ q)
        refine wpAny_handleBy_cons (codeAny_handlers_test (ht.run S3 LT hb1 fun h4 k4 => ?_)) (by intro q; cases q)
        have fl4 := flying_keep fl3 k4
        have up4 := upto_keep up3 k4
        cases b with
        | true =>
          refine codeAny_handlers_suite_as ?_
          refine HandSPX.lands_againZ fl4 fun h5 fl5 up5 => ?_
          have J5 : Inv X pins σ' H' { s' with heap := h5 } := J.landed nb fl5.1 (up4.trans up5) os ag
          obtain ⟨oe5, vs5, he5, hz5, hd5⟩ := fl5.there
          have S5 := J5.suite he5 hd5 na nL nF
          refine store_ok (X := X.suite a ((a, oe5) :: (X.pn ++ pins))) (v := .ref a) S5 hN hi (.inl hln) rfl (fun s6 S6 => ?_) (.inr hln)
          refine wpAny_mono ((hsu a oe5 cls d (X.pn ++ pins) hz5 ⟨_, hd5⟩).run [] s6 _ H' _ S6 (hyes rfl a na)) (fun f s7 hsp => ?_) (fun _ _ z => z.elim)
          have en : ∀ {σ8 : L2.St} {H8 : Hp} {Q : Shared → Prop}, Inv (X.suite a ((a, oe5) :: (X.pn ++ pins))) [] σ8 H8 s7 → (∀ s9, Inv X pins (σ8.set i none) H8 s9 → Q s9) →
              wpAny (model X.prog X.w) X.A (do bindName X.env n .none; unbindBehindTheSuite X.env n pos') (fun _ s9 => Q s9) X.xe s7 := fun {σ8 H8 Q} S8 hq => gone_ok (S8.unsuite ok) hN hi hln hq
          cases f with
          | ret u => obtain ⟨v8, σ8, H8, S8, r8, q8⟩ := hsp; exact en S8 fun s9 J9 => ⟨_, _, _, J9, r8, q8⟩
          | next => obtain ⟨σ8, H8, S8, q8⟩ := hsp; exact en S8 fun s9 J9 => ⟨_, _, J9, q8⟩
          | brk => obtain ⟨σ8, H8, S8, q8⟩ := hsp; exact en S8 fun s9 J9 => ⟨_, _, J9, q8⟩
          | cont => obtain ⟨σ8, H8, S8, q8⟩ := hsp; exact en S8 fun s9 J9 => ⟨_, _, J9, q8⟩
        | false =>
          show wpAny _ X.A (handleBy (.ref a) X.env hds2) _ _ _
          exact ih h4 fl4 up4 (hno rfl)
    exact go hh h3 fl3 (up.trans up3) w
  · cases f with
    | ret u => obtain ⟨v, σ', H', J', r, q⟩ := hsp; exact ⟨v, σ', H', J'.ofTry ok, r, q⟩
    | next => obtain ⟨σ', H', J', q⟩ := hsp; exact wpAny_execs_nil ⟨σ', H', J'.ofTry ok, q⟩
    | brk => obtain ⟨σ', H', J', q⟩ := hsp; exact ⟨σ', H', J'.ofTry ok, q⟩
    | cont => obtain ⟨σ', H', J', q⟩ := hsp; exact ⟨σ', H', J'.ofTry ok, q⟩
end
/-! ### .. along the slots -/
section
variable {K : Fg} {G : Ctx K} {E : JE K} {EX EXb : XW K} {tb : WX → TS} {l : List Cls1}
def tTryN (l : List Cls1) (tb : WX → TS) (W : WX) : TS := fun D σ H => tb (wMen W D l) D σ H
/-- what the clauses are asked of an exception of class cn with the fields fd, at the slots G' -/
def HdX (K : Fg) (E : JE K) (EX : XW K) (cn : Str) (fd : List (Str × PyData)) (G' : Ctx K) (C : Ad) : List Cls1 → Prop
  | [] => EX cn fd G'
  | (m, i, ts) :: r => ∃ b, m (.ref C) = some b ∧ (b = true → ∀ a d, (d = none ↔ fd = []) → SJ K (ts a (.ref C) d) (G'.set i (.ow (exR a d fd))) (unJ E i)) ∧ (b = false → HdX K E EX cn fd G' C r)
theorem wMen_of {B : Bs} {F : Hp} {D : Ends} {W : WX} (dk : ∀ a n, B.dk a n → n = 1) (m : Meets E B F D) (mx : MeetsX EX B F W) {cn : Str} {fd : List (Str × PyData)} {C : Ad} {G' : Ctx K} {F' : Hp} {σ' : L2.St} {H' : Hp} {own' : Ad → Nat} {d : Option Ad}
    (hC : PySem.W.nsIn K mainGlobals cn = some (some (.ref C))) (s' : Sat B G' F' σ' H' own') (f : Same F F') (hd : d = none ↔ fd = []) (hx : ∀ dd, d = some dd → ∃ fs : List (Str × V), F' dd = some (.xd fs) ∧ fs.map (·.1) = fd.map (·.1) ∧ DpAll K F' (fs.map (·.2)) (fd.map (·.2))) :
    ∀ l, HdX K E EX cn fd G' C l → wMen W D l (.ref C) d σ' H'
  | [], h => by
    have h : EX cn fd G' := h
    show W (.ref C) d σ' H'
    cases d with
    | some dd =>
      obtain ⟨fs, h1, h2, h3⟩ := hx dd rfl
      exact mx.1 cn fd fs C dd G' F' σ' H' own' h hC s' h1 h2 h3 (fun z => nomatch hd.mpr z) f
    | none =>
      obtain rfl := hd.mp rfl
      exact mx.2 cn C G' F' σ' H' own' h hC s' f
  | (m1, i, ts) :: r, h => by
    obtain ⟨b, hb, h1, h2⟩ := h
    refine ⟨b, hb, fun hb1 a na => ?_, fun hb0 => wMen_of dk m mx hC s' f hd hx r (h2 hb0)⟩
    obtain ⟨o2, s2⟩ := s'.fresh i (v := .ref a) (r := exR a d fd) (A := fun _ => False) (fun _ z => z.elim) ⟨rfl, hx⟩
    exact h1 hb1 a d hd B F' _ H' o2 _ dk s2 (m.un.up f)
theorem sx_tryN (h : SJX K tb G E EXb) (hs : ∀ cn fd G' C, EXb cn fd G' → PySem.W.nsIn K mainGlobals cn = some (some (.ref C)) → HdX K E EX cn fd G' C l) : SJX K (tTryN l tb) G E EX := fun B F σ H own D W dk s m mx =>
  h B F σ H own D _ dk s m ⟨fun cn fd fs C dd G' F' σ' H' own' e hC s' hdd hn hall ne f => wMen_of (d := some dd) dk m mx hC s' f ⟨(fun z => nomatch z), fun z => absurd z ne⟩ (fun d2 e2 => by cases e2; exact ⟨fs, hdd, hn, hall⟩) l (hs cn fd G' C e hC),
    fun cn C G' F' σ' H' own' e hC s' f => wMen_of (d := none) dk m mx hC s' f ⟨fun _ => rfl, fun _ => rfl⟩ (fun d2 e2 => nomatch e2) l (hs cn [] G' C e hC)⟩
end
theorem ps_tryM {X : Cx} {body : List Stmt} {h₀ : ExceptHandler} {hds : List ExceptHandler} {l : List Cls1} {pos : Pos} {tb : WX → TS} {W : WX} (hs : X.stack = X.env :: X.outer) (hf : X.env.frame = some X.env.locals) (hN : X.N.Nodup) (tk : L2N.Takes X W)
    (hb : ∀ (W : WX) (pn : List (Addr × Obj)) (xe : Value → Shared → Prop), L2N.Takes (X.tr pn xe) W → PassesOwn (model X.prog X.w) X.A X.env xe → PSs (X.tr pn xe) body (tb W))
    (hh : HdsN X (h₀ :: hds) l) : PS X (.Try body (h₀ :: hds) [] [] pos) (tTryN l tb W) := ps_tryN hs hf hN tk hb hh
end Fz

set_option Elab.async false
set_option linter.all false
set_option maxRecDepth 100000
set_option maxHeartbeats 4000000
/-! part Xl: error classes over LookupError -/
namespace Fz
open PySem PySem.Spec PyProof.Rows L2
/-- own classes, then LookupError's line -/
abbrev leT : List Value := [.type "LookupError", .type "Exception", .type "BaseException", .type "object"]
def refsLE : List Value → Bool
  | .ref _ :: r => refsLE r
  | l => l == leT
section
open PySem.HandSPX Builtin Builtin.ObjectAttr
variable {prog : Program} {w : World} {R : Result → Shared → Prop} {hp : Heap} {g : Array GenState} {d : Drawn} {t : Nat} {os : OsState} {A : Around}
end
/-- what the written part says of an error class over LookupError -/
structure OexL (K : PySem.W.Frag) (C : Addr) : Prop where
  cls : ∃ nm q N bs bm sn sub ab col dd k0 k1 k2 k3 k5, K.lookup C = some (excClassObj nm q C N bs bm true sn sub ab col dd k0 k1 k2 k3 k5 "LookupError.__new__") ∧ refsLE bm = true
  sa : PySem.W.findIn K (.ref C) "__setattr__" = some (some (.builtin "object.__setattr__"))
  exC : PySem.W.subIn K (.ref C) (.type "BaseException") = some true
  tyC : PySem.W.typeIn K (.ref C) = some (.type "type")
  kC : PySem.W.keepIn K (.ref C) = true
section
variable {X : Cx} {pins : List (Addr × Obj)} {σ : L2.St} {H : Hp} {s : Shared} {a C : Addr} {f : Str} {y : V} {u : Value} {Q : Unit → Shared → Prop} {E : Value → Shared → Prop} {A : Around}
end
section
variable {X : Cx} {o e : Expr} {es : List Expr} {to te : TE} {ta : TA} {f : Str} {p p' pos : Pos}
end
section
variable {K : Fg} {P : Program} {w : World} {mg : Str → Option Value} {base : Heap} {C : Ad} {f : Str} {fI : Ad} {fd : FuncData} {qual p : Str} {st : Stmt}
end
/-- an error class over LookupError whose __init__(self, p) stores self.f -/
structure ErL (P : Program) (w : World) (K : Fg) (mg : PySem.Str → Option Value) (base : Heap) (cn f p : PySem.Str) (C : Ad) : Prop where
  ns : PySem.W.nsIn K mainGlobals cn = some (some (.ref C))
  mgC : mg cn = some (.ref C)
  ox : OexL K C
  ini : ∃ (fI : Ad) (fd : FuncData), PySem.W.findIn K (.ref C) "__init__" = some (some (.ref fI)) ∧ PySem.W.typeIn K (.ref fI) = some (.type "function") ∧ FnOk P w K mg base CX0 1 fI fd ["self", p] (spXi C f) ∧ Binds K fd ["self", p] []
end Fz

set_option Elab.async false
set_option linter.all false
set_option maxRecDepth 100000
set_option maxHeartbeats 4000000
/-! part Xo: expressions that may raise -/
namespace Fz
open PySem PySem.Spec PyProof.Rows L2
section
variable {K : Fg} {G : Ctx K} {E : JE K} {EX : XW K} {t ta tb te : WX → TE} {tq tr : WX → TA} {tA : WX → TT} {u w : WX → TS} {d : PyData} {ds : List PyData} {P : PyData → Ctx K → Prop}
end
/-! ### a caught error whose class is one of several -/
section
variable {X : Cx} {a : Ad} {cls : Value} {d : Option Ad} {oe : Obj} {pn : List (Addr × Obj)} {n : Str} {e : Expr} {pos : Pos} {te : TE}
variable {K : Fg} {G : Ctx K} {i : Nat} {C : Ad} {fd : List (Str × PyData)}
end
end Fz


set_option Elab.async false
set_option linter.all false
set_option maxRecDepth 100000
set_option maxHeartbeats 1000000
/-! part Zd: values of any kind as data: small dicts among them; isinstance, repr, len of what is not known beforehand -/
namespace Fz
open PySem PySem.Spec PyProof.Rows L2
instance : Inhabited PyData := ⟨.none⟩
/-! ### which data is a Python value of its own -/
def keyZ : PyData → Bool
  | .int _ => true
  | .str _ => true
  | _ => false
def leafZ : PyData → Bool
  | .none => true
  | .bool _ => true
  | .int _ => true
  | .str _ => true
  | _ => false
mutual
def natZ : PyData → Bool
  | .none => true
  | .bool _ => true
  | .int _ => true
  | .str _ => true
  | .list xs => natZs xs
  | .tuple xs => natZs xs
  | .dict es => es.all fun e => keyZ e.1 && leafZ e.2
def natZs : List PyData → Bool
  | [] => true
  | x :: xs => natZ x && natZs xs
end
theorem natZs_of : ∀ {ds : List PyData}, (∀ d ∈ ds, natZ d = true) → natZs ds = true
  | [], _ => by simp only [natZs]
  | d :: ds, h => by
    simp only [natZs, h d List.mem_cons_self, natZs_of fun x hx => h x (List.mem_cons_of_mem _ hx), Bool.and_self]
theorem natZs_mem : ∀ {ds : List PyData}, natZs ds = true → ∀ d ∈ ds, natZ d = true
  | d :: ds, h, x, hx => by
    simp only [natZs, Bool.and_eq_true] at h
    rcases List.mem_cons.mp hx with e | e
    · rw [e]; exact h.1
    · exact natZs_mem h.2 x e
/-! ### repr of it -/
section
variable {P : Program} {w : World} {h : Heap}
def RkZ (P : Program) (w : World) (h : Heap) (u : Value) (d : PyData) : Prop := ∃ as, Reads h u d as ∧ (d.showable = true → d.shown.length ≤ sizeLine → ∃ bs, ReadAtMost h d.depth bs ∧ ReprK P w bs h d.depth u d.shown)
def RkZs (P : Program) (w : World) (h : Heap) (us : List Value) (ds : List PyData) : Prop := ∃ as, ReadsAll h us ds as ∧ (PyData.showableAll ds = true → (∀ t ∈ PyData.shownAll ds, t.length ≤ sizeLine) → ∃ bs, ReadAtMost h (PyData.depthAll ds) bs ∧ ReprAllK P w bs h (PyData.depthAll ds) us (PyData.shownAll ds))
theorem rkz_nil : RkZs P w h [] [] := ⟨[], .nil, fun _ _ => ⟨[], (fun _ q => nomatch q), by simp only [PyData.shownAll]; exact .nil⟩⟩
theorem rkz_cons {u : Value} {us : List Value} {d : PyData} {ds : List PyData} (a : RkZ P w h u d) (b : RkZs P w h us ds) : RkZs P w h (u :: us) (d :: ds) := by
  obtain ⟨a1, r1, f1⟩ := a
  obtain ⟨a2, r2, f2⟩ := b
  refine ⟨a1 ++ a2, .cons r1 r2, fun s z => ?_⟩
  simp only [PyData.showableAll, Bool.and_eq_true] at s
  simp only [PyData.shownAll] at z ⊢
  obtain ⟨b1, m1, k1⟩ := f1 s.1 (z _ List.mem_cons_self)
  obtain ⟨b2, m2, k2⟩ := f2 s.2 fun t ht => z t (List.mem_cons_of_mem _ ht)
  have l1 : d.depth ≤ PyData.depthAll (d :: ds) := Nat.le_max_left _ _
  have l2 : PyData.depthAll ds ≤ PyData.depthAll (d :: ds) := Nat.le_max_right _ _
  exact ⟨b1 ++ b2, (m1.mono l1).append (m2.mono l2), .cons ((k1.more fun b q => List.mem_append_left _ q).level_le l1) (k2.more_le (fun b q => List.mem_append_right _ q) l2)⟩
theorem rkz_of {u : Value} {d : PyData} {as : List Addr} (r : Reads h u d as) (n : sysModules ∉ as) : RkZ P w h u d := ⟨as, r, fun s z => ReprK.of_reads r s (fun _ => n) z⟩
theorem listZ {xs : List PyData} (z : (PyData.list xs).shown.length ≤ sizeLine) : ∀ t ∈ PyData.shownAll xs, t.length ≤ sizeLine := fun t ht => by
  simp only [PyData.shown] at z
  exact Nat.le_trans (listText_mem_le ht) z
theorem tupleZ {xs : List PyData} (z : (PyData.tuple xs).shown.length ≤ sizeLine) : ∀ t ∈ PyData.shownAll xs, t.length ≤ sizeLine := fun t ht => by
  simp only [PyData.shown] at z
  exact Nat.le_trans (tupleText_mem_le ht) z
theorem rkz_lst {a : Addr} {o : Obj} {vs : Array Value} {n : Nat} {xs : List PyData} (h1 : h.get? a = some o) (h2 : o.cls = .type "list") (h3 : o.data = .seq vs n) (k : RkZs P w h vs.toList xs) : RkZ P w h (.ref a) (.list xs) := by
  obtain ⟨as, r, f⟩ := k
  have rd : Reads h (.ref a) (.list xs) (a :: as) := .list h1 h2 h3 r
  refine ⟨_, rd, fun s z => ?_⟩
  have lt : PyData.depthAll xs < (PyData.list xs).depth := by simp only [PyData.depth]; omega
  obtain ⟨bs, m, g⟩ := f (by simpa only [PyData.showable] using s) (listZ z)
  have na := not_mem_of_deeper rd lt m
  refine ⟨a :: bs, ReadAtMost.cons rd (Nat.le_of_lt lt) m, ?_⟩
  obtain ⟨l⟩ := vs
  simp only [PyData.depth, PyData.shown]
  cases l with
  | nil =>
    cases (show ReadsAll h [] xs as from r)
    simp only [PyData.shownAll, listText_nil]
    exact .listEmpty h1 h2 h3
  | cons x l =>
    have le := g.length_eq
    exact .list h1 h2 h3 na (by simpa using le) fun i y e => g.item i y (by simpa using e)
theorem rkz_tup {a : Addr} {o : Obj} {vs : Array Value} {n : Nat} {xs : List PyData} (h1 : h.get? a = some o) (h2 : o.cls = .type "tuple") (h3 : o.data = .seq vs n) (k : RkZs P w h vs.toList xs) : RkZ P w h (.ref a) (.tuple xs) := by
  obtain ⟨as, r, f⟩ := k
  have rd : Reads h (.ref a) (.tuple xs) as := .tuple h1 h2 h3 r
  refine ⟨_, rd, fun s z => ?_⟩
  have lt : PyData.depthAll xs < (PyData.tuple xs).depth := by simp only [PyData.depth]; omega
  obtain ⟨bs, m, g⟩ := f (by simpa only [PyData.showable] using s) (tupleZ z)
  have na := not_mem_of_deeper rd lt m
  refine ⟨a :: bs, ReadAtMost.cons rd (Nat.le_of_lt lt) m, ?_⟩
  simp only [PyData.depth, PyData.shown]
  exact .tuple h1 h2 h3 na g
end
section
variable {X : Cx} {pins : List (Addr × Obj)} {σ : L2.St} {H : Hp} {s : Shared}
theorem leaf_reads {d : PyData} {v : V} {u : Value} (hd : Dp X.K H v d) (l : leafZ d = true) (r : RelV v u) : Reads s.heap u d [] := by
  cases d with
  | none => cases hd; cases r; exact .none
  | bool b => cases hd; cases r; exact .bool b
  | int i => cases hd; obtain ⟨t, rfl⟩ := r; exact .int i t
  | str x => cases hd; obtain ⟨t, rfl⟩ := r; exact .str x t
  | list _ => exact nomatch l
  | tuple _ => exact nomatch l
  | dict _ => exact nomatch l
theorem dk_reads {l : List DictEntry} {vs : List (L2.Key × Value)} (p : Pairs (mixKind X.prog X.w) l vs) : ∀ {kvs : List (L2.Key × V)} {es : List (PyData × PyData)}, KV kvs vs → es.map (·.1) = kvs.map (fun p => keyD p.1) →
    DpAll X.K H (kvs.map (·.2)) (es.map (·.2)) → (es.all fun e => keyZ e.1 && leafZ e.2) = true → ReadsAll s.heap (l.map (·.key)) (es.map (·.1)) [] ∧ ReadsAll s.heap (l.map (·.val)) (es.map (·.2)) [] := by
  induction p with
  | nil =>
    intro kvs es r e hd n
    cases r
    cases es with
    | nil => exact ⟨.nil, .nil⟩
    | cons _ _ => exact nomatch e
  | @cons e kv l vs hk hv _ ih =>
    intro kvs es r q hd n
    cases r with
    | @cons a b as bs h1 t =>
      cases es with
      | nil => exact nomatch q
      | cons z es =>
        obtain ⟨q1, q2⟩ := List.cons.inj q
        have hd2 : DpAll X.K H (a.2 :: as.map (·.2)) (z.2 :: es.map (·.2)) := hd
        obtain ⟨v0, ws, e0, d0, d1⟩ := dpa_cons hd2
        obtain ⟨e1, e2⟩ := List.cons.inj e0
        simp only [List.all_cons, Bool.and_eq_true] at n
        subst e1
        obtain ⟨r1, r2⟩ := ih t q2 (by rw [e2]; exact d1) n.2
        have kz : Reads s.heap e.key z.1 [] := by
          have q1 : z.1 = keyD a.1 := q1
          have e3 : a.1 = kv.1 := h1.1
          rw [q1, e3]
          rcases keyIs_shape (show keyIs kv.1 e.key = true from hk) with ⟨i, t, x, y⟩ | ⟨i, t, x, y⟩
          · rw [x, y]; exact .int i t
          · rw [x, y]; exact .str i t
        have vz : Reads s.heap e.val z.2 [] := leaf_reads d0 n.1.2 (by rw [hv]; exact h1.2)
        exact ⟨.cons (as := []) (bs := []) kz r1, .cons (as := []) (bs := []) vz r2⟩
theorem dk_obj {a : Addr} {es : List (PyData × PyData)} (I : Inv X pins σ H s) (hd : Dp X.K H (.ref a) (.dict es)) (n : natZ (.dict es) = true) : Reads s.heap (.ref a) (.dict es) [a] ∧ (a == sysModules) = false ∧ ∃ kvs : List (L2.Key × V), H a = some (.dK kvs) := by
  cases hd with
  | dk e1 e2 e3 =>
    obtain ⟨z, hs, vs, rel, o, l, ep, ho, hx, hdd, hK, hP, hN⟩ := I.hok a _ e1
    obtain ⟨r1, r2⟩ := dk_reads hP rel e2 e3 (by simpa only [natZ] using n)
    exact ⟨.dict (as := []) (bs := []) ho hx.1 hdd (by simpa using r1) (by simpa using r2), hs, _, e1⟩
  | ob h1 h2 h3 h4 => simp [natZ, keyZ] at n
  | dn h1 h2 h3 h4 h5 h6 h7 h8 h9 => simp [natZ, keyZ] at n
mutual
theorem rdz (I : Inv X pins σ H s) : ∀ (d : PyData) (v : V) (u : Value), Dp X.K H v d → natZ d = true → RelV v u → RkZ X.prog X.w s.heap u d
  | .none, _, _, h, _, r => rkz_of (leaf_reads h rfl r) (fun q => nomatch q)
  | .bool b, _, _, h, _, r => rkz_of (leaf_reads h rfl r) (fun q => nomatch q)
  | .int i, _, _, h, _, r => rkz_of (leaf_reads h rfl r) (fun q => nomatch q)
  | .str x, _, _, h, _, r => rkz_of (leaf_reads h rfl r) (fun q => nomatch q)
  | .list ds, _, _, h, n, r => by
    obtain ⟨a, vs, rfl, hs, ha⟩ := dp_lst h
    cases r
    obtain ⟨its, rv, ⟨o, m, ho, hc, _, hd⟩, _⟩ := I.list hs
    exact rkz_lst ho hc hd (by simpa using rdzs I ds _ its ha (by simpa only [natZ] using n) rv)
  | .tuple ds, _, _, h, n, r => by
    obtain ⟨a, vs, rfl, hs, ha⟩ := dp_tup h
    cases r
    obtain ⟨its, rv, ⟨o, ho, hc, m, hd⟩, _⟩ := I.tuple hs
    exact rkz_tup ho hc hd (by simpa using rdzs I ds _ its ha (by simpa only [natZ] using n) rv)
  | .dict es, v, u, h, n, r => by
    have hv : ∃ a, v = .ref a := by cases h <;> exact ⟨_, rfl⟩
    obtain ⟨a, rfl⟩ := hv
    cases r
    obtain ⟨rd, hs, _⟩ := dk_obj I h n
    refine rkz_of rd fun q => ?_
    rw [List.mem_singleton.mp q] at hs
    exact absurd hs (by simp)
theorem rdzs (I : Inv X pins σ H s) : ∀ (ds : List PyData) (vs : List V) (us : List Value), DpAll X.K H vs ds → natZs ds = true → Vals vs us → RkZs X.prog X.w s.heap us ds
  | [], _, _, h, _, r => by
    cases dpa_nil h
    cases r
    exact rkz_nil
  | d :: ds, _, _, h, n, r => by
    obtain ⟨v, ws, rfl, h1, h2⟩ := dpa_cons h
    simp only [natZs, Bool.and_eq_true] at n
    cases r with
    | cons r1 r2 => exact rkz_cons (rdz I d _ _ h1 n.1 r1) (rdzs I ds _ _ h2 n.2 r2)
end
end
section
variable {K : Fg} {G : Ctx K} {te : TE} {ta : TA} {d d1 d2 : PyData} {ds : List PyData}
structure RzD (k b : Nat) (d : PyData) : Prop where
  nat : natZ d = true
  dep : d.depth ≤ k
  shw : d.showable = true
  len : d.shown.length ≤ b
theorem RzD.mono {k b k' b' : Nat} (r : RzD k b d) (hk : k ≤ k') (hb : b ≤ b') : RzD k' b' d := ⟨r.nat, Nat.le_trans r.dep hk, r.shw, Nat.le_trans r.len hb⟩
mutual
theorem natZ_lay : ∀ d : PyData, d.canLay0 = true → natZ d = true
  | .none, _ => by simp only [natZ]
  | .bool _, _ => by simp only [natZ]
  | .int _, _ => by simp only [natZ]
  | .str _, _ => by simp only [natZ]
  | .list xs, h => by simp only [natZ]; exact natZs_lay xs (by simpa only [PyData.canLay0] using h)
  | .tuple xs, h => by simp only [natZ]; exact natZs_lay xs (by simpa only [PyData.canLay0] using h)
  | .dict _, h => by simp [PyData.canLay0] at h
theorem natZs_lay : ∀ xs : List PyData, PyData.canLayAll0 xs = true → natZs xs = true
  | [], _ => by simp only [natZs]
  | x :: xs, h => by
    simp only [PyData.canLayAll0, Bool.and_eq_true] at h
    simp only [natZs, natZ_lay x h.1, natZs_lay xs h.2, Bool.and_self]
end
theorem Rp.z {k b : Nat} (r : Rp k b d) : RzD k b d := ⟨natZ_lay d r.lay, r.dep, r.shw, r.len⟩
/-! ### dict displays -/
def HfZ (te : TE) (G : Ctx K) (d : PyData) : Prop := ∀ (B : Bs) (F : Hp) (σ : L2.St) (H : Hp) (own : Ad → Nat), Sat B G F σ H own → ∃ v, Dp K F v d ∧ ∀ (H' : Hp) (Q : VK), Q v H' → te σ H' Q
theorem hf_int {i : Int} : HfZ (tC (.int i)) G (.int i) := fun B F σ H own s => ⟨.int i, .int i, fun _ _ q => q⟩
theorem ev_dnew : EV K tDNewK G (.dict []) := fun B F σ H own Q s k n nn => by
  have nf := none_dn s.fh nn
  obtain ⟨o4, s4, z4⟩ := s.step (same_new (o := .dK []) nf) (same_both s.fh) (same_new nn) (gr_new nn)
  exact k (.ref n) _ _ o4 s4 (.dk upd_same rfl .nil) (same_new nf)
theorem ev_disp1 {x : PySem.Str} (h : HfZ te G d) : EV K (tDisp [(tC (.str x), te)]) G (.dict [(.str x, d)]) := fun B F σ H own Q s k n nn => by
  obtain ⟨v, hv, go⟩ := h B F σ H own s
  refine go (upd H n (.dK [])) _ ⟨upd_same, [(.inr x, v)], rfl, (show 1 ≤ 15 by decide), ?_⟩
  rw [upd_upd]
  have nf := none_dn s.fh nn
  obtain ⟨o4, s4, z4⟩ := s.step (same_new (o := .dK [(.inr x, v)]) nf) (same_both s.fh) (same_new nn) (gr_new nn)
  exact k (.ref n) _ _ o4 s4 (.dk upd_same rfl (.cons (dp_up (same_new nf) _ _ hv) .nil)) (same_new nf)
/-! ### isinstance -/
def isTupZ : PyData → Bool
  | .tuple _ => true
  | _ => false
def isBolZ : PyData → Bool
  | .bool _ => true
  | _ => false
def isStrZ : PyData → Bool
  | .str _ => true
  | _ => false
def isIntZ : PyData → Bool
  | .int _ => true
  | .bool _ => true
  | _ => false
theorem tyZ_of {F H : Hp} {v : V} (s : Same F H) (h : Dp K F v d) (n : natZ d = true) : TyX K H v (.type (tyD d)) := by
  by_cases e : tyD d = "dict"
  · cases d with
    | dict es =>
      cases h with
      | dk e1 e2 e3 => exact .base (.dK (s _ _ e1))
      | ob h1 h2 h3 h4 => simp [natZ, keyZ] at n
      | dn h1 h2 h3 h4 h5 h6 h7 h8 h9 => simp [natZ, keyZ] at n
    | _ => simp [tyD] at e
  · exact ty_of s h e
theorem ev_isiZ {T : String} {b : Bool} (h : EV K te G d) (n : natZ d = true) (hk : kitB (tyD d) T = some b) : EV K (tCB (rIsi K) (tCons te (tCons (tC (.ty T)) tNil))) G (.bool b) := fun B F σ H own Q s k =>
  h B F σ H own _ s fun v F1 H1 own1 s1 hd f1 => ⟨v, .ty T, .type (tyD d), .type T, b, rfl, .ty T, tyZ_of s1.fh hd n, kit_ty hk, k _ F1 H1 own1 s1 (.bl b) f1⟩
theorem ev_isTupZ (h : EV K te G d) (n : natZ d = true) : EV K (tCB (rIsi K) (tCons te (tCons (tC (.ty "tuple")) tNil))) G (eB (isTupZ d)) := ev_isiZ h n (by cases d <;> first | exact (show kitB "NoneType" "tuple" = some false by decide +kernel) | exact (show kitB "bool" "tuple" = some false by decide +kernel) | exact (show kitB "int" "tuple" = some false by decide +kernel) | exact (show kitB "str" "tuple" = some false by decide +kernel) | exact (show kitB "list" "tuple" = some false by decide +kernel) | exact (show kitB "tuple" "tuple" = some true by decide +kernel) | exact (show kitB "dict" "tuple" = some false by decide +kernel))
theorem ev_isBolZ (h : EV K te G d) (n : natZ d = true) : EV K (tCB (rIsi K) (tCons te (tCons (tC (.ty "bool")) tNil))) G (eB (isBolZ d)) := ev_isiZ h n (by cases d <;> first | exact (show kitB "NoneType" "bool" = some false by decide +kernel) | exact (show kitB "bool" "bool" = some true by decide +kernel) | exact (show kitB "int" "bool" = some false by decide +kernel) | exact (show kitB "str" "bool" = some false by decide +kernel) | exact (show kitB "list" "bool" = some false by decide +kernel) | exact (show kitB "tuple" "bool" = some false by decide +kernel) | exact (show kitB "dict" "bool" = some false by decide +kernel))
theorem ev_isStrZ (h : EV K te G d) (n : natZ d = true) : EV K (tCB (rIsi K) (tCons te (tCons (tC (.ty "str")) tNil))) G (eB (isStrZ d)) := ev_isiZ h n (by cases d <;> first | exact (show kitB "NoneType" "str" = some false by decide +kernel) | exact (show kitB "bool" "str" = some false by decide +kernel) | exact (show kitB "int" "str" = some false by decide +kernel) | exact (show kitB "str" "str" = some true by decide +kernel) | exact (show kitB "list" "str" = some false by decide +kernel) | exact (show kitB "tuple" "str" = some false by decide +kernel) | exact (show kitB "dict" "str" = some false by decide +kernel))
theorem ev_isIntZ (h : EV K te G d) (n : natZ d = true) : EV K (tCB (rIsi K) (tCons te (tCons (tC (.ty "int")) tNil))) G (eB (isIntZ d)) := ev_isiZ h n (by cases d <;> first | exact (show kitB "NoneType" "int" = some false by decide +kernel) | exact (show kitB "bool" "int" = some true by decide +kernel) | exact (show kitB "int" "int" = some true by decide +kernel) | exact (show kitB "str" "int" = some false by decide +kernel) | exact (show kitB "list" "int" = some false by decide +kernel) | exact (show kitB "tuple" "int" = some false by decide +kernel) | exact (show kitB "dict" "int" = some false by decide +kernel))
/-! ### what is known of a value's kind -/
def itemsZ : PyData → List PyData
  | .tuple xs => xs
  | .list xs => xs
  | _ => []
def intZ : PyData → Int
  | .int i => i
  | _ => 0
def strZ : PyData → PySem.Str
  | .str x => x
  | _ => Inhabited.default
def isNumZ : PyData → Bool
  | .int _ => true
  | _ => false
def pairZ (d : PyData) : Int × Int := (intZ ((itemsZ d).getD 0 .none), intZ ((itemsZ d).getD 1 .none))
/-- a tuple of two numbers -/
def isPrZ : PyData → Bool
  | .tuple [.int _, .int _] => true
  | _ => false
theorem map_eDZ {α : Type} (f : α → PyData) (xs : List α) : xs.map f = (xs.map f).map eD := (List.map_id' _).symm
theorem as_tupZ (h : isTupZ d = true) : d = eSq eD (itemsZ d) := by
  cases d with
  | tuple xs => show _ = PyData.tuple (xs.map fun d => d); rw [List.map_id']
  | _ => exact nomatch h
theorem as_intZ (h : isNumZ d = true) : d = .int (intZ d) := by
  cases d with
  | int i => rfl
  | _ => exact nomatch h
theorem as_strZ (h : isStrZ d = true) : d = .str (strZ d) := by
  cases d with
  | str i => rfl
  | _ => exact nomatch h
theorem as_pairZ (h : isPrZ d = true) : d = eP (pairZ d) := by
  unfold isPrZ at h
  split at h
  · rfl
  · exact nomatch h
end
/-! ### xs == [], t == () for items of any kind -/
section
variable {X : Cx}
variable {K : Fg} {α : Type} {f : α → PyData} {xs : List α} {neg : Bool}
end
end Fz

set_option Elab.async false
set_option linter.all false
set_option maxRecDepth 100000
set_option maxHeartbeats 1000000
/-! part Ze: plain facts of values of any kind: numbers, positions, intervals, sizes of texts -/
namespace Fz
open PySem PySem.Spec PyProof.Rows L2
section
variable {d : PyData} {ds : List PyData} {lo hi : Int} {k b : Nat}
/-! ### an own list by + with draws -/
section
variable {K : Fg} {G : Ctx K} {ta tb : TE} {P : List PyData → Ctx K → Prop}
theorem rd_catLZ {α : Type} {f : α → PyData} {xs ys : List α} {d1 d2 : PyData} (e1 : d1 = eLs f xs) (e2 : d2 = eLs f ys) (h : xs.length + ys.length ≤ 100000) : RD2 K (rCatD K) d1 d2 (eLs f (xs ++ ys)) := by
  rw [e1, e2]; exact rd_catL h
end
/-! ### numbers, positions, intervals -/
theorem num_of (h : isIntZ d = true) (g : (!isBolZ d) = true) : isNumZ d = true := by
  cases d with
  | int i => rfl
  | bool b => exact absurd g (show ¬ ((!true) = true) from fun q => nomatch q)
  | _ => exact absurd h (fun q => nomatch q)
def numZ (d : PyData) (lo hi : Int) : Bool := isIntZ d && (!isBolZ d && (decide (lo ≤ intZ d) && decide (intZ d ≤ hi)))
def posZ (d : PyData) : Bool := numZ d 0 1000000000000
theorem numZ_iff : numZ d lo hi = true ↔ isNumZ d = true ∧ lo ≤ intZ d ∧ intZ d ≤ hi := by
  unfold numZ
  simp only [Bool.and_eq_true, decide_eq_true_iff]
  constructor
  · rintro ⟨a, b, c, e⟩
    exact ⟨num_of a b, c, e⟩
  · rintro ⟨a, c, e⟩
    cases d <;> first | exact ⟨rfl, rfl, c, e⟩ | (exact nomatch a)
def ivZ : PyData → Bool
  | .tuple [a, b] => posZ a && (posZ b && decide (intZ a ≤ intZ b))
  | _ => false
theorem tup2_of (h : ((!isTupZ d) || (!decide (((itemsZ d).length : Int) = 2))) = false) : ∃ a b, d = .tuple [a, b] := by
  cases d with
  | tuple xs =>
    match xs, h with
    | [a, b], _ => exact ⟨a, b, rfl⟩
    | [], h => exact nomatch h
    | [_], h => exact nomatch h
    | a :: b :: c :: r, h =>
      have e : ((((a :: b :: c :: r).length : Nat) : Int) = 2) = False := by
        simp only [List.length_cons]; exact propext ⟨fun q => by omega, False.elim⟩
      simp only [isTupZ, itemsZ, e, decide_false, Bool.not_true, Bool.not_false, Bool.or_true] at h
      exact nomatch h
  | _ => exact nomatch h
theorem tup2_no (h : ((!isTupZ d) || (!decide (((itemsZ d).length : Int) = 2))) = true) : ivZ d = false := by
  cases d with
  | tuple xs =>
    match xs, h with
    | [a, b], h => exact nomatch h
    | [], h => rfl
    | [_], h => rfl
    | a :: b :: c :: r, h => rfl
  | _ => rfl
theorem tup_not (h : (!isTupZ d) = false) : isTupZ d = true := by
  cases e : isTupZ d with
  | true => rfl
  | false => rw [e] at h; exact nomatch h
theorem ixz0 {a b : PyData} : Ix (itemsZ (.tuple [a, b])) 0 := ⟨by show -(2 : Int) ≤ 0; decide, by show (0 : Int) < 2; decide⟩
theorem ixz1 {a b : PyData} : Ix (itemsZ (.tuple [a, b])) 1 := ⟨by show -(2 : Int) ≤ 1; decide, by show (1 : Int) < 2; decide⟩
theorem nat2 {a b : PyData} (n : natZ (.tuple [a, b]) = true) : natZ a = true ∧ natZ b = true := by
  have := natZs_mem (ds := [a, b]) (by simpa only [natZ] using n)
  exact ⟨this a List.mem_cons_self, this b (List.mem_cons_of_mem _ List.mem_cons_self)⟩
end
end Fz

set_option Elab.async false
set_option linter.all false
set_option maxRecDepth 100000
set_option maxHeartbeats 1000000
/-! part Zf: a measure of values of any kind that parts and replaced parts keep -/
namespace Fz
open PySem PySem.Spec PyProof.Rows L2
mutual
/-- no less than the length of the value's text -/
def szZ : PyData → Nat
  | .none => (PyData.none).shown.length
  | .bool b => (PyData.bool b).shown.length
  | .int i => (PyData.int i).shown.length
  | .str x => (PyData.str x).shown.length
  | .list xs => szZs xs + 3
  | .tuple xs => szZs xs + 3
  | .dict es => (PyData.dict es).shown.length
def szZs : List PyData → Nat
  | [] => 0
  | x :: xs => szZ x + 2 + szZs xs
end
mutual
/-- numbers within B, dicts small -/
def okZ (B : Nat) : PyData → Bool
  | .none => true
  | .bool _ => true
  | .int i => decide (i.natAbs ≤ B)
  | .str _ => true
  | .list xs => okZs B xs
  | .tuple xs => okZs B xs
  | .dict es => (es.all fun e => keyZ e.1 && leafZ e.2) && PyData.showableKv es
def okZs (B : Nat) : List PyData → Bool
  | [] => true
  | x :: xs => okZ B x && okZs B xs
end
section
variable {B : Nat}
theorem okZs_mem : ∀ {ds : List PyData}, okZs B ds = true → ∀ d ∈ ds, okZ B d = true
  | d :: ds, h, x, hx => by
    simp only [okZs, Bool.and_eq_true] at h
    rcases List.mem_cons.mp hx with e | e
    · rw [e]; exact h.1
    · exact okZs_mem h.2 x e
mutual
theorem okZ_nat : ∀ d : PyData, okZ B d = true → natZ d = true
  | .none, _ => by simp only [natZ]
  | .bool _, _ => by simp only [natZ]
  | .int _, _ => by simp only [natZ]
  | .str _, _ => by simp only [natZ]
  | .list xs, h => by simp only [natZ]; exact okZs_nat xs (by simpa only [okZ] using h)
  | .tuple xs, h => by simp only [natZ]; exact okZs_nat xs (by simpa only [okZ] using h)
  | .dict es, h => by
    simp only [okZ, Bool.and_eq_true] at h
    simp only [natZ]; exact h.1
theorem okZs_nat : ∀ xs : List PyData, okZs B xs = true → natZs xs = true
  | [], _ => by simp only [natZs]
  | x :: xs, h => by
    simp only [okZs, Bool.and_eq_true] at h
    simp only [natZs, okZ_nat x h.1, okZs_nat xs h.2, Bool.and_self]
end
mutual
theorem okZ_shw (hB : B < 10 ^ 30) : ∀ d : PyData, okZ B d = true → d.showable = true
  | .none, _ => by simp only [PyData.showable]
  | .bool _, _ => by simp only [PyData.showable]
  | .int i, h => by
    simp only [PyData.showable]
    simp only [okZ, decide_eq_true_iff] at h
    exact decide_eq_true (log_lt (Nat.lt_of_le_of_lt h hB))
  | .str _, _ => by simp only [PyData.showable]
  | .list xs, h => by simp only [PyData.showable]; exact okZs_shw hB xs (by simpa only [okZ] using h)
  | .tuple xs, h => by simp only [PyData.showable]; exact okZs_shw hB xs (by simpa only [okZ] using h)
  | .dict es, h => by
    simp only [okZ, Bool.and_eq_true] at h
    simp only [PyData.showable]; exact h.2
theorem okZs_shw (hB : B < 10 ^ 30) : ∀ xs : List PyData, okZs B xs = true → PyData.showableAll xs = true
  | [], _ => by simp only [PyData.showableAll]
  | x :: xs, h => by
    simp only [okZs, Bool.and_eq_true] at h
    simp only [PyData.showableAll, okZ_shw hB x h.1, okZs_shw hB xs h.2, Bool.and_self]
end
mutual
theorem okZ_up {C : Nat} (hB : B ≤ C) : ∀ d : PyData, okZ B d = true → okZ C d = true
  | .none, _ => by simp only [okZ]
  | .bool _, _ => by simp only [okZ]
  | .int i, h => by
    simp only [okZ, decide_eq_true_iff] at h ⊢
    exact Nat.le_trans h hB
  | .str _, _ => by simp only [okZ]
  | .list xs, h => by simp only [okZ] at h ⊢; exact okZs_up hB xs h
  | .tuple xs, h => by simp only [okZ] at h ⊢; exact okZs_up hB xs h
  | .dict es, h => by simp only [okZ] at h ⊢; exact h
theorem okZs_up {C : Nat} (hB : B ≤ C) : ∀ xs : List PyData, okZs B xs = true → okZs C xs = true
  | [], _ => by simp only [okZs]
  | x :: xs, h => by
    simp only [okZs, Bool.and_eq_true] at h
    simp only [okZs, okZ_up hB x h.1, okZs_up hB xs h.2, Bool.and_self]
end
mutual
theorem sz_shown : ∀ d : PyData, d.shown.length ≤ szZ d
  | .none => by simp only [szZ]; exact Nat.le_refl _
  | .bool _ => by simp only [szZ]; exact Nat.le_refl _
  | .int _ => by simp only [szZ]; exact Nat.le_refl _
  | .str _ => by simp only [szZ]; exact Nat.le_refl _
  | .list xs => by
    simp only [PyData.shown, szZ]
    have a := PySem.listText_len_le (PyData.shownAll xs)
    have b := szs_shown xs
    omega
  | .tuple xs => by
    simp only [PyData.shown, szZ]
    have a := PySem.tupleText_len_le (PyData.shownAll xs)
    have b := szs_shown xs
    omega
  | .dict _ => by simp only [szZ]; exact Nat.le_refl _
theorem szs_shown : ∀ xs : List PyData, ((PyData.shownAll xs).map (·.length)).sum + 2 * (PyData.shownAll xs).length ≤ szZs xs
  | [] => by simp only [PyData.shownAll, szZs]; exact Nat.le_refl _
  | x :: xs => by
    simp only [PyData.shownAll, szZs, List.map_cons, List.sum_cons, List.length_cons]
    have a := sz_shown x
    have b := szs_shown xs
    omega
end
theorem szs_sub {l m : List PyData} (h : l.Sublist m) : szZs l ≤ szZs m := by
  induction h with
  | slnil => exact Nat.le_refl _
  | cons a _ ih => simp only [szZs]; omega
  | cons_cons a _ ih => simp only [szZs]; omega
theorem szs_mem {x : PyData} {l : List PyData} (h : x ∈ l) : szZ x + 2 ≤ szZs l := by
  have := szs_sub (List.singleton_sublist.mpr h)
  simp only [szZs] at this
  omega
theorem szs_len : ∀ l : List PyData, 2 * l.length ≤ szZs l
  | [] => Nat.zero_le _
  | x :: l => by
    have := szs_len l
    simp only [szZs, List.length_cons]; omega
theorem dep_mem {x : PyData} : ∀ {l : List PyData}, x ∈ l → x.depth ≤ PyData.depthAll l
  | y :: l, h => by
    rcases List.mem_cons.mp h with e | e
    · rw [e]; exact Nat.le_max_left _ _
    · exact Nat.le_trans (dep_mem e) (Nat.le_max_right _ _)
/-- depth, text and numbers within bounds -/
structure VZ (k s B : Nat) (d : PyData) : Prop where
  ok : okZ B d = true
  dep : d.depth ≤ k
  sz : szZ d ≤ s
variable {d : PyData} {k s : Nat} {ds : List PyData}
theorem VZ.mono {k' s' C : Nat} (h : VZ k s B d) (hk : k ≤ k') (hs : s ≤ s') (hB : B ≤ C) : VZ k' s' C d := ⟨okZ_up hB d h.ok, Nat.le_trans h.dep hk, Nat.le_trans h.sz hs⟩
theorem VZ.nat (h : VZ k s B d) : natZ d = true := okZ_nat d h.ok
theorem VZ.items (h : VZ k s B d) (t : isTupZ d = true) : ∃ k', k = k' + 1 ∧ (∀ x ∈ itemsZ d, okZ B x = true ∧ x.depth ≤ k') ∧ szZs (itemsZ d) + 3 ≤ s := by
  cases d with
  | tuple xs =>
    have hd := h.dep
    simp only [PyData.depth] at hd
    have ho := h.ok
    simp only [okZ] at ho
    have hz := h.sz
    simp only [szZ] at hz
    exact ⟨k - 1, by omega, fun x hx => ⟨okZs_mem ho x hx, by have := dep_mem (l := xs) hx; omega⟩, hz⟩
  | _ => exact nomatch t
/-- a value that may be bent -/
def OldZ (v : PyData) : Prop := ∃ k s B, 10 ^ 29 ≤ B ∧ B + 10 ^ 12 < 10 ^ 30 ∧ s ≤ 60000 ∧ VZ k s B v
theorem OldZ.nat (h : OldZ d) : natZ d = true := by
  obtain ⟨k, s, B, _, _, _, v⟩ := h
  exact v.nat
theorem OldZ.len (h : OldZ d) : (itemsZ d).length ≤ 30000 := by
  obtain ⟨k, s, B, _, _, hs, v⟩ := h
  have z := v.sz
  cases d with
  | tuple xs =>
    simp only [szZ] at z
    have := szs_len xs
    show xs.length ≤ _
    omega
  | list xs =>
    simp only [szZ] at z
    have := szs_len xs
    show xs.length ≤ _
    omega
  | _ => exact Nat.zero_le _
theorem OldZ.at (h : OldZ d) (t : isTupZ d = true) {i : Int} (hi : Ix (itemsZ d) i) : OldZ (atL (itemsZ d) i) := by
  obtain ⟨k, s, B, h1, h2, hs, v⟩ := h
  obtain ⟨k', rfl, ho, hz⟩ := v.items t
  have m := atL_memx hi
  have := szs_mem m
  exact ⟨k', s, B, h1, h2, hs, (ho _ m).1, (ho _ m).2, by omega⟩
end
end Fz

set_option Elab.async false
set_option linter.all false
set_option maxRecDepth 100000
set_option maxHeartbeats 1000000
/-! part Zg: bools as numbers; the longest tuple within a value -/
namespace Fz
open PySem PySem.Spec PyProof.Rows L2
section
variable {X : Cx} {K : Fg} {d : PyData} {j : Int}
end
/-! ### the longest tuple or list within -/
mutual
def wdZ : PyData → Nat
  | .list xs => max xs.length (wdZs xs)
  | .tuple xs => max xs.length (wdZs xs)
  | .none => 0
  | .bool _ => 0
  | .int _ => 0
  | .str _ => 0
  | .dict _ => 0
def wdZs : List PyData → Nat
  | [] => 0
  | x :: xs => max (wdZ x) (wdZs xs)
end
section
variable {d : PyData} {n : Nat}
end
end Fz

set_option Elab.async false
set_option linter.all false
set_option maxRecDepth 100000
set_option maxHeartbeats 4000000
/-! part Xp: mirrors of try; defs that may raise, called where they do not -/
namespace Fz
open PySem PySem.Spec PyProof.Rows L2
/-- a try: its body takes what is wished of exceptions, the clauses are that wish -/
def tryW {σ : Type} (b : (Str → List (Str × PyData) → σ → Prop) → Prop) (hd : Str → List (Str × PyData) → σ → Prop) : Prop := b hd
section
variable {K : Fg} {G : Ctx K} {E : JE K} {EX : XW K} {tb : WX → TS} {l : List Cls1} {σ : Type} {cn : Str} {fd : List (Str × PyData)} {G' : Ctx K} {C : Ad}
theorem sx_tryW {b : (Str → List (Str × PyData) → σ → Prop) → Prop} {hd : Str → List (Str × PyData) → σ → Prop} (h : tryW b hd) (ctx : σ → Ctx K) (h1 : ∀ X : Str → List (Str × PyData) → σ → Prop, b X → SJX K tb G E (fun cn fd G' => ∃ s, X cn fd s ∧ G' = ctx s))
    (h2 : ∀ cn fd s C, hd cn fd s → PySem.W.nsIn K mainGlobals cn = some (some (.ref C)) → HdX K E EX cn fd (ctx s) C l) : SJX K (tTryN l tb) G E EX :=
  sx_tryN (h1 hd h) fun cn fd G' C ⟨s, q, e⟩ hC => by subst e; exact h2 cn fd s C q hC
theorem hdx_nil (h : EX cn fd G') : HdX K E EX cn fd G' C [] := h
theorem hdx_cons {m : Value → Option Bool} {i : Nat} {ts : Addr → Value → Option Addr → TS} {r : List Cls1} (b : Bool) (hb : m (.ref C) = some b) (h1 : b = true → ∀ a d, (d = none ↔ fd = []) → SJ K (ts a (.ref C) d) (G'.set i (.ow (exR a d fd))) (unJ E i)) (h2 : b = false → HdX K E EX cn fd G' C r) :
    HdX K E EX cn fd G' C ((m, i, ts) :: r) := ⟨b, hb, h1, h2⟩
theorem exm2 {K : PySem.W.Frag} {c u v : Value} {x y : Bool} (h1 : PySem.W.exmOne K c u = some x) (h2 : PySem.W.exmOne K c v = some y) : PySem.W.exmAny K c [u, v] = some (x || y) := by
  unfold PySem.W.exmAny
  rw [h1]
  unfold PySem.W.exmAny
  rw [h2]
  unfold PySem.W.exmAny
  cases x <;> cases y <;> rfl
end
section
variable {K : Fg} {ι : Type} {P : Program} {w : World} {mg : Str → Option Value} {base : Heap} {k : Nat} {f : Ad} {fd : FuncData} {ps : List Str}
end
end Fz

set_option Elab.async false
set_option linter.all false
set_option maxRecDepth 100000
set_option maxHeartbeats 1000000
/-! part Xq: edits of plans and their errors, plain -/
namespace Fz
open PySem PySem.Spec PyProof.Rows L2
end Fz

set_option Elab.async false
set_option linter.all false
set_option maxRecDepth 100000
set_option maxHeartbeats 4000000
/-! part Xs: an __init__ that may raise -/
namespace Fz
open PySem PySem.Spec PyProof.Rows L2
section
variable {X : Cx} {W : WX} {k : Nat} {f C : Ad} {fd : FuncData} {ps : List Str} {sp : Sp} {dvs : List V} {ds : List Value} {x : Str} {p pos : Pos} {e : Expr} {es : List Expr} {t : TA}
end
/-! ### the def itself -/
section
variable {K : Fg} {ι : Type} {P : Program} {w : World} {mg : Str → Option Value} {base : Heap} {k : Nat} {f : Ad} {fd : FuncData} {ps N : List Str} {x qual : Str} {args : ι → List PyData} {pre : ι → Prop} {R : ι → Ad → Res K} {res : ι → PyData → (Ad → Res K) → Prop} {exc : ι → Str → List (Str × PyData) → (Ad → Res K) → Prop}
end
/-! ### objects that are data once they are made -/
section
variable {K : Fg} {ι β : Type} {G : Ctx K} {EX : XW K} {Pj : PyData → Ctx K → Prop} {cn0 : Str} {args : ι → List PyData} {fl : β → List (Str × PyData)}
end
end Fz

set_option Elab.async false
set_option linter.all false
set_option maxRecDepth 100000
set_option maxHeartbeats 4000000
/-! part Xe: defs that are given a caught error, called in its suite -/
namespace Fz
open PySem PySem.Spec PyProof.Rows L2
theorem mark_same {A : Around} {v : Value} (h : A.handled = some v) : A.mark (some v) = A := by
  cases A
  simp only [Around.mark] at *
  simp_all
/-- where the error at a is handled: sp a cls d says what comes of a call -/
structure FnE (P : Program) (w : World) (K : PySem.W.Frag) (mg : Str → Option Value) (base : Heap) (CX : CXT) (k : Nat) (f : Addr) (fd : FuncData) (ps : List Str) (sp : Ad → Value → Option Ad → Sp) : Prop where
  len : ∀ a cls d vs H Q E, sp a cls d vs H Q E → vs.length = ps.length
  run : ∀ (A : Around) (outer : List Env) (s : Shared) (H : Hp) (args : Args) (us : List Value) (vs : List V) (Q : VK) (E : XK) (a : Ad) (oe : Obj) (cls : Value) (d : Option Ad), L2H.RoomH k A → A.handled = some (.ref a) → A.guards = some [] →
    L2N.Zn cls d oe → (∃ fs, oe.data = .fields fs) → L2H.PinOk outer H s (a, oe) → Env0 P w K mg base A outer s H → BindsTo s fd args (ps.zip us) → Vals vs us → sp a cls d vs H Q E → codeAny (model P w) A (.call (.ref f) args) (CR CX outer P w H s Q E) s
section
variable {P : Program} {w : World} {K : PySem.W.Frag} {mg : Str → Option Value} {base : Heap} {CX : CXT} {k : Nat} {f : Addr} {fd : FuncData} {ps N : List Str} {sp : Ad → Value → Option Ad → Sp}
theorem okE0 {x qual : Str} {st : Stmt} (F : Fun K x qual st f fd) (S : FnScope N ps (defScope st)) (len : ∀ a cls d vs H Q E, sp a cls d vs H Q E → vs.length = ps.length)
    (hb0 : ∀ (cdv : Value) (A : Around) (outer : List Env) (s : Shared) (H : Hp) (vs : List V) (Q : VK) (E : XK) (a : Ad) (oe : Obj) (cls : Value) (d : Option Ad), L2H.RoomH k (A.deeper (envOfC qual (defScope st) s.heap.objs.size f cdv)) → A.guards = some [] → L2N.Zn cls d oe → (∃ fs, oe.data = .fields fs) → sp a cls d vs H Q E →
      ∃ t, PSs ((cxOf CX P w K mg base N qual (defScope st) f cdv A outer s H E).suite a ((a, oe) :: [])) (defBody st) t ∧ t { nx := fun _ H' => Q .non H', rt := Q } (start N vs) H) :
    FnE P w K mg base CX (k + 1) f fd ps sp := by
  obtain ⟨oc, od, kV, doc, pm, an, cdv, ct, osl, rfl, lk, hcd⟩ := F.ex
  refine ⟨len, fun A outer s H args us vs Q E a oe cls d hr hh hg hz hf hpin e0 bt rv hsp => ?_⟩
  have lens := len _ _ _ vs H Q E hsp
  have kin : K.In s.heap := e0.mod.kin.keeps fun b o z => (e0.bs b o z).1
  have nolim : s.heap.NoLimit := e0.mod.nolimit.keeps fun b o z => (e0.bs b o z).1
  have kinds : ∀ y ∈ ps.zip us, (defScope st).names.lookup y.1 = some .local ∨ ((defScope st).names.lookup y.1 = some .cell ∧ ((cellsFrom (s.heap.objs.size + 1) (defScope st).names []).lookup y.1).isSome = true) := by
    rintro ⟨n, v⟩ hy
    cases S.par n (List.of_mem_zip hy).1 with
    | inl q => exact .inl q
    | inr q => exact .inr ⟨q, PySem.W.cellsFrom_some _ _ _ (.inl q)⟩
  refine codeAny_call_function hr.depth (kin _ _ lk) rfl S.co S.gen rfl (PySem.W.codeRec_of kin hcd) (bt _ _ _ _ ?_)
  refine wpAny_newFunctionEnv_cells S.kind kinds ?_
  rintro env rfl s1 x
  refine ⟨nolim.keeps x.toInCall.keep, codeAny_func ?_⟩
  obtain ⟨t, ht, hq⟩ := hb0 cdv A outer s H vs Q E a oe cls d (hr.deeper _) hg hz hf hsp
  have I0 : Inv (L2H.cxH CX P w K mg base N qual (defScope st) f cdv A outer s H E (a, oe)) [] (start N vs) H s1 := L2H.inv_startH S hpin e0 lens rv x
  have hm : (A.deeper (envOfC qual (defScope st) s.heap.objs.size f cdv)).mark (some (.ref a)) = A.deeper (envOfC qual (defScope st) s.heap.objs.size f cdv) := mark_same hh
  have ec : (cxOf CX P w K mg base N qual (defScope st) f cdv A outer s H E).suite a ((a, oe) :: []) = { L2H.cxH CX P w K mg base N qual (defScope st) f cdv A outer s H E (a, oe) with xe := fun _ _ => False } := by
    show ({ cxOf CX P w K mg base N qual (defScope st) f cdv A outer s H E with A := (A.deeper (envOfC qual (defScope st) s.heap.objs.size f cdv)).mark (some (.ref a)), calm := false, pn := [(a, oe)], xe := fun _ _ => False } : Cx) = _
    rw [hm]
    rfl
  rw [ec] at ht
  refine wpAny_mono (ht.run [] s1 (start N vs) H _ (I0.wish _) hq) ?_ (fun _ _ z => z.elim)
  intro fl s' hs
  cases fl with
  | ret u => obtain ⟨v, σ', H', J, r, q⟩ := hs; exact ⟨v, H', J.os, J.bare, J.base, J.hok, r, q⟩
  | next => obtain ⟨σ', H', J, q⟩ := hs; exact ⟨.non, H', J.os, J.bare, J.base, J.hok, rfl, q⟩
  | brk => exact False.elim (let ⟨_, _, _, q⟩ := hs; q)
  | cont => exact False.elim (let ⟨_, _, _, q⟩ := hs; q)
end
section
variable {X : Cx} {CX : CXT} {k : Nat} {f : Addr} {fd : FuncData} {ps : List Str} {sp : Ad → Value → Option Ad → Sp} {x : Str} {q pos : Pos} {e : Expr} {es : List Expr} {t : TA} {a : Ad} {oe : Obj} {cls : Value} {d : Option Ad} {pn : List (Addr × Obj)}
def tCallE (sp : Sp) (t : TA) : TE := fun σ H Q => t σ H fun vs H1 => sp vs H1 Q (fun _ _ _ => False)
theorem pe_callE (F : FnE X.prog X.w X.K X.mg X.base CX0 k f fd ps sp) (hr : L2H.RoomH k X.A) (hgd : X.A.guards = some []) (hz : L2N.Zn cls d oe) (hf : ∃ fs, oe.data = .fields fs) (hg : Gl X x) (hm : X.mg x = some (.ref f)) (hk : PySem.W.keepIn X.K (.ref f) = true) (hb : Binds X.K fd ps [])
    (ha : PA (X.suite a ((a, oe) :: pn)) (e :: es) t) (hdb : (x == ("__debug__" : Str)) = false := by decide) (he : starEach (e :: es) X.env = (false, eval e X.env) :: starEach es X.env := by rfl) (hpl : (backTo pos (starEach es X.env)).any (·.1) = false := by rfl) :
    PE (X.suite a ((a, oe) :: pn)) (.Call (.Name x q) (e :: es) [] pos) (tCallE (sp a cls d) t) := by
  refine ⟨fun pins s σ H Q I h => ?_⟩
  refine wpAny_Call_Name_kw (ld_glob (X := X.suite a ((a, oe) :: pn)) I hg hm ?_ hdb)
  refine PySem.W.callWith_K (h₀ := X.base) I.ok.mod.kin hk (thn (ha.run pos pins s σ H _ I h) fun us s1 ⟨vs, H1, I1, r, q⟩ => ⟨I1.kIn, ?_⟩) he hpl
  have hl : us.length = ps.length := by rw [← r.length]; exact F.len _ _ _ _ _ _ _ q
  have b := hb s1 us I1.kIn (by rw [List.append_nil]; exact hl)
  rw [List.append_nil] at b
  have P1 := I1.pin (a, oe) (List.mem_append_left _ List.mem_cons_self)
  have hpin : L2H.PinOk X.stack H1 s1 (a, oe) := ⟨P1.1, P1.2.1, fun hm => (List.mem_cons.mp (I1.stkSub a hm)).elim P1.2.2.1 P1.2.2.2.1, P1.2.2.2.2⟩
  refine wpAny_call (codeAny_mono (F.run (X.A.mark (some (.ref a))) X.stack s1 H1 ⟨us, []⟩ us vs Q _ a oe cls d ⟨hr.dp, hr.un⟩ rfl hgd hz hf hpin I1.env0 b r q) fun r s' hq => ?_)
  match r, hq with
  | .error e, hq => exact hq.elim
  | .ok (.ret u), hq => exact I1.after hq
  | .ok .next, hq => exact hq.elim
  | .ok .brk, hq => exact hq.elim
  | .ok .cont, hq => exact hq.elim
end
section
variable {K : Fg} {P : Program} {w : World} {mg : Str → Option Value} {base : Heap} {k : Nat} {f : Ad} {fd0 : FuncData} {N : List Str} {x qual p0 : Str} {st : Stmt} {pre : Str → List (Str × PyData) → Prop} {res : Str → List (Str × PyData) → PyData → Prop}
/-- called with the caught error (class cn, fields fd), where pre holds: some x with res comes back -/
def spE (K : Fg) (pre : Str → List (Str × PyData) → Prop) (res : Str → List (Str × PyData) → PyData → Prop) : Ad → Value → Option Ad → Sp := fun a cls d vs H Q _ => ∃ (cn : Str) (fd : List (Str × PyData)) (C : Ad) (F : Hp), cls = .ref C ∧ PySem.W.nsIn K mainGlobals cn = some (some (.ref C)) ∧ (d = none ↔ fd = []) ∧
  Same F H ∧ vs = [.ref a] ∧ (∀ dd, d = some dd → ∃ fs : List (Str × V), F dd = some (.xd fs) ∧ fs.map (·.1) = fd.map (·.1) ∧ DpAll K F (fs.map (·.2)) (fd.map (·.2))) ∧ pre cn fd ∧ ∀ v y F' H', res cn fd y → Same F F' → Same F' H' → Same H H' → Gr F F' H → Dp K F' v y → Q v H'
theorem okE (F : Fun K x qual st f fd0) (S : FnScope N [p0] (defScope st))
    (hb : ∀ (cdv : Value) (A : Around) (outer : List Env) (s : Shared) (H : Hp) (E : XK), L2H.RoomH k (A.deeper (envOfC qual (defScope st) s.heap.objs.size f cdv)) → A.guards = some [] →
      ∃ t : Ad → Value → Option Ad → TS, (∀ (a : Ad) (oe : Obj) (cls : Value) (d : Option Ad), L2N.Zn cls d oe → (∃ fs, oe.data = .fields fs) → PSs ((cxOf CX0 P w K mg base N qual (defScope st) f cdv A outer s H E).suite a ((a, oe) :: [])) (defBody st) (t a cls d)) ∧
        ∀ cn fd C a d, pre cn fd → PySem.W.nsIn K mainGlobals cn = some (some (.ref C)) → (d = none ↔ fd = []) → SJ K (t a (.ref C) d) (.ow (exR a d fd) :: List.replicate (N.length - 1) .un) ⟨fun _ => res cn fd .none, fun y _ => res cn fd y, fun _ => False, fun _ => False⟩) :
    FnE P w K mg base CX0 (k + 1) f fd0 [p0] (spE K pre res) := by
  refine okE0 F S (fun a cls d vs H Q E h => ?_) (fun cdv A outer s H vs Q E a oe cls d hr hg hz hf h => ?_)
  · obtain ⟨cn, fd, C, F0, _, _, _, _, rfl, _⟩ := h
    rfl
  · obtain ⟨cn, fd, C, F0, rfl, hC, hd, f0, rfl, hx, hp, q⟩ := h
    obtain ⟨t, ht, hs⟩ := hb cdv A outer s H E hr hg
    refine ⟨t a (.ref C) d, ht a oe _ d hz hf, ?_⟩
    have le := scope_le S
    obtain ⟨n, hn⟩ : ∃ n, N.length = n + 1 := ⟨N.length - 1, by have : 1 ≤ N.length := le; omega⟩
    have s0 : Sat (K := K) ⟨F0, H, fun _ _ => False⟩ (List.replicate (n + 1) .un) F0 (List.replicate (n + 1) none) H (fun _ => 0) := by
      refine ⟨?_, f0, fun _ _ _ => rfl, fun a z => absurd rfl z, fun i t y h1 h2 => ?_, Same.refl _, fun a o e => .inl e, fun a z => z, fun a o z _ => z, fun a z _ => absurd rfl z⟩
      · rw [List.length_replicate, List.length_replicate]
      · rw [List.getElem?_replicate] at h1
        split at h1
        · cases h1; trivial
        · exact nomatch h1
    obtain ⟨o1, s1⟩ := s0.fresh 0 (v := .ref a) (r := exR a d fd) (A := fun _ => False) (fun _ z => z.elim) ⟨rfl, hx⟩
    have e1 : start N [V.ref a] = (List.replicate (n + 1) none).set 0 (some (.ref a)) := by
      unfold L2.start
      rw [hn]
      rfl
    have fin : ∀ {y v G' F' σ' H' own'}, res cn fd y → Sat (K := K) ⟨F0, H, fun _ _ => False⟩ G' F' σ' H' own' → Dp K F' v y → Q v H' := fun {y v G' F' σ' H' own'} r s' hv =>
      q v y F' H' r s'.b0 s'.fh (fun a o e => s'.bh a o e fun _ z => z) (fun a o e => s'.bf a o e) hv
    have go := hs cn fd C a d hp hC hd
    rw [hn] at go
    rw [e1]
    exact go ⟨F0, H, fun _ _ => False⟩ F0 _ H _ { nx := fun _ H' => Q .non H', rt := Q } (fun _ _ z => z.elim) s1
      ⟨fun G' F' σ' H' own' r s' _ => fin r s' .non, fun d v G' F' σ' H' own' r s' hv _ => fin r s' hv, fun G' F' σ' H' own' r s' _ => r.elim, fun G' F' σ' H' own' r s' _ => r.elim⟩
end
section
variable {K : Fg} {G : Ctx K} {i : Nat} {a C : Ad} {d : Option Ad} {cn : Str} {fd : List (Str × PyData)} {pre : Str → List (Str × PyData) → Prop} {r : Str → List (Str × PyData) → PyData}
theorem ev_callE {res : Str → List (Str × PyData) → PyData → Prop} {y0 : PyData} (hi : G[i]? = some (.ow (exR a d fd))) (hC : PySem.W.nsIn K mainGlobals cn = some (some (.ref C))) (hd : d = none ↔ fd = []) (hp : pre cn fd) (hr : ∀ y, res cn fd y → y = y0) :
    EV K (tCallE (spE K pre res a (.ref C) d) (tCons (tVar i) tNil)) G y0 := fun B F σ H own Q s k => by
  obtain ⟨y, hy, v', rfl, hR⟩ := s.slot hi
  obtain ⟨e, hx⟩ := hR
  subst e
  refine ⟨.ref a, hy, cn, fd, C, F, rfl, hC, hd, s.fh, rfl, hx, hp, fun v x F2 H2 hr2 f2 fh hh g hv => ?_⟩
  obtain rfl := hr x hr2
  obtain ⟨own2, s2, _⟩ := s.step f2 fh hh g
  exact k v F2 H2 own2 s2 hv f2
end
/-- such a def, as it stands behind the top -/
def CalE (P : Program) (w : World) (K : Fg) (mg : Str → Option Value) (base : Heap) (k : Nat) (x : Str) (ps : List Str) (sp : Ad → Value → Option Ad → Sp) : Prop :=
  ∃ (f : Ad) (fd : FuncData), FnE P w K mg base CX0 k f fd ps sp ∧ PySem.W.keepIn K (.ref f) = true ∧ Binds K fd ps [] ∧ mg x = some (.ref f)
theorem cale_mk {P : Program} {w : World} {K : Fg} {mg : Str → Option Value} {base : Heap} {k : Nat} {x : Str} {ps : List Str} {sp : Ad → Value → Option Ad → Sp} {st : Stmt} {f : Ad} {fd : FuncData} (F : Fun K x x st f fd) (b : Binds K fd ps [])
    (m : mg x = some (.ref f)) (G : FnE P w K mg base CX0 k f fd ps sp) : CalE P w K mg base k x ps sp := ⟨f, fd, G, F.kp, b, m⟩
section
variable {X : Cx} {K : Fg}
variable {G : Ctx K} {to te : TE}
end
end Fz

set_option Elab.async false
set_option linter.all false
set_option maxRecDepth 100000
set_option maxHeartbeats 4000000
/-! part Xr: an object of a class, or a value of any kind: isinstance list -/
namespace Fz
open PySem PySem.Spec PyProof.Rows L2
section
variable {K : Fg} {G : Ctx K} {te : TE} {d : PyData} {C : Ad} {cn : Str}
end
end Fz

set_option Elab.async false
set_option linter.all false
set_option maxRecDepth 100000
set_option maxHeartbeats 4000000
/-! part Xf: try and finally where nothing raises; what is never reached -/
namespace Fz
open PySem PySem.Spec PyProof.Rows L2
section
variable {X : Cx} {body hds' : List Stmt} {f₀ : Stmt} {fs : List Stmt} {h₀ : ExceptHandler} {hds : List ExceptHandler} {pos : Pos} {tb tf : TS} {e : Expr}
/-- an expression that is never reached -/
theorem pe_never : PE X e (fun _ _ _ => False) := ⟨fun _ _ _ _ _ _ h => h.elim⟩
end
section
variable {K : Fg} {G : Ctx K} {E : JE K} {tb tf : TS}
end
section
variable {K : Fg} {G : Ctx K} {E : JE K} {u : TS} {r : Res K} {d : PyData}
end
section
variable {K : Fg} {G : Ctx K} {te : TE} {t : TA} {d : PyData} {b : Bool}
end
section
variable {K : Fg} {G G' : Ctx K} {E : JE K} {te : TE} {ds : List PyData}
end
/-! ### a global tuple of texts -/
/-- at a stands the module's tuple of these texts -/
def KStrs (K : Fg) (a : Ad) (xs : List Str) : Prop := ∃ (o : Obj) (its : Array Value) (n : Nat), K.lookup a = some o ∧ o.cls = .type "tuple" ∧ o.data = .seq its n ∧ its.size ≤ sizeLine ∧ Vals (xs.map V.str) its.toList
theorem strs_dpa {K : Fg} {F : Hp} : ∀ xs : List Str, DpAll K F (xs.map V.str) (xs.map PyData.str)
  | [] => .nil
  | x :: xs => .cons (.str x) (strs_dpa xs)
theorem ev_kstrs {K : Fg} {G : Ctx K} {a : Ad} {xs : List Str} (h : KStrs K a xs) (hl : xs.length ≤ 100000) : EV K (tC (.ref a)) G (eSq eS xs) := fun B F σ H own Q s k => by
  obtain ⟨o, its, n, h1, h2, h3, h4, h5⟩ := h
  exact k (.ref a) F H own s (.tup (.inr ⟨o, its, n, h1, h2, h3, h4, h5⟩) (strs_dpa xs) (by rw [List.length_map]; exact hl)) (Same.refl F)
end Fz

set_option Elab.async false
set_option linter.all false
set_option maxRecDepth 100000
set_option maxHeartbeats 4000000
/-! part Ty: texts looked at letter by letter, split, read as numbers -/
namespace Fz
open PySem PySem.Spec PyProof.Rows L2
section
variable {K : Fg} {G : Ctx K} {t to te : TE} {x a b : PySem.Str}
/-- the letters of a text, each as a text -/
def sgnS (x : PySem.Str) : List PySem.Str := x.cps.toList.map fun c => ⟨#[c]⟩
theorem sgnS_len : (sgnS x).length = x.cps.size := by unfold sgnS; rw [List.length_map, Array.length_toList]
theorem di_str (h : EV K t G (.str x)) (hz : x.cps.size ≤ 100000) : DI K (iStr t) G ((sgnS x).map .str) := fun B F σ H own R s k =>
  h B F σ H own _ s fun v F' H' own' s' hd f => by
    refine ⟨x, dp_str hd, k _ F' H' own' s' f ⟨by rw [List.length_map, sgnS_len]; exact hz, fun H2 f2 => ?_⟩⟩
    rw [List.length_map, sgnS_len]
    refine ⟨fun i hi => hi, fun i hi => hi, fun i y H3 hi hy => ?_⟩
    obtain ⟨rfl, c, hc, rfl⟩ := hy
    refine ⟨.str ⟨#[c]⟩, ?_, .inl ⟨rfl, .str _⟩⟩
    unfold sgnS
    rw [List.getElem?_map, List.getElem?_map, Array.getElem?_toList, hc]
    rfl
/-- len of a text -/
theorem rdl_lenS (hz : x.length ≤ 16000000) : RDL K (fun xs H Q => ∃ z, xs = [.str z] ∧ z.length ≤ sizeLine ∧ Q (.int z.length) H) [.str x] (.int (x.length : Nat)) := rdl_val fun F H vs Q s h k => by
  obtain ⟨v, rfl, h1⟩ := dpa_one h
  exact ⟨x, by rw [dp_str h1], Nat.le_trans hz (by rw [sizeLine_eq]; decide), k _ (.int _)⟩
/-- a letter in a text -/
theorem rd_inS {c : Nat} : RD2 K L2.rInS (.str ⟨#[c]⟩) (.str b) (.bool (decide (c ∈ b.cps.toList))) := rd2_val fun F H y z Q s h1 h2 k => ⟨c, b, dp_str h1, dp_str h2, k _ (.bl _)⟩
/-- a letter of a text -/
theorem rd_ixS {i : Int} {c : Nat} (hz : x.length ≤ 16000000) (e : atI x.cps.toList i = some c) : RD2 K rIxS (.str x) (.int i) (.str ⟨#[c]⟩) := rd2_val fun F H y z Q s h1 h2 k =>
  ⟨x, i, c, dp_str h1, dp_int h2, Nat.le_trans hz (by rw [sizeLine_eq]; decide), e, k _ (.str _)⟩
/-- int of a text -/
theorem rdl_intS {n : Int} (e : PySem.intText? x = some n) (hz : x.length ≤ 640) : RDL K (fun xs H Q => ∃ a n, xs = [.str a] ∧ PySem.intText? a = some n ∧ a.length ≤ 640 ∧ Q (.int n) H) [.str x] (.int n) := rdl_val fun F H vs Q s h k => by
  obtain ⟨v, rfl, h1⟩ := dpa_one h
  exact ⟨x, n, by rw [dp_str h1], e, hz, k _ (.int _)⟩
/-- x.split(y) -/
theorem el_split (ho : EV K to G (.str a)) (he : EV K te G (.str b)) (hb : (b.length == 0) = false) (hz : a.length ≤ 10000000) (hn : (Txt.split a b).length ≤ 100000) :
    EL K (tM1 (fun x xs H Q => ∃ a b, x = .str a ∧ xs = [.str b] ∧ (b.length == 0) = false ∧ a.length + 2 ≤ sizeLine ∧ rNewStrs (Txt.split a b) H Q) to te) G ((Txt.split a b).map .str) := fun B F σ H own Q s k =>
  ho B F σ H own _ s fun x F1 H1 own1 s1 h1 f1 => ⟨⟨a, dp_str h1⟩, he B F1 σ H1 own1 _ s1 fun y F2 H2 own2 s2 h2 f2 => by
    cases dp_str h1
    cases dp_str h2
    refine ⟨a, b, rfl, rfl, hb, by rw [sizeLine_eq]; omega, fun p np => ?_⟩
    obtain ⟨own3, s3, z3, b3⟩ := s2.newl np (Same.refl F2) (s2.fh.trans (same_new np)) (same_new np) (Gr.refl _ _)
    exact k p _ F2 _ own3 s3 z3 (none_dn s2.fh np) b3 upd_same (strs_dpa _) (by rw [List.length_map]; exact hn) (f1.trans f2)⟩
/-- x is one letter -/
def Sg (x : PySem.Str) : Prop := ∃ c : Nat, x = ⟨#[c]⟩
theorem sg_sgnS {s : PySem.Str} : ∀ z ∈ sgnS s, Sg z := fun z hz => by
  obtain ⟨c, _, rfl⟩ := List.mem_map.mp hz
  exact ⟨c, rfl⟩
def inSg (x b : PySem.Str) : Bool := decide (x.cps.toList.headD 0 ∈ b.cps.toList)
theorem rd_inSg (h : Sg x) : RD2 K L2.rInS (.str x) (.str b) (.bool (inSg x b)) := by
  obtain ⟨c, rfl⟩ := h
  exact rd_inS
theorem rd_notInSg (h : Sg x) : RD2 K L2.rNotInS (.str x) (.str b) (.bool (!(inSg x b))) := by
  obtain ⟨c, rfl⟩ := h
  exact rd2_val fun F H y z Q s h1 h2 k => ⟨c, b, dp_str h1, dp_str h2, k _ (.bl _)⟩
/-- the letter at i -/
def sgAt (x : PySem.Str) (i : Int) : PySem.Str := ⟨#[(atI x.cps.toList i).getD 0]⟩
def IxS (x : PySem.Str) (i : Int) : Prop := (atI x.cps.toList i).isSome = true ∧ x.length ≤ 16000000
theorem rd_ixSg {i : Int} (h : IxS x i) : RD2 K rIxS (.str x) (.int i) (.str (sgAt x i)) := by
  obtain ⟨c, hc⟩ := Option.isSome_iff_exists.mp h.1
  unfold sgAt
  rw [hc]
  exact rd_ixS h.2 hc
/-- the number that a text denotes -/
def intT (x : PySem.Str) : Int := (PySem.intText? x).getD 0
def IntS (x : PySem.Str) : Prop := (PySem.intText? x).isSome = true ∧ x.length ≤ 640
theorem rdl_intSg (h : IntS x) : RDL K (fun xs H Q => ∃ a n, xs = [.str a] ∧ PySem.intText? a = some n ∧ a.length ≤ 640 ∧ Q (.int n) H) [.str x] (.int (intT x)) := by
  obtain ⟨n, hn⟩ := Option.isSome_iff_exists.mp h.1
  unfold intT
  rw [hn]
  exact rdl_intS hn h.2
end
/-! ### x or y of texts -/
section
variable {X : Cx} {a b : Expr} {rest : List Expr} {pos : Pos} {ta tb : TE}
variable {K : Fg} {G : Ctx K} {x y : PySem.Str}
end
theorem rd_addS {K : Fg} {x y : PySem.Str} (hz : x.length + y.length ≤ 16000000) : RD2 K (fun x y H Q => ∃ i j, x = .str i ∧ y = .str j ∧ i.length + j.length ≤ sizeLine ∧ Q (.str (i ++ j)) H) (.str x) (.str y) (.str (x ++ y)) := rd2_val fun F H u v Q s h1 h2 k =>
  ⟨x, y, dp_str h1, dp_str h2, Nat.le_trans hz (by rw [sizeLine_eq]; decide), k _ (.str _)⟩
section
variable {K : Fg} {G : Ctx K} {E : JE K} {EX : XW K} {t : WX → TS} {r : Res K} {d : PyData}
end
end Fz

set_option Elab.async false
set_option linter.all false
set_option maxRecDepth 100000
set_option maxHeartbeats 4000000
/-! part Tz: plain laws on texts of numbers -/
namespace Fz
open PySem PySem.Spec PyProof.Rows L2 TL
theorem cps_num (n : Nat) : (sI (n : Int)).cps.toList = numL n := tl_num n
theorem atI_0 {c : Nat} {r : List Nat} : atI (c :: r) 0 = some c := by
  unfold atI ixN
  rw [if_pos (show (0 : Int) ≤ 0 by omega), List.length_cons]
  first | (rw [if_pos (by omega)]; rfl) | simp
/-- the text of an interval -/
def ivT (z : Int × Int) : PySem.Str := (sI z.1 ++ PySem.Str.ofString "-") ++ sI z.2
end Fz

set_option Elab.async false
set_option linter.all false
set_option maxRecDepth 100000
set_option maxHeartbeats 4000000
/-! part Ua: texts cut, repeated; how long the parts of a split text are -/
namespace Fz
open PySem PySem.Spec PyProof.Rows L2
section
variable {K : Fg} {G : Ctx K} {t : TE} {x z : PySem.Str}
/-- what x * n asks -/
def MulS (x : PySem.Str) (n : Int) : Prop := 0 ≤ n ∧ n ≤ 1000 ∧ x.length ≤ 1000
def rMulS : R2 := fun a b H Q => ∃ x n, a = .str x ∧ b = .int n ∧ MulS x n ∧ Q (.str (Txt.mul x n)) H
theorem op_mulS {X : Cx} : OpR X (binaryOp .Mult) rMulS := by
  intro pins s σ H a b v u Q I ra rb h
  obtain ⟨x, n, rfl, rfl, ⟨h0, h1, h2⟩, q⟩ := h
  obtain ⟨t, rfl⟩ := ra
  obtain ⟨t', rfl⟩ := rb
  refine PySem.SB.mul ⟨?_, fun a b => ?_, fun a b => ?_⟩ fun t' k => ⟨.str _, H, I.tok k, ⟨t', rfl⟩, q⟩
  · rw [Bool.or_eq_false_iff]
    exact ⟨decide_eq_false (by omega), decide_eq_false (by omega)⟩
  · have d : (2 : Int) ^ 50 ≤ (2 ^ 63 - 1) / n := (Int.le_ediv_iff_mul_le (by omega)).mpr (Int.le_trans (Int.mul_le_mul_of_nonneg_left h1 (by decide)) (by decide))
    omega
  · unfold PySem.Builtin.Str.tooLong
    refine decide_eq_false ?_
    have m : x.length * n.toNat ≤ 1000 * 1000 := Nat.mul_le_mul h2 (by omega)
    rw [sizeLine_eq]
    omega
theorem rd_mulS {n : Int} (h : MulS x n) : RD2 K rMulS (.str x) (.int n) (.str (Txt.mul x n)) := rd2_val fun F H u v Q s h1 h2 k => ⟨x, n, dp_str h1, dp_int h2, h, k _ (.str _)⟩
end
/-! ### how long -/
theorem spl_sum (s : Nat) : ∀ (l acc : List Nat), ((TL.spl [s] 0 acc l).map List.length).sum + (TL.spl [s] 0 acc l).length = acc.length + l.length + 1
  | [], acc => by rw [TL.spl_nil]; simp
  | c :: r, acc => by
    cases h : TL.pre [s] (c :: r) with
    | true =>
      have ih := spl_sum s r []
      rw [TL.spl_hit h]
      show ((acc :: TL.spl [s] 0 [] r).map List.length).sum + (acc :: TL.spl [s] 0 [] r).length = _
      rw [List.map_cons, List.sum_cons, List.length_cons, List.length_cons]
      simp only [List.length_nil] at ih
      omega
    | false =>
      have ih := spl_sum s r (acc ++ [c])
      rw [TL.spl_miss h, ih, List.length_append, List.length_cons, List.length_cons, List.length_nil]
      omega
section
variable {x y : PySem.Str} {s : Nat}
theorem split_map (ey : TL.tl y = [s]) (hs : s < 256) : (Txt.split x y).map TL.tl = TL.spl [s] 0 [] (TL.tl x) := by
  have q := TL.split_spl x y (by rw [ey]; simp) (TL.kind_ok (by
    have e : y.cps.toList = [s] := ey
    rw [← Array.all_toList, e]
    simp [hs]))
  rw [ey] at q
  exact q
theorem split_sum (ey : TL.tl y = [s]) (hs : s < 256) : ((Txt.split x y).map PySem.Str.length).sum + (Txt.split x y).length = x.length + 1 := by
  have q := spl_sum s (TL.tl x) []
  rw [← split_map ey hs, List.map_map, List.length_map] at q
  have e : (List.length ∘ TL.tl) = PySem.Str.length := funext fun z => (TL.len_tl z).symm
  rw [e] at q
  have l := TL.len_tl x
  simp only [List.length_nil] at q
  omega
theorem sum_mem {l : List PySem.Str} {p : PySem.Str} (h : p ∈ l) : p.length ≤ (l.map PySem.Str.length).sum := by
  induction l with
  | nil => exact nomatch h
  | cons a l ih =>
    rw [List.map_cons, List.sum_cons]
    rcases List.mem_cons.mp h with e | h
    · rw [e]; omega
    · have := ih h; omega
theorem join_lenL (y : PySem.Str) : ∀ l : List PySem.Str, (Txt.join y l).length ≤ (l.map PySem.Str.length).sum + l.length * y.length
  | [] => by rw [join_0]; exact Nat.zero_le _
  | [a] => by rw [join_1]; simp
  | a :: b :: r => by
    have ih := join_lenL y (b :: r)
    rw [join_2, str_alen, str_alen, List.map_cons, List.sum_cons, List.length_cons (a := a), Nat.succ_mul]
    omega
theorem join_mem (y : PySem.Str) {c : Nat} : ∀ l : List PySem.Str, c ∈ TL.tl (Txt.join y l) → (∃ p ∈ l, c ∈ TL.tl p) ∨ c ∈ TL.tl y
  | [], h => by rw [join_0] at h; exact nomatch h
  | [a], h => by rw [join_1] at h; exact .inl ⟨a, List.mem_cons_self, h⟩
  | a :: b :: r, h => by
    have ih := join_mem y (c := c) (b :: r)
    rw [join_2] at h
    have h : c ∈ (a ++ y ++ Txt.join y (b :: r)).cps.toList := h
    rw [str_app, str_app] at h
    rcases List.mem_append.mp h with h | h
    · rcases List.mem_append.mp h with h | h
      · exact .inl ⟨a, List.mem_cons_self, h⟩
      · exact .inr h
    · rcases ih h with ⟨p, hp, hc⟩ | q
      · exact .inl ⟨p, List.mem_cons_of_mem _ hp, hc⟩
      · exact .inr q
end
end Fz

set_option Elab.async false
set_option linter.all false
set_option maxRecDepth 100000
set_option maxHeartbeats 4000000
/-! part Ub: what words denote; which word of a text is wrong -/
namespace Fz
open PySem PySem.Spec PyProof.Rows L2 TL
def c1P (w : PySem.Str) : Bool := (!((decide ((1 : Int) ≤ ((w).length : Int))) && (decide (((w).length : Int) ≤ (13 : Int))))) || (!((((sgnS w).map fun (x_ : PySem.Str) => (inSg x_ (PySem.Str.ofString "0123456789")))).all id))
def c2P (w : PySem.Str) : Bool := (decide ((sgAt w (0 : Int)) = (PySem.Str.ofString "0"))) && (!(decide (w = (PySem.Str.ofString "0"))))
/-- the number that a word denotes -/
def pnF (w : PySem.Str) : Option Int := if c1P w = true then none else (if c2P w = true then none else some (intT w))
def nmL (o : Option Int) : Option Int := o.bind fun n => if 1000000000000 < n then none else some n
theorem dg_iff {c : Nat} : c ∈ (PySem.Str.ofString "0123456789").cps.toList ↔ 48 ≤ c ∧ c ≤ 57 := by
  have e : (PySem.Str.ofString "0123456789").cps.toList = [48, 49, 50, 51, 52, 53, 54, 55, 56, 57] := by decide +kernel
  rw [e]
  simp only [List.mem_cons, List.not_mem_nil, or_false]
  omega
theorem sg_dg {w : PySem.Str} : (∀ x ∈ sgnS w, inSg x (PySem.Str.ofString "0123456789") = true) ↔ ∀ c ∈ w.cps.toList, 48 ≤ c ∧ c ≤ 57 := by
  constructor
  · intro h c hc
    have q := h ⟨#[c]⟩ (List.mem_map.mpr ⟨c, hc, rfl⟩)
    exact dg_iff.mp (of_decide_eq_true q)
  · intro h x hx
    obtain ⟨c, hc, rfl⟩ := List.mem_map.mp hx
    exact decide_eq_true (dg_iff.mpr (h c hc))
theorem c1_iff {w : PySem.Str} : c1P w = false ↔ (1 ≤ w.length ∧ w.length ≤ 13) ∧ ∀ c ∈ w.cps.toList, 48 ≤ c ∧ c ≤ 57 := by
  unfold c1P
  rw [Bool.or_eq_false_iff, Bool.not_eq_false', Bool.not_eq_false', Bool.and_eq_true, decide_eq_true_iff, decide_eq_true_iff, List.all_map, List.all_eq_true, ← sg_dg]
  constructor
  · rintro ⟨⟨a, b⟩, c⟩
    exact ⟨⟨by omega, by omega⟩, c⟩
  · rintro ⟨⟨a, b⟩, c⟩
    exact ⟨⟨by omega, by omega⟩, c⟩
theorem dig_num : ∀ (k : Nat) (l : List Nat), l.length = k + 1 → (∀ c ∈ l, 48 ≤ c ∧ c ≤ 57) → (l.head? ≠ some 48 ∨ l = [48]) → ∃ n, l = numL n
  | 0, l, hl, hd, _ => by
    match l, hl with
    | [c], _ =>
      have := hd c List.mem_cons_self
      refine ⟨c - 48, ?_⟩
      rw [numL_lt (by omega)]
      congr 1
      omega
  | k + 1, l, hl, hd, ld => by
    have ne : l ≠ [] := fun e => by rw [e] at hl; exact nomatch hl
    have e := List.dropLast_concat_getLast ne
    have il : l.dropLast.length = k + 1 := by rw [List.length_dropLast]; omega
    have hh : l.dropLast.head? ≠ some 48 := by
      rcases ld with q | q
      · cases z : l.dropLast with
        | nil => rw [z] at il; exact nomatch il
        | cons c r =>
          rw [← e, z] at q
          exact q
      · rw [q] at hl
        simp at hl
    obtain ⟨m, hm⟩ := dig_num k l.dropLast il (fun c hc => hd c (List.dropLast_subset _ hc)) (.inl hh)
    have m0 : m ≠ 0 := fun z => by
      rw [hm, z, numL_lt (by decide)] at hh
      exact hh rfl
    have gc := hd _ (List.getLast_mem ne)
    refine ⟨10 * m + (l.getLast ne - 48), ?_⟩
    rw [numL_step (by omega)]
    have e1 : (10 * m + (l.getLast ne - 48)) / 10 = m := by omega
    have e2 : (10 * m + (l.getLast ne - 48)) % 10 = l.getLast ne - 48 := by omega
    rw [e1, e2, ← hm]
    have e3 : 48 + (l.getLast ne - 48) = l.getLast ne := by omega
    rw [e3]
    exact e.symm
theorem ok_num {w : PySem.Str} (h1 : c1P w = false) (h2 : c2P w = false) : ∃ n : Nat, w = sI (n : Int) := by
  obtain ⟨⟨a, b⟩, c⟩ := c1_iff.mp h1
  have ll : w.cps.toList.length = w.length := Array.length_toList
  have ld : w.cps.toList.head? ≠ some 48 ∨ w.cps.toList = [48] := by
    cases q : w.cps.toList with
    | nil => rw [q] at ll; exact absurd ll (by show ¬ 0 = _; omega)
    | cons d r =>
      by_cases hd : d = 48
      · subst hd
        have e : sgAt w 0 = PySem.Str.ofString "0" := by
          unfold sgAt
          rw [q, atI_0]
          show (⟨#[48]⟩ : PySem.Str) = _
          decide +kernel
        unfold c2P at h2
        rw [decide_eq_true e, Bool.true_and, Bool.not_eq_false', decide_eq_true_iff] at h2
        refine .inr ?_
        rw [← q, h2]
        decide +kernel
      · exact .inl fun z => hd (Option.some.inj z)
  obtain ⟨n, hn⟩ := dig_num (w.length - 1) w.cps.toList (by omega) c ld
  exact ⟨n, str_ext (hn.trans (cps_num n).symm)⟩
theorem ok_int {w : PySem.Str} (h1 : c1P w = false) (h2 : c2P w = false) : ∃ n : Nat, PySem.intText? w = some (n : Int) ∧ w.length ≤ 13 := by
  obtain ⟨⟨a, b⟩, _⟩ := c1_iff.mp h1
  obtain ⟨n, hn⟩ := ok_num h1 h2
  refine ⟨n, ?_, b⟩
  have e : (numL n).length = w.length := by rw [hn, ← cps_num]; exact Array.length_toList
  rw [hn]
  exact int_num (by omega)
theorem pn_int {w : PySem.Str} (h1 : c1P w = false) (h2 : c2P w = false) : IntS w := by
  obtain ⟨n, e, b⟩ := ok_int h1 h2
  exact ⟨by rw [e]; rfl, by omega⟩
theorem pn_ix {w : PySem.Str} (h1 : c1P w = false) : IxS w 0 := by
  obtain ⟨⟨a, b⟩, _⟩ := c1_iff.mp h1
  have ll : w.cps.toList.length = w.length := Array.length_toList
  refine ⟨?_, by omega⟩
  cases q : w.cps.toList with
  | nil => rw [q] at ll; exact absurd ll (by show ¬ 0 = _; omega)
  | cons d r => rw [atI_0]; rfl
theorem pnF_nn {w : PySem.Str} {n : Int} (h : pnF w = some n) : 0 ≤ n := by
  unfold pnF at h
  split at h
  · exact nomatch h
  rename_i h1
  split at h
  · exact nomatch h
  rename_i h2
  obtain ⟨k, e, _⟩ := ok_int (Bool.not_eq_true _ ▸ h1) (Bool.not_eq_true _ ▸ h2)
  unfold intT at h
  rw [e] at h
  have := Option.some.inj h
  have : (k : Int) = n := this
  omega
/-! ### the parts of a word -/
abbrev ptD (l : List (Option Int)) : PyData := eSq (eO eI) l
def lawT (parts : List (Option Int)) (X : Bool) : Bool := (!(decide (((parts).length : Int) = (2 : Int)))) || ((decide ((none : (Option Int)) ∈ parts)) || ((decide ((((atL parts (1 : Int))).getD default) < (((atL parts (0 : Int))).getD default))) || X))
theorem pos_i {a : Int} : posZ (.int a) = (decide (0 ≤ a) && decide (a ≤ 1000000000000)) := by
  unfold posZ numZ
  rfl
theorem pt_law {found : List (Option Int)} (nn : ∀ o ∈ found, ∀ n, o = some n → 0 ≤ n) (X : Bool) :
    (ivZ (ptD found) = false ∧ lawT (found.map nmL) X = true) ∨ ∃ a b, found = [some a, some b] ∧ found.map nmL = found ∧ 0 ≤ a ∧ a ≤ b ∧ b ≤ 1000000000000 ∧ ivZ (ptD found) = true ∧ lawT found X = X := by
  have bad : ∀ l : List (Option Int), l.length ≠ 2 → lawT l X = true := fun l hl => by
    unfold lawT
    rw [decide_eq_false (show ¬ ((l.length : Int) = 2) by omega)]
    rfl
  have non : ∀ l : List (Option Int), none ∈ l → lawT l X = true := fun l hl => by
    unfold lawT
    rw [decide_eq_true hl, Bool.true_or, Bool.or_true]
  match found, nn with
  | [], _ => exact .inl ⟨rfl, bad _ (by decide)⟩
  | [_], _ => exact .inl ⟨rfl, bad _ (by simp)⟩
  | _ :: _ :: _ :: _, _ => exact .inl ⟨rfl, bad _ (by simp)⟩
  | [none, ob], _ => exact .inl ⟨rfl, non _ List.mem_cons_self⟩
  | [some a, none], _ => exact .inl ⟨by show (posZ (.int a) && (posZ .none && _)) = false; rw [show posZ .none = false from rfl, Bool.false_and, Bool.and_false], non _ (List.mem_cons_of_mem _ List.mem_cons_self)⟩
  | [some a, some b], nn =>
    have a0 := nn _ List.mem_cons_self a rfl
    have b0 := nn _ (List.mem_cons_of_mem _ List.mem_cons_self) b rfl
    have ev : ivZ (ptD [some a, some b]) = ((decide (0 ≤ a) && decide (a ≤ 1000000000000)) && ((decide (0 ≤ b) && decide (b ≤ 1000000000000)) && decide (a ≤ b))) := by
      show (posZ (.int a) && (posZ (.int b) && decide (a ≤ b))) = _
      rw [pos_i, pos_i]
    rw [ev]
    by_cases ha : 1000000000000 < a
    · refine .inl ⟨by rw [decide_eq_false (show ¬ a ≤ 1000000000000 by omega), Bool.and_false, Bool.false_and], non _ ?_⟩
      show none ∈ [nmL (some a), nmL (some b)]
      rw [show nmL (some a) = none from if_pos ha]
      exact List.mem_cons_self
    by_cases hb : 1000000000000 < b
    · refine .inl ⟨by rw [decide_eq_false (show ¬ b ≤ 1000000000000 by omega), Bool.and_false, Bool.false_and, Bool.and_false], non _ ?_⟩
      show none ∈ [nmL (some a), nmL (some b)]
      rw [show nmL (some b) = none from if_pos hb]
      exact List.mem_cons_of_mem _ List.mem_cons_self
    have em : [some a, some b].map nmL = [some a, some b] := by
      show [nmL (some a), nmL (some b)] = _
      rw [show nmL (some a) = some a from if_neg ha, show nmL (some b) = some b from if_neg hb]
    have lt : lawT [some a, some b] X = (decide (b < a) || X) := by
      unfold lawT
      rw [decide_eq_false (show ¬ (none : Option Int) ∈ [some a, some b] by simp)]
      rfl
    by_cases ab : a ≤ b
    · refine .inr ⟨a, b, rfl, em, a0, ab, by omega, ?_, ?_⟩
      · rw [decide_eq_true a0, decide_eq_true (show a ≤ 1000000000000 by omega), decide_eq_true b0, decide_eq_true (show b ≤ 1000000000000 by omega), decide_eq_true ab]; rfl
      · rw [lt, decide_eq_false (show ¬ b < a by omega), Bool.false_or]
    · refine .inl ⟨by rw [decide_eq_false ab, Bool.and_false, Bool.and_false], ?_⟩
      rw [em, lt, decide_eq_true (show b < a by omega), Bool.true_or]
/-! ### a word, a text -/
def ptF (w : PySem.Str) : List (Option Int) := (Txt.split w (PySem.Str.ofString "-")).map pnF
def pvF (w : PySem.Str) : Option (Int × Int) := if ivZ (ptD (ptF w)) = true then some (pairZ (ptD (ptF w))) else none
theorem ptF_nn (w : PySem.Str) : ∀ o ∈ ptF w, ∀ n, o = some n → 0 ≤ n := fun o ho n e => by
  obtain ⟨p, _, rfl⟩ := List.mem_map.mp ho
  exact pnF_nn e
/-! ### plain signs -/
def AS (x : PySem.Str) : Prop := ∀ c ∈ x.cps.toList, c < 128
theorem as_app {x y : PySem.Str} (hx : AS x) (hy : AS y) : AS (x ++ y) := fun c hc => by
  rw [str_app] at hc
  exact (List.mem_append.mp hc).elim (hx c) (hy c)
theorem as_num (n : Nat) : AS (sI (n : Int)) := fun c hc => by
  rw [cps_num] at hc
  have q : 48 ≤ c ∧ c ≤ 57 := numL_digits n c hc
  omega
theorem mul_len {x : PySem.Str} {n : Int} (hn : n = 0 ∨ n = 1) : (Txt.mul x n).length ≤ x.length := by
  rcases hn with rfl | rfl
  · exact Nat.zero_le _
  · exact Nat.le_refl _
theorem tl_sp : tl (PySem.Str.ofString " ") = [32] := by decide +kernel
theorem tl_ds : tl (PySem.Str.ofString "-") = [45] := by decide +kernel
theorem as_join {l : List PySem.Str} (h : ∀ p ∈ l, AS p) : AS (Txt.join (PySem.Str.ofString " ") l) := fun c hc => by
  rcases join_mem _ l hc with ⟨p, hp, q⟩ | q
  · exact h p hp c q
  · rw [tl_sp] at q
    rw [List.mem_singleton.mp q]; decide
end Fz

set_option Elab.async false
set_option linter.all false
set_option maxRecDepth 100000
set_option maxHeartbeats 4000000
/-! part Sh: a shell: an object that holds a plan -/
namespace Fz
open PySem PySem.Spec PyProof.Rows L2
/-- what is known of the class -/
structure ShC (K : Fg) (C : Ad) : Prop where
  ns : PySem.W.nsIn K mainGlobals "Shell" = some (some (.ref C))
  cl : Cls K C
  n1 : NoAttr K C "plan"
theorem shC {K : Fg} {mg : Str → Option Value} {C : Ad} (T : ObT K mg "Shell" C ["plan"]) : ShC K C := ⟨T.ns, T.cl, T.nf (by decide +kernel)⟩
section
variable {K : Fg} {α β : Type} {G : Ctx K} {En : JE K} {E : XK} {EX : XW K} {ta te : TA} {i : Nat} {ds des : List PyData} {dvs : List V} {s s' : PlS} {p q r w C C0 : Ad} {m : Str}
/-! ### the plan's methods, raising -/
section
variable {args : α → List PyData} {pre : PlS → α → Prop} {res : PlS → α → PyData → PlS → Prop} {exc : PlS → α → Str → List (Str × PyData) → PlS → Prop} {Pj : PyData → Ctx K → Prop} {en : β → PyData}
end
/-! ### the shell's methods that let nothing out; defs that are handed a shell -/
section
variable {args : α → List PyData} {pre : PlS → α → Prop} {f : PlS → α → PyData} {g : PlS → α → PlS} {Pj : PyData → Ctx K → Prop}
end
section
variable {args : α → List PyData} {pre : PlS → α → Prop} {f : PlS → α → β} {g : PlS → α → PlS} {en : β → PyData}
end
/-! ### making a shell -/
/-- __init__ -/
def spShI (K : Fg) : Sp := fun vs H Q _ => ∃ (w dx C : Ad) (v : V), vs = [.ref w, v] ∧ PySem.W.nsIn K mainGlobals "Shell" = some (some (.ref C)) ∧ H w = some (.ins C dx []) ∧ Q .non (upd H w (.ins C dx [("plan", v)]))
theorem sp_shI {C0 : Ad} {D : VK} {vs : List V} {H : Hp} {E : XK} (T : ShC K C0) (h : spShI K vs H D E) : sFld K (tVar 0) (tVar 1) "plan" { nx := fun _ H' => D .non H', rt := D } (start ["self", "plan"] vs) H := by
  obtain ⟨w, dx, C, v, rfl, hc, hw, q⟩ := h
  cases hc.symm.trans T.ns
  exact ⟨v, rfl, .ref w, rfl, w, _, dx, [], rfl, hw, T.cl, T.n1, (by decide : 0 < 1000), q⟩
/-- Shell(x), x data -/
theorem ev_mkShD {C : Ad} {d : PyData} (T : ShC K C) (ha : EVA K ta G [d]) : EV K (tMake C (spShI K) [] E ta) G (obL "Shell" ["plan"] [d]) := fun B F σ H own Q s k =>
  ha B F σ H own _ s fun vs F1 H1 own1 s1 hd f1 w dw nw ndw new => by
    obtain ⟨v, _, rfl, hv, hn⟩ := dpa_cons hd
    cases dpa_nil hn
    have fw := none_dn s1.fh nw
    have fdw := none_dn s1.fh ndw
    refine ⟨w, dw, C, v, rfl, T.ns, upd_same, rfl, ?_⟩
    have e3 : upd (upd (upd H1 dw (.own w)) w (.ins C dw [])) w (.ins C dw [("plan", v)]) = upd (upd H1 dw (.own w)) w (.ins C dw [("plan", v)]) := by
      funext b
      by_cases z : b = w
      · rw [z, upd_same, upd_same]
      · rw [upd_ne z, upd_ne z, upd_ne z]
    rw [e3]
    let F3 : Hp := upd (upd F1 dw (.own w)) w (.ins C dw [("plan", v)])
    let H3 : Hp := upd (upd H1 dw (.own w)) w (.ins C dw [("plan", v)])
    have fF : Same F1 F3 := fun b o e => by
      show upd (upd F1 dw (.own w)) w _ b = some o
      rw [upd_ne (ne_of_none e fw), upd_ne (ne_of_none e fdw)]; exact e
    have fH : Same H1 H3 := fun b o e => by
      show upd (upd H1 dw (.own w)) w _ b = some o
      rw [upd_ne (ne_of_none e nw), upd_ne (ne_of_none e ndw)]; exact e
    have f3 : Same F3 H3 := fun b o e => by
      have e : upd (upd F1 dw (.own w)) w (.ins C dw [("plan", v)]) b = some o := e
      show upd (upd H1 dw (.own w)) w (.ins C dw [("plan", v)]) b = some o
      by_cases z : b = w
      · rw [z, upd_same] at e ⊢; exact e
      · rw [upd_ne z] at e ⊢
        by_cases z2 : b = dw
        · rw [z2, upd_same] at e ⊢; exact e
        · rw [upd_ne z2] at e ⊢; exact s1.fh b o e
    obtain ⟨own2, s2, z2⟩ := s1.step fF f3 fH (fun b o e => by
      have e : upd (upd F1 dw (.own w)) w (.ins C dw [("plan", v)]) b = some o := e
      by_cases z : b = w
      · rw [z]; exact .inr nw
      · rw [upd_ne z] at e
        by_cases z2 : b = dw
        · rw [z2]; exact .inr ndw
        · rw [upd_ne z2] at e; exact .inl e)
    have hdw : F3 dw = some (.own w) := by
      show upd (upd F1 dw (.own w)) w _ dw = _
      rw [upd_ne new, upd_same]
    exact k (.ref w) F3 H3 own2 s2 (Dp.ob (fs := [("plan", v)]) T.ns (show F3 w = some (.ins C dw [("plan", v)]) from upd_same) hdw (.cons (dp_up fF _ _ hv) .nil)) (f1.trans fF)
end
end Fz

set_option linter.all false
/-! part Xw: the solver, values of any kind, exceptions -/
namespace Fz
end Fz

set_option Elab.async false
set_option linter.all false
set_option maxRecDepth 100000
set_option maxHeartbeats 4000000
/-! part Xh: loops over zip and stores into tuples while an error is handled -/
namespace Fz
open PySem PySem.Spec PyProof.Rows L2 HotX L2H
theorem hot_of {X : Cx} {a : Ad} {oe : Obj} {cls : Value} {d : Option Ad} {pn : List (Addr × Obj)} (hz : L2N.Zn cls d oe) (hf : ∃ fs, oe.data = .fields fs) : HotC (X.suite a ((a, oe) :: pn)) :=
  let ⟨fs, e⟩ := hf
  ⟨(a, oe), ⟨rfl, fs, e, hz.2.2 fs e⟩, List.mem_cons_self⟩
section
variable {prog : Program} {w : World} {A : Around} {E : Value → Shared → Prop} {s : Shared}
theorem tup_endH {q t x1 : Addr} {i : Nat} {its : Array Value} {Q : Option Value → Shared → Prop} (hot : HotAt A x1 s.heap) (nq : x1 ≠ q) (hq : IsTupIter s.heap q t i) (ht : IsTup s.heap t its) (hx : its[i]? = none)
    (k : ∀ h', Heap.ExtBut q s.heap h' → Q none { s with heap := h' }) : wpAny (model prog w) A (pyNext (.ref q)) Q E s := by
  obtain ⟨o, ho, hc, hd⟩ := id hq
  obtain ⟨ol, hol, _, nl, hdl⟩ := ht
  obtain ⟨hh, o1, vs1, g1, d1, c1⟩ := hot
  unfold pyNext
  refine wpAny_bind (wpAny_attempt (wpAny_callSpecial?_slot (name := Str.ofString "__next__") hq.typeIs slot_tupleiter_next (wpAny_call_entry slot_tupleiter_next hq.typeIs entry_tupleiter_next ?_ (args_tupleiter_next _))))
  show wpAny _ _ (field (.ref q) 0 >>= _) _ _ s
  refine wpAny_bind (wpAny_field ho hd (x := .ref t) rfl ?_)
  show wpAny _ _ (if (Value.ref t == Value.none) = true then _ else _) _ _ s
  rw [if_neg (fun z : (Value.ref t == Value.none) = true => Bool.false_ne_true z)]
  show wpAny _ _ (field (.ref q) 1 >>= _) _ _ s
  refine wpAny_bind (wpAny_field ho hd (x := .int i 0) rfl (wpAny_bind (wpAny_seqItems hol hdl ?_)))
  simp only [Int.toNat_natCast, hx]
  refine wpAny_bind (wpAny_rule (wpAny_bind (wpAny_setField ho hd (by simp) ?_)))
  show wpAny _ _ (newExc (.type "StopIteration") [] >>= _) _ _ _
  refine wpAny_bind ?_
  simp only [newExc, newTuple]
  refine wpAny_bind (wpAny_newObj_type ?_ (by size_fits))
  refine wpAny_bind (m := firstArgMember _ _) (wpAny_of_eq (a := Value.none) (by first | rfl | (simp only [firstArgMember]; rfl)) (wpAny_newObj_type ?_ (by size_fits)))
  have b0 : Heap.SameBut q s.heap (s.heap.update q (Obj.mapFields (·.setIfInBounds 0 .none))) := Heap.SameBut.update ..
  have g2 := (b0.2 x1 nq).trans g1
  refine raiseNew_hot ⟨hh, o1, vs1, Heap.get?_push_of_some _ (Heap.get?_push_of_some _ g2), d1, c1⟩ (Nat.ne_of_lt (Heap.lt_size (Heap.get?_push_of_some _ g2))) (Heap.get?_push_size _ rfl) rfl (by first | (simp; done) | (simp; omega)) ?_
  refine wpAny_bind (wpAny_isInstance (T := "StopIteration") (b := true) ⟨_, Heap.get?_update_self _ (Heap.get?_push_size _ rfl) rfl, rfl⟩ isSubtype_stop (wpAny_pure (k _ fun b u hb e => ?_)))
  have e2 := (b0.2 b hb).trans e
  rw [Heap.get?_update_other _ _ (Nat.ne_of_gt (Heap.lt_size (Heap.get?_push_of_some _ e2)))]
  exact Heap.get?_push_of_some _ (Heap.get?_push_of_some _ e2)
theorem unpackH {t x1 : Addr} {its : Array Value} {Q : List Value → Shared → Prop} (hot : HotAt A x1 s.heap) (ht : IsTup s.heap t its) (k : ∀ h', Heap.ExtBut s.heap.objs.size s.heap h' → Q its.toList { s with heap := h' }) :
    wpAny (model prog w) A (unpackItems (.ref t) its.size none) Q E s := by
  have hlt : t ≠ s.heap.objs.size := let ⟨o, ho, _⟩ := ht; Nat.ne_of_lt (Heap.lt_size ho)
  obtain ⟨hh, o1, vs1, g1, d1, c1⟩ := hot
  have nx : x1 ≠ s.heap.objs.size := Nat.ne_of_lt (Heap.lt_size g1)
  unfold unpackItems
  refine wpAny_bind ?_
  unfold notIterableAtAll
  refine wpAny_bind (wpAny_specialOf ht.typeIs slot_tuple_iter.lookup (wpAny_pure ?_))
  simp only [Bool.false_eq_true, if_false]
  refine wpAny_bind (wpAny_holding (iter_tuple ht (wpAny_bind (wpAny_holding (draw_tuple hlt its.size 0 _ _ ⟨_, Heap.get?_push_size _ rfl, rfl, rfl⟩ (ht.push _) (by omega) fun h2 it2 sb2 => ?_)))))
  have hall : List.take its.size (List.drop 0 its.toList) = its.toList := by rw [List.drop_zero]; exact List.take_of_length_le (by simp)
  rw [hall, if_neg (by simp)]
  have ht2 : IsTup h2 t its := (ht.push _).extBut sb2.extBut hlt
  have hot2 : HotAt A x1 h2 := ⟨hh, o1, vs1, (sb2.2 x1 nx).trans (Heap.get?_push_of_some _ g1), d1, c1⟩
  refine wpAny_bind (wpAny_holding (tup_endH (s := { s with heap := h2 }) hot2 nx it2 ht2 (by simp) fun h3 e3 => ?_))
  simp only [Option.isSome_none, Bool.false_eq_true, if_false]
  exact wpAny_pure (k h3 fun b o hb e => e3 b o hb (sb2.extBut b o hb (Heap.get?_push_of_some _ e)))
theorem storeH {env : Env} {es : List Expr} {x2 : Nat} {pos : Pos} {t x1 : Addr} {its : Array Value} {Q : Unit → Shared → Prop} (hot : HotAt A x1 s.heap) (ht : IsTup s.heap t its) (hn : (assignEach es env).length = its.size) (hst : (assignEach es env).findIdx? (·.1) = none)
    (k : ∀ h', Heap.ExtBut s.heap.objs.size s.heap h' → wpAny (model prog w) A (assignInOrder ((assignEach es env).map (·.2)) its.toList) Q E { s with heap := h' }) : wpAny (model prog w) A (assign (.Tuple es x2 pos) env (.ref t)) Q E s := by
  rw [assign_Tuple]
  refine wpAny_bind (wpAny_standAt ?_)
  unfold unpack
  rw [hn, hst]
  exact wpAny_bind (wpAny_holding (unpackH hot ht k))
end
section
variable {X : Cx} {K : Fg}
theorem pg_tupH {es : List Expr} {k : Nat} {pos : Pos} {t : TGs} (n : Nat) (h : X.K = K) (hc : HotC X) (ht : PGs X es t) (hn : (assignEach es X.env).length = n) (hst : (assignEach es X.env).findIdx? (·.1) = none) : PG X (.Tuple es k pos) (gTup K n t) := by
  subst h
  refine ⟨fun pins s σ H v u Q I r hw => ?_⟩
  obtain ⟨a, xs, rfl, hq, hl, hw⟩ := hw
  cases r
  obtain ⟨its, rv, tp, hz⟩ := I.tuple hq
  obtain ⟨x1, hot⟩ := hc.at I
  refine storeH hot tp (by simp [hn, ← hl, rv.length]) hst fun h' e' => ht.run pins _ σ H xs _ Q (I.kept (t' := s.toks) fun b o e => e' b o (Nat.ne_of_lt (Heap.lt_size e)) e) (by simpa using rv) hw
end
/-! ### zip, left before its end -/
/-- an iterator that is never asked behind its last item -/
def noStop (J : It) : It := ⟨J.go, J.yld, fun _ _ => False⟩
def neS (wi : TI) : TI := fun σ H R => wi σ H fun J H1 => R (noStop J) H1
theorem turn_zipH {P : Program} {w : World} {K : PySem.W.Frag} {es : List Expr} {kk : Nat} {tpos : Pos} {a b z TI TO i1 i2 : Addr} (D : ZipApart z TI TO i1 i2 a b) :
    TurnH P w K (.Tuple es kk tpos) (noStop (Itz K a b)) [z, TI, TO, i1, i2] z (fun i h => IsZip h z TI TO .none ∧ IsPair h TI (.ref i1) (.ref i2) ∧ (∃ x y, IsPair h TO x y) ∧ h.IsListIter i1 a i ∧ h.IsListIter i2 b i) where
  mem := (turn_zip (P := P) (w := w) (K := K) (elts := es) (kk := kk) (tpos := tpos) D).mem
  obj := (turn_zip (P := P) (w := w) (K := K) (elts := es) (kk := kk) (tpos := tpos) D).obj
  keep := (turn_zip (P := P) (w := w) (K := K) (elts := es) (kk := kk) (tpos := tpos) D).keep
  self := (turn_zip (P := P) (w := w) (K := K) (elts := es) (kk := kk) (tpos := tpos) D).self
  done := fun _ _ _ _ _ _ _ _ _ _ _ _ _ _ z => z.elim
  item := by
    intro X hP hw hK _ i pins s σ H E I hf st hg
    subst hP hw hK
    obtain ⟨hz, hTI, ⟨x0, y0, hTO⟩, j1, j2⟩ := st
    obtain ⟨xs, ys, x, y, qx, qy, gx, gy⟩ := hg
    obtain ⟨us, rx, px, _⟩ := I.list qx
    obtain ⟨ws, ry, py, _⟩ := I.list qy
    obtain ⟨u, gu, ru⟩ := rx.get gx
    obtain ⟨v, gv, rv⟩ := ry.get gy
    have zl : z < s.heap.objs.size := Heap.lt_size hz
    refine wpAny_pyNext_zip_item D hz hTI hTO j1 j2 px.isList py.isList (x := u) (y := v) (by simpa using gu) (by simpa using gv) fun h2 z2 TO2 k1 k2 hT hsz hk => ⟨_, rfl, wpAny_letOwnedTupleGo_zip (s := { s with heap := h2 }) z2 fun h3 z3 sb => ?_⟩
    have hT3 := (sb.2 _ (Nat.ne_of_gt zl)).trans hT
    have mem : ∀ c, c ∉ [z, TI, TO, i1, i2] → c ≠ z ∧ c ≠ TO ∧ c ≠ i1 ∧ c ≠ i2 := fun c hc => ⟨fun q => hc (by simp [q]), fun q => hc (by simp [q]), fun q => hc (by simp [q]), fun q => hc (by simp [q])⟩
    have I3 : Inv X pins σ (upd H s.heap.objs.size (.tup [x, y])) { s with heap := h3 } :=
      I.turnedNew (t' := s.toks) (ch := [z, TI, TO, i1, i2]) (fun c o hb q => let ⟨m1, m2, m3, m4⟩ := mem c hb; (sb.2 c m1).trans (hk c o m1 m2 m3 m4 q)) hf (Nat.le_refl _)
        ⟨by show 2 ≤ sizeLine; decide, [u, v], .cons ru (.cons rv .nil), ⟨_, hT3, rfl, _, rfl⟩⟩
    refine ⟨.ref s.heap.objs.size, _, I3, rfl, ⟨_, x, y, rfl, I.hok.fresh (Nat.le_refl _), rfl, fun l hl => by rw [I.list_inj hl qx]; exact gx, fun l hl => by rw [I.list_inj hl qy]; exact gy⟩,
      ⟨z3, (sb.2 _ D.TIz).trans (hk _ _ D.TIz D.TITO D.TIi1 D.TIi2 hTI), ⟨u, v, (sb.2 _ D.TOz).trans TO2⟩, k1.at fun o q => (sb.2 _ D.i1z).trans q, k2.at fun o q => (sb.2 _ D.i2z).trans q⟩, fun c hcm => ?_⟩
    obtain ⟨oc, gc, _⟩ := (turn_zip (P := X.prog) (w := X.w) (K := X.K) (elts := es) (kk := kk) (tpos := tpos) D).obj i s.heap ⟨hz, hTI, ⟨x0, y0, hTO⟩, j1, j2⟩ c hcm
    rw [upd_ne (Nat.ne_of_lt (Heap.lt_size gc))]
    exact (hf c hcm).1
theorem pi_zipH {X : Cx} {K : Fg} (h : X.K = K) {e e2 : Expr} {ta : TA} {p pos tpos : Pos} {es : List Expr} {kk : Nat} (hg : Gl X "zip") (hm : X.mg "zip" = none) (ha : PA X [e, e2] ta)
    (hs : starEach [e, e2] X.env = (false, eval e X.env) :: starEach [e2] X.env := by rfl) (hpl : (backTo pos (starEach [e2] X.env)).any (·.1) = false := by rfl) : PIH X (.Tuple es kk tpos) (.Call (.Name "zip" p) [e, e2] [] pos) (neS (iZip K ta)) := by
  subst h
  refine ⟨fun pins s σ H R I h => Call_ (ld_blt I hg hm PyProof.Rows.boot_zip (PyProof.Rows.callWith_type1 (thn (ha.run pos pins s σ H _ I h) fun us s1 ⟨vs, H1, I1, r1, q1⟩ => ?_) hs hpl))⟩
  obtain ⟨a, b, xs, ys, rfl, qx, qy, q⟩ := q1
  obtain ⟨u, v, rfl, ru, rv⟩ := vals2 r1
  cases ru
  cases rv
  obtain ⟨is1, _, p1, _⟩ := I1.list qx
  obtain ⟨is2, _, p2, _⟩ := I1.list qy
  refine call_zip_2 p1.isList p2.isList fun h2 hz hTI hTO j1 j2 hsz hk => wpAny_pyIter_zip hz ⟨s1.heap.objs.size + 4, [s1.heap.objs.size + 4, s1.heap.objs.size + 2, s1.heap.objs.size + 3, s1.heap.objs.size, s1.heap.objs.size + 1], _, _, H1, rfl, I1.kept (t' := s1.toks) hk,
    turn_zipH (PySem.W.ktu_apart s1.heap.objs.size a b p1.lt p2.lt), ⟨hz, hTI, ⟨_, _, hTO⟩, j1, j2⟩, fun c hcm => ?_, q⟩
  have le : s1.heap.objs.size ≤ c := by
    simp only [List.mem_cons, List.not_mem_nil, or_false] at hcm
    rcases hcm with q | q | q | q | q <;> subst q <;> omega
  exact I1.fpOk le (I1.hok.fresh le)
section
variable {K : Fg} {G : Ctx K} {E : JE K} {u : TS} {g : TG} {wi : TI}
def noEnd (E : JE K) : JE K := { E with nx := fun _ => False }
/-- a for that is left before its end -/
theorem sj_forE (hd : DIJ K wi G fun ds G0 => ds.length ≤ 100000 → ∃ (vs : List Nat) (Iv : Nat → Ctx K → Prop), Iv 0 G0 ∧
      (∀ i d G', ds[i]? = some d → Iv i G' → GJ K g d G' vs fun G2 => SJ K u G2 ⟨fun G3 => ∃ G4, Wk G3 G4 ∧ Iv (i + 1) G4, (noEnd E).rt, (noEnd E).nx, fun G3 => ∃ G4, Wk G3 G4 ∧ Iv (i + 1) G4⟩) ∧ ∀ G', Iv ds.length G' → (noEnd E).nx G') : SJ K (tFor (neS wi) g u) G E := fun B F σ H own D dk s m =>
  hd B F σ H own _ s fun J ds G0 F1 H1 own1 hp s1 f1 it => by
    obtain ⟨vs, Iv, i0, is, ie⟩ := hp it.1
    refine ⟨fun i k σ H => ∃ G' F' own', i ≤ ds.length ∧ k + i = ds.length ∧ Same F1 F' ∧ Iv i G' ∧ Sat B G' F' σ H own', ⟨ds.length, G0, F1, own1, Nat.zero_le _, by omega, Same.refl _, i0, s1⟩, ?_⟩
    rintro i k σ2 H2 ⟨G2, F2, own2, hi, hk, f2, hI, s2⟩
    have it2 := itd_up it f2
    by_cases e : i = ds.length
    · subst e
      exact False.elim (ie G2 hI)
    · have hi2 : i < ds.length := by omega
      refine .inr ⟨(it2.2 H2 s2.fh).1 i hi2, fun σ' H' => ∃ G' F' own', Same F1 F' ∧ Iv (i + 1) G' ∧ Sat B G' F' σ' H' own', fun σ' H' ⟨G', F', own', a1, a2, a3⟩ => ⟨k - 1, by omega, G', F', own', hi2, by omega, a1, a2, a3⟩, fun x H3 hy => ?_⟩
      obtain ⟨d, F3, own3, hd3, s3, hx, f3, h3, z3⟩ := itd_item it2 s2 hi2 hy
      refine is i d G2 hd3 hI B F3 σ2 H3 own3 x _ s3 hx fun G4 σ4 own4 hp s4 _ _ => hp B F3 σ4 H3 own4 _ dk s4 ⟨fun G5 F5 σ5 H5 own5 q s5 f5 => ?_, fun d v G5 F5 σ5 H5 own5 q s5 hv f5 => ?_, fun G5 F5 σ5 H5 own5 q s5 f5 => False.elim q, fun G5 F5 σ5 H5 own5 q s5 f5 => ?_⟩
      · obtain ⟨G6, w, q⟩ := q
        exact ⟨G6, F5, own5, f2.trans (f3.trans f5), q, s5.wk w⟩
      · exact m.rt d v G5 F5 σ5 H5 own5 q s5 hv (f1.trans (f2.trans (f3.trans f5)))
      · obtain ⟨G6, w, q⟩ := q
        exact ⟨G6, F5, own5, f2.trans (f3.trans f5), q, s5.wk w⟩
theorem di_zipH {α β : Type} {f : α → PyData} {g : β → PyData} {xs : List α} {ys : List β} {ta : TA} (h : EVA K ta G [eLs f xs, eLs g ys]) : DI K (iZip K ta) G ((xs.zip ys).map (eT2 f g)) := by
  intro B F σ H own R s k
  refine h B F σ H own _ s fun vs F' H' own' s' hd ff => ?_
  obtain ⟨v, w, rfl, hv, hw⟩ := dpa_two hd
  obtain ⟨a, us, rfl, q1, q2⟩ := dp_lst hv
  obtain ⟨b, ws, rfl, q3, q4⟩ := dp_lst hw
  have l1 : us.length = xs.length := by rw [dpa_len q2, List.length_map]
  have l2 : ws.length = ys.length := by rw [dpa_len q4, List.length_map]
  have lz : ((xs.zip ys).map (eT2 f g)).length = min xs.length ys.length := by rw [List.length_map, List.length_zip]
  refine ⟨a, b, us, ws, rfl, s'.fh.seq q1, s'.fh.seq q3, k _ F' H' own' s' ff ⟨(by rw [lz]; exact Nat.le_trans (Nat.min_le_left _ _) (by simpa using dp_lstZ hv)), fun H2 f2 => ?_⟩⟩
  refine ⟨fun i hi => ⟨us, ws, us[i]'(by omega), ws[i]'(by omega), f2.seq q1, f2.seq q3, List.getElem?_eq_getElem _, List.getElem?_eq_getElem _⟩, fun i hi => ⟨us, ws, f2.seq q1, f2.seq q3, by omega⟩, fun i x H3 hi hy => ?_⟩
  obtain ⟨T, x1, y1, rfl, nT, rfl, hx, hy'⟩ := hy
  obtain ⟨d1, e1, g1⟩ := dpa_get' q2 (hx us (f2.seq q1))
  obtain ⟨d2, e2, g2⟩ := dpa_get' q4 (hy' ws (f2.seq q3))
  refine ⟨.tuple [d1, d2], ?_, .inr ⟨T, [x1, y1], [d1, d2], rfl, nT, rfl, rfl, .cons g1 (.cons g2 .nil), by show 2 ≤ 100000; decide⟩⟩
  rw [List.getElem?_map] at e1 e2
  obtain ⟨x0, h1, h2⟩ := Option.map_eq_some_iff.mp e1
  obtain ⟨y0, h3, h4⟩ := Option.map_eq_some_iff.mp e2
  rw [List.getElem?_map, (List.getElem?_zip_eq_some (z := (x0, y0))).mpr ⟨h1, h3⟩]
  show some (PyData.tuple [f x0, g y0]) = _
  rw [h2, h4]
end
end Fz

set_option Elab.async false
set_option linter.all false
set_option maxRecDepth 100000
set_option maxHeartbeats 4000000
/-! part Si: what printed texts about shells lean on -/
namespace Fz
open PySem PySem.Spec PyProof.Rows L2
section
variable {K : Fg} {G : Ctx K} {EX : XW K} {P : PyData → Ctx K → Prop}
theorem ev_dead {t : TE} {d : PyData} (h : False) : EV K t G d := h.elim
end
/-! ### a dict of texts by texts, written down -/
section
variable {K : Fg} {G : Ctx K} {td ty : TE}
end
end Fz

set_option Elab.async false
set_option linter.all false
set_option maxRecDepth 100000
set_option maxHeartbeats 4000000
/-! part Sj: defs that give back a new list; called while own things are looked at as data -/
namespace Fz
open PySem PySem.Spec PyProof.Rows L2
section
variable {K : Fg} {ι : Type} {P : Program} {w : World} {mg : Str → Option Value} {base : Heap} {k : Nat} {f : Ad} {fd : FuncData} {ps N : List Str} {x qual : Str} {st : Stmt}
  {args : ι → List PyData} {pre : ι → Prop} {g : ι → List PyData} {G G' : Ctx K} {ta : TA} {te : TE} {E : XK} {ds : List PyData}
end
end Fz

set_option Elab.async false
set_option linter.all false
set_option maxRecDepth 100000
set_option maxHeartbeats 4000000
/-! part Va: gaps along a line of blocks; words of commands -/
namespace Fz
open PySem PySem.Spec PyProof.Rows L2 TL
/-- the first flag that is true -/
theorem flag_loop {Q : PySem.Str → Prop} {w : PySem.Str} (q : Q w) : ∀ {l : List (PySem.Str × Bool)}, (l.find? (·.2)).map (·.1) = some w → forW (fun (t : (PySem.Str × Bool)) (s_ : Unit) nx_ bk_ => ((t.2 = true → Q t.1) ∧ (t.2 = false → nx_ ()))) l () (fun _ => False)
  | [], h => nomatch h
  | t :: l, h => by
    refine ⟨fun e => ?_, fun e => flag_loop q (l := l) ?_⟩
    · rw [List.find?_cons_of_pos (by exact e)] at h
      rw [show t.1 = w from Option.some.inj h]
      exact q
    · rw [List.find?_cons_of_neg (by rw [e]; exact Bool.false_ne_true)] at h
      exact h
end Fz

set_option Elab.async false
set_option linter.all false
set_option maxRecDepth 100000
set_option maxHeartbeats 4000000
/-! part Vd: the first place of a text changed; a token let out by a statement ahead; large letters -/
namespace PySem
open Builtin Builtin.Str
/-- x.replace(y, z, 1) -/
def Txt.rep1 (x y z : Str) : Str :=
  if ((occurrences x y 0 x.length 1).isEmpty || (y.length == 0 && z.length == 0)) = true then x
  else glued z (partsBetween x (occurrences x y 0 x.length 1) y.length)
theorem gives_rep1 (x y z : Str) (t u v w : Tok)
    (hf : ((occurrences x y 0 x.length 1).isEmpty || (y.length == 0 && z.length == 0)) = false →
      (u == 0 || v == 0) = false ∧ (u == v) = false ∧ (y == z) = false ∧ tooLong (x.length + (occurrences x y 0 x.length 1).length * z.length) = false) :
    Gives («str.replace» ⟨[.str x t, .str y u, .str z v, .int 1 w], []⟩) (if ((occurrences x y 0 x.length 1).isEmpty || (y.length == 0 && z.length == 0)) = true then .val (.str x t) else .str (glued z (partsBetween x (occurrences x y 0 x.length 1) y.length))) := by
  show Gives (if ((occurrences x y 0 x.length 1).isEmpty || (y.length == 0 && z.length == 0)) = true then (do rule "str.replace.nothing"; ret (.str x t)) else
          (do let same ← isSame (.str y u) (.str z v)
              if same = true then (do rule "str.replace.old-is-new"; ret (.str x t)) else
              if tooLong (x.length + (occurrences x y 0 x.length 1).length * z.length) = true then unsupported "str.replace:memory" else
              retStr (glued z (partsBetween x (occurrences x y 0 x.length 1) y.length)))) _
  cases hc : ((occurrences x y 0 x.length 1).isEmpty || (y.length == 0 && z.length == 0))
  · obtain ⟨h0, huv, hyz, hl⟩ := hf hc
    rw [isSame_str_other y z u v h0 huv hyz, hl]
    exact .of_eq rfl
  · exact .rule (.of_eq rfl)
end PySem
namespace Fz
open PySem PySem.Spec PyProof.Rows L2
/-- how long the changed text may be -/
def Rep1 (x y z : PySem.Str) : Prop := PySem.Builtin.Str.tooLong (x.length + (PySem.Builtin.Str.occurrences x y 0 x.length 1).length * z.length) = false ∧ (Txt.rep1 x y z).length ≤ 16777216 ∧ (y == z) = false
def tRep1 (to : TE) (y z : PySem.Str) : TE := fun σ H Q => to σ H fun v H1 => ∃ x, v = .str x ∧ Rep1 x y z ∧ Q (.str (Txt.rep1 x y z)) H1
section
variable {X : Cx} {o e f : Expr} {te tf : TE} {to : TE} {y z : PySem.Str} {j k l : Nat} {c0 c1 c2 apos pos p p' : Pos}
theorem sc_rep1 {prog : Program} {w : World} {A : Around} {E : Value → Shared → Prop} {s : Shared} {x : PySem.Str} {t u v n : Tok} {Q : Value → Shared → Prop} (hu : u ≠ 0) (hv : v ≠ 0) (huv : u ≠ v) (h : Rep1 x y z)
    (hq : ∀ t' k, Q (.str (Txt.rep1 x y z) t') { s with toks := k }) : wpAny (model prog w) A (call (.builtin "str.replace") [.str x t, .str y u, .str z v, .int 1 n]) Q E s := by
  obtain ⟨hl, hz, hyz⟩ := h
  refine call_gives F.slot_str_replace (typeIs_str _ _ _) F.entry_str_replace (F.args_str_replace_4 _ _ _ _)
    (gives_rep1 x y z t u v n fun _ => ⟨by simp [hu, hv], by simp [huv], hyz, hl⟩) ?_
  have hq' := hq
  unfold Txt.rep1 at hq' hz
  cases hc : ((PySem.Builtin.Str.occurrences x y 0 x.length 1).isEmpty || (y.length == 0 && z.length == 0))
  · rw [hc] at hq' hz
    simp only [Bool.false_eq_true, if_false] at hq' hz ⊢
    exact ⟨by rw [sizeLine_eq]; exact hz, hq' _ _⟩
  · rw [hc] at hq'
    simp only [if_true] at hq' ⊢
    exact hq' t s.toks
/-- three written arguments of replace -/
theorem pet_rep1 (ho : PE X o to)
    (hfew : ((backTo pos (starEach [.Constant (.str y) j c0, .Constant (.str z) k c1, .Constant (.int 1) l c2] X.env)).all (fun x => !x.1) && (backToKw pos (keywordEach [] X.env)).all (fun x => x.1.isSome)
      && decide (([.Constant (.str y) j c0, .Constant (.str z) k c1, .Constant (.int 1) l c2] : List Expr).length + ([] : List Keyword).length + (if ([] : List Keyword).isEmpty then 0 else 1) < 30)) = true := by rfl)
    (htr : backTo pos (starEach [.Constant (.str y) j c0, .Constant (.str z) k c1, .Constant (.int 1) l c2] X.env) = [(false, eval (.Constant (.str y) j c0) X.env), (false, eval (.Constant (.str z) k c1) X.env), (false, eval (.Constant (.int 1) l c2) X.env)] := by rfl)
    (hbase : attributeBase o "replace" X.env (eval o X.env) = eval o X.env := by rfl) (hline : (apos.endLine == pos.line) = true := by rfl) :
    PET X (.Call (.Attribute o "replace" apos) [.Constant (.str y) j c0, .Constant (.str z) k c1, .Constant (.int 1) l c2] [] pos) (tRep1 to y z) := by
  intro pins s σ H Q h0 I h
  refine wpAny_Call_method_late hbase hfew hline htr (wpAny_mono (PySem.wpAny_toks (ho.run pins s σ H _ I h)) (fun v s1 q => ?_) fun _ _ z => z.2)
  obtain ⟨hk, v', H1, I1, r1, x, e1, hb, q⟩ := q
  subst e1
  obtain ⟨tx, e2⟩ := r1
  subst e2
  refine ⟨"str", _, PySem.F.plainAttrs_str, PySem.F.slot_str_replace, PySem.F.type_str_replace, typeIs_str _ _ _, (fun _ e => nomatch e), Calls.callWith_builtin rfl (Calls.evalArgs_plain (Calls.spliced_cons ?_))⟩
  refine Calls.Constant_str (Calls.spliced_cons (Calls.Constant_str (Calls.spliced_cons (wpAny_Constant_int (Calls.spliced_nil ?_)))))
  exact sc_rep1 (by show s1.toks ≠ 0; omega) (by show s1.toks + 1 ≠ 0; omega) (by show s1.toks ≠ s1.toks + 1; omega) hb fun t' k => ⟨.str (Txt.rep1 x y z), H1, I1.tok k, ⟨t', rfl⟩, q⟩
/-- a method of a list whose argument wants a token -/
theorem pet_bm {T : String} {id : String} {name : PySem.Str} {r : V → List V → Hp → VK → Prop} {es : List Expr} {t : TA} {cpos : Pos} (pa : PlainAttrs T) (slot : Slot T name id) (hty : typeOf (.builtin id) = pure (.type "method_descriptor")) (hm : MtR X id r) (ho : PE X o to) (ha : PAT X (e :: es) t)
    (hbase : attributeBase o name X.env (eval o X.env) = eval o X.env := by rfl)
    (hfew : ((backTo cpos (starEach (e :: es) X.env)).all (fun x => !x.1) && (backToKw cpos (keywordEach [] X.env)).all (fun x => x.1.isSome)
      && decide ((e :: es).length + ([] : List Keyword).length + (if ([] : List Keyword).isEmpty then 0 else 1) < 30)) = true := by rfl)
    (hline : (apos.endLine == cpos.line) = true := by rfl) (hs : starEach (e :: es) X.env = (false, eval e X.env) :: starEach es X.env := by rfl) (hplain : (backTo cpos (starEach es X.env)).any (·.1) = false := by rfl) :
    PET X (.Call (.Attribute o name apos) (e :: es) [] cpos) (tBM X.K T r to t) := by
  intro pins s σ H Q h0 I h
  refine wpAny_Call_method_late hbase hfew hline rfl (wpAny_mono (PySem.wpAny_toks (ho.run pins s σ H _ I h)) (fun v s1 q => ?_) fun _ _ z => z.2)
  obtain ⟨hk, x, H1, I1, r1, ty, q1⟩ := q
  obtain ⟨h1, h2⟩ := tyV_is I1 r1 ty
  refine ⟨T, id, pa, slot, hty, h1, h2, ?_⟩
  have hA := ha cpos pins s1 σ H1 _ (Nat.le_trans h0 hk) I1 q1
  rw [hs] at hA ⊢
  refine Calls.callWith_builtin (by show (false || (backTo cpos (starEach es X.env)).any (·.1)) = false; rw [hplain] <;> rfl) (Calls.evalArgs_plain ?_)
  exact thn hA fun us s2 ⟨vs, H2, I2, r2, q2⟩ => hm pins s2 σ H2 x vs v us Q I2 r1 r2 q2
theorem pst_expr (he : PET X e te) (hs : swapsWith e none pos.line X.env = pure false := by rfl) : PST X (.Expr e pos) (tDrop te) := by
  intro pins s σ H D h0 I h
  exact wpAny_Expr_any (thn (he pins s σ H _ h0 I h) fun v s1 ⟨x, H1, I1, r1, q1⟩ => ⟨σ, H1, I1, q1⟩) I.quiet hs
/-! ### a statement that lets a token out -/
def PE1 (X : Cx) (e : Expr) (t : TE) : Prop := ∀ (pins : List (Addr × Obj)) (s : Shared) (σ : L2.St) (H : Hp) (Q : VK), Inv X pins σ H s → t σ H Q → wpAny (model X.prog X.w) X.A (eval e X.env) (fun v s1 => 1 ≤ s1.toks ∧ EP X pins σ Q v s1) X.xe s
def PA1 (X : Cx) (es : List Expr) (t : TA) : Prop := ∀ (pos : Pos) (pins : List (Addr × Obj)) (s : Shared) (σ : L2.St) (H : Hp) (Q : List V → Hp → Prop), Inv X pins σ H s → t σ H Q → wpAny (model X.prog X.w) X.A (spliced (backTo pos (starEach es X.env))) (fun v s1 => 1 ≤ s1.toks ∧ AP X pins σ Q v s1) X.xe s
def PS1 (X : Cx) (st : Stmt) (t : TS) : Prop := ∀ (pins : List (Addr × Obj)) (s : Shared) (σ : L2.St) (H : Hp) (D : Ends), Inv X pins σ H s → t D σ H → wpAny (model X.prog X.w) X.A (exec st X.env) (fun f s1 => 1 ≤ s1.toks ∧ SP X pins D f s1) X.xe s
theorem pe1_str {x : PySem.Str} : PE1 X (.Constant (.str x) j pos) (tC (.str x)) := fun _ s _ H _ I h => Calls.Constant_str ⟨by show 1 ≤ s.toks + 1; omega, .str x, H, I.tok _, ⟨_, rfl⟩, h⟩
theorem pe1_op {op : Operator} {r : R2} (ho : OpR X (binaryOp op) r) (ha : PE X e te) (hb : PE1 X f tf) : PE1 X (.BinOp e op f pos) (tOp r te tf) := by
  intro pins s σ H Q I h
  refine wpAny_BinOp (thn (ha.run pins s σ H _ I h) fun v s1 ⟨x, H1, I1, r1, q1⟩ => ?_)
  refine thn (hb pins s1 σ H1 _ I1 q1) fun u s2 ⟨hk, y, H2, I2, r2, q2⟩ => ?_
  exact wpAny_mono (PySem.wpAny_toks (ho pins s2 σ H2 x y v u Q I2 r1 r2 q2)) (fun z s3 q => ⟨Nat.le_trans hk q.1, q.2⟩) fun _ _ z => z.2
theorem pa1_cons {es : List Expr} {ta : TA} (ha : PE1 X e te) (hr : PA X es ta) (hs : starEach (e :: es) X.env = (false, eval e X.env) :: starEach es X.env := by rfl) : PA1 X (e :: es) (tCons te ta) := by
  intro pos pins s σ H Q I h
  rw [hs]
  show wpAny _ _ (spliced ((false, eval e X.env) :: backTo pos (starEach es X.env))) _ _ s
  refine Calls.spliced_cons (thn (ha pins s σ H _ I h) fun u s1 ⟨hk, x, H1, I1, r1, q1⟩ => ?_)
  exact wpAny_mono (PySem.wpAny_toks (hr.run pos pins s1 σ H1 _ I1 q1)) (fun us s2 ⟨hm, xs, H2, I2, r2, q2⟩ => ⟨Nat.le_trans hk hm, x :: xs, H2, I2, .cons r1 r2, q2⟩) fun _ _ z => z.2
theorem pe1_lst {es : List Expr} {ta : TA} (h : PA1 X es ta) : PE1 X (.List es pos) (tLst ta) := by
  intro pins s σ H Q I hq
  refine wpAny_List_spliced (thn (h pos pins s σ H _ I hq) fun us s1 ⟨hk, xs, H1, I1, r, z, q⟩ => ⟨by rw [← r.length]; exact z, ?_⟩)
  have hf : H1 s1.heap.objs.size = none := I1.hok.fresh (Nat.le_refl _)
  refine ⟨hk, .ref s1.heap.objs.size, upd H1 s1.heap.objs.size (.lst xs), I1.laid (t' := s1.toks) (fun b u e => Heap.get?_push_of_some _ e) (Nat.le_refl _) ?_, rfl, q _ hf⟩
  exact ⟨z, us, 0, r, Heap.get?_push_size _ rfl⟩
theorem ps1_set {i : Nat} {x : PySem.Str} {pos' : Pos} (hN : X.N.Nodup) (hi : X.N[i]? = some x) (hx : Loc X.env.scope x) (he : PE1 X e te) (hs : swapsWith e (some (.Name x pos')) pos.line X.env = pure false := by rfl) (hf : X.fn x = true ∨ X.env.scope.names.lookup x = some .local := by first | exact .inl rfl | exact .inr rfl | assumption) :
    PS1 X (.Assign [.Name x pos'] e pos) (tAsg te (gName i)) := by
  intro pins s σ H D I h
  refine wpAny_Assign_Name (thn (he pins s σ H _ I h) fun v s1 ⟨hk, y, H1, I1, r1, q1⟩ => ?_) hs
  exact wpAny_mono (PySem.wpAny_toks (store_ok (Q := fun _ s2 => SP X pins D .next s2) I1 hN hi hx r1 (fun s2 I2 => ⟨_, H1, I2, q1⟩) hf)) (fun z s3 q => ⟨Nat.le_trans hk q.1, q.2⟩) fun _ _ z => z.2
theorem pss_tok {st : Stmt} {rest : List Stmt} {t u : TS} (h1 : PS1 X st t) (h2 : PSsT X rest u) : PSs X (st :: rest) (tSeq t u) := by
  refine ⟨fun pins s σ H D I h => ?_⟩
  refine wpAny_execs_cons (thn (h1 pins s σ H { D with nx := u D } I h) fun f s1 q => ?_)
  obtain ⟨hk, q⟩ := q
  cases f with
  | next =>
    obtain ⟨σ', H', I', q⟩ := q
    exact h2 pins s1 σ' H' D hk I' q
  | ret v => exact q
  | brk => exact q
  | cont => exact q
end
section
variable {K : Fg} {G : Ctx K} {t to te : TE} {x y z : PySem.Str}
theorem ev_rep1 (h : EV K to G (.str x)) (hr : Rep1 x y z) : EV K (tRep1 to y z) G (.str (Txt.rep1 x y z)) := fun B F σ H own Q s k =>
  h B F σ H own _ s fun v F1 H1 o1 s1 hd f1 => ⟨x, dp_str hd, hr, k _ F1 H1 o1 s1 (.str _) f1⟩
theorem ev_upper (h : EV K to G (.str x)) (hr : x.length ≤ 5592405) : EV K (tM0 (fun x xs H Q => ∃ a, x = .str a ∧ xs = [] ∧ a.length ≤ 5592405 ∧ Q (.str (Txt.upper a)) H) to) G (.str (Txt.upper x)) := fun B F σ H own Q s k =>
  h B F σ H own _ s fun v F1 H1 o1 s1 hd f1 => ⟨⟨x, dp_str hd⟩, x, dp_str hd, rfl, hr, k _ F1 H1 o1 s1 (.str _) f1⟩
end
end Fz

set_option Elab.async false
set_option linter.all false
set_option maxRecDepth 100000
set_option maxHeartbeats 4000000
namespace W55
open PySem PySem.Spec PyProof.Rows L2 Fz
def topS (i : Nat) : Stmt := PySem.Challenge.pw_fewspans_k55_unknown_commands.main.body.getD i (.Pass ⟨0, 0, 0, 0⟩)
abbrev s_error_name : Stmt := topS 17
theorem sc_error_name : FnScope ["error", "words", "flags", "word", "flag"] ["error"] (defScope s_error_name) :=
  ⟨rfl, rfl, rfl, by decide +kernel, rfl, by decide +kernel, by decide +kernel⟩
abbrev s_is_number : Stmt := topS 25
theorem sc_is_number : FnScope ["value", "low", "high"] ["value", "low", "high"] (defScope s_is_number) :=
  ⟨rfl, rfl, rfl, by decide +kernel, rfl, by decide +kernel, by decide +kernel⟩
abbrev s_is_position : Stmt := topS 26
theorem sc_is_position : FnScope ["value"] ["value"] (defScope s_is_position) :=
  ⟨rfl, rfl, rfl, by decide +kernel, rfl, by decide +kernel, by decide +kernel⟩
abbrev s_is_interval : Stmt := topS 27
theorem sc_is_interval : FnScope ["value"] ["value"] (defScope s_is_interval) :=
  ⟨rfl, rfl, rfl, by decide +kernel, rfl, by decide +kernel, by decide +kernel⟩
abbrev s_is_ascending : Stmt := topS 28
theorem sc_is_ascending : FnScope ["items", "first", "second"] ["items"] (defScope s_is_ascending) :=
  ⟨rfl, rfl, rfl, by decide +kernel, rfl, by decide +kernel, by decide +kernel⟩
abbrev s_are_intervals : Stmt := topS 29
theorem sc_are_intervals : FnScope ["value", "limit", "item"] ["value", "limit"] (defScope s_are_intervals) :=
  ⟨rfl, rfl, rfl, by decide +kernel, rfl, by decide +kernel, by decide +kernel⟩
abbrev s_is_pieces : Stmt := topS 30
theorem sc_is_pieces : FnScope ["value"] ["value"] (defScope s_is_pieces) :=
  ⟨rfl, rfl, rfl, by decide +kernel, rfl, by decide +kernel, by decide +kernel⟩
abbrev s_targets_error : Stmt := topS 31
theorem sc_targets_error : FnScope ["value", "index", "item"] ["value"] (defScope s_targets_error) :=
  ⟨rfl, rfl, rfl, by decide +kernel, rfl, by decide +kernel, by decide +kernel⟩
abbrev s_parse_number : Stmt := topS 37
theorem sc_parse_number : FnScope ["word", "sign"] ["word"] (defScope s_parse_number) :=
  ⟨rfl, rfl, rfl, by decide +kernel, rfl, by decide +kernel, by decide +kernel⟩
abbrev s_parse_interval : Stmt := topS 38
theorem sc_parse_interval : FnScope ["word", "found", "part"] ["word"] (defScope s_parse_interval) :=
  ⟨rfl, rfl, rfl, by decide +kernel, rfl, by decide +kernel, by decide +kernel⟩
abbrev s_law_deck : Stmt := topS 69
theorem sc_law_deck : FnScope ["_law_script", "_law_cell"] ["_law_script"] (defScope s_law_deck) :=
  ⟨rfl, rfl, rfl, by decide +kernel, rfl, by decide +kernel, by decide +kernel⟩
abbrev s_law_draw : Stmt := topS 70
theorem sc_law_draw : FnScope ["_law_deck_here", "_law_many", "_law_cell", "_law_place"] ["_law_deck_here", "_law_many"] (defScope s_law_draw) :=
  ⟨rfl, rfl, rfl, by decide +kernel, rfl, by decide +kernel, by decide +kernel⟩
abbrev s_law_same : Stmt := topS 71
theorem sc_law_same : FnScope ["_law_found", "_law_due", "_law_one", "_law_other"] ["_law_found", "_law_due"] (defScope s_law_same) :=
  ⟨rfl, rfl, rfl, by decide +kernel, rfl, by decide +kernel, by decide +kernel⟩
abbrev s_law_small : Stmt := topS 72
theorem sc_law_small : FnScope ["_law_deck_here", "_law_most", "_law_span", "_law_found", "_law_k", "_law_low"] ["_law_deck_here", "_law_most", "_law_span"] (defScope s_law_small) :=
  ⟨rfl, rfl, rfl, by decide +kernel, rfl, by decide +kernel, by decide +kernel⟩
abbrev s_law_odd : Stmt := topS 73
theorem sc_law_odd : FnScope ["_law_deck_here", "_law_some"] ["_law_deck_here"] (defScope s_law_odd) :=
  ⟨rfl, rfl, rfl, by decide +kernel, rfl, by decide +kernel, by decide +kernel⟩
abbrev s_law_text : Stmt := topS 74
theorem sc_law_text : FnScope ["_law_intervals", "_law_low", "_law_high"] ["_law_intervals"] (defScope s_law_text) :=
  ⟨rfl, rfl, rfl, by decide +kernel, rfl, by decide +kernel, by decide +kernel⟩
abbrev s_law_lines : Stmt := topS 75
theorem sc_law_lines : FnScope ["_law_word", "_law_good", "_law_found", "_law_line", "_law_verb"] ["_law_word"] (defScope s_law_lines) :=
  ⟨rfl, rfl, rfl, by decide +kernel, rfl, by decide +kernel, by decide +kernel⟩
abbrev s_law : Stmt := topS 76
theorem sc_law : FnScope ["_law_script", "_law_deck_here", "_law_targets", "_law_plan", "_law_other", "_law_shell", "_law_word", "_law_line"] ["_law_script"] (defScope s_law) :=
  ⟨rfl, rfl, rfl, by decide +kernel, rfl, by decide +kernel, by decide +kernel⟩
abbrev s_Shell___init__ : Stmt := inClass (topS 47) 0
theorem sc_Shell___init__ : FnScope ["self", "plan"] ["self", "plan"] (defScope s_Shell___init__) :=
  ⟨rfl, rfl, rfl, by decide +kernel, rfl, by decide +kernel, by decide +kernel⟩
abbrev s_Plan___init__ : Stmt := inClass (topS 67) 0
theorem sc_Plan___init__ : FnScope ["self", "targets", "pieces", "error"] ["self", "targets", "pieces"] (defScope s_Plan___init__) :=
  ⟨rfl, rfl, rfl, by decide +kernel, rfl, by decide +kernel, by decide +kernel⟩
abbrev s_Plan___len__ : Stmt := inClass (topS 67) 1
theorem sc_Plan___len__ : FnScope ["self"] ["self"] (defScope s_Plan___len__) :=
  ⟨rfl, rfl, rfl, by decide +kernel, rfl, by decide +kernel, by decide +kernel⟩
abbrev s_Plan___eq__ : Stmt := inClass (topS 67) 2
theorem sc_Plan___eq__ : FnScope ["self", "other"] ["self", "other"] (defScope s_Plan___eq__) :=
  ⟨rfl, rfl, rfl, by decide +kernel, rfl, by decide +kernel, by decide +kernel⟩
abbrev s_Plan_state_at : Stmt := inClass (topS 67) 13
theorem sc_Plan_state_at : FnScope ["self", "version"] ["self", "version"] (defScope s_Plan_state_at) :=
  ⟨rfl, rfl, rfl, by decide +kernel, rfl, by decide +kernel, by decide +kernel⟩
abbrev s_Plan_targets : Stmt := inClass (topS 67) 14
theorem sc_Plan_targets : FnScope ["self", "version"] ["self", "version"] (defScope s_Plan_targets) :=
  ⟨rfl, rfl, rfl, by decide +kernel, rfl, by decide +kernel, by decide +kernel⟩
abbrev s_is_interval_Z : Stmt := topS 27
theorem sc_is_interval_Z : FnScope ["value"] ["value"] (defScope s_is_interval_Z) :=
  ⟨rfl, rfl, rfl, by decide +kernel, rfl, by decide +kernel, by decide +kernel⟩
abbrev s_is_position_Z : Stmt := topS 26
theorem sc_is_position_Z : FnScope ["value"] ["value"] (defScope s_is_position_Z) :=
  ⟨rfl, rfl, rfl, by decide +kernel, rfl, by decide +kernel, by decide +kernel⟩
abbrev s_is_number_Z : Stmt := topS 25
theorem sc_is_number_Z : FnScope ["value", "low", "high"] ["value", "low", "high"] (defScope s_is_number_Z) :=
  ⟨rfl, rfl, rfl, by decide +kernel, rfl, by decide +kernel, by decide +kernel⟩
abbrev s_Shell_execute_Q : Stmt := inClass (topS 47) 5
theorem sc_Shell_execute_Q : FnScope ["self", "line", "error", "found"] ["self", "line"] (defScope s_Shell_execute_Q) :=
  ⟨rfl, rfl, rfl, by decide +kernel, rfl, by decide +kernel, by decide +kernel⟩
abbrev s_Shell_run_Q : Stmt := inClass (topS 47) 4
theorem sc_Shell_run_Q : FnScope ["self", "words", "interval"] ["self", "words"] (defScope s_Shell_run_Q) :=
  ⟨rfl, rfl, rfl, by decide +kernel, rfl, by decide +kernel, by decide +kernel⟩
abbrev s_Shell_answer_Q : Stmt := inClass (topS 47) 3
theorem sc_Shell_answer_Q : FnScope ["self", "word"] ["self", "word"] (defScope s_Shell_answer_Q) :=
  ⟨rfl, rfl, rfl, by decide +kernel, rfl, by decide +kernel, by decide +kernel⟩
abbrev ERR : List PySem.Str := ["BadInterval", "Duplicate", "TooMany", "Unknown", "TooManyEdits", "NothingToUndo"]
def sub_SpanError (cn : PySem.Str) : Bool := decide (cn ∈ (["SpanError", "BadPieces", "TooManyEdits", "NothingToUndo", "BadEdits", "Busy", "TooWide", "TooMany", "BadTargets", "BadInterval", "Duplicate", "BadEdit", "Rejected"] : List PySem.Str))
def sub_Unknown (cn : PySem.Str) : Bool := decide (cn ∈ (["Unknown"] : List PySem.Str))
def sub_BadInterval (cn : PySem.Str) : Bool := decide (cn ∈ (["BadInterval"] : List PySem.Str))
def sub_Busy (cn : PySem.Str) : Bool := decide (cn ∈ (["Busy"] : List PySem.Str))
def sub_Duplicate (cn : PySem.Str) : Bool := decide (cn ∈ (["Duplicate"] : List PySem.Str))
def sub_NothingToUndo (cn : PySem.Str) : Bool := decide (cn ∈ (["NothingToUndo"] : List PySem.Str))
def sub_TooMany (cn : PySem.Str) : Bool := decide (cn ∈ (["TooMany"] : List PySem.Str))
def sub_TooManyEdits (cn : PySem.Str) : Bool := decide (cn ∈ (["TooManyEdits"] : List PySem.Str))
def sub_TooWide (cn : PySem.Str) : Bool := decide (cn ∈ (["TooWide"] : List PySem.Str))
abbrev eFl_Plan (o : ((List ((List (Int × Int)) × (List (Int × Int)))) × (List (PySem.Str × (Int × Int))) × Bool)) : List (Str × PyData) := [("states", (eLs (eT2 (eSq eP) (eSq eP))) o.1), ("standing", (eLs (eT2 eS eP)) o.2.1), ("applying", eB o.2.2)]
abbrev eOb_Plan (o : ((List ((List (Int × Int)) × (List (Int × Int)))) × (List (PySem.Str × (Int × Int))) × Bool)) : PyData := obL "Plan" ["states", "standing", "applying"] [(eLs (eT2 (eSq eP) (eSq eP))) o.1, (eLs (eT2 eS eP)) o.2.1, eB o.2.2]
abbrev eFl_Shell (o : (((List ((List (Int × Int)) × (List (Int × Int)))) × (List (PySem.Str × (Int × Int))) × Bool))) : List (Str × PyData) := [("plan", eOb_Plan o)]
abbrev eOb_Shell (o : (((List ((List (Int × Int)) × (List (Int × Int)))) × (List (PySem.Str × (Int × Int))) × Bool))) : PyData := obL "Shell" ["plan"] [eOb_Plan o]
section
variable {P : Program} {w : World} {K : Fg} {mg : Str → Option Value} {base : Heap}
abbrev sp_law_draw (K : Fg) : Sp := spDraw K
abbrev sp_law_deck (K : Fg) : Sp := spDeck K dkR
theorem ok_law_draw {f : Ad} {fd : FuncData} (F : Fun K "_law_draw" "_law_draw" s_law_draw f fd) (z_len : mg "len" = none) : FnG P w K mg base CX0 1 f fd ["_law_deck_here", "_law_many"] (spDraw K) := by
  refine okG F sc_law_draw (fun vs H Q E h => ?_) (fun cdv A outer s H vs Q E hr hgd h => ?_)
  · obtain ⟨l, F0, p, m, ws, A0, rfl, _, _, _, hd, _⟩ := h
    rw [List.length_cons, dpa_len hd]; rfl
  · obtain ⟨l, F0, p, m, ws, A0, rfl, f0, fa, hR, hd, ⟨hl, hl2⟩, hm, q⟩ := h
    obtain ⟨v, rfl, hv⟩ := dpa_one hd
    cases dp_int hv
    obtain ⟨_, ap, c, cells, n, ac, npc, hP, hC, h63, hpos, n0, nm⟩ := hR
    have hm1 : m + 1 ≤ DB := hm
    have fin := draw_end (l := l) (K := K) f0 fa ap ac npc n0 nm q
    refine ⟨_, (pss_cons (ps_asg (pe_op op_add (pe_ix (ix_listK K rfl) (pv 0) pe_int (fun _ _ => rfl)) pe_int) (pg_sub (pv 0) pe_int set_list))
      (pss_cons (ps_set (i := 2) sc_law_draw.nd rfl (by first | exact Or.inl rfl | exact Or.inr rfl) pe_int)
      (pss_cons (ps_set (i := 3) sc_law_draw.nd rfl (by first | exact Or.inl rfl | exact Or.inr rfl) (pe_un un_neg pe_int))
      (Evl.pss_cut (ps_if (pt_cmpR op_gt (pe_callB (call_lenK K rfl) (by rfl) z_len (by decide +kernel) (pa_cons (pe_ix (ix_listK K rfl) (pv 0) pe_int (fun _ _ => rfl)) pa_nil)) pe_int (nomark _)) (pss_cons (ps_set (i := 3) sc_law_draw.nd rfl (by first | exact Or.inl rfl | exact Or.inr rfl) (pe_op op_mod (pe_ix (ix_listK K rfl) (pv 0) pe_int (fun _ _ => rfl)) (pe_callB (call_lenK K rfl) (by rfl) z_len (by decide +kernel) (pa_cons (pe_ix (ix_listK K rfl) (pv 0) pe_int (fun _ _ => rfl)) pa_nil))))
      (pss_one (ps_set (i := 2) sc_law_draw.nd rfl (by first | exact Or.inl rfl | exact Or.inr rfl) (pe_ix (ix_listK K rfl) (pe_ix (ix_listK K rfl) (pv 0) pe_int (fun _ _ => rfl)) (pv 3) (fun _ _ => rfl))))) pss_nil)
      (pss_cons (ps_if (pt_cmpR op_ge (pv 2) (pe_op op_pow pe_int pe_int) (nomark _)) (pss_cons (ps_asg (pe_op op_fdivW (pv 2) (pv 1)) (pg_sub (pe_ix (ix_listK K rfl) (pv 0) pe_int (fun _ _ => rfl)) (pv 3) set_list))
      (pss_one (ps_ret (pe_op op_mod (pv 2) (pv 1))))) pss_nil)
      (pss_one (ps_ret (pe_op op_mod (pe_op op_mod (pe_op op_powW (pe_op op_add (pe_op op_add (pe_op op_mod (pv 2) pe_int) (pe_op op_mul pe_int (pe_ix (ix_listK K rfl) (pv 0) pe_int (fun _ _ => rfl)))) pe_int) pe_int) pe_int) (pv 1))))))))), ?_⟩
    have pos2 : (0 : Int) ≤ n + 1 := by omega
    -- deck[1] = deck[1] + 1
    refine ⟨_, rfl, p, _, 1, .int n, rfl, rfl, SqL.of hP, rfl, n, 1, rfl, rfl, ?_⟩
    refine ⟨_, rfl, p, _, 1, 1, rfl, rfl, hP, rfl, ?_⟩
    have hP1 : upd H p (.lst [.ref c, .int (n + 1)]) p = some (.lst [.ref c, .int (n + 1)]) := upd_same
    have hC1 : upd H p (.lst [.ref c, .int (n + 1)]) c = some (.lst (cells.map V.int)) := by rw [upd_ne npc.symm]; exact hC
    have kp1 : ∀ a o, a ≠ p → a ≠ c → H a = some o → upd H p (.lst [.ref c, .int (n + 1)]) a = some o := fun a o h1 h2 e => by rw [upd_ne h1]; exact e
    show tSeq _ _ _ _ (upd H p (.lst [.ref c, .int (n + 1)]))
    generalize hH1 : upd H p (.lst [.ref c, .int (n + 1)]) = H1 at hP1 hC1 kp1
    -- cell = 0, place = -1
    refine ⟨1, rfl, ?_⟩
    have hP2 := hP1
    have hC2 := hC1
    have kp2 := kp1
    generalize H1 = H2 at hP2 hC2 kp2 ⊢
    -- if len(deck[0]) > 0
    refine ⟨fun σ' H' => ∃ cell ix : Int, σ' = [some (.ref p), some (.int l), some (.int cell), some (.int ix)] ∧ H' = H2 ∧ 0 ≤ cell ∧
      (1000000000000000000 ≤ cell → ∃ (j : Nat), j < cells.length ∧ ixN (cells.map V.int).length ix = some j), ?_, ?_⟩
    · refine ⟨_, rfl, p, _, 0, .ref c, rfl, rfl, SqL.of hP2, rfl, c, _, rfl, .inl (SqL.of hC2), ((cells.map V.int).length : Int), 0, rfl, rfl, _, rfl, ite2 (fun e => ?_) (fun e => ?_)⟩
      · have hlen : 0 < cells.length := by
          have := of_decide_eq_true e
          rw [List.length_map] at this
          omega
        refine ⟨_, rfl, p, _, 1, .int (n + 1), rfl, rfl, SqL.of hP2, rfl, _, rfl, p, _, 0, .ref c, rfl, rfl, SqL.of hP2, rfl, c, _, rfl, .inl (SqL.of hC2), n + 1, ((cells.map V.int).length : Int), rfl, rfl, by rw [List.length_map]; omega, ?_⟩
        have m0 := Int.emod_nonneg (n + 1) (b := ((cells.map V.int).length : Int)) (by rw [List.length_map]; omega)
        have m1 := Int.emod_lt_of_pos (n + 1) (b := ((cells.map V.int).length : Int)) (by rw [List.length_map]; omega)
        obtain ⟨j, hj, ej, e1, e2⟩ := cell_ix (cells := cells) m0 (by rw [List.length_map] at m1 ⊢; exact m1)
        refine ⟨_, rfl, p, _, 0, .ref c, rfl, rfl, SqL.of hP2, rfl, _, rfl, c, _, _, _, rfl, rfl, SqL.of hC2, e1, ?_⟩
        exact ⟨cells[j], _, rfl, rfl, hpos _ (List.getElem_mem hj), fun _ => ⟨j, hj, e2⟩⟩
      · exact ⟨0, -1, rfl, rfl, Int.le_refl _, fun z => absurd z (by decide)⟩
    · rintro σ' H' ⟨cell, ix, rfl, rfl, c0, hix⟩
      -- if cell >= 10 ** 18
      refine ⟨_, rfl, 10, 18, rfl, rfl, ⟨by decide, by decide, by decide⟩, cell, _, rfl, rfl, _, rfl, ite2 (fun e => ?_) (fun e => ?_)⟩
      · have big : 1000000000000000000 ≤ cell := of_decide_eq_true e
        obtain ⟨j, hj, ej⟩ := hix big
        refine ⟨_, rfl, _, rfl, cell, l, rfl, rfl, wide_div hl (b := 64) (by omega) (by decide) (by decide), ?_⟩
        refine ⟨_, rfl, p, _, 0, .ref c, rfl, rfl, SqL.of hP2, rfl, _, rfl, c, _, ix, j, rfl, rfl, hC2, ej, ?_⟩
        refine ⟨_, rfl, _, rfl, cell, l, rfl, rfl, hl, ?_⟩
        refine fin _ (cells.set j (cell / l)) (cell % l) (by rw [upd_ne npc]; exact hP2) (by rw [upd_same, List.map_set]) (by rw [List.length_set]; exact h63) (fun x hx => ?_) (fun a o h1 h2 z => by rw [upd_ne h2]; exact kp2 a o h1 h2 z) (Int.emod_nonneg _ (by omega)) (Int.emod_lt_of_pos _ hl)
        rcases List.mem_or_eq_of_mem_set hx with z | z
        · exact hpos x z
        · rw [z]; exact Int.ediv_nonneg c0 (by omega)
      · have nb : n + 1 ≤ DB := by omega
        have m0 := Int.emod_nonneg cell (b := 2147483587) (by decide)
        have m1 := Int.emod_lt_of_pos cell (b := 2147483587) (by decide)
        refine ⟨_, rfl, cell, 2147483587, rfl, rfl, (by show (0 : Int) < 2147483587; decide), _, rfl, p, _, 1, .int (n + 1), rfl, rfl, SqL.of hP2, rfl, 7919, n + 1, rfl, rfl, .inl ⟨by decide, by decide⟩, _, _, rfl, rfl, _, _, rfl, rfl,
          _, 5, rfl, rfl, draw_pow m0 m1 (by decide) (by decide) pos2 nb (by decide) (by decide) (by decide) (by decide), _, 2147483647, rfl, rfl, (by show (0 : Int) < 2147483647; decide), _, rfl, _, l, rfl, rfl, hl, ?_⟩
        exact fin _ cells _ hP2 hC2 h63 hpos kp2 (Int.emod_nonneg _ (by omega)) (Int.emod_lt_of_pos _ hl)

theorem ok_law_deck {f : Ad} {fd : FuncData} (F : Fun K "_law_deck" "_law_deck" s_law_deck f fd) (z_abs : mg "abs" = none) : FnG P w K mg base CX0 1 f fd ["_law_script"] (spDeck K dkR) := by
  refine okG F sc_law_deck (fun vs H Q E h => ?_) (fun cdv A outer s H vs Q E hr hgd h => ?_)
  · obtain ⟨F0, ns, _, hd, _⟩ := h
    rw [dpa_len hd]; rfl
  · obtain ⟨F0, ns, f0, hd, hl, q⟩ := h
    obtain ⟨v, rfl, hv⟩ := dpa_one hd
    refine ⟨_, (pss_one (ps_ret (pe_lst (pa_cons (pe_lc (own := [("_law_cell", 1)]) (tt := tYes) rfl sc_law_deck.nd (pi_listK K rfl (pe_slice (sl_listK K rfl) (pv 0) po_none (po_some pe_int))) (blkOk_by (N := ["_law_script", "_law_cell"]) (sc := defScope s_law_deck) (by decide +kernel)) (fun _ _ _ _ _ => (pg_name (i := 1) sc_law_deck.nd rfl (by first | exact Or.inl rfl | exact Or.inr rfl))) (fun _ _ _ _ _ => pts_nil) (fun _ _ _ _ _ => (pe_callB call_abs (by rfl) z_abs (by decide +kernel) (pa_cons (pv 1) pa_nil)))) (pa_cons pe_int pa_nil))))), ?_⟩
    have hz : (cutL ns none (some 63)).length ≤ 63 := cutL_len ns 63
    exact deck_go (ds := (cutL ns none (some 63)).map fun x_ => if x_ < 0 then -x_ else x_) f0 hv q (el_lc0 (en' := eI) (fun (x_ : Int) => (if x_ < 0 then -x_ else x_)) (di_list (ev_ofL (el_is (el_slL (ev_var rfl) eo_no (eo_some ev_int)) (cutD_map ..)))) rfl (fun x_ hx_ => gj_name (ev_cb (eva_cons (ev_var rfl) eva_nil) rdl_abs))) (by rw [List.length_map]; omega) (fun x hx => by obtain ⟨y, _, rfl⟩ := List.mem_map.mp hx; exact abs_nn)

/-! law_small -/
def W_law_small (most : Int) (span : Int) (Q : (List (Int × Int)) → Prop) : Prop :=
  ∀ found : (List (Int × Int)), found = ([] : (List (Int × Int))) →
  (Dr (most + (1 : Int))) ∧
  ∀ k : Int, 0 ≤ k → k < (most + (1 : Int)) →
  (Rg1 k) ∧
  forW (fun (k1 : Int) (s_ : (List (Int × Int))) nx_ bk_ =>
  (fun (found1 : (List (Int × Int))) =>
  (Dr span) ∧
  ∀ k2 : Int, 0 ≤ k2 → k2 < span →
  ((found1).length < 100000) ∧
  (Dr (span - k2)) ∧
  ∀ k3 : Int, 0 ≤ k3 → k3 < (span - k2) →
  ∀ found3 : (List (Int × Int)), found3 = (found1 ++ [(k2, (k2 + k3))]) →
  nx_ found3) s_) (rgI 0 (k).toNat) found (fun (found2 : (List (Int × Int))) =>
  ((found2).length < 64) ∧
  (∀ z ∈ found2, InB z) ∧
  Q (srt found2))
abbrev spw_law_small (K : Fg) : Sp := spWD K dkR (fun x : (Int × Int) => [eI x.1, eI x.2]) (eSq eP) 900015 (fun (x : (Int × Int)) Q => W_law_small x.1 x.2 Q)
theorem okw_law_small {f : Ad} {fd : FuncData} (F : Fun K "_law_small" "_law_small" s_law_small f fd) (C_law_draw : Cal P w K mg base 1 "_law_draw" ["_law_deck_here", "_law_many"] (sp_law_draw K)) (z_range : mg "range" = none) (z_tuple : mg "tuple" = none) (z_sorted : mg "sorted" = none) (z_set : mg "set" = none) : FnG P w K mg base CX0 2 f fd ["_law_deck_here", "_law_most", "_law_span"] (spw_law_small K) := by
  obtain ⟨f_law_draw, fd_law_draw, G_law_draw, k_law_draw, b_law_draw, m_law_draw⟩ := C_law_draw
  refine okD dkR_up dkR_eq F sc_law_small (fun _ => rfl) (fun cdv A outer s H E hr hgd => ?_)
  have hu65 := rm65 hr
  refine ⟨_, (pss_cons (ps_set (i := 3) sc_law_small.nd rfl (by first | exact Or.inl rfl | exact Or.inr rfl) (pe_lst pa_nil))
      (pss_cons (ps_for PassesOwn.never rfl (pi_range1 (by rfl) z_range (pa_cons (pe_callG G_law_draw (hr.mono (by decide)) hgd (by rfl) m_law_draw k_law_draw b_law_draw .nil pass0 (pa_cons (pv 0) (pa_cons (pe_op op_add (pv 1) pe_int) pa_nil))) pa_nil)) (pg_name (i := 4) sc_law_small.nd rfl (by first | exact Or.inl rfl | exact Or.inr rfl))
      (pss_cons (ps_set (i := 5) sc_law_small.nd rfl (by first | exact Or.inl rfl | exact Or.inr rfl) (pe_callG G_law_draw (hr.mono (by decide)) hgd (by rfl) m_law_draw k_law_draw b_law_draw .nil pass0 (pa_cons (pv 0) (pa_cons (pv 2) pa_nil))))
      (pss_cons (ps_expr (pe_bm PySem.F.plainAttrs_list PySem.F.slot_list_append PySem.F.type_list_append mt_append (pv 3) (pa_cons (pe_tup (pa_cons (pv 5) (pa_cons (pe_op op_add (pv 5) (pe_callG G_law_draw (hr.mono (by decide)) hgd (by rfl) m_law_draw k_law_draw b_law_draw .nil pass0 (pa_cons (pv 0) (pa_cons (pe_op op_sub (pv 2) (pv 5)) pa_nil)))) pa_nil))) pa_nil)))
      pss_nil)))
      (pss_cons (ps_ret (pe_callTy (call_tupK K rfl) (by rfl) z_tuple (by decide +kernel) (pa_cons (pe_callB (cr_sortedTK (K := K) (P := P) (w := w) rfl rfl rfl rfl) (by rfl) z_sorted (by decide +kernel) (pa_cons (pe_callTy (cr_setOfTK (K := K) (P := P) (w := w) rfl rfl rfl rfl hr.units) (by rfl) z_set (by decide +kernel) (pa_cons (pv 3) pa_nil)) pa_nil)) pa_nil)))
      pss_nil))), fun x p m hp hm => ?_⟩
  have hm : m + 900015 ≤ DB := hm
  obtain ⟨⟨most, span⟩, Q⟩ := x
  have h : W_law_small most span Q := hp
  unfold W_law_small at h
  show SJ K _ [.ow (dkR p m), .da (eI most), .da (eI span), .un, .un, .un] _
  refine sj_seq ?_
  refine sj_setL (el_lst eva_nil) ?_
  show SJ K _ [.ow (dkR p m), .da (eI most), .da (eI span), .ow (lsR (List.map eP ([] : (List (Int × Int))))), .un, .un] _
  refine sj_nameV (([] : (List (Int × Int))) : (List (Int × Int))) (fun found => [.ow (dkR p m), .da (eI most), .da (eI span), .ow (lsR (List.map eP found)), .un, .un]) (fun found foundh => ?_)
  have h := h found foundh
  refine sj_seq ?_
  refine sj_forP (dij_rng1 ?_)
  refine eja_cons ?_
  obtain ⟨g1_, h⟩ := h
  refine ej_callD dkR_eq rfl (eja_of (eva_cons (ev_op (ev_var rfl) ev_int rd_ii) eva_nil) ⟨(most + (1 : Int)), m, rfl, rfl, g1_, (by show m + 1 ≤ DB; omega), ?_⟩)
  rintro _ ⟨k, rfl, ka, kb⟩
  have h := h k ka kb
  refine eja_nil ?_
  obtain ⟨g2_, h⟩ := h
  refine ⟨k, rfl, g2_.1, g2_.2, forOk_W eI h 9 (m + 1) (fun m_ (s_ : (List (Int × Int))) => [.ow (dkR p m_), .da (eI most), .da (eI span), .ow (lsR (List.map eP s_)), .un, .un]) [4] up_sj (fun k1 found1 κ_ mm mmh h => ?_) (fun found2 mm1 mm1h h => ?_)⟩
  · skip
    refine gj_name ?_
    show SJ K _ [.ow (dkR p mm), .da (eI most), .da (eI span), .ow (lsR (List.map eP found1)), .da (eI k1), .un] _
    refine sj_seq ?_
    refine sj_setJ ?_
    obtain ⟨g3_, h⟩ := h
    refine ej_callD dkR_eq rfl (eja_of (eva_cons (ev_var rfl) eva_nil) ⟨span, mm, rfl, rfl, g3_, (by show mm + 1 ≤ DB; omega), ?_⟩)
    rintro _ ⟨k2, rfl, k2a, k2b⟩
    have h := h k2 k2a k2b
    show SJ K _ [.ow (dkR p (mm + 1)), .da (eI most), .da (eI span), .ow (lsR (List.map eP found1)), .da (eI k1), .da (eI k2)] _
    refine sj_seq ?_
    obtain ⟨g4_, h⟩ := h
    refine sj_appT eP rfl ?_
    refine ej_tup ?_
    refine eja_cons ?_
    refine ej_of (ev_var rfl) ?_
    refine eja_cons ?_
    refine ej_op ?_
    refine ej_of (ev_var rfl) ?_
    obtain ⟨g5_, h⟩ := h
    refine ej_callD dkR_eq rfl (eja_of (eva_cons (ev_op (ev_var rfl) (ev_var rfl) rd_ii) eva_nil) ⟨(span - k2), (mm + 1), rfl, rfl, g5_, (by show (mm + 1) + 1 ≤ DB; omega), ?_⟩)
    rintro _ ⟨k3, rfl, k3a, k3b⟩
    have h := h k3 k3a k3b
    refine ⟨_, rd_ii, ?_⟩
    refine eja_nil ?_
    refine ⟨Nat.le_of_ble_eq_true rfl, ?_⟩
    refine ⟨found1, (k2, (k2 + k3)), rfl, rfl, g4_, ?_⟩
    show SJ K _ [.ow (dkR p ((mm + 1) + 1)), .da (eI most), .da (eI span), .ow (lsR (List.map eP (found1 ++ [(k2, (k2 + k3))]))), .da (eI k1), .da (eI k2)] _
    refine sj_nameV ((found1 ++ [(k2, (k2 + k3))]) : (List (Int × Int))) (fun found3 => [.ow (dkR p ((mm + 1) + 1)), .da (eI most), .da (eI span), .ow (lsR (List.map eP found3)), .da (eI k1), .da (eI k2)]) (fun found3 found3h => ?_)
    have h := h found3 found3h
    refine sj_next ?_
    exact ⟨found3, ((mm + 1) + 1), h, (by omega), (.same (.same (.same (.same (.un (.un .nil))))))⟩
  · skip
    show SJ K _ [.ow (dkR p mm1), .da (eI most), .da (eI span), .ow (lsR (List.map eP found2)), .un, .un] _
    refine sj_iceT eP 3 rfl (by decide) ?_
    show SJ K _ [.ow (dkR p mm1), .da (eI most), .da (eI span), .da ((eLs eP) found2), .un, .un] _
    refine sj_seq ?_
    refine sj_retJ ?_
    obtain ⟨g6_, g7_, h⟩ := h
    refine ej_of (ev_cb (eva_cons (ev_ofL (el_sortSet (xs := found2) (ev_var rfl) g6_ g7_)) eva_nil) rdl_tupL) ?_
    exact ⟨⟨(srt found2), rfl, h⟩, mm1, (by omega), rfl⟩
def P_law_small (m s : Int) : Prop := 0 ≤ m ∧ m ≤ 24 ∧ 0 < s ∧ s ≤ 40
def R_law_small (m s : Int) (l : List (Int × Int)) : Prop := l.Pairwise LtP ∧ l.length ≤ 24 ∧ ∀ z ∈ l, 0 ≤ z.1 ∧ z.1 ≤ z.2 ∧ z.2 < s
theorem pf_law_small (m s : Int) (h : P_law_small m s) : W_law_small m s fun r => R_law_small m s r := by
  obtain ⟨m0, m1, s0, s1⟩ := h
  intro f hf
  refine ⟨dr_of (by omega) (by omega), fun k k0 k1 => ⟨rg1_of (by omega) (by omega), ?_⟩⟩
  refine forW_inv (fun i l => l.length ≤ i ∧ ∀ z ∈ l, 0 ≤ z.1 ∧ z.1 ≤ z.2 ∧ z.2 < s) ⟨by rw [hf]; exact Nat.le_refl _, by rw [hf]; exact fun z hz => nomatch hz⟩ (fun i t l κ ht hl hκ => ?_) (fun l hl => ?_)
  · have ti := (rg_get ht).2
    obtain ⟨l1, l2⟩ := hl
    refine ⟨dr_of (by omega) (by omega), fun a a0 a1 => ⟨by omega, dr_of (by omega) (by omega), fun b b0 b1 l3 hl3 => hκ _ ⟨?_, fun z hz => ?_⟩⟩⟩
    · rw [hl3, List.length_append]; show l.length + 1 ≤ i + 1; omega
    · rw [hl3] at hz
      rcases List.mem_append.mp hz with q | q
      · exact l2 z q
      · rw [List.mem_singleton.mp q]; exact ⟨a0, by show a ≤ a + b; omega, by show a + b < s; omega⟩
  · rw [rgI_len] at hl
    obtain ⟨l1, l2⟩ := hl
    have q := srt_len l
    exact ⟨by omega, fun z hz => by have := l2 z hz; unfold InB BB; omega, srt_pw l, by show (srt l).length ≤ 24; omega, fun z hz => l2 z (mem_srt.mp hz)⟩
abbrev sp_law_small (K : Fg) : Sp := spD K dkR (fun x : (Int × Int) => [eI x.1, eI x.2]) (fun x => P_law_small x.1 x.2) (fun _ => 900015) (fun x d => ∃ r, d = (eSq eP) r ∧ R_law_small x.1 x.2 r)
theorem ok_law_small {f : Ad} {fd : FuncData} (F : Fun K "_law_small" "_law_small" s_law_small f fd) (C_law_draw : Cal P w K mg base 1 "_law_draw" ["_law_deck_here", "_law_many"] (sp_law_draw K)) (z_range : mg "range" = none) (z_tuple : mg "tuple" = none) (z_sorted : mg "sorted" = none) (z_set : mg "set" = none) : FnG P w K mg base CX0 2 f fd ["_law_deck_here", "_law_most", "_law_span"] (sp_law_small K) :=
  (okw_law_small F C_law_draw z_range z_tuple z_sorted z_set).imp (imp_WD fun x h => pf_law_small x.1 x.2 h)
/-! law_text -/
def W_law_text (intervals : (List (Int × Int))) (Q : PySem.Str → Prop) : Prop :=
  (∀ x_ ∈ intervals, ((Rp' x_.1) ∧ (((sI x_.1)).length + ((PySem.Str.ofString "-")).length ≤ 16000000) ∧ (Rp' x_.2) ∧ ((((sI x_.1) ++ (PySem.Str.ofString "-"))).length + ((sI x_.2)).length ≤ 16000000))) ∧
  (0 ≤ (if (decide (intervals = ([] : (List (Int × Int))))) = true then (1 : Int) else 0) ∧ (if (decide (intervals = ([] : (List (Int × Int))))) = true then (1 : Int) else 0) ≤ 1000) ∧
  (([(PySem.Str.ofString "none")]).length * ((if (decide (intervals = ([] : (List (Int × Int))))) = true then (1 : Int) else 0)).toNat ≤ 100000) ∧
  (((intervals.map fun (x_ : (Int × Int)) => (((sI x_.1) ++ (PySem.Str.ofString "-")) ++ (sI x_.2)))).length + ((repL ([(PySem.Str.ofString "none")]) (if (decide (intervals = ([] : (List (Int × Int))))) = true then (1 : Int) else 0))).length ≤ 100000) ∧
  (((((intervals.map fun (x_ : (Int × Int)) => (((sI x_.1) ++ (PySem.Str.ofString "-")) ++ (sI x_.2))) ++ (repL ([(PySem.Str.ofString "none")]) (if (decide (intervals = ([] : (List (Int × Int))))) = true then (1 : Int) else 0)))).map fun x_ => PySem.Str.length x_).sum + (((intervals.map fun (x_ : (Int × Int)) => (((sI x_.1) ++ (PySem.Str.ofString "-")) ++ (sI x_.2))) ++ (repL ([(PySem.Str.ofString "none")]) (if (decide (intervals = ([] : (List (Int × Int))))) = true then (1 : Int) else 0)))).length * PySem.Str.length (PySem.Str.ofString " ") ≤ 16777216) ∧
  Q (Txt.join (PySem.Str.ofString " ") ((intervals.map fun (x_ : (Int × Int)) => (((sI x_.1) ++ (PySem.Str.ofString "-")) ++ (sI x_.2))) ++ (repL ([(PySem.Str.ofString "none")]) (if (decide (intervals = ([] : (List (Int × Int))))) = true then (1 : Int) else 0))))
abbrev spw_law_text (K : Fg) : Sp := spW K (fun x : (List (Int × Int)) => [(eSq eP) x]) eS (fun (x : (List (Int × Int))) Q => W_law_text x Q)
theorem okw_law_text {f : Ad} {fd : FuncData} (F : Fun K "_law_text" "_law_text" s_law_text f fd) (z_int : mg "int" = none) (z_str : mg "str" = none) : FnG P w K mg base CX0 1 f fd ["_law_intervals"] (spw_law_text K) := by
  refine okP F sc_law_text (fun _ => rfl) (fun cdv A outer s H E hr hgd => ?_)
  have hu65 := rm65 hr
  refine ⟨_, (pss_cons (ps_ret (pe_join pe_str (pe_op (op_catLK K rfl) (pe_lc (own := [("_law_low", 1), ("_law_high", 2)]) (tt := tYes) rfl sc_law_text.nd (pi_tupK K rfl (pv 0)) (blkOk_by (N := ["_law_intervals", "_law_low", "_law_high"]) (sc := defScope s_law_text) (by decide +kernel)) (fun _ _ _ _ _ => (pg_tupK K 2 rfl rfl (pgs_cons (pg_name (i := 1) sc_law_text.nd rfl (by first | exact Or.inl rfl | exact Or.inr rfl)) (pgs_cons (pg_name (i := 2) sc_law_text.nd rfl (by first | exact Or.inl rfl | exact Or.inr rfl)) pgs_nil)) rfl rfl)) (fun _ _ _ _ _ => pts_nil) (fun _ _ _ _ _ => (pe_op op_add_str (pe_op op_add_str (pe_callTy call_str_int (by rfl) z_str (by decide +kernel) (pa_cons (pv 1) pa_nil)) pe_str) (pe_callTy call_str_int (by rfl) z_str (by decide +kernel) (pa_cons (pv 2) pa_nil))))) (pe_op op_rep (pe_lst (pa_cons pe_str pa_nil)) (pe_callTy call_int1 (by rfl) z_int (by decide +kernel) (pa_cons (pe_cmpR (op_eqK K rfl hr.units) (pv 0) (pe_tup pa_nil) (nomark _)) pa_nil))))))
      pss_nil), fun x hp => ?_⟩
  obtain ⟨intervals, Q⟩ := x
  have h : W_law_text intervals Q := hp
  unfold W_law_text at h
  show SJ K _ [.da ((eSq eP) intervals), .un, .un] _
  refine sj_seq ?_
  obtain ⟨g1_, g2_, g3_, g4_, g5_, h⟩ := h
  exact sj_ret (ev_join (a := (PySem.Str.ofString " ")) (ys := ((intervals.map fun (x_ : (Int × Int)) => (((sI x_.1) ++ (PySem.Str.ofString "-")) ++ (sI x_.2))) ++ (repL ([(PySem.Str.ofString "none")]) (if (decide (intervals = ([] : (List (Int × Int))))) = true then (1 : Int) else 0)))) ev_str (ev_ofL (el_is (es := List.map eS ((intervals.map fun (x_ : (Int × Int)) => (((sI x_.1) ++ (PySem.Str.ofString "-")) ++ (sI x_.2))) ++ (repL ([(PySem.Str.ofString "none")]) (if (decide (intervals = ([] : (List (Int × Int))))) = true then (1 : Int) else 0)))) (el_op (ev_ofL (el_lc0 (en' := eS) (fun (x_ : (Int × Int)) => (((sI x_.1) ++ (PySem.Str.ofString "-")) ++ (sI x_.2))) (di_tup (ds := List.map eP intervals) (ev_var rfl)) rfl (fun x_ hx_ => gj_tup (gjs_cons (gj_name (gjs_cons (gj_name (gjs_nil (ev_op (ev_op (ev_cb (eva_cons (ev_var rfl) eva_nil) (rdl_strI ((g1_ x_ hx_).1))) ev_str (rd_addS ((g1_ x_ hx_).2.1))) (ev_cb (eva_cons (ev_var rfl) eva_nil) (rdl_strI ((g1_ x_ hx_).2.2.1))) (rd_addS ((g1_ x_ hx_).2.2.2))))))))))) (ev_ofL (el_is (el_rep (ds := List.map eS ([(PySem.Str.ofString "none")])) (k := (if (decide (intervals = ([] : (List (Int × Int))))) = true then (1 : Int) else 0)) (el_lst (eva_cons ev_str eva_nil)) (ev_intB (b := (decide (intervals = ([] : (List (Int × Int)))))) (ev_op (ev_var rfl) (ev_tup eva_nil) (rd_eqT (x := intervals) (y := ([] : (List (Int × Int)))) (pl_Sq (pl_T2 pl_I pl_I)) (eq_Sq (eq_T2 eq_I eq_I))))) g2_ (by simpa only [List.length_map] using g3_)) (repL_map ..))) (rl_cat (ds := List.map eS (intervals.map fun (x_ : (Int × Int)) => (((sI x_.1) ++ (PySem.Str.ofString "-")) ++ (sI x_.2)))) (es := List.map eS (repL ([(PySem.Str.ofString "none")]) (if (decide (intervals = ([] : (List (Int × Int))))) = true then (1 : Int) else 0))) (by simpa only [List.length_map] using g4_))) (List.map_append ..).symm)) g5_) ⟨(Txt.join (PySem.Str.ofString " ") ((intervals.map fun (x_ : (Int × Int)) => (((sI x_.1) ++ (PySem.Str.ofString "-")) ++ (sI x_.2))) ++ (repL ([(PySem.Str.ofString "none")]) (if (decide (intervals = ([] : (List (Int × Int))))) = true then (1 : Int) else 0)))), rfl, h⟩
def M_law_text (intervals : (List (Int × Int))) : PySem.Str := (Txt.join (PySem.Str.ofString " ") ((intervals.map fun (x_ : (Int × Int)) => (((sI x_.1) ++ (PySem.Str.ofString "-")) ++ (sI x_.2))) ++ (repL ([(PySem.Str.ofString "none")]) (if (decide (intervals = ([] : (List (Int × Int))))) = true then (1 : Int) else 0))))
def P_law_text (intervals : (List (Int × Int))) : Prop := W_law_text intervals fun _ => True
theorem pf_law_text (intervals : (List (Int × Int))) (h : P_law_text intervals) : W_law_text intervals fun r => r = M_law_text intervals := by
  unfold P_law_text at h
  unfold W_law_text at h ⊢
  obtain ⟨g1_, g2_, g3_, g4_, g5_, h⟩ := h
  refine ⟨g1_, g2_, g3_, g4_, g5_, ?_⟩
  show _ = M_law_text intervals
  unfold M_law_text
  rfl
abbrev sp_law_text (K : Fg) : Sp := spP K (fun x : (List (Int × Int)) => [(eSq eP) x]) (fun x => P_law_text x) (fun x d => d = eS (M_law_text x))
theorem ok_law_text {f : Ad} {fd : FuncData} (F : Fun K "_law_text" "_law_text" s_law_text f fd) (z_int : mg "int" = none) (z_str : mg "str" = none) : FnG P w K mg base CX0 1 f fd ["_law_intervals"] (sp_law_text K) :=
  (okw_law_text F z_int z_str).imp (imp_W fun x h => pf_law_text x h)
/-! law_lines -/
def W_law_lines (word : PySem.Str) (Q : (List PySem.Str) → Prop) : Prop :=
  (((PySem.Str.ofString "target ")).length + (word).length ≤ 16000000) ∧
  (((PySem.Str.ofString "untarget ")).length + (word).length ≤ 16000000) ∧
  (((PySem.Str.ofString "piece ")).length + (word).length ≤ 16000000) ∧
  (((PySem.Str.ofString "unpiece ")).length + (word).length ≤ 16000000) ∧
  ∀ good : (List PySem.Str), good = [((PySem.Str.ofString "target ") ++ word), ((PySem.Str.ofString "untarget ") ++ word), ((PySem.Str.ofString "piece ") ++ word), ((PySem.Str.ofString "unpiece ") ++ word), (PySem.Str.ofString "undo"), (PySem.Str.ofString "targets"), (PySem.Str.ofString "pieces")] →
  ((good).length + ([(PySem.Str.ofString "needed"), (PySem.Str.ofString "solve"), (PySem.Str.ofString "witnesses"), (PySem.Str.ofString "missing"), (PySem.Str.ofString "changes")]).length ≤ 100000) ∧
  ∀ good1 : (List PySem.Str), good1 = (good ++ [(PySem.Str.ofString "needed"), (PySem.Str.ofString "solve"), (PySem.Str.ofString "witnesses"), (PySem.Str.ofString "missing"), (PySem.Str.ofString "changes")]) →
  (((PySem.Str.ofString "add_target ")).length + (word).length ≤ 16000000) ∧
  ∀ found : (List PySem.Str), found = [(PySem.Str.ofString ""), (PySem.Str.ofString " "), (PySem.Str.ofString "-"), (PySem.Str.ofString "none"), (PySem.Str.ofString "ok"), (PySem.Str.ofString "error"), (PySem.Str.ofString "help"), (PySem.Str.ofString "apply"), (PySem.Str.ofString "edits"), ((PySem.Str.ofString "add_target ") ++ word), (PySem.Str.ofString "unknown command")] →
  forW (fun (line : PySem.Str) (s_ : (List PySem.Str)) nx_ bk_ =>
  (fun (found1 : (List PySem.Str)) =>
  ((line).length + ((PySem.Str.ofString " ")).length ≤ 16000000) ∧
  (((PySem.Str.ofString " ")).length + (line).length ≤ 16000000) ∧
  ((line).length + ((PySem.Str.ofString " x")).length ≤ 16000000) ∧
  ((line).length + ((PySem.Str.ofString "
")).length ≤ 16000000) ∧
  ((line).length ≤ 5592405) ∧
  ((line).length + ((PySem.Str.ofString ",")).length ≤ 16000000) ∧
  (((line ++ (PySem.Str.ofString " "))).length + (word).length ≤ 16000000) ∧
  ((found1).length + ([(line ++ (PySem.Str.ofString " ")), ((PySem.Str.ofString " ") ++ line), (line ++ (PySem.Str.ofString " x")), (line ++ (PySem.Str.ofString "
")), (Txt.upper line), (line ++ (PySem.Str.ofString ",")), ((line ++ (PySem.Str.ofString " ")) ++ word)]).length ≤ 100000) ∧
  ∀ found3 : (List PySem.Str), found3 = (found1 ++ [(line ++ (PySem.Str.ofString " ")), ((PySem.Str.ofString " ") ++ line), (line ++ (PySem.Str.ofString " x")), (line ++ (PySem.Str.ofString "
")), (Txt.upper line), (line ++ (PySem.Str.ofString ",")), ((line ++ (PySem.Str.ofString " ")) ++ word)]) →
  ((found3).length < 100000) ∧
  (Rep1 line (PySem.Str.ofString " ") (PySem.Str.ofString "  ")) ∧
  (Sg (PySem.Str.ofString " ")) ∧
  (MulS (PySem.Str.ofString " ") (if (!(inSg (PySem.Str.ofString " ") line)) = true then (1 : Int) else 0)) ∧
  (((Txt.rep1 line (PySem.Str.ofString " ") (PySem.Str.ofString "  "))).length + ((Txt.mul (PySem.Str.ofString " ") (if (!(inSg (PySem.Str.ofString " ") line)) = true then (1 : Int) else 0))).length ≤ 16000000) ∧
  ∀ found4 : (List PySem.Str), found4 = (found3 ++ [((Txt.rep1 line (PySem.Str.ofString " ") (PySem.Str.ofString "  ")) ++ (Txt.mul (PySem.Str.ofString " ") (if (!(inSg (PySem.Str.ofString " ") line)) = true then (1 : Int) else 0)))]) →
  nx_ found4) s_) good1 found (fun (found2 : (List PySem.Str)) =>
  forW (fun (verb : PySem.Str) (s_ : (List PySem.Str)) nx_ bk_ =>
  (fun (found5 : (List PySem.Str)) =>
  ((verb).length + ((PySem.Str.ofString " ")).length ≤ 16000000) ∧
  ((verb).length + ((PySem.Str.ofString " none")).length ≤ 16000000) ∧
  ((verb).length + ((PySem.Str.ofString " 3-1")).length ≤ 16000000) ∧
  ((verb).length + ((PySem.Str.ofString " 0")).length ≤ 16000000) ∧
  ((verb).length + ((PySem.Str.ofString " 0-01")).length ≤ 16000000) ∧
  ((verb).length + ((PySem.Str.ofString " +0-1")).length ≤ 16000000) ∧
  ((found5).length + ([verb, (verb ++ (PySem.Str.ofString " ")), (verb ++ (PySem.Str.ofString " none")), (verb ++ (PySem.Str.ofString " 3-1")), (verb ++ (PySem.Str.ofString " 0")), (verb ++ (PySem.Str.ofString " 0-01")), (verb ++ (PySem.Str.ofString " +0-1"))]).length ≤ 100000) ∧
  ∀ found7 : (List PySem.Str), found7 = (found5 ++ [verb, (verb ++ (PySem.Str.ofString " ")), (verb ++ (PySem.Str.ofString " none")), (verb ++ (PySem.Str.ofString " 3-1")), (verb ++ (PySem.Str.ofString " 0")), (verb ++ (PySem.Str.ofString " 0-01")), (verb ++ (PySem.Str.ofString " +0-1"))]) →
  ((verb).length + ((PySem.Str.ofString " 0-1000000000001")).length ≤ 16000000) ∧
  ((verb).length + ((PySem.Str.ofString " 0-1-2")).length ≤ 16000000) ∧
  ((verb).length + ((PySem.Str.ofString " -1-2")).length ≤ 16000000) ∧
  ((verb).length + ((PySem.Str.ofString " 0 1")).length ≤ 16000000) ∧
  ((verb).length + ((PySem.Str.ofString " (0, 1)")).length ≤ 16000000) ∧
  ((found7).length + ([(verb ++ (PySem.Str.ofString " 0-1000000000001")), (verb ++ (PySem.Str.ofString " 0-1-2")), (verb ++ (PySem.Str.ofString " -1-2")), (verb ++ (PySem.Str.ofString " 0 1")), (verb ++ (PySem.Str.ofString " (0, 1)"))]).length ≤ 100000) ∧
  ∀ found8 : (List PySem.Str), found8 = (found7 ++ [(verb ++ (PySem.Str.ofString " 0-1000000000001")), (verb ++ (PySem.Str.ofString " 0-1-2")), (verb ++ (PySem.Str.ofString " -1-2")), (verb ++ (PySem.Str.ofString " 0 1")), (verb ++ (PySem.Str.ofString " (0, 1)"))]) →
  nx_ found8) s_) ([(PySem.Str.ofString "target"), (PySem.Str.ofString "untarget"), (PySem.Str.ofString "piece"), (PySem.Str.ofString "unpiece")]) found2 (fun (found6 : (List PySem.Str)) =>
  ((found6).length + ([(PySem.Str.ofString "undo 1"), (PySem.Str.ofString "undo 0-1"), (PySem.Str.ofString "targets 0-1"), (PySem.Str.ofString "needed 0"), (PySem.Str.ofString "solve all"), (PySem.Str.ofString "witness"), (PySem.Str.ofString "change"), (PySem.Str.ofString "target0-1")]).length ≤ 100000) ∧
  Q (found6 ++ [(PySem.Str.ofString "undo 1"), (PySem.Str.ofString "undo 0-1"), (PySem.Str.ofString "targets 0-1"), (PySem.Str.ofString "needed 0"), (PySem.Str.ofString "solve all"), (PySem.Str.ofString "witness"), (PySem.Str.ofString "change"), (PySem.Str.ofString "target0-1")])))
abbrev spw_law_lines (K : Fg) : Sp := spW K (fun x : PySem.Str => [eS x]) (eLs eS) (fun (x : PySem.Str) Q => W_law_lines x Q)
theorem okw_law_lines {f : Ad} {fd : FuncData} (F : Fun K "_law_lines" "_law_lines" s_law_lines f fd) (z_int : mg "int" = none) : FnG P w K mg base CX0 1 f fd ["_law_word"] (spw_law_lines K) := by
  refine okP F sc_law_lines (fun _ => rfl) (fun cdv A outer s H E hr hgd => ?_)
  have hu65 := rm65 hr
  refine ⟨_, (pss_cons (ps_set (i := 1) sc_law_lines.nd rfl (by first | exact Or.inl rfl | exact Or.inr rfl) (pe_lst (pa_cons (pe_op op_add_str pe_str (pv 0)) (pa_cons (pe_op op_add_str pe_str (pv 0)) (pa_cons (pe_op op_add_str pe_str (pv 0)) (pa_cons (pe_op op_add_str pe_str (pv 0)) (pa_cons pe_str (pa_cons pe_str (pa_cons pe_str pa_nil)))))))))
      (pss_cons (ps_set (i := 1) sc_law_lines.nd rfl (by first | exact Or.inl rfl | exact Or.inr rfl) (pe_op (op_catLK K rfl) (pv 1) (pe_lst (pa_cons pe_str (pa_cons pe_str (pa_cons pe_str (pa_cons pe_str (pa_cons pe_str pa_nil))))))))
      (pss_cons (ps_set (i := 2) sc_law_lines.nd rfl (by first | exact Or.inl rfl | exact Or.inr rfl) (pe_lst (pa_cons pe_str (pa_cons pe_str (pa_cons pe_str (pa_cons pe_str (pa_cons pe_str (pa_cons pe_str (pa_cons pe_str (pa_cons pe_str (pa_cons pe_str (pa_cons (pe_op op_add_str pe_str (pv 0)) (pa_cons pe_str pa_nil)))))))))))))
      (pss_cons (ps_for PassesOwn.never rfl (pi_listK K rfl (pv 1)) (pg_name (i := 3) sc_law_lines.nd rfl (by first | exact Or.inl rfl | exact Or.inr rfl))
      (pss_tok (ps1_set (i := 2) sc_law_lines.nd rfl (by first | exact Or.inl rfl | exact Or.inr rfl) (pe1_op (op_catLK K rfl) (pv 2) (pe1_lst (pa1_cons (pe1_op op_add_str (pv 3) pe1_str) (pa_cons (pe_op op_add_str pe_str (pv 3)) (pa_cons (pe_op op_add_str (pv 3) pe_str) (pa_cons (pe_op op_add_str (pv 3) pe_str) (pa_cons (pe_upper (pv 3)) (pa_cons (pe_op op_add_str (pv 3) pe_str) (pa_cons (pe_op op_add_str (pe_op op_add_str (pv 3) pe_str) (pv 0)) pa_nil))))))))))
      (psst_cons (pst_expr (pet_bm PySem.F.plainAttrs_list PySem.F.slot_list_append PySem.F.type_list_append mt_append (pv 2) (pat_cons (CwR.pet_op op_add_str (pet_rep1 (pv 3)) (CwR.PET.of (pe_op op_mulS pe_str (pe_callTy call_int1 (by rfl) z_int (by decide +kernel) (pa_cons (pe_cmpR L2.op_notInS pe_str (pv 3) rfl) pa_nil))))) pat_nil)))
      CwR.psst_nil)))
      (pss_cons (ps_for PassesOwn.never rfl (pi_listK K rfl (pe_lst (pa_cons pe_str (pa_cons pe_str (pa_cons pe_str (pa_cons pe_str pa_nil)))))) (pg_name (i := 4) sc_law_lines.nd rfl (by first | exact Or.inl rfl | exact Or.inr rfl))
      (pss_cons (ps_set (i := 2) sc_law_lines.nd rfl (by first | exact Or.inl rfl | exact Or.inr rfl) (pe_op (op_catLK K rfl) (pv 2) (pe_lst (pa_cons (pv 4) (pa_cons (pe_op op_add_str (pv 4) pe_str) (pa_cons (pe_op op_add_str (pv 4) pe_str) (pa_cons (pe_op op_add_str (pv 4) pe_str) (pa_cons (pe_op op_add_str (pv 4) pe_str) (pa_cons (pe_op op_add_str (pv 4) pe_str) (pa_cons (pe_op op_add_str (pv 4) pe_str) pa_nil))))))))))
      (pss_cons (ps_set (i := 2) sc_law_lines.nd rfl (by first | exact Or.inl rfl | exact Or.inr rfl) (pe_op (op_catLK K rfl) (pv 2) (pe_lst (pa_cons (pe_op op_add_str (pv 4) pe_str) (pa_cons (pe_op op_add_str (pv 4) pe_str) (pa_cons (pe_op op_add_str (pv 4) pe_str) (pa_cons (pe_op op_add_str (pv 4) pe_str) (pa_cons (pe_op op_add_str (pv 4) pe_str) pa_nil))))))))
      pss_nil)))
      (pss_cons (ps_ret (pe_op (op_catLK K rfl) (pv 2) (pe_lst (pa_cons pe_str (pa_cons pe_str (pa_cons pe_str (pa_cons pe_str (pa_cons pe_str (pa_cons pe_str (pa_cons pe_str (pa_cons pe_str pa_nil)))))))))))
      pss_nil)))))), fun x hp => ?_⟩
  obtain ⟨word, Q⟩ := x
  have h : W_law_lines word Q := hp
  unfold W_law_lines at h
  show SJ K _ [.da (eS word), .un, .un, .un, .un] _
  refine sj_seq ?_
  obtain ⟨g1_, g2_, g3_, g4_, h⟩ := h
  refine sj_set (ev_ofL (el_lst (eva_cons (ev_op ev_str (ev_var rfl) (rd_addS g1_)) (eva_cons (ev_op ev_str (ev_var rfl) (rd_addS g2_)) (eva_cons (ev_op ev_str (ev_var rfl) (rd_addS g3_)) (eva_cons (ev_op ev_str (ev_var rfl) (rd_addS g4_)) (eva_cons ev_str (eva_cons ev_str (eva_cons ev_str eva_nil))))))))) ?_
  show SJ K _ [.da (eS word), .da ((eLs eS) ([((PySem.Str.ofString "target ") ++ word), ((PySem.Str.ofString "untarget ") ++ word), ((PySem.Str.ofString "piece ") ++ word), ((PySem.Str.ofString "unpiece ") ++ word), (PySem.Str.ofString "undo"), (PySem.Str.ofString "targets"), (PySem.Str.ofString "pieces")])), .un, .un, .un] _
  refine sj_nameV ([((PySem.Str.ofString "target ") ++ word), ((PySem.Str.ofString "untarget ") ++ word), ((PySem.Str.ofString "piece ") ++ word), ((PySem.Str.ofString "unpiece ") ++ word), (PySem.Str.ofString "undo"), (PySem.Str.ofString "targets"), (PySem.Str.ofString "pieces")] : (List PySem.Str)) (fun good => [.da (eS word), .da ((eLs eS) good), .un, .un, .un]) (fun good goodh => ?_)
  have h := h good goodh
  refine sj_seq ?_
  obtain ⟨g5_, h⟩ := h
  refine sj_set (ev_ofL (el_is (es := List.map eS (good ++ [(PySem.Str.ofString "needed"), (PySem.Str.ofString "solve"), (PySem.Str.ofString "witnesses"), (PySem.Str.ofString "missing"), (PySem.Str.ofString "changes")])) (el_op (ev_var rfl) (ev_ofL (el_lst (eva_cons ev_str (eva_cons ev_str (eva_cons ev_str (eva_cons ev_str (eva_cons ev_str eva_nil))))))) (rl_cat (ds := List.map eS good) (es := List.map eS ([(PySem.Str.ofString "needed"), (PySem.Str.ofString "solve"), (PySem.Str.ofString "witnesses"), (PySem.Str.ofString "missing"), (PySem.Str.ofString "changes")])) (by simpa only [List.length_map] using g5_))) (List.map_append ..).symm)) ?_
  show SJ K _ [.da (eS word), .da ((eLs eS) (good ++ [(PySem.Str.ofString "needed"), (PySem.Str.ofString "solve"), (PySem.Str.ofString "witnesses"), (PySem.Str.ofString "missing"), (PySem.Str.ofString "changes")])), .un, .un, .un] _
  refine sj_nameV ((good ++ [(PySem.Str.ofString "needed"), (PySem.Str.ofString "solve"), (PySem.Str.ofString "witnesses"), (PySem.Str.ofString "missing"), (PySem.Str.ofString "changes")]) : (List PySem.Str)) (fun good1 => [.da (eS word), .da ((eLs eS) good1), .un, .un, .un]) (fun good1 good1h => ?_)
  have h := h good1 good1h
  refine sj_seq ?_
  obtain ⟨g6_, h⟩ := h
  refine sj_setL (el_lst (eva_cons ev_str (eva_cons ev_str (eva_cons ev_str (eva_cons ev_str (eva_cons ev_str (eva_cons ev_str (eva_cons ev_str (eva_cons ev_str (eva_cons ev_str (eva_cons (ev_op ev_str (ev_var rfl) (rd_addS g6_)) (eva_cons ev_str eva_nil)))))))))))) ?_
  show SJ K _ [.da (eS word), .da ((eLs eS) good1), .ow (lsR (List.map eS ([(PySem.Str.ofString ""), (PySem.Str.ofString " "), (PySem.Str.ofString "-"), (PySem.Str.ofString "none"), (PySem.Str.ofString "ok"), (PySem.Str.ofString "error"), (PySem.Str.ofString "help"), (PySem.Str.ofString "apply"), (PySem.Str.ofString "edits"), ((PySem.Str.ofString "add_target ") ++ word), (PySem.Str.ofString "unknown command")]))), .un, .un] _
  refine sj_nameV ([(PySem.Str.ofString ""), (PySem.Str.ofString " "), (PySem.Str.ofString "-"), (PySem.Str.ofString "none"), (PySem.Str.ofString "ok"), (PySem.Str.ofString "error"), (PySem.Str.ofString "help"), (PySem.Str.ofString "apply"), (PySem.Str.ofString "edits"), ((PySem.Str.ofString "add_target ") ++ word), (PySem.Str.ofString "unknown command")] : (List PySem.Str)) (fun found => [.da (eS word), .da ((eLs eS) good1), .ow (lsR (List.map eS found)), .un, .un]) (fun found foundh => ?_)
  have h := h found foundh
  refine sj_seq ?_
  refine sj_forP (dij_of (di_list (ds := List.map eS good1) (ev_var rfl)) (forOk_W eS h 0 0 (fun m_ (s_ : (List PySem.Str)) => [.da (eS word), .da ((eLs eS) good1), .ow (lsR (List.map eS s_)), .un, .un]) [3] up_sj (fun line found1 κ_ mm mmh h => ?_) (fun found2 mm1 mm1h h => ?_)))
  · skip
    refine gj_name ?_
    show SJ K _ [.da (eS word), .da ((eLs eS) good1), .ow (lsR (List.map eS found1)), .da (eS line), .un] _
    refine sj_iceT eS 2 rfl (by decide) ?_
    show SJ K _ [.da (eS word), .da ((eLs eS) good1), .da ((eLs eS) found1), .da (eS line), .un] _
    refine sj_seq ?_
    obtain ⟨g7_, g8_, g9_, g10_, g11_, g12_, g13_, g14_, h⟩ := h
    refine sj_setL (el_is (es := List.map eS (found1 ++ [(line ++ (PySem.Str.ofString " ")), ((PySem.Str.ofString " ") ++ line), (line ++ (PySem.Str.ofString " x")), (line ++ (PySem.Str.ofString "
")), (Txt.upper line), (line ++ (PySem.Str.ofString ",")), ((line ++ (PySem.Str.ofString " ")) ++ word)])) (el_op (ev_var rfl) (ev_ofL (el_lst (eva_cons (ev_op (ev_var rfl) ev_str (rd_addS g7_)) (eva_cons (ev_op ev_str (ev_var rfl) (rd_addS g8_)) (eva_cons (ev_op (ev_var rfl) ev_str (rd_addS g9_)) (eva_cons (ev_op (ev_var rfl) ev_str (rd_addS g10_)) (eva_cons (ev_upper (ev_var rfl) g11_) (eva_cons (ev_op (ev_var rfl) ev_str (rd_addS g12_)) (eva_cons (ev_op (ev_op (ev_var rfl) ev_str (rd_addS g7_)) (ev_var rfl) (rd_addS g13_)) eva_nil))))))))) (rl_cat (ds := List.map eS found1) (es := List.map eS ([(line ++ (PySem.Str.ofString " ")), ((PySem.Str.ofString " ") ++ line), (line ++ (PySem.Str.ofString " x")), (line ++ (PySem.Str.ofString "
")), (Txt.upper line), (line ++ (PySem.Str.ofString ",")), ((line ++ (PySem.Str.ofString " ")) ++ word)])) (by simpa only [List.length_map] using g14_))) (List.map_append ..).symm) ?_
    show SJ K _ [.da (eS word), .da ((eLs eS) good1), .ow (lsR (List.map eS (found1 ++ [(line ++ (PySem.Str.ofString " ")), ((PySem.Str.ofString " ") ++ line), (line ++ (PySem.Str.ofString " x")), (line ++ (PySem.Str.ofString "
")), (Txt.upper line), (line ++ (PySem.Str.ofString ",")), ((line ++ (PySem.Str.ofString " ")) ++ word)]))), .da (eS line), .un] _
    refine sj_nameV ((found1 ++ [(line ++ (PySem.Str.ofString " ")), ((PySem.Str.ofString " ") ++ line), (line ++ (PySem.Str.ofString " x")), (line ++ (PySem.Str.ofString "
")), (Txt.upper line), (line ++ (PySem.Str.ofString ",")), ((line ++ (PySem.Str.ofString " ")) ++ word)]) : (List PySem.Str)) (fun found3 => [.da (eS word), .da ((eLs eS) good1), .ow (lsR (List.map eS found3)), .da (eS line), .un]) (fun found3 found3h => ?_)
    have h := h found3 found3h
    refine sj_seq ?_
    obtain ⟨g15_, h⟩ := h
    refine sj_appT eS rfl ?_
    obtain ⟨g16_, g17_, g18_, g19_, h⟩ := h
    refine ej_of (ev_op (ev_rep1 (ev_var rfl) g16_) (ev_op ev_str (ev_intB (b := (!(inSg (PySem.Str.ofString " ") line))) (ev_op ev_str (ev_var rfl) (rd_notInSg g17_))) (rd_mulS g18_)) (rd_addS g19_)) ?_
    refine ⟨found3, ((Txt.rep1 line (PySem.Str.ofString " ") (PySem.Str.ofString "  ")) ++ (Txt.mul (PySem.Str.ofString " ") (if (!(inSg (PySem.Str.ofString " ") line)) = true then (1 : Int) else 0))), rfl, rfl, g15_, ?_⟩
    show SJ K _ [.da (eS word), .da ((eLs eS) good1), .ow (lsR (List.map eS (found3 ++ [((Txt.rep1 line (PySem.Str.ofString " ") (PySem.Str.ofString "  ")) ++ (Txt.mul (PySem.Str.ofString " ") (if (!(inSg (PySem.Str.ofString " ") line)) = true then (1 : Int) else 0)))]))), .da (eS line), .un] _
    refine sj_nameV ((found3 ++ [((Txt.rep1 line (PySem.Str.ofString " ") (PySem.Str.ofString "  ")) ++ (Txt.mul (PySem.Str.ofString " ") (if (!(inSg (PySem.Str.ofString " ") line)) = true then (1 : Int) else 0)))]) : (List PySem.Str)) (fun found4 => [.da (eS word), .da ((eLs eS) good1), .ow (lsR (List.map eS found4)), .da (eS line), .un]) (fun found4 found4h => ?_)
    have h := h found4 found4h
    refine sj_next ?_
    exact ⟨found4, mm, h, (by omega), (.same (.same (.same (.un (.un .nil)))))⟩
  · skip
    show SJ K _ [.da (eS word), .da ((eLs eS) good1), .ow (lsR (List.map eS found2)), .un, .un] _
    refine sj_seq ?_
    refine sj_forP (dij_of (di_list (ds := List.map eS ([(PySem.Str.ofString "target"), (PySem.Str.ofString "untarget"), (PySem.Str.ofString "piece"), (PySem.Str.ofString "unpiece")])) (ev_ofL (el_lst (eva_cons ev_str (eva_cons ev_str (eva_cons ev_str (eva_cons ev_str eva_nil))))))) (forOk_W eS h 0 0 (fun m_ (s_ : (List PySem.Str)) => [.da (eS word), .da ((eLs eS) good1), .ow (lsR (List.map eS s_)), .un, .un]) [4] up_sj (fun verb found5 κ_ mm2 mm2h h => ?_) (fun found6 mm3 mm3h h => ?_)))
    · skip
      refine gj_name ?_
      show SJ K _ [.da (eS word), .da ((eLs eS) good1), .ow (lsR (List.map eS found5)), .un, .da (eS verb)] _
      refine sj_iceT eS 2 rfl (by decide) ?_
      show SJ K _ [.da (eS word), .da ((eLs eS) good1), .da ((eLs eS) found5), .un, .da (eS verb)] _
      refine sj_seq ?_
      obtain ⟨g20_, g21_, g22_, g23_, g24_, g25_, g26_, h⟩ := h
      refine sj_setL (el_is (es := List.map eS (found5 ++ [verb, (verb ++ (PySem.Str.ofString " ")), (verb ++ (PySem.Str.ofString " none")), (verb ++ (PySem.Str.ofString " 3-1")), (verb ++ (PySem.Str.ofString " 0")), (verb ++ (PySem.Str.ofString " 0-01")), (verb ++ (PySem.Str.ofString " +0-1"))])) (el_op (ev_var rfl) (ev_ofL (el_lst (eva_cons (ev_var rfl) (eva_cons (ev_op (ev_var rfl) ev_str (rd_addS g20_)) (eva_cons (ev_op (ev_var rfl) ev_str (rd_addS g21_)) (eva_cons (ev_op (ev_var rfl) ev_str (rd_addS g22_)) (eva_cons (ev_op (ev_var rfl) ev_str (rd_addS g23_)) (eva_cons (ev_op (ev_var rfl) ev_str (rd_addS g24_)) (eva_cons (ev_op (ev_var rfl) ev_str (rd_addS g25_)) eva_nil))))))))) (rl_cat (ds := List.map eS found5) (es := List.map eS ([verb, (verb ++ (PySem.Str.ofString " ")), (verb ++ (PySem.Str.ofString " none")), (verb ++ (PySem.Str.ofString " 3-1")), (verb ++ (PySem.Str.ofString " 0")), (verb ++ (PySem.Str.ofString " 0-01")), (verb ++ (PySem.Str.ofString " +0-1"))])) (by simpa only [List.length_map] using g26_))) (List.map_append ..).symm) ?_
      show SJ K _ [.da (eS word), .da ((eLs eS) good1), .ow (lsR (List.map eS (found5 ++ [verb, (verb ++ (PySem.Str.ofString " ")), (verb ++ (PySem.Str.ofString " none")), (verb ++ (PySem.Str.ofString " 3-1")), (verb ++ (PySem.Str.ofString " 0")), (verb ++ (PySem.Str.ofString " 0-01")), (verb ++ (PySem.Str.ofString " +0-1"))]))), .un, .da (eS verb)] _
      refine sj_nameV ((found5 ++ [verb, (verb ++ (PySem.Str.ofString " ")), (verb ++ (PySem.Str.ofString " none")), (verb ++ (PySem.Str.ofString " 3-1")), (verb ++ (PySem.Str.ofString " 0")), (verb ++ (PySem.Str.ofString " 0-01")), (verb ++ (PySem.Str.ofString " +0-1"))]) : (List PySem.Str)) (fun found7 => [.da (eS word), .da ((eLs eS) good1), .ow (lsR (List.map eS found7)), .un, .da (eS verb)]) (fun found7 found7h => ?_)
      have h := h found7 found7h
      refine sj_iceT eS 2 rfl (by decide) ?_
      show SJ K _ [.da (eS word), .da ((eLs eS) good1), .da ((eLs eS) found7), .un, .da (eS verb)] _
      refine sj_seq ?_
      obtain ⟨g27_, g28_, g29_, g30_, g31_, g32_, h⟩ := h
      refine sj_setL (el_is (es := List.map eS (found7 ++ [(verb ++ (PySem.Str.ofString " 0-1000000000001")), (verb ++ (PySem.Str.ofString " 0-1-2")), (verb ++ (PySem.Str.ofString " -1-2")), (verb ++ (PySem.Str.ofString " 0 1")), (verb ++ (PySem.Str.ofString " (0, 1)"))])) (el_op (ev_var rfl) (ev_ofL (el_lst (eva_cons (ev_op (ev_var rfl) ev_str (rd_addS g27_)) (eva_cons (ev_op (ev_var rfl) ev_str (rd_addS g28_)) (eva_cons (ev_op (ev_var rfl) ev_str (rd_addS g29_)) (eva_cons (ev_op (ev_var rfl) ev_str (rd_addS g30_)) (eva_cons (ev_op (ev_var rfl) ev_str (rd_addS g31_)) eva_nil))))))) (rl_cat (ds := List.map eS found7) (es := List.map eS ([(verb ++ (PySem.Str.ofString " 0-1000000000001")), (verb ++ (PySem.Str.ofString " 0-1-2")), (verb ++ (PySem.Str.ofString " -1-2")), (verb ++ (PySem.Str.ofString " 0 1")), (verb ++ (PySem.Str.ofString " (0, 1)"))])) (by simpa only [List.length_map] using g32_))) (List.map_append ..).symm) ?_
      show SJ K _ [.da (eS word), .da ((eLs eS) good1), .ow (lsR (List.map eS (found7 ++ [(verb ++ (PySem.Str.ofString " 0-1000000000001")), (verb ++ (PySem.Str.ofString " 0-1-2")), (verb ++ (PySem.Str.ofString " -1-2")), (verb ++ (PySem.Str.ofString " 0 1")), (verb ++ (PySem.Str.ofString " (0, 1)"))]))), .un, .da (eS verb)] _
      refine sj_nameV ((found7 ++ [(verb ++ (PySem.Str.ofString " 0-1000000000001")), (verb ++ (PySem.Str.ofString " 0-1-2")), (verb ++ (PySem.Str.ofString " -1-2")), (verb ++ (PySem.Str.ofString " 0 1")), (verb ++ (PySem.Str.ofString " (0, 1)"))]) : (List PySem.Str)) (fun found8 => [.da (eS word), .da ((eLs eS) good1), .ow (lsR (List.map eS found8)), .un, .da (eS verb)]) (fun found8 found8h => ?_)
      have h := h found8 found8h
      refine sj_next ?_
      exact ⟨found8, mm2, h, (by omega), (.same (.same (.same (.un (.un .nil)))))⟩
    · skip
      show SJ K _ [.da (eS word), .da ((eLs eS) good1), .ow (lsR (List.map eS found6)), .un, .un] _
      refine sj_iceT eS 2 rfl (by decide) ?_
      show SJ K _ [.da (eS word), .da ((eLs eS) good1), .da ((eLs eS) found6), .un, .un] _
      refine sj_seq ?_
      obtain ⟨g33_, h⟩ := h
      exact sj_ret (ev_ofL (el_is (es := List.map eS (found6 ++ [(PySem.Str.ofString "undo 1"), (PySem.Str.ofString "undo 0-1"), (PySem.Str.ofString "targets 0-1"), (PySem.Str.ofString "needed 0"), (PySem.Str.ofString "solve all"), (PySem.Str.ofString "witness"), (PySem.Str.ofString "change"), (PySem.Str.ofString "target0-1")])) (el_op (ev_var rfl) (ev_ofL (el_lst (eva_cons ev_str (eva_cons ev_str (eva_cons ev_str (eva_cons ev_str (eva_cons ev_str (eva_cons ev_str (eva_cons ev_str (eva_cons ev_str eva_nil)))))))))) (rl_cat (ds := List.map eS found6) (es := List.map eS ([(PySem.Str.ofString "undo 1"), (PySem.Str.ofString "undo 0-1"), (PySem.Str.ofString "targets 0-1"), (PySem.Str.ofString "needed 0"), (PySem.Str.ofString "solve all"), (PySem.Str.ofString "witness"), (PySem.Str.ofString "change"), (PySem.Str.ofString "target0-1")])) (by simpa only [List.length_map] using g33_))) (List.map_append ..).symm)) ⟨(found6 ++ [(PySem.Str.ofString "undo 1"), (PySem.Str.ofString "undo 0-1"), (PySem.Str.ofString "targets 0-1"), (PySem.Str.ofString "needed 0"), (PySem.Str.ofString "solve all"), (PySem.Str.ofString "witness"), (PySem.Str.ofString "change"), (PySem.Str.ofString "target0-1")]), rfl, h⟩
def spw1 : PySem.Str := PySem.Str.ofString " "
def goodL (w : PySem.Str) : List PySem.Str := [((PySem.Str.ofString "target ") ++ w), ((PySem.Str.ofString "untarget ") ++ w), ((PySem.Str.ofString "piece ") ++ w), ((PySem.Str.ofString "unpiece ") ++ w), (PySem.Str.ofString "undo"), (PySem.Str.ofString "targets"), (PySem.Str.ofString "pieces"), (PySem.Str.ofString "needed"), (PySem.Str.ofString "solve"), (PySem.Str.ofString "witnesses"), (PySem.Str.ofString "missing"), (PySem.Str.ofString "changes")]
def headL (w : PySem.Str) : List PySem.Str := [(PySem.Str.ofString ""), (PySem.Str.ofString " "), (PySem.Str.ofString "-"), (PySem.Str.ofString "none"), (PySem.Str.ofString "ok"), (PySem.Str.ofString "error"), (PySem.Str.ofString "help"), (PySem.Str.ofString "apply"), (PySem.Str.ofString "edits"), ((PySem.Str.ofString "add_target ") ++ w), (PySem.Str.ofString "unknown command")]
def rpT (l : PySem.Str) : PySem.Str := (Txt.rep1 l (PySem.Str.ofString " ") (PySem.Str.ofString "  ")) ++ (Txt.mul (PySem.Str.ofString " ") (if (!(inSg (PySem.Str.ofString " ") l)) = true then (1 : Int) else 0))
def exA (w l : PySem.Str) : List PySem.Str := [(l ++ (PySem.Str.ofString " ")), ((PySem.Str.ofString " ") ++ l), (l ++ (PySem.Str.ofString " x")), (l ++ (PySem.Str.ofString "\n")), (Txt.upper l), (l ++ (PySem.Str.ofString ",")), ((l ++ (PySem.Str.ofString " ")) ++ w)]
def exB (v : PySem.Str) : List PySem.Str := [v, (v ++ (PySem.Str.ofString " ")), (v ++ (PySem.Str.ofString " none")), (v ++ (PySem.Str.ofString " 3-1")), (v ++ (PySem.Str.ofString " 0")), (v ++ (PySem.Str.ofString " 0-01")), (v ++ (PySem.Str.ofString " +0-1"))]
def exC (v : PySem.Str) : List PySem.Str := [(v ++ (PySem.Str.ofString " 0-1000000000001")), (v ++ (PySem.Str.ofString " 0-1-2")), (v ++ (PySem.Str.ofString " -1-2")), (v ++ (PySem.Str.ofString " 0 1")), (v ++ (PySem.Str.ofString " (0, 1)"))]
def vbL : List PySem.Str := [(PySem.Str.ofString "target"), (PySem.Str.ofString "untarget"), (PySem.Str.ofString "piece"), (PySem.Str.ofString "unpiece")]
def tailL : List PySem.Str := [(PySem.Str.ofString "undo 1"), (PySem.Str.ofString "undo 0-1"), (PySem.Str.ofString "targets 0-1"), (PySem.Str.ofString "needed 0"), (PySem.Str.ofString "solve all"), (PySem.Str.ofString "witness"), (PySem.Str.ofString "change"), (PySem.Str.ofString "target0-1")]
def M_law_lines (w : PySem.Str) : List PySem.Str := ((headL w ++ (goodL w).flatMap fun l => exA w l ++ [rpT l]) ++ vbL.flatMap fun v => exB v ++ exC v) ++ tailL
/-- what a line of the good ones asks -/
def lnA (l : PySem.Str) : Bool := decide (l.length ≤ 100) && (decide (PySem.Builtin.Str.tooLong (l.length + (PySem.Builtin.Str.occurrences l (PySem.Str.ofString " ") 0 l.length 1).length * (PySem.Str.ofString "  ").length) = false) && decide ((Txt.rep1 l (PySem.Str.ofString " ") (PySem.Str.ofString "  ")).length ≤ 1000))
def P_law_lines (w : PySem.Str) : Prop := w.length ≤ 100 ∧ (goodL w).all lnA = true
theorem lsl (x : String) (n : Nat) (h : (PySem.Str.ofString x).length ≤ n) : (PySem.Str.ofString x).length ≤ n := h
theorem mul1 {n : Int} (h : n = 0 ∨ n = 1) : MulS (PySem.Str.ofString " ") n := ⟨by omega, by omega, by decide +kernel⟩
theorem len_lt {a b m : Nat} (h : a ≤ 1000) (h2 : b ≤ 1000) : a + b ≤ 16000000 := by omega
theorem pf_law_lines (w : PySem.Str) (h : P_law_lines w) : W_law_lines w fun r => r = M_law_lines w := by
  obtain ⟨hw, hg⟩ := h
  refine ⟨len_lt (m := 0) (by decide +kernel) (by omega), len_lt (m := 0) (by decide +kernel) (by omega), len_lt (m := 0) (by decide +kernel) (by omega), len_lt (m := 0) (by decide +kernel) (by omega), fun g hgd => ⟨by subst hgd; exact (by decide : 7 + 5 ≤ 100000), fun g1 hg1 => ⟨len_lt (m := 0) (by decide +kernel) (by omega), fun f hf => ?_⟩⟩⟩
  have eg : g1 = goodL w := by rw [hg1, hgd]; rfl
  subst eg
  refine forW_inv (fun i s => s = headL w ++ ((goodL w).take i).flatMap (fun l => exA w l ++ [rpT l]) ∧ s.length = 11 + 8 * i) ⟨by rw [hf, List.take_zero, List.flatMap_nil, List.append_nil]; rfl, by rw [hf]; rfl⟩ (fun i x s κ hx hs hκ => ?_) (fun s hs => ?_)
  · have hi : i < 12 := by
      have := (List.getElem?_eq_some_iff.mp hx).1
      exact this
    have ok := List.all_eq_true.mp hg x (List.mem_of_getElem? hx)
    unfold lnA at ok
    rw [Bool.and_eq_true, Bool.and_eq_true] at ok
    have o1 := of_decide_eq_true ok.1
    have o2 := of_decide_eq_true ok.2.1
    have o3 := of_decide_eq_true ok.2.2
    have sp : (PySem.Str.ofString " ").length = 1 := by decide +kernel
    refine ⟨len_lt (m := 0) (by omega) (by decide +kernel), len_lt (m := 0) (by decide +kernel) (by omega), len_lt (m := 0) (by omega) (by decide +kernel), len_lt (m := 0) (by omega) (by decide +kernel), by omega, len_lt (m := 0) (by omega) (by decide +kernel), ?_, ?_, fun s1 hs1 => ?_⟩
    · rw [str_alen, sp]; omega
    · rw [hs.2]; show 11 + 8 * i + 7 ≤ 100000; omega
    have l1 : s1.length = 11 + 8 * i + 7 := by rw [hs1, List.length_append, hs.2]; rfl
    have mm : ∀ b : Bool, (if b = true then (1 : Int) else 0) = 0 ∨ (if b = true then (1 : Int) else 0) = 1 := fun b => by cases b <;> simp
    refine ⟨by omega, ⟨o2, by omega, by decide +kernel⟩, ⟨32, by decide +kernel⟩, mul1 (mm _), ?_, fun s2 hs2 => hκ _ ⟨?_, ?_⟩⟩
    · have := mul_len (x := PySem.Str.ofString " ") (mm (!(inSg (PySem.Str.ofString " ") x)))
      omega
    · rw [hs2, hs1, hs.1, take_at (xs := goodL w) hx, List.flatMap_append, List.flatMap_cons, List.flatMap_nil, List.append_nil, List.append_assoc, List.append_assoc]
      rfl
    · rw [hs2, List.length_append, l1]; show 11 + 8 * i + 7 + 1 = _; omega
  obtain ⟨hs1, hs2⟩ := hs
  have hs2 : s.length = 11 + 8 * 12 := hs2
  rw [List.take_length] at hs1
  refine forW_inv (fun i t => t = s ++ (vbL.take i).flatMap (fun v => exB v ++ exC v) ∧ t.length = 107 + 12 * i) ⟨by rw [List.take_zero, List.flatMap_nil, List.append_nil], by omega⟩ (fun i x t κ hx ht hκ => ?_) (fun t ht => ?_)
  · have hi : i < 4 := (List.getElem?_eq_some_iff.mp hx).1
    have xl : x.length ≤ 100 := (by decide +kernel : ∀ v ∈ vbL, v.length ≤ 100) x (List.mem_of_getElem? hx)
    refine ⟨len_lt (m := 0) (by omega) (by decide +kernel), len_lt (m := 0) (by omega) (by decide +kernel), len_lt (m := 0) (by omega) (by decide +kernel), len_lt (m := 0) (by omega) (by decide +kernel), len_lt (m := 0) (by omega) (by decide +kernel), len_lt (m := 0) (by omega) (by decide +kernel), ?_, fun t1 ht1 => ?_⟩
    · rw [ht.2]; show 107 + 12 * i + 7 ≤ 100000; omega
    have l1 : t1.length = 107 + 12 * i + 7 := by rw [ht1, List.length_append, ht.2]; rfl
    refine ⟨len_lt (m := 0) (by omega) (by decide +kernel), len_lt (m := 0) (by omega) (by decide +kernel), len_lt (m := 0) (by omega) (by decide +kernel), len_lt (m := 0) (by omega) (by decide +kernel), len_lt (m := 0) (by omega) (by decide +kernel), ?_, fun t2 ht2 => hκ _ ⟨?_, ?_⟩⟩
    · rw [l1]; show 107 + 12 * i + 7 + 5 ≤ 100000; omega
    · rw [ht2, ht1, ht.1, take_at (xs := vbL) hx, List.flatMap_append, List.flatMap_cons, List.flatMap_nil, List.append_nil, List.append_assoc, List.append_assoc]
      rfl
    · rw [ht2, List.length_append, l1]; show 107 + 12 * i + 7 + 5 = _; omega
  obtain ⟨ht1, ht2⟩ := ht
  have ht2 : t.length = 107 + 12 * 4 := ht2
  refine ⟨by rw [ht2]; exact (by decide : 107 + 12 * 4 + 8 ≤ 100000), ?_⟩
  rw [show vbL.take ([(PySem.Str.ofString "target"), (PySem.Str.ofString "untarget"), (PySem.Str.ofString "piece"), (PySem.Str.ofString "unpiece")] : List PySem.Str).length = vbL from rfl] at ht1
  rw [ht1, hs1]
  rfl
abbrev sp_law_lines (K : Fg) : Sp := spP K (fun x : PySem.Str => [eS x]) (fun x => P_law_lines x) (fun x d => d = (eLs eS) (M_law_lines x))
theorem ok_law_lines {f : Ad} {fd : FuncData} (F : Fun K "_law_lines" "_law_lines" s_law_lines f fd) (z_int : mg "int" = none) : FnG P w K mg base CX0 1 f fd ["_law_word"] (sp_law_lines K) :=
  (okw_law_lines F z_int).imp (imp_W fun x h => pf_law_lines x h)
/-! law_same -/
def TD : Nat → PyData → Prop
  | 0, _ => False
  | n + 1, v => (∃ i, v = .int i) ∨ (∃ s, WOk s ∧ v = .str s) ∨ ∃ l, v = .tuple l ∧ ∀ x ∈ l, TD n x
noncomputable def M_law_same (a b : PyData) : Bool := @decide (a = b) (Classical.propDecidable _)
theorem td_nat : ∀ {n : Nat} {v : PyData}, TD n v → natZ v = true
  | n + 1, v, h => by
    rcases h with ⟨i, rfl⟩ | ⟨s, ws, rfl⟩ | ⟨l, rfl, h⟩
    · simp only [natZ]
    · simp only [natZ]
    · simp only [natZ]; exact natZs_of fun d hd => td_nat (h d hd)
theorem same_t {a b : PyData} (h : a = b) : M_law_same a b = true := @decide_eq_true _ (Classical.propDecidable _) h
theorem same_f {a b : PyData} (h : a ≠ b) : M_law_same a b = false := @decide_eq_false _ (Classical.propDecidable _) h
theorem td_P {n : Nat} (z : Int × Int) : TD (n + 2) (eP z) := .inr (.inr ⟨[.int z.1, .int z.2], rfl, fun x hx => by
  rcases List.mem_cons.mp hx with rfl | hx
  · exact .inl ⟨_, rfl⟩
  · rw [List.mem_singleton.mp hx]; exact .inl ⟨_, rfl⟩⟩)
theorem td_SP {n : Nat} (l : List (Int × Int)) : TD (n + 3) (eSq eP l) := .inr (.inr ⟨l.map eP, rfl, fun x hx => by
  obtain ⟨z, _, rfl⟩ := List.mem_map.mp hx
  exact td_P z⟩)
theorem shp_Iz {i : Int} : SeqAt.shaped (.int i) = true := by
  simp only [SeqAt.shaped]
  rfl
theorem td_S {n : Nat} (s : PySem.Str) (h : WOk s) : TD (n + 1) (eS s) := .inr (.inl ⟨s, h, rfl⟩)
theorem zip_all : ∀ {k l : List PyData}, k.length = l.length → (((k.zip l).filter fun (x_ : (PyData × PyData)) => (!(M_law_same x_.1 x_.2))) = [] ↔ k = l)
  | [], [], _ => ⟨fun _ => rfl, fun _ => rfl⟩
  | a :: k, b :: l, h => by
    have ih := zip_all (k := k) (l := l) (by simpa using h)
    rw [List.zip_cons_cons]
    by_cases e : a = b
    · rw [List.filter_cons_of_neg (by rw [same_t e]; decide), ih]
      exact ⟨fun q => by rw [e, q], fun q => (List.cons.inj q).2⟩
    · rw [List.filter_cons_of_pos (by rw [same_f e]; decide)]
      exact ⟨fun q => (nomatch q), fun q => absurd (List.cons.inj q).1 e⟩
def W_law_same (Pre : PyData → PyData → Prop) (found : PyData) (due : PyData) (Q : Bool → Prop) : Prop :=
  (natZ due = true) ∧
  (((isTupZ due) = true →
  (natZ found = true) ∧
  ((!(isTupZ found)) = false → ((isTupZ found = true) ∧ (isTupZ due = true))) ∧
  ((((!(isTupZ found)) || (!(decide ((((itemsZ found)).length : Int) = (((itemsZ due)).length : Int))))) = true →
  Q false) ∧ (((!(isTupZ found)) || (!(decide ((((itemsZ found)).length : Int) = (((itemsZ due)).length : Int))))) = false →
  (isTupZ found = true) ∧
  (isTupZ due = true) ∧
  (∀ x_ ∈ (((itemsZ found)).zip (itemsZ due)), Pre x_.1 x_.2) ∧
  Q (decide ((((((itemsZ found)).zip (itemsZ due)).filter fun (x_ : (PyData × PyData)) => (!(M_law_same x_.1 x_.2))).map fun (x_ : (PyData × PyData)) => (1 : Int)) = ([] : (List Int))))))) ∧ ((isTupZ due) = false →
  (((isNo due) = true →
  Q (isNo found)) ∧ ((isNo due) = false →
  (((isStrZ due) = true →
  (natZ found = true) ∧
  ((isStrZ found) = true → ((SeqAt.shaped found = true) ∧ (SeqAt.shaped due = true))) ∧
  Q ((isStrZ found) && (PyData.eqv found due))) ∧ ((isStrZ due) = false →
  (natZ found = true) ∧
  ((isIntZ found) = true → ((natZ found = true) ∧ (natZ due = true) ∧ ((decide ((isBolZ found) = (isBolZ due))) = true → ((SeqAt.shaped found = true) ∧ (SeqAt.shaped due = true))))) ∧
  Q ((isIntZ found) && ((decide ((isBolZ found) = (isBolZ due))) && (PyData.eqv found due)))))))))
theorem okw_law_same {f : Ad} {fd : FuncData} (F : Fun K "_law_same" "_law_same" s_law_same f fd) (b_law_same : L2.Binds K fd ["_law_found", "_law_due"] []) (m_law_same : mg "_law_same" = some (.ref f)) (z_isinstance : mg "isinstance" = none) (z_tuple : mg "tuple" = none) (z_str : mg "str" = none) (z_int : mg "int" = none) (z_bool : mg "bool" = none) (z_len : mg "len" = none) (z_zip : mg "zip" = none) {k : Nat} {Pre : PyData → PyData → Prop} (G_law_same : FnG P w K mg base CX0 (1 + k) f fd ["_law_found", "_law_due"] (spP K (fun x : (PyData × PyData) => [eD x.1, eD x.2]) (fun x => Pre x.1 x.2) (fun x d => d = eB (M_law_same x.1 x.2)))) : FnG P w K mg base CX0 (1 + k + 1) f fd ["_law_found", "_law_due"] (spW K (fun x : (PyData × PyData) => [eD x.1, eD x.2]) eB (fun x Q => W_law_same Pre x.1 x.2 Q)) := by
  have k_law_same := F.kp
  refine okP F sc_law_same (fun _ => rfl) (fun cdv A outer s H E hr hgd => ?_)
  have hu65 := rm65 hr
  refine ⟨_, (pss_cons (ps_if (pt_val (pe_callB (call_isiK1 (K := K) rfl) (by rfl) z_isinstance (by decide +kernel) (pa_cons (pv 1) (pa_cons (pe_bltn (v := V.ty "tuple") (u := Value.type "tuple") (by rfl) z_tuple (by decide +kernel) rfl) pa_nil)))) (pss_cons (ps_if (PW.pt (pw_or (pt_not (pt_val (pe_callB (call_isiK1 (K := K) rfl) (by rfl) z_isinstance (by decide +kernel) (pa_cons (pv 0) (pa_cons (pe_bltn (v := V.ty "tuple") (u := Value.type "tuple") (by rfl) z_tuple (by decide +kernel) rfl) pa_nil))))) (pw_or1 (pt_cmpR op_ne (pe_callB (call_lenK K rfl) (by rfl) z_len (by decide +kernel) (pa_cons (pv 0) pa_nil)) (pe_callB (call_lenK K rfl) (by rfl) z_len (by decide +kernel) (pa_cons (pv 1) pa_nil)) (nomark _))))) (pss_cons (ps_ret pe_bl)
      pss_nil) pss_nil)
      (pss_cons (ps_ret (pe_cmpR (op_eqK K rfl hr.units) (pe_lc (own := [("_law_one", 2), ("_law_other", 3)]) (tt := _) rfl sc_law_same.nd (pi_zipK (K := K) rfl (by rfl) z_zip (pa_cons (pv 0) (pa_cons (pv 1) pa_nil))) (blkOk_by (N := ["_law_found", "_law_due", "_law_one", "_law_other"]) (sc := defScope s_law_same) (by decide +kernel)) (fun _ _ _ _ _ => (pg_tupK K 2 rfl rfl (pgs_cons (pg_name (i := 2) sc_law_same.nd rfl (by first | exact Or.inl rfl | exact Or.inr rfl)) (pgs_cons (pg_name (i := 3) sc_law_same.nd rfl (by first | exact Or.inl rfl | exact Or.inr rfl)) pgs_nil)) rfl rfl)) (fun _ _ _ _ _ => (pts_one (pt_not (pt_val (pe_callG G_law_same (hr.mono (by omega)) hgd (by rfl) m_law_same k_law_same b_law_same .nil pass0 (pa_cons (pv 2) (pa_cons (pv 3) pa_nil))))))) (fun _ _ _ _ _ => pe_int)) (pe_lst pa_nil) (nomark _)))
      pss_nil)) pss_nil)
      (pss_cons (ps_if (pt_cmpR op_isN (pv 1) pe_non (nomark _)) (pss_cons (ps_ret (pe_cmpR op_isN (pv 0) pe_non (nomark _)))
      pss_nil) pss_nil)
      (pss_cons (ps_if (pt_val (pe_callB (call_isiK1 (K := K) rfl) (by rfl) z_isinstance (by decide +kernel) (pa_cons (pv 1) (pa_cons (pe_bltn (v := V.ty "str") (u := Value.type "str") (by rfl) z_str (by decide +kernel) rfl) pa_nil)))) (pss_cons (ps_ret (pe_and (pe_callB (call_isiK1 (K := K) rfl) (by rfl) z_isinstance (by decide +kernel) (pa_cons (pv 0) (pa_cons (pe_bltn (v := V.ty "str") (u := Value.type "str") (by rfl) z_str (by decide +kernel) rfl) pa_nil))) (pe_one (pe_cmpR (op_eqK K rfl hr.units) (pv 0) (pv 1) (nomark _)))))
      pss_nil) pss_nil)
      (pss_cons (ps_ret (pe_and (pe_callB (call_isiK1 (K := K) rfl) (by rfl) z_isinstance (by decide +kernel) (pa_cons (pv 0) (pa_cons (pe_bltn (v := V.ty "int") (u := Value.type "int") (by rfl) z_int (by decide +kernel) rfl) pa_nil))) (pe_and (pe_cmpR op_eq (pe_callB (call_isiK1 (K := K) rfl) (by rfl) z_isinstance (by decide +kernel) (pa_cons (pv 0) (pa_cons (pe_bltn (v := V.ty "bool") (u := Value.type "bool") (by rfl) z_bool (by decide +kernel) rfl) pa_nil))) (pe_callB (call_isiK1 (K := K) rfl) (by rfl) z_isinstance (by decide +kernel) (pa_cons (pv 1) (pa_cons (pe_bltn (v := V.ty "bool") (u := Value.type "bool") (by rfl) z_bool (by decide +kernel) rfl) pa_nil))) (nomark _)) (pe_one (pe_cmpR (op_eqK K rfl hr.units) (pv 0) (pv 1) (nomark _))))))
      pss_nil)))), fun x hp => ?_⟩
  obtain ⟨⟨found, due⟩, Q⟩ := x
  have h : W_law_same Pre found due Q := hp
  unfold W_law_same at h
  show SJ K _ [.da (eD found), .da (eD due), .un, .un] _
  refine sj_seq ?_
  obtain ⟨g1_, h⟩ := h
  refine sj_if (et_B (ev_isTupZ (ev_var rfl) g1_)) (fun (hc1_ : (isTupZ due) = true) => ?_) (fun (hc1_ : (isTupZ due) = false) => ?_)
  · have h := h.1 hc1_
    refine sj_seq ?_
    obtain ⟨g2_, g3_, h⟩ := h
    refine sj_if (et_or (et_not (et_B (ev_isTupZ (ev_var rfl) g2_))) fun (hb3_ : (!(isTupZ found)) = false) => (et_test (ev_op (ev_is (d1 := .int (((itemsZ found)).length : Int)) (ev_cb (eva_cons (ev_is (ev_var rfl) (as_tupZ ((g3_ hb3_).1))) eva_nil) rdl_lenT) (by simp only [List.length_map])) (ev_is (d1 := .int (((itemsZ due)).length : Int)) (ev_cb (eva_cons (ev_is (ev_var rfl) (as_tupZ ((g3_ hb3_).2))) eva_nil) rdl_lenT) (by simp only [List.length_map])) rd_neI))) (fun (hc2_ : ((!(isTupZ found)) || (!(decide ((((itemsZ found)).length : Int) = (((itemsZ due)).length : Int))))) = true) => ?_) (fun (hc2_ : ((!(isTupZ found)) || (!(decide ((((itemsZ found)).length : Int) = (((itemsZ due)).length : Int))))) = false) => ?_)
    · have h := h.1 hc2_
      refine sj_seq ?_
      exact sj_ret ev_bl ⟨false, rfl, h⟩
    · have h := h.2 hc2_
      refine sj_next ?_
      show SJ K _ [.da (eD found), .da (eD due), .un, .un] _
      refine sj_seq ?_
      obtain ⟨g4_, g5_, g6_, h⟩ := h
      exact sj_ret (ev_op (ev_ofL (el_lcM (en' := eI) (fun (x_ : (PyData × PyData)) => (!(M_law_same x_.1 x_.2))) (fun (x_ : (PyData × PyData)) => (1 : Int)) (di_zipT (xs := (itemsZ found)) (ys := (itemsZ due)) (eva_cons (ev_is (ev_var rfl) (as_tupZ g4_)) (eva_cons (ev_is (ev_var rfl) (as_tupZ g5_)) eva_nil))) rfl (fun x_ hx_ => gj_tup (gjs_cons (gj_name (gjs_cons (gj_name (gjs_nil (⟨(et_not (et_B (ev_is (d1 := eB (M_law_same x_.1 x_.2)) (ev_call (x_.1, x_.2) (eva_cons (ev_var rfl) (eva_cons (ev_var rfl) eva_nil)) (g6_ x_ hx_)) rfl))), fun hf4_ => ev_int⟩))))))))) (ev_ofL (el_lst eva_nil)) (rd_eqT (x := (((((itemsZ found)).zip (itemsZ due)).filter fun (x_ : (PyData × PyData)) => (!(M_law_same x_.1 x_.2))).map fun (x_ : (PyData × PyData)) => (1 : Int))) (y := ([] : (List Int))) (pl_Ls pl_I) (eq_Ls eq_I))) ⟨(decide ((((((itemsZ found)).zip (itemsZ due)).filter fun (x_ : (PyData × PyData)) => (!(M_law_same x_.1 x_.2))).map fun (x_ : (PyData × PyData)) => (1 : Int)) = ([] : (List Int)))), rfl, h⟩
  · have h := h.2 hc1_
    refine sj_next ?_
    show SJ K _ [.da (eD found), .da (eD due), .un, .un] _
    refine sj_seq ?_
    refine sj_if (et_test (ev_op (ev_var rfl) ev_non rd_isN)) (fun (hc5_ : (isNo due) = true) => ?_) (fun (hc5_ : (isNo due) = false) => ?_)
    · have h := h.1 hc5_
      refine sj_seq ?_
      exact sj_ret (ev_op (ev_var rfl) ev_non rd_isN) ⟨(isNo found), rfl, h⟩
    · have h := h.2 hc5_
      refine sj_next ?_
      show SJ K _ [.da (eD found), .da (eD due), .un, .un] _
      refine sj_seq ?_
      refine sj_if (et_B (ev_isStrZ (ev_var rfl) g1_)) (fun (hc6_ : (isStrZ due) = true) => ?_) (fun (hc6_ : (isStrZ due) = false) => ?_)
      · have h := h.1 hc6_
        refine sj_seq ?_
        obtain ⟨g7_, g8_, h⟩ := h
        exact sj_ret (ev_andV (ev_isStrZ (ev_var rfl) g7_) fun (hb7_ : (isStrZ found) = true) => (ev_op (ev_var rfl) (ev_var rfl) (rd_eqD (d1 := found) (d2 := due) ((g8_ hb7_).1) ((g8_ hb7_).2)))) ⟨((isStrZ found) && (PyData.eqv found due)), rfl, h⟩
      · have h := h.2 hc6_
        refine sj_next ?_
        show SJ K _ [.da (eD found), .da (eD due), .un, .un] _
        refine sj_seq ?_
        obtain ⟨g9_, g10_, h⟩ := h
        exact sj_ret (ev_andV (ev_isIntZ (ev_var rfl) g9_) fun (hb8_ : (isIntZ found) = true) => (ev_andV (ev_op (ev_isBolZ (ev_var rfl) ((g10_ hb8_).1)) (ev_isBolZ (ev_var rfl) ((g10_ hb8_).2.1)) rd_eqB) fun (hb9_ : (decide ((isBolZ found) = (isBolZ due))) = true) => (ev_op (ev_var rfl) (ev_var rfl) (rd_eqD (d1 := found) (d2 := due) ((((g10_ hb8_).2.2) hb9_).1) ((((g10_ hb8_).2.2) hb9_).2))))) ⟨((isIntZ found) && ((decide ((isBolZ found) = (isBolZ due))) && (PyData.eqv found due))), rfl, h⟩
def PD_law_same (n : Nat) (a b : PyData) : Prop := TD n a ∧ TD n b
theorem PD_law_same_no {a b : PyData} (h : PD_law_same 0 a b) : False := h.1
theorem pf_law_same (n : Nat) (a b : PyData) (h : PD_law_same (n + 1) a b) : W_law_same (PD_law_same n) a b fun r => r = M_law_same a b := by
  obtain ⟨ha, hb⟩ := h
  have na := td_nat ha
  have nb := td_nat hb
  refine ⟨nb, fun hc => ?_, fun hc => ?_⟩
  · rcases hb with ⟨i, rfl⟩ | ⟨s, ws, rfl⟩ | ⟨l, rfl, hl⟩
    · exact nomatch hc
    · exact nomatch hc
    rcases ha with ⟨i, rfl⟩ | ⟨s, ws, rfl⟩ | ⟨k, rfl, hk⟩
    · exact ⟨na, fun z => (nomatch z), fun _ => (by show _ = M_law_same _ _; exact (same_f (by intro z; cases z)).symm), fun z => nomatch z⟩
    · exact ⟨na, fun z => (nomatch z), fun _ => (by show _ = M_law_same _ _; exact (same_f (by intro z; cases z)).symm), fun z => nomatch z⟩
    · refine ⟨na, fun _ => ⟨rfl, rfl⟩, fun z => ?_, fun z => ?_⟩
      · have z : (!(decide (((k.length : Nat) : Int) = ((l.length : Nat) : Int)))) = true := z
        refine (same_f fun q => ?_).symm
        cases q
        rw [decide_eq_true rfl] at z
        exact nomatch z
      · have z : (!(decide (((k.length : Nat) : Int) = ((l.length : Nat) : Int)))) = false := z
        have z : ((k.length : Nat) : Int) = ((l.length : Nat) : Int) := by
          cases w : decide (((k.length : Nat) : Int) = ((l.length : Nat) : Int)) with
          | true => exact of_decide_eq_true w
          | false => rw [w] at z; exact nomatch z
        have hz : k.length = l.length := by omega
        refine ⟨rfl, rfl, fun x hx => ⟨hk _ (List.of_mem_zip hx).1, hl _ (List.of_mem_zip hx).2⟩, ?_⟩
        show decide (((((k).zip l).filter fun (x_ : (PyData × PyData)) => (!(M_law_same x_.1 x_.2))).map fun (x_ : (PyData × PyData)) => (1 : Int)) = ([] : (List Int))) = _
        by_cases e : k = l
        · rw [same_t (by rw [e]), (zip_all hz).mpr e]
          rfl
        · rw [same_f fun q => e (PyData.tuple.inj q)]
          exact decide_eq_false fun q => e ((zip_all hz).mp (List.map_eq_nil_iff.mp q))
  · rcases hb with ⟨i, rfl⟩ | ⟨s, ws, rfl⟩ | ⟨l, rfl, hl⟩
    · refine ⟨fun z => (nomatch z), fun _ => ⟨fun z => (nomatch z), fun _ => ⟨na, ?_⟩⟩⟩
      rcases ha with ⟨j, rfl⟩ | ⟨s, ws, rfl⟩ | ⟨k, rfl, hk⟩
      · refine ⟨fun _ => ⟨na, nb, fun _ => ⟨shp_Iz, shp_Iz⟩⟩, ?_⟩
        show (true && (true && (j == i))) = _
        by_cases e : j = i
        · rw [same_t (by rw [e]), e]; simp
        · rw [same_f fun q => e (PyData.int.inj q)]; simp [e]
      · exact ⟨fun z => (nomatch z), (by show _ = M_law_same _ _; exact (same_f (by intro z; cases z)).symm)⟩
      · exact ⟨fun z => (nomatch z), (by show _ = M_law_same _ _; exact (same_f (by intro z; cases z)).symm)⟩
    · refine ⟨fun z => (nomatch z), fun _ => ⟨fun _ => ⟨na, ?_⟩, fun z => nomatch z⟩⟩
      rcases ha with ⟨j, rfl⟩ | ⟨t, wt, rfl⟩ | ⟨k, rfl, hk⟩
      · exact ⟨fun z => (nomatch z), (by show _ = M_law_same _ _; exact (same_f (by intro z; cases z)).symm)⟩
      · refine ⟨fun _ => ⟨shp_S wt, shp_S ws⟩, ?_⟩
        show (true && (t == s)) = _
        by_cases e : t = s
        · rw [same_t (by rw [e]), e]; simp
        · rw [same_f fun q => e (PyData.str.inj q)]; simp [e]
      · exact ⟨fun z => (nomatch z), (by show _ = M_law_same _ _; exact (same_f (by intro z; cases z)).symm)⟩
    · exact nomatch hc
theorem okd_law_same {f : Ad} {fd : FuncData} (F : Fun K "_law_same" "_law_same" s_law_same f fd) (b_law_same : L2.Binds K fd ["_law_found", "_law_due"] []) (m_law_same : mg "_law_same" = some (.ref f)) (z_isinstance : mg "isinstance" = none) (z_tuple : mg "tuple" = none) (z_str : mg "str" = none) (z_int : mg "int" = none) (z_bool : mg "bool" = none) (z_len : mg "len" = none) (z_zip : mg "zip" = none) : ∀ d : Nat, FnG P w K mg base CX0 (1 + d) f fd ["_law_found", "_law_due"] (spP K (fun x : (PyData × PyData) => [eD x.1, eD x.2]) (fun x => PD_law_same d x.1 x.2) (fun x d => d = eB (M_law_same x.1 x.2)))
  | 0 => ⟨fun _ _ _ _ h => by obtain ⟨_, _, _, _, hp, _⟩ := h; exact (PD_law_same_no hp).elim, fun _ _ _ _ _ _ _ _ _ _ _ _ _ _ h => by obtain ⟨_, _, _, _, hp, _⟩ := h; exact (PD_law_same_no hp).elim⟩
  | d + 1 => (okw_law_same F b_law_same m_law_same z_isinstance z_tuple z_str z_int z_bool z_len z_zip (okd_law_same F b_law_same m_law_same z_isinstance z_tuple z_str z_int z_bool z_len z_zip d)).imp (imp_W fun x h => pf_law_same d x.1 x.2 h)
def P_law_same (found : PyData) (due : PyData) : Prop := PD_law_same 4 found due
abbrev sp_law_same (K : Fg) : Sp := spP K (fun x : (PyData × PyData) => [eD x.1, eD x.2]) (fun x => P_law_same x.1 x.2) (fun x d => d = eB (M_law_same x.1 x.2))
theorem ok_law_same {f : Ad} {fd : FuncData} (F : Fun K "_law_same" "_law_same" s_law_same f fd) (b_law_same : L2.Binds K fd ["_law_found", "_law_due"] []) (m_law_same : mg "_law_same" = some (.ref f)) (z_isinstance : mg "isinstance" = none) (z_tuple : mg "tuple" = none) (z_str : mg "str" = none) (z_int : mg "int" = none) (z_bool : mg "bool" = none) (z_len : mg "len" = none) (z_zip : mg "zip" = none) : FnG P w K mg base CX0 5 f fd ["_law_found", "_law_due"] (sp_law_same K) := okd_law_same F b_law_same m_law_same z_isinstance z_tuple z_str z_int z_bool z_len z_zip 4
/-! law_odd -/
def W_law_odd  (Q : PyData → Prop) : Prop :=
  ∀ some_ : (List PyData), some_ = ([(eN ()), (eB true), (eB false), (eI (0 : Int)), (eI (-(1 : Int))), (eI (100000000000000000000000000000 : Int)), (PyData.tuple []), (PyData.list []), (PyData.dict []), (PyData.tuple [(eI (0 : Int)), (eI (1 : Int))]), (PyData.list [(eS (PySem.Str.ofString "0-1"))]), ((eSq eS) ([(PySem.Str.ofString "0-1")]))] : (List PyData)) →
  (Dr (12 : Int)) ∧
  ∀ k : Int, 0 ≤ k → k < (12 : Int) →
  (Ix some_ k) ∧
  Q (atL some_ k)
abbrev spw_law_odd (K : Fg) : Sp := spWD K dkR (fun x : Unit => []) eD 8 (fun (x : Unit) Q => W_law_odd  Q)
theorem okw_law_odd {f : Ad} {fd : FuncData} (F : Fun K "_law_odd" "_law_odd" s_law_odd f fd) (C_law_draw : Cal P w K mg base 1 "_law_draw" ["_law_deck_here", "_law_many"] (sp_law_draw K)) : FnG P w K mg base CX0 2 f fd ["_law_deck_here"] (spw_law_odd K) := by
  obtain ⟨f_law_draw, fd_law_draw, G_law_draw, k_law_draw, b_law_draw, m_law_draw⟩ := C_law_draw
  refine okD dkR_up dkR_eq F sc_law_odd (fun _ => rfl) (fun cdv A outer s H E hr hgd => ?_)
  have hu65 := rm65 hr
  refine ⟨_, (pss_cons (ps_set (i := 1) sc_law_odd.nd rfl (by first | exact Or.inl rfl | exact Or.inr rfl) (pe_lst (pa_cons pe_non (pa_cons pe_bl (pa_cons pe_bl (pa_cons pe_int (pa_cons (pe_un un_neg pe_int) (pa_cons (pe_op op_pow pe_int pe_int) (pa_cons (pe_tup pa_nil) (pa_cons (pe_lst pa_nil) (pa_cons pe_dnewK (pa_cons (pe_tup (pa_cons pe_int (pa_cons pe_int pa_nil))) (pa_cons (pe_lst (pa_cons pe_str pa_nil)) (pa_cons (pe_tup (pa_cons pe_str pa_nil)) pa_nil))))))))))))))
      (pss_cons (ps_ret (pe_ix (ix_listK K rfl) (pv 1) (pe_callG G_law_draw (hr.mono (by decide)) hgd (by rfl) m_law_draw k_law_draw b_law_draw .nil pass0 (pa_cons (pv 0) (pa_cons pe_int pa_nil))) (fun _ _ => rfl)))
      pss_nil)), fun x p m hp hm => ?_⟩
  have hm : m + 8 ≤ DB := hm
  obtain ⟨_, Q⟩ := x
  have h : W_law_odd  Q := hp
  unfold W_law_odd at h
  show SJ K _ [.ow (dkR p m), .un] _
  refine sj_seq ?_
  refine sj_set (ev_ofL (el_lst (eva_cons ev_non (eva_cons ev_bl (eva_cons ev_bl (eva_cons ev_int (eva_cons (ev_un ev_int rd_neg) (eva_cons (ev_is (d1 := .int 100000000000000000000000000000) (ev_op ev_int ev_int (rd_iC (by exact ⟨by decide, by decide, by decide⟩))) (congrArg PyData.int (by decide))) (eva_cons (ev_tup eva_nil) (eva_cons (ev_ofL (el_lst eva_nil)) (eva_cons ev_dnew (eva_cons (ev_tup (eva_cons ev_int (eva_cons ev_int eva_nil))) (eva_cons (ev_ofL (el_lst (eva_cons ev_str eva_nil))) (eva_cons (ev_tup (eva_cons ev_str eva_nil)) eva_nil)))))))))))))) ?_
  show SJ K _ [.ow (dkR p m), .da ((eLs eD) ([(eN ()), (eB true), (eB false), (eI (0 : Int)), (eI (-(1 : Int))), (eI (100000000000000000000000000000 : Int)), (PyData.tuple []), (PyData.list []), (PyData.dict []), (PyData.tuple [(eI (0 : Int)), (eI (1 : Int))]), (PyData.list [(eS (PySem.Str.ofString "0-1"))]), ((eSq eS) ([(PySem.Str.ofString "0-1")]))] : (List PyData)))] _
  refine sj_nameV (([(eN ()), (eB true), (eB false), (eI (0 : Int)), (eI (-(1 : Int))), (eI (100000000000000000000000000000 : Int)), (PyData.tuple []), (PyData.list []), (PyData.dict []), (PyData.tuple [(eI (0 : Int)), (eI (1 : Int))]), (PyData.list [(eS (PySem.Str.ofString "0-1"))]), ((eSq eS) ([(PySem.Str.ofString "0-1")]))] : (List PyData)) : (List PyData)) (fun some_ => [.ow (dkR p m), .da ((eLs eD) some_)]) (fun some_ some_h => ?_)
  have h := h some_ some_h
  refine sj_seq ?_
  refine sj_retJ ?_
  refine ej_op ?_
  refine ej_of (ev_var rfl) ?_
  obtain ⟨g1_, h⟩ := h
  refine ej_callD dkR_eq rfl (eja_of (eva_cons ev_int eva_nil) ⟨(12 : Int), m, rfl, rfl, g1_, (by show m + 1 ≤ DB; omega), ?_⟩)
  rintro _ ⟨k, rfl, ka, kb⟩
  have h := h k ka kb
  obtain ⟨g2_, h⟩ := h
  refine ⟨_, rd_ixL (at_ok eD (xs := some_) (i := k) g2_.1 g2_.2), ?_⟩
  exact ⟨⟨(atL some_ k), rfl, h⟩, (m + 1), (by omega), rfl⟩
def P_law_odd : Prop := True
def R_law_odd (y : PyData) : Prop := natZ y = true ∧ isStrZ y = false
theorem pf_law_odd (h : P_law_odd) : W_law_odd fun r => R_law_odd r := by
  intro l hl
  subst hl
  refine ⟨dr_of (by omega) (by omega), fun k k0 k1 => ⟨ix_of (by omega) (by exact k1), ?_⟩⟩
  have q : ∀ y ∈ [(eN ()), (eB true), (eB false), (eI (0 : Int)), (eI (-(1 : Int))), (eI (100000000000000000000000000000 : Int)), (PyData.tuple []), (PyData.list []), (PyData.dict []), (PyData.tuple [(eI (0 : Int)), (eI (1 : Int))]), (PyData.list [(eS (PySem.Str.ofString "0-1"))]), ((eSq eS) ([(PySem.Str.ofString "0-1")]))], (natZ y && !isStrZ y) = true := by decide +kernel
  have m := q _ (atL_memx (ix_of k0 (by exact k1)))
  rw [Bool.and_eq_true, Bool.not_eq_true'] at m
  exact m
abbrev sp_law_odd (K : Fg) : Sp := spD K dkR (fun x : Unit => []) (fun x => P_law_odd ) (fun _ => 8) (fun x d => ∃ r, d = eD r ∧ R_law_odd  r)
theorem ok_law_odd {f : Ad} {fd : FuncData} (F : Fun K "_law_odd" "_law_odd" s_law_odd f fd) (C_law_draw : Cal P w K mg base 1 "_law_draw" ["_law_deck_here", "_law_many"] (sp_law_draw K)) : FnG P w K mg base CX0 2 f fd ["_law_deck_here"] (sp_law_odd K) :=
  (okw_law_odd F C_law_draw).imp (imp_WD fun x h => pf_law_odd  h)
/-! is_number -/
def W_is_number (value : Int) (low : Int) (high : Int) (Q : Bool → Prop) : Prop :=
  Q (true && ((!false) && ((decide (low ≤ value)) && (decide (value ≤ high)))))
abbrev spw_is_number (K : Fg) : Sp := spW K (fun x : (Int × Int × Int) => [eI x.1, eI x.2.1, eI x.2.2]) eB (fun (x : (Int × Int × Int)) Q => W_is_number x.1 x.2.1 x.2.2 Q)
theorem okw_is_number {f : Ad} {fd : FuncData} (F : Fun K "is_number" "is_number" s_is_number f fd) (z_isinstance : mg "isinstance" = none) (z_int : mg "int" = none) (z_bool : mg "bool" = none) : FnG P w K mg base CX0 1 f fd ["value", "low", "high"] (spw_is_number K) := by
  refine okP F sc_is_number (fun _ => rfl) (fun cdv A outer s H E hr hgd => ?_)
  have hu65 := rm65 hr
  refine ⟨_, (pss_cons (ps_ret (pe_and (pe_callB (call_isiK1 (K := K) rfl) (by rfl) z_isinstance (by decide +kernel) (pa_cons (pv 0) (pa_cons (pe_bltn (v := V.ty "int") (u := Value.type "int") (by rfl) z_int (by decide +kernel) rfl) pa_nil))) (pe_and (pe_not (pe_callB (call_isiK1 (K := K) rfl) (by rfl) z_isinstance (by decide +kernel) (pa_cons (pv 0) (pa_cons (pe_bltn (v := V.ty "bool") (u := Value.type "bool") (by rfl) z_bool (by decide +kernel) rfl) pa_nil)))) (pe_one (pe_chain op_le op_le (pv 1) (pv 0) (pv 2))))))
      pss_nil), fun x hp => ?_⟩
  obtain ⟨⟨value, low, high⟩, Q⟩ := x
  have h : W_is_number value low high Q := hp
  unfold W_is_number at h
  show SJ K _ [.da (eI value), .da (eI low), .da (eI high)] _
  refine sj_seq ?_
  exact sj_ret (ev_andV (ev_isi (d := eI value) (b := true) (T := "int") "int" (ev_var rfl) rfl) fun (hb1_ : true = true) => (ev_andV (ev_notV (ev_isi (d := eI value) (b := false) (T := "bool") "int" (ev_var rfl) rfl)) fun (hb2_ : (!false) = true) => (ev_chain (ev_var rfl) (ev_var rfl) (fun hch1_ => (ev_var rfl)) rd_ib (fun hch1_ => rd_ib)))) ⟨(true && ((!false) && ((decide (low ≤ value)) && (decide (value ≤ high))))), rfl, h⟩
def M_is_number (value : Int) (low : Int) (high : Int) : Bool := (true && ((!false) && ((decide (low ≤ value)) && (decide (value ≤ high)))))
theorem pf_is_number (value : Int) (low : Int) (high : Int) : W_is_number value low high fun r => r = M_is_number value low high := by
  unfold W_is_number
  show _ = M_is_number value low high
  unfold M_is_number
  rfl
abbrev sp_is_number (K : Fg) : Sp := spP K (fun x : (Int × Int × Int) => [eI x.1, eI x.2.1, eI x.2.2]) (fun x => True) (fun x d => d = eB (M_is_number x.1 x.2.1 x.2.2))
theorem ok_is_number {f : Ad} {fd : FuncData} (F : Fun K "is_number" "is_number" s_is_number f fd) (z_isinstance : mg "isinstance" = none) (z_int : mg "int" = none) (z_bool : mg "bool" = none) : FnG P w K mg base CX0 1 f fd ["value", "low", "high"] (sp_is_number K) :=
  (okw_is_number F z_isinstance z_int z_bool).imp (imp_W fun x h => pf_is_number x.1 x.2.1 x.2.2)
/-! is_position -/
def W_is_position (value : Int) (Q : Bool → Prop) : Prop :=
  Q (M_is_number value (0 : Int) (1000000000000 : Int))
abbrev spw_is_position (K : Fg) : Sp := spW K (fun x : Int => [eI x]) eB (fun (x : Int) Q => W_is_position x Q)
theorem okw_is_position {f : Ad} {fd : FuncData} (F : Fun K "is_position" "is_position" s_is_position f fd) (C_is_number : Cal P w K mg base 1 "is_number" ["value", "low", "high"] (sp_is_number K)) {tk_LAST_POSITION : PySem.Tok} (g_LAST_POSITION : mg "LAST_POSITION" = some (.int 1000000000000 tk_LAST_POSITION)) : FnG P w K mg base CX0 2 f fd ["value"] (spw_is_position K) := by
  obtain ⟨f_is_number, fd_is_number, G_is_number, k_is_number, b_is_number, m_is_number⟩ := C_is_number
  refine okP F sc_is_position (fun _ => rfl) (fun cdv A outer s H E hr hgd => ?_)
  have hu65 := rm65 hr
  refine ⟨_, (pss_cons (ps_ret (pe_callG G_is_number (hr.mono (by decide)) hgd (by rfl) m_is_number k_is_number b_is_number .nil pass0 (pa_cons (pv 0) (pa_cons pe_int (pa_cons (pe_glob (v := V.int 1000000000000) (by rfl) g_LAST_POSITION ⟨_, rfl⟩) pa_nil)))))
      pss_nil), fun x hp => ?_⟩
  obtain ⟨value, Q⟩ := x
  have h : W_is_position value Q := hp
  unfold W_is_position at h
  show SJ K _ [.da (eI value)] _
  refine sj_seq ?_
  exact sj_ret (ev_is (d1 := eB (M_is_number value (0 : Int) (1000000000000 : Int))) (ev_call (value, (0 : Int), (1000000000000 : Int)) (eva_cons (ev_var rfl) (eva_cons ev_int (eva_cons ev_int eva_nil))) trivial) rfl) ⟨(M_is_number value (0 : Int) (1000000000000 : Int)), rfl, h⟩
def M_is_position (value : Int) : Bool := (M_is_number value (0 : Int) (1000000000000 : Int))
theorem pf_is_position (value : Int) : W_is_position value fun r => r = M_is_position value := by
  unfold W_is_position
  show _ = M_is_position value
  unfold M_is_position
  rfl
abbrev sp_is_position (K : Fg) : Sp := spP K (fun x : Int => [eI x]) (fun x => True) (fun x d => d = eB (M_is_position x))
theorem ok_is_position {f : Ad} {fd : FuncData} (F : Fun K "is_position" "is_position" s_is_position f fd) (C_is_number : Cal P w K mg base 1 "is_number" ["value", "low", "high"] (sp_is_number K)) {tk_LAST_POSITION : PySem.Tok} (g_LAST_POSITION : mg "LAST_POSITION" = some (.int 1000000000000 tk_LAST_POSITION)) : FnG P w K mg base CX0 2 f fd ["value"] (sp_is_position K) :=
  (okw_is_position F C_is_number g_LAST_POSITION).imp (imp_W fun x h => pf_is_position x)
/-! is_interval -/
def W_is_interval (value : (Int × Int)) (Q : Bool → Prop) : Prop :=
  ((((!true) || (!(decide ((2 : Int) = (2 : Int))))) = true →
  Q false) ∧ (((!true) || (!(decide ((2 : Int) = (2 : Int))))) = false →
  Q ((M_is_position value.1) && ((M_is_position value.2) && (decide (value.1 ≤ value.2))))))
abbrev spw_is_interval (K : Fg) : Sp := spW K (fun x : (Int × Int) => [eP x]) eB (fun (x : (Int × Int)) Q => W_is_interval x Q)
theorem okw_is_interval {f : Ad} {fd : FuncData} (F : Fun K "is_interval" "is_interval" s_is_interval f fd) (C_is_position : Cal P w K mg base 2 "is_position" ["value"] (sp_is_position K)) (z_isinstance : mg "isinstance" = none) (z_tuple : mg "tuple" = none) (z_len : mg "len" = none) : FnG P w K mg base CX0 3 f fd ["value"] (spw_is_interval K) := by
  obtain ⟨f_is_position, fd_is_position, G_is_position, k_is_position, b_is_position, m_is_position⟩ := C_is_position
  refine okP F sc_is_interval (fun _ => rfl) (fun cdv A outer s H E hr hgd => ?_)
  have hu65 := rm65 hr
  refine ⟨_, (pss_cons (ps_if (PW.pt (pw_or (pt_not (pt_val (pe_callB (call_isiK1 (K := K) rfl) (by rfl) z_isinstance (by decide +kernel) (pa_cons (pv 0) (pa_cons (pe_bltn (v := V.ty "tuple") (u := Value.type "tuple") (by rfl) z_tuple (by decide +kernel) rfl) pa_nil))))) (pw_or1 (pt_cmpR op_ne (pe_callB (call_lenK K rfl) (by rfl) z_len (by decide +kernel) (pa_cons (pv 0) pa_nil)) pe_int (nomark _))))) (pss_cons (ps_ret pe_bl)
      pss_nil) pss_nil)
      (pss_cons (ps_ret (pe_and (pe_callG G_is_position (hr.mono (by decide)) hgd (by rfl) m_is_position k_is_position b_is_position .nil pass0 (pa_cons (pe_ix (ix_tupK K rfl) (pv 0) pe_int (fun _ _ => rfl)) pa_nil)) (pe_and (pe_callG G_is_position (hr.mono (by decide)) hgd (by rfl) m_is_position k_is_position b_is_position .nil pass0 (pa_cons (pe_ix (ix_tupK K rfl) (pv 0) pe_int (fun _ _ => rfl)) pa_nil)) (pe_one (pe_cmpR op_le (pe_ix (ix_tupK K rfl) (pv 0) pe_int (fun _ _ => rfl)) (pe_ix (ix_tupK K rfl) (pv 0) pe_int (fun _ _ => rfl)) (nomark _))))))
      pss_nil)), fun x hp => ?_⟩
  obtain ⟨value, Q⟩ := x
  have h : W_is_interval value Q := hp
  unfold W_is_interval at h
  show SJ K _ [.da (eP value)] _
  refine sj_seq ?_
  refine sj_if (et_or (et_not (et_B (ev_isi (d := eP value) (b := true) (T := "tuple") "tuple" (ev_var rfl) rfl))) fun (hb2_ : (!true) = false) => (et_test (ev_op (ev_is (d1 := .int (2 : Int)) (ev_cb (eva_cons (ev_var rfl) eva_nil) rdl_lenT) (by rfl)) ev_int rd_neI))) (fun (hc1_ : ((!true) || (!(decide ((2 : Int) = (2 : Int))))) = true) => ?_) (fun (hc1_ : ((!true) || (!(decide ((2 : Int) = (2 : Int))))) = false) => ?_)
  · have h := h.1 hc1_
    refine sj_seq ?_
    exact sj_ret ev_bl ⟨false, rfl, h⟩
  · have h := h.2 hc1_
    refine sj_next ?_
    show SJ K _ [.da (eP value)] _
    refine sj_seq ?_
    exact sj_ret (ev_andV (ev_is (d1 := eB (M_is_position value.1)) (ev_call value.1 (eva_cons (ev_op (ev_var rfl) ev_int (rd_ixT rfl)) eva_nil) trivial) rfl) fun (hb3_ : (M_is_position value.1) = true) => (ev_andV (ev_is (d1 := eB (M_is_position value.2)) (ev_call value.2 (eva_cons (ev_op (ev_var rfl) ev_int (rd_ixT rfl)) eva_nil) trivial) rfl) fun (hb4_ : (M_is_position value.2) = true) => (ev_op (ev_op (ev_var rfl) ev_int (rd_ixT rfl)) (ev_op (ev_var rfl) ev_int (rd_ixT rfl)) rd_ib))) ⟨((M_is_position value.1) && ((M_is_position value.2) && (decide (value.1 ≤ value.2)))), rfl, h⟩
def M_is_interval (v : Int × Int) : Bool := decide (IvP v)
theorem pf_is_interval (v : Int × Int) : W_is_interval v fun r => r = M_is_interval v := by
  refine ⟨fun h => absurd h (by decide), fun _ => ?_⟩
  show (M_is_position v.1 && (M_is_position v.2 && decide (v.1 ≤ v.2))) = decide (IvP v)
  rw [Bool.eq_iff_iff, decide_eq_true_iff]
  unfold M_is_position M_is_number
  simp only [Bool.and_eq_true, decide_eq_true_eq, Bool.not_false, true_and]
  unfold IvP
  omega
theorem is_iv {v : Int × Int} : M_is_interval v = true ↔ IvP v := by
  unfold M_is_interval
  exact decide_eq_true_iff
abbrev sp_is_interval (K : Fg) : Sp := spP K (fun x : (Int × Int) => [eP x]) (fun x => True) (fun x d => d = eB (M_is_interval x))
theorem ok_is_interval {f : Ad} {fd : FuncData} (F : Fun K "is_interval" "is_interval" s_is_interval f fd) (C_is_position : Cal P w K mg base 2 "is_position" ["value"] (sp_is_position K)) (z_isinstance : mg "isinstance" = none) (z_tuple : mg "tuple" = none) (z_len : mg "len" = none) : FnG P w K mg base CX0 3 f fd ["value"] (sp_is_interval K) :=
  (okw_is_interval F C_is_position z_isinstance z_tuple z_len).imp (imp_W fun x h => pf_is_interval x)
/-! targets_error -/
def W_targets_error (value : (List (Int × Int))) (Q : (Option ((Option Int) × PySem.Str)) → Prop) : Prop :=
  ((((!true) || (decide ((24 : Int) < ((value).length : Int)))) = true →
  Q (some ((none : (Option Int)), (PySem.Str.ofString "tuple")))) ∧ (((!true) || (decide ((24 : Int) < ((value).length : Int)))) = false →
  forW (fun (t : (Int × (Int × Int))) (s_ : Unit) nx_ bk_ =>
  (((!(M_is_interval t.2)) = true →
  Q (some ((some t.1), (PySem.Str.ofString "interval")))) ∧ ((!(M_is_interval t.2)) = false →
  ((decide ((0 : Int) < t.1)) = true → Ix value (t.1 - (1 : Int))) ∧
  ((((decide ((0 : Int) < t.1)) && (!(ltPB (atL value (t.1 - (1 : Int))) t.2))) = true →
  Q (some ((some t.1), (PySem.Str.ofString "order")))) ∧ (((decide ((0 : Int) < t.1)) && (!(ltPB (atL value (t.1 - (1 : Int))) t.2))) = false →
  nx_ ()))))) (enF 0 value) () (fun (_ : Unit) =>
  Q (none : (Option ((Option Int) × PySem.Str))))))
abbrev spw_targets_error (K : Fg) : Sp := spW K (fun x : (List (Int × Int)) => [(eSq eP) x]) (eO (eT2 (eO eI) eS)) (fun (x : (List (Int × Int))) Q => W_targets_error x Q)
theorem okw_targets_error {f : Ad} {fd : FuncData} (F : Fun K "targets_error" "targets_error" s_targets_error f fd) (C_is_interval : Cal P w K mg base 3 "is_interval" ["value"] (sp_is_interval K)) (z_enumerate : mg "enumerate" = none) (z_isinstance : mg "isinstance" = none) (z_tuple : mg "tuple" = none) (z_len : mg "len" = none) {tk_MAX_TARGETS : PySem.Tok} (g_MAX_TARGETS : mg "MAX_TARGETS" = some (.int 24 tk_MAX_TARGETS)) : FnG P w K mg base CX0 4 f fd ["value"] (spw_targets_error K) := by
  obtain ⟨f_is_interval, fd_is_interval, G_is_interval, k_is_interval, b_is_interval, m_is_interval⟩ := C_is_interval
  refine okP F sc_targets_error (fun _ => rfl) (fun cdv A outer s H E hr hgd => ?_)
  have hu65 := rm65 hr
  refine ⟨_, (pss_cons (ps_if (PW.pt (pw_or (pt_not (pt_val (pe_callB (call_isiK1 (K := K) rfl) (by rfl) z_isinstance (by decide +kernel) (pa_cons (pv 0) (pa_cons (pe_bltn (v := V.ty "tuple") (u := Value.type "tuple") (by rfl) z_tuple (by decide +kernel) rfl) pa_nil))))) (pw_or1 (pt_cmpR op_gt (pe_callB (call_lenK K rfl) (by rfl) z_len (by decide +kernel) (pa_cons (pv 0) pa_nil)) (pe_glob (v := V.int 24) (by rfl) g_MAX_TARGETS ⟨_, rfl⟩) (nomark _))))) (pss_cons (ps_ret (pe_tup (pa_cons pe_non (pa_cons pe_str pa_nil))))
      pss_nil) pss_nil)
      (pss_cons (ps_for PassesOwn.never rfl (pi_enumA (K := K) rfl (by rfl) z_enumerate (pa_cons (pv 0) pa_nil)) (pg_tupK K 2 rfl rfl (pgs_cons (pg_name (i := 1) sc_targets_error.nd rfl (by first | exact Or.inl rfl | exact Or.inr rfl)) (pgs_cons (pg_name (i := 2) sc_targets_error.nd rfl (by first | exact Or.inl rfl | exact Or.inr rfl)) pgs_nil)) rfl rfl)
      (pss_cons (ps_if (pt_not (pt_val (pe_callG G_is_interval (hr.mono (by decide)) hgd (by rfl) m_is_interval k_is_interval b_is_interval .nil pass0 (pa_cons (pv 2) pa_nil)))) (pss_cons (ps_ret (pe_tup (pa_cons (pv 1) (pa_cons pe_str pa_nil))))
      pss_nil) pss_nil)
      (pss_cons (ps_if (PW.pt (pw_and (pt_cmpR op_gt (pv 1) pe_int (nomark _)) (pw_and1 (pt_not (pt_cmpR (op_ltA (K := K) rfl hr.units) (pe_ix (ix_tupK K rfl) (pv 0) (pe_op op_sub (pv 1) pe_int) (fun _ _ => rfl)) (pv 2) (nomark _)))))) (pss_cons (ps_ret (pe_tup (pa_cons (pv 1) (pa_cons pe_str pa_nil))))
      pss_nil) pss_nil)
      pss_nil)))
      (pss_cons (ps_ret pe_non)
      pss_nil))), fun x hp => ?_⟩
  obtain ⟨value, Q⟩ := x
  have h : W_targets_error value Q := hp
  unfold W_targets_error at h
  show SJ K _ [.da ((eSq eP) value), .un, .un] _
  refine sj_seq ?_
  refine sj_if (et_or (et_not (et_B (ev_isi (d := (eSq eP) value) (b := true) (T := "tuple") "tuple" (ev_var rfl) rfl))) fun (hb2_ : (!true) = false) => (et_test (ev_op (ev_is (d1 := .int ((value).length : Int)) (ev_cb (eva_cons (ev_var rfl) eva_nil) rdl_lenT) (by simp only [List.length_map])) ev_int rd_ib))) (fun (hc1_ : ((!true) || (decide ((24 : Int) < ((value).length : Int)))) = true) => ?_) (fun (hc1_ : ((!true) || (decide ((24 : Int) < ((value).length : Int)))) = false) => ?_)
  · have h := h.1 hc1_
    refine sj_seq ?_
    exact sj_ret (ev_tup (eva_cons ev_non (eva_cons ev_str eva_nil))) ⟨(some ((none : (Option Int)), (PySem.Str.ofString "tuple"))), rfl, h⟩
  · have h := h.2 hc1_
    refine sj_next ?_
    show SJ K _ [.da ((eSq eP) value), .un, .un] _
    refine sj_seq ?_
    refine sj_forP (dij_of (di_enumT (xs := value) (eva_cons (ev_var rfl) eva_nil)) (forOk_W (eT2 eI eP) h 0 0 (fun m_ (s_ : Unit) => [.da ((eSq eP) value), .un, .un]) [1, 2] up_sj (fun t _ κ_ mm mmh h => ?_) (fun _ mm1 mm1h h => ?_)))
    · skip
      refine gj_tup (gjs_cons (gj_name (gjs_cons (gj_name (gjs_nil ?_)))))
      show SJ K _ [.da ((eSq eP) value), .da (eI t.1), .da (eP t.2)] _
      refine sj_seq ?_
      refine sj_if (et_not (et_B (ev_is (d1 := eB (M_is_interval t.2)) (ev_call t.2 (eva_cons (ev_var rfl) eva_nil) trivial) rfl))) (fun (hc3_ : (!(M_is_interval t.2)) = true) => ?_) (fun (hc3_ : (!(M_is_interval t.2)) = false) => ?_)
      · have h := h.1 hc3_
        refine sj_seq ?_
        exact sj_ret (ev_tup (eva_cons (ev_var rfl) (eva_cons ev_str eva_nil))) ⟨(some ((some t.1), (PySem.Str.ofString "interval"))), rfl, h⟩
      · have h := h.2 hc3_
        refine sj_next ?_
        show SJ K _ [.da ((eSq eP) value), .da (eI t.1), .da (eP t.2)] _
        refine sj_seq ?_
        obtain ⟨g1_, h⟩ := h
        refine sj_if (et_and (et_test (ev_op (ev_var rfl) ev_int rd_ib)) fun (hb5_ : (decide ((0 : Int) < t.1)) = true) => (et_not (et_test (ev_op (ev_op (ev_var rfl) (ev_op (ev_var rfl) ev_int rd_ii) (rd_ixT (at_ok eP (xs := value) (i := (t.1 - (1 : Int))) (g1_ hb5_).1 (g1_ hb5_).2))) (ev_var rfl) (rd_ltA (K := K) (x := (atL value (t.1 - (1 : Int)))) (y := t.2) cmpT_P))))) (fun (hc4_ : ((decide ((0 : Int) < t.1)) && (!(ltPB (atL value (t.1 - (1 : Int))) t.2))) = true) => ?_) (fun (hc4_ : ((decide ((0 : Int) < t.1)) && (!(ltPB (atL value (t.1 - (1 : Int))) t.2))) = false) => ?_)
        · have h := h.1 hc4_
          refine sj_seq ?_
          exact sj_ret (ev_tup (eva_cons (ev_var rfl) (eva_cons ev_str eva_nil))) ⟨(some ((some t.1), (PySem.Str.ofString "order"))), rfl, h⟩
        · have h := h.2 hc4_
          refine sj_next ?_
          refine sj_next ?_
          exact ⟨(), mm, h, (by omega), (.same (.un (.un .nil)))⟩
    · skip
      show SJ K _ [.da ((eSq eP) value), .un, .un] _
      refine sj_seq ?_
      exact sj_ret ev_non ⟨(none : (Option ((Option Int) × PySem.Str))), rfl, h⟩
def M_targets_error (l : List (Int × Int)) : Option ((Option Int) × PySem.Str) := none
def P_targets_error (l : List (Int × Int)) : Prop := Asc l ∧ l.length ≤ 24
theorem pf_targets_error (l : List (Int × Int)) (h : P_targets_error l) : W_targets_error l fun r => r = M_targets_error l := by
  obtain ⟨h1, h2⟩ := h
  refine ⟨fun hc => ?_, fun _ => forW_inv (fun _ _ => True) trivial (fun i t s κ ht _ hκ => ?_) (fun _ _ => rfl)⟩
  · rw [decide_eq_false (show ¬ (24 : Int) < (l.length : Int) by omega)] at hc
    exact absurd hc (by decide)
  · obtain ⟨t1, t2⟩ := enF_at0 ht
    have ti := (List.getElem?_eq_some_iff.mp t2).1
    have tm : t.2 ∈ l := List.mem_of_getElem? t2
    have g : ∀ z : 0 < t.1, ltPB (atL l (t.1 - 1)) t.2 = true := fun z => by
      obtain ⟨a, b⟩ := atL_nn (xs := l) (i := t.1 - 1) (by omega) (by omega)
      rw [b]
      have e : t.2 = l[i]'ti := (List.getElem?_eq_some_iff.mp t2).2.symm
      rw [e]
      exact decide_eq_true (List.pairwise_iff_getElem.mp h1.1 (t.1 - 1).toNat i a ti (by omega))
    refine ⟨fun hc => ?_, fun _ => ⟨fun z => ix_of (by have := of_decide_eq_true z; omega) (by omega), fun hc => ?_, fun _ => hκ _ trivial⟩⟩
    · rw [is_iv.mpr (h1.2 _ tm)] at hc
      exact absurd hc (by decide)
    · rw [Bool.and_eq_true] at hc
      rw [g (of_decide_eq_true hc.1)] at hc
      exact absurd hc.2 (by decide)
abbrev sp_targets_error (K : Fg) : Sp := spP K (fun x : (List (Int × Int)) => [(eSq eP) x]) (fun x => P_targets_error x) (fun x d => d = (eO (eT2 (eO eI) eS)) (M_targets_error x))
theorem ok_targets_error {f : Ad} {fd : FuncData} (F : Fun K "targets_error" "targets_error" s_targets_error f fd) (C_is_interval : Cal P w K mg base 3 "is_interval" ["value"] (sp_is_interval K)) (z_enumerate : mg "enumerate" = none) (z_isinstance : mg "isinstance" = none) (z_tuple : mg "tuple" = none) (z_len : mg "len" = none) {tk_MAX_TARGETS : PySem.Tok} (g_MAX_TARGETS : mg "MAX_TARGETS" = some (.int 24 tk_MAX_TARGETS)) : FnG P w K mg base CX0 4 f fd ["value"] (sp_targets_error K) :=
  (okw_targets_error F C_is_interval z_enumerate z_isinstance z_tuple z_len g_MAX_TARGETS).imp (imp_W fun x h => pf_targets_error x h)
/-! is_ascending -/
def W_is_ascending (items : (List (Int × Int))) (Q : Bool → Prop) : Prop :=
  Q (((((items).zip (cutL items (some (1 : Int)) none)).map fun (x_ : ((Int × Int) × (Int × Int))) => (ltPB x_.1 x_.2))).all id)
abbrev spw_is_ascending (K : Fg) : Sp := spW K (fun x : (List (Int × Int)) => [(eSq eP) x]) eB (fun (x : (List (Int × Int))) Q => W_is_ascending x Q)
theorem okw_is_ascending {f : Ad} {fd : FuncData} (F : Fun K "is_ascending" "is_ascending" s_is_ascending f fd) (z_all : mg "all" = none) (z_zip : mg "zip" = none) : FnG P w K mg base CX0 1 f fd ["items"] (spw_is_ascending K) := by
  refine okP F sc_is_ascending (fun _ => rfl) (fun cdv A outer s H E hr hgd => ?_)
  have hu65 := rm65 hr
  refine ⟨_, (pss_cons (ps_ret (pe_callB (cr_allK K rfl rfl) (by rfl) z_all (by decide +kernel) (pa_cons (pe_lc (own := [("first", 1), ("second", 2)]) (tt := tYes) rfl sc_is_ascending.nd (pi_zipK (K := K) rfl (by rfl) z_zip (pa_cons (pv 0) (pa_cons (pe_slice (sl_tupK K rfl) (pv 0) (po_some pe_int) po_none) pa_nil))) (blkOk_by (N := ["items", "first", "second"]) (sc := defScope s_is_ascending) (by decide +kernel)) (fun _ _ _ _ _ => (pg_tupK K 2 rfl rfl (pgs_cons (pg_name (i := 1) sc_is_ascending.nd rfl (by first | exact Or.inl rfl | exact Or.inr rfl)) (pgs_cons (pg_name (i := 2) sc_is_ascending.nd rfl (by first | exact Or.inl rfl | exact Or.inr rfl)) pgs_nil)) rfl rfl)) (fun _ _ _ _ _ => pts_nil) (fun _ _ _ _ _ => (pe_cmpR (op_ltA (K := K) rfl hr.units) (pv 1) (pv 2) (nomark _)))) pa_nil)))
      pss_nil), fun x hp => ?_⟩
  obtain ⟨items, Q⟩ := x
  have h : W_is_ascending items Q := hp
  unfold W_is_ascending at h
  show SJ K _ [.da ((eSq eP) items), .un, .un] _
  refine sj_seq ?_
  exact sj_ret (ev_cb (eva_cons (ev_ofL (el_lc0 (en' := eB) (fun (x_ : ((Int × Int) × (Int × Int))) => (ltPB x_.1 x_.2)) (di_zipT (xs := items) (ys := (cutL items (some (1 : Int)) none)) (eva_cons (ev_var rfl) (eva_cons (ev_is (d1 := eSq eP (cutL items (some (1 : Int)) none)) (ev_slT (ev_var rfl) (eo_some ev_int) eo_no) (congrArg PyData.tuple (cutD_map ..))) eva_nil))) rfl (fun x_ hx_ => gj_tup (gjs_cons (gj_name (gjs_cons (gj_name (gjs_nil (ev_op (ev_var rfl) (ev_var rfl) (rd_ltA (K := K) (x := x_.1) (y := x_.2) cmpT_P)))))))))) eva_nil) rdl_all) ⟨(((((items).zip (cutL items (some (1 : Int)) none)).map fun (x_ : ((Int × Int) × (Int × Int))) => (ltPB x_.1 x_.2))).all id), rfl, h⟩
def M_is_ascending (items : (List (Int × Int))) : Bool := (((((items).zip (cutL items (some (1 : Int)) none)).map fun (x_ : ((Int × Int) × (Int × Int))) => (ltPB x_.1 x_.2))).all id)
theorem pf_is_ascending (items : (List (Int × Int))) : W_is_ascending items fun r => r = M_is_ascending items := by
  unfold W_is_ascending
  show _ = M_is_ascending items
  unfold M_is_ascending
  rfl
abbrev sp_is_ascending (K : Fg) : Sp := spP K (fun x : (List (Int × Int)) => [(eSq eP) x]) (fun x => True) (fun x d => d = eB (M_is_ascending x))
theorem ok_is_ascending {f : Ad} {fd : FuncData} (F : Fun K "is_ascending" "is_ascending" s_is_ascending f fd) (z_all : mg "all" = none) (z_zip : mg "zip" = none) : FnG P w K mg base CX0 1 f fd ["items"] (sp_is_ascending K) :=
  (okw_is_ascending F z_all z_zip).imp (imp_W fun x h => pf_is_ascending x)
/-! are_intervals -/
def W_are_intervals (value : (List (Int × Int))) (limit : Int) (Q : Bool → Prop) : Prop :=
  ((((!true) || (decide (limit < ((value).length : Int)))) = true →
  Q false) ∧ (((!true) || (decide (limit < ((value).length : Int)))) = false →
  Q ((((value.map fun (x_ : (Int × Int)) => (M_is_interval x_))).all id) && (M_is_ascending value))))
abbrev spw_are_intervals (K : Fg) : Sp := spW K (fun x : ((List (Int × Int)) × Int) => [(eSq eP) x.1, eI x.2]) eB (fun (x : ((List (Int × Int)) × Int)) Q => W_are_intervals x.1 x.2 Q)
theorem okw_are_intervals {f : Ad} {fd : FuncData} (F : Fun K "are_intervals" "are_intervals" s_are_intervals f fd) (C_is_ascending : Cal P w K mg base 1 "is_ascending" ["items"] (sp_is_ascending K)) (C_is_interval : Cal P w K mg base 3 "is_interval" ["value"] (sp_is_interval K)) (z_all : mg "all" = none) (z_isinstance : mg "isinstance" = none) (z_tuple : mg "tuple" = none) (z_len : mg "len" = none) : FnG P w K mg base CX0 4 f fd ["value", "limit"] (spw_are_intervals K) := by
  obtain ⟨f_is_ascending, fd_is_ascending, G_is_ascending, k_is_ascending, b_is_ascending, m_is_ascending⟩ := C_is_ascending
  obtain ⟨f_is_interval, fd_is_interval, G_is_interval, k_is_interval, b_is_interval, m_is_interval⟩ := C_is_interval
  refine okP F sc_are_intervals (fun _ => rfl) (fun cdv A outer s H E hr hgd => ?_)
  have hu65 := rm65 hr
  refine ⟨_, (pss_cons (ps_if (PW.pt (pw_or (pt_not (pt_val (pe_callB (call_isiK1 (K := K) rfl) (by rfl) z_isinstance (by decide +kernel) (pa_cons (pv 0) (pa_cons (pe_bltn (v := V.ty "tuple") (u := Value.type "tuple") (by rfl) z_tuple (by decide +kernel) rfl) pa_nil))))) (pw_or1 (pt_cmpR op_gt (pe_callB (call_lenK K rfl) (by rfl) z_len (by decide +kernel) (pa_cons (pv 0) pa_nil)) (pv 1) (nomark _))))) (pss_cons (ps_ret pe_bl)
      pss_nil) pss_nil)
      (pss_cons (ps_ret (pe_and (pe_callB (cr_allK K rfl rfl) (by rfl) z_all (by decide +kernel) (pa_cons (pe_lc (own := [("item", 2)]) (tt := tYes) rfl sc_are_intervals.nd (pi_tupK K rfl (pv 0)) (blkOk_by (N := ["value", "limit", "item"]) (sc := defScope s_are_intervals) (by decide +kernel)) (fun _ _ _ _ _ => (pg_name (i := 2) sc_are_intervals.nd rfl (by first | exact Or.inl rfl | exact Or.inr rfl))) (fun _ _ _ _ _ => pts_nil) (fun _ _ _ _ _ => (pe_callG G_is_interval (hr.mono (by decide)) hgd (by rfl) m_is_interval k_is_interval b_is_interval .nil pass0 (pa_cons (pv 2) pa_nil)))) pa_nil)) (pe_one (pe_callG G_is_ascending (hr.mono (by decide)) hgd (by rfl) m_is_ascending k_is_ascending b_is_ascending .nil pass0 (pa_cons (pv 0) pa_nil)))))
      pss_nil)), fun x hp => ?_⟩
  obtain ⟨⟨value, limit⟩, Q⟩ := x
  have h : W_are_intervals value limit Q := hp
  unfold W_are_intervals at h
  show SJ K _ [.da ((eSq eP) value), .da (eI limit), .un] _
  refine sj_seq ?_
  refine sj_if (et_or (et_not (et_B (ev_isi (d := (eSq eP) value) (b := true) (T := "tuple") "tuple" (ev_var rfl) rfl))) fun (hb2_ : (!true) = false) => (et_test (ev_op (ev_is (d1 := .int ((value).length : Int)) (ev_cb (eva_cons (ev_var rfl) eva_nil) rdl_lenT) (by simp only [List.length_map])) (ev_var rfl) rd_ib))) (fun (hc1_ : ((!true) || (decide (limit < ((value).length : Int)))) = true) => ?_) (fun (hc1_ : ((!true) || (decide (limit < ((value).length : Int)))) = false) => ?_)
  · have h := h.1 hc1_
    refine sj_seq ?_
    exact sj_ret ev_bl ⟨false, rfl, h⟩
  · have h := h.2 hc1_
    refine sj_next ?_
    show SJ K _ [.da ((eSq eP) value), .da (eI limit), .un] _
    refine sj_seq ?_
    exact sj_ret (ev_andV (ev_cb (eva_cons (ev_ofL (el_lc0 (en' := eB) (fun (x_ : (Int × Int)) => (M_is_interval x_)) (di_tup (ds := List.map eP value) (ev_var rfl)) rfl (fun x_ hx_ => gj_name (ev_is (d1 := eB (M_is_interval x_)) (ev_call x_ (eva_cons (ev_var rfl) eva_nil) trivial) rfl)))) eva_nil) rdl_all) fun (hb4_ : (((value.map fun (x_ : (Int × Int)) => (M_is_interval x_))).all id) = true) => (ev_is (d1 := eB (M_is_ascending value)) (ev_call value (eva_cons (ev_var rfl) eva_nil) trivial) rfl)) ⟨((((value.map fun (x_ : (Int × Int)) => (M_is_interval x_))).all id) && (M_is_ascending value)), rfl, h⟩
def M_are_intervals (value : (List (Int × Int))) (limit : Int) : Bool := (if ((!true) || (decide (limit < ((value).length : Int)))) = true then false else ((((value.map fun (x_ : (Int × Int)) => (M_is_interval x_))).all id) && (M_is_ascending value)))
theorem pf_are_intervals (value : (List (Int × Int))) (limit : Int) : W_are_intervals value limit fun r => r = M_are_intervals value limit := by
  unfold W_are_intervals
  refine ⟨fun (hc1_ : _ = true) => ?_, fun (hc1_ : _ = false) => ?_⟩
  · skip
    show _ = M_are_intervals value limit
    unfold M_are_intervals
    rw [if_pos hc1_]
  · skip
    show _ = M_are_intervals value limit
    unfold M_are_intervals
    rw [if_neg (bnf hc1_)]
abbrev sp_are_intervals (K : Fg) : Sp := spP K (fun x : ((List (Int × Int)) × Int) => [(eSq eP) x.1, eI x.2]) (fun x => True) (fun x d => d = eB (M_are_intervals x.1 x.2))
theorem ok_are_intervals {f : Ad} {fd : FuncData} (F : Fun K "are_intervals" "are_intervals" s_are_intervals f fd) (C_is_ascending : Cal P w K mg base 1 "is_ascending" ["items"] (sp_is_ascending K)) (C_is_interval : Cal P w K mg base 3 "is_interval" ["value"] (sp_is_interval K)) (z_all : mg "all" = none) (z_isinstance : mg "isinstance" = none) (z_tuple : mg "tuple" = none) (z_len : mg "len" = none) : FnG P w K mg base CX0 4 f fd ["value", "limit"] (sp_are_intervals K) :=
  (okw_are_intervals F C_is_ascending C_is_interval z_all z_isinstance z_tuple z_len).imp (imp_W fun x h => pf_are_intervals x.1 x.2)
/-! is_pieces -/
def W_is_pieces (value : (List (Int × Int))) (Q : Bool → Prop) : Prop :=
  Q (M_are_intervals value (30 : Int))
abbrev spw_is_pieces (K : Fg) : Sp := spW K (fun x : (List (Int × Int)) => [(eSq eP) x]) eB (fun (x : (List (Int × Int))) Q => W_is_pieces x Q)
theorem okw_is_pieces {f : Ad} {fd : FuncData} (F : Fun K "is_pieces" "is_pieces" s_is_pieces f fd) (C_are_intervals : Cal P w K mg base 4 "are_intervals" ["value", "limit"] (sp_are_intervals K)) {tk_MAX_PIECES : PySem.Tok} (g_MAX_PIECES : mg "MAX_PIECES" = some (.int 30 tk_MAX_PIECES)) : FnG P w K mg base CX0 5 f fd ["value"] (spw_is_pieces K) := by
  obtain ⟨f_are_intervals, fd_are_intervals, G_are_intervals, k_are_intervals, b_are_intervals, m_are_intervals⟩ := C_are_intervals
  refine okP F sc_is_pieces (fun _ => rfl) (fun cdv A outer s H E hr hgd => ?_)
  have hu65 := rm65 hr
  refine ⟨_, (pss_cons (ps_ret (pe_callG G_are_intervals (hr.mono (by decide)) hgd (by rfl) m_are_intervals k_are_intervals b_are_intervals .nil pass0 (pa_cons (pv 0) (pa_cons (pe_glob (v := V.int 30) (by rfl) g_MAX_PIECES ⟨_, rfl⟩) pa_nil))))
      pss_nil), fun x hp => ?_⟩
  obtain ⟨value, Q⟩ := x
  have h : W_is_pieces value Q := hp
  unfold W_is_pieces at h
  show SJ K _ [.da ((eSq eP) value)] _
  refine sj_seq ?_
  exact sj_ret (ev_is (d1 := eB (M_are_intervals value (30 : Int))) (ev_call (value, (30 : Int)) (eva_cons (ev_var rfl) (eva_cons ev_int eva_nil)) trivial) rfl) ⟨(M_are_intervals value (30 : Int)), rfl, h⟩
def M_is_pieces (l : List (Int × Int)) : Bool := M_are_intervals l 30
theorem pf_is_pieces (l : List (Int × Int)) : W_is_pieces l fun r => r = M_is_pieces l := rfl
theorem is_asc {l : List (Int × Int)} (h : l.Pairwise LtP) : M_is_ascending l = true := by
  unfold M_is_ascending
  rw [zip_asc ltPB_tr]
  exact h.imp fun q => decide_eq_true q
theorem is_pcs {l : List (Int × Int)} (h : Asc l) (h2 : l.length ≤ 30) : M_is_pieces l = true := by
  unfold M_is_pieces M_are_intervals
  rw [decide_eq_false (by omega : ¬ (30 : Int) < (l.length : Int)), if_neg (by decide), Bool.and_eq_true]
  refine ⟨?_, is_asc h.1⟩
  rw [List.all_map, List.all_eq_true]
  exact fun z hz => is_iv.mpr (h.2 z hz)
abbrev sp_is_pieces (K : Fg) : Sp := spP K (fun x : (List (Int × Int)) => [(eSq eP) x]) (fun x => True) (fun x d => d = eB (M_is_pieces x))
theorem ok_is_pieces {f : Ad} {fd : FuncData} (F : Fun K "is_pieces" "is_pieces" s_is_pieces f fd) (C_are_intervals : Cal P w K mg base 4 "are_intervals" ["value", "limit"] (sp_are_intervals K)) {tk_MAX_PIECES : PySem.Tok} (g_MAX_PIECES : mg "MAX_PIECES" = some (.int 30 tk_MAX_PIECES)) : FnG P w K mg base CX0 5 f fd ["value"] (sp_is_pieces K) :=
  (okw_is_pieces F C_are_intervals g_MAX_PIECES).imp (imp_W fun x h => pf_is_pieces x)
/-! Plan___init__ -/
def W_Plan___init__ (targets : (List (Int × Int))) (pieces : (List (Int × Int))) (Q : PlS → Prop) : Prop :=
  (P_targets_error targets) ∧
  ∀ error : (Option ((Option Int) × PySem.Str)), error = (M_targets_error targets) →
  (((!(isNo ((eO (eT2 (eO eI) eS)) error))) = true →
  ∀ error1 : ((Option Int) × PySem.Str), error = some error1 →
  False) ∧ ((!(isNo ((eO (eT2 (eO eI) eS)) error))) = false →
  (((!(M_is_pieces pieces)) = true →
  False) ∧ ((!(M_is_pieces pieces)) = false →
  Q ([(targets, pieces)], ([] : (List (PySem.Str × (Int × Int)))), false)))))
abbrev spw_Plan___init__ (K : Fg) : Sp := spMkW K (fun x : ((List (Int × Int)) × (List (Int × Int))) => [(eSq eP) x.1, (eSq eP) x.2]) (fun x Q => W_Plan___init__ x.1 x.2 Q)
theorem okw_Plan___init__ {f : Ad} {fd : FuncData} (F : Fun K "__init__" "Plan.__init__" s_Plan___init__ f fd) {O_Plan : Ad} (T_Plan : ObT K mg "Plan" O_Plan ["states", "standing", "applying"]) (C_targets_error : Cal P w K mg base 4 "targets_error" ["value"] (sp_targets_error K)) (C_is_pieces : Cal P w K mg base 5 "is_pieces" ["value"] (sp_is_pieces K)) : FnG P w K mg base CX0 6 f fd ["self", "targets", "pieces"] (spw_Plan___init__ K) := by
  obtain ⟨f_targets_error, fd_targets_error, G_targets_error, k_targets_error, b_targets_error, m_targets_error⟩ := C_targets_error
  obtain ⟨f_is_pieces, fd_is_pieces, G_is_pieces, k_is_pieces, b_is_pieces, m_is_pieces⟩ := C_is_pieces
  refine okR spMkW_re F sc_Plan___init__ (fun _ => rfl) (fun cdv A outer s H E hr hgd => ?_)
  have hu65 := rm65 hr
  refine ⟨_, (pss_cons (ps_set (i := 3) sc_Plan___init__.nd rfl (by first | exact Or.inl rfl | exact Or.inr rfl) (pe_callG G_targets_error (hr.mono (by decide)) hgd (by rfl) m_targets_error k_targets_error b_targets_error .nil pass0 (pa_cons (pv 1) pa_nil)))
      (pss_cons (ps_if (pt_cmpR op_notN (pv 3) pe_non (nomark _)) (pss_cons ps_never
      pss_nil) pss_nil)
      (pss_cons (ps_if (pt_not (pt_val (pe_callG G_is_pieces (hr.mono (by decide)) hgd (by rfl) m_is_pieces k_is_pieces b_is_pieces .nil pass0 (pa_cons (pv 2) pa_nil)))) (pss_cons ps_never
      pss_nil) pss_nil)
      (pss_cons (ps_fld (pv 0) (pe_lst (pa_cons (pe_tup (pa_cons (pv 1) (pa_cons (pv 2) pa_nil))) pa_nil)) rfl)
      (pss_cons (ps_fld (pv 0) (pe_lst pa_nil) rfl)
      (pss_cons (ps_fld (pv 0) pe_bl rfl)
      pss_nil)))))), fun x p hp => ?_⟩
  obtain ⟨⟨targets, pieces⟩, Q⟩ := x
  have h : W_Plan___init__ targets pieces Q := hp
  unfold W_Plan___init__ at h
  show SJ K _ [.ow (plR 0 false [] [] p p p), .da ((eSq eP) targets), .da ((eSq eP) pieces), .un] _
  refine sj_seq ?_
  obtain ⟨g1_, h⟩ := h
  refine sj_set (ev_is (d1 := (eO (eT2 (eO eI) eS)) (M_targets_error targets)) (ev_call targets (eva_cons (ev_var rfl) eva_nil) g1_) rfl) ?_
  show SJ K _ [.ow (plR 0 false [] [] p p p), .da ((eSq eP) targets), .da ((eSq eP) pieces), .da ((eO (eT2 (eO eI) eS)) (M_targets_error targets))] _
  refine sj_nameV ((M_targets_error targets) : (Option ((Option Int) × PySem.Str))) (fun error => [.ow (plR 0 false [] [] p p p), .da ((eSq eP) targets), .da ((eSq eP) pieces), .da ((eO (eT2 (eO eI) eS)) error)]) (fun error errorh => ?_)
  have h := h error errorh
  refine sj_seq ?_
  refine sj_if (et_test (ev_op (ev_var rfl) ev_non rd_notN)) (fun (hc1_ : (!(isNo ((eO (eT2 (eO eI) eS)) error))) = true) => ?_) (fun (hc1_ : (!(isNo ((eO (eT2 (eO eI) eS)) error))) = false) => ?_)
  · have h := h.1 hc1_
    obtain ⟨error1, error1e⟩ := not_no' (f := (eT2 (eO eI) eS)) hc1_
    refine sj_ctx (G' := [.ow (plR 0 false [] [] p p p), .da ((eSq eP) targets), .da ((eSq eP) pieces), .da ((eT2 (eO eI) eS) error1)]) (by rw [error1e]; rfl) ?_
    have h := h error1 error1e
    refine sj_seq ?_
    exact sj_never h
  · have h := h.2 hc1_
    refine sj_next ?_
    show SJ K _ [.ow (plR 0 false [] [] p p p), .da ((eSq eP) targets), .da ((eSq eP) pieces), .da ((eO (eT2 (eO eI) eS)) error)] _
    refine sj_seq ?_
    refine sj_if (et_not (et_B (ev_is (d1 := eB (M_is_pieces pieces)) (ev_call pieces (eva_cons (ev_var rfl) eva_nil) trivial) rfl))) (fun (hc2_ : (!(M_is_pieces pieces)) = true) => ?_) (fun (hc2_ : (!(M_is_pieces pieces)) = false) => ?_)
    · have h := h.1 hc2_
      refine sj_seq ?_
      exact sj_never h
    · have h := h.2 hc2_
      refine sj_next ?_
      show SJ K _ [.ow (plR 0 false [] [] p p p), .da ((eSq eP) targets), .da ((eSq eP) pieces), .da ((eO (eT2 (eO eI) eS)) error)] _
      refine sj_seq ?_
      refine sj_plS0 (plC T_Plan) rfl (ds := List.map (eT2 (eSq eP) (eSq eP)) ([(targets, pieces)])) (el_lst (eva_cons (ev_tup (eva_cons (ev_var rfl) (eva_cons (ev_var rfl) eva_nil))) eva_nil)) (fun q => ?_)
      show SJ K _ [.ow (plR 1 false (List.map eSS ([(targets, pieces)])) [] q p p), .da ((eSq eP) targets), .da ((eSq eP) pieces), .da ((eO (eT2 (eO eI) eS)) error)] _
      refine sj_seq ?_
      refine sj_plS1 (plC T_Plan) rfl (ds := List.map (eT2 eS eP) ([] : (List (PySem.Str × (Int × Int))))) (el_lst eva_nil) (fun r => ?_)
      show SJ K _ [.ow (plR 2 false (List.map eSS ([(targets, pieces)])) (List.map eEd ([] : (List (PySem.Str × (Int × Int))))) q r p), .da ((eSq eP) targets), .da ((eSq eP) pieces), .da ((eO (eT2 (eO eI) eS)) error)] _
      refine sj_seq ?_
      refine sj_plS2 (.inl rfl) (plC T_Plan) rfl ev_bl ?_
      show SJ K _ [.ow (plR 3 false (List.map eSS ([(targets, pieces)])) (List.map eEd ([] : (List (PySem.Str × (Int × Int))))) q r p), .da ((eSq eP) targets), .da ((eSq eP) pieces), .da ((eO (eT2 (eO eI) eS)) error)] _
      refine sj_next ?_
      exact ⟨_, ⟨rfl, ([(targets, pieces)], ([] : (List (PySem.Str × (Int × Int)))), false), h, q, r, rfl⟩, rfl⟩
def M_Plan___init__ (t p : List (Int × Int)) : PlS := newF (t, p)
def P_Plan___init__ (t p : List (Int × Int)) : Prop := StP (t, p)
theorem pf_Plan___init__ (t p : List (Int × Int)) (h : P_Plan___init__ t p) : W_Plan___init__ t p fun r => r = M_Plan___init__ t p := by
  obtain ⟨h1, h2, h3⟩ := h
  refine ⟨h1, fun e he => ⟨fun hc => ?_, fun _ => ⟨fun hc => ?_, fun _ => rfl⟩⟩⟩
  · have he : e = none := he
    rw [he] at hc
    exact absurd hc (by decide)
  · rw [is_pcs h2 h3] at hc
    exact absurd hc (by decide)
abbrev sp_Plan___init__ (K : Fg) : Sp := spMk K (fun x : ((List (Int × Int)) × (List (Int × Int))) => [(eSq eP) x.1, (eSq eP) x.2]) (fun x => P_Plan___init__ x.1 x.2) (fun x => M_Plan___init__ x.1 x.2)
theorem ok_Plan___init__ {f : Ad} {fd : FuncData} (F : Fun K "__init__" "Plan.__init__" s_Plan___init__ f fd) {O_Plan : Ad} (T_Plan : ObT K mg "Plan" O_Plan ["states", "standing", "applying"]) (C_targets_error : Cal P w K mg base 4 "targets_error" ["value"] (sp_targets_error K)) (C_is_pieces : Cal P w K mg base 5 "is_pieces" ["value"] (sp_is_pieces K)) : FnG P w K mg base CX0 6 f fd ["self", "targets", "pieces"] (sp_Plan___init__ K) :=
  (okw_Plan___init__ F T_Plan C_targets_error C_is_pieces).imp (imp_MkW fun x h => pf_Plan___init__ x.1 x.2 h)
/-! Plan_state_at -/
def W_Plan_state_at (self : ((List ((List (Int × Int)) × (List (Int × Int)))) × (List (PySem.Str × (Int × Int))) × Bool)) (version : (Option Int)) (Q : ((List (Int × Int)) × (List (Int × Int))) → Prop) : Prop :=
  (((isNo ((eO eI) version)) = true →
  (Ix self.1 (-(1 : Int))) ∧
  Q (atL self.1 (-(1 : Int)))) ∧ ((isNo ((eO eI) version)) = false →
  ∀ version1 : Int, version = some version1 →
  ((((!true) || (false || (!((decide ((0 : Int) ≤ version1)) && (decide (version1 ≤ ((self.2.1).length : Int))))))) = true →
  False) ∧ (((!true) || (false || (!((decide ((0 : Int) ≤ version1)) && (decide (version1 ≤ ((self.2.1).length : Int))))))) = false →
  (Ix self.1 version1) ∧
  Q (atL self.1 version1)))))
abbrev spw_Plan_state_at (K : Fg) : Sp := spW K (fun x : (((List ((List (Int × Int)) × (List (Int × Int)))) × (List (PySem.Str × (Int × Int))) × Bool) × (Option Int)) => [eOb_Plan x.1, (eO eI) x.2]) (eT2 (eSq eP) (eSq eP)) (fun (x : (((List ((List (Int × Int)) × (List (Int × Int)))) × (List (PySem.Str × (Int × Int))) × Bool) × (Option Int))) Q => W_Plan_state_at x.1 x.2 Q)
theorem okw_Plan_state_at {f : Ad} {fd : FuncData} (F : Fun K "state_at" "Plan.state_at" s_Plan_state_at f fd) {O_Plan : Ad} (T_Plan : ObT K mg "Plan" O_Plan ["states", "standing", "applying"]) (z_isinstance : mg "isinstance" = none) (z_bool : mg "bool" = none) (z_int : mg "int" = none) (z_len : mg "len" = none) : FnG P w K mg base CX0 1 f fd ["self", "version"] (spw_Plan_state_at K) := by
  refine okP F sc_Plan_state_at (fun _ => rfl) (fun cdv A outer s H E hr hgd => ?_)
  have hu65 := rm65 hr
  refine ⟨_, (pss_cons (ps_if (pt_cmpR op_isN (pv 1) pe_non (nomark _)) (pss_cons (ps_ret (pe_ix (ix_listK K rfl) (pe_fldK K rfl (pv 0) rfl) (pe_un un_neg pe_int) (fun _ _ => rfl)))
      pss_nil) pss_nil)
      (pss_cons (ps_if (PW.pt (pw_or (pt_not (pt_val (pe_callB (call_isiK1 (K := K) rfl) (by rfl) z_isinstance (by decide +kernel) (pa_cons (pv 1) (pa_cons (pe_bltn (v := V.ty "int") (u := Value.type "int") (by rfl) z_int (by decide +kernel) rfl) pa_nil))))) (pw_or (pt_val (pe_callB (call_isiK1 (K := K) rfl) (by rfl) z_isinstance (by decide +kernel) (pa_cons (pv 1) (pa_cons (pe_bltn (v := V.ty "bool") (u := Value.type "bool") (by rfl) z_bool (by decide +kernel) rfl) pa_nil)))) (pw_or1 (pt_not (pt_chain op_le op_le pe_int (pv 1) (pe_callB (call_lenK K rfl) (by rfl) z_len (by decide +kernel) (pa_cons (pe_fldK K rfl (pv 0) rfl) pa_nil)))))))) (pss_cons ps_never
      pss_nil) pss_nil)
      (pss_cons (ps_ret (pe_ix (ix_listK K rfl) (pe_fldK K rfl (pv 0) rfl) (pv 1) (fun _ _ => rfl)))
      pss_nil))), fun x hp => ?_⟩
  obtain ⟨⟨self, version⟩, Q⟩ := x
  have h : W_Plan_state_at self version Q := hp
  unfold W_Plan_state_at at h
  show SJ K _ [.da (eOb_Plan self), .da ((eO eI) version)] _
  refine sj_seq ?_
  refine sj_if (et_test (ev_op (ev_var rfl) ev_non rd_isN)) (fun (hc1_ : (isNo ((eO eI) version)) = true) => ?_) (fun (hc1_ : (isNo ((eO eI) version)) = false) => ?_)
  · have h := h.1 hc1_
    refine sj_seq ?_
    obtain ⟨g1_, h⟩ := h
    exact sj_ret (ev_op (ev_fld (f := "states") (d := (eLs (eT2 (eSq eP) (eSq eP))) self.1) (ns := ["states", "standing", "applying"]) (ds := [(eLs (eT2 (eSq eP) (eSq eP))) self.1, (eLs (eT2 eS eP)) self.2.1, eB self.2.2]) (ev_var rfl) T_Plan.ns T_Plan.cl (T_Plan.nf (f := "states") (by decide +kernel)) (by kernel_rfl!)) (ev_un ev_int rd_neg) (rd_ixL (at_ok (eT2 (eSq eP) (eSq eP)) (xs := self.1) (i := (-(1 : Int))) g1_.1 g1_.2))) ⟨(atL self.1 (-(1 : Int))), rfl, h⟩
  · have h := h.2 hc1_
    obtain ⟨version1, version1e⟩ := not_no (f := eI) hc1_
    refine sj_ctx (G' := [.da (eOb_Plan self), .da (eI version1)]) (by rw [version1e]; rfl) ?_
    have h := h version1 version1e
    refine sj_next ?_
    show SJ K _ [.da (eOb_Plan self), .da (eI version1)] _
    refine sj_seq ?_
    refine sj_if (et_or (et_not (et_B (ev_isi (d := eI version1) (b := true) (T := "int") "int" (ev_var rfl) rfl))) fun (hb3_ : (!true) = false) => (et_or (et_B (ev_isi (d := eI version1) (b := false) (T := "bool") "int" (ev_var rfl) rfl)) fun (hb4_ : false = false) => (et_not (et_test (ev_chain ev_int (ev_var rfl) (fun hch1_ => (ev_is (d1 := .int ((self.2.1).length : Int)) (ev_cb (eva_cons (ev_fld (f := "standing") (d := (eLs (eT2 eS eP)) self.2.1) (ns := ["states", "standing", "applying"]) (ds := [(eLs (eT2 (eSq eP) (eSq eP))) self.1, (eLs (eT2 eS eP)) self.2.1, eB self.2.2]) (ev_var rfl) T_Plan.ns T_Plan.cl (T_Plan.nf (f := "standing") (by decide +kernel)) (by kernel_rfl!)) eva_nil) rdl_lenL) (by simp only [List.length_map]))) rd_ib (fun hch1_ => rd_ib)))))) (fun (hc2_ : ((!true) || (false || (!((decide ((0 : Int) ≤ version1)) && (decide (version1 ≤ ((self.2.1).length : Int))))))) = true) => ?_) (fun (hc2_ : ((!true) || (false || (!((decide ((0 : Int) ≤ version1)) && (decide (version1 ≤ ((self.2.1).length : Int))))))) = false) => ?_)
    · have h := h.1 hc2_
      refine sj_seq ?_
      exact sj_never h
    · have h := h.2 hc2_
      refine sj_next ?_
      show SJ K _ [.da (eOb_Plan self), .da (eI version1)] _
      refine sj_seq ?_
      obtain ⟨g2_, h⟩ := h
      exact sj_ret (ev_op (ev_fld (f := "states") (d := (eLs (eT2 (eSq eP) (eSq eP))) self.1) (ns := ["states", "standing", "applying"]) (ds := [(eLs (eT2 (eSq eP) (eSq eP))) self.1, (eLs (eT2 eS eP)) self.2.1, eB self.2.2]) (ev_var rfl) T_Plan.ns T_Plan.cl (T_Plan.nf (f := "states") (by decide +kernel)) (by kernel_rfl!)) (ev_var rfl) (rd_ixL (at_ok (eT2 (eSq eP) (eSq eP)) (xs := self.1) (i := version1) g2_.1 g2_.2))) ⟨(atL self.1 version1), rfl, h⟩
def M_Plan_state_at (s : ((List ((List (Int × Int)) × (List (Int × Int)))) × (List (PySem.Str × (Int × Int))) × Bool)) (v : Option Int) : (List (Int × Int)) × (List (Int × Int)) := match v with
  | none => atL s.1 (-1)
  | some i => atL s.1 i
def P_Plan_state_at (s : ((List ((List (Int × Int)) × (List (Int × Int)))) × (List (PySem.Str × (Int × Int))) × Bool)) (v : Option Int) : Prop := s.1 ≠ [] ∧ ∀ i, v = some i → (0 ≤ i ∧ i ≤ (s.2.1.length : Int)) ∧ i < (s.1.length : Int)
theorem pf_Plan_state_at (s : ((List ((List (Int × Int)) × (List (Int × Int)))) × (List (PySem.Str × (Int × Int))) × Bool)) (v : Option Int) (h : P_Plan_state_at s v) : W_Plan_state_at s v fun r => r = M_Plan_state_at s v := by
  obtain ⟨h1, h2⟩ := h
  have := List.length_pos_iff.mpr h1
  refine ⟨fun hc => ⟨⟨by omega, by omega⟩, ?_⟩, fun hc i hi => ?_⟩
  · cases v with
    | none => rfl
    | some i => exact absurd hc (by show ¬ (false = true); decide)
  · obtain ⟨⟨a, b⟩, c⟩ := h2 i hi
    rw [decide_eq_true a, decide_eq_true b]
    refine ⟨fun z => absurd z (by decide), fun _ => ⟨ix_of a c, ?_⟩⟩
    rw [hi]; rfl
abbrev sp_Plan_state_at (K : Fg) : Sp := spP K (fun x : (((List ((List (Int × Int)) × (List (Int × Int)))) × (List (PySem.Str × (Int × Int))) × Bool) × (Option Int)) => [eOb_Plan x.1, (eO eI) x.2]) (fun x => P_Plan_state_at x.1 x.2) (fun x d => d = (eT2 (eSq eP) (eSq eP)) (M_Plan_state_at x.1 x.2))
theorem ok_Plan_state_at {f : Ad} {fd : FuncData} (F : Fun K "state_at" "Plan.state_at" s_Plan_state_at f fd) {O_Plan : Ad} (T_Plan : ObT K mg "Plan" O_Plan ["states", "standing", "applying"]) (z_isinstance : mg "isinstance" = none) (z_bool : mg "bool" = none) (z_int : mg "int" = none) (z_len : mg "len" = none) : FnG P w K mg base CX0 1 f fd ["self", "version"] (sp_Plan_state_at K) :=
  (okw_Plan_state_at F T_Plan z_isinstance z_bool z_int z_len).imp (imp_W fun x h => pf_Plan_state_at x.1 x.2 h)
/-! Plan_targets -/
def W_Plan_targets (self : ((List ((List (Int × Int)) × (List (Int × Int)))) × (List (PySem.Str × (Int × Int))) × Bool)) (version : (Option Int)) (Q : (List (Int × Int)) → Prop) : Prop :=
  (P_Plan_state_at self version) ∧
  Q ((M_Plan_state_at self version).1)
abbrev spw_Plan_targets (K : Fg) : Sp := spW K (fun x : (((List ((List (Int × Int)) × (List (Int × Int)))) × (List (PySem.Str × (Int × Int))) × Bool) × (Option Int)) => [eOb_Plan x.1, (eO eI) x.2]) (eSq eP) (fun (x : (((List ((List (Int × Int)) × (List (Int × Int)))) × (List (PySem.Str × (Int × Int))) × Bool) × (Option Int))) Q => W_Plan_targets x.1 x.2 Q)
theorem okw_Plan_targets {f : Ad} {fd : FuncData} (F : FunD K "targets" "Plan.targets" (defArgs s_Plan_targets) (defBody s_Plan_targets) (defScope s_Plan_targets) [] [("version", V.non)] f fd) {O_Plan : Ad} (T_Plan : ObT K mg "Plan" O_Plan ["states", "standing", "applying"]) (C_Plan_state_at : CalM P w K mg base 1 O_Plan "state_at" ["self", "version"] (sp_Plan_state_at K)) : FnG P w K mg base CX0 2 f fd ["self", "version"] (spw_Plan_targets K) := by
  obtain ⟨f_Plan_state_at, fd_Plan_state_at, G_Plan_state_at, m_Plan_state_at, b_Plan_state_at⟩ := C_Plan_state_at
  refine okPD F sc_Plan_targets (fun _ => rfl) (fun cdv A outer s H E hr hgd => ?_)
  have hu65 := rm65 hr
  refine ⟨_, (pss_cons (ps_ret (pe_ix (ix_tupK K rfl) (pe_methG (pv 0) T_Plan.cl m_Plan_state_at G_Plan_state_at (hr.mono (by decide)) hgd b_Plan_state_at .nil pass0 (pa_cons (pv 1) pa_nil)) pe_int (fun _ _ => rfl)))
      pss_nil), fun x hp => ?_⟩
  obtain ⟨⟨self, version⟩, Q⟩ := x
  have h : W_Plan_targets self version Q := hp
  unfold W_Plan_targets at h
  show SJ K _ [.da (eOb_Plan self), .da ((eO eI) version)] _
  refine sj_seq ?_
  obtain ⟨g1_, h⟩ := h
  exact sj_ret (ev_op (ev_is (d1 := (eT2 (eSq eP) (eSq eP)) (M_Plan_state_at self version)) (ev_meth (self, version) (ev_var rfl) T_Plan.ns (by decide +kernel) (eva_cons (ev_var rfl) eva_nil) rfl g1_) rfl) ev_int (rd_ixT rfl)) ⟨((M_Plan_state_at self version).1), rfl, h⟩
def M_Plan_targets (self : ((List ((List (Int × Int)) × (List (Int × Int)))) × (List (PySem.Str × (Int × Int))) × Bool)) (version : (Option Int)) : (List (Int × Int)) := ((M_Plan_state_at self version).1)
def P_Plan_targets (self : ((List ((List (Int × Int)) × (List (Int × Int)))) × (List (PySem.Str × (Int × Int))) × Bool)) (version : (Option Int)) : Prop := W_Plan_targets self version fun _ => True
theorem pf_Plan_targets (self : ((List ((List (Int × Int)) × (List (Int × Int)))) × (List (PySem.Str × (Int × Int))) × Bool)) (version : (Option Int)) (h : P_Plan_targets self version) : W_Plan_targets self version fun r => r = M_Plan_targets self version := by
  unfold P_Plan_targets at h
  unfold W_Plan_targets at h ⊢
  obtain ⟨g1_, h⟩ := h
  refine ⟨g1_, ?_⟩
  show _ = M_Plan_targets self version
  unfold M_Plan_targets
  rfl
abbrev sp_Plan_targets (K : Fg) : Sp := spP K (fun x : (((List ((List (Int × Int)) × (List (Int × Int)))) × (List (PySem.Str × (Int × Int))) × Bool) × (Option Int)) => [eOb_Plan x.1, (eO eI) x.2]) (fun x => P_Plan_targets x.1 x.2) (fun x d => d = (eSq eP) (M_Plan_targets x.1 x.2))
theorem ok_Plan_targets {f : Ad} {fd : FuncData} (F : FunD K "targets" "Plan.targets" (defArgs s_Plan_targets) (defBody s_Plan_targets) (defScope s_Plan_targets) [] [("version", V.non)] f fd) {O_Plan : Ad} (T_Plan : ObT K mg "Plan" O_Plan ["states", "standing", "applying"]) (C_Plan_state_at : CalM P w K mg base 1 O_Plan "state_at" ["self", "version"] (sp_Plan_state_at K)) : FnG P w K mg base CX0 2 f fd ["self", "version"] (sp_Plan_targets K) :=
  (okw_Plan_targets F T_Plan C_Plan_state_at).imp (imp_W fun x h => pf_Plan_targets x.1 x.2 h)
/-! Plan___eq__ -/
def W_Plan___eq__ (self : ((List ((List (Int × Int)) × (List (Int × Int)))) × (List (PySem.Str × (Int × Int))) × Bool)) (other : ((List ((List (Int × Int)) × (List (Int × Int)))) × (List (PySem.Str × (Int × Int))) × Bool)) (Q : Bool → Prop) : Prop :=
  (((!true) = true →
  Q false) ∧ ((!true) = false →
  (Ix self.1 (-(1 : Int))) ∧
  (Ix other.1 (-(1 : Int))) ∧
  Q (decide ((atL self.1 (-(1 : Int))) = (atL other.1 (-(1 : Int)))))))
abbrev spw_Plan___eq__ (K : Fg) : Sp := spW K (fun x : (((List ((List (Int × Int)) × (List (Int × Int)))) × (List (PySem.Str × (Int × Int))) × Bool) × ((List ((List (Int × Int)) × (List (Int × Int)))) × (List (PySem.Str × (Int × Int))) × Bool)) => [eOb_Plan x.1, eOb_Plan x.2]) eB (fun (x : (((List ((List (Int × Int)) × (List (Int × Int)))) × (List (PySem.Str × (Int × Int))) × Bool) × ((List ((List (Int × Int)) × (List (Int × Int)))) × (List (PySem.Str × (Int × Int))) × Bool))) Q => W_Plan___eq__ x.1 x.2 Q)
theorem okw_Plan___eq__ {f : Ad} {fd : FuncData} (F : Fun K "__eq__" "Plan.__eq__" s_Plan___eq__ f fd) {O_Plan : Ad} (T_Plan : ObT K mg "Plan" O_Plan ["states", "standing", "applying"]) (I_Plan : InsC K O_Plan) (C_Plan___init__ : CalMk P w K mg base 6 O_Plan ["self", "targets", "pieces"] (sp_Plan___init__ K)) (z_isinstance : mg "isinstance" = none) : FnG P w K mg base CX0 8 f fd ["self", "other"] (spw_Plan___eq__ K) := by
  obtain ⟨f_Plan___init__, fd_Plan___init__, G_Plan___init__, mk_Plan___init__, b_Plan___init__⟩ := C_Plan___init__
  refine okP F sc_Plan___eq__ (fun _ => rfl) (fun cdv A outer s H E hr hgd => ?_)
  have hu65 := rm65 hr
  refine ⟨_, (pss_cons (ps_if (pt_not (pt_val (pe_callB (call_isC I_Plan) (by rfl) z_isinstance (by decide +kernel) (pa_cons (pv 1) (pa_cons (pe_glob (v := .ref O_Plan) rfl T_Plan.mgC rfl) pa_nil))))) (pss_cons (ps_ret pe_bl)
      pss_nil) pss_nil)
      (pss_cons (ps_ret (pe_cmpR (op_eqK K rfl hr.units) (pe_ix (ix_listK K rfl) (pe_fldK K rfl (pv 0) rfl) (pe_un un_neg pe_int) (fun _ _ => rfl)) (pe_ix (ix_listK K rfl) (pe_fldK K rfl (pv 1) rfl) (pe_un un_neg pe_int) (fun _ _ => rfl)) (nomark _)))
      pss_nil)), fun x hp => ?_⟩
  obtain ⟨⟨self, other⟩, Q⟩ := x
  have h : W_Plan___eq__ self other Q := hp
  unfold W_Plan___eq__ at h
  show SJ K _ [.da (eOb_Plan self), .da (eOb_Plan other)] _
  refine sj_seq ?_
  refine sj_if (et_not (et_B (ev_isC (ev_var rfl) T_Plan.ns))) (fun (hc1_ : (!true) = true) => ?_) (fun (hc1_ : (!true) = false) => ?_)
  · have h := h.1 hc1_
    refine sj_seq ?_
    exact sj_ret ev_bl ⟨false, rfl, h⟩
  · have h := h.2 hc1_
    refine sj_next ?_
    show SJ K _ [.da (eOb_Plan self), .da (eOb_Plan other)] _
    refine sj_seq ?_
    obtain ⟨g1_, g2_, h⟩ := h
    exact sj_ret (ev_op (ev_op (ev_fld (f := "states") (d := (eLs (eT2 (eSq eP) (eSq eP))) self.1) (ns := ["states", "standing", "applying"]) (ds := [(eLs (eT2 (eSq eP) (eSq eP))) self.1, (eLs (eT2 eS eP)) self.2.1, eB self.2.2]) (ev_var rfl) T_Plan.ns T_Plan.cl (T_Plan.nf (f := "states") (by decide +kernel)) (by kernel_rfl!)) (ev_un ev_int rd_neg) (rd_ixL (at_ok (eT2 (eSq eP) (eSq eP)) (xs := self.1) (i := (-(1 : Int))) g1_.1 g1_.2))) (ev_op (ev_fld (f := "states") (d := (eLs (eT2 (eSq eP) (eSq eP))) other.1) (ns := ["states", "standing", "applying"]) (ds := [(eLs (eT2 (eSq eP) (eSq eP))) other.1, (eLs (eT2 eS eP)) other.2.1, eB other.2.2]) (ev_var rfl) T_Plan.ns T_Plan.cl (T_Plan.nf (f := "states") (by decide +kernel)) (by kernel_rfl!)) (ev_un ev_int rd_neg) (rd_ixL (at_ok (eT2 (eSq eP) (eSq eP)) (xs := other.1) (i := (-(1 : Int))) g2_.1 g2_.2))) (rd_eqT (x := (atL self.1 (-(1 : Int)))) (y := (atL other.1 (-(1 : Int)))) (pl_T2 (pl_Sq (pl_T2 pl_I pl_I)) (pl_Sq (pl_T2 pl_I pl_I))) (eq_T2 (eq_Sq (eq_T2 eq_I eq_I)) (eq_Sq (eq_T2 eq_I eq_I))))) ⟨(decide ((atL self.1 (-(1 : Int))) = (atL other.1 (-(1 : Int))))), rfl, h⟩
def M_Plan___eq__ (self : ((List ((List (Int × Int)) × (List (Int × Int)))) × (List (PySem.Str × (Int × Int))) × Bool)) (other : ((List ((List (Int × Int)) × (List (Int × Int)))) × (List (PySem.Str × (Int × Int))) × Bool)) : Bool := (if (!true) = true then false else (decide ((atL self.1 (-(1 : Int))) = (atL other.1 (-(1 : Int))))))
def P_Plan___eq__ (self : ((List ((List (Int × Int)) × (List (Int × Int)))) × (List (PySem.Str × (Int × Int))) × Bool)) (other : ((List ((List (Int × Int)) × (List (Int × Int)))) × (List (PySem.Str × (Int × Int))) × Bool)) : Prop := W_Plan___eq__ self other fun _ => True
theorem pf_Plan___eq__ (self : ((List ((List (Int × Int)) × (List (Int × Int)))) × (List (PySem.Str × (Int × Int))) × Bool)) (other : ((List ((List (Int × Int)) × (List (Int × Int)))) × (List (PySem.Str × (Int × Int))) × Bool)) (h : P_Plan___eq__ self other) : W_Plan___eq__ self other fun r => r = M_Plan___eq__ self other := by
  unfold P_Plan___eq__ at h
  unfold W_Plan___eq__ at h ⊢
  refine ⟨fun (hc1_ : _ = true) => ?_, fun (hc1_ : _ = false) => ?_⟩
  · have h := h.1 hc1_
    show _ = M_Plan___eq__ self other
    unfold M_Plan___eq__
    rw [if_pos hc1_]
  · have h := h.2 hc1_
    obtain ⟨g1_, g2_, h⟩ := h
    refine ⟨g1_, g2_, ?_⟩
    show _ = M_Plan___eq__ self other
    unfold M_Plan___eq__
    rw [if_neg (bnf hc1_)]
abbrev sp_Plan___eq__ (K : Fg) : Sp := spP K (fun x : (((List ((List (Int × Int)) × (List (Int × Int)))) × (List (PySem.Str × (Int × Int))) × Bool) × ((List ((List (Int × Int)) × (List (Int × Int)))) × (List (PySem.Str × (Int × Int))) × Bool)) => [eOb_Plan x.1, eOb_Plan x.2]) (fun x => P_Plan___eq__ x.1 x.2) (fun x d => d = eB (M_Plan___eq__ x.1 x.2))
theorem ok_Plan___eq__ {f : Ad} {fd : FuncData} (F : Fun K "__eq__" "Plan.__eq__" s_Plan___eq__ f fd) {O_Plan : Ad} (T_Plan : ObT K mg "Plan" O_Plan ["states", "standing", "applying"]) (I_Plan : InsC K O_Plan) (C_Plan___init__ : CalMk P w K mg base 6 O_Plan ["self", "targets", "pieces"] (sp_Plan___init__ K)) (z_isinstance : mg "isinstance" = none) : FnG P w K mg base CX0 8 f fd ["self", "other"] (sp_Plan___eq__ K) :=
  (okw_Plan___eq__ F T_Plan I_Plan C_Plan___init__ z_isinstance).imp (imp_W fun x h => pf_Plan___eq__ x.1 x.2 h)
/-! Plan___len__ -/
def W_Plan___len__ (self : ((List ((List (Int × Int)) × (List (Int × Int)))) × (List (PySem.Str × (Int × Int))) × Bool)) (Q : Int → Prop) : Prop :=
  Q ((self.2.1).length : Int)
abbrev spw_Plan___len__ (K : Fg) : Sp := spW K (fun x : ((List ((List (Int × Int)) × (List (Int × Int)))) × (List (PySem.Str × (Int × Int))) × Bool) => [eOb_Plan x]) eI (fun (x : ((List ((List (Int × Int)) × (List (Int × Int)))) × (List (PySem.Str × (Int × Int))) × Bool)) Q => W_Plan___len__ x Q)
theorem okw_Plan___len__ {f : Ad} {fd : FuncData} (F : Fun K "__len__" "Plan.__len__" s_Plan___len__ f fd) {O_Plan : Ad} (T_Plan : ObT K mg "Plan" O_Plan ["states", "standing", "applying"]) (z_len : mg "len" = none) : FnG P w K mg base CX0 1 f fd ["self"] (spw_Plan___len__ K) := by
  refine okP F sc_Plan___len__ (fun _ => rfl) (fun cdv A outer s H E hr hgd => ?_)
  have hu65 := rm65 hr
  refine ⟨_, (pss_cons (ps_ret (pe_callB (call_lenK K rfl) (by rfl) z_len (by decide +kernel) (pa_cons (pe_fldK K rfl (pv 0) rfl) pa_nil)))
      pss_nil), fun x hp => ?_⟩
  obtain ⟨self, Q⟩ := x
  have h : W_Plan___len__ self Q := hp
  unfold W_Plan___len__ at h
  show SJ K _ [.da (eOb_Plan self)] _
  refine sj_seq ?_
  exact sj_ret (ev_is (d1 := .int ((self.2.1).length : Int)) (ev_cb (eva_cons (ev_fld (f := "standing") (d := (eLs (eT2 eS eP)) self.2.1) (ns := ["states", "standing", "applying"]) (ds := [(eLs (eT2 (eSq eP) (eSq eP))) self.1, (eLs (eT2 eS eP)) self.2.1, eB self.2.2]) (ev_var rfl) T_Plan.ns T_Plan.cl (T_Plan.nf (f := "standing") (by decide +kernel)) (by kernel_rfl!)) eva_nil) rdl_lenL) (by simp only [List.length_map])) ⟨((self.2.1).length : Int), rfl, h⟩
def M_Plan___len__ (self : ((List ((List (Int × Int)) × (List (Int × Int)))) × (List (PySem.Str × (Int × Int))) × Bool)) : Int := ((self.2.1).length : Int)
theorem pf_Plan___len__ (self : ((List ((List (Int × Int)) × (List (Int × Int)))) × (List (PySem.Str × (Int × Int))) × Bool)) : W_Plan___len__ self fun r => r = M_Plan___len__ self := by
  unfold W_Plan___len__
  show _ = M_Plan___len__ self
  unfold M_Plan___len__
  rfl
abbrev sp_Plan___len__ (K : Fg) : Sp := spP K (fun x : ((List ((List (Int × Int)) × (List (Int × Int)))) × (List (PySem.Str × (Int × Int))) × Bool) => [eOb_Plan x]) (fun x => True) (fun x d => d = eI (M_Plan___len__ x))
theorem ok_Plan___len__ {f : Ad} {fd : FuncData} (F : Fun K "__len__" "Plan.__len__" s_Plan___len__ f fd) {O_Plan : Ad} (T_Plan : ObT K mg "Plan" O_Plan ["states", "standing", "applying"]) (z_len : mg "len" = none) : FnG P w K mg base CX0 1 f fd ["self"] (sp_Plan___len__ K) :=
  (okw_Plan___len__ F T_Plan z_len).imp (imp_W fun x h => pf_Plan___len__ x)
/-! Shell___init__ -/
abbrev sp_Shell___init__ (K : Fg) : Sp := spShI K
theorem ok_Shell___init__ {f : Ad} {fd : FuncData} (F : Fun K "__init__" "Shell.__init__" s_Shell___init__ f fd) {O_Plan : Ad} (T_Plan : ObT K mg "Plan" O_Plan ["states", "standing", "applying"]) {O_Shell : Ad} (T_Shell : ObT K mg "Shell" O_Shell ["plan"]) : FnG P w K mg base CX0 1 f fd ["self", "plan"] (sp_Shell___init__ K) := by
  refine okG F sc_Shell___init__ (fun vs H Q E h => by obtain ⟨_, _, _, _, rfl, _⟩ := h; rfl) (fun cdv A outer s H vs Q E hr hgd h => ⟨_, pss_one (ps_fld (pv 0) (pv 1) rfl), sp_shI (shC T_Shell) h⟩)
/-! error_name -/
def W_error_name (cn0_ : PySem.Str) (fd0_ : List (PySem.Str × PyData)) (Q : PySem.Str → Prop) : Prop :=
  ∀ words : (List PySem.Str), words = [(PySem.Str.ofString "BadInterval"), (PySem.Str.ofString "Busy"), (PySem.Str.ofString "Duplicate"), (PySem.Str.ofString "NothingToUndo"), (PySem.Str.ofString "TooMany"), (PySem.Str.ofString "TooManyEdits"), (PySem.Str.ofString "TooWide")] →
  ∀ flags : (List Bool), flags = [(sub_BadInterval cn0_), (sub_Busy cn0_), (sub_Duplicate cn0_)] →
  ((flags).length + ([(sub_NothingToUndo cn0_), (sub_TooMany cn0_), (sub_TooManyEdits cn0_)]).length ≤ 100000) ∧
  ∀ flags1 : (List Bool), flags1 = (flags ++ [(sub_NothingToUndo cn0_), (sub_TooMany cn0_), (sub_TooManyEdits cn0_)]) →
  ((flags1).length + ([(sub_TooWide cn0_), (sub_Unknown cn0_)]).length ≤ 100000) ∧
  ∀ flags2 : (List Bool), flags2 = (flags1 ++ [(sub_TooWide cn0_), (sub_Unknown cn0_)]) →
  ((words).length + ([(PySem.Str.ofString "Unknown")]).length ≤ 100000) ∧
  forW (fun (t : (PySem.Str × Bool)) (s_ : Unit) nx_ bk_ =>
  ((t.2 = true →
  Q t.1) ∧ (t.2 = false →
  nx_ ()))) (((words ++ [(PySem.Str.ofString "Unknown")])).zip flags2) () (fun (_ : Unit) => False)
def M_error_name (cn : PySem.Str) (fd : List (PySem.Str × PyData)) : PySem.Str := cn
def P_error_name (cn : PySem.Str) (fd : List (PySem.Str × PyData)) : Prop := cn ∈ ERR
theorem pf_error_name (cn : PySem.Str) (fd : List (PySem.Str × PyData)) (h : P_error_name cn fd) : W_error_name cn fd fun r => r = M_error_name cn fd := by
  intro ws hws f0 hf0
  subst hws
  subst hf0
  refine ⟨(by show 3 + 3 ≤ 100000; decide), fun f1 hf1 => ?_⟩
  subst hf1
  refine ⟨(by show 6 + 2 ≤ 100000; decide), fun f2 hf2 => ?_⟩
  subst hf2
  refine ⟨(by show 7 + 1 ≤ 100000; decide), flag_loop (Q := fun r => r = M_error_name cn fd) (w := cn) rfl ?_⟩
  unfold P_error_name ERR at h
  simp only [List.mem_cons, List.not_mem_nil, or_false] at h
  rcases h with e | e | e | e | e | e <;> (subst e; decide +kernel)
abbrev sp_error_name (K : Fg) : Ad → Value → Option Ad → Sp := spE K (fun cn fd => cn ∈ ERR ∧ P_error_name cn fd) (fun cn fd y => ∃ r, y = eS r ∧ r = M_error_name cn fd)
theorem ok_error_name {f : Ad} {fd : FuncData} (F : Fun K "error_name" "error_name" s_error_name f fd) {X_BadInterval : Ad} (g_BadInterval : mg "BadInterval" = some (.ref X_BadInterval)) {X_Busy : Ad} (g_Busy : mg "Busy" = some (.ref X_Busy)) {X_Duplicate : Ad} (g_Duplicate : mg "Duplicate" = some (.ref X_Duplicate)) {X_NothingToUndo : Ad} (g_NothingToUndo : mg "NothingToUndo" = some (.ref X_NothingToUndo)) {X_TooMany : Ad} (g_TooMany : mg "TooMany" = some (.ref X_TooMany)) {X_TooManyEdits : Ad} (g_TooManyEdits : mg "TooManyEdits" = some (.ref X_TooManyEdits)) {X_TooWide : Ad} (g_TooWide : mg "TooWide" = some (.ref X_TooWide)) {X_Unknown : Ad} (g_Unknown : mg "Unknown" = some (.ref X_Unknown)) (xc_ : ∀ (cn : PySem.Str) (C : Ad), cn ∈ ERR → PySem.W.nsIn K mainGlobals cn = some (some (.ref C)) → ExcC K C) (xi_BadInterval : ∀ (cn : PySem.Str) (C : Ad), cn ∈ ERR → PySem.W.nsIn K mainGlobals cn = some (some (.ref C)) → PySem.W.kitOne K (.ref C) (.ref X_BadInterval) = some (sub_BadInterval cn)) (xi_Busy : ∀ (cn : PySem.Str) (C : Ad), cn ∈ ERR → PySem.W.nsIn K mainGlobals cn = some (some (.ref C)) → PySem.W.kitOne K (.ref C) (.ref X_Busy) = some (sub_Busy cn)) (xi_Duplicate : ∀ (cn : PySem.Str) (C : Ad), cn ∈ ERR → PySem.W.nsIn K mainGlobals cn = some (some (.ref C)) → PySem.W.kitOne K (.ref C) (.ref X_Duplicate) = some (sub_Duplicate cn)) (xi_NothingToUndo : ∀ (cn : PySem.Str) (C : Ad), cn ∈ ERR → PySem.W.nsIn K mainGlobals cn = some (some (.ref C)) → PySem.W.kitOne K (.ref C) (.ref X_NothingToUndo) = some (sub_NothingToUndo cn)) (xi_TooMany : ∀ (cn : PySem.Str) (C : Ad), cn ∈ ERR → PySem.W.nsIn K mainGlobals cn = some (some (.ref C)) → PySem.W.kitOne K (.ref C) (.ref X_TooMany) = some (sub_TooMany cn)) (xi_TooManyEdits : ∀ (cn : PySem.Str) (C : Ad), cn ∈ ERR → PySem.W.nsIn K mainGlobals cn = some (some (.ref C)) → PySem.W.kitOne K (.ref C) (.ref X_TooManyEdits) = some (sub_TooManyEdits cn)) (xi_TooWide : ∀ (cn : PySem.Str) (C : Ad), cn ∈ ERR → PySem.W.nsIn K mainGlobals cn = some (some (.ref C)) → PySem.W.kitOne K (.ref C) (.ref X_TooWide) = some (sub_TooWide cn)) (xi_Unknown : ∀ (cn : PySem.Str) (C : Ad), cn ∈ ERR → PySem.W.nsIn K mainGlobals cn = some (some (.ref C)) → PySem.W.kitOne K (.ref C) (.ref X_Unknown) = some (sub_Unknown cn)) (z_zip : mg "zip" = none) (z_isinstance : mg "isinstance" = none) : FnE P w K mg base CX0 1 f fd ["error"] (sp_error_name K) := by
  refine okE F sc_error_name (fun cdv A outer s H E hr hgd => ?_)
  refine ⟨fun a cls d => _, fun a oe cls d hz hf => (pss_cons (ps_set (i := 1) sc_error_name.nd rfl (by first | exact Or.inl rfl | exact Or.inr rfl) (pe_lst (pa_cons pe_str (pa_cons pe_str (pa_cons pe_str (pa_cons pe_str (pa_cons pe_str (pa_cons pe_str (pa_cons pe_str pa_nil)))))))))
      (pss_cons (ps_set (i := 2) sc_error_name.nd rfl (by first | exact Or.inl rfl | exact Or.inr rfl) (pe_lst (pa_cons (pe_callB (call_isU hz hf) (by rfl) z_isinstance (by decide +kernel) (pa_cons (pv 0) (pa_cons (pe_glob (v := .ref X_BadInterval) rfl g_BadInterval rfl) pa_nil))) (pa_cons (pe_callB (call_isU hz hf) (by rfl) z_isinstance (by decide +kernel) (pa_cons (pv 0) (pa_cons (pe_glob (v := .ref X_Busy) rfl g_Busy rfl) pa_nil))) (pa_cons (pe_callB (call_isU hz hf) (by rfl) z_isinstance (by decide +kernel) (pa_cons (pv 0) (pa_cons (pe_glob (v := .ref X_Duplicate) rfl g_Duplicate rfl) pa_nil))) pa_nil)))))
      (pss_cons (ps_set (i := 2) sc_error_name.nd rfl (by first | exact Or.inl rfl | exact Or.inr rfl) (pe_op (op_catLK K rfl) (pv 2) (pe_lst (pa_cons (pe_callB (call_isU hz hf) (by rfl) z_isinstance (by decide +kernel) (pa_cons (pv 0) (pa_cons (pe_glob (v := .ref X_NothingToUndo) rfl g_NothingToUndo rfl) pa_nil))) (pa_cons (pe_callB (call_isU hz hf) (by rfl) z_isinstance (by decide +kernel) (pa_cons (pv 0) (pa_cons (pe_glob (v := .ref X_TooMany) rfl g_TooMany rfl) pa_nil))) (pa_cons (pe_callB (call_isU hz hf) (by rfl) z_isinstance (by decide +kernel) (pa_cons (pv 0) (pa_cons (pe_glob (v := .ref X_TooManyEdits) rfl g_TooManyEdits rfl) pa_nil))) pa_nil))))))
      (pss_cons (ps_set (i := 2) sc_error_name.nd rfl (by first | exact Or.inl rfl | exact Or.inr rfl) (pe_op (op_catLK K rfl) (pv 2) (pe_lst (pa_cons (pe_callB (call_isU hz hf) (by rfl) z_isinstance (by decide +kernel) (pa_cons (pv 0) (pa_cons (pe_glob (v := .ref X_TooWide) rfl g_TooWide rfl) pa_nil))) (pa_cons (pe_callB (call_isU hz hf) (by rfl) z_isinstance (by decide +kernel) (pa_cons (pv 0) (pa_cons (pe_glob (v := .ref X_Unknown) rfl g_Unknown rfl) pa_nil))) pa_nil)))))
      (pss_cons (L2H.ps_forH PassesOwn.never (hot_of hz hf) (pi_zipH (K := K) rfl (by rfl) z_zip (pa_cons (pe_op (op_catLK K rfl) (pv 1) (pe_lst (pa_cons pe_str pa_nil))) (pa_cons (pv 2) pa_nil))) (pg_tupH (K := K) 2 rfl (hot_of hz hf) (pgs_cons (pg_name (i := 3) sc_error_name.nd rfl (by first | exact Or.inl rfl | exact Or.inr rfl)) (pgs_cons (pg_name (i := 4) sc_error_name.nd rfl (by first | exact Or.inl rfl | exact Or.inr rfl)) pgs_nil)) rfl rfl)
      (pss_cons (ps_if (pt_val (pv 4)) (pss_cons (ps_ret (pv 3))
      pss_nil) pss_nil)
      pss_nil))
      (pss_cons (ps_ret pe_str)
      pss_nil)))))), fun cn0_ fd0_ C0_ a0_ d0_ hp hC0_ hd0_ => ?_⟩
  have hm0_ := hp.1
  have h : W_error_name cn0_ fd0_ (fun r => r = M_error_name cn0_ fd0_) := pf_error_name cn0_ fd0_ hp.2
  unfold W_error_name at h
  show SJ K _ [.ow (exR a0_ d0_ fd0_), .un, .un, .un, .un] _
  refine sj_seq ?_
  refine sj_set (ev_ofL (el_lst (eva_cons ev_str (eva_cons ev_str (eva_cons ev_str (eva_cons ev_str (eva_cons ev_str (eva_cons ev_str (eva_cons ev_str eva_nil))))))))) ?_
  show SJ K _ [.ow (exR a0_ d0_ fd0_), .da ((eLs eS) ([(PySem.Str.ofString "BadInterval"), (PySem.Str.ofString "Busy"), (PySem.Str.ofString "Duplicate"), (PySem.Str.ofString "NothingToUndo"), (PySem.Str.ofString "TooMany"), (PySem.Str.ofString "TooManyEdits"), (PySem.Str.ofString "TooWide")])), .un, .un, .un] _
  refine sj_nameV ([(PySem.Str.ofString "BadInterval"), (PySem.Str.ofString "Busy"), (PySem.Str.ofString "Duplicate"), (PySem.Str.ofString "NothingToUndo"), (PySem.Str.ofString "TooMany"), (PySem.Str.ofString "TooManyEdits"), (PySem.Str.ofString "TooWide")] : (List PySem.Str)) (fun words => [.ow (exR a0_ d0_ fd0_), .da ((eLs eS) words), .un, .un, .un]) (fun words wordsh => ?_)
  have h := h words wordsh
  refine sj_seq ?_
  refine sj_set (ev_ofL (el_lst (eva_cons (ev_isU rfl (xc_ cn0_ C0_ hm0_ hC0_) (fun u hu => hu) (xi_BadInterval cn0_ C0_ hm0_ hC0_)) (eva_cons (ev_isU rfl (xc_ cn0_ C0_ hm0_ hC0_) (fun u hu => hu) (xi_Busy cn0_ C0_ hm0_ hC0_)) (eva_cons (ev_isU rfl (xc_ cn0_ C0_ hm0_ hC0_) (fun u hu => hu) (xi_Duplicate cn0_ C0_ hm0_ hC0_)) eva_nil))))) ?_
  show SJ K _ [.ow (exR a0_ d0_ fd0_), .da ((eLs eS) words), .da ((eLs eB) ([(sub_BadInterval cn0_), (sub_Busy cn0_), (sub_Duplicate cn0_)])), .un, .un] _
  refine sj_nameV ([(sub_BadInterval cn0_), (sub_Busy cn0_), (sub_Duplicate cn0_)] : (List Bool)) (fun flags => [.ow (exR a0_ d0_ fd0_), .da ((eLs eS) words), .da ((eLs eB) flags), .un, .un]) (fun flags flagsh => ?_)
  have h := h flags flagsh
  refine sj_seq ?_
  obtain ⟨g1_, h⟩ := h
  refine sj_set (ev_ofL (el_is (es := List.map eB (flags ++ [(sub_NothingToUndo cn0_), (sub_TooMany cn0_), (sub_TooManyEdits cn0_)])) (el_op (ev_var rfl) (ev_ofL (el_lst (eva_cons (ev_isU rfl (xc_ cn0_ C0_ hm0_ hC0_) (fun u hu => hu) (xi_NothingToUndo cn0_ C0_ hm0_ hC0_)) (eva_cons (ev_isU rfl (xc_ cn0_ C0_ hm0_ hC0_) (fun u hu => hu) (xi_TooMany cn0_ C0_ hm0_ hC0_)) (eva_cons (ev_isU rfl (xc_ cn0_ C0_ hm0_ hC0_) (fun u hu => hu) (xi_TooManyEdits cn0_ C0_ hm0_ hC0_)) eva_nil))))) (rl_cat (ds := List.map eB flags) (es := List.map eB ([(sub_NothingToUndo cn0_), (sub_TooMany cn0_), (sub_TooManyEdits cn0_)])) (by simpa only [List.length_map] using g1_))) (List.map_append ..).symm)) ?_
  show SJ K _ [.ow (exR a0_ d0_ fd0_), .da ((eLs eS) words), .da ((eLs eB) (flags ++ [(sub_NothingToUndo cn0_), (sub_TooMany cn0_), (sub_TooManyEdits cn0_)])), .un, .un] _
  refine sj_nameV ((flags ++ [(sub_NothingToUndo cn0_), (sub_TooMany cn0_), (sub_TooManyEdits cn0_)]) : (List Bool)) (fun flags1 => [.ow (exR a0_ d0_ fd0_), .da ((eLs eS) words), .da ((eLs eB) flags1), .un, .un]) (fun flags1 flags1h => ?_)
  have h := h flags1 flags1h
  refine sj_seq ?_
  obtain ⟨g2_, h⟩ := h
  refine sj_set (ev_ofL (el_is (es := List.map eB (flags1 ++ [(sub_TooWide cn0_), (sub_Unknown cn0_)])) (el_op (ev_var rfl) (ev_ofL (el_lst (eva_cons (ev_isU rfl (xc_ cn0_ C0_ hm0_ hC0_) (fun u hu => hu) (xi_TooWide cn0_ C0_ hm0_ hC0_)) (eva_cons (ev_isU rfl (xc_ cn0_ C0_ hm0_ hC0_) (fun u hu => hu) (xi_Unknown cn0_ C0_ hm0_ hC0_)) eva_nil)))) (rl_cat (ds := List.map eB flags1) (es := List.map eB ([(sub_TooWide cn0_), (sub_Unknown cn0_)])) (by simpa only [List.length_map] using g2_))) (List.map_append ..).symm)) ?_
  show SJ K _ [.ow (exR a0_ d0_ fd0_), .da ((eLs eS) words), .da ((eLs eB) (flags1 ++ [(sub_TooWide cn0_), (sub_Unknown cn0_)])), .un, .un] _
  refine sj_nameV ((flags1 ++ [(sub_TooWide cn0_), (sub_Unknown cn0_)]) : (List Bool)) (fun flags2 => [.ow (exR a0_ d0_ fd0_), .da ((eLs eS) words), .da ((eLs eB) flags2), .un, .un]) (fun flags2 flags2h => ?_)
  have h := h flags2 flags2h
  refine sj_seq ?_
  obtain ⟨g3_, h⟩ := h
  refine sj_forE (dij_of (di_zipH (xs := (words ++ [(PySem.Str.ofString "Unknown")])) (ys := flags2) (eva_cons (ev_ofL (el_is (es := List.map eS (words ++ [(PySem.Str.ofString "Unknown")])) (el_op (ev_var rfl) (ev_ofL (el_lst (eva_cons ev_str eva_nil))) (rl_cat (ds := List.map eS words) (es := List.map eS ([(PySem.Str.ofString "Unknown")])) (by simpa only [List.length_map] using g3_))) (List.map_append ..).symm)) (eva_cons (ev_var rfl) eva_nil))) (forOk_W (eT2 eS eB) h 0 0 (fun m_ (s_ : Unit) => [.ow (exR a0_ d0_ fd0_), .da ((eLs eS) words), .da ((eLs eB) flags2), .un, .un]) [3, 4] up_un (fun t _ κ_ mm mmh h => ?_) (fun _ mm1 mm1h h => ?_)))
  · skip
    refine gj_tup (gjs_cons (gj_name (gjs_cons (gj_name (gjs_nil ?_)))))
    show SJ K _ [.ow (exR a0_ d0_ fd0_), .da ((eLs eS) words), .da ((eLs eB) flags2), .da (eS t.1), .da (eB t.2)] _
    refine sj_seq ?_
    refine sj_if (et_B (ev_var rfl)) (fun (hc1_ : t.2 = true) => ?_) (fun (hc1_ : t.2 = false) => ?_)
    · have h := h.1 hc1_
      refine sj_seq ?_
      exact sj_ret (ev_var rfl) ⟨t.1, rfl, h⟩
    · have h := h.2 hc1_
      refine sj_next ?_
      refine sj_next ?_
      exact ⟨(), mm, h, (by omega), (.same (.same (.same (.un (.un .nil)))))⟩
  · exact False.elim h
/-! is_number_Z -/
def W_is_number_Z (value : PyData) (low : Int) (high : Int) (Q : Bool → Prop) : Prop :=
  (natZ value = true) ∧
  ((isIntZ value) = true → ((natZ value = true) ∧ ((!(isBolZ value)) = true → isNumZ value = true))) ∧
  Q ((isIntZ value) && ((!(isBolZ value)) && ((decide (low ≤ (intZ value))) && (decide ((intZ value) ≤ high)))))
abbrev spw_is_number_Z (K : Fg) : Sp := spW K (fun x : (PyData × Int × Int) => [eD x.1, eI x.2.1, eI x.2.2]) eB (fun (x : (PyData × Int × Int)) Q => W_is_number_Z x.1 x.2.1 x.2.2 Q)
theorem okw_is_number_Z {f : Ad} {fd : FuncData} (F : Fun K "is_number" "is_number" s_is_number_Z f fd) (z_isinstance : mg "isinstance" = none) (z_int : mg "int" = none) (z_bool : mg "bool" = none) : FnG P w K mg base CX0 1 f fd ["value", "low", "high"] (spw_is_number_Z K) := by
  refine okP F sc_is_number_Z (fun _ => rfl) (fun cdv A outer s H E hr hgd => ?_)
  have hu65 := rm65 hr
  refine ⟨_, (pss_cons (ps_ret (pe_and (pe_callB (call_isiK1 (K := K) rfl) (by rfl) z_isinstance (by decide +kernel) (pa_cons (pv 0) (pa_cons (pe_bltn (v := V.ty "int") (u := Value.type "int") (by rfl) z_int (by decide +kernel) rfl) pa_nil))) (pe_and (pe_not (pe_callB (call_isiK1 (K := K) rfl) (by rfl) z_isinstance (by decide +kernel) (pa_cons (pv 0) (pa_cons (pe_bltn (v := V.ty "bool") (u := Value.type "bool") (by rfl) z_bool (by decide +kernel) rfl) pa_nil)))) (pe_one (pe_chain op_le op_le (pv 1) (pv 0) (pv 2))))))
      pss_nil), fun x hp => ?_⟩
  obtain ⟨⟨value, low, high⟩, Q⟩ := x
  have h : W_is_number_Z value low high Q := hp
  unfold W_is_number_Z at h
  show SJ K _ [.da (eD value), .da (eI low), .da (eI high)] _
  refine sj_seq ?_
  obtain ⟨g1_, g2_, h⟩ := h
  exact sj_ret (ev_andV (ev_isIntZ (ev_var rfl) g1_) fun (hb1_ : (isIntZ value) = true) => (ev_andV (ev_notV (ev_isBolZ (ev_var rfl) ((g2_ hb1_).1))) fun (hb2_ : (!(isBolZ value)) = true) => (ev_chain (ev_var rfl) (ev_is (ev_var rfl) (as_intZ (((g2_ hb1_).2) hb2_))) (fun hch1_ => (ev_var rfl)) rd_ib (fun hch1_ => rd_ib)))) ⟨((isIntZ value) && ((!(isBolZ value)) && ((decide (low ≤ (intZ value))) && (decide ((intZ value) ≤ high))))), rfl, h⟩
def M_is_number_Z (value : PyData) (low : Int) (high : Int) : Bool := ((isIntZ value) && ((!(isBolZ value)) && ((decide (low ≤ (intZ value))) && (decide ((intZ value) ≤ high)))))
def P_is_number_Z (value : PyData) (low : Int) (high : Int) : Prop := W_is_number_Z value low high fun _ => True
theorem pf_is_number_Z (value : PyData) (low : Int) (high : Int) (h : P_is_number_Z value low high) : W_is_number_Z value low high fun r => r = M_is_number_Z value low high := by
  unfold P_is_number_Z at h
  unfold W_is_number_Z at h ⊢
  obtain ⟨g1_, g2_, h⟩ := h
  refine ⟨g1_, g2_, ?_⟩
  show _ = M_is_number_Z value low high
  unfold M_is_number_Z
  rfl
abbrev sp_is_number_Z (K : Fg) : Sp := spP K (fun x : (PyData × Int × Int) => [eD x.1, eI x.2.1, eI x.2.2]) (fun x => P_is_number_Z x.1 x.2.1 x.2.2) (fun x d => d = eB (M_is_number_Z x.1 x.2.1 x.2.2))
theorem ok_is_number_Z {f : Ad} {fd : FuncData} (F : Fun K "is_number" "is_number" s_is_number_Z f fd) (z_isinstance : mg "isinstance" = none) (z_int : mg "int" = none) (z_bool : mg "bool" = none) : FnG P w K mg base CX0 1 f fd ["value", "low", "high"] (sp_is_number_Z K) :=
  (okw_is_number_Z F z_isinstance z_int z_bool).imp (imp_W fun x h => pf_is_number_Z x.1 x.2.1 x.2.2 h)
/-! is_position_Z -/
def W_is_position_Z (value : PyData) (Q : Bool → Prop) : Prop :=
  (P_is_number_Z value (0 : Int) (1000000000000 : Int)) ∧
  Q (M_is_number_Z value (0 : Int) (1000000000000 : Int))
abbrev spw_is_position_Z (K : Fg) : Sp := spW K (fun x : PyData => [eD x]) eB (fun (x : PyData) Q => W_is_position_Z x Q)
theorem okw_is_position_Z {f : Ad} {fd : FuncData} (F : Fun K "is_position" "is_position" s_is_position_Z f fd) (C_is_number_Z : Cal P w K mg base 1 "is_number" ["value", "low", "high"] (sp_is_number_Z K)) {tk_LAST_POSITION : PySem.Tok} (g_LAST_POSITION : mg "LAST_POSITION" = some (.int 1000000000000 tk_LAST_POSITION)) : FnG P w K mg base CX0 2 f fd ["value"] (spw_is_position_Z K) := by
  obtain ⟨f_is_number_Z, fd_is_number_Z, G_is_number_Z, k_is_number_Z, b_is_number_Z, m_is_number_Z⟩ := C_is_number_Z
  refine okP F sc_is_position_Z (fun _ => rfl) (fun cdv A outer s H E hr hgd => ?_)
  have hu65 := rm65 hr
  refine ⟨_, (pss_cons (ps_ret (pe_callG G_is_number_Z (hr.mono (by decide)) hgd (by rfl) m_is_number_Z k_is_number_Z b_is_number_Z .nil pass0 (pa_cons (pv 0) (pa_cons pe_int (pa_cons (pe_glob (v := V.int 1000000000000) (by rfl) g_LAST_POSITION ⟨_, rfl⟩) pa_nil)))))
      pss_nil), fun x hp => ?_⟩
  obtain ⟨value, Q⟩ := x
  have h : W_is_position_Z value Q := hp
  unfold W_is_position_Z at h
  show SJ K _ [.da (eD value)] _
  refine sj_seq ?_
  obtain ⟨g1_, h⟩ := h
  exact sj_ret (ev_is (d1 := eB (M_is_number_Z value (0 : Int) (1000000000000 : Int))) (ev_call (value, (0 : Int), (1000000000000 : Int)) (eva_cons (ev_var rfl) (eva_cons ev_int (eva_cons ev_int eva_nil))) g1_) rfl) ⟨(M_is_number_Z value (0 : Int) (1000000000000 : Int)), rfl, h⟩
def M_is_position_Z (value : PyData) : Bool := (M_is_number_Z value (0 : Int) (1000000000000 : Int))
def P_is_position_Z (value : PyData) : Prop := W_is_position_Z value fun _ => True
theorem pf_is_position_Z (value : PyData) (h : P_is_position_Z value) : W_is_position_Z value fun r => r = M_is_position_Z value := by
  unfold P_is_position_Z at h
  unfold W_is_position_Z at h ⊢
  obtain ⟨g1_, h⟩ := h
  refine ⟨g1_, ?_⟩
  show _ = M_is_position_Z value
  unfold M_is_position_Z
  rfl
abbrev sp_is_position_Z (K : Fg) : Sp := spP K (fun x : PyData => [eD x]) (fun x => P_is_position_Z x) (fun x d => d = eB (M_is_position_Z x))
theorem ok_is_position_Z {f : Ad} {fd : FuncData} (F : Fun K "is_position" "is_position" s_is_position_Z f fd) (C_is_number_Z : Cal P w K mg base 1 "is_number" ["value", "low", "high"] (sp_is_number_Z K)) {tk_LAST_POSITION : PySem.Tok} (g_LAST_POSITION : mg "LAST_POSITION" = some (.int 1000000000000 tk_LAST_POSITION)) : FnG P w K mg base CX0 2 f fd ["value"] (sp_is_position_Z K) :=
  (okw_is_position_Z F C_is_number_Z g_LAST_POSITION).imp (imp_W fun x h => pf_is_position_Z x h)
/-! is_interval_Z -/
def W_is_interval_Z (value : PyData) (Q : Bool → Prop) : Prop :=
  (natZ value = true) ∧
  ((!(isTupZ value)) = false → isTupZ value = true) ∧
  ((((!(isTupZ value)) || (!(decide ((((itemsZ value)).length : Int) = (2 : Int))))) = true →
  Q false) ∧ (((!(isTupZ value)) || (!(decide ((((itemsZ value)).length : Int) = (2 : Int))))) = false →
  (isTupZ value = true) ∧
  (Ix (itemsZ value) (0 : Int)) ∧
  (P_is_position_Z (atL (itemsZ value) (0 : Int))) ∧
  ((M_is_position_Z (atL (itemsZ value) (0 : Int))) = true → ((isTupZ value = true) ∧ (Ix (itemsZ value) (1 : Int)) ∧ (P_is_position_Z (atL (itemsZ value) (1 : Int))) ∧ ((M_is_position_Z (atL (itemsZ value) (1 : Int))) = true → ((isTupZ value = true) ∧ (Ix (itemsZ value) (0 : Int)) ∧ (isNumZ (atL (itemsZ value) (0 : Int)) = true) ∧ (Ix (itemsZ value) (1 : Int)) ∧ (isNumZ (atL (itemsZ value) (1 : Int)) = true))))) ∧
  Q ((M_is_position_Z (atL (itemsZ value) (0 : Int))) && ((M_is_position_Z (atL (itemsZ value) (1 : Int))) && (decide ((intZ (atL (itemsZ value) (0 : Int))) ≤ (intZ (atL (itemsZ value) (1 : Int)))))))))
abbrev spw_is_interval_Z (K : Fg) : Sp := spW K (fun x : PyData => [eD x]) eB (fun (x : PyData) Q => W_is_interval_Z x Q)
theorem okw_is_interval_Z {f : Ad} {fd : FuncData} (F : Fun K "is_interval" "is_interval" s_is_interval_Z f fd) (C_is_position_Z : Cal P w K mg base 2 "is_position" ["value"] (sp_is_position_Z K)) (z_isinstance : mg "isinstance" = none) (z_tuple : mg "tuple" = none) (z_len : mg "len" = none) : FnG P w K mg base CX0 3 f fd ["value"] (spw_is_interval_Z K) := by
  obtain ⟨f_is_position_Z, fd_is_position_Z, G_is_position_Z, k_is_position_Z, b_is_position_Z, m_is_position_Z⟩ := C_is_position_Z
  refine okP F sc_is_interval_Z (fun _ => rfl) (fun cdv A outer s H E hr hgd => ?_)
  have hu65 := rm65 hr
  refine ⟨_, (pss_cons (ps_if (PW.pt (pw_or (pt_not (pt_val (pe_callB (call_isiK1 (K := K) rfl) (by rfl) z_isinstance (by decide +kernel) (pa_cons (pv 0) (pa_cons (pe_bltn (v := V.ty "tuple") (u := Value.type "tuple") (by rfl) z_tuple (by decide +kernel) rfl) pa_nil))))) (pw_or1 (pt_cmpR op_ne (pe_callB (call_lenK K rfl) (by rfl) z_len (by decide +kernel) (pa_cons (pv 0) pa_nil)) pe_int (nomark _))))) (pss_cons (ps_ret pe_bl)
      pss_nil) pss_nil)
      (pss_cons (ps_ret (pe_and (pe_callG G_is_position_Z (hr.mono (by decide)) hgd (by rfl) m_is_position_Z k_is_position_Z b_is_position_Z .nil pass0 (pa_cons (pe_ix (ix_tupK K rfl) (pv 0) pe_int (fun _ _ => rfl)) pa_nil)) (pe_and (pe_callG G_is_position_Z (hr.mono (by decide)) hgd (by rfl) m_is_position_Z k_is_position_Z b_is_position_Z .nil pass0 (pa_cons (pe_ix (ix_tupK K rfl) (pv 0) pe_int (fun _ _ => rfl)) pa_nil)) (pe_one (pe_cmpR op_le (pe_ix (ix_tupK K rfl) (pv 0) pe_int (fun _ _ => rfl)) (pe_ix (ix_tupK K rfl) (pv 0) pe_int (fun _ _ => rfl)) (nomark _))))))
      pss_nil)), fun x hp => ?_⟩
  obtain ⟨value, Q⟩ := x
  have h : W_is_interval_Z value Q := hp
  unfold W_is_interval_Z at h
  show SJ K _ [.da (eD value)] _
  refine sj_seq ?_
  obtain ⟨g1_, g2_, h⟩ := h
  refine sj_if (et_or (et_not (et_B (ev_isTupZ (ev_var rfl) g1_))) fun (hb2_ : (!(isTupZ value)) = false) => (et_test (ev_op (ev_is (d1 := .int (((itemsZ value)).length : Int)) (ev_cb (eva_cons (ev_is (ev_var rfl) (as_tupZ (g2_ hb2_))) eva_nil) rdl_lenT) (by simp only [List.length_map])) ev_int rd_neI))) (fun (hc1_ : ((!(isTupZ value)) || (!(decide ((((itemsZ value)).length : Int) = (2 : Int))))) = true) => ?_) (fun (hc1_ : ((!(isTupZ value)) || (!(decide ((((itemsZ value)).length : Int) = (2 : Int))))) = false) => ?_)
  · have h := h.1 hc1_
    refine sj_seq ?_
    exact sj_ret ev_bl ⟨false, rfl, h⟩
  · have h := h.2 hc1_
    refine sj_next ?_
    show SJ K _ [.da (eD value)] _
    refine sj_seq ?_
    obtain ⟨g3_, g4_, g5_, g6_, h⟩ := h
    exact sj_ret (ev_andV (ev_is (d1 := eB (M_is_position_Z (atL (itemsZ value) (0 : Int)))) (ev_call (atL (itemsZ value) (0 : Int)) (eva_cons (ev_op (ev_is (ev_var rfl) (as_tupZ g3_)) ev_int (rd_ixT (at_ok eD (xs := (itemsZ value)) (i := (0 : Int)) g4_.1 g4_.2))) eva_nil) g5_) rfl) fun (hb3_ : (M_is_position_Z (atL (itemsZ value) (0 : Int))) = true) => (ev_andV (ev_is (d1 := eB (M_is_position_Z (atL (itemsZ value) (1 : Int)))) (ev_call (atL (itemsZ value) (1 : Int)) (eva_cons (ev_op (ev_is (ev_var rfl) (as_tupZ ((g6_ hb3_).1))) ev_int (rd_ixT (at_ok eD (xs := (itemsZ value)) (i := (1 : Int)) ((g6_ hb3_).2.1).1 ((g6_ hb3_).2.1).2))) eva_nil) ((g6_ hb3_).2.2.1)) rfl) fun (hb4_ : (M_is_position_Z (atL (itemsZ value) (1 : Int))) = true) => (ev_op (ev_is (ev_op (ev_is (ev_var rfl) (as_tupZ ((((g6_ hb3_).2.2.2) hb4_).1))) ev_int (rd_ixT (at_ok eD (xs := (itemsZ value)) (i := (0 : Int)) ((((g6_ hb3_).2.2.2) hb4_).2.1).1 ((((g6_ hb3_).2.2.2) hb4_).2.1).2))) (as_intZ ((((g6_ hb3_).2.2.2) hb4_).2.2.1))) (ev_is (ev_op (ev_is (ev_var rfl) (as_tupZ ((((g6_ hb3_).2.2.2) hb4_).1))) ev_int (rd_ixT (at_ok eD (xs := (itemsZ value)) (i := (1 : Int)) ((((g6_ hb3_).2.2.2) hb4_).2.2.2.1).1 ((((g6_ hb3_).2.2.2) hb4_).2.2.2.1).2))) (as_intZ ((((g6_ hb3_).2.2.2) hb4_).2.2.2.2))) rd_ib))) ⟨((M_is_position_Z (atL (itemsZ value) (0 : Int))) && ((M_is_position_Z (atL (itemsZ value) (1 : Int))) && (decide ((intZ (atL (itemsZ value) (0 : Int))) ≤ (intZ (atL (itemsZ value) (1 : Int))))))), rfl, h⟩
def M_is_interval_Z (value : PyData) : Bool := (if ((!(isTupZ value)) || (!(decide ((((itemsZ value)).length : Int) = (2 : Int))))) = true then false else ((M_is_position_Z (atL (itemsZ value) (0 : Int))) && ((M_is_position_Z (atL (itemsZ value) (1 : Int))) && (decide ((intZ (atL (itemsZ value) (0 : Int))) ≤ (intZ (atL (itemsZ value) (1 : Int))))))))
def P_is_interval_Z (value : PyData) : Prop := W_is_interval_Z value fun _ => True
theorem pf_is_interval_Z (value : PyData) (h : P_is_interval_Z value) : W_is_interval_Z value fun r => r = M_is_interval_Z value := by
  unfold P_is_interval_Z at h
  unfold W_is_interval_Z at h ⊢
  obtain ⟨g1_, g2_, h⟩ := h
  refine ⟨g1_, g2_, ?_⟩
  refine ⟨fun (hc1_ : _ = true) => ?_, fun (hc1_ : _ = false) => ?_⟩
  · have h := h.1 hc1_
    show _ = M_is_interval_Z value
    unfold M_is_interval_Z
    rw [if_pos hc1_]
  · have h := h.2 hc1_
    obtain ⟨g3_, g4_, g5_, g6_, h⟩ := h
    refine ⟨g3_, g4_, g5_, g6_, ?_⟩
    show _ = M_is_interval_Z value
    unfold M_is_interval_Z
    rw [if_neg (bnf hc1_)]
abbrev sp_is_interval_Z (K : Fg) : Sp := spP K (fun x : PyData => [eD x]) (fun x => P_is_interval_Z x) (fun x d => d = eB (M_is_interval_Z x))
theorem ok_is_interval_Z {f : Ad} {fd : FuncData} (F : Fun K "is_interval" "is_interval" s_is_interval_Z f fd) (C_is_position_Z : Cal P w K mg base 2 "is_position" ["value"] (sp_is_position_Z K)) (z_isinstance : mg "isinstance" = none) (z_tuple : mg "tuple" = none) (z_len : mg "len" = none) : FnG P w K mg base CX0 3 f fd ["value"] (sp_is_interval_Z K) :=
  (okw_is_interval_Z F C_is_position_Z z_isinstance z_tuple z_len).imp (imp_W fun x h => pf_is_interval_Z x h)
theorem p_number_Z {v : PyData} (lo hi : Int) (n : natZ v = true) : P_is_number_Z v lo hi := ⟨n, fun a => ⟨n, fun b => num_of a b⟩, trivial⟩
theorem p_position_Z {v : PyData} (n : natZ v = true) : P_is_position_Z v := ⟨p_number_Z _ _ n, trivial⟩
theorem p_interval_Z {v : PyData} (n : natZ v = true) : P_is_interval_Z v := by
  refine ⟨n, fun h => tup_not h, fun _ => trivial, fun h => ?_⟩
  obtain ⟨a, b, rfl⟩ := tup2_of h
  obtain ⟨n1, n2⟩ := nat2 n
  refine ⟨rfl, ixz0, p_position_Z n1, fun h1 => ⟨rfl, ixz1, p_position_Z n2, fun h2 => ⟨rfl, ixz0, (numZ_iff.mp h1).1, ixz1, (numZ_iff.mp h2).1⟩⟩, trivial⟩
theorem m_interval_Z (v : PyData) : M_is_interval_Z v = ivZ v := by
  unfold M_is_interval_Z
  split
  · rename_i h; exact (tup2_no h).symm
  · rename_i h
    obtain ⟨a, b, rfl⟩ := tup2_of (Bool.not_eq_true _ ▸ h)
    rfl

/-! parse_number -/
def W_parse_number (word : PySem.Str) (Q : (Option Int) → Prop) : Prop :=
  ((word).length ≤ 16000000) ∧
  ((!((decide ((1 : Int) ≤ ((word).length : Int))) && (decide (((word).length : Int) ≤ (13 : Int))))) = false → (((word).cps.size ≤ 100000) ∧ (∀ x_ ∈ (sgnS word), Sg x_))) ∧
  ((((!((decide ((1 : Int) ≤ ((word).length : Int))) && (decide (((word).length : Int) ≤ (13 : Int))))) || (!((((sgnS word).map fun (x_ : PySem.Str) => (inSg x_ (PySem.Str.ofString "0123456789")))).all id))) = true →
  Q (none : (Option Int))) ∧ (((!((decide ((1 : Int) ≤ ((word).length : Int))) && (decide (((word).length : Int) ≤ (13 : Int))))) || (!((((sgnS word).map fun (x_ : PySem.Str) => (inSg x_ (PySem.Str.ofString "0123456789")))).all id))) = false →
  (IxS word (0 : Int)) ∧
  ((((decide ((sgAt word (0 : Int)) = (PySem.Str.ofString "0"))) && (!(decide (word = (PySem.Str.ofString "0"))))) = true →
  Q (none : (Option Int))) ∧ (((decide ((sgAt word (0 : Int)) = (PySem.Str.ofString "0"))) && (!(decide (word = (PySem.Str.ofString "0"))))) = false →
  (IntS word) ∧
  Q (some (intT word))))))
abbrev spw_parse_number (K : Fg) : Sp := spW K (fun x : PySem.Str => [eS x]) (eO eI) (fun (x : PySem.Str) Q => W_parse_number x Q)
theorem okw_parse_number {f : Ad} {fd : FuncData} (F : Fun K "parse_number" "parse_number" s_parse_number f fd) (z_int : mg "int" = none) (z_all : mg "all" = none) (z_len : mg "len" = none) {tk_LONGEST : PySem.Tok} (g_LONGEST : mg "LONGEST" = some (.int 13 tk_LONGEST)) {tk_DIGITS : PySem.Tok} (g_DIGITS : mg "DIGITS" = some (.str (PySem.Str.ofString "0123456789") tk_DIGITS)) : FnG P w K mg base CX0 1 f fd ["word"] (spw_parse_number K) := by
  refine okP F sc_parse_number (fun _ => rfl) (fun cdv A outer s H E hr hgd => ?_)
  have hu65 := rm65 hr
  refine ⟨_, (pss_cons (ps_if (PW.pt (pw_or (pt_not (pt_chain op_le op_le pe_int (pe_callB call_len_str (by rfl) z_len (by decide +kernel) (pa_cons (pv 0) pa_nil)) (pe_glob (v := V.int 13) (by rfl) g_LONGEST ⟨_, rfl⟩))) (pw_or1 (pt_not (pt_val (pe_callB (cr_allK K rfl rfl) (by rfl) z_all (by decide +kernel) (pa_cons (pe_lc (own := [("sign", 1)]) (tt := tYes) rfl sc_parse_number.nd (pi_str (pv 0)) (blkOk_by (N := ["word", "sign"]) (sc := defScope s_parse_number) (by decide +kernel)) (fun _ _ _ _ _ => (pg_name (i := 1) sc_parse_number.nd rfl (by first | exact Or.inl rfl | exact Or.inr rfl))) (fun _ _ _ _ _ => pts_nil) (fun _ _ _ _ _ => (pe_cmpR L2.op_inS (pv 1) (pe_glob (v := V.str (PySem.Str.ofString "0123456789")) (by rfl) g_DIGITS ⟨_, rfl⟩) rfl))) pa_nil))))))) (pss_cons (ps_ret pe_non)
      pss_nil) pss_nil)
      (pss_cons (ps_if (PW.pt (pw_and (pt_cmpR op_eq (pe_ix ix_str (pv 0) pe_int (fun _ _ => rfl)) pe_str (nomark _)) (pw_and1 (pt_cmpR op_ne (pv 0) pe_str (nomark _))))) (pss_cons (ps_ret pe_non)
      pss_nil) pss_nil)
      (pss_cons (ps_ret (pe_callTy call_int_str (by rfl) z_int (by decide +kernel) (pa_cons (pv 0) pa_nil)))
      pss_nil))), fun x hp => ?_⟩
  obtain ⟨word, Q⟩ := x
  have h : W_parse_number word Q := hp
  unfold W_parse_number at h
  show SJ K _ [.da (eS word), .un] _
  refine sj_seq ?_
  obtain ⟨g1_, g2_, h⟩ := h
  refine sj_if (et_or (et_not (et_test (ev_chain ev_int (ev_cb (eva_cons (ev_var rfl) eva_nil) (rdl_lenS g1_)) (fun hch1_ => ev_int) rd_ib (fun hch1_ => rd_ib)))) fun (hb2_ : (!((decide ((1 : Int) ≤ ((word).length : Int))) && (decide (((word).length : Int) ≤ (13 : Int))))) = false) => (et_not (et_B (ev_cb (eva_cons (ev_ofL (el_lc0 (en' := eB) (fun (x_ : PySem.Str) => (inSg x_ (PySem.Str.ofString "0123456789"))) (di_str (ev_var rfl) ((g2_ hb2_).1)) rfl (fun x_ hx_ => gj_name (ev_op (ev_var rfl) ev_str (rd_inSg (((g2_ hb2_).2) x_ hx_)))))) eva_nil) rdl_all)))) (fun (hc1_ : ((!((decide ((1 : Int) ≤ ((word).length : Int))) && (decide (((word).length : Int) ≤ (13 : Int))))) || (!((((sgnS word).map fun (x_ : PySem.Str) => (inSg x_ (PySem.Str.ofString "0123456789")))).all id))) = true) => ?_) (fun (hc1_ : ((!((decide ((1 : Int) ≤ ((word).length : Int))) && (decide (((word).length : Int) ≤ (13 : Int))))) || (!((((sgnS word).map fun (x_ : PySem.Str) => (inSg x_ (PySem.Str.ofString "0123456789")))).all id))) = false) => ?_)
  · have h := h.1 hc1_
    refine sj_seq ?_
    exact sj_ret ev_non ⟨(none : (Option Int)), rfl, h⟩
  · have h := h.2 hc1_
    refine sj_next ?_
    show SJ K _ [.da (eS word), .un] _
    refine sj_seq ?_
    obtain ⟨g3_, h⟩ := h
    refine sj_if (et_and (et_test (ev_op (ev_op (ev_var rfl) ev_int (rd_ixSg g3_)) ev_str rd_eqS)) fun (hb5_ : (decide ((sgAt word (0 : Int)) = (PySem.Str.ofString "0"))) = true) => (et_test (ev_op (ev_var rfl) ev_str rd_neS))) (fun (hc4_ : ((decide ((sgAt word (0 : Int)) = (PySem.Str.ofString "0"))) && (!(decide (word = (PySem.Str.ofString "0"))))) = true) => ?_) (fun (hc4_ : ((decide ((sgAt word (0 : Int)) = (PySem.Str.ofString "0"))) && (!(decide (word = (PySem.Str.ofString "0"))))) = false) => ?_)
    · have h := h.1 hc4_
      refine sj_seq ?_
      exact sj_ret ev_non ⟨(none : (Option Int)), rfl, h⟩
    · have h := h.2 hc4_
      refine sj_next ?_
      show SJ K _ [.da (eS word), .un] _
      refine sj_seq ?_
      obtain ⟨g4_, h⟩ := h
      exact sj_ret (ev_cb (eva_cons (ev_var rfl) eva_nil) (rdl_intSg g4_)) ⟨(some (intT word)), rfl, h⟩
def M_parse_number (word : PySem.Str) : (Option Int) := (if ((!((decide ((1 : Int) ≤ ((word).length : Int))) && (decide (((word).length : Int) ≤ (13 : Int))))) || (!((((sgnS word).map fun (x_ : PySem.Str) => (inSg x_ (PySem.Str.ofString "0123456789")))).all id))) = true then (none : (Option Int)) else (if ((decide ((sgAt word (0 : Int)) = (PySem.Str.ofString "0"))) && (!(decide (word = (PySem.Str.ofString "0"))))) = true then (none : (Option Int)) else (some (intT word))))
def P_parse_number (word : PySem.Str) : Prop := W_parse_number word fun _ => True
theorem pf_parse_number (word : PySem.Str) (h : P_parse_number word) : W_parse_number word fun r => r = M_parse_number word := by
  unfold P_parse_number at h
  unfold W_parse_number at h ⊢
  obtain ⟨g1_, g2_, h⟩ := h
  refine ⟨g1_, g2_, ?_⟩
  refine ⟨fun (hc1_ : _ = true) => ?_, fun (hc1_ : _ = false) => ?_⟩
  · have h := h.1 hc1_
    show _ = M_parse_number word
    unfold M_parse_number
    rw [if_pos hc1_]
  · have h := h.2 hc1_
    obtain ⟨g3_, h⟩ := h
    refine ⟨g3_, ?_⟩
    refine ⟨fun (hc4_ : _ = true) => ?_, fun (hc4_ : _ = false) => ?_⟩
    · have h := h.1 hc4_
      show _ = M_parse_number word
      unfold M_parse_number
      rw [if_neg (bnf hc1_), if_pos hc4_]
    · have h := h.2 hc4_
      obtain ⟨g4_, h⟩ := h
      refine ⟨g4_, ?_⟩
      show _ = M_parse_number word
      unfold M_parse_number
      rw [if_neg (bnf hc1_), if_neg (bnf hc4_)]
abbrev sp_parse_number (K : Fg) : Sp := spP K (fun x : PySem.Str => [eS x]) (fun x => P_parse_number x) (fun x d => d = (eO eI) (M_parse_number x))
theorem ok_parse_number {f : Ad} {fd : FuncData} (F : Fun K "parse_number" "parse_number" s_parse_number f fd) (z_int : mg "int" = none) (z_all : mg "all" = none) (z_len : mg "len" = none) {tk_LONGEST : PySem.Tok} (g_LONGEST : mg "LONGEST" = some (.int 13 tk_LONGEST)) {tk_DIGITS : PySem.Tok} (g_DIGITS : mg "DIGITS" = some (.str (PySem.Str.ofString "0123456789") tk_DIGITS)) : FnG P w K mg base CX0 1 f fd ["word"] (sp_parse_number K) :=
  (okw_parse_number F z_int z_all z_len g_LONGEST g_DIGITS).imp (imp_W fun x h => pf_parse_number x h)
/-! parse_interval -/
def W_parse_interval (word : PySem.Str) (Q : (Option (Int × Int)) → Prop) : Prop :=
  ((word).length ≤ 10000000) ∧
  ((Txt.split word (PySem.Str.ofString "-")).length ≤ 100000) ∧
  (∀ x_ ∈ (Txt.split word (PySem.Str.ofString "-")), P_parse_number x_) ∧
  ∀ found : (List (Option Int)), found = ((Txt.split word (PySem.Str.ofString "-")).map fun (x_ : PySem.Str) => (M_parse_number x_)) →
  (P_is_interval_Z ((eSq (eO eI)) found)) ∧
  ((M_is_interval_Z ((eSq (eO eI)) found)) = true → isPrZ ((eSq (eO eI)) found) = true) ∧
  Q (if (M_is_interval_Z ((eSq (eO eI)) found)) = true then (some (pairZ ((eSq (eO eI)) found))) else (none : (Option (Int × Int))))
abbrev spw_parse_interval (K : Fg) : Sp := spW K (fun x : PySem.Str => [eS x]) (eO eP) (fun (x : PySem.Str) Q => W_parse_interval x Q)
theorem okw_parse_interval {f : Ad} {fd : FuncData} (F : Fun K "parse_interval" "parse_interval" s_parse_interval f fd) (C_is_interval_Z : Cal P w K mg base 3 "is_interval" ["value"] (sp_is_interval_Z K)) (C_parse_number : Cal P w K mg base 1 "parse_number" ["word"] (sp_parse_number K)) (z_tuple : mg "tuple" = none) (z___pair__ : mg "__pair__" = none) : FnG P w K mg base CX0 4 f fd ["word"] (spw_parse_interval K) := by
  obtain ⟨f_is_interval_Z, fd_is_interval_Z, G_is_interval_Z, k_is_interval_Z, b_is_interval_Z, m_is_interval_Z⟩ := C_is_interval_Z
  obtain ⟨f_parse_number, fd_parse_number, G_parse_number, k_parse_number, b_parse_number, m_parse_number⟩ := C_parse_number
  refine okP F sc_parse_interval (fun _ => rfl) (fun cdv A outer s H E hr hgd => ?_)
  have hu65 := rm65 hr
  refine ⟨_, (pss_cons (ps_set (i := 1) sc_parse_interval.nd rfl (by first | exact Or.inl rfl | exact Or.inr rfl) (pe_callTy (call_tupK K rfl) (by rfl) z_tuple (by decide +kernel) (pa_cons (pe_lc (own := [("part", 2)]) (tt := tYes) rfl sc_parse_interval.nd (pi_listK K rfl (pe_split (pv 0) pe_str)) (blkOk_by (N := ["word", "found", "part"]) (sc := defScope s_parse_interval) (by decide +kernel)) (fun _ _ _ _ _ => (pg_name (i := 2) sc_parse_interval.nd rfl (by first | exact Or.inl rfl | exact Or.inr rfl))) (fun _ _ _ _ _ => pts_nil) (fun _ _ _ _ _ => (pe_callG G_parse_number (hr.mono (by decide)) hgd (by rfl) m_parse_number k_parse_number b_parse_number .nil pass0 (pa_cons (pv 2) pa_nil)))) pa_nil)))
      (pss_cons (ps_ret (pe_ifExp (pt_val (pe_callG G_is_interval_Z (hr.mono (by decide)) hgd (by rfl) m_is_interval_Z k_is_interval_Z b_is_interval_Z .nil pass0 (pa_cons (pv 1) pa_nil))) (pv 1) pe_non))
      pss_nil)), fun x hp => ?_⟩
  obtain ⟨word, Q⟩ := x
  have h : W_parse_interval word Q := hp
  unfold W_parse_interval at h
  show SJ K _ [.da (eS word), .un, .un] _
  refine sj_seq ?_
  obtain ⟨g1_, g2_, g3_, h⟩ := h
  refine sj_set (ev_cb (eva_cons (ev_ofL (el_lc0 (en' := (eO eI)) (fun (x_ : PySem.Str) => (M_parse_number x_)) (di_list (ds := List.map eS (Txt.split word (PySem.Str.ofString "-"))) (ev_ofL (el_split (ev_var rfl) ev_str (by decide +kernel) g1_ g2_))) rfl (fun x_ hx_ => gj_name (ev_is (d1 := (eO eI) (M_parse_number x_)) (ev_call x_ (eva_cons (ev_var rfl) eva_nil) (g3_ x_ hx_)) rfl)))) eva_nil) rdl_tupL) ?_
  show SJ K _ [.da (eS word), .da ((eSq (eO eI)) ((Txt.split word (PySem.Str.ofString "-")).map fun (x_ : PySem.Str) => (M_parse_number x_))), .un] _
  refine sj_nameV (((Txt.split word (PySem.Str.ofString "-")).map fun (x_ : PySem.Str) => (M_parse_number x_)) : (List (Option Int))) (fun found => [.da (eS word), .da ((eSq (eO eI)) found), .un]) (fun found foundh => ?_)
  have h := h found foundh
  refine sj_seq ?_
  obtain ⟨g4_, g5_, h⟩ := h
  exact sj_ret (ev_ifT (eO eP) (b := (M_is_interval_Z ((eSq (eO eI)) found))) (x := (some (pairZ ((eSq (eO eI)) found)))) (y := (none : (Option (Int × Int)))) (et_B (ev_is (d1 := eB (M_is_interval_Z ((eSq (eO eI)) found))) (ev_call ((eSq (eO eI)) found) (eva_cons (ev_var rfl) eva_nil) g4_) rfl)) (fun (hi2_ : (M_is_interval_Z ((eSq (eO eI)) found)) = true) => (ev_is (ev_var rfl) (as_pairZ (g5_ hi2_)))) (fun (hi2_ : (M_is_interval_Z ((eSq (eO eI)) found)) = false) => ev_non)) ⟨(if (M_is_interval_Z ((eSq (eO eI)) found)) = true then (some (pairZ ((eSq (eO eI)) found))) else (none : (Option (Int × Int)))), rfl, h⟩
def M_parse_interval (word : PySem.Str) : (Option (Int × Int)) := (if (M_is_interval_Z ((eSq (eO eI)) ((Txt.split word (PySem.Str.ofString "-")).map fun (x_ : PySem.Str) => (M_parse_number x_)))) = true then (some (pairZ ((eSq (eO eI)) ((Txt.split word (PySem.Str.ofString "-")).map fun (x_ : PySem.Str) => (M_parse_number x_))))) else (none : (Option (Int × Int))))
def P_parse_interval (word : PySem.Str) : Prop := W_parse_interval word fun _ => True
theorem pf_parse_interval (word : PySem.Str) (h : P_parse_interval word) : W_parse_interval word fun r => r = M_parse_interval word := by
  unfold P_parse_interval at h
  unfold W_parse_interval at h ⊢
  obtain ⟨g1_, g2_, g3_, h⟩ := h
  refine ⟨g1_, g2_, g3_, ?_⟩
  intro found foundh
  have h := h found foundh
  subst foundh
  obtain ⟨g4_, g5_, h⟩ := h
  refine ⟨g4_, g5_, ?_⟩
  show _ = M_parse_interval word
  unfold M_parse_interval
  rfl
abbrev sp_parse_interval (K : Fg) : Sp := spP K (fun x : PySem.Str => [eS x]) (fun x => P_parse_interval x) (fun x d => d = (eO eP) (M_parse_interval x))
theorem ok_parse_interval {f : Ad} {fd : FuncData} (F : Fun K "parse_interval" "parse_interval" s_parse_interval f fd) (C_is_interval_Z : Cal P w K mg base 3 "is_interval" ["value"] (sp_is_interval_Z K)) (C_parse_number : Cal P w K mg base 1 "parse_number" ["word"] (sp_parse_number K)) (z_tuple : mg "tuple" = none) (z___pair__ : mg "__pair__" = none) : FnG P w K mg base CX0 4 f fd ["word"] (sp_parse_interval K) :=
  (okw_parse_interval F C_is_interval_Z C_parse_number z_tuple z___pair__).imp (imp_W fun x h => pf_parse_interval x h)
/-! Shell_answer_Q -/
def W_Shell_answer_Q (self : (((List ((List (Int × Int)) × (List (Int × Int)))) × (List (PySem.Str × (Int × Int))) × Bool))) (word : PySem.Str) (Q : (Option PySem.Str) → Prop) : Prop :=
  (((decide (word = (PySem.Str.ofString "undo"))) = true →
  (False) ∧
  Q (some (PySem.Str.ofString ""))) ∧ ((decide (word = (PySem.Str.ofString "undo"))) = false →
  (((decide (word = (PySem.Str.ofString "targets"))) = true →
  (False) ∧
  Q (some (PySem.Str.ofString ""))) ∧ ((decide (word = (PySem.Str.ofString "targets"))) = false →
  (((decide (word = (PySem.Str.ofString "pieces"))) = true →
  (False) ∧
  Q (some (PySem.Str.ofString ""))) ∧ ((decide (word = (PySem.Str.ofString "pieces"))) = false →
  (((decide (word = (PySem.Str.ofString "needed"))) = true →
  (False) ∧
  Q (some (PySem.Str.ofString ""))) ∧ ((decide (word = (PySem.Str.ofString "needed"))) = false →
  (((decide (word = (PySem.Str.ofString "solve"))) = true →
  (False) ∧
  Q (some (PySem.Str.ofString ""))) ∧ ((decide (word = (PySem.Str.ofString "solve"))) = false →
  (((decide (word = (PySem.Str.ofString "witnesses"))) = true →
  (False) ∧
  Q (some (PySem.Str.ofString ""))) ∧ ((decide (word = (PySem.Str.ofString "witnesses"))) = false →
  (((decide (word = (PySem.Str.ofString "missing"))) = true →
  (False) ∧
  Q (some (PySem.Str.ofString ""))) ∧ ((decide (word = (PySem.Str.ofString "missing"))) = false →
  (((decide (word = (PySem.Str.ofString "changes"))) = true →
  (False) ∧
  Q (some (PySem.Str.ofString ""))) ∧ ((decide (word = (PySem.Str.ofString "changes"))) = false →
  Q (none : (Option PySem.Str))))))))))))))))))
abbrev spw_Shell_answer_Q (K : Fg) : Sp := spW K (fun x : ((((List ((List (Int × Int)) × (List (Int × Int)))) × (List (PySem.Str × (Int × Int))) × Bool)) × PySem.Str) => [eOb_Shell x.1, eS x.2]) (eO eS) (fun (x : ((((List ((List (Int × Int)) × (List (Int × Int)))) × (List (PySem.Str × (Int × Int))) × Bool)) × PySem.Str)) Q => W_Shell_answer_Q x.1 x.2 Q)
theorem okw_Shell_answer_Q {f : Ad} {fd : FuncData} (F : Fun K "answer" "Shell.answer" s_Shell_answer_Q f fd) {O_Plan : Ad} (T_Plan : ObT K mg "Plan" O_Plan ["states", "standing", "applying"]) {O_Shell : Ad} (T_Shell : ObT K mg "Shell" O_Shell ["plan"]) : FnG P w K mg base CX0 1 f fd ["self", "word"] (spw_Shell_answer_Q K) := by
  refine okP F sc_Shell_answer_Q (fun _ => rfl) (fun cdv A outer s H E hr hgd => ?_)
  have hu65 := rm65 hr
  refine ⟨_, (pss_cons (ps_if (pt_cmpR op_eq (pv 1) pe_str (nomark _)) (pss_cons (ps_ret pe_never)
      pss_nil) pss_nil)
      (pss_cons (ps_if (pt_cmpR op_eq (pv 1) pe_str (nomark _)) (pss_cons (ps_ret pe_never)
      pss_nil) pss_nil)
      (pss_cons (ps_if (pt_cmpR op_eq (pv 1) pe_str (nomark _)) (pss_cons (ps_ret pe_never)
      pss_nil) pss_nil)
      (pss_cons (ps_if (pt_cmpR op_eq (pv 1) pe_str (nomark _)) (pss_cons (ps_ret pe_never)
      pss_nil) pss_nil)
      (pss_cons (ps_if (pt_cmpR op_eq (pv 1) pe_str (nomark _)) (pss_cons (ps_ret pe_never)
      pss_nil) pss_nil)
      (pss_cons (ps_if (pt_cmpR op_eq (pv 1) pe_str (nomark _)) (pss_cons (ps_ret pe_never)
      pss_nil) pss_nil)
      (pss_cons (ps_if (pt_cmpR op_eq (pv 1) pe_str (nomark _)) (pss_cons (ps_ret pe_never)
      pss_nil) pss_nil)
      (pss_cons (ps_if (pt_cmpR op_eq (pv 1) pe_str (nomark _)) (pss_cons (ps_ret pe_never)
      pss_nil) pss_nil)
      (pss_cons (ps_ret pe_non)
      pss_nil))))))))), fun x hp => ?_⟩
  obtain ⟨⟨self, word⟩, Q⟩ := x
  have h : W_Shell_answer_Q self word Q := hp
  unfold W_Shell_answer_Q at h
  show SJ K _ [.da (eOb_Shell self), .da (eS word)] _
  refine sj_seq ?_
  refine sj_if (et_test (ev_op (ev_var rfl) ev_str rd_eqS)) (fun (hc1_ : (decide (word = (PySem.Str.ofString "undo"))) = true) => ?_) (fun (hc1_ : (decide (word = (PySem.Str.ofString "undo"))) = false) => ?_)
  · have h := h.1 hc1_
    refine sj_seq ?_
    obtain ⟨g1_, h⟩ := h
    exact sj_ret (ev_dead (d := eS (PySem.Str.ofString "")) g1_) ⟨(some (PySem.Str.ofString "")), rfl, h⟩
  · have h := h.2 hc1_
    refine sj_next ?_
    show SJ K _ [.da (eOb_Shell self), .da (eS word)] _
    refine sj_seq ?_
    refine sj_if (et_test (ev_op (ev_var rfl) ev_str rd_eqS)) (fun (hc2_ : (decide (word = (PySem.Str.ofString "targets"))) = true) => ?_) (fun (hc2_ : (decide (word = (PySem.Str.ofString "targets"))) = false) => ?_)
    · have h := h.1 hc2_
      refine sj_seq ?_
      obtain ⟨g2_, h⟩ := h
      exact sj_ret (ev_dead (d := eS (PySem.Str.ofString "")) g2_) ⟨(some (PySem.Str.ofString "")), rfl, h⟩
    · have h := h.2 hc2_
      refine sj_next ?_
      show SJ K _ [.da (eOb_Shell self), .da (eS word)] _
      refine sj_seq ?_
      refine sj_if (et_test (ev_op (ev_var rfl) ev_str rd_eqS)) (fun (hc3_ : (decide (word = (PySem.Str.ofString "pieces"))) = true) => ?_) (fun (hc3_ : (decide (word = (PySem.Str.ofString "pieces"))) = false) => ?_)
      · have h := h.1 hc3_
        refine sj_seq ?_
        obtain ⟨g3_, h⟩ := h
        exact sj_ret (ev_dead (d := eS (PySem.Str.ofString "")) g3_) ⟨(some (PySem.Str.ofString "")), rfl, h⟩
      · have h := h.2 hc3_
        refine sj_next ?_
        show SJ K _ [.da (eOb_Shell self), .da (eS word)] _
        refine sj_seq ?_
        refine sj_if (et_test (ev_op (ev_var rfl) ev_str rd_eqS)) (fun (hc4_ : (decide (word = (PySem.Str.ofString "needed"))) = true) => ?_) (fun (hc4_ : (decide (word = (PySem.Str.ofString "needed"))) = false) => ?_)
        · have h := h.1 hc4_
          refine sj_seq ?_
          obtain ⟨g4_, h⟩ := h
          exact sj_ret (ev_dead (d := eS (PySem.Str.ofString "")) g4_) ⟨(some (PySem.Str.ofString "")), rfl, h⟩
        · have h := h.2 hc4_
          refine sj_next ?_
          show SJ K _ [.da (eOb_Shell self), .da (eS word)] _
          refine sj_seq ?_
          refine sj_if (et_test (ev_op (ev_var rfl) ev_str rd_eqS)) (fun (hc5_ : (decide (word = (PySem.Str.ofString "solve"))) = true) => ?_) (fun (hc5_ : (decide (word = (PySem.Str.ofString "solve"))) = false) => ?_)
          · have h := h.1 hc5_
            refine sj_seq ?_
            obtain ⟨g5_, h⟩ := h
            exact sj_ret (ev_dead (d := eS (PySem.Str.ofString "")) g5_) ⟨(some (PySem.Str.ofString "")), rfl, h⟩
          · have h := h.2 hc5_
            refine sj_next ?_
            show SJ K _ [.da (eOb_Shell self), .da (eS word)] _
            refine sj_seq ?_
            refine sj_if (et_test (ev_op (ev_var rfl) ev_str rd_eqS)) (fun (hc6_ : (decide (word = (PySem.Str.ofString "witnesses"))) = true) => ?_) (fun (hc6_ : (decide (word = (PySem.Str.ofString "witnesses"))) = false) => ?_)
            · have h := h.1 hc6_
              refine sj_seq ?_
              obtain ⟨g6_, h⟩ := h
              exact sj_ret (ev_dead (d := eS (PySem.Str.ofString "")) g6_) ⟨(some (PySem.Str.ofString "")), rfl, h⟩
            · have h := h.2 hc6_
              refine sj_next ?_
              show SJ K _ [.da (eOb_Shell self), .da (eS word)] _
              refine sj_seq ?_
              refine sj_if (et_test (ev_op (ev_var rfl) ev_str rd_eqS)) (fun (hc7_ : (decide (word = (PySem.Str.ofString "missing"))) = true) => ?_) (fun (hc7_ : (decide (word = (PySem.Str.ofString "missing"))) = false) => ?_)
              · have h := h.1 hc7_
                refine sj_seq ?_
                obtain ⟨g7_, h⟩ := h
                exact sj_ret (ev_dead (d := eS (PySem.Str.ofString "")) g7_) ⟨(some (PySem.Str.ofString "")), rfl, h⟩
              · have h := h.2 hc7_
                refine sj_next ?_
                show SJ K _ [.da (eOb_Shell self), .da (eS word)] _
                refine sj_seq ?_
                refine sj_if (et_test (ev_op (ev_var rfl) ev_str rd_eqS)) (fun (hc8_ : (decide (word = (PySem.Str.ofString "changes"))) = true) => ?_) (fun (hc8_ : (decide (word = (PySem.Str.ofString "changes"))) = false) => ?_)
                · have h := h.1 hc8_
                  refine sj_seq ?_
                  obtain ⟨g8_, h⟩ := h
                  exact sj_ret (ev_dead (d := eS (PySem.Str.ofString "")) g8_) ⟨(some (PySem.Str.ofString "")), rfl, h⟩
                · have h := h.2 hc8_
                  refine sj_next ?_
                  show SJ K _ [.da (eOb_Shell self), .da (eS word)] _
                  refine sj_seq ?_
                  exact sj_ret ev_non ⟨(none : (Option PySem.Str)), rfl, h⟩
def ansB (w : PySem.Str) : Bool := decide (w ∈ [(PySem.Str.ofString "undo"), (PySem.Str.ofString "targets"), (PySem.Str.ofString "pieces"), (PySem.Str.ofString "needed"), (PySem.Str.ofString "solve"), (PySem.Str.ofString "witnesses"), (PySem.Str.ofString "missing"), (PySem.Str.ofString "changes")])
def M_Shell_answer_Q (s : ((List ((List (Int × Int)) × (List (Int × Int)))) × (List (PySem.Str × (Int × Int))) × Bool)) (w : PySem.Str) : Option PySem.Str := none
def P_Shell_answer_Q (s : ((List ((List (Int × Int)) × (List (Int × Int)))) × (List (PySem.Str × (Int × Int))) × Bool)) (w : PySem.Str) : Prop := ansB w = false
theorem pf_Shell_answer_Q (s : ((List ((List (Int × Int)) × (List (Int × Int)))) × (List (PySem.Str × (Int × Int))) × Bool)) (w : PySem.Str) (h : P_Shell_answer_Q s w) : W_Shell_answer_Q s w fun r => r = M_Shell_answer_Q s w := by
  have h : w ∉ [(PySem.Str.ofString "undo"), (PySem.Str.ofString "targets"), (PySem.Str.ofString "pieces"), (PySem.Str.ofString "needed"), (PySem.Str.ofString "solve"), (PySem.Str.ofString "witnesses"), (PySem.Str.ofString "missing"), (PySem.Str.ofString "changes")] := of_decide_eq_false h
  simp only [List.mem_cons, List.not_mem_nil, or_false, not_or] at h
  obtain ⟨h1, h2, h3, h4, h5, h6, h7, h8⟩ := h
  exact ⟨fun e => absurd (of_decide_eq_true e) h1, fun _ => ⟨fun e => absurd (of_decide_eq_true e) h2, fun _ => ⟨fun e => absurd (of_decide_eq_true e) h3, fun _ => ⟨fun e => absurd (of_decide_eq_true e) h4, fun _ => ⟨fun e => absurd (of_decide_eq_true e) h5, fun _ => ⟨fun e => absurd (of_decide_eq_true e) h6, fun _ => ⟨fun e => absurd (of_decide_eq_true e) h7, fun _ => ⟨fun e => absurd (of_decide_eq_true e) h8, fun _ => rfl⟩⟩⟩⟩⟩⟩⟩⟩
abbrev sp_Shell_answer_Q (K : Fg) : Sp := spP K (fun x : ((((List ((List (Int × Int)) × (List (Int × Int)))) × (List (PySem.Str × (Int × Int))) × Bool)) × PySem.Str) => [eOb_Shell x.1, eS x.2]) (fun x => P_Shell_answer_Q x.1 x.2) (fun x d => d = (eO eS) (M_Shell_answer_Q x.1 x.2))
theorem ok_Shell_answer_Q {f : Ad} {fd : FuncData} (F : Fun K "answer" "Shell.answer" s_Shell_answer_Q f fd) {O_Plan : Ad} (T_Plan : ObT K mg "Plan" O_Plan ["states", "standing", "applying"]) {O_Shell : Ad} (T_Shell : ObT K mg "Shell" O_Shell ["plan"]) : FnG P w K mg base CX0 1 f fd ["self", "word"] (sp_Shell_answer_Q K) :=
  (okw_Shell_answer_Q F T_Plan T_Shell).imp (imp_W fun x h => pf_Shell_answer_Q x.1 x.2 h)
/-! Shell_run_Q -/
def W_Shell_run_Q (self : (((List ((List (Int × Int)) × (List (Int × Int)))) × (List (PySem.Str × (Int × Int))) × Bool))) (words : (List PySem.Str)) (Q : (Option PySem.Str) → Prop) : Prop :=
  (((decide (((words).length : Int) = (1 : Int))) = true →
  (Ix words (0 : Int)) ∧
  (P_Shell_answer_Q self (atL words (0 : Int))) ∧
  Q (M_Shell_answer_Q self (atL words (0 : Int)))) ∧ ((decide (((words).length : Int) = (1 : Int))) = false →
  ((!(decide (((words).length : Int) = (2 : Int)))) = false → ((Ix words (0 : Int)) ∧ (SeqAt.shaped (eS (atL words (0 : Int))) = true) ∧ (SeqAt.shaped ((eSq eS) ([PySem.Str.ofString "target", PySem.Str.ofString "untarget", PySem.Str.ofString "piece", PySem.Str.ofString "unpiece"] : List PySem.Str)) = true))) ∧
  ((((!(decide (((words).length : Int) = (2 : Int)))) || (!(decide ((atL words (0 : Int)) ∈ ([PySem.Str.ofString "target", PySem.Str.ofString "untarget", PySem.Str.ofString "piece", PySem.Str.ofString "unpiece"] : List PySem.Str))))) = true →
  Q (none : (Option PySem.Str))) ∧ (((!(decide (((words).length : Int) = (2 : Int)))) || (!(decide ((atL words (0 : Int)) ∈ ([PySem.Str.ofString "target", PySem.Str.ofString "untarget", PySem.Str.ofString "piece", PySem.Str.ofString "unpiece"] : List PySem.Str))))) = false →
  (Ix words (1 : Int)) ∧
  (P_parse_interval (atL words (1 : Int))) ∧
  ∀ interval : (Option (Int × Int)), interval = (M_parse_interval (atL words (1 : Int))) →
  ((isNo ((eO eP) interval)) = false → False) ∧
  Q (if (isNo ((eO eP) interval)) = true then (none : (Option PySem.Str)) else (some (PySem.Str.ofString "")))))))
abbrev spw_Shell_run_Q (K : Fg) : Sp := spW K (fun x : ((((List ((List (Int × Int)) × (List (Int × Int)))) × (List (PySem.Str × (Int × Int))) × Bool)) × (List PySem.Str)) => [eOb_Shell x.1, (eLs eS) x.2]) (eO eS) (fun (x : ((((List ((List (Int × Int)) × (List (Int × Int)))) × (List (PySem.Str × (Int × Int))) × Bool)) × (List PySem.Str))) Q => W_Shell_run_Q x.1 x.2 Q)
theorem okw_Shell_run_Q {f : Ad} {fd : FuncData} (F : Fun K "run" "Shell.run" s_Shell_run_Q f fd) {O_Plan : Ad} (T_Plan : ObT K mg "Plan" O_Plan ["states", "standing", "applying"]) {O_Shell : Ad} (T_Shell : ObT K mg "Shell" O_Shell ["plan"]) (C_parse_interval : Cal P w K mg base 4 "parse_interval" ["word"] (sp_parse_interval K)) (C_Shell_answer_Q : CalM P w K mg base 1 O_Shell "answer" ["self", "word"] (sp_Shell_answer_Q K)) (z_len : mg "len" = none) {a_EDITS : Ad} (g_EDITS : mg "EDITS" = some (.ref a_EDITS) ∧ KStrs K a_EDITS [PySem.Str.ofString "target", PySem.Str.ofString "untarget", PySem.Str.ofString "piece", PySem.Str.ofString "unpiece"]) : FnG P w K mg base CX0 5 f fd ["self", "words"] (spw_Shell_run_Q K) := by
  obtain ⟨f_parse_interval, fd_parse_interval, G_parse_interval, k_parse_interval, b_parse_interval, m_parse_interval⟩ := C_parse_interval
  obtain ⟨f_Shell_answer_Q, fd_Shell_answer_Q, G_Shell_answer_Q, m_Shell_answer_Q, b_Shell_answer_Q⟩ := C_Shell_answer_Q
  refine okP F sc_Shell_run_Q (fun _ => rfl) (fun cdv A outer s H E hr hgd => ?_)
  have hu65 := rm65 hr
  refine ⟨_, (pss_cons (ps_if (pt_cmpR op_eq (pe_callB (call_lenK K rfl) (by rfl) z_len (by decide +kernel) (pa_cons (pv 1) pa_nil)) pe_int (nomark _)) (pss_cons (ps_ret (pe_methG (pv 0) T_Shell.cl m_Shell_answer_Q G_Shell_answer_Q (hr.mono (by decide)) hgd b_Shell_answer_Q .nil pass0 (pa_cons (pe_ix (ix_listK K rfl) (pv 1) pe_int (fun _ _ => rfl)) pa_nil)))
      pss_nil) pss_nil)
      (pss_cons (ps_if (PW.pt (pw_or (pt_cmpR op_ne (pe_callB (call_lenK K rfl) (by rfl) z_len (by decide +kernel) (pa_cons (pv 1) pa_nil)) pe_int (nomark _)) (pw_or1 (pt_cmpR (op_notInT (K := K) rfl hu65) (pe_ix (ix_listK K rfl) (pv 1) pe_int (fun _ _ => rfl)) (pe_glob (v := V.ref a_EDITS) rfl g_EDITS.1 rfl) rfl)))) (pss_cons (ps_ret pe_non)
      pss_nil) pss_nil)
      (pss_cons (ps_set (i := 2) sc_Shell_run_Q.nd rfl (by first | exact Or.inl rfl | exact Or.inr rfl) (pe_callG G_parse_interval (hr.mono (by decide)) hgd (by rfl) m_parse_interval k_parse_interval b_parse_interval .nil pass0 (pa_cons (pe_ix (ix_listK K rfl) (pv 1) pe_int (fun _ _ => rfl)) pa_nil)))
      (pss_cons (ps_ret (pe_ifExp (pt_cmpR op_isN (pv 2) pe_non (nomark _)) pe_non pe_never))
      pss_nil)))), fun x hp => ?_⟩
  obtain ⟨⟨self, words⟩, Q⟩ := x
  have h : W_Shell_run_Q self words Q := hp
  unfold W_Shell_run_Q at h
  show SJ K _ [.da (eOb_Shell self), .da ((eLs eS) words), .un] _
  refine sj_seq ?_
  refine sj_if (et_test (ev_op (ev_is (d1 := .int ((words).length : Int)) (ev_cb (eva_cons (ev_var rfl) eva_nil) rdl_lenL) (by simp only [List.length_map])) ev_int rd_eqI)) (fun (hc1_ : (decide (((words).length : Int) = (1 : Int))) = true) => ?_) (fun (hc1_ : (decide (((words).length : Int) = (1 : Int))) = false) => ?_)
  · have h := h.1 hc1_
    refine sj_seq ?_
    obtain ⟨g1_, g2_, h⟩ := h
    exact sj_ret (ev_is (d1 := (eO eS) (M_Shell_answer_Q self (atL words (0 : Int)))) (ev_meth (self, (atL words (0 : Int))) (ev_var rfl) T_Shell.ns (by decide +kernel) (eva_cons (ev_op (ev_var rfl) ev_int (rd_ixL (at_ok eS (xs := words) (i := (0 : Int)) g1_.1 g1_.2))) eva_nil) rfl g2_) rfl) ⟨(M_Shell_answer_Q self (atL words (0 : Int))), rfl, h⟩
  · have h := h.2 hc1_
    refine sj_next ?_
    show SJ K _ [.da (eOb_Shell self), .da ((eLs eS) words), .un] _
    refine sj_seq ?_
    obtain ⟨g3_, h⟩ := h
    refine sj_if (et_or (et_test (ev_op (ev_is (d1 := .int ((words).length : Int)) (ev_cb (eva_cons (ev_var rfl) eva_nil) rdl_lenL) (by simp only [List.length_map])) ev_int rd_neI)) fun (hb3_ : (!(decide (((words).length : Int) = (2 : Int)))) = false) => (et_test (ev_op (ev_op (ev_var rfl) ev_int (rd_ixL (at_ok eS (xs := words) (i := (0 : Int)) ((g3_ hb3_).1).1 ((g3_ hb3_).1).2))) (ev_kstrs g_EDITS.2 (by decide)) (rd_notInTupV (x := (atL words (0 : Int))) (ys := ([PySem.Str.ofString "target", PySem.Str.ofString "untarget", PySem.Str.ofString "piece", PySem.Str.ofString "unpiece"] : List PySem.Str)) eq_S ((g3_ hb3_).2.1) ((g3_ hb3_).2.2))))) (fun (hc2_ : ((!(decide (((words).length : Int) = (2 : Int)))) || (!(decide ((atL words (0 : Int)) ∈ ([PySem.Str.ofString "target", PySem.Str.ofString "untarget", PySem.Str.ofString "piece", PySem.Str.ofString "unpiece"] : List PySem.Str))))) = true) => ?_) (fun (hc2_ : ((!(decide (((words).length : Int) = (2 : Int)))) || (!(decide ((atL words (0 : Int)) ∈ ([PySem.Str.ofString "target", PySem.Str.ofString "untarget", PySem.Str.ofString "piece", PySem.Str.ofString "unpiece"] : List PySem.Str))))) = false) => ?_)
    · have h := h.1 hc2_
      refine sj_seq ?_
      exact sj_ret ev_non ⟨(none : (Option PySem.Str)), rfl, h⟩
    · have h := h.2 hc2_
      refine sj_next ?_
      show SJ K _ [.da (eOb_Shell self), .da ((eLs eS) words), .un] _
      refine sj_seq ?_
      obtain ⟨g4_, g5_, h⟩ := h
      refine sj_set (ev_is (d1 := (eO eP) (M_parse_interval (atL words (1 : Int)))) (ev_call (atL words (1 : Int)) (eva_cons (ev_op (ev_var rfl) ev_int (rd_ixL (at_ok eS (xs := words) (i := (1 : Int)) g4_.1 g4_.2))) eva_nil) g5_) rfl) ?_
      show SJ K _ [.da (eOb_Shell self), .da ((eLs eS) words), .da ((eO eP) (M_parse_interval (atL words (1 : Int))))] _
      refine sj_nameV ((M_parse_interval (atL words (1 : Int))) : (Option (Int × Int))) (fun interval => [.da (eOb_Shell self), .da ((eLs eS) words), .da ((eO eP) interval)]) (fun interval intervalh => ?_)
      have h := h interval intervalh
      refine sj_seq ?_
      obtain ⟨g6_, h⟩ := h
      exact sj_ret (ev_ifT (eO eS) (b := (isNo ((eO eP) interval))) (x := (none : (Option PySem.Str))) (y := (some (PySem.Str.ofString ""))) (et_test (ev_op (ev_var rfl) ev_non rd_isN)) (fun (hi4_ : (isNo ((eO eP) interval)) = true) => ev_non) (fun (hi4_ : (isNo ((eO eP) interval)) = false) => (ev_dead (d := eS (PySem.Str.ofString "")) (g6_ hi4_)))) ⟨(if (isNo ((eO eP) interval)) = true then (none : (Option PySem.Str)) else (some (PySem.Str.ofString ""))), rfl, h⟩
theorem m_pn (w : PySem.Str) : M_parse_number w = pnF w := by
  unfold M_parse_number pnF c1P c2P
  rfl
theorem p_pn {w : PySem.Str} (h : w.length ≤ 90000) : P_parse_number w := by
  have e : w.cps.size = w.length := rfl
  refine ⟨by omega, fun _ => ⟨by omega, sg_sgnS⟩, fun _ => trivial, fun h1 => ?_⟩
  have h1 : c1P w = false := h1
  exact ⟨pn_ix h1, fun _ => trivial, fun h2 => ⟨pn_int h1 h2, trivial⟩⟩
theorem pt_nat (l : List (Option Int)) : natZ (ptD l) = true := by
  show natZ (.tuple (l.map (eO eI))) = true
  simp only [natZ]
  exact natZs_of fun d hd => by
    obtain ⟨o, _, rfl⟩ := List.mem_map.mp hd
    cases o with
    | none => simp only [eO, natZ]
    | some n => simp only [eO, eI, natZ]
theorem m_pv (w : PySem.Str) : M_parse_interval w = pvF w := by
  unfold M_parse_interval pvF ptF
  have e : (Txt.split w (PySem.Str.ofString "-")).map (fun (x_ : PySem.Str) => (M_parse_number x_)) = (Txt.split w (PySem.Str.ofString "-")).map pnF := List.map_congr_left fun p _ => m_pn p
  rw [e, m_interval_Z]
theorem part_len {w p : PySem.Str} (hp : p ∈ Txt.split w (PySem.Str.ofString "-")) : p.length ≤ w.length := by
  have a := split_sum (x := w) tl_ds (by decide)
  have b := sum_mem hp
  have c : 1 ≤ (Txt.split w (PySem.Str.ofString "-")).length := List.length_pos_iff.mpr fun e => by rw [e] at hp; exact nomatch hp
  omega
theorem p_pv {w : PySem.Str} (h : w.length ≤ 90000) : P_parse_interval w := by
  have a := split_sum (x := w) tl_ds (by decide)
  refine ⟨by omega, by omega, fun p hp => p_pn (Nat.le_trans (part_len hp) h), fun f hf => ?_⟩
  have e : f = ptF w := by
    rw [hf]
    exact List.map_congr_left fun p _ => m_pn p
  subst e
  refine ⟨p_interval_Z (pt_nat _), fun hi => ?_, trivial⟩
  rw [m_interval_Z] at hi
  rcases pt_law (ptF_nn w) true with ⟨h1, _⟩ | ⟨a, b, e1, _⟩
  · rw [h1] at hi; exact nomatch hi
  · rw [e1]; rfl
def EDTS : List PySem.Str := [PySem.Str.ofString "target", PySem.Str.ofString "untarget", PySem.Str.ofString "piece", PySem.Str.ofString "unpiece"]
theorem shp_edts : SeqAt.shaped ((eSq eS) EDTS) = true := by decide +kernel
/-- words that are no command -/
def runB : List PySem.Str → Bool
  | [w] => !ansB w
  | [a, b] => SeqAt.shaped (eS a) && (!decide (a ∈ EDTS) || (decide (b.length ≤ 90000) && (pvF b).isNone))
  | _ => true
def M_Shell_run_Q (s : ((List ((List (Int × Int)) × (List (Int × Int)))) × (List (PySem.Str × (Int × Int))) × Bool)) (ws : List PySem.Str) : Option PySem.Str := none
def P_Shell_run_Q (s : ((List ((List (Int × Int)) × (List (Int × Int)))) × (List (PySem.Str × (Int × Int))) × Bool)) (ws : List PySem.Str) : Prop := runB ws = true
theorem pf_Shell_run_Q (s : ((List ((List (Int × Int)) × (List (Int × Int)))) × (List (PySem.Str × (Int × Int))) × Bool)) (ws : List PySem.Str) (h : P_Shell_run_Q s ws) : W_Shell_run_Q s ws fun r => r = M_Shell_run_Q s ws := by
  match ws, h with
  | [], h => exact ⟨fun e => absurd (of_decide_eq_true e) (by decide), fun _ => ⟨fun e => (nomatch e), fun _ => rfl, fun e => (nomatch e)⟩⟩
  | [w], h =>
    have h : (!ansB w) = true := h
    exact ⟨fun _ => ⟨ix_of (by decide) (by show (0 : Int) < 1; decide), (by rw [Bool.not_eq_true'] at h; exact h), rfl⟩, fun e => absurd (of_decide_eq_false e) (fun z => z rfl)⟩
  | [a, b], h =>
    have h : (SeqAt.shaped (eS a) && (!decide (a ∈ EDTS) || (decide (b.length ≤ 90000) && (pvF b).isNone))) = true := h
    rw [Bool.and_eq_true] at h
    refine ⟨fun e => (nomatch (show decide ((2 : Int) = 1) = true from e)), fun _ => ⟨fun _ => ⟨ix_of (by decide) (by show (0 : Int) < 2; decide), h.1, shp_edts⟩, fun _ => rfl, fun e => ?_⟩⟩
    have m : a ∈ EDTS := by
      have e : (!decide (a ∈ EDTS)) = false := e
      rw [Bool.not_eq_false'] at e
      exact of_decide_eq_true e
    have h2 := h.2
    rw [decide_eq_true m] at h2
    have h2 : (decide (b.length ≤ 90000) && (pvF b).isNone) = true := h2
    rw [Bool.and_eq_true] at h2
    have hn : M_parse_interval b = none := by rw [m_pv]; exact Option.isNone_iff_eq_none.mp h2.2
    refine ⟨ix_of (by decide) (by show (1 : Int) < 2; decide), p_pv (of_decide_eq_true h2.1), fun i hi => ?_⟩
    have hi : i = M_parse_interval b := hi
    rw [hn] at hi
    subst hi
    exact ⟨fun e => (nomatch e), rfl⟩
  | a :: b :: c :: r, h =>
    have n1 : ¬ ((((a :: b :: c :: r : List PySem.Str).length : Nat) : Int) = 1) := by simp only [List.length_cons]; omega
    have n2 : ¬ ((((a :: b :: c :: r : List PySem.Str).length : Nat) : Int) = 2) := by simp only [List.length_cons]; omega
    refine ⟨fun e => absurd (of_decide_eq_true e) n1, fun _ => ⟨fun e => ?_, fun _ => rfl, fun e => ?_⟩⟩
    · rw [decide_eq_false n2] at e; exact nomatch e
    · rw [decide_eq_false n2] at e; exact nomatch e
abbrev sp_Shell_run_Q (K : Fg) : Sp := spP K (fun x : ((((List ((List (Int × Int)) × (List (Int × Int)))) × (List (PySem.Str × (Int × Int))) × Bool)) × (List PySem.Str)) => [eOb_Shell x.1, (eLs eS) x.2]) (fun x => P_Shell_run_Q x.1 x.2) (fun x d => d = (eO eS) (M_Shell_run_Q x.1 x.2))
theorem ok_Shell_run_Q {f : Ad} {fd : FuncData} (F : Fun K "run" "Shell.run" s_Shell_run_Q f fd) {O_Plan : Ad} (T_Plan : ObT K mg "Plan" O_Plan ["states", "standing", "applying"]) {O_Shell : Ad} (T_Shell : ObT K mg "Shell" O_Shell ["plan"]) (C_parse_interval : Cal P w K mg base 4 "parse_interval" ["word"] (sp_parse_interval K)) (C_Shell_answer_Q : CalM P w K mg base 1 O_Shell "answer" ["self", "word"] (sp_Shell_answer_Q K)) (z_len : mg "len" = none) {a_EDITS : Ad} (g_EDITS : mg "EDITS" = some (.ref a_EDITS) ∧ KStrs K a_EDITS [PySem.Str.ofString "target", PySem.Str.ofString "untarget", PySem.Str.ofString "piece", PySem.Str.ofString "unpiece"]) : FnG P w K mg base CX0 5 f fd ["self", "words"] (sp_Shell_run_Q K) :=
  (okw_Shell_run_Q F T_Plan T_Shell C_parse_interval C_Shell_answer_Q z_len g_EDITS).imp (imp_W fun x h => pf_Shell_run_Q x.1 x.2 h)
/-! Shell_execute_Q -/
def W_Shell_execute_Q (self : (((List ((List (Int × Int)) × (List (Int × Int)))) × (List (PySem.Str × (Int × Int))) × Bool))) (line : PyData) (Q : PySem.Str → Prop) : Prop :=
  (natZ line = true) ∧
  (((!(isStrZ line)) = true →
  Q (PySem.Str.ofString "unknown command")) ∧ ((!(isStrZ line)) = false →
  tryW (fun (X1_ : PySem.Str → List (PySem.Str × PyData) → Unit → Prop) =>
  (isStrZ line = true) ∧
  (((strZ line)).length ≤ 10000000) ∧
  ((Txt.split (strZ line) (PySem.Str.ofString " ")).length ≤ 100000) ∧
  (P_Shell_run_Q self (Txt.split (strZ line) (PySem.Str.ofString " "))) ∧
  ∀ found : (Option PySem.Str), found = (M_Shell_run_Q self (Txt.split (strZ line) (PySem.Str.ofString " "))) →
  Q (if (isNo ((eO eS) found)) = true then (PySem.Str.ofString "unknown command") else ((found).getD default))) (fun cn1_ fd1_ s1_ => cn1_ ∈ ERR ∧
  (((sub_SpanError cn1_ || sub_Unknown cn1_) = true →
  (P_error_name cn1_ fd1_) ∧
  (((PySem.Str.ofString "error ")).length + ((M_error_name cn1_ fd1_)).length ≤ 16000000) ∧
  Q ((PySem.Str.ofString "error ") ++ (M_error_name cn1_ fd1_))) ∧ ((sub_SpanError cn1_ || sub_Unknown cn1_) = false →
  False)))))
abbrev spw_Shell_execute_Q (K : Fg) : Sp := spW K (fun x : ((((List ((List (Int × Int)) × (List (Int × Int)))) × (List (PySem.Str × (Int × Int))) × Bool)) × PyData) => [eOb_Shell x.1, eD x.2]) eS (fun (x : ((((List ((List (Int × Int)) × (List (Int × Int)))) × (List (PySem.Str × (Int × Int))) × Bool)) × PyData)) Q => W_Shell_execute_Q x.1 x.2 Q)
theorem okw_Shell_execute_Q {f : Ad} {fd : FuncData} (F : Fun K "execute" "Shell.execute" s_Shell_execute_Q f fd) {X_SpanError : Ad} (g_SpanError : mg "SpanError" = some (.ref X_SpanError)) {X_Unknown : Ad} (g_Unknown : mg "Unknown" = some (.ref X_Unknown)) (xc_ : ∀ (cn : PySem.Str) (C : Ad), cn ∈ ERR → PySem.W.nsIn K mainGlobals cn = some (some (.ref C)) → ExcC K C) (xm_SpanError : ∀ (cn : PySem.Str) (C : Ad), cn ∈ ERR → PySem.W.nsIn K mainGlobals cn = some (some (.ref C)) → PySem.W.exmOne K (.ref C) (.ref X_SpanError) = some (sub_SpanError cn)) (xm_Unknown : ∀ (cn : PySem.Str) (C : Ad), cn ∈ ERR → PySem.W.nsIn K mainGlobals cn = some (some (.ref C)) → PySem.W.exmOne K (.ref C) (.ref X_Unknown) = some (sub_Unknown cn)) {O_Plan : Ad} (T_Plan : ObT K mg "Plan" O_Plan ["states", "standing", "applying"]) {O_Shell : Ad} (T_Shell : ObT K mg "Shell" O_Shell ["plan"]) (C_error_name : CalE P w K mg base 1 "error_name" ["error"] (sp_error_name K)) (C_Shell_run_Q : CalM P w K mg base 5 O_Shell "run" ["self", "words"] (sp_Shell_run_Q K)) (z_isinstance : mg "isinstance" = none) (z_str : mg "str" = none) (z___some__ : mg "__some__" = none) {tk_UNKNOWN_COMMAND : PySem.Tok} (g_UNKNOWN_COMMAND : mg "UNKNOWN_COMMAND" = some (.str (PySem.Str.ofString "unknown command") tk_UNKNOWN_COMMAND)) : FnG P w K mg base CX0 6 f fd ["self", "line"] (spw_Shell_execute_Q K) := by
  obtain ⟨f_error_name, fd_error_name, G_error_name, k_error_name, b_error_name, m_error_name⟩ := C_error_name
  obtain ⟨f_Shell_run_Q, fd_Shell_run_Q, G_Shell_run_Q, m_Shell_run_Q, b_Shell_run_Q⟩ := C_Shell_run_Q
  refine FnG.calm (okX F sc_Shell_execute_Q (fun _ => rfl) (fun cdv A outer s H E hr hgd => ?_))
  have hu65 := rm65 hr
  refine ⟨_, fun W tk => (pss_cons (ps_if (pt_not (pt_val (pe_callB (call_isiK1 (K := K) rfl) (by rfl) z_isinstance (by decide +kernel) (pa_cons (pv 1) (pa_cons (pe_bltn (v := V.ty "str") (u := Value.type "str") (by rfl) z_str (by decide +kernel) rfl) pa_nil))))) (pss_cons (ps_ret (pe_glob (v := V.str (PySem.Str.ofString "unknown command")) (by rfl) g_UNKNOWN_COMMAND ⟨_, rfl⟩))
      pss_nil) pss_nil)
      (pss_cons (ps_tryM rfl rfl sc_Shell_execute_Q.nd tk (fun W2 pn xe tk2 hp2 => (pss_cons (ps_set (i := 3) sc_Shell_execute_Q.nd rfl (by first | exact Or.inl rfl | exact Or.inr rfl) (pe_methG (pv 0) T_Shell.cl m_Shell_run_Q G_Shell_run_Q (hr.mono (by decide)) hgd b_Shell_run_Q .nil pass0 (pa_cons (pe_split (pv 1) pe_str) pa_nil)))
      pss_nil))
      (.cons (i := 2) rfl (by rfl) (.two ⟨rfl, by decide, .inl g_SpanError⟩ ⟨rfl, by decide, .inl g_Unknown⟩) (fun a oe cls d pn hz hf => (pss_cons (ps_ret (pe_op op_add_str pe_str (pe_callE G_error_name (L2H.roomH_of (hr.mono (by decide))) hgd hz hf (by rfl) m_error_name k_error_name b_error_name (pa_cons (pv 2) pa_nil))))
      pss_nil)) .nil))
      (pss_cons (ps_ret (pe_ifExp (pt_cmpR op_isN (pv 3) pe_non (nomark _)) (pe_glob (v := V.str (PySem.Str.ofString "unknown command")) (by rfl) g_UNKNOWN_COMMAND ⟨_, rfl⟩) (pv 3)))
      pss_nil))), fun x hp => ?_⟩
  obtain ⟨⟨self, line⟩, Q⟩ := x
  have h : W_Shell_execute_Q self line Q := hp
  unfold W_Shell_execute_Q at h
  show SJX K _ [.da (eOb_Shell self), .da (eD line), .un, .un] _ _
  refine sx_seq ?_
  obtain ⟨g1_, h⟩ := h
  refine sx_if (et_not (et_B (ev_isStrZ (ev_var rfl) g1_))) (fun (hc1_ : (!(isStrZ line)) = true) => ?_) (fun (hc1_ : (!(isStrZ line)) = false) => ?_)
  · have h := h.1 hc1_
    refine sx_seqL ?_
    exact sj_ret ev_str ⟨(PySem.Str.ofString "unknown command"), rfl, h⟩
  · have h := h.2 hc1_
    refine sx_next ?_
    show SJX K _ [.da (eOb_Shell self), .da (eD line), .un, .un] _ _
    refine sx_seq ?_
    refine sx_tryW h (fun (s1_ : Unit) => [.da (eOb_Shell self), .da (eD line), .un, .un]) (fun X1_ h => ?_) (fun cn1_ fd1_ s1_ C1_ h hC1_ => ?_)
    · show SJX K _ [.da (eOb_Shell self), .da (eD line), .un, .un] _ _
      refine sx_seqL ?_
      obtain ⟨g2_, g3_, g4_, g5_, h⟩ := h
      refine sj_set (ev_is (d1 := (eO eS) (M_Shell_run_Q self (Txt.split (strZ line) (PySem.Str.ofString " ")))) (ev_meth (self, (Txt.split (strZ line) (PySem.Str.ofString " "))) (ev_var rfl) T_Shell.ns (by decide +kernel) (eva_cons (ev_ofL (el_split (ev_is (ev_var rfl) (as_strZ g2_)) ev_str (by decide +kernel) g3_ g4_)) eva_nil) rfl g5_) rfl) ?_
      show SJX K _ [.da (eOb_Shell self), .da (eD line), .un, .da ((eO eS) (M_Shell_run_Q self (Txt.split (strZ line) (PySem.Str.ofString " "))))] _ _
      refine sx_nameV ((M_Shell_run_Q self (Txt.split (strZ line) (PySem.Str.ofString " "))) : (Option PySem.Str)) (fun found => [.da (eOb_Shell self), .da (eD line), .un, .da ((eO eS) found)]) (fun found foundh => ?_)
      have h := h found foundh
      refine sx_next ?_
      show SJX K _ [.da (eOb_Shell self), .da (eD line), .un, .da ((eO eS) found)] _ _
      refine sx_of ?_
      refine sj_seq ?_
      exact sj_ret (ev_ifT eS (b := (isNo ((eO eS) found))) (x := (PySem.Str.ofString "unknown command")) (y := ((found).getD default)) (et_test (ev_op (ev_var rfl) ev_non rd_isN)) (fun (hi2_ : (isNo ((eO eS) found)) = true) => ev_str) (fun (hi2_ : (isNo ((eO eS) found)) = false) => (ev_is (ev_var rfl) (eo_get (eo_is (by first | exact .inl hi2_ | exact .inr hi2_)))))) ⟨(if (isNo ((eO eS) found)) = true then (PySem.Str.ofString "unknown command") else ((found).getD default)), rfl, h⟩
    · obtain ⟨hm1_, h⟩ := h
      refine hdx_cons (sub_SpanError cn1_ || sub_Unknown cn1_) (exm2 (xm_SpanError cn1_ C1_ hm1_ hC1_) (xm_Unknown cn1_ C1_ hm1_ hC1_)) (fun hx1_ a1_ d1_ hd1_ => ?_) (fun hx1_ => ?_)
      · have h := h.1 hx1_
        show SJ K _ [.da (eOb_Shell self), .da (eD line), .ow (exR a1_ d1_ fd1_), .un] _
        refine sj_seq ?_
        obtain ⟨g6_, g7_, h⟩ := h
        exact sj_ret (ev_op ev_str (ev_callE (y0 := eS (M_error_name cn1_ fd1_)) rfl hC1_ hd1_ ⟨hm1_, g6_⟩ (fun y hy => by obtain ⟨r, rfl, rfl⟩ := hy; rfl)) (rd_addS g7_)) ⟨((PySem.Str.ofString "error ") ++ (M_error_name cn1_ fd1_)), rfl, h⟩
      · have h := h.2 hx1_
        exact hdx_nil h.elim
def UNKW : PySem.Str := PySem.Str.ofString "unknown command"
/-- a line that is no command -/
def lineB (l : PySem.Str) : Bool := decide (l.length ≤ 90000) && runB (Txt.split l (PySem.Str.ofString " "))
def M_Shell_execute_Q (s : ((List ((List (Int × Int)) × (List (Int × Int)))) × (List (PySem.Str × (Int × Int))) × Bool)) (d : PyData) : PySem.Str := UNKW
def P_Shell_execute_Q (s : ((List ((List (Int × Int)) × (List (Int × Int)))) × (List (PySem.Str × (Int × Int))) × Bool)) (d : PyData) : Prop := natZ d = true ∧ (isStrZ d = true → lineB (strZ d) = true)
theorem pf_Shell_execute_Q (s : ((List ((List (Int × Int)) × (List (Int × Int)))) × (List (PySem.Str × (Int × Int))) × Bool)) (d : PyData) (h : P_Shell_execute_Q s d) : W_Shell_execute_Q s d fun r => r = M_Shell_execute_Q s d := by
  obtain ⟨h1, h2⟩ := h
  refine ⟨h1, fun _ => rfl, fun hc => ?_⟩
  have st : isStrZ d = true := by rw [Bool.not_eq_false'] at hc; exact hc
  have h2 := h2 st
  unfold lineB at h2
  rw [Bool.and_eq_true] at h2
  have hl := of_decide_eq_true h2.1
  have a := split_sum (x := strZ d) tl_sp (by decide)
  exact ⟨st, by omega, by omega, h2.2, fun fo hfo => by rw [hfo]; rfl⟩
abbrev sp_Shell_execute_Q (K : Fg) : Sp := spP K (fun x : ((((List ((List (Int × Int)) × (List (Int × Int)))) × (List (PySem.Str × (Int × Int))) × Bool)) × PyData) => [eOb_Shell x.1, eD x.2]) (fun x => P_Shell_execute_Q x.1 x.2) (fun x d => d = eS (M_Shell_execute_Q x.1 x.2))
theorem ok_Shell_execute_Q {f : Ad} {fd : FuncData} (F : Fun K "execute" "Shell.execute" s_Shell_execute_Q f fd) {X_SpanError : Ad} (g_SpanError : mg "SpanError" = some (.ref X_SpanError)) {X_Unknown : Ad} (g_Unknown : mg "Unknown" = some (.ref X_Unknown)) (xc_ : ∀ (cn : PySem.Str) (C : Ad), cn ∈ ERR → PySem.W.nsIn K mainGlobals cn = some (some (.ref C)) → ExcC K C) (xm_SpanError : ∀ (cn : PySem.Str) (C : Ad), cn ∈ ERR → PySem.W.nsIn K mainGlobals cn = some (some (.ref C)) → PySem.W.exmOne K (.ref C) (.ref X_SpanError) = some (sub_SpanError cn)) (xm_Unknown : ∀ (cn : PySem.Str) (C : Ad), cn ∈ ERR → PySem.W.nsIn K mainGlobals cn = some (some (.ref C)) → PySem.W.exmOne K (.ref C) (.ref X_Unknown) = some (sub_Unknown cn)) {O_Plan : Ad} (T_Plan : ObT K mg "Plan" O_Plan ["states", "standing", "applying"]) {O_Shell : Ad} (T_Shell : ObT K mg "Shell" O_Shell ["plan"]) (C_error_name : CalE P w K mg base 1 "error_name" ["error"] (sp_error_name K)) (C_Shell_run_Q : CalM P w K mg base 5 O_Shell "run" ["self", "words"] (sp_Shell_run_Q K)) (z_isinstance : mg "isinstance" = none) (z_str : mg "str" = none) (z___some__ : mg "__some__" = none) {tk_UNKNOWN_COMMAND : PySem.Tok} (g_UNKNOWN_COMMAND : mg "UNKNOWN_COMMAND" = some (.str (PySem.Str.ofString "unknown command") tk_UNKNOWN_COMMAND)) : FnG P w K mg base CX0 6 f fd ["self", "line"] (sp_Shell_execute_Q K) :=
  (okw_Shell_execute_Q F g_SpanError g_Unknown xc_ xm_SpanError xm_Unknown T_Plan T_Shell C_error_name C_Shell_run_Q z_isinstance z_str z___some__ g_UNKNOWN_COMMAND).imp (imp_W fun x h => pf_Shell_execute_Q x.1 x.2 h)
/-! law -/
def W_law (script : (List Int)) (Q : Bool → Prop) : Prop :=
  ((script).length ≤ 63) ∧
  (P_law_small (6 : Int) (8 : Int)) ∧
  ∀ targets : (List (Int × Int)), R_law_small (6 : Int) (8 : Int) targets →
  (P_Plan___init__ targets ([((0 : Int), (0 : Int))])) ∧
  ∀ plan : ((List ((List (Int × Int)) × (List (Int × Int)))) × (List (PySem.Str × (Int × Int))) × Bool), plan = (M_Plan___init__ targets ([((0 : Int), (0 : Int))])) →
  ∀ other : ((List ((List (Int × Int)) × (List (Int × Int)))) × (List (PySem.Str × (Int × Int))) × Bool), other = (M_Plan___init__ targets ([((0 : Int), (0 : Int))])) →
  ((targets).length + ([((2 : Int), (5 : Int))]).length ≤ 100000) ∧
  (P_law_text (cutL (targets ++ [((2 : Int), (5 : Int))]) none (some (1 : Int)))) ∧
  ∀ word : PySem.Str, word = (M_law_text (cutL (targets ++ [((2 : Int), (5 : Int))]) none (some (1 : Int)))) →
  (P_law_lines word) ∧
  (P_law_odd) ∧
  ∀ y : PyData, R_law_odd y →
  (((((M_law_lines word)).map eS)).length + (([y, (eN ()), (eI (5 : Int)), (eB true), (PyData.list [(eS (PySem.Str.ofString "undo"))]), ((eSq eS) ([(PySem.Str.ofString "undo")])), (PyData.dict [(.str (PySem.Str.ofString "undo"), eI (1 : Int))]), (eI (100000000000000000000000000000 : Int))] : (List PyData))).length ≤ 100000) ∧
  forW (fun (line : PyData) (s_ : Unit) nx_ bk_ =>
  (P_Shell_execute_Q plan line) ∧
  ((!(decide ((M_Shell_execute_Q plan line) = (PySem.Str.ofString "unknown command")))) = false → 0 ≤ (M_Plan___len__ plan) ∧ (M_Plan___len__ plan) < 2 ^ 63) ∧
  ((((!(decide ((M_Shell_execute_Q plan line) = (PySem.Str.ofString "unknown command")))) || (!(decide ((M_Plan___len__ plan) = (0 : Int))))) = true →
  Q false) ∧ (((!(decide ((M_Shell_execute_Q plan line) = (PySem.Str.ofString "unknown command")))) || (!(decide ((M_Plan___len__ plan) = (0 : Int))))) = false →
  nx_ ()))) ((((M_law_lines word)).map eS) ++ ([y, (eN ()), (eI (5 : Int)), (eB true), (PyData.list [(eS (PySem.Str.ofString "undo"))]), ((eSq eS) ([(PySem.Str.ofString "undo")])), (PyData.dict [(.str (PySem.Str.ofString "undo"), eI (1 : Int))]), (eI (100000000000000000000000000000 : Int))] : (List PyData))) () (fun (_ : Unit) =>
  (P_Plan___eq__ plan other) ∧
  ((M_Plan___eq__ plan other) = true → ((P_Plan_targets plan (none : Option Int)) ∧ (P_law_same ((eSq eP) (M_Plan_targets plan (none : Option Int))) ((eSq eP) targets)))) ∧
  Q ((M_Plan___eq__ plan other) && (M_law_same ((eSq eP) (M_Plan_targets plan (none : Option Int))) ((eSq eP) targets))))
abbrev spw_law (K : Fg) : Sp := spW K (fun x : (List Int) => [(eLs eI) x]) eB (fun (x : (List Int)) Q => W_law x Q)
theorem okw_law {f : Ad} {fd : FuncData} (F : Fun K "law" "law" s_law f fd) {O_Plan : Ad} (T_Plan : ObT K mg "Plan" O_Plan ["states", "standing", "applying"]) {O_Shell : Ad} (T_Shell : ObT K mg "Shell" O_Shell ["plan"]) (C_law_deck : Cal P w K mg base 1 "_law_deck" ["_law_script"] (sp_law_deck K)) (C_law_small : Cal P w K mg base 2 "_law_small" ["_law_deck_here", "_law_most", "_law_span"] (sp_law_small K)) (C_law_text : Cal P w K mg base 1 "_law_text" ["_law_intervals"] (sp_law_text K)) (C_law_lines : Cal P w K mg base 1 "_law_lines" ["_law_word"] (sp_law_lines K)) (C_law_same : Cal P w K mg base 5 "_law_same" ["_law_found", "_law_due"] (sp_law_same K)) (C_law_odd : Cal P w K mg base 2 "_law_odd" ["_law_deck_here"] (sp_law_odd K)) (C_Plan___init__ : CalMk P w K mg base 6 O_Plan ["self", "targets", "pieces"] (sp_Plan___init__ K)) (C_Plan_targets : CalK P w K mg base 2 O_Plan "targets" ["self", "version"] (sp_Plan_targets K)) (C_Plan___eq__ : CalM P w K mg base 8 O_Plan "__eq__" ["self", "other"] (sp_Plan___eq__ K)) (C_Plan___len__ : CalM P w K mg base 1 O_Plan "__len__" ["self"] (sp_Plan___len__ K)) (C_Shell___init__ : CalMk P w K mg base 1 O_Shell ["self", "plan"] (sp_Shell___init__ K)) (C_Shell_execute_Q : CalM P w K mg base 6 O_Shell "execute" ["self", "line"] (sp_Shell_execute_Q K)) (z_len : mg "len" = none) : FnG P w K mg base CX0 9 f fd ["_law_script"] (spw_law K) := by
  obtain ⟨f_law_deck, fd_law_deck, G_law_deck, k_law_deck, b_law_deck, m_law_deck⟩ := C_law_deck
  obtain ⟨f_law_small, fd_law_small, G_law_small, k_law_small, b_law_small, m_law_small⟩ := C_law_small
  obtain ⟨f_law_text, fd_law_text, G_law_text, k_law_text, b_law_text, m_law_text⟩ := C_law_text
  obtain ⟨f_law_lines, fd_law_lines, G_law_lines, k_law_lines, b_law_lines, m_law_lines⟩ := C_law_lines
  obtain ⟨f_law_same, fd_law_same, G_law_same, k_law_same, b_law_same, m_law_same⟩ := C_law_same
  obtain ⟨f_law_odd, fd_law_odd, G_law_odd, k_law_odd, b_law_odd, m_law_odd⟩ := C_law_odd
  obtain ⟨f_Plan___init__, fd_Plan___init__, G_Plan___init__, mk_Plan___init__, b_Plan___init__⟩ := C_Plan___init__
  obtain ⟨f_Plan_targets, fd_Plan_targets, ds_Plan_targets, G_Plan_targets, m_Plan_targets, b_Plan_targets, v_Plan_targets⟩ := C_Plan_targets
  obtain ⟨f_Plan___eq__, fd_Plan___eq__, G_Plan___eq__, m_Plan___eq__, b_Plan___eq__⟩ := C_Plan___eq__
  obtain ⟨f_Plan___len__, fd_Plan___len__, G_Plan___len__, m_Plan___len__, b_Plan___len__⟩ := C_Plan___len__
  obtain ⟨f_Shell___init__, fd_Shell___init__, G_Shell___init__, mk_Shell___init__, b_Shell___init__⟩ := C_Shell___init__
  obtain ⟨f_Shell_execute_Q, fd_Shell_execute_Q, G_Shell_execute_Q, m_Shell_execute_Q, b_Shell_execute_Q⟩ := C_Shell_execute_Q
  refine okP F sc_law (fun _ => rfl) (fun cdv A outer s H E hr hgd => ?_)
  have hu65 := rm65 hr
  refine ⟨_, (pss_cons (ps_set (i := 1) sc_law.nd rfl (by first | exact Or.inl rfl | exact Or.inr rfl) (pe_callG G_law_deck (hr.mono (by decide)) hgd (by rfl) m_law_deck k_law_deck b_law_deck .nil pass0 (pa_cons (pv 0) pa_nil)))
      (pss_cons (ps_set (i := 2) sc_law.nd rfl (by first | exact Or.inl rfl | exact Or.inr rfl) (pe_callG G_law_small (hr.mono (by decide)) hgd (by rfl) m_law_small k_law_small b_law_small .nil pass0 (pa_cons (pv 1) (pa_cons pe_int (pa_cons pe_int pa_nil)))))
      (pss_cons (ps_par (i := 3) (j := 4) (by rfl) sc_law.nd rfl rfl (by decide) rfl rfl (pa_cons (pe_makeG mk_Plan___init__ G_Plan___init__ (hr.mono (by decide)) hgd (by rfl) T_Plan.mgC b_Plan___init__ .nil pass0 (pa_cons (pv 2) (pa_cons (pe_tup (pa_cons (pe_tup (pa_cons pe_int (pa_cons pe_int pa_nil))) pa_nil)) pa_nil))) (pa_cons (pe_makeG mk_Plan___init__ G_Plan___init__ (hr.mono (by decide)) hgd (by rfl) T_Plan.mgC b_Plan___init__ .nil pass0 (pa_cons (pv 2) (pa_cons (pe_tup (pa_cons (pe_tup (pa_cons pe_int (pa_cons pe_int pa_nil))) pa_nil)) pa_nil))) pa_nil)) (by rfl))
      (pss_cons (ps_set (i := 5) sc_law.nd rfl (by first | exact Or.inl rfl | exact Or.inr rfl) (pe_makeG mk_Shell___init__ G_Shell___init__ (hr.mono (by decide)) hgd (by rfl) T_Shell.mgC b_Shell___init__ .nil pass0 (pa_cons (pv 3) pa_nil)))
      (pss_cons (ps_set (i := 6) sc_law.nd rfl (by first | exact Or.inl rfl | exact Or.inr rfl) (pe_callG G_law_text (hr.mono (by decide)) hgd (by rfl) m_law_text k_law_text b_law_text .nil pass0 (pa_cons (pe_slice (sl_tupK K rfl) (pe_op (op_catTK K rfl) (pv 2) (pe_tup (pa_cons (pe_tup (pa_cons pe_int (pa_cons pe_int pa_nil))) pa_nil))) po_none (po_some pe_int)) pa_nil)))
      (pss_cons (ps_for PassesOwn.never rfl (pi_listK K rfl (pe_op (op_catLK K rfl) (pe_callG G_law_lines (hr.mono (by decide)) hgd (by rfl) m_law_lines k_law_lines b_law_lines .nil pass0 (pa_cons (pv 6) pa_nil)) (pe_lst (pa_cons (pe_callG G_law_odd (hr.mono (by decide)) hgd (by rfl) m_law_odd k_law_odd b_law_odd .nil pass0 (pa_cons (pv 1) pa_nil)) (pa_cons pe_non (pa_cons pe_int (pa_cons pe_bl (pa_cons (pe_lst (pa_cons pe_str pa_nil)) (pa_cons (pe_tup (pa_cons pe_str pa_nil)) (pa_cons (pe_disp (pps_cons pe_str pe_int pps_nil) rfl rfl (by decide) (by decide)) (pa_cons (pe_op op_pow pe_int pe_int) pa_nil))))))))))) (pg_name (i := 7) sc_law.nd rfl (by first | exact Or.inl rfl | exact Or.inr rfl))
      (pss_cons (ps_if (PW.pt (pw_or (pt_cmpR op_ne (pe_methG (pv 5) T_Shell.cl m_Shell_execute_Q G_Shell_execute_Q (hr.mono (by decide)) hgd b_Shell_execute_Q .nil pass0 (pa_cons (pv 7) pa_nil)) pe_str (nomark _)) (pw_or1 (pt_cmpR op_ne (pe_callB (cr_lenO m_Plan___len__ G_Plan___len__ (hr.mono (by decide)) hgd b_Plan___len__ pass0) (by rfl) z_len (by decide +kernel) (pa_cons (pv 3) pa_nil)) pe_int (nomark _))))) (pss_cons (ps_ret pe_bl)
      pss_nil) pss_nil)
      pss_nil))
      (pss_cons (ps_ret (pe_and (pe_cmpR (op_eqO m_Plan___eq__ G_Plan___eq__ (hr.mono (by decide)) hgd b_Plan___eq__ pass0) (pv 3) (pv 4) (nomark _)) (pe_one (pe_callG G_law_same (hr.mono (by decide)) hgd (by rfl) m_law_same k_law_same b_law_same .nil pass0 (pa_cons (pe_meth0G (pv 3) T_Plan.cl m_Plan_targets G_Plan_targets (hr.mono (by decide)) hgd b_Plan_targets v_Plan_targets pass0) (pa_cons (pv 2) pa_nil))))))
      pss_nil))))))), fun x hp => ?_⟩
  have hm : 0 + 900030 ≤ DB := Nat.le_trans (Nat.le_of_ble_eq_true rfl : _ ≤ 2 ^ 512) db_ge
  obtain ⟨script, Q⟩ := x
  have h : W_law script Q := hp
  unfold W_law at h
  show SJ K _ [.da ((eLs eI) script), .un, .un, .un, .un, .un, .un, .un] _
  refine sj_seq ?_
  obtain ⟨g1_, h⟩ := h
  refine ej_deck (eva_cons (ev_var rfl) eva_nil) g1_ (fun p => ?_)
  show SJ K _ [.da ((eLs eI) script), .ow (dkR p 0), .un, .un, .un, .un, .un, .un] _
  refine sj_seq ?_
  refine sj_setJ ?_
  obtain ⟨g2_, h⟩ := h
  refine ej_callD dkR_eq rfl (eja_of (eva_cons ev_int (eva_cons ev_int eva_nil)) ⟨((6 : Int), (8 : Int)), 0, rfl, rfl, g2_, (by show 0 + 900015 ≤ DB; omega), ?_⟩)
  rintro _ ⟨targets, rfl, targetsq⟩
  have h := h targets targetsq
  show SJ K _ [.da ((eLs eI) script), .ow (dkR p (0 + 900015)), .da ((eSq eP) targets), .un, .un, .un, .un, .un] _
  refine sj_seq ?_
  obtain ⟨g3_, h⟩ := h
  refine sj_par (eja_of (eva_cons (ev_mkM (plC T_Plan) (targets, [((0 : Int), (0 : Int))]) (eva_cons (ev_var rfl) (eva_cons (ev_tup (eva_cons (ev_tup (eva_cons ev_int (eva_cons ev_int eva_nil))) eva_nil)) eva_nil)) g3_) (eva_cons (ev_mkM (plC T_Plan) (targets, [((0 : Int), (0 : Int))]) (eva_cons (ev_var rfl) (eva_cons (ev_tup (eva_cons (ev_tup (eva_cons ev_int (eva_cons ev_int eva_nil))) eva_nil)) eva_nil)) g3_) eva_nil)) ⟨_, _, rfl, ?_⟩)
  show SJ K _ [.da ((eLs eI) script), .ow (dkR p (0 + 900015)), .da ((eSq eP) targets), .da (eOb_Plan (M_Plan___init__ targets ([((0 : Int), (0 : Int))]))), .da (eOb_Plan (M_Plan___init__ targets ([((0 : Int), (0 : Int))]))), .un, .un, .un] _
  refine sj_nameV ((M_Plan___init__ targets ([((0 : Int), (0 : Int))])) : ((List ((List (Int × Int)) × (List (Int × Int)))) × (List (PySem.Str × (Int × Int))) × Bool)) (fun plan => [.da ((eLs eI) script), .ow (dkR p (0 + 900015)), .da ((eSq eP) targets), .da (eOb_Plan plan), .da (eOb_Plan (M_Plan___init__ targets ([((0 : Int), (0 : Int))]))), .un, .un, .un]) (fun plan planh => ?_)
  have h := h plan planh
  show SJ K _ [.da ((eLs eI) script), .ow (dkR p (0 + 900015)), .da ((eSq eP) targets), .da (eOb_Plan plan), .da (eOb_Plan (M_Plan___init__ targets ([((0 : Int), (0 : Int))]))), .un, .un, .un] _
  refine sj_nameV ((M_Plan___init__ targets ([((0 : Int), (0 : Int))])) : ((List ((List (Int × Int)) × (List (Int × Int)))) × (List (PySem.Str × (Int × Int))) × Bool)) (fun other => [.da ((eLs eI) script), .ow (dkR p (0 + 900015)), .da ((eSq eP) targets), .da (eOb_Plan plan), .da (eOb_Plan other), .un, .un, .un]) (fun other otherh => ?_)
  have h := h other otherh
  refine sj_seq ?_
  refine sj_set (ev_is (d1 := eOb_Shell plan) (ev_mkShD (shC T_Shell) (eva_cons (ev_var rfl) eva_nil)) rfl) ?_
  show SJ K _ [.da ((eLs eI) script), .ow (dkR p (0 + 900015)), .da ((eSq eP) targets), .da (eOb_Plan plan), .da (eOb_Plan other), .da (eOb_Shell plan), .un, .un] _
  refine sj_seq ?_
  obtain ⟨g4_, g5_, h⟩ := h
  refine sj_set (ev_is (d1 := eS (M_law_text (cutL (targets ++ [((2 : Int), (5 : Int))]) none (some (1 : Int))))) (ev_call (cutL (targets ++ [((2 : Int), (5 : Int))]) none (some (1 : Int))) (eva_cons (ev_is (d1 := eSq eP (cutL (targets ++ [((2 : Int), (5 : Int))]) none (some (1 : Int)))) (ev_slT (ev_is (d1 := eSq eP (targets ++ [((2 : Int), (5 : Int))])) (ev_op (ev_var rfl) (ev_tup (eva_cons (ev_tup (eva_cons ev_int (eva_cons ev_int eva_nil))) eva_nil)) (rd_catA (ds := List.map eP targets) (es := List.map eP ([((2 : Int), (5 : Int))])) (by simpa only [List.length_map] using g4_))) (congrArg PyData.tuple (List.map_append ..).symm)) eo_no (eo_some ev_int)) (congrArg PyData.tuple (cutD_map ..))) eva_nil) g5_) rfl) ?_
  show SJ K _ [.da ((eLs eI) script), .ow (dkR p (0 + 900015)), .da ((eSq eP) targets), .da (eOb_Plan plan), .da (eOb_Plan other), .da (eOb_Shell plan), .da (eS (M_law_text (cutL (targets ++ [((2 : Int), (5 : Int))]) none (some (1 : Int))))), .un] _
  refine sj_nameV ((M_law_text (cutL (targets ++ [((2 : Int), (5 : Int))]) none (some (1 : Int)))) : PySem.Str) (fun word => [.da ((eLs eI) script), .ow (dkR p (0 + 900015)), .da ((eSq eP) targets), .da (eOb_Plan plan), .da (eOb_Plan other), .da (eOb_Shell plan), .da (eS word), .un]) (fun word wordh => ?_)
  have h := h word wordh
  refine sj_seq ?_
  refine sj_forP (dij_list ?_)
  refine ej_op ?_
  obtain ⟨g6_, h⟩ := h
  refine ej_of (ev_is (d1 := (eLs eS) (M_law_lines word)) (ev_call word (eva_cons (ev_var rfl) eva_nil) g6_) rfl) ?_
  refine ej_ofL (ejl_lst ?_)
  refine eja_cons ?_
  obtain ⟨g7_, h⟩ := h
  refine ej_callD dkR_eq rfl (eja_of eva_nil ⟨(), (0 + 900015), rfl, rfl, g7_, (by show (0 + 900015) + 8 ≤ DB; omega), ?_⟩)
  rintro y ⟨_, rfl, yq⟩
  have h := h y yq
  refine eja_cons ?_
  refine ej_of ev_non ?_
  refine eja_cons ?_
  refine ej_of ev_int ?_
  refine eja_cons ?_
  refine ej_of ev_bl ?_
  refine eja_cons ?_
  refine ej_of (ev_ofL (el_lst (eva_cons ev_str eva_nil))) ?_
  refine eja_cons ?_
  refine ej_of (ev_tup (eva_cons ev_str eva_nil)) ?_
  refine eja_cons ?_
  refine ej_of (ev_disp1 hf_int) ?_
  refine eja_cons ?_
  refine ej_of (ev_is (d1 := .int 100000000000000000000000000000) (ev_op ev_int ev_int (rd_iC (by exact ⟨by decide, by decide, by decide⟩))) (congrArg PyData.int (by decide))) ?_
  refine eja_nil ?_
  refine ⟨Nat.le_of_ble_eq_true rfl, ?_⟩
  obtain ⟨g8_, h⟩ := h
  refine ⟨(eLs eD) ((((M_law_lines word)).map eS) ++ ([y, (eN ()), (eI (5 : Int)), (eB true), (PyData.list [(eS (PySem.Str.ofString "undo"))]), ((eSq eS) ([(PySem.Str.ofString "undo")])), (PyData.dict [(.str (PySem.Str.ofString "undo"), eI (1 : Int))]), (eI (100000000000000000000000000000 : Int))] : (List PyData))), rd_catLZ (f := eD) (xs := (((M_law_lines word)).map eS)) (ys := ([y, (eN ()), (eI (5 : Int)), (eB true), (PyData.list [(eS (PySem.Str.ofString "undo"))]), ((eSq eS) ([(PySem.Str.ofString "undo")])), (PyData.dict [(.str (PySem.Str.ofString "undo"), eI (1 : Int))]), (eI (100000000000000000000000000000 : Int))] : (List PyData))) (congrArg PyData.list (map_eDZ eS (M_law_lines word))) rfl g8_, ?_⟩
  refine ⟨List.map eD ((((M_law_lines word)).map eS) ++ ([y, (eN ()), (eI (5 : Int)), (eB true), (PyData.list [(eS (PySem.Str.ofString "undo"))]), ((eSq eS) ([(PySem.Str.ofString "undo")])), (PyData.dict [(.str (PySem.Str.ofString "undo"), eI (1 : Int))]), (eI (100000000000000000000000000000 : Int))] : (List PyData))), rfl, forOk_W eD h 0 ((0 + 900015) + 8) (fun m_ (s_ : Unit) => [.da ((eLs eI) script), .ow (dkR p m_), .da ((eSq eP) targets), .da (eOb_Plan plan), .da (eOb_Plan other), .da (eOb_Shell plan), .da (eS word), .un]) [7] up_sj (fun line _ κ_ mm mmh h => ?_) (fun _ mm1 mm1h h => ?_)⟩
  · skip
    refine gj_name ?_
    show SJ K _ [.da ((eLs eI) script), .ow (dkR p mm), .da ((eSq eP) targets), .da (eOb_Plan plan), .da (eOb_Plan other), .da (eOb_Shell plan), .da (eS word), .da (eD line)] _
    refine sj_seq ?_
    obtain ⟨g9_, g10_, h⟩ := h
    refine sj_if (et_or (et_test (ev_op (ev_is (d1 := eS (M_Shell_execute_Q plan line)) (ev_meth (plan, line) (ev_var rfl) T_Shell.ns (by decide +kernel) (eva_cons (ev_var rfl) eva_nil) rfl g9_) rfl) ev_str rd_neS)) fun (hb2_ : (!(decide ((M_Shell_execute_Q plan line) = (PySem.Str.ofString "unknown command")))) = false) => (et_test (ev_op (ev_lenOb (n := (M_Plan___len__ plan)) plan (ev_var rfl) T_Plan.ns rfl trivial rfl (g10_ hb2_).1 (g10_ hb2_).2) ev_int rd_neI))) (fun (hc1_ : ((!(decide ((M_Shell_execute_Q plan line) = (PySem.Str.ofString "unknown command")))) || (!(decide ((M_Plan___len__ plan) = (0 : Int))))) = true) => ?_) (fun (hc1_ : ((!(decide ((M_Shell_execute_Q plan line) = (PySem.Str.ofString "unknown command")))) || (!(decide ((M_Plan___len__ plan) = (0 : Int))))) = false) => ?_)
    · have h := h.1 hc1_
      refine sj_seq ?_
      exact sj_ret ev_bl ⟨false, rfl, h⟩
    · have h := h.2 hc1_
      refine sj_next ?_
      refine sj_next ?_
      exact ⟨(), mm, h, (by omega), (.same (.same (.same (.same (.same (.same (.same (.un .nil))))))))⟩
  · skip
    show SJ K _ [.da ((eLs eI) script), .ow (dkR p mm1), .da ((eSq eP) targets), .da (eOb_Plan plan), .da (eOb_Plan other), .da (eOb_Shell plan), .da (eS word), .un] _
    refine sj_seq ?_
    obtain ⟨g11_, g12_, h⟩ := h
    exact sj_ret (ev_andV (ev_eqOb (b := (M_Plan___eq__ plan other)) (plan, other) (ev_var rfl) (ev_var rfl) T_Plan.ns rfl g11_ rfl) fun (hb3_ : (M_Plan___eq__ plan other) = true) => (ev_is (d1 := eB (M_law_same ((eSq eP) (M_Plan_targets plan (none : Option Int))) ((eSq eP) targets))) (ev_call (((eSq eP) (M_Plan_targets plan (none : Option Int))), ((eSq eP) targets)) (eva_cons (ev_is (d1 := (eSq eP) (M_Plan_targets plan (none : Option Int))) (ev_methD (des := [.none]) (plan, (none : Option Int)) (ev_var rfl) T_Plan.ns (by decide +kernel) eva_nil (fun F => .cons .non .nil) rfl ((g12_ hb3_).1)) rfl) (eva_cons (ev_var rfl) eva_nil)) ((g12_ hb3_).2)) rfl)) ⟨((M_Plan___eq__ plan other) && (M_law_same ((eSq eP) (M_Plan_targets plan (none : Option Int))) ((eSq eP) targets))), rfl, h⟩
theorem sp1 : PySem.Str.length (PySem.Str.ofString " ") = 1 := by decide +kernel
theorem repL_z {α : Type} (xs : List α) : repL xs 0 = [] := rfl
theorem len13 {n : Nat} (h : n < 10000000000000) : (sI (n : Int)).length ≤ 13 := by
  have e : (sI (n : Int)).length = (TL.numL n).length := by rw [← cps_num]; exact (Array.length_toList).symm
  rw [e]
  exact TL.numL_len (n := n) (k := 13) (by decide) (by omega)
def Iv2 (z : Int × Int) : Prop := 0 ≤ z.1 ∧ z.1 ≤ z.2 ∧ z.2 ≤ 2000000000000
theorem dash_len : (PySem.Str.ofString "-").length = 1 := by decide +kernel
theorem none_len : (PySem.Str.ofString "none").length = 4 := by decide +kernel
theorem as_none : AS (PySem.Str.ofString "none") := fun c hc => of_decide_eq_true (List.all_eq_true.mp (show ((PySem.Str.ofString "none").cps.toList.all fun c => decide (c < 128)) = true by decide +kernel) c hc)
theorem as_dash : AS (PySem.Str.ofString "-") := fun c hc => by
  have hc : c ∈ TL.tl (PySem.Str.ofString "-") := hc
  rw [tl_ds] at hc
  rw [List.mem_singleton.mp hc]; decide
theorem iv2_nat {z : Int × Int} (h : Iv2 z) : ∃ a b : Nat, z = ((a : Int), (b : Int)) ∧ a ≤ 2000000000000 ∧ b ≤ 2000000000000 := by
  obtain ⟨h1, h2, h3⟩ := h
  obtain ⟨a, ea⟩ := Int.eq_ofNat_of_zero_le h1
  obtain ⟨b, eb⟩ := Int.eq_ofNat_of_zero_le (show 0 ≤ z.2 by omega)
  exact ⟨a, b, Prod.ext ea eb, by omega, by omega⟩
theorem p_one {z : Int × Int} (h : Iv2 z) : ((Rp' z.1) ∧ (((sI z.1)).length + ((PySem.Str.ofString "-")).length ≤ 16000000) ∧ (Rp' z.2) ∧ ((((sI z.1) ++ (PySem.Str.ofString "-"))).length + ((sI z.2)).length ≤ 16000000)) := by
  obtain ⟨a, b, rfl, h1, h2⟩ := iv2_nat h
  have la := len13 (n := a) (by omega)
  have lb := len13 (n := b) (by omega)
  refine ⟨?_, ?_, ?_, ?_⟩
  · unfold Rp'; dsimp only; omega
  · rw [dash_len]; dsimp only; omega
  · unfold Rp'; dsimp only; omega
  · rw [str_alen, dash_len]; dsimp only; omega
theorem iv2_len {z : Int × Int} (h : Iv2 z) : (ivT z).length ≤ 27 ∧ AS (ivT z) := by
  obtain ⟨a, b, rfl, h1, h2⟩ := iv2_nat h
  have la := len13 (n := a) (by omega)
  have lb := len13 (n := b) (by omega)
  unfold ivT
  refine ⟨?_, as_app (as_app (as_num a) as_dash) (as_num b)⟩
  rw [str_alen, str_alen, dash_len]
  dsimp only
  omega
theorem sum_len {l : List (Int × Int)} (h : ∀ z ∈ l, Iv2 z) : ((l.map ivT).map fun x_ => PySem.Str.length x_).sum ≤ 27 * l.length := by
  induction l with
  | nil => exact Nat.le_refl 0
  | cons z l ih =>
    have a := (iv2_len (h z List.mem_cons_self)).1
    have b := ih fun y hy => h y (List.mem_cons_of_mem _ hy)
    rw [List.map_cons, List.map_cons, List.sum_cons, List.length_cons]
    omega
/-- a text that may be bent twice -/
def Th (n : Nat) (x : PySem.Str) : Prop := x.length ≤ n ∧ AS x
theorem p_lt {l : List (Int × Int)} (hl : l.length ≤ 24) (h : ∀ z ∈ l, Iv2 z) : P_law_text l ∧ Th 700 (M_law_text l) := by
  have s := sum_len h
  have e : (l.map fun (x_ : (Int × Int)) => (((sI x_.1) ++ (PySem.Str.ofString "-")) ++ (sI x_.2))) = l.map ivT := rfl
  refine ⟨⟨fun z hz => p_one (h z hz), ?_, ?_, ?_, ?_, trivial⟩, ?_, ?_⟩
  · split <;> omega
  · split <;> (show 1 * _ ≤ _) <;> omega
  · rw [e, List.length_map, repL_len]
    split <;> (show _ + _ * 1 ≤ _) <;> omega
  · rw [e, List.map_append, List.sum_append, List.length_append, List.length_map, sp1, repL_len]
    split
    · rw [repL_one, List.map_cons, List.map_nil, List.sum_cons, List.sum_nil, none_len]
      show _ + _ + (_ + 1 * 1) * 1 ≤ _
      omega
    · rw [repL_z, List.map_nil, List.sum_nil]
      show _ + _ + (_ + 0 * 1) * 1 ≤ _
      omega
  · unfold M_law_text
    rw [e]
    by_cases hn : l = []
    · subst hn
      rw [if_pos (decide_eq_true rfl), repL_one]
      show (Txt.join _ [PySem.Str.ofString "none"]).length ≤ 700
      rw [join_1, none_len]; omega
    · rw [if_neg (by rw [decide_eq_false hn]; exact Bool.false_ne_true), repL_z, List.append_nil]
      have j := join_lenL (PySem.Str.ofString " ") (l.map ivT)
      rw [sp1, List.length_map] at j
      have s : ((l.map ivT).map PySem.Str.length).sum ≤ 27 * l.length := s
      omega
  · unfold M_law_text
    rw [e]
    refine as_join fun p hp => ?_
    rcases List.mem_append.mp hp with q | q
    · obtain ⟨z, hz, rfl⟩ := List.mem_map.mp q
      exact (iv2_len (h z hz)).2
    · have : p = PySem.Str.ofString "none" := by
        split at q
        · rw [repL_one] at q; exact List.mem_singleton.mp q
        · exact nomatch q
      rw [this]; exact as_none

/-- no line for the word is a command -/
def wB (w : PySem.Str) : Bool := decide (w.length ≤ 100) && ((goodL w).all lnA && (M_law_lines w).all lineB)
theorem wB_00 : wB (ivT (((0 : Nat) : Int), ((0 : Nat) : Int))) = true := by decide +kernel
theorem wB_01 : wB (ivT (((0 : Nat) : Int), ((1 : Nat) : Int))) = true := by decide +kernel
theorem wB_02 : wB (ivT (((0 : Nat) : Int), ((2 : Nat) : Int))) = true := by decide +kernel
theorem wB_03 : wB (ivT (((0 : Nat) : Int), ((3 : Nat) : Int))) = true := by decide +kernel
theorem wB_04 : wB (ivT (((0 : Nat) : Int), ((4 : Nat) : Int))) = true := by decide +kernel
theorem wB_05 : wB (ivT (((0 : Nat) : Int), ((5 : Nat) : Int))) = true := by decide +kernel
theorem wB_06 : wB (ivT (((0 : Nat) : Int), ((6 : Nat) : Int))) = true := by decide +kernel
theorem wB_07 : wB (ivT (((0 : Nat) : Int), ((7 : Nat) : Int))) = true := by decide +kernel
theorem wB_11 : wB (ivT (((1 : Nat) : Int), ((1 : Nat) : Int))) = true := by decide +kernel
theorem wB_12 : wB (ivT (((1 : Nat) : Int), ((2 : Nat) : Int))) = true := by decide +kernel
theorem wB_13 : wB (ivT (((1 : Nat) : Int), ((3 : Nat) : Int))) = true := by decide +kernel
theorem wB_14 : wB (ivT (((1 : Nat) : Int), ((4 : Nat) : Int))) = true := by decide +kernel
theorem wB_15 : wB (ivT (((1 : Nat) : Int), ((5 : Nat) : Int))) = true := by decide +kernel
theorem wB_16 : wB (ivT (((1 : Nat) : Int), ((6 : Nat) : Int))) = true := by decide +kernel
theorem wB_17 : wB (ivT (((1 : Nat) : Int), ((7 : Nat) : Int))) = true := by decide +kernel
theorem wB_22 : wB (ivT (((2 : Nat) : Int), ((2 : Nat) : Int))) = true := by decide +kernel
theorem wB_23 : wB (ivT (((2 : Nat) : Int), ((3 : Nat) : Int))) = true := by decide +kernel
theorem wB_24 : wB (ivT (((2 : Nat) : Int), ((4 : Nat) : Int))) = true := by decide +kernel
theorem wB_25 : wB (ivT (((2 : Nat) : Int), ((5 : Nat) : Int))) = true := by decide +kernel
theorem wB_26 : wB (ivT (((2 : Nat) : Int), ((6 : Nat) : Int))) = true := by decide +kernel
theorem wB_27 : wB (ivT (((2 : Nat) : Int), ((7 : Nat) : Int))) = true := by decide +kernel
theorem wB_33 : wB (ivT (((3 : Nat) : Int), ((3 : Nat) : Int))) = true := by decide +kernel
theorem wB_34 : wB (ivT (((3 : Nat) : Int), ((4 : Nat) : Int))) = true := by decide +kernel
theorem wB_35 : wB (ivT (((3 : Nat) : Int), ((5 : Nat) : Int))) = true := by decide +kernel
theorem wB_36 : wB (ivT (((3 : Nat) : Int), ((6 : Nat) : Int))) = true := by decide +kernel
theorem wB_37 : wB (ivT (((3 : Nat) : Int), ((7 : Nat) : Int))) = true := by decide +kernel
theorem wB_44 : wB (ivT (((4 : Nat) : Int), ((4 : Nat) : Int))) = true := by decide +kernel
theorem wB_45 : wB (ivT (((4 : Nat) : Int), ((5 : Nat) : Int))) = true := by decide +kernel
theorem wB_46 : wB (ivT (((4 : Nat) : Int), ((6 : Nat) : Int))) = true := by decide +kernel
theorem wB_47 : wB (ivT (((4 : Nat) : Int), ((7 : Nat) : Int))) = true := by decide +kernel
theorem wB_55 : wB (ivT (((5 : Nat) : Int), ((5 : Nat) : Int))) = true := by decide +kernel
theorem wB_56 : wB (ivT (((5 : Nat) : Int), ((6 : Nat) : Int))) = true := by decide +kernel
theorem wB_57 : wB (ivT (((5 : Nat) : Int), ((7 : Nat) : Int))) = true := by decide +kernel
theorem wB_66 : wB (ivT (((6 : Nat) : Int), ((6 : Nat) : Int))) = true := by decide +kernel
theorem wB_67 : wB (ivT (((6 : Nat) : Int), ((7 : Nat) : Int))) = true := by decide +kernel
theorem wB_77 : wB (ivT (((7 : Nat) : Int), ((7 : Nat) : Int))) = true := by decide +kernel
theorem lt8 : ∀ {a : Nat}, a < 8 → a = 0 ∨ a = 1 ∨ a = 2 ∨ a = 3 ∨ a = 4 ∨ a = 5 ∨ a = 6 ∨ a = 7
  | 0, _ => .inl rfl
  | 1, _ => .inr (.inl rfl)
  | 2, _ => .inr (.inr (.inl rfl))
  | 3, _ => .inr (.inr (.inr (.inl rfl)))
  | 4, _ => .inr (.inr (.inr (.inr (.inl rfl))))
  | 5, _ => .inr (.inr (.inr (.inr (.inr (.inl rfl)))))
  | 6, _ => .inr (.inr (.inr (.inr (.inr (.inr (.inl rfl))))))
  | 7, _ => .inr (.inr (.inr (.inr (.inr (.inr (.inr rfl))))))
  | n + 8, h => by omega
theorem w36 {a b : Nat} (h : a ≤ b) (hb : b < 8) : wB (ivT ((a : Int), (b : Int))) = true := by
  rcases lt8 (Nat.lt_of_le_of_lt h hb) with rfl | rfl | rfl | rfl | rfl | rfl | rfl | rfl <;> rcases lt8 hb with rfl | rfl | rfl | rfl | rfl | rfl | rfl | rfl
  · exact wB_00
  · exact wB_01
  · exact wB_02
  · exact wB_03
  · exact wB_04
  · exact wB_05
  · exact wB_06
  · exact wB_07
  · exact absurd h (by decide)
  · exact wB_11
  · exact wB_12
  · exact wB_13
  · exact wB_14
  · exact wB_15
  · exact wB_16
  · exact wB_17
  · exact absurd h (by decide)
  · exact absurd h (by decide)
  · exact wB_22
  · exact wB_23
  · exact wB_24
  · exact wB_25
  · exact wB_26
  · exact wB_27
  · exact absurd h (by decide)
  · exact absurd h (by decide)
  · exact absurd h (by decide)
  · exact wB_33
  · exact wB_34
  · exact wB_35
  · exact wB_36
  · exact wB_37
  · exact absurd h (by decide)
  · exact absurd h (by decide)
  · exact absurd h (by decide)
  · exact absurd h (by decide)
  · exact wB_44
  · exact wB_45
  · exact wB_46
  · exact wB_47
  · exact absurd h (by decide)
  · exact absurd h (by decide)
  · exact absurd h (by decide)
  · exact absurd h (by decide)
  · exact absurd h (by decide)
  · exact wB_55
  · exact wB_56
  · exact wB_57
  · exact absurd h (by decide)
  · exact absurd h (by decide)
  · exact absurd h (by decide)
  · exact absurd h (by decide)
  · exact absurd h (by decide)
  · exact absurd h (by decide)
  · exact wB_66
  · exact wB_67
  · exact absurd h (by decide)
  · exact absurd h (by decide)
  · exact absurd h (by decide)
  · exact absurd h (by decide)
  · exact absurd h (by decide)
  · exact absurd h (by decide)
  · exact absurd h (by decide)
  · exact wB_77
theorem m_txt1 (z : Int × Int) : M_law_text [z] = ivT z := by
  unfold M_law_text
  rw [if_neg (by rw [decide_eq_false (List.cons_ne_nil _ _)]; exact Bool.false_ne_true), repL_z, List.append_nil, List.map_cons, List.map_nil, join_1]
  rfl
theorem ixn {α : Type} (s : α) : Ix [s] (-(1 : Int)) := ⟨by show -((1 : Nat) : Int) ≤ -(1 : Int); decide, by show -(1 : Int) < ((1 : Nat) : Int); decide⟩
theorem pf_law (x : List Int) (hx : x.length ≤ 63) : W_law x fun r => r = true := by
  refine ⟨hx, ⟨by omega, by omega, by omega, by omega⟩, fun ts hts => ?_⟩
  obtain ⟨s1, s2, s3⟩ := hts
  have stp : StP (ts, [((0 : Int), (0 : Int))]) := ⟨⟨⟨s1, fun z hz => by have := s3 z hz; unfold IvP; omega⟩, s2⟩, ⟨⟨List.pairwise_singleton _ _, fun z hz => by rw [List.mem_singleton.mp hz]; unfold IvP; decide⟩, (show 1 ≤ 30 by decide)⟩⟩
  refine ⟨stp, fun pl hpl ot hot => ⟨by show ts.length + 1 ≤ 100000; omega, ?_⟩⟩
  have ez : ∃ z : Int × Int, cutL (ts ++ [((2 : Int), (5 : Int))]) none (some (1 : Int)) = [z] ∧ 0 ≤ z.1 ∧ z.1 ≤ z.2 ∧ z.2 < 8 := by
    have e1 : (1 : Int) = ((1 : Nat) : Int) := rfl
    rw [e1, cutL_take]
    cases ts with
    | nil => exact ⟨_, rfl, by decide, by decide, by decide⟩
    | cons z r => exact ⟨z, rfl, s3 z List.mem_cons_self⟩
  obtain ⟨z, ez, z0, z1, z2⟩ := ez
  rw [ez]
  refine ⟨(p_lt (l := [z]) (show 1 ≤ 24 by decide) (fun y hy => by rw [List.mem_singleton.mp hy]; unfold Iv2; omega)).1, fun w hw => ?_⟩
  rw [m_txt1] at hw
  obtain ⟨a, ea⟩ := Int.eq_ofNat_of_zero_le z0
  obtain ⟨b, eb⟩ := Int.eq_ofNat_of_zero_le (show 0 ≤ z.2 by omega)
  have hz : z = ((a : Int), (b : Int)) := Prod.ext ea eb
  have wb : wB w = true := by
    rw [hw, hz]
    exact w36 (by omega) (by omega)
  unfold wB at wb
  rw [Bool.and_eq_true, Bool.and_eq_true] at wb
  refine ⟨⟨of_decide_eq_true wb.1, wb.2.1⟩, trivial, fun y hy => ⟨?_, ?_⟩⟩
  · have e : (M_law_lines w).length = 163 := by simp only [M_law_lines, goodL, headL, exA, exB, exC, vbL, tailL, List.flatMap_cons, List.flatMap_nil, List.length_append, List.length_cons, List.length_nil]
    rw [List.length_map, e]
    exact Nat.le_of_ble_eq_true rfl
  have el : M_Plan___len__ pl = 0 := by rw [hpl]; rfl
  have px : ∀ d ∈ ((((M_law_lines w)).map eS) ++ ([y, (eN ()), (eI (5 : Int)), (eB true), (PyData.list [(eS (PySem.Str.ofString "undo"))]), ((eSq eS) ([(PySem.Str.ofString "undo")])), (PyData.dict [(.str (PySem.Str.ofString "undo"), eI (1 : Int))]), (eI (100000000000000000000000000000 : Int))] : (List PyData))), P_Shell_execute_Q pl d := fun d hd => by
    rcases List.mem_append.mp hd with q | q
    · obtain ⟨l, hl, rfl⟩ := List.mem_map.mp q
      exact ⟨by simp only [eS, natZ], fun _ => List.all_eq_true.mp wb.2.2 l hl⟩
    rcases List.mem_cons.mp q with rfl | q
    · exact ⟨hy.1, fun e => by rw [hy.2] at e; exact nomatch e⟩
    have t : ∀ d ∈ ([(eN ()), (eI (5 : Int)), (eB true), (PyData.list [(eS (PySem.Str.ofString "undo"))]), ((eSq eS) ([(PySem.Str.ofString "undo")])), (PyData.dict [(.str (PySem.Str.ofString "undo"), eI (1 : Int))]), (eI (100000000000000000000000000000 : Int))] : (List PyData)), (natZ d && !isStrZ d) = true := by decide +kernel
    have m := t d q
    rw [Bool.and_eq_true, Bool.not_eq_true'] at m
    exact ⟨m.1, fun e => by rw [m.2] at e; exact nomatch e⟩
  refine forW_inv (fun _ _ => True) trivial (fun i d _ κ hd _ hκ => ⟨px d (List.mem_of_getElem? hd), fun _ => ?_, fun hc => ?_, fun _ => hκ _ trivial⟩) (fun _ _ => ?_)
  · rw [el]; exact ⟨by decide, by decide⟩
  · rw [el] at hc
    exact absurd hc (by rw [show M_Shell_execute_Q pl d = PySem.Str.ofString "unknown command" from rfl, decide_eq_true rfl, decide_eq_true rfl]; decide)
  have ep : M_Plan___eq__ pl ot = true := by
    rw [hpl, hot]
    exact decide_eq_true rfl
  have et : M_Plan_targets pl none = ts := by rw [hpl]; rfl
  refine ⟨⟨fun e => (nomatch e), fun _ => ⟨by rw [hpl]; exact ixn _, by rw [hot]; exact ixn _, trivial⟩⟩, fun _ => ⟨⟨⟨by rw [hpl]; exact List.cons_ne_nil _ _, fun i hi => nomatch hi⟩, trivial⟩, ?_⟩, ?_⟩
  · rw [et]; exact ⟨td_SP (n := 1) ts, td_SP (n := 1) ts⟩
  · show (M_Plan___eq__ pl ot && M_law_same (eSq eP (M_Plan_targets pl none)) (eSq eP ts)) = true
    rw [ep, et, same_t rfl]
    rfl
abbrev sp_law (K : Fg) : Sp := spP K (fun x : List Int => [.list (x.map .int)]) (fun x => x.length ≤ 63) (fun x d => d = .bool true)
theorem ok_law {f : Ad} {fd : FuncData} (F : Fun K "law" "law" s_law f fd) {O_Plan : Ad} (T_Plan : ObT K mg "Plan" O_Plan ["states", "standing", "applying"]) {O_Shell : Ad} (T_Shell : ObT K mg "Shell" O_Shell ["plan"]) (C_law_deck : Cal P w K mg base 1 "_law_deck" ["_law_script"] (sp_law_deck K)) (C_law_small : Cal P w K mg base 2 "_law_small" ["_law_deck_here", "_law_most", "_law_span"] (sp_law_small K)) (C_law_text : Cal P w K mg base 1 "_law_text" ["_law_intervals"] (sp_law_text K)) (C_law_lines : Cal P w K mg base 1 "_law_lines" ["_law_word"] (sp_law_lines K)) (C_law_same : Cal P w K mg base 5 "_law_same" ["_law_found", "_law_due"] (sp_law_same K)) (C_law_odd : Cal P w K mg base 2 "_law_odd" ["_law_deck_here"] (sp_law_odd K)) (C_Plan___init__ : CalMk P w K mg base 6 O_Plan ["self", "targets", "pieces"] (sp_Plan___init__ K)) (C_Plan_targets : CalK P w K mg base 2 O_Plan "targets" ["self", "version"] (sp_Plan_targets K)) (C_Plan___eq__ : CalM P w K mg base 8 O_Plan "__eq__" ["self", "other"] (sp_Plan___eq__ K)) (C_Plan___len__ : CalM P w K mg base 1 O_Plan "__len__" ["self"] (sp_Plan___len__ K)) (C_Shell___init__ : CalMk P w K mg base 1 O_Shell ["self", "plan"] (sp_Shell___init__ K)) (C_Shell_execute_Q : CalM P w K mg base 6 O_Shell "execute" ["self", "line"] (sp_Shell_execute_Q K)) (z_len : mg "len" = none) : FnG P w K mg base CX0 9 f fd ["_law_script"] (sp_law K) :=
  (okw_law F T_Plan T_Shell C_law_deck C_law_small C_law_text C_law_lines C_law_same C_law_odd C_Plan___init__ C_Plan_targets C_Plan___eq__ C_Plan___len__ C_Shell___init__ C_Shell_execute_Q z_len).imp (imp_W (V := fun _ => true) fun x h => pf_law x h)
end
end W55

namespace W55
open PySem PySem.Spec PyProof.Rows L2 Fz
theorem all_mk {l : PySem.W.OpenLaw} {w : World} {K : PySem.W.Frag} {h : Heap} {mg : Str → Option Value} {fa : Addr} (X : K.In h) (G : h.Ns mainGlobals mg) (hfa : mg "law" = some (.ref fa))
    {X_BadInterval : Addr} (n_BadInterval : PySem.W.nsIn K mainGlobals "BadInterval" = some (some (.ref X_BadInterval)))
    {X_Duplicate : Addr} (n_Duplicate : PySem.W.nsIn K mainGlobals "Duplicate" = some (some (.ref X_Duplicate)))
    {X_TooMany : Addr} (n_TooMany : PySem.W.nsIn K mainGlobals "TooMany" = some (some (.ref X_TooMany)))
    {X_Unknown : Addr} (n_Unknown : PySem.W.nsIn K mainGlobals "Unknown" = some (some (.ref X_Unknown)))
    {X_TooManyEdits : Addr} (n_TooManyEdits : PySem.W.nsIn K mainGlobals "TooManyEdits" = some (some (.ref X_TooManyEdits)))
    {X_NothingToUndo : Addr} (n_NothingToUndo : PySem.W.nsIn K mainGlobals "NothingToUndo" = some (some (.ref X_NothingToUndo)))
    {X_SpanError : Addr} (n_SpanError : PySem.W.nsIn K mainGlobals "SpanError" = some (some (.ref X_SpanError)))
    {X_Busy : Addr} (n_Busy : PySem.W.nsIn K mainGlobals "Busy" = some (some (.ref X_Busy)))
    {X_TooWide : Addr} (n_TooWide : PySem.W.nsIn K mainGlobals "TooWide" = some (some (.ref X_TooWide)))
    (s1_BadInterval : PySem.W.subIn K (.ref X_BadInterval) (.type "BaseException") = some true)
    (s2_BadInterval : PySem.W.typeIn K (.ref X_BadInterval) = some (.type "type"))
    (hg_BadInterval : PySem.W.findIn K (.ref X_BadInterval) "__getattribute__" = some (some (.builtin "BaseException.__getattribute__")))
    (hk_BadInterval : PySem.W.findIn K (.ref X_BadInterval) "__getattr__" = some none)
    (hd_BadInterval : PySem.W.hasDictIn K X_BadInterval = true)
    (ha_BadInterval : PySem.W.findIn K (.ref X_BadInterval) "__class__" = some (some (.builtin "object.__class__")))
    (hm_BadInterval : PySem.W.mroIn K X_BadInterval (.type "object") = some true)
    (hn_ : PySem.W.specialIn K (.builtin "object.__class__") "__get__" = some (some (.builtin "getset_descriptor.__get__")))
    (ht_ : PySem.W.takesIn K (.builtin "object.__class__") = some true)
    (s1_Duplicate : PySem.W.subIn K (.ref X_Duplicate) (.type "BaseException") = some true)
    (s2_Duplicate : PySem.W.typeIn K (.ref X_Duplicate) = some (.type "type"))
    (hg_Duplicate : PySem.W.findIn K (.ref X_Duplicate) "__getattribute__" = some (some (.builtin "BaseException.__getattribute__")))
    (hk_Duplicate : PySem.W.findIn K (.ref X_Duplicate) "__getattr__" = some none)
    (hd_Duplicate : PySem.W.hasDictIn K X_Duplicate = true)
    (ha_Duplicate : PySem.W.findIn K (.ref X_Duplicate) "__class__" = some (some (.builtin "object.__class__")))
    (hm_Duplicate : PySem.W.mroIn K X_Duplicate (.type "object") = some true)
    (s1_TooMany : PySem.W.subIn K (.ref X_TooMany) (.type "BaseException") = some true)
    (s2_TooMany : PySem.W.typeIn K (.ref X_TooMany) = some (.type "type"))
    (hg_TooMany : PySem.W.findIn K (.ref X_TooMany) "__getattribute__" = some (some (.builtin "BaseException.__getattribute__")))
    (hk_TooMany : PySem.W.findIn K (.ref X_TooMany) "__getattr__" = some none)
    (hd_TooMany : PySem.W.hasDictIn K X_TooMany = true)
    (ha_TooMany : PySem.W.findIn K (.ref X_TooMany) "__class__" = some (some (.builtin "object.__class__")))
    (hm_TooMany : PySem.W.mroIn K X_TooMany (.type "object") = some true)
    (s1_Unknown : PySem.W.subIn K (.ref X_Unknown) (.type "BaseException") = some true)
    (s2_Unknown : PySem.W.typeIn K (.ref X_Unknown) = some (.type "type"))
    (hg_Unknown : PySem.W.findIn K (.ref X_Unknown) "__getattribute__" = some (some (.builtin "BaseException.__getattribute__")))
    (hk_Unknown : PySem.W.findIn K (.ref X_Unknown) "__getattr__" = some none)
    (hd_Unknown : PySem.W.hasDictIn K X_Unknown = true)
    (ha_Unknown : PySem.W.findIn K (.ref X_Unknown) "__class__" = some (some (.builtin "object.__class__")))
    (hm_Unknown : PySem.W.mroIn K X_Unknown (.type "object") = some true)
    (s1_TooManyEdits : PySem.W.subIn K (.ref X_TooManyEdits) (.type "BaseException") = some true)
    (s2_TooManyEdits : PySem.W.typeIn K (.ref X_TooManyEdits) = some (.type "type"))
    (hg_TooManyEdits : PySem.W.findIn K (.ref X_TooManyEdits) "__getattribute__" = some (some (.builtin "BaseException.__getattribute__")))
    (hk_TooManyEdits : PySem.W.findIn K (.ref X_TooManyEdits) "__getattr__" = some none)
    (hd_TooManyEdits : PySem.W.hasDictIn K X_TooManyEdits = true)
    (ha_TooManyEdits : PySem.W.findIn K (.ref X_TooManyEdits) "__class__" = some (some (.builtin "object.__class__")))
    (hm_TooManyEdits : PySem.W.mroIn K X_TooManyEdits (.type "object") = some true)
    (s1_NothingToUndo : PySem.W.subIn K (.ref X_NothingToUndo) (.type "BaseException") = some true)
    (s2_NothingToUndo : PySem.W.typeIn K (.ref X_NothingToUndo) = some (.type "type"))
    (hg_NothingToUndo : PySem.W.findIn K (.ref X_NothingToUndo) "__getattribute__" = some (some (.builtin "BaseException.__getattribute__")))
    (hk_NothingToUndo : PySem.W.findIn K (.ref X_NothingToUndo) "__getattr__" = some none)
    (hd_NothingToUndo : PySem.W.hasDictIn K X_NothingToUndo = true)
    (ha_NothingToUndo : PySem.W.findIn K (.ref X_NothingToUndo) "__class__" = some (some (.builtin "object.__class__")))
    (hm_NothingToUndo : PySem.W.mroIn K X_NothingToUndo (.type "object") = some true)
    (s1_SpanError : PySem.W.subIn K (.ref X_SpanError) (.type "BaseException") = some true)
    (s2_SpanError : PySem.W.typeIn K (.ref X_SpanError) = some (.type "type"))
    (hd_SpanError : PySem.W.hasDictIn K X_SpanError = true)
    (sc_BadInterval_SpanError : PySem.W.subIn K (.ref X_BadInterval) (.ref X_SpanError) = some true)
    (sc_Duplicate_SpanError : PySem.W.subIn K (.ref X_Duplicate) (.ref X_SpanError) = some true)
    (sc_TooMany_SpanError : PySem.W.subIn K (.ref X_TooMany) (.ref X_SpanError) = some true)
    (sc_Unknown_SpanError : PySem.W.subIn K (.ref X_Unknown) (.ref X_SpanError) = some false)
    (sc_TooManyEdits_SpanError : PySem.W.subIn K (.ref X_TooManyEdits) (.ref X_SpanError) = some true)
    (sc_NothingToUndo_SpanError : PySem.W.subIn K (.ref X_NothingToUndo) (.ref X_SpanError) = some true)
    (sc_BadInterval_Unknown : PySem.W.subIn K (.ref X_BadInterval) (.ref X_Unknown) = some false)
    (sc_Duplicate_Unknown : PySem.W.subIn K (.ref X_Duplicate) (.ref X_Unknown) = some false)
    (sc_TooMany_Unknown : PySem.W.subIn K (.ref X_TooMany) (.ref X_Unknown) = some false)
    (sc_Unknown_Unknown : PySem.W.subIn K (.ref X_Unknown) (.ref X_Unknown) = some true)
    (sc_TooManyEdits_Unknown : PySem.W.subIn K (.ref X_TooManyEdits) (.ref X_Unknown) = some false)
    (sc_NothingToUndo_Unknown : PySem.W.subIn K (.ref X_NothingToUndo) (.ref X_Unknown) = some false)
    (ki_BadInterval_BadInterval : PySem.W.kitOne K (.ref X_BadInterval) (.ref X_BadInterval) = some true)
    (ki_Duplicate_BadInterval : PySem.W.kitOne K (.ref X_Duplicate) (.ref X_BadInterval) = some false)
    (ki_TooMany_BadInterval : PySem.W.kitOne K (.ref X_TooMany) (.ref X_BadInterval) = some false)
    (ki_Unknown_BadInterval : PySem.W.kitOne K (.ref X_Unknown) (.ref X_BadInterval) = some false)
    (ki_TooManyEdits_BadInterval : PySem.W.kitOne K (.ref X_TooManyEdits) (.ref X_BadInterval) = some false)
    (ki_NothingToUndo_BadInterval : PySem.W.kitOne K (.ref X_NothingToUndo) (.ref X_BadInterval) = some false)
    (ki_BadInterval_Busy : PySem.W.kitOne K (.ref X_BadInterval) (.ref X_Busy) = some false)
    (ki_Duplicate_Busy : PySem.W.kitOne K (.ref X_Duplicate) (.ref X_Busy) = some false)
    (ki_TooMany_Busy : PySem.W.kitOne K (.ref X_TooMany) (.ref X_Busy) = some false)
    (ki_Unknown_Busy : PySem.W.kitOne K (.ref X_Unknown) (.ref X_Busy) = some false)
    (ki_TooManyEdits_Busy : PySem.W.kitOne K (.ref X_TooManyEdits) (.ref X_Busy) = some false)
    (ki_NothingToUndo_Busy : PySem.W.kitOne K (.ref X_NothingToUndo) (.ref X_Busy) = some false)
    (ki_BadInterval_Duplicate : PySem.W.kitOne K (.ref X_BadInterval) (.ref X_Duplicate) = some false)
    (ki_Duplicate_Duplicate : PySem.W.kitOne K (.ref X_Duplicate) (.ref X_Duplicate) = some true)
    (ki_TooMany_Duplicate : PySem.W.kitOne K (.ref X_TooMany) (.ref X_Duplicate) = some false)
    (ki_Unknown_Duplicate : PySem.W.kitOne K (.ref X_Unknown) (.ref X_Duplicate) = some false)
    (ki_TooManyEdits_Duplicate : PySem.W.kitOne K (.ref X_TooManyEdits) (.ref X_Duplicate) = some false)
    (ki_NothingToUndo_Duplicate : PySem.W.kitOne K (.ref X_NothingToUndo) (.ref X_Duplicate) = some false)
    (ki_BadInterval_NothingToUndo : PySem.W.kitOne K (.ref X_BadInterval) (.ref X_NothingToUndo) = some false)
    (ki_Duplicate_NothingToUndo : PySem.W.kitOne K (.ref X_Duplicate) (.ref X_NothingToUndo) = some false)
    (ki_TooMany_NothingToUndo : PySem.W.kitOne K (.ref X_TooMany) (.ref X_NothingToUndo) = some false)
    (ki_Unknown_NothingToUndo : PySem.W.kitOne K (.ref X_Unknown) (.ref X_NothingToUndo) = some false)
    (ki_TooManyEdits_NothingToUndo : PySem.W.kitOne K (.ref X_TooManyEdits) (.ref X_NothingToUndo) = some false)
    (ki_NothingToUndo_NothingToUndo : PySem.W.kitOne K (.ref X_NothingToUndo) (.ref X_NothingToUndo) = some true)
    (ki_BadInterval_TooMany : PySem.W.kitOne K (.ref X_BadInterval) (.ref X_TooMany) = some false)
    (ki_Duplicate_TooMany : PySem.W.kitOne K (.ref X_Duplicate) (.ref X_TooMany) = some false)
    (ki_TooMany_TooMany : PySem.W.kitOne K (.ref X_TooMany) (.ref X_TooMany) = some true)
    (ki_Unknown_TooMany : PySem.W.kitOne K (.ref X_Unknown) (.ref X_TooMany) = some false)
    (ki_TooManyEdits_TooMany : PySem.W.kitOne K (.ref X_TooManyEdits) (.ref X_TooMany) = some false)
    (ki_NothingToUndo_TooMany : PySem.W.kitOne K (.ref X_NothingToUndo) (.ref X_TooMany) = some false)
    (ki_BadInterval_TooManyEdits : PySem.W.kitOne K (.ref X_BadInterval) (.ref X_TooManyEdits) = some false)
    (ki_Duplicate_TooManyEdits : PySem.W.kitOne K (.ref X_Duplicate) (.ref X_TooManyEdits) = some false)
    (ki_TooMany_TooManyEdits : PySem.W.kitOne K (.ref X_TooMany) (.ref X_TooManyEdits) = some false)
    (ki_Unknown_TooManyEdits : PySem.W.kitOne K (.ref X_Unknown) (.ref X_TooManyEdits) = some false)
    (ki_TooManyEdits_TooManyEdits : PySem.W.kitOne K (.ref X_TooManyEdits) (.ref X_TooManyEdits) = some true)
    (ki_NothingToUndo_TooManyEdits : PySem.W.kitOne K (.ref X_NothingToUndo) (.ref X_TooManyEdits) = some false)
    (ki_BadInterval_TooWide : PySem.W.kitOne K (.ref X_BadInterval) (.ref X_TooWide) = some false)
    (ki_Duplicate_TooWide : PySem.W.kitOne K (.ref X_Duplicate) (.ref X_TooWide) = some false)
    (ki_TooMany_TooWide : PySem.W.kitOne K (.ref X_TooMany) (.ref X_TooWide) = some false)
    (ki_Unknown_TooWide : PySem.W.kitOne K (.ref X_Unknown) (.ref X_TooWide) = some false)
    (ki_TooManyEdits_TooWide : PySem.W.kitOne K (.ref X_TooManyEdits) (.ref X_TooWide) = some false)
    (ki_NothingToUndo_TooWide : PySem.W.kitOne K (.ref X_NothingToUndo) (.ref X_TooWide) = some false)
    (ki_BadInterval_Unknown : PySem.W.kitOne K (.ref X_BadInterval) (.ref X_Unknown) = some false)
    (ki_Duplicate_Unknown : PySem.W.kitOne K (.ref X_Duplicate) (.ref X_Unknown) = some false)
    (ki_TooMany_Unknown : PySem.W.kitOne K (.ref X_TooMany) (.ref X_Unknown) = some false)
    (ki_Unknown_Unknown : PySem.W.kitOne K (.ref X_Unknown) (.ref X_Unknown) = some true)
    (ki_TooManyEdits_Unknown : PySem.W.kitOne K (.ref X_TooManyEdits) (.ref X_Unknown) = some false)
    (ki_NothingToUndo_Unknown : PySem.W.kitOne K (.ref X_NothingToUndo) (.ref X_Unknown) = some false)
    {O0 : Addr} (aC0 : PySem.W.nsIn K mainGlobals "Shell" = some (some (.ref O0))) (pg0 : PySem.W.plainGet K O0 Str.empty = true) (hd0 : PySem.W.hasDictIn K O0 = true) (po0 : PySem.W.plainOver K O0 = true) (sa0 : PySem.W.findIn K (.ref O0) "__setattr__" = some (some (.builtin "object.__setattr__"))) (mk0 : PySem.W.makesIn K O0 = true) (kc0 : PySem.W.keepIn K (.ref O0) = true)
    (nf0_0 : PySem.W.findIn K (.ref O0) "plan" = some none)
    {O1 : Addr} (aC1 : PySem.W.nsIn K mainGlobals "Plan" = some (some (.ref O1))) (pg1 : PySem.W.plainGet K O1 Str.empty = true) (hd1 : PySem.W.hasDictIn K O1 = true) (po1 : PySem.W.plainOver K O1 = true) (sa1 : PySem.W.findIn K (.ref O1) "__setattr__" = some (some (.builtin "object.__setattr__"))) (mk1 : PySem.W.makesIn K O1 = true) (kc1 : PySem.W.keepIn K (.ref O1) = true)
    (nf1_0 : PySem.W.findIn K (.ref O1) "states" = some none)
    (nf1_1 : PySem.W.findIn K (.ref O1) "standing" = some none)
    (nf1_2 : PySem.W.findIn K (.ref O1) "applying" = some none)
    (ih1 : PySem.W.findIn K (.ref O1) "__class__" = some (some (.builtin "object.__class__"))) (in1 : PySem.W.specialIn K (.builtin "object.__class__") "__get__" = some (some (.builtin "getset_descriptor.__get__"))) (it1 : PySem.W.takesIn K (.builtin "object.__class__") = some true) (im1 : PySem.W.mroIn K O1 (.type "object") = some true)
    {f0 : Addr} {od0 an0 : Option Addr} {sl0 : Array (Option Value)} {oc0 kV0 dc0 pm0 cd0 ct0 : Value}
    (a0 : PySem.W.nsIn K mainGlobals "_law_deck" = some (some (.ref f0)))
    (l0 : K.lookup f0 = some ⟨oc0, od0, .func (PySem.W.fnOf "_law_deck" "_law_deck" (defArgs s_law_deck) (defBody s_law_deck) (defScope s_law_deck) .none kV0 dc0 pm0 an0 cd0 ct0), sl0⟩) (c0 : PySem.W.codeIn K cd0 "_law_deck" = true) (k0 : PySem.W.keepIn K (.ref f0) = true)
    {f1 : Addr} {od1 an1 : Option Addr} {sl1 : Array (Option Value)} {oc1 kV1 dc1 pm1 cd1 ct1 : Value}
    (a1 : PySem.W.nsIn K mainGlobals "_law_text" = some (some (.ref f1)))
    (l1 : K.lookup f1 = some ⟨oc1, od1, .func (PySem.W.fnOf "_law_text" "_law_text" (defArgs s_law_text) (defBody s_law_text) (defScope s_law_text) .none kV1 dc1 pm1 an1 cd1 ct1), sl1⟩) (c1 : PySem.W.codeIn K cd1 "_law_text" = true) (k1 : PySem.W.keepIn K (.ref f1) = true)
    {f2 : Addr} {od2 an2 : Option Addr} {sl2 : Array (Option Value)} {oc2 kV2 dc2 pm2 cd2 ct2 : Value}
    (a2 : PySem.W.nsIn K mainGlobals "_law_lines" = some (some (.ref f2)))
    (l2 : K.lookup f2 = some ⟨oc2, od2, .func (PySem.W.fnOf "_law_lines" "_law_lines" (defArgs s_law_lines) (defBody s_law_lines) (defScope s_law_lines) .none kV2 dc2 pm2 an2 cd2 ct2), sl2⟩) (c2 : PySem.W.codeIn K cd2 "_law_lines" = true) (k2 : PySem.W.keepIn K (.ref f2) = true)
    {f3 : Addr} {od3 an3 : Option Addr} {sl3 : Array (Option Value)} {oc3 kV3 dc3 pm3 cd3 ct3 : Value}
    (a3 : PySem.W.findIn K (.ref O1) "__len__" = some (some (.ref f3))) (i3 : PySem.W.isFn K (.ref f3) = true)
    (l3 : K.lookup f3 = some ⟨oc3, od3, .func (PySem.W.fnOf "__len__" "Plan.__len__" (defArgs s_Plan___len__) (defBody s_Plan___len__) (defScope s_Plan___len__) .none kV3 dc3 pm3 an3 cd3 ct3), sl3⟩) (c3 : PySem.W.codeIn K cd3 "Plan.__len__" = true) (k3 : PySem.W.keepIn K (.ref f3) = true)
    {f4 : Addr} {od4 an4 : Option Addr} {sl4 : Array (Option Value)} {oc4 kV4 dc4 pm4 cd4 ct4 : Value}
    (a4 : PySem.W.findIn K (.ref O0) "__init__" = some (some (.ref f4))) (i4 : PySem.W.isFn K (.ref f4) = true)
    (l4 : K.lookup f4 = some ⟨oc4, od4, .func (PySem.W.fnOf "__init__" "Shell.__init__" (defArgs s_Shell___init__) (defBody s_Shell___init__) (defScope s_Shell___init__) .none kV4 dc4 pm4 an4 cd4 ct4), sl4⟩) (c4 : PySem.W.codeIn K cd4 "Shell.__init__" = true) (k4 : PySem.W.keepIn K (.ref f4) = true)
    {f5 : Addr} {od5 an5 : Option Addr} {sl5 : Array (Option Value)} {oc5 kV5 dc5 pm5 cd5 ct5 : Value}
    (a5 : PySem.W.nsIn K mainGlobals "_law_draw" = some (some (.ref f5)))
    (l5 : K.lookup f5 = some ⟨oc5, od5, .func (PySem.W.fnOf "_law_draw" "_law_draw" (defArgs s_law_draw) (defBody s_law_draw) (defScope s_law_draw) .none kV5 dc5 pm5 an5 cd5 ct5), sl5⟩) (c5 : PySem.W.codeIn K cd5 "_law_draw" = true) (k5 : PySem.W.keepIn K (.ref f5) = true)
    {f6 : Addr} {od6 an6 : Option Addr} {sl6 : Array (Option Value)} {oc6 kV6 dc6 pm6 cd6 ct6 : Value}
    (a6 : PySem.W.findIn K (.ref O1) "state_at" = some (some (.ref f6))) (i6 : PySem.W.isFn K (.ref f6) = true)
    (l6 : K.lookup f6 = some ⟨oc6, od6, .func (PySem.W.fnOf "state_at" "Plan.state_at" (defArgs s_Plan_state_at) (defBody s_Plan_state_at) (defScope s_Plan_state_at) .none kV6 dc6 pm6 an6 cd6 ct6), sl6⟩) (c6 : PySem.W.codeIn K cd6 "Plan.state_at" = true) (k6 : PySem.W.keepIn K (.ref f6) = true)
    {f7 : Addr} {od7 an7 : Option Addr} {sl7 : Array (Option Value)} {oc7 kV7 dc7 pm7 cd7 ct7 : Value}
    (a7 : PySem.W.nsIn K mainGlobals "error_name" = some (some (.ref f7)))
    (l7 : K.lookup f7 = some ⟨oc7, od7, .func (PySem.W.fnOf "error_name" "error_name" (defArgs s_error_name) (defBody s_error_name) (defScope s_error_name) .none kV7 dc7 pm7 an7 cd7 ct7), sl7⟩) (c7 : PySem.W.codeIn K cd7 "error_name" = true) (k7 : PySem.W.keepIn K (.ref f7) = true)
    {f8 : Addr} {od8 an8 : Option Addr} {sl8 : Array (Option Value)} {oc8 kV8 dc8 pm8 cd8 ct8 : Value}
    (a8 : PySem.W.nsIn K mainGlobals "is_ascending" = some (some (.ref f8)))
    (l8 : K.lookup f8 = some ⟨oc8, od8, .func (PySem.W.fnOf "is_ascending" "is_ascending" (defArgs s_is_ascending) (defBody s_is_ascending) (defScope s_is_ascending) .none kV8 dc8 pm8 an8 cd8 ct8), sl8⟩) (c8 : PySem.W.codeIn K cd8 "is_ascending" = true) (k8 : PySem.W.keepIn K (.ref f8) = true)
    {f9 : Addr} {od9 an9 : Option Addr} {sl9 : Array (Option Value)} {oc9 kV9 dc9 pm9 cd9 ct9 : Value}
    (a9 : PySem.W.nsIn K mainGlobals "parse_number" = some (some (.ref f9)))
    (l9 : K.lookup f9 = some ⟨oc9, od9, .func (PySem.W.fnOf "parse_number" "parse_number" (defArgs s_parse_number) (defBody s_parse_number) (defScope s_parse_number) .none kV9 dc9 pm9 an9 cd9 ct9), sl9⟩) (c9 : PySem.W.codeIn K cd9 "parse_number" = true) (k9 : PySem.W.keepIn K (.ref f9) = true)
    {f10 : Addr} {od10 an10 : Option Addr} {sl10 : Array (Option Value)} {oc10 kV10 dc10 pm10 cd10 ct10 : Value}
    (a10 : PySem.W.nsIn K mainGlobals "is_number" = some (some (.ref f10)))
    (l10 : K.lookup f10 = some ⟨oc10, od10, .func (PySem.W.fnOf "is_number" "is_number" (defArgs s_is_number) (defBody s_is_number) (defScope s_is_number) .none kV10 dc10 pm10 an10 cd10 ct10), sl10⟩) (c10 : PySem.W.codeIn K cd10 "is_number" = true) (k10 : PySem.W.keepIn K (.ref f10) = true)
    {f11 : Addr} {od11 an11 : Option Addr} {sl11 : Array (Option Value)} {oc11 kV11 dc11 pm11 cd11 ct11 : Value}
    (a11 : PySem.W.findIn K (.ref O0) "answer" = some (some (.ref f11))) (i11 : PySem.W.isFn K (.ref f11) = true)
    (l11 : K.lookup f11 = some ⟨oc11, od11, .func (PySem.W.fnOf "answer" "Shell.answer" (defArgs s_Shell_answer_Q) (defBody s_Shell_answer_Q) (defScope s_Shell_answer_Q) .none kV11 dc11 pm11 an11 cd11 ct11), sl11⟩) (c11 : PySem.W.codeIn K cd11 "Shell.answer" = true) (k11 : PySem.W.keepIn K (.ref f11) = true)
    {f12 : Addr} {od12 an12 : Option Addr} {sl12 : Array (Option Value)} {oc12 kV12 dc12 pm12 cd12 ct12 : Value}
    (a12 : PySem.W.nsIn K mainGlobals "_law_small" = some (some (.ref f12)))
    (l12 : K.lookup f12 = some ⟨oc12, od12, .func (PySem.W.fnOf "_law_small" "_law_small" (defArgs s_law_small) (defBody s_law_small) (defScope s_law_small) .none kV12 dc12 pm12 an12 cd12 ct12), sl12⟩) (c12 : PySem.W.codeIn K cd12 "_law_small" = true) (k12 : PySem.W.keepIn K (.ref f12) = true)
    {f13 : Addr} {od13 an13 : Option Addr} {sl13 : Array (Option Value)} {oc13 kV13 dc13 pm13 cd13 ct13 : Value}
    (a13 : PySem.W.nsIn K mainGlobals "_law_odd" = some (some (.ref f13)))
    (l13 : K.lookup f13 = some ⟨oc13, od13, .func (PySem.W.fnOf "_law_odd" "_law_odd" (defArgs s_law_odd) (defBody s_law_odd) (defScope s_law_odd) .none kV13 dc13 pm13 an13 cd13 ct13), sl13⟩) (c13 : PySem.W.codeIn K cd13 "_law_odd" = true) (k13 : PySem.W.keepIn K (.ref f13) = true)
    {f14 : Addr} {od14 an14 : Option Addr} {sl14 : Array (Option Value)} {oc14  dc14 pm14 cd14 ct14 : Value}
    {kD14 : Addr}
    (a14 : PySem.W.findIn K (.ref O1) "targets" = some (some (.ref f14))) (i14 : PySem.W.isFn K (.ref f14) = true)
    (l14 : K.lookup f14 = some ⟨oc14, od14, .func (PySem.W.fnOf "targets" "Plan.targets" (defArgs s_Plan_targets) (defBody s_Plan_targets) (defScope s_Plan_targets) .none (.ref kD14) dc14 pm14 an14 cd14 ct14), sl14⟩) (c14 : PySem.W.codeIn K cd14 "Plan.targets" = true) (k14 : PySem.W.keepIn K (.ref f14) = true)
    (kw14 : PySem.W.nsIn K kD14 "version" = some (some .none))
    {f15 : Addr} {od15 an15 : Option Addr} {sl15 : Array (Option Value)} {oc15 kV15 dc15 pm15 cd15 ct15 : Value}
    (a15 : PySem.W.nsIn K mainGlobals "is_position" = some (some (.ref f15)))
    (l15 : K.lookup f15 = some ⟨oc15, od15, .func (PySem.W.fnOf "is_position" "is_position" (defArgs s_is_position) (defBody s_is_position) (defScope s_is_position) .none kV15 dc15 pm15 an15 cd15 ct15), sl15⟩) (c15 : PySem.W.codeIn K cd15 "is_position" = true) (k15 : PySem.W.keepIn K (.ref f15) = true)
    {f16 : Addr} {od16 an16 : Option Addr} {sl16 : Array (Option Value)} {oc16 kV16 dc16 pm16 cd16 ct16 : Value}
    (a16 : PySem.W.nsIn K mainGlobals "is_interval" = some (some (.ref f16)))
    (l16 : K.lookup f16 = some ⟨oc16, od16, .func (PySem.W.fnOf "is_interval" "is_interval" (defArgs s_is_interval) (defBody s_is_interval) (defScope s_is_interval) .none kV16 dc16 pm16 an16 cd16 ct16), sl16⟩) (c16 : PySem.W.codeIn K cd16 "is_interval" = true) (k16 : PySem.W.keepIn K (.ref f16) = true)
    {f17 : Addr} {od17 an17 : Option Addr} {sl17 : Array (Option Value)} {oc17 kV17 dc17 pm17 cd17 ct17 : Value}
    (a17 : PySem.W.nsIn K mainGlobals "targets_error" = some (some (.ref f17)))
    (l17 : K.lookup f17 = some ⟨oc17, od17, .func (PySem.W.fnOf "targets_error" "targets_error" (defArgs s_targets_error) (defBody s_targets_error) (defScope s_targets_error) .none kV17 dc17 pm17 an17 cd17 ct17), sl17⟩) (c17 : PySem.W.codeIn K cd17 "targets_error" = true) (k17 : PySem.W.keepIn K (.ref f17) = true)
    {f18 : Addr} {od18 an18 : Option Addr} {sl18 : Array (Option Value)} {oc18 kV18 dc18 pm18 cd18 ct18 : Value}
    (a18 : PySem.W.nsIn K mainGlobals "are_intervals" = some (some (.ref f18)))
    (l18 : K.lookup f18 = some ⟨oc18, od18, .func (PySem.W.fnOf "are_intervals" "are_intervals" (defArgs s_are_intervals) (defBody s_are_intervals) (defScope s_are_intervals) .none kV18 dc18 pm18 an18 cd18 ct18), sl18⟩) (c18 : PySem.W.codeIn K cd18 "are_intervals" = true) (k18 : PySem.W.keepIn K (.ref f18) = true)
    {f19 : Addr} {od19 an19 : Option Addr} {sl19 : Array (Option Value)} {oc19 kV19 dc19 pm19 cd19 ct19 : Value}
    (a19 : PySem.W.nsIn K mainGlobals "parse_interval" = some (some (.ref f19)))
    (l19 : K.lookup f19 = some ⟨oc19, od19, .func (PySem.W.fnOf "parse_interval" "parse_interval" (defArgs s_parse_interval) (defBody s_parse_interval) (defScope s_parse_interval) .none kV19 dc19 pm19 an19 cd19 ct19), sl19⟩) (c19 : PySem.W.codeIn K cd19 "parse_interval" = true) (k19 : PySem.W.keepIn K (.ref f19) = true)
    {f20 : Addr} {od20 an20 : Option Addr} {sl20 : Array (Option Value)} {oc20 kV20 dc20 pm20 cd20 ct20 : Value}
    (a20 : PySem.W.nsIn K mainGlobals "_law_same" = some (some (.ref f20)))
    (l20 : K.lookup f20 = some ⟨oc20, od20, .func (PySem.W.fnOf "_law_same" "_law_same" (defArgs s_law_same) (defBody s_law_same) (defScope s_law_same) .none kV20 dc20 pm20 an20 cd20 ct20), sl20⟩) (c20 : PySem.W.codeIn K cd20 "_law_same" = true) (k20 : PySem.W.keepIn K (.ref f20) = true)
    {f21 : Addr} {od21 an21 : Option Addr} {sl21 : Array (Option Value)} {oc21 kV21 dc21 pm21 cd21 ct21 : Value}
    (a21 : PySem.W.nsIn K mainGlobals "is_pieces" = some (some (.ref f21)))
    (l21 : K.lookup f21 = some ⟨oc21, od21, .func (PySem.W.fnOf "is_pieces" "is_pieces" (defArgs s_is_pieces) (defBody s_is_pieces) (defScope s_is_pieces) .none kV21 dc21 pm21 an21 cd21 ct21), sl21⟩) (c21 : PySem.W.codeIn K cd21 "is_pieces" = true) (k21 : PySem.W.keepIn K (.ref f21) = true)
    {f22 : Addr} {od22 an22 : Option Addr} {sl22 : Array (Option Value)} {oc22 kV22 dc22 pm22 cd22 ct22 : Value}
    (a22 : PySem.W.findIn K (.ref O0) "run" = some (some (.ref f22))) (i22 : PySem.W.isFn K (.ref f22) = true)
    (l22 : K.lookup f22 = some ⟨oc22, od22, .func (PySem.W.fnOf "run" "Shell.run" (defArgs s_Shell_run_Q) (defBody s_Shell_run_Q) (defScope s_Shell_run_Q) .none kV22 dc22 pm22 an22 cd22 ct22), sl22⟩) (c22 : PySem.W.codeIn K cd22 "Shell.run" = true) (k22 : PySem.W.keepIn K (.ref f22) = true)
    {f23 : Addr} {od23 an23 : Option Addr} {sl23 : Array (Option Value)} {oc23 kV23 dc23 pm23 cd23 ct23 : Value}
    (a23 : PySem.W.findIn K (.ref O1) "__init__" = some (some (.ref f23))) (i23 : PySem.W.isFn K (.ref f23) = true)
    (l23 : K.lookup f23 = some ⟨oc23, od23, .func (PySem.W.fnOf "__init__" "Plan.__init__" (defArgs s_Plan___init__) (defBody s_Plan___init__) (defScope s_Plan___init__) .none kV23 dc23 pm23 an23 cd23 ct23), sl23⟩) (c23 : PySem.W.codeIn K cd23 "Plan.__init__" = true) (k23 : PySem.W.keepIn K (.ref f23) = true)
    {f24 : Addr} {od24 an24 : Option Addr} {sl24 : Array (Option Value)} {oc24 kV24 dc24 pm24 cd24 ct24 : Value}
    (a24 : PySem.W.findIn K (.ref O0) "execute" = some (some (.ref f24))) (i24 : PySem.W.isFn K (.ref f24) = true)
    (l24 : K.lookup f24 = some ⟨oc24, od24, .func (PySem.W.fnOf "execute" "Shell.execute" (defArgs s_Shell_execute_Q) (defBody s_Shell_execute_Q) (defScope s_Shell_execute_Q) .none kV24 dc24 pm24 an24 cd24 ct24), sl24⟩) (c24 : PySem.W.codeIn K cd24 "Shell.execute" = true) (k24 : PySem.W.keepIn K (.ref f24) = true)
    {f25 : Addr} {od25 an25 : Option Addr} {sl25 : Array (Option Value)} {oc25 kV25 dc25 pm25 cd25 ct25 : Value}
    (a25 : PySem.W.findIn K (.ref O1) "__eq__" = some (some (.ref f25))) (i25 : PySem.W.isFn K (.ref f25) = true)
    (l25 : K.lookup f25 = some ⟨oc25, od25, .func (PySem.W.fnOf "__eq__" "Plan.__eq__" (defArgs s_Plan___eq__) (defBody s_Plan___eq__) (defScope s_Plan___eq__) .none kV25 dc25 pm25 an25 cd25 ct25), sl25⟩) (c25 : PySem.W.codeIn K cd25 "Plan.__eq__" = true) (k25 : PySem.W.keepIn K (.ref f25) = true)
    {f26 : Addr} {od26 an26 : Option Addr} {sl26 : Array (Option Value)} {oc26 kV26 dc26 pm26 cd26 ct26 : Value}
    (a26 : PySem.W.nsIn K mainGlobals "law" = some (some (.ref f26)))
    (l26 : K.lookup f26 = some ⟨oc26, od26, .func (PySem.W.fnOf "law" "law" (defArgs s_law) (defBody s_law) (defScope s_law) .none kV26 dc26 pm26 an26 cd26 ct26), sl26⟩) (c26 : PySem.W.codeIn K cd26 "law" = true) (k26 : PySem.W.keepIn K (.ref f26) = true)
    (z0 : PySem.W.nsIn K mainGlobals "abs" = some none) (z1 : PySem.W.nsIn K mainGlobals "int" = some none) (z2 : PySem.W.nsIn K mainGlobals "str" = some none) (z3 : PySem.W.nsIn K mainGlobals "len" = some none) (z4 : PySem.W.nsIn K mainGlobals "isinstance" = some none) (z5 : PySem.W.nsIn K mainGlobals "bool" = some none) (z6 : PySem.W.nsIn K mainGlobals "zip" = some none) (z7 : PySem.W.nsIn K mainGlobals "all" = some none) (z8 : PySem.W.nsIn K mainGlobals "range" = some none) (z9 : PySem.W.nsIn K mainGlobals "tuple" = some none) (z10 : PySem.W.nsIn K mainGlobals "sorted" = some none) (z11 : PySem.W.nsIn K mainGlobals "set" = some none) (z12 : PySem.W.nsIn K mainGlobals "enumerate" = some none) (z13 : PySem.W.nsIn K mainGlobals "__pair__" = some none) (z14 : PySem.W.nsIn K mainGlobals "__some__" = some none) {tk0 : PySem.Tok} (x0 : PySem.W.nsIn K mainGlobals "LONGEST" = some (some (.int 13 tk0))) {tk1 : PySem.Tok} (x1 : PySem.W.nsIn K mainGlobals "DIGITS" = some (some (.str (PySem.Str.ofString "0123456789") tk1))) {tk2 : PySem.Tok} (x2 : PySem.W.nsIn K mainGlobals "LAST_POSITION" = some (some (.int 1000000000000 tk2))) {tk3 : PySem.Tok} (x3 : PySem.W.nsIn K mainGlobals "MAX_TARGETS" = some (some (.int 24 tk3))) {tk4 : PySem.Tok} (x4 : PySem.W.nsIn K mainGlobals "MAX_PIECES" = some (some (.int 30 tk4))) {tk5_0 tk5_1 tk5_2 tk5_3 : PySem.Tok} {aT5 : Addr} {dT5_ : Option Addr} {nT5_ : Nat} {sT5_ : Array (Option Value)} (x5 : PySem.W.nsIn K mainGlobals "EDITS" = some (some (.ref aT5))) (y5 : K.lookup aT5 = some ⟨.type "tuple", dT5_, .seq #[.str (PySem.Str.ofString "target") tk5_0, .str (PySem.Str.ofString "untarget") tk5_1, .str (PySem.Str.ofString "piece") tk5_2, .str (PySem.Str.ofString "unpiece") tk5_3] nT5_, sT5_⟩) {tk6 : PySem.Tok} (x6 : PySem.W.nsIn K mainGlobals "UNKNOWN_COMMAND" = some (some (.str (PySem.Str.ofString "unknown command") tk6))) :
    ∃ fd : FuncData, (∀ (s : Shared) (v : Value), BindsTo s fd ⟨[v], []⟩ [("_law_script", v)]) ∧ ∀ base : Heap, K.In base → base.Ns mainGlobals mg → FnG l.prog w K mg base CX0 9 fa fd ["_law_script"] (sp_law K) := by
  have e := hfa.symm.trans (PySem.W.mg_of X G a26)
  cases e
  have TC0 : ObT K mg "Shell" O0 ["plan"] := ⟨aC0, ⟨pg0, hd0, po0, sa0⟩, PySem.W.mg_of X G aC0, fun {f} hf => by
    simp only [List.mem_cons, List.not_mem_nil, or_false] at hf
    rcases hf with rfl
    · exact nf0_0
    ⟩
  have TC1 : ObT K mg "Plan" O1 ["states", "standing", "applying"] := ⟨aC1, ⟨pg1, hd1, po1, sa1⟩, PySem.W.mg_of X G aC1, fun {f} hf => by
    simp only [List.mem_cons, List.not_mem_nil, or_false] at hf
    rcases hf with rfl | rfl | rfl
    · exact nf1_0
    · exact nf1_1
    · exact nf1_2
    ⟩
  have IC1 : InsC K O1 := ⟨⟨pg1, hd1, po1, sa1⟩, ih1, in1, it1, im1, if_pos (beq_self_eq_true _)⟩
  have F0 := fun_mk (st := s_law_deck) l0 c0 k0
  have b0 := F0.binds (ps := ["_law_script"]) fun _ _ _ _ _ _ us hl => match us, hl with | [_], _ => rfl
  have F1 := fun_mk (st := s_law_text) l1 c1 k1
  have b1 := F1.binds (ps := ["_law_intervals"]) fun _ _ _ _ _ _ us hl => match us, hl with | [_], _ => rfl
  have F2 := fun_mk (st := s_law_lines) l2 c2 k2
  have b2 := F2.binds (ps := ["_law_word"]) fun _ _ _ _ _ _ us hl => match us, hl with | [_], _ => rfl
  have F3 := fun_mk (st := s_Plan___len__) l3 c3 k3
  have b3 := F3.binds (ps := ["self"]) fun _ _ _ _ _ _ us hl => match us, hl with | [_], _ => rfl
  have F4 := fun_mk (st := s_Shell___init__) l4 c4 k4
  have b4 := F4.binds (ps := ["self", "plan"]) fun _ _ _ _ _ _ us hl => match us, hl with | [_, _], _ => rfl
  have F5 := fun_mk (st := s_law_draw) l5 c5 k5
  have b5 := F5.binds (ps := ["_law_deck_here", "_law_many"]) fun _ _ _ _ _ _ us hl => match us, hl with | [_, _], _ => rfl
  have F6 := fun_mk (st := s_Plan_state_at) l6 c6 k6
  have b6 := F6.binds (ps := ["self", "version"]) fun _ _ _ _ _ _ us hl => match us, hl with | [_, _], _ => rfl
  have F7 := fun_mk (st := s_error_name) l7 c7 k7
  have b7 := F7.binds (ps := ["error"]) fun _ _ _ _ _ _ us hl => match us, hl with | [_], _ => rfl
  have F8 := fun_mk (st := s_is_ascending) l8 c8 k8
  have b8 := F8.binds (ps := ["items"]) fun _ _ _ _ _ _ us hl => match us, hl with | [_], _ => rfl
  have F9 := fun_mk (st := s_parse_number) l9 c9 k9
  have b9 := F9.binds (ps := ["word"]) fun _ _ _ _ _ _ us hl => match us, hl with | [_], _ => rfl
  have F10 := fun_mk (st := s_is_number) l10 c10 k10
  have b10 := F10.binds (ps := ["value", "low", "high"]) fun _ _ _ _ _ _ us hl => match us, hl with | [_, _, _], _ => rfl
  have F11 := fun_mk (st := s_Shell_answer_Q) l11 c11 k11
  have b11 := F11.binds (ps := ["self", "word"]) fun _ _ _ _ _ _ us hl => match us, hl with | [_, _], _ => rfl
  have F12 := fun_mk (st := s_law_small) l12 c12 k12
  have b12 := F12.binds (ps := ["_law_deck_here", "_law_most", "_law_span"]) fun _ _ _ _ _ _ us hl => match us, hl with | [_, _, _], _ => rfl
  have F13 := fun_mk (st := s_law_odd) l13 c13 k13
  have b13 := F13.binds (ps := ["_law_deck_here"]) fun _ _ _ _ _ _ us hl => match us, hl with | [_], _ => rfl
  have F14 : FunD K "targets" "Plan.targets" (defArgs s_Plan_targets) (defBody s_Plan_targets) (defScope s_Plan_targets) [] [("version", V.non)] f14 _ := ⟨⟨_, _, .none, .ref kD14, _, _, _, _, _, _, rfl, l14, c14, .inl ⟨rfl, rfl⟩, .inr ⟨kD14, rfl, fun q hq => ⟨.none, by rw [List.mem_singleton.mp hq]; exact kw14, by rw [List.mem_singleton.mp hq]; rfl⟩⟩⟩, k14⟩
  obtain ⟨D14, DV14, DB14⟩ := F14.binds0 (ps := ["self", "version"]) 1 (fun z => nomatch z) rfl fun D doc pm an cdv ct us ks h1 h2 => match us, ks, h1, h2 with | [_], [_], _, _ => ⟨_, _, _, _, _, _, rfl, rfl, rfl⟩
  have F15 := fun_mk (st := s_is_position) l15 c15 k15
  have b15 := F15.binds (ps := ["value"]) fun _ _ _ _ _ _ us hl => match us, hl with | [_], _ => rfl
  have F16 := fun_mk (st := s_is_interval) l16 c16 k16
  have b16 := F16.binds (ps := ["value"]) fun _ _ _ _ _ _ us hl => match us, hl with | [_], _ => rfl
  have F17 := fun_mk (st := s_targets_error) l17 c17 k17
  have b17 := F17.binds (ps := ["value"]) fun _ _ _ _ _ _ us hl => match us, hl with | [_], _ => rfl
  have F18 := fun_mk (st := s_are_intervals) l18 c18 k18
  have b18 := F18.binds (ps := ["value", "limit"]) fun _ _ _ _ _ _ us hl => match us, hl with | [_, _], _ => rfl
  have F19 := fun_mk (st := s_parse_interval) l19 c19 k19
  have b19 := F19.binds (ps := ["word"]) fun _ _ _ _ _ _ us hl => match us, hl with | [_], _ => rfl
  have F20 := fun_mk (st := s_law_same) l20 c20 k20
  have b20 := F20.binds (ps := ["_law_found", "_law_due"]) fun _ _ _ _ _ _ us hl => match us, hl with | [_, _], _ => rfl
  have F21 := fun_mk (st := s_is_pieces) l21 c21 k21
  have b21 := F21.binds (ps := ["value"]) fun _ _ _ _ _ _ us hl => match us, hl with | [_], _ => rfl
  have F22 := fun_mk (st := s_Shell_run_Q) l22 c22 k22
  have b22 := F22.binds (ps := ["self", "words"]) fun _ _ _ _ _ _ us hl => match us, hl with | [_, _], _ => rfl
  have F23 := fun_mk (st := s_Plan___init__) l23 c23 k23
  have b23 := F23.binds (ps := ["self", "targets", "pieces"]) fun _ _ _ _ _ _ us hl => match us, hl with | [_, _, _], _ => rfl
  have F24 := fun_mk (st := s_Shell_execute_Q) l24 c24 k24
  have b24 := F24.binds (ps := ["self", "line"]) fun _ _ _ _ _ _ us hl => match us, hl with | [_, _], _ => rfl
  have F25 := fun_mk (st := s_Plan___eq__) l25 c25 k25
  have b25 := F25.binds (ps := ["self", "other"]) fun _ _ _ _ _ _ us hl => match us, hl with | [_, _], _ => rfl
  have F26 := fun_mk (st := s_law) l26 c26 k26
  refine ⟨PySem.W.fnOf "law" "law" (defArgs s_law) (defBody s_law) (defScope s_law) .none kV26 dc26 pm26 an26 cd26 ct26, fun s v => .of_eq rfl, fun base _ _ => ?_⟩
  have EC_BadInterval : ExcC K X_BadInterval := ⟨hg_BadInterval, hk_BadInterval, s1_BadInterval, hd_BadInterval, ha_BadInterval, hn_, ht_, hm_BadInterval⟩
  have XF_BadInterval : XfC K X_BadInterval := ⟨hg_BadInterval, hk_BadInterval, s1_BadInterval, hd_BadInterval⟩
  have EC_Duplicate : ExcC K X_Duplicate := ⟨hg_Duplicate, hk_Duplicate, s1_Duplicate, hd_Duplicate, ha_Duplicate, hn_, ht_, hm_Duplicate⟩
  have XF_Duplicate : XfC K X_Duplicate := ⟨hg_Duplicate, hk_Duplicate, s1_Duplicate, hd_Duplicate⟩
  have EC_TooMany : ExcC K X_TooMany := ⟨hg_TooMany, hk_TooMany, s1_TooMany, hd_TooMany, ha_TooMany, hn_, ht_, hm_TooMany⟩
  have XF_TooMany : XfC K X_TooMany := ⟨hg_TooMany, hk_TooMany, s1_TooMany, hd_TooMany⟩
  have EC_Unknown : ExcC K X_Unknown := ⟨hg_Unknown, hk_Unknown, s1_Unknown, hd_Unknown, ha_Unknown, hn_, ht_, hm_Unknown⟩
  have XF_Unknown : XfC K X_Unknown := ⟨hg_Unknown, hk_Unknown, s1_Unknown, hd_Unknown⟩
  have EC_TooManyEdits : ExcC K X_TooManyEdits := ⟨hg_TooManyEdits, hk_TooManyEdits, s1_TooManyEdits, hd_TooManyEdits, ha_TooManyEdits, hn_, ht_, hm_TooManyEdits⟩
  have XF_TooManyEdits : XfC K X_TooManyEdits := ⟨hg_TooManyEdits, hk_TooManyEdits, s1_TooManyEdits, hd_TooManyEdits⟩
  have EC_NothingToUndo : ExcC K X_NothingToUndo := ⟨hg_NothingToUndo, hk_NothingToUndo, s1_NothingToUndo, hd_NothingToUndo, ha_NothingToUndo, hn_, ht_, hm_NothingToUndo⟩
  have XF_NothingToUndo : XfC K X_NothingToUndo := ⟨hg_NothingToUndo, hk_NothingToUndo, s1_NothingToUndo, hd_NothingToUndo⟩
  have XC_ : ∀ (cn : PySem.Str) (C : Ad), cn ∈ ERR → PySem.W.nsIn K mainGlobals cn = some (some (.ref C)) → ExcC K C := fun cn C hm hC => by
    simp only [ERR, List.mem_cons, List.not_mem_nil, or_false] at hm
    rcases hm with rfl | rfl | rfl | rfl | rfl | rfl
    · rw [n_BadInterval] at hC; cases hC; exact EC_BadInterval
    · rw [n_Duplicate] at hC; cases hC; exact EC_Duplicate
    · rw [n_TooMany] at hC; cases hC; exact EC_TooMany
    · rw [n_Unknown] at hC; cases hC; exact EC_Unknown
    · rw [n_TooManyEdits] at hC; cases hC; exact EC_TooManyEdits
    · rw [n_NothingToUndo] at hC; cases hC; exact EC_NothingToUndo
  have XM_SpanError : ∀ (cn : PySem.Str) (C : Ad), cn ∈ ERR → PySem.W.nsIn K mainGlobals cn = some (some (.ref C)) → PySem.W.exmOne K (.ref C) (.ref X_SpanError) = some (sub_SpanError cn) := fun cn C hm hC => by
    simp only [ERR, List.mem_cons, List.not_mem_nil, or_false] at hm
    rcases hm with rfl | rfl | rfl | rfl | rfl | rfl
    · rw [n_BadInterval] at hC; cases hC; exact (PySem.W.exm_ref s1_SpanError hd_SpanError s2_SpanError sc_BadInterval_SpanError).trans (congrArg some (by decide))
    · rw [n_Duplicate] at hC; cases hC; exact (PySem.W.exm_ref s1_SpanError hd_SpanError s2_SpanError sc_Duplicate_SpanError).trans (congrArg some (by decide))
    · rw [n_TooMany] at hC; cases hC; exact (PySem.W.exm_ref s1_SpanError hd_SpanError s2_SpanError sc_TooMany_SpanError).trans (congrArg some (by decide))
    · rw [n_Unknown] at hC; cases hC; exact (PySem.W.exm_ref s1_SpanError hd_SpanError s2_SpanError sc_Unknown_SpanError).trans (congrArg some (by decide))
    · rw [n_TooManyEdits] at hC; cases hC; exact (PySem.W.exm_ref s1_SpanError hd_SpanError s2_SpanError sc_TooManyEdits_SpanError).trans (congrArg some (by decide))
    · rw [n_NothingToUndo] at hC; cases hC; exact (PySem.W.exm_ref s1_SpanError hd_SpanError s2_SpanError sc_NothingToUndo_SpanError).trans (congrArg some (by decide))
  have XM_Unknown : ∀ (cn : PySem.Str) (C : Ad), cn ∈ ERR → PySem.W.nsIn K mainGlobals cn = some (some (.ref C)) → PySem.W.exmOne K (.ref C) (.ref X_Unknown) = some (sub_Unknown cn) := fun cn C hm hC => by
    simp only [ERR, List.mem_cons, List.not_mem_nil, or_false] at hm
    rcases hm with rfl | rfl | rfl | rfl | rfl | rfl
    · rw [n_BadInterval] at hC; cases hC; exact (PySem.W.exm_ref s1_Unknown hd_Unknown s2_Unknown sc_BadInterval_Unknown).trans (congrArg some (by decide))
    · rw [n_Duplicate] at hC; cases hC; exact (PySem.W.exm_ref s1_Unknown hd_Unknown s2_Unknown sc_Duplicate_Unknown).trans (congrArg some (by decide))
    · rw [n_TooMany] at hC; cases hC; exact (PySem.W.exm_ref s1_Unknown hd_Unknown s2_Unknown sc_TooMany_Unknown).trans (congrArg some (by decide))
    · rw [n_Unknown] at hC; cases hC; exact (PySem.W.exm_ref s1_Unknown hd_Unknown s2_Unknown sc_Unknown_Unknown).trans (congrArg some (by decide))
    · rw [n_TooManyEdits] at hC; cases hC; exact (PySem.W.exm_ref s1_Unknown hd_Unknown s2_Unknown sc_TooManyEdits_Unknown).trans (congrArg some (by decide))
    · rw [n_NothingToUndo] at hC; cases hC; exact (PySem.W.exm_ref s1_Unknown hd_Unknown s2_Unknown sc_NothingToUndo_Unknown).trans (congrArg some (by decide))
  have XI_BadInterval : ∀ (cn : PySem.Str) (C : Ad), cn ∈ ERR → PySem.W.nsIn K mainGlobals cn = some (some (.ref C)) → PySem.W.kitOne K (.ref C) (.ref X_BadInterval) = some (sub_BadInterval cn) := fun cn C hm hC => by
    simp only [ERR, List.mem_cons, List.not_mem_nil, or_false] at hm
    rcases hm with rfl | rfl | rfl | rfl | rfl | rfl
    · rw [n_BadInterval] at hC; cases hC; exact ki_BadInterval_BadInterval.trans (congrArg some (by decide))
    · rw [n_Duplicate] at hC; cases hC; exact ki_Duplicate_BadInterval.trans (congrArg some (by decide))
    · rw [n_TooMany] at hC; cases hC; exact ki_TooMany_BadInterval.trans (congrArg some (by decide))
    · rw [n_Unknown] at hC; cases hC; exact ki_Unknown_BadInterval.trans (congrArg some (by decide))
    · rw [n_TooManyEdits] at hC; cases hC; exact ki_TooManyEdits_BadInterval.trans (congrArg some (by decide))
    · rw [n_NothingToUndo] at hC; cases hC; exact ki_NothingToUndo_BadInterval.trans (congrArg some (by decide))
  have XI_Busy : ∀ (cn : PySem.Str) (C : Ad), cn ∈ ERR → PySem.W.nsIn K mainGlobals cn = some (some (.ref C)) → PySem.W.kitOne K (.ref C) (.ref X_Busy) = some (sub_Busy cn) := fun cn C hm hC => by
    simp only [ERR, List.mem_cons, List.not_mem_nil, or_false] at hm
    rcases hm with rfl | rfl | rfl | rfl | rfl | rfl
    · rw [n_BadInterval] at hC; cases hC; exact ki_BadInterval_Busy.trans (congrArg some (by decide))
    · rw [n_Duplicate] at hC; cases hC; exact ki_Duplicate_Busy.trans (congrArg some (by decide))
    · rw [n_TooMany] at hC; cases hC; exact ki_TooMany_Busy.trans (congrArg some (by decide))
    · rw [n_Unknown] at hC; cases hC; exact ki_Unknown_Busy.trans (congrArg some (by decide))
    · rw [n_TooManyEdits] at hC; cases hC; exact ki_TooManyEdits_Busy.trans (congrArg some (by decide))
    · rw [n_NothingToUndo] at hC; cases hC; exact ki_NothingToUndo_Busy.trans (congrArg some (by decide))
  have XI_Duplicate : ∀ (cn : PySem.Str) (C : Ad), cn ∈ ERR → PySem.W.nsIn K mainGlobals cn = some (some (.ref C)) → PySem.W.kitOne K (.ref C) (.ref X_Duplicate) = some (sub_Duplicate cn) := fun cn C hm hC => by
    simp only [ERR, List.mem_cons, List.not_mem_nil, or_false] at hm
    rcases hm with rfl | rfl | rfl | rfl | rfl | rfl
    · rw [n_BadInterval] at hC; cases hC; exact ki_BadInterval_Duplicate.trans (congrArg some (by decide))
    · rw [n_Duplicate] at hC; cases hC; exact ki_Duplicate_Duplicate.trans (congrArg some (by decide))
    · rw [n_TooMany] at hC; cases hC; exact ki_TooMany_Duplicate.trans (congrArg some (by decide))
    · rw [n_Unknown] at hC; cases hC; exact ki_Unknown_Duplicate.trans (congrArg some (by decide))
    · rw [n_TooManyEdits] at hC; cases hC; exact ki_TooManyEdits_Duplicate.trans (congrArg some (by decide))
    · rw [n_NothingToUndo] at hC; cases hC; exact ki_NothingToUndo_Duplicate.trans (congrArg some (by decide))
  have XI_NothingToUndo : ∀ (cn : PySem.Str) (C : Ad), cn ∈ ERR → PySem.W.nsIn K mainGlobals cn = some (some (.ref C)) → PySem.W.kitOne K (.ref C) (.ref X_NothingToUndo) = some (sub_NothingToUndo cn) := fun cn C hm hC => by
    simp only [ERR, List.mem_cons, List.not_mem_nil, or_false] at hm
    rcases hm with rfl | rfl | rfl | rfl | rfl | rfl
    · rw [n_BadInterval] at hC; cases hC; exact ki_BadInterval_NothingToUndo.trans (congrArg some (by decide))
    · rw [n_Duplicate] at hC; cases hC; exact ki_Duplicate_NothingToUndo.trans (congrArg some (by decide))
    · rw [n_TooMany] at hC; cases hC; exact ki_TooMany_NothingToUndo.trans (congrArg some (by decide))
    · rw [n_Unknown] at hC; cases hC; exact ki_Unknown_NothingToUndo.trans (congrArg some (by decide))
    · rw [n_TooManyEdits] at hC; cases hC; exact ki_TooManyEdits_NothingToUndo.trans (congrArg some (by decide))
    · rw [n_NothingToUndo] at hC; cases hC; exact ki_NothingToUndo_NothingToUndo.trans (congrArg some (by decide))
  have XI_TooMany : ∀ (cn : PySem.Str) (C : Ad), cn ∈ ERR → PySem.W.nsIn K mainGlobals cn = some (some (.ref C)) → PySem.W.kitOne K (.ref C) (.ref X_TooMany) = some (sub_TooMany cn) := fun cn C hm hC => by
    simp only [ERR, List.mem_cons, List.not_mem_nil, or_false] at hm
    rcases hm with rfl | rfl | rfl | rfl | rfl | rfl
    · rw [n_BadInterval] at hC; cases hC; exact ki_BadInterval_TooMany.trans (congrArg some (by decide))
    · rw [n_Duplicate] at hC; cases hC; exact ki_Duplicate_TooMany.trans (congrArg some (by decide))
    · rw [n_TooMany] at hC; cases hC; exact ki_TooMany_TooMany.trans (congrArg some (by decide))
    · rw [n_Unknown] at hC; cases hC; exact ki_Unknown_TooMany.trans (congrArg some (by decide))
    · rw [n_TooManyEdits] at hC; cases hC; exact ki_TooManyEdits_TooMany.trans (congrArg some (by decide))
    · rw [n_NothingToUndo] at hC; cases hC; exact ki_NothingToUndo_TooMany.trans (congrArg some (by decide))
  have XI_TooManyEdits : ∀ (cn : PySem.Str) (C : Ad), cn ∈ ERR → PySem.W.nsIn K mainGlobals cn = some (some (.ref C)) → PySem.W.kitOne K (.ref C) (.ref X_TooManyEdits) = some (sub_TooManyEdits cn) := fun cn C hm hC => by
    simp only [ERR, List.mem_cons, List.not_mem_nil, or_false] at hm
    rcases hm with rfl | rfl | rfl | rfl | rfl | rfl
    · rw [n_BadInterval] at hC; cases hC; exact ki_BadInterval_TooManyEdits.trans (congrArg some (by decide))
    · rw [n_Duplicate] at hC; cases hC; exact ki_Duplicate_TooManyEdits.trans (congrArg some (by decide))
    · rw [n_TooMany] at hC; cases hC; exact ki_TooMany_TooManyEdits.trans (congrArg some (by decide))
    · rw [n_Unknown] at hC; cases hC; exact ki_Unknown_TooManyEdits.trans (congrArg some (by decide))
    · rw [n_TooManyEdits] at hC; cases hC; exact ki_TooManyEdits_TooManyEdits.trans (congrArg some (by decide))
    · rw [n_NothingToUndo] at hC; cases hC; exact ki_NothingToUndo_TooManyEdits.trans (congrArg some (by decide))
  have XI_TooWide : ∀ (cn : PySem.Str) (C : Ad), cn ∈ ERR → PySem.W.nsIn K mainGlobals cn = some (some (.ref C)) → PySem.W.kitOne K (.ref C) (.ref X_TooWide) = some (sub_TooWide cn) := fun cn C hm hC => by
    simp only [ERR, List.mem_cons, List.not_mem_nil, or_false] at hm
    rcases hm with rfl | rfl | rfl | rfl | rfl | rfl
    · rw [n_BadInterval] at hC; cases hC; exact ki_BadInterval_TooWide.trans (congrArg some (by decide))
    · rw [n_Duplicate] at hC; cases hC; exact ki_Duplicate_TooWide.trans (congrArg some (by decide))
    · rw [n_TooMany] at hC; cases hC; exact ki_TooMany_TooWide.trans (congrArg some (by decide))
    · rw [n_Unknown] at hC; cases hC; exact ki_Unknown_TooWide.trans (congrArg some (by decide))
    · rw [n_TooManyEdits] at hC; cases hC; exact ki_TooManyEdits_TooWide.trans (congrArg some (by decide))
    · rw [n_NothingToUndo] at hC; cases hC; exact ki_NothingToUndo_TooWide.trans (congrArg some (by decide))
  have XI_Unknown : ∀ (cn : PySem.Str) (C : Ad), cn ∈ ERR → PySem.W.nsIn K mainGlobals cn = some (some (.ref C)) → PySem.W.kitOne K (.ref C) (.ref X_Unknown) = some (sub_Unknown cn) := fun cn C hm hC => by
    simp only [ERR, List.mem_cons, List.not_mem_nil, or_false] at hm
    rcases hm with rfl | rfl | rfl | rfl | rfl | rfl
    · rw [n_BadInterval] at hC; cases hC; exact ki_BadInterval_Unknown.trans (congrArg some (by decide))
    · rw [n_Duplicate] at hC; cases hC; exact ki_Duplicate_Unknown.trans (congrArg some (by decide))
    · rw [n_TooMany] at hC; cases hC; exact ki_TooMany_Unknown.trans (congrArg some (by decide))
    · rw [n_Unknown] at hC; cases hC; exact ki_Unknown_Unknown.trans (congrArg some (by decide))
    · rw [n_TooManyEdits] at hC; cases hC; exact ki_TooManyEdits_Unknown.trans (congrArg some (by decide))
    · rw [n_NothingToUndo] at hC; cases hC; exact ki_NothingToUndo_Unknown.trans (congrArg some (by decide))
  have C0 := cal_mk F0 b0 (PySem.W.mg_of X G a0) (ok_law_deck (P := l.prog) (w := w) (base := base) F0 (PySem.W.mg_none_of X G z0))
  have C1 := cal_mk F1 b1 (PySem.W.mg_of X G a1) (ok_law_text (P := l.prog) (w := w) (base := base) F1 (PySem.W.mg_none_of X G z1) (PySem.W.mg_none_of X G z2))
  have C2 := cal_mk F2 b2 (PySem.W.mg_of X G a2) (ok_law_lines (P := l.prog) (w := w) (base := base) F2 (PySem.W.mg_none_of X G z1))
  have C3 : CalM l.prog w K mg base 1 O1 "__len__" ["self"] (sp_Plan___len__ K) := ⟨_, _, (ok_Plan___len__ (P := l.prog) (w := w) (base := base) F3 TC1 (PySem.W.mg_none_of X G z3)), ⟨a3, i3, k3⟩, b3⟩
  have C4 : CalMk l.prog w K mg base 1 O0 ["self", "plan"] (sp_Shell___init__ K) := ⟨_, _, (ok_Shell___init__ (P := l.prog) (w := w) (base := base) F4 TC1 TC0), ⟨mk0, a4, i4, kc0⟩, b4⟩
  have C5 := cal_mk F5 b5 (PySem.W.mg_of X G a5) (ok_law_draw (P := l.prog) (w := w) (base := base) F5 (PySem.W.mg_none_of X G z3))
  have C6 : CalM l.prog w K mg base 1 O1 "state_at" ["self", "version"] (sp_Plan_state_at K) := ⟨_, _, (ok_Plan_state_at (P := l.prog) (w := w) (base := base) F6 TC1 (PySem.W.mg_none_of X G z4) (PySem.W.mg_none_of X G z5) (PySem.W.mg_none_of X G z1) (PySem.W.mg_none_of X G z3)), ⟨a6, i6, k6⟩, b6⟩
  have C7 := cale_mk F7 b7 (PySem.W.mg_of X G a7) (ok_error_name (P := l.prog) (w := w) (base := base) F7 (PySem.W.mg_of X G n_BadInterval) (PySem.W.mg_of X G n_Busy) (PySem.W.mg_of X G n_Duplicate) (PySem.W.mg_of X G n_NothingToUndo) (PySem.W.mg_of X G n_TooMany) (PySem.W.mg_of X G n_TooManyEdits) (PySem.W.mg_of X G n_TooWide) (PySem.W.mg_of X G n_Unknown) XC_ XI_BadInterval XI_Busy XI_Duplicate XI_NothingToUndo XI_TooMany XI_TooManyEdits XI_TooWide XI_Unknown (PySem.W.mg_none_of X G z6) (PySem.W.mg_none_of X G z4))
  have C8 := cal_mk F8 b8 (PySem.W.mg_of X G a8) (ok_is_ascending (P := l.prog) (w := w) (base := base) F8 (PySem.W.mg_none_of X G z7) (PySem.W.mg_none_of X G z6))
  have C9 := cal_mk F9 b9 (PySem.W.mg_of X G a9) (ok_parse_number (P := l.prog) (w := w) (base := base) F9 (PySem.W.mg_none_of X G z1) (PySem.W.mg_none_of X G z7) (PySem.W.mg_none_of X G z3) (PySem.W.mg_of X G x0) (PySem.W.mg_of X G x1))
  have C10 := cal_mk F10 b10 (PySem.W.mg_of X G a10) (ok_is_number (P := l.prog) (w := w) (base := base) F10 (PySem.W.mg_none_of X G z4) (PySem.W.mg_none_of X G z1) (PySem.W.mg_none_of X G z5))
  have C11 : CalM l.prog w K mg base 1 O0 "answer" ["self", "word"] (sp_Shell_answer_Q K) := ⟨_, _, (ok_Shell_answer_Q (P := l.prog) (w := w) (base := base) F11 TC1 TC0), ⟨a11, i11, k11⟩, b11⟩
  have C12 := cal_mk F10 b10 (PySem.W.mg_of X G a10) (ok_is_number_Z (P := l.prog) (w := w) (base := base) F10 (PySem.W.mg_none_of X G z4) (PySem.W.mg_none_of X G z1) (PySem.W.mg_none_of X G z5))
  have C13 := cal_mk F12 b12 (PySem.W.mg_of X G a12) (ok_law_small (P := l.prog) (w := w) (base := base) F12 C5 (PySem.W.mg_none_of X G z8) (PySem.W.mg_none_of X G z9) (PySem.W.mg_none_of X G z10) (PySem.W.mg_none_of X G z11))
  have C14 := cal_mk F13 b13 (PySem.W.mg_of X G a13) (ok_law_odd (P := l.prog) (w := w) (base := base) F13 C5)
  have C15 : CalK l.prog w K mg base 2 O1 "targets" ["self", "version"] (sp_Plan_targets K) := ⟨_, _, D14, (ok_Plan_targets (P := l.prog) (w := w) (base := base) F14 TC1 C6), ⟨a14, i14, k14⟩, DB14, DV14⟩
  have C16 := cal_mk F15 b15 (PySem.W.mg_of X G a15) (ok_is_position (P := l.prog) (w := w) (base := base) F15 C10 (PySem.W.mg_of X G x2))
  have C17 := cal_mk F15 b15 (PySem.W.mg_of X G a15) (ok_is_position_Z (P := l.prog) (w := w) (base := base) F15 C12 (PySem.W.mg_of X G x2))
  have C18 := cal_mk F16 b16 (PySem.W.mg_of X G a16) (ok_is_interval (P := l.prog) (w := w) (base := base) F16 C16 (PySem.W.mg_none_of X G z4) (PySem.W.mg_none_of X G z9) (PySem.W.mg_none_of X G z3))
  have C19 := cal_mk F16 b16 (PySem.W.mg_of X G a16) (ok_is_interval_Z (P := l.prog) (w := w) (base := base) F16 C17 (PySem.W.mg_none_of X G z4) (PySem.W.mg_none_of X G z9) (PySem.W.mg_none_of X G z3))
  have C20 := cal_mk F17 b17 (PySem.W.mg_of X G a17) (ok_targets_error (P := l.prog) (w := w) (base := base) F17 C18 (PySem.W.mg_none_of X G z12) (PySem.W.mg_none_of X G z4) (PySem.W.mg_none_of X G z9) (PySem.W.mg_none_of X G z3) (PySem.W.mg_of X G x3))
  have C21 := cal_mk F18 b18 (PySem.W.mg_of X G a18) (ok_are_intervals (P := l.prog) (w := w) (base := base) F18 C8 C18 (PySem.W.mg_none_of X G z7) (PySem.W.mg_none_of X G z4) (PySem.W.mg_none_of X G z9) (PySem.W.mg_none_of X G z3))
  have C22 := cal_mk F19 b19 (PySem.W.mg_of X G a19) (ok_parse_interval (P := l.prog) (w := w) (base := base) F19 C19 C9 (PySem.W.mg_none_of X G z9) (PySem.W.mg_none_of X G z13))
  have C23 := cal_mk F20 b20 (PySem.W.mg_of X G a20) (ok_law_same (P := l.prog) (w := w) (base := base) F20 b20 (PySem.W.mg_of X G a20) (PySem.W.mg_none_of X G z4) (PySem.W.mg_none_of X G z9) (PySem.W.mg_none_of X G z2) (PySem.W.mg_none_of X G z1) (PySem.W.mg_none_of X G z5) (PySem.W.mg_none_of X G z3) (PySem.W.mg_none_of X G z6))
  have C24 := cal_mk F21 b21 (PySem.W.mg_of X G a21) (ok_is_pieces (P := l.prog) (w := w) (base := base) F21 C21 (PySem.W.mg_of X G x4))
  have C25 : CalM l.prog w K mg base 5 O0 "run" ["self", "words"] (sp_Shell_run_Q K) := ⟨_, _, (ok_Shell_run_Q (P := l.prog) (w := w) (base := base) F22 TC1 TC0 C22 C11 (PySem.W.mg_none_of X G z3) ⟨PySem.W.mg_of X G x5, ⟨_, _, _, y5, rfl, rfl, (by rw [sizeLine_eq]; exact Nat.le_of_ble_eq_true rfl), .cons ⟨_, rfl⟩ (.cons ⟨_, rfl⟩ (.cons ⟨_, rfl⟩ (.cons ⟨_, rfl⟩ (.nil))))⟩⟩), ⟨a22, i22, k22⟩, b22⟩
  have C26 : CalMk l.prog w K mg base 6 O1 ["self", "targets", "pieces"] (sp_Plan___init__ K) := ⟨_, _, (ok_Plan___init__ (P := l.prog) (w := w) (base := base) F23 TC1 C20 C24), ⟨mk1, a23, i23, kc1⟩, b23⟩
  have C27 : CalM l.prog w K mg base 6 O0 "execute" ["self", "line"] (sp_Shell_execute_Q K) := ⟨_, _, (ok_Shell_execute_Q (P := l.prog) (w := w) (base := base) F24 (PySem.W.mg_of X G n_SpanError) (PySem.W.mg_of X G n_Unknown) XC_ XM_SpanError XM_Unknown TC1 TC0 C7 C25 (PySem.W.mg_none_of X G z4) (PySem.W.mg_none_of X G z2) (PySem.W.mg_none_of X G z14) (PySem.W.mg_of X G x6)), ⟨a24, i24, k24⟩, b24⟩
  have C28 : CalM l.prog w K mg base 8 O1 "__eq__" ["self", "other"] (sp_Plan___eq__ K) := ⟨_, _, (ok_Plan___eq__ (P := l.prog) (w := w) (base := base) F25 TC1 IC1 C26 (PySem.W.mg_none_of X G z4)), ⟨a25, i25, k25⟩, b25⟩
  exact ok_law F26 TC1 TC0 C0 C13 C1 C2 C23 C14 C26 C15 C28 C3 C4 C27 (PySem.W.mg_none_of X G z3)
end W55
open PySem PySem.W PyProof.Rows in
set_option maxHeartbeats 0 in
theorem PySem.Challenge.cw_fewspans_k55_unknown_commands_holds : PySem.Challenge.rw_fewspans_k55_unknown_commands.Holds := by
  w_on; o_law; k_head; (case hw => w_witness2)
  k_fill
  refine Fz.walkG (l := PySem.Challenge.rw_fewspans_k55_unknown_commands) (n := 63) (k := 9) (x := "_law_script") (sp := W55.sp_law) rfl (by decide) rfl ⟨rfl, by decide, by decide⟩ (fun w h Y => PySem.W.kIn_of Y) ?F (fun K H a ns hl _ hS => Fz.law_asks hl (by decide) (by decide) hS _)
  case F =>
    intro w mg fa h KX G hmg
    refine' W55.all_mk KX G hmg ?n_BadInterval ?n_Duplicate ?n_TooMany ?n_Unknown ?n_TooManyEdits ?n_NothingToUndo ?n_SpanError ?n_Busy ?n_TooWide ?s1_BadInterval ?s2_BadInterval ?hg_BadInterval ?hk_BadInterval ?hd_BadInterval ?ha_BadInterval ?hm_BadInterval ?hn_ ?ht_ ?s1_Duplicate ?s2_Duplicate ?hg_Duplicate ?hk_Duplicate ?hd_Duplicate ?ha_Duplicate ?hm_Duplicate ?s1_TooMany ?s2_TooMany ?hg_TooMany ?hk_TooMany ?hd_TooMany ?ha_TooMany ?hm_TooMany ?s1_Unknown ?s2_Unknown ?hg_Unknown ?hk_Unknown ?hd_Unknown ?ha_Unknown ?hm_Unknown ?s1_TooManyEdits ?s2_TooManyEdits ?hg_TooManyEdits ?hk_TooManyEdits ?hd_TooManyEdits ?ha_TooManyEdits ?hm_TooManyEdits ?s1_NothingToUndo ?s2_NothingToUndo ?hg_NothingToUndo ?hk_NothingToUndo ?hd_NothingToUndo ?ha_NothingToUndo ?hm_NothingToUndo ?s1_SpanError ?s2_SpanError ?hd_SpanError ?sc_BadInterval_SpanError ?sc_Duplicate_SpanError ?sc_TooMany_SpanError ?sc_Unknown_SpanError ?sc_TooManyEdits_SpanError ?sc_NothingToUndo_SpanError ?sc_BadInterval_Unknown ?sc_Duplicate_Unknown ?sc_TooMany_Unknown ?sc_Unknown_Unknown ?sc_TooManyEdits_Unknown ?sc_NothingToUndo_Unknown ?ki_BadInterval_BadInterval ?ki_Duplicate_BadInterval ?ki_TooMany_BadInterval ?ki_Unknown_BadInterval ?ki_TooManyEdits_BadInterval ?ki_NothingToUndo_BadInterval ?ki_BadInterval_Busy ?ki_Duplicate_Busy ?ki_TooMany_Busy ?ki_Unknown_Busy ?ki_TooManyEdits_Busy ?ki_NothingToUndo_Busy ?ki_BadInterval_Duplicate ?ki_Duplicate_Duplicate ?ki_TooMany_Duplicate ?ki_Unknown_Duplicate ?ki_TooManyEdits_Duplicate ?ki_NothingToUndo_Duplicate ?ki_BadInterval_NothingToUndo ?ki_Duplicate_NothingToUndo ?ki_TooMany_NothingToUndo ?ki_Unknown_NothingToUndo ?ki_TooManyEdits_NothingToUndo ?ki_NothingToUndo_NothingToUndo ?ki_BadInterval_TooMany ?ki_Duplicate_TooMany ?ki_TooMany_TooMany ?ki_Unknown_TooMany ?ki_TooManyEdits_TooMany ?ki_NothingToUndo_TooMany ?ki_BadInterval_TooManyEdits ?ki_Duplicate_TooManyEdits ?ki_TooMany_TooManyEdits ?ki_Unknown_TooManyEdits ?ki_TooManyEdits_TooManyEdits ?ki_NothingToUndo_TooManyEdits ?ki_BadInterval_TooWide ?ki_Duplicate_TooWide ?ki_TooMany_TooWide ?ki_Unknown_TooWide ?ki_TooManyEdits_TooWide ?ki_NothingToUndo_TooWide ?ki_BadInterval_Unknown ?ki_Duplicate_Unknown ?ki_TooMany_Unknown ?ki_Unknown_Unknown ?ki_TooManyEdits_Unknown ?ki_NothingToUndo_Unknown ?aC0 ?pg0 ?hd0 ?po0 ?sa0 ?mk0 ?kc0 ?nf0_0 ?aC1 ?pg1 ?hd1 ?po1 ?sa1 ?mk1 ?kc1 ?nf1_0 ?nf1_1 ?nf1_2 ?ih1 ?in1 ?it1 ?im1 ?a0 ?l0 ?c0 ?k0 ?a1 ?l1 ?c1 ?k1 ?a2 ?l2 ?c2 ?k2 ?a3 ?i3 ?l3 ?c3 ?k3 ?a4 ?i4 ?l4 ?c4 ?k4 ?a5 ?l5 ?c5 ?k5 ?a6 ?i6 ?l6 ?c6 ?k6 ?a7 ?l7 ?c7 ?k7 ?a8 ?l8 ?c8 ?k8 ?a9 ?l9 ?c9 ?k9 ?a10 ?l10 ?c10 ?k10 ?a11 ?i11 ?l11 ?c11 ?k11 ?a12 ?l12 ?c12 ?k12 ?a13 ?l13 ?c13 ?k13 ?a14 ?i14 ?l14 ?c14 ?k14 ?kw14 ?a15 ?l15 ?c15 ?k15 ?a16 ?l16 ?c16 ?k16 ?a17 ?l17 ?c17 ?k17 ?a18 ?l18 ?c18 ?k18 ?a19 ?l19 ?c19 ?k19 ?a20 ?l20 ?c20 ?k20 ?a21 ?l21 ?c21 ?k21 ?a22 ?i22 ?l22 ?c22 ?k22 ?a23 ?i23 ?l23 ?c23 ?k23 ?a24 ?i24 ?l24 ?c24 ?k24 ?a25 ?i25 ?l25 ?c25 ?k25 ?a26 ?l26 ?c26 ?k26 ?z0 ?z1 ?z2 ?z3 ?z4 ?z5 ?z6 ?z7 ?z8 ?z9 ?z10 ?z11 ?z12 ?z13 ?z14 ?x0 ?x1 ?x2 ?x3 ?x4 ?x5 ?y5 ?x6
    (case n_BadInterval => k_is)
    (case n_Duplicate => k_is)
    (case n_TooMany => k_is)
    (case n_Unknown => k_is)
    (case n_TooManyEdits => k_is)
    (case n_NothingToUndo => k_is)
    (case n_SpanError => k_is)
    (case n_Busy => k_is)
    (case n_TooWide => k_is)
    (case s1_BadInterval => k_is)
    (case s2_BadInterval => k_is)
    (case hg_BadInterval => k_is)
    (case hk_BadInterval => k_is)
    (case hd_BadInterval => k_is)
    (case ha_BadInterval => k_is)
    (case hm_BadInterval => k_is)
    (case hn_ => k_is)
    (case ht_ => k_is)
    (case s1_Duplicate => k_is)
    (case s2_Duplicate => k_is)
    (case hg_Duplicate => k_is)
    (case hk_Duplicate => k_is)
    (case hd_Duplicate => k_is)
    (case ha_Duplicate => k_is)
    (case hm_Duplicate => k_is)
    (case s1_TooMany => k_is)
    (case s2_TooMany => k_is)
    (case hg_TooMany => k_is)
    (case hk_TooMany => k_is)
    (case hd_TooMany => k_is)
    (case ha_TooMany => k_is)
    (case hm_TooMany => k_is)
    (case s1_Unknown => k_is)
    (case s2_Unknown => k_is)
    (case hg_Unknown => k_is)
    (case hk_Unknown => k_is)
    (case hd_Unknown => k_is)
    (case ha_Unknown => k_is)
    (case hm_Unknown => k_is)
    (case s1_TooManyEdits => k_is)
    (case s2_TooManyEdits => k_is)
    (case hg_TooManyEdits => k_is)
    (case hk_TooManyEdits => k_is)
    (case hd_TooManyEdits => k_is)
    (case ha_TooManyEdits => k_is)
    (case hm_TooManyEdits => k_is)
    (case s1_NothingToUndo => k_is)
    (case s2_NothingToUndo => k_is)
    (case hg_NothingToUndo => k_is)
    (case hk_NothingToUndo => k_is)
    (case hd_NothingToUndo => k_is)
    (case ha_NothingToUndo => k_is)
    (case hm_NothingToUndo => k_is)
    (case s1_SpanError => k_is)
    (case s2_SpanError => k_is)
    (case hd_SpanError => k_is)
    (case sc_BadInterval_SpanError => k_is)
    (case sc_Duplicate_SpanError => k_is)
    (case sc_TooMany_SpanError => k_is)
    (case sc_Unknown_SpanError => k_is)
    (case sc_TooManyEdits_SpanError => k_is)
    (case sc_NothingToUndo_SpanError => k_is)
    (case sc_BadInterval_Unknown => k_is)
    (case sc_Duplicate_Unknown => k_is)
    (case sc_TooMany_Unknown => k_is)
    (case sc_Unknown_Unknown => k_is)
    (case sc_TooManyEdits_Unknown => k_is)
    (case sc_NothingToUndo_Unknown => k_is)
    (case ki_BadInterval_BadInterval => kit_is)
    (case ki_Duplicate_BadInterval => kit_is)
    (case ki_TooMany_BadInterval => kit_is)
    (case ki_Unknown_BadInterval => kit_is)
    (case ki_TooManyEdits_BadInterval => kit_is)
    (case ki_NothingToUndo_BadInterval => kit_is)
    (case ki_BadInterval_Busy => kit_is)
    (case ki_Duplicate_Busy => kit_is)
    (case ki_TooMany_Busy => kit_is)
    (case ki_Unknown_Busy => kit_is)
    (case ki_TooManyEdits_Busy => kit_is)
    (case ki_NothingToUndo_Busy => kit_is)
    (case ki_BadInterval_Duplicate => kit_is)
    (case ki_Duplicate_Duplicate => kit_is)
    (case ki_TooMany_Duplicate => kit_is)
    (case ki_Unknown_Duplicate => kit_is)
    (case ki_TooManyEdits_Duplicate => kit_is)
    (case ki_NothingToUndo_Duplicate => kit_is)
    (case ki_BadInterval_NothingToUndo => kit_is)
    (case ki_Duplicate_NothingToUndo => kit_is)
    (case ki_TooMany_NothingToUndo => kit_is)
    (case ki_Unknown_NothingToUndo => kit_is)
    (case ki_TooManyEdits_NothingToUndo => kit_is)
    (case ki_NothingToUndo_NothingToUndo => kit_is)
    (case ki_BadInterval_TooMany => kit_is)
    (case ki_Duplicate_TooMany => kit_is)
    (case ki_TooMany_TooMany => kit_is)
    (case ki_Unknown_TooMany => kit_is)
    (case ki_TooManyEdits_TooMany => kit_is)
    (case ki_NothingToUndo_TooMany => kit_is)
    (case ki_BadInterval_TooManyEdits => kit_is)
    (case ki_Duplicate_TooManyEdits => kit_is)
    (case ki_TooMany_TooManyEdits => kit_is)
    (case ki_Unknown_TooManyEdits => kit_is)
    (case ki_TooManyEdits_TooManyEdits => kit_is)
    (case ki_NothingToUndo_TooManyEdits => kit_is)
    (case ki_BadInterval_TooWide => kit_is)
    (case ki_Duplicate_TooWide => kit_is)
    (case ki_TooMany_TooWide => kit_is)
    (case ki_Unknown_TooWide => kit_is)
    (case ki_TooManyEdits_TooWide => kit_is)
    (case ki_NothingToUndo_TooWide => kit_is)
    (case ki_BadInterval_Unknown => kit_is)
    (case ki_Duplicate_Unknown => kit_is)
    (case ki_TooMany_Unknown => kit_is)
    (case ki_Unknown_Unknown => kit_is)
    (case ki_TooManyEdits_Unknown => kit_is)
    (case ki_NothingToUndo_Unknown => kit_is)
    (case aC0 => k_is)
    (case pg0 => k_is)
    (case hd0 => k_is)
    (case po0 => k_is)
    (case sa0 => k_is)
    (case mk0 => k_is)
    (case kc0 => k_is)
    (case nf0_0 => k_is)
    (case aC1 => k_is)
    (case pg1 => k_is)
    (case hd1 => k_is)
    (case po1 => k_is)
    (case sa1 => k_is)
    (case mk1 => k_is)
    (case kc1 => k_is)
    (case nf1_0 => k_is)
    (case nf1_1 => k_is)
    (case nf1_2 => k_is)
    (case ih1 => k_is)
    (case in1 => k_is)
    (case it1 => k_is)
    (case im1 => k_is)
    (case a0 => k_is)
    (case l0 => k_is)
    (case c0 => k_is)
    (case k0 => k_is)
    (case a1 => k_is)
    (case l1 => k_is)
    (case c1 => k_is)
    (case k1 => k_is)
    (case a2 => k_is)
    (case l2 => k_is)
    (case c2 => k_is)
    (case k2 => k_is)
    (case a3 => k_is)
    (case i3 => k_is)
    (case l3 => k_is)
    (case c3 => k_is)
    (case k3 => k_is)
    (case a4 => k_is)
    (case i4 => k_is)
    (case l4 => k_is)
    (case c4 => k_is)
    (case k4 => k_is)
    (case a5 => k_is)
    (case l5 => k_is)
    (case c5 => k_is)
    (case k5 => k_is)
    (case a6 => k_is)
    (case i6 => k_is)
    (case l6 => k_is)
    (case c6 => k_is)
    (case k6 => k_is)
    (case a7 => k_is)
    (case l7 => k_is)
    (case c7 => k_is)
    (case k7 => k_is)
    (case a8 => k_is)
    (case l8 => k_is)
    (case c8 => k_is)
    (case k8 => k_is)
    (case a9 => k_is)
    (case l9 => k_is)
    (case c9 => k_is)
    (case k9 => k_is)
    (case a10 => k_is)
    (case l10 => k_is)
    (case c10 => k_is)
    (case k10 => k_is)
    (case a11 => k_is)
    (case i11 => k_is)
    (case l11 => k_is)
    (case c11 => k_is)
    (case k11 => k_is)
    (case a12 => k_is)
    (case l12 => k_is)
    (case c12 => k_is)
    (case k12 => k_is)
    (case a13 => k_is)
    (case l13 => k_is)
    (case c13 => k_is)
    (case k13 => k_is)
    (case a14 => k_is)
    (case i14 => k_is)
    (case l14 => k_is)
    (case c14 => k_is)
    (case k14 => k_is)
    (case kw14 => k_is)
    (case a15 => k_is)
    (case l15 => k_is)
    (case c15 => k_is)
    (case k15 => k_is)
    (case a16 => k_is)
    (case l16 => k_is)
    (case c16 => k_is)
    (case k16 => k_is)
    (case a17 => k_is)
    (case l17 => k_is)
    (case c17 => k_is)
    (case k17 => k_is)
    (case a18 => k_is)
    (case l18 => k_is)
    (case c18 => k_is)
    (case k18 => k_is)
    (case a19 => k_is)
    (case l19 => k_is)
    (case c19 => k_is)
    (case k19 => k_is)
    (case a20 => k_is)
    (case l20 => k_is)
    (case c20 => k_is)
    (case k20 => k_is)
    (case a21 => k_is)
    (case l21 => k_is)
    (case c21 => k_is)
    (case k21 => k_is)
    (case a22 => k_is)
    (case i22 => k_is)
    (case l22 => k_is)
    (case c22 => k_is)
    (case k22 => k_is)
    (case a23 => k_is)
    (case i23 => k_is)
    (case l23 => k_is)
    (case c23 => k_is)
    (case k23 => k_is)
    (case a24 => k_is)
    (case i24 => k_is)
    (case l24 => k_is)
    (case c24 => k_is)
    (case k24 => k_is)
    (case a25 => k_is)
    (case i25 => k_is)
    (case l25 => k_is)
    (case c25 => k_is)
    (case k25 => k_is)
    (case a26 => k_is)
    (case l26 => k_is)
    (case c26 => k_is)
    (case k26 => k_is)
    (case z0 => k_is)
    (case z1 => k_is)
    (case z2 => k_is)
    (case z3 => k_is)
    (case z4 => k_is)
    (case z5 => k_is)
    (case z6 => k_is)
    (case z7 => k_is)
    (case z8 => k_is)
    (case z9 => k_is)
    (case z10 => k_is)
    (case z11 => k_is)
    (case z12 => k_is)
    (case z13 => k_is)
    (case z14 => k_is)
    (case x0 => k_is)
    (case x1 => k_is)
    (case x2 => k_is)
    (case x3 => k_is)
    (case x4 => k_is)
    (case x5 => k_is)
    (case y5 => k_is)
    (case x6 => k_is)
