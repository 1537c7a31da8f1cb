import PyProof.Rows.All
import Wide.All
import OpenK.AllK
import Wide.FinOn
import HandS.ForMost
import HandS.Exc
import HandS.ExcInit
import HandS.ExcField
import HandS.ExcIs
import HandS.IsInst
import HandS.Wide
import HandS.WideBits
import HandS.TupMul
import HandS.TupAny
import HandS.Conv
import HandS.RaiseMore
import HandS.WordsExc
import KE.KExcSuper
import KE.KExcIs
import KE.GoesMore
import HandS.Style
import HandS.Zip
import HandS.More
import HandS.Deep
import PySem.Challenge.RW_fewgoings_k14_outputs_of_other_traces
set_option Elab.async false
set_option linter.all false
set_option maxRecDepth 100000
set_option maxHeartbeats 4000000
/-! FG: a layer over HandS: defs that are called where no repr is under way -/
namespace FG
open PySem PySem.Spec PyProof.Rows L2

/-- a def's promise where no guard stands around the call -/
structure FnOkG (P : Program) (w : World) (K : PySem.W.Frag) (mg : Str → Option Value) (base : Heap)
    (CX : CXT) (k : Nat) (f : Addr) (fd : FuncData) (ps : List Str) (sp : Sp) : Prop where
  len : ∀ vs H Q E, sp vs H Q E → vs.length = ps.length
  run : ∀ (A : Around) (outer : List Env) (s : Shared) (H : Hp) (args : Args) (us : List Value) (vs : List V)
    (Q : VK) (E : XK), A.guards = some [] → Room k A → Env0 P w K mg base A outer s H →
    BindsTo s fd args (ps.zip us) → Vals vs us → sp vs H Q E →
    codeAny (model P w) A (.call (.ref f) args) (CR CX outer P w H s Q E) s

section
variable {P : Program} {w : World} {K : PySem.W.Frag} {mg : Str → Option Value} {base : Heap} {CX : CXT}
  {k j : Nat} {f : Addr} {fd : FuncData} {ps : List Str} {sp : Sp}
theorem FnOkG.of (F : FnOk P w K mg base CX k f fd ps sp) : FnOkG P w K mg base CX k f fd ps sp :=
  ⟨F.len, fun A o s H args us vs Q E _ => F.run A o s H args us vs Q E⟩
theorem FnOkG.mono (F : FnOkG P w K mg base CX j f fd ps sp) (h : j ≤ k) : FnOkG P w K mg base CX k f fd ps sp :=
  ⟨F.len, fun A o s H args us vs Q E g hr => F.run A o s H args us vs Q E g (hr.mono h)⟩

/-- the rule of a def by its body, as fn_of, with the guards told -/
theorem fnG_of {name qual : Str} {params : Arguments} {body : List Stmt} {scope : Scope}
    {dV kV doc pm cdv ct oc : Value} {an od : Option Addr} {osl : Array (Option Value)} {N : List Str}
    (lk : K.lookup f = some ⟨oc, od, .func (PySem.W.fnOf name qual params body scope dV kV doc pm an cdv ct), osl⟩)
    (hcd : PySem.W.codeIn K cdv qual = true) (S : FnScope N ps scope)
    (len : ∀ vs H Q E, sp vs H Q E → vs.length = ps.length)
    (hbody : ∀ (A : Around) (outer : List Env) (s : Shared) (H : Hp) (vs : List V) (Q : VK) (E : XK),
      A.guards = some [] → Room k (A.deeper (envOfC qual scope s.heap.objs.size f cdv)) → sp vs H Q E →
      ∃ t, PSs (cxOf CX P w K mg base N qual scope f cdv A outer s H E) body t ∧
        t { nx := fun _ H' => Q .non H', rt := Q } (start N vs) H) :
    FnOkG P w K mg base CX (k + 1) f (PySem.W.fnOf name qual params body scope dV kV doc pm an cdv ct) ps sp := by
  refine ⟨len, fun A outer s H args us vs Q E hgu hr e0 hb r hsp => ?_⟩
  have hl := len vs H Q E hsp
  have KX : K.In s.heap := e0.mod.kin.keeps fun b o e => (e0.bs b o e).1
  have lim : s.heap.NoLimit := e0.mod.nolimit.keeps fun b o e => (e0.bs b o e).1
  have hkind : ∀ y ∈ ps.zip us, scope.names.lookup y.1 = some .local ∨ (scope.names.lookup y.1 = some .cell ∧
      ((cellsFrom (s.heap.objs.size + 1) scope.names []).lookup y.1).isSome = true) := by
    rintro ⟨n, v⟩ hy
    rcases S.par n (List.of_mem_zip hy).1 with q | q
    · exact .inl q
    · exact .inr ⟨q, PySem.W.cellsFrom_some _ _ _ (.inl q)⟩
  refine codeAny_call_function hr.depth (KX _ _ lk) rfl S.co S.gen rfl (PySem.W.codeRec_of KX hcd) (hb _ _ _ _ ?_)
  refine wpAny_newFunctionEnv_cells S.kind hkind ?_
  rintro env rfl s1 x
  refine ⟨lim.keeps x.toInCall.keep, codeAny_func ?_⟩
  obtain ⟨t, ht, hq⟩ := hbody A outer s H vs Q E hgu (hr.deeper _) hsp
  have I : Inv (cxOf CX P w K mg base N qual scope f cdv A outer s H E) [] (start N vs) H s1 :=
    inv_start S hr.hd e0 hl r x
  refine wpAny_mono (ht.run [] s1 (start N vs) H _ I hq) ?_ (fun _ _ hs => hs)
  intro fl s' hs
  cases fl with
  | ret u =>
    obtain ⟨v, σ', H', J, rv, q⟩ := hs
    exact ⟨v, H', J.os, J.bare, J.base, J.hok, rv, q⟩
  | next =>
    obtain ⟨σ', H', J, q⟩ := hs
    exact ⟨V.non, H', J.os, J.bare, J.base, J.hok, rfl, q⟩
  | brk => exact False.elim hs.choose_spec.choose_spec.2
  | cont => exact False.elim hs.choose_spec.choose_spec.2

theorem okG {x qual : Str} {st : Stmt} {N : List Str} (F : Fun K x qual st f fd) (S : FnScope N ps (defScope st))
    (len : ∀ vs H Q E, sp vs H Q E → vs.length = ps.length)
    (hbody : ∀ (cdv : Value) (A : Around) (outer : List Env) (s : Shared) (H : Hp) (vs : List V) (Q : VK) (E : XK),
      A.guards = some [] → Room k (A.deeper (envOfC qual (defScope st) s.heap.objs.size f cdv)) → sp vs H Q E →
      ∃ t, PSs (cxOf CX0 P w K mg base N qual (defScope st) f cdv A outer s H E).nox (defBody st) t ∧
        t { nx := fun _ H' => Q .non H', rt := Q } (start N vs) H) : FnOkG P w K mg base CX0 (k + 1) f fd ps sp := by
  obtain ⟨oc, od, kV, doc, pm, an, cdv, ct, osl, rfl, lk, hcd⟩ := F.ex
  refine fnG_of lk hcd S len fun A outer s H vs Q E hgu hr hsp => ?_
  obtain ⟨t, h, q⟩ := hbody cdv A outer s H vs Q E hgu hr hsp
  exact ⟨t, h.nox, q⟩
end

section
variable {X : Cx} {CX : CXT} {k : Nat} {f C : Addr} {fd : FuncData} {ps : List Str} {sp : Sp} {dvs : List V}
  {ds : List Value} {E : XK} {x : Str} {p pos : Pos} {e : Expr} {es : List Expr} {t : TA}
/-- the callee runs, no guard around -/
theorem runG {pins : List (Addr × Obj)} {σ : L2.St} {H : Hp} {s : Shared} {Q : VK} {us : List Value} {vs : List V}
    (F : FnOkG X.prog X.w X.K X.mg X.base CX k f fd ps sp) (hgu : X.A.guards = some []) (hr : Room k X.A)
    (hb : Binds X.K fd ps ds) (hd : Vals dvs ds) (hx : Passes CX X E) (I : Inv X pins σ H s) (r : Vals vs us)
    (h : sp (vs ++ dvs) H Q E) : wpAny (model X.prog X.w) X.A (call (.ref f) us) (EP X pins σ Q) X.xe s := by
  have r2 : Vals (vs ++ dvs) (us ++ ds) := r.append hd
  have hl : (us ++ ds).length = ps.length := by rw [← r2.length]; exact F.len _ _ _ _ h
  have run := F.run X.A X.stack s H ⟨us, []⟩ (us ++ ds) (vs ++ dvs) Q E hgu hr I.env0 (hb s us I.kIn hl) r2 h
  refine wpAny_call (codeAny_mono run ?_)
  intro r s' hq
  cases r with
  | error e => exact hx pins σ H s e s' I hq
  | ok fl =>
    cases fl with
    | ret u => exact I.after hq
    | _ => exact False.elim hq
theorem pe_callG (F : FnOkG X.prog X.w X.K X.mg X.base CX k f fd ps sp) (hgu : X.A.guards = some [])
    (hr : Room k X.A) (hg : Gl X x) (hm : X.mg x = some (.ref f)) (hk : PySem.W.keepIn X.K (.ref f) = true)
    (hb : Binds X.K fd ps ds) (hd : Vals dvs ds) (hx : Passes CX X E) (ha : PA X (e :: es) t)
    (hdb : (x == ("__debug__" : Str)) = false := by decide)
    (he : starEach (e :: es) X.env = (false, eval e X.env) :: starEach es X.env := by rfl)
    (hpl : (backTo pos (starEach es X.env)).any (·.1) = false := by rfl) :
    PE X (.Call (.Name x p) (e :: es) [] pos) (tCall sp dvs E t) := by
  refine ⟨fun pins s σ H Q I h => wpAny_Call_Name_kw (ld_glob I hg hm ?_ hdb)⟩
  refine PySem.W.callWith_K (h₀ := X.base) I.ok.mod.kin hk (thn (ha.run pos pins s σ H _ I h) ?_) he hpl
  rintro us s1 ⟨vs, H1, I1, r, q⟩
  exact ⟨I1.kIn, runG F hgu hr hb hd hx I1 r q⟩
end

/-! ### the law's end -/
/-- the head, as law_call, for a promise under no guard -/
theorem lawG {P : Program} {w : World} {K : PySem.W.Frag} {mg mb : Str → Option Value} {k : Nat}
    {fa a : Addr} {fd : FuncData} {x : Str} {sp : Sp} {s₁ : Shared} {vs : List Value} {ns : List Int}
    (KX : K.In s₁.heap) (hns : s₁.heap.Ns mainGlobals mg) (hb : s₁.heap.Ns builtinsNs mb)
    (hbb : ∀ x : Str, x ≠ "__name__" → mb x = bootBuiltins x) (hlim : s₁.heap.NoLimit) (hg : s₁.gens = #[])
    (ha : s₁.heap.get? a = some { cls := .type "list", data := .seq vs.toArray }) (hi : IntsAre vs ns)
    (hl : ns.length ≤ sizeLine) (hr : Room k callerA)
    (F : ∀ base : Heap, K.In base → base.Ns mainGlobals mg → FnOkG P w K mg base CX0 k fa fd [x] sp)
    (hbind : ∀ (s : Shared) (u : Value), BindsTo s fd ⟨[u], []⟩ [(x, u)])
    (hsp : ∀ H : Hp, Only H → SqL K H a (ns.map V.int) → sp [.ref a] H (fun v _ => v = .bl true) fun _ _ _ => False) :
    codeAny (model P w) callerA (.call (.ref fa) ⟨[.ref a], []⟩)
      (fun r s' => r = .ok (.ret (.bool true)) ∧ OldK s₁.heap s'.heap ∧ s'.os = s₁.os ∧ AllBare s'.gens) s₁ := by
  have rv := vals_ints hi
  have lenV := hi.length
  have core : ∀ H : Hp, Only H → SqL K H a (ns.map V.int) → HOk P w H s₁.heap → (∀ b, H b ≠ none → b = a) →
      (H a ≠ none → K.lookup a = none) → codeAny (model P w) callerA (.call (.ref fa) ⟨[.ref a], []⟩)
      (fun r s' => r = .ok (.ret (.bool true)) ∧ OldK s₁.heap s'.heap ∧ s'.os = s₁.os ∧ AllBare s'.gens) s₁ := by
    intro H hO hS hok hA hK
    have noA : ∀ {b : Addr} {o : Obj} {es : Array DictEntry} {ep : Nat},
        s₁.heap.get? b = some o → o.data = .dict es ep → H b = none := by
      intro b o es ep e d
      cases q : H b with
      | none => rfl
      | some u =>
        obtain rfl : b = a := hA b (by rw [q]; simp)
        rw [ha] at e; cases e
        cases (show Data.seq vs.toArray _ = Data.dict es ep from d)
    have nsK : ∀ {b : Addr} {m : Str → Option Value}, s₁.heap.Ns b m → (hidT s₁.heap H).Ns b m := by
      rintro b m ⟨o, es, ep, e, d, r⟩
      exact ⟨o, es, ep, hidT_get e (noA e d), d, r⟩
    have hKb : K.In (hidT s₁.heap H) := by
      intro b o e
      refine hidT_get (KX b o e) ?_
      cases q : H b with
      | none => rfl
      | some u =>
        obtain rfl : b = a := hA b (by rw [q]; simp)
        rw [hK (by rw [q]; simp)] at e; cases e
    have hM : Mod K mg (hidT s₁.heap H) := by
      refine ⟨hKb, nsK hns, ⟨mb, nsK hb, hbb⟩, ?_⟩
      obtain ⟨mc, h1, h2⟩ := hlim
      exact ⟨mc, nsK h1, h2⟩
    have e0 : Env0 P w K mg (hidT s₁.heap H) callerA [] s₁ H :=
      { frames := rfl, mod := hM, bs := fun b o e => of_hidT e, bsz := Nat.le_of_eq (hidT_size _ _), funs := trivial,
        frf := fun b hb => absurd (show b ∈ ([] : List Addr) from hb) (by simp), hok := hok, bare := .of_eq hg }
    have run := (F _ hKb (nsK hns)).run callerA [] s₁ H ⟨[.ref a], []⟩ [.ref a] [.ref a] (fun v _ => v = .bl true)
      (fun _ _ _ => False) rfl hr e0 (hbind s₁ (.ref a)) (.cons rfl .nil) (hsp H hO hS)
    refine codeAny_mono run ?_
    intro r s' h
    cases r with
    | error e => exact False.elim h
    | ok fl =>
      cases fl with
      | ret u =>
        obtain ⟨v, H', os, bare, un, hok', r', q⟩ := h
        obtain rfl : v = .bl true := q
        obtain rfl : u = Value.bool true := r'
        refine ⟨rfl, OldK.of_keep fun b o e => ?_, os, bare⟩
        cases q : H b with
        | none => exact un.keep b o e q (by intro z; exact absurd (show b ∈ ([] : List Addr) from z) (by simp)) (by simp)
        | some u =>
          rcases hO b with z | ⟨ob, xs, z⟩
          · rw [q] at z; cases z
          · obtain ⟨e1, _⟩ := hok b _ z
            obtain ⟨e2, _⟩ := hok' b _ (un.frzs b ob _ z)
            rw [e] at e1; cases e1
            exact e2
      | _ => exact False.elim h
  cases hk : K.lookup a with
  | some o =>
    have e := KX a o hk
    rw [ha] at e
    cases e
    refine core (fun _ => none) (fun _ => .inl rfl) (.inr ⟨_, vs.toArray, _, hk, rfl, rfl, rfl, ?_, by simpa using rv⟩) ?_ ?_ ?_
    · rw [List.size_toArray, lenV]; exact hl
    · intro b u z; cases (show (none : Option HO) = some u from z)
    · intro b z; exact absurd rfl z
    · intro z; exact absurd rfl z
  | none =>
    let ob : Obj := { cls := .type "list", data := .seq vs.toArray }
    refine core (fun b => if b = a then some (.frz ob (.lst (ns.map V.int))) else none) ?_ (.inl (.inr ⟨ob, if_pos rfl⟩)) ?_ ?_ ?_
    · intro b
      by_cases hb : b = a
      · exact .inr ⟨_, _, if_pos hb⟩
      · exact .inl (if_neg hb)
    · intro b u z
      by_cases hb : b = a
      · cases (if_pos hb).symm.trans z
        subst hb
        exact ⟨ha, by rw [List.length_map]; exact hl, vs, _, rv, ha⟩
      · cases (if_neg hb).symm.trans z
    · intro b z
      by_cases hb : b = a
      · exact hb
      · exact absurd (if_neg hb) z
    · intro _; exact hk

/-- the goal of k_head, from a promise under no guard -/
theorem walkG {l : PySem.W.OpenLaw} {n k : Nat} {q : Program} {loose : List Str}
    {XP : (Str → Option Value) → Heap → Prop} {YP : World → Heap → Prop} {d : DefRec} {K : Params → PySem.W.Frag}
    {sp : World → Sp} {x : Str} (hn : l.most = some n) (hn2 : n ≤ sizeLine) (hdf : d.params.defaults = [])
    (hr : Room k callerA) (hY : ∀ (w : World) (h : Heap), YP w h → (K w.params).In h)
    (F : ∀ (w : World) (mg : Str → Option Value) (fa : Addr) (h : Heap), (K w.params).In h → h.Ns mainGlobals mg →
      mg d.name = some (.ref fa) → ∃ fd : FuncData, (∀ (s : Shared) (u : Value), BindsTo s fd ⟨[u], []⟩ [(x, u)]) ∧
        ∀ base : Heap, (K w.params).In base → base.Ns mainGlobals mg →
          FnOkG l.prog w (K w.params) mg base CX0 k fa fd [x] (sp w))
    (hsp : ∀ (w : World) (H : Hp) (a : Addr) (ns : List Int), ns.length ≤ n → Only H →
      SqL (K w.params) H a (ns.map V.int) → sp w [.ref a] H (fun v _ => v = .bl true) fun _ _ _ => False) :
    PySem.W.WalkO q loose XP YP l.row.toRowW d [] (fun f vs => PySem.call f vs) := by
  refine Att.attach_call hn hdf ?_
  intro w s₀ s₁ mg mb fa o pm cd doc a vs ns G Y ho hd hcd hmg hobj hints hlen hg
  have KX := hY w _ Y
  obtain ⟨fd, hb, hF⟩ := F w mg fa _ KX G.T.g hmg
  exact lawG KX G.T.g G.T.b G.T.builtins G.T.nolimit hg hobj hints (Nat.le_trans hlen hn2) hr hF hb
    (fun H hO hS => hsp w H a ns hlen hO hS)
end FG

/-! FG: data of any depth, repr -/
namespace FG
open PySem PySem.Spec PyProof.Rows L2

def keyD : Key → PyData
  | .inl i => .int i
  | .inr x => .str x
/-- a list, a tuple that is read, and stays while the places of M may change -/
def SqLm (K : PySem.W.Frag) (M : Addr → Prop) (H : Hp) (a : Addr) (xs : List V) : Prop := (¬ M a ∧ Rd H a (.lst xs)) ∨ SqL K (fun _ => none) a xs
def SqTm (K : PySem.W.Frag) (M : Addr → Prop) (H : Hp) (a : Addr) (xs : List V) : Prop := (¬ M a ∧ Rd H a (.tup xs)) ∨ SqT K (fun _ => none) a xs
theorem SqLm.l {K : PySem.W.Frag} {M : Addr → Prop} {H : Hp} {a : Addr} {xs : List V} (h : SqLm K M H a xs) : SqL K H a xs := by
  rcases h with ⟨_, h⟩ | h
  · exact .inl h
  · rcases h with (h | ⟨o, h⟩) | h
    · cases h
    · cases h
    · exact .inr h
theorem SqTm.t {K : PySem.W.Frag} {M : Addr → Prop} {H : Hp} {a : Addr} {xs : List V} (h : SqTm K M H a xs) : SqT K H a xs := by
  rcases h with ⟨_, h⟩ | h
  · exact .inl h
  · rcases h with (h | ⟨o, h⟩) | h
    · cases h
    · cases h
    · exact .inr h
theorem SqTm.of {K : PySem.W.Frag} {M : Addr → Prop} {H : Hp} {a : Addr} {xs : List V} (n : ¬ M a) (h : SqT K H a xs) : SqTm K M H a xs := by
  rcases h with h | h
  · exact .inl ⟨n, h⟩
  · exact .inr (.inr h)
theorem SqLm.of {K : PySem.W.Frag} {M : Addr → Prop} {H : Hp} {a : Addr} {xs : List V} (n : ¬ M a) (h : SqL K H a xs) : SqLm K M H a xs := by
  rcases h with h | h
  · exact .inl ⟨n, h⟩
  · exact .inr (.inr h)
mutual
inductive Dq (K : PySem.W.Frag) (M : Addr → Prop) (H : Hp) : V → PyData → Prop
  | non : Dq K M H .non .none
  | bl (b : Bool) : Dq K M H (.bl b) (.bool b)
  | int (i : Int) : Dq K M H (.int i) (.int i)
  | str (x : Str) : Dq K M H (.str x) (.str x)
  | lst {a : Addr} {xs : List V} {ds : List PyData}  : SqLm K M H a xs → DqAll K M H xs ds → Dq K M H (.ref a) (.list ds)
  | tup {a : Addr} {xs : List V} {ds : List PyData}  : SqTm K M H a xs → DqAll K M H xs ds → Dq K M H (.ref a) (.tuple ds)
  | dct {a : Addr} {kvs : List (Key × V)} {ds : List PyData}  : ¬ M a → H a = some (.dK kvs) → DqAll K M H (kvs.map (·.2)) ds →
      Dq K M H (.ref a) (.dict ((kvs.map fun p => keyD p.1).zip ds))
inductive DqAll (K : PySem.W.Frag) (M : Addr → Prop) (H : Hp) : List V → List PyData → Prop
  | nil : DqAll K M H [] []
  | cons {v : V} {vs : List V} {d : PyData} {ds : List PyData} : Dq K M H v d → DqAll K M H vs ds → DqAll K M H (v :: vs) (d :: ds)
end

theorem same_t {K : PySem.W.Frag} {H H' : Hp} {a : Addr} {xs : List V} (e : Same H H') (h : SqT K H a xs) : SqT K H' a xs := by
  rcases h with (h | ⟨o, h⟩) | h
  · exact .inl (.inl (e _ _ h))
  · exact .inl (.inr ⟨o, e _ _ h⟩)
  · exact .inr h
theorem same_upd {H : Hp} {p : Addr} {o : HO} (h : H p = none) : Same H (upd H p o) := fun b x e => by
  rw [upd_ne (ne_of_none e h)]
  exact e
theorem same_put {H H' : Hp} {p : Addr} {o : HO} (s : Same H H') (h : H p = none) : Same H (upd H' p o) := fun b x e => by
  rw [upd_ne (ne_of_none e h)]
  exact s b x e
/-- all that was tracked is as it was, but for the places of M -/
def SameM (M : Addr → Prop) (H H' : Hp) : Prop := ∀ b o, ¬ M b → H b = some o → H' b = some o
theorem SameM.refl (M : Addr → Prop) (H : Hp) : SameM M H H := fun _ _ _ h => h
theorem SameM.trans {M : Addr → Prop} {H H1 H2 : Hp} (a : SameM M H H1) (b : SameM M H1 H2) : SameM M H H2 := fun c o n h => b c o n (a c o n h)
theorem SameM.of {M : Addr → Prop} {H H' : Hp} (s : Same H H') : SameM M H H' := fun b o _ h => s b o h
theorem SameM.upd {M : Addr → Prop} {H : Hp} {p : Addr} {o : HO} (h : M p) : SameM M H (upd H p o) := fun b x n e => by
  rw [upd_ne]
  · exact e
  · rintro rfl; exact n h
section
variable {K : PySem.W.Frag} {M : Addr → Prop} {H H' : Hp}
theorem SameM.rd {a : Addr} {u : HO} (s : SameM M H H') (n : ¬ M a) (h : Rd H a u) : Rd H' a u := by
  rcases h with h | ⟨o, h⟩
  · exact .inl (s _ _ n h)
  · exact .inr ⟨o, s _ _ n h⟩
theorem SameM.l {a : Addr} {xs : List V} (s : SameM M H H') (h : SqLm K M H a xs) : SqLm K M H' a xs := by
  rcases h with ⟨n, h⟩ | h
  · exact .inl ⟨n, s.rd n h⟩
  · exact .inr h
theorem SameM.t {a : Addr} {xs : List V} (s : SameM M H H') (h : SqTm K M H a xs) : SqTm K M H' a xs := by
  rcases h with ⟨n, h⟩ | h
  · exact .inl ⟨n, s.rd n h⟩
  · exact .inr h
mutual
theorem Dq.mono (s : SameM M H H') : ∀ {v : V} {d : PyData}, Dq K M H v d → Dq K M H' v d
  | _, _, .non => .non
  | _, _, .bl b => .bl b
  | _, _, .int i => .int i
  | _, _, .str x => .str x
  | _, _, .lst h a => .lst (s.l h) (DqAll.mono s a)
  | _, _, .tup h a => .tup (s.t h) (DqAll.mono s a)
  | _, _, .dct n h a => .dct n (s _ _ n h) (DqAll.mono s a)
theorem DqAll.mono (s : SameM M H H') : ∀ {vs : List V} {ds : List PyData}, DqAll K M H vs ds → DqAll K M H' vs ds
  | _, _, .nil => .nil
  | _, _, .cons h a => .cons (Dq.mono s h) (DqAll.mono s a)
end
/-! places where nothing was tracked may change, too -/
mutual
theorem Dq.avoid {N : Addr → Prop} (f : ∀ a, N a → M a ∨ H a = none) : ∀ {v : V} {d : PyData}, Dq K M H v d → Dq K N H v d
  | _, _, .non => .non
  | _, _, .bl b => .bl b
  | _, _, .int i => .int i
  | _, _, .str x => .str x
  | _, _, .lst h a => .lst (by
      rcases h with ⟨n, h⟩ | h
      · refine .inl ⟨fun z => ?_, h⟩
        rcases f _ z with y | y
        · exact n y
        · rcases h with h | ⟨o, h⟩
          · rw [y] at h; cases h
          · rw [y] at h; cases h
      · exact .inr h) (DqAll.avoid f a)
  | _, _, .tup h a => .tup (by
      rcases h with ⟨n, h⟩ | h
      · refine .inl ⟨fun z => ?_, h⟩
        rcases f _ z with y | y
        · exact n y
        · rcases h with h | ⟨o, h⟩
          · rw [y] at h; cases h
          · rw [y] at h; cases h
      · exact .inr h) (DqAll.avoid f a)
  | _, _, .dct n h a => .dct (fun z => by
      rcases f _ z with y | y
      · exact n y
      · rw [y] at h; cases h) h (DqAll.avoid f a)
theorem DqAll.avoid {N : Addr → Prop} (f : ∀ a, N a → M a ∨ H a = none) : ∀ {vs : List V} {ds : List PyData}, DqAll K M H vs ds → DqAll K N H vs ds
  | _, _, .nil => .nil
  | _, _, .cons h a => .cons (Dq.avoid f h) (DqAll.avoid f a)
end
theorem DqAll.length : ∀ {vs : List V} {ds : List PyData}, DqAll K M H vs ds → vs.length = ds.length
  | _, _, .nil => rfl
  | _, _, .cons _ a => by
    rw [List.length_cons, List.length_cons, DqAll.length a]
theorem DqAll.get : ∀ {vs : List V} {ds : List PyData} {i : Nat} {v : V}, DqAll K M H vs ds → vs[i]? = some v → ∃ d, ds[i]? = some d ∧ Dq K M H v d
  | _, _, _, _, .nil, e => by simp at e
  | _, _, 0, _, .cons h _, e => by simp at e; subst e; exact ⟨_, rfl, h⟩
  | _, _, i + 1, v, .cons _ a, e => by
    obtain ⟨d, h1, h2⟩ := DqAll.get (i := i) a (by simpa using e)
    exact ⟨d, by simpa using h1, h2⟩
theorem DqAll.append : ∀ {vs ws : List V} {ds es : List PyData}, DqAll K M H vs ds → DqAll K M H ws es → DqAll K M H (vs ++ ws) (ds ++ es)
  | _, _, _, _, .nil, b => b
  | _, _, _, _, .cons h a, b => .cons h (DqAll.append a b)
theorem DqAll.take : ∀ {vs : List V} {ds : List PyData} (n : Nat), DqAll K M H vs ds → DqAll K M H (vs.take n) (ds.take n)
  | _, _, 0, _ => .nil
  | _, _, _ + 1, .nil => .nil
  | _, _, n + 1, .cons h a => .cons h (DqAll.take n a)
theorem DqAll.drop : ∀ {vs : List V} {ds : List PyData} (n : Nat), DqAll K M H vs ds → DqAll K M H (vs.drop n) (ds.drop n)
  | _, _, 0, a => a
  | _, _, _ + 1, .nil => .nil
  | _, _, n + 1, .cons _ a => DqAll.drop n a
end

mutual
def noList : PyData → Bool
  | .none | .bool _ | .int _ | .str _ => true
  | .list _ => false
  | .tuple xs => noListAll xs
  | .dict kvs => noListKv kvs
def noListAll : List PyData → Bool
  | [] => true
  | x :: xs => noList x && noListAll xs
def noListKv : List (PyData × PyData) → Bool
  | [] => true
  | (k, v) :: r => noList k && noList v && noListKv r
end
theorem noListKv_vals : ∀ (ks : List PyData) (ds : List PyData), ks.length = ds.length → noListKv (ks.zip ds) = true → noListAll ds = true
  | [], [], _, _ => rfl
  | k :: ks, d :: ds, hl, h => by
    rw [List.zip_cons_cons] at h
    simp only [noListKv, Bool.and_eq_true] at h
    simp only [noListAll, Bool.and_eq_true]
    exact ⟨h.1.2, noListKv_vals ks ds (by simpa using hl) h.2⟩

section
variable {X : Cx} {pins : List (Addr × Obj)} {σ : L2.St} {M : Addr → Prop} {H : Hp} {s : Shared}
theorem pairs_keys {P : Program} {w : World} {h : Heap} : ∀ {es : List DictEntry} {kvs : List (Key × Value)}, Pairs (mixKind P w) es kvs →
    ReadsAll h (es.map (·.key)) (kvs.map fun p => keyD p.1) [] ∧ es.map (·.val) = kvs.map (·.2) := by
  intro es
  induction es with
  | nil =>
    intro kvs h
    cases h
    exact ⟨.nil, rfl⟩
  | cons e es ih =>
    intro kvs h
    cases h with
    | cons k1 k2 h2 =>
      rename_i p kvs
      obtain ⟨r1, r2⟩ := ih h2
      refine ⟨?_, ?_⟩
      · show ReadsAll _ (e.key :: es.map (·.key)) (keyD p.1 :: _) ([] ++ [])
        refine .cons ?_ r1
        rcases keyIs_shape k1 with ⟨i, t, e1, e2⟩ | ⟨x, t, e1, e2⟩
        · rw [e1, e2]; exact .int i t
        · rw [e1, e2]; exact .str x t
      · rw [List.map_cons, List.map_cons, r2, k2]
theorem kv_vals {κ : Type} : ∀ {kvs : List (κ × V)} {vs : List (κ × Value)}, KV kvs vs → Vals (kvs.map (·.2)) (vs.map (·.2)) ∧ kvs.map (·.1) = vs.map (·.1)
  | _, _, .nil => ⟨.nil, rfl⟩
  | _, _, .cons r t => by
    obtain ⟨a, b⟩ := kv_vals t
    exact ⟨.cons r.2 a, by rw [List.map_cons, List.map_cons, b, r.1]⟩
mutual
theorem Dq.reads (I : Inv X pins σ H s) : ∀ {v : V} {d : PyData}, Dq X.K M H v d → ∀ u : Value, RelV v u →
    ∃ as, Reads s.heap u d as ∧ (noList d = true → sysModules ∉ as)
  | _, _, .non, _, r => by
    cases r
    exact ⟨_, Reads.none, fun _ => by simp⟩
  | _, _, .bl b, _, r => by
    cases r
    exact ⟨_, Reads.bool b, fun _ => by simp⟩
  | _, _, .int i, _, r => by
    obtain ⟨t, rfl⟩ := r
    exact ⟨_, Reads.int i t, fun _ => by simp⟩
  | _, _, .str x, _, r => by
    obtain ⟨t, rfl⟩ := r
    exact ⟨_, Reads.str x t, fun _ => by simp⟩
  | _, _, .lst hs ha, _, r => by
    cases r
    obtain ⟨its, rv, ⟨o, n, ho, hc, _, hd⟩, _⟩ := I.list hs.l
    obtain ⟨as, hr, _⟩ := DqAll.reads I ha its rv
    exact ⟨_, Reads.list ho hc hd hr, fun z => by simp [noList] at z⟩
  | _, _, .tup hs ha, _, r => by
    cases r
    obtain ⟨its, rv, ⟨o, ho, hc, n, hd⟩, _⟩ := I.tuple hs.t
    obtain ⟨as, hr, hn⟩ := DqAll.reads I ha its rv
    exact ⟨_, Reads.tuple ho hc hd hr, fun z => hn (by simpa [noList] using z)⟩
  | _, _, @Dq.dct _ _ _ a kvs ds _ hs ha, _, r => by
    cases r
    obtain ⟨_, hsys, vs, kv, o, es, ep, ho, hex, hd, _, hp, _⟩ := I.hok a _ hs
    obtain ⟨r1, r2⟩ := pairs_keys (h := s.heap) hp
    obtain ⟨rv, ek⟩ := kv_vals kv
    have hl := DqAll.length ha
    rw [List.length_map] at hl
    have hl2 : (kvs.map fun p => keyD p.1).length = ds.length := by rw [List.length_map]; exact hl
    obtain ⟨bs, q1, q2⟩ := DqAll.reads I ha (vs.map (·.2)) rv
    have ek2 : (kvs.map fun p => keyD p.1) = vs.map fun p => keyD p.1 := by
      have e := congrArg (List.map keyD) ek
      rw [List.map_map, List.map_map] at e
      exact e
    refine ⟨_, Reads.dict ho hex.1 hd (as := []) (bs := bs) ?_ ?_, fun z => ?_⟩
    · rw [List.map_fst_zip (by omega), ek2]; exact r1
    · rw [List.map_snd_zip (by omega), r2]; exact q1
    · have zz := q2 (noListKv_vals _ _ hl2 (by simpa [noList] using z))
      intro hm
      rcases List.mem_append.mp hm with y | y
      · obtain rfl : sysModules = a := by simpa using y
        simp at hsys
      · exact zz y
theorem DqAll.reads (I : Inv X pins σ H s) : ∀ {vs : List V} {ds : List PyData}, DqAll X.K M H vs ds → ∀ us : List Value, Vals vs us →
    ∃ as, ReadsAll s.heap us ds as ∧ (noListAll ds = true → sysModules ∉ as)
  | _, _, .nil, _, r => by
    cases r
    exact ⟨_, ReadsAll.nil, fun _ => by simp⟩
  | _, _, .cons h1 h2, _, r => by
    cases r with
    | cons r1 r2 =>
      obtain ⟨as, q1, n1⟩ := Dq.reads I h1 _ r1
      obtain ⟨bs, q2, n2⟩ := DqAll.reads I h2 _ r2
      refine ⟨_, ReadsAll.cons q1 q2, fun z => ?_⟩
      simp only [noListAll, Bool.and_eq_true] at z
      intro hm
      rcases List.mem_append.mp hm with y | y
      · exact n1 z.1 y
      · exact n2 z.2 y
end
end

/-! ### repr -/
structure Show (d : PyData) : Prop where
  ok : d.showable = true
  dp : d.depth ≤ 60
  sz : d.shown.length ≤ sizeLine
  nl : d.hasDict = true → noList d = true
def rRepr (K : PySem.W.Frag) : List V → Hp → VK → Prop := fun xs H Q => ∃ (M : Addr → Prop) (x : V) (d : PyData), xs = [x] ∧ Dq K M H x d ∧ Show d ∧ Q (.str d.shown) H
theorem call_reprG {X : Cx} {k : Nat} (hg : X.A.guards = some []) (hr : Room k X.A) : CallR X (.builtin "repr") (rRepr X.K) := by
  intro pins s σ H xs us Q I r h
  obtain ⟨M, x, d, rfl, hd, hs, q⟩ := h
  obtain ⟨u, rfl, ru⟩ := vals1 r
  have hz := hs.sz
  have hok := hs.ok
  have fin : ∀ (a : Addr), u = .ref a → wpAny (model X.prog X.w) X.A (call (.builtin "repr") [u]) (EP X pins σ Q) X.xe s := by
    rintro a rfl
    obtain ⟨as, rd, hn⟩ := Dq.reads I hd _ ru
    refine repr_of_reads' rd hok (fun z => hn (hs.nl z)) hg ?_ (fun _ _ e => e) (fun h' t tk hk => ?_) hz
    · have := hr.un
      have := hs.dp
      omega
    · exact ⟨.str _, H, I.kept hk, ⟨_, rfl⟩, q⟩
  cases hd with
  | non =>
    cases ru
    exact PySem.P.repr_of_none ⟨.str _, H, I.tok _, ⟨_, rfl⟩, q⟩
  | bl b =>
    cases ru
    refine PySem.P.repr_of_bool ⟨.str _, H, I.tok _, ⟨_, rfl⟩, ?_⟩
    simp only [PyData.shown] at q
    exact q
  | int i =>
    obtain ⟨t, rfl⟩ := ru
    refine PySem.P.repr_of_int (by simpa [PyData.showable] using hok) ⟨.str _, H, I.tok _, ⟨_, rfl⟩, ?_⟩
    simp only [PyData.shown] at q
    exact q
  | str x =>
    obtain ⟨t, rfl⟩ := ru
    simp only [PyData.shown] at q hz
    exact PySem.P.repr_of_str ⟨.str _, H, I.tok _, ⟨_, rfl⟩, q⟩ hz
  | lst _ _ => exact fin _ ru
  | tup _ _ => exact fin _ ru
  | dct _ _ _ => exact fin _ ru
end FG

/-! FG: the errors' own __init__, with super() in it -/
namespace FG
open PySem PySem.Spec PyProof.Rows L2

/-- the body: super().__init__(text); self.value = value -/
def initBody (txt : Str) (j : Nat) (p0 p1 p2 p3 p4 p5 p6 p7 p8 p9 : Pos) : List Stmt :=
  [.Expr (.Call (.Attribute (.Call (.Name "super" p0) [] [] p1) "__init__" p2) [.Constant (.str txt) j p3] [] p4) p5,
   .Assign [.Attribute (.Name "self" p6) "value" p7] (.Name "value" p8) p9]

def initNames : List (Str × NameKind) := [((Str.ofString "self"), .local), ((Str.ofString "value"), .local), ((Str.ofString "__class__"), .free), ((Str.ofString "super"), .globalImplicit)]
def initScope (more : List (Str × Const)) : Scope := { kind := .function, names := initNames, isGenerator := false, isCoroutine := false, more := more }
/-- what the written part tells of the def at f, the class D that it stands in -/
structure InitTxt (P : Program) (K : PySem.W.Frag) (f D : Addr) (fd : FuncData) : Prop where
  fn : ∃ (oc : Value) (od : Option Addr) (osl : Array (Option Value)) (nm qual : Str) (params : Arguments) (body : List Stmt)
    (scope : Scope) (dV kV doc pm : Value) (an : Option Addr) (cda : Addr) (ct : Value) (cc : Addr) (txt : Str) (j : Nat) (p0 p1 p2 p3 p4 p5 p6 p7 p8 p9 : Pos)
    (more : List (Str × Const)) (ar : Arg) (ccl : Value) (cdd : Option Addr) (vs : Array Value) (ccs : Array (Option Value)) (file : Str) (tf : Tok)
    (cl : Value) (cld : Option Addr) (csl : Array (Option Value)),
    fd = PySem.W.ksFn nm qual params body scope dV kV doc pm an (.ref cda) ct cc ∧ K.lookup f = some ⟨oc, od, .func fd, osl⟩ ∧
    PySem.W.codeIn K (.ref cda) qual = true ∧ body = initBody txt j p0 p1 p2 p3 p4 p5 p6 p7 p8 p9 ∧
    (p2.endLine == p4.line) = true ∧ scope = initScope more ∧
    (params.posonlyargs ++ params.args).head? = some ar ∧ ar.arg = "self" ∧
    K.lookup cda = some ⟨ccl, cdd, .fields vs, ccs⟩ ∧ vs[2]? = some (.str file tf) ∧ ((P.main.file : Str) == file) = true ∧
    K.lookup cc = some ⟨cl, cld, .cell (some (.ref D)), csl⟩
  cls : ∃ cd, PySem.W.clsIn K D = some cd
  sup : PySem.W.nsIn K mainGlobals "super" = some none
  third : PySem.W.nsIn K cStatics "thirdparty.any" = some none
  top : (P.main.scope.names.lookup ("super" : Str)).isSome = false
/-- what it tells of a class C below D -/
structure ErrC (K : PySem.W.Frag) (D C : Addr) : Prop where
  oex : OexC K C
  mro : PySem.W.mroIn K C (.ref D) = some true
  up : PySem.W.ks_superIn K C D "__init__" = some (some (.builtin "ValueError.__init__"))
  ve : PySem.W.subIn K (.ref C) (.type "ValueError") = some true
  no : PySem.W.findIn K (.ref C) "value" = some none

theorem init_eval (env : Env) (txt : Str) (j : Nat) (p0 p1 p2 p3 p4 : Pos) (hp : (p2.endLine == p4.line) = true) :
   eval (.Call (.Attribute (.Call (.Name "super" p0) [] [] p1) "__init__" p2) [.Constant (.str txt) j p3] [] p4) env = (do
      let ov ← attributeBase (.Call (.Name "super" p0) [] [] p1) "__init__" env (eval (.Call (.Name "super" p0) [] [] p1) env)
      standAt p2.atName
      let (f, first) ← holding [ov] (getMethod ov "__init__" (do return (← importBound (.Call (.Name "super" p0) [] [] p1) env).getD true))
      callWith p4 f first (backTo p4 (starEach [.Constant (.str txt) j p3] env)) []) := by
  show (do
      let ov ← attributeBase (.Call (.Name "super" p0) [] [] p1) "__init__" env (eval (.Call (.Name "super" p0) [] [] p1) env)
      standAt p2.atName
      methodCall (.Call (.Name "super" p0) [] [] p1) "__init__" p2 p4 env ov 1 (backTo p4 (starEach [.Constant (.str txt) j p3] env)) []) = _
  unfold methodCall methodCallPos
  rw [hp, Bool.or_true]
  rfl

/-- its promise -/
def spInit (K : PySem.W.Frag) (D : Addr) : Sp := fun vs H Q _ => ∃ (a C : Addr) (v : V), vs = [.ref a, v] ∧ ErrC K D C ∧ H a = some (exo a C none) ∧
  ∀ dx, H dx = none → dx ≠ a → Q .non (upd (upd H dx (exd dx [("value", v)])) a (exo a C (some dx)))

theorem exo_inst {P : Program} {w : World} {H : Hp} {h : Heap} {e C : Addr} {d : Option Addr} (hok : HOk P w H h) (he : H e = some (exo e C none)) :
    ∃ ox, PySem.W.InstAt h e ox C none ∧ ∃ t1, ox = PySem.HandSPX.excO C t1 := by
  obtain ⟨t1, z⟩ := exo_at hok he
  exact ⟨_, ⟨z, rfl, rfl, trivial⟩, t1, rfl⟩

theorem init_okG {P : Program} {w : World} {K : PySem.W.Frag} {mg : Str → Option Value} {base : Heap} {f D : Addr} {fd : FuncData} {k : Nat}
    (T : InitTxt P K f D fd) : FnOk P w K mg base CX0 (k + 1) f fd ["self", "value"] (spInit K D) := by
  obtain ⟨oc, od, osl, nm, qual, params, body, scope, dV, kV, doc, pm, an, cda, ct, cc, txt, j, p0, p1, p2, p3, p4, p5, p6, p7, p8, p9,
    more, ar, ccl, cdd, vs0, ccs, file, tf, cl, cld, csl, rfl, lk, hcd, rfl, hpos, rfl, hpar, har, hcode, hvs, hfile, hcell⟩ := T.fn
  have hkind : (initScope more).kind = .function := rfl
  have hnames : (initScope more).names = initNames := rfl
  refine ⟨fun vs H Q E h => ?_, fun A outer s H args us vs Q E hr e0 hb r hsp => ?_⟩
  · obtain ⟨a, C, v, rfl, _⟩ := h
    rfl
  obtain ⟨a, C, v, rfl, EC, hexo, q⟩ := hsp
  obtain ⟨u1, u2, rfl, r1, r2⟩ := vals2 r
  obtain rfl : u1 = Value.ref a := r1
  have KX : K.In s.heap := e0.mod.kin.keeps fun b o e => (e0.bs b o e).1
  have lim : s.heap.NoLimit := e0.mod.nolimit.keeps fun b o e => (e0.bs b o e).1
  refine ks_codeAny_call_defAt (fd := PySem.W.ksFn nm qual params (initBody txt j p0 p1 p2 p3 p4 p5 p6 p7 p8 p9) (initScope more) dV kV doc pm an (.ref cda) ct cc)
    hr.depth (KX _ _ lk) rfl lim (PySem.W.codeRec_of KX hcd) rfl hb ?_ ?_ ?_ rfl rfl rfl
  · intro y hy
    have hy' : y ∈ initNames := by rw [← hnames]; exact hy
    have all : ∀ z ∈ initNames, z.2 ≠ .cell := by decide
    exact all y hy'
  · intro y hy
    show (initScope more).names.lookup y.1 = some .local
    rw [hnames]
    rcases List.mem_cons.mp hy with rfl | hy
    · rfl
    rcases List.mem_cons.mp hy with rfl | hy
    · rfl
    · cases hy
  · intro h1 hns hk1
    let L := s.heap.objs.size
    let env := PySem.W.ksEnv qual (initScope more) L f (.ref cda) cc
    let X : Cx := { prog := P, w := w, K := K, mg := mg, base := base, A := A.deeper env, N := ["self", "value"], s_0 := s, H_0 := H, env := env, outer := outer, stack := env :: outer, ex := [], fn := fun _ => false, calm := true, pn := [], xe := fun _ _ => False }
    show _root_.PySem.wpAt (model P w) (A.deeper env) (.func _ env) (execs (initBody txt j p0 p1 p2 p3 p4 p5 p6 p7 p8 p9) env) _ _ _
    have lkc : ∀ y c, env.cells.lookup y = some c → y = "__class__" ∧ c = cc := fun y c e => by
      have e' : List.lookup y [((Str.ofString "__class__"), cc)] = some c := e
      rw [List.lookup_cons] at e'
      cases hq : (y == Str.ofString "__class__") with
      | true =>
        rw [hq] at e'
        exact ⟨by simpa using hq, (Option.some.inj e').symm⟩
      | false =>
        rw [hq] at e'
        cases e'
    have kcl : K.In h1 := KX.keeps hk1
    have bk : ∀ b o, base.get? b = some o → h1.get? b = some o := fun b o e => hk1 b o (e0.bs b o e).1
    have hH : H cc = none := (e0.bs cc _ (e0.mod.kin _ _ hcell)).2
    have I0 : Inv X [] [some (.ref a), some v] H { s with heap := h1, toks := s.toks + 2 } := by
      refine ⟨⟨e0.mod, hkind, rfl, rfl, Nat.le_refl _, ?_, ?_, fun y c z _ => absurd z (by simp [X]), fun _ => hr.hd, Around.frames_deeper e0.frames, .inr ⟨rfl, rfl⟩, fun b z => ?_, e0.bs, e0.bsz, fun b _ _ z => ?_, fun b z => ?_, e0.funs, e0.frf⟩,
        rfl, e0.bare, Un.kept hk1, ⟨_, hns, ?_⟩, ?_, e0.hok.fresh (Nat.le_refl _), ?_, ?_, e0.hok.kept hk1, rfl⟩
      · intro y z c e1 e2
        rw [(lkc y c e1).1, (lkc z c e2).1]
      · intro y hy
        have hy' : (initScope more).names.lookup y = some .cell ∨ (initScope more).names.lookup y = some .free := hy
        rw [hnames] at hy'
        have hyc : y = "__class__" := by
          have all : ∀ z ∈ initNames, (z.2 = .cell ∨ z.2 = .free) → z.1 = "__class__" := by decide
          rcases hy' with z | z
          · exact all _ (PySem.mem_of_lookup z) (.inl rfl)
          · exact all _ (PySem.mem_of_lookup z) (.inr rfl)
        subst hyc
        exact ⟨cc, by rfl⟩
      · cases (show b ∈ ([] : List Addr) from z)
      · cases (show b ∈ ([] : List Addr) from z)
      · cases (show b ∈ ([] : List Addr) from z)
      · intro i y vv e1 e2 e3
        match i, e1, e2 with
        | 0, e1, e2 =>
          obtain rfl : (Str.ofString "self") = y := Option.some.inj e1
          obtain rfl : V.ref a = vv := Option.some.inj (Option.some.inj e2)
          exact ⟨.ref a, rfl, .inl ⟨by show (initScope more).names.lookup _ = _; rw [hnames]; rfl, rfl⟩⟩
        | 1, e1, e2 =>
          obtain rfl : (Str.ofString "value") = y := Option.some.inj e1
          obtain rfl : v = vv := Option.some.inj (Option.some.inj e2)
          exact ⟨u2, r2, .inl ⟨by show (initScope more).names.lookup _ = _; rw [hnames]; rfl, rfl⟩⟩
        | (n + 2), e1, e2 => cases (show (none : Option Str) = some y from e1)
      · intro y c e
        obtain ⟨_, rfl⟩ := lkc y c e
        exact ⟨_, _, kcl _ _ hcell, rfl⟩
      · intro y c e
        obtain ⟨_, rfl⟩ := lkc y c e
        exact hH
      · intro p hp
        cases (show p ∈ ([] : List (Addr × Obj)) from hp)
    obtain ⟨cdD, hcD⟩ := T.cls
    obtain ⟨oD, hD1, hD2⟩ : ∃ oD, h1.get? D = some oD ∧ oD.data = .cls cdD := by
      unfold PySem.W.clsIn at hcD
      split at hcD
      · rename_i c d cd' sl ho
        cases hcD
        exact ⟨_, kcl _ _ ho, rfl⟩
      · cases hcD
    obtain ⟨nmC, qC, NC, bsC, bmC, snC, subC, abC, colC, ddC, k0, k1, k2, k3, k5, hC, hbm⟩ := EC.oex.cls
    have hclC : PySem.W.clsIn K C = some { name := nmC, bases := bsC, mro := .ref C :: bmC, ns := NC, qualname := qC, hasDict := true, slotNames := snC, subclasses := subC, abstract := abC, collection := colC, hasDel := false } := by
      unfold PySem.W.clsIn; rw [hC] <;> rfl
    obtain ⟨ox, IA, t1, rfl⟩ := exo_inst (d := none) I0.hok hexo
    have hka : ∀ y, y ∈ [Str.ofString "self", Str.ofString "value"] → (initScope more).names.lookup y = some .local := fun y hy => by
      rw [hnames]
      rcases List.mem_cons.mp hy with rfl | hy
      · rfl
      rcases List.mem_cons.mp hy with rfl | hy
      · rfl
      · cases hy
    obtain ⟨mb, hbl, hbb⟩ := e0.mod.blt
    refine ks_wpAt_execs_cons (ks_wpAt_Expr_any (ks_wpAt_MethodCall ?_ (init_eval env txt j p0 p1 p2 p3 p4 hpos)))
    refine ks_wpAt_super_base (env := env) (by show (initScope more).names.lookup _ = _; rw [hnames]; rfl) (by show (initScope more).names.lookup _ = _; rw [hnames]; rfl) (by decide) rfl (kcl _ _ lk) rfl hpar rfl (kcl _ _ hcode) rfl hvs hfile T.top ?_
    refine PySem.W.ks_loadName_global hkind (by show (initScope more).names.lookup _ = _; rw [hnames]; rfl) (Calls.loadGlobal_builtin (env := env) (e0.mod.glob.keeps bk) (PySem.W.mg_none_of e0.mod.kin e0.mod.glob T.sup) (hbl.keeps bk) ((hbb _ (by decide +kernel)).trans (by decide +kernel)) ⟨rfl, ?_⟩)
    refine wpAny_loadName_free hkind (by show (initScope more).names.lookup _ = _; rw [hnames]; rfl) rfl ⟨_, kcl _ _ hcell, rfl⟩ ?_
    rw [har]
    refine wpAny_loadName_local hkind (hka _ (by simp)) hns rfl ?_
    refine ks_wpAny_isType_cls hD1 hD2 ⟨rfl, ?_⟩
    refine ks_wpAny_call_super hD1 hD2 IA.at_ IA.cls (fun c e => by cases e) (PySem.W.looks_mroIn kcl EC.mro) ?_
    intro h2 hso k2'
    have K2 : K.In h2 := kcl.keeps k2'
    have IA2 : PySem.W.InstAt h2 a (PySem.HandSPX.excO C t1) C none := ⟨k2' _ _ IA.at_, rfl, rfl, trivial⟩
    have hm := EC.up
    unfold PySem.W.ks_superIn at hm
    rw [hclC] at hm
    refine PySem.W.kxs_getMethod PySem.W.kxs_ValueError hso (PySem.W.looks_opaque K2 T.third) (l₀ := .ref C :: bmC) ?_ rfl K2 hm (IA2.type.andThen (PySem.W.looks_subIn K2 EC.ve)) (PySem.W.ks_ne K2 IA2 hclC) (by decide) ?_
    · exact fun A Q E s k q => wpAny_bind ((PySem.W.looks_clsIn K2 hclC) A _ E s k (wpAny_pure q))
    generalize hu0 : h2.objs.size = u0
    have hmw : (h2.push (PySem.W.kxs_mw "ValueError.__init__" a)).get? u0 = some (PySem.W.kxs_mw "ValueError.__init__" a) := by
      rw [← hu0]
      exact Heap.get?_push_at rfl rfl
    have k3' : ∀ b o, h2.get? b = some o → (h2.push (PySem.W.kxs_mw "ValueError.__init__" a)).get? b = some o := fun b o e => Heap.get?_push_of_some _ e
    generalize h2.push (PySem.W.kxs_mw "ValueError.__init__" a) = h3 at hmw k3' ⊢
    have K3 : K.In h3 := K2.keeps k3'
    have I3 : Inv X [] [some (.ref a), some v] H { s with heap := h3, toks := s.toks + 2 + 1 + 1 } := I0.kept (t' := s.toks + 2 + 1 + 1) fun b o e => k3' b o (k2' b o e)
    have he3 : h3.get? a = some (PySem.HandSPX.excO C t1) := k3' _ _ IA2.at_
    refine PySem.W.kxs_callWith (i := "ValueError.__init__") (x := a) rfl (Calls.evalArgs_plain (Calls.spliced_cons (Calls.Constant_str (k := j) (pos := p3) ?_)))
    refine Calls.spliced_nil ⟨hmw, ?_⟩
    refine wpAny_call (codeAny_of_tree ?_)
    show wpAny _ (A.deeper env).in1 (callAny (.ref u0) ⟨[.str txt (s.toks + 2 + 1)], []⟩) _ _ _
    simp only [callAny]
    refine wpAny_bind (wpAny_load hmw ?_)
    simp only [PySem.W.kxs_mw, show (Value.type "method-wrapper" == Value.type "method" || Value.type "method-wrapper" == Value.type "builtin_function_or_method" || Value.type "method-wrapper" == Value.type "method-wrapper") = true by decide, if_true]
    refine PySem.W.KFB.if_so (by decide) ?_
    refine wpAny_bind (PySem.W.check_bound_init F.excBase_ValueError.toExcCallFacts (K3 _ _ hC) he3 rfl ?_)
    refine wpAny_bind (wpAny_pure (wpAny_pure ?_))
    refine ⟨PySem.plainId_quiet F.excBase_ValueError.init.plain _, codeAny_builtin F.excBase_ValueError.initEntry ?_⟩
    refine PySem.W.exc_init_tree (cls := .ref C) (t0 := t1) (dv := none) (c2 := .none) (c3 := .none) (b4 := .bool false) he3 (show 1 ≤ sizeLine by decide) ?_
    intro h4 k4 he4 _
    have J := I3.write (t' := s.toks + 2 + 1 + 1) (x := a) (e := a) (o := exo a C none) (by rw [hexo]; exact True.intro) (.inl rfl) k4 ⟨_, he4⟩ (exo_ok he4)
    have eu : upd H a (exo a C none) = H := by
      funext b
      by_cases hb : b = a
      · rw [hb, upd_same, hexo]
      · rw [upd_ne hb]
    rw [eu] at J
    have ps : PSs X [.Assign [.Attribute (.Name "self" p6) "value" p7] (.Name "value" p8) p9] _ := pss_one (ps_ost (pv 0) (pv 1))
    have run := ps.run [] _ _ _ { nx := fun _ H' => Q .non H', rt := Q } J ?_
    · refine wpAt_of_wpAny (wpAny_mono run (fun fl s' hs => ?_) (fun _ _ hs => hs.elim))
      cases fl with
      | ret u =>
        obtain ⟨v', σ', H', J', rv, q'⟩ := hs
        exact ⟨v', H', J'.os, J'.bare, J'.base, J'.hok, rv, q'⟩
      | next =>
        obtain ⟨σ', H', J', q'⟩ := hs
        exact ⟨V.non, H', J'.os, J'.bare, J'.base, J'.hok, rfl, q'⟩
      | brk => exact False.elim hs.choose_spec.choose_spec.2
      | cont => exact False.elim hs.choose_spec.choose_spec.2
    · exact ⟨v, rfl, .ref a, rfl, a, C, rfl, EC.oex, EC.no, .inl ⟨hexo, q⟩⟩
end FG

/-! FG: errors raised, caught and kept -/
namespace FG
open PySem PySem.Spec PyProof.Rows L2

/-! ### raise X(e) -/
/-- all that is asked of an error class C called x -/
structure ErrF (P : Program) (w : World) (K : PySem.W.Frag) (mg : Str → Option Value) (base : Heap) (D C : Addr) (x : Str) : Prop where
  ec : ErrC K D C
  gx : mg x = some (.ref C)
  xf : XfC K C
  init : ∃ (fI : Addr) (fd : FuncData), PySem.W.findIn K (.ref C) "__init__" = some (some (.ref fI)) ∧ PySem.W.typeIn K (.ref fI) = some (.type "function") ∧
    InitTxt P K fI D fd ∧ Binds K fd ["self", "value"] []
/-- an expression's reading, made to bear weaker ends -/
def tW (te : TE) : TE := fun σ H Q => ∃ Q0 : VK, te σ H Q0 ∧ ∀ v H', Q0 v H' → Q v H'
theorem pe_w {X : Cx} {e : Expr} {te : TE} (he : PE X e te) : PE X e (tW te) := by
  refine ⟨fun pins s σ H Q I h => ?_⟩
  obtain ⟨Q0, h0, hm⟩ := h
  refine thn (he.run pins s σ H Q0 I h0) ?_
  rintro u s' ⟨v, H', I', r, q⟩
  exact ⟨v, H', I', r, hm v H' q⟩
def tErr (C : Addr) (te : TE) : L2.St → Hp → XK → Prop := fun σ H Q => te σ H fun v H1 => ∀ d, H1 d = none → Q (.ref C) (some d) (upd H1 d (.xd [((Str.ofString "value"), v)]))
section
variable {X : Cx} {x : Str} {p pos : Pos} {e : Expr} {te : TE} {D C : Addr} {k : Nat}
theorem pmk_err (T : ErrF X.prog X.w X.K X.mg X.base D C x) (hr : Room (k + 2) X.A) (hg : Gl X x) (he : PE X e te)
    (hdb : (x == ("__debug__" : Str)) = false := by decide) (hs : starEach [e] X.env = (false, eval e X.env) :: starEach [] X.env := by rfl) :
    PMk X (.Call (.Name x p) [e] [] pos) (tErr C te) := by
  obtain ⟨fI, fd, iC, tI, IT, hb⟩ := T.init
  have F1 : FnOk X.prog X.w X.K X.mg X.base CX0 (k + 1) fI fd ["self", "value"] (spInit X.K D) := init_okG IT
  have base := pmk_oex (p := p) (pos := pos) (dvs := []) T.ec.oex iC tI F1 hr hb .nil pass0 hg T.gx (pa_cons (pe_w he) pa_nil hs) hdb hs rfl
  intro pins s σ H Q I h
  refine base pins s σ H Q I ⟨_, h, fun v H1 hq => ⟨by show 1 ≤ 1000; decide, fun a na => ⟨a, C, v, rfl, T.ec, upd_same, fun dx ndx ne => ⟨rfl, dx, [((Str.ofString "value"), v)], upd_same, ?_, ?_, ?_⟩⟩⟩⟩
  · rw [upd_ne ne, upd_same]
  · rw [upd_ne ne] at ndx; exact ndx
  · rw [upd_ne ne] at ndx
    have e : upd (del (upd (upd (upd H1 a (exo a C none)) dx (exd dx [((Str.ofString "value"), v)])) a (exo a C (some dx))) a) dx (.xd [((Str.ofString "value"), v)]) = upd H1 dx (.xd [((Str.ofString "value"), v)]) := by
      funext b
      by_cases hb : b = dx
      · rw [hb, upd_same, upd_same]
      · rw [upd_ne hb, upd_ne hb]
        by_cases ha : b = a
        · rw [ha, del_same, na]
        · rw [del_ne ha, upd_ne ha, upd_ne hb, upd_ne ha]
    rw [e]
    exact hq dx ndx
/-- raise X(e) -/
theorem ps_err {W : WX} {rp : Pos} (hc : X.calm = true) (tk : Takes X W) (T : ErrF X.prog X.w X.K X.mg X.base D C x) (hr : Room (k + 2) X.A) (hg : Gl X x) (he : PE X e te)
    (hdb : (x == ("__debug__" : Str)) = false := by decide) (hs : starEach [e] X.env = (false, eval e X.env) :: starEach [] X.env := by rfl) :
    PS X (.Raise (some (.Call (.Name x p) [e] [] pos)) none rp) (fun _ σ H => te σ H fun v H1 => ∀ d, H1 d = none → W (.ref C) (some d) σ (upd H1 d (.xd [((Str.ofString "value"), v)]))) :=
  ps_raise hc tk (pmk_err T hr hg he hdb hs)
end

/-! ### an error that is kept -/
/-- at a: an error of the class cls, its dict d -/
def exq (a : Addr) (cls : Value) (d : Option Addr) : HO := .ext fun h => ∃ o vs, h.get? a = some o ∧ o.cls = cls ∧ o.dict = d ∧ o.data = .fields vs
theorem exq_ok {P : Program} {w : World} {H : Hp} {h : Heap} {a : Addr} {cls : Value} {d : Option Addr} {o : Obj} {vs : Array Value} (e : h.get? a = some o) (h1 : o.cls = cls) (h2 : o.dict = d) (h3 : o.data = .fields vs) :
    ObjOk P w H h a (exq a cls d) :=
  ⟨⟨o, vs, e, h1, h2, h3⟩, ⟨o, e⟩, fun _ _ ⟨o', vs', z, r⟩ k => ⟨o', vs', k _ z, r⟩⟩
theorem exq_at {P : Program} {w : World} {H : Hp} {h : Heap} {a : Addr} {cls : Value} {d : Option Addr} (hok : HOk P w H h) (he : H a = some (exq a cls d)) :
    ∃ o vs, h.get? a = some o ∧ o.cls = cls ∧ o.dict = d ∧ o.data = .fields vs := by
  have x : ObjOk P w H h a (.ext fun h => ∃ o vs, h.get? a = some o ∧ o.cls = cls ∧ o.dict = d ∧ o.data = .fields vs) := hok a _ he
  exact x.1
section
variable {X : Cx} {pins : List (Addr × Obj)} {σ : L2.St} {H : Hp} {s : Shared}
/-- an object that was pinned, and that was not there at the entry, is tracked from here on -/
theorem track {a : Addr} {o : Obj} {u : HO} (I : Inv X ((a, o) :: pins) σ H s) (h0 : X.s_0.heap.get? a = none) (hp : ∀ p ∈ X.pn ++ pins, p.1 ≠ a) (hu : ObjOk X.prog X.w (upd H a u) s.heap a u) :
    Inv X pins σ (upd H a u) s := by
  obtain ⟨ha, hn, hL, hF, hc⟩ := I.pin (a, o) (List.mem_append_right _ List.mem_cons_self)
  have ne : ∀ {b : Addr} {z : HO}, H b = some z → b ≠ a := fun {b z} e q => by rw [q, hn] at e; cases e
  refine ⟨I.ok, I.os, I.bare, ⟨I.base.keep, I.base.slot, ?_, I.base.there, ?_, ?_, ?_⟩, I.loc, I.cell, ?_, ?_, ?_, ?_, I.len⟩
  · intro b ob e n hx
    rw [upd_ne]
    · exact I.base.free b ob e n hx
    · rintro rfl
      rw [h0] at e; cases e
  · intro b xs e
    have z := I.base.tups b xs e
    rw [upd_ne (ne z)]; exact z
  · intro b ob u e
    have z := I.base.frzs b ob u e
    rw [upd_ne (ne z)]; exact z
  · intro b ps e
    obtain ⟨m, z⟩ := I.base.tbls b ps e
    exact ⟨m, by rw [upd_ne (ne z)]; exact z⟩
  · rw [upd_ne (Ne.symm hL)]; exact I.free
  · intro y c e
    rw [upd_ne]
    · exact I.freeC y c e
    · rintro rfl
      obtain ⟨v, oc, e1, e2⟩ := I.cell y c e
      rw [ha] at e1
      cases e1
      exact hc _ e2
  · intro p hm
    obtain ⟨z1, z2, z3, z4, z5⟩ := I.pin p (by
      rcases List.mem_append.mp hm with q | q
      · exact List.mem_append_left _ q
      · exact List.mem_append_right _ (List.mem_cons_of_mem _ q))
    exact ⟨z1, by rw [upd_ne (hp p hm)]; exact z2, z3, z4, z5⟩
  · intro b z e
    by_cases hb : b = a
    · subst hb
      rw [upd_same] at e
      cases e
      exact hu
    · rw [upd_ne hb] at e
      exact (I.hok b z e).stay (fun _ _ _ q => q) (fun c q => by rw [upd_ne (ne q)]; exact q) (fun c xs q => by rw [upd_ne (ne q)]; exact q)
end

/-! ### try: body / except x as n: y = n -/
def wKeep (K : PySem.W.Frag) (c : Value) (i j : Nat) (Wout : WX) (D : Ends) : WX := fun cls d σ H =>
  ∃ b, PySem.W.exmOne K cls c = some b ∧ (b = true → ∀ a, H a = none → D.nx (((σ.set i (some (.ref a))).set j (some (.ref a))).set i none) (upd H a (exq a cls d))) ∧
    (b = false → Wout cls d σ H)
section
variable {X : Cx} {x n y : Str} {c : Value} {i j : Nat} {body : List Stmt} {np pos pos' py pn1 sp1 : Pos} {tb : WX → TS} {Wout : WX}
theorem ps_try_keep (hs : X.stack = X.env :: X.outer) (hf : X.env.frame = some X.env.locals) (hex : X.ex = []) (hN : X.N.Nodup) (hi : X.N[i]? = some n) (hln : X.env.kindOf n = some .local)
    (hj : X.N[j]? = some y) (hly : X.env.kindOf y = some .local) (hc : Names X x c) (tk : Takes X Wout)
    (hb : ∀ (W : WX) (pn : List (Addr × Obj)) (xe : Value → Shared → Prop), Takes (X.tr pn xe) W → PassesOwn (model X.prog X.w) X.A X.env xe → PSs (X.tr pn xe) body (tb W))
    (hdn : (n == ("__debug__" : Str)) = false := by decide) (hdc : (n == ("__classdict__" : Str)) = false := by decide) :
    PS X (.Try body [.ExceptHandler (some (.Name x np)) (some n) [.Assign [.Name y py] (.Name n pn1) sp1] pos'] [] [] pos) (fun D σ H => tb (wKeep X.K c i j Wout D) D σ H) := by
  refine ⟨fun pins s σ H D I h => ?_⟩
  have ok := I.ok
  have hfr : X.A.frames = some (X.env :: X.outer) := by rw [ok.frames, hs]
  have hloc : Loc X.env.scope n := .inl hln
  refine wpAny_Try_except ?_
  have tbr := hb (wKeep X.K c i j Wout D) (X.pn ++ pins) (fun e s₁ => wpAny (model X.prog X.w) X.A (noteFrame e X.env) (fun _ s₂ => wpAny (model X.prog X.w) X.A (setFlight e none) (fun _ s₃ =>
    wpAny (model X.prog X.w) X.A (handleBy e X.env [.ExceptHandler (some (.Name x np)) (some n) [.Assign [.Name y py] (.Name n pn1) sp1] pos']) (SP X pins D) X.xe s₃) X.xe s₂) X.xe s₁) ?_ PassesOwn.looking
  · refine wpAny_mono (tbr.run [] s σ H D (I.toTry _) h) ?_ (fun e s1 he => he)
    intro f s1 hsp
    cases f with
    | next =>
      obtain ⟨σ', H', J', q⟩ := hsp
      exact wpAny_execs_nil ⟨σ', H', J'.ofTry ok, q⟩
    | brk =>
      obtain ⟨σ', H', J', q⟩ := hsp
      exact ⟨σ', H', J'.ofTry ok, q⟩
    | cont =>
      obtain ⟨σ', H', J', q⟩ := hsp
      exact ⟨σ', H', J'.ofTry ok, q⟩
    | ret u =>
      obtain ⟨v, σ', H', J', r, q⟩ := hsp
      exact ⟨v, σ', H', J'.ofTry ok, r, q⟩
  · intro u s' xx
    obtain ⟨a, B, sI, pins', σ', H', cls, d, rfl, J', nb, up, sky, na, os, ag, b, hb1, hyes, hno⟩ := xx
    have J : Inv X pins σ' H' sI := J'.ofTry ok
    have sky' : Sky B (X.env :: X.outer) a (Zc cls d) X.env.locals s'.heap := by rw [← hs]; exact sky
    show wpAny (model X.prog X.w) X.A (noteFrame (.ref a) X.env) _ _ _
    refine Sky.land Zc.steady hfr hf sky' ?_
    intro h3 fl3 up3
    have J3 : Inv X pins σ' H' { s' with heap := h3 } := J.landed nb fl3.1 (up.trans up3) os ag
    obtain ⟨oe3, vs3, he3, hz3, hd3⟩ := fl3.there
    have nfr : a ∉ frs (X.env :: X.outer) := by
      intro hm
      obtain ⟨_, o', e', hnf⟩ := fl3.2.2.1.mem hm
      rw [he3] at e'; cases e'
      exact hnf _ hd3
    have nL : a ≠ X.env.locals := fun z => nfr (List.mem_filterMap.mpr ⟨X.env, List.mem_cons_self, by rw [hf, z]⟩)
    have nF : a ∉ X.fs := by
      intro hm
      obtain ⟨e, he, q⟩ := List.mem_filterMap.mp hm
      exact nfr (List.mem_filterMap.mpr ⟨e, List.mem_cons_of_mem _ he, q⟩)
    -- it was not there
    have nI : sI.heap.get? a = none := by
      cases q : sI.heap.get? a with
      | none => rfl
      | some o =>
        have z := nb a o q (by rw [hs]; exact nfr)
        rw [fl3.2.1] at z; cases z
    have n0 : X.s_0.heap.get? a = none := by
      cases q : X.s_0.heap.get? a with
      | none => rfl
      | some o =>
        obtain ⟨o', z⟩ := J.base.there a o q (by rw [hex]; simp)
        rw [nI] at z; cases z
    have npin : ∀ p ∈ X.pn ++ pins, p.1 ≠ a := by
      rintro p hp rfl
      have z := (J.pin p hp).1
      rw [nI] at z; cases z
    have S3 := J3.suite he3 hd3 na nL nF
    refine wpAny_handleBy_cons (codeAny_handlers_test ?_) (by intro q; cases q)
    have LT : PySem.W.Looks (model X.prog X.w) h3 (typeOf (.ref a)) cls := fun A Q E s k q => wpAny_typeOf_ref (k _ _ he3) (by rw [hz3.1]; exact q)
    have LM := PySem.W.exm_one (M := model X.prog X.w) (J3.kIn) LT hb1
    have test : ∀ {Q : Value → Shared → Prop} {E : Value → Shared → Prop}, Q c { s' with heap := h3 } → wpAny (model X.prog X.w) (X.A.mark (some (.ref a))) (eval (.Name x np) X.env) Q E { s' with heap := h3 } := by
      intro Q E q
      obtain ⟨hg, hdbg, hm | ⟨hm, hv, hnn⟩⟩ := hc
      · exact ld_glob (X := X.suite a ((a, oe3) :: (X.pn ++ pins))) S3 hg hm q hdbg
      · exact ld_blt (X := X.suite a ((a, oe3) :: (X.pn ++ pins))) S3 hg hm hv q hnn hdbg
    refine test (LM.here ?_)
    cases b with
    | true =>
      refine codeAny_handlers_suite_as ?_
      refine HandSPX.lands_againZ fl3 ?_
      intro h4 fl4 up4
      have J4 : Inv X pins σ' H' { s' with heap := h4 } := J.landed nb fl4.1 ((up.trans up3).trans up4) os ag
      obtain ⟨oe4, vs4, he4, hz4, hd4⟩ := fl4.there
      have S4 := J4.suite he4 hd4 na nL nF
      refine store_ok (X := X.suite a ((a, oe4) :: (X.pn ++ pins))) (v := .ref a) S4 hN hi hloc rfl ?_ (.inr hln)
      intro s5 S5
      have hlen : i < σ'.length := by rw [J4.len]; exact (List.getElem?_eq_some_iff.mp hi).1
      have ps : PSs (X.suite a ((a, oe4) :: (X.pn ++ pins))) [.Assign [.Name y py] (.Name n pn1) sp1] _ :=
        pss_one (ps_asg (pe_var (i := i) hi (.inl hln) hdn hdc) (pg_name (i := j) hN hj (.inl hly) (hf := .inr hly)))
      have run := ps.run [] s5 _ H' { nx := fun σ6 H6 => σ6 = (σ'.set i (some (.ref a))).set j (some (.ref a)) ∧ H6 = H', rt := fun _ _ => False } S5 ?_
      · refine wpAny_mono run ?_ (fun _ _ z => False.elim z)
        intro f s6 hsp
        cases f with
        | next =>
          obtain ⟨σ6, H6, S6, e1, e2⟩ := hsp
          subst e1
          subst e2
          have J6 : Inv X ((a, oe4) :: pins) ((σ'.set i (some (.ref a))).set j (some (.ref a))) H6 s6 := by
            refine (S6.unsuite ok).pins_of ?_
            intro p hp
            rcases List.mem_cons.mp hp with rfl | hp
            · obtain ⟨z1, z2, z3, z4, z5⟩ := S6.pin (a, oe4) (List.mem_append_left _ List.mem_cons_self)
              exact ⟨z1, z2, z3, z4, z5⟩
            · exact (S6.unsuite ok).pin p (List.mem_append_right _ hp)
          refine gone_ok J6 hN hi hln ?_
          intro s7 J7
          obtain ⟨z1, _⟩ := J7.pin (a, oe4) (List.mem_append_right _ List.mem_cons_self)
          exact ⟨_, _, track (u := exq a cls d) J7 n0 npin (exq_ok z1 hz4.1 hz4.2 hd4), hyes rfl a na⟩
        | brk => exact False.elim hsp.choose_spec.choose_spec.2
        | cont => exact False.elim hsp.choose_spec.choose_spec.2
        | ret u =>
          obtain ⟨v6, σ6, H6, S6, r6, q6⟩ := hsp
          exact False.elim q6
      · exact ⟨.ref a, by rw [List.getElem?_set_self hlen], ⟨rfl, rfl⟩⟩
    | false =>
      show wpAny _ X.A (handleBy (.ref a) X.env []) _ _ _
      refine wpAny_handleBy_nil ?_
      obtain ⟨k1, k2, k3, oe, vs, T, oT, ts', he, hz, hd, h1, hr⟩ := id fl3
      unfold PySem.passOn
      refine wpAny_bind (wpAny_field he hd h1 ?_)
      rw [if_neg (show ¬ ((Value.ref T == Value.none) = true) from by simp)]
      have fin : wpAny (model X.prog X.w) X.A (setFlight (.ref a) X.env.frame) (fun _ s4 => wpAny (model X.prog X.w) X.A (throw (.ref a) : Sem Flow) (SP X pins D) X.xe s4) X.xe { s' with heap := h3 } := by
        rw [hf]
        refine HandSPX.setFlight_upZ fl3 ?_
        intro h4 hh4 up4
        refine wpAny_throw (tk _ _ ?_)
        exact ⟨a, B, sI, pins, σ', H', cls, d, rfl, J, nb, (up.trans up3).trans up4, .inr (.inr (by rw [hs]; exact hh4)), na, os, ag, hno rfl⟩
      first
        | exact wpAny_bind (wpAny_pure (wpAny_bind fin))
        | exact wpAny_bind fin
end

/-! ### what is asked of a kept error -/
/-- facts of the class for isinstance -/
structure IsiC (K : PySem.W.Frag) (C : Addr) : Prop where
  cls : (PySem.W.clsIn K C).isSome = true
  xf : XfC K C
  ac : PySem.W.findIn K (.ref C) "__class__" = some (some (.builtin "object.__class__"))
  gs : PySem.W.specialIn K (.builtin "object.__class__") "__get__" = some (some (.builtin "getset_descriptor.__get__"))
  tk : PySem.W.takesIn K (.builtin "object.__class__") = some true
  mo : PySem.W.mroIn K C (.type "object") = some true
/-- isinstance(e, c), e a kept error -/
def rIsQ (K : PySem.W.Frag) : List V → Hp → VK → Prop := fun xs H Q => ∃ (a C d : Addr) (fs : List (Str × V)) (c : V) (u : Value) (b : Bool), xs = [.ref a, c] ∧ ClsV c u ∧
  H a = some (exq a (.ref C) (some d)) ∧ H d = some (.xd fs) ∧ IsiC K C ∧ PySem.W.kitOne K (.ref C) u = some b ∧ Q (.bl b) H
section
variable {X : Cx}
theorem exq_inst {P : Program} {w : World} {H : Hp} {h : Heap} {a C d : Addr} {fs : List (Str × V)} (hok : HOk P w H h) (ha : H a = some (exq a (.ref C) (some d))) (hd : H d = some (.xd fs)) :
    ∃ ox od, PySem.W.InstAt h a ox C (some od) ∧ ∀ n v, fs.lookup n = some v → ∃ u, PySem.W.lookIn n od = some (some u) ∧ RelV v u := by
  obtain ⟨o, vs, e, h1, h2, h3⟩ := exq_at hok ha
  have hx : ObjOk P w H h d (.xd fs) := hok d _ hd
  obtain ⟨mA, hns, hr⟩ := hx
  obtain ⟨od, ho, hl⟩ := lookIn_ns hns
  refine ⟨o, od, ⟨e, h1, by unfold PySem.W.notCls; rw [h3] <;> rfl, by rw [h2]; exact ho⟩, ?_⟩
  intro n v hv
  obtain ⟨u, hu, ru⟩ := RelO.some_of (v := v) (o := mA n) (by rw [← hv]; exact hr n)
  exact ⟨u, by rw [hl, hu], ru⟩
theorem call_isQ : CallR X (.builtin "isinstance") (rIsQ X.K) := by
  intro pins s σ H xs us Q I r h
  obtain ⟨a, C, d, fs, c, u, b, rfl, k, ha, hd, T, e, q⟩ := h
  obtain ⟨u1, u2, rfl, r1, r2⟩ := vals2 r
  have e2 := k.eq r2
  subst e2
  obtain rfl : u1 = Value.ref a := r1
  obtain ⟨ox, od, J, _⟩ := exq_inst I.hok ha hd
  have Z := PySem.W.kitx_exc (x := a) (ox := ox) (od := some od) T.cls T.xf.ga T.xf.gg T.xf.exC T.ac T.gs T.tk T.mo
  exact PySem.W.kia_one Z I.kIn J e (fun z => nomatch z) fun tk => ⟨.bl b, H, I.tok tk, rfl, q⟩
/-- e.n, e a kept error -/
def tXq (K : PySem.W.Frag) (n : Str) (te : TE) : TE := fun σ H Q => te σ H fun x H1 => ∃ (a C d : Addr) (fs : List (Str × V)) (v : V), x = .ref a ∧ H1 a = some (exq a (.ref C) (some d)) ∧ H1 d = some (.xd fs) ∧
  XfC K C ∧ PySem.W.findIn K (.ref C) n = some none ∧ fs.lookup n = some v ∧ Q v H1
theorem pe_xq {e : Expr} {te : TE} {pos : Pos} {n : Str} (he : PE X e te) (hb : attributeBase e n X.env (eval e X.env) = eval e X.env := by rfl) :
    PE X (.Attribute e n pos) (tXq X.K n te) := by
  refine ⟨fun pins s σ H Q I h => ?_⟩
  refine attr_of hb (thn (he.run pins s σ H _ I h) ?_)
  rintro u s1 ⟨x, H1, I1, rx, a, C, d, fs, v, rfl, ha, hd, T, hno, hv, q⟩
  obtain rfl : u = Value.ref a := rx
  obtain ⟨ox, od, J, hl⟩ := exq_inst I1.hok ha hd
  obtain ⟨u, hu, ru⟩ := hl n v hv
  exact HandSPX.exc_get I1.kIn J T.ga T.gg T.exC (PySem.W.findObj_own T.hdC hno rfl hu) (handed_of ru) ⟨v, H1, I1.tok _, ru, q⟩
end
end FG

/-! FG: values of data: isinstance, ** of great ints, text * int; the drawing pot -/
namespace FG
open PySem PySem.Spec PyProof.Rows L2

def tyD : PyData → String
  | .none => "NoneType"
  | .bool _ => "bool"
  | .int _ => "int"
  | .str _ => "str"
  | .list _ => "list"
  | .tuple _ => "tuple"
  | .dict _ => "dict"
/-- isinstance(d, T), T one of the built-in types below -/
def isTy (T : String) : PyData → Bool
  | .none => false
  | .bool _ => T == "bool" || T == "int"
  | .int _ => T == "int"
  | .str _ => T == "str"
  | .list _ => T == "list"
  | .tuple _ => T == "tuple"
  | .dict _ => T == "dict"
def tyNames : List String := ["str", "int", "bool", "tuple", "list", "dict"]
theorem kit_isTy : ∀ T ∈ tyNames, ∀ d : PyData, kitB (tyD d) T = some (isTy T d) := by
  have all : ∀ T ∈ tyNames, kitB "NoneType" T = some false ∧ kitB "bool" T = some (T == "bool" || T == "int") ∧ kitB "int" T = some (T == "int") ∧ kitB "str" T = some (T == "str") ∧
      kitB "list" T = some (T == "list") ∧ kitB "tuple" T = some (T == "tuple") ∧ kitB "dict" T = some (T == "dict") := by decide +kernel
  intro T hT d
  obtain ⟨h1, h2, h3, h4, h5, h6, h7⟩ := all T hT
  cases d <;> assumption
theorem Dq.ty {K : PySem.W.Frag} {M : Addr → Prop} {H : Hp} {v : V} {d : PyData} (h : Dq K M H v d) : TyX K H v (.type (tyD d)) := by
  cases h with
  | non => exact .base .non
  | bl b => exact .base (.bl b)
  | int i => exact .base (.int i)
  | str x => exact .base (.str x)
  | lst h _ =>
    rcases h.l with (h | ⟨o, h⟩) | ⟨o, its, n, h, hc, _⟩
    · exact .base (.lst h)
    · exact .base (.frz h)
    · exact .kList h hc
  | tup h _ =>
    rcases h.t with (h | ⟨o, h⟩) | ⟨o, its, n, h, hc, _⟩
    · exact .base (.tup h)
    · exact .fTuple h
    · exact .kTuple h hc
  | dct _ h _ => exact .base (.dK h)
def rIsD (K : PySem.W.Frag) : List V → Hp → VK → Prop := fun xs H Q => ∃ (M : Addr → Prop) (x : V) (d : PyData) (T : String), xs = [x, .ty T] ∧ Dq K M H x d ∧ T ∈ tyNames ∧ Q (.bl (isTy T d)) H
section
variable {X : Cx}
theorem call_isD : CallR X (.builtin "isinstance") (rIsD X.K) := by
  intro pins s σ H xs us Q I r h
  obtain ⟨M, x, d, T, rfl, hd, hT, q⟩ := h
  exact call_isi pins s σ H _ us Q I r ⟨x, .ty T, .type (tyD d), .type T, isTy T d, rfl, .ty T, hd.ty, kit_ty (kit_isTy T hT d), q⟩
/-- ** of ints of together not too many bits -/
def CPowW (i j : Int) : Prop := 0 ≤ j ∧ ∃ b : Nat, i.natAbs < 2 ^ b ∧ (b : Int) * j ≤ 1000000
theorem op_powW : OpR X (binaryOp .Pow) (rI CPowW fun i j => .int (i ^ j.toNat)) := opI fun i j _ _ _ _ _ hc q => by
  obtain ⟨h0, b, hb, hz⟩ := hc
  refine pow_int h0 ?_ q
  have hbits : Builtin.Int.intBits i ≤ b := by
    unfold Builtin.Int.intBits
    split
    · exact Nat.zero_le _
    · rename_i hi
      have : i.natAbs.log2 < b := by
        rw [Nat.log2_lt]
        · exact hb
        · intro z; apply hi; simpa using z
      omega
  have h1 : (Builtin.Int.intBits i : Int) * j ≤ (b : Int) * j := Int.mul_le_mul_of_nonneg_right (by exact_mod_cast hbits) h0
  omega
def repS (x : Str) (n : Nat) : Str := ⟨(List.replicate n x.cps).foldl (· ++ ·) #[]⟩
theorem op_repS : OpR X (binaryOp .Mult) (fun x y H Q => ∃ (a : Str) (n : Nat), x = .str a ∧ y = .int n ∧ 2 ≤ n ∧ n ≤ 1000 ∧ 1 ≤ a.length ∧ a.length ≤ 1000 ∧ Q (.str (repS a n)) H) := by
  intro pins s σ H x y v u Q I rx ry h
  obtain ⟨a, n, rfl, rfl, h2, h3, h4, h5, q⟩ := h
  obtain ⟨t, rfl⟩ := rx
  obtain ⟨t', rfl⟩ := ry
  have hn1 : ¬ ((n : Int) < 1) := by omega
  have hz : a.length * n ≤ 1000000 := Nat.le_trans (Nat.mul_le_mul h5 h3) (by decide)
  have hsmall : (((n : Int) == 1) || (a.length == 0)) = false := by
    rw [Bool.or_eq_false_iff]
    refine ⟨?_, ?_⟩
    · rw [beq_eq_false_iff_ne]; omega
    · rw [beq_eq_false_iff_ne]; omega
  have hlong : (repS a n).length ≤ sizeLine := by
    have key : ∀ (m : Nat) (acc : Array Nat), ((List.replicate m a.cps).foldl (· ++ ·) acc).size = acc.size + m * a.cps.size := by
      intro m
      induction m with
      | zero => intro acc; simp
      | succ m ih =>
        intro acc
        rw [List.replicate_succ, List.foldl_cons, ih, Array.size_append, Nat.succ_mul]
        omega
    have e : (repS a n).length = n * a.length := by
      show ((List.replicate n a.cps).foldl (· ++ ·) #[]).size = _
      rw [key]
      simp [Str.length]
    rw [e, Nat.mul_comm]
    exact Nat.le_trans hz (by decide)
  refine PySem.P.mul_str ?_ ?_ ?_ ?_
  · rw [decide_eq_false (by omega), decide_eq_false (by omega)]; rfl
  · intro _ _
    have : (a.length : Int) ≤ 1000 := by exact_mod_cast h5
    have h6 : (1000 : Int) ≤ (2 ^ 63 - 1) / (n : Int) := by
      have : (n : Int) ≤ 1000 := by exact_mod_cast h3
      rw [Int.le_ediv_iff_mul_le (by omega)]
      omega
    omega
  · intro _ _
    refine decide_eq_false ?_
    show ¬ (a.length * (n : Int).toNat > sizeLine)
    rw [Int.toNat_natCast]
    exact Nat.not_lt.mpr (Nat.le_trans hz (by decide))
  · rw [if_neg hn1, hsmall, if_neg Bool.false_ne_true]
    exact ⟨hlong, ⟨.str _, H, I.tok _, ⟨_, rfl⟩, q⟩⟩
end

/-! ### the pot -/
/-- at p: three ints, the third at most n -/
def PotAt (H : Hp) (p : Addr) (n : Nat) : Prop := ∃ a b c : Int, H p = some (.lst [.int a, .int b, .int c]) ∧ 0 ≤ a ∧ a < 2 ^ 1000 ∧ 0 ≤ b ∧ b < 2 ^ 62 ∧ 0 ≤ c ∧ c ≤ n
theorem PotAt.mono {H : Hp} {p : Addr} {n m : Nat} (h : PotAt H p n) (hn : n ≤ m) : PotAt H p m := by
  obtain ⟨a, b, c, e, h1, h2, h3, h4, h5, h6⟩ := h
  exact ⟨a, b, c, e, h1, h2, h3, h4, h5, by omega⟩
theorem PotAt.same {H H' : Hp} {p : Addr} {n : Nat} (h : PotAt H p n) (e : H' p = H p) : PotAt H' p n := by
  obtain ⟨a, b, c, z, r⟩ := h
  exact ⟨a, b, c, by rw [e]; exact z, r⟩
theorem PotAt.keep {H H' : Hp} {p : Addr} {n : Nat} (h : PotAt H p n) (s : Same H H') : PotAt H' p n := by
  obtain ⟨a, b, c, z, r⟩ := h
  exact ⟨a, b, c, s _ _ z, r⟩
theorem PotAt.ne {H : Hp} {p q : Addr} {n : Nat} (h : PotAt H p n) (hq : H q = none) : q ≠ p := by
  obtain ⟨a, b, c, z, r⟩ := h
  rintro rfl
  rw [hq] at z; cases z
/-- _law_take(pot, upto) -/
def spTake : Sp := fun vs H Q _ => ∃ (p : Addr) (u : Int) (n : Nat), vs = [.ref p, .int u] ∧ PotAt H p n ∧ n ≤ 1000000000 ∧ 0 < u ∧ u < 1073741824 ∧
  ∀ (d : Int) (H' : Hp), 0 ≤ d → d < u → PotAt H' p (n + 1) → SameM (· = p) H H' → Q (.int d) H'
/-- _law_of(pot, some), a list or a text -/
def spOf (K : PySem.W.Frag) : Sp := fun vs H Q _ => ∃ (p : Addr) (n : Nat), PotAt H p n ∧ n ≤ 1000000000 ∧
  ((∃ (a : Addr) (xs : List V), vs = [.ref p, .ref a] ∧ a ≠ p ∧ SqL K H a xs ∧ xs ≠ [] ∧ xs.length < 1000000 ∧ ∀ (v : V) (H' : Hp), v ∈ xs → PotAt H' p (n + 1) → SameM (· = p) H H' → Q v H') ∨
   (∃ (z : Str), vs = [.ref p, .str z] ∧ 0 < z.length ∧ z.length < 1000000 ∧ ∀ (c : Nat) (H' : Hp), c ∈ z.cps.toList → PotAt H' p (n + 1) → SameM (· = p) H H' → Q (.str ⟨#[c]⟩) H'))
/-- _law_pot_of(script, k) -/
def spPotOf (K : PySem.W.Frag) : Sp := fun vs H Q _ => ∃ (a : Addr) (ns : List Int) (k : Nat), vs = [.ref a, .int k] ∧ SqL K H a (ns.map V.int) ∧ ns.length ≤ 63 ∧ k ≤ 63 ∧
  ∀ (p : Addr) (H' : Hp), H p = none → Same H H' → PotAt H' p 0 → Q (.ref p) H'
theorem atI_mem {α : Type} {xs : List α} {i : Int} (h0 : 0 ≤ i) (h1 : i < xs.length) : ∃ v, atI xs i = some v ∧ v ∈ xs := by
  obtain ⟨n, rfl⟩ := Int.eq_ofNat_of_zero_le h0
  have hn : n < xs.length := by exact_mod_cast h1
  exact ⟨xs[n], atI_nat (List.getElem?_eq_getElem hn), List.getElem_mem hn⟩
end FG

/-! FG: readings by steps: named readings, a lemma a step -/
namespace FG
open PySem PySem.Spec PyProof.Rows L2

/-! ### named readings of operators and calls -/
def qIsN : R2 := fun x y H Q => y = .non ∧ Q (.bl (decide (x = .non))) H
def qNotN : R2 := fun x y H Q => y = .non ∧ Q (.bl (!decide (x = .non))) H
def qAddS : R2 := fun x y H Q => ∃ i j, x = .str i ∧ y = .str j ∧ i.length + j.length ≤ sizeLine ∧ Q (.str (i ++ j)) H
def qInS : R2 := fun x y H Q => ∃ (c : Nat) (z : Str), x = .str ⟨#[c]⟩ ∧ y = .str z ∧ Q (.bl (decide (c ∈ z.cps.toList))) H
def qNotInS : R2 := fun x y H Q => ∃ (c : Nat) (z : Str), x = .str ⟨#[c]⟩ ∧ y = .str z ∧ Q (.bl (!decide (c ∈ z.cps.toList))) H
def qRepS : R2 := fun x y H Q => ∃ (a : Str) (n : Nat), x = .str a ∧ y = .int n ∧ 2 ≤ n ∧ n ≤ 1000 ∧ 1 ≤ a.length ∧ a.length ≤ 1000 ∧ Q (.str (repS a n)) H
def qInt : List V → Hp → VK → Prop := fun xs H Q => (∃ i, xs = [.int i] ∧ Q (.int i) H) ∨ ∃ k, xs = [.bl k] ∧ Q (.int (if k then 1 else 0)) H
def qAbs : List V → Hp → VK → Prop := fun xs H Q => ∃ i, xs = [.int i] ∧ Q (.int (if i < 0 then -i else i)) H
def qMax : List V → Hp → VK → Prop := fun xs H Q => ∃ i j, xs = [.int i, .int j] ∧ Q (.int (if j > i then j else i)) H
def qMin : List V → Hp → VK → Prop := fun xs H Q => ∃ i j, xs = [.int i, .int j] ∧ Q (.int (if j < i then j else i)) H
def qLen (K : PySem.W.Frag) : List V → Hp → VK → Prop := fun xs H Q => ∃ x n, xs = [x] ∧ LenV K x H n ∧ Q (.int n) H
def qListOf (K : PySem.W.Frag) : List V → Hp → VK → Prop := fun xs H Q => ∃ p ys, xs = [.ref p] ∧ (SqL K H p ys ∨ SqT K H p ys) ∧ ∀ l, H l = none → Q (.ref l) (upd H l (.lst ys))
def qTupOf (K : PySem.W.Frag) : List V → Hp → VK → Prop := fun xs H Q => ∃ p ys, xs = [.ref p] ∧ ((SqL K H p ys ∧ ∀ l, H l = none → Q (.ref l) (upd H l (.tup ys))) ∨ (SqT K H p ys ∧ Q (.ref p) H))
section
variable {X : Cx}
theorem o_isN : OpR X (compareOp .Is) qIsN := op_isN
theorem o_notN : OpR X (compareOp .IsNot) qNotN := op_notN
theorem o_addS : OpR X (binaryOp .Add) qAddS := op_add_str
theorem o_inS : OpR X (compareOp .In) qInS := op_in_sign
theorem o_notInS : OpR X (compareOp .NotIn) qNotInS := op_notIn_sign
theorem o_repS : OpR X (binaryOp .Mult) qRepS := op_repS
theorem q_int : CallR X (.type "int") qInt := call_int1
theorem q_abs : CallR X (.builtin "abs") qAbs := call_abs
theorem q_max (hc : X.calm = true) : CallR X (.builtin "max") qMax := call_max2 hc
theorem q_min (hc : X.calm = true) : CallR X (.builtin "min") qMin := call_min2 hc
theorem q_len : CallR X (.builtin "len") (qLen X.K) := call_len
theorem q_listOf : CallR X (.type "list") (qListOf X.K) := call_list_of
theorem q_tupOf : CallR X (.type "tuple") (qTupOf X.K) := call_tuple_of
end

/-- a new tuple, a new list -/
def NewT (xs : List V) (H : Hp) (Q : VK) : Prop := xs.length ≤ sizeLine ∧ ∀ p, H p = none → Q (.ref p) (upd H p (.tup xs))
def NewL (xs : List V) (H : Hp) (Q : VK) : Prop := xs.length ≤ sizeLine ∧ ∀ p, H p = none → Q (.ref p) (upd H p (.lst xs))
/-! ### steps -/
section
variable {σ : L2.St} {H : Hp} {Q : VK} {QT : Bool → Hp → Prop} {QA : List V → Hp → Prop} {ta tb te tc : TE} {tr : TA} {r r' : R2} {D : Ends} {t u : TS} {i j : Nat} {v : V} {cT uT : TT}
  {K : PySem.W.Frag} {g : TG} {xs : List V}
theorem b_var (h : σ[i]? = some (some v)) (q : Q v H) : tVar i σ H Q := ⟨v, h, q⟩
theorem b_c (q : Q v H) : tC v σ H Q := q
theorem b_op (q : ta σ H fun x H1 => tb σ H1 fun y H2 => r x y H2 Q) : tOp r ta tb σ H Q := q
theorem b_un {f : V → Hp → VK → Prop} (q : ta σ H fun x H1 => f x H1 Q) : tUn f ta σ H Q := q
theorem b_neg {i : Int} (q : Q (.int (-i)) H) : rU (fun i => V.int (-i)) (.int i) H Q := ⟨i, rfl, q⟩
theorem b_cons (q : ta σ H fun x H1 => tr σ H1 fun xs H2 => QA (x :: xs) H2) : tCons ta tr σ H QA := q
theorem b_nil (q : QA [] H) : tNil σ H QA := q
theorem b_chain (q : ta σ H fun x H1 => tb σ H1 fun y H2 => r x y H2 fun z H3 => ∃ k, z = .bl k ∧ (if k = true then tc σ H3 fun w' H4 => r' y w' H4 Q else Q (.bl false) H3)) : tChain r r' ta tb tc σ H Q := q
theorem b_bl {b : Bool} (q : QT b H) : ∃ k, V.bl b = .bl k ∧ QT k H := ⟨b, rfl, q⟩
theorem b_blP {b : Bool} {P : Bool → Prop} (q : P b) : ∃ k, V.bl b = .bl k ∧ P k := ⟨b, rfl, q⟩
theorem b_test (q : te σ H fun x H1 => ∃ k, x = .bl k ∧ QT k H1) : tTest te σ H QT := q
theorem b_tb (q : te σ H fun x H1 => ∃ k, x = .bl k ∧ QT k H1) : tB te σ H QT := q
theorem b_and (q : cT σ H fun c H1 => if c = true then uT σ H1 QT else QT false H1) : tAnd cT uT σ H QT := q
theorem b_or (q : cT σ H fun c H1 => if c = true then QT true H1 else uT σ H1 QT) : tOr cT uT σ H QT := q
theorem b_not (q : cT σ H fun c H1 => QT (!c) H1) : tNot cT σ H QT := q
theorem b_andV (q : ta σ H fun x H1 => ∃ c, x = .bl c ∧ if c = true then tb σ H1 Q else Q (.bl false) H1) : tAndV ta tb σ H Q := q
theorem b_orV (q : ta σ H fun x H1 => ∃ c, x = .bl c ∧ if c = true then Q (.bl true) H1 else tb σ H1 Q) : tOrV ta tb σ H Q := q
theorem b_notV (q : ta σ H fun x H1 => ∃ c, x = .bl c ∧ Q (.bl (!c)) H1) : tNotV ta σ H Q := q
theorem b_if (q : cT σ H fun c H1 => if c = true then ta σ H1 Q else tb σ H1 Q) : tIf cT ta tb σ H Q := q
theorem b_seq (q : t { D with nx := u D } σ H) : tSeq t u D σ H := q
theorem b_next (q : D.nx σ H) : tNext D σ H := q
theorem b_asg (q : te σ H fun x H1 => g x σ H1 D.nx) : tAsg te g D σ H := q
theorem b_name {k : L2.St → Hp → Prop} (q : k (σ.set i (some v)) H) : gName i v σ H k := q
theorem b_par (q : tr σ H fun vs H1 => ∃ v w, vs = [v, w] ∧ D.nx ((σ.set i (some v)).set j (some w)) H1) : tPar i j tr D σ H := q
theorem b_parE {v w : V} (q : D.nx ((σ.set i (some v)).set j (some w)) H) : ∃ v' w', [v, w] = [v', w'] ∧ D.nx ((σ.set i (some v')).set j (some w')) H := ⟨v, w, rfl, q⟩
theorem b_sub {to ti : TE} {f : TSet} {k : L2.St → Hp → Prop} (q : to σ H fun o H1 => ti σ H1 fun i H2 => f o i v H2 fun H3 => k σ H3) : gSub to ti f v σ H k := q
theorem b_aug {ti : TIp} {x : V} (h : σ[i]? = some (some x)) (q : te σ H fun y H1 => ti x y H1 fun z H2 => D.nx (σ.set i (some z)) H2) : tAug i te ti D σ H := ⟨x, h, q⟩
theorem b_ip {f : Int → Int → Int} {x y : Int} (q : Q (.int (f x y)) H) : ipI f (.int x) (.int y) H Q := ⟨x, y, rfl, rfl, q⟩
theorem b_ret (q : te σ H D.rt) : tRet te D σ H := q
theorem b_retN (q : D.rt .non H) : tRetN D σ H := q
theorem b_ifS (q : cT σ H fun b H1 => if b = true then t D σ H1 else u D σ H1) : tIfS cT t u D σ H := q
theorem b_drop (q : te σ H fun _ H1 => D.nx σ H1) : tDrop te D σ H := q
theorem b_cb {f : List V → Hp → VK → Prop} (q : tr σ H fun vs H1 => f vs H1 Q) : tCB f tr σ H Q := q
theorem b_call {sp : Sp} {dvs : List V} {E : XK} (q : tr σ H fun vs H1 => sp (vs ++ dvs) H1 Q E) : tCall sp dvs E tr σ H Q := q
theorem b_tup (q : tr σ H fun xs H1 => NewT xs H1 Q) : tTup tr σ H Q := q
theorem b_lst (q : tr σ H fun xs H1 => NewL xs H1 Q) : tLst tr σ H Q := q
theorem b_sl {f : V → Option Int → Option Int → Hp → VK → Prop} {tl th : TO} (q : te σ H fun x H1 => tl σ H1 fun l H2 => th σ H2 fun u H3 => f x l u H3 Q) : tSl f te tl th σ H Q := q
theorem b_part {QO : Option Int → Hp → Prop} (q : te σ H fun x H1 => ∃ i, x = .int i ∧ QO (some i) H1) : tPart te σ H QO := q
theorem b_partE {QO : Option Int → Hp → Prop} {i : Int} (q : QO (some i) H) : ∃ i', V.int i = .int i' ∧ QO (some i') H := ⟨i, rfl, q⟩
theorem b_nopart {QO : Option Int → Hp → Prop} (q : QO none H) : tNoPart σ H QO := q
theorem b_bm {T : String} {f : V → List V → Hp → VK → Prop} (q : te σ H fun x H1 => tyV K T x H1 ∧ tr σ H1 fun xs H2 => f x xs H2 Q) : tBM K T f te tr σ H Q := q
theorem b_m1 {f : V → List V → Hp → VK → Prop} (q : ta σ H fun x H1 => (∃ a, x = .str a) ∧ tb σ H1 fun y H2 => f x [y] H2 Q) : tM1 f ta tb σ H Q := q
theorem b_yes (q : QT true H) : tYes σ H QT := q
/-! operators -/
theorem b_I0 {f : Int → Int → V} {x y : Int} (q : Q (f x y) H) : rI0 f (.int x) (.int y) H Q := ⟨x, y, rfl, rfl, q⟩
theorem b_I {C : Int → Int → Prop} {f : Int → Int → V} {x y : Int} (c : C x y) (q : Q (f x y) H) : rI C f (.int x) (.int y) H Q := ⟨x, y, rfl, rfl, c, q⟩
theorem b_eq {x y : V} (h : scal x y = true) (q : Q (.bl (decide (x = y))) H) : rEq x y H Q := ⟨h, q⟩
theorem b_ne {x y : V} (h : scal x y = true) (q : Q (.bl (!decide (x = y))) H) : rNe x y H Q := ⟨h, q⟩
theorem b_isN {x : V} (q : Q (.bl (decide (x = .non))) H) : qIsN x .non H Q := ⟨rfl, q⟩
theorem b_notN {x : V} (q : Q (.bl (!decide (x = .non))) H) : qNotN x .non H Q := ⟨rfl, q⟩
theorem b_addS {x y : Str} (h : x.length + y.length ≤ sizeLine) (q : Q (.str (x ++ y)) H) : qAddS (.str x) (.str y) H Q := ⟨x, y, rfl, rfl, h, q⟩
theorem b_inS {c : Nat} {z : Str} (q : Q (.bl (decide (c ∈ z.cps.toList))) H) : qInS (.str ⟨#[c]⟩) (.str z) H Q := ⟨c, z, rfl, rfl, q⟩
theorem b_int {x : Int} (q : Q (.int x) H) : qInt [.int x] H Q := .inl ⟨x, rfl, q⟩
theorem b_intB {b : Bool} (q : Q (.int (if b then 1 else 0)) H) : qInt [.bl b] H Q := .inr ⟨b, rfl, q⟩
theorem b_abs {x : Int} (q : Q (.int (if x < 0 then -x else x)) H) : qAbs [.int x] H Q := ⟨x, rfl, q⟩
theorem b_max {x y : Int} (q : Q (.int (if y > x then y else x)) H) : qMax [.int x, .int y] H Q := ⟨x, y, rfl, q⟩
theorem b_min {x y : Int} (q : Q (.int (if y < x then y else x)) H) : qMin [.int x, .int y] H Q := ⟨x, y, rfl, q⟩
theorem b_lenS {x : Str} (h : x.length ≤ sizeLine) (q : Q (.int x.length) H) : qLen K [.str x] H Q := ⟨.str x, x.length, rfl, ⟨h, rfl⟩, q⟩
theorem b_lenL {p : Addr} (h : SqL K H p xs) (q : Q (.int xs.length) H) : qLen K [.ref p] H Q := ⟨.ref p, xs.length, rfl, .inl ⟨xs, h, rfl⟩, q⟩
theorem b_lenT {p : Addr} (h : SqT K H p xs) (q : Q (.int xs.length) H) : qLen K [.ref p] H Q := ⟨.ref p, xs.length, rfl, .inr ⟨xs, h, rfl⟩, q⟩
theorem b_ixL {p : Addr} {x : Int} (h : SqL K H p xs) (ha : atI xs x = some v) (q : Q v H) : rIxL K (.ref p) (.int x) H Q := ⟨p, xs, x, v, rfl, rfl, h, ha, q⟩
theorem b_ixT {p : Addr} {x : Int} (h : SqT K H p xs) (ha : atI xs x = some v) (q : Q v H) : rIxT K (.ref p) (.int x) H Q := ⟨p, xs, x, v, rfl, rfl, h, ha, q⟩
theorem b_ixSL {p : Addr} {x : Int} (h : SqL K H p xs) (ha : atI xs x = some v) (q : Q v H) : rIx K (.ref p) (.int x) H Q := .inl ⟨p, xs, x, v, rfl, rfl, h, ha, q⟩
theorem b_ixSS {z : Str} {x : Int} {c : Nat} (h : z.length ≤ sizeLine) (ha : atI z.cps.toList x = some c) (q : Q (.str ⟨#[c]⟩) H) : rIx K (.str z) (.int x) H Q := .inr (.inr ⟨z, x, c, rfl, rfl, h, ha, q⟩)
theorem b_setL {p : Addr} {x : Int} {k : Hp → Prop} (h : H p = some (.lst xs)) (hj : ixN xs.length x = some j) (q : k (upd H p (.lst (xs.set j v)))) : rSetL (.ref p) (.int x) v H k := ⟨p, xs, x, j, rfl, rfl, h, hj, q⟩
theorem b_isD {M : Addr → Prop} {x : V} {d : PyData} {T : String} (h : Dq K M H x d) (hT : T ∈ tyNames) (q : Q (.bl (isTy T d)) H) : rIsD K [x, .ty T] H Q := ⟨M, x, d, T, rfl, h, hT, q⟩
theorem e_setL {p : Addr} {x : Int} {k : Hp → Prop} (h : H p = some (.lst xs)) (hj : ixN xs.length x = some j) (q : ∀ H', H' p = some (.lst (xs.set j v)) → SameM (· = p) H H' → k H') : rSetL (.ref p) (.int x) v H k :=
  ⟨p, xs, x, j, rfl, rfl, h, hj, q _ upd_same (SameM.upd rfl)⟩
/-! new objects: the heap behind is any that keeps what was and holds the new one -/
theorem e_tup (q : ∀ p H', H p = none → H' p = some (.tup xs) → Same H H' → Q (.ref p) H') (hl : xs.length ≤ 100000 := by first | decide | simp) : NewT xs H Q :=
  ⟨Nat.le_trans hl (by decide), fun p np => q p _ np upd_same (same_upd np)⟩
theorem e_lst (q : ∀ p H', H p = none → H' p = some (.lst xs) → Same H H' → Q (.ref p) H') (hl : xs.length ≤ 100000 := by first | decide | simp) : NewL xs H Q :=
  ⟨Nat.le_trans hl (by decide), fun p np => q p _ np upd_same (same_upd np)⟩
theorem e_new {o : HO} (q : ∀ p H', H p = none → H' p = some o → Same H H' → Q (.ref p) H') : ∀ p, H p = none → Q (.ref p) (upd H p o) := fun p np => q p _ np upd_same (same_upd np)
theorem e_listL {p : Addr} (h : SqL K H p xs) (q : ∀ l H', H l = none → H' l = some (.lst xs) → Same H H' → Q (.ref l) H') : qListOf K [.ref p] H Q := ⟨p, xs, rfl, .inl h, e_new q⟩
theorem e_listT {p : Addr} (h : SqT K H p xs) (q : ∀ l H', H l = none → H' l = some (.lst xs) → Same H H' → Q (.ref l) H') : qListOf K [.ref p] H Q := ⟨p, xs, rfl, .inr h, e_new q⟩
theorem e_tupL {p : Addr} (h : SqL K H p xs) (q : ∀ l H', H l = none → H' l = some (.tup xs) → Same H H' → Q (.ref l) H') : qTupOf K [.ref p] H Q := ⟨p, xs, rfl, .inl ⟨h, e_new q⟩⟩
end

theorem nat_of_abs {i : Int} {n : Nat} (h1 : -(2 ^ n) < i) (h2 : i < 2 ^ n) : i.natAbs < 2 ^ n := by
  have h1' : -((2 ^ n : Nat) : Int) < i := by simpa using h1
  have h2' : i < ((2 ^ n : Nat) : Int) := by simpa using h2
  omega
theorem cmul {i j : Int} (h1 : -(2 ^ 1100) < i) (h2 : i < 2 ^ 1100) (h3 : -(2 ^ 1100) < j) (h4 : j < 2 ^ 1100) : CMulW i j :=
  wide_mul (nat_of_abs h1 h2) (nat_of_abs h3 h4) (by decide) (by decide) (by decide)
/-- a product's bounds -/
theorem mul_bd {i j a b : Int} (h1 : 0 ≤ i) (h2 : i ≤ a) (h3 : 0 ≤ j) (h4 : j ≤ b) : 0 ≤ i * j ∧ i * j ≤ a * b :=
  ⟨Int.mul_nonneg h1 h3, Int.mul_le_mul h2 h4 h3 (Int.le_trans h1 h2)⟩
theorem cpow {i j : Int} (b : Nat) (h0 : 0 ≤ j) (h1 : -(2 ^ b) < i) (h2 : i < 2 ^ b) (h3 : (b : Int) * j ≤ 1000000) : CPowW i j := ⟨h0, b, nat_of_abs h1 h2, h3⟩
end FG

/-! FG: loops and comprehensions by steps -/
namespace FG
open PySem PySem.Spec PyProof.Rows L2

/-- what a comprehension's turn does behind its element -/
def AppD (D : Addr) (y : V) (H : Hp) (k : Hp → Prop) : Prop := ∃ acc, H D = some (.lst acc) ∧ acc.length < sizeLine ∧ k (upd H D (.lst (acc ++ [y])))
theorem e_app {D : Addr} {y : V} {H : Hp} {k : Hp → Prop} {acc : List V} (h : H D = some (.lst acc)) (hl : acc.length < 100000) (q : ∀ H', H' D = some (.lst (acc ++ [y])) → SameM (· = D) H H' → k H') : AppD D y H k :=
  ⟨acc, h, Nat.lt_of_lt_of_le hl (by decide), q _ upd_same (SameM.upd rfl)⟩
section
variable {g : TG} {tt : TT} {te tl : TE} {ta : TA} {vs : List Nat} {σ : L2.St} {H : Hp} {Q : VK} {K : PySem.W.Frag}
/-- a turn of a comprehension at the item x -/
def Turn1 (g : TG) (tt : TT) (te : TE) (vs : List Nat) (σ : L2.St) (D : Addr) (x : V) (H : Hp) (nx : Hp → Prop) : Prop :=
  g x (wipe σ vs) H fun σ2 H2 => wipe σ2 vs = wipe σ vs ∧ tt σ2 H2 fun b H3 => if b = true then te σ2 H3 fun y H4 => AppD D y H4 nx else nx H3
def LcAny (J : It) (g : TG) (tt : TT) (te : TE) (vs : List Nat) (σ : L2.St) (H : Hp) (Q : VK) : Prop := ∀ D, H D = none → ∃ W : Nat → Nat → Hp → Prop, (∃ m, W 0 m (upd H D (.lst []))) ∧ ∀ i m H, W i m H →
  (J.stop i H ∧ Q (.ref D) H) ∨ (J.go i H ∧ ∃ Nx : Hp → Prop, (∀ H', Nx H' → ∃ m', m' < m ∧ W (i + 1) m' H') ∧ ∀ x H', J.yld i H x H' → Turn1 g tt te vs σ D x H' Nx)
/-- by an invariant over the turn's number: n turns, the items told -/
theorem lc_by {J : It} (n : Nat) (Pv : Addr → Nat → Hp → Prop) (h0 : ∀ D H', H D = none → H' D = some (.lst []) → Same H H' → Pv D 0 H')
    (hgo : ∀ D i H', H D = none → i < n → Pv D i H' → J.go i H' ∧ ∀ x H2, J.yld i H' x H2 → Turn1 g tt te vs σ D x H2 (Pv D (i + 1)))
    (hst : ∀ D H', H D = none → Pv D n H' → J.stop n H' ∧ Q (.ref D) H') : LcAny J g tt te vs σ H Q := by
  intro D nD
  refine ⟨fun i m H' => m = n - i ∧ i ≤ n ∧ Pv D i H', ⟨n, by simp, Nat.zero_le _, h0 D _ nD upd_same (same_upd nD)⟩, ?_⟩
  rintro i m H' ⟨rfl, hi, p⟩
  by_cases hlt : i < n
  · obtain ⟨h1, h2⟩ := hgo D i H' nD hlt p
    exact .inr ⟨h1, Pv D (i + 1), fun H'' p' => ⟨n - (i + 1), by omega, rfl, hlt, p'⟩, h2⟩
  · obtain rfl : i = n := by omega
    exact .inl (hst D H' nD p)
theorem b_lcS (q : tl σ H fun v H1 => ∃ x, v = .str x ∧ LcAny (Its x) g tt te vs σ H1 Q) : tLc (iStr tl) g tt te vs σ H Q := q
theorem b_lcR (q : ta σ H fun xs H1 => ∃ j : Int, xs = [.int j] ∧ -(2 ^ 62) ≤ j ∧ j < 2 ^ 62 ∧ LcAny (Itr 0 j.toNat) g tt te vs σ H1 Q) : tLc (iRng1 ta) g tt te vs σ H Q := q
theorem b_lcT (q : tl σ H fun x H1 => ∃ a, x = .ref a ∧ (∃ xs, SqT K H1 a xs) ∧ LcAny (Itt K a) g tt te vs σ H1 Q) : tLc (iTup K tl) g tt te vs σ H Q := q
theorem b_lcL (q : tl σ H fun x H1 => ∃ a, x = .ref a ∧ (∃ xs, SqL K H1 a xs) ∧ LcAny (Itl K a) g tt te vs σ H1 Q) : tLc (iList K tl) g tt te vs σ H Q := q
theorem e_lcS {x : Str} (Pv : Addr → Nat → Hp → Prop) (h0 : ∀ D H', H D = none → H' D = some (.lst []) → Same H H' → Pv D 0 H')
    (hs : ∀ D i c H', H D = none → x.cps[i]? = some c → Pv D i H' → Turn1 g tt te vs σ D (.str ⟨#[c]⟩) H' (Pv D (i + 1)))
    (hd : ∀ D H', H D = none → Pv D x.cps.size H' → Q (.ref D) H') : ∃ x', V.str x = .str x' ∧ LcAny (Its x') g tt te vs σ H Q := by
  refine ⟨x, rfl, lc_by x.cps.size Pv h0 (fun D i H' nD hi p => ⟨hi, ?_⟩) (fun D H' nD p => ⟨Nat.le_refl _, hd D H' nD p⟩)⟩
  rintro v H2 ⟨rfl, c, hc, rfl⟩
  exact hs D i c H2 nD hc p
theorem e_lcR {j : Int} (Pv : Addr → Nat → Hp → Prop) (hj : -(2 ^ 62) ≤ j) (hj2 : j < 2 ^ 62) (h0 : ∀ D H', H D = none → H' D = some (.lst []) → Same H H' → Pv D 0 H')
    (hs : ∀ D i H', H D = none → i < j.toNat → Pv D i H' → Turn1 g tt te vs σ D (.int (0 + i)) H' (Pv D (i + 1)))
    (hd : ∀ D H', H D = none → Pv D j.toNat H' → Q (.ref D) H') : ∃ j' : Int, [V.int j] = [.int j'] ∧ -(2 ^ 62) ≤ j' ∧ j' < 2 ^ 62 ∧ LcAny (Itr 0 j'.toNat) g tt te vs σ H Q := by
  refine ⟨j, rfl, hj, hj2, lc_by j.toNat Pv h0 (fun D i H' nD hi p => ⟨hi, ?_⟩) (fun D H' nD p => ⟨Nat.le_refl _, hd D H' nD p⟩)⟩
  rintro v H2 ⟨rfl, rfl⟩
  exact hs D i H2 nD hi p
theorem e_lcT {a : Addr} {xs : List V} (hS : SqT K H a xs) (Pv : Addr → Nat → Hp → Prop) (h0 : ∀ D H', H D = none → H' D = some (.lst []) → Same H H' → Pv D 0 H')
    (hl : ∀ D i H', H D = none → Pv D i H' → SqT K H' a xs)
    (hs : ∀ D i x H', H D = none → xs[i]? = some x → Pv D i H' → Turn1 g tt te vs σ D x H' (Pv D (i + 1)))
    (hd : ∀ D H', H D = none → Pv D xs.length H' → Q (.ref D) H') : ∃ a', V.ref a = .ref a' ∧ (∃ xs, SqT K H a' xs) ∧ LcAny (Itt K a') g tt te vs σ H Q := by
  refine ⟨a, rfl, ⟨xs, hS⟩, lc_by xs.length Pv h0 (fun D i H' nD hi p => ⟨⟨xs, xs[i], hl D i H' nD p, by simp [hi]⟩, ?_⟩) (fun D H' nD p => ⟨⟨xs, hl D _ H' nD p, Nat.le_refl _⟩, hd D H' nD p⟩)⟩
  rintro v H2 ⟨rfl, hv⟩
  exact hs D i v _ nD (hv xs (hl D i _ nD p)) p
theorem e_lcL {a : Addr} {xs : List V} (hS : SqL K H a xs) (Pv : Addr → Nat → Hp → Prop) (h0 : ∀ D H', H D = none → H' D = some (.lst []) → Same H H' → Pv D 0 H')
    (hl : ∀ D i H', H D = none → Pv D i H' → SqL K H' a xs)
    (hs : ∀ D i x H', H D = none → xs[i]? = some x → Pv D i H' → Turn1 g tt te vs σ D x H' (Pv D (i + 1)))
    (hd : ∀ D H', H D = none → Pv D xs.length H' → Q (.ref D) H') : ∃ a', V.ref a = .ref a' ∧ (∃ xs, SqL K H a' xs) ∧ LcAny (Itl K a') g tt te vs σ H Q := by
  refine ⟨a, rfl, ⟨xs, hS⟩, lc_by xs.length Pv h0 (fun D i H' nD hi p => ⟨⟨xs, xs[i], hl D i H' nD p, by simp [hi]⟩, ?_⟩) (fun D H' nD p => ⟨⟨xs, hl D _ H' nD p, Nat.le_refl _⟩, hd D H' nD p⟩)⟩
  rintro v H2 ⟨rfl, hv⟩
  exact hs D i v _ nD (hv xs (hl D i _ nD p)) p
theorem b_turn {x : V} {D : Addr} {nx : Hp → Prop} (q : g x (wipe σ vs) H fun σ2 H2 => wipe σ2 vs = wipe σ vs ∧ tt σ2 H2 fun b H3 => if b = true then te σ2 H3 fun y H4 => AppD D y H4 nx else nx H3) : Turn1 g tt te vs σ D x H nx := q

/-! for -/
variable {tb : TS} {D : Ends}
def ForAny (J : It) (g : TG) (tb : TS) (D : Ends) (σ : L2.St) (H : Hp) : Prop := ∃ W : Nat → Nat → L2.St → Hp → Prop, (∃ m, W 0 m σ H) ∧ ∀ i m σ H, W i m σ H →
  (J.stop i H ∧ D.nx σ H) ∨ (J.go i H ∧ ∃ N : L2.St → Hp → Prop, (∀ σ' H', N σ' H' → ∃ m', m' < m ∧ W (i + 1) m' σ' H') ∧ ∀ x H', J.yld i H x H' → g x σ H' fun σ2 H2 => tb { D with nx := N, ct := N, bk := D.nx } σ2 H2)
theorem b_forT (q : tl σ H fun x H1 => ∃ a, x = .ref a ∧ (∃ xs, SqT K H1 a xs) ∧ ForAny (Itt K a) g tb D σ H1) : tFor (iTup K tl) g tb D σ H := q
theorem b_forL (q : tl σ H fun x H1 => ∃ a, x = .ref a ∧ (∃ xs, SqL K H1 a xs) ∧ ForAny (Itl K a) g tb D σ H1) : tFor (iList K tl) g tb D σ H := q
theorem b_forR (q : ta σ H fun xs H1 => ∃ j : Int, xs = [.int j] ∧ -(2 ^ 62) ≤ j ∧ j < 2 ^ 62 ∧ ForAny (Itr 0 j.toNat) g tb D σ H1) : tFor (iRng1 ta) g tb D σ H := q
theorem e_forT {a : Addr} {xs : List V} (hS : SqT K H a xs) (Pv : Nat → L2.St → Hp → Prop) (h0 : Pv 0 σ H) (hl : ∀ i σ H, Pv i σ H → SqT K H a xs)
    (hs : ∀ i x σ H, xs[i]? = some x → Pv i σ H → g x σ H fun σ2 H2 => tb { D with nx := Pv (i + 1), ct := Pv (i + 1), bk := D.nx } σ2 H2) (hd : ∀ σ H, Pv xs.length σ H → D.nx σ H) :
    ∃ a', V.ref a = .ref a' ∧ (∃ xs, SqT K H a' xs) ∧ ForAny (Itt K a') g tb D σ H := ⟨a, rfl, ⟨xs, hS⟩, for_tup Pv h0 (fun i σ H _ p => hl i σ H p) hs hd⟩
theorem e_forL {a : Addr} {xs : List V} (hS : SqL K H a xs) (Pv : Nat → L2.St → Hp → Prop) (h0 : Pv 0 σ H) (hl : ∀ i σ H, Pv i σ H → SqL K H a xs)
    (hs : ∀ i x σ H, xs[i]? = some x → Pv i σ H → g x σ H fun σ2 H2 => tb { D with nx := Pv (i + 1), ct := Pv (i + 1), bk := D.nx } σ2 H2) (hd : ∀ σ H, Pv xs.length σ H → D.nx σ H) :
    ∃ a', V.ref a = .ref a' ∧ (∃ xs, SqL K H a' xs) ∧ ForAny (Itl K a') g tb D σ H := ⟨a, rfl, ⟨xs, hS⟩, for_list Pv h0 (fun i σ H _ p => hl i σ H p) hs hd⟩
theorem e_forR {j : Int} (Pv : Nat → L2.St → Hp → Prop) (hj : -(2 ^ 62) ≤ j) (hj2 : j < 2 ^ 62) (h0 : Pv 0 σ H)
    (hs : ∀ i σ H, i < j.toNat → Pv i σ H → g (.int (0 + i)) σ H fun σ2 H2 => tb { D with nx := Pv (i + 1), ct := Pv (i + 1), bk := D.nx } σ2 H2) (hd : ∀ σ H, Pv j.toNat σ H → D.nx σ H) :
    ∃ j' : Int, [V.int j] = [.int j'] ∧ -(2 ^ 62) ≤ j' ∧ j' < 2 ^ 62 ∧ ForAny (Itr 0 j'.toNat) g tb D σ H := ⟨j, rfl, hj, hj2, for_range Pv h0 hs hd⟩
end
/-- all([..]) of bools -/
theorem b_all {K : PySem.W.Frag} {a : Addr} {bs : List Bool} {H : Hp} {Q : VK} (h : SqL K H a (bs.map V.bl)) (q : Q (.bl (bs.all id)) H) : rAll K [.ref a] H Q := ⟨a, bs, rfl, h, q⟩
end FG

/-! FG: more steps -/
namespace FG
open PySem PySem.Spec PyProof.Rows L2
theorem iteNF {A B : Prop} (h : A) : if (!false) = true then A else B := h
theorem iteNT {A B : Prop} (h : B) : if (!true) = true then A else B := h
/-- values of two plain kinds -/
def vne : V → V → Bool
  | .int _, .non | .str _, .non | .bl _, .non | .ref _, .non => true
  | _, _ => false
theorem vne_ne : ∀ {x y : V}, vne x y = true → x ≠ y := by
  intro x y h
  unfold vne at h
  split at h <;> first | (intro z; cases z; done) | cases h
theorem iteVF {A B : Prop} {x y : V} [Decidable (x = y)] (n : vne x y = true) (h : B) : if decide (x = y) = true then A else B := by
  rw [decide_eq_false (vne_ne n)]; exact iteF h
theorem iteVT {A B : Prop} {x : V} [Decidable (x = x)] (h : A) : if decide (x = x) = true then A else B := by
  rw [decide_eq_true rfl]; exact iteT h
theorem iteNVF {A B : Prop} {x y : V} [Decidable (x = y)] (n : vne x y = true) (h : A) : if (!decide (x = y)) = true then A else B := by
  rw [decide_eq_false (vne_ne n)]; exact iteNF h
theorem iteNVT {A B : Prop} {x : V} [Decidable (x = x)] (h : B) : if (!decide (x = x)) = true then A else B := by
  rw [decide_eq_true rfl]; exact iteNT h
section
variable {σ : L2.St} {H : Hp} {Q : VK} {tr : TA} {te : TE} {D : Ends}
theorem b_callS {sp : Sp} {E : L2.St → XK} (q : tr σ H fun vs H1 => sp vs H1 Q (E σ)) : tCallS sp E tr σ H Q := q
theorem b_w {Q0 : VK} (h0 : te σ H Q0) (hm : ∀ v H', Q0 v H' → Q v H') : tW te σ H Q := ⟨Q0, h0, hm⟩
end
/-- a statement's reading, made to bear weaker ends -/
def tWS (t : TS) : TS := fun D σ H => ∃ N : L2.St → Hp → Prop, t { D with nx := N } σ H ∧ ∀ σ' H', N σ' H' → D.nx σ' H'
theorem ps_w {X : Cx} {st : Stmt} {t : TS} (hp : PS X st t) : PS X st (tWS t) := by
  refine ⟨fun pins s σ H D I h => ?_⟩
  obtain ⟨N, h0, hm⟩ := h
  refine wpAny_mono (hp.run pins s σ H { D with nx := N } I h0) ?_ (fun _ _ z => z)
  intro f s1 hsp
  cases f with
  | next =>
    obtain ⟨σ', H', J', q⟩ := hsp
    exact ⟨σ', H', J', hm _ _ q⟩
  | brk => exact hsp
  | cont => exact hsp
  | ret u => exact hsp
theorem b_ws {t : TS} {D : Ends} {σ : L2.St} {H : Hp} (N : L2.St → Hp → Prop) (h0 : t { D with nx := N } σ H) (hm : ∀ σ' H', N σ' H' → D.nx σ' H') : tWS t D σ H := ⟨N, h0, hm⟩
theorem Dq.tupE {K : PySem.W.Frag} {M : Addr → Prop} {H : Hp} {v : V} {ds : List PyData} (h : Dq K M H v (.tuple ds)) : ∃ a xs, v = .ref a ∧ SqTm K M H a xs ∧ DqAll K M H xs ds := by
  cases h with
  | tup h a => exact ⟨_, _, rfl, h, a⟩
theorem isTy_tuple {d : PyData} (h : isTy "tuple" d = true) : ∃ ds, d = .tuple ds := by
  cases d <;> simp [isTy] at h
  exact ⟨_, rfl⟩
theorem DqAll.two {K : PySem.W.Frag} {M : Addr → Prop} {H : Hp} {xs : List V} {a b : PyData} (h : DqAll K M H xs [a, b]) : ∃ x y, xs = [x, y] ∧ Dq K M H x a ∧ Dq K M H y b := by
  cases h with
  | cons h1 h2 =>
    cases h2 with
    | cons h3 h4 =>
      cases h4
      exact ⟨_, _, rfl, h1, h3⟩
end FG

/-! FG: what is small enough to be shown; new data; tuples cut and joined -/
namespace FG
open PySem PySem.Spec PyProof.Rows L2
structure Small (h n : Nat) (d : PyData) : Prop where
  ok : d.showable = true
  dp : d.depth ≤ h
  sz : d.shown.length ≤ n
  nd : d.hasDict = false
theorem Small.mono {h n h' n' : Nat} {d : PyData} (s : Small h n d) (e1 : h ≤ h') (e2 : n ≤ n') : Small h' n' d := ⟨s.ok, Nat.le_trans s.dp e1, Nat.le_trans s.sz e2, s.nd⟩
theorem Small.show {h n : Nat} {d : PyData} (s : Small h n d) (e1 : h ≤ 60) (e2 : n ≤ 16000000) : Show d :=
  ⟨s.ok, Nat.le_trans s.dp e1, Nat.le_trans s.sz (Nat.le_trans e2 (by decide)), fun z => by rw [s.nd] at z; cases z⟩
theorem Small.non {h : Nat} : Small h 4 .none := ⟨rfl, Nat.zero_le _, by decide, rfl⟩
theorem Small.bl {h : Nat} (b : Bool) : Small h 5 (.bool b) := ⟨rfl, Nat.zero_le _, by cases b <;> decide, rfl⟩
theorem Small.int {h : Nat} {i : Int} (k : Nat) (hk : 0 < k) (hk2 : k ≤ 100) (h1 : i.natAbs < 10 ^ k) : Small h (k + 1) (.int i) := by
  refine ⟨?_, Nat.zero_le _, ?_, rfl⟩
  · simp only [PyData.showable, decide_eq_true_eq]
    by_cases h0 : i.natAbs = 0
    · rw [h0]; decide
    · rw [Nat.log2_lt h0]
      refine Nat.lt_of_lt_of_le h1 (Nat.le_trans (Nat.pow_le_pow_right (by decide) hk2) ?_)
      decide +kernel
  · have e := int_text_length_le10 hk h1
    show (Str.ofString (toString i)).length ≤ _
    rw [PySem.ofString_length]; exact e
theorem Small.str {h m : Nat} {x : Str} (hx : ∀ c ∈ x.cps.toList, c < 16 ^ 8) (hl : x.length ≤ m) : Small h (10 * m + 2) (.str x) := by
  refine ⟨rfl, Nat.zero_le _, ?_, rfl⟩
  have := PySem.StrLaws.reprText_len x hx
  simp only [PyData.shown]
  omega
theorem showableAll_of : ∀ {ds : List PyData}, (∀ d ∈ ds, d.showable = true) → PyData.showableAll ds = true
  | [], _ => rfl
  | d :: ds, h => by
    simp only [PyData.showableAll, Bool.and_eq_true]
    exact ⟨h d List.mem_cons_self, showableAll_of fun e he => h e (List.mem_cons_of_mem _ he)⟩
theorem hasDictAll_of : ∀ {ds : List PyData}, (∀ d ∈ ds, d.hasDict = false) → PyData.hasDictAll ds = false
  | [], _ => rfl
  | d :: ds, h => by
    simp only [PyData.hasDictAll, Bool.or_eq_false_iff]
    exact ⟨h d List.mem_cons_self, hasDictAll_of fun e he => h e (List.mem_cons_of_mem _ he)⟩
theorem depthAll_of {k : Nat} : ∀ {ds : List PyData}, (∀ d ∈ ds, d.depth ≤ k) → PyData.depthAll ds ≤ k
  | [], _ => Nat.zero_le _
  | d :: ds, h => by
    simp only [PyData.depthAll]
    exact Nat.max_le.mpr ⟨h d List.mem_cons_self, depthAll_of fun e he => h e (List.mem_cons_of_mem _ he)⟩
/-- the lengths' sum -/
def sumLen : List PyData → Nat
  | [] => 0
  | d :: ds => d.shown.length + 2 + sumLen ds
theorem sumLen_eq : ∀ ds : List PyData, ((PyData.shownAll ds).map (·.length)).sum + 2 * ds.length = sumLen ds
  | [] => rfl
  | d :: ds => by
    have := sumLen_eq ds
    simp only [PyData.shownAll, List.map_cons, List.sum_cons, List.length_cons, sumLen]
    omega
theorem sumLen_le {n : Nat} : ∀ {ds : List PyData}, (∀ d ∈ ds, d.shown.length ≤ n) → sumLen ds ≤ ds.length * (n + 2)
  | [], _ => Nat.zero_le _
  | d :: ds, h => by
    have h1 := h d List.mem_cons_self
    have h2 := sumLen_le fun e he => h e (List.mem_cons_of_mem _ he)
    simp only [sumLen, List.length_cons, Nat.succ_mul]
    omega
theorem shown_tuple (ds : List PyData) : (PyData.shown (.tuple ds)).length ≤ sumLen ds + 3 := by
  have h2 := tupleText_len_le (PyData.shownAll ds)
  have h3 := PyData.shownAll_length ds
  have h4 := sumLen_eq ds
  simp only [PyData.shown]
  omega
theorem shown_list (ds : List PyData) : (PyData.shown (.list ds)).length ≤ sumLen ds + 3 := by
  have h2 := listText_len_le (PyData.shownAll ds)
  have h3 := PyData.shownAll_length ds
  have h4 := sumLen_eq ds
  simp only [PyData.shown]
  omega
theorem Small.tup {h n m : Nat} {ds : List PyData} (hs : ∀ d ∈ ds, Small h n d) (hl : ds.length ≤ m) : Small (h + 1) (m * (n + 2) + 3) (.tuple ds) := by
  refine ⟨?_, ?_, ?_, ?_⟩
  · simp only [PyData.showable]; exact showableAll_of fun d hd => (hs d hd).ok
  · have := depthAll_of fun d hd => (hs d hd).dp
    simp only [PyData.depth]; omega
  · have h1 := shown_tuple ds
    have h2 := sumLen_le fun d hd => (hs d hd).sz
    have h3 := Nat.mul_le_mul_right (n + 2) hl
    omega
  · simp only [PyData.hasDict]; exact hasDictAll_of fun d hd => (hs d hd).nd
theorem Small.lst {h n m : Nat} {ds : List PyData} (hs : ∀ d ∈ ds, Small h n d) (hl : ds.length ≤ m) : Small (h + 1) (m * (n + 2) + 3) (.list ds) := by
  refine ⟨?_, ?_, ?_, ?_⟩
  · simp only [PyData.showable]; exact showableAll_of fun d hd => (hs d hd).ok
  · have := depthAll_of fun d hd => (hs d hd).dp
    simp only [PyData.depth]; omega
  · have h1 := shown_list ds
    have h2 := sumLen_le fun d hd => (hs d hd).sz
    have h3 := Nat.mul_le_mul_right (n + 2) hl
    omega
  · simp only [PyData.hasDict]; exact hasDictAll_of fun d hd => (hs d hd).nd
theorem Small.tup2 {h n m : Nat} {a b : PyData} (ha : Small h n a) (hb : Small h m b) : Small (h + 1) (n + m + 7) (.tuple [a, b]) := by
  refine ⟨?_, ?_, ?_, ?_⟩
  · simp only [PyData.showable, PyData.showableAll, ha.ok, hb.ok]; rfl
  · have h1 := ha.dp
    have h2 := hb.dp
    simp only [PyData.depth, PyData.depthAll]; omega
  · have h1 := shown_tuple [a, b]
    have h2 := ha.sz
    have h3 := hb.sz
    simp only [sumLen] at h1
    omega
  · simp only [PyData.hasDict, PyData.hasDictAll, ha.nd, hb.nd]; rfl
theorem Small.lst2 {h n m : Nat} {a b : PyData} (ha : Small h n a) (hb : Small h m b) : Small (h + 1) (n + m + 7) (.list [a, b]) := by
  refine ⟨?_, ?_, ?_, ?_⟩
  · simp only [PyData.showable, PyData.showableAll, ha.ok, hb.ok]; rfl
  · have h1 := ha.dp
    have h2 := hb.dp
    simp only [PyData.depth, PyData.depthAll]; omega
  · have h1 := shown_list [a, b]
    have h2 := ha.sz
    have h3 := hb.sz
    simp only [sumLen] at h1
    omega
  · simp only [PyData.hasDict, PyData.hasDictAll, ha.nd, hb.nd]; rfl
theorem Small.tup3 {h n m l : Nat} {a b c : PyData} (ha : Small h n a) (hb : Small h m b) (hc : Small h l c) : Small (h + 1) (n + m + l + 9) (.tuple [a, b, c]) := by
  refine ⟨?_, ?_, ?_, ?_⟩
  · simp only [PyData.showable, PyData.showableAll, ha.ok, hb.ok, hc.ok]; rfl
  · have h1 := ha.dp
    have h2 := hb.dp
    have h3 := hc.dp
    simp only [PyData.depth, PyData.depthAll]; omega
  · have h1 := shown_tuple [a, b, c]
    have h2 := ha.sz
    have h3 := hb.sz
    have h4 := hc.sz
    simp only [sumLen] at h1
    omega
  · simp only [PyData.hasDict, PyData.hasDictAll, ha.nd, hb.nd, hc.nd]; rfl
theorem Small.tup1 {h n : Nat} {a : PyData} (ha : Small h n a) : Small (h + 1) (n + 5) (.tuple [a]) := by
  refine ⟨?_, ?_, ?_, ?_⟩
  · simp only [PyData.showable, PyData.showableAll, ha.ok]; rfl
  · have h1 := ha.dp
    simp only [PyData.depth, PyData.depthAll]; omega
  · have h1 := shown_tuple [a]
    have h2 := ha.sz
    simp only [sumLen] at h1
    omega
  · simp only [PyData.hasDict, PyData.hasDictAll, ha.nd]; rfl
theorem Small.item {h n : Nat} {ds : List PyData} {d : PyData} (s : Small h n (.tuple ds)) (hm : d ∈ ds) : d.depth ≤ h ∧ d.showable = true := by
  refine ⟨?_, ?_⟩
  · have h1 := s.dp
    simp only [PyData.depth] at h1
    have : ∀ {es : List PyData}, d ∈ es → d.depth ≤ PyData.depthAll es := by
      intro es
      induction es with
      | nil => intro z; cases z
      | cons e es ih =>
        intro z
        simp only [PyData.depthAll]
        rcases List.mem_cons.mp z with rfl | z
        · exact Nat.le_max_left _ _
        · exact Nat.le_trans (ih z) (Nat.le_max_right _ _)
    have := this hm
    omega
  · have h1 := s.ok
    simp only [PyData.showable] at h1
    have : ∀ {es : List PyData}, d ∈ es → PyData.showableAll es = true → d.showable = true := by
      intro es
      induction es with
      | nil => intro z; cases z
      | cons e es ih =>
        intro z k
        simp only [PyData.showableAll, Bool.and_eq_true] at k
        rcases List.mem_cons.mp z with rfl | z
        · exact k.1
        · exact ih z k.2
    exact this hm h1

/-! ### what is tracked -/
def Trk (M : Addr → Prop) (H : Hp) : Prop := ∀ a, M a → H a ≠ none
theorem Trk.same {M : Addr → Prop} {H H' : Hp} (t : Trk M H) (s : Same H H') : Trk M H' := fun a m z => by
  cases e : H a with
  | none => exact t a m e
  | some o => rw [s _ _ e] at z; cases z
theorem Trk.pot {M : Addr → Prop} {H H' : Hp} {p : Addr} {n : Nat} (t : Trk M H) (s : SameM (· = p) H H') (hp : PotAt H' p n) : Trk M H' := fun a m z => by
  by_cases e : a = p
  · subst e
    obtain ⟨_, _, _, e, _⟩ := hp
    rw [z] at e; cases e
  · cases he : H a with
    | none => exact t a m he
    | some o => rw [s _ _ e he] at z; cases z
theorem Trk.new {M : Addr → Prop} {H : Hp} {a : Addr} (t : Trk M H) (h : H a = none) : ¬ M a := fun m => t a m h
theorem Trk.put {M : Addr → Prop} {H : Hp} {f : Addr} (t : Trk M H) (h : H f ≠ none) : Trk (fun a => M a ∨ a = f) H := fun a m => by
  rcases m with m | rfl
  · exact t a m
  · exact h
theorem none_back {H H' : Hp} {p : Addr} (s : Same H H') (h : H' p = none) : H p = none := by
  cases e : H p with
  | none => rfl
  | some o => rw [s _ _ e] at h; cases h
theorem none_backM {M : Addr → Prop} {H H' : Hp} {p : Addr} (s : SameM M H H') (n : ¬ M p) (h : H' p = none) : H p = none := by
  cases e : H p with
  | none => rfl
  | some o => rw [s _ _ n e] at h; cases h
section
variable {K : PySem.W.Frag} {M : Addr → Prop} {H H' : Hp}
theorem Dq.newT {p : Addr} {xs : List V} {ds : List PyData} (n : ¬ M p) (h : H' p = some (.tup xs)) (ha : DqAll K M H' xs ds) : Dq K M H' (.ref p) (.tuple ds) := .tup (.inl ⟨n, .inl h⟩) ha
theorem Dq.newL {p : Addr} {xs : List V} {ds : List PyData} (n : ¬ M p) (h : H' p = some (.lst xs)) (ha : DqAll K M H' xs ds) : Dq K M H' (.ref p) (.list ds) := .lst (.inl ⟨n, .inl h⟩) ha
theorem Dq.same (s : Same H H') {v : V} {d : PyData} (h : Dq K M H v d) : Dq K M H' v d := h.mono (SameM.of s)
theorem DqAll.same (s : Same H H') {v : List V} {d : List PyData} (h : DqAll K M H v d) : DqAll K M H' v d := h.mono (SameM.of s)
/-- the pot alone has changed, and it is one of M -/
theorem SameM.sub {N : Addr → Prop} (s : SameM M H H') (h : ∀ a, M a → N a) : SameM N H H' := fun b o n e => s b o (fun z => n (h b z)) e
theorem Dq.pot {p : Addr} (hp : M p) (s : SameM (· = p) H H') {v : V} {d : PyData} (h : Dq K M H v d) : Dq K M H' v d := h.mono (s.sub fun a z => by rw [z]; exact hp)
theorem DqAll.pot {p : Addr} (hp : M p) (s : SameM (· = p) H H') {v : List V} {d : List PyData} (h : DqAll K M H v d) : DqAll K M H' v d := h.mono (s.sub fun a z => by rw [z]; exact hp)
/-! tuples -/
variable {Q : VK}
theorem e_catT {a b : Addr} {xs ys : List V} (t : Trk M H) (ha : SqTm K M H a xs) (hb : SqTm K M H b ys) (hl : xs.length + ys.length ≤ 100000) (q : ∀ p H', SqTm K M H' p (xs ++ ys) → Same H H' → Q (.ref p) H') : rCatA K (.ref a) (.ref b) H Q := by
  refine ⟨a, b, xs, ys, rfl, rfl, ha.t, hb.t, Nat.le_trans hl (by decide), fun e => ?_, fun e e2 => ?_, fun _ _ p np => ?_⟩
  · refine q b H ?_ (Same.refl H)
    rw [e]; exact hb
  · refine q a H ?_ (Same.refl H)
    rw [e2, List.append_nil]; exact ha
  · exact q p _ (.inl ⟨t.new np, .inl upd_same⟩) (same_upd np)
theorem e_slT {a : Addr} {xs : List V} {lo hi : Option Int} (t : Trk M H) (ha : SqTm K M H a xs) (q : ∀ p H', SqTm K M H' p (cutV xs lo hi) → Same H H' → Q (.ref p) H') : rSlA K (.ref a) lo hi H Q := by
  refine ⟨a, xs, rfl, ha.t, fun e => ?_, fun _ p np => ?_⟩
  · refine q a H ?_ (Same.refl H)
    unfold cutV
    rw [e.1, e.2, List.drop_zero, Nat.sub_zero, List.take_length]
    exact ha
  · exact q p _ (.inl ⟨t.new np, .inl upd_same⟩) (same_upd np)
theorem cut_to (xs : List V) (n : Nat) : cutV xs none (some (n : Int)) = xs.take n := by
  unfold cutV
  rw [HT.sIx_none, HT.sIx_nat, List.drop_zero, Nat.sub_zero, List.take_eq_take_iff]
  omega
theorem cut_from (xs : List V) (n : Nat) : cutV xs (some (n : Int)) none = xs.drop n := by
  unfold cutV
  rw [HT.sIx_none, HT.sIx_nat]
  by_cases h : n ≤ xs.length
  · rw [Nat.min_eq_left h, List.take_of_length_le (by rw [List.length_drop]; omega)]
  · rw [Nat.min_eq_right (by omega), List.drop_eq_nil_of_le (Nat.le_refl _), List.drop_eq_nil_of_le (by omega), List.take_nil]
theorem e_toT {a : Addr} {xs : List V} {n : Nat} (t : Trk M H) (ha : SqTm K M H a xs) (q : ∀ p H', SqTm K M H' p (xs.take n) → Same H H' → Q (.ref p) H') : rSlA K (.ref a) none (some (n : Int)) H Q :=
  e_slT t ha (by rw [cut_to]; exact q)
theorem e_fromT {a : Addr} {xs : List V} {n : Nat} (t : Trk M H) (ha : SqTm K M H a xs) (q : ∀ p H', SqTm K M H' p (xs.drop n) → Same H H' → Q (.ref p) H') : rSlA K (.ref a) (some (n : Int)) none H Q :=
  e_slT t ha (by rw [cut_from]; exact q)
theorem e_repT {a : Addr} {xs : List V} {k : Int} (ha : SqT K H a xs) (hne : xs ≠ []) (h2 : 2 ≤ k) (h3 : k ≤ 1000) (hl : xs.length ≤ 1000) (q : ∀ p H', H p = none → H' p = some (.tup (List.replicate k.toNat xs).flatten) → Same H H' → Q (.ref p) H') :
    rRepT K (.ref a) (.int k) H Q := ⟨a, k, xs, rfl, rfl, ha, hne, h2, h3, hl, e_new q⟩
theorem e_gtup2 {k : L2.St → Hp → Prop} {i j : Nat} {a : Addr} {x y : V} {σ : L2.St} (h : SqT K H a [x, y]) (q : k ((σ.set i (some x)).set j (some y)) H) : gTup K 2 (gCons (gName i) (gCons (gName j) gNil)) (.ref a) σ H k :=
  ⟨a, [x, y], rfl, h, rfl, x, [y], rfl, y, [], rfl, rfl, q⟩
theorem b_repS {x : Str} {n : Nat} {k : Int} (e : k = n) (h2 : 2 ≤ n) (h3 : n ≤ 1000) (h4 : 1 ≤ x.length) (h5 : x.length ≤ 1000) (q : Q (.str (repS x n)) H) : qRepS (.str x) (.int k) H Q := by
  subst e
  exact ⟨x, n, rfl, rfl, h2, h3, h4, h5, q⟩
theorem b_partP {Pr : Int → Prop} {i : Int} (q : Pr i) : ∃ i', V.int i = .int i' ∧ Pr i' := ⟨i, rfl, q⟩
/-! append, join -/
theorem ty_list {p : Addr} {xs : List V} (h : H p = some (.lst xs)) : tyV K "list" (.ref p) H := .inl ⟨rfl, xs, SqL.of h⟩
theorem e_append {l : Addr} {xs : List V} {y : V} (h : H l = some (.lst xs)) (hl : xs.length < 100000) (q : ∀ H', H' l = some (.lst (xs ++ [y])) → SameM (· = l) H H' → Q .non H') : rAppend (.ref l) [y] H Q :=
  ⟨l, xs, y, rfl, rfl, h, Nat.lt_of_lt_of_le hl (by decide), q _ upd_same (SameM.upd rfl)⟩
end
def qJoin (K : PySem.W.Frag) : V → List V → Hp → VK → Prop := fun x xs H Q => ∃ a p, ∃ ys : List Str, x = .str a ∧ xs = [.ref p] ∧ (SqL K H p (ys.map V.str) ∨ SqT K H p (ys.map V.str)) ∧
      (ys.map (·.length)).sum + ys.length * a.length ≤ 16777216 ∧ Q (.str (Txt.join a ys)) H
section
variable {X : Cx} {o e : Expr} {to te : TE}
theorem p_join {apos pos : Pos} (ho : PE X o to) (he : PE X e te) (hs : starEach [e] X.env = [(false, eval e X.env)] := by rfl) (hbase : attributeBase o "join" X.env (eval o X.env) = eval o X.env := by rfl) (hline : (apos.endLine == pos.line) = true := by rfl) :
    PE X (.Call (.Attribute o "join" apos) [e] [] pos) (tM1 (qJoin X.K) to te) := pe_join ho he hs hbase hline
end
theorem e_joinL {K : PySem.W.Frag} {H : Hp} {Q : VK} {a : Str} {p : Addr} {ys : List Str} (h : SqL K H p (ys.map V.str)) (hz : (ys.map (·.length)).sum + ys.length * a.length ≤ 16777216) (q : Q (.str (Txt.join a ys)) H) : qJoin K (.str a) [.ref p] H Q :=
  ⟨a, p, ys, rfl, rfl, .inl h, hz, q⟩
theorem joinL_mem {S : List Nat} {c : Nat} : ∀ {ps : List (List Nat)}, c ∈ TL.joinL S ps → c ∈ S ∨ ∃ p ∈ ps, c ∈ p
  | [], h => by simp [TL.joinL] at h
  | [p], h => .inr ⟨p, List.mem_singleton_self p, h⟩
  | p :: q :: r, h => by
    simp only [TL.joinL, List.mem_append] at h
    rcases h with h | h | h
    · exact .inr ⟨p, List.mem_cons_self, h⟩
    · exact .inl h
    · rcases joinL_mem h with h | ⟨z, hz, h⟩
      · exact .inl h
      · exact .inr ⟨z, List.mem_cons_of_mem _ hz, h⟩
theorem join_mem {y : Str} {ps : List Str} {c : Nat} (h : c ∈ (Txt.join y ps).cps.toList) : c ∈ y.cps.toList ∨ ∃ p ∈ ps, c ∈ p.cps.toList := by
  rw [TL.join_eq] at h
  have e := TL.tl_join y ps
  have h' : c ∈ TL.tl (Str.join y ps) := h
  rw [e] at h'
  rcases joinL_mem h' with h | ⟨p, hp, hc⟩
  · exact .inl h
  · obtain ⟨z, hz, rfl⟩ := List.mem_map.mp hp
    exact .inr ⟨z, hz, hc⟩
theorem ones_sum : ∀ (ys : List Str), (∀ y ∈ ys, y.length = 1) → (ys.map (·.length)).sum = ys.length
  | [], _ => rfl
  | y :: ys, h => by
    simp only [List.map_cons, List.sum_cons, List.length_cons]
    rw [h y List.mem_cons_self, ones_sum ys fun z hz => h z (List.mem_cons_of_mem _ hz)]
    omega
theorem SameM.two {p f : Addr} {H H1 H2 : Hp} (s1 : SameM (· = p) H H1) (s2 : SameM (· = f) H1 H2) (hf : H f = none) : SameM (· = p) H H2 := fun b o n e => s2 b o (fun z => by rw [z] at e; rw [hf] at e; cases e) (s1 b o n e)
end FG

/-! FG: more steps: lists joined, dicts, calls under no guard, repr, kept errors -/
namespace FG
open PySem PySem.Spec PyProof.Rows L2
section
variable {σ : L2.St} {H : Hp} {Q : VK} {K : PySem.W.Frag}
theorem e_catL {a b : Addr} {xs ys : List V} (ha : H a = some (.lst xs)) (hb : H b = some (.lst ys)) (hl : xs.length + ys.length ≤ 100000) (q : ∀ p H', H p = none → H' p = some (.lst (xs ++ ys)) → Same H H' → Q (.ref p) H') : rCat (.ref a) (.ref b) H Q :=
  ⟨a, b, xs, ys, rfl, rfl, ha, hb, Nat.le_trans hl (by decide), e_new q⟩
theorem e_dnew (q : ∀ p H', H p = none → H' p = some (.dK []) → Same H H' → Q (.ref p) H') : tDNewK σ H Q := e_new q
theorem b_repr {M : Addr → Prop} {x : V} {d : PyData} (h : Dq K M H x d) (hs : Show d) (q : Q (.str d.shown) H) : rRepr K [x] H Q := ⟨M, x, d, rfl, h, hs, q⟩
theorem b_isQ {a C d : Addr} {fs : List (Str × V)} {c : V} {u : Value} {b : Bool} (hc : ClsV c u) (ha : H a = some (exq a (.ref C) (some d))) (hd : H d = some (.xd fs)) (T : IsiC K C) (e : PySem.W.kitOne K (.ref C) u = some b) (q : Q (.bl b) H) : rIsQ K [.ref a, c] H Q :=
  ⟨a, C, d, fs, c, u, b, rfl, hc, ha, hd, T, e, q⟩
theorem b_xq {te : TE} {n : Str} (q : te σ H fun x H1 => ∃ (a C d : Addr) (fs : List (Str × V)) (v : V), x = .ref a ∧ H1 a = some (exq a (.ref C) (some d)) ∧ H1 d = some (.xd fs) ∧
  XfC K C ∧ PySem.W.findIn K (.ref C) n = some none ∧ fs.lookup n = some v ∧ Q v H1) : tXq K n te σ H Q := q
end
/-- a list that is read while a new place may change -/
theorem SqL.new {K : PySem.W.Frag} {H : Hp} {a p : Addr} {xs : List V} (np : H p = none) (h : SqL K H a xs) : SqLm K (· = p) H a xs := by
  rcases h with h | h
  · refine .inl ⟨fun z => ?_, h⟩
    rw [z] at h
    rcases h with h | ⟨o, h⟩
    · rw [np] at h; cases h
    · rw [np] at h; cases h
  · exact .inr (.inr h)
abbrev M0 : Addr → Prop := fun _ => False
theorem Dq.free {K : PySem.W.Frag} {M : Addr → Prop} {H : Hp} {v : V} {d : PyData} (h : Dq K M H v d) : Dq K M0 H v d := h.avoid fun _ z => False.elim z
section
variable {X : Cx} {CX : CXT} {k : Nat} {f : Addr} {fd : FuncData} {ps : List Str} {sp : Sp} {E : XK} {x : Str} {p pos : Pos} {ds : List Value} {dvs : List V}
theorem pe_call0G (F : FnOkG X.prog X.w X.K X.mg X.base CX k f fd ps sp) (hgu : X.A.guards = some [])
    (hr : Room k X.A) (hg : Gl X x) (hm : X.mg x = some (.ref f)) (hk : PySem.W.keepIn X.K (.ref f) = true)
    (hb : Binds X.K fd ps ds) (hd : Vals dvs ds) (hx : Passes CX X E)
    (hdb : (x == ("__debug__" : Str)) = false := by decide) :
    PE X (.Call (.Name x p) [] [] pos) (tCall sp dvs E tNil) := by
  refine ⟨fun pins s σ H Q I h => wpAny_Call_Name_kw (ld_glob I hg hm ?_ hdb)⟩
  exact PySem.W.callWith_K0 I.kIn hk (runG (us := []) F hgu hr hb hd hx I .nil h)
end
end FG

/-! FG: data made anew, with nothing to avoid -/
namespace FG
open PySem PySem.Spec PyProof.Rows L2
section
variable {H : Hp} {Q : VK} {K : PySem.W.Frag} {xs : List V} {ds : List PyData}
theorem trk0 {H : Hp} : Trk M0 H := fun _ z => False.elim z
theorem e_tupD (h : DqAll K M0 H xs ds) (q : ∀ p H', Dq K M0 H' (.ref p) (.tuple ds) → Same H H' → Q (.ref p) H') (hl : xs.length ≤ 100000 := by first | decide | simp) : NewT xs H Q :=
  e_tup (fun p H' np hp s => q p H' (Dq.newT (fun z => z) hp (h.same s)) s) hl
theorem e_lstD (h : DqAll K M0 H xs ds) (q : ∀ p H', Dq K M0 H' (.ref p) (.list ds) → H' p = some (.lst xs) → Same H H' → Q (.ref p) H') (hl : xs.length ≤ 100000 := by first | decide | simp) : NewL xs H Q :=
  e_lst (fun p H' np hp s => q p H' (Dq.newL (fun z => z) hp (h.same s)) hp s) hl
theorem e_catD {a b : V} {ds es : List PyData} (ha : Dq K M0 H a (.tuple ds)) (hb : Dq K M0 H b (.tuple es)) (hl : ds.length + es.length ≤ 100000) (q : ∀ v H', Dq K M0 H' v (.tuple (ds ++ es)) → Same H H' → Q v H') : rCatA K a b H Q := by
  obtain ⟨p, xs, rfl, hx, hxs⟩ := ha.tupE
  obtain ⟨r, ys, rfl, hy, hys⟩ := hb.tupE
  refine e_catT trk0 hx hy (by rw [hxs.length, hys.length]; exact hl) fun t H' ht s => q _ H' (.tup ht ((hxs.same s).append (hys.same s))) s
theorem dqAll_rep {v : V} {d : PyData} (h : Dq K M0 H v d) : ∀ n : Nat, DqAll K M0 H (List.replicate n [v]).flatten (List.replicate n d)
  | 0 => .nil
  | n + 1 => by
    rw [List.replicate_succ, List.replicate_succ, List.flatten_cons]
    exact .cons h (dqAll_rep h n)
theorem e_repD {a : V} {d : PyData} {k : Int} (ha : Dq K M0 H a (.tuple [d])) (h2 : 2 ≤ k) (h3 : k ≤ 1000) (q : ∀ v H', Dq K M0 H' v (.tuple (List.replicate k.toNat d)) → Same H H' → Q v H') : rRepT K a (.int k) H Q := by
  obtain ⟨p, xs, rfl, hx, hxs⟩ := ha.tupE
  cases hxs with
  | cons h1 hn =>
    cases hn
    refine e_repT hx.t (by simp) h2 h3 (by simp) fun t H' nt ht s => q _ H' (Dq.newT (fun z => z) ht (dqAll_rep (h1.same s) _)) s
end
end FG

/-! FG: the law's end, with what the top has computed -/
namespace FG
open PySem PySem.Spec PyProof.Rows L2
/-- as walkG; the promise's words speak of K, and what the head tells of the names that were computed is handed on -/
theorem walkGX {l : PySem.W.OpenLaw} {n k : Nat} {q : Program} {loose : List Str}
    {XP : (Str → Option Value) → Heap → Prop} {YP : World → Heap → Prop} {d : DefRec} {K : Params → PySem.W.Frag}
    {sp : PySem.W.Frag → Sp} {x : Str} (hn : l.most = some n) (hn2 : n ≤ sizeLine) (hdf : d.params.defaults = [])
    (hr : Room k callerA) (hY : ∀ (w : World) (h : Heap), YP w h → (K w.params).In h)
    (F : ∀ (w : World) (mg : Str → Option Value) (fa : Addr) (h : Heap), (K w.params).In h → h.Ns mainGlobals mg → XP mg h →
      mg d.name = some (.ref fa) → ∃ fd : FuncData, (∀ (s : Shared) (u : Value), BindsTo s fd ⟨[u], []⟩ [(x, u)]) ∧
        ∀ base : Heap, (K w.params).In base → base.Ns mainGlobals mg →
          FnOkG l.prog w (K w.params) mg base CX0 k fa fd [x] (sp (K w.params)))
    (hsp : ∀ (w : World) (H : Hp) (a : Addr) (ns : List Int), ns.length ≤ n → Only H →
      SqL (K w.params) H a (ns.map V.int) → sp (K w.params) [.ref a] H (fun v _ => v = .bl true) fun _ _ _ => False) :
    PySem.W.WalkO q loose XP YP l.row.toRowW d [] (fun f vs => PySem.call f vs) := by
  refine Att.attach_call hn hdf ?_
  intro w s₀ s₁ mg mb fa o pm cd doc a vs ns G Y ho hd hcd hmg hobj hints hlen hg
  have KX := hY w _ Y
  obtain ⟨fd, hb, hF⟩ := F w mg fa _ KX G.T.g G.X hmg
  exact lawG KX G.T.g G.T.b G.T.builtins G.T.nolimit hg hobj hints (Nat.le_trans hlen hn2) hr hF hb
    (fun H hO hS => hsp w H a ns hlen hO hS)
theorem loose_int {p : Program} {lv : List (Str × PySem.W.WData)} {mg : Str → Option Value} {h : Heap} {x : Str} {i : Int} (X : PySem.W.XL p lv mg h) (hm : (x, PySem.W.WData.int i) ∈ lv) : ∃ t, mg x = some (.int i t) := by
  obtain ⟨v, a, b⟩ := X.2.val _ hm
  cases b
  exact ⟨_, a⟩
end FG

/-! FG: enumerate(tuple), zip of tuples; equality and membership of data -/
namespace FG
open PySem PySem.Spec PyProof.Rows L2
open AutoSeq1 (wpAny_loadPart')
theorem meets_enumT (l : Addr) (items : Array Value) (n : Nat) (dct : Option Addr) (sl : Array (Option Value)) :
    Meets (Builtin.«enumerate.__new__» ⟨[.type "enumerate", .ref l], []⟩) (fun _ R s => s.heap.get? l = some { cls := .type "tuple", dict := dct, data := .seq items n, slots := sl } ∧
      R (.ok (.ret (.ref (s.heap.push { cls := .type "tuple_iterator", data := .fields #[.ref l, .int 0 0] }).objs.size)))
        { s with heap := (s.heap.push { cls := .type "tuple_iterator", data := .fields #[.ref l, .int 0 0] }).push { cls := .type "enumerate", data := .fields #[.none, .bool false, .ref s.heap.objs.size, rawInt 0, .none, .none] } }) :=
  .of_wp fun prog w A R s h => by
    obtain ⟨hp, g, d, tk, os⟩ := s
    obtain ⟨hl, h⟩ := h
    have hsub := sub_enumerate
    have hL : Heap.IsTuple (Shared.heap ⟨hp, g, d, tk, os⟩) l items := ⟨_, hl, rfl, n, rfl⟩
    wp_walk using wpAny_loadPart' hl
    refine wpAny_stack_any fun st => wpAny_pure ?_
    split
    · rename_i c _ _ _ _ _
      cases (c == Value.type "enumerate")
      · wp_walk using wpAny_loadPart' hl, wpAny_pyIter_tuple hL
        exact ⟨_, rfl, h⟩
      · wp_walk using wpAny_loadPart' hl, wpAny_pyIter_tuple hL
        exact ⟨_, rfl, h⟩
    · wp_walk using wpAny_loadPart' hl, wpAny_pyIter_tuple hL
      exact ⟨_, rfl, h⟩
section
variable {prog : Program} {w : World} {A : Around} {E : Value → Shared → Prop} {s : Shared}
theorem call_enumT {l : Addr} {items : Array Value} {Q : Value → Shared → Prop} (hL : s.heap.IsTuple l items)
    (h : ∀ h', IsEnum h' (s.heap.objs.size + 1) s.heap.objs.size 0 .none → h'.IsTupleIter s.heap.objs.size l 0 → h'.objs.size = s.heap.objs.size + 2 →
      (∀ b o, s.heap.get? b = some o → h'.get? b = some o) → Q (.ref (s.heap.objs.size + 1)) { s with heap := h' }) :
    wpAny (model prog w) A (call (.type "enumerate") [.ref l]) Q E s := by
  obtain ⟨⟨c, dct, dt, sl⟩, hl, hc, n, hd⟩ := hL
  replace hc : c = .type "tuple" := hc
  replace hd : dt = .seq items n := hd
  subst hc hd
  refine callType_new F.called_enumerate (by decide) (F.typeCall_enumerate_1 _) (F.newCall_enumerate_1 _) (fun obj => F.args_object_init_2 obj _) F.entry_enumerate_new (meets_enumT l items n dct sl) ⟨hl, ?_⟩
  generalize ho : ({ cls := .type "tuple_iterator", data := .fields #[.ref l, .int 0 0] } : Obj) = o1
  have hz : (s.heap.push o1).objs.size = s.heap.objs.size + 1 := Heap.size_push ..
  show _ ∧ _
  rw [hz]
  have he : IsEnum ((s.heap.push o1).push { cls := .type "enumerate", data := .fields #[.none, .bool false, .ref s.heap.objs.size, rawInt 0, .none, .none] }) (s.heap.objs.size + 1) s.heap.objs.size 0 .none := by
    have := Heap.get?_push_size (s.heap.push o1) (o := { cls := .type "enumerate", data := .fields #[.none, .bool false, .ref s.heap.objs.size, rawInt 0, .none, .none] }) rfl
    rw [hz] at this
    exact this
  subst ho
  exact ⟨⟨_, he, rfl⟩, h _ he ⟨_, Heap.get?_push_of_some _ (Heap.get?_push_size _ rfl), rfl, rfl⟩ (by rw [Heap.size_push, hz]) fun b o x => Heap.get?_push_of_some _ (Heap.get?_push_of_some _ x)⟩
end
/-- the tuple at a, each item in a new pair -/
def IteT (K : PySem.W.Frag) (a : Addr) : It :=
  ⟨fun i H => ∃ (xs : List V) (x : V), SqT K H a xs ∧ xs[i]? = some x, fun i H v H' => ∃ T x, v = .ref T ∧ H T = none ∧ H' = upd H T (.tup [.int (i : Nat), x]) ∧ ∀ xs, SqT K H a xs → xs[i]? = some x, fun i H => ∃ xs : List V, SqT K H a xs ∧ xs.length ≤ i⟩
theorem tup_ne_iter {h : Heap} {a it : Addr} {items : Array Value} {i : Nat} (hT : h.IsTuple a items) (hI : h.IsTupleIter it a i) : a ≠ it := by
  rintro rfl
  obtain ⟨o, e, _, n, d⟩ := hT
  obtain ⟨o2, e2, _, d2⟩ := hI
  rw [e] at e2
  cases e2
  rw [d] at d2
  cases d2
theorem turn_enumT {P : Program} {w : World} {K : PySem.W.Frag} {elts : List Expr} {kk : Nat} {tpos : Pos} (a e it : Addr) :
    Turn P w K (.Tuple elts kk tpos) (IteT K a) [e, it] e (fun i h => (∃ old, IsEnum h e it ((i : Nat) : Int) old) ∧ h.IsTupleIter it a i ∧ e ≠ it) where
  mem := by simp
  obj := fun i h st b hb => by
    obtain ⟨⟨old, he⟩, ⟨o, ho, hc, hd⟩, _⟩ := st
    have e' : b = e ∨ b = it := by simpa using hb
    rcases e' with z | z
    · rw [z]; exact ⟨_, he, fun v q => nomatch q⟩
    · rw [z]; exact ⟨o, ho, fun v q => by rw [hd] at q; cases q⟩
  keep := fun i h h' st k => let ⟨⟨old, he⟩, hi, hne⟩ := st; ⟨⟨old, k e (by simp) _ he⟩, hi.at fun o q => k it (by simp) o q, hne⟩
  item := by
    intro X hP hw hK hc i pins s σ H E I hf st hg
    subst hP hw hK
    obtain ⟨⟨old, he⟩, hit, hne⟩ := st
    obtain ⟨xs, x, hq, hx⟩ := hg
    obtain ⟨its, rv, p, hz⟩ := I.tuple hq
    obtain ⟨u, hu, ru⟩ := rv.get hx
    have hel : e < s.heap.objs.size := Heap.lt_size he
    have hil : it < s.heap.objs.size := by obtain ⟨_, q, _⟩ := hit; exact Heap.lt_size q
    have nai := tup_ne_iter p hit
    have nae : e ≠ a := by
      rintro rfl
      obtain ⟨o, e1, _, n, d⟩ := p
      have e2 : s.heap.get? e = some _ := he
      rw [e1] at e2
      cases e2
      cases d
    have hlt : i < its.toArray.size := by
      have := (List.getElem?_eq_some_iff.mp hu).1
      simpa using this
    refine wpAny_pyNext_enum_itemD (Draws.tuple (A := X.A.in1) (show X.A.in1.handled = none from I.ok.hd hc) it a nai its.toArray) he ⟨hit, p⟩ hlt hne (by simp [hne, nae]) fun x2 h' tk hP ho hit' hT hsz hk => ?_
    obtain rfl : x2 = u := by
      have h1 : its.toArray[i]? = some x2 := hP
      have h2 : its.toArray[i]? = some u := by simpa using hu
      rw [h1] at h2
      exact Option.some.inj h2
    refine ⟨_, rfl, wpAny_letOwnedTupleGo_enum (s := { s with heap := h', toks := tk + 1 }) ho fun h'' he' sb => ?_⟩
    have hT2 : h''.get? s.heap.objs.size = some { cls := .type "tuple", data := .seq #[.int i tk, x2] } := (sb.2 _ (Nat.ne_of_gt hel)).trans hT
    have new : ObjOk X.prog X.w (upd H s.heap.objs.size (.tup [.int (i : Nat), x])) h'' s.heap.objs.size (.tup [.int (i : Nat), x]) :=
      ⟨by show 2 ≤ sizeLine; decide, [.int i tk, x2], .cons ⟨_, rfl⟩ (.cons ru .nil), ⟨_, hT2, rfl, _, rfl⟩⟩
    have I1 : Inv X pins σ (upd H s.heap.objs.size (.tup [.int (i : Nat), x])) { s with heap := h'', toks := tk + 1 } :=
      I.turnedNew (ch := [e, it]) (fun b ob nb q => (sb.2 b (fun z => nb (by rw [z]; simp))).trans (hk b ob (fun z => nb (by rw [z]; simp)) (fun z => nb (by rw [z]; simp)) q)) hf (Nat.le_refl _) new
    refine ⟨.ref s.heap.objs.size, _, I1, rfl, ⟨_, x, rfl, I.hok.fresh (Nat.le_refl _), rfl, fun ys hy => ?_⟩, ⟨⟨x2, ?_⟩, hit'.1.at fun o q => (sb.2 it (Ne.symm hne)).trans q, hne⟩, fun b hb => ?_⟩
    · rw [I.tuple_inj hy hq]
      exact hx
    · have e1 : ((i + 1 : Nat) : Int) = (i : Int) + 1 := by omega
      rw [e1]
      exact he'
    · have hlt2 : b < s.heap.objs.size := by
        have e2 : b = e ∨ b = it := by simpa using hb
        rcases e2 with z | z
        · rw [z]
          exact hel
        · rw [z]
          exact hil
      rw [upd_ne (Nat.ne_of_lt hlt2)]
      exact (hf b hb).1
  done := by
    intro X hP hw hK hc i pins s σ H E I hf st hg
    subst hP hw hK
    obtain ⟨⟨was, hEn⟩, hIt, _⟩ := st
    obtain ⟨xs, hq, hx⟩ := hg
    obtain ⟨its, rv, p, _⟩ := I.tuple hq
    obtain ⟨f0, f1, f2, f3, f4, f5⟩ := hf it (by simp)
    have hno : its.toArray[i]? = none := by
      have := rv.length
      simp
      omega
    have Dn : Draws X.prog X.w X.A.in1 it [it, a] 0 (fun _ _ => False) (fun _ h => h.IsTupleIter it a i ∧ h.IsTuple a its.toArray) :=
      { live := fun _ _ st => ⟨_, st.1.choose_spec.1⟩
        frame := fun _ _ _ st k => ⟨st.1.at fun o e => k it (by simp) o e, st.2.at fun o e => k a (by simp) o e⟩
        item := fun j _ _ _ hj => absurd hj (Nat.not_lt_zero _)
        done := fun s Q E st hE => wpAny_nextOf_tuple_end (show X.A.in1.handled = none from I.ok.hd hc) st.1 st.2 hno hE }
    exact wpAny_pyNext_enum_endD Dn hEn ⟨hIt, p⟩ fun h' eb => ⟨rfl, I.turned (t' := s.toks) (fun b o nb q => eb b o nb q) f0 f1 f3 f4 f5⟩
  self := fun A i s Q E st h => wpAny_pyIter_enum st.1.choose_spec h
def iEnumT (K : PySem.W.Frag) (ta : TA) : TI := fun σ H R => ta σ H fun vs H1 => ∃ a xs, vs = [.ref a] ∧ SqT K H1 a xs ∧ R (IteT K a) H1
/-- for x, y in enumerate(t), t a tuple -/
theorem pi_enumT {X : Cx} {e : Expr} {ta : TA} {p pos tpos : Pos} {elts : List Expr} {kk : Nat} (hg : Gl X "enumerate") (hm : X.mg "enumerate" = none) (ha : PA X [e] ta) (hs : starEach [e] X.env = [(false, eval e X.env)] := by rfl) :
    PI X (.Tuple elts kk tpos) (.Call (.Name "enumerate" p) [e] [] pos) (iEnumT X.K ta) := by
  refine ⟨fun pins s σ H R I h => ?_⟩
  refine Call_ (ld_blt I hg hm boot_enumerate (PyProof.Rows.callWith_type1 (thn (ha.run pos pins s σ H _ I h) ?_) hs rfl))
  rintro us s1 ⟨vs, H1, I1, r1, a, xs, rfl, hq, q⟩
  obtain ⟨u, rfl, ru⟩ := r1.one
  cases ru
  obtain ⟨its, rv, p', _⟩ := I1.tuple hq
  refine call_enumT p' fun h' hEn hIt hsz hk => wpAny_pyIter_enum hEn ?_
  have I2 : Inv X pins σ H1 { s1 with heap := h' } := I1.kept (t' := s1.toks) hk
  refine ⟨s1.heap.objs.size + 1, [s1.heap.objs.size + 1, s1.heap.objs.size], _, _, H1, rfl, I2, turn_enumT a (s1.heap.objs.size + 1) s1.heap.objs.size, ⟨⟨.none, hEn⟩, hIt, Nat.succ_ne_self _⟩, fun b hb => ?_, q⟩
  have hle : s1.heap.objs.size ≤ b := by
    have e2 : b = s1.heap.objs.size + 1 ∨ b = s1.heap.objs.size := by simpa using hb
    rcases e2 with z | z
    · rw [z]
      exact Nat.le_add_right _ _
    · rw [z]
      exact Nat.le_refl _
  exact I1.fpOk hle (I1.hok.fresh hle)
section
variable {X : Cx}
/-! equality, membership -/
def rEqQ (K : PySem.W.Frag) : R2 := fun x y H Q => ∃ (M N : Addr → Prop) (d e : PyData), Dq K M H x d ∧ Dq K N H y e ∧ SeqAt.shaped d = true ∧ SeqAt.shaped e = true ∧ Q (.bl (PyData.eqv d e)) H
def rNeQ (K : PySem.W.Frag) : R2 := fun x y H Q => ∃ (M N : Addr → Prop) (d e : PyData), Dq K M H x d ∧ Dq K N H y e ∧ SeqAt.shaped d = true ∧ SeqAt.shaped e = true ∧ Q (.bl (!PyData.eqv d e)) H
theorem op_eqQ (hu : X.A.units + 64 < cLine) : OpR X (compareOp .Eq) (rEqQ X.K) := by
  intro pins s σ H x y v u Q I rx ry h
  obtain ⟨M, N, d, e, hd, he, sd, se, q⟩ := h
  obtain ⟨as, r1, _⟩ := hd.reads I _ rx
  obtain ⟨bs, r2, _⟩ := he.reads I _ ry
  exact SeqAt.compareEq_shaped r1 r2 sd se hu ⟨.bl _, H, I, rfl, q⟩
theorem op_neQ (hu : X.A.units + 64 < cLine) : OpR X (compareOp .NotEq) (rNeQ X.K) := by
  intro pins s σ H x y v u Q I rx ry h
  obtain ⟨M, N, d, e, hd, he, sd, se, q⟩ := h
  obtain ⟨as, r1, _⟩ := hd.reads I _ rx
  obtain ⟨bs, r2, _⟩ := he.reads I _ ry
  exact SeqAt.compareNe_shaped r1 r2 sd se hu ⟨.bl _, H, I, rfl, q⟩
/-- d in (..), data of any kind -/
def rInQ (K : PySem.W.Frag) : R2 := fun x y H Q => ∃ (M N : Addr → Prop) (d : PyData) (es : List PyData), Dq K M H x d ∧ Dq K N H y (.tuple es) ∧ SeqAt.shaped d = true ∧ SeqAt.shaped (.tuple es) = true ∧ Q (.bl (es.any fun z => PyData.eqv z d)) H
def rNotInQ (K : PySem.W.Frag) : R2 := fun x y H Q => ∃ (M N : Addr → Prop) (d : PyData) (es : List PyData), Dq K M H x d ∧ Dq K N H y (.tuple es) ∧ SeqAt.shaped d = true ∧ SeqAt.shaped (.tuple es) = true ∧ Q (.bl (!es.any fun z => PyData.eqv z d)) H
theorem op_inQ (hu : X.A.units + 65 < cLine) : OpR X (compareOp .In) (rInQ X.K) := by
  intro pins s σ H x y v u Q I rx ry h
  obtain ⟨M, N, d, es, hd, he, sd, se, q⟩ := h
  obtain ⟨as, r1, _⟩ := hd.reads I _ rx
  obtain ⟨bs, r2, _⟩ := he.reads I _ ry
  have hle := SeqAt.depth_of_shaped sd
  exact SeqAt.in_tuple_reads r2 r1 (SeqAt.canLay_of_shaped se) (SeqAt.canLay_of_shaped sd) (by omega) ⟨.bl _, H, I, rfl, q⟩
theorem op_notInQ (hu : X.A.units + 65 < cLine) : OpR X (compareOp .NotIn) (rNotInQ X.K) := by
  intro pins s σ H x y v u Q I rx ry h
  obtain ⟨M, N, d, es, hd, he, sd, se, q⟩ := h
  obtain ⟨as, r1, _⟩ := hd.reads I _ rx
  obtain ⟨bs, r2, _⟩ := he.reads I _ ry
  have hle := SeqAt.depth_of_shaped sd
  exact SeqAt.notIn_tuple_reads r2 r1 (SeqAt.canLay_of_shaped se) (SeqAt.canLay_of_shaped sd) (by omega) ⟨.bl _, H, I, rfl, q⟩
end
end FG

/-! FG: t[::-1], t a tuple -/
namespace FG
open PySem PySem.Spec PyProof.Rows L2
section
variable {prog : Program} {w : World} {A : Around} {E : Value → Shared → Prop} {s : Shared}
theorem applied_rev {sl : Addr} {vs : Value} {n : Nat} {Q : Int × Int × Nat → Shared → Prop} (hs : s.heap.IsSliceOf sl .none .none vs) (ps : IsPart vs (some (-1)))
    (h : Q ((n : Int) - 1, -1, n) s) : wpAny (model prog w) A (Builtin.Slice.sliceApplied (.ref sl) (pure (n : Int))) Q E s := by
  obtain ⟨os, e1, e2, e3⟩ := id hs
  unfold Builtin.Slice.sliceApplied Builtin.Slice.sliceFields
  refine wpAny_bind (wpAny_bind (wpAny_field e1 e3 (x := .none) rfl ?_))
  refine wpAny_bind (wpAny_field e1 e3 (x := .none) rfl ?_)
  refine wpAny_bind (wpAny_field e1 e3 (x := vs) rfl (wpAny_pure ?_))
  refine wpAny_bind (HT.slicePart_ ps ?_)
  show wpAny _ _ (if ((-1 : Int) == 0) = true then _ else _) _ _ s
  rw [if_neg (by decide)]
  refine wpAny_bind (HT.slicePart_ .none ?_)
  refine wpAny_bind (HT.slicePart_ .none ?_)
  refine wpAny_bind (wpAny_pure ?_)
  have e4 : Builtin.Slice.sliceAdjust none none (-1) (n : Int) = ((n : Int) - 1, -1) := by
    unfold Builtin.Slice.sliceAdjust
    rfl
  show wpAny _ _ (match Builtin.Slice.sliceAdjust none none (-1) (n : Int) with | (lo, hi) => pure (lo, (-1 : Int), Builtin.Slice.slicePlaces lo hi (-1))) _ _ s
  rw [e4]
  have e5 : Builtin.Slice.slicePlaces ((n : Int) - 1) (-1) (-1) = n := by
    unfold Builtin.Slice.slicePlaces
    simp only [show ¬ ((-1 : Int) > 0) by decide, if_false]
    by_cases z : (n : Int) - 1 > -1
    · simp only [z, if_true]
      rw [show (- -1 : Int) = 1 by decide, Int.ediv_one]
      omega
    · simp only [z, if_false]
      omega
  show wpAny _ _ (pure ((n : Int) - 1, (-1 : Int), Builtin.Slice.slicePlaces ((n : Int) - 1) (-1) (-1))) _ _ s
  rw [e5]
  exact wpAny_pure h
theorem fm_congr {α β : Type} {f g : α → Option β} : ∀ l : List α, (∀ x ∈ l, f x = g x) → l.filterMap f = l.filterMap g
  | [], _ => rfl
  | x :: l, h => by
    rw [List.filterMap_cons, List.filterMap_cons, h x List.mem_cons_self, fm_congr l fun y hy => h y (List.mem_cons_of_mem _ hy)]
theorem pick_rev (xs : Array Value) : ((List.range xs.size).filterMap fun (m : Nat) => xs[(((xs.size : Int) - 1) + (m : Int) * (-1)).toNat]?).toArray = xs.toList.reverse.toArray := by
  have e : (List.range xs.size).filterMap (fun (m : Nat) => xs[(((xs.size : Int) - 1) + (m : Int) * (-1)).toNat]?) = ((List.range xs.size).map fun k => xs.size - 1 - k).filterMap (xs[·]?) := by
    rw [List.filterMap_map]
    refine fm_congr _ fun m hm => ?_
    have := List.mem_range.mp hm
    show xs[(((xs.size : Int) - 1) + (m : Int) * (-1)).toNat]? = xs[xs.size - 1 - m]?
    have e : (((xs.size : Int) - 1) + (m : Int) * (-1)).toNat = xs.size - 1 - m := by omega
    rw [e]
  rw [e, PySem.W.krv_range, List.filterMap_reverse, PySem.W.krv_all]
theorem getItem_tuple_rev {t sl : Addr} {items : Array Value} {vs : Value} {Q : Value → Shared → Prop} (ht : IsTup s.heap t items) (hs : s.heap.IsSliceOf sl .none .none vs) (ps : IsPart vs (some (-1)))
    (h : Q (.ref s.heap.objs.size) { s with heap := s.heap.push { cls := .type "tuple", data := .seq items.toList.reverse.toArray } })
    (hsz : items.size ≤ sizeLine) : wpAny (model prog w) A (getItem (.ref t) (.ref sl)) Q E s := by
  have hok : sizeOk (.seq items.toList.reverse.toArray) := by
    show items.toList.reverse.toArray.size ≤ sizeLine
    simpa using hsz
  obtain ⟨os, e1, e2, e3⟩ := id hs
  have hTs : s.TypeIs (.ref sl) "slice" := ⟨os, e1, e2⟩
  unfold getItem
  try with_reducible refine wpAny_holding ?_
  first | refine wpAny_bind (wpAny_pure ?_) | skip
  refine wpAny_bind (wpAny_sequenceKey ht.typeIs (by decide) ?_)
  refine wpAny_bind (wpAny_callSpecial?_slot (name := Str.ofString "__getitem__") ht.typeIs PyProof.Rows.slot_tuple_getitem (wpAny_call_entry PyProof.Rows.slot_tuple_getitem ht.typeIs entry_tuple_getitem ?_ (args_tuple_getitem _ _)))
  show wpAny _ _ (Builtin.Tuple.tupleItemsOf (.ref t) >>= _) _ _ s
  refine wpAny_bind (tupleItemsOf_ ht ?_)
  refine wpAny_bind (wpAny_typeOf hTs ?_)
  rw [if_pos (by decide)]
  refine wpAny_bind (applied_rev hs ps ?_)
  show wpAny _ _ (if (((items.size : Int) - 1) == 0 && (-1 : Int) == 1 && items.size == items.size) = true then _ else _) _ _ s
  rw [if_neg (by rw [show ((-1 : Int) == 1) = false from rfl, Bool.and_false, Bool.false_and]; exact Bool.false_ne_true), pick_rev]
  first
    | exact wpAny_bind (m := Builtin.Tuple.tupleExact _) (wpAny_newObj_type (wpAny_pure ⟨_, rfl, wpAny_pure h⟩) hok)
    | exact wpAny_bind (m := Builtin.Tuple.tupleExact _) (wpAny_newObj_type (wpAny_bind (wpAny_pure (wpAny_pure ⟨_, rfl, wpAny_pure h⟩))) hok)
    | exact wpAny_bind (wpAny_bind (m := Builtin.Tuple.tupleExact _) (wpAny_newObj_type (wpAny_pure (wpAny_pure ⟨_, rfl, wpAny_pure h⟩)) hok))
    | exact wpAny_bind (wpAny_bind (m := Builtin.Tuple.tupleExact _) (wpAny_newObj_type (wpAny_pure ⟨_, rfl, wpAny_pure h⟩) hok))
end
section
variable {X : Cx}
def tRevT (K : PySem.W.Frag) (te : TE) : TE := fun σ H Q => te σ H fun x H1 => ∃ a xs, x = .ref a ∧ SqT K H1 a xs ∧ ∀ p, H1 p = none → Q (.ref p) (upd H1 p (.tup xs.reverse))
theorem pe_revT {e : Expr} {te : TE} {k : Nat} {p1 p2 p3 pos : Pos} (he : PE X e te) : PE X (.Subscript e (.Slice none none (some (.UnaryOp .USub (.Constant (.int 1) k p1) p2)) p3) pos) (tRevT X.K te) := by
  refine ⟨fun pins s σ H Q I h => ?_⟩
  refine Subscript_ (thn (he.run pins s σ H _ I h) ?_)
  rintro v s1 ⟨x, H1, I1, r1, a, xs, rfl, hx, q⟩
  cases r1
  have hst : PO X (some (.UnaryOp .USub (.Constant (.int 1) k p1) p2)) (tPart (tUn (rU fun i => .int (-i)) (tC (.int 1)))) := po_some (pe_un un_neg pe_int)
  refine wpAny_Slice ?_
  rw [evalPart_none]
  refine wpAny_pure ?_
  refine wpAny_pure ?_
  refine thn (hst.run pins s1 σ H1 (fun o H4 => o = some (-1) ∧ H4 = H1) I1 ⟨1, rfl, -1, rfl, rfl, rfl⟩) ?_
  rintro vs s4 ⟨o, H4, I4, ps, rfl, rfl⟩
  have I5 : Inv X pins σ H4 { s4 with heap := s4.heap.push { cls := .type "slice", data := .fields #[.none, .none, vs] } } := I4.kept (t' := s4.toks) fun b ob z => Heap.get?_push_of_some _ z
  obtain ⟨its, r, ht, hz⟩ := I5.tuple hx
  have hlen := r.length
  refine tail_any (ops := [.ref a, .ref s4.heap.objs.size]) ht.typeIs (PyProof.Rows.slot_tuple_getitem.lookup) ?_ (by with_unfolding_all rfl)
  refine getItem_tuple_rev ht (Heap.IsSliceOf.new _ .none .none vs) ps ?_ (by rw [List.size_toArray]; omega)
  refine ⟨.ref _, _, I5.laid (t' := s4.toks) (o := .tup xs.reverse) (fun b ob z => Heap.get?_push_of_some _ z) (Nat.le_refl _) ?_, rfl, q _ (I5.hok.fresh (Nat.le_refl _))⟩
  exact ⟨by rw [List.length_reverse]; exact hz, _, r.reverse, ⟨_, Heap.get?_push_size _ rfl, rfl, 0, rfl⟩⟩
end
theorem units65 {k : Nat} {A : Around} (r : Room k A) : A.units + 65 < cLine := by
  have := r.un
  omega
end FG

/-! FG: objects, keywords, by steps -/
namespace FG
open PySem PySem.Spec PyProof.Rows L2
section
variable {X : Cx} {CX : CXT} {k : Nat} {f : Addr} {fd : FuncData} {ps ks : List Str} {sp : Sp} {E : XK} {x : Str} {p pos : Pos} {g : List Value → List Value → List Value} {gV : List V → List V → List V} {kws : List Keyword} {tk : TA}
/-- f(k = v, ..) -/
theorem pe_callK0 (F : FnOk X.prog X.w X.K X.mg X.base CX k f fd ps sp) (hr : Room k X.A) (hg : Gl X x) (hm : X.mg x = some (.ref f)) (hk : PySem.W.keepIn X.K (.ref f) = true) (hb : KBinds X.K fd ps ks g gV) (hx : Passes CX X E) (hkw : PK X kws tk)
    (hall : (backToKw pos (keywordEach kws X.env)).all (·.1.isSome) = true := by rfl) (hks : (backToKw pos (keywordEach kws X.env)).filterMap (·.1) = ks := by rfl) (hdb : (x == ("__debug__" : Str)) = false := by decide)
    (hpl : ((backTo pos (starEach [] X.env)).any (·.1) || (backToKw pos (keywordEach kws X.env)).any (·.1.isNone)) = false := by rfl) :
    PE X (.Call (.Name x p) [] kws pos) (tCallK sp gV E tNil tk) := by
  refine ⟨fun pins s σ H Q I h => wpAny_Call_Name_kw (ld_glob I hg hm ?_ hdb)⟩
  refine PySem.W.callWith_KW0 (h₀ := X.base) I.ok.mod.kin hk hall (thn (hkw.run pos pins s σ H _ I h) ?_) hpl
  rintro ws s2 ⟨zs, H2, I2, rz, q2⟩
  refine ⟨I2.kIn, ?_⟩
  rw [hks]
  exact run_fnk (us := []) (vs := []) F hr hb hx I2 .nil rz q2
end
/-! ### rules that say K: inside a comprehension the context's own K must not show -/
section
variable {X : Cx} {K : PySem.W.Frag}
theorem opK {o : Value → Value → Sem Value} {r : PySem.W.Frag → R2} (hK : X.K = K) (h : OpR X o (r X.K)) : OpR X o (r K) := hK ▸ h
theorem callK {f : Value} {r : PySem.W.Frag → List V → Hp → VK → Prop} (hK : X.K = K) (h : CallR X f (r X.K)) : CallR X f (r K) := hK ▸ h
theorem ixK {r : PySem.W.Frag → R2} (hK : X.K = K) (h : IxR X (r X.K)) : IxR X (r K) := hK ▸ h
theorem slK {r : PySem.W.Frag → V → Option Int → Option Int → Hp → VK → Prop} (hK : X.K = K) (h : SlR X (r X.K)) : SlR X (r K) := hK ▸ h
theorem pe_fldK {e : Expr} {f : Str} {pos : Pos} {ta : TE} (hK : X.K = K) (he : PE X e ta) (hb : attributeBase e f X.env (eval e X.env) = eval e X.env) : PE X (.Attribute e f pos) (tFld K ta f) := hK ▸ pe_fld he hb
theorem pi_tupK {tg l : Expr} {tl : TE} (hK : X.K = K) (hl : PE X l tl) : PI X tg l (iTup K tl) := hK ▸ pi_tup hl
theorem pi_listK {tg l : Expr} {tl : TE} (hK : X.K = K) (hl : PE X l tl) : PI X tg l (iList K tl) := hK ▸ pi_list hl
end
/-! ### readings of fields, by name -/
def FldAt (K : PySem.W.Frag) (f : Str) (x : V) (H : Hp) (Q : VK) : Prop := ∃ a C dx fs v, x = .ref a ∧ H a = some (.ins C dx fs) ∧ Cls K C ∧ NoAttr K C f ∧ fs.lookup f = some v ∧ Q v H
def SetAt (K : PySem.W.Frag) (f : Str) (x y : V) (H : Hp) (k : Hp → Prop) : Prop := ∃ a C dx fs, x = .ref a ∧ H a = some (.ins C dx fs) ∧ Cls K C ∧ NoAttr K C f ∧ fs.length < 1000 ∧ k (upd H a (.ins C dx (putF f y fs)))
def MethAt (C : Addr) (m : Str) (x : V) (H : Hp) (q : Prop) : Prop := ∃ a dx fs, x = .ref a ∧ H a = some (.ins C dx fs) ∧ fs.lookup m = none ∧ q
def MakeAt (C : Addr) (sp : Sp) (vs : List V) (E : XK) (Q : VK) (H : Hp) : Prop := ∀ x dx, H x = none → H dx = none → dx ≠ x → sp (.ref x :: vs) (upd (upd H dx (.own x)) x (.ins C dx [])) (fun v H2 => v = .non ∧ Q (.ref x) H2) E
section
variable {σ : L2.St} {H : Hp} {Q : VK} {ta tv : TE} {t : TA} {K : PySem.W.Frag} {f m : Str} {D : Ends} {sp : Sp} {dvs : List V} {E : XK} {C : Addr} {tk : TA} {gV : List V → List V → List V}
theorem b_fld (q : ta σ H fun x H1 => FldAt K f x H1 Q) : tFld K ta f σ H Q := q
theorem e_fld {a C dx : Addr} {fs : List (Str × V)} {v : V} (h : H a = some (.ins C dx fs)) (c : Cls K C) (n : NoAttr K C f) (l : fs.lookup f = some v) (q : Q v H) : FldAt K f (.ref a) H Q := ⟨a, C, dx, fs, v, rfl, h, c, n, l, q⟩
theorem b_sfld (q : tv σ H fun y H1 => ta σ H1 fun x H2 => SetAt K f x y H2 fun H3 => D.nx σ H3) : sFld K ta tv f D σ H := q
theorem e_sfld {a C dx : Addr} {fs : List (Str × V)} {y : V} {k : Hp → Prop} (h : H a = some (.ins C dx fs)) (c : Cls K C) (n : NoAttr K C f) (hl : fs.length < 1000) (q : ∀ H', H' a = some (.ins C dx (putF f y fs)) → SameM (· = a) H H' → k H') : SetAt K f (.ref a) y H k :=
  ⟨a, C, dx, fs, rfl, h, c, n, hl, q _ upd_same (SameM.upd rfl)⟩
theorem b_meth (q : ta σ H fun x H1 => MethAt C m x H1 (t σ H1 fun vs H2 => sp (x :: (vs ++ dvs)) H2 Q E)) : tMeth C m sp dvs E ta t σ H Q := q
theorem e_meth {a dx : Addr} {fs : List (Str × V)} {q : Prop} (h : H a = some (.ins C dx fs)) (l : fs.lookup m = none) (hq : q) : MethAt C m (.ref a) H q := ⟨a, dx, fs, rfl, h, l, hq⟩
theorem b_make (q : t σ H fun vs H1 => MakeAt C sp (vs ++ dvs) E Q H1) : tMake C sp dvs E t σ H Q := q
theorem e_make {vs : List V} (q : ∀ x dx H', H x = none → H' x = some (.ins C dx []) → Same H H' → sp (.ref x :: vs) H' (fun v H2 => v = .non ∧ Q (.ref x) H2) E) : MakeAt C sp vs E Q H := fun x dx nx nd ne =>
  q x dx _ nx upd_same fun b o e => by
    rw [upd_ne (ne_of_none e nx), upd_ne (ne_of_none e nd)]
    exact e
theorem b_callK (q : t σ H fun vs H1 => tk σ H1 fun zs H2 => sp (gV vs zs) H2 Q E) : tCallK sp gV E t tk σ H Q := q
end
end FG

/-! FG: enumerate and zip by steps; fields that count on; x in (..) of flat things; lists cut -/
namespace FG
open PySem PySem.Spec PyProof.Rows L2 RZ
def RevAt (K : PySem.W.Frag) (v : V) (H : Hp) (Q : VK) : Prop := ∃ a xs, v = .ref a ∧ SqT K H a xs ∧ ∀ p, H p = none → Q (.ref p) (upd H p (.tup xs.reverse))
theorem pe_revTK {X : Cx} {K : PySem.W.Frag} {e : Expr} {te : TE} {k : Nat} {p1 p2 p3 pos : Pos} (hK : X.K = K) (he : PE X e te) : PE X (.Subscript e (.Slice none none (some (.UnaryOp .USub (.Constant (.int 1) k p1) p2)) p3) pos) (tRevT K te) := hK ▸ pe_revT he
section
variable {g : TG} {tt : TT} {te tl tv ta : TE} {tr : TA} {vs : List Nat} {σ : L2.St} {H : Hp} {Q : VK} {K : PySem.W.Frag} {tb : TS} {D : Ends} {xs ys : List V} {a b : Addr}
theorem b_lcEnT (q : tr σ H fun xs H1 => ∃ a ys, xs = [.ref a] ∧ SqT K H1 a ys ∧ LcAny (IteT K a) g tt te vs σ H1 Q) : tLc (iEnumT K tr) g tt te vs σ H Q := q
theorem b_lcEnL (q : tr σ H fun xs H1 => ∃ a ys, xs = [.ref a] ∧ SqL K H1 a ys ∧ LcAny (Ite K a) g tt te vs σ H1 Q) : tLc (iEnum K tr) g tt te vs σ H Q := q
theorem b_forEnT (q : tr σ H fun xs H1 => ∃ a ys, xs = [.ref a] ∧ SqT K H1 a ys ∧ ForAny (IteT K a) g tb D σ H1) : tFor (iEnumT K tr) g tb D σ H := q
theorem b_forEnL (q : tr σ H fun xs H1 => ∃ a ys, xs = [.ref a] ∧ SqL K H1 a ys ∧ ForAny (Ite K a) g tb D σ H1) : tFor (iEnum K tr) g tb D σ H := q
theorem b_lcZ (q : tr σ H fun vs' H1 => ∃ a b xs ys, vs' = [.ref a, .ref b] ∧ ((SqL K H1 a xs ∧ SqL K H1 b ys ∧ LcAny (Itz K a b) g tt te vs σ H1 Q) ∨ (SqT K H1 a xs ∧ SqT K H1 b ys ∧ LcAny (ItzT K a b) g tt te vs σ H1 Q))) : tLc (iZipA K tr) g tt te vs σ H Q := q
theorem e_lcEnT (hS : SqT K H a xs) (Pv : Addr → Nat → Hp → Prop) (h0 : ∀ D H', H D = none → H' D = some (.lst []) → Same H H' → Pv D 0 H')
    (hl : ∀ D i H', H D = none → Pv D i H' → SqT K H' a xs)
    (hs : ∀ D i x T H' H2, H D = none → xs[i]? = some x → Pv D i H' → H' T = none → H2 T = some (.tup [.int (i : Nat), x]) → Same H' H2 → Turn1 g tt te vs σ D (.ref T) H2 (Pv D (i + 1)))
    (hd : ∀ D H', H D = none → Pv D xs.length H' → Q (.ref D) H') : ∃ a' ys, [V.ref a] = [.ref a'] ∧ SqT K H a' ys ∧ LcAny (IteT K a') g tt te vs σ H Q := by
  refine ⟨a, xs, rfl, hS, lc_by xs.length Pv h0 (fun D i H' nD hi p => ⟨⟨xs, xs[i], hl D i H' nD p, by simp [hi]⟩, ?_⟩) (fun D H' nD p => ⟨⟨xs, hl D _ H' nD p, Nat.le_refl _⟩, hd D H' nD p⟩)⟩
  rintro v H2 ⟨T, x, rfl, nT, rfl, hv⟩
  exact hs D i x T H' _ nD (hv xs (hl D i _ nD p)) p nT upd_same (same_upd nT)
theorem e_lcEnL (hS : SqL K H a xs) (Pv : Addr → Nat → Hp → Prop) (h0 : ∀ D H', H D = none → H' D = some (.lst []) → Same H H' → Pv D 0 H')
    (hl : ∀ D i H', H D = none → Pv D i H' → SqL K H' a xs)
    (hs : ∀ D i x T H' H2, H D = none → xs[i]? = some x → Pv D i H' → H' T = none → H2 T = some (.tup [.int (i : Nat), x]) → Same H' H2 → Turn1 g tt te vs σ D (.ref T) H2 (Pv D (i + 1)))
    (hd : ∀ D H', H D = none → Pv D xs.length H' → Q (.ref D) H') : ∃ a' ys, [V.ref a] = [.ref a'] ∧ SqL K H a' ys ∧ LcAny (Ite K a') g tt te vs σ H Q := by
  refine ⟨a, xs, rfl, hS, lc_by xs.length Pv h0 (fun D i H' nD hi p => ⟨⟨xs, xs[i], hl D i H' nD p, by simp [hi]⟩, ?_⟩) (fun D H' nD p => ⟨⟨xs, hl D _ H' nD p, Nat.le_refl _⟩, hd D H' nD p⟩)⟩
  rintro v H2 ⟨T, x, rfl, nT, rfl, hv⟩
  exact hs D i x T H' _ nD (hv xs (hl D i _ nD p)) p nT upd_same (same_upd nT)
theorem e_lcZT (hS : SqT K H a xs) (hS2 : SqT K H b ys) (hn : xs.length ≤ ys.length) (Pv : Addr → Nat → Hp → Prop) (h0 : ∀ D H', H D = none → H' D = some (.lst []) → Same H H' → Pv D 0 H')
    (hl : ∀ D i H', H D = none → Pv D i H' → SqT K H' a xs ∧ SqT K H' b ys)
    (hs : ∀ D i x y T H' H2, H D = none → xs[i]? = some x → ys[i]? = some y → Pv D i H' → H' T = none → H2 T = some (.tup [x, y]) → Same H' H2 → Turn1 g tt te vs σ D (.ref T) H2 (Pv D (i + 1)))
    (hd : ∀ D H', H D = none → Pv D xs.length H' → Q (.ref D) H') : ∃ a' b' xs' ys', [V.ref a, .ref b] = [.ref a', .ref b'] ∧ ((SqL K H a' xs' ∧ SqL K H b' ys' ∧ LcAny (Itz K a' b') g tt te vs σ H Q) ∨ (SqT K H a' xs' ∧ SqT K H b' ys' ∧ LcAny (ItzT K a' b') g tt te vs σ H Q)) := by
  refine ⟨a, b, xs, ys, rfl, .inr ⟨hS, hS2, lc_by xs.length Pv h0 (fun D i H' nD hi p => ⟨⟨xs, ys, xs[i], ys[i]'(by omega), (hl D i H' nD p).1, (hl D i H' nD p).2, by simp [hi], List.getElem?_eq_getElem (by omega)⟩, ?_⟩) (fun D H' nD p => ⟨⟨xs, ys, (hl D _ H' nD p).1, (hl D _ H' nD p).2, .inl (Nat.le_refl _)⟩, hd D H' nD p⟩)⟩⟩
  rintro v H2 ⟨T, x, y, rfl, nT, rfl, hv, hw⟩
  exact hs D i x y T H' _ nD (hv xs (hl D i _ nD p).1) (hw ys (hl D i _ nD p).2) p nT upd_same (same_upd nT)
theorem for_by {J : It} (n : Nat) (Pv : Nat → L2.St → Hp → Prop) (h0 : Pv 0 σ H)
    (hgo : ∀ i σ H, i < n → Pv i σ H → J.go i H ∧ ∀ x H2, J.yld i H x H2 → g x σ H2 fun σ2 H3 => tb { D with nx := Pv (i + 1), ct := Pv (i + 1), bk := D.nx } σ2 H3)
    (hst : ∀ σ H, Pv n σ H → J.stop n H ∧ D.nx σ H) : ForAny J g tb D σ H := by
  refine ⟨fun i m σ H => m = n - i ∧ i ≤ n ∧ Pv i σ H, ⟨n, by simp, Nat.zero_le _, h0⟩, ?_⟩
  rintro i m σ H ⟨rfl, hi, p⟩
  by_cases hlt : i < n
  · obtain ⟨h1, h2⟩ := hgo i σ H hlt p
    exact .inr ⟨h1, Pv (i + 1), fun σ' H' p' => ⟨n - (i + 1), by omega, rfl, hlt, p'⟩, h2⟩
  · obtain rfl : i = n := by omega
    exact .inl (hst σ H p)
theorem e_forEnL (hS : SqL K H a xs) (Pv : Nat → L2.St → Hp → Prop) (h0 : Pv 0 σ H) (hl : ∀ i σ H, Pv i σ H → SqL K H a xs)
    (hs : ∀ i x T σ H H2, xs[i]? = some x → Pv i σ H → H T = none → H2 T = some (.tup [.int (i : Nat), x]) → Same H H2 → g (.ref T) σ H2 fun σ2 H2 => tb { D with nx := Pv (i + 1), ct := Pv (i + 1), bk := D.nx } σ2 H2) (hd : ∀ σ H, Pv xs.length σ H → D.nx σ H) :
    ∃ a' ys, [V.ref a] = [.ref a'] ∧ SqL K H a' ys ∧ ForAny (Ite K a') g tb D σ H := by
  refine ⟨a, xs, rfl, hS, for_by xs.length Pv h0 (fun i σ H hi p => ⟨⟨xs, xs[i], hl i σ H p, by simp [hi]⟩, ?_⟩) (fun σ H p => ⟨⟨xs, hl _ σ H p, Nat.le_refl _⟩, hd σ H p⟩)⟩
  rintro v H2 ⟨T, x, rfl, nT, rfl, hv⟩
  exact hs i x T σ H _ (hv xs (hl i σ H p)) p nT upd_same (same_upd nT)
theorem e_forEnT (hS : SqT K H a xs) (Pv : Nat → L2.St → Hp → Prop) (h0 : Pv 0 σ H) (hl : ∀ i σ H, Pv i σ H → SqT K H a xs)
    (hs : ∀ i x T σ H H2, xs[i]? = some x → Pv i σ H → H T = none → H2 T = some (.tup [.int (i : Nat), x]) → Same H H2 → g (.ref T) σ H2 fun σ2 H2 => tb { D with nx := Pv (i + 1), ct := Pv (i + 1), bk := D.nx } σ2 H2) (hd : ∀ σ H, Pv xs.length σ H → D.nx σ H) :
    ∃ a' ys, [V.ref a] = [.ref a'] ∧ SqT K H a' ys ∧ ForAny (IteT K a') g tb D σ H := by
  refine ⟨a, xs, rfl, hS, for_by xs.length Pv h0 (fun i σ H hi p => ⟨⟨xs, xs[i], hl i σ H p, by simp [hi]⟩, ?_⟩) (fun σ H p => ⟨⟨xs, hl _ σ H p, Nat.le_refl _⟩, hd σ H p⟩)⟩
  rintro v H2 ⟨T, x, rfl, nT, rfl, hv⟩
  exact hs i x T σ H _ (hv xs (hl i σ H p)) p nT upd_same (same_upd nT)
theorem Same.new {M : Addr → Prop} {H H1 H2 : Hp} (s : Same H H1) (t : SameM M H1 H2) (h : ∀ b, M b → H b = none) : Same H H2 := fun b o e => t b o (fun z => by rw [h b z] at e; cases e) (s b o e)
/-! fields -/
theorem b_fldaug {f : Str} {rd : V → V → Hp → VK → Prop} {a C dx : Addr} {fs : List (Str × V)} {v : V} (h : H a = some (.ins C dx fs)) (c : Cls K C) (n : NoAttr K C f) (l : fs.lookup f = some v)
    (q : tv σ H fun y H2 => rd v y H2 fun z H3 => ∃ dx' fs', H3 a = some (.ins C dx' fs') ∧ fs'.length < 1000 ∧ D.nx σ (upd H3 a (.ins C dx' (putF f z fs')))) (ha : ta = tC (.ref a)) : sFldAug K ta tv rd f D σ H := by
  subst ha
  exact ⟨a, C, dx, fs, v, rfl, h, c, n, l, q⟩
def FldAug (K : PySem.W.Frag) (f : Str) (tv : TE) (rd : V → V → Hp → VK → Prop) (σ : L2.St) (D : Ends) (x : V) (H : Hp) : Prop := ∃ a C dx fs v, x = .ref a ∧ H a = some (.ins C dx fs) ∧ Cls K C ∧ NoAttr K C f ∧ fs.lookup f = some v ∧
  tv σ H fun y H2 => rd v y H2 fun z H3 => ∃ dx' fs', H3 a = some (.ins C dx' fs') ∧ fs'.length < 1000 ∧ D.nx σ (upd H3 a (.ins C dx' (putF f z fs')))
theorem b_sfa {f : Str} {rd : V → V → Hp → VK → Prop} (q : ta σ H fun x H1 => FldAug K f tv rd σ D x H1) : sFldAug K ta tv rd f D σ H := q
/-- x.f += i -/
theorem e_sfa {f : Str} {C dx : Addr} {fs : List (Str × V)} {i j : Int} (h : H a = some (.ins C dx fs)) (c : Cls K C) (n : NoAttr K C f) (hl : fs.length < 1000) (l : fs.lookup f = some (.int i))
    (q : ∀ H', H' a = some (.ins C dx (putF f (.int (i + j)) fs)) → SameM (· = a) H H' → D.nx σ H') : FldAug K f (tC (.int j)) (ipI (· + ·)) σ D (.ref a) H :=
  ⟨a, C, dx, fs, .int i, rfl, h, c, n, l, i, j, rfl, rfl, dx, fs, h, hl, q _ upd_same (SameM.upd rfl)⟩
/-! in, of flat things -/
theorem b_inT {x : V} {neg : Bool} (h : SqT K H a xs) (fx : flatV x = true) (fs : xs.all flatV = true) (q : Q (.bl (if neg then !inV x xs else inV x xs)) H) : rIn K neg x (.ref a) H Q := ⟨a, xs, rfl, .inr h, fx, fs, q⟩
theorem b_inL {x : V} {neg : Bool} (h : SqL K H a xs) (fx : flatV x = true) (fs : xs.all flatV = true) (q : Q (.bl (if neg then !inV x xs else inV x xs)) H) : rIn K neg x (.ref a) H Q := ⟨a, xs, rfl, .inl h, fx, fs, q⟩
/-! lists -/
theorem e_slL {lo hi : Option Int} (ha : SqL K H a xs) (q : ∀ p H', H p = none → H' p = some (.lst (cutV xs lo hi)) → Same H H' → Q (.ref p) H') : rSlL K (.ref a) lo hi H Q := ⟨a, xs, rfl, ha, e_new q⟩
theorem e_extend (ha : H a = some (.lst xs)) (hb : H b = some (.lst ys)) (hl : xs.length + ys.length ≤ 100000) (q : ∀ H', H' a = some (.lst (xs ++ ys)) → SameM (· = a) H H' → Q .non H') : rExtend (.ref a) [.ref b] H Q :=
  ⟨a, b, xs, ys, rfl, rfl, ha, hb, Nat.le_trans hl (by decide), q _ upd_same (SameM.upd rfl)⟩
theorem b_sum {ns : List Int} (h : SqL K H a (ns.map V.int)) (q : Q (.int ns.sum) H) : rSum K [.ref a] H Q := ⟨a, ns, rfl, h, q⟩
theorem e_revT (q : ta σ H fun x H1 => RevAt K x H1 Q) : tRevT K ta σ H Q := q
/-- a tuple turned, as data -/
theorem e_revD {v : V} {ds : List PyData} (h : Dq K M0 H v (.tuple ds)) (q : ∀ p H', Dq K M0 H' p (.tuple ds.reverse) → Same H H' → Q p H') : RevAt K v H Q := by
  obtain ⟨p, xs, rfl, hx, hxs⟩ := h.tupE
  refine ⟨p, xs, rfl, hx.t, fun r nr => ?_⟩
  refine q (.ref r) _ (Dq.newT (fun z => z) upd_same ?_) (same_upd nr)
  have : ∀ {vs : List V} {es : List PyData}, DqAll K M0 H vs es → DqAll K M0 H vs.reverse es.reverse := by
    intro vs
    induction vs with
    | nil => intro es h; cases h; exact .nil
    | cons v vs ih =>
      intro es h
      cases h with
      | cons h1 h2 =>
        rw [List.reverse_cons, List.reverse_cons]
        exact (ih h2).append (.cons h1 .nil)
  exact (this hxs).same (same_upd nr)
/-- t[lo:hi], as data -/
def cutD (ds : List PyData) (lo hi : Option Int) : List PyData := (ds.drop (HT.sIx ds.length 0 lo)).take (HT.sIx ds.length ds.length hi - HT.sIx ds.length 0 lo)
theorem cut_all {M : Addr → Prop} {ds : List PyData} (h : DqAll K M H xs ds) (lo hi : Option Int) : DqAll K M H (cutV xs lo hi) (cutD ds lo hi) := by
  unfold cutV cutD
  rw [h.length]
  exact (h.drop _).take _
theorem e_slD {v : V} {ds : List PyData} {lo hi : Option Int} (h : Dq K M0 H v (.tuple ds)) (q : ∀ p H', Dq K M0 H' p (.tuple (cutD ds lo hi)) → Same H H' → Q p H') : rSlA K v lo hi H Q := by
  obtain ⟨p, xs, rfl, hx, hxs⟩ := h.tupE
  exact e_slT trk0 hx fun r H' hr s => q _ H' (.tup hr ((cut_all hxs lo hi).same s)) s
theorem cutD_to (ds : List PyData) (n : Nat) : cutD ds none (some (n : Int)) = ds.take n := by
  unfold cutD
  rw [HT.sIx_none, HT.sIx_nat, List.drop_zero, Nat.sub_zero, List.take_eq_take_iff]
  omega
theorem cutD_from (ds : List PyData) (n : Nat) : cutD ds (some (n : Int)) none = ds.drop n := by
  unfold cutD
  rw [HT.sIx_none, HT.sIx_nat]
  by_cases h : n ≤ ds.length
  · rw [Nat.min_eq_left h, List.take_of_length_le (by rw [List.length_drop]; omega)]
  · rw [Nat.min_eq_right (by omega), List.drop_eq_nil_of_le (Nat.le_refl _), List.drop_eq_nil_of_le (by omega), List.take_nil]
end
section
variable {X : Cx} {K : PySem.W.Frag} {e e2 : Expr} {ta : TA} {p pos tpos : Pos} {elts : List Expr} {kk : Nat}
theorem pi_enumTK (hK : X.K = K) (hg : Gl X "enumerate") (hm : X.mg "enumerate" = none) (ha : PA X [e] ta) (hs : starEach [e] X.env = [(false, eval e X.env)] := by rfl) :
    PI X (.Tuple elts kk tpos) (.Call (.Name "enumerate" p) [e] [] pos) (iEnumT K ta) := hK ▸ pi_enumT hg hm ha hs
theorem pi_enumLK (hK : X.K = K) (hg : Gl X "enumerate") (hm : X.mg "enumerate" = none) (ha : PA X [e] ta) (hs : starEach [e] X.env = [(false, eval e X.env)] := by rfl) :
    PI X (.Tuple elts kk tpos) (.Call (.Name "enumerate" p) [e] [] pos) (iEnum K ta) := hK ▸ pi_enum hg hm ha hs
theorem pi_zipK (hK : X.K = K) (hg : Gl X "zip") (hm : X.mg "zip" = none) (ha : PA X [e, e2] ta) (hs : starEach [e, e2] X.env = (false, eval e X.env) :: starEach [e2] X.env := by rfl) (hpl : (backTo pos (starEach [e2] X.env)).any (·.1) = false := by rfl) :
    PI X (.Tuple elts kk tpos) (.Call (.Name "zip" p) [e, e2] [] pos) (iZipA K ta) := hK ▸ pi_zipA hg hm ha hs hpl
end
end FG

/-! FG: data that fits: it can be shown and compared -/
namespace FG
open PySem PySem.Spec PyProof.Rows L2
theorem showableAll_mem : ∀ {ds : List PyData} {d : PyData}, PyData.showableAll ds = true → d ∈ ds → d.showable = true
  | e :: ds, d, h, hm => by
    simp only [PyData.showableAll, Bool.and_eq_true] at h
    rcases List.mem_cons.mp hm with rfl | hm
    · exact h.1
    · exact showableAll_mem h.2 hm
theorem depthAll_mem : ∀ {ds : List PyData} {d : PyData}, d ∈ ds → d.depth ≤ PyData.depthAll ds
  | e :: ds, d, hm => by
    simp only [PyData.depthAll]
    rcases List.mem_cons.mp hm with rfl | hm
    · exact Nat.le_max_left _ _
    · exact Nat.le_trans (depthAll_mem hm) (Nat.le_max_right _ _)
theorem shownAll_mem : ∀ {ds : List PyData} {d : PyData}, d ∈ ds → d.shown ∈ PyData.shownAll ds
  | e :: ds, d, hm => by
    simp only [PyData.shownAll]
    rcases List.mem_cons.mp hm with rfl | hm
    · exact List.mem_cons_self
    · exact List.mem_cons_of_mem _ (shownAll_mem hm)
theorem canLayAll_mem : ∀ {ds : List PyData} {d : PyData}, PyData.canLayAll0 ds = true → d ∈ ds → d.canLay0 = true
  | e :: ds, d, h, hm => by
    simp only [PyData.canLayAll0, Bool.and_eq_true] at h
    rcases List.mem_cons.mp hm with rfl | hm
    · exact h.1
    · exact canLayAll_mem h.2 hm
theorem canLayAll_of : ∀ {ds : List PyData}, (∀ d ∈ ds, d.canLay0 = true) → PyData.canLayAll0 ds = true
  | [], _ => rfl
  | e :: ds, h => by
    simp only [PyData.canLayAll0, Bool.and_eq_true]
    exact ⟨h e List.mem_cons_self, canLayAll_of fun d hd => h d (List.mem_cons_of_mem _ hd)⟩
theorem tup_len {ds : List PyData} {h n : Nat} (s : Small h n (.tuple ds)) : ds.length ≤ n + 2 := by
  have h3 := s.sz
  simp only [PyData.shown] at h3
  have h4 := PyData.shownAll_length ds
  by_cases hz : ds = []
  · subst hz; simp
  · have h5 := join_length_add (PyData.shownAll ds) (by intro z; rw [z] at h4; simp at h4; exact hz (List.eq_nil_of_length_eq_zero h4.symm))
    have h6 : ∀ ts : List Str, 2 * ts.length ≤ piled ts := by
      intro ts
      induction ts with
      | nil => simp [piled_nil]
      | cons t ts ih => rw [piled_cons, List.length_cons]; omega
    have h7 := h6 (PyData.shownAll ds)
    unfold tupleText at h3
    rw [strLen_append, strLen_append] at h3
    omega
/-- small, and of plain kinds: it can be shown and compared -/
structure Fit (h n : Nat) (d : PyData) : Prop where
  sm : Small h n d
  lay : d.canLay0 = true
theorem Fit.show {h n : Nat} {d : PyData} (f : Fit h n d) (e1 : h ≤ 60) (e2 : n ≤ 16000000) : Show d := f.sm.show e1 e2
theorem Fit.shaped {h n : Nat} {d : PyData} (f : Fit h n d) (e1 : h ≤ 60) : SeqAt.shaped d = true := by
  unfold SeqAt.shaped
  rw [f.lay, Bool.true_and]
  exact decide_eq_true (Nat.le_trans f.sm.dp (by omega))
theorem Fit.mono {h n h' n' : Nat} {d : PyData} (s : Fit h n d) (e1 : h ≤ h') (e2 : n ≤ n') : Fit h' n' d := ⟨s.sm.mono e1 e2, s.lay⟩
theorem Fit.item {h n : Nat} {ds : List PyData} {d : PyData} (f : Fit h n (.tuple ds)) (hm : d ∈ ds) : Fit h n d := by
  obtain ⟨⟨h1, h2, h3, h4⟩, h5⟩ := f
  simp only [PyData.showable] at h1
  simp only [PyData.depth] at h2
  simp only [PyData.shown] at h3
  simp only [PyData.canLay0] at h5
  have hd := depthAll_mem hm
  refine ⟨⟨showableAll_mem h1 hm, by omega, Nat.le_trans (tupleText_mem_le (shownAll_mem hm)) h3, ?_⟩, canLayAll_mem h5 hm⟩
  exact PyData.hasDict_of_canLay _ (canLayAll_mem h5 hm)
theorem sumLen_piled : ∀ ds : List PyData, sumLen ds = piled (PyData.shownAll ds)
  | [] => rfl
  | d :: ds => by
    simp only [sumLen, PyData.shownAll]
    rw [piled_cons, sumLen_piled ds]
theorem sumLen_shown (ds : List PyData) : sumLen ds ≤ (PyData.shown (.tuple ds)).length := by
  simp only [PyData.shown]
  rw [sumLen_piled]
  by_cases hz : ds = []
  · subst hz; simp [PyData.shownAll, piled_nil]
  · have h4 := PyData.shownAll_length ds
    have h5 := join_length_add (PyData.shownAll ds) (by intro z; rw [z] at h4; simp at h4; exact hz (List.eq_nil_of_length_eq_zero h4.symm))
    unfold tupleText
    rw [strLen_append, strLen_append]
    have h6 : (Str.ofString "(").length = 1 := rfl
    have h7 : 1 ≤ (Str.ofString (if ((PyData.shownAll ds).length == 1) = true then ",)" else ")")).length := by
      split <;> decide
    omega
theorem sumLen_append : ∀ ds es : List PyData, sumLen (ds ++ es) = sumLen ds + sumLen es
  | [], es => by simp [sumLen]
  | d :: ds, es => by
    rw [List.cons_append]
    simp only [sumLen]
    rw [sumLen_append ds es]
    omega
theorem sumLen_take (ds : List PyData) (i : Nat) : sumLen (ds.take i) ≤ sumLen ds := by
  have := sumLen_append (ds.take i) (ds.drop i)
  rw [List.take_append_drop] at this
  omega
theorem sumLen_drop (ds : List PyData) (i : Nat) : sumLen (ds.drop i) ≤ sumLen ds := by
  have := sumLen_append (ds.take i) (ds.drop i)
  rw [List.take_append_drop] at this
  omega
theorem sumLen_reverse : ∀ ds : List PyData, sumLen ds.reverse = sumLen ds
  | [] => rfl
  | d :: ds => by
    rw [List.reverse_cons, sumLen_append, sumLen_reverse ds]
    simp only [sumLen]
    omega
theorem sumLen_two : ∀ ds : List PyData, 2 * ds.length ≤ sumLen ds
  | [] => Nat.zero_le _
  | d :: ds => by
    have := sumLen_two ds
    simp only [sumLen, List.length_cons]
    omega
/-- things that fit, together so long -/
structure FitL (h n : Nat) (ds : List PyData) : Prop where
  it : ∀ d ∈ ds, ∃ m, Fit h m d
  sz : sumLen ds ≤ n
theorem FitL.mono {h n h' n' : Nat} {ds : List PyData} (f : FitL h n ds) (e1 : h ≤ h') (e2 : n ≤ n') : FitL h' n' ds :=
  ⟨fun d hd => let ⟨m, z⟩ := f.it d hd; ⟨m, z.mono e1 (Nat.le_refl _)⟩, Nat.le_trans f.sz e2⟩
theorem FitL.nil {h n : Nat} : FitL h n [] := ⟨by simp, Nat.zero_le _⟩
theorem FitL.one {h n : Nat} {d : PyData} (f : Fit h n d) : FitL h (n + 2) [d] :=
  ⟨fun e he => by rw [List.mem_singleton.mp he]; exact ⟨n, f⟩, by
    have := f.sm.sz
    simp only [sumLen]
    omega⟩
theorem FitL.append {h n m : Nat} {ds es : List PyData} (a : FitL h n ds) (b : FitL h m es) : FitL h (n + m) (ds ++ es) :=
  ⟨fun d hd => by
    rcases List.mem_append.mp hd with hd | hd
    · exact a.it d hd
    · exact b.it d hd, by
    have h1 := a.sz
    have h2 := b.sz
    rw [sumLen_append]
    omega⟩
theorem FitL.take {h n : Nat} {ds : List PyData} (a : FitL h n ds) (i : Nat) : FitL h n (ds.take i) := ⟨fun d hd => a.it d (List.mem_of_mem_take hd), Nat.le_trans (sumLen_take ds i) a.sz⟩
theorem FitL.drop {h n : Nat} {ds : List PyData} (a : FitL h n ds) (i : Nat) : FitL h n (ds.drop i) := ⟨fun d hd => a.it d (List.mem_of_mem_drop hd), Nat.le_trans (sumLen_drop ds i) a.sz⟩
theorem FitL.cut {h n : Nat} {ds : List PyData} (a : FitL h n ds) (lo hi : Option Int) : FitL h n (cutD ds lo hi) := (a.drop _).take _
theorem FitL.rev {h n : Nat} {ds : List PyData} (a : FitL h n ds) : FitL h n ds.reverse := ⟨fun d hd => a.it d (List.mem_reverse.mp hd), by rw [sumLen_reverse]; exact a.sz⟩
theorem FitL.tup {h n : Nat} {ds : List PyData} (f : FitL h n ds) : Fit (h + 1) (n + 3) (.tuple ds) := by
  refine ⟨⟨?_, ?_, ?_, ?_⟩, ?_⟩
  · simp only [PyData.showable]; exact showableAll_of fun d hd => (f.it d hd).choose_spec.sm.ok
  · have := depthAll_of fun d hd => (f.it d hd).choose_spec.sm.dp
    simp only [PyData.depth]; omega
  · have h1 := shown_tuple ds
    have h2 := f.sz
    omega
  · simp only [PyData.hasDict]; exact hasDictAll_of fun d hd => (f.it d hd).choose_spec.sm.nd
  · simp only [PyData.canLay0]; exact canLayAll_of fun d hd => (f.it d hd).choose_spec.lay
theorem FitL.lst {h n : Nat} {ds : List PyData} (f : FitL h n ds) : Fit (h + 1) (n + 3) (.list ds) := by
  refine ⟨⟨?_, ?_, ?_, ?_⟩, ?_⟩
  · simp only [PyData.showable]; exact showableAll_of fun d hd => (f.it d hd).choose_spec.sm.ok
  · have := depthAll_of fun d hd => (f.it d hd).choose_spec.sm.dp
    simp only [PyData.depth]; omega
  · have h1 := shown_list ds
    have h2 := f.sz
    omega
  · simp only [PyData.hasDict]; exact hasDictAll_of fun d hd => (f.it d hd).choose_spec.sm.nd
  · simp only [PyData.canLay0]; exact canLayAll_of fun d hd => (f.it d hd).choose_spec.lay
theorem Fit.items {h n : Nat} {ds : List PyData} (f : Fit (h + 1) n (.tuple ds)) : FitL h n ds := by
  refine ⟨fun d hd => ?_, Nat.le_trans (sumLen_shown ds) f.sm.sz⟩
  have h1 := f.item hd
  have h2 := depthAll_mem hd
  have h3 := f.sm.dp
  simp only [PyData.depth] at h3
  exact ⟨n, ⟨h1.sm.ok, by omega, h1.sm.sz, h1.sm.nd⟩, h1.lay⟩
theorem Fit.items' {h n : Nat} {ds : List PyData} (f : Fit h n (.tuple ds)) : FitL h n ds :=
  ⟨fun d hd => ⟨n, f.item hd⟩, Nat.le_trans (sumLen_shown ds) f.sm.sz⟩
theorem Fit.non {h : Nat} : Fit h 4 .none := ⟨Small.non, rfl⟩
theorem Fit.bl {h : Nat} (b : Bool) : Fit h 5 (.bool b) := ⟨Small.bl b, rfl⟩
theorem Fit.int {h : Nat} {i : Int} (k : Nat) (hk : 0 < k) (hk2 : k ≤ 100) (h1 : i.natAbs < 10 ^ k) : Fit h (k + 1) (.int i) := ⟨Small.int k hk hk2 h1, rfl⟩
theorem Fit.str {h m : Nat} {x : Str} (ok : PyData.canLay0 (.str x) = true) (hx : ∀ c ∈ x.cps.toList, c < 16 ^ 8) (hl : x.length ≤ m) : Fit h (10 * m + 2) (.str x) := ⟨Small.str hx hl, ok⟩
end FG

/-! FG: data of tuples alone stays while lists change; data made anew, with places to avoid -/
namespace FG
open PySem PySem.Spec PyProof.Rows L2
theorem shaped_of {d : PyData} (h1 : d.canLay0 = true) (h2 : d.depth ≤ 64) : SeqAt.shaped d = true := by
  unfold SeqAt.shaped
  rw [h1, Bool.true_and]
  exact decide_eq_true h2
theorem ite_c {c : Bool} {A B : V} {σ : L2.St} {H : Hp} {Q : VK} (q : Q (if c = true then A else B) H) : if c = true then tC A σ H Q else tC B σ H Q := by
  cases c
  · exact q
  · exact q
mutual
/-- no list and no dict in it -/
def noLD : PyData → Bool
  | .none | .bool _ | .int _ | .str _ => true
  | .list _ => false
  | .tuple xs => noLDAll xs
  | .dict _ => false
def noLDAll : List PyData → Bool
  | [] => true
  | x :: xs => noLD x && noLDAll xs
end
theorem noLDAll_of : ∀ {ds : List PyData}, (∀ d ∈ ds, noLD d = true) → noLDAll ds = true
  | [], _ => rfl
  | d :: ds, h => by
    simp only [noLDAll, Bool.and_eq_true]
    exact ⟨h d List.mem_cons_self, noLDAll_of fun e he => h e (List.mem_cons_of_mem _ he)⟩
theorem noLD_tup {ds : List PyData} (h : ∀ d ∈ ds, noLD d = true) : noLD (.tuple ds) = true := by
  simp only [noLD]
  exact noLDAll_of h
/-- all tuples stay -/
def SameN (H H' : Hp) : Prop := ∀ b xs, Rd H b (.tup xs) → Rd H' b (.tup xs)
theorem SameN.refl (H : Hp) : SameN H H := fun _ _ h => h
theorem SameN.trans {H H1 H2 : Hp} (a : SameN H H1) (b : SameN H1 H2) : SameN H H2 := fun c xs h => b c xs (a c xs h)
theorem SameN.of {H H' : Hp} (s : Same H H') : SameN H H' := fun b xs h => by
  rcases h with h | ⟨o, h⟩
  · exact .inl (s _ _ h)
  · exact .inr ⟨o, s _ _ h⟩
theorem SameN.lst {H H' : Hp} {l : Addr} {xs : List V} (h : H l = some (.lst xs)) (s : SameM (· = l) H H') : SameN H H' := fun b ys hb => by
  have hne : b ≠ l := by
    rintro rfl
    rcases hb with e | ⟨o, e⟩
    · rw [h] at e; cases e
    · rw [h] at e; cases e
  rcases hb with e | ⟨o, e⟩
  · exact .inl (s _ _ hne e)
  · exact .inr ⟨o, s _ _ hne e⟩
section
variable {K : PySem.W.Frag} {M N : Addr → Prop} {H H' : Hp}
mutual
theorem Dq.keepN (s : SameN H H') : ∀ {v : V} {d : PyData}, noLD d = true → Dq K M H v d → Dq K M H' v d
  | _, _, _, .non => .non
  | _, _, _, .bl b => .bl b
  | _, _, _, .int i => .int i
  | _, _, _, .str x => .str x
  | _, _, n, .lst _ _ => absurd (by simpa [noLD] using n) Bool.false_ne_true
  | _, _, n, .tup h a => .tup (by
      rcases h with ⟨n, h⟩ | h
      · exact .inl ⟨n, s _ _ h⟩
      · exact .inr h) (DqAll.keepN s (by simpa [noLD] using n) a)
  | _, _, n, .dct _ _ _ => absurd (by simpa [noLD] using n) Bool.false_ne_true
theorem DqAll.keepN (s : SameN H H') : ∀ {vs : List V} {ds : List PyData}, noLDAll ds = true → DqAll K M H vs ds → DqAll K M H' vs ds
  | _, _, _, .nil => .nil
  | _, _, n, .cons h a => by
    simp only [noLDAll, Bool.and_eq_true] at n
    exact .cons (Dq.keepN s n.1 h) (DqAll.keepN s n.2 a)
end
/-! with places to avoid -/
variable {Q : VK} {xs : List V} {ds es : List PyData}
theorem e_tupM (t : Trk M H) (h : DqAll K M H xs ds) (q : ∀ p H', Dq K M H' (.ref p) (.tuple ds) → Same H H' → Q (.ref p) H') (hl : xs.length ≤ 100000 := by first | decide | simp) : NewT xs H Q :=
  e_tup (fun p H' np hp s => q p H' (Dq.newT (t.new np) hp (h.same s)) s) hl
theorem e_lstM (t : Trk M H) (h : DqAll K M H xs ds) (q : ∀ p H', Dq K M H' (.ref p) (.list ds) → H' p = some (.lst xs) → H p = none → Same H H' → Q (.ref p) H') (hl : xs.length ≤ 100000 := by first | decide | simp) : NewL xs H Q :=
  e_lst (fun p H' np hp s => q p H' (Dq.newL (t.new np) hp (h.same s)) hp np s) hl
theorem e_catM {a b : V} (t : Trk M H) (ha : Dq K M H a (.tuple ds)) (hb : Dq K M H b (.tuple es)) (hl : ds.length + es.length ≤ 100000) (q : ∀ v H', Dq K M H' v (.tuple (ds ++ es)) → Same H H' → Q v H') : rCatA K a b H Q := by
  obtain ⟨p, xs, rfl, hx, hxs⟩ := ha.tupE
  obtain ⟨r, ys, rfl, hy, hys⟩ := hb.tupE
  refine e_catT t hx hy (by rw [hxs.length, hys.length]; exact hl) fun t H' ht s => q _ H' (.tup ht ((hxs.same s).append (hys.same s))) s
theorem cut_allM (h : DqAll K M H xs ds) (lo hi : Option Int) : DqAll K M H (cutV xs lo hi) (cutD ds lo hi) := by
  unfold cutV cutD
  rw [h.length]
  exact (h.drop _).take _
theorem e_slM {v : V} {lo hi : Option Int} (t : Trk M H) (h : Dq K M H v (.tuple ds)) (q : ∀ p H', Dq K M H' p (.tuple (cutD ds lo hi)) → Same H H' → Q p H') : rSlA K v lo hi H Q := by
  obtain ⟨p, xs, rfl, hx, hxs⟩ := h.tupE
  exact e_slT t hx fun r H' hr s => q _ H' (.tup hr ((cut_allM hxs lo hi).same s)) s
theorem DqAll.rev : ∀ {vs : List V} {es : List PyData}, DqAll K M H vs es → DqAll K M H vs.reverse es.reverse := by
  intro vs
  induction vs with
  | nil => intro es h; cases h; exact .nil
  | cons v vs ih =>
    intro es h
    cases h with
    | cons h1 h2 =>
      rw [List.reverse_cons, List.reverse_cons]
      exact (ih h2).append (.cons h1 .nil)
/-- a tuple turned -/
theorem e_revM {v : V} (t : Trk M H) (h : Dq K M H v (.tuple ds)) (q : ∀ p H', Dq K M H' p (.tuple ds.reverse) → Same H H' → Q p H') : RevAt K v H Q := by
  obtain ⟨p, xs, rfl, hx, hxs⟩ := h.tupE
  refine ⟨p, xs, rfl, hx.t, fun r nr => ?_⟩
  exact q (.ref r) _ (Dq.newT (t.new nr) upd_same (hxs.rev.same (same_upd nr))) (same_upd nr)
theorem e_listM {v : V} (t : Trk M H) (h : Dq K M H v (.tuple ds)) (q : ∀ p H', Dq K M H' p (.list ds) → Same H H' → Q p H') : qListOf K [v] H Q := by
  obtain ⟨p, xs, rfl, hx, hxs⟩ := h.tupE
  exact e_listT hx.t fun l H' nl hl s => q _ H' (Dq.newL (t.new nl) hl (hxs.same s)) s
theorem b_ixD {v : V} {x : Int} (h : Dq K M H v (.tuple ds)) {d : PyData} (ha : atI ds x = some d) (q : ∀ y, Dq K M H y d → Q y H) : rIxT K v (.int x) H Q := by
  obtain ⟨p, xs, rfl, hx, hxs⟩ := h.tupE
  unfold atI at ha
  cases e : ixN ds.length x with
  | none => rw [e] at ha; cases ha
  | some j =>
    rw [e] at ha
    have hj : j < ds.length := (List.getElem?_eq_some_iff.mp ha).1
    have hj2 : j < xs.length := by rw [hxs.length]; exact hj
    obtain ⟨d', h1, h2⟩ := hxs.get (List.getElem?_eq_getElem hj2)
    have e3 : ds[j]? = some d := ha
    rw [e3] at h1
    cases h1
    refine b_ixT hx.t (v := xs[j]) ?_ (q _ h2)
    unfold atI
    rw [hxs.length, e]
    exact List.getElem?_eq_getElem hj2
theorem b_lenD {v : V} (h : Dq K M H v (.tuple ds)) (q : Q (.int ds.length) H) : qLen K [v] H Q := by
  obtain ⟨p, xs, rfl, hx, hxs⟩ := h.tupE
  refine b_lenT hx.t ?_
  rw [hxs.length]
  exact q
end
end FG

/-! FG: the pot by steps -/
namespace FG
open PySem PySem.Spec PyProof.Rows L2
theorem PotAt.trk {H : Hp} {p : Addr} {n : Nat} (h : PotAt H p n) : Trk (· = p) H := by
  obtain ⟨_, _, _, e, _⟩ := h
  rintro a rfl z
  rw [z] at e; cases e
section
variable {K : PySem.W.Frag} {M : Addr → Prop} {H : Hp} {Q : VK} {E : XK} {xs : List V} {ds : List PyData} {p : Addr} {n : Nat}
theorem mem_dq : ∀ {xs : List V} {ds : List PyData} {v : V}, DqAll K M H xs ds → v ∈ xs → ∃ d ∈ ds, Dq K M H v d
  | _ :: _, _ :: _, v, .cons h a, hm => by
    rcases List.mem_cons.mp hm with rfl | hm
    · exact ⟨_, List.mem_cons_self, h⟩
    · obtain ⟨d, h1, h2⟩ := mem_dq a hm
      exact ⟨d, List.mem_cons_of_mem _ h1, h2⟩
theorem e_lstA (h : DqAll K M H xs ds) (q : ∀ p H', H p = none → H' p = some (.lst xs) → DqAll K M H' xs ds → Same H H' → Q (.ref p) H') (hl : xs.length ≤ 100000 := by first | decide | simp) : NewL xs H Q :=
  e_lst (fun p H' np hp s => q p H' np hp (h.same s) s) hl
theorem e_take {u : Int} (hp : PotAt H p n) (hn : n ≤ 1000000000) (h0 : 0 < u) (h1 : u < 1073741824) (q : ∀ (d : Nat) (H' : Hp), (d : Int) < u → PotAt H' p (n + 1) → SameM (· = p) H H' → Q (.int d) H') : spTake [.ref p, .int u] H Q E := by
  refine ⟨p, u, n, rfl, hp, hn, h0, h1, fun d H' d0 d1 hp' s => ?_⟩
  obtain ⟨m, rfl⟩ := Int.eq_ofNat_of_zero_le d0
  exact q m H' d1 hp' s
/-- one of a list of data -/
theorem e_of {la : Addr} (hp : PotAt H p n) (hn : n ≤ 1000000000) (hlap : la ≠ p) (hla : H la = some (.lst xs)) (h : DqAll K (· = p) H xs ds) (ne : xs ≠ []) (hl : xs.length < 1000000)
    (q : ∀ v d H', d ∈ ds → Dq K (· = p) H' v d → PotAt H' p (n + 1) → SameM (· = p) H H' → Q v H') : spOf K [.ref p, .ref la] H Q E := by
  refine ⟨p, n, hp, hn, .inl ⟨la, xs, rfl, hlap, SqL.of hla, ne, hl, fun v H' hv hp' s => ?_⟩⟩
  obtain ⟨d, h1, h2⟩ := mem_dq (DqAll.pot (M := (· = p)) rfl s h) hv
  exact q v d H' h1 h2 hp' s
end
end FG

/-! K14: traces and outputs, the mathematics -/
namespace K14
inductive Wd where
  | ltr (c : Nat)
  | lo
  | hi
deriving DecidableEq
abbrev Out := List (Nat × Nat)
def side (i p : Nat) : Wd := if p < i then .lo else .hi
def isL : Wd → Bool
  | .ltr _ => true
  | _ => false
theorem side_not (i p : Nat) : isL (side i p) = false := by
  unfold side
  split <;> rfl
def stepT (i : Nat) (acc : List Wd) (x : Nat × Nat) : List Wd := if x.2 = i then acc ++ [.ltr x.1] else if acc.getLast? = some (side i x.2) then acc else acc ++ [side i x.2]
/-- the trace of an output at the position i -/
def trace (o : Out) (i : Nat) : List Wd := o.foldl (stepT i) []
theorem trace_snoc (o : Out) (x : Nat × Nat) (i : Nat) : trace (o ++ [x]) i = stepT i (trace o i) x := by
  unfold trace
  rw [List.foldl_append]
  rfl
theorem trace_last (o : Out) (c r i : Nat) : (trace (o ++ [(c, r)]) i).getLast? = some (if r = i then .ltr c else side i r) := by
  rw [trace_snoc]
  unfold stepT
  by_cases h : r = i
  · rw [if_pos h, if_pos h]; simp
  · rw [if_neg h, if_neg h]
    by_cases h2 : (trace o i).getLast? = some (side i r)
    · rw [if_pos h2]; exact h2
    · rw [if_neg h2]; simp
/-- the word that was read last is w -/
def within (t : List Wd) (m : Nat) (w : Wd) : Bool := decide (0 < m) && decide (t[m - 1]? = some w)
def lets (t : List Wd) (m i p : Nat) : Bool := if p = i then (match t[m]? with
    | some w => isL w
    | none => false) else within t m (side i p) || decide (t[m]? = some (side i p))
def goOn (t : List Wd) (m i p : Nat) : Nat := if p = i ∨ within t m (side i p) = false then m + 1 else m
/-- the trace so far is the beginning of t, m words long -/
def At (t : List Wd) (m : Nat) (o : Out) (i : Nat) : Prop := trace o i = t.take m ∧ m ≤ t.length
theorem At.last {t : List Wd} {m i : Nat} {o : Out} (h : At t m o i) (w : Wd) : (trace o i).getLast? = some w ↔ within t m w = true := by
  rw [h.1]
  unfold within
  cases m with
  | zero => simp
  | succ k =>
    have hk : k < t.length := h.2
    rw [List.getLast?_eq_getElem?, List.length_take, Nat.min_eq_left h.2]
    simp [List.getElem?_take, hk]
theorem take_snoc {t : List Wd} {m : Nat} {w : Wd} (h : t[m]? = some w) : t.take (m + 1) = t.take m ++ [w] := by
  rw [List.take_add_one, h]
  rfl
/-- a step that is let -/
theorem At.go {t : List Wd} {m i p c : Nat} {o : Out} (h : At t m o i) (hl : lets t m i p = true) (hc : p = i → t[m]? = some (.ltr c)) : At t (goOn t m i p) (o ++ [(c, p)]) i := by
  unfold At goOn
  rw [trace_snoc]
  unfold stepT
  by_cases e : p = i
  · have := hc e
    rw [if_pos e, if_pos (.inl e), take_snoc this, h.1]
    exact ⟨rfl, (List.getElem?_eq_some_iff.mp this).1⟩
  · unfold lets at hl
    rw [if_neg e] at hl
    rw [if_neg e]
    by_cases hw : within t m (side i p) = true
    · rw [if_pos ((h.last _).mpr hw), if_neg (by rw [hw]; simp [e])]
      exact h
    · rw [if_neg (fun z => hw ((h.last _).mp z)), if_pos (.inr (Bool.eq_false_iff.mpr hw))]
      rw [Bool.eq_false_iff.mpr hw, Bool.false_or, decide_eq_true_eq] at hl
      rw [take_snoc hl, h.1]
      exact ⟨rfl, (List.getElem?_eq_some_iff.mp hl).1⟩
/-- a step whose trace is still a beginning was let -/
theorem At.back {t : List Wd} {m i p c : Nat} {o : Out} (h : At t m o i) (hp : trace (o ++ [(c, p)]) i <+: t) : lets t m i p = true ∧ (p = i → t[m]? = some (.ltr c)) := by
  rw [trace_snoc] at hp
  unfold stepT at hp
  have key : ∀ w, trace o i ++ [w] <+: t → t[m]? = some w := by
    intro w hw
    obtain ⟨s, hs⟩ := hw
    have hl : (trace o i).length = m := by rw [h.1, List.length_take, Nat.min_eq_left h.2]
    rw [← hs, ← hl]
    simp
  unfold lets
  by_cases e : p = i
  · rw [if_pos e] at hp
    have := key _ hp
    rw [if_pos e, this]
    exact ⟨rfl, fun _ => rfl⟩
  · rw [if_neg e] at hp
    rw [if_neg e]
    refine ⟨?_, fun z => absurd z e⟩
    by_cases hw : within t m (side i p) = true
    · rw [hw]; rfl
    · rw [if_neg (fun z => hw ((h.last _).mp z))] at hp
      rw [key _ hp]
      simp
/-- at most one position is let by all -/
theorem one_let {T : List (List Wd)} {ms : List Nat} {o : Out} (ho : ∀ x ∈ o, x.2 < T.length) (hA : ∀ i t m, T[i]? = some t → ms[i]? = some m → At t m o i) (hml : ms.length = T.length) {p q : Nat} (hp : p < T.length) (hq : q < T.length)
    (lp : ∀ i t m, T[i]? = some t → ms[i]? = some m → lets t m i p = true) (lq : ∀ i t m, T[i]? = some t → ms[i]? = some m → lets t m i q = true) : ¬ p < q := by
  intro hlt
  have ge : ∀ i, i < T.length → ∃ t m, T[i]? = some t ∧ ms[i]? = some m := fun i hi => ⟨T[i], ms[i]'(by omega), List.getElem?_eq_getElem hi, List.getElem?_eq_getElem (by omega)⟩
  obtain ⟨tp, mp, h1, h2⟩ := ge p hp
  obtain ⟨tq, mq, h3, h4⟩ := ge q hq
  have a1 := lp p tp mp h1 h2
  have a2 := lq p tp mp h1 h2
  have b1 := lq q tq mq h3 h4
  have b2 := lp q tq mq h3 h4
  have own : ∀ {t : List Wd} {m i r : Nat}, lets t m i i = true → lets t m i r = true → r ≠ i → within t m (side i r) = true := by
    intro t m i r x y ne
    unfold lets at x y
    rw [if_pos rfl] at x
    rw [if_neg ne] at y
    rcases Bool.or_eq_true_iff.mp y with y | y
    · exact y
    · rw [of_decide_eq_true y] at x
      have x2 : isL (side i r) = true := x
      rw [side_not] at x2
      cases x2
  have w1 := own a1 a2 (by omega)
  have w2 := own b1 b2 (by omega)
  rw [← (hA p tp mp h1 h2).last] at w1
  rw [← (hA q tq mq h3 h4).last] at w2
  rcases List.eq_nil_or_concat o with rfl | ⟨o', x, rfl⟩
  · simp [trace] at w1
  · obtain ⟨c, r⟩ := x
    have hr : r < T.length := ho (c, r) (by simp)
    rw [List.concat_eq_append, trace_last] at w1 w2
    by_cases e1 : r = p
    · rw [if_pos e1] at w1
      have : Wd.ltr c = side p q := Option.some.inj w1
      have h5 := side_not p q
      rw [← this] at h5
      cases h5
    by_cases e2 : r = q
    · rw [if_pos e2] at w2
      have : Wd.ltr c = side q p := Option.some.inj w2
      have h5 := side_not q p
      rw [← this] at h5
      cases h5
    rw [if_neg e1] at w1
    rw [if_neg e2] at w2
    have s1 : side p r = side p q := Option.some.inj w1
    have s2 : side q r = side q p := Option.some.inj w2
    have r1 : p < r := by
      unfold side at s1
      rw [if_neg (show ¬ q < p by omega)] at s1
      by_cases z : r < p
      · rw [if_pos z] at s1; cases s1
      · omega
    have r2 : r < q := by
      unfold side at s2
      rw [if_pos hlt] at s2
      by_cases z : r < q
      · exact z
      · rw [if_neg z] at s2; cases s2
    obtain ⟨tr, mr, h5, h6⟩ := ge r hr
    have c1 := lp r tr mr h5 h6
    have c2 := lq r tr mr h5 h6
    have lastr := (hA r tr mr h5 h6).last
    rw [List.concat_eq_append, trace_last, if_pos rfl] at lastr
    have nw : ∀ s, within tr mr (side r s) = false := by
      intro s
      cases z : within tr mr (side r s) with
      | false => rfl
      | true =>
        have := (lastr (side r s)).mpr z
        have := Option.some.inj this
        have h7 := side_not r s
        rw [← this] at h7
        cases h7
    unfold lets at c1 c2
    rw [if_neg (by omega), nw, Bool.false_or] at c1 c2
    have d1 := of_decide_eq_true c1
    have d2 := of_decide_eq_true c2
    rw [d1] at d2
    have := Option.some.inj d2
    unfold side at this
    rw [if_pos r1, if_neg (by omega)] at this
    cases this
/-! ### all at once: T the traces by position, n of them -/
def Begun (n : Nat) (T : Nat → List Wd) (o : Out) : Prop := ∀ i, i < n → trace o i = (T i).take (trace o i).length
theorem Begun.at {n : Nat} {T : Nat → List Wd} {o : Out} (h : Begun n T o) {i : Nat} (hi : i < n) : At (T i) (trace o i).length o i := by
  refine ⟨h i hi, ?_⟩
  have := congrArg List.length (h i hi)
  rw [List.length_take] at this
  omega
theorem At.len {t : List Wd} {m i : Nat} {o : Out} (h : At t m o i) : (trace o i).length = m := by rw [h.1, List.length_take, Nat.min_eq_left h.2]
def letAll (n : Nat) (T : Nat → List Wd) (o : Out) (p : Nat) : Bool := (List.range n).all fun i => lets (T i) (trace o i).length i p
def nexts (n : Nat) (T : Nat → List Wd) (o : Out) : List Nat := (List.range n).filter (letAll n T o)
theorem letAll_iff {n : Nat} {T : Nat → List Wd} {o : Out} {p : Nat} : letAll n T o p = true ↔ ∀ i, i < n → lets (T i) (trace o i).length i p = true := by
  unfold letAll
  rw [List.all_eq_true]
  exact ⟨fun h i hi => h i (List.mem_range.mpr hi), fun h i hi => h i (List.mem_range.mp hi)⟩
theorem let_uniq {n : Nat} {T : Nat → List Wd} {o : Out} (hb : Begun n T o) (ho : ∀ x ∈ o, x.2 < n) {p q : Nat} (hp : p < n) (hq : q < n) (lp : letAll n T o p = true) (lq : letAll n T o q = true) : p = q := by
  have key : ∀ {p q : Nat}, p < n → q < n → letAll n T o p = true → letAll n T o q = true → ¬ p < q := by
    intro p q hp hq lp lq
    rw [letAll_iff] at lp lq
    have e1 : ∀ i t, ((List.range n).map T)[i]? = some t → i < n ∧ t = T i := by
      intro i t h
      rw [List.getElem?_map] at h
      by_cases hi : i < n
      · rw [List.getElem?_range hi] at h
        exact ⟨hi, (Option.some.inj h).symm⟩
      · rw [List.getElem?_eq_none (by simpa using hi)] at h
        cases h
    have e2 : ∀ i m, ((List.range n).map fun i => (trace o i).length)[i]? = some m → i < n ∧ m = (trace o i).length := by
      intro i m h
      rw [List.getElem?_map] at h
      by_cases hi : i < n
      · rw [List.getElem?_range hi] at h
        exact ⟨hi, (Option.some.inj h).symm⟩
      · rw [List.getElem?_eq_none (by simpa using hi)] at h
        cases h
    refine one_let (T := (List.range n).map T) (ms := (List.range n).map fun i => (trace o i).length) (o := o) (by simpa using ho) ?_ (by simp) (by simpa using hp) (by simpa using hq) ?_ ?_
    · intro i t m h1 h2
      obtain ⟨hi, rfl⟩ := e1 i t h1
      obtain ⟨_, rfl⟩ := e2 i m h2
      exact hb.at hi
    · intro i t m h1 h2
      obtain ⟨hi, rfl⟩ := e1 i t h1
      obtain ⟨_, rfl⟩ := e2 i m h2
      exact lp i hi
    · intro i t m h1 h2
      obtain ⟨hi, rfl⟩ := e1 i t h1
      obtain ⟨_, rfl⟩ := e2 i m h2
      exact lq i hi
  have h1 := key hp hq lp lq
  have h2 := key hq hp lq lp
  omega
theorem nexts_one {n : Nat} {T : Nat → List Wd} {o : Out} (hb : Begun n T o) (ho : ∀ x ∈ o, x.2 < n) : nexts n T o = [] ∨ ∃ p, p < n ∧ letAll n T o p = true ∧ nexts n T o = [p] := by
  cases e : nexts n T o with
  | nil => exact .inl rfl
  | cons p r =>
    have hm : ∀ q ∈ p :: r, q < n ∧ letAll n T o q = true := by
      intro q hq
      rw [← e] at hq
      unfold nexts at hq
      rw [List.mem_filter, List.mem_range] at hq
      exact hq
    have hnd : (p :: r).Nodup := by
      rw [← e]
      exact List.nodup_range.filter _
    cases r with
    | nil => exact .inr ⟨p, (hm p (by simp)).1, (hm p (by simp)).2, rfl⟩
    | cons q r =>
      have h1 := hm p (by simp)
      have h2 := hm q (by simp)
      have := let_uniq hb ho h1.1 h2.1 h1.2 h2.2
      rw [this] at hnd
      simp at hnd
/-- the letter that is next at p -/
def ltrAt (T : Nat → List Wd) (o : Out) (p : Nat) : Nat := match (T p)[(trace o p).length]? with
  | some (.ltr c) => c
  | _ => 0
theorem let_ltr {n : Nat} {T : Nat → List Wd} {o : Out} {p : Nat} (hp : p < n) (h : letAll n T o p = true) : (T p)[(trace o p).length]? = some (.ltr (ltrAt T o p)) := by
  have := letAll_iff.mp h p hp
  unfold lets at this
  rw [if_pos rfl] at this
  unfold ltrAt
  split at this
  · rename_i w hw
    rw [hw]
    cases w with
    | ltr c => rfl
    | lo => cases this
    | hi => cases this
  · cases this
theorem begun_go {n : Nat} {T : Nat → List Wd} {o : Out} {p : Nat} (hb : Begun n T o) (hp : p < n) (h : letAll n T o p = true) : Begun n T (o ++ [(ltrAt T o p, p)]) ∧ ∀ i, i < n → (trace (o ++ [(ltrAt T o p, p)]) i).length = goOn (T i) (trace o i).length i p := by
  have key : ∀ i, i < n → At (T i) (goOn (T i) (trace o i).length i p) (o ++ [(ltrAt T o p, p)]) i := fun i hi =>
    (hb.at hi).go (letAll_iff.mp h i hi) (fun e => by subst e; exact let_ltr hi h)
  refine ⟨fun i hi => ?_, fun i hi => (key i hi).len⟩
  rw [(key i hi).len]
  exact (key i hi).1
def greedy (n : Nat) (T : Nat → List Wd) : Nat → Option Out
  | 0 => some []
  | k + 1 => match greedy n T k with
    | none => none
    | some o => match nexts n T o with
      | [] => none
      | p :: _ => some (o ++ [(ltrAt T o p, p)])
theorem greedy_ok {n : Nat} {T : Nat → List Wd} : ∀ {k : Nat} {o : Out}, greedy n T k = some o → Begun n T o ∧ (∀ x ∈ o, x.2 < n) ∧ o.length = k
  | 0, o, h => by
    cases h
    exact ⟨fun i _ => by simp [trace], by simp, rfl⟩
  | k + 1, o, h => by
    unfold greedy at h
    cases e : greedy n T k with
    | none => rw [e] at h; cases h
    | some o' =>
      rw [e] at h
      obtain ⟨h1, h2, h3⟩ := greedy_ok e
      rcases nexts_one h1 h2 with z | ⟨p, hp, hl, z⟩
      · simp only [z] at h; cases h
      · simp only [z] at h
        cases h
        refine ⟨(begun_go h1 hp hl).1, fun x hx => ?_, by simp [h3]⟩
        rcases List.mem_append.mp hx with hx | hx
        · exact h2 x hx
        · rw [List.mem_singleton.mp hx]; exact hp
/-! ### the law's search -/
def ltrOf : Wd → Option Nat
  | .ltr c => some c
  | _ => none
def lettersOf (t : List Wd) : List Nat := t.filterMap ltrOf
def cnt (o : Out) (p : Nat) : Nat := (o.filter fun x => x.2 == p).length
theorem ltr_side (i p : Nat) : ltrOf (side i p) = none := by
  unfold side
  split <;> rfl
theorem letters_trace (i : Nat) : ∀ (o acc : Out) (t : List Wd), lettersOf t = (acc.filter fun x => x.2 == i).map (·.1) → lettersOf (o.foldl (stepT i) t) = ((acc ++ o).filter fun x => x.2 == i).map (·.1)
  | [], acc, t, h => by rw [List.append_nil]; exact h
  | x :: o, acc, t, h => by
    have : acc ++ x :: o = (acc ++ [x]) ++ o := by simp
    rw [this, List.foldl_cons]
    refine letters_trace i o (acc ++ [x]) (stepT i t x) ?_
    unfold stepT
    rw [List.filter_append, List.map_append, ← h]
    by_cases e : x.2 = i
    · rw [if_pos e]
      simp [lettersOf, ltrOf, e]
    · rw [if_neg e]
      split
      · simp [e]
      · simp [lettersOf, ltr_side, e]
theorem cnt_eq (o : Out) (i : Nat) : cnt o i = (lettersOf (trace o i)).length := by
  have := letters_trace i o [] [] rfl
  unfold trace cnt
  rw [this]
  simp
def ext1 (T : Nat → List Wd) (o : Out) (p : Nat) : List Out := (((lettersOf (T p)).drop (cnt o p)).take 1).map fun c => o ++ [(c, p)]
def ext (n : Nat) (T : Nat → List Wd) (o : Out) : List Out := (List.range n).flatMap (ext1 T o)
def begunB (n : Nat) (T : Nat → List Wd) (o : Out) : Bool := (List.range n).all fun i => decide (trace o i = (T i).take (trace o i).length)
theorem begunB_iff {n : Nat} {T : Nat → List Wd} {o : Out} : begunB n T o = true ↔ Begun n T o := by
  unfold begunB Begun
  rw [List.all_eq_true]
  exact ⟨fun h i hi => of_decide_eq_true (h i (List.mem_range.mpr hi)), fun h i hi => decide_eq_true (h i (List.mem_range.mp hi))⟩
theorem ext1_filter {n : Nat} {T : Nat → List Wd} {o : Out} (hb : Begun n T o) {p : Nat} (hp : p < n) : (ext1 T o p).filter (begunB n T) = if letAll n T o p = true then [o ++ [(ltrAt T o p, p)]] else [] := by
  have hA := hb.at hp
  have hsplit : (lettersOf (T p)).drop (cnt o p) = lettersOf ((T p).drop (trace o p).length) := by
    rw [cnt_eq, hb p hp]
    have : lettersOf (T p) = lettersOf ((T p).take (trace o p).length) ++ lettersOf ((T p).drop (trace o p).length) := by
      unfold lettersOf
      rw [← List.filterMap_append, List.take_append_drop]
    rw [this, List.length_take, Nat.min_eq_left hA.2]
    simp
  unfold ext1
  rw [hsplit]
  by_cases h : letAll n T o p = true
  · rw [if_pos h]
    have hl := let_ltr hp h
    have hm : (trace o p).length < (T p).length := (List.getElem?_eq_some_iff.mp hl).1
    rw [List.drop_eq_getElem_cons hm, (List.getElem?_eq_some_iff.mp hl).2]
    have : lettersOf (Wd.ltr (ltrAt T o p) :: List.drop ((trace o p).length + 1) (T p)) = ltrAt T o p :: lettersOf (List.drop ((trace o p).length + 1) (T p)) := rfl
    rw [this]
    simp only [List.take_succ_cons, List.take_zero, List.map_cons, List.map_nil]
    rw [List.filter_cons, if_pos (begunB_iff.mpr (begun_go hb hp h).1)]
    rfl
  · rw [if_neg h]
    rw [List.filter_eq_nil_iff]
    intro o' ho'
    obtain ⟨c, hc, rfl⟩ := List.mem_map.mp ho'
    intro hbeg
    have hB := begunB_iff.mp hbeg
    apply h
    rw [letAll_iff]
    intro i hi
    refine ((hb.at hi).back (c := c) ?_).1
    rw [hB i hi]
    exact List.take_prefix _ _
theorem ext_filter {n : Nat} {T : Nat → List Wd} {o : Out} (hb : Begun n T o) : (ext n T o).filter (begunB n T) = (nexts n T o).map fun p => o ++ [(ltrAt T o p, p)] := by
  unfold ext nexts
  have key : ∀ (l : List Nat), (∀ p ∈ l, p < n) → (l.flatMap (ext1 T o)).filter (begunB n T) = (l.filter (letAll n T o)).map fun p => o ++ [(ltrAt T o p, p)] := by
    intro l
    induction l with
    | nil => intro _; rfl
    | cons p r ih =>
      intro hl
      rw [List.flatMap_cons, List.filter_append, ih fun q hq => hl q (List.mem_cons_of_mem _ hq), ext1_filter hb (hl p List.mem_cons_self), List.filter_cons]
      split <;> rfl
  exact key _ fun p hp => List.mem_range.mp hp
def found (n : Nat) (T : Nat → List Wd) : Nat → List Out
  | 0 => [[]]
  | k + 1 => ((found n T k).flatMap (ext n T)).filter (begunB n T)
theorem found_eq (n : Nat) (T : Nat → List Wd) : ∀ k, found n T k = (greedy n T k).toList
  | 0 => rfl
  | k + 1 => by
    unfold found greedy
    rw [found_eq n T k]
    cases e : greedy n T k with
    | none => rfl
    | some o =>
      obtain ⟨h1, h2, _⟩ := greedy_ok e
      have : (Option.toList (some o)).flatMap (ext n T) = ext n T o := by simp [Option.toList]
      rw [this, ext_filter h1]
      rcases nexts_one h1 h2 with z | ⟨p, _, _, z⟩
      · simp only [z]; rfl
      · simp only [z]; rfl
/-- all is read -/
def fullB (n : Nat) (T : Nat → List Wd) (o : Out) : Bool := (List.range n).all fun i => decide ((T i)[(trace o i).length]? = none)
def total (n : Nat) (T : Nat → List Wd) : Nat := ((List.range n).map fun i => (lettersOf (T i)).length).sum
/-- what is due -/
def due (n : Nat) (T : Nat → List Wd) : Option Out := match greedy n T (total n T) with
  | none => none
  | some o => if fullB n T o = true then some o else none
theorem full_iff {n : Nat} {T : Nat → List Wd} {o : Out} (hb : Begun n T o) : fullB n T o = true ↔ ∀ i, i < n → trace o i = T i := by
  unfold fullB
  rw [List.all_eq_true]
  constructor
  · intro h i hi
    have h1 := of_decide_eq_true (h i (List.mem_range.mpr hi))
    rw [List.getElem?_eq_none_iff] at h1
    have := hb i hi
    rw [List.take_of_length_le h1] at this
    exact this
  · intro h i hi
    refine decide_eq_true ?_
    rw [h i (List.mem_range.mp hi), List.getElem?_eq_none_iff]
    exact Nat.le_refl _
end K14

/-! K14: the traces of an output lead to this output -/
namespace K14
theorem step_pre (i : Nat) (acc : List Wd) (x : Nat × Nat) : acc <+: stepT i acc x := by
  unfold stepT
  split
  · exact List.prefix_append _ _
  · split
    · exact List.prefix_refl _
    · exact List.prefix_append _ _
theorem fold_pre (i : Nat) : ∀ (l : Out) (acc : List Wd), acc <+: l.foldl (stepT i) acc
  | [], acc => List.prefix_refl _
  | x :: l, acc => List.IsPrefix.trans (step_pre i acc x) (fold_pre i l _)
theorem trace_pre (o : Out) (k i : Nat) : trace (o.take k) i <+: trace o i := by
  have h : trace o i = (o.drop k).foldl (stepT i) (trace (o.take k) i) := by
    unfold trace
    rw [← List.foldl_append, List.take_append_drop]
  rw [h]
  exact fold_pre i _ _
theorem pre_take {α : Type} {a b : List α} (h : a <+: b) : a = b.take a.length := by
  obtain ⟨s, rfl⟩ := h
  simp
theorem greedy_trace {n : Nat} {o : Out} {T : Nat → List Wd} (hT : ∀ i, i < n → T i = trace o i) (ho : ∀ x ∈ o, x.2 < n) : ∀ k, k ≤ o.length → greedy n T k = some (o.take k)
  | 0, _ => by simp [greedy]
  | k + 1, hk => by
    have ih := greedy_trace hT ho k (by omega)
    obtain ⟨x, hx⟩ : ∃ x, o[k]? = some x := ⟨o[k], List.getElem?_eq_getElem (by omega)⟩
    have ht : o.take (k + 1) = o.take k ++ [(x.1, x.2)] := by
      rw [List.take_add_one, hx]
      rfl
    have hxm : x ∈ o := List.mem_of_getElem? hx
    have hb : Begun n T (o.take k) := fun i hi => by rw [hT i hi]; exact pre_take (trace_pre o k i)
    have ho' : ∀ y ∈ o.take k, y.2 < n := fun y hy => ho y (List.mem_of_mem_take hy)
    have key : ∀ i, i < n → lets (T i) (trace (o.take k) i).length i x.2 = true ∧ (x.2 = i → (T i)[(trace (o.take k) i).length]? = some (.ltr x.1)) := by
      intro i hi
      refine (hb.at hi).back ?_
      rw [← ht, hT i hi]
      exact trace_pre o (k + 1) i
    have hl : letAll n T (o.take k) x.2 = true := letAll_iff.mpr fun i hi => (key i hi).1
    have hm : x.2 ∈ nexts n T (o.take k) := by
      unfold nexts
      exact List.mem_filter.mpr ⟨List.mem_range.mpr (ho x hxm), hl⟩
    unfold greedy
    rw [ih]
    rcases nexts_one hb ho' with z | ⟨p, hp, hlp, z⟩
    · rw [z] at hm
      cases hm
    · rw [z] at hm
      have e : x.2 = p := List.mem_singleton.mp hm
      simp only [z]
      have e2 := let_ltr hp hlp
      have e3 := (key p hp).2 e
      rw [e3] at e2
      have e4 : x.1 = ltrAt T (o.take k) p := by
        injection e2 with e2
        injection e2 with e2
      rw [ht, ← e4, ← e]
theorem sum_map_add {α : Type} (f g : α → Nat) : ∀ l : List α, (l.map fun i => f i + g i).sum = (l.map f).sum + (l.map g).sum
  | [] => rfl
  | a :: l => by
    simp only [List.map_cons, List.sum_cons]
    rw [sum_map_add f g l]
    omega
theorem sum_one (p : Nat) : ∀ n, ((List.range n).map fun i => if p = i then 1 else 0).sum = if p < n then 1 else 0
  | 0 => rfl
  | n + 1 => by
    rw [List.range_succ, List.map_append, List.sum_append, sum_one p n]
    simp only [List.map_cons, List.map_nil, List.sum_cons, List.sum_nil]
    by_cases h : p < n
    · rw [if_pos h, if_neg (by omega), if_pos (by omega)]
      rfl
    · rw [if_neg h]
      by_cases h2 : p = n
      · rw [if_pos h2, if_pos (by omega)]
        rfl
      · rw [if_neg h2, if_neg (by omega)]
        rfl
theorem sum_zero {α : Type} : ∀ l : List α, (l.map fun _ => 0).sum = 0
  | [] => rfl
  | _ :: l => by simp [sum_zero l]
theorem sum_cnt {n : Nat} : ∀ {o : Out}, (∀ x ∈ o, x.2 < n) → ((List.range n).map fun i => cnt o i).sum = o.length
  | [], _ => sum_zero _
  | x :: o, h => by
    have ih := sum_cnt fun y hy => h y (List.mem_cons_of_mem _ hy)
    have e : (fun i => cnt (x :: o) i) = fun i => (if x.2 = i then 1 else 0) + cnt o i := by
      funext i
      unfold cnt
      rw [List.filter_cons]
      by_cases z : x.2 = i
      · simp [z]; omega
      · simp [z]
    rw [e, sum_map_add, ih, sum_one, if_pos (h x List.mem_cons_self), List.length_cons]
    omega
theorem due_trace {n : Nat} {o : Out} {T : Nat → List Wd} (hT : ∀ i, i < n → T i = trace o i) (ho : ∀ x ∈ o, x.2 < n) : due n T = some o := by
  have ht : total n T = o.length := by
    unfold total
    have e : (List.range n).map (fun i => (lettersOf (T i)).length) = (List.range n).map fun i => cnt o i :=
      List.map_congr_left fun i hi => by rw [hT i (List.mem_range.mp hi)]; exact (cnt_eq o i).symm
    rw [e, sum_cnt ho]
  unfold due
  rw [ht, greedy_trace hT ho _ (Nat.le_refl _), List.take_length]
  have hb : Begun n T o := fun i hi => by rw [hT i hi]; simp
  simp only
  rw [if_pos ((full_iff hb).mpr fun i hi => (hT i hi).symm)]
/-- what the law's search finds at last -/
def sameB (n : Nat) (T : Nat → List Wd) (o : Out) : Bool := (List.range n).all fun i => decide (trace o i = T i)
theorem due_found (n : Nat) (T : Nat → List Wd) : ((found n T (total n T)).filter (sameB n T)) = (due n T).toList := by
  rw [found_eq]
  unfold due
  cases e : greedy n T (total n T) with
  | none => rfl
  | some o =>
    obtain ⟨h1, _, _⟩ := greedy_ok e
    have hf : sameB n T o = fullB n T o := by
      rw [Bool.eq_iff_iff, full_iff h1]
      unfold sameB
      rw [List.all_eq_true]
      exact ⟨fun h i hi => of_decide_eq_true (h i (List.mem_range.mpr hi)), fun h i hi => decide_eq_true (h i (List.mem_range.mp hi))⟩
    simp only [Option.toList, List.filter_cons, hf]
    split <;> rfl
theorem greedy_len {n : Nat} {T : Nat → List Wd} {k : Nat} {o : Out} (h : greedy n T k = some o) : o.length = k := (greedy_ok h).2.2
/-- one more step -/
theorem greedy_none {n : Nat} {T : Nat → List Wd} {k : Nat} (h : greedy n T k = none) : ∀ j, greedy n T (k + j) = none
  | 0 => h
  | j + 1 => by
    show greedy n T ((k + j) + 1) = none
    unfold greedy
    rw [greedy_none h j]
theorem due_none {n : Nat} {T : Nat → List Wd} {k : Nat} (h : greedy n T k = none) (hk : k ≤ total n T) : due n T = none := by
  unfold due
  obtain ⟨j, hj⟩ := Nat.le.dest hk
  rw [← hj, greedy_none h j]
end K14

namespace K14
open PySem PySem.Spec PyProof.Rows L2 FG
def topS (i : Nat) : Stmt := PySem.Challenge.pw_fewgoings_k14_outputs_of_other_traces.main.body.getD i (.Pass ⟨0, 0, 0, 0⟩)
abbrev s_is_letter : Stmt := topS 2
abbrev N_is_letter : List Str := ["value"]
abbrev P_is_letter : List Str := ["value"]
theorem sc_is_letter : FnScope N_is_letter P_is_letter (defScope s_is_letter) := ⟨rfl, rfl, rfl, by decide +kernel, rfl, by decide +kernel, by decide +kernel⟩
abbrev s_side_of : Stmt := topS 7
abbrev N_side_of : List Str := ["position", "place"]
abbrev P_side_of : List Str := ["position", "place"]
theorem sc_side_of : FnScope N_side_of P_side_of (defScope s_side_of) := ⟨rfl, rfl, rfl, by decide +kernel, rfl, by decide +kernel, by decide +kernel⟩
abbrev s_is_trace : Stmt := topS 8
abbrev N_is_trace : List Str := ["value", "one"]
abbrev P_is_trace : List Str := ["value"]
theorem sc_is_trace : FnScope N_is_trace P_is_trace (defScope s_is_trace) := ⟨rfl, rfl, rfl, by decide +kernel, rfl, by decide +kernel, by decide +kernel⟩
abbrev s_are_traces : Stmt := topS 9
abbrev N_are_traces : List Str := ["value", "one"]
abbrev P_are_traces : List Str := ["value"]
theorem sc_are_traces : FnScope N_are_traces P_are_traces (defScope s_are_traces) := ⟨rfl, rfl, rfl, by decide +kernel, rfl, by decide +kernel, by decide +kernel⟩
abbrev s_Follower_init : Stmt := inClass (topS 10) 0
abbrev N_Follower_init : List Str := ["self", "position", "trace"]
abbrev P_Follower_init : List Str := ["self", "position", "trace"]
theorem sc_Follower_init : FnScope N_Follower_init P_Follower_init (defScope s_Follower_init) := ⟨rfl, rfl, rfl, by decide +kernel, rfl, by decide +kernel, by decide +kernel⟩
abbrev s_Follower_next_word : Stmt := inClass (topS 10) 1
abbrev N_Follower_next_word : List Str := ["self"]
abbrev P_Follower_next_word : List Str := ["self"]
theorem sc_Follower_next_word : FnScope N_Follower_next_word P_Follower_next_word (defScope s_Follower_next_word) := ⟨rfl, rfl, rfl, by decide +kernel, rfl, by decide +kernel, by decide +kernel⟩
abbrev s_Follower_is_within : Stmt := inClass (topS 10) 2
abbrev N_Follower_is_within : List Str := ["self", "side"]
abbrev P_Follower_is_within : List Str := ["self", "side"]
theorem sc_Follower_is_within : FnScope N_Follower_is_within P_Follower_is_within (defScope s_Follower_is_within) := ⟨rfl, rfl, rfl, by decide +kernel, rfl, by decide +kernel, by decide +kernel⟩
abbrev s_Follower_lets : Stmt := inClass (topS 10) 3
abbrev N_Follower_lets : List Str := ["self", "place", "side"]
abbrev P_Follower_lets : List Str := ["self", "place"]
theorem sc_Follower_lets : FnScope N_Follower_lets P_Follower_lets (defScope s_Follower_lets) := ⟨rfl, rfl, rfl, by decide +kernel, rfl, by decide +kernel, by decide +kernel⟩
abbrev s_Follower_go_on : Stmt := inClass (topS 10) 4
abbrev N_Follower_go_on : List Str := ["self", "place"]
abbrev P_Follower_go_on : List Str := ["self", "place"]
theorem sc_Follower_go_on : FnScope N_Follower_go_on P_Follower_go_on (defScope s_Follower_go_on) := ⟨rfl, rfl, rfl, by decide +kernel, rfl, by decide +kernel, by decide +kernel⟩
abbrev s_output_of : Stmt := topS 11
abbrev N_output_of : List Str := ["traces", "followers", "output", "many", "some", "follower", "position", "trace", "one", "word", "other"]
abbrev P_output_of : List Str := ["traces"]
theorem sc_output_of : FnScope N_output_of P_output_of (defScope s_output_of) := ⟨rfl, rfl, rfl, by decide +kernel, rfl, by decide +kernel, by decide +kernel⟩
abbrev s__law_pot_of : Stmt := topS 13
abbrev N__law_pot_of : List Str := ["_law_script", "_law_k", "_law_cell", "_law_own"]
abbrev P__law_pot_of : List Str := ["_law_script", "_law_k"]
theorem sc__law_pot_of : FnScope N__law_pot_of P__law_pot_of (defScope s__law_pot_of) := ⟨rfl, rfl, rfl, by decide +kernel, rfl, by decide +kernel, by decide +kernel⟩
abbrev s__law_take : Stmt := topS 14
abbrev N__law_take : List Str := ["_law_pot", "_law_upto", "_law_prime", "_law_mixed", "_law_digit"]
abbrev P__law_take : List Str := ["_law_pot", "_law_upto"]
theorem sc__law_take : FnScope N__law_take P__law_take (defScope s__law_take) := ⟨rfl, rfl, rfl, by decide +kernel, rfl, by decide +kernel, by decide +kernel⟩
abbrev s__law_of : Stmt := topS 15
abbrev N__law_of : List Str := ["_law_pot", "_law_some"]
abbrev P__law_of : List Str := ["_law_pot", "_law_some"]
theorem sc__law_of : FnScope N__law_of P__law_of (defScope s__law_of) := ⟨rfl, rfl, rfl, by decide +kernel, rfl, by decide +kernel, by decide +kernel⟩
abbrev s__law_trace : Stmt := topS 16
abbrev N__law_trace : List Str := ["_law_output", "_law_at", "_law_found", "_law_letter", "_law_place", "_law_word"]
abbrev P__law_trace : List Str := ["_law_output", "_law_at"]
theorem sc__law_trace : FnScope N__law_trace P__law_trace (defScope s__law_trace) := ⟨rfl, rfl, rfl, by decide +kernel, rfl, by decide +kernel, by decide +kernel⟩
abbrev s__law_traces : Stmt := topS 17
abbrev N__law_traces : List Str := ["_law_output", "_law_many", "_law_at"]
abbrev P__law_traces : List Str := ["_law_output", "_law_many"]
theorem sc__law_traces : FnScope N__law_traces P__law_traces (defScope s__law_traces) := ⟨rfl, rfl, rfl, by decide +kernel, rfl, by decide +kernel, by decide +kernel⟩
abbrev s__law_drawn_output : Stmt := topS 18
abbrev N__law_drawn_output : List Str := ["_law_pot", "_law_many", "_law_found", "_law_turn"]
abbrev P__law_drawn_output : List Str := ["_law_pot", "_law_many"]
theorem sc__law_drawn_output : FnScope N__law_drawn_output P__law_drawn_output (defScope s__law_drawn_output) := ⟨rfl, rfl, rfl, by decide +kernel, rfl, by decide +kernel, by decide +kernel⟩
abbrev s__law_is_form : Stmt := topS 19
abbrev N__law_is_form : List Str := ["_law_value", "_law_trace_here", "_law_word"]
abbrev P__law_is_form : List Str := ["_law_value"]
theorem sc__law_is_form : FnScope N__law_is_form P__law_is_form (defScope s__law_is_form) := ⟨rfl, rfl, rfl, by decide +kernel, rfl, by decide +kernel, by decide +kernel⟩
abbrev s__law_is_begun : Stmt := topS 20
abbrev N__law_is_begun : List Str := ["_law_output", "_law_value", "_law_mine", "_law_trace_here", "_law_whole"]
abbrev P__law_is_begun : List Str := ["_law_output", "_law_value"]
theorem sc__law_is_begun : FnScope N__law_is_begun P__law_is_begun (defScope s__law_is_begun) := ⟨rfl, rfl, rfl, by decide +kernel, rfl, by decide +kernel, by decide +kernel⟩
abbrev s__law_due : Stmt := topS 21
abbrev N__law_due : List Str := ["_law_value", "_law_letters", "_law_found", "_law_turn", "_law_longer", "_law_output", "_law_at", "_law_some", "_law_many", "_law_trace_here", "_law_word", "_law_letter", "_law_place"]
abbrev P__law_due : List Str := ["_law_value"]
theorem sc__law_due : FnScope N__law_due P__law_due (defScope s__law_due) := ⟨rfl, rfl, rfl, by decide +kernel, rfl, by decide +kernel, by decide +kernel⟩
abbrev s__law_bent_trace : Stmt := topS 22
abbrev N__law_bent_trace : List Str := ["_law_pot", "_law_trace_here", "_law_at", "_law_way", "_law_some", "_law_word"]
abbrev P__law_bent_trace : List Str := ["_law_pot", "_law_trace_here"]
theorem sc__law_bent_trace : FnScope N__law_bent_trace P__law_bent_trace (defScope s__law_bent_trace) := ⟨rfl, rfl, rfl, by decide +kernel, rfl, by decide +kernel, by decide +kernel⟩
abbrev s__law_bent : Stmt := topS 23
abbrev N__law_bent : List Str := ["_law_pot", "_law_value", "_law_at", "_law_way"]
abbrev P__law_bent : List Str := ["_law_pot", "_law_value"]
theorem sc__law_bent : FnScope N__law_bent P__law_bent (defScope s__law_bent) := ⟨rfl, rfl, rfl, by decide +kernel, rfl, by decide +kernel, by decide +kernel⟩
abbrev s__law_is_told : Stmt := topS 24
abbrev N__law_is_told : List Str := ["_law_value", "_law_kept", "_law_due_here"]
abbrev P__law_is_told : List Str := ["_law_value"]
theorem sc__law_is_told : FnScope N__law_is_told P__law_is_told (defScope s__law_is_told) := ⟨rfl, rfl, rfl, by decide +kernel, rfl, by decide +kernel, by decide +kernel⟩
abbrev s__law_right : Stmt := topS 25
abbrev N__law_right : List Str := ["_law_pot", "_law_many", "_law_output", "_law_some", "_law_odd", "_law_turn", "_law_value", "_law_more"]
abbrev P__law_right : List Str := ["_law_pot"]
theorem sc__law_right : FnScope N__law_right P__law_right (defScope s__law_right) := ⟨rfl, rfl, rfl, by decide +kernel, rfl, by decide +kernel, by decide +kernel⟩
abbrev s_law : Stmt := topS 26
abbrev N_law : List Str := ["_law_script", "_law_k", "_law_pot", "_law_turn"]
abbrev P_law : List Str := ["_law_script"]
theorem sc_law : FnScope N_law P_law (defScope s_law) := ⟨rfl, rfl, rfl, by decide +kernel, rfl, by decide +kernel, by decide +kernel⟩
structure Ad where
  f_is_letter : Addr
  d_is_letter : FuncData
  f_side_of : Addr
  d_side_of : FuncData
  f_is_trace : Addr
  d_is_trace : FuncData
  f_are_traces : Addr
  d_are_traces : FuncData
  f_Follower_init : Addr
  d_Follower_init : FuncData
  f_Follower_next_word : Addr
  d_Follower_next_word : FuncData
  f_Follower_is_within : Addr
  d_Follower_is_within : FuncData
  f_Follower_lets : Addr
  d_Follower_lets : FuncData
  f_Follower_go_on : Addr
  d_Follower_go_on : FuncData
  f_output_of : Addr
  d_output_of : FuncData
  f__law_pot_of : Addr
  d__law_pot_of : FuncData
  f__law_take : Addr
  d__law_take : FuncData
  f__law_of : Addr
  d__law_of : FuncData
  f__law_trace : Addr
  d__law_trace : FuncData
  f__law_traces : Addr
  d__law_traces : FuncData
  f__law_drawn_output : Addr
  d__law_drawn_output : FuncData
  f__law_is_form : Addr
  d__law_is_form : FuncData
  f__law_is_begun : Addr
  d__law_is_begun : FuncData
  f__law_due : Addr
  d__law_due : FuncData
  f__law_bent_trace : Addr
  d__law_bent_trace : FuncData
  f__law_bent : Addr
  d__law_bent : FuncData
  f__law_is_told : Addr
  d__law_is_told : FuncData
  f__law_right : Addr
  d__law_right : FuncData
  f_law : Addr
  d_law : FuncData
  c_Follower : Addr
structure Txt (K : PySem.W.Frag) (mg : Str → Option Value) (D : Ad) : Prop where
  f_is_letter : Fun K "is_letter" "is_letter" s_is_letter D.f_is_letter D.d_is_letter
  b_is_letter : Binds K D.d_is_letter P_is_letter []
  g_is_letter : mg "is_letter" = some (.ref D.f_is_letter)
  f_side_of : Fun K "side_of" "side_of" s_side_of D.f_side_of D.d_side_of
  b_side_of : Binds K D.d_side_of P_side_of []
  g_side_of : mg "side_of" = some (.ref D.f_side_of)
  f_is_trace : Fun K "is_trace" "is_trace" s_is_trace D.f_is_trace D.d_is_trace
  b_is_trace : Binds K D.d_is_trace P_is_trace []
  g_is_trace : mg "is_trace" = some (.ref D.f_is_trace)
  f_are_traces : Fun K "are_traces" "are_traces" s_are_traces D.f_are_traces D.d_are_traces
  b_are_traces : Binds K D.d_are_traces P_are_traces []
  g_are_traces : mg "are_traces" = some (.ref D.f_are_traces)
  f_Follower_init : Fun K "__init__" "Follower.__init__" s_Follower_init D.f_Follower_init D.d_Follower_init
  b_Follower_init : Binds K D.d_Follower_init P_Follower_init []
  mk_Follower : Mk K D.c_Follower D.f_Follower_init
  f_Follower_next_word : Fun K "next_word" "Follower.next_word" s_Follower_next_word D.f_Follower_next_word D.d_Follower_next_word
  b_Follower_next_word : Binds K D.d_Follower_next_word P_Follower_next_word []
  m_Follower_next_word : Meth K D.c_Follower "next_word" D.f_Follower_next_word
  f_Follower_is_within : Fun K "is_within" "Follower.is_within" s_Follower_is_within D.f_Follower_is_within D.d_Follower_is_within
  b_Follower_is_within : Binds K D.d_Follower_is_within P_Follower_is_within []
  m_Follower_is_within : Meth K D.c_Follower "is_within" D.f_Follower_is_within
  f_Follower_lets : Fun K "lets" "Follower.lets" s_Follower_lets D.f_Follower_lets D.d_Follower_lets
  b_Follower_lets : Binds K D.d_Follower_lets P_Follower_lets []
  m_Follower_lets : Meth K D.c_Follower "lets" D.f_Follower_lets
  f_Follower_go_on : Fun K "go_on" "Follower.go_on" s_Follower_go_on D.f_Follower_go_on D.d_Follower_go_on
  b_Follower_go_on : Binds K D.d_Follower_go_on P_Follower_go_on []
  m_Follower_go_on : Meth K D.c_Follower "go_on" D.f_Follower_go_on
  f_output_of : Fun K "output_of" "output_of" s_output_of D.f_output_of D.d_output_of
  b_output_of : Binds K D.d_output_of P_output_of []
  g_output_of : mg "output_of" = some (.ref D.f_output_of)
  f__law_pot_of : Fun K "_law_pot_of" "_law_pot_of" s__law_pot_of D.f__law_pot_of D.d__law_pot_of
  b__law_pot_of : Binds K D.d__law_pot_of P__law_pot_of []
  g__law_pot_of : mg "_law_pot_of" = some (.ref D.f__law_pot_of)
  f__law_take : Fun K "_law_take" "_law_take" s__law_take D.f__law_take D.d__law_take
  b__law_take : Binds K D.d__law_take P__law_take []
  g__law_take : mg "_law_take" = some (.ref D.f__law_take)
  f__law_of : Fun K "_law_of" "_law_of" s__law_of D.f__law_of D.d__law_of
  b__law_of : Binds K D.d__law_of P__law_of []
  g__law_of : mg "_law_of" = some (.ref D.f__law_of)
  f__law_trace : Fun K "_law_trace" "_law_trace" s__law_trace D.f__law_trace D.d__law_trace
  b__law_trace : Binds K D.d__law_trace P__law_trace []
  g__law_trace : mg "_law_trace" = some (.ref D.f__law_trace)
  f__law_traces : Fun K "_law_traces" "_law_traces" s__law_traces D.f__law_traces D.d__law_traces
  b__law_traces : Binds K D.d__law_traces P__law_traces []
  g__law_traces : mg "_law_traces" = some (.ref D.f__law_traces)
  f__law_drawn_output : Fun K "_law_drawn_output" "_law_drawn_output" s__law_drawn_output D.f__law_drawn_output D.d__law_drawn_output
  b__law_drawn_output : Binds K D.d__law_drawn_output P__law_drawn_output []
  g__law_drawn_output : mg "_law_drawn_output" = some (.ref D.f__law_drawn_output)
  f__law_is_form : Fun K "_law_is_form" "_law_is_form" s__law_is_form D.f__law_is_form D.d__law_is_form
  b__law_is_form : Binds K D.d__law_is_form P__law_is_form []
  g__law_is_form : mg "_law_is_form" = some (.ref D.f__law_is_form)
  f__law_is_begun : Fun K "_law_is_begun" "_law_is_begun" s__law_is_begun D.f__law_is_begun D.d__law_is_begun
  b__law_is_begun : Binds K D.d__law_is_begun P__law_is_begun []
  g__law_is_begun : mg "_law_is_begun" = some (.ref D.f__law_is_begun)
  f__law_due : Fun K "_law_due" "_law_due" s__law_due D.f__law_due D.d__law_due
  b__law_due : Binds K D.d__law_due P__law_due []
  g__law_due : mg "_law_due" = some (.ref D.f__law_due)
  f__law_bent_trace : Fun K "_law_bent_trace" "_law_bent_trace" s__law_bent_trace D.f__law_bent_trace D.d__law_bent_trace
  b__law_bent_trace : Binds K D.d__law_bent_trace P__law_bent_trace []
  g__law_bent_trace : mg "_law_bent_trace" = some (.ref D.f__law_bent_trace)
  f__law_bent : Fun K "_law_bent" "_law_bent" s__law_bent D.f__law_bent D.d__law_bent
  b__law_bent : Binds K D.d__law_bent P__law_bent []
  g__law_bent : mg "_law_bent" = some (.ref D.f__law_bent)
  f__law_is_told : Fun K "_law_is_told" "_law_is_told" s__law_is_told D.f__law_is_told D.d__law_is_told
  b__law_is_told : Binds K D.d__law_is_told P__law_is_told []
  g__law_is_told : mg "_law_is_told" = some (.ref D.f__law_is_told)
  f__law_right : Fun K "_law_right" "_law_right" s__law_right D.f__law_right D.d__law_right
  b__law_right : Binds K D.d__law_right P__law_right []
  g__law_right : mg "_law_right" = some (.ref D.f__law_right)
  f_law : Fun K "law" "law" s_law D.f_law D.d_law
  b_law : Binds K D.d_law P_law []
  g_law : mg "law" = some (.ref D.f_law)
  cl_Follower : Cls K D.c_Follower
  n_Follower_own_position : NoAttr K D.c_Follower "own_position"
  n_Follower_own_trace : NoAttr K D.c_Follower "own_trace"
  n_Follower_many_read : NoAttr K D.c_Follower "many_read"
  k_output_of : KBinds K D.d_output_of P_output_of ["traces"] (fun us ws => us ++ ws) (fun us ws => us ++ ws)
  g_Follower : mg "Follower" = some (.ref D.c_Follower)
  z_abs : mg "abs" = none
  z_all : mg "all" = none
  z_enumerate : mg "enumerate" = none
  z_int : mg "int" = none
  z_isinstance : mg "isinstance" = none
  z_len : mg "len" = none
  z_list : mg "list" = none
  z_max : mg "max" = none
  z_min : mg "min" = none
  z_range : mg "range" = none
  z_repr : mg "repr" = none
  z_str : mg "str" = none
  z_sum : mg "sum" = none
  z_tuple : mg "tuple" = none
  z_zip : mg "zip" = none
  c_ABOVE : ∃ t, mg "ABOVE" = some (.str "above" t)
  c_BELOW : ∃ t, mg "BELOW" = some (.str "below" t)
  c_FEWEST : ∃ t, mg "FEWEST" = some (.int 2 t)
  c_LETTERS : ∃ t, mg "LETTERS" = some (.str "abcdefghijklmnopqrstuvwxyz" t)
local macro_rules | `(tactic| walk_at "sq") => `(tactic| first
  | assumption
  | exact SqL.of (by assumption)
  | exact SqT.of (by assumption)
  | exact SqLm.l (by assumption)
  | exact SqTm.t (by assumption))
local macro_rules | `(tactic| walk_at "cond") => `(tactic| first
  | assumption
  | (show (0 : Int) < _; omega)
  | (show (0 : Int) < _ ∧ _ < 1073741824; omega))
local macro_rules | `(tactic| walk_at "st") => `(tactic| first
  | with_reducible refine b_seq ?_
  | with_reducible refine b_asg ?_
  | with_reducible refine b_op ?_
  | ((with_reducible refine' b_var ?hv ?_); (case hv => exact rfl))
  | with_reducible refine b_c ?_
  | with_reducible refine b_name ?_
  | with_reducible refine b_I0 ?_
  | with_reducible refine b_cons ?_
  | with_reducible refine b_nil ?_
  | with_reducible refine b_cb ?_
  | with_reducible refine b_call ?_
  | with_reducible refine b_ret ?_
  | with_reducible refine b_ifS ?_
  | with_reducible refine b_test ?_
  | with_reducible refine b_tb ?_
  | with_reducible refine b_bl ?_
  | with_reducible refine b_blP ?_
  | with_reducible refine b_next ?_
  | with_reducible refine b_drop ?_
  | with_reducible refine b_sub ?_
  | with_reducible refine b_chain ?_
  | with_reducible refine b_and ?_
  | with_reducible refine b_or ?_
  | with_reducible refine b_not ?_
  | with_reducible refine b_andV ?_
  | with_reducible refine b_orV ?_
  | with_reducible refine b_notV ?_
  | with_reducible refine b_if ?_
  | with_reducible refine b_par ?_
  | with_reducible refine b_parE ?_
  | ((with_reducible refine' b_aug ?hv ?_); (case hv => exact rfl))
  | with_reducible refine b_ip ?_
  | with_reducible refine b_retN ?_
  | with_reducible refine b_tup ?_
  | with_reducible refine b_lst ?_
  | with_reducible refine b_sl ?_
  | with_reducible refine b_part ?_
  | with_reducible refine b_partP ?_
  | with_reducible refine b_nopart ?_
  | with_reducible refine b_bm ?_
  | with_reducible refine b_m1 ?_
  | with_reducible refine b_yes ?_
  | with_reducible refine b_un ?_
  | with_reducible refine b_neg ?_
  | with_reducible refine b_isN ?_
  | with_reducible refine b_notN ?_
  | with_reducible refine b_inS ?_
  | with_reducible refine b_int ?_
  | with_reducible refine b_intB ?_
  | with_reducible refine b_abs ?_
  | with_reducible refine b_max ?_
  | with_reducible refine b_min ?_
  | ((with_reducible refine b_eq ?hv ?_); (case hv => exact rfl))
  | ((with_reducible refine b_ne ?hv ?_); (case hv => exact rfl))
  | ((with_reducible refine' b_lenL ?hv ?_); (case hv => walk_at "sq"))
  | ((with_reducible refine' b_lenT ?hv ?_); (case hv => walk_at "sq"))
  | ((with_reducible refine' b_ixL ?hv ?hw ?_); (case hv => walk_at "sq"); (case hw => exact rfl))
  | ((with_reducible refine' b_ixT ?hv ?hw ?_); (case hv => walk_at "sq"); (case hw => exact rfl))
  | ((with_reducible refine b_I ?hv ?_); (case hv => walk_at "cond"))
  | with_reducible refine b_lcS ?_
  | with_reducible refine b_lcR ?_
  | with_reducible refine b_lcT ?_
  | with_reducible refine b_lcL ?_
  | with_reducible refine b_forT ?_
  | with_reducible refine b_forL ?_
  | with_reducible refine b_forR ?_
  | with_reducible refine b_turn ?_
  | ((with_reducible refine And.intro (a := wipe _ _ = wipe _ _) ?hv ?_); (case hv => exact rfl))
  | ((with_reducible refine And.intro (a := tyV _ "list" _ _) ?hv ?_); (case hv => exact ty_list (by assumption)))
  | with_reducible refine And.intro (a := ∃ a, V.str _ = V.str a) ⟨_, rfl⟩ ?_
  | (with_reducible refine iteT ?_)
  | (with_reducible refine iteNF ?_)
  | (with_reducible refine iteNT ?_)
  | (with_reducible refine iteVT ?_)
  | (with_reducible refine iteNVT ?_)
  | ((with_reducible refine iteVF ?hv ?_); (case hv => exact rfl))
  | ((with_reducible refine iteNVF ?hv ?_); (case hv => exact rfl))
  | with_reducible refine b_callS ?_
  | with_reducible refine b_xq ?_
  | with_reducible refine b_fld ?_
  | with_reducible refine b_sfld ?_
  | with_reducible refine b_meth ?_
  | with_reducible refine b_make ?_
  | with_reducible refine b_callK ?_
  | with_reducible refine b_sfa ?_
  | with_reducible refine b_lcEnT ?_
  | with_reducible refine b_lcEnL ?_
  | with_reducible refine b_forEnT ?_
  | with_reducible refine b_forEnL ?_
  | with_reducible refine b_lcZ ?_
  | with_reducible refine e_revT ?_
  | ((with_reducible refine' e_fld ?hv ?hc ?hn ?hl ?_); (case hv => assumption); (case hc => assumption); (case hn => assumption); (case hl => exact rfl))
  | ((with_reducible refine' e_meth ?hv ?hl ?_); (case hv => assumption); (case hl => exact rfl))
  | (with_reducible refine iteF ?_))

section
variable {P : Program} {w : World} {K : PySem.W.Frag} {mg : Str → Option Value} {base : Heap} {D : Ad}
theorem ok__law_take (T : Txt K mg D) {k : Nat} : FnOk P w K mg base CX0 (k + 1) D.f__law_take D.d__law_take P__law_take spTake := by
  refine T.f__law_take.ok sc__law_take (fun vs H Q E h => ?_) (fun cdv A outer s H vs Q E hr h => ?_)
  · obtain ⟨p, u, n, rfl, _⟩ := h
    rfl
  · obtain ⟨p, u, n, rfl, hp, hn, hu0, hu1, q⟩ := h
    obtain ⟨a, b, c, hp, ha0, ha1, hb0, hb1, hc0, hc1⟩ := hp
    refine ⟨_, (pss_cons (ps_if (pt_cmpR op_gt (pe_ix (ixK (K := K) (r := rIxL) (by rfl) ix_list) (pv 0) pe_int (fun _ _ => rfl)) pe_int (nomark _)) (pss_cons (ps_set (i := 4) sc__law_take.nd rfl (by first | exact .inl rfl | exact .inr rfl) (pe_op op_mod (pe_callTy q_int (by rfl) T.z_int (by decide +kernel) (pa_cons (pe_ix (ixK (K := K) (r := rIxL) (by rfl) ix_list) (pv 0) pe_int (fun _ _ => rfl)) pa_nil)) (pv 1)))
      (pss_cons (ps_asg (pe_op op_fdiv (pe_ix (ixK (K := K) (r := rIxL) (by rfl) ix_list) (pv 0) pe_int (fun _ _ => rfl)) (pv 1)) (pg_sub (pv 0) pe_int set_list))
      (pss_one (ps_ret (pv 4))))) pss_nil)
      (pss_cons (ps_asg (pe_op op_add (pe_ix (ixK (K := K) (r := rIxL) (by rfl) ix_list) (pv 0) pe_int (fun _ _ => rfl)) pe_int) (pg_sub (pv 0) pe_int set_list))
      (pss_cons (ps_set (i := 2) sc__law_take.nd rfl (by first | exact .inl rfl | exact .inr rfl) (pe_ix (ixK (K := K) (r := rIxL) (by rfl) ix_list) (pe_lst (pa_cons pe_int (pa_cons pe_int (pa_cons pe_int (pa_cons pe_int (pa_cons pe_int pa_nil)))))) (pe_op op_mod (pe_callTy q_int (by rfl) T.z_int (by decide +kernel) (pa_cons (pe_ix (ixK (K := K) (r := rIxL) (by rfl) ix_list) (pv 0) pe_int (fun _ _ => rfl)) pa_nil)) pe_int) (fun _ _ => rfl)))
      (pss_cons (ps_set (i := 3) sc__law_take.nd rfl (by first | exact .inl rfl | exact .inr rfl) (pe_op op_mod (pe_callTy q_int (by rfl) T.z_int (by decide +kernel) (pa_cons (pe_op op_powW (pe_op op_add (pe_op op_add (pe_ix (ixK (K := K) (r := rIxL) (by rfl) ix_list) (pv 0) pe_int (fun _ _ => rfl)) (pe_op op_mulW (pe_op op_mulW pe_int (pe_ix (ixK (K := K) (r := rIxL) (by rfl) ix_list) (pv 0) pe_int (fun _ _ => rfl))) (pe_ix (ixK (K := K) (r := rIxL) (by rfl) ix_list) (pv 0) pe_int (fun _ _ => rfl)))) pe_int) pe_int) pa_nil)) (pv 2)))
      (pss_one (ps_ret (pe_op op_mod (pe_callTy q_int (by rfl) T.z_int (by decide +kernel) (pa_cons (pe_op op_fdiv (pe_op op_mulW (pv 3) (pe_op op_add (pe_op op_mod (pe_callTy q_int (by rfl) T.z_int (by decide +kernel) (pa_cons (pv 3) pa_nil)) pe_int) (pe_op op_mulW pe_int (pe_ix (ixK (K := K) (r := rIxL) (by rfl) ix_list) (pv 0) pe_int (fun _ _ => rfl))))) pe_int) pa_nil)) (pv 1)))))))), ?_⟩
    repeat walk_at "st"
    refine ite2 (fun h => ?_) (fun h => ?_)
    · have h1 : 0 < a := of_decide_eq_true h
      repeat walk_at "st"
      refine e_setL hp rfl fun H1 h1 s1 => ?_
      repeat walk_at "st"
      refine q _ _ (Int.emod_nonneg _ (by omega)) (Int.emod_lt_of_pos _ hu0) ?_ s1
      refine ⟨a / u, b, c, h1, Int.ediv_nonneg ha0 (by omega), ?_, hb0, hb1, hc0, by omega⟩
      exact Int.lt_of_le_of_lt (Int.ediv_le_self _ ha0) ha1
    · repeat walk_at "st"
      refine e_setL hp rfl fun H1 h1 s1 => ?_
      repeat walk_at "st"
      refine e_lst fun l H2 nl hl s2 => ?_
      have h2 := s2 _ _ h1
      repeat walk_at "st"
      have hm0 : 0 ≤ (c + 1) % 5 := Int.emod_nonneg _ (by decide)
      have hm1 : (c + 1) % 5 < 5 := Int.emod_lt_of_pos _ (by decide)
      obtain ⟨v, hv, hmem⟩ := atI_mem (xs := [V.int 2147483647, .int 2147483629, .int 2147483587, .int 2147483579, .int 2147483563]) hm0 (by exact hm1)
      obtain ⟨pr, rfl, hpr0, hpr1⟩ : ∃ pr : Int, v = .int pr ∧ 0 < pr ∧ pr ≤ 2147483647 := by
        simp only [List.mem_cons, List.not_mem_nil, or_false] at hmem
        rcases hmem with rfl | rfl | rfl | rfl | rfl <;> exact ⟨_, rfl, by decide, by decide⟩
      refine b_ixL (SqL.of hl) hv ?_
      repeat walk_at "st"
      refine b_I (cmul (by omega) (by omega) (by omega) (by omega)) ?_
      repeat walk_at "st"
      refine b_I (cmul (by omega) (by omega) (by omega) (by omega)) ?_
      obtain ⟨m0, m1⟩ := mul_bd (i := 70001 * (c + 1)) (j := c + 1) (a := 70001 * 1000000001) (b := 1000000001) (by omega) (by omega) (by omega) (by omega)
      generalize 70001 * (c + 1) * (c + 1) = m at m0 m1 ⊢
      repeat walk_at "st"
      refine b_I (cpow 90 (by decide) (by omega) (by omega) (by decide)) ?_
      generalize (b + m + 53) ^ (Int.toNat 3) = z
      repeat walk_at "st"
      have z0 : 0 ≤ z % pr := Int.emod_nonneg _ (by omega)
      have z1 : z % pr < pr := Int.emod_lt_of_pos _ hpr0
      generalize z % pr = y at z0 z1 ⊢
      repeat walk_at "st"
      have y0 : 0 ≤ y % 10007 := Int.emod_nonneg _ (by decide)
      have y1 : y % 10007 < 10007 := Int.emod_lt_of_pos _ (by decide)
      generalize y % 10007 = x at y0 y1 ⊢
      refine b_I (cmul (by omega) (by omega) (by omega) (by omega)) ?_
      repeat walk_at "st"
      refine b_I (cmul (by omega) (by omega) (by omega) (by omega)) ?_
      repeat walk_at "st"
      refine q _ _ (Int.emod_nonneg _ (by omega)) (Int.emod_lt_of_pos _ hu0) ?_ (s1.trans (SameM.of s2))
      exact ⟨a, b, c + 1, h2, ha0, ha1, hb0, hb1, by omega, by omega⟩
theorem ok__law_of (T : Txt K mg D) {k : Nat} : FnOk P w K mg base CX0 (k + 2) D.f__law_of D.d__law_of P__law_of (spOf K) := by
  have G__law_take : FnOk P w K mg base CX0 (k + 1) D.f__law_take D.d__law_take P__law_take spTake := ok__law_take T
  refine T.f__law_of.ok sc__law_of (fun vs H Q E h => ?_) (fun cdv A outer s H vs Q E hr h => ?_)
  · obtain ⟨p, n, _, _, ⟨a, xs, rfl, _⟩ | ⟨z, rfl, _⟩⟩ := h <;> rfl
  · obtain ⟨p, n, hp, hn, h⟩ := h
    rcases h with ⟨a, xs, rfl, hne, hS, hx0, hx1, q⟩ | ⟨z, rfl, hz0, hz1, q⟩
    · refine ⟨_, (pss_one (ps_ret (pe_ix (ixK (K := K) (r := rIx) (by rfl) ix_seq) (pv 1) (pe_call G__law_take hr (by rfl) T.g__law_take T.f__law_take.kp T.b__law_take .nil pass0 (pa_cons (pv 0) (pa_cons (pe_callB (callK (K := K) (r := qLen) (by rfl) q_len) (by rfl) T.z_len (by decide +kernel) (pa_cons (pv 1) pa_nil)) pa_nil))) (fun _ _ => rfl)))), ?_⟩
      repeat walk_at "st"
      have hlen : xs.length ≠ 0 := by simpa using hx0
      refine ⟨p, xs.length, n, rfl, hp, hn, by omega, by omega, fun d H1 d0 d1 hp1 s1 => ?_⟩
      obtain ⟨v, hv, hm⟩ := atI_mem d0 d1
      have hS1 : SqL K H1 a xs := (s1.l (SqLm.of (M := (· = p)) hne hS)).l
      exact b_ixSL hS1 hv (q v H1 hm hp1 s1)
    · refine ⟨_, (pss_one (ps_ret (pe_ix (ixK (K := K) (r := rIx) (by rfl) ix_seq) (pv 1) (pe_call G__law_take hr (by rfl) T.g__law_take T.f__law_take.kp T.b__law_take .nil pass0 (pa_cons (pv 0) (pa_cons (pe_callB (callK (K := K) (r := qLen) (by rfl) q_len) (by rfl) T.z_len (by decide +kernel) (pa_cons (pv 1) pa_nil)) pa_nil))) (fun _ _ => rfl)))), ?_⟩
      repeat walk_at "st"
      refine b_lenS (Nat.le_trans (Nat.le_of_lt hz1) (by decide)) ?_
      repeat walk_at "st"
      refine ⟨p, z.length, n, rfl, hp, hn, by omega, by omega, fun d H1 d0 d1 hp1 s1 => ?_⟩
      obtain ⟨c, hv, hm⟩ := atI_mem (xs := z.cps.toList) d0 (by simpa [Str.length] using d1)
      exact b_ixSS (Nat.le_trans (Nat.le_of_lt hz1) (by decide)) hv (q c H1 hm hp1 s1)
theorem ok__law_pot_of (T : Txt K mg D) {k : Nat} : FnOk P w K mg base CX0 (k + 1) D.f__law_pot_of D.d__law_pot_of P__law_pot_of (spPotOf K) := by
  refine T.f__law_pot_of.ok sc__law_pot_of (fun vs H Q E h => ?_) (fun cdv A outer s H vs Q E hr h => ?_)
  · obtain ⟨a, ns, j, rfl, _⟩ := h
    rfl
  · obtain ⟨a, ns, j, rfl, hS, hn, hj, q⟩ := h
    refine ⟨_, (pss_cons (ps_set (i := 2) sc__law_pot_of.nd rfl (by first | exact .inl rfl | exact .inr rfl) (pe_ifExp (pt_cmpR op_lt (pv 1) (pe_callB (callK (K := K) (r := qLen) (by rfl) q_len) (by rfl) T.z_len (by decide +kernel) (pa_cons (pv 0) pa_nil)) (nomark _)) (pe_ix (ixK (K := K) (r := rIxL) (by rfl) ix_list) (pv 0) (pv 1) (fun _ _ => rfl)) (pe_op op_add (pe_op op_mulW pe_int (pv 1)) pe_int)))
      (pss_cons (ps_set (i := 3) sc__law_pot_of.nd rfl (by first | exact .inl rfl | exact .inr rfl) (pe_op op_mulW (pe_op op_mod (pe_callTy q_int (by rfl) T.z_int (by decide +kernel) (pa_cons (pe_callB q_abs (by rfl) T.z_abs (by decide +kernel) (pa_cons (pv 2) pa_nil)) pa_nil)) (pe_op op_powW (pe_op op_powW pe_int pe_int) pe_int)) (pe_callTy q_int (by rfl) T.z_int (by decide +kernel) (pa_cons (pe_cmpR op_ge (pe_callB q_abs (by rfl) T.z_abs (by decide +kernel) (pa_cons (pv 2) pa_nil)) (pe_op op_powW pe_int pe_int) (nomark _)) pa_nil))))
      (pss_one (ps_ret (pe_lst (pa_cons (pv 3) (pa_cons (pe_op op_mod (pe_callTy q_int (by rfl) T.z_int (by decide +kernel) (pa_cons (pe_op op_add (pe_op op_add (pe_op op_mulW (pe_op op_mod (pe_callTy q_int (by rfl) T.z_int (by decide +kernel) (pa_cons (pv 2) pa_nil)) pe_int) pe_int) (pe_op op_mulW (pe_op op_mulW pe_int (pv 1)) (pv 1))) pe_int) pa_nil)) pe_int) (pa_cons pe_int pa_nil)))))))), ?_⟩
    repeat walk_at "st"
    refine ite2 (fun h => ?_) (fun h => ?_)
    · have h1 := of_decide_eq_true h
      obtain ⟨v, hv, hm⟩ := atI_mem (xs := ns.map V.int) (i := (j : Int)) (by omega) (by exact_mod_cast h1)
      obtain ⟨cell, _, rfl⟩ := List.mem_map.mp hm
      repeat walk_at "st"
      refine b_ixL hS hv ?_
      walk_at "st"
      clear hv hm h h1
      repeat walk_at "st"
      refine b_I (cpow 4 (by decide) (by decide) (by decide) (by decide)) ?_
      repeat walk_at "st"
      refine b_I (cpow 200 (by decide) (by decide +kernel) (by decide +kernel) (by decide)) ?_
      refine b_I (show (0 : Int) < (10 ^ Int.toNat 60) ^ Int.toNat 5 by decide +kernel) ?_
      repeat walk_at "st"
      refine b_I (cpow 4 (by decide) (by decide) (by decide) (by decide)) ?_
      repeat walk_at "st"
      have a0 : 0 ≤ (if cell < 0 then -cell else cell) % (10 ^ Int.toNat 60) ^ Int.toNat 5 := Int.emod_nonneg _ (by decide +kernel)
      have a1 : (if cell < 0 then -cell else cell) % (10 ^ Int.toNat 60) ^ Int.toNat 5 < (10 ^ Int.toNat 60) ^ Int.toNat 5 := Int.emod_lt_of_pos _ (by decide +kernel)
      have a2 : ((10 : Int) ^ Int.toNat 60) ^ Int.toNat 5 < 2 ^ 1000 := by decide +kernel
      generalize (if cell < 0 then -cell else cell) % (10 ^ Int.toNat 60) ^ Int.toNat 5 = m at a0 a1 ⊢
      have a3 : m < 2 ^ 1000 := Int.lt_trans a1 a2
      have b0 : ∀ b : Bool, (0 : Int) ≤ (if b = true then 1 else 0) ∧ (if b = true then (1 : Int) else 0) ≤ 1 := fun b => by cases b <;> decide
      obtain ⟨b1, b2⟩ := b0 (decide ((10 : Int) ^ Int.toNat 18 ≤ if cell < 0 then -cell else cell))
      generalize (if decide ((10 : Int) ^ Int.toNat 18 ≤ if cell < 0 then -cell else cell) = true then (1 : Int) else 0) = b at b1 b2 ⊢
      refine b_I (cmul (by omega) (by omega) (by omega) (by omega)) ?_
      obtain ⟨c0, c1⟩ := mul_bd (a := 2 ^ 1000 - 1) (b := 1) a0 (by omega) b1 b2
      generalize m * b = mb at c0 c1 ⊢
      repeat walk_at "st"
      have d0 : 0 ≤ cell % 2305843009213693951 := Int.emod_nonneg _ (by decide)
      have d1 : cell % 2305843009213693951 < 2305843009213693951 := Int.emod_lt_of_pos _ (by decide)
      generalize cell % 2305843009213693951 = e at d0 d1 ⊢
      refine b_I (cmul (by omega) (by omega) (by omega) (by omega)) ?_
      repeat walk_at "st"
      refine b_I (cmul (by omega) (by omega) (by omega) (by omega)) ?_
      repeat walk_at "st"
      refine b_I (cmul (by omega) (by omega) (by omega) (by omega)) ?_
      repeat walk_at "st"
      refine e_lst fun p H1 np hp s1 => ?_
      exact q p H1 np s1 ⟨mb, _, 0, hp, c0, by omega, Int.emod_nonneg _ (by decide), Int.lt_trans (Int.emod_lt_of_pos _ (by decide)) (by decide), by decide, by decide⟩
    · repeat walk_at "st"
      refine b_I (cmul (by omega) (by omega) (by omega) (by omega)) ?_
      repeat walk_at "st"
      generalize 31 * (j : Int) + 17 = cell
      repeat walk_at "st"
      refine b_I (cpow 4 (by decide) (by decide) (by decide) (by decide)) ?_
      repeat walk_at "st"
      refine b_I (cpow 200 (by decide) (by decide +kernel) (by decide +kernel) (by decide)) ?_
      refine b_I (show (0 : Int) < (10 ^ Int.toNat 60) ^ Int.toNat 5 by decide +kernel) ?_
      repeat walk_at "st"
      refine b_I (cpow 4 (by decide) (by decide) (by decide) (by decide)) ?_
      repeat walk_at "st"
      have a0 : 0 ≤ (if cell < 0 then -cell else cell) % (10 ^ Int.toNat 60) ^ Int.toNat 5 := Int.emod_nonneg _ (by decide +kernel)
      have a1 : (if cell < 0 then -cell else cell) % (10 ^ Int.toNat 60) ^ Int.toNat 5 < (10 ^ Int.toNat 60) ^ Int.toNat 5 := Int.emod_lt_of_pos _ (by decide +kernel)
      have a2 : ((10 : Int) ^ Int.toNat 60) ^ Int.toNat 5 < 2 ^ 1000 := by decide +kernel
      generalize (if cell < 0 then -cell else cell) % (10 ^ Int.toNat 60) ^ Int.toNat 5 = m at a0 a1 ⊢
      have a3 : m < 2 ^ 1000 := Int.lt_trans a1 a2
      have b0 : ∀ b : Bool, (0 : Int) ≤ (if b = true then 1 else 0) ∧ (if b = true then (1 : Int) else 0) ≤ 1 := fun b => by cases b <;> decide
      obtain ⟨b1, b2⟩ := b0 (decide ((10 : Int) ^ Int.toNat 18 ≤ if cell < 0 then -cell else cell))
      generalize (if decide ((10 : Int) ^ Int.toNat 18 ≤ if cell < 0 then -cell else cell) = true then (1 : Int) else 0) = b at b1 b2 ⊢
      refine b_I (cmul (by omega) (by omega) (by omega) (by omega)) ?_
      obtain ⟨c0, c1⟩ := mul_bd (a := 2 ^ 1000 - 1) (b := 1) a0 (by omega) b1 b2
      generalize m * b = mb at c0 c1 ⊢
      repeat walk_at "st"
      have d0 : 0 ≤ cell % 2305843009213693951 := Int.emod_nonneg _ (by decide)
      have d1 : cell % 2305843009213693951 < 2305843009213693951 := Int.emod_lt_of_pos _ (by decide)
      generalize cell % 2305843009213693951 = e at d0 d1 ⊢
      refine b_I (cmul (by omega) (by omega) (by omega) (by omega)) ?_
      repeat walk_at "st"
      refine b_I (cmul (by omega) (by omega) (by omega) (by omega)) ?_
      repeat walk_at "st"
      refine b_I (cmul (by omega) (by omega) (by omega) (by omega)) ?_
      repeat walk_at "st"
      refine e_lst fun p H1 np hp s1 => ?_
      exact q p H1 np s1 ⟨mb, _, 0, hp, c0, by omega, Int.emod_nonneg _ (by decide), Int.lt_trans (Int.emod_lt_of_pos _ (by decide)) (by decide), by decide, by decide⟩
end
end K14

namespace K14
open PySem PySem.Spec PyProof.Rows L2 FG
local macro_rules | `(tactic| walk_at "sq") => `(tactic| first
  | assumption
  | exact SqL.of (by assumption)
  | exact SqT.of (by assumption)
  | exact SqLm.l (by assumption)
  | exact SqTm.t (by assumption))
local macro_rules | `(tactic| walk_at "cond") => `(tactic| first
  | assumption
  | (show (0 : Int) < _; omega)
  | (show (0 : Int) < _ ∧ _ < 1073741824; omega))
local macro_rules | `(tactic| walk_at "st") => `(tactic| first
  | with_reducible refine b_seq ?_
  | with_reducible refine b_asg ?_
  | with_reducible refine b_op ?_
  | ((with_reducible refine' b_var ?hv ?_); (case hv => exact rfl))
  | with_reducible refine b_c ?_
  | with_reducible refine b_name ?_
  | with_reducible refine b_I0 ?_
  | with_reducible refine b_cons ?_
  | with_reducible refine b_nil ?_
  | with_reducible refine b_cb ?_
  | with_reducible refine b_call ?_
  | with_reducible refine b_ret ?_
  | with_reducible refine b_ifS ?_
  | with_reducible refine b_test ?_
  | with_reducible refine b_tb ?_
  | with_reducible refine b_bl ?_
  | with_reducible refine b_blP ?_
  | with_reducible refine b_next ?_
  | with_reducible refine b_drop ?_
  | with_reducible refine b_sub ?_
  | with_reducible refine b_chain ?_
  | with_reducible refine b_and ?_
  | with_reducible refine b_or ?_
  | with_reducible refine b_not ?_
  | with_reducible refine b_andV ?_
  | with_reducible refine b_orV ?_
  | with_reducible refine b_notV ?_
  | with_reducible refine b_if ?_
  | with_reducible refine b_par ?_
  | with_reducible refine b_parE ?_
  | ((with_reducible refine' b_aug ?hv ?_); (case hv => exact rfl))
  | with_reducible refine b_ip ?_
  | with_reducible refine b_retN ?_
  | with_reducible refine b_tup ?_
  | with_reducible refine b_lst ?_
  | with_reducible refine b_sl ?_
  | with_reducible refine b_part ?_
  | with_reducible refine b_partP ?_
  | with_reducible refine b_nopart ?_
  | with_reducible refine b_bm ?_
  | with_reducible refine b_m1 ?_
  | with_reducible refine b_yes ?_
  | with_reducible refine b_un ?_
  | with_reducible refine b_neg ?_
  | with_reducible refine b_isN ?_
  | with_reducible refine b_notN ?_
  | with_reducible refine b_inS ?_
  | with_reducible refine b_int ?_
  | with_reducible refine b_intB ?_
  | with_reducible refine b_abs ?_
  | with_reducible refine b_max ?_
  | with_reducible refine b_min ?_
  | ((with_reducible refine b_eq ?hv ?_); (case hv => exact rfl))
  | ((with_reducible refine b_ne ?hv ?_); (case hv => exact rfl))
  | ((with_reducible refine' b_lenL ?hv ?_); (case hv => walk_at "sq"))
  | ((with_reducible refine' b_lenT ?hv ?_); (case hv => walk_at "sq"))
  | ((with_reducible refine' b_ixL ?hv ?hw ?_); (case hv => walk_at "sq"); (case hw => exact rfl))
  | ((with_reducible refine' b_ixT ?hv ?hw ?_); (case hv => walk_at "sq"); (case hw => exact rfl))
  | ((with_reducible refine b_I ?hv ?_); (case hv => walk_at "cond"))
  | with_reducible refine b_lcS ?_
  | with_reducible refine b_lcR ?_
  | with_reducible refine b_lcT ?_
  | with_reducible refine b_lcL ?_
  | with_reducible refine b_forT ?_
  | with_reducible refine b_forL ?_
  | with_reducible refine b_forR ?_
  | with_reducible refine b_turn ?_
  | ((with_reducible refine And.intro (a := wipe _ _ = wipe _ _) ?hv ?_); (case hv => exact rfl))
  | ((with_reducible refine And.intro (a := tyV _ "list" _ _) ?hv ?_); (case hv => exact ty_list (by assumption)))
  | with_reducible refine And.intro (a := ∃ a, V.str _ = V.str a) ⟨_, rfl⟩ ?_
  | (with_reducible refine iteT ?_)
  | (with_reducible refine iteNF ?_)
  | (with_reducible refine iteNT ?_)
  | (with_reducible refine iteVT ?_)
  | (with_reducible refine iteNVT ?_)
  | ((with_reducible refine iteVF ?hv ?_); (case hv => exact rfl))
  | ((with_reducible refine iteNVF ?hv ?_); (case hv => exact rfl))
  | with_reducible refine b_callS ?_
  | with_reducible refine b_xq ?_
  | with_reducible refine b_fld ?_
  | with_reducible refine b_sfld ?_
  | with_reducible refine b_meth ?_
  | with_reducible refine b_make ?_
  | with_reducible refine b_callK ?_
  | with_reducible refine b_sfa ?_
  | with_reducible refine b_lcEnT ?_
  | with_reducible refine b_lcEnL ?_
  | with_reducible refine b_forEnT ?_
  | with_reducible refine b_forEnL ?_
  | with_reducible refine b_lcZ ?_
  | with_reducible refine e_revT ?_
  | ((with_reducible refine' e_fld ?hv ?hc ?hn ?hl ?_); (case hv => assumption); (case hc => assumption); (case hn => assumption); (case hl => exact rfl))
  | ((with_reducible refine' e_meth ?hv ?hl ?_); (case hv => assumption); (case hl => exact rfl))
  | (with_reducible refine iteF ?_))

def letters : Str := "abcdefghijklmnopqrstuvwxyz"
def isLetterD : PyData → Bool
  | .str x => decide (x.length = 1) && x.cps.toList.all fun c => decide (c ∈ letters.cps.toList)
  | _ => false
def twoWords : List PyData := [.str "below", .str "above"]
def isWordD (d : PyData) : Bool := isLetterD d || twoWords.any fun z => PyData.eqv z d
def isTraceD : PyData → Bool
  | .tuple ds => ds.all isWordD
  | _ => false
def isTracesD : PyData → Bool
  | .tuple ds => decide (2 ≤ ds.length) && ds.all isTraceD
  | _ => false
section
variable {P : Program} {w : World} {K : PySem.W.Frag} {mg : Str → Option Value} {base : Heap} {D : Ad}
theorem isTy_str {d : PyData} (h : isTy "str" d = true) : ∃ x, d = .str x := by
  cases d <;> simp [isTy] at h
  exact ⟨_, rfl⟩
theorem small_len {h n : Nat} {x : Str} (s : Small h n (.str x)) (hn : n ≤ 16000000) : x.length ≤ sizeLine := by
  have h3 := s.sz
  simp only [PyData.shown] at h3
  have h4 : ∀ x : Str, x.length ≤ (reprText x).length := by
    intro x
    have pos : ∀ q c : Nat, 1 ≤ (Builtin.Str.reprChar q c).length := by
      intro q c
      unfold Builtin.Str.reprChar
      dsimp only
      repeat' split
      all_goals simp
    have fold : ∀ (q : Nat) (l : List Nat) (acc : Array Nat), acc.size + l.length ≤ (l.foldl (fun out c => out ++ (Builtin.Str.reprChar q c).toArray) acc).size := by
      intro q l
      induction l with
      | nil => intro acc; exact Nat.le_refl _
      | cons c r ih =>
        intro acc
        have i2 := ih (acc ++ (Builtin.Str.reprChar q c).toArray)
        have hc := pos q c
        simp only [List.foldl_cons, List.length_cons]
        simp only [Array.size_append, List.size_toArray] at i2
        omega
    unfold reprText
    show _ ≤ ((x.cps.foldl (fun out c => out ++ (Builtin.Str.reprChar (reprQuote x) c).toArray) #[reprQuote x]).push (reprQuote x)).size
    rw [Array.size_push, ← Array.foldl_toList]
    have h := fold (reprQuote x) x.cps.toList #[reprQuote x]
    have e : x.cps.toList.length = x.length := by simp [Str.length]
    rw [e] at h
    omega
  exact Nat.le_trans (h4 x) (Nat.le_trans h3 (Nat.le_trans hn (by decide)))
theorem str_one {x : Str} (h : x.length = 1) : ∃ c, x = ⟨#[c]⟩ := by
  obtain ⟨⟨l⟩⟩ := x
  have h' : l.length = 1 := h
  match l, h' with
  | [c], _ => exact ⟨c, rfl⟩
def sp_is_letter (K : PySem.W.Frag) : Sp := fun vs H Q _ => ∃ (M : Addr → Prop) (v : V) (d : PyData) (h n : Nat), vs = [v] ∧ Dq K M H v d ∧ Small h n d ∧ n ≤ 16000000 ∧ Q (.bl (isLetterD d)) H
theorem ok_is_letter (T : Txt K mg D) {k : Nat} : FnOk P w K mg base CX0 (k + 1) D.f_is_letter D.d_is_letter P_is_letter (sp_is_letter K) := by
  refine T.f_is_letter.ok sc_is_letter (fun vs H Q E h => ?_) (fun cdv A outer s H vs Q E hr h => ?_)
  · obtain ⟨M, v, d, h, n, rfl, _⟩ := h
    rfl
  · obtain ⟨M, v, d, h, n, rfl, hd, hs, hn, q⟩ := h
    refine ⟨_, (pss_one (ps_ret (pe_and (pe_callB (callK (K := K) (r := rIsD) (by rfl) call_isD) (by rfl) T.z_isinstance (by decide +kernel) (pa_cons (pv 0) (pa_cons (pe_bltn (v := .ty "str") (by rfl) T.z_str (by decide +kernel) rfl) pa_nil))) (pe_and (pe_cmpR op_eq (pe_callB (callK (K := K) (r := qLen) (by rfl) q_len) (by rfl) T.z_len (by decide +kernel) (pa_cons (pv 0) pa_nil)) pe_int (nomark _)) (pe_one (pe_cmpR o_inS (pv 0) (pe_glob (v := .str "abcdefghijklmnopqrstuvwxyz") (by rfl) T.c_LETTERS.choose_spec ⟨_, rfl⟩) (by rfl))))))), ?_⟩
    repeat walk_at "st"
    refine b_isD hd (by decide) ?_
    repeat walk_at "st"
    by_cases hT : isTy "str" d = true
    rotate_left
    · rw [Bool.eq_false_iff.mpr hT]
      repeat walk_at "st"
      have e : isLetterD d = false := by
        cases d <;> first | rfl | simp [isTy] at hT
      rw [e] at q
      exact q
    obtain ⟨x, rfl⟩ := isTy_str hT
    rw [hT]
    have hx := small_len hs hn
    cases hd
    repeat walk_at "st"
    refine b_lenS hx ?_
    repeat walk_at "st"
    by_cases h1 : x.length = 1
    rotate_left
    · rw [decide_eq_false (show ¬ (V.int (x.length : Int) = V.int 1) from fun z => by injection z with z; omega)]
      repeat walk_at "st"
      have e : isLetterD (.str x) = false := by
        show (decide (x.length = 1) && _) = false
        rw [decide_eq_false h1]
        rfl
      rw [e] at q
      exact q
    obtain ⟨c, rfl⟩ := str_one h1
    rw [decide_eq_true (show V.int ((⟨#[c]⟩ : Str).length : Int) = V.int 1 from rfl)]
    repeat walk_at "st"
    have e : isLetterD (.str ⟨#[c]⟩) = decide (c ∈ letters.cps.toList) := by
      show (decide ((⟨#[c]⟩ : Str).length = 1) && (#[c] : Array Nat).toList.all fun c => decide (c ∈ letters.cps.toList)) = _
      rw [decide_eq_true (show (⟨#[c]⟩ : Str).length = 1 from rfl)]
      simp
    rw [e] at q
    exact q
def sideS (i p : Int) : Str := if p < i then "below" else "above"
def sp_side_of : Sp := fun vs H Q _ => ∃ i p : Int, vs = [.int i, .int p] ∧ Q (.str (sideS i p)) H
theorem ok_side_of (T : Txt K mg D) {k : Nat} : FnOk P w K mg base CX0 (k + 1) D.f_side_of D.d_side_of P_side_of sp_side_of := by
  refine T.f_side_of.ok sc_side_of (fun vs H Q E h => ?_) (fun cdv A outer s H vs Q E hr h => ?_)
  · obtain ⟨i, p, rfl, _⟩ := h
    rfl
  · obtain ⟨i, p, rfl, q⟩ := h
    unfold sideS at q
    refine ⟨_, (pss_one (ps_ret (pe_ifExp (pt_cmpR op_lt (pv 1) (pv 0) (nomark _)) (pe_glob (v := .str "below") (by rfl) T.c_BELOW.choose_spec ⟨_, rfl⟩) (pe_glob (v := .str "above") (by rfl) T.c_ABOVE.choose_spec ⟨_, rfl⟩)))), ?_⟩
    repeat walk_at "st"
    refine ite2 (fun h => ?_) (fun h => ?_)
    · rw [if_pos (of_decide_eq_true h)] at q
      repeat walk_at "st"
      exact q
    · rw [if_neg (fun z => h (decide_eq_true z))] at q
      repeat walk_at "st"
      exact q
def sp_is_trace (K : PySem.W.Frag) : Sp := fun vs H Q _ => ∃ (M : Addr → Prop) (v : V) (d : PyData) (h n : Nat), vs = [v] ∧ Dq K M H v d ∧ Fit h n d ∧ h ≤ 50 ∧ n ≤ 90000 ∧ ∀ H', Same H H' → Q (.bl (isTraceD d)) H'
theorem ok_is_trace (T : Txt K mg D) {k : Nat} : FnOk P w K mg base CX0 (k + 2) D.f_is_trace D.d_is_trace P_is_trace (sp_is_trace K) := by
  have G_is_letter : FnOk P w K mg base CX0 (k + 1) D.f_is_letter D.d_is_letter P_is_letter (sp_is_letter K) := ok_is_letter T
  refine T.f_is_trace.ok sc_is_trace (fun vs H Q E h => ?_) (fun cdv A outer s H vs Q E hr h => ?_)
  · obtain ⟨M, v, d, h, n, rfl, _⟩ := h
    rfl
  · obtain ⟨M, v, d, h, n, rfl, hd, hf, hh, hn, q⟩ := h
    refine ⟨_, (pss_one (ps_ret (pe_and (pe_callB (callK (K := K) (r := rIsD) (by rfl) call_isD) (by rfl) T.z_isinstance (by decide +kernel) (pa_cons (pv 0) (pa_cons (pe_bltn (v := .ty "tuple") (by rfl) T.z_tuple (by decide +kernel) rfl) pa_nil))) (pe_one (pe_callB (callK (K := K) (r := rAll) (by rfl) (cr_all rfl)) (by rfl) T.z_all (by decide +kernel) (pa_cons (pe_lc (own := [("one", 1)]) (g := gName 1) (tt := tYes) (by rfl) sc_is_trace.nd (pi_tupK (K := K) (by rfl) (pv 0)) (blkOk_by (own := [("one", 1)]) (N := N_is_trace) (sc := defScope s_is_trace) (by decide +kernel)) (fun _ _ _ _ _ => (pg_name (i := 1) sc_is_trace.nd rfl (by first | exact .inl rfl | exact .inr rfl))) (fun _ _ _ _ _ => pts_nil) (fun _ _ _ _ _ => (pe_or (pe_call G_is_letter hr (by rfl) T.g_is_letter T.f_is_letter.kp T.b_is_letter .nil pass0 (pa_cons (pv 1) pa_nil)) (pe_one (pe_cmpR (opK (K := K) (r := rInQ) (by rfl) (op_inQ (units65 hr))) (pv 1) (pe_tup (pa_cons (pe_glob (v := .str "below") (by rfl) T.c_BELOW.choose_spec ⟨_, rfl⟩) (pa_cons (pe_glob (v := .str "above") (by rfl) T.c_ABOVE.choose_spec ⟨_, rfl⟩) pa_nil))) (by rfl)))))) pa_nil)))))), ?_⟩
    repeat walk_at "st"
    refine b_isD hd (by decide) ?_
    repeat walk_at "st"
    by_cases hT : isTy "tuple" d = true
    rotate_left
    · rw [Bool.eq_false_iff.mpr hT]
      repeat walk_at "st"
      have e : isTraceD d = false := by
        cases d <;> first | rfl | simp [isTy] at hT
      rw [e] at q
      exact q H (Same.refl H)
    obtain ⟨ds, rfl⟩ := isTy_tuple hT
    rw [hT]
    obtain ⟨a, xs, rfl, hx, hxs⟩ := hd.tupE
    have hlen := hxs.length
    repeat walk_at "st"
    refine e_lcT hx.t (fun L i H' => H' L = some (.lst (((ds.take i).map isWordD).map V.bl)) ∧ Same H H') ?_ ?_ ?_ ?_
    · intro L H' nL hL sL
      exact ⟨hL, sL⟩
    · rintro L i H' nL ⟨_, s'⟩
      exact ((SameM.of s').t hx).t
    · rintro L i x H' nL hx' ⟨hL, s'⟩
      obtain ⟨e, he, hde⟩ := hxs.get hx'
      have hfe := hf.item (List.mem_of_getElem? he)
      have hde' := hde.same s'
      have hi : i < ds.length := (List.getElem?_eq_some_iff.mp he).1
      have hdl := tup_len hf.sm
      have fin : ∀ (H2 : Hp), Same H' H2 → AppD L (.bl (isWordD e)) H2 (fun H3 => H3 L = some (.lst (((ds.take (i + 1)).map isWordD).map V.bl)) ∧ Same H H3) := by
        intro H2 s2
        refine e_app (s2 _ _ hL) (by simp; omega) fun H3 h3 s3 => ⟨?_, ?_⟩
        · rw [h3, List.take_add_one, he]; simp
        · intro b o eb
          exact s3 _ _ (fun z => by rw [z, nL] at eb; cases eb) (s2 _ _ (s' _ _ eb))
      repeat walk_at "st"
      refine ⟨M, x, e, _, _, rfl, hde', hfe.sm, by omega, ?_⟩
      repeat walk_at "st"
      refine ite2 (fun g1 => ?_) (fun g1 => ?_)
      · have e1 : isWordD e = true := by
          unfold isWordD
          rw [g1]
          rfl
        rw [e1] at fin
        exact fin H' (Same.refl H')
      · repeat walk_at "st"
        refine e_tupD (K := K) (.cons (.str _) (.cons (.str _) .nil)) fun t H2 ht s2 => ?_
        have e1 : isWordD e = twoWords.any fun z => PyData.eqv z e := by
          unfold isWordD
          rw [Bool.eq_false_iff.mpr g1]
          rfl
        rw [e1] at fin
        exact ⟨M, M0, e, twoWords, hde'.same s2, ht, hfe.shaped (by omega), by decide +kernel, fin H2 s2⟩
    · rintro L H' nL ⟨hL, s'⟩
      repeat walk_at "st"
      rw [List.take_of_length_le (by omega)] at hL
      refine b_all (SqL.of hL) ?_
      have e : isTraceD (.tuple ds) = (ds.map isWordD).all id := by
        show ds.all isWordD = _
        rw [List.all_map]
        rfl
      rw [← e]
      exact q H' s'
def sp_are_traces (K : PySem.W.Frag) : Sp := fun vs H Q _ => ∃ (M : Addr → Prop) (v : V) (d : PyData) (h n : Nat), vs = [v] ∧ Dq K M H v d ∧ (isTy "tuple" d = true → Fit h n d) ∧ h ≤ 50 ∧ n ≤ 90000 ∧ ∀ H', Same H H' → Q (.bl (isTracesD d)) H'
theorem ok_are_traces (T : Txt K mg D) {k : Nat} : FnOk P w K mg base CX0 (k + 3) D.f_are_traces D.d_are_traces P_are_traces (sp_are_traces K) := by
  have G_is_trace : FnOk P w K mg base CX0 (k + 2) D.f_is_trace D.d_is_trace P_is_trace (sp_is_trace K) := ok_is_trace T
  refine T.f_are_traces.ok sc_are_traces (fun vs H Q E h => ?_) (fun cdv A outer s H vs Q E hr h => ?_)
  · obtain ⟨M, v, d, h, n, rfl, _⟩ := h
    rfl
  · obtain ⟨M, v, d, h, n, rfl, hd, hf, hh, hn, q⟩ := h
    refine ⟨_, (pss_one (ps_ret (pe_and (pe_callB (callK (K := K) (r := rIsD) (by rfl) call_isD) (by rfl) T.z_isinstance (by decide +kernel) (pa_cons (pv 0) (pa_cons (pe_bltn (v := .ty "tuple") (by rfl) T.z_tuple (by decide +kernel) rfl) pa_nil))) (pe_and (pe_cmpR op_ge (pe_callB (callK (K := K) (r := qLen) (by rfl) q_len) (by rfl) T.z_len (by decide +kernel) (pa_cons (pv 0) pa_nil)) (pe_glob (v := .int 2) (by rfl) T.c_FEWEST.choose_spec ⟨_, rfl⟩) (nomark _)) (pe_one (pe_callB (callK (K := K) (r := rAll) (by rfl) (cr_all rfl)) (by rfl) T.z_all (by decide +kernel) (pa_cons (pe_lc (own := [("one", 1)]) (g := gName 1) (tt := tYes) (by rfl) sc_are_traces.nd (pi_tupK (K := K) (by rfl) (pv 0)) (blkOk_by (own := [("one", 1)]) (N := N_are_traces) (sc := defScope s_are_traces) (by decide +kernel)) (fun _ _ _ _ _ => (pg_name (i := 1) sc_are_traces.nd rfl (by first | exact .inl rfl | exact .inr rfl))) (fun _ _ _ _ _ => pts_nil) (fun _ _ _ _ _ => (pe_call G_is_trace hr (by rfl) T.g_is_trace T.f_is_trace.kp T.b_is_trace .nil pass0 (pa_cons (pv 1) pa_nil)))) pa_nil))))))), ?_⟩
    repeat walk_at "st"
    refine b_isD hd (by decide) ?_
    repeat walk_at "st"
    by_cases hT : isTy "tuple" d = true
    rotate_left
    · rw [Bool.eq_false_iff.mpr hT]
      repeat walk_at "st"
      have e : isTracesD d = false := by
        cases d <;> first | rfl | simp [isTy] at hT
      rw [e] at q
      exact q H (Same.refl H)
    replace hf := hf hT
    obtain ⟨ds, rfl⟩ := isTy_tuple hT
    rw [hT]
    obtain ⟨a, xs, rfl, hx, hxs⟩ := hd.tupE
    have hlen := hxs.length
    have hxt := hx.t
    have hdl := tup_len hf.sm
    repeat walk_at "st"
    refine ite2 (fun g1 => ?_) (fun g1 => ?_)
    rotate_left
    · repeat walk_at "st"
      have e : isTracesD (.tuple ds) = false := by
        show (decide (2 ≤ ds.length) && _) = false
        rw [decide_eq_false (fun z => g1 (decide_eq_true (by omega)))]
        rfl
      rw [e] at q
      exact q H (Same.refl H)
    have g1' := of_decide_eq_true g1
    repeat walk_at "st"
    refine e_lcT hx.t (fun L i H' => H' L = some (.lst (((ds.take i).map isTraceD).map V.bl)) ∧ Same H H') ?_ ?_ ?_ ?_
    · intro L H' nL hL sL
      exact ⟨hL, sL⟩
    · rintro L i H' nL ⟨_, s'⟩
      exact ((SameM.of s').t hx).t
    · rintro L i x H' nL hx' ⟨hL, s'⟩
      obtain ⟨e, he, hde⟩ := hxs.get hx'
      have hfe := hf.item (List.mem_of_getElem? he)
      have hi : i < ds.length := (List.getElem?_eq_some_iff.mp he).1
      repeat walk_at "st"
      refine ⟨M, x, e, h, n, rfl, hde.same s', hfe, hh, hn, fun H2 s2 => ?_⟩
      repeat walk_at "st"
      refine e_app (s2 _ _ hL) (by simp; omega) fun H3 h3 s3 => ⟨?_, ?_⟩
      · rw [h3, List.take_add_one, he]; simp
      · intro b o eb
        exact s3 _ _ (fun z => by rw [z, nL] at eb; cases eb) (s2 _ _ (s' _ _ eb))
    · rintro L H' nL ⟨hL, s'⟩
      repeat walk_at "st"
      rw [List.take_of_length_le (by omega)] at hL
      refine b_all (SqL.of hL) ?_
      have e : isTracesD (.tuple ds) = (ds.map isTraceD).all id := by
        show (decide (2 ≤ ds.length) && ds.all isTraceD) = _
        rw [List.all_map, decide_eq_true (by omega)]
        rfl
      rw [← e]
      exact q H' s'
end
end K14

namespace K14
open PySem PySem.Spec PyProof.Rows L2 FG
local macro_rules | `(tactic| walk_at "sq") => `(tactic| first
  | assumption
  | exact SqL.of (by assumption)
  | exact SqT.of (by assumption)
  | exact SqLm.l (by assumption)
  | exact SqTm.t (by assumption))
local macro_rules | `(tactic| walk_at "cond") => `(tactic| first
  | assumption
  | (show (0 : Int) < _; omega)
  | (show (0 : Int) < _ ∧ _ < 1073741824; omega))
local macro_rules | `(tactic| walk_at "st") => `(tactic| first
  | with_reducible refine b_seq ?_
  | with_reducible refine b_asg ?_
  | with_reducible refine b_op ?_
  | ((with_reducible refine' b_var ?hv ?_); (case hv => exact rfl))
  | with_reducible refine b_c ?_
  | with_reducible refine b_name ?_
  | with_reducible refine b_I0 ?_
  | with_reducible refine b_cons ?_
  | with_reducible refine b_nil ?_
  | with_reducible refine b_cb ?_
  | with_reducible refine b_call ?_
  | with_reducible refine b_ret ?_
  | with_reducible refine b_ifS ?_
  | with_reducible refine b_test ?_
  | with_reducible refine b_tb ?_
  | with_reducible refine b_bl ?_
  | with_reducible refine b_blP ?_
  | with_reducible refine b_next ?_
  | with_reducible refine b_drop ?_
  | with_reducible refine b_sub ?_
  | with_reducible refine b_chain ?_
  | with_reducible refine b_and ?_
  | with_reducible refine b_or ?_
  | with_reducible refine b_not ?_
  | with_reducible refine b_andV ?_
  | with_reducible refine b_orV ?_
  | with_reducible refine b_notV ?_
  | with_reducible refine b_if ?_
  | with_reducible refine b_par ?_
  | with_reducible refine b_parE ?_
  | ((with_reducible refine' b_aug ?hv ?_); (case hv => exact rfl))
  | with_reducible refine b_ip ?_
  | with_reducible refine b_retN ?_
  | with_reducible refine b_tup ?_
  | with_reducible refine b_lst ?_
  | with_reducible refine b_sl ?_
  | with_reducible refine b_part ?_
  | with_reducible refine b_partP ?_
  | with_reducible refine b_nopart ?_
  | with_reducible refine b_bm ?_
  | with_reducible refine b_m1 ?_
  | with_reducible refine b_yes ?_
  | with_reducible refine b_un ?_
  | with_reducible refine b_neg ?_
  | with_reducible refine b_isN ?_
  | with_reducible refine b_notN ?_
  | with_reducible refine b_inS ?_
  | with_reducible refine b_int ?_
  | with_reducible refine b_intB ?_
  | with_reducible refine b_abs ?_
  | with_reducible refine b_max ?_
  | with_reducible refine b_min ?_
  | ((with_reducible refine b_eq ?hv ?_); (case hv => exact rfl))
  | ((with_reducible refine b_ne ?hv ?_); (case hv => exact rfl))
  | ((with_reducible refine' b_lenL ?hv ?_); (case hv => walk_at "sq"))
  | ((with_reducible refine' b_lenT ?hv ?_); (case hv => walk_at "sq"))
  | ((with_reducible refine' b_ixL ?hv ?hw ?_); (case hv => walk_at "sq"); (case hw => exact rfl))
  | ((with_reducible refine' b_ixT ?hv ?hw ?_); (case hv => walk_at "sq"); (case hw => exact rfl))
  | ((with_reducible refine b_I ?hv ?_); (case hv => walk_at "cond"))
  | with_reducible refine b_lcS ?_
  | with_reducible refine b_lcR ?_
  | with_reducible refine b_lcT ?_
  | with_reducible refine b_lcL ?_
  | with_reducible refine b_forT ?_
  | with_reducible refine b_forL ?_
  | with_reducible refine b_forR ?_
  | with_reducible refine b_turn ?_
  | ((with_reducible refine And.intro (a := wipe _ _ = wipe _ _) ?hv ?_); (case hv => exact rfl))
  | ((with_reducible refine And.intro (a := tyV _ "list" _ _) ?hv ?_); (case hv => exact ty_list (by assumption)))
  | with_reducible refine And.intro (a := ∃ a, V.str _ = V.str a) ⟨_, rfl⟩ ?_
  | (with_reducible refine iteT ?_)
  | (with_reducible refine iteNF ?_)
  | (with_reducible refine iteNT ?_)
  | (with_reducible refine iteVT ?_)
  | (with_reducible refine iteNVT ?_)
  | ((with_reducible refine iteVF ?hv ?_); (case hv => exact rfl))
  | ((with_reducible refine iteNVF ?hv ?_); (case hv => exact rfl))
  | with_reducible refine b_callS ?_
  | with_reducible refine b_xq ?_
  | with_reducible refine b_fld ?_
  | with_reducible refine b_sfld ?_
  | with_reducible refine b_meth ?_
  | with_reducible refine b_make ?_
  | with_reducible refine b_callK ?_
  | with_reducible refine b_sfa ?_
  | with_reducible refine b_lcEnT ?_
  | with_reducible refine b_lcEnL ?_
  | with_reducible refine b_forEnT ?_
  | with_reducible refine b_forEnL ?_
  | with_reducible refine b_lcZ ?_
  | with_reducible refine e_revT ?_
  | ((with_reducible refine' e_fld ?hv ?hc ?hn ?hl ?_); (case hv => assumption); (case hc => assumption); (case hn => assumption); (case hl => exact rfl))
  | ((with_reducible refine' e_meth ?hv ?hl ?_); (case hv => assumption); (case hl => exact rfl))
  | (with_reducible refine iteF ?_))

def wdS : Wd → Str
  | .ltr c => ⟨#[c]⟩
  | .lo => "below"
  | .hi => "above"
theorem wdS_len : ∀ w : Wd, (wdS w).length = if isL w = true then 1 else 5
  | .ltr _ => rfl
  | .lo => rfl
  | .hi => rfl
theorem wdS_inj : ∀ {a b : Wd}, wdS a = wdS b → a = b
  | .ltr c, .ltr d, h => by
    injection h with h
    have := congrArg Array.toList h
    simp at this
    rw [this]
  | .lo, .lo, _ => rfl
  | .hi, .hi, _ => rfl
  | .ltr c, .lo, h => absurd (show (1 : Nat) = 5 from congrArg Str.length h) (by decide)
  | .ltr c, .hi, h => absurd (show (1 : Nat) = 5 from congrArg Str.length h) (by decide)
  | .lo, .ltr c, h => absurd (show (5 : Nat) = 1 from congrArg Str.length h) (by decide)
  | .hi, .ltr c, h => absurd (show (5 : Nat) = 1 from congrArg Str.length h) (by decide)
  | .lo, .hi, h => by revert h; decide
  | .hi, .lo, h => by revert h; decide
theorem side_S (i p : Nat) : sideS i p = wdS (side i p) := by
  unfold sideS side
  by_cases h : p < i
  · rw [if_pos h, if_pos (by exact_mod_cast h)]; rfl
  · rw [if_neg h, if_neg (by exact_mod_cast h)]; rfl
def wdD (w : Wd) : PyData := .str (wdS w)
def wdV : Option Wd → V
  | none => .non
  | some w => .str (wdS w)
theorem wdV_inj {a : Option Wd} {w : Wd} : decide (wdV a = .str (wdS w)) = decide (a = some w) := by
  rw [Bool.eq_iff_iff, decide_eq_true_eq, decide_eq_true_eq]
  cases a with
  | none => exact ⟨fun z => (by cases z), fun z => (by cases z)⟩
  | some v => exact ⟨fun z => by injection z with z; rw [wdS_inj z], fun z => by cases z; rfl⟩
def trD (t : List Wd) : PyData := .tuple (t.map wdD)
/-- a trace's value: a tuple of texts -/
theorem tr_vals {K : PySem.W.Frag} {M : Addr → Prop} {H : Hp} {x : V} {t : List Wd} (h : Dq K M H x (trD t)) : ∃ a, x = .ref a ∧ SqTm K M H a (t.map fun w => V.str (wdS w)) := by
  obtain ⟨a, xs, rfl, hx, hxs⟩ := Dq.tupE h
  refine ⟨a, rfl, ?_⟩
  have : ∀ {xs : List V} {t : List Wd}, DqAll K M H xs (t.map wdD) → xs = t.map fun w => V.str (wdS w) := by
    intro xs
    induction xs with
    | nil =>
      intro t h
      cases t with
      | nil => rfl
      | cons w t => cases h
    | cons x xs ih =>
      intro t h
      cases t with
      | nil => cases h
      | cons w t =>
        rw [List.map_cons] at h
        cases h with
        | cons h1 h2 =>
          cases h1
          rw [ih h2, List.map_cons]
  rw [← this hxs]
  exact hx
/-- a follower at a -/
def FolAt (C : Addr) (H : Hp) (a : Addr) (i : Nat) (x : V) (m : Nat) : Prop := ∃ dx, H a = some (.ins C dx [("own_position", .int i), ("own_trace", x), ("many_read", .int m)])
theorem FolAt.same {C : Addr} {H H' : Hp} {a : Addr} {i : Nat} {x : V} {m : Nat} (h : FolAt C H a i x m) (s : Same H H') : FolAt C H' a i x m := let ⟨dx, e⟩ := h; ⟨dx, s _ _ e⟩
section
variable {P : Program} {w : World} {K : PySem.W.Frag} {mg : Str → Option Value} {base : Heap} {D : Ad}
def sp_init (C : Addr) : Sp := fun vs H Q _ => ∃ (a dx : Addr) (i : Nat) (x : V), vs = [.ref a, .int i, x] ∧ H a = some (.ins C dx []) ∧ ∀ H', FolAt C H' a i x 0 → SameM (· = a) H H' → Q .non H'
theorem ok_Follower_init (T : Txt K mg D) {k : Nat} : FnOk P w K mg base CX0 (k + 1) D.f_Follower_init D.d_Follower_init P_Follower_init (sp_init D.c_Follower) := by
  have cl := T.cl_Follower
  have n1 := T.n_Follower_own_position
  have n2 := T.n_Follower_own_trace
  have n3 := T.n_Follower_many_read
  refine T.f_Follower_init.ok sc_Follower_init (fun vs H Q E h => ?_) (fun cdv A outer s H vs Q E hr h => ?_)
  · obtain ⟨a, dx, i, x, rfl, _⟩ := h
    rfl
  · obtain ⟨a, dx, i, x, rfl, ha, q⟩ := h
    refine ⟨_, (pss_cons (ps_fld (pv 0) (pv 1) rfl)
      (pss_cons (ps_fld (pv 0) (pv 2) rfl)
      (pss_one (ps_fld (pv 0) pe_int rfl)))), ?_⟩
    repeat walk_at "st"
    refine e_sfld ha cl n1 (by decide) fun H1 h1 s1 => ?_
    repeat walk_at "st"
    refine e_sfld h1 cl n2 (show 1 < 1000 by decide) fun H2 h2 s2 => ?_
    repeat walk_at "st"
    refine e_sfld h2 cl n3 (show 2 < 1000 by decide) fun H3 h3 s3 => ?_
    repeat walk_at "st"
    exact q H3 ⟨dx, h3⟩ ((s1.trans s2).trans s3)
def FolOk (K : PySem.W.Frag) (C : Addr) (H : Hp) (a : Addr) (i : Nat) (t : List Wd) (m : Nat) : Prop := ∃ (M : Addr → Prop) (x : V), FolAt C H a i x m ∧ Dq K M H x (trD t) ∧ m ≤ t.length ∧ t.length ≤ 90000
theorem FolOk.same {C : Addr} {H H' : Hp} {a : Addr} {i : Nat} {t : List Wd} {m : Nat} (h : FolOk K C H a i t m) (s : Same H H') : FolOk K C H' a i t m := let ⟨M, x, h1, h2, h3⟩ := h; ⟨M, x, h1.same s, h2.same s, h3⟩
def sp_next (K : PySem.W.Frag) (C : Addr) : Sp := fun vs H Q _ => ∃ (a : Addr) (i : Nat) (t : List Wd) (m : Nat), vs = [.ref a] ∧ FolOk K C H a i t m ∧ Q (wdV t[m]?) H
theorem ok_Follower_next_word (T : Txt K mg D) {k : Nat} : FnOk P w K mg base CX0 (k + 1) D.f_Follower_next_word D.d_Follower_next_word P_Follower_next_word (sp_next K D.c_Follower) := by
  have cl := T.cl_Follower
  have n1 := T.n_Follower_own_position
  have n2 := T.n_Follower_own_trace
  have n3 := T.n_Follower_many_read
  refine T.f_Follower_next_word.ok sc_Follower_next_word (fun vs H Q E h => ?_) (fun cdv A outer s H vs Q E hr h => ?_)
  · obtain ⟨a, i, t, m, rfl, _⟩ := h
    rfl
  · obtain ⟨a, i, t, m, rfl, ⟨M, x, ⟨dx, ha⟩, hx, hm, ht⟩, q⟩ := h
    obtain ⟨b, rfl, hb⟩ := tr_vals hx
    have hbt := hb.t
    refine ⟨_, (pss_one (ps_ret (pe_ifExp (pt_cmpR op_lt (pe_fldK (K := K) (by rfl) (pv 0) (by rfl)) (pe_callB (callK (K := K) (r := qLen) (by rfl) q_len) (by rfl) T.z_len (by decide +kernel) (pa_cons (pe_fldK (K := K) (by rfl) (pv 0) (by rfl)) pa_nil)) (nomark _)) (pe_ix (ixK (K := K) (r := rIxT) (by rfl) ix_tup) (pe_fldK (K := K) (by rfl) (pv 0) (by rfl)) (pe_fldK (K := K) (by rfl) (pv 0) (by rfl)) (fun _ _ => rfl)) pe_non))), ?_⟩
    repeat walk_at "st"
    refine ite2 (fun g => ?_) (fun g => ?_)
    · have g' := of_decide_eq_true g
      rw [List.length_map] at g'
      have g2 : m < t.length := by omega
      rw [List.getElem?_eq_getElem g2] at q
      repeat walk_at "st"
      refine b_ixT hbt (atI_nat (j := m) (v := V.str (wdS t[m])) ?_) ?_
      · rw [List.getElem?_map, List.getElem?_eq_getElem g2]; rfl
      · exact q
    · have g2 : ¬ m < t.length := fun z => g (decide_eq_true (by rw [List.length_map]; omega))
      rw [List.getElem?_eq_none (by omega)] at q
      repeat walk_at "st"
      exact q
def sp_within (K : PySem.W.Frag) (C : Addr) : Sp := fun vs H Q _ => ∃ (a : Addr) (i : Nat) (t : List Wd) (m : Nat) (u : Wd), vs = [.ref a, .str (wdS u)] ∧ FolOk K C H a i t m ∧ Q (.bl (within t m u)) H
theorem ok_Follower_is_within (T : Txt K mg D) {k : Nat} : FnOk P w K mg base CX0 (k + 1) D.f_Follower_is_within D.d_Follower_is_within P_Follower_is_within (sp_within K D.c_Follower) := by
  have cl := T.cl_Follower
  have n1 := T.n_Follower_own_position
  have n2 := T.n_Follower_own_trace
  have n3 := T.n_Follower_many_read
  refine T.f_Follower_is_within.ok sc_Follower_is_within (fun vs H Q E h => ?_) (fun cdv A outer s H vs Q E hr h => ?_)
  · obtain ⟨a, i, t, m, u, rfl, _⟩ := h
    rfl
  · obtain ⟨a, i, t, m, u, rfl, ⟨M, x, ⟨dx, ha⟩, hx, hm, ht⟩, q⟩ := h
    obtain ⟨b, rfl, hb⟩ := tr_vals hx
    have hbt := hb.t
    unfold within at q
    refine ⟨_, (pss_one (ps_ret (pe_and (pe_cmpR op_gt (pe_fldK (K := K) (by rfl) (pv 0) (by rfl)) pe_int (nomark _)) (pe_one (pe_cmpR op_eq (pe_ix (ixK (K := K) (r := rIxT) (by rfl) ix_tup) (pe_fldK (K := K) (by rfl) (pv 0) (by rfl)) (pe_op op_sub (pe_fldK (K := K) (by rfl) (pv 0) (by rfl)) pe_int) (fun _ _ => rfl)) (pv 1) (nomark _)))))), ?_⟩
    repeat walk_at "st"
    refine ite2 (fun g => ?_) (fun g => ?_)
    · have g' := of_decide_eq_true g
      have g2 : m - 1 < t.length := by omega
      rw [decide_eq_true (show 0 < m by omega), Bool.true_and, List.getElem?_eq_getElem g2, ← wdV_inj] at q
      repeat walk_at "st"
      refine b_ixT hbt (v := V.str (wdS t[m - 1])) (?_ : atI _ ((m : Int) - 1) = _) ?_
      · rw [show (m : Int) - 1 = ((m - 1 : Nat) : Int) by omega]
        refine atI_nat ?_
        rw [List.getElem?_map, List.getElem?_eq_getElem g2]; rfl
      · repeat walk_at "st"
        exact q
    · rw [decide_eq_false (show ¬ 0 < m from fun z => g (decide_eq_true (by omega))), Bool.false_and] at q
      repeat walk_at "st"
      exact q
def sp_lets (K : PySem.W.Frag) (C : Addr) : Sp := fun vs H Q _ => ∃ (a : Addr) (i : Nat) (t : List Wd) (m p : Nat), vs = [.ref a, .int p] ∧ FolOk K C H a i t m ∧ ∀ H', Same H H' → Q (.bl (lets t m i p)) H'
theorem ok_Follower_lets (T : Txt K mg D) {k : Nat} : FnOk P w K mg base CX0 (k + 2) D.f_Follower_lets D.d_Follower_lets P_Follower_lets (sp_lets K D.c_Follower) := by
  have cl := T.cl_Follower
  have n1 := T.n_Follower_own_position
  have G_Follower_next_word : FnOk P w K mg base CX0 (k + 1) D.f_Follower_next_word D.d_Follower_next_word P_Follower_next_word (sp_next K D.c_Follower) := ok_Follower_next_word T
  have G_Follower_is_within : FnOk P w K mg base CX0 (k + 1) D.f_Follower_is_within D.d_Follower_is_within P_Follower_is_within (sp_within K D.c_Follower) := ok_Follower_is_within T
  have G_side_of : FnOk P w K mg base CX0 (k + 1) D.f_side_of D.d_side_of P_side_of sp_side_of := ok_side_of T
  refine T.f_Follower_lets.ok sc_Follower_lets (fun vs H Q E h => ?_) (fun cdv A outer s H vs Q E hr h => ?_)
  · obtain ⟨a, i, t, m, p, rfl, _⟩ := h
    rfl
  · obtain ⟨a, i, t, m, p, rfl, hf, q⟩ := h
    have hf' := hf
    obtain ⟨M, x, ⟨dx, ha⟩, hx, hm, ht⟩ := hf'
    refine ⟨_, (pss_cons (ps_if (pt_cmpR op_eq (pv 1) (pe_fldK (K := K) (by rfl) (pv 0) (by rfl)) (nomark _)) (pss_one (ps_ret (pe_and (pe_cmpR o_notN (pe_meth0 (pv 0) T.cl_Follower T.m_Follower_next_word G_Follower_next_word hr T.b_Follower_next_word .nil pass0) pe_non (nomark _)) (pe_one (pe_cmpR op_notIn_seq (pe_meth0 (pv 0) T.cl_Follower T.m_Follower_next_word G_Follower_next_word hr T.b_Follower_next_word .nil pass0) (pe_tup (pa_cons (pe_glob (v := .str "below") (by rfl) T.c_BELOW.choose_spec ⟨_, rfl⟩) (pa_cons (pe_glob (v := .str "above") (by rfl) T.c_ABOVE.choose_spec ⟨_, rfl⟩) pa_nil))) (by rfl)))))) pss_nil)
      (pss_cons (ps_set (i := 2) sc_Follower_lets.nd rfl (by first | exact .inl rfl | exact .inr rfl) (pe_call G_side_of hr (by rfl) T.g_side_of T.f_side_of.kp T.b_side_of .nil pass0 (pa_cons (pe_fldK (K := K) (by rfl) (pv 0) (by rfl)) (pa_cons (pv 1) pa_nil))))
      (pss_one (ps_ret (pe_or (pe_meth (pv 0) T.cl_Follower T.m_Follower_is_within G_Follower_is_within hr T.b_Follower_is_within .nil pass0 (pa_cons (pv 2) pa_nil)) (pe_one (pe_cmpR op_eq (pe_meth0 (pv 0) T.cl_Follower T.m_Follower_next_word G_Follower_next_word hr T.b_Follower_next_word .nil pass0) (pv 2) (nomark _)))))))), ?_⟩
    unfold lets at q
    repeat walk_at "st"
    refine ite2 (fun g => ?_) (fun g => ?_)
    · have g' : p = i := by
        have := of_decide_eq_true g
        injection this with this
        omega
      simp only [if_pos g'] at q
      repeat walk_at "st"
      refine ⟨a, i, t, m, rfl, hf, ?_⟩
      cases e : t[m]? with
      | none =>
        simp only [e] at q
        repeat walk_at "st"
        exact q H (Same.refl H)
      | some u =>
        simp only [e] at q
        unfold wdV
        repeat walk_at "st"
        refine ⟨a, i, t, m, rfl, hf, ?_⟩
        rw [e]
        unfold wdV
        repeat walk_at "st"
        refine e_tup fun r H2 nr hr2 s2 => ?_
        refine b_inT (SqT.of hr2) rfl rfl ?_
        have key : (!inV (V.str (wdS u)) [V.str "below", V.str "above"]) = isL u := by
          cases u with
          | ltr c =>
            have e1 : (Str.ofString "below" == (⟨#[c]⟩ : Str)) = false := by
              rw [beq_eq_false_iff_ne]; intro z; exact absurd (show (5 : Nat) = 1 from congrArg Str.length z) (by decide)
            have e2 : (Str.ofString "above" == (⟨#[c]⟩ : Str)) = false := by
              rw [beq_eq_false_iff_ne]; intro z; exact absurd (show (5 : Nat) = 1 from congrArg Str.length z) (by decide)
            show (!((Str.ofString "below" == (⟨#[c]⟩ : Str)) || ((Str.ofString "above" == (⟨#[c]⟩ : Str)) || false))) = true
            rw [e1, e2]; rfl
          | lo => rfl
          | hi => rfl
        simp only [if_true]
        rw [key]
        exact q H2 s2
    · have g' : ¬ p = i := fun z => g (decide_eq_true (by rw [z]))
      simp only [if_neg g'] at q
      repeat walk_at "st"
      refine ⟨i, p, rfl, ?_⟩
      rw [side_S]
      repeat walk_at "st"
      refine ⟨a, i, t, m, side i p, rfl, hf, ?_⟩
      repeat walk_at "st"
      cases e : within t m (side i p) with
      | true =>
        rw [e] at q
        repeat walk_at "st"
        exact q H (Same.refl H)
      | false =>
        rw [e, Bool.false_or] at q
        repeat walk_at "st"
        refine ⟨a, i, t, m, rfl, hf, ?_⟩
        rw [← wdV_inj] at q
        cases e2 : t[m]? with
        | none =>
          rw [e2] at q
          unfold wdV at q ⊢
          repeat walk_at "st"
          exact q H (Same.refl H)
        | some u =>
          rw [e2] at q
          unfold wdV at q ⊢
          repeat walk_at "st"
          exact q H (Same.refl H)
def sp_go (K : PySem.W.Frag) (C : Addr) : Sp := fun vs H Q _ => ∃ (M : Addr → Prop) (a : Addr) (i : Nat) (t : List Wd) (m p : Nat) (x : V), vs = [.ref a, .int p] ∧ FolAt C H a i x m ∧ Dq K M H x (trD t) ∧ m ≤ t.length ∧ t.length ≤ 90000 ∧
  ∀ H', FolAt C H' a i x (goOn t m i p) → SameM (· = a) H H' → Q .non H'
theorem ok_Follower_go_on (T : Txt K mg D) {k : Nat} : FnOk P w K mg base CX0 (k + 2) D.f_Follower_go_on D.d_Follower_go_on P_Follower_go_on (sp_go K D.c_Follower) := by
  have cl := T.cl_Follower
  have n1 := T.n_Follower_own_position
  have n3 := T.n_Follower_many_read
  have G_Follower_is_within : FnOk P w K mg base CX0 (k + 1) D.f_Follower_is_within D.d_Follower_is_within P_Follower_is_within (sp_within K D.c_Follower) := ok_Follower_is_within T
  have G_side_of : FnOk P w K mg base CX0 (k + 1) D.f_side_of D.d_side_of P_side_of sp_side_of := ok_side_of T
  refine T.f_Follower_go_on.ok sc_Follower_go_on (fun vs H Q E h => ?_) (fun cdv A outer s H vs Q E hr h => ?_)
  · obtain ⟨M, a, i, t, m, p, x, rfl, _⟩ := h
    rfl
  · obtain ⟨M, a, i, t, m, p, x, rfl, ⟨dx, ha⟩, hx, hm, ht, q⟩ := h
    have hf : FolOk K D.c_Follower H a i t m := ⟨M, x, ⟨dx, ha⟩, hx, hm, ht⟩
    refine ⟨_, (pss_one (ps_if (PW.pt (pw_or (pt_cmpR op_eq (pv 1) (pe_fldK (K := K) (by rfl) (pv 0) (by rfl)) (nomark _)) (pw_or1 (pt_not (pt_val (pe_meth (pv 0) T.cl_Follower T.m_Follower_is_within G_Follower_is_within hr T.b_Follower_is_within .nil pass0 (pa_cons (pe_call G_side_of hr (by rfl) T.g_side_of T.f_side_of.kp T.b_side_of .nil pass0 (pa_cons (pe_fldK (K := K) (by rfl) (pv 0) (by rfl)) (pa_cons (pv 1) pa_nil))) pa_nil))))))) (pss_one (ps_fldaug (pv 0) pe_int ip_add)) pss_nil)), ?_⟩
    unfold goOn at q
    have fin : ∀ H', H' a = some (.ins D.c_Follower dx (putF "many_read" (V.int ((m : Int) + 1)) [("own_position", .int i), ("own_trace", x), ("many_read", .int m)])) → FolAt D.c_Follower H' a i x (m + 1) := fun H' h => ⟨dx, h⟩
    repeat walk_at "st"
    refine ite2 (fun g => ?_) (fun g => ?_)
    · have g' : p = i := by
        have := of_decide_eq_true g
        injection this with this
        omega
      rw [if_pos (.inl g')] at q
      repeat walk_at "st"
      refine e_sfa ha cl n3 (show 3 < 1000 by decide) rfl fun H1 h1 s1 => ?_
      repeat walk_at "st"
      exact q H1 (fin H1 h1) s1
    · have g' : ¬ p = i := fun z => g (decide_eq_true (by rw [z]))
      repeat walk_at "st"
      refine ⟨i, p, rfl, ?_⟩
      rw [side_S]
      repeat walk_at "st"
      refine ⟨a, i, t, m, side i p, rfl, hf, ?_⟩
      cases e : within t m (side i p) with
      | true =>
        rw [if_neg (by rw [e]; simp [g'])] at q
        repeat walk_at "st"
        exact q H ⟨dx, ha⟩ (SameM.refl _ _)
      | false =>
        rw [if_pos (.inr e)] at q
        repeat walk_at "st"
        refine e_sfa ha cl n3 (show 3 < 1000 by decide) rfl fun H1 h1 s1 => ?_
        repeat walk_at "st"
        exact q H1 (fin H1 h1) s1
end
end K14

namespace K14
open PySem PySem.Spec PyProof.Rows L2 FG
local macro_rules | `(tactic| walk_at "sq") => `(tactic| first
  | assumption
  | exact SqL.of (by assumption)
  | exact SqT.of (by assumption)
  | exact SqLm.l (by assumption)
  | exact SqTm.t (by assumption))
local macro_rules | `(tactic| walk_at "cond") => `(tactic| first
  | assumption
  | (show (0 : Int) < _; omega)
  | (show (0 : Int) < _ ∧ _ < 1073741824; omega))
local macro_rules | `(tactic| walk_at "st") => `(tactic| first
  | with_reducible refine b_seq ?_
  | with_reducible refine b_asg ?_
  | with_reducible refine b_op ?_
  | ((with_reducible refine' b_var ?hv ?_); (case hv => exact rfl))
  | with_reducible refine b_c ?_
  | with_reducible refine b_name ?_
  | with_reducible refine b_I0 ?_
  | with_reducible refine b_cons ?_
  | with_reducible refine b_nil ?_
  | with_reducible refine b_cb ?_
  | with_reducible refine b_call ?_
  | with_reducible refine b_ret ?_
  | with_reducible refine b_ifS ?_
  | with_reducible refine b_test ?_
  | with_reducible refine b_tb ?_
  | with_reducible refine b_bl ?_
  | with_reducible refine b_blP ?_
  | with_reducible refine b_next ?_
  | with_reducible refine b_drop ?_
  | with_reducible refine b_sub ?_
  | with_reducible refine b_chain ?_
  | with_reducible refine b_and ?_
  | with_reducible refine b_or ?_
  | with_reducible refine b_not ?_
  | with_reducible refine b_andV ?_
  | with_reducible refine b_orV ?_
  | with_reducible refine b_notV ?_
  | with_reducible refine b_if ?_
  | with_reducible refine b_par ?_
  | with_reducible refine b_parE ?_
  | ((with_reducible refine' b_aug ?hv ?_); (case hv => exact rfl))
  | with_reducible refine b_ip ?_
  | with_reducible refine b_retN ?_
  | with_reducible refine b_tup ?_
  | with_reducible refine b_lst ?_
  | with_reducible refine b_sl ?_
  | with_reducible refine b_part ?_
  | with_reducible refine b_partP ?_
  | with_reducible refine b_nopart ?_
  | with_reducible refine b_bm ?_
  | with_reducible refine b_m1 ?_
  | with_reducible refine b_yes ?_
  | with_reducible refine b_un ?_
  | with_reducible refine b_neg ?_
  | with_reducible refine b_isN ?_
  | with_reducible refine b_notN ?_
  | with_reducible refine b_inS ?_
  | with_reducible refine b_int ?_
  | with_reducible refine b_intB ?_
  | with_reducible refine b_abs ?_
  | with_reducible refine b_max ?_
  | with_reducible refine b_min ?_
  | ((with_reducible refine b_eq ?hv ?_); (case hv => exact rfl))
  | ((with_reducible refine b_ne ?hv ?_); (case hv => exact rfl))
  | ((with_reducible refine' b_lenL ?hv ?_); (case hv => walk_at "sq"))
  | ((with_reducible refine' b_lenT ?hv ?_); (case hv => walk_at "sq"))
  | ((with_reducible refine' b_ixL ?hv ?hw ?_); (case hv => walk_at "sq"); (case hw => exact rfl))
  | ((with_reducible refine' b_ixT ?hv ?hw ?_); (case hv => walk_at "sq"); (case hw => exact rfl))
  | ((with_reducible refine b_I ?hv ?_); (case hv => walk_at "cond"))
  | with_reducible refine b_lcS ?_
  | with_reducible refine b_lcR ?_
  | with_reducible refine b_lcT ?_
  | with_reducible refine b_lcL ?_
  | with_reducible refine b_forT ?_
  | with_reducible refine b_forL ?_
  | with_reducible refine b_forR ?_
  | with_reducible refine b_turn ?_
  | ((with_reducible refine And.intro (a := wipe _ _ = wipe _ _) ?hv ?_); (case hv => exact rfl))
  | ((with_reducible refine And.intro (a := tyV _ "list" _ _) ?hv ?_); (case hv => exact ty_list (by assumption)))
  | with_reducible refine And.intro (a := ∃ a, V.str _ = V.str a) ⟨_, rfl⟩ ?_
  | (with_reducible refine iteT ?_)
  | (with_reducible refine iteNF ?_)
  | (with_reducible refine iteNT ?_)
  | (with_reducible refine iteVT ?_)
  | (with_reducible refine iteNVT ?_)
  | ((with_reducible refine iteVF ?hv ?_); (case hv => exact rfl))
  | ((with_reducible refine iteNVF ?hv ?_); (case hv => exact rfl))
  | with_reducible refine b_callS ?_
  | with_reducible refine b_xq ?_
  | with_reducible refine b_fld ?_
  | with_reducible refine b_sfld ?_
  | with_reducible refine b_meth ?_
  | with_reducible refine b_make ?_
  | with_reducible refine b_callK ?_
  | with_reducible refine b_sfa ?_
  | with_reducible refine b_lcEnT ?_
  | with_reducible refine b_lcEnL ?_
  | with_reducible refine b_forEnT ?_
  | with_reducible refine b_forEnL ?_
  | with_reducible refine b_lcZ ?_
  | with_reducible refine e_revT ?_
  | ((with_reducible refine' e_fld ?hv ?hc ?hn ?hl ?_); (case hv => assumption); (case hc => assumption); (case hn => assumption); (case hl => exact rfl))
  | ((with_reducible refine' e_meth ?hv ?hl ?_); (case hv => assumption); (case hl => exact rfl))
  | (with_reducible refine iteF ?_))

/-! ### data as traces -/
def wdOf : PyData → Wd
  | .str x => if x = "below" then .lo else if x = "above" then .hi else .ltr (x.cps.toList.headD 0)
  | _ => .lo
def trOf : PyData → List Wd
  | .tuple ds => ds.map wdOf
  | _ => []
def tsOf : PyData → List (List Wd)
  | .tuple ds => ds.map trOf
  | _ => []
theorem isLetter_len {x : Str} (h : isLetterD (.str x) = true) : x.length = 1 := by
  have : (decide (x.length = 1) && x.cps.toList.all fun c => decide (c ∈ letters.cps.toList)) = true := h
  rw [Bool.and_eq_true, decide_eq_true_eq] at this
  exact this.1
theorem wd_of {d : PyData} (h : isWordD d = true) : d = wdD (wdOf d) ∧ isLetterD d = isL (wdOf d) := by
  unfold isWordD at h
  cases hl : isLetterD d with
  | true =>
    cases d <;> try (exact absurd (show false = true from hl) Bool.false_ne_true)
    rename_i x
    obtain ⟨c, rfl⟩ := str_one (isLetter_len hl)
    have e : wdOf (.str ⟨#[c]⟩) = .ltr c := by
      show (if (⟨#[c]⟩ : Str) = "below" then Wd.lo else if (⟨#[c]⟩ : Str) = "above" then .hi else .ltr _) = _
      have ne : ∀ y : Str, y.length = 5 → (⟨#[c]⟩ : Str) ≠ y := fun y hy z => by
        rw [← z] at hy
        exact absurd (show (1 : Nat) = 5 from hy) (by decide)
      rw [if_neg (ne _ rfl), if_neg (ne _ rfl)]
      rfl
    rw [e]
    exact ⟨rfl, rfl⟩
  | false =>
    rw [hl, Bool.false_or] at h
    have h2 : (PyData.eqv (.str "below") d || (PyData.eqv (.str "above") d || false)) = true := h
    cases d with
    | str y =>
      have e1 : PyData.eqv (.str "below") (.str y) = (Str.ofString "below" == y) := by unfold PyData.eqv; rfl
      have e2 : PyData.eqv (.str "above") (.str y) = (Str.ofString "above" == y) := by unfold PyData.eqv; rfl
      rw [e1, e2, Bool.or_false, Bool.or_eq_true, beq_iff_eq, beq_iff_eq] at h2
      rcases h2 with rfl | rfl
      · exact ⟨rfl, rfl⟩
      · exact ⟨rfl, rfl⟩
    | _ => exfalso; revert h2; simp [PyData.eqv]
theorem tr_of {d : PyData} (h : isTraceD d = true) : d = trD (trOf d) ∧ ∀ w ∈ trOf d, isLetterD (wdD w) = isL w := by
  cases d <;> try (exact absurd (show false = true from h) Bool.false_ne_true)
  rename_i ds
  have h2 : ∀ d ∈ ds, isWordD d = true := List.all_eq_true.mp h
  refine ⟨?_, ?_⟩
  · show PyData.tuple ds = .tuple ((ds.map wdOf).map wdD)
    rw [List.map_map]
    congr 1
    conv => lhs; rw [← List.map_id ds]
    exact List.map_congr_left fun d hd => (wd_of (h2 d hd)).1
  · intro w hw
    obtain ⟨d, hd, rfl⟩ := List.mem_map.mp (show w ∈ ds.map wdOf from hw)
    obtain ⟨e1, e2⟩ := wd_of (h2 d hd)
    rw [← e2, ← e1]
theorem ts_of {d : PyData} (h : isTracesD d = true) : d = .tuple ((tsOf d).map trD) ∧ 2 ≤ (tsOf d).length ∧ ∀ t ∈ tsOf d, ∀ w ∈ t, isLetterD (wdD w) = isL w := by
  cases d <;> try (exact absurd (show false = true from h) Bool.false_ne_true)
  rename_i ds
  have h1 : (decide (2 ≤ ds.length) && ds.all isTraceD) = true := h
  rw [Bool.and_eq_true, decide_eq_true_eq] at h1
  have h2 : ∀ d ∈ ds, isTraceD d = true := List.all_eq_true.mp h1.2
  refine ⟨?_, ?_, ?_⟩
  · show PyData.tuple ds = .tuple ((ds.map trOf).map trD)
    rw [List.map_map]
    congr 1
    conv => lhs; rw [← List.map_id ds]
    exact List.map_congr_left fun d hd => (tr_of (h2 d hd)).1
  · show 2 ≤ (ds.map trOf).length
    rw [List.length_map]
    exact h1.1
  · intro t ht
    obtain ⟨d, hd, rfl⟩ := List.mem_map.mp (show t ∈ ds.map trOf from ht)
    exact (tr_of (h2 d hd)).2
def pairD (x : Nat × Nat) : PyData := .tuple [.str ⟨#[x.1]⟩, .int (x.2 : Nat)]
def outD (o : Out) : PyData := .tuple (o.map pairD)
def Tn (T : List (List Wd)) (i : Nat) : List Wd := T.getD i []
theorem Tn_get {T : List (List Wd)} {i : Nat} {t : List Wd} (h : T[i]? = some t) : Tn T i = t := by
  unfold Tn
  rw [List.getD_eq_getElem?_getD, h]
  rfl
def optD : Option Out → PyData
  | none => .none
  | some o => outD o
def dueD (T : List (List Wd)) : PyData := optD (due T.length (Tn T))
def resD (d : PyData) : PyData := if isTracesD d = true then dueD (tsOf d) else .none
theorem letters_filter : ∀ t : List Wd, (lettersOf t).length = (t.filter isL).length
  | [] => rfl
  | .ltr c :: t => by
    have := letters_filter t
    show (lettersOf (.ltr c :: t)).length = _
    unfold lettersOf at *
    simp [List.filterMap_cons, ltrOf, List.filter_cons, isL, this]
  | .lo :: t => by
    have := letters_filter t
    unfold lettersOf at *
    simp [List.filterMap_cons, ltrOf, List.filter_cons, isL, this]
  | .hi :: t => by
    have := letters_filter t
    unfold lettersOf at *
    simp [List.filterMap_cons, ltrOf, List.filter_cons, isL, this]
theorem sum_cast : ∀ l : List Nat, ((l.map fun n : Nat => (n : Int)).sum) = ((l.sum : Nat) : Int)
  | [] => rfl
  | a :: l => by
    simp only [List.map_cons, List.sum_cons]
    rw [sum_cast l]
    omega
theorem range_map_Tn (T : List (List Wd)) : (List.range T.length).map (Tn T) = T := by
  apply List.ext_getElem?
  intro i
  rw [List.getElem?_map]
  by_cases h : i < T.length
  · rw [List.getElem?_range h, List.getElem?_eq_getElem h]
    exact congrArg some (Tn_get (List.getElem?_eq_getElem h))
  · rw [List.getElem?_eq_none (by simpa using h), List.getElem?_eq_none (by omega)]
    rfl
theorem total_eq (T : List (List Wd)) : total T.length (Tn T) = (T.map fun t => (lettersOf t).length).sum := by
  unfold total
  conv => rhs; rw [← range_map_Tn T]
  rw [List.map_map]
  rfl
section
variable {P : Program} {w : World} {K : PySem.W.Frag} {mg : Str → Option Value} {base : Heap} {D : Ad}
theorem DqAll.free {M : Addr → Prop} {H : Hp} {v : List V} {d : List PyData} (h : DqAll K M H v d) : DqAll K M0 H v d := h.avoid fun _ z => False.elim z
/-- the loop's heap: the followers' list at L, the output's at l -/
structure Lp (K : PySem.W.Frag) (C : Addr) (T : List (List Wd)) (xs : List V) (L l : Addr) (as : List Addr) (o : Out) (ms : Nat → Nat) (H : Hp) : Prop where
  fl : H L = some (.lst (as.map V.ref))
  ol : ∃ ys, H l = some (.lst ys) ∧ DqAll K (fun a => a ∈ as ∨ a = l) H ys (o.map pairD)
  tr : DqAll K (fun a => a ∈ as ∨ a = l) H xs (T.map trD)
  fo : ∀ j a, as[j]? = some a → ∃ x, xs[j]? = some x ∧ FolAt C H a j x (ms j)
  nd : as.Nodup
  al : as.length = T.length
  ne : L ≠ l
theorem Lp.same {C : Addr} {T : List (List Wd)} {xs : List V} {L l : Addr} {as : List Addr} {o : Out} {ms : Nat → Nat} {H H' : Hp} (h : Lp K C T xs L l as o ms H) (s : Same H H') : Lp K C T xs L l as o ms H' :=
  ⟨s _ _ h.fl, let ⟨ys, h1, h2⟩ := h.ol; ⟨ys, s _ _ h1, h2.same s⟩, h.tr.same s, fun j a e => let ⟨x, h1, h2⟩ := h.fo j a e; ⟨x, h1, h2.same s⟩, h.nd, h.al, h.ne⟩
theorem Lp.fol {C : Addr} {T : List (List Wd)} {xs : List V} {L l : Addr} {as : List Addr} {o : Out} {ms : Nat → Nat} {H : Hp} (h : Lp K C T xs L l as o ms H) (hm : ∀ j, j < T.length → ms j ≤ (Tn T j).length) (hT : ∀ t ∈ T, t.length ≤ 90000) {j : Nat} {a : Addr} (ha : as[j]? = some a) :
    FolOk K C H a j (Tn T j) (ms j) := by
  obtain ⟨x, h1, h2⟩ := h.fo j a ha
  obtain ⟨d, h3, h4⟩ := h.tr.get h1
  rw [List.getElem?_map] at h3
  cases e : T[j]? with
  | none => rw [e] at h3; cases h3
  | some t =>
    rw [e] at h3
    cases h3
    rw [Tn_get e]
    have hj := (List.getElem?_eq_some_iff.mp e).1
    have := hm j hj
    rw [Tn_get e] at this
    exact ⟨_, x, h2, h4, this, hT t (List.mem_of_getElem? e)⟩
theorem Lp.apart {C : Addr} {T : List (List Wd)} {xs : List V} {L l : Addr} {as : List Addr} {o : Out} {ms : Nat → Nat} {H : Hp} (h : Lp K C T xs L l as o ms H) {a : Addr} (ha : a ∈ as) : a ≠ L ∧ a ≠ l := by
  obtain ⟨j, hj⟩ := List.getElem?_of_mem ha
  obtain ⟨x, _, dx, e⟩ := h.fo j a hj
  refine ⟨?_, ?_⟩
  · rintro rfl; rw [h.fl] at e; cases e
  · rintro rfl; obtain ⟨ys, h1, _⟩ := h.ol; rw [h1] at e; cases e
def sp_output_of (K : PySem.W.Frag) : Sp := fun vs H Q _ => ∃ (M : Addr → Prop) (v : V) (d : PyData) (h n : Nat), vs = [v] ∧ Dq K M H v d ∧ (isTy "tuple" d = true → Fit h n d) ∧ h ≤ 50 ∧ n ≤ 90000 ∧
  ∀ v' H', Same H H' → Dq K M0 H' v' (resD d) → Q v' H'
theorem ok_output_of (T : Txt K mg D) {k : Nat} : FnOk P w K mg base CX0 (k + 4) D.f_output_of D.d_output_of P_output_of (sp_output_of K) := by
  have cl := T.cl_Follower
  have n1 := T.n_Follower_own_position
  have G_are_traces : FnOk P w K mg base CX0 (k + 3) D.f_are_traces D.d_are_traces P_are_traces (sp_are_traces K) := ok_are_traces T
  have G_is_letter : FnOk P w K mg base CX0 (k + 3) D.f_is_letter D.d_is_letter P_is_letter (sp_is_letter K) := ok_is_letter T
  have G_Follower_init : FnOk P w K mg base CX0 (k + 2) D.f_Follower_init D.d_Follower_init P_Follower_init (sp_init D.c_Follower) := ok_Follower_init T
  have G_Follower_next_word : FnOk P w K mg base CX0 (k + 3) D.f_Follower_next_word D.d_Follower_next_word P_Follower_next_word (sp_next K D.c_Follower) := ok_Follower_next_word T
  have G_Follower_lets : FnOk P w K mg base CX0 (k + 3) D.f_Follower_lets D.d_Follower_lets P_Follower_lets (sp_lets K D.c_Follower) := ok_Follower_lets T
  have G_Follower_go_on : FnOk P w K mg base CX0 (k + 3) D.f_Follower_go_on D.d_Follower_go_on P_Follower_go_on (sp_go K D.c_Follower) := ok_Follower_go_on T
  refine T.f_output_of.ok sc_output_of (fun vs H Q E h => ?_) (fun cdv A outer s H vs Q E hr h => ?_)
  · obtain ⟨M, v, d, h, n, rfl, _⟩ := h
    rfl
  · obtain ⟨M, v, d, h, n, rfl, hd, hf, hh, hn, q⟩ := h
    refine ⟨_, (pss_cons (ps_if (pt_not (pt_val (pe_call G_are_traces hr (by rfl) T.g_are_traces T.f_are_traces.kp T.b_are_traces .nil pass0 (pa_cons (pv 0) pa_nil)))) (pss_one (ps_ret pe_non)) pss_nil)
      (pss_cons (ps_set (i := 1) sc_output_of.nd rfl (by first | exact .inl rfl | exact .inr rfl) (pe_lc (own := [("position", 6), ("trace", 7)]) (g := gTup K 2 (gCons (gName 6) (gCons (gName 7) gNil))) (tt := tYes) (by rfl) sc_output_of.nd (pi_enumTK (K := K) (by rfl) (by rfl) T.z_enumerate (pa_cons (pv 0) pa_nil)) (blkOk_by (own := [("position", 6), ("trace", 7)]) (N := N_output_of) (sc := defScope s_output_of) (by decide +kernel)) (fun _ _ _ _ _ => (pg_tup (by rfl) (pgs_cons (pg_name (i := 6) sc_output_of.nd rfl (by first | exact .inl rfl | exact .inr rfl)) (pgs_cons (pg_name (i := 7) sc_output_of.nd rfl (by first | exact .inl rfl | exact .inr rfl)) pgs_nil)))) (fun _ _ _ _ _ => pts_nil) (fun _ _ _ _ _ => (pe_make T.mk_Follower G_Follower_init hr (by rfl) T.g_Follower T.b_Follower_init .nil pass0 (pa_cons (pv 6) (pa_cons (pv 7) pa_nil))))))
      (pss_cons (ps_par (i := 2) (j := 3) (by rfl) sc_output_of.nd rfl rfl (by decide) rfl rfl (pa_cons (pe_lst pa_nil) (pa_cons (pe_callB (callK (K := K) (r := rSum) (by rfl) (cr_sum rfl)) (by rfl) T.z_sum (by decide +kernel) (pa_cons (pe_lc (own := [("trace", 7)]) (g := gName 7) (tt := tYes) (by rfl) sc_output_of.nd (pi_tupK (K := K) (by rfl) (pv 0)) (blkOk_by (own := [("trace", 7)]) (N := N_output_of) (sc := defScope s_output_of) (by decide +kernel)) (fun _ _ _ _ _ => (pg_name (i := 7) sc_output_of.nd rfl (by first | exact .inl rfl | exact .inr rfl))) (fun _ _ _ _ _ => pts_nil) (fun _ _ _ _ _ => (pe_callB (callK (K := K) (r := qLen) (by rfl) q_len) (by rfl) T.z_len (by decide +kernel) (pa_cons (pe_lc (own := [("word", 9)]) (g := gName 9)  (by rfl) sc_output_of.nd (pi_tupK (K := K) (by rfl) (pv 7)) (blkOk_by (own := [("word", 9)]) (by rfl)) (fun _ _ _ _ _ => (pg_name (i := 9) sc_output_of.nd rfl (by first | exact .inl rfl | exact .inr rfl))) (fun _ _ _ _ _ => (pts_one (pt_val (pe_call G_is_letter hr (by rfl) T.g_is_letter T.f_is_letter.kp T.b_is_letter .nil pass0 (pa_cons (pv 9) pa_nil))))) (fun _ _ _ _ _ => (pv 9))) pa_nil)))) pa_nil)) pa_nil)) (by rfl))
      (pss_cons (ps_while PassesOwn.never (pt_cmpR op_lt (pe_callB (callK (K := K) (r := qLen) (by rfl) q_len) (by rfl) T.z_len (by decide +kernel) (pa_cons (pv 2) pa_nil)) (pv 3) (nomark _)) (pss_cons (ps_setLc (i := 4) (own := [("one", 8)]) (g := gName 8)  (by rfl) sc_output_of.nd rfl rfl (sw_true rfl rfl rfl (by decide +kernel)) (pi_listK (K := K) (by rfl) (pv 1)) (blkOk_by (own := [("one", 8)]) (N := N_output_of) (sc := defScope s_output_of) (by decide +kernel)) (fun _ _ _ _ _ => (pg_name (i := 8) sc_output_of.nd rfl (by first | exact .inl rfl | exact .inr rfl))) (fun _ _ _ _ _ => (pts_one (pt_val (pe_callB (callK (K := K) (r := rAll) (by rfl) (cr_all rfl)) (by rfl) T.z_all (by decide +kernel) (pa_cons (pe_lc (own := [("other", 10)]) (g := gName 10) (tt := tYes) (by rfl) sc_output_of.nd (pi_listK (K := K) (by rfl) (pv 1)) (blkOk_by (own := [("other", 10)]) (by rfl)) (fun _ _ _ _ _ => (pg_name (i := 10) sc_output_of.nd rfl (by first | exact .inl rfl | exact .inr rfl))) (fun _ _ _ _ _ => pts_nil) (fun _ _ _ _ _ => (pe_meth (pv 10) T.cl_Follower T.m_Follower_lets G_Follower_lets hr T.b_Follower_lets .nil pass0 (pa_cons (pe_fldK (K := K) (by rfl) (pv 8) (by rfl)) pa_nil)))) pa_nil))))) (fun _ _ _ _ _ => (pe_fldK (K := K) (by rfl) (pv 8) (by rfl))))
      (pss_cons (ps_if (pt_cmpR (opK (K := K) (r := rEqQ) (by rfl) (op_eqQ hr.units)) (pv 4) (pe_lst pa_nil) (nomark _)) (pss_one (ps_ret pe_non)) pss_nil)
      (pss_cons (ps_expr (pe_bm PySem.F.plainAttrs_list PySem.F.slot_list_append PySem.F.type_list_append mt_append (pv 2) (pa_cons (pe_tup (pa_cons (pe_meth0 (pe_ix (ixK (K := K) (r := rIxL) (by rfl) ix_list) (pv 1) (pe_ix (ixK (K := K) (r := rIxL) (by rfl) ix_list) (pv 4) pe_int (fun _ _ => rfl)) (fun _ _ => rfl)) T.cl_Follower T.m_Follower_next_word G_Follower_next_word hr T.b_Follower_next_word .nil pass0) (pa_cons (pe_ix (ixK (K := K) (r := rIxL) (by rfl) ix_list) (pv 4) pe_int (fun _ _ => rfl)) pa_nil))) pa_nil)))
      (pss_one (ps_for PassesOwn.never rfl (pi_listK (K := K) (by rfl) (pv 1)) (pg_name (i := 5) sc_output_of.nd rfl (by first | exact .inl rfl | exact .inr rfl)) (pss_one (ps_expr (pe_meth (pv 5) T.cl_Follower T.m_Follower_go_on G_Follower_go_on hr T.b_Follower_go_on .nil pass0 (pa_cons (pe_ix (ixK (K := K) (r := rIxL) (by rfl) ix_list) (pv 4) pe_int (fun _ _ => rfl)) pa_nil))))))))))
      (pss_one (ps_ret (pe_ifExp (pt_val (pe_callB (callK (K := K) (r := rAll) (by rfl) (cr_all rfl)) (by rfl) T.z_all (by decide +kernel) (pa_cons (pe_lc (own := [("one", 8)]) (g := gName 8) (tt := tYes) (by rfl) sc_output_of.nd (pi_listK (K := K) (by rfl) (pv 1)) (blkOk_by (own := [("one", 8)]) (N := N_output_of) (sc := defScope s_output_of) (by decide +kernel)) (fun _ _ _ _ _ => (pg_name (i := 8) sc_output_of.nd rfl (by first | exact .inl rfl | exact .inr rfl))) (fun _ _ _ _ _ => pts_nil) (fun _ _ _ _ _ => (pe_cmpR o_isN (pe_meth0 (pv 8) T.cl_Follower T.m_Follower_next_word G_Follower_next_word hr T.b_Follower_next_word .nil pass0) pe_non (nomark _)))) pa_nil))) (pe_callTy (callK (K := K) (r := qTupOf) (by rfl) q_tupOf) (by rfl) T.z_tuple (by decide +kernel) (pa_cons (pv 2) pa_nil)) pe_non))))))), ?_⟩
    repeat walk_at "st"
    refine ⟨M, v, d, h, n, rfl, hd, hf, hh, hn, fun H1 s1 => ?_⟩
    unfold resD at q
    cases hT : isTracesD d with
    | false =>
      rw [hT, if_neg Bool.false_ne_true] at q
      repeat walk_at "st"
      exact q .non H1 s1 .non
    | true =>
    rw [hT, if_pos rfl] at q
    have hty : isTy "tuple" d = true := by
      cases d <;> first | rfl | exact absurd (show false = true from hT) Bool.false_ne_true
    replace hf := hf hty
    obtain ⟨hdT, hlen2, hlet⟩ := ts_of hT
    generalize tsOf d = T at hdT hlen2 hlet q
    subst hdT
    obtain ⟨a, xs, rfl, hx, hxs⟩ := (hd.free.same s1).tupE
    have hxl : xs.length = T.length := by rw [hxs.length, List.length_map]
    have hTl : T.length ≤ 90002 := by
      have := tup_len hf.sm
      rw [List.length_map] at this
      omega
    have hft : ∀ t ∈ T, Fit h n (trD t) := fun t ht => hf.item (List.mem_map_of_mem ht)
    have htl : ∀ t ∈ T, t.length ≤ 90000 := fun t ht => by
      have h1 := sumLen_two (t.map wdD)
      have h2 := sumLen_shown (t.map wdD)
      have h3 : (PyData.shown (.tuple (t.map wdD))).length ≤ n := (hft t ht).sm.sz
      rw [List.length_map] at h1
      omega
    repeat walk_at "st"
    refine e_lcEnT hx.t (fun L i H' => ∃ as : List Addr, as.length = i ∧ H' L = some (.lst (as.map V.ref)) ∧ as.Nodup ∧ (∀ b ∈ as, H1 b = none) ∧ (∀ j b, as[j]? = some b → ∃ x, xs[j]? = some x ∧ FolAt D.c_Follower H' b j x 0) ∧ Same H1 H') ?_ ?_ ?_ ?_
    · intro L H' nL hL sL
      exact ⟨[], rfl, hL, List.nodup_nil, by simp, by simp, sL⟩
    · rintro L i H' nL ⟨as, _, _, _, _, _, s'⟩
      exact ((SameM.of s').t hx).t
    · rintro L i x t H' H2 nL hxi ⟨as, hal, hL, hnd, hnone, hfo, s'⟩ nt ht s2
      have hi : i < T.length := by rw [← hxl]; exact (List.getElem?_eq_some_iff.mp hxi).1
      repeat walk_at "st"
      refine e_gtup2 (SqT.of ht) ?_
      repeat walk_at "st"
      refine e_make fun b dx H3 nb hb s3 => ?_
      refine ⟨b, dx, i, x, rfl, hb, fun H4 hf4 s4 => ⟨rfl, ?_⟩⟩
      have h2L := s2 _ _ hL
      have nbL : b ≠ L := fun z => by rw [z] at nb; rw [h2L] at nb; cases nb
      have hL4 : H4 L = some (.lst (as.map V.ref)) := s4 _ _ (fun z => nbL z.symm) (s3 _ _ h2L)
      refine e_app hL4 (by simp; omega) fun H5 h5 s5 => ?_
      have hbas : b ∉ as := fun z => by
        obtain ⟨j, hj⟩ := List.getElem?_of_mem z
        obtain ⟨x', _, dx', e⟩ := hfo j b hj
        rw [s2 _ _ e] at nb; cases nb
      have nb1 : H1 b = none := none_back (s'.trans s2) nb
      refine ⟨as ++ [b], by simp [hal], by rw [h5]; simp, ?_, ?_, ?_, ?_⟩
      · rw [List.nodup_append]
        refine ⟨hnd, by simp, ?_⟩
        intro c hc d' hd' e
        rw [List.mem_singleton.mp hd'] at e
        rw [e] at hc
        exact hbas hc
      · intro c hc
        rcases List.mem_append.mp hc with hc | hc
        · exact hnone c hc
        · rw [List.mem_singleton.mp hc]; exact nb1
      · intro j c hj
        by_cases hji : j < as.length
        · rw [List.getElem?_append_left hji] at hj
          obtain ⟨x', e1, dx', e2⟩ := hfo j c hj
          refine ⟨x', e1, dx', ?_⟩
          have e3 := s3 _ _ (s2 _ _ e2)
          have hcb : c ≠ b := fun z => hbas (z ▸ List.mem_of_getElem? hj)
          have hcL : c ≠ L := fun z => by rw [z, hL] at e2; cases e2
          exact s5 _ _ hcL (s4 _ _ hcb e3)
        · rw [List.getElem?_append_right (by omega)] at hj
          have hj0 : j - as.length = 0 := by
            have := (List.getElem?_eq_some_iff.mp hj).1
            simp at this
            omega
          rw [hj0] at hj
          simp at hj
          subst hj
          have hji' : j = i := by omega
          subst hji'
          obtain ⟨dx', e⟩ := hf4
          exact ⟨x, hxi, dx', s5 _ _ nbL e⟩
      · intro c ob e
        have e3 := s3 _ _ (s2 _ _ (s' _ _ e))
        have hcb : c ≠ b := fun z => by rw [z, nb1] at e; cases e
        have hcL : c ≠ L := fun z => by rw [z, nL] at e; cases e
        exact s5 _ _ hcL (s4 _ _ hcb e3)
    rintro L H2 nL ⟨as, hal, hL, hnd, hnone, hfo, s2⟩
    rw [hxl] at hal
    repeat walk_at "st"
    refine e_lst fun l H3 nl hl3 s3 => ?_
    repeat walk_at "st"
    have hx3 : SqTm K M0 H3 a xs := (SameM.of (s2.trans s3)).t hx
    have hxs3 := hxs.same (s2.trans s3)
    refine e_lcT hx3.t (fun S i H' => H' S = some (.lst (((T.take i).map fun t => ((lettersOf t).length : Int)).map V.int)) ∧ Same H3 H') ?_ ?_ ?_ ?_
    · intro S H' nS hS sS
      exact ⟨hS, sS⟩
    · rintro S i H' nS ⟨_, s'⟩
      exact ((SameM.of s').t hx3).t
    · rintro S i x H' nS hxi ⟨hS, s'⟩
      obtain ⟨d, hd1, hd2⟩ := (hxs3.same s').get hxi
      rw [List.getElem?_map] at hd1
      cases et : T[i]? with
      | none => rw [et] at hd1; cases hd1
      | some t =>
      rw [et] at hd1
      cases hd1
      have hi := (List.getElem?_eq_some_iff.mp et).1
      have htm := List.mem_of_getElem? et
      obtain ⟨b, rfl, hb⟩ := tr_vals hd2
      repeat walk_at "st"
      refine e_lcT hb.t (fun S2 j H'' => H'' S2 = some (.lst (((t.take j).filter isL).map fun u => V.str (wdS u))) ∧ Same H' H'') ?_ ?_ ?_ ?_
      · intro S2 H'' nS2 hS2 sS2
        exact ⟨hS2, sS2⟩
      · rintro S2 j H'' nS2 ⟨_, s''⟩
        exact ((SameM.of s'').t hb).t
      · rintro S2 j x H'' nS2 hxj ⟨hS2, s''⟩
        rw [List.getElem?_map] at hxj
        cases eu : t[j]? with
        | none => rw [eu] at hxj; cases hxj
        | some u =>
        rw [eu] at hxj
        cases hxj
        have hum := List.mem_of_getElem? eu
        have hj := (List.getElem?_eq_some_iff.mp eu).1
        have htt := htl t htm
        repeat walk_at "st"
        refine ⟨M0, _, wdD u, _, _, rfl, .str _, ((hft t htm).item (List.mem_map_of_mem hum)).sm, by omega, ?_⟩
        rw [hlet t htm u hum]
        repeat walk_at "st"
        refine ite2 (fun g => ?_) (fun g => ?_)
        · repeat walk_at "st"
          refine e_app hS2 (by
            rw [List.length_map]
            have := List.length_filter_le isL (t.take j)
            rw [List.length_take] at this
            omega) fun H4 h4 s4 => ⟨?_, ?_⟩
          · rw [h4, List.take_add_one, eu]
            simp [List.filter_append, List.filter_cons, g]
          · intro c ob e
            exact s4 _ _ (fun z => by rw [z, nS2] at e; cases e) (s'' _ _ e)
        · refine ⟨?_, s''⟩
          rw [hS2, List.take_add_one, eu]
          simp [List.filter_append, List.filter_cons, g]
      · rintro S2 H'' nS2 ⟨hS2, s''⟩
        rw [List.length_map, List.take_length] at hS2
        repeat walk_at "st"
        refine e_app (s'' _ _ hS) (by simp; omega) fun H4 h4 s4 => ⟨?_, ?_⟩
        · rw [h4, List.take_add_one, et]
          simp [letters_filter]
        · intro c ob e
          exact s4 _ _ (fun z => by rw [z, nS] at e; cases e) (s'' _ _ (s' _ _ e))
    rintro S H4 nS ⟨hS, s4⟩
    rw [hxl, List.take_length] at hS
    repeat walk_at "st"
    refine b_sum (SqL.of hS) ?_
    have htot : (T.map fun t => ((lettersOf t).length : Int)).sum = (total T.length (Tn T) : Nat) := by
      rw [total_eq, ← sum_cast, List.map_map]
      rfl
    rw [htot]
    repeat walk_at "st"
    -- the loop
    have trk : ∀ b, (b ∈ as ∨ b = l) → H1 b = none := by
      rintro b (z | rfl)
      · exact hnone b z
      · exact none_back s2 nl
    have lp0 : Lp K D.c_Follower T xs L l as [] (fun j => (trace [] j).length) H4 := by
      refine ⟨s4 _ _ (s3 _ _ hL), ⟨[], s4 _ _ hl3, .nil⟩, ?_, ?_, hnd, hal, fun z => by rw [z, nl] at hL; cases hL⟩
      · exact (hxs.avoid (N := fun b => b ∈ as ∨ b = l) fun b z => .inr (trk b z)).same ((s2.trans s3).trans s4)
      · intro j b hj
        obtain ⟨x, e1, e2⟩ := hfo j b hj
        exact ⟨x, e1, (e2.same s3).same s4⟩
    have s04 := ((s1.trans s2).trans s3).trans s4
    have hcap : total T.length (Tn T) ≤ 90000 := by
      rw [total_eq]
      have : ∀ U : List (List Wd), (U.map fun t => (lettersOf t).length).sum ≤ sumLen (U.map trD) := by
        intro U
        induction U with
        | nil => simp [sumLen]
        | cons t U ih =>
          have h3 : (lettersOf t).length ≤ t.length := by rw [letters_filter]; exact List.length_filter_le _ _
          have h4 := sumLen_two (t.map wdD)
          have h5 := sumLen_shown (t.map wdD)
          rw [List.length_map] at h4
          have h6 : (trD t).shown = PyData.shown (.tuple (t.map wdD)) := rfl
          simp only [List.map_cons, List.sum_cons, sumLen]
          rw [h6]
          omega
      have h1 := this T
      have h2 := sumLen_shown (T.map trD)
      have h3 := hf.sm.sz
      omega
    clear hS htot hfo hl3 hL hx3 hxs3
    refine ⟨fun mm σ H' => ∃ (kk : Nat) (o : Out) (s4 s5 : Option V), mm = total T.length (Tn T) - kk ∧ σ = [some (.ref a), some (.ref L), some (.ref l), some (.int (total T.length (Tn T) : Nat)), s4, s5, none, none, none, none, none] ∧
      kk ≤ total T.length (Tn T) ∧ greedy T.length (Tn T) kk = some o ∧ Lp K D.c_Follower T xs L l as o (fun j => (trace o j).length) H' ∧ Same H H', ⟨_, 0, [], none, none, rfl, rfl, Nat.zero_le _, rfl, lp0, s04⟩, ?_⟩
    rintro mm σ Hw ⟨kk, o, sl4, sl5, rfl, rfl, hkk, hgr, lp, sw⟩
    obtain ⟨hbeg, hpos, hol⟩ := greedy_ok hgr
    obtain ⟨ys, hys, hyd⟩ := lp.ol
    have hyl : ys.length = kk := by rw [hyd.length, List.length_map, hol]
    have hms : ∀ j, j < T.length → (trace o j).length ≤ (Tn T j).length := fun j hj => (hbeg.at hj).2
    have hfl := lp.fl
    have aget : ∀ j, j < T.length → ∃ b, as[j]? = some b := fun j hj => ⟨as[j]'(by rw [hal]; exact hj), List.getElem?_eq_getElem _⟩
    repeat walk_at "st"
    refine ite2 (fun g => ?_) (fun g => ?_)
    · -- one more
      have g' : kk < total T.length (Tn T) := by
        have := of_decide_eq_true g
        omega
      refine ⟨fun σ' H' => ∃ mm, mm < total T.length (Tn T) - kk ∧ ∃ (kk : Nat) (o : Out) (s4 s5 : Option V), mm = total T.length (Tn T) - kk ∧ σ' = [some (.ref a), some (.ref L), some (.ref l), some (.int (total T.length (Tn T) : Nat)), s4, s5, none, none, none, none, none] ∧
        kk ≤ total T.length (Tn T) ∧ greedy T.length (Tn T) kk = some o ∧ Lp K D.c_Follower T xs L l as o (fun j => (trace o j).length) H' ∧ Same H H', fun σ' H' z => z, ?_⟩
      repeat walk_at "st"
      refine e_lcL (SqL.of hfl) (fun S i H' => H' S = some (.lst (((List.range i).filter (letAll T.length (Tn T) o)).map fun p => V.int (p : Nat))) ∧ Same Hw H') ?_ ?_ ?_ ?_
      · intro S H' nS hS sS
        exact ⟨hS, sS⟩
      · rintro S i H' nS ⟨_, s'⟩
        exact SqL.of (s' _ _ hfl)
      · rintro S i x H' nS hxi ⟨hS, s'⟩
        rw [List.getElem?_map] at hxi
        cases eb : as[i]? with
        | none => rw [eb] at hxi; cases hxi
        | some b =>
        rw [eb] at hxi
        cases hxi
        have hi : i < T.length := by rw [← hal]; exact (List.getElem?_eq_some_iff.mp eb).1
        have lp' := lp.same s'
        obtain ⟨xb, _, dxb, hb⟩ := lp'.fo i b eb
        repeat walk_at "st"
        refine e_lcL (SqL.of lp'.fl) (fun S2 j H'' => H'' S2 = some (.lst (((List.range j).map fun q => lets (Tn T q) (trace o q).length q i).map V.bl)) ∧ Same H' H'') ?_ ?_ ?_ ?_
        · intro S2 H'' nS2 hS2 sS2
          exact ⟨hS2, sS2⟩
        · rintro S2 j H'' nS2 ⟨_, s''⟩
          exact SqL.of (s'' _ _ lp'.fl)
        · rintro S2 j x H'' nS2 hxj ⟨hS2, s''⟩
          rw [List.getElem?_map] at hxj
          cases ec : as[j]? with
          | none => rw [ec] at hxj; cases hxj
          | some c =>
          rw [ec] at hxj
          cases hxj
          have hj : j < T.length := by rw [← hal]; exact (List.getElem?_eq_some_iff.mp ec).1
          have lp'' := lp'.same s''
          obtain ⟨xc, _, dxc, hc⟩ := lp''.fo j c ec
          have hb' := s'' _ _ hb
          have fk := lp''.fol hms htl ec
          repeat walk_at "st"
          refine ⟨c, j, Tn T j, (trace o j).length, i, rfl, fk, fun H5 s5 => ?_⟩
          repeat walk_at "st"
          refine e_app (s5 _ _ hS2) (by simp; omega) fun H6 h6 s6 => ⟨?_, ?_⟩
          · rw [h6, List.range_succ]; simp
          · intro d ob e
            exact s6 _ _ (fun z => by rw [z, nS2] at e; cases e) (s5 _ _ (s'' _ _ e))
        · rintro S2 H'' nS2 ⟨hS2, s''⟩
          rw [List.length_map, hal] at hS2
          repeat walk_at "st"
          refine b_all (SqL.of hS2) ?_
          have e1 : ((List.range T.length).map fun q => lets (Tn T q) (trace o q).length q i).all id = letAll T.length (Tn T) o i := by
            rw [List.all_map]; rfl
          rw [e1]
          have hb' := s'' _ _ hb
          repeat walk_at "st"
          refine ite2 (fun g1 => ?_) (fun g1 => ?_)
          · repeat walk_at "st"
            refine e_app (s'' _ _ hS) (by
              rw [List.length_map]
              have := List.length_filter_le (letAll T.length (Tn T) o) (List.range i)
              rw [List.length_range] at this
              omega) fun H6 h6 s6 => ⟨?_, ?_⟩
            · rw [h6, List.range_succ]; simp [List.filter_append, List.filter_cons, g1]
            · intro d ob e
              exact s6 _ _ (fun z => by rw [z, nS] at e; cases e) (s'' _ _ (s' _ _ e))
          · refine ⟨?_, s'.trans s''⟩
            rw [s'' _ _ hS, List.range_succ]; simp [List.filter_append, List.filter_cons, g1]
      rintro S H5 nS ⟨hS, s5⟩
      rw [List.length_map, hal] at hS
      have hnx : (List.range T.length).filter (letAll T.length (Tn T) o) = nexts T.length (Tn T) o := rfl
      rw [hnx] at hS
      have lp5 := lp.same s5
      repeat walk_at "st"
      refine e_lst fun e0 H6 ne0 he0 s6 => ?_
      have hint : ∀ (ps : List Nat), DqAll K M0 H6 (ps.map fun p => V.int (p : Nat)) (ps.map fun p => PyData.int (p : Nat)) := by
        intro ps
        induction ps with
        | nil => exact .nil
        | cons p ps ih => exact .cons (.int _) ih
      have hSd : Dq K M0 H6 (.ref S) (.list ((nexts T.length (Tn T) o).map fun p => PyData.int (p : Nat))) := Dq.newL (fun z => z) (s6 _ _ hS) (hint _)
      have lp6 := lp5.same s6
      rcases nexts_one hbeg hpos with z | ⟨p, hp, hlp, z⟩
      · rw [z] at hSd
        refine ⟨M0, M0, _, _, hSd, Dq.newL (ds := []) (fun z => z) he0 .nil, by decide +kernel, by decide +kernel, ?_⟩
        repeat walk_at "st"
        refine q .non H6 ((sw.trans s5).trans s6) ?_
        have hg1 : greedy T.length (Tn T) (kk + 1) = none := by
          unfold greedy
          rw [hgr]
          simp only [z]
        unfold dueD
        rw [due_none hg1 (by omega)]
        exact .non
      · rw [z] at hSd hS
        have sh1 : SeqAt.shaped (PyData.list [PyData.int (p : Nat)]) = true := by
          unfold SeqAt.shaped
          simp [PyData.canLay0, PyData.canLayAll0, PyData.depth, PyData.depthAll]
        refine ⟨M0, M0, _, _, hSd, Dq.newL (ds := []) (fun z => z) he0 .nil, sh1, by decide +kernel, ?_⟩
        have e2 : PyData.eqv (PyData.list (List.map (fun p : Nat => PyData.int (p : Nat)) [p])) (PyData.list []) = false := by
          simp [PyData.eqv, PyData.eqvAll]
        rw [e2]
        have hS6 := s6 _ _ hS
        have hl6 := lp6.ol
        obtain ⟨ys6, hys6, hyd6⟩ := hl6
        have hyl6 : ys6.length = kk := by rw [hyd6.length, List.length_map, hol]
        obtain ⟨b, hb⟩ := aget p hp
        repeat walk_at "st"
        refine b_ixL (SqL.of lp6.fl) (atI_nat (j := p) (v := V.ref b) ?_) ?_
        · rw [List.getElem?_map, hb]; rfl
        obtain ⟨xb, hxb, dxb, hb6⟩ := lp6.fo p b hb
        have fk := lp6.fol hms htl hb
        repeat walk_at "st"
        refine ⟨b, p, Tn T p, (trace o p).length, rfl, fk, ?_⟩
        rw [let_ltr hp hlp]
        repeat walk_at "st"
        refine e_tup fun t H7 nt ht s7 => ?_
        repeat walk_at "st"
        have hys7 := s7 _ _ hys6
        refine e_append hys7 (by omega) fun H8 h8 s8 => ?_
        have lp7 := lp6.same s7
        have nML : ∀ c, (c ∈ as ∨ c = l) → H6 c ≠ none := by
          rintro c (hc | rfl) zz
          · obtain ⟨j, hj⟩ := List.getElem?_of_mem hc
            obtain ⟨_, _, _, e⟩ := lp6.fo j c hj
            rw [zz] at e; cases e
          · rw [hys6] at zz; cases zz
        have ntM : ¬ (t ∈ as ∨ t = l) := fun zz => nML t zz nt
        have sM8 : SameM (fun c => c ∈ as ∨ c = l) H7 H8 := s8.sub fun c hc => .inr hc
        have htl8 : H8 t = some (.tup [.str ⟨#[ltrAt (Tn T) o p]⟩, .int (p : Nat)]) := s8 _ _ (fun zz => ntM (.inr zz)) ht
        have hLl := lp7.ne
        have hLt : L ≠ t := fun zz => by rw [← zz, lp6.fl] at nt; cases nt
        have hSl : S ≠ l := fun zz => by rw [zz, hys] at nS; cases nS
        have hnH : ∀ c, (c ∈ as ∨ c = l) → H c = none := fun c hc => none_back s1 (trk c hc)
        have sH8 : Same H H8 := Same.new (((sw.trans s5).trans s6).trans s7) sM8 hnH
        have hfl8 : H8 L = some (.lst (as.map V.ref)) := s8 _ _ hLl lp7.fl
        have hS8 : H8 S = some (.lst [.int (p : Nat)]) := s8 _ _ hSl (s7 _ _ hS6)
        have lp8 : Lp K D.c_Follower T xs L l as (o ++ [(ltrAt (Tn T) o p, p)]) (fun q => (trace o q).length) H8 := by
          refine ⟨hfl8, ⟨_, h8, ?_⟩, lp7.tr.mono sM8, ?_, hnd, hal, hLl⟩
          · rw [List.map_append]
            refine ((hyd6.same s7).mono sM8).append (.cons ?_ .nil)
            exact Dq.newT ntM htl8 (.cons (.str _) (.cons (.int _) .nil))
          · intro j c hj
            obtain ⟨x, e1, dx, e2⟩ := lp7.fo j c hj
            exact ⟨x, e1, dx, s8 _ _ (lp7.apart (List.mem_of_getElem? hj)).2 e2⟩
        obtain ⟨hbeg', hgo'⟩ := begun_go hbeg hp hlp
        repeat walk_at "st"
        refine e_forL (SqL.of hfl8) (fun i σ H' => ∃ sl, σ = [some (.ref a), some (.ref L), some (.ref l), some (.int (total T.length (Tn T) : Nat)), some (.ref S), sl, none, none, none, none, none] ∧
          Lp K D.c_Follower T xs L l as (o ++ [(ltrAt (Tn T) o p, p)]) (fun q => if q < i then goOn (Tn T q) (trace o q).length q p else (trace o q).length) H' ∧ H' S = some (.lst [.int (p : Nat)]) ∧ Same H H') ?_ ?_ ?_ ?_
        · refine ⟨sl5, rfl, ?_, hS8, sH8⟩
          simpa using lp8
        · rintro i σ H' ⟨_, _, lp', _⟩
          exact SqL.of lp'.fl
        · rintro i x σ H' hxi ⟨sl, rfl, lp', hS', sH'⟩
          rw [List.getElem?_map] at hxi
          cases ec : as[i]? with
          | none => rw [ec] at hxi; cases hxi
          | some c =>
          rw [ec] at hxi
          cases hxi
          have hi : i < T.length := by rw [← hal]; exact (List.getElem?_eq_some_iff.mp ec).1
          have hcm := List.mem_of_getElem? ec
          obtain ⟨x, hx1, hx2⟩ := lp'.fo i c ec
          rw [if_neg (Nat.lt_irrefl i)] at hx2
          obtain ⟨d, hd1, hd2⟩ := lp'.tr.get hx1
          have hTi : T[i]? = some T[i] := List.getElem?_eq_getElem hi
          rw [List.getElem?_map, hTi] at hd1
          cases hd1
          rw [← Tn_get hTi] at hd2
          obtain ⟨dxc, hc'⟩ := id hx2
          repeat walk_at "st"
          have hlm : (Tn T i).length ≤ 90000 := by rw [Tn_get hTi]; exact htl _ (List.getElem_mem hi)
          refine ⟨_, c, i, Tn T i, (trace o i).length, p, x, rfl, hx2, hd2, hms i hi, hlm, fun H9 hf9 s9 => ?_⟩
          have sM9 : SameM (fun c => c ∈ as ∨ c = l) H' H9 := s9.sub fun d hd => .inl (by rw [hd]; exact hcm)
          have hSc : S ≠ c := fun zz => by rw [zz, hc'] at hS'; cases hS'
          obtain ⟨hcL, hcl⟩ := lp'.apart hcm
          repeat walk_at "st"
          refine ⟨_, rfl, ?_, s9 _ _ hSc hS', Same.new sH' sM9 hnH⟩
          obtain ⟨yz, hyz, hyzd⟩ := lp'.ol
          refine ⟨s9 _ _ (Ne.symm hcL) lp'.fl, ⟨yz, s9 _ _ (Ne.symm hcl) hyz, hyzd.mono sM9⟩, lp'.tr.mono sM9, ?_, hnd, hal, hLl⟩
          intro j d hj
          by_cases hji : j = i
          · subst hji
            rw [ec] at hj
            cases hj
            rw [if_pos (Nat.lt_succ_self j)]
            exact ⟨x, hx1, hf9⟩
          · obtain ⟨x', e1, dx', e2⟩ := lp'.fo j d hj
            have hdc : d ≠ c := fun zz => by
              subst zz
              have h1 := (List.getElem?_eq_some_iff.mp hj).1
              have h2 := (List.getElem?_eq_some_iff.mp ec).1
              exact hji ((List.getElem?_inj h1 hnd).mp (by rw [hj, ec]))
            have e3 : (if j < i + 1 then goOn (Tn T j) (trace o j).length j p else (trace o j).length) = (if j < i then goOn (Tn T j) (trace o j).length j p else (trace o j).length) := by
              by_cases z1 : j < i
              · rw [if_pos z1, if_pos (by omega)]
              · rw [if_neg z1, if_neg (by omega)]
            rw [e3]
            exact ⟨x', e1, dx', s9 _ _ hdc e2⟩
        · rintro σ H' ⟨sl, rfl, lp', _, sH'⟩
          rw [List.length_map, hal] at lp'
          refine ⟨total T.length (Tn T) - (kk + 1), by omega, kk + 1, o ++ [(ltrAt (Tn T) o p, p)], _, sl, rfl, rfl, by omega, ?_, ?_, sH'⟩
          · unfold greedy
            rw [hgr]
            simp only [z]
          · refine ⟨lp'.fl, lp'.ol, lp'.tr, fun j c hj => ?_, hnd, hal, hLl⟩
            have hjT : j < T.length := by rw [← hal]; exact (List.getElem?_eq_some_iff.mp hj).1
            obtain ⟨x, e1, e2⟩ := lp'.fo j c hj
            rw [if_pos hjT, ← hgo' j hjT] at e2
            exact ⟨x, e1, e2⟩
    · -- the end
      have g' : kk = total T.length (Tn T) := by
        have : ¬ ((ys.length : Int) < (total T.length (Tn T) : Nat)) := fun z => g (decide_eq_true z)
        omega
      subst g'
      repeat walk_at "st"
      refine e_lcL (SqL.of hfl) (fun S i H' => H' S = some (.lst (((List.range i).map fun q => decide ((Tn T q)[(trace o q).length]? = none)).map V.bl)) ∧ Same Hw H') ?_ ?_ ?_ ?_
      · intro S H' nS hS sS
        exact ⟨hS, sS⟩
      · rintro S i H' nS ⟨_, s'⟩
        exact SqL.of (s' _ _ hfl)
      · rintro S i x H' nS hxi ⟨hS, s'⟩
        rw [List.getElem?_map] at hxi
        cases ec : as[i]? with
        | none => rw [ec] at hxi; cases hxi
        | some c =>
        rw [ec] at hxi
        cases hxi
        have hi : i < T.length := by rw [← hal]; exact (List.getElem?_eq_some_iff.mp ec).1
        have lp' := lp.same s'
        have fk := lp'.fol hms htl ec
        obtain ⟨xc, _, dxc, hc⟩ := lp'.fo i c ec
        repeat walk_at "st"
        refine ⟨c, i, Tn T i, (trace o i).length, rfl, fk, ?_⟩
        repeat walk_at "st"
        have e1 : decide (wdV (Tn T i)[(trace o i).length]? = V.non) = decide ((Tn T i)[(trace o i).length]? = none) := by
          cases (Tn T i)[(trace o i).length]? with
          | none => rfl
          | some u => rfl
        rw [e1]
        refine e_app hS (by simp; omega) fun H6 h6 s6 => ⟨?_, ?_⟩
        · rw [h6, List.range_succ]; simp
        · intro d ob e
          exact s6 _ _ (fun z => by rw [z, nS] at e; cases e) (s' _ _ e)
      · rintro S H' nS ⟨hS, s'⟩
        rw [List.length_map, hal] at hS
        repeat walk_at "st"
        refine b_all (SqL.of hS) ?_
        have e1 : ((List.range T.length).map fun q => decide ((Tn T q)[(trace o q).length]? = none)).all id = fullB T.length (Tn T) o := by
          rw [List.all_map]; rfl
        rw [e1]
        repeat walk_at "st"
        unfold dueD due at q
        rw [hgr] at q
        simp only at q
        refine ite2 (fun g1 => ?_) (fun g1 => ?_)
        · rw [if_pos g1] at q
          repeat walk_at "st"
          refine e_tupL (SqL.of (s' _ _ hys)) fun t H6 nt ht s6 => ?_
          refine q _ H6 ((sw.trans s').trans s6) ?_
          exact Dq.newT (fun z => z) ht (((DqAll.free hyd).same s').same s6)
        · rw [if_neg g1] at q
          repeat walk_at "st"
          exact q _ H' (sw.trans s') .non
end
end K14

namespace K14
open PySem PySem.Spec PyProof.Rows L2 FG
local macro_rules | `(tactic| walk_at "sq") => `(tactic| first
  | assumption
  | exact SqL.of (by assumption)
  | exact SqT.of (by assumption)
  | exact SqLm.l (by assumption)
  | exact SqTm.t (by assumption))
local macro_rules | `(tactic| walk_at "cond") => `(tactic| first
  | assumption
  | (show (0 : Int) < _; omega)
  | (show (0 : Int) < _ ∧ _ < 1073741824; omega))
local macro_rules | `(tactic| walk_at "st") => `(tactic| first
  | with_reducible refine b_seq ?_
  | with_reducible refine b_asg ?_
  | with_reducible refine b_op ?_
  | ((with_reducible refine' b_var ?hv ?_); (case hv => exact rfl))
  | with_reducible refine b_c ?_
  | with_reducible refine b_name ?_
  | with_reducible refine b_I0 ?_
  | with_reducible refine b_cons ?_
  | with_reducible refine b_nil ?_
  | with_reducible refine b_cb ?_
  | with_reducible refine b_call ?_
  | with_reducible refine b_ret ?_
  | with_reducible refine b_ifS ?_
  | with_reducible refine b_test ?_
  | with_reducible refine b_tb ?_
  | with_reducible refine b_bl ?_
  | with_reducible refine b_blP ?_
  | with_reducible refine b_next ?_
  | with_reducible refine b_drop ?_
  | with_reducible refine b_sub ?_
  | with_reducible refine b_chain ?_
  | with_reducible refine b_and ?_
  | with_reducible refine b_or ?_
  | with_reducible refine b_not ?_
  | with_reducible refine b_andV ?_
  | with_reducible refine b_orV ?_
  | with_reducible refine b_notV ?_
  | with_reducible refine b_if ?_
  | with_reducible refine b_par ?_
  | with_reducible refine b_parE ?_
  | ((with_reducible refine' b_aug ?hv ?_); (case hv => exact rfl))
  | with_reducible refine b_ip ?_
  | with_reducible refine b_retN ?_
  | with_reducible refine b_tup ?_
  | with_reducible refine b_lst ?_
  | with_reducible refine b_sl ?_
  | with_reducible refine b_part ?_
  | with_reducible refine b_partP ?_
  | with_reducible refine b_nopart ?_
  | with_reducible refine b_bm ?_
  | with_reducible refine b_m1 ?_
  | with_reducible refine b_yes ?_
  | with_reducible refine b_un ?_
  | with_reducible refine b_neg ?_
  | with_reducible refine b_isN ?_
  | with_reducible refine b_notN ?_
  | with_reducible refine b_inS ?_
  | with_reducible refine b_int ?_
  | with_reducible refine b_intB ?_
  | with_reducible refine b_abs ?_
  | with_reducible refine b_max ?_
  | with_reducible refine b_min ?_
  | ((with_reducible refine b_eq ?hv ?_); (case hv => exact rfl))
  | ((with_reducible refine b_ne ?hv ?_); (case hv => exact rfl))
  | ((with_reducible refine' b_lenL ?hv ?_); (case hv => walk_at "sq"))
  | ((with_reducible refine' b_lenT ?hv ?_); (case hv => walk_at "sq"))
  | ((with_reducible refine' b_ixL ?hv ?hw ?_); (case hv => walk_at "sq"); (case hw => exact rfl))
  | ((with_reducible refine' b_ixT ?hv ?hw ?_); (case hv => walk_at "sq"); (case hw => exact rfl))
  | ((with_reducible refine b_I ?hv ?_); (case hv => walk_at "cond"))
  | with_reducible refine b_lcS ?_
  | with_reducible refine b_lcR ?_
  | with_reducible refine b_lcT ?_
  | with_reducible refine b_lcL ?_
  | with_reducible refine b_forT ?_
  | with_reducible refine b_forL ?_
  | with_reducible refine b_forR ?_
  | with_reducible refine b_turn ?_
  | ((with_reducible refine And.intro (a := wipe _ _ = wipe _ _) ?hv ?_); (case hv => exact rfl))
  | ((with_reducible refine And.intro (a := tyV _ "list" _ _) ?hv ?_); (case hv => exact ty_list (by assumption)))
  | with_reducible refine And.intro (a := ∃ a, V.str _ = V.str a) ⟨_, rfl⟩ ?_
  | (with_reducible refine iteT ?_)
  | (with_reducible refine iteNF ?_)
  | (with_reducible refine iteNT ?_)
  | (with_reducible refine iteVT ?_)
  | (with_reducible refine iteNVT ?_)
  | ((with_reducible refine iteVF ?hv ?_); (case hv => exact rfl))
  | ((with_reducible refine iteNVF ?hv ?_); (case hv => exact rfl))
  | with_reducible refine b_callS ?_
  | with_reducible refine b_xq ?_
  | with_reducible refine b_fld ?_
  | with_reducible refine b_sfld ?_
  | with_reducible refine b_meth ?_
  | with_reducible refine b_make ?_
  | with_reducible refine b_callK ?_
  | with_reducible refine b_sfa ?_
  | with_reducible refine b_lcEnT ?_
  | with_reducible refine b_lcEnL ?_
  | with_reducible refine b_forEnT ?_
  | with_reducible refine b_forEnL ?_
  | with_reducible refine b_lcZ ?_
  | with_reducible refine e_revT ?_
  | ((with_reducible refine' e_fld ?hv ?hc ?hn ?hl ?_); (case hv => assumption); (case hc => assumption); (case hn => assumption); (case hl => exact rfl))
  | ((with_reducible refine' e_meth ?hv ?hl ?_); (case hv => assumption); (case hl => exact rfl))
  | (with_reducible refine iteF ?_))

/-- letters of a text -/
def OkW : Wd → Prop
  | .ltr c => c < 1114112
  | _ => True
def OkO (o : Out) : Prop := ∀ x ∈ o, x.1 < 1114112
theorem wd_lay {w : Wd} (h : OkW w) : (wdD w).canLay0 = true := by
  cases w with
  | ltr c =>
    show PyData.canLay0 (.str ⟨#[c]⟩) = true
    simp [PyData.canLay0, PyData.strOk]
    exact h
  | lo => decide +kernel
  | hi => decide +kernel
theorem lay_map {ws : List Wd} (h : ∀ w ∈ ws, OkW w) : PyData.canLayAll0 (ws.map wdD) = true :=
  canLayAll_of fun d hd => by
    obtain ⟨w, hw, rfl⟩ := List.mem_map.mp hd
    exact wd_lay (h w hw)
theorem depth_map (ws : List Wd) : PyData.depthAll (ws.map wdD) = 0 := by
  have : PyData.depthAll (ws.map wdD) ≤ 0 := depthAll_of fun d hd => by
    obtain ⟨w, hw, rfl⟩ := List.mem_map.mp hd
    exact Nat.le_refl _
  omega
theorem shaped_tr {ws : List Wd} (h : ∀ w ∈ ws, OkW w) : SeqAt.shaped (trD ws) = true := by
  refine shaped_of ?_ ?_
  · unfold trD
    simp only [PyData.canLay0]
    exact lay_map h
  · unfold trD
    simp only [PyData.depth]
    rw [depth_map]
    decide
theorem shaped_ls {ws : List Wd} (h : ∀ w ∈ ws, OkW w) : SeqAt.shaped (.list (ws.map wdD)) = true := by
  refine shaped_of ?_ ?_
  · simp only [PyData.canLay0]
    exact lay_map h
  · simp only [PyData.depth]
    rw [depth_map]
    decide
theorem eqv_wd (a b : Wd) : PyData.eqv (wdD a) (wdD b) = decide (a = b) := by
  have : PyData.eqv (wdD a) (wdD b) = (wdS a == wdS b) := by unfold wdD PyData.eqv; rfl
  rw [this, Bool.eq_iff_iff, beq_iff_eq, decide_eq_true_eq]
  exact ⟨wdS_inj, fun h => by rw [h]⟩
theorem eqv_wds : ∀ a b : List Wd, PyData.eqvAll (a.map wdD) (b.map wdD) = decide (a = b)
  | [], [] => by simp [PyData.eqvAll]
  | [], b :: bs => by simp [PyData.eqvAll]
  | a :: as, [] => by simp [PyData.eqvAll]
  | a :: as, b :: bs => by
    simp only [List.map_cons, PyData.eqvAll]
    rw [eqv_wd, eqv_wds as bs, Bool.eq_iff_iff]
    simp
theorem eqv_tr (a b : List Wd) : PyData.eqv (trD a) (trD b) = decide (a = b) := by
  unfold trD
  simp only [PyData.eqv]
  exact eqv_wds a b
theorem eqv_trs : ∀ a b : List (List Wd), PyData.eqvAll (a.map trD) (b.map trD) = decide (a = b)
  | [], [] => by simp [PyData.eqvAll]
  | [], b :: bs => by simp [PyData.eqvAll]
  | a :: as, [] => by simp [PyData.eqvAll]
  | a :: as, b :: bs => by
    simp only [List.map_cons, PyData.eqvAll]
    rw [eqv_tr, eqv_trs as bs, Bool.eq_iff_iff]
    simp
theorem noLD_tr (t : List Wd) : noLD (trD t) = true := noLD_tup fun d hd => by
  obtain ⟨w, _, rfl⟩ := List.mem_map.mp hd
  rfl
theorem noLD_out (o : Out) : noLD (outD o) = true := noLD_tup fun d hd => by
  obtain ⟨w, _, rfl⟩ := List.mem_map.mp hd
  rfl
theorem noLD_trs (T : List (List Wd)) : noLD (.tuple (T.map trD)) = true := noLD_tup fun d hd => by
  obtain ⟨w, _, rfl⟩ := List.mem_map.mp hd
  exact noLD_tr w
theorem trace_ok {o : Out} (h : OkO o) (i : Nat) : ∀ w ∈ trace o i, OkW w := by
  have step : ∀ (l : Out) (acc : List Wd), (∀ w ∈ acc, OkW w) → OkO l → ∀ w ∈ l.foldl (stepT i) acc, OkW w := by
    intro l
    induction l with
    | nil => intro acc h _; exact h
    | cons x l ih =>
      intro acc hacc hl
      refine ih _ ?_ fun y hy => hl y (List.mem_cons_of_mem _ hy)
      have hx := hl x List.mem_cons_self
      intro w hw
      unfold stepT at hw
      split at hw
      · rcases List.mem_append.mp hw with hw | hw
        · exact hacc w hw
        · rw [List.mem_singleton.mp hw]; exact hx
      · split at hw
        · exact hacc w hw
        · rcases List.mem_append.mp hw with hw | hw
          · exact hacc w hw
          · rw [List.mem_singleton.mp hw]
            unfold side
            split <;> trivial
  exact step o [] (by simp) h
theorem trace_len (o : Out) (i : Nat) : (trace o i).length ≤ o.length := by
  have step : ∀ (l : Out) (acc : List Wd), (l.foldl (stepT i) acc).length ≤ acc.length + l.length := by
    intro l
    induction l with
    | nil => intro acc; exact Nat.le_refl _
    | cons x l ih =>
      intro acc
      have h1 := ih (stepT i acc x)
      have h2 : (stepT i acc x).length ≤ acc.length + 1 := by
        unfold stepT
        split
        · simp
        · split
          · omega
          · simp
      simp only [List.foldl_cons, List.length_cons]
      omega
  have := step o []
  rw [List.length_nil, Nat.zero_add] at this
  exact this
theorem cut_last (xs : List V) : cutV xs (some (-1)) none = xs.drop (xs.length - 1) := by
  unfold cutV
  rw [HT.sIx_none]
  have e : HT.sIx xs.length 0 (some (-1)) = xs.length - 1 := by
    have := HT.clip_eq (-1) xs.length 0
    rw [if_pos (by decide)] at this
    omega
  rw [e, List.take_of_length_le (by rw [List.length_drop]; exact Nat.le_refl _)]
theorem drop_last (t : List Wd) : t.drop (t.length - 1) = t.getLast?.toList := by
  rcases List.eq_nil_or_concat t with rfl | ⟨t', x, rfl⟩
  · rfl
  · simp
section
variable {P : Program} {w : World} {K : PySem.W.Frag} {mg : Str → Option Value} {base : Heap} {D : Ad}
def wdsV (t : List Wd) : List V := t.map fun w => V.str (wdS w)
theorem wds_all {M : Addr → Prop} {H : Hp} : ∀ t : List Wd, DqAll K M H (wdsV t) (t.map wdD)
  | [] => .nil
  | w :: t => .cons (.str _) (wds_all t)
def sp_trace (K : PySem.W.Frag) : Sp := fun vs H Q _ => ∃ (M : Addr → Prop) (v : V) (o : Out) (i : Nat), vs = [v, .int i] ∧ Dq K M H v (outD o) ∧ OkO o ∧ o.length ≤ 90000 ∧ ∀ p H', H p = none → H' p = some (.tup (wdsV (trace o i))) → Same H H' → Q (.ref p) H'
theorem pair_vals {M : Addr → Prop} {H : Hp} {v : V} {x : Nat × Nat} (h : Dq K M H v (pairD x)) : ∃ a, v = .ref a ∧ SqT K H a [.str ⟨#[x.1]⟩, .int (x.2 : Nat)] := by
  obtain ⟨a, xs, rfl, hx, hxs⟩ := Dq.tupE h
  obtain ⟨x1, x2, rfl, h1, h2⟩ := hxs.two
  cases h1
  cases h2
  exact ⟨a, rfl, hx.t⟩
theorem ok__law_trace (T : Txt K mg D) {k : Nat} : FnOk P w K mg base CX0 (k + 1) D.f__law_trace D.d__law_trace P__law_trace (sp_trace K) := by
  refine T.f__law_trace.ok sc__law_trace (fun vs H Q E h => ?_) (fun cdv A outer s H vs Q E hr h => ?_)
  · obtain ⟨M, v, o, i, rfl, _⟩ := h
    rfl
  · obtain ⟨M, v, o, i, rfl, hd, ho, hol, q⟩ := h
    obtain ⟨a, xs, rfl, hx, hxs⟩ := Dq.tupE (ds := o.map pairD) hd
    have hxl : xs.length = o.length := by rw [hxs.length, List.length_map]
    refine ⟨_, (pss_cons (ps_set (i := 2) sc__law_trace.nd rfl (by first | exact .inl rfl | exact .inr rfl) (pe_lst pa_nil))
      (pss_cons (ps_for PassesOwn.never rfl (pi_tupK (K := K) (by rfl) (pv 0)) (pg_tup (by rfl) (pgs_cons (pg_name (i := 3) sc__law_trace.nd rfl (by first | exact .inl rfl | exact .inr rfl)) (pgs_cons (pg_name (i := 4) sc__law_trace.nd rfl (by first | exact .inl rfl | exact .inr rfl)) pgs_nil))) (pss_cons (ps_set (i := 5) sc__law_trace.nd rfl (by first | exact .inl rfl | exact .inr rfl) (pe_ifExp (pt_cmpR op_eq (pv 4) (pv 1) (nomark _)) (pv 3) (pe_ifExp (pt_cmpR op_lt (pv 4) (pv 1) (nomark _)) pe_str pe_str)))
      (pss_one (ps_if (PW.pt (pw_or (pt_cmpR op_eq (pv 4) (pv 1) (nomark _)) (pw_or1 (pt_cmpR (opK (K := K) (r := rNeQ) (by rfl) (op_neQ hr.units)) (pe_slice (slK (K := K) (r := rSlL) (by rfl) sl_list) (pv 2) (po_some (pe_un un_neg pe_int)) po_none) (pe_lst (pa_cons (pv 5) pa_nil)) (nomark _))))) (pss_one (ps_expr (pe_bm PySem.F.plainAttrs_list PySem.F.slot_list_append PySem.F.type_list_append mt_append (pv 2) (pa_cons (pv 5) pa_nil)))) pss_nil))))
      (pss_one (ps_ret (pe_callTy (callK (K := K) (r := qTupOf) (by rfl) q_tupOf) (by rfl) T.z_tuple (by decide +kernel) (pa_cons (pv 2) pa_nil)))))), ?_⟩
    repeat walk_at "st"
    refine e_lst fun l H1 nl hl s1 => ?_
    repeat walk_at "st"
    have hx1 := (SameM.of s1).t hx
    refine e_forT hx1.t (fun j σ H' => ∃ s3 s4 s5, σ = [some (.ref a), some (.int (i : Nat)), some (.ref l), s3, s4, s5] ∧ H' l = some (.lst (wdsV (trace (o.take j) i))) ∧ Same H H') ?_ ?_ ?_ ?_
    · exact ⟨_, _, _, rfl, hl, s1⟩
    · rintro j σ H' ⟨_, _, _, _, _, s'⟩
      exact ((SameM.of s').t hx).t
    · rintro j x σ H' hxj ⟨s3, s4, s5, rfl, hl', s'⟩
      obtain ⟨d, hd1, hd2⟩ := (hxs.same s').get hxj
      rw [List.getElem?_map] at hd1
      cases ey : o[j]? with
      | none => rw [ey] at hd1; cases hd1
      | some y =>
      rw [ey] at hd1
      cases hd1
      obtain ⟨b, rfl, hb⟩ := pair_vals hd2
      have hj := (List.getElem?_eq_some_iff.mp ey).1
      have hnx : trace (o.take (j + 1)) i = stepT i (trace (o.take j) i) y := by
        rw [List.take_add_one, ey]
        exact trace_snoc _ _ _
      have htlen := trace_len (o.take j) i
      rw [List.length_take] at htlen
      have hwl : (wdsV (trace (o.take j) i)).length < 100000 := by unfold wdsV; rw [List.length_map]; omega
      refine e_gtup2 hb ?_
      by_cases g : y.2 = i
      · have e1 : decide (V.int (y.2 : Nat) = V.int (i : Nat)) = true := decide_eq_true (by rw [g])
        repeat walk_at "st"
        rw [e1]
        repeat walk_at "st"
        rw [e1]
        repeat walk_at "st"
        refine e_append hl' hwl fun H3 h3 t3 => ?_
        repeat walk_at "st"
        refine ⟨_, _, _, rfl, ?_, Same.new s' t3 fun b hb => by rw [hb]; exact nl⟩
        rw [h3, hnx]
        unfold stepT
        rw [if_pos g]
        simp [wdsV]
        rfl
      · have e1 : decide (V.int (y.2 : Nat) = V.int (i : Nat)) = false := decide_eq_false (by intro z; injection z with z; omega)
        repeat walk_at "st"
        rw [e1]
        repeat walk_at "st"
        refine ite_c ?_
        have e2 : (if decide ((y.2 : Int) < (i : Int)) = true then V.str "below" else V.str "above") = .str (wdS (side i y.2)) := by
          unfold side
          by_cases z : y.2 < i
          · rw [if_pos z, decide_eq_true (by omega : (y.2 : Int) < i)]; rfl
          · rw [if_neg z, decide_eq_false (by omega : ¬ (y.2 : Int) < i)]; rfl
        refine Eq.mpr (congrArg (fun z => gName 5 z _ _ _) e2) ?_
        repeat walk_at "st"
        rw [e1]
        repeat walk_at "st"
        refine e_slL (SqL.of hl') fun c H2 nc hc s2 => ?_
        repeat walk_at "st"
        refine e_lst fun c2 H3 nc2 hc2 s3 => ?_
        have hlast : cutV (wdsV (trace (o.take j) i)) (some (-1)) none = wdsV ((trace (o.take j) i).getLast?.toList) := by
          rw [cut_last, ← drop_last]
          unfold wdsV
          rw [List.map_drop, List.length_map]
        have hokl : ∀ w ∈ trace (o.take j) i, OkW w := trace_ok (fun x hx => ho x (List.mem_of_mem_take hx)) i
        rw [show (-1 : Int) = -1 from rfl] at hc
        rw [hlast] at hc
        refine ⟨M0, M0, .list ((trace (o.take j) i).getLast?.toList.map wdD), .list ([side i y.2].map wdD), Dq.newL (fun z => z) (s3 _ _ hc) (wds_all _), Dq.newL (fun z => z) hc2 (wds_all [side i y.2]), shaped_ls ?_, shaped_ls ?_, ?_⟩
        · intro w hw
          rw [← drop_last] at hw
          exact hokl w (List.mem_of_mem_drop hw)
        · intro w hw
          rw [List.mem_singleton.mp hw]
          unfold side
          split <;> trivial
        have e3 : PyData.eqv (.list ((trace (o.take j) i).getLast?.toList.map wdD)) (.list ([side i y.2].map wdD)) = decide ((trace (o.take j) i).getLast? = some (side i y.2)) := by
          simp only [PyData.eqv]
          rw [eqv_wds]
          cases (trace (o.take j) i).getLast? with
          | none => simp
          | some u => simp
        rw [e3]
        have s13 : Same H' H3 := s2.trans s3
        repeat walk_at "st"
        unfold stepT at hnx
        rw [if_neg g] at hnx
        refine ite2 (fun g2 => ?_) (fun g2 => ?_)
        · have g3 : ¬ (trace (o.take j) i).getLast? = some (side i y.2) := by simpa using g2
          rw [if_neg g3] at hnx
          have hl3 := s13 _ _ hl'
          repeat walk_at "st"
          refine e_append hl3 hwl fun H4 h4 t4 => ?_
          repeat walk_at "st"
          refine ⟨_, _, _, rfl, ?_, Same.new (s'.trans s13) t4 fun b hb => by rw [hb]; exact nl⟩
          rw [h4, hnx]
          simp [wdsV]
        · have g3 : (trace (o.take j) i).getLast? = some (side i y.2) := by simpa using g2
          rw [if_pos g3] at hnx
          repeat walk_at "st"
          refine ⟨_, _, _, rfl, ?_, s'.trans s13⟩
          rw [s13 _ _ hl', hnx]
    · rintro σ H' ⟨_, _, _, rfl, hl', s'⟩
      rw [hxl, List.take_length] at hl'
      repeat walk_at "st"
      refine e_tupL (SqL.of hl') fun t H2 nt ht s2 => ?_
      exact q t H2 (none_back s' nt) ht (s'.trans s2)
end
end K14

namespace K14
open PySem PySem.Spec PyProof.Rows L2 FG
local macro_rules | `(tactic| walk_at "sq") => `(tactic| first
  | assumption
  | exact SqL.of (by assumption)
  | exact SqT.of (by assumption)
  | exact SqLm.l (by assumption)
  | exact SqTm.t (by assumption))
local macro_rules | `(tactic| walk_at "cond") => `(tactic| first
  | assumption
  | (show (0 : Int) < _; omega)
  | (show (0 : Int) < _ ∧ _ < 1073741824; omega))
local macro_rules | `(tactic| walk_at "st") => `(tactic| first
  | with_reducible refine b_seq ?_
  | with_reducible refine b_asg ?_
  | with_reducible refine b_op ?_
  | ((with_reducible refine' b_var ?hv ?_); (case hv => exact rfl))
  | with_reducible refine b_c ?_
  | with_reducible refine b_name ?_
  | with_reducible refine b_I0 ?_
  | with_reducible refine b_cons ?_
  | with_reducible refine b_nil ?_
  | with_reducible refine b_cb ?_
  | with_reducible refine b_call ?_
  | with_reducible refine b_ret ?_
  | with_reducible refine b_ifS ?_
  | with_reducible refine b_test ?_
  | with_reducible refine b_tb ?_
  | with_reducible refine b_bl ?_
  | with_reducible refine b_blP ?_
  | with_reducible refine b_next ?_
  | with_reducible refine b_drop ?_
  | with_reducible refine b_sub ?_
  | with_reducible refine b_chain ?_
  | with_reducible refine b_and ?_
  | with_reducible refine b_or ?_
  | with_reducible refine b_not ?_
  | with_reducible refine b_andV ?_
  | with_reducible refine b_orV ?_
  | with_reducible refine b_notV ?_
  | with_reducible refine b_if ?_
  | with_reducible refine b_par ?_
  | with_reducible refine b_parE ?_
  | ((with_reducible refine' b_aug ?hv ?_); (case hv => exact rfl))
  | with_reducible refine b_ip ?_
  | with_reducible refine b_retN ?_
  | with_reducible refine b_tup ?_
  | with_reducible refine b_lst ?_
  | with_reducible refine b_sl ?_
  | with_reducible refine b_part ?_
  | with_reducible refine b_partP ?_
  | with_reducible refine b_nopart ?_
  | with_reducible refine b_bm ?_
  | with_reducible refine b_m1 ?_
  | with_reducible refine b_yes ?_
  | with_reducible refine b_un ?_
  | with_reducible refine b_neg ?_
  | with_reducible refine b_isN ?_
  | with_reducible refine b_notN ?_
  | with_reducible refine b_inS ?_
  | with_reducible refine b_int ?_
  | with_reducible refine b_intB ?_
  | with_reducible refine b_abs ?_
  | with_reducible refine b_max ?_
  | with_reducible refine b_min ?_
  | ((with_reducible refine b_eq ?hv ?_); (case hv => exact rfl))
  | ((with_reducible refine b_ne ?hv ?_); (case hv => exact rfl))
  | ((with_reducible refine' b_lenL ?hv ?_); (case hv => walk_at "sq"))
  | ((with_reducible refine' b_lenT ?hv ?_); (case hv => walk_at "sq"))
  | ((with_reducible refine' b_ixL ?hv ?hw ?_); (case hv => walk_at "sq"); (case hw => exact rfl))
  | ((with_reducible refine' b_ixT ?hv ?hw ?_); (case hv => walk_at "sq"); (case hw => exact rfl))
  | ((with_reducible refine b_I ?hv ?_); (case hv => walk_at "cond"))
  | with_reducible refine b_lcS ?_
  | with_reducible refine b_lcR ?_
  | with_reducible refine b_lcT ?_
  | with_reducible refine b_lcL ?_
  | with_reducible refine b_forT ?_
  | with_reducible refine b_forL ?_
  | with_reducible refine b_forR ?_
  | with_reducible refine b_turn ?_
  | ((with_reducible refine And.intro (a := wipe _ _ = wipe _ _) ?hv ?_); (case hv => exact rfl))
  | ((with_reducible refine And.intro (a := tyV _ "list" _ _) ?hv ?_); (case hv => exact ty_list (by assumption)))
  | with_reducible refine And.intro (a := ∃ a, V.str _ = V.str a) ⟨_, rfl⟩ ?_
  | (with_reducible refine iteT ?_)
  | (with_reducible refine iteNF ?_)
  | (with_reducible refine iteNT ?_)
  | (with_reducible refine iteVT ?_)
  | (with_reducible refine iteNVT ?_)
  | ((with_reducible refine iteVF ?hv ?_); (case hv => exact rfl))
  | ((with_reducible refine iteNVF ?hv ?_); (case hv => exact rfl))
  | with_reducible refine b_callS ?_
  | with_reducible refine b_xq ?_
  | with_reducible refine b_fld ?_
  | with_reducible refine b_sfld ?_
  | with_reducible refine b_meth ?_
  | with_reducible refine b_make ?_
  | with_reducible refine b_callK ?_
  | with_reducible refine b_sfa ?_
  | with_reducible refine b_lcEnT ?_
  | with_reducible refine b_lcEnL ?_
  | with_reducible refine b_forEnT ?_
  | with_reducible refine b_forEnL ?_
  | with_reducible refine b_lcZ ?_
  | with_reducible refine e_revT ?_
  | ((with_reducible refine' e_fld ?hv ?hc ?hn ?hl ?_); (case hv => assumption); (case hc => assumption); (case hn => assumption); (case hl => exact rfl))
  | ((with_reducible refine' e_meth ?hv ?hl ?_); (case hv => assumption); (case hl => exact rfl))
  | (with_reducible refine iteF ?_))

section
variable {P : Program} {w : World} {K : PySem.W.Frag} {mg : Str → Option Value} {base : Heap} {D : Ad}
def trsD (o : Out) (n : Nat) : PyData := .tuple (((List.range n).map (trace o)).map trD)
def sp_traces (K : PySem.W.Frag) : Sp := fun vs H Q _ => ∃ (M : Addr → Prop) (v : V) (o : Out) (n : Nat), vs = [v, .int n] ∧ Dq K M H v (outD o) ∧ OkO o ∧ o.length ≤ 90000 ∧ n ≤ 90000 ∧ ∀ v' H', (∀ N, Trk N H → Dq K N H' v' (trsD o n)) → Same H H' → Q v' H'
theorem ok__law_traces (T : Txt K mg D) {k : Nat} : FnOk P w K mg base CX0 (k + 2) D.f__law_traces D.d__law_traces P__law_traces (sp_traces K) := by
  have G__law_trace : FnOk P w K mg base CX0 (k + 1) D.f__law_trace D.d__law_trace P__law_trace (sp_trace K) := ok__law_trace T
  refine T.f__law_traces.ok sc__law_traces (fun vs H Q E h => ?_) (fun cdv A outer s H vs Q E hr h => ?_)
  · obtain ⟨M, v, o, n, rfl, _⟩ := h
    rfl
  · obtain ⟨M, v, o, n, rfl, hd, ho, hol, hn, q⟩ := h
    refine ⟨_, (pss_one (ps_ret (pe_callTy (callK (K := K) (r := qTupOf) (by rfl) q_tupOf) (by rfl) T.z_tuple (by decide +kernel) (pa_cons (pe_lc (own := [("_law_at", 2)]) (g := gName 2) (tt := tYes) (by rfl) sc__law_traces.nd (pi_range1 (by rfl) T.z_range (pa_cons (pv 1) pa_nil)) (blkOk_by (own := [("_law_at", 2)]) (N := N__law_traces) (sc := defScope s__law_traces) (by decide +kernel)) (fun _ _ _ _ _ => (pg_name (i := 2) sc__law_traces.nd rfl (by first | exact .inl rfl | exact .inr rfl))) (fun _ _ _ _ _ => pts_nil) (fun _ _ _ _ _ => (pe_call G__law_trace hr (by rfl) T.g__law_trace T.f__law_trace.kp T.b__law_trace .nil pass0 (pa_cons (pv 0) (pa_cons (pv 2) pa_nil))))) pa_nil)))), ?_⟩
    repeat walk_at "st"
    refine e_lcR (fun S i H' => ∃ ps : List Addr, ps.length = i ∧ H' S = some (.lst (ps.map V.ref)) ∧ (∀ p ∈ ps, H p = none) ∧ (∀ j p, ps[j]? = some p → H' p = some (.tup (wdsV (trace o j)))) ∧ Same H H') (by omega) (by omega) ?_ ?_ ?_
    · intro S H' nS hS sS
      exact ⟨[], rfl, hS, by simp, by simp, sS⟩
    · rintro S i H' nS hi ⟨ps, hpl, hS, hpn, hpv, s'⟩
      repeat walk_at "st"
      refine ⟨M, v, o, i, by simp, hd.same s', ho, hol, fun p H2 np hp s2 => ?_⟩
      have hpS : p ≠ S := fun z => by rw [z, hS] at np; cases np
      refine e_app (s2 _ _ hS) (by simp; omega) fun H3 h3 s3 => ⟨ps ++ [p], by simp [hpl], by rw [h3]; simp, ?_, ?_, ?_⟩
      · intro r hr'
        rcases List.mem_append.mp hr' with z | z
        · exact hpn r z
        · rw [List.mem_singleton.mp z]; exact none_back s' np
      · intro j r hj
        by_cases hji : j < ps.length
        · rw [List.getElem?_append_left hji] at hj
          have e := hpv j r hj
          have hrS : r ≠ S := fun z => by rw [z, hS] at e; cases e
          exact s3 _ _ hrS (s2 _ _ e)
        · rw [List.getElem?_append_right (by omega)] at hj
          have hj0 : j - ps.length = 0 := by
            have := (List.getElem?_eq_some_iff.mp hj).1
            simp at this
            omega
          rw [hj0] at hj
          simp at hj
          subst hj
          have : j = i := by omega
          subst this
          exact s3 _ _ hpS hp
      · intro b ob e
        exact s3 _ _ (fun z => by rw [z, nS] at e; cases e) (s2 _ _ (s' _ _ e))
    · rintro S H' nS ⟨ps, hpl, hS, hpn, hpv, s'⟩
      rw [Int.toNat_natCast] at hpl
      repeat walk_at "st"
      refine e_tupL (SqL.of hS) fun t H2 nt ht s2 => ?_
      refine q _ H2 (fun N tN => ?_) (s'.trans s2)
      have nt0 : H t = none := none_back s' nt
      refine Dq.newT (fun z => tN t z nt0) ht ?_
      have key : ∀ (m : Nat) (qs : List Addr), (∀ p ∈ qs, H p = none) → (∀ j p, qs[j]? = some p → H' p = some (.tup (wdsV (trace o (m + j))))) → DqAll K N H2 (qs.map V.ref) (((List.range' m qs.length).map (trace o)).map trD) := by
        intro m qs
        induction qs generalizing m with
        | nil => intro _ _; exact .nil
        | cons r qs ih =>
          intro h1 h2
          rw [List.length_cons, List.range'_succ, List.map_cons, List.map_cons, List.map_cons]
          refine .cons ?_ (ih (m + 1) (fun p hp => h1 p (List.mem_cons_of_mem _ hp)) fun j p hj => ?_)
          · have e := h2 0 r rfl
            exact Dq.newT (fun z => tN r z (h1 r List.mem_cons_self)) (s2 _ _ e) (wds_all _)
          · have := h2 (j + 1) p (by simpa using hj)
            rw [show m + 1 + j = m + (j + 1) by omega]
            exact this
      have := key 0 ps hpn (fun j p hj => by rw [Nat.zero_add]; exact hpv j p hj)
      rw [hpl, ← List.range_eq_range'] at this
      exact this
/-! ### the form -/
theorem le_a (c : Nat) : (!decide ((⟨#[c]⟩ : Str).cps.toList < (Str.ofString "a").cps.toList)) = decide (97 ≤ c) := by
  have e : ((⟨#[c]⟩ : Str).cps.toList < (Str.ofString "a").cps.toList) ↔ c < 97 := by
    show ([c] < [97]) ↔ _
    rw [List.cons_lt_cons_iff]
    simp
  rw [Bool.eq_iff_iff]
  simp only [Bool.not_eq_true', decide_eq_false_iff_not, decide_eq_true_eq, e]
  omega
theorem le_z (c : Nat) : (!decide ((Str.ofString "z").cps.toList < (⟨#[c]⟩ : Str).cps.toList)) = decide (c ≤ 122) := by
  have e : ((Str.ofString "z").cps.toList < (⟨#[c]⟩ : Str).cps.toList) ↔ 122 < c := by
    show ([122] < [c]) ↔ _
    rw [List.cons_lt_cons_iff]
    simp
  rw [Bool.eq_iff_iff]
  simp only [Bool.not_eq_true', decide_eq_false_iff_not, decide_eq_true_eq, e]
  omega
theorem letters_range (c : Nat) : c ∈ letters.cps.toList ↔ 97 ≤ c ∧ c ≤ 122 := by
  have e : letters.cps.toList = (List.range 26).map (· + 97) := by decide
  rw [e]
  simp
  constructor
  · rintro ⟨a, h, rfl⟩
    omega
  · rintro ⟨h1, h2⟩
    exact ⟨c - 97, by omega, by omega⟩
theorem isLetter_one (c : Nat) : isLetterD (.str ⟨#[c]⟩) = (decide (97 ≤ c) && decide (c ≤ 122)) := by
  show (decide ((⟨#[c]⟩ : Str).length = 1) && (#[c] : Array Nat).toList.all fun c => decide (c ∈ letters.cps.toList)) = _
  rw [decide_eq_true (show (⟨#[c]⟩ : Str).length = 1 from rfl)]
  simp only [Bool.true_and, List.all_cons, List.all_nil, Bool.and_true]
  rw [← Bool.decide_and]
  exact decide_eq_decide.mpr (letters_range c)
def sp_is_form (K : PySem.W.Frag) : Sp := fun vs H Q _ => ∃ (M : Addr → Prop) (v : V) (d : PyData) (h n : Nat), vs = [v] ∧ Dq K M H v d ∧ (isTy "tuple" d = true → Fit h n d) ∧ h ≤ 50 ∧ n ≤ 90000 ∧ ∀ H', Same H H' → Q (.bl (isTracesD d)) H'
theorem ok__law_is_form (T : Txt K mg D) {k : Nat} : FnOk P w K mg base CX0 (k + 1) D.f__law_is_form D.d__law_is_form P__law_is_form (sp_is_form K) := by
  refine T.f__law_is_form.ok sc__law_is_form (fun vs H Q E h => ?_) (fun cdv A outer s H vs Q E hr h => ?_)
  · obtain ⟨M, v, d, h, n, rfl, _⟩ := h
    rfl
  · obtain ⟨M, v, d, h, n, rfl, hd, hf, hh, hn, q⟩ := h
    refine ⟨_, (pss_cons (ps_if (PW.pt (pw_or (pt_not (pt_val (pe_callB (callK (K := K) (r := rIsD) (by rfl) call_isD) (by rfl) T.z_isinstance (by decide +kernel) (pa_cons (pv 0) (pa_cons (pe_bltn (v := .ty "tuple") (by rfl) T.z_tuple (by decide +kernel) rfl) pa_nil))))) (pw_or (pt_cmpR op_lt (pe_callB (callK (K := K) (r := qLen) (by rfl) q_len) (by rfl) T.z_len (by decide +kernel) (pa_cons (pv 0) pa_nil)) pe_int (nomark _)) (pw_or1 (pt_not (pt_val (pe_callB (callK (K := K) (r := rAll) (by rfl) (cr_all rfl)) (by rfl) T.z_all (by decide +kernel) (pa_cons (pe_lc (own := [("_law_trace_here", 1)]) (g := gName 1) (tt := tYes) (by rfl) sc__law_is_form.nd (pi_tupK (K := K) (by rfl) (pv 0)) (blkOk_by (own := [("_law_trace_here", 1)]) (N := N__law_is_form) (sc := defScope s__law_is_form) (by decide +kernel)) (fun _ _ _ _ _ => (pg_name (i := 1) sc__law_is_form.nd rfl (by first | exact .inl rfl | exact .inr rfl))) (fun _ _ _ _ _ => pts_nil) (fun _ _ _ _ _ => (pe_callB (callK (K := K) (r := rIsD) (by rfl) call_isD) (by rfl) T.z_isinstance (by decide +kernel) (pa_cons (pv 1) (pa_cons (pe_bltn (v := .ty "tuple") (by rfl) T.z_tuple (by decide +kernel) rfl) pa_nil))))) pa_nil)))))))) (pss_one (ps_ret pe_bl)) pss_nil)
      (pss_cons (ps_for PassesOwn.never rfl (pi_tupK (K := K) (by rfl) (pv 0)) (pg_name (i := 1) sc__law_is_form.nd rfl (by first | exact .inl rfl | exact .inr rfl)) (pss_one (ps_for PassesOwn.never rfl (pi_tupK (K := K) (by rfl) (pv 1)) (pg_name (i := 2) sc__law_is_form.nd rfl (by first | exact .inl rfl | exact .inr rfl)) (pss_cons (ps_if (PW.pt (pw_or (pt_not (pt_val (pe_callB (callK (K := K) (r := rIsD) (by rfl) call_isD) (by rfl) T.z_isinstance (by decide +kernel) (pa_cons (pv 2) (pa_cons (pe_bltn (v := .ty "str") (by rfl) T.z_str (by decide +kernel) rfl) pa_nil))))) (pw_or1 (PW.pt (pw_and (pt_cmpR op_notIn_seq (pv 2) (pe_tup (pa_cons pe_str (pa_cons pe_str pa_nil))) (by rfl)) (pw_and1 (pt_cmpR op_ne (pe_callB (callK (K := K) (r := qLen) (by rfl) q_len) (by rfl) T.z_len (by decide +kernel) (pa_cons (pv 2) pa_nil)) pe_int (nomark _)))))))) (pss_one (ps_ret pe_bl)) pss_nil)
      (pss_one (ps_if (PW.pt (pw_and (pt_cmpR op_eq (pe_callB (callK (K := K) (r := qLen) (by rfl) q_len) (by rfl) T.z_len (by decide +kernel) (pa_cons (pv 2) pa_nil)) pe_int (nomark _)) (pw_and1 (pt_not (pt_chain op_le_str op_le_str pe_str (pv 2) pe_str))))) (pss_one (ps_ret pe_bl)) pss_nil))))))
      (pss_one (ps_ret pe_bl)))), ?_⟩
    repeat walk_at "st"
    refine b_isD hd (by decide) ?_
    repeat walk_at "st"
    by_cases hT : isTy "tuple" d = true
    rotate_left
    · rw [Bool.eq_false_iff.mpr hT]
      repeat walk_at "st"
      have e : isTracesD d = false := by
        cases d <;> first | rfl | simp [isTy] at hT
      rw [e] at q
      exact q H (Same.refl H)
    replace hf := hf hT
    obtain ⟨ds, rfl⟩ := isTy_tuple hT
    rw [hT]
    obtain ⟨a, xs, rfl, hx, hxs⟩ := hd.tupE
    have hlen := hxs.length
    have hxt := hx.t
    have hdl := tup_len hf.sm
    repeat walk_at "st"
    refine ite2 (fun g1 => ?_) (fun g1 => ?_)
    · repeat walk_at "st"
      have e : isTracesD (.tuple ds) = false := by
        show (decide (2 ≤ ds.length) && _) = false
        have := of_decide_eq_true g1
        rw [decide_eq_false (by omega)]
        rfl
      rw [e] at q
      exact q H (Same.refl H)
    have g1' : 2 ≤ ds.length := by
      have : ¬ ((xs.length : Int) < 2) := fun z => g1 (decide_eq_true z)
      omega
    repeat walk_at "st"
    refine e_lcT hxt (fun L i H' => H' L = some (.lst (((ds.take i).map (isTy "tuple")).map V.bl)) ∧ Same H H') ?_ ?_ ?_ ?_
    · intro L H' nL hL sL
      exact ⟨hL, sL⟩
    · rintro L i H' nL ⟨_, s'⟩
      exact ((SameM.of s').t hx).t
    · rintro L i x H' nL hx' ⟨hL, s'⟩
      obtain ⟨e, he, hde⟩ := hxs.get hx'
      have hi : i < ds.length := (List.getElem?_eq_some_iff.mp he).1
      repeat walk_at "st"
      refine b_isD (hde.same s') (by decide) ?_
      repeat walk_at "st"
      refine e_app hL (by simp; omega) fun H3 h3 s3 => ⟨?_, ?_⟩
      · rw [h3, List.take_add_one, he]; simp
      · intro b o eb
        exact s3 _ _ (fun z => by rw [z, nL] at eb; cases eb) (s' _ _ eb)
    rintro L H1 nL ⟨hL, s1⟩
    rw [hlen, List.take_of_length_le (Nat.le_refl _)] at hL
    repeat walk_at "st"
    refine b_all (SqL.of hL) ?_
    by_cases hall : (ds.map (isTy "tuple")).all id = true
    rotate_left
    · rw [Bool.eq_false_iff.mpr hall]
      repeat walk_at "st"
      have e : isTracesD (.tuple ds) = false := by
        show (decide (2 ≤ ds.length) && ds.all isTraceD) = false
        rw [Bool.and_eq_false_iff]
        right
        rw [Bool.eq_false_iff]
        intro z
        apply hall
        rw [List.all_map, List.all_eq_true]
        intro d hd
        have := List.all_eq_true.mp z d hd
        cases d <;> first | rfl | exact absurd (show false = true from this) Bool.false_ne_true
      rw [e] at q
      exact q H1 s1
    rw [hall]
    rw [List.all_map, List.all_eq_true] at hall
    repeat walk_at "st"
    have hx1 := (SameM.of s1).t hx
    refine e_forT hx1.t (fun i σ H' => ∃ s1 s2, σ = [some (.ref a), s1, s2] ∧ (∀ d ∈ ds.take i, isTraceD d = true) ∧ Same H H') ?_ ?_ ?_ ?_
    · exact ⟨_, _, rfl, by simp, s1⟩
    · rintro i σ H' ⟨_, _, _, _, s'⟩
      exact ((SameM.of s').t hx).t
    · rintro i x σ H' hxi ⟨sl1, sl2, rfl, hpre, s'⟩
      obtain ⟨e, he, hde⟩ := (hxs.same s').get hxi
      have hem := List.mem_of_getElem? he
      obtain ⟨es, rfl⟩ := isTy_tuple (hall e hem)
      have hfe := hf.item hem
      obtain ⟨b, ys, rfl, hy, hys⟩ := hde.tupE
      have hyl := hys.length
      have hyt := hy.t
      have bad : isTraceD (.tuple es) = false → isTracesD (.tuple ds) = false := by
        intro z
        show (decide (2 ≤ ds.length) && ds.all isTraceD) = false
        rw [Bool.and_eq_false_iff]
        right
        rw [Bool.eq_false_iff]
        intro y
        have := List.all_eq_true.mp y _ hem
        rw [z] at this
        cases this
      repeat walk_at "st"
      refine e_forT hyt (fun j σ H'' => ∃ s2, σ = [some (.ref a), some (.ref b), s2] ∧ (∀ d ∈ es.take j, isWordD d = true) ∧ Same H' H'') ?_ ?_ ?_ ?_
      · exact ⟨_, rfl, by simp, Same.refl H'⟩
      · rintro j σ H'' ⟨_, _, _, s''⟩
        exact ((SameM.of s'').t hy).t
      · rintro j x σ H'' hxj ⟨sl2, rfl, hpre2, s''⟩
        obtain ⟨f, hf1, hf2⟩ := (hys.same s'').get hxj
        have hfm := List.mem_of_getElem? hf1
        have hfit := hfe.item hfm
        have badW : isWordD f = false → isTracesD (.tuple ds) = false := fun z => bad (by
          show es.all isWordD = false
          rw [Bool.eq_false_iff]
          intro y
          have := List.all_eq_true.mp y _ hfm
          rw [z] at this
          cases this)
        have ok : isWordD f = true → ∀ d ∈ es.take (j + 1), isWordD d = true := by
          intro z d hd
          rw [List.take_add_one, hf1] at hd
          rcases List.mem_append.mp hd with hd | hd
          · exact hpre2 d hd
          · rw [show d = f by simpa using hd]; exact z
        have s2 : Same H H'' := s'.trans s''
        repeat walk_at "st"
        refine b_isD hf2 (by decide) ?_
        repeat walk_at "st"
        by_cases hS : isTy "str" f = true
        rotate_left
        · rw [Bool.eq_false_iff.mpr hS]
          repeat walk_at "st"
          have e : isWordD f = false := by
            cases f <;> first | (simp [isWordD, isLetterD, twoWords, PyData.eqv]; done) | exact absurd rfl hS
          rw [badW e] at q
          exact q H'' s2
        obtain ⟨y, rfl⟩ := isTy_str hS
        rw [hS]
        cases hf2
        have hyk := small_len hfit.sm (by omega)
        repeat walk_at "st"
        refine e_tup fun t H3 nt ht s3 => ?_
        refine b_inT (SqT.of ht) rfl rfl ?_
        have hin : (if true = true then !inV (V.str y) [V.str "below", V.str "above"] else inV (V.str y) [V.str "below", V.str "above"]) = !(twoWords.any fun z => PyData.eqv z (.str y)) := by
          have e1 : PyData.eqv (.str "below") (.str y) = (Str.ofString "below" == y) := by unfold PyData.eqv; rfl
          have e2 : PyData.eqv (.str "above") (.str y) = (Str.ofString "above" == y) := by unfold PyData.eqv; rfl
          show (!((Str.ofString "below" == y) || ((Str.ofString "above" == y) || false))) = (!(PyData.eqv (.str "below") (.str y) || (PyData.eqv (.str "above") (.str y) || false)))
          rw [e1, e2]
        rw [hin]
        have s4 : Same H H3 := s2.trans s3
        by_cases hw : (twoWords.any fun z => PyData.eqv z (.str y)) = true
        · rw [hw]
          have hokw : isWordD (.str y) = true := by unfold isWordD; rw [hw, Bool.or_true]
          have hy5 : y.length = 5 := by
            have e1 : PyData.eqv (.str "below") (.str y) = (Str.ofString "below" == y) := by unfold PyData.eqv; rfl
            have e2 : PyData.eqv (.str "above") (.str y) = (Str.ofString "above" == y) := by unfold PyData.eqv; rfl
            have h2 : (PyData.eqv (.str "below") (.str y) || (PyData.eqv (.str "above") (.str y) || false)) = true := hw
            rw [e1, e2, Bool.or_false, Bool.or_eq_true, beq_iff_eq, beq_iff_eq] at h2
            rcases h2 with rfl | rfl <;> rfl
          repeat walk_at "st"
          refine b_lenS hyk ?_
          repeat walk_at "st"
          rw [decide_eq_false (show ¬ V.int (y.length : Int) = V.int 1 from fun z => by injection z with z; omega)]
          repeat walk_at "st"
          exact ⟨_, rfl, ok hokw, s''.trans s3⟩
        · rw [Bool.eq_false_iff.mpr hw]
          repeat walk_at "st"
          refine b_lenS hyk ?_
          repeat walk_at "st"
          have hwl : isWordD (.str y) = isLetterD (.str y) := by unfold isWordD; rw [Bool.eq_false_iff.mpr hw, Bool.or_false]
          by_cases h1 : y.length = 1
          rotate_left
          · rw [decide_eq_false (show ¬ V.int (y.length : Int) = V.int 1 from fun z => by injection z with z; omega)]
            repeat walk_at "st"
            have e : isWordD (.str y) = false := by
              rw [hwl]
              show (decide (y.length = 1) && _) = false
              rw [decide_eq_false h1]
              rfl
            rw [badW e] at q
            exact q H3 s4
          obtain ⟨c, rfl⟩ := str_one h1
          rw [decide_eq_true (show V.int ((⟨#[c]⟩ : Str).length : Int) = V.int 1 from rfl)]
          repeat walk_at "st"
          refine b_lenS hyk ?_
          repeat walk_at "st"
          rw [decide_eq_true (show V.int ((⟨#[c]⟩ : Str).length : Int) = V.int 1 from rfl)]
          repeat walk_at "st"
          refine ⟨_, _, rfl, rfl, ?_⟩
          rw [le_a]
          repeat walk_at "st"
          rw [isLetter_one] at hwl
          by_cases ha : 97 ≤ c
          rotate_left
          · rw [decide_eq_false ha] at hwl ⊢
            repeat walk_at "st"
            rw [badW hwl] at q
            exact q H3 s4
          rw [decide_eq_true ha] at hwl ⊢
          repeat walk_at "st"
          refine ⟨_, _, rfl, rfl, ?_⟩
          rw [le_z]
          repeat walk_at "st"
          by_cases hz : c ≤ 122
          rotate_left
          · rw [decide_eq_false hz] at hwl ⊢
            repeat walk_at "st"
            rw [badW hwl] at q
            exact q H3 s4
          rw [decide_eq_true hz] at hwl ⊢
          repeat walk_at "st"
          exact ⟨_, rfl, ok hwl, s''.trans s3⟩
      · rintro σ H'' ⟨sl2, rfl, hpre2, s''⟩
        rw [hyl, List.take_of_length_le (Nat.le_refl _)] at hpre2
        refine ⟨_, _, rfl, ?_, s'.trans s''⟩
        intro d hd
        rw [List.take_add_one, he] at hd
        rcases List.mem_append.mp hd with hd | hd
        · exact hpre d hd
        · rw [show d = .tuple es by simpa using hd]
          exact List.all_eq_true.mpr hpre2
    · rintro σ H' ⟨_, _, rfl, hpre, s'⟩
      rw [hlen, List.take_of_length_le (Nat.le_refl _)] at hpre
      repeat walk_at "st"
      have e : isTracesD (.tuple ds) = true := by
        show (decide (2 ≤ ds.length) && ds.all isTraceD) = true
        rw [decide_eq_true g1', Bool.true_and]
        exact List.all_eq_true.mpr hpre
      rw [e] at q
      exact q H' s'
end
end K14

namespace K14
open PySem PySem.Spec PyProof.Rows L2 FG
local macro_rules | `(tactic| walk_at "sq") => `(tactic| first
  | assumption
  | exact SqL.of (by assumption)
  | exact SqT.of (by assumption)
  | exact SqLm.l (by assumption)
  | exact SqTm.t (by assumption))
local macro_rules | `(tactic| walk_at "cond") => `(tactic| first
  | assumption
  | (show (0 : Int) < _; omega)
  | (show (0 : Int) < _ ∧ _ < 1073741824; omega))
local macro_rules | `(tactic| walk_at "st") => `(tactic| first
  | with_reducible refine b_seq ?_
  | with_reducible refine b_asg ?_
  | with_reducible refine b_op ?_
  | ((with_reducible refine' b_var ?hv ?_); (case hv => exact rfl))
  | with_reducible refine b_c ?_
  | with_reducible refine b_name ?_
  | with_reducible refine b_I0 ?_
  | with_reducible refine b_cons ?_
  | with_reducible refine b_nil ?_
  | with_reducible refine b_cb ?_
  | with_reducible refine b_call ?_
  | with_reducible refine b_ret ?_
  | with_reducible refine b_ifS ?_
  | with_reducible refine b_test ?_
  | with_reducible refine b_tb ?_
  | with_reducible refine b_bl ?_
  | with_reducible refine b_blP ?_
  | with_reducible refine b_next ?_
  | with_reducible refine b_drop ?_
  | with_reducible refine b_sub ?_
  | with_reducible refine b_chain ?_
  | with_reducible refine b_and ?_
  | with_reducible refine b_or ?_
  | with_reducible refine b_not ?_
  | with_reducible refine b_andV ?_
  | with_reducible refine b_orV ?_
  | with_reducible refine b_notV ?_
  | with_reducible refine b_if ?_
  | with_reducible refine b_par ?_
  | with_reducible refine b_parE ?_
  | ((with_reducible refine' b_aug ?hv ?_); (case hv => exact rfl))
  | with_reducible refine b_ip ?_
  | with_reducible refine b_retN ?_
  | with_reducible refine b_tup ?_
  | with_reducible refine b_lst ?_
  | with_reducible refine b_sl ?_
  | with_reducible refine b_part ?_
  | with_reducible refine b_partP ?_
  | with_reducible refine b_nopart ?_
  | with_reducible refine b_bm ?_
  | with_reducible refine b_m1 ?_
  | with_reducible refine b_yes ?_
  | with_reducible refine b_un ?_
  | with_reducible refine b_neg ?_
  | with_reducible refine b_isN ?_
  | with_reducible refine b_notN ?_
  | with_reducible refine b_inS ?_
  | with_reducible refine b_int ?_
  | with_reducible refine b_intB ?_
  | with_reducible refine b_abs ?_
  | with_reducible refine b_max ?_
  | with_reducible refine b_min ?_
  | ((with_reducible refine b_eq ?hv ?_); (case hv => exact rfl))
  | ((with_reducible refine b_ne ?hv ?_); (case hv => exact rfl))
  | ((with_reducible refine' b_lenL ?hv ?_); (case hv => walk_at "sq"))
  | ((with_reducible refine' b_lenT ?hv ?_); (case hv => walk_at "sq"))
  | ((with_reducible refine' b_ixL ?hv ?hw ?_); (case hv => walk_at "sq"); (case hw => exact rfl))
  | ((with_reducible refine' b_ixT ?hv ?hw ?_); (case hv => walk_at "sq"); (case hw => exact rfl))
  | ((with_reducible refine b_I ?hv ?_); (case hv => walk_at "cond"))
  | with_reducible refine b_lcS ?_
  | with_reducible refine b_lcR ?_
  | with_reducible refine b_lcT ?_
  | with_reducible refine b_lcL ?_
  | with_reducible refine b_forT ?_
  | with_reducible refine b_forL ?_
  | with_reducible refine b_forR ?_
  | with_reducible refine b_turn ?_
  | ((with_reducible refine And.intro (a := wipe _ _ = wipe _ _) ?hv ?_); (case hv => exact rfl))
  | ((with_reducible refine And.intro (a := tyV _ "list" _ _) ?hv ?_); (case hv => exact ty_list (by assumption)))
  | with_reducible refine And.intro (a := ∃ a, V.str _ = V.str a) ⟨_, rfl⟩ ?_
  | (with_reducible refine iteT ?_)
  | (with_reducible refine iteNF ?_)
  | (with_reducible refine iteNT ?_)
  | (with_reducible refine iteVT ?_)
  | (with_reducible refine iteNVT ?_)
  | ((with_reducible refine iteVF ?hv ?_); (case hv => exact rfl))
  | ((with_reducible refine iteNVF ?hv ?_); (case hv => exact rfl))
  | with_reducible refine b_callS ?_
  | with_reducible refine b_xq ?_
  | with_reducible refine b_fld ?_
  | with_reducible refine b_sfld ?_
  | with_reducible refine b_meth ?_
  | with_reducible refine b_make ?_
  | with_reducible refine b_callK ?_
  | with_reducible refine b_sfa ?_
  | with_reducible refine b_lcEnT ?_
  | with_reducible refine b_lcEnL ?_
  | with_reducible refine b_forEnT ?_
  | with_reducible refine b_forEnL ?_
  | with_reducible refine b_lcZ ?_
  | with_reducible refine e_revT ?_
  | ((with_reducible refine' e_fld ?hv ?hc ?hn ?hl ?_); (case hv => assumption); (case hc => assumption); (case hn => assumption); (case hl => exact rfl))
  | ((with_reducible refine' e_meth ?hv ?hl ?_); (case hv => assumption); (case hl => exact rfl))
  | (with_reducible refine iteF ?_))

section
variable {P : Program} {w : World} {K : PySem.W.Frag} {mg : Str → Option Value} {base : Heap} {D : Ad}
def OkT (T : List (List Wd)) : Prop := ∀ t ∈ T, ∀ w ∈ t, OkW w
def sp_is_begun (K : PySem.W.Frag) : Sp := fun vs H Q _ => ∃ (M M' : Addr → Prop) (v v2 : V) (o : Out) (T : List (List Wd)), vs = [v, v2] ∧ Dq K M H v (outD o) ∧ Dq K M' H v2 (.tuple (T.map trD)) ∧ OkO o ∧ OkT T ∧ o.length ≤ 90000 ∧ T.length ≤ 90000 ∧ (∀ t ∈ T, t.length ≤ 90000) ∧
  ∀ H', Same H H' → Q (.bl (begunB T.length (Tn T) o)) H'
theorem ok__law_is_begun (T : Txt K mg D) {k : Nat} : FnOk P w K mg base CX0 (k + 3) D.f__law_is_begun D.d__law_is_begun P__law_is_begun (sp_is_begun K) := by
  have G__law_traces : FnOk P w K mg base CX0 (k + 2) D.f__law_traces D.d__law_traces P__law_traces (sp_traces K) := ok__law_traces T
  refine T.f__law_is_begun.ok sc__law_is_begun (fun vs H Q E h => ?_) (fun cdv A outer s H vs Q E hr h => ?_)
  · obtain ⟨M, M', v, v2, o, U, rfl, _⟩ := h
    rfl
  · obtain ⟨M, M', v, v2, o, U, rfl, hv, hv2, ho, hU, hol, hUl, htl, q⟩ := h
    refine ⟨_, (pss_cons (ps_set (i := 2) sc__law_is_begun.nd rfl (by first | exact .inl rfl | exact .inr rfl) (pe_call G__law_traces hr (by rfl) T.g__law_traces T.f__law_traces.kp T.b__law_traces .nil pass0 (pa_cons (pv 0) (pa_cons (pe_callB (callK (K := K) (r := qLen) (by rfl) q_len) (by rfl) T.z_len (by decide +kernel) (pa_cons (pv 1) pa_nil)) pa_nil))))
      (pss_one (ps_ret (pe_callB (callK (K := K) (r := rAll) (by rfl) (cr_all rfl)) (by rfl) T.z_all (by decide +kernel) (pa_cons (pe_lc (own := [("_law_trace_here", 3), ("_law_whole", 4)]) (g := gTup K 2 (gCons (gName 3) (gCons (gName 4) gNil))) (tt := tYes) (by rfl) sc__law_is_begun.nd (pi_zipK (K := K) (by rfl) (by rfl) T.z_zip (pa_cons (pv 2) (pa_cons (pv 1) pa_nil))) (blkOk_by (own := [("_law_trace_here", 3), ("_law_whole", 4)]) (N := N__law_is_begun) (sc := defScope s__law_is_begun) (by decide +kernel)) (fun _ _ _ _ _ => (pg_tup (by rfl) (pgs_cons (pg_name (i := 3) sc__law_is_begun.nd rfl (by first | exact .inl rfl | exact .inr rfl)) (pgs_cons (pg_name (i := 4) sc__law_is_begun.nd rfl (by first | exact .inl rfl | exact .inr rfl)) pgs_nil)))) (fun _ _ _ _ _ => pts_nil) (fun _ _ _ _ _ => (pe_cmpR (opK (K := K) (r := rEqQ) (by rfl) (op_eqQ hr.units)) (pv 3) (pe_slice (slK (K := K) (r := rSlA) (by rfl) sl_tupA) (pv 4) po_none (po_some (pe_callB (callK (K := K) (r := qLen) (by rfl) q_len) (by rfl) T.z_len (by decide +kernel) (pa_cons (pv 3) pa_nil)))) (nomark _)))) pa_nil))))), ?_⟩
    repeat walk_at "st"
    refine b_lenD hv2 ?_
    rw [List.length_map]
    repeat walk_at "st"
    refine ⟨M, v, o, U.length, rfl, hv, ho, hol, hUl, fun mine H1 hm s1 => ?_⟩
    replace hm := hm M0 trk0
    obtain ⟨a, xs, rfl, hx, hxs⟩ := Dq.tupE hm
    have hv21 := hv2.free.same s1
    obtain ⟨b, ys, rfl, hy, hys⟩ := Dq.tupE hv21
    have hxl : xs.length = U.length := by rw [hxs.length]; simp
    have hyl : ys.length = U.length := by rw [hys.length]; simp
    repeat walk_at "st"
    refine e_lcZT hx.t hy.t (by omega) (fun S i H' => H' S = some (.lst (((List.range i).map fun q => decide (trace o q = (Tn U q).take (trace o q).length)).map V.bl)) ∧ Same H1 H') ?_ ?_ ?_ ?_
    · intro S H' nS hS sS
      exact ⟨hS, sS⟩
    · rintro S i H' nS ⟨_, s'⟩
      exact ⟨((SameM.of s').t hx).t, ((SameM.of s').t hy).t⟩
    · rintro S i x y t H' H2 nS hxi hyi ⟨hS, s'⟩ nt ht s2
      have s12 := s'.trans s2
      have hi : i < U.length := by rw [← hxl]; exact (List.getElem?_eq_some_iff.mp hxi).1
      obtain ⟨d1, h1, h2⟩ := (hxs.same s12).get hxi
      obtain ⟨d2, h3, h4⟩ := (hys.same s12).get hyi
      rw [List.getElem?_map, List.getElem?_map, List.getElem?_range hi] at h1
      cases h1
      have hUi : U[i]? = some U[i] := List.getElem?_eq_getElem hi
      rw [List.getElem?_map, hUi] at h3
      cases h3
      rw [← Tn_get hUi] at h4
      have hUm : Tn U i ∈ U := by rw [Tn_get hUi]; exact List.getElem_mem hi
      repeat walk_at "st"
      refine e_gtup2 (SqT.of ht) ?_
      repeat walk_at "st"
      refine b_lenD h2 ?_
      rw [List.length_map]
      repeat walk_at "st"
      refine e_slD (ds := (Tn U i).map wdD) h4 fun c H3 hc s3 => ?_
      rw [cutD_to, ← List.map_take] at hc
      refine ⟨M0, M0, _, _, h2.same s3, hc, shaped_tr (trace_ok ho i), shaped_tr (ws := (Tn U i).take (trace o i).length) (fun w hw => hU _ hUm w (List.mem_of_mem_take hw)), ?_⟩
      have e1 := eqv_tr (trace o i) ((Tn U i).take (trace o i).length)
      rw [show PyData.tuple (List.map wdD ((Tn U i).take (trace o i).length)) = trD ((Tn U i).take (trace o i).length) from rfl, e1]
      refine e_app (s3 _ _ (s2 _ _ hS)) (by simp; omega) fun H4 h4 s4 => ⟨?_, ?_⟩
      · rw [h4, List.range_succ]; simp
      · intro d ob e
        exact s4 _ _ (fun z => by rw [z, nS] at e; cases e) (s3 _ _ (s12 _ _ e))
    · rintro S H' nS ⟨hS, s'⟩
      rw [hxl] at hS
      repeat walk_at "st"
      refine b_all (SqL.of hS) ?_
      rw [List.all_map]
      exact q H' (s1.trans s')
/-! ### bounds of the search -/
def ltrV (c : Nat) : V := .str ⟨#[c]⟩
theorem letters_ok {T : List (List Wd)} (h : OkT T) (p : Nat) : ∀ c ∈ lettersOf (Tn T p), c < 1114112 := by
  intro c hc
  unfold lettersOf at hc
  obtain ⟨w, hw, e⟩ := List.mem_filterMap.mp hc
  cases w with
  | ltr d =>
    have : d = c := Option.some.inj e
    subst this
    unfold Tn at hw
    rw [List.getD_eq_getElem?_getD] at hw
    cases et : T[p]? with
    | none => rw [et] at hw; cases hw
    | some t =>
      rw [et] at hw
      exact h t (List.mem_of_getElem? et) _ hw
  | lo => cases e
  | hi => cases e
theorem ext1_ok {T : List (List Wd)} (hT : OkT T) {o : Out} (ho : OkO o) {p : Nat} : ∀ o' ∈ ext1 (Tn T) o p, OkO o' ∧ o'.length = o.length + 1 := by
  intro o' h
  unfold ext1 at h
  obtain ⟨c, hc, rfl⟩ := List.mem_map.mp h
  have hc2 := letters_ok hT p c (List.mem_of_mem_drop (List.mem_of_mem_take hc))
  refine ⟨fun x hx => ?_, by simp⟩
  rcases List.mem_append.mp hx with hx | hx
  · exact ho x hx
  · rw [List.mem_singleton.mp hx]; exact hc2
theorem ext_ok {n : Nat} {T : List (List Wd)} (hT : OkT T) {o : Out} (ho : OkO o) : ∀ o' ∈ ext n (Tn T) o, OkO o' ∧ o'.length = o.length + 1 := by
  intro o' h
  unfold ext at h
  obtain ⟨p, _, h2⟩ := List.mem_flatMap.mp h
  exact ext1_ok hT ho o' h2
theorem found_ok {n : Nat} {T : List (List Wd)} (hT : OkT T) : ∀ (k : Nat), ∀ o ∈ found n (Tn T) k, OkO o ∧ o.length = k
  | 0 => fun o h => by
    unfold found at h
    rw [List.mem_singleton.mp h]
    exact ⟨fun x hx => (by cases hx), rfl⟩
  | k + 1 => fun o h => by
    unfold found at h
    obtain ⟨o1, h1, h2⟩ := List.mem_flatMap.mp (List.mem_filter.mp h).1
    obtain ⟨a, b⟩ := found_ok hT k o1 h1
    obtain ⟨c, d⟩ := ext_ok hT a o h2
    exact ⟨c, by omega⟩
theorem found_len (n : Nat) (T : Nat → List Wd) (k : Nat) : (found n T k).length ≤ 1 := by
  rw [found_eq]
  cases greedy n T k <;> simp
theorem ext1_len (T : Nat → List Wd) (o : Out) (p : Nat) : (ext1 T o p).length ≤ 1 := by
  unfold ext1
  rw [List.length_map, List.length_take]
  omega
theorem exts_len (T : Nat → List Wd) (o : Out) : ∀ m, ((List.range m).flatMap (ext1 T o)).length ≤ m
  | 0 => by simp
  | m + 1 => by
    have h1 := exts_len T o m
    have h2 := ext1_len T o m
    rw [List.range_succ, List.flatMap_append, List.length_append]
    simp only [List.flatMap_cons, List.flatMap_nil, List.append_nil]
    omega
theorem flat_len (n : Nat) (T : Nat → List Wd) : ∀ l : List Out, (l.flatMap (ext n T)).length ≤ l.length * n
  | [] => by simp
  | o :: l => by
    have h1 := flat_len n T l
    have h2 := exts_len T o n
    have h3 : (ext n T o).length ≤ n := h2
    rw [List.flatMap_cons, List.length_append, List.length_cons, Nat.succ_mul]
    omega
/-- the search's heap -/
structure Du (K : PySem.W.Frag) (T : List (List Wd)) (v : V) (Lt : Addr) (ls : List Addr) (H0 H : Hp) : Prop where
  va : Dq K M0 H v (.tuple (T.map trD))
  lt : H Lt = some (.lst (ls.map V.ref))
  le : ∀ j a, ls[j]? = some a → H a = some (.lst ((lettersOf (Tn T j)).map ltrV))
  ll : ls.length = T.length
  sm : Same H0 H
theorem Du.same {T : List (List Wd)} {v : V} {Lt : Addr} {ls : List Addr} {H0 H H' : Hp} (d : Du K T v Lt ls H0 H) (s : Same H H') : Du K T v Lt ls H0 H' :=
  ⟨d.va.same s, s _ _ d.lt, fun j a h => s _ _ (d.le j a h), d.ll, d.sm.trans s⟩
theorem Du.put {T : List (List Wd)} {v : V} {Lt l : Addr} {ls : List Addr} {xs : List V} {H0 H1 H H' : Hp} (d1 : Du K T v Lt ls H0 H1) (nl : H1 l = none) (d : Du K T v Lt ls H0 H) (hl : H l = some (.lst xs)) (s : SameM (· = l) H H') : Du K T v Lt ls H0 H' :=
  ⟨d.va.keepN (SameN.lst hl s) (noLD_trs T), s _ _ (fun z => by rw [← z, d1.lt] at nl; cases nl) d.lt, fun j a h => s _ _ (fun z => by rw [← z, d1.le j a h] at nl; cases nl) (d.le j a h), d.ll, Same.new d.sm s fun b hb => by rw [hb]; exact none_back d1.sm nl⟩
theorem noLDAll_outs (os : List Out) : noLDAll (os.map outD) = true := noLDAll_of fun d hd => by
  obtain ⟨o, _, rfl⟩ := List.mem_map.mp hd
  exact noLD_out o
theorem lay_out {o : Out} (h : OkO o) : (outD o).canLay0 = true := by
  unfold outD
  simp only [PyData.canLay0]
  refine canLayAll_of fun d hd => ?_
  obtain ⟨x, hx, rfl⟩ := List.mem_map.mp hd
  unfold pairD
  simp only [PyData.canLay0, PyData.canLayAll0, Bool.and_true]
  have := wd_lay (w := .ltr x.1) (h x hx)
  exact this
theorem depth_out (o : Out) : (outD o).depth ≤ 2 := by
  unfold outD
  simp only [PyData.depth]
  have : PyData.depthAll (o.map pairD) ≤ 1 := depthAll_of fun d hd => by
    obtain ⟨x, hx, rfl⟩ := List.mem_map.mp hd
    unfold pairD
    simp [PyData.depth, PyData.depthAll]
  omega
theorem cut_one (xs : List V) (m : Nat) : cutV xs (some (m : Int)) (some ((m : Int) + 1)) = (xs.drop m).take 1 := by
  unfold cutV
  rw [show (m : Int) + 1 = ((m + 1 : Nat) : Int) by omega, HT.sIx_nat, HT.sIx_nat]
  by_cases h : m < xs.length
  · rw [Nat.min_eq_left (by omega), Nat.min_eq_left (by omega)]
    congr 1
    omega
  · rw [Nat.min_eq_right (by omega), Nat.min_eq_right (by omega), List.drop_eq_nil_of_le (Nat.le_refl _), List.drop_eq_nil_of_le (by omega)]
    simp
end
end K14

namespace K14
open PySem PySem.Spec PyProof.Rows L2 FG
local macro_rules | `(tactic| walk_at "sq") => `(tactic| first
  | assumption
  | exact SqL.of (by assumption)
  | exact SqT.of (by assumption)
  | exact SqLm.l (by assumption)
  | exact SqTm.t (by assumption))
local macro_rules | `(tactic| walk_at "cond") => `(tactic| first
  | assumption
  | (show (0 : Int) < _; omega)
  | (show (0 : Int) < _ ∧ _ < 1073741824; omega))
local macro_rules | `(tactic| walk_at "st") => `(tactic| first
  | with_reducible refine b_seq ?_
  | with_reducible refine b_asg ?_
  | with_reducible refine b_op ?_
  | ((with_reducible refine' b_var ?hv ?_); (case hv => exact rfl))
  | with_reducible refine b_c ?_
  | with_reducible refine b_name ?_
  | with_reducible refine b_I0 ?_
  | with_reducible refine b_cons ?_
  | with_reducible refine b_nil ?_
  | with_reducible refine b_cb ?_
  | with_reducible refine b_call ?_
  | with_reducible refine b_ret ?_
  | with_reducible refine b_ifS ?_
  | with_reducible refine b_test ?_
  | with_reducible refine b_tb ?_
  | with_reducible refine b_bl ?_
  | with_reducible refine b_blP ?_
  | with_reducible refine b_next ?_
  | with_reducible refine b_drop ?_
  | with_reducible refine b_sub ?_
  | with_reducible refine b_chain ?_
  | with_reducible refine b_and ?_
  | with_reducible refine b_or ?_
  | with_reducible refine b_not ?_
  | with_reducible refine b_andV ?_
  | with_reducible refine b_orV ?_
  | with_reducible refine b_notV ?_
  | with_reducible refine b_if ?_
  | with_reducible refine b_par ?_
  | with_reducible refine b_parE ?_
  | ((with_reducible refine' b_aug ?hv ?_); (case hv => exact rfl))
  | with_reducible refine b_ip ?_
  | with_reducible refine b_retN ?_
  | with_reducible refine b_tup ?_
  | with_reducible refine b_lst ?_
  | with_reducible refine b_sl ?_
  | with_reducible refine b_part ?_
  | with_reducible refine b_partP ?_
  | with_reducible refine b_nopart ?_
  | with_reducible refine b_bm ?_
  | with_reducible refine b_m1 ?_
  | with_reducible refine b_yes ?_
  | with_reducible refine b_un ?_
  | with_reducible refine b_neg ?_
  | with_reducible refine b_isN ?_
  | with_reducible refine b_notN ?_
  | with_reducible refine b_inS ?_
  | with_reducible refine b_int ?_
  | with_reducible refine b_intB ?_
  | with_reducible refine b_abs ?_
  | with_reducible refine b_max ?_
  | with_reducible refine b_min ?_
  | ((with_reducible refine b_eq ?hv ?_); (case hv => exact rfl))
  | ((with_reducible refine b_ne ?hv ?_); (case hv => exact rfl))
  | ((with_reducible refine' b_lenL ?hv ?_); (case hv => walk_at "sq"))
  | ((with_reducible refine' b_lenT ?hv ?_); (case hv => walk_at "sq"))
  | ((with_reducible refine' b_ixL ?hv ?hw ?_); (case hv => walk_at "sq"); (case hw => exact rfl))
  | ((with_reducible refine' b_ixT ?hv ?hw ?_); (case hv => walk_at "sq"); (case hw => exact rfl))
  | ((with_reducible refine b_I ?hv ?_); (case hv => walk_at "cond"))
  | with_reducible refine b_lcS ?_
  | with_reducible refine b_lcR ?_
  | with_reducible refine b_lcT ?_
  | with_reducible refine b_lcL ?_
  | with_reducible refine b_forT ?_
  | with_reducible refine b_forL ?_
  | with_reducible refine b_forR ?_
  | with_reducible refine b_turn ?_
  | ((with_reducible refine And.intro (a := wipe _ _ = wipe _ _) ?hv ?_); (case hv => exact rfl))
  | ((with_reducible refine And.intro (a := tyV _ "list" _ _) ?hv ?_); (case hv => exact ty_list (by assumption)))
  | with_reducible refine And.intro (a := ∃ a, V.str _ = V.str a) ⟨_, rfl⟩ ?_
  | (with_reducible refine iteT ?_)
  | (with_reducible refine iteNF ?_)
  | (with_reducible refine iteNT ?_)
  | (with_reducible refine iteVT ?_)
  | (with_reducible refine iteNVT ?_)
  | ((with_reducible refine iteVF ?hv ?_); (case hv => exact rfl))
  | ((with_reducible refine iteNVF ?hv ?_); (case hv => exact rfl))
  | with_reducible refine b_callS ?_
  | with_reducible refine b_xq ?_
  | with_reducible refine b_fld ?_
  | with_reducible refine b_sfld ?_
  | with_reducible refine b_meth ?_
  | with_reducible refine b_make ?_
  | with_reducible refine b_callK ?_
  | with_reducible refine b_sfa ?_
  | with_reducible refine b_lcEnT ?_
  | with_reducible refine b_lcEnL ?_
  | with_reducible refine b_forEnT ?_
  | with_reducible refine b_forEnL ?_
  | with_reducible refine b_lcZ ?_
  | with_reducible refine e_revT ?_
  | ((with_reducible refine' e_fld ?hv ?hc ?hn ?hl ?_); (case hv => assumption); (case hc => assumption); (case hn => assumption); (case hl => exact rfl))
  | ((with_reducible refine' e_meth ?hv ?hl ?_); (case hv => assumption); (case hl => exact rfl))
  | (with_reducible refine iteF ?_))

section
variable {P : Program} {w : World} {K : PySem.W.Frag} {mg : Str → Option Value} {base : Heap} {D : Ad}
theorem DqAll.put {H H' : Hp} {zs : List V} {os : List Out} {l : Addr} {xs : List V} (h : DqAll K M0 H zs (os.map outD)) (hl : H l = some (.lst xs)) (s : SameM (· = l) H H') : DqAll K M0 H' zs (os.map outD) := h.keepN (SameN.lst hl s) (noLDAll_outs os)
theorem ltr_snoc (t : List Wd) (u : Wd) : lettersOf (t ++ [u]) = lettersOf t ++ (ltrOf u).toList := by
  unfold lettersOf
  rw [List.filterMap_append]
  cases u <;> rfl
theorem okT_of {d : PyData} (h : isTracesD d = true) : OkT (tsOf d) := by
  intro t ht w hw
  obtain ⟨_, _, h3⟩ := ts_of h
  cases w with
  | ltr c =>
    have e := h3 t ht _ hw
    have e2 : isLetterD (.str ⟨#[c]⟩) = true := e
    rw [isLetter_one, Bool.and_eq_true, decide_eq_true_eq, decide_eq_true_eq] at e2
    show c < 1114112
    omega
  | lo => trivial
  | hi => trivial
theorem ok__law_due (T : Txt K mg D) {k : Nat} : FnOk P w K mg base CX0 (k + 4) D.f__law_due D.d__law_due P__law_due (sp_output_of K) := by
  have G__law_is_form : FnOk P w K mg base CX0 (k + 3) D.f__law_is_form D.d__law_is_form P__law_is_form (sp_is_form K) := ok__law_is_form T
  have G__law_is_begun : FnOk P w K mg base CX0 (k + 3) D.f__law_is_begun D.d__law_is_begun P__law_is_begun (sp_is_begun K) := ok__law_is_begun T
  have G__law_traces : FnOk P w K mg base CX0 (k + 3) D.f__law_traces D.d__law_traces P__law_traces (sp_traces K) := ok__law_traces T
  refine T.f__law_due.ok sc__law_due (fun vs H Q E h => ?_) (fun cdv A outer s H vs Q E hr h => ?_)
  · obtain ⟨M, v, d, h, n, rfl, _⟩ := h
    rfl
  · obtain ⟨M, v, d, h, n, rfl, hd, hf, hh, hn, q⟩ := h
    refine ⟨_, (pss_cons (ps_if (pt_not (pt_val (pe_call G__law_is_form hr (by rfl) T.g__law_is_form T.f__law_is_form.kp T.b__law_is_form .nil pass0 (pa_cons (pv 0) pa_nil)))) (pss_one (ps_ret pe_non)) pss_nil)
      (pss_cons (ps_par (i := 1) (j := 2) (by rfl) sc__law_due.nd rfl rfl (by decide) rfl rfl (pa_cons (pe_lc (own := [("_law_trace_here", 9)]) (g := gName 9) (tt := tYes) (by rfl) sc__law_due.nd (pi_tupK (K := K) (by rfl) (pv 0)) (blkOk_by (own := [("_law_trace_here", 9)]) (N := N__law_due) (sc := defScope s__law_due) (by decide +kernel)) (fun _ _ _ _ _ => (pg_name (i := 9) sc__law_due.nd rfl (by first | exact .inl rfl | exact .inr rfl))) (fun _ _ _ _ _ => pts_nil) (fun _ _ _ _ _ => (pe_lc (own := [("_law_word", 10)]) (g := gName 10)  (by rfl) sc__law_due.nd (pi_tupK (K := K) (by rfl) (pv 9)) (blkOk_by (own := [("_law_word", 10)]) (by rfl)) (fun _ _ _ _ _ => (pg_name (i := 10) sc__law_due.nd rfl (by first | exact .inl rfl | exact .inr rfl))) (fun _ _ _ _ _ => (pts_one (pt_cmpR op_eq (pe_callB (callK (K := K) (r := qLen) (by rfl) q_len) (by rfl) T.z_len (by decide +kernel) (pa_cons (pv 10) pa_nil)) pe_int (nomark _)))) (fun _ _ _ _ _ => (pv 10))))) (pa_cons (pe_lst (pa_cons (pe_tup pa_nil) pa_nil)) pa_nil)) (by rfl))
      (pss_cons (ps_for PassesOwn.never rfl (pi_range1 (by rfl) T.z_range (pa_cons (pe_callB (callK (K := K) (r := rSum) (by rfl) (cr_sum rfl)) (by rfl) T.z_sum (by decide +kernel) (pa_cons (pe_lc (own := [("_law_some", 7)]) (g := gName 7) (tt := tYes) (by rfl) sc__law_due.nd (pi_listK (K := K) (by rfl) (pv 1)) (blkOk_by (own := [("_law_some", 7)]) (N := N__law_due) (sc := defScope s__law_due) (by decide +kernel)) (fun _ _ _ _ _ => (pg_name (i := 7) sc__law_due.nd rfl (by first | exact .inl rfl | exact .inr rfl))) (fun _ _ _ _ _ => pts_nil) (fun _ _ _ _ _ => (pe_callB (callK (K := K) (r := qLen) (by rfl) q_len) (by rfl) T.z_len (by decide +kernel) (pa_cons (pv 7) pa_nil)))) pa_nil)) pa_nil)) (pg_name (i := 3) sc__law_due.nd rfl (by first | exact .inl rfl | exact .inr rfl)) (pss_cons (ps_set (i := 4) sc__law_due.nd rfl (by first | exact .inl rfl | exact .inr rfl) (pe_lst pa_nil))
      (pss_cons (ps_for PassesOwn.never rfl (pi_listK (K := K) (by rfl) (pv 2)) (pg_name (i := 5) sc__law_due.nd rfl (by first | exact .inl rfl | exact .inr rfl)) (pss_one (ps_for PassesOwn.never rfl (pi_enumLK (K := K) (by rfl) (by rfl) T.z_enumerate (pa_cons (pv 1) pa_nil)) (pg_tup (by rfl) (pgs_cons (pg_name (i := 6) sc__law_due.nd rfl (by first | exact .inl rfl | exact .inr rfl)) (pgs_cons (pg_name (i := 7) sc__law_due.nd rfl (by first | exact .inl rfl | exact .inr rfl)) pgs_nil))) (pss_cons (ps_set (i := 8) sc__law_due.nd rfl (by first | exact .inl rfl | exact .inr rfl) (pe_callB (callK (K := K) (r := qLen) (by rfl) q_len) (by rfl) T.z_len (by decide +kernel) (pa_cons (pe_lc (own := [("_law_letter", 11), ("_law_place", 12)]) (g := gTup K 2 (gCons (gName 11) (gCons (gName 12) gNil)))  (by rfl) sc__law_due.nd (pi_tupK (K := K) (by rfl) (pv 5)) (blkOk_by (own := [("_law_letter", 11), ("_law_place", 12)]) (N := N__law_due) (sc := defScope s__law_due) (by decide +kernel)) (fun _ _ _ _ _ => (pg_tup (by rfl) (pgs_cons (pg_name (i := 11) sc__law_due.nd rfl (by first | exact .inl rfl | exact .inr rfl)) (pgs_cons (pg_name (i := 12) sc__law_due.nd rfl (by first | exact .inl rfl | exact .inr rfl)) pgs_nil)))) (fun _ _ _ _ _ => (pts_one (pt_cmpR op_eq (pv 12) (pv 6) (nomark _)))) (fun _ _ _ _ _ => (pv 12))) pa_nil)))
      (pss_one (ps_expr (pe_bm PySem.F.plainAttrs_list PySem.F.slot_list_extend PySem.F.type_list_extend mt_extend (pv 4) (pa_cons (pe_lc (own := [("_law_letter", 11)]) (g := gName 11) (tt := tYes) (by rfl) sc__law_due.nd (pi_listK (K := K) (by rfl) (pe_slice (slK (K := K) (r := rSlL) (by rfl) sl_list) (pv 7) (po_some (pv 8)) (po_some (pe_op op_add (pv 8) pe_int)))) (blkOk_by (own := [("_law_letter", 11)]) (N := N__law_due) (sc := defScope s__law_due) (by decide +kernel)) (fun _ _ _ _ _ => (pg_name (i := 11) sc__law_due.nd rfl (by first | exact .inl rfl | exact .inr rfl))) (fun _ _ _ _ _ => pts_nil) (fun _ _ _ _ _ => (pe_op (opK (K := K) (r := rCatA) (by rfl) op_catA) (pv 5) (pe_tup (pa_cons (pe_tup (pa_cons (pv 11) (pa_cons (pv 6) pa_nil))) pa_nil))))) pa_nil))))))))
      (pss_one (ps_setLc (i := 2) (own := [("_law_output", 5)]) (g := gName 5)  (by rfl) sc__law_due.nd rfl rfl (sw_true rfl rfl rfl (by decide +kernel)) (pi_listK (K := K) (by rfl) (pv 4)) (blkOk_by (own := [("_law_output", 5)]) (N := N__law_due) (sc := defScope s__law_due) (by decide +kernel)) (fun _ _ _ _ _ => (pg_name (i := 5) sc__law_due.nd rfl (by first | exact .inl rfl | exact .inr rfl))) (fun _ _ _ _ _ => (pts_one (pt_val (pe_call G__law_is_begun hr (by rfl) T.g__law_is_begun T.f__law_is_begun.kp T.b__law_is_begun .nil pass0 (pa_cons (pv 5) (pa_cons (pv 0) pa_nil)))))) (fun _ _ _ _ _ => (pv 5)))))))
      (pss_cons (ps_setLc (i := 2) (own := [("_law_output", 5)]) (g := gName 5)  (by rfl) sc__law_due.nd rfl rfl (sw_true rfl rfl rfl (by decide +kernel)) (pi_listK (K := K) (by rfl) (pv 2)) (blkOk_by (own := [("_law_output", 5)]) (N := N__law_due) (sc := defScope s__law_due) (by decide +kernel)) (fun _ _ _ _ _ => (pg_name (i := 5) sc__law_due.nd rfl (by first | exact .inl rfl | exact .inr rfl))) (fun _ _ _ _ _ => (pts_one (pt_cmpR (opK (K := K) (r := rEqQ) (by rfl) (op_eqQ hr.units)) (pe_call G__law_traces hr (by rfl) T.g__law_traces T.f__law_traces.kp T.b__law_traces .nil pass0 (pa_cons (pv 5) (pa_cons (pe_callB (callK (K := K) (r := qLen) (by rfl) q_len) (by rfl) T.z_len (by decide +kernel) (pa_cons (pv 0) pa_nil)) pa_nil))) (pv 0) (nomark _)))) (fun _ _ _ _ _ => (pv 5)))
      (pss_one (ps_ret (pe_ifExp (pt_cmpR (opK (K := K) (r := rNeQ) (by rfl) (op_neQ hr.units)) (pv 2) (pe_lst pa_nil) (nomark _)) (pe_ix (ixK (K := K) (r := rIxL) (by rfl) ix_list) (pv 2) pe_int (fun _ _ => rfl)) pe_non))))))), ?_⟩
    repeat walk_at "st"
    refine ⟨M, v, d, h, n, rfl, hd, hf, hh, hn, fun H1 s1 => ?_⟩
    unfold resD at q
    cases hT : isTracesD d with
    | false =>
      rw [hT, if_neg Bool.false_ne_true] at q
      repeat walk_at "st"
      exact q .non H1 s1 .non
    | true =>
    rw [hT, if_pos rfl] at q
    have hty : isTy "tuple" d = true := by
      cases d <;> first | rfl | exact absurd (show false = true from hT) Bool.false_ne_true
    replace hf := hf hty
    have hokT := okT_of hT
    obtain ⟨hdT, hlen2, hlet⟩ := ts_of hT
    generalize tsOf d = U at hdT hlen2 hlet q hokT
    subst hdT
    have hd1 := hd.free.same s1
    obtain ⟨a, xs, rfl, hx, hxs⟩ := hd1.tupE
    have hxl : xs.length = U.length := by rw [hxs.length, List.length_map]
    have hUl : U.length ≤ 45000 := by
      have h1 := sumLen_two (U.map trD)
      have h2 := sumLen_shown (U.map trD)
      have h3 := hf.sm.sz
      rw [List.length_map] at h1
      omega
    have hft : ∀ t ∈ U, Fit h n (trD t) := fun t ht => hf.item (List.mem_map_of_mem ht)
    have htl : ∀ t ∈ U, t.length ≤ 90000 := fun t ht => by
      have h1 := sumLen_two (t.map wdD)
      have h2 := sumLen_shown (t.map wdD)
      have h3 : (PyData.shown (.tuple (t.map wdD))).length ≤ n := (hft t ht).sm.sz
      rw [List.length_map] at h1
      omega
    have hcap : total U.length (Tn U) ≤ 90000 := by
      rw [total_eq]
      have : ∀ U : List (List Wd), (U.map fun t => (lettersOf t).length).sum ≤ sumLen (U.map trD) := by
        intro U
        induction U with
        | nil => simp [sumLen]
        | cons t U ih =>
          have h3 : (lettersOf t).length ≤ t.length := by rw [letters_filter]; exact List.length_filter_le _ _
          have h4 := sumLen_two (t.map wdD)
          have h5 := sumLen_shown (t.map wdD)
          rw [List.length_map] at h4
          have h6 : (trD t).shown = PyData.shown (.tuple (t.map wdD)) := rfl
          simp only [List.map_cons, List.sum_cons, sumLen]
          rw [h6]
          omega
      have h1 := this U
      have h2 := sumLen_shown (U.map trD)
      have h3 := hf.sm.sz
      omega
    repeat walk_at "st"
    -- the letters
    refine e_lcT hx.t (fun S i H' => ∃ ls : List Addr, ls.length = i ∧ H' S = some (.lst (ls.map V.ref)) ∧ (∀ b ∈ ls, b ≠ S) ∧ (∀ j b, ls[j]? = some b → H' b = some (.lst ((lettersOf (Tn U j)).map ltrV))) ∧ Same H1 H') ?_ ?_ ?_ ?_
    · intro S H' nS hS sS
      exact ⟨[], rfl, hS, by simp, by simp, sS⟩
    · rintro S i H' nS ⟨_, _, _, _, _, s'⟩
      exact ((SameM.of s').t hx).t
    · rintro S i x H' nS hxi ⟨ls, hll, hS, hne, hle, s'⟩
      obtain ⟨e, he1, he2⟩ := (hxs.same s').get hxi
      rw [List.getElem?_map] at he1
      cases et : U[i]? with
      | none => rw [et] at he1; cases he1
      | some t =>
      rw [et] at he1
      cases he1
      have hi := (List.getElem?_eq_some_iff.mp et).1
      have htm := List.mem_of_getElem? et
      obtain ⟨b, rfl, hb⟩ := tr_vals he2
      repeat walk_at "st"
      refine e_lcT hb.t (fun S2 j H'' => H'' S2 = some (.lst ((lettersOf (t.take j)).map ltrV)) ∧ Same H' H'') ?_ ?_ ?_ ?_
      · intro S2 H'' nS2 hS2 sS2
        exact ⟨hS2, sS2⟩
      · rintro S2 j H'' nS2 ⟨_, s''⟩
        exact ((SameM.of s'').t hb).t
      · rintro S2 j x H'' nS2 hxj ⟨hS2, s''⟩
        rw [List.getElem?_map] at hxj
        cases eu : t[j]? with
        | none => rw [eu] at hxj; cases hxj
        | some u =>
        rw [eu] at hxj
        cases hxj
        have hul := wdS_len u
        have hj := (List.getElem?_eq_some_iff.mp eu).1
        have htt := htl t htm
        have hnx : lettersOf (t.take (j + 1)) = lettersOf (t.take j) ++ (ltrOf u).toList := by
          rw [List.take_add_one, eu]
          exact ltr_snoc _ _
        repeat walk_at "st"
        refine b_lenS (by rw [hul]; split <;> decide) ?_
        repeat walk_at "st"
        cases u with
        | ltr c =>
          rw [decide_eq_true (show V.int ((wdS (.ltr c)).length : Int) = V.int 1 from rfl)]
          repeat walk_at "st"
          refine e_app hS2 (by
            rw [List.length_map, letters_filter]
            have := List.length_filter_le isL (t.take j)
            rw [List.length_take] at this
            omega) fun H4 h4 s4 => ⟨?_, ?_⟩
          · rw [h4, hnx]
            simp [ltrOf, ltrV, wdS]
          · intro c ob e
            exact s4 _ _ (fun z => by rw [z, nS2] at e; cases e) (s'' _ _ e)
        | lo =>
          rw [decide_eq_false (show ¬ V.int ((wdS .lo).length : Int) = V.int 1 from fun z => by injection z with z; exact absurd z (by decide))]
          repeat walk_at "st"
          refine ⟨?_, s''⟩
          rw [hS2, hnx]
          simp [ltrOf]
        | hi =>
          rw [decide_eq_false (show ¬ V.int ((wdS .hi).length : Int) = V.int 1 from fun z => by injection z with z; exact absurd z (by decide))]
          repeat walk_at "st"
          refine ⟨?_, s''⟩
          rw [hS2, hnx]
          simp [ltrOf]
      · rintro S2 H'' nS2 ⟨hS2, s''⟩
        rw [List.length_map, List.take_length] at hS2
        have hSS : S2 ≠ S := fun z => by rw [z, hS] at nS2; cases nS2
        refine e_app (s'' _ _ hS) (by simp; omega) fun H4 h4 s4 => ⟨ls ++ [S2], by simp [hll], by rw [h4]; simp, ?_, ?_, ?_⟩
        · intro c hc
          rcases List.mem_append.mp hc with z | z
          · exact hne c z
          · rw [List.mem_singleton.mp z]; exact hSS
        · intro j c hj
          by_cases hji : j < ls.length
          · rw [List.getElem?_append_left hji] at hj
            exact s4 _ _ (hne c (List.mem_of_getElem? hj)) (s'' _ _ (hle j c hj))
          · rw [List.getElem?_append_right (by omega)] at hj
            have hj0 : j - ls.length = 0 := by
              have := (List.getElem?_eq_some_iff.mp hj).1
              simp at this
              omega
            rw [hj0] at hj
            simp at hj
            subst hj
            have : j = i := by omega
            subst this
            rw [Tn_get et]
            exact s4 _ _ hSS hS2
        · intro c ob e
          exact s4 _ _ (fun z => by rw [z, nS] at e; cases e) (s'' _ _ (s' _ _ e))
    rintro Lt H2 nLt ⟨ls, hll, hLt, hne, hle, s2⟩
    rw [hxl] at hll
    repeat walk_at "st"
    refine e_tup fun t0 H3 nt0 ht0 s3 => ?_
    repeat walk_at "st"
    refine e_lst fun F0 H4 nF0 hF0 s4 => ?_
    have du2 : Du K U (.ref a) Lt ls H H2 := ⟨hd1.same s2, hLt, hle, hll, s1.trans s2⟩
    have du4 := (du2.same s3).same s4
    have hfd : DqAll K M0 H4 [V.ref t0] ((found U.length (Tn U) 0).map outD) := .cons (Dq.newT (fun z => z) (s4 _ _ ht0) .nil) .nil
    repeat walk_at "st"
    -- how many
    refine e_lcL (SqL.of du4.lt) (fun S i H' => H' S = some (.lst (((U.take i).map fun t => ((lettersOf t).length : Int)).map V.int)) ∧ Same H4 H') ?_ ?_ ?_ ?_
    · intro S H' nS hS sS
      exact ⟨hS, sS⟩
    · rintro S i H' nS ⟨_, s'⟩
      exact SqL.of (s' _ _ du4.lt)
    · rintro S i x H' nS hxi ⟨hS, s'⟩
      rw [List.getElem?_map] at hxi
      cases eb : ls[i]? with
      | none => rw [eb] at hxi; cases hxi
      | some b =>
      rw [eb] at hxi
      cases hxi
      have hi : i < U.length := by rw [← hll]; exact (List.getElem?_eq_some_iff.mp eb).1
      have hb := s' _ _ (du4.le i b eb)
      have et : U[i]? = some U[i] := List.getElem?_eq_getElem hi
      rw [Tn_get et] at hb
      repeat walk_at "st"
      refine e_app hS (by simp; omega) fun H5 h5 s5 => ⟨?_, ?_⟩
      · rw [h5, List.take_add_one, et]
        simp only [List.map_append, Option.toList, List.map_cons, List.map_nil, List.length_map]
      · intro c ob e
        exact s5 _ _ (fun z => by rw [z, nS] at e; cases e) (s' _ _ e)
    rintro S H5 nS ⟨hS, s5⟩
    rw [List.length_map, hll, List.take_length] at hS
    repeat walk_at "st"
    refine b_sum (SqL.of hS) ?_
    have htot : (U.map fun t => ((lettersOf t).length : Int)).sum = (total U.length (Tn U) : Nat) := by
      rw [total_eq, ← sum_cast, List.map_map]
      rfl
    rw [htot]
    repeat walk_at "st"
    -- the turns
    refine e_forR (fun i σ H' => ∃ (F : Addr) (ys : List V) (s3 s4 s5 s6 s7 s8 : Option V), σ = [some (.ref a), some (.ref Lt), some (.ref F), s3, s4, s5, s6, s7, s8, none, none, none, none] ∧ H' F = some (.lst ys) ∧ DqAll K M0 H' ys ((found U.length (Tn U) i).map outD) ∧ Du K U (.ref a) Lt ls H H')
      (by omega) (by omega) ?_ ?_ ?_
    · exact ⟨F0, _, none, none, none, none, none, none, rfl, s5 _ _ hF0, hfd.same s5, du4.same s5⟩
    · rintro i σ Hi hi ⟨F, ys, sl3, sl4, sl5, sl6, sl7, sl8, rfl, hF, hys, du⟩
      rw [Int.toNat_natCast] at hi
      have hyl : ys.length = (found U.length (Tn U) i).length := by rw [hys.length, List.length_map]
      have hf1 := found_len U.length (Tn U) i
      repeat walk_at "st"
      refine e_lst fun lg Ha nlg hlg sa => ?_
      have dua := du.same sa
      have hFlg : F ≠ lg := fun z => by rw [z, nlg] at hF; cases hF
      repeat walk_at "st"
      refine e_forL (SqL.of (sa _ _ hF)) (fun j σ H' => ∃ (zs : List V) (s5 s6 s7 s8 : Option V), σ = [some (.ref a), some (.ref Lt), some (.ref F), some (.int (0 + (i : Nat))), some (.ref lg), s5, s6, s7, s8, none, none, none, none] ∧
        H' lg = some (.lst zs) ∧ DqAll K M0 H' zs ((((found U.length (Tn U) i).take j).flatMap (ext U.length (Tn U))).map outD) ∧ H' F = some (.lst ys) ∧ DqAll K M0 H' ys ((found U.length (Tn U) i).map outD) ∧ Du K U (.ref a) Lt ls H H') ?_ ?_ ?_ ?_
      · exact ⟨[], _, _, _, _, rfl, hlg, .nil, sa _ _ hF, hys.same sa, dua⟩
      · rintro j σ H' ⟨_, _, _, _, _, _, _, _, h, _⟩
        exact SqL.of h
      · rintro j x σ Hj hxj ⟨zs, tl5, tl6, tl7, tl8, rfl, hzs, hzd, hFj, hyd, duj⟩
        obtain ⟨dd, hd1, hd2⟩ := hyd.get hxj
        rw [List.getElem?_map] at hd1
        cases eo : (found U.length (Tn U) i)[j]? with
        | none => rw [eo] at hd1; cases hd1
        | some o =>
        rw [eo] at hd1
        cases hd1
        have hom := List.mem_of_getElem? eo
        obtain ⟨hoo, hol⟩ := found_ok hokT i o hom
        have hj1 : j < 1 := by
          have := (List.getElem?_eq_some_iff.mp eo).1
          omega
        have hflat := flat_len U.length (Tn U) ((found U.length (Tn U) i).take j)
        have hj0 : j = 0 := by omega
        have hnxt : ((found U.length (Tn U) i).take (j + 1)).flatMap (ext U.length (Tn U)) = ((found U.length (Tn U) i).take j).flatMap (ext U.length (Tn U)) ++ ext U.length (Tn U) o := by
          rw [List.take_add_one, eo, List.flatMap_append]
          simp
        rw [hnxt]
        have hpl : (((found U.length (Tn U) i).take j).flatMap (ext U.length (Tn U))).length = 0 := by
          rw [hj0]; simp
        generalize ((found U.length (Tn U) i).take j).flatMap (ext U.length (Tn U)) = pre at hzd hpl ⊢
        repeat walk_at "st"
        refine e_forEnL (SqL.of duj.lt) (fun m σ H' => ∃ (zs : List V) (s6 s7 s8 : Option V), σ = [some (.ref a), some (.ref Lt), some (.ref F), some (.int (0 + (i : Nat))), some (.ref lg), some x, s6, s7, s8, none, none, none, none] ∧
          H' lg = some (.lst zs) ∧ DqAll K M0 H' zs ((pre ++ (List.range m).flatMap (ext1 (Tn U) o)).map outD) ∧ H' F = some (.lst ys) ∧ DqAll K M0 H' ys ((found U.length (Tn U) i).map outD) ∧ Dq K M0 H' x (outD o) ∧ Du K U (.ref a) Lt ls H H') ?_ ?_ ?_ ?_
        · exact ⟨zs, _, _, _, rfl, hzs, by simpa using hzd, hFj, hyd, hd2, duj⟩
        · rintro m σ H' ⟨_, _, _, _, _, _, _, _, _, _, d⟩
          exact SqL.of d.lt
        · rintro m y tt σ Hm Hm2 hym ⟨zs, tl6, tl7, tl8, rfl, hzs, hzd, hFm, hyd, hxo, dum⟩ ntt htt sm
          rw [List.getElem?_map] at hym
          cases eb : ls[m]? with
          | none => rw [eb] at hym; cases hym
          | some b =>
          rw [eb] at hym
          cases hym
          have hm : m < U.length := by rw [← hll]; exact (List.getElem?_eq_some_iff.mp eb).1
          have hxo2 := hxo.same sm
          obtain ⟨ao, xo, rfl, hxo3, hxo4⟩ := Dq.tupE (ds := o.map pairD) hxo2
          have hxol : xo.length = o.length := by rw [hxo4.length, List.length_map]
          repeat walk_at "st"
          refine e_gtup2 (SqT.of htt) ?_
          repeat walk_at "st"
          refine e_lcT hxo3.t (fun S2 q H' => H' S2 = some (.lst (((o.take q).filter fun z => z.2 == m).map fun z => V.int (z.2 : Nat))) ∧ Same Hm2 H') ?_ ?_ ?_ ?_
          · intro S2 H' nS2 hS2 sS2
            exact ⟨hS2, sS2⟩
          · rintro S2 q H' nS2 ⟨_, s'⟩
            exact ((SameM.of s').t hxo3).t
          · rintro S2 q z H' nS2 hzq ⟨hS2, s'⟩
            obtain ⟨e1, he1, he2⟩ := (hxo4.same s').get hzq
            rw [List.getElem?_map] at he1
            cases ez : o[q]? with
            | none => rw [ez] at he1; cases he1
            | some pz =>
            rw [ez] at he1
            cases he1
            have hq := (List.getElem?_eq_some_iff.mp ez).1
            obtain ⟨pa, rfl, hpa⟩ := pair_vals he2
            repeat walk_at "st"
            refine e_gtup2 hpa ?_
            repeat walk_at "st"
            by_cases hpm : pz.2 = m
            · rw [decide_eq_true (show V.int (pz.2 : Nat) = V.int (m : Nat) by rw [hpm])]
              repeat walk_at "st"
              refine e_app hS2 (by
                rw [List.length_map]
                have := List.length_filter_le (fun z : Nat × Nat => z.2 == m) (o.take q)
                rw [List.length_take] at this
                omega) fun H6 h6 s6 => ⟨?_, ?_⟩
              · rw [h6, List.take_add_one, ez]
                simp [List.filter_append, List.filter_cons, hpm]
              · intro c ob e
                exact s6 _ _ (fun z => by rw [z, nS2] at e; cases e) (s' _ _ e)
            · rw [decide_eq_false (show ¬ V.int (pz.2 : Nat) = V.int (m : Nat) from fun z => hpm (by injection z with z; omega))]
              repeat walk_at "st"
              refine ⟨?_, s'⟩
              rw [hS2, List.take_add_one, ez]
              simp [List.filter_append, List.filter_cons, hpm]
          rintro S2 Hb nS2 ⟨hS2, sb⟩
          rw [hxol, List.take_length] at hS2
          have hcnt : (((o.filter fun z => z.2 == m).map fun z => V.int (z.2 : Nat)).length : Int) = (cnt o m : Nat) := by
            rw [List.length_map]; rfl
          repeat walk_at "st"
          rw [hcnt]
          have smb := sm.trans sb
          have hbl := smb _ _ (dum.le m b eb)
          have hlgb := smb _ _ hzs
          repeat walk_at "st"
          refine e_slL (SqL.of hbl) fun S3 Hc nS3 hS3 sc => ?_
          rw [cut_one, ← List.map_drop, ← List.map_take] at hS3
          repeat walk_at "st"
          generalize hcs : ((lettersOf (Tn U m)).drop (cnt o m)).take 1 = cs at hS3
          have hcsl : cs.length ≤ 1 := by rw [← hcs, List.length_take]; omega
          have sbc : Same Hm Hc := smb.trans sc
          have hxoc : Dq K M0 Hc (.ref ao) (outD o) := hxo.same sbc
          have hlgc := sbc _ _ hzs
          repeat walk_at "st"
          refine e_lcL (SqL.of hS3) (fun S4 q H' => ∃ zs4 : List V, H' S4 = some (.lst zs4) ∧ DqAll K M0 H' zs4 (((cs.take q).map fun c => o ++ [(c, m)]).map outD) ∧ Same Hc H') ?_ ?_ ?_ ?_
          · intro S4 H' nS4 hS4 sS4
            exact ⟨[], hS4, .nil, sS4⟩
          · rintro S4 q H' nS4 ⟨_, _, _, s'⟩
            exact SqL.of (s' _ _ hS3)
          · rintro S4 q z H' nS4 hzq ⟨zs4, hS4, hzs4, s'⟩
            rw [List.getElem?_map] at hzq
            cases ec : cs[q]? with
            | none => rw [ec] at hzq; cases hzq
            | some c =>
            rw [ec] at hzq
            cases hzq
            have hq := (List.getElem?_eq_some_iff.mp ec).1
            repeat walk_at "st"
            refine e_tupD (K := K) (.cons (.str _) (.cons (.int _) .nil)) fun p1 H6 hp1 s6 => ?_
            repeat walk_at "st"
            refine e_tupD (.cons hp1 .nil) fun p2 H7 hp2 s7 => ?_
            have s67 := s6.trans s7
            refine e_catD (((hxoc.same s').same s67) : Dq K M0 H7 (.ref ao) (.tuple (o.map pairD))) hp2 (by simp; omega) fun p3 H8 hp3 s8 => ?_
            have e8 : PyData.tuple (o.map pairD ++ [PyData.tuple [PyData.str ⟨#[c]⟩, PyData.int (m : Nat)]]) = outD (o ++ [(c, m)]) := by
              unfold outD
              rw [List.map_append]
              rfl
            rw [e8] at hp3
            have s68 := s67.trans s8
            have hzl := hzs4.length
            rw [List.length_map, List.length_map, List.length_take] at hzl
            have hS48 := s68 _ _ hS4
            refine e_app hS48 (by omega) fun H9 h9 s9 => ⟨_, h9, ?_, ?_⟩
            · have e9 : (cs.take (q + 1)).map (fun c => o ++ [(c, m)]) = (cs.take q).map (fun c => o ++ [(c, m)]) ++ [o ++ [(c, m)]] := by
                rw [List.take_add_one, ec]
                simp
              rw [e9, List.map_append]
              exact (DqAll.put (hzs4.same s68) hS48 s9).append (.cons (hp3.keepN (SameN.lst hS48 s9) (noLD_out _)) .nil)
            · exact Same.new (s'.trans s68) s9 fun b hb => by rw [hb]; exact nS4
          rintro S4 Hd nS4 ⟨zs4, hS4, hzs4, sd⟩
          rw [List.length_map, List.take_length] at hzs4
          have sbd : Same Hm Hd := sbc.trans sd
          have hlgd := sbd _ _ hzs
          have hzl := hzd.length
          rw [List.length_map, List.length_append] at hzl
          have hexl := exts_len (Tn U) o m
          have hz4l := hzs4.length
          rw [List.length_map, List.length_map] at hz4l
          repeat walk_at "st"
          refine e_extend hlgd hS4 (by omega) fun He he se => ?_
          repeat walk_at "st"
          refine ⟨zs ++ zs4, _, _, _, rfl, he, ?_, ?_, ?_, ?_, ?_⟩
          · have e9 : pre ++ (List.range (m + 1)).flatMap (ext1 (Tn U) o) = (pre ++ (List.range m).flatMap (ext1 (Tn U) o)) ++ ext1 (Tn U) o m := by
              rw [List.range_succ, List.flatMap_append]
              simp
            rw [e9, List.map_append]
            refine (DqAll.put (hzd.same sbd) hlgd se).append ?_
            have e10 : ext1 (Tn U) o m = cs.map fun c => o ++ [(c, m)] := by
              rw [← hcs]
              rfl
            rw [e10]
            exact DqAll.put hzs4 hlgd se
          · exact se _ _ hFlg (sbd _ _ hFm)
          · exact DqAll.put (hyd.same sbd) hlgd se
          · exact (hxo.same sbd).keepN (SameN.lst hlgd se) (noLD_out _)
          · exact Du.put du nlg (dum.same sbd) hlgd se
        · rintro σ H' ⟨zs, tl6, tl7, tl8, rfl, hzs, hzd, hFm, hyd, hxo, dum⟩
          rw [List.length_map, hll] at hzd
          exact ⟨zs, _, _, _, _, rfl, hzs, hzd, hFm, hyd, dum⟩
      rintro σ Hb ⟨zs, tl5, tl6, tl7, tl8, rfl, hzs, hzd, hFb, hyd, dub⟩
      rw [hyl, List.take_length] at hzd
      repeat walk_at "st"
      -- what is begun
      have hfl := flat_len U.length (Tn U) (found U.length (Tn U) i)
      have hwf : ∀ o ∈ (found U.length (Tn U) i).flatMap (ext U.length (Tn U)), OkO o ∧ o.length = i + 1 := by
        intro o ho
        obtain ⟨o1, h1, h2⟩ := List.mem_flatMap.mp ho
        obtain ⟨b1, b2⟩ := found_ok hokT i o1 h1
        obtain ⟨c1, c2⟩ := ext_ok hokT b1 o h2
        exact ⟨c1, by omega⟩
      have hfn : found U.length (Tn U) (i + 1) = ((found U.length (Tn U) i).flatMap (ext U.length (Tn U))).filter (begunB U.length (Tn U)) := rfl
      have hcard : ((found U.length (Tn U) i).flatMap (ext U.length (Tn U))).length ≤ 45000 := by
        have : (found U.length (Tn U) i).length * U.length ≤ 1 * U.length := Nat.mul_le_mul_right _ hf1
        omega
      rw [hfn]
      generalize (found U.length (Tn U) i).flatMap (ext U.length (Tn U)) = os at hzd hwf hcard ⊢
      have hzl : zs.length = os.length := by rw [hzd.length, List.length_map]
      refine e_lcL (SqL.of hzs) (fun S6 q H' => ∃ zs6 : List V, H' S6 = some (.lst zs6) ∧ DqAll K M0 H' zs6 (((os.take q).filter (begunB U.length (Tn U))).map outD) ∧ Same Hb H') ?_ ?_ ?_ ?_
      · intro S6 H' nS6 hS6 sS6
        exact ⟨[], hS6, .nil, sS6⟩
      · rintro S6 q H' nS6 ⟨_, _, _, s'⟩
        exact SqL.of (s' _ _ hzs)
      · rintro S6 q z H' nS6 hzq ⟨zs6, hS6, hzs6, s'⟩
        obtain ⟨e1, he1, he2⟩ := (hzd.same s').get hzq
        rw [List.getElem?_map] at he1
        cases ez : os[q]? with
        | none => rw [ez] at he1; cases he1
        | some o =>
        rw [ez] at he1
        cases he1
        have hq := (List.getElem?_eq_some_iff.mp ez).1
        obtain ⟨hoo, hol⟩ := hwf o (List.mem_of_getElem? ez)
        repeat walk_at "st"
        refine ⟨M0, M0, z, .ref a, o, U, rfl, he2, (dub.same s').va, hoo, hokT, by omega, by omega, htl, fun H6 s6 => ?_⟩
        have e9 : (os.take (q + 1)).filter (begunB U.length (Tn U)) = (os.take q).filter (begunB U.length (Tn U)) ++ (if begunB U.length (Tn U) o = true then [o] else []) := by
          rw [List.take_add_one, ez, List.filter_append]
          simp [List.filter_cons]
        rw [e9]
        repeat walk_at "st"
        have hz6 := hzs6.length
        have hfll := List.length_filter_le (begunB U.length (Tn U)) (os.take q)
        rw [List.length_map] at hz6
        rw [List.length_take] at hfll
        refine ite2 (fun g1 => ?_) (fun g1 => ?_)
        · rw [if_pos g1]
          repeat walk_at "st"
          have hS66 := s6 _ _ hS6
          refine e_app hS66 (by omega) fun H7 h7 s7 => ⟨_, h7, ?_, ?_⟩
          · rw [List.map_append]
            exact (DqAll.put (hzs6.same s6) hS66 s7).append (.cons ((he2.same s6).keepN (SameN.lst hS66 s7) (noLD_out _)) .nil)
          · exact Same.new (s'.trans s6) s7 fun b hb => by rw [hb]; exact nS6
        · rw [if_neg g1, List.append_nil]
          exact ⟨zs6, s6 _ _ hS6, hzs6.same s6, s'.trans s6⟩
      · rintro S6 H' nS6 ⟨zs6, hS6, hzs6, s'⟩
        rw [hzl, List.take_length] at hzs6
        repeat walk_at "st"
        exact ⟨S6, zs6, _, _, _, _, _, _, rfl, hS6, hzs6, dub.same s'⟩
    · rintro σ Hi ⟨F, ys, sl3, sl4, sl5, sl6, sl7, sl8, rfl, hF, hys, du⟩
      rw [Int.toNat_natCast] at hys
      have hfin := due_found U.length (Tn U)
      have hf1 := found_len U.length (Tn U) (total U.length (Tn U))
      have hwf := found_ok (n := U.length) hokT (total U.length (Tn U))
      generalize found U.length (Tn U) (total U.length (Tn U)) = os at hys hfin hf1 hwf
      have hyl : ys.length = os.length := by rw [hys.length, List.length_map]
      repeat walk_at "st"
      refine e_lcL (SqL.of hF) (fun S6 q H' => ∃ zs6 : List V, H' S6 = some (.lst zs6) ∧ DqAll K M0 H' zs6 (((os.take q).filter (sameB U.length (Tn U))).map outD) ∧ Same Hi H') ?_ ?_ ?_ ?_
      · intro S6 H' nS6 hS6 sS6
        exact ⟨[], hS6, .nil, sS6⟩
      · rintro S6 q H' nS6 ⟨_, _, _, s'⟩
        exact SqL.of (s' _ _ hF)
      · rintro S6 q z H' nS6 hzq ⟨zs6, hS6, hzs6, s'⟩
        obtain ⟨e1, he1, he2⟩ := (hys.same s').get hzq
        rw [List.getElem?_map] at he1
        cases ez : os[q]? with
        | none => rw [ez] at he1; cases he1
        | some o =>
        rw [ez] at he1
        cases he1
        have hq := (List.getElem?_eq_some_iff.mp ez).1
        obtain ⟨hoo, hol⟩ := hwf o (List.mem_of_getElem? ez)
        have hva := (du.same s').va
        repeat walk_at "st"
        refine b_lenD hva ?_
        rw [List.length_map]
        repeat walk_at "st"
        refine ⟨M0, z, o, U.length, rfl, he2, hoo, by omega, by omega, fun v6 H6 h6 s6 => ?_⟩
        repeat walk_at "st"
        have sh1 : SeqAt.shaped (.tuple (U.map trD)) = true := hf.shaped (by omega)
        have sh2 : SeqAt.shaped (trsD o U.length) = true := by
          refine shaped_of ?_ ?_
          · unfold trsD
            simp only [PyData.canLay0]
            refine canLayAll_of fun d hd => ?_
            obtain ⟨t, ht, rfl⟩ := List.mem_map.mp hd
            obtain ⟨p, _, rfl⟩ := List.mem_map.mp ht
            exact SeqAt.canLay_of_shaped (shaped_tr (trace_ok hoo p))
          · unfold trsD
            simp only [PyData.depth]
            have : PyData.depthAll (((List.range U.length).map (trace o)).map trD) ≤ 1 := depthAll_of fun d hd => by
              obtain ⟨t, ht, rfl⟩ := List.mem_map.mp hd
              unfold trD
              simp only [PyData.depth]
              rw [depth_map]
              exact Nat.le_refl _
            omega
        refine ⟨M0, M0, trsD o U.length, .tuple (U.map trD), h6 M0 trk0, hva.same s6, sh2, sh1, ?_⟩
        have e8 : PyData.eqv (trsD o U.length) (.tuple (U.map trD)) = sameB U.length (Tn U) o := by
          unfold trsD
          simp only [PyData.eqv]
          rw [eqv_trs, Bool.eq_iff_iff, decide_eq_true_eq]
          unfold sameB
          rw [List.all_eq_true]
          have hU := range_map_Tn U
          constructor
          · intro z p hp
            refine decide_eq_true ?_
            have hp' := List.mem_range.mp hp
            have e1 : ((List.range U.length).map (trace o))[p]? = U[p]? := by rw [z]
            rw [List.getElem?_map, List.getElem?_range hp', List.getElem?_eq_getElem hp'] at e1
            have e2 : trace o p = U[p] := Option.some.inj e1
            rw [e2, Tn_get (List.getElem?_eq_getElem hp')]
          · intro z
            conv => rhs; rw [← hU]
            exact List.map_congr_left fun p hp => of_decide_eq_true (z p hp)
        rw [e8]
        have e9 : (os.take (q + 1)).filter (sameB U.length (Tn U)) = (os.take q).filter (sameB U.length (Tn U)) ++ (if sameB U.length (Tn U) o = true then [o] else []) := by
          rw [List.take_add_one, ez, List.filter_append]
          simp [List.filter_cons]
        rw [e9]
        repeat walk_at "st"
        have hz6 := hzs6.length
        have hfll := List.length_filter_le (sameB U.length (Tn U)) (os.take q)
        rw [List.length_map] at hz6
        rw [List.length_take] at hfll
        refine ite2 (fun g1 => ?_) (fun g1 => ?_)
        · rw [if_pos g1]
          repeat walk_at "st"
          have hS66 := s6 _ _ hS6
          refine e_app hS66 (by omega) fun H7 h7 s7 => ⟨_, h7, ?_, ?_⟩
          · rw [List.map_append]
            exact (DqAll.put (hzs6.same s6) hS66 s7).append (.cons ((he2.same s6).keepN (SameN.lst hS66 s7) (noLD_out _)) .nil)
          · exact Same.new (s'.trans s6) s7 fun b hb => by rw [hb]; exact nS6
        · rw [if_neg g1, List.append_nil]
          exact ⟨zs6, s6 _ _ hS6, hzs6.same s6, s'.trans s6⟩
      · rintro S6 H' nS6 ⟨zs6, hS6, hzs6, s'⟩
        rw [hyl, List.take_length, hfin] at hzs6
        repeat walk_at "st"
        refine e_lst fun e0 H6 ne0 he0 s6 => ?_
        have hS66 := s6 _ _ hS6
        have sH6 : Same H H6 := (du.sm.trans s').trans s6
        unfold dueD at q
        cases edue : due U.length (Tn U) with
        | none =>
          rw [edue] at hzs6 q
          refine ⟨M0, M0, .list [], .list [], Dq.newL (fun z => z) hS66 (hzs6.same s6), Dq.newL (ds := []) (fun z => z) he0 .nil, by decide +kernel, by decide +kernel, ?_⟩
          rw [show PyData.eqv (.list []) (.list []) = true by simp [PyData.eqv, PyData.eqvAll]]
          repeat walk_at "st"
          exact q .non H6 sH6 .non
        | some o =>
          rw [edue] at hzs6 q
          have hom : o ∈ os := by
            have : o ∈ os.filter (sameB U.length (Tn U)) := by rw [hfin, edue]; simp
            exact (List.mem_filter.mp this).1
          obtain ⟨hoo, hol⟩ := hwf o hom
          have sh : SeqAt.shaped (.list [outD o]) = true := by
            refine shaped_of ?_ ?_
            · simp only [PyData.canLay0, PyData.canLayAll0, Bool.and_true]
              exact lay_out hoo
            · have := depth_out o
              simp only [PyData.depth, PyData.depthAll]
              omega
          refine ⟨M0, M0, .list [outD o], .list [], Dq.newL (fun z => z) hS66 (hzs6.same s6), Dq.newL (ds := []) (fun z => z) he0 .nil, sh, by decide +kernel, ?_⟩
          rw [show PyData.eqv (.list [outD o]) (.list []) = false by simp [PyData.eqv, PyData.eqvAll]]
          have hz := hzs6.same s6
          cases hz with
          | cons h1 h2 =>
            cases h2
            repeat walk_at "st"
            exact q _ H6 sH6 h1
end
end K14

namespace K14
open PySem PySem.Spec PyProof.Rows L2 FG
local macro_rules | `(tactic| walk_at "sq") => `(tactic| first
  | assumption
  | exact SqL.of (by assumption)
  | exact SqT.of (by assumption)
  | exact SqLm.l (by assumption)
  | exact SqTm.t (by assumption))
local macro_rules | `(tactic| walk_at "cond") => `(tactic| first
  | assumption
  | (show (0 : Int) < _; omega)
  | (show (0 : Int) < _ ∧ _ < 1073741824; omega))
local macro_rules | `(tactic| walk_at "st") => `(tactic| first
  | with_reducible refine b_seq ?_
  | with_reducible refine b_asg ?_
  | with_reducible refine b_op ?_
  | ((with_reducible refine' b_var ?hv ?_); (case hv => exact rfl))
  | with_reducible refine b_c ?_
  | with_reducible refine b_name ?_
  | with_reducible refine b_I0 ?_
  | with_reducible refine b_cons ?_
  | with_reducible refine b_nil ?_
  | with_reducible refine b_cb ?_
  | with_reducible refine b_call ?_
  | with_reducible refine b_ret ?_
  | with_reducible refine b_ifS ?_
  | with_reducible refine b_test ?_
  | with_reducible refine b_tb ?_
  | with_reducible refine b_bl ?_
  | with_reducible refine b_blP ?_
  | with_reducible refine b_next ?_
  | with_reducible refine b_drop ?_
  | with_reducible refine b_sub ?_
  | with_reducible refine b_chain ?_
  | with_reducible refine b_and ?_
  | with_reducible refine b_or ?_
  | with_reducible refine b_not ?_
  | with_reducible refine b_andV ?_
  | with_reducible refine b_orV ?_
  | with_reducible refine b_notV ?_
  | with_reducible refine b_if ?_
  | with_reducible refine b_par ?_
  | with_reducible refine b_parE ?_
  | ((with_reducible refine' b_aug ?hv ?_); (case hv => exact rfl))
  | with_reducible refine b_ip ?_
  | with_reducible refine b_retN ?_
  | with_reducible refine b_tup ?_
  | with_reducible refine b_lst ?_
  | with_reducible refine b_sl ?_
  | with_reducible refine b_part ?_
  | with_reducible refine b_partP ?_
  | with_reducible refine b_nopart ?_
  | with_reducible refine b_bm ?_
  | with_reducible refine b_m1 ?_
  | with_reducible refine b_yes ?_
  | with_reducible refine b_un ?_
  | with_reducible refine b_neg ?_
  | with_reducible refine b_isN ?_
  | with_reducible refine b_notN ?_
  | with_reducible refine b_inS ?_
  | with_reducible refine b_int ?_
  | with_reducible refine b_intB ?_
  | with_reducible refine b_abs ?_
  | with_reducible refine b_max ?_
  | with_reducible refine b_min ?_
  | ((with_reducible refine b_eq ?hv ?_); (case hv => exact rfl))
  | ((with_reducible refine b_ne ?hv ?_); (case hv => exact rfl))
  | ((with_reducible refine' b_lenL ?hv ?_); (case hv => walk_at "sq"))
  | ((with_reducible refine' b_lenT ?hv ?_); (case hv => walk_at "sq"))
  | ((with_reducible refine' b_ixL ?hv ?hw ?_); (case hv => walk_at "sq"); (case hw => exact rfl))
  | ((with_reducible refine' b_ixT ?hv ?hw ?_); (case hv => walk_at "sq"); (case hw => exact rfl))
  | ((with_reducible refine b_I ?hv ?_); (case hv => walk_at "cond"))
  | with_reducible refine b_lcS ?_
  | with_reducible refine b_lcR ?_
  | with_reducible refine b_lcT ?_
  | with_reducible refine b_lcL ?_
  | with_reducible refine b_forT ?_
  | with_reducible refine b_forL ?_
  | with_reducible refine b_forR ?_
  | with_reducible refine b_turn ?_
  | ((with_reducible refine And.intro (a := wipe _ _ = wipe _ _) ?hv ?_); (case hv => exact rfl))
  | ((with_reducible refine And.intro (a := tyV _ "list" _ _) ?hv ?_); (case hv => exact ty_list (by assumption)))
  | with_reducible refine And.intro (a := ∃ a, V.str _ = V.str a) ⟨_, rfl⟩ ?_
  | (with_reducible refine iteT ?_)
  | (with_reducible refine iteNF ?_)
  | (with_reducible refine iteNT ?_)
  | (with_reducible refine iteVT ?_)
  | (with_reducible refine iteNVT ?_)
  | ((with_reducible refine iteVF ?hv ?_); (case hv => exact rfl))
  | ((with_reducible refine iteNVF ?hv ?_); (case hv => exact rfl))
  | with_reducible refine b_callS ?_
  | with_reducible refine b_xq ?_
  | with_reducible refine b_fld ?_
  | with_reducible refine b_sfld ?_
  | with_reducible refine b_meth ?_
  | with_reducible refine b_make ?_
  | with_reducible refine b_callK ?_
  | with_reducible refine b_sfa ?_
  | with_reducible refine b_lcEnT ?_
  | with_reducible refine b_lcEnL ?_
  | with_reducible refine b_forEnT ?_
  | with_reducible refine b_forEnL ?_
  | with_reducible refine b_lcZ ?_
  | with_reducible refine e_revT ?_
  | ((with_reducible refine' e_fld ?hv ?hc ?hn ?hl ?_); (case hv => assumption); (case hc => assumption); (case hn => assumption); (case hl => exact rfl))
  | ((with_reducible refine' e_meth ?hv ?hl ?_); (case hv => assumption); (case hl => exact rfl))
  | (with_reducible refine iteF ?_))

section
variable {P : Program} {w : World} {K : PySem.W.Frag} {mg : Str → Option Value} {base : Heap} {D : Ad}
def sp_drawn (K : PySem.W.Frag) : Sp := fun vs H Q _ => ∃ (p : Addr) (n m : Nat), vs = [.ref p, .int m] ∧ PotAt H p n ∧ n ≤ 900000000 ∧ 1 ≤ m ∧ m ≤ 10 ∧
  ∀ v H' o, Dq K (· = p) H' v (outD o) → o.length ≤ 6 → (∀ x ∈ o, x.2 < m) → (∀ x ∈ o, x.1 = 97 ∨ x.1 = 98 ∨ x.1 = 120) → PotAt H' p (n + 13) → SameM (· = p) H H' → Q v H'
theorem ok__law_drawn_output (T : Txt K mg D) {k : Nat} : FnOk P w K mg base CX0 (k + 3) D.f__law_drawn_output D.d__law_drawn_output P__law_drawn_output (sp_drawn K) := by
  have G__law_take : FnOk P w K mg base CX0 (k + 2) D.f__law_take D.d__law_take P__law_take spTake := ok__law_take T
  have G__law_of : FnOk P w K mg base CX0 (k + 2) D.f__law_of D.d__law_of P__law_of (spOf K) := ok__law_of T
  refine T.f__law_drawn_output.ok sc__law_drawn_output (fun vs H Q E h => ?_) (fun cdv A outer s H vs Q E hr h => ?_)
  · obtain ⟨p, n, m, rfl, _⟩ := h
    rfl
  · obtain ⟨p, n, m, rfl, hp, hn, hm1, hm2, q⟩ := h
    refine ⟨_, (pss_cons (ps_set (i := 2) sc__law_drawn_output.nd rfl (by first | exact .inl rfl | exact .inr rfl) (pe_lst pa_nil))
      (pss_cons (ps_for PassesOwn.never rfl (pi_range1 (by rfl) T.z_range (pa_cons (pe_call G__law_take hr (by rfl) T.g__law_take T.f__law_take.kp T.b__law_take .nil pass0 (pa_cons (pv 0) (pa_cons pe_int pa_nil))) pa_nil)) (pg_name (i := 3) sc__law_drawn_output.nd rfl (by first | exact .inl rfl | exact .inr rfl)) (pss_one (ps_expr (pe_bm PySem.F.plainAttrs_list PySem.F.slot_list_append PySem.F.type_list_append mt_append (pv 2) (pa_cons (pe_tup (pa_cons (pe_call G__law_of hr (by rfl) T.g__law_of T.f__law_of.kp T.b__law_of .nil pass0 (pa_cons (pv 0) (pa_cons (pe_lst (pa_cons pe_str (pa_cons pe_str (pa_cons pe_str pa_nil)))) pa_nil))) (pa_cons (pe_call G__law_take hr (by rfl) T.g__law_take T.f__law_take.kp T.b__law_take .nil pass0 (pa_cons (pv 0) (pa_cons (pv 1) pa_nil))) pa_nil))) pa_nil)))))
      (pss_one (ps_ret (pe_callTy (callK (K := K) (r := qTupOf) (by rfl) q_tupOf) (by rfl) T.z_tuple (by decide +kernel) (pa_cons (pv 2) pa_nil)))))), ?_⟩
    repeat walk_at "st"
    refine e_lst fun l H1 nl hl s1 => ?_
    have hp1 := hp.keep s1
    have hlp : l ≠ p := hp.ne nl
    repeat walk_at "st"
    refine ⟨p, 7, n, rfl, hp1, by omega, by decide, by decide, fun d H2 d0 d1 hp2 s2 => ?_⟩
    have hl2 := s2 _ _ hlp hl
    repeat walk_at "st"
    refine e_forR (fun i σ H' => ∃ (o : Out) (ys : List V) (s3 : Option V), o.length = i ∧ σ = [some (.ref p), some (.int (m : Nat)), some (.ref l), s3] ∧ H' l = some (.lst ys) ∧ DqAll K (fun a => a = p ∨ a = l) H' ys (o.map pairD) ∧ (∀ x ∈ o, x.2 < m) ∧ (∀ x ∈ o, x.1 = 97 ∨ x.1 = 98 ∨ x.1 = 120) ∧ PotAt H' p (n + 1 + 2 * i) ∧ SameM (· = p) H H')
      (by omega) (by omega) ?_ ?_ ?_
    · exact ⟨[], [], none, rfl, rfl, hl2, .nil, by simp, by simp, by simpa using hp2, (SameM.of s1).trans s2⟩
    · rintro i σ Hi hi ⟨o, ys, sl3, hol, rfl, hys, hyd, ho1, ho2, hpi, si⟩
      have hyl : ys.length = i := by rw [hyd.length, List.length_map, hol]
      have hi7 : i < 7 := by omega
      repeat walk_at "st"
      refine e_lst fun la Ha nla hla sa => ?_
      have hpa := hpi.keep sa
      have hlap : la ≠ p := hpi.ne nla
      refine ⟨p, _, hpa, by omega, .inl ⟨la, _, rfl, hlap, SqL.of hla, by simp, by simp, fun v Hb hv hpb sb => ?_⟩⟩
      obtain ⟨c, rfl, hc⟩ : ∃ c, v = .str ⟨#[c]⟩ ∧ (c = 97 ∨ c = 98 ∨ c = 120) := by
        simp only [List.mem_cons, List.not_mem_nil, or_false] at hv
        rcases hv with rfl | rfl | rfl
        · exact ⟨97, rfl, .inl rfl⟩
        · exact ⟨98, rfl, .inr (.inl rfl)⟩
        · exact ⟨120, rfl, .inr (.inr rfl)⟩
      repeat walk_at "st"
      refine ⟨p, m, _, rfl, hpb, by omega, by omega, by omega, fun e Hc e0 e1 hpc sc => ?_⟩
      obtain ⟨en, rfl⟩ := Int.eq_ofNat_of_zero_le e0
      repeat walk_at "st"
      refine e_tup fun t Hd nt ht sd => ?_
      have hlc : Hc l = some (.lst ys) := sc _ _ hlp (sb _ _ hlp (sa _ _ hys))
      have hld := sd _ _ hlc
      repeat walk_at "st"
      refine e_append hld (by omega) fun He he se => ?_
      repeat walk_at "st"
      have sub1 : ∀ {A B : Hp}, SameM (· = p) A B → SameM (fun a => a = p ∨ a = l) A B := fun h => h.sub fun a z => .inl z
      have sub2 : ∀ {A B : Hp}, SameM (· = l) A B → SameM (fun a => a = p ∨ a = l) A B := fun h => h.sub fun a z => .inr z
      have htp : t ≠ p := hpc.ne nt
      have htl : t ≠ l := fun z => by rw [z, hlc] at nt; cases nt
      have hpd := hpc.keep sd
      have nl0 : H l = none := nl
      refine ⟨o ++ [(c, en)], _, _, by simp [hol], rfl, he, ?_, ?_, ?_, ?_, ?_⟩
      · rw [List.map_append]
        refine (((((hyd.same sa).mono (sub1 sb)).mono (sub1 sc)).same sd).mono (sub2 se)).append (.cons ?_ .nil)
        exact Dq.newT (fun z => z.elim htp htl) (se _ _ htl ht) (.cons (.str _) (.cons (.int _) .nil))
      · intro x hx
        rcases List.mem_append.mp hx with z | z
        · exact ho1 x z
        · rw [List.mem_singleton.mp z]
          show en < m
          omega
      · intro x hx
        rcases List.mem_append.mp hx with z | z
        · exact ho2 x z
        · rw [List.mem_singleton.mp z]
          exact hc
      · have e2 : He p = Hd p := by
          obtain ⟨_, _, _, z, _⟩ := hpd
          rw [z]
          exact se _ _ (Ne.symm hlp) z
        exact (hpd.same e2).mono (by omega)
      · have s5 : SameM (· = p) H Hd := (((si.trans (SameM.of sa)).trans sb).trans sc).trans (SameM.of sd)
        exact s5.two se nl0
    · rintro σ Hi ⟨o, ys, sl3, hol, rfl, hys, hyd, ho1, ho2, hpi, si⟩
      repeat walk_at "st"
      refine e_tupL (SqL.of hys) fun t Ha nt ht sa => ?_
      have htp : t ≠ p := hpi.ne nt
      refine q _ Ha o (Dq.newT htp ht ((hyd.avoid fun a z => .inl (.inl z)).same sa)) (by omega) ho1 ho2 ((hpi.keep sa).mono (by omega)) (si.trans (SameM.of sa))
/-! ### traces with things otherwise -/
theorem fit_word {x : Str} {h : Nat} (ok : PyData.canLay0 (.str x) = true) (hs : (PyData.shown (.str x)).length ≤ 90) : Fit h 90 (.str x) := ⟨⟨rfl, Nat.zero_le _, hs, rfl⟩, ok⟩
def oddWords : List PyData := [.str "below", .str "above", .str "below", .str "above", .str "a", .str "b", .str "x", .str "", .str "ab", .str "A", .none, .int 0, .bool true, .tuple [.str "a"], .str "beneath"]
theorem oddWords_fit : ∀ d ∈ oddWords, Fit 1 90 d := by
  intro d hd
  simp only [oddWords, List.mem_cons, List.not_mem_nil, or_false] at hd
  rcases hd with rfl | rfl | rfl | rfl | rfl | rfl | rfl | rfl | rfl | rfl | rfl | rfl | rfl | rfl | rfl
  · exact fit_word (by decide +kernel) (by decide +kernel)
  · exact fit_word (by decide +kernel) (by decide +kernel)
  · exact fit_word (by decide +kernel) (by decide +kernel)
  · exact fit_word (by decide +kernel) (by decide +kernel)
  · exact fit_word (by decide +kernel) (by decide +kernel)
  · exact fit_word (by decide +kernel) (by decide +kernel)
  · exact fit_word (by decide +kernel) (by decide +kernel)
  · exact fit_word (by decide +kernel) (by decide +kernel)
  · exact fit_word (by decide +kernel) (by decide +kernel)
  · exact fit_word (by decide +kernel) (by decide +kernel)
  · exact Fit.non.mono (Nat.le_refl _) (by decide)
  · exact (Fit.int 1 (by decide) (by decide) (by decide)).mono (Nat.le_refl _) (by decide)
  · exact (Fit.bl true).mono (Nat.le_refl _) (by decide)
  · exact ⟨⟨by decide +kernel, by decide +kernel, by decide +kernel, by decide +kernel⟩, by decide +kernel⟩
  · exact fit_word (by decide +kernel) (by decide +kernel)
def sp_bentT (K : PySem.W.Frag) : Sp := fun vs H Q _ => ∃ (p : Addr) (n h z : Nat) (v : V) (ds : List PyData), vs = [.ref p, v] ∧ PotAt H p n ∧ n ≤ 900000000 ∧ Dq K (· = p) H v (.tuple ds) ∧ FitL h z ds ∧ ds.length ≤ 20000 ∧
  ∀ v' H' d', Dq K (· = p) H' v' d' → Fit (h + 2) (3 * z + 110) d' → PotAt H' p (n + 3) → SameM (· = p) H H' → Q v' H'
theorem ok__law_bent_trace (T : Txt K mg D) {k : Nat} : FnOk P w K mg base CX0 (k + 3) D.f__law_bent_trace D.d__law_bent_trace P__law_bent_trace (sp_bentT K) := by
  have G__law_take : FnOk P w K mg base CX0 (k + 2) D.f__law_take D.d__law_take P__law_take spTake := ok__law_take T
  have G__law_of : FnOk P w K mg base CX0 (k + 2) D.f__law_of D.d__law_of P__law_of (spOf K) := ok__law_of T
  refine T.f__law_bent_trace.ok sc__law_bent_trace (fun vs H Q E h => ?_) (fun cdv A outer s H vs Q E hr h => ?_)
  · obtain ⟨p, n, h, z, v, ds, rfl, _⟩ := h
    rfl
  · obtain ⟨p, n, h, z, v, ds, rfl, hp, hn, hv, hf, hdl, q⟩ := h
    refine ⟨_, (pss_cons (ps_par (i := 2) (j := 3) (by rfl) sc__law_bent_trace.nd rfl rfl (by decide) rfl rfl (pa_cons (pe_call G__law_take hr (by rfl) T.g__law_take T.f__law_take.kp T.b__law_take .nil pass0 (pa_cons (pv 0) (pa_cons (pe_op op_add (pe_callB (callK (K := K) (r := qLen) (by rfl) q_len) (by rfl) T.z_len (by decide +kernel) (pa_cons (pv 1) pa_nil)) pe_int) pa_nil))) (pa_cons (pe_call G__law_take hr (by rfl) T.g__law_take T.f__law_take.kp T.b__law_take .nil pass0 (pa_cons (pv 0) (pa_cons pe_int pa_nil))) pa_nil)) (by rfl))
      (pss_cons (ps_set (i := 4) sc__law_bent_trace.nd rfl (by first | exact .inl rfl | exact .inr rfl) (pe_lst (pa_cons pe_str (pa_cons pe_str (pa_cons pe_str (pa_cons pe_str (pa_cons pe_str (pa_cons pe_str (pa_cons pe_str (pa_cons pe_str (pa_cons pe_str (pa_cons pe_str (pa_cons pe_non (pa_cons pe_int (pa_cons pe_bl (pa_cons (pe_tup (pa_cons pe_str pa_nil)) (pa_cons pe_str pa_nil)))))))))))))))))
      (pss_cons (ps_set (i := 5) sc__law_bent_trace.nd rfl (by first | exact .inl rfl | exact .inr rfl) (pe_call G__law_of hr (by rfl) T.g__law_of T.f__law_of.kp T.b__law_of .nil pass0 (pa_cons (pv 0) (pa_cons (pv 4) pa_nil))))
      (pss_cons (ps_if (pt_cmpR op_lt (pv 3) pe_int (nomark _)) (pss_one (ps_ret (pe_op (opK (K := K) (r := rCatA) (by rfl) op_catA) (pe_slice (slK (K := K) (r := rSlA) (by rfl) sl_tupA) (pv 1) po_none (po_some (pv 2))) (pe_slice (slK (K := K) (r := rSlA) (by rfl) sl_tupA) (pv 1) (po_some (pe_op op_add (pv 2) pe_int)) po_none)))) pss_nil)
      (pss_cons (ps_if (pt_cmpR op_eq (pv 3) pe_int (nomark _)) (pss_one (ps_ret (pe_op (opK (K := K) (r := rCatA) (by rfl) op_catA) (pe_op (opK (K := K) (r := rCatA) (by rfl) op_catA) (pe_slice (slK (K := K) (r := rSlA) (by rfl) sl_tupA) (pv 1) po_none (po_some (pv 2))) (pe_tup (pa_cons (pv 5) pa_nil))) (pe_slice (slK (K := K) (r := rSlA) (by rfl) sl_tupA) (pv 1) (po_some (pv 2)) po_none)))) pss_nil)
      (pss_cons (ps_if (pt_cmpR op_eq (pv 3) pe_int (nomark _)) (pss_one (ps_ret (pe_op (opK (K := K) (r := rCatA) (by rfl) op_catA) (pe_op (opK (K := K) (r := rCatA) (by rfl) op_catA) (pe_slice (slK (K := K) (r := rSlA) (by rfl) sl_tupA) (pv 1) po_none (po_some (pv 2))) (pe_tup (pa_cons (pv 5) pa_nil))) (pe_slice (slK (K := K) (r := rSlA) (by rfl) sl_tupA) (pv 1) (po_some (pe_op op_add (pv 2) pe_int)) po_none)))) pss_nil)
      (pss_cons (ps_if (pt_cmpR op_eq (pv 3) pe_int (nomark _)) (pss_one (ps_ret (pe_op (opK (K := K) (r := rCatA) (by rfl) op_catA) (pe_op (opK (K := K) (r := rCatA) (by rfl) op_catA) (pe_slice (slK (K := K) (r := rSlA) (by rfl) sl_tupA) (pv 1) po_none (po_some (pv 2))) (pe_revTK (K := K) (by rfl) (pe_slice (slK (K := K) (r := rSlA) (by rfl) sl_tupA) (pv 1) (po_some (pv 2)) (po_some (pe_op op_add (pv 2) pe_int))))) (pe_slice (slK (K := K) (r := rSlA) (by rfl) sl_tupA) (pv 1) (po_some (pe_op op_add (pv 2) pe_int)) po_none)))) pss_nil)
      (pss_cons (ps_if (pt_cmpR op_eq (pv 3) pe_int (nomark _)) (pss_one (ps_ret (pe_op (opK (K := K) (r := rCatA) (by rfl) op_catA) (pe_op (opK (K := K) (r := rCatA) (by rfl) op_catA) (pe_slice (slK (K := K) (r := rSlA) (by rfl) sl_tupA) (pv 1) po_none (po_some (pv 2))) (pe_slice (slK (K := K) (r := rSlA) (by rfl) sl_tupA) (pv 1) (po_some (pv 2)) (po_some (pe_op op_add (pv 2) pe_int)))) (pe_slice (slK (K := K) (r := rSlA) (by rfl) sl_tupA) (pv 1) (po_some (pv 2)) po_none)))) pss_nil)
      (pss_one (ps_ret (pe_ix (ixK (K := K) (r := rIxL) (by rfl) ix_list) (pe_lst (pa_cons (pe_revTK (K := K) (by rfl) (pv 1)) (pa_cons (pe_callTy (callK (K := K) (r := qListOf) (by rfl) q_listOf) (by rfl) T.z_list (by decide +kernel) (pa_cons (pv 1) pa_nil)) pa_nil))) (pe_op op_sub (pv 3) pe_int) (fun _ _ => rfl)))))))))))), ?_⟩
    repeat walk_at "st"
    refine b_lenD hv ?_
    repeat walk_at "st"
    refine e_take hp (by omega) (by omega) (by omega) fun ax H1 ha1 hp1 s1 => ?_
    repeat walk_at "st"
    refine e_take hp1 (by omega) (by decide) (by decide) fun way H2 hw1 hp2 s2 => ?_
    repeat walk_at "st"
    refine e_tupM hp2.trk (K := K) (.cons (.str _) .nil) fun ta H3 hta s3 => ?_
    have hp3 := hp2.keep s3
    repeat walk_at "st"
    refine e_lstA (ds := oddWords) (M := (· = p)) (.cons (.str _) (.cons (.str _) (.cons (.str _) (.cons (.str _) (.cons (.str _) (.cons (.str _) (.cons (.str _) (.cons (.str _) (.cons (.str _) (.cons (.str _) (.cons .non (.cons (.int _) (.cons (.bl _) (.cons hta (.cons (.str _) .nil))))))))))))))) fun lo H4 nlo hlo hall s4 => ?_
    have hp4 := hp3.keep s4
    repeat walk_at "st"
    refine e_of hp4 (by omega) (hp3.ne nlo) hlo hall (by simp) (by simp) fun wv wd H5 hwd hwv hp5 s5 => ?_
    have hv5 : Dq K (· = p) H5 v (.tuple ds) := ((((hv.mono s1).mono s2).same s3).same s4).mono s5
    have sH : SameM (· = p) H H5 := (((s1.trans s2).trans (SameM.of s3)).trans (SameM.of s4)).trans s5
    have hwf : Fit (h + 1) 90 wd := (oddWords_fit wd hwd).mono (by omega) (Nat.le_refl _)
    have hf1 : FitL (h + 1) z ds := hf.mono (by omega) (Nat.le_refl _)
    have tk := hp5.trk
    have fin : ∀ v' H' es, Dq K (· = p) H' v' (.tuple es) → FitL (h + 1) (3 * z + 100) es → Same H5 H' → Q v' H' := fun v' H' es h1 h2 h3 =>
      q v' H' _ h1 (h2.tup.mono (Nat.le_refl _) (by omega)) ((hp5.keep h3).mono (by omega)) (sH.trans (SameM.of h3))
    clear hall hta hlo hp1 hp2 hp3 hp4 s1 s2 s3 s4 s5 hv
    have hlenc : ∀ lo hi, (FG.cutD ds lo hi).length ≤ ds.length := fun lo hi => by
      unfold FG.cutD
      rw [List.length_take, List.length_drop]
      omega
    repeat walk_at "st"
    refine ite2 (fun g1 => ?_) (fun g1 => ?_)
    · repeat walk_at "st"
      refine e_slM tk hv5 fun p1 H6 hp1 s6 => ?_
      repeat walk_at "st"
      refine e_slM (tk.same s6) (hv5.same s6) fun p2 H7 hp2 s7 => ?_
      refine e_catM ((tk.same s6).same s7) (hp1.same s7) hp2 (by have h1 := hlenc none (some (ax : Int)); have h2 := hlenc (some ((ax : Int) + 1)) none; omega) fun p3 H8 hp3 s8 => ?_
      exact fin _ _ _ hp3 (((hf1.cut _ _).append (hf1.cut _ _)).mono (Nat.le_refl _) (by omega)) ((s6.trans s7).trans s8)
    repeat walk_at "st"
    refine ite2 (fun g2 => ?_) (fun g2 => ?_)
    · repeat walk_at "st"
      refine e_slM tk hv5 fun p1 H6 hp1 s6 => ?_
      repeat walk_at "st"
      refine e_tupM (tk.same s6) (.cons (hwv.same s6) .nil) fun p2 H7 hp2 s7 => ?_
      refine e_catM ((tk.same s6).same s7) (hp1.same s7) hp2 (by have h1 := hlenc none (some (ax : Int)); simp only [List.length_cons, List.length_nil]; omega) fun p3 H8 hp3 s8 => ?_
      have s68 := (s6.trans s7).trans s8
      repeat walk_at "st"
      refine e_slM (tk.same s68) (hv5.same s68) fun p4 H9 hp4 s9 => ?_
      refine e_catM ((tk.same s68).same s9) (hp3.same s9) hp4 (by have h1 := hlenc none (some (ax : Int)); have h2 := hlenc (some (ax : Int)) none; simp only [List.length_append, List.length_cons, List.length_nil]; omega) fun p5 Ha hp5 sa => ?_
      exact fin _ _ _ hp5 ((((hf1.cut _ _).append (FitL.one hwf)).append (hf1.cut _ _)).mono (Nat.le_refl _) (by omega)) ((s68.trans s9).trans sa)
    repeat walk_at "st"
    refine ite2 (fun g3 => ?_) (fun g3 => ?_)
    · repeat walk_at "st"
      refine e_slM tk hv5 fun p1 H6 hp1 s6 => ?_
      repeat walk_at "st"
      refine e_tupM (tk.same s6) (.cons (hwv.same s6) .nil) fun p2 H7 hp2 s7 => ?_
      refine e_catM ((tk.same s6).same s7) (hp1.same s7) hp2 (by have h1 := hlenc none (some (ax : Int)); simp only [List.length_cons, List.length_nil]; omega) fun p3 H8 hp3 s8 => ?_
      have s68 := (s6.trans s7).trans s8
      repeat walk_at "st"
      refine e_slM (tk.same s68) (hv5.same s68) fun p4 H9 hp4 s9 => ?_
      refine e_catM ((tk.same s68).same s9) (hp3.same s9) hp4 (by have h1 := hlenc none (some (ax : Int)); have h2 := hlenc (some ((ax : Int) + 1)) none; simp only [List.length_append, List.length_cons, List.length_nil]; omega) fun p5 Ha hp5 sa => ?_
      exact fin _ _ _ hp5 ((((hf1.cut _ _).append (FitL.one hwf)).append (hf1.cut _ _)).mono (Nat.le_refl _) (by omega)) ((s68.trans s9).trans sa)
    repeat walk_at "st"
    refine ite2 (fun g4 => ?_) (fun g4 => ?_)
    · repeat walk_at "st"
      refine e_slM tk hv5 fun p1 H6 hp1 s6 => ?_
      repeat walk_at "st"
      refine e_slM (tk.same s6) (hv5.same s6) fun p2 H7 hp2 s7 => ?_
      have s67 := s6.trans s7
      refine e_revM (tk.same s67) hp2 fun p3 H8 hp3 s8 => ?_
      have s68 := s67.trans s8
      refine e_catM (tk.same s68) ((hp1.same s7).same s8) hp3 (by have h1 := hlenc none (some (ax : Int)); have h2 := hlenc (some (ax : Int)) (some ((ax : Int) + 2)); rw [List.length_reverse]; omega) fun p4 H9 hp4 s9 => ?_
      have s69 := s68.trans s9
      repeat walk_at "st"
      refine e_slM (tk.same s69) (hv5.same s69) fun p5 Ha hp5 sa => ?_
      refine e_catM ((tk.same s69).same sa) (hp4.same sa) hp5 (by have h1 := hlenc none (some (ax : Int)); have h2 := hlenc (some (ax : Int)) (some ((ax : Int) + 2)); have h3 := hlenc (some ((ax : Int) + 2)) none; rw [List.length_append, List.length_reverse]; omega) fun p6 Hb hp6 sb => ?_
      exact fin _ _ _ hp6 ((((hf1.cut _ _).append (hf1.cut _ _).rev).append (hf1.cut _ _)).mono (Nat.le_refl _) (by omega)) ((s69.trans sa).trans sb)
    repeat walk_at "st"
    refine ite2 (fun g5 => ?_) (fun g5 => ?_)
    · repeat walk_at "st"
      refine e_slM tk hv5 fun p1 H6 hp1 s6 => ?_
      repeat walk_at "st"
      refine e_slM (tk.same s6) (hv5.same s6) fun p2 H7 hp2 s7 => ?_
      have s67 := s6.trans s7
      refine e_catM (tk.same s67) (hp1.same s7) hp2 (by have h1 := hlenc none (some (ax : Int)); have h2 := hlenc (some (ax : Int)) (some ((ax : Int) + 1)); omega) fun p4 H9 hp4 s9 => ?_
      have s69 := s67.trans s9
      repeat walk_at "st"
      refine e_slM (tk.same s69) (hv5.same s69) fun p5 Ha hp5 sa => ?_
      refine e_catM ((tk.same s69).same sa) (hp4.same sa) hp5 (by have h1 := hlenc none (some (ax : Int)); have h2 := hlenc (some (ax : Int)) (some ((ax : Int) + 1)); have h3 := hlenc (some (ax : Int)) none; rw [List.length_append]; omega) fun p6 Hb hp6 sb => ?_
      exact fin _ _ _ hp6 ((((hf1.cut _ _).append (hf1.cut _ _)).append (hf1.cut _ _)).mono (Nat.le_refl _) (by omega)) ((s69.trans sa).trans sb)
    repeat walk_at "st"
    refine e_revM tk hv5 fun p1 H6 hp1 s6 => ?_
    repeat walk_at "st"
    refine e_listM (tk.same s6) (hv5.same s6) fun p2 H7 hp2 s7 => ?_
    repeat walk_at "st"
    refine e_lst fun lz H8 nlz hlz s8 => ?_
    have s68 := (s6.trans s7).trans s8
    have gi : ∀ m : Int, (¬ decide (V.int (way : Int) = V.int m) = true) → (way : Int) ≠ m := fun m z y => z (decide_eq_true (by rw [y]))
    have hway : way = 6 ∨ way = 7 := by
      have z1 : ¬ ((way : Int) < 2) := fun z => g1 (decide_eq_true z)
      have z2 := gi 2 g2
      have z3 := gi 3 g3
      have z4 := gi 4 g4
      have z5 := gi 5 g5
      omega
    repeat walk_at "st"
    rcases hway with rfl | rfl
    · refine b_ixL (SqL.of hlz) (v := p1) rfl ?_
      exact fin _ _ _ ((hp1.same s7).same s8) (hf1.rev.mono (Nat.le_refl _) (by omega)) s68
    · refine b_ixL (SqL.of hlz) (v := p2) rfl ?_
      exact q _ _ _ (hp2.same s8) (hf1.lst.mono (Nat.le_refl _) (by omega)) ((hp5.keep s68).mono (by omega)) (sH.trans (SameM.of s68))
def okOdd : List PyData := [.tuple [], .str "a", .none, .str "below"]
theorem okOdd_fit : ∀ d ∈ okOdd, Fit 1 90 d := by
  intro d hd
  simp only [okOdd, List.mem_cons, List.not_mem_nil, or_false] at hd
  rcases hd with rfl | rfl | rfl | rfl
  · exact ⟨⟨by decide +kernel, by decide +kernel, by decide +kernel, by decide +kernel⟩, by decide +kernel⟩
  · exact fit_word (by decide +kernel) (by decide +kernel)
  · exact Fit.non.mono (Nat.le_refl _) (by decide)
  · exact fit_word (by decide +kernel) (by decide +kernel)
def sp_bent (K : PySem.W.Frag) : Sp := fun vs H Q _ => ∃ (p : Addr) (n h z : Nat) (v : V) (ds : List PyData), vs = [.ref p, v] ∧ PotAt H p n ∧ n ≤ 800000000 ∧ Dq K (· = p) H v (.tuple ds) ∧ Fit h z (.tuple ds) ∧ ds ≠ [] ∧ z ≤ 40000 ∧
  ∀ v' H' d', Dq K (· = p) H' v' d' → Fit (h + 4) (5 * z + 300) d' → PotAt H' p (n + 5) → SameM (· = p) H H' → Q v' H'
theorem ok__law_bent (T : Txt K mg D) {k : Nat} : FnOk P w K mg base CX0 (k + 4) D.f__law_bent D.d__law_bent P__law_bent (sp_bent K) := by
  have G__law_take : FnOk P w K mg base CX0 (k + 3) D.f__law_take D.d__law_take P__law_take spTake := ok__law_take T
  have G__law_of : FnOk P w K mg base CX0 (k + 3) D.f__law_of D.d__law_of P__law_of (spOf K) := ok__law_of T
  have G__law_bent_trace : FnOk P w K mg base CX0 (k + 3) D.f__law_bent_trace D.d__law_bent_trace P__law_bent_trace (sp_bentT K) := ok__law_bent_trace T
  refine T.f__law_bent.ok sc__law_bent (fun vs H Q E h => ?_) (fun cdv A outer s H vs Q E hr h => ?_)
  · obtain ⟨p, n, h, z, v, ds, rfl, _⟩ := h
    rfl
  · obtain ⟨p, n, h, z, v, ds, rfl, hp, hn, hv, hfit, hne, hz, q⟩ := h
    have hf := hfit.items'
    have hdl : ds.length ≤ 20000 := by
      have h1 := sumLen_two ds
      have h2 := hf.sz
      omega
    have hlenc : ∀ lo hi, (FG.cutD ds lo hi).length ≤ ds.length := fun lo hi => by
      unfold FG.cutD
      rw [List.length_take, List.length_drop]
      omega
    have hpos : 0 < ds.length := by
      cases ds with
      | nil => exact absurd rfl hne
      | cons d ds => simp
    refine ⟨_, (pss_cons (ps_par (i := 2) (j := 3) (by rfl) sc__law_bent.nd rfl rfl (by decide) rfl rfl (pa_cons (pe_call G__law_take hr (by rfl) T.g__law_take T.f__law_take.kp T.b__law_take .nil pass0 (pa_cons (pv 0) (pa_cons (pe_callB (callK (K := K) (r := qLen) (by rfl) q_len) (by rfl) T.z_len (by decide +kernel) (pa_cons (pv 1) pa_nil)) pa_nil))) (pa_cons (pe_call G__law_take hr (by rfl) T.g__law_take T.f__law_take.kp T.b__law_take .nil pass0 (pa_cons (pv 0) (pa_cons pe_int pa_nil))) pa_nil)) (by rfl))
      (pss_cons (ps_if (pt_cmpR op_eq (pv 3) pe_int (nomark _)) (pss_one (ps_ret (pe_op (opK (K := K) (r := rCatA) (by rfl) op_catA) (pe_slice (slK (K := K) (r := rSlA) (by rfl) sl_tupA) (pv 1) po_none (po_some (pv 2))) (pe_slice (slK (K := K) (r := rSlA) (by rfl) sl_tupA) (pv 1) (po_some (pe_op op_add (pv 2) pe_int)) po_none)))) pss_nil)
      (pss_cons (ps_if (pt_cmpR op_eq (pv 3) pe_int (nomark _)) (pss_one (ps_ret (pe_op (opK (K := K) (r := rCatA) (by rfl) op_catA) (pe_op (opK (K := K) (r := rCatA) (by rfl) op_catA) (pe_slice (slK (K := K) (r := rSlA) (by rfl) sl_tupA) (pv 1) po_none (po_some (pv 2))) (pe_tup (pa_cons (pe_tup pa_nil) pa_nil))) (pe_slice (slK (K := K) (r := rSlA) (by rfl) sl_tupA) (pv 1) (po_some (pv 2)) po_none)))) pss_nil)
      (pss_cons (ps_if (pt_cmpR op_eq (pv 3) pe_int (nomark _)) (pss_one (ps_ret (pe_op (opK (K := K) (r := rCatA) (by rfl) op_catA) (pe_op (opK (K := K) (r := rCatA) (by rfl) op_catA) (pe_slice (slK (K := K) (r := rSlA) (by rfl) sl_tupA) (pv 1) po_none (po_some (pv 2))) (pe_revTK (K := K) (by rfl) (pe_slice (slK (K := K) (r := rSlA) (by rfl) sl_tupA) (pv 1) (po_some (pv 2)) (po_some (pe_op op_add (pv 2) pe_int))))) (pe_slice (slK (K := K) (r := rSlA) (by rfl) sl_tupA) (pv 1) (po_some (pe_op op_add (pv 2) pe_int)) po_none)))) pss_nil)
      (pss_cons (ps_if (pt_cmpR op_eq (pv 3) pe_int (nomark _)) (pss_one (ps_ret (pe_call G__law_of hr (by rfl) T.g__law_of T.f__law_of.kp T.b__law_of .nil pass0 (pa_cons (pv 0) (pa_cons (pe_lst (pa_cons (pe_revTK (K := K) (by rfl) (pv 1)) (pa_cons (pe_callTy (callK (K := K) (r := qListOf) (by rfl) q_listOf) (by rfl) T.z_list (by decide +kernel) (pa_cons (pv 1) pa_nil)) (pa_cons (pe_slice (slK (K := K) (r := rSlA) (by rfl) sl_tupA) (pv 1) po_none (po_some pe_int)) (pa_cons (pe_tup pa_nil) (pa_cons (pe_tup (pa_cons (pv 1) pa_nil)) (pa_cons (pe_op (opK (K := K) (r := rCatA) (by rfl) op_catA) (pv 1) (pv 1)) pa_nil))))))) pa_nil))))) pss_nil)
      (pss_cons (ps_if (pt_not (pt_val (pe_callB (callK (K := K) (r := rIsD) (by rfl) call_isD) (by rfl) T.z_isinstance (by decide +kernel) (pa_cons (pe_ix (ixK (K := K) (r := rIxT) (by rfl) ix_tup) (pv 1) (pv 2) (fun _ _ => rfl)) (pa_cons (pe_bltn (v := .ty "tuple") (by rfl) T.z_tuple (by decide +kernel) rfl) pa_nil))))) (pss_one (ps_ret (pe_op (opK (K := K) (r := rCatA) (by rfl) op_catA) (pe_op (opK (K := K) (r := rCatA) (by rfl) op_catA) (pe_slice (slK (K := K) (r := rSlA) (by rfl) sl_tupA) (pv 1) po_none (po_some (pv 2))) (pe_tup (pa_cons (pe_call G__law_of hr (by rfl) T.g__law_of T.f__law_of.kp T.b__law_of .nil pass0 (pa_cons (pv 0) (pa_cons (pe_lst (pa_cons (pe_tup pa_nil) (pa_cons pe_str (pa_cons pe_non (pa_cons pe_str pa_nil))))) pa_nil))) pa_nil))) (pe_slice (slK (K := K) (r := rSlA) (by rfl) sl_tupA) (pv 1) (po_some (pe_op op_add (pv 2) pe_int)) po_none)))) pss_nil)
      (pss_one (ps_ret (pe_op (opK (K := K) (r := rCatA) (by rfl) op_catA) (pe_op (opK (K := K) (r := rCatA) (by rfl) op_catA) (pe_slice (slK (K := K) (r := rSlA) (by rfl) sl_tupA) (pv 1) po_none (po_some (pv 2))) (pe_tup (pa_cons (pe_call G__law_bent_trace hr (by rfl) T.g__law_bent_trace T.f__law_bent_trace.kp T.b__law_bent_trace .nil pass0 (pa_cons (pv 0) (pa_cons (pe_ix (ixK (K := K) (r := rIxT) (by rfl) ix_tup) (pv 1) (pv 2) (fun _ _ => rfl)) pa_nil))) pa_nil))) (pe_slice (slK (K := K) (r := rSlA) (by rfl) sl_tupA) (pv 1) (po_some (pe_op op_add (pv 2) pe_int)) po_none)))))))))), ?_⟩
    repeat walk_at "st"
    refine b_lenD hv ?_
    repeat walk_at "st"
    refine e_take hp (by omega) (by omega) (by omega) fun ax H1 ha1 hp1 s1 => ?_
    repeat walk_at "st"
    refine e_take hp1 (by omega) (by decide) (by decide) fun way H2 hw1 hp2 s2 => ?_
    have hv2 : Dq K (· = p) H2 v (.tuple ds) := (hv.mono s1).mono s2
    have sH : SameM (· = p) H H2 := s1.trans s2
    have tk := hp2.trk
    have fin : ∀ v' H' es, Dq K (· = p) H' v' (.tuple es) → FitL (h + 3) (5 * z + 290) es → Same H2 H' → Q v' H' := fun v' H' es h1 h2 h3 =>
      q v' H' _ h1 (h2.tup.mono (by omega) (by omega)) ((hp2.keep h3).mono (by omega)) (sH.trans (SameM.of h3))
    have hf3 : FitL (h + 3) z ds := hf.mono (by omega) (Nat.le_refl _)
    clear hp1 s1 s2 hv
    repeat walk_at "st"
    refine ite2 (fun g1 => ?_) (fun g1 => ?_)
    · repeat walk_at "st"
      refine e_slM tk hv2 fun p1 H6 hp1 s6 => ?_
      repeat walk_at "st"
      refine e_slM (tk.same s6) (hv2.same s6) fun p2 H7 hp2 s7 => ?_
      refine e_catM ((tk.same s6).same s7) (hp1.same s7) hp2 (by have h1 := hlenc none (some (ax : Int)); have h2 := hlenc (some ((ax : Int) + 1)) none; omega) fun p3 H8 hp3 s8 => ?_
      exact fin _ _ _ hp3 (((hf3.cut _ _).append (hf3.cut _ _)).mono (Nat.le_refl _) (by omega)) ((s6.trans s7).trans s8)
    repeat walk_at "st"
    refine ite2 (fun g2 => ?_) (fun g2 => ?_)
    · repeat walk_at "st"
      refine e_slM tk hv2 fun p1 H6 hp1 s6 => ?_
      repeat walk_at "st"
      refine e_tupM (tk.same s6) (K := K) .nil fun p0 H60 hp0 s60 => ?_
      repeat walk_at "st"
      refine e_tupM ((tk.same s6).same s60) (.cons hp0 .nil) fun p2 H7 hp2 s7 => ?_
      have s67 := (s6.trans s60).trans s7
      refine e_catM (tk.same s67) ((hp1.same s60).same s7) hp2 (by have h1 := hlenc none (some (ax : Int)); simp only [List.length_cons, List.length_nil]; omega) fun p3 H8 hp3 s8 => ?_
      have s68 := s67.trans s8
      repeat walk_at "st"
      refine e_slM (tk.same s68) (hv2.same s68) fun p4 H9 hp4 s9 => ?_
      refine e_catM ((tk.same s68).same s9) (hp3.same s9) hp4 (by have h1 := hlenc none (some (ax : Int)); have h2 := hlenc (some (ax : Int)) none; simp only [List.length_append, List.length_cons, List.length_nil]; omega) fun p5 Ha hp5 sa => ?_
      have hw : Fit (h + 3) 90 (.tuple []) := (okOdd_fit _ (by simp [okOdd])).mono (by omega) (Nat.le_refl _)
      exact fin _ _ _ hp5 ((((hf3.cut _ _).append (FitL.one hw)).append (hf3.cut _ _)).mono (Nat.le_refl _) (by omega)) ((s68.trans s9).trans sa)
    repeat walk_at "st"
    refine ite2 (fun g3 => ?_) (fun g3 => ?_)
    · repeat walk_at "st"
      refine e_slM tk hv2 fun p1 H6 hp1 s6 => ?_
      repeat walk_at "st"
      refine e_slM (tk.same s6) (hv2.same s6) fun p2 H7 hp2 s7 => ?_
      have s67 := s6.trans s7
      refine e_revM (tk.same s67) hp2 fun p3 H8 hp3 s8 => ?_
      have s68 := s67.trans s8
      refine e_catM (tk.same s68) ((hp1.same s7).same s8) hp3 (by have h1 := hlenc none (some (ax : Int)); have h2 := hlenc (some (ax : Int)) (some ((ax : Int) + 2)); rw [List.length_reverse]; omega) fun p4 H9 hp4 s9 => ?_
      have s69 := s68.trans s9
      repeat walk_at "st"
      refine e_slM (tk.same s69) (hv2.same s69) fun p5 Ha hp5 sa => ?_
      refine e_catM ((tk.same s69).same sa) (hp4.same sa) hp5 (by have h1 := hlenc none (some (ax : Int)); have h2 := hlenc (some (ax : Int)) (some ((ax : Int) + 2)); have h3 := hlenc (some ((ax : Int) + 2)) none; rw [List.length_append, List.length_reverse]; omega) fun p6 Hb hp6 sb => ?_
      exact fin _ _ _ hp6 ((((hf3.cut _ _).append (hf3.cut _ _).rev).append (hf3.cut _ _)).mono (Nat.le_refl _) (by omega)) ((s69.trans sa).trans sb)
    repeat walk_at "st"
    refine ite2 (fun g4 => ?_) (fun g4 => ?_)
    · repeat walk_at "st"
      refine e_revM tk hv2 fun q1 H6 hq1 s6 => ?_
      repeat walk_at "st"
      refine e_listM (tk.same s6) (hv2.same s6) fun q2 H7 hq2 s7 => ?_
      have s27 := s6.trans s7
      repeat walk_at "st"
      refine e_slM (tk.same s27) (hv2.same s27) fun q3 H8 hq3 s8 => ?_
      have s28 := s27.trans s8
      repeat walk_at "st"
      refine e_tupM (tk.same s28) (K := K) .nil fun q4 H9 hq4 s9 => ?_
      have s29 := s28.trans s9
      repeat walk_at "st"
      refine e_tupM (tk.same s29) (.cons (hv2.same s29) .nil) fun q5 Ha hq5 sa => ?_
      have s2a := s29.trans sa
      repeat walk_at "st"
      refine e_catM (tk.same s2a) (hv2.same s2a) (hv2.same s2a) (by omega) fun q6 Hb hq6 sb => ?_
      have s2b := s2a.trans sb
      repeat walk_at "st"
      have s7b := ((s8.trans s9).trans sa).trans sb
      refine e_lstA (M := (· = p)) (.cons ((hq1.same s7).same s7b) (.cons (hq2.same s7b) (.cons (hq3.same ((s9.trans sa).trans sb)) (.cons (hq4.same (sa.trans sb)) (.cons (hq5.same sb) (.cons hq6 .nil)))))) fun lo Hc nlo hlo hall sc => ?_
      have hp2b := hp2.keep s2b
      repeat walk_at "st"
      refine e_of (hp2b.keep sc) (by omega) (hp2b.ne nlo) hlo hall (by simp) (by simp) fun wv wd Hd hwd hwv hpd sd => ?_
      have hfw : Fit (h + 4) (5 * z + 300) wd := by
        simp only [List.mem_cons, List.not_mem_nil, or_false] at hwd
        rcases hwd with rfl | rfl | rfl | rfl | rfl | rfl
        · exact hf3.rev.tup.mono (by omega) (by omega)
        · exact hf3.lst.mono (by omega) (by omega)
        · exact (hf3.cut _ _).tup.mono (by omega) (by omega)
        · exact (okOdd_fit _ (by simp [okOdd])).mono (by omega) (by omega)
        · exact (FitL.one hfit).tup.mono (by omega) (by omega)
        · exact (hf3.append hf3).tup.mono (by omega) (by omega)
      exact q _ _ _ hwv hfw (hpd.mono (by omega)) ((sH.trans (SameM.of (s2b.trans sc))).trans sd)
    repeat walk_at "st"
    obtain ⟨e, he⟩ : ∃ e, ds[ax]? = some e := ⟨ds[ax]'(by omega), List.getElem?_eq_getElem _⟩
    have hfe := hfit.item (List.mem_of_getElem? he)
    refine b_ixD hv2 (atI_nat he) fun ev hev => ?_
    repeat walk_at "st"
    refine b_isD hev (by decide) ?_
    repeat walk_at "st"
    by_cases hT : isTy "tuple" e = true
    rotate_left
    · rw [Bool.eq_false_iff.mpr hT]
      repeat walk_at "st"
      refine e_slM tk hv2 fun p1 H6 hq1 s6 => ?_
      repeat walk_at "st"
      refine e_tupM (tk.same s6) (K := K) .nil fun p0 H60 hp0 s60 => ?_
      repeat walk_at "st"
      have s260 := s6.trans s60
      refine e_lstA (ds := okOdd) (M := (· = p)) (.cons hp0 (.cons (.str _) (.cons .non (.cons (.str _) .nil)))) fun lo Hc nlo hlo hall sc => ?_
      have hp260 := hp2.keep s260
      repeat walk_at "st"
      refine e_of (hp260.keep sc) (by omega) (hp260.ne nlo) hlo hall (by simp) (by simp) fun wv wd Hd hwd hwv hpd sd => ?_
      have hw : Fit (h + 3) 90 wd := (okOdd_fit _ hwd).mono (by omega) (Nat.le_refl _)
      have tkd := hpd.trk
      have hq1d : Dq K (· = p) Hd p1 _ := ((hq1.same s60).same sc).mono sd
      have hv2d : Dq K (· = p) Hd v (.tuple ds) := (hv2.same (s260.trans sc)).mono sd
      have sHd := (sH.trans (SameM.of (s260.trans sc))).trans sd
      repeat walk_at "st"
      refine e_tupM tkd (.cons hwv .nil) fun p2 H7 hp2' s7 => ?_
      refine e_catM (tkd.same s7) (hq1d.same s7) hp2' (by have h1 := hlenc none (some (ax : Int)); simp only [List.length_cons, List.length_nil]; omega) fun p3 H8 hp3 s8 => ?_
      have s78 := s7.trans s8
      repeat walk_at "st"
      refine e_slM (tkd.same s78) (hv2d.same s78) fun p4 H9 hp4 s9 => ?_
      refine e_catM ((tkd.same s78).same s9) (hp3.same s9) hp4 (by have h1 := hlenc none (some (ax : Int)); have h2 := hlenc (some ((ax : Int) + 1)) none; simp only [List.length_append, List.length_cons, List.length_nil]; omega) fun p5 Ha hp5 sa => ?_
      have s7a := (s78.trans s9).trans sa
      exact q _ _ _ hp5 ((((hf3.cut _ _).append (FitL.one hw)).append (hf3.cut _ _)).tup.mono (by omega) (by omega)) ((hpd.keep s7a).mono (by omega)) (sHd.trans (SameM.of s7a))
    rw [hT]
    obtain ⟨es, rfl⟩ := isTy_tuple hT
    have hel : es.length ≤ 20000 := by
      have h1 := sumLen_two es
      have h2 := hfe.items'.sz
      omega
    repeat walk_at "st"
    refine e_slM tk hv2 fun p1 H6 hq1 s6 => ?_
    repeat walk_at "st"
    refine b_ixD (hv2.same s6) (atI_nat he) fun ev hev => ?_
    repeat walk_at "st"
    refine ⟨p, _, h, z, ev, es, rfl, hp2.keep s6, by omega, hev, hfe.items', hel, fun bv Hb bd hbv hbf hpb sb => ?_⟩
    have tkb := hpb.trk
    have hq1b : Dq K (· = p) Hb p1 _ := hq1.mono sb
    have hv2b : Dq K (· = p) Hb v (.tuple ds) := (hv2.same s6).mono sb
    have sHb := (sH.trans (SameM.of s6)).trans sb
    repeat walk_at "st"
    refine e_tupM tkb (.cons hbv .nil) fun p2 H7 hp2' s7 => ?_
    refine e_catM (tkb.same s7) (hq1b.same s7) hp2' (by have h1 := hlenc none (some (ax : Int)); simp only [List.length_cons, List.length_nil]; omega) fun p3 H8 hp3 s8 => ?_
    have s78 := s7.trans s8
    repeat walk_at "st"
    refine e_slM (tkb.same s78) (hv2b.same s78) fun p4 H9 hp4 s9 => ?_
    refine e_catM ((tkb.same s78).same s9) (hp3.same s9) hp4 (by have h1 := hlenc none (some (ax : Int)); have h2 := hlenc (some ((ax : Int) + 1)) none; simp only [List.length_append, List.length_cons, List.length_nil]; omega) fun p5 Ha hp5 sa => ?_
    have s7a := (s78.trans s9).trans sa
    have hbf3 : Fit (h + 3) (3 * z + 110) bd := hbf.mono (by omega) (Nat.le_refl _)
    exact q _ _ _ hp5 ((((hf3.cut _ _).append (FitL.one hbf3)).append (hf3.cut _ _)).tup.mono (by omega) (by omega)) ((hpb.keep s7a).mono (by omega)) (sHb.trans (SameM.of s7a))
end
end K14

namespace K14
open PySem PySem.Spec PyProof.Rows L2 FG
local macro_rules | `(tactic| walk_at "sq") => `(tactic| first
  | assumption
  | exact SqL.of (by assumption)
  | exact SqT.of (by assumption)
  | exact SqLm.l (by assumption)
  | exact SqTm.t (by assumption))
local macro_rules | `(tactic| walk_at "cond") => `(tactic| first
  | assumption
  | (show (0 : Int) < _; omega)
  | (show (0 : Int) < _ ∧ _ < 1073741824; omega))
local macro_rules | `(tactic| walk_at "st") => `(tactic| first
  | with_reducible refine b_seq ?_
  | with_reducible refine b_asg ?_
  | with_reducible refine b_op ?_
  | ((with_reducible refine' b_var ?hv ?_); (case hv => exact rfl))
  | with_reducible refine b_c ?_
  | with_reducible refine b_name ?_
  | with_reducible refine b_I0 ?_
  | with_reducible refine b_cons ?_
  | with_reducible refine b_nil ?_
  | with_reducible refine b_cb ?_
  | with_reducible refine b_call ?_
  | with_reducible refine b_ret ?_
  | with_reducible refine b_ifS ?_
  | with_reducible refine b_test ?_
  | with_reducible refine b_tb ?_
  | with_reducible refine b_bl ?_
  | with_reducible refine b_blP ?_
  | with_reducible refine b_next ?_
  | with_reducible refine b_drop ?_
  | with_reducible refine b_sub ?_
  | with_reducible refine b_chain ?_
  | with_reducible refine b_and ?_
  | with_reducible refine b_or ?_
  | with_reducible refine b_not ?_
  | with_reducible refine b_andV ?_
  | with_reducible refine b_orV ?_
  | with_reducible refine b_notV ?_
  | with_reducible refine b_if ?_
  | with_reducible refine b_par ?_
  | with_reducible refine b_parE ?_
  | ((with_reducible refine' b_aug ?hv ?_); (case hv => exact rfl))
  | with_reducible refine b_ip ?_
  | with_reducible refine b_retN ?_
  | with_reducible refine b_tup ?_
  | with_reducible refine b_lst ?_
  | with_reducible refine b_sl ?_
  | with_reducible refine b_part ?_
  | with_reducible refine b_partP ?_
  | with_reducible refine b_nopart ?_
  | with_reducible refine b_bm ?_
  | with_reducible refine b_m1 ?_
  | with_reducible refine b_yes ?_
  | with_reducible refine b_un ?_
  | with_reducible refine b_neg ?_
  | with_reducible refine b_isN ?_
  | with_reducible refine b_notN ?_
  | with_reducible refine b_inS ?_
  | with_reducible refine b_int ?_
  | with_reducible refine b_intB ?_
  | with_reducible refine b_abs ?_
  | with_reducible refine b_max ?_
  | with_reducible refine b_min ?_
  | ((with_reducible refine b_eq ?hv ?_); (case hv => exact rfl))
  | ((with_reducible refine b_ne ?hv ?_); (case hv => exact rfl))
  | ((with_reducible refine' b_lenL ?hv ?_); (case hv => walk_at "sq"))
  | ((with_reducible refine' b_lenT ?hv ?_); (case hv => walk_at "sq"))
  | ((with_reducible refine' b_ixL ?hv ?hw ?_); (case hv => walk_at "sq"); (case hw => exact rfl))
  | ((with_reducible refine' b_ixT ?hv ?hw ?_); (case hv => walk_at "sq"); (case hw => exact rfl))
  | ((with_reducible refine b_I ?hv ?_); (case hv => walk_at "cond"))
  | with_reducible refine b_lcS ?_
  | with_reducible refine b_lcR ?_
  | with_reducible refine b_lcT ?_
  | with_reducible refine b_lcL ?_
  | with_reducible refine b_forT ?_
  | with_reducible refine b_forL ?_
  | with_reducible refine b_forR ?_
  | with_reducible refine b_turn ?_
  | ((with_reducible refine And.intro (a := wipe _ _ = wipe _ _) ?hv ?_); (case hv => exact rfl))
  | ((with_reducible refine And.intro (a := tyV _ "list" _ _) ?hv ?_); (case hv => exact ty_list (by assumption)))
  | with_reducible refine And.intro (a := ∃ a, V.str _ = V.str a) ⟨_, rfl⟩ ?_
  | (with_reducible refine iteT ?_)
  | (with_reducible refine iteNF ?_)
  | (with_reducible refine iteNT ?_)
  | (with_reducible refine iteVT ?_)
  | (with_reducible refine iteNVT ?_)
  | ((with_reducible refine iteVF ?hv ?_); (case hv => exact rfl))
  | ((with_reducible refine iteNVF ?hv ?_); (case hv => exact rfl))
  | with_reducible refine b_callS ?_
  | with_reducible refine b_xq ?_
  | with_reducible refine b_fld ?_
  | with_reducible refine b_sfld ?_
  | with_reducible refine b_meth ?_
  | with_reducible refine b_make ?_
  | with_reducible refine b_callK ?_
  | with_reducible refine b_sfa ?_
  | with_reducible refine b_lcEnT ?_
  | with_reducible refine b_lcEnL ?_
  | with_reducible refine b_forEnT ?_
  | with_reducible refine b_forEnL ?_
  | with_reducible refine b_lcZ ?_
  | with_reducible refine e_revT ?_
  | ((with_reducible refine' e_fld ?hv ?hc ?hn ?hl ?_); (case hv => assumption); (case hc => assumption); (case hn => assumption); (case hl => exact rfl))
  | ((with_reducible refine' e_meth ?hv ?hl ?_); (case hv => assumption); (case hl => exact rfl))
  | (with_reducible refine iteF ?_))

theorem show_out {o : Out} (h1 : OkO o) (h2 : ∀ x ∈ o, x.2 < 90000) (h3 : o.length ≤ 90000) : Show (outD o) := by
  have hp : ∀ d ∈ o.map pairD, Small 1 25 d := by
    intro d hd
    obtain ⟨x, hx, rfl⟩ := List.mem_map.mp hd
    unfold pairD
    have a : Small 0 12 (.str ⟨#[x.1]⟩) := Small.str (m := 1) (by
      intro c hc
      have : c = x.1 := by simpa using hc
      have := h1 x hx
      omega) (Nat.le_refl _)
    have b : Small 0 6 (.int (x.2 : Nat)) := Small.int 5 (by decide) (by decide) (by have := h2 x hx; omega)
    exact Small.tup2 a b
  have := Small.tup (m := 90000) hp (by rw [List.length_map]; exact h3)
  exact Small.show this (by decide) (by decide)
theorem show_res {d : PyData} {h n : Nat} (hf : isTy "tuple" d = true → Fit h n d) (hn : n ≤ 90000) : Show (resD d) := by
  unfold resD
  cases hT : isTracesD d with
  | false => exact Small.non.show (h := 0) (by decide) (by decide)
  | true =>
    rw [if_pos rfl]
    have hty : isTy "tuple" d = true := by
      cases d <;> first | rfl | exact absurd (show false = true from hT) Bool.false_ne_true
    replace hf := hf hty
    have hokT := okT_of hT
    obtain ⟨hdT, _, _⟩ := ts_of hT
    generalize tsOf d = U at hdT hokT
    subst hdT
    unfold dueD
    cases e : due U.length (Tn U) with
    | none => exact Small.non.show (h := 0) (by decide) (by decide)
    | some o =>
      have hg : greedy U.length (Tn U) (total U.length (Tn U)) = some o := by
        unfold due at e
        cases eg : greedy U.length (Tn U) (total U.length (Tn U)) with
        | none => rw [eg] at e; cases e
        | some o' =>
          rw [eg] at e
          simp only at e
          split at e
          · rw [Option.some.inj e]
          · cases e
      obtain ⟨_, h2, h3⟩ := greedy_ok hg
      have hm : o ∈ found U.length (Tn U) (total U.length (Tn U)) := by
        rw [found_eq, hg]
        simp
      obtain ⟨h4, _⟩ := found_ok hokT _ o hm
      have hUl : U.length ≤ 45000 := by
        have h1 := sumLen_two (U.map trD)
        have h2 := sumLen_shown (U.map trD)
        have h3 := hf.sm.sz
        rw [List.length_map] at h1
        omega
      have hcap : total U.length (Tn U) ≤ 90000 := by
        rw [total_eq]
        have : ∀ U : List (List Wd), (U.map fun t => (lettersOf t).length).sum ≤ sumLen (U.map trD) := by
          intro U
          induction U with
          | nil => simp [sumLen]
          | cons t U ih =>
            have h3 : (lettersOf t).length ≤ t.length := by rw [letters_filter]; exact List.length_filter_le _ _
            have h4 := sumLen_two (t.map wdD)
            have h5 := sumLen_shown (t.map wdD)
            rw [List.length_map] at h4
            have h6 : (trD t).shown = PyData.shown (.tuple (t.map wdD)) := rfl
            simp only [List.map_cons, List.sum_cons, sumLen]
            rw [h6]
            omega
        have h1 := this U
        have h2 := sumLen_shown (U.map trD)
        have h3 := hf.sm.sz
        omega
      exact show_out h4 (fun x hx => by have := h2 x hx; omega) (by omega)
/-! ### what the drawn outputs' traces are -/
def OkL (o : Out) : Prop := ∀ x ∈ o, x.1 = 97 ∨ x.1 = 98 ∨ x.1 = 120
theorem OkL.o {o : Out} (h : OkL o) : OkO o := fun x hx => by have := h x hx; omega
def goodW (w : Wd) : Prop := ∀ c, w = .ltr c → c = 97 ∨ c = 98 ∨ c = 120
theorem trace_good {o : Out} (h : OkL o) (i : Nat) : ∀ w ∈ trace o i, goodW w := by
  have step : ∀ (l : Out) (acc : List Wd), (∀ w ∈ acc, goodW w) → OkL l → ∀ w ∈ l.foldl (stepT i) acc, goodW w := by
    intro l
    induction l with
    | nil => intro acc h _; exact h
    | cons x l ih =>
      intro acc hacc hl
      refine ih _ ?_ fun y hy => hl y (List.mem_cons_of_mem _ hy)
      have hx := hl x List.mem_cons_self
      intro w hw
      unfold stepT at hw
      split at hw
      · rcases List.mem_append.mp hw with hw | hw
        · exact hacc w hw
        · rw [List.mem_singleton.mp hw]
          intro c hc
          injection hc with hc
          omega
      · split at hw
        · exact hacc w hw
        · rcases List.mem_append.mp hw with hw | hw
          · exact hacc w hw
          · rw [List.mem_singleton.mp hw]
            unfold side
            intro c hc
            split at hc <;> cases hc
  exact step o [] (by simp) h
theorem wd_fit {w : Wd} (h : goodW w) : Fit 0 7 (wdD w) := by
  have base : ∀ x : Str, PyData.canLay0 (.str x) = true → (PyData.shown (.str x)).length ≤ 7 → Fit 0 7 (.str x) := fun x a b => ⟨⟨rfl, Nat.zero_le _, b, rfl⟩, a⟩
  cases w with
  | ltr c =>
    rcases h c rfl with rfl | rfl | rfl
    · exact base _ (by decide +kernel) (by decide +kernel)
    · exact base _ (by decide +kernel) (by decide +kernel)
    · exact base _ (by decide +kernel) (by decide +kernel)
  | lo => exact base _ (by decide +kernel) (by decide +kernel)
  | hi => exact base _ (by decide +kernel) (by decide +kernel)
theorem wd_word {w : Wd} (h : goodW w) : isWordD (wdD w) = true := by
  cases w with
  | ltr c =>
    rcases h c rfl with rfl | rfl | rfl
    · decide +kernel
    · decide +kernel
    · decide +kernel
  | lo => decide +kernel
  | hi => decide +kernel
theorem wd_of_wd {w : Wd} : wdOf (wdD w) = w := by
  cases w with
  | ltr c =>
    show (if (⟨#[c]⟩ : Str) = "below" then Wd.lo else if (⟨#[c]⟩ : Str) = "above" then .hi else .ltr _) = _
    have ne : ∀ y : Str, y.length = 5 → (⟨#[c]⟩ : Str) ≠ y := fun y hy z => by
      rw [← z] at hy
      exact absurd (show (1 : Nat) = 5 from hy) (by decide)
    rw [if_neg (ne _ rfl), if_neg (ne _ rfl)]
    rfl
  | lo => rfl
  | hi => rfl
theorem tr_of_tr (t : List Wd) : trOf (trD t) = t := by
  show (t.map wdD).map wdOf = t
  rw [List.map_map]
  conv => rhs; rw [← List.map_id t]
  exact List.map_congr_left fun w _ => wd_of_wd
theorem trs_fit {o : Out} (h : OkL o) (ho : o.length ≤ 6) {m : Nat} (hm : m ≤ 5) : Fit 2 298 (trsD o m) := by
  have one : ∀ i, Fit 1 57 (trD (trace o i)) := by
    intro i
    have hl := trace_len o i
    have f : FitL 0 54 ((trace o i).map wdD) := by
      refine ⟨fun d hd => ?_, ?_⟩
      · obtain ⟨w, hw, rfl⟩ := List.mem_map.mp hd
        exact ⟨7, wd_fit (trace_good h i w hw)⟩
      · have := sumLen_le (n := 7) (ds := (trace o i).map wdD) fun d hd => by
          obtain ⟨w, hw, rfl⟩ := List.mem_map.mp hd
          exact (wd_fit (trace_good h i w hw)).sm.sz
        rw [List.length_map] at this
        omega
    exact f.tup
  have f : FitL 1 295 (((List.range m).map (trace o)).map trD) := by
    refine ⟨fun d hd => ?_, ?_⟩
    · obtain ⟨t, ht, rfl⟩ := List.mem_map.mp hd
      obtain ⟨i, _, rfl⟩ := List.mem_map.mp ht
      exact ⟨57, one i⟩
    · have := sumLen_le (n := 57) (ds := ((List.range m).map (trace o)).map trD) fun d hd => by
        obtain ⟨t, ht, rfl⟩ := List.mem_map.mp hd
        obtain ⟨i, _, rfl⟩ := List.mem_map.mp ht
        exact (one i).sm.sz
      rw [List.length_map, List.length_map, List.length_range] at this
      omega
  exact f.tup
theorem res_trs {o : Out} (h : OkL o) {m : Nat} (hm : 2 ≤ m) (hp : ∀ x ∈ o, x.2 < m) : resD (trsD o m) = outD o := by
  have h1 : isTracesD (trsD o m) = true := by
    show (decide (2 ≤ (((List.range m).map (trace o)).map trD).length) && (((List.range m).map (trace o)).map trD).all isTraceD) = true
    rw [Bool.and_eq_true]
    refine ⟨decide_eq_true (by simpa using hm), List.all_eq_true.mpr fun d hd => ?_⟩
    obtain ⟨t, ht, rfl⟩ := List.mem_map.mp hd
    obtain ⟨i, _, rfl⟩ := List.mem_map.mp ht
    refine List.all_eq_true.mpr fun d hd => ?_
    obtain ⟨w, hw, rfl⟩ := List.mem_map.mp hd
    exact wd_word (trace_good h i w hw)
  have h2 : tsOf (trsD o m) = (List.range m).map (trace o) := by
    show (((List.range m).map (trace o)).map trD).map trOf = _
    rw [List.map_map]
    conv => rhs; rw [← List.map_id ((List.range m).map (trace o))]
    exact List.map_congr_left fun t _ => tr_of_tr t
  unfold resD
  rw [if_pos h1, h2]
  unfold dueD
  have hl : ((List.range m).map (trace o)).length = m := by simp
  rw [hl, due_trace (o := o) (fun i hi => ?_) hp]
  · rfl
  · refine Tn_get ?_
    rw [List.getElem?_map, List.getElem?_range hi]
    rfl
section
variable {P : Program} {w : World} {K : PySem.W.Frag} {mg : Str → Option Value} {base : Heap} {D : Ad}
def sp_told (K : PySem.W.Frag) : Sp := fun vs H Q _ => ∃ (M : Addr → Prop) (v : V) (d : PyData) (h n : Nat), vs = [v] ∧ Dq K M H v d ∧ (isTy "tuple" d = true → Fit h n d) ∧ h ≤ 50 ∧ n ≤ 90000 ∧ Show d ∧ ∀ H', Same H H' → Q (.bl true) H'
theorem ok__law_is_told (T : Txt K mg D) {k : Nat} : FnOkG P w K mg base CX0 (k + 5) D.f__law_is_told D.d__law_is_told P__law_is_told (sp_told K) := by
  have G__law_due : FnOk P w K mg base CX0 (k + 4) D.f__law_due D.d__law_due P__law_due (sp_output_of K) := ok__law_due T
  have G_output_of : FnOk P w K mg base CX0 (k + 4) D.f_output_of D.d_output_of P_output_of (sp_output_of K) := ok_output_of T
  refine okG T.f__law_is_told sc__law_is_told (fun vs H Q E h => ?_) (fun cdv A outer s H vs Q E hgu hr h => ?_)
  · obtain ⟨M, v, d, h, n, rfl, _⟩ := h
    rfl
  · obtain ⟨M, v, d, h, n, rfl, hd, hf, hh, hn, hs, q⟩ := h
    have hsr := show_res hf hn
    refine ⟨_, (pss_cons (ps_par (i := 1) (j := 2) (by rfl) sc__law_is_told.nd rfl rfl (by decide) rfl rfl (pa_cons (pe_callB (callK (K := K) (r := rRepr) (by rfl) (call_reprG hgu hr)) (by rfl) T.z_repr (by decide +kernel) (pa_cons (pv 0) pa_nil)) (pa_cons (pe_callB (callK (K := K) (r := rRepr) (by rfl) (call_reprG hgu hr)) (by rfl) T.z_repr (by decide +kernel) (pa_cons (pe_call G__law_due hr (by rfl) T.g__law_due T.f__law_due.kp T.b__law_due .nil pass0 (pa_cons (pv 0) pa_nil)) pa_nil)) pa_nil)) (by rfl))
      (pss_one (ps_ret (pe_and (pe_cmpR op_eq (pe_callB (callK (K := K) (r := rRepr) (by rfl) (call_reprG hgu hr)) (by rfl) T.z_repr (by decide +kernel) (pa_cons (pe_call G_output_of hr (by rfl) T.g_output_of T.f_output_of.kp T.b_output_of .nil pass0 (pa_cons (pv 0) pa_nil)) pa_nil)) (pv 2) (nomark _)) (pe_and (pe_cmpR op_eq (pe_callB (callK (K := K) (r := rRepr) (by rfl) (call_reprG hgu hr)) (by rfl) T.z_repr (by decide +kernel) (pa_cons (pe_callK0 G_output_of hr (by rfl) T.g_output_of T.f_output_of.kp T.k_output_of pass0 (pk_cons (pv 0) pk_nil)) pa_nil)) (pv 2) (nomark _)) (pe_one (pe_cmpR op_eq (pe_callB (callK (K := K) (r := rRepr) (by rfl) (call_reprG hgu hr)) (by rfl) T.z_repr (by decide +kernel) (pa_cons (pv 0) pa_nil)) (pv 1) (nomark _)))))))), ?_⟩
    repeat walk_at "st"
    refine b_repr hd hs ?_
    repeat walk_at "st"
    refine ⟨M, v, d, h, n, rfl, hd, hf, hh, hn, fun v1 H1 s1 h1 => ?_⟩
    repeat walk_at "st"
    refine b_repr h1 hsr ?_
    repeat walk_at "st"
    refine ⟨M, v, d, h, n, rfl, hd.same s1, hf, hh, hn, fun v2 H2 s2 h2 => ?_⟩
    repeat walk_at "st"
    refine b_repr h2 hsr ?_
    repeat walk_at "st"
    refine ⟨M, v, d, h, n, rfl, (hd.same s1).same s2, hf, hh, hn, fun v3 H3 s3 h3 => ?_⟩
    repeat walk_at "st"
    refine b_repr h3 hsr ?_
    repeat walk_at "st"
    refine b_repr (((hd.same s1).same s2).same s3) hs ?_
    repeat walk_at "st"
    rw [decide_eq_true rfl]
    exact q H3 ((s1.trans s2).trans s3)
end
end K14

namespace K14
open PySem PySem.Spec PyProof.Rows L2 FG
local macro_rules | `(tactic| walk_at "sq") => `(tactic| first
  | assumption
  | exact SqL.of (by assumption)
  | exact SqT.of (by assumption)
  | exact SqLm.l (by assumption)
  | exact SqTm.t (by assumption))
local macro_rules | `(tactic| walk_at "cond") => `(tactic| first
  | assumption
  | (show (0 : Int) < _; omega)
  | (show (0 : Int) < _ ∧ _ < 1073741824; omega))
local macro_rules | `(tactic| walk_at "st") => `(tactic| first
  | with_reducible refine b_seq ?_
  | with_reducible refine b_asg ?_
  | with_reducible refine b_op ?_
  | ((with_reducible refine' b_var ?hv ?_); (case hv => exact rfl))
  | with_reducible refine b_c ?_
  | with_reducible refine b_name ?_
  | with_reducible refine b_I0 ?_
  | with_reducible refine b_cons ?_
  | with_reducible refine b_nil ?_
  | with_reducible refine b_cb ?_
  | with_reducible refine b_call ?_
  | with_reducible refine b_ret ?_
  | with_reducible refine b_ifS ?_
  | with_reducible refine b_test ?_
  | with_reducible refine b_tb ?_
  | with_reducible refine b_bl ?_
  | with_reducible refine b_blP ?_
  | with_reducible refine b_next ?_
  | with_reducible refine b_drop ?_
  | with_reducible refine b_sub ?_
  | with_reducible refine b_chain ?_
  | with_reducible refine b_and ?_
  | with_reducible refine b_or ?_
  | with_reducible refine b_not ?_
  | with_reducible refine b_andV ?_
  | with_reducible refine b_orV ?_
  | with_reducible refine b_notV ?_
  | with_reducible refine b_if ?_
  | with_reducible refine b_par ?_
  | with_reducible refine b_parE ?_
  | ((with_reducible refine' b_aug ?hv ?_); (case hv => exact rfl))
  | with_reducible refine b_ip ?_
  | with_reducible refine b_retN ?_
  | with_reducible refine b_tup ?_
  | with_reducible refine b_lst ?_
  | with_reducible refine b_sl ?_
  | with_reducible refine b_part ?_
  | with_reducible refine b_partP ?_
  | with_reducible refine b_nopart ?_
  | with_reducible refine b_bm ?_
  | with_reducible refine b_m1 ?_
  | with_reducible refine b_yes ?_
  | with_reducible refine b_un ?_
  | with_reducible refine b_neg ?_
  | with_reducible refine b_isN ?_
  | with_reducible refine b_notN ?_
  | with_reducible refine b_inS ?_
  | with_reducible refine b_int ?_
  | with_reducible refine b_intB ?_
  | with_reducible refine b_abs ?_
  | with_reducible refine b_max ?_
  | with_reducible refine b_min ?_
  | ((with_reducible refine b_eq ?hv ?_); (case hv => exact rfl))
  | ((with_reducible refine b_ne ?hv ?_); (case hv => exact rfl))
  | ((with_reducible refine' b_lenL ?hv ?_); (case hv => walk_at "sq"))
  | ((with_reducible refine' b_lenT ?hv ?_); (case hv => walk_at "sq"))
  | ((with_reducible refine' b_ixL ?hv ?hw ?_); (case hv => walk_at "sq"); (case hw => exact rfl))
  | ((with_reducible refine' b_ixT ?hv ?hw ?_); (case hv => walk_at "sq"); (case hw => exact rfl))
  | ((with_reducible refine b_I ?hv ?_); (case hv => walk_at "cond"))
  | with_reducible refine b_lcS ?_
  | with_reducible refine b_lcR ?_
  | with_reducible refine b_lcT ?_
  | with_reducible refine b_lcL ?_
  | with_reducible refine b_forT ?_
  | with_reducible refine b_forL ?_
  | with_reducible refine b_forR ?_
  | with_reducible refine b_turn ?_
  | ((with_reducible refine And.intro (a := wipe _ _ = wipe _ _) ?hv ?_); (case hv => exact rfl))
  | ((with_reducible refine And.intro (a := tyV _ "list" _ _) ?hv ?_); (case hv => exact ty_list (by assumption)))
  | with_reducible refine And.intro (a := ∃ a, V.str _ = V.str a) ⟨_, rfl⟩ ?_
  | (with_reducible refine iteT ?_)
  | (with_reducible refine iteNF ?_)
  | (with_reducible refine iteNT ?_)
  | (with_reducible refine iteVT ?_)
  | (with_reducible refine iteNVT ?_)
  | ((with_reducible refine iteVF ?hv ?_); (case hv => exact rfl))
  | ((with_reducible refine iteNVF ?hv ?_); (case hv => exact rfl))
  | with_reducible refine b_callS ?_
  | with_reducible refine b_xq ?_
  | with_reducible refine b_fld ?_
  | with_reducible refine b_sfld ?_
  | with_reducible refine b_meth ?_
  | with_reducible refine b_make ?_
  | with_reducible refine b_callK ?_
  | with_reducible refine b_sfa ?_
  | with_reducible refine b_lcEnT ?_
  | with_reducible refine b_lcEnL ?_
  | with_reducible refine b_forEnT ?_
  | with_reducible refine b_forEnL ?_
  | with_reducible refine b_lcZ ?_
  | with_reducible refine e_revT ?_
  | ((with_reducible refine' e_fld ?hv ?hc ?hn ?hl ?_); (case hv => assumption); (case hc => assumption); (case hn => assumption); (case hl => exact rfl))
  | ((with_reducible refine' e_meth ?hv ?hl ?_); (case hv => assumption); (case hl => exact rfl))
  | (with_reducible refine iteF ?_))

def bnd : Nat → Nat
  | 0 => 298
  | j + 1 => 5 * bnd j + 300
theorem bnd_up (j : Nat) : bnd j ≤ bnd (j + 1) := by
  show bnd j ≤ 5 * bnd j + 300
  omega
theorem bnd_le {j : Nat} (h : j ≤ 2) : bnd j ≤ 40000 := by
  have : j = 0 ∨ j = 1 ∨ j = 2 := by omega
  rcases this with rfl | rfl | rfl <;> decide
theorem bnd_le3 {j : Nat} (h : j ≤ 3) : bnd j ≤ 90000 := by
  have : j = 0 ∨ j = 1 ∨ j = 2 ∨ j = 3 := by omega
  rcases this with rfl | rfl | rfl | rfl <;> decide
def oddD : List PyData := [.none, .int 0, .str "ab", .str "", .list [], .dict [], .tuple [.tuple [], .none], .tuple [.str "a", .str "b"], .tuple [.tuple [], .list []], .tuple [.tuple [.str "a"], .int 1]]
theorem odd_ok : ∀ d ∈ oddD, (isTy "tuple" d = true → Fit 5 90 d) ∧ Show d := by
  intro d hd
  simp only [oddD, List.mem_cons, List.not_mem_nil, or_false] at hd
  rcases hd with rfl | rfl | rfl | rfl | rfl | rfl | rfl | rfl | rfl | rfl
  · exact ⟨fun z => (by cases z), ⟨by decide +kernel, by decide +kernel, by decide +kernel, by decide +kernel⟩⟩
  · exact ⟨fun z => (by cases z), ⟨by decide +kernel, by decide +kernel, by decide +kernel, by decide +kernel⟩⟩
  · exact ⟨fun z => (by cases z), ⟨by decide +kernel, by decide +kernel, by decide +kernel, by decide +kernel⟩⟩
  · exact ⟨fun z => (by cases z), ⟨by decide +kernel, by decide +kernel, by decide +kernel, by decide +kernel⟩⟩
  · exact ⟨fun z => (by cases z), ⟨by decide +kernel, by decide +kernel, by decide +kernel, by decide +kernel⟩⟩
  · exact ⟨fun z => (by cases z), ⟨by decide +kernel, by decide +kernel, by decide +kernel, by decide +kernel⟩⟩
  · exact ⟨fun _ => ⟨⟨by decide +kernel, by decide +kernel, by decide +kernel, by decide +kernel⟩, by decide +kernel⟩, ⟨by decide +kernel, by decide +kernel, by decide +kernel, by decide +kernel⟩⟩
  · exact ⟨fun _ => ⟨⟨by decide +kernel, by decide +kernel, by decide +kernel, by decide +kernel⟩, by decide +kernel⟩, ⟨by decide +kernel, by decide +kernel, by decide +kernel, by decide +kernel⟩⟩
  · exact ⟨fun _ => ⟨⟨by decide +kernel, by decide +kernel, by decide +kernel, by decide +kernel⟩, by decide +kernel⟩, ⟨by decide +kernel, by decide +kernel, by decide +kernel, by decide +kernel⟩⟩
  · exact ⟨fun _ => ⟨⟨by decide +kernel, by decide +kernel, by decide +kernel, by decide +kernel⟩, by decide +kernel⟩, ⟨by decide +kernel, by decide +kernel, by decide +kernel, by decide +kernel⟩⟩
section
variable {P : Program} {w : World} {K : PySem.W.Frag} {mg : Str → Option Value} {base : Heap} {D : Ad}
def sp_right (K : PySem.W.Frag) : Sp := fun vs H Q _ => ∃ (p : Addr) (n : Nat), vs = [.ref p] ∧ PotAt H p n ∧ n ≤ 700000000 ∧ ∀ H', PotAt H' p (n + 1000) → SameM (· = p) H H' → Q (.bl true) H'
theorem ok__law_right (T : Txt K mg D) {k : Nat} : FnOkG P w K mg base CX0 (k + 6) D.f__law_right D.d__law_right P__law_right (sp_right K) := by
  have G__law_is_told : FnOkG P w K mg base CX0 (k + 5) D.f__law_is_told D.d__law_is_told P__law_is_told (sp_told K) := ok__law_is_told T
  have G_output_of : FnOk P w K mg base CX0 (k + 5) D.f_output_of D.d_output_of P_output_of (sp_output_of K) := ok_output_of T
  have G__law_take : FnOk P w K mg base CX0 (k + 5) D.f__law_take D.d__law_take P__law_take spTake := ok__law_take T
  have G__law_of : FnOk P w K mg base CX0 (k + 5) D.f__law_of D.d__law_of P__law_of (spOf K) := ok__law_of T
  have G__law_drawn_output : FnOk P w K mg base CX0 (k + 5) D.f__law_drawn_output D.d__law_drawn_output P__law_drawn_output (sp_drawn K) := ok__law_drawn_output T
  have G__law_traces : FnOk P w K mg base CX0 (k + 5) D.f__law_traces D.d__law_traces P__law_traces (sp_traces K) := ok__law_traces T
  have G__law_bent : FnOk P w K mg base CX0 (k + 5) D.f__law_bent D.d__law_bent P__law_bent (sp_bent K) := ok__law_bent T
  refine okG T.f__law_right sc__law_right (fun vs H Q E h => ?_) (fun cdv A outer s H vs Q E hgu hr h => ?_)
  · obtain ⟨p, n, rfl, _⟩ := h
    rfl
  · obtain ⟨p, n, rfl, hp, hn, q⟩ := h
    refine ⟨_, (pss_cons (ps_set (i := 1) sc__law_right.nd rfl (by first | exact .inl rfl | exact .inr rfl) (pe_op op_add pe_int (pe_call G__law_take hr (by rfl) T.g__law_take T.f__law_take.kp T.b__law_take .nil pass0 (pa_cons (pv 0) (pa_cons pe_int pa_nil)))))
      (pss_cons (ps_set (i := 2) sc__law_right.nd rfl (by first | exact .inl rfl | exact .inr rfl) (pe_call G__law_drawn_output hr (by rfl) T.g__law_drawn_output T.f__law_drawn_output.kp T.b__law_drawn_output .nil pass0 (pa_cons (pv 0) (pa_cons (pv 1) pa_nil))))
      (pss_cons (ps_par (i := 3) (j := 4) (by rfl) sc__law_right.nd rfl rfl (by decide) rfl rfl (pa_cons (pe_call G__law_traces hr (by rfl) T.g__law_traces T.f__law_traces.kp T.b__law_traces .nil pass0 (pa_cons (pv 2) (pa_cons (pv 1) pa_nil))) (pa_cons (pe_lst (pa_cons pe_non (pa_cons pe_int (pa_cons pe_str (pa_cons pe_str (pa_cons (pe_lst pa_nil) (pa_cons pe_dnewK (pa_cons (pe_tup (pa_cons (pe_tup pa_nil) (pa_cons pe_non pa_nil))) (pa_cons (pe_tup (pa_cons pe_str (pa_cons pe_str pa_nil))) (pa_cons (pe_tup (pa_cons (pe_tup pa_nil) (pa_cons (pe_lst pa_nil) pa_nil))) (pa_cons (pe_tup (pa_cons (pe_tup (pa_cons pe_str pa_nil)) (pa_cons pe_int pa_nil))) pa_nil))))))))))) pa_nil)) (by rfl))
      (pss_cons (ps_if (pt_cmpR op_ne (pe_callB (callK (K := K) (r := rRepr) (by rfl) (call_reprG hgu hr)) (by rfl) T.z_repr (by decide +kernel) (pa_cons (pe_call G_output_of hr (by rfl) T.g_output_of T.f_output_of.kp T.b_output_of .nil pass0 (pa_cons (pv 3) pa_nil)) pa_nil)) (pe_callB (callK (K := K) (r := rRepr) (by rfl) (call_reprG hgu hr)) (by rfl) T.z_repr (by decide +kernel) (pa_cons (pv 2) pa_nil)) (nomark _)) (pss_one (ps_ret pe_bl)) pss_nil)
      (pss_cons (ps_for PassesOwn.never rfl (pi_range1 (by rfl) T.z_range (pa_cons pe_int pa_nil)) (pg_name (i := 5) sc__law_right.nd rfl (by first | exact .inl rfl | exact .inr rfl)) (pss_cons (ps_set (i := 6) sc__law_right.nd rfl (by first | exact .inl rfl | exact .inr rfl) (pv 3))
      (pss_cons (ps_for PassesOwn.never rfl (pi_range1 (by rfl) T.z_range (pa_cons (pe_op op_add pe_int (pe_call G__law_take hr (by rfl) T.g__law_take T.f__law_take.kp T.b__law_take .nil pass0 (pa_cons (pv 0) (pa_cons pe_int pa_nil)))) pa_nil)) (pg_name (i := 7) sc__law_right.nd rfl (by first | exact .inl rfl | exact .inr rfl)) (pss_one (ps_if (PW.pt (pw_and (pt_val (pe_callB (callK (K := K) (r := rIsD) (by rfl) call_isD) (by rfl) T.z_isinstance (by decide +kernel) (pa_cons (pv 6) (pa_cons (pe_bltn (v := .ty "tuple") (by rfl) T.z_tuple (by decide +kernel) rfl) pa_nil)))) (pw_and1 (pt_cmpR (opK (K := K) (r := rNeQ) (by rfl) (op_neQ hr.units)) (pv 6) (pe_tup pa_nil) (nomark _))))) (pss_one (ps_set (i := 6) sc__law_right.nd rfl (by first | exact .inl rfl | exact .inr rfl) (pe_call G__law_bent hr (by rfl) T.g__law_bent T.f__law_bent.kp T.b__law_bent .nil pass0 (pa_cons (pv 0) (pa_cons (pv 6) pa_nil))))) pss_nil)))
      (pss_one (ps_if (pt_not (pt_val (pe_callG G__law_is_told hgu hr (by rfl) T.g__law_is_told T.f__law_is_told.kp T.b__law_is_told .nil pass0 (pa_cons (pv 6) pa_nil)))) (pss_one (ps_ret pe_bl)) pss_nil)))))
      (pss_one (ps_ret (pe_and (pe_callG G__law_is_told hgu hr (by rfl) T.g__law_is_told T.f__law_is_told.kp T.b__law_is_told .nil pass0 (pa_cons (pe_call G__law_of hr (by rfl) T.g__law_of T.f__law_of.kp T.b__law_of .nil pass0 (pa_cons (pv 0) (pa_cons (pv 4) pa_nil))) pa_nil)) (pe_one (pe_callG G__law_is_told hgu hr (by rfl) T.g__law_is_told T.f__law_is_told.kp T.b__law_is_told .nil pass0 (pa_cons (pe_op (opK (K := K) (r := rRepT) (by rfl) op_repT) (pe_tup (pa_cons (pe_tup pa_nil) pa_nil)) (pv 1)) pa_nil))))))))))), ?_⟩
    repeat walk_at "st"
    refine e_take hp (by omega) (by decide) (by decide) fun d H1 hd hp1 s1 => ?_
    repeat walk_at "st"
    rw [show (2 : Int) + (d : Nat) = ((2 + d : Nat) : Int) by omega]
    repeat walk_at "st"
    refine ⟨p, _, 2 + d, rfl, hp1, by omega, by omega, by omega, fun ov H2 o hov hol hop hoL hp2 s2 => ?_⟩
    have hoL' : OkL o := hoL
    have hfit := trs_fit hoL' hol (m := 2 + d) (by omega)
    have hres := res_trs hoL' (m := 2 + d) (by omega) hop
    have hsh : Show (outD o) := by
      rw [← hres]
      exact show_res (fun _ => hfit) (by decide)
    repeat walk_at "st"
    refine ⟨_, ov, o, 2 + d, rfl, hov, hoL'.o, by omega, by omega, fun sv H3 hsv s3 => ?_⟩
    have hp3 := hp2.keep s3
    replace hsv := hsv _ hp2.trk
    have hov3 := hov.same s3
    repeat walk_at "st"
    -- the odd things
    refine e_lstA (K := K) (M := (· = p)) (ds := []) .nil fun l1 H4 nl1 hl1 _ s4 => ?_
    have hp4 := hp3.keep s4
    have hd1 : Dq K (· = p) H4 (.ref l1) (.list []) := Dq.newL (hp3.ne nl1) hl1 .nil
    repeat walk_at "st"
    refine e_dnew fun l2 H5 nl2 hl2 s5 => ?_
    have hp5 := hp4.keep s5
    have hd2 : Dq K (· = p) H5 (.ref l2) (.dict []) := Dq.dct (M := (· = p)) (kvs := []) (ds := []) (hp4.ne nl2) hl2 .nil
    repeat walk_at "st"
    refine e_tupM hp5.trk (K := K) .nil fun l3 H6 hd3 s6 => ?_
    have hp6 := hp5.keep s6
    repeat walk_at "st"
    refine e_tupM hp6.trk (.cons hd3 (.cons .non .nil)) fun l4 H7 hd4 s7 => ?_
    have hp7 := hp6.keep s7
    repeat walk_at "st"
    refine e_tupM hp7.trk (K := K) (.cons (.str _) (.cons (.str _) .nil)) fun l5 H8 hd5 s8 => ?_
    have hp8 := hp7.keep s8
    repeat walk_at "st"
    refine e_tupM hp8.trk (K := K) .nil fun l6 H9 hd6 s9 => ?_
    have hp9 := hp8.keep s9
    repeat walk_at "st"
    refine e_lstA (K := K) (M := (· = p)) (ds := []) .nil fun l7 Ha nl7 hl7 _ sa => ?_
    have hpa := hp9.keep sa
    have hd7 : Dq K (· = p) Ha (.ref l7) (.list []) := Dq.newL (hp9.ne nl7) hl7 .nil
    repeat walk_at "st"
    refine e_tupM hpa.trk (.cons (hd6.same sa) (.cons hd7 .nil)) fun l8 Hb hd8 sb => ?_
    have hpb := hpa.keep sb
    repeat walk_at "st"
    refine e_tupM hpb.trk (K := K) (.cons (.str _) .nil) fun l9 Hc hd9 sc => ?_
    have hpc := hpb.keep sc
    repeat walk_at "st"
    refine e_tupM hpc.trk (.cons hd9 (.cons (.int _) .nil)) fun l10 Hd hd10 sd => ?_
    have hpd := hpc.keep sd
    repeat walk_at "st"
    have t8 := ((sb.trans sc).trans sd)
    have t7 := (s9.trans sa).trans t8
    have t5 := (s6.trans s7).trans (s8.trans t7)
    refine e_lstA (ds := oddD) (M := (· = p)) (.cons .non (.cons (.int _) (.cons (.str _) (.cons (.str _) (.cons ((hd1.same s5).same t5) (.cons (hd2.same t5) (.cons (hd4.same (s8.trans t7)) (.cons (hd5.same t7) (.cons (hd8.same (sc.trans sd)) (.cons hd10 .nil)))))))))) fun lo He nlo hlo hall se => ?_
    have hpe := hpd.keep se
    have s3e : Same H3 He := (s4.trans (s5.trans t5)).trans se
    have hsve := hsv.same s3e
    have hove := hov3.same s3e
    have sHe : SameM (· = p) H He := ((s1.trans s2).trans (SameM.of s3)).trans (SameM.of s3e)
    clear hd1 hd2 hd3 hd4 hd5 hd6 hd7 hd8 hd9 hd10 hp3 hp4 hp5 hp6 hp7 hp8 hp9 hpa hpb hpc t8 t7 t5 s4 s5 s6 s7 s8 s9 sa sb sc sd s3e s1 s2 s3
    repeat walk_at "st"
    refine ⟨_, sv, trsD o (2 + d), 2, 298, rfl, hsve, fun _ => hfit, by decide, by decide, fun rv Hf sf hrv => ?_⟩
    rw [hres] at hrv
    repeat walk_at "st"
    refine b_repr hrv hsh ?_
    repeat walk_at "st"
    refine b_repr (hove.same sf) hsh ?_
    repeat walk_at "st"
    have hpf := hpe.keep sf
    have hsvf := hsve.same sf
    have sHf := sHe.trans (SameM.of sf)
    have hlof := sf _ _ hlo
    have hallf := hall.same sf
    have nlop := hpd.ne nlo
    clear hrv hove hov3 hov hsv hp1 hp2 hpe hall hlo
    refine e_forR (fun i σ H' => ∃ x5 x6 x7, σ = [some (.ref p), some (.int ((2 + d : Nat) : Int)), some ov, some sv, some (.ref lo), x5, x6, x7] ∧ PotAt H' p (n + 14 + 20 * i) ∧ SameM (· = p) Hf H') (by decide) (by decide) ?_ ?_ ?_
    · exact ⟨none, none, none, rfl, hpf, SameM.refl _ _⟩
    · rintro i σ Hi hi ⟨x5, x6, x7, rfl, hpi, si⟩
      have hi12 : i < 12 := hi
      repeat walk_at "st"
      refine e_take hpi (by omega) (by decide) (by decide) fun e Hj he hpj sj => ?_
      repeat walk_at "st"
      refine e_forR (fun j σ H' => ∃ val dd x7, σ = [some (.ref p), some (.int ((2 + d : Nat) : Int)), some ov, some sv, some (.ref lo), some (.int (0 + (i : Nat))), some val, x7] ∧ Dq K (· = p) H' val dd ∧ Fit (2 + 4 * j) (bnd j) dd ∧ PotAt H' p (n + 14 + 20 * i + 1 + 5 * j) ∧ SameM (· = p) Hf H') (by omega) (by omega) ?_ ?_ ?_
      · exact ⟨sv, trsD o (2 + d), _, rfl, (hsvf.mono si).mono sj, hfit, hpj, si.trans sj⟩
      · rintro j σ Hk hj ⟨val, dd, x7, rfl, hval, hfd, hpk, sk⟩
        have hj2 : j ≤ 2 := by omega
        have stay : Fit (2 + 4 * (j + 1)) (bnd (j + 1)) dd := hfd.mono (by omega) (bnd_up j)
        repeat walk_at "st"
        refine b_isD hval (by decide) ?_
        repeat walk_at "st"
        by_cases hT : isTy "tuple" dd = true
        rotate_left
        · rw [Bool.eq_false_iff.mpr hT]
          repeat walk_at "st"
          exact ⟨val, dd, _, rfl, hval, stay, hpk.mono (by omega), sk⟩
        rw [hT]
        obtain ⟨ds, rfl⟩ := isTy_tuple hT
        repeat walk_at "st"
        refine e_tupM hpk.trk (K := K) .nil fun t0 Hl ht0 sl => ?_
        have hpl := hpk.keep sl
        have hvall := hval.same sl
        refine ⟨(· = p), (· = p), .tuple ds, .tuple [], hvall, ht0, hfd.shaped (by omega), by decide +kernel, ?_⟩
        cases ds with
        | nil =>
          rw [show PyData.eqv (.tuple []) (.tuple []) = true by simp [PyData.eqv, PyData.eqvAll]]
          repeat walk_at "st"
          exact ⟨val, _, _, rfl, hvall, stay, hpl.mono (by omega), sk.trans (SameM.of sl)⟩
        | cons d1 ds =>
          rw [show PyData.eqv (.tuple (d1 :: ds)) (.tuple []) = false by simp [PyData.eqv, PyData.eqvAll]]
          repeat walk_at "st"
          refine ⟨p, _, _, _, val, d1 :: ds, rfl, hpl, by omega, hvall, hfd, by simp, bnd_le hj2, fun bv Hm bd hbv hbf hpm sm => ?_⟩
          repeat walk_at "st"
          exact ⟨bv, bd, _, rfl, hbv, hbf.mono (by omega) (Nat.le_refl _), hpm.mono (by omega), (sk.trans (SameM.of sl)).trans sm⟩
      · rintro σ Hk ⟨val, dd, x7, rfl, hval, hfd, hpk, sk⟩
        have hje : ((1 : Int) + (e : Nat)).toNat ≤ 3 := by omega
        generalize ((1 : Int) + (e : Nat)).toNat = je at hfd hpk hje
        repeat walk_at "st"
        refine ⟨_, val, dd, _, _, rfl, hval, fun _ => hfd, by omega, bnd_le3 hje, hfd.show (by omega) (by have := bnd_le3 hje; omega), fun Hl sl => ?_⟩
        repeat walk_at "st"
        exact ⟨_, _, _, rfl, (hpk.keep sl).mono (by omega), sk.trans (SameM.of sl)⟩
    · rintro σ Hi ⟨x5, x6, x7, rfl, hpi, si⟩
      have hpi' : PotAt Hi p (n + 254) := hpi.mono (Nat.le_of_eq rfl)
      repeat walk_at "st"
      refine e_of hpi' (by omega) nlop (si _ _ nlop hlof) (hallf.mono si) (by simp) (by simp) fun wv wd Hj hwd hwv hpj sj => ?_
      obtain ⟨ho1, ho2⟩ := odd_ok wd hwd
      repeat walk_at "st"
      refine ⟨_, wv, wd, 5, 90, rfl, hwv, ho1, by decide, by decide, ho2, fun Hk sk => ?_⟩
      repeat walk_at "st"
      refine e_tupD (K := K) .nil fun t1 Hl ht1 sl => ?_
      repeat walk_at "st"
      refine e_tupD (.cons ht1 .nil) fun t2 Hm ht2 sm => ?_
      repeat walk_at "st"
      refine e_repD ht2 (by omega) (by omega) fun tv Hn htv sn => ?_
      repeat walk_at "st"
      have f1 : FitL 1 1000 (List.replicate ((2 + d : Nat) : Int).toNat (PyData.tuple [])) := by
        have h0 : Fit 1 90 (PyData.tuple []) := okOdd_fit _ (by simp [okOdd])
        refine ⟨fun e he => ⟨90, by rw [List.eq_of_mem_replicate he]; exact h0⟩, ?_⟩
        have := sumLen_le (n := 90) (ds := List.replicate ((2 + d : Nat) : Int).toNat (PyData.tuple [])) fun e he => by rw [List.eq_of_mem_replicate he]; exact h0.sm.sz
        rw [List.length_replicate] at this
        omega
      refine ⟨M0, tv, _, 2, 1003, rfl, htv, fun _ => f1.tup, by decide, by decide, f1.tup.show (by decide) (by decide), fun Ho so => ?_⟩
      have sjo := (((sk.trans sl).trans sm).trans sn).trans so
      exact q Ho ((hpj.keep sjo).mono (by omega)) ((((sHf.trans si).trans sj)).trans (SameM.of sjo))
def sp_law (K : PySem.W.Frag) : Sp := fun vs H Q _ => ∃ (a : Addr) (ns : List Int), vs = [.ref a] ∧ SqL K H a (ns.map V.int) ∧ ns.length ≤ 63 ∧ ∀ H', Q (.bl true) H'
theorem ok_law (T : Txt K mg D) {k : Nat} : FnOkG P w K mg base CX0 (k + 7) D.f_law D.d_law P_law (sp_law K) := by
  have G__law_right : FnOkG P w K mg base CX0 (k + 6) D.f__law_right D.d__law_right P__law_right (sp_right K) := ok__law_right T
  have G__law_pot_of : FnOk P w K mg base CX0 (k + 6) D.f__law_pot_of D.d__law_pot_of P__law_pot_of (spPotOf K) := ok__law_pot_of T
  refine okG T.f_law sc_law (fun vs H Q E h => ?_) (fun cdv A outer s H vs Q E hgu hr h => ?_)
  · obtain ⟨a, ns, rfl, _⟩ := h
    rfl
  · obtain ⟨a, ns, rfl, hS, hn, q⟩ := h
    refine ⟨_, (pss_cons (ps_for PassesOwn.never rfl (pi_range1 (by rfl) T.z_range (pa_cons (pe_callB (q_max rfl) (by rfl) T.z_max (by decide +kernel) (pa_cons pe_int (pa_cons (pe_callB (q_min rfl) (by rfl) T.z_min (by decide +kernel) (pa_cons pe_int (pa_cons (pe_callB (callK (K := K) (r := qLen) (by rfl) q_len) (by rfl) T.z_len (by decide +kernel) (pa_cons (pv 0) pa_nil)) pa_nil))) pa_nil))) pa_nil)) (pg_name (i := 1) sc_law.nd rfl (by first | exact .inl rfl | exact .inr rfl)) (pss_cons (ps_set (i := 2) sc_law.nd rfl (by first | exact .inl rfl | exact .inr rfl) (pe_call G__law_pot_of hr (by rfl) T.g__law_pot_of T.f__law_pot_of.kp T.b__law_pot_of .nil pass0 (pa_cons (pv 0) (pa_cons (pv 1) pa_nil))))
      (pss_one (ps_if (pt_not (pt_val (pe_callB (callK (K := K) (r := rAll) (by rfl) (cr_all rfl)) (by rfl) T.z_all (by decide +kernel) (pa_cons (pe_lc (own := [("_law_turn", 3)]) (g := gName 3) (tt := tYes) (by rfl) sc_law.nd (pi_range1 (by rfl) T.z_range (pa_cons pe_int pa_nil)) (blkOk_by (own := [("_law_turn", 3)]) (N := N_law) (sc := defScope s_law) (by decide +kernel)) (fun _ _ _ _ _ => (pg_name (i := 3) sc_law.nd rfl (by first | exact .inl rfl | exact .inr rfl))) (fun _ _ _ _ _ => pts_nil) (fun _ _ _ _ _ => (pe_callG G__law_right hgu hr (by rfl) T.g__law_right T.f__law_right.kp T.b__law_right .nil pass0 (pa_cons (pv 2) pa_nil)))) pa_nil)))) (pss_one (ps_ret pe_bl)) pss_nil))))
      (pss_one (ps_ret pe_bl))), ?_⟩
    repeat walk_at "st"
    have hj : ∀ x : Int, 1 ≤ (if (if x < 3 then x else 3) > 1 then (if x < 3 then x else 3) else 1) ∧ (if (if x < 3 then x else 3) > 1 then (if x < 3 then x else 3) else 1) ≤ 3 := by
      intro x
      split <;> split <;> omega
    obtain ⟨hj1, hj2⟩ := hj ((ns.map V.int).length : Int)
    generalize (if (if (((ns.map V.int).length : Nat) : Int) < 3 then (((ns.map V.int).length : Nat) : Int) else 3) > 1 then (if (((ns.map V.int).length : Nat) : Int) < 3 then (((ns.map V.int).length : Nat) : Int) else 3) else 1) = jj at hj1 hj2 ⊢
    refine e_forR (fun i σ H' => ∃ x1 x2, σ = [some (.ref a), x1, x2, none] ∧ Same H H') (by omega) (by omega) ?_ ?_ ?_
    · exact ⟨none, none, rfl, Same.refl H⟩
    · rintro i σ Ha hi ⟨x1, x2, rfl, sa⟩
      repeat walk_at "st"
      refine ⟨a, ns, i, by rw [Int.zero_add]; rfl, ?_, hn, by omega, fun p Hb np sb hPb => ?_⟩
      · rcases hS with (h | ⟨o, h⟩) | h
        · exact .inl (.inl (sa _ _ h))
        · exact .inl (.inr ⟨o, sa _ _ h⟩)
        · exact .inr h
      have npH : H p = none := none_back sa np
      repeat walk_at "st"
      refine e_lcR (fun S j H' => H' S = some (.lst ((List.replicate j true).map V.bl)) ∧ PotAt H' p (1000 * j) ∧ SameM (fun b => b = p ∨ b = S) Hb H') (by decide) (by decide) ?_ ?_ ?_
      · intro S H' nS hS' sS
        exact ⟨hS', hPb.keep sS, SameM.of sS⟩
      · rintro S j H' nS hj ⟨hS', hp', s'⟩
        have hj8 : j < 8 := hj
        have hSp : S ≠ p := hPb.ne nS
        repeat walk_at "st"
        refine ⟨p, _, rfl, hp', by omega, fun Hc hpc sc => ?_⟩
        repeat walk_at "st"
        refine e_app (sc _ _ hSp hS') (by simp; omega) fun Hd hd sd => ⟨?_, ?_, ?_⟩
        · rw [hd, List.replicate_succ', List.map_append]; rfl
        · have e2 : Hd p = Hc p := by
            obtain ⟨_, _, _, z, _⟩ := hpc
            rw [z]
            exact sd _ _ (Ne.symm hSp) z
          exact (hpc.same e2).mono (by omega)
        · exact (s'.trans (sc.sub fun b z => .inl z)).trans (sd.sub fun b z => .inr z)
      · rintro S H' nS ⟨hS', hp', s'⟩
        repeat walk_at "st"
        refine b_all (SqL.of hS') ?_
        rw [show (List.replicate (8 : Int).toNat true).all id = true from rfl]
        repeat walk_at "st"
        refine ⟨_, _, rfl, fun b o e => ?_⟩
        have e2 := sb _ _ (sa _ _ e)
        exact s' _ _ (fun z => by
          rcases z with rfl | rfl
          · rw [npH] at e; cases e
          · rw [nS] at e2; cases e2) e2
    · rintro σ Ha ⟨x1, x2, rfl, sa⟩
      repeat walk_at "st"
      exact q Ha
end
end K14

namespace K14
open PySem PySem.Spec PyProof.Rows L2 FG
theorem all_mk {K : PySem.W.Frag} {h : Heap} {mg : Str → Option Value} {f_is_letter f_side_of f_is_trace f_are_traces f_Follower_init f_Follower_next_word f_Follower_is_within f_Follower_lets f_Follower_go_on f_output_of f__law_pot_of f__law_take f__law_of f__law_trace f__law_traces f__law_drawn_output f__law_is_form f__law_is_begun f__law_due f__law_bent_trace f__law_bent f__law_is_told f__law_right f_law c_Follower : Addr} (X : K.In h) (G : h.Ns mainGlobals mg)
    {oc0 kV0 dc0 pm0 cd0 ct0 : Value} {od0 an0 : Option Addr} {sl0 : Array (Option Value)}
    (a0 : PySem.W.nsIn K mainGlobals "is_letter" = some (some (.ref f_is_letter)))
    (l0 : K.lookup f_is_letter = some ⟨oc0, od0, .func (PySem.W.fnOf "is_letter" "is_letter" (defArgs s_is_letter) (defBody s_is_letter) (defScope s_is_letter) .none kV0 dc0 pm0 an0 cd0 ct0), sl0⟩)
    (k0 : PySem.W.codeIn K cd0 "is_letter" = true) (e0 : PySem.W.keepIn K (.ref f_is_letter) = true)
    {oc1 kV1 dc1 pm1 cd1 ct1 : Value} {od1 an1 : Option Addr} {sl1 : Array (Option Value)}
    (a1 : PySem.W.nsIn K mainGlobals "side_of" = some (some (.ref f_side_of)))
    (l1 : K.lookup f_side_of = some ⟨oc1, od1, .func (PySem.W.fnOf "side_of" "side_of" (defArgs s_side_of) (defBody s_side_of) (defScope s_side_of) .none kV1 dc1 pm1 an1 cd1 ct1), sl1⟩)
    (k1 : PySem.W.codeIn K cd1 "side_of" = true) (e1 : PySem.W.keepIn K (.ref f_side_of) = true)
    {oc2 kV2 dc2 pm2 cd2 ct2 : Value} {od2 an2 : Option Addr} {sl2 : Array (Option Value)}
    (a2 : PySem.W.nsIn K mainGlobals "is_trace" = some (some (.ref f_is_trace)))
    (l2 : K.lookup f_is_trace = some ⟨oc2, od2, .func (PySem.W.fnOf "is_trace" "is_trace" (defArgs s_is_trace) (defBody s_is_trace) (defScope s_is_trace) .none kV2 dc2 pm2 an2 cd2 ct2), sl2⟩)
    (k2 : PySem.W.codeIn K cd2 "is_trace" = true) (e2 : PySem.W.keepIn K (.ref f_is_trace) = true)
    {oc3 kV3 dc3 pm3 cd3 ct3 : Value} {od3 an3 : Option Addr} {sl3 : Array (Option Value)}
    (a3 : PySem.W.nsIn K mainGlobals "are_traces" = some (some (.ref f_are_traces)))
    (l3 : K.lookup f_are_traces = some ⟨oc3, od3, .func (PySem.W.fnOf "are_traces" "are_traces" (defArgs s_are_traces) (defBody s_are_traces) (defScope s_are_traces) .none kV3 dc3 pm3 an3 cd3 ct3), sl3⟩)
    (k3 : PySem.W.codeIn K cd3 "are_traces" = true) (e3 : PySem.W.keepIn K (.ref f_are_traces) = true)
    {oc4 kV4 dc4 pm4 cd4 ct4 : Value} {od4 an4 : Option Addr} {sl4 : Array (Option Value)}
    (a4 : PySem.W.findIn K (.ref c_Follower) "__init__" = some (some (.ref f_Follower_init))) (i4 : PySem.W.isFn K (.ref f_Follower_init) = true)
    (l4 : K.lookup f_Follower_init = some ⟨oc4, od4, .func (PySem.W.fnOf "__init__" "Follower.__init__" (defArgs s_Follower_init) (defBody s_Follower_init) (defScope s_Follower_init) .none kV4 dc4 pm4 an4 cd4 ct4), sl4⟩)
    (k4 : PySem.W.codeIn K cd4 "Follower.__init__" = true) (e4 : PySem.W.keepIn K (.ref f_Follower_init) = true)
    {oc5 kV5 dc5 pm5 cd5 ct5 : Value} {od5 an5 : Option Addr} {sl5 : Array (Option Value)}
    (a5 : PySem.W.findIn K (.ref c_Follower) "next_word" = some (some (.ref f_Follower_next_word))) (i5 : PySem.W.isFn K (.ref f_Follower_next_word) = true)
    (l5 : K.lookup f_Follower_next_word = some ⟨oc5, od5, .func (PySem.W.fnOf "next_word" "Follower.next_word" (defArgs s_Follower_next_word) (defBody s_Follower_next_word) (defScope s_Follower_next_word) .none kV5 dc5 pm5 an5 cd5 ct5), sl5⟩)
    (k5 : PySem.W.codeIn K cd5 "Follower.next_word" = true) (e5 : PySem.W.keepIn K (.ref f_Follower_next_word) = true)
    {oc6 kV6 dc6 pm6 cd6 ct6 : Value} {od6 an6 : Option Addr} {sl6 : Array (Option Value)}
    (a6 : PySem.W.findIn K (.ref c_Follower) "is_within" = some (some (.ref f_Follower_is_within))) (i6 : PySem.W.isFn K (.ref f_Follower_is_within) = true)
    (l6 : K.lookup f_Follower_is_within = some ⟨oc6, od6, .func (PySem.W.fnOf "is_within" "Follower.is_within" (defArgs s_Follower_is_within) (defBody s_Follower_is_within) (defScope s_Follower_is_within) .none kV6 dc6 pm6 an6 cd6 ct6), sl6⟩)
    (k6 : PySem.W.codeIn K cd6 "Follower.is_within" = true) (e6 : PySem.W.keepIn K (.ref f_Follower_is_within) = true)
    {oc7 kV7 dc7 pm7 cd7 ct7 : Value} {od7 an7 : Option Addr} {sl7 : Array (Option Value)}
    (a7 : PySem.W.findIn K (.ref c_Follower) "lets" = some (some (.ref f_Follower_lets))) (i7 : PySem.W.isFn K (.ref f_Follower_lets) = true)
    (l7 : K.lookup f_Follower_lets = some ⟨oc7, od7, .func (PySem.W.fnOf "lets" "Follower.lets" (defArgs s_Follower_lets) (defBody s_Follower_lets) (defScope s_Follower_lets) .none kV7 dc7 pm7 an7 cd7 ct7), sl7⟩)
    (k7 : PySem.W.codeIn K cd7 "Follower.lets" = true) (e7 : PySem.W.keepIn K (.ref f_Follower_lets) = true)
    {oc8 kV8 dc8 pm8 cd8 ct8 : Value} {od8 an8 : Option Addr} {sl8 : Array (Option Value)}
    (a8 : PySem.W.findIn K (.ref c_Follower) "go_on" = some (some (.ref f_Follower_go_on))) (i8 : PySem.W.isFn K (.ref f_Follower_go_on) = true)
    (l8 : K.lookup f_Follower_go_on = some ⟨oc8, od8, .func (PySem.W.fnOf "go_on" "Follower.go_on" (defArgs s_Follower_go_on) (defBody s_Follower_go_on) (defScope s_Follower_go_on) .none kV8 dc8 pm8 an8 cd8 ct8), sl8⟩)
    (k8 : PySem.W.codeIn K cd8 "Follower.go_on" = true) (e8 : PySem.W.keepIn K (.ref f_Follower_go_on) = true)
    {oc9 kV9 dc9 pm9 cd9 ct9 : Value} {od9 an9 : Option Addr} {sl9 : Array (Option Value)}
    (a9 : PySem.W.nsIn K mainGlobals "output_of" = some (some (.ref f_output_of)))
    (l9 : K.lookup f_output_of = some ⟨oc9, od9, .func (PySem.W.fnOf "output_of" "output_of" (defArgs s_output_of) (defBody s_output_of) (defScope s_output_of) .none kV9 dc9 pm9 an9 cd9 ct9), sl9⟩)
    (k9 : PySem.W.codeIn K cd9 "output_of" = true) (e9 : PySem.W.keepIn K (.ref f_output_of) = true)
    {oc10 kV10 dc10 pm10 cd10 ct10 : Value} {od10 an10 : Option Addr} {sl10 : Array (Option Value)}
    (a10 : PySem.W.nsIn K mainGlobals "_law_pot_of" = some (some (.ref f__law_pot_of)))
    (l10 : K.lookup f__law_pot_of = some ⟨oc10, od10, .func (PySem.W.fnOf "_law_pot_of" "_law_pot_of" (defArgs s__law_pot_of) (defBody s__law_pot_of) (defScope s__law_pot_of) .none kV10 dc10 pm10 an10 cd10 ct10), sl10⟩)
    (k10 : PySem.W.codeIn K cd10 "_law_pot_of" = true) (e10 : PySem.W.keepIn K (.ref f__law_pot_of) = true)
    {oc11 kV11 dc11 pm11 cd11 ct11 : Value} {od11 an11 : Option Addr} {sl11 : Array (Option Value)}
    (a11 : PySem.W.nsIn K mainGlobals "_law_take" = some (some (.ref f__law_take)))
    (l11 : K.lookup f__law_take = some ⟨oc11, od11, .func (PySem.W.fnOf "_law_take" "_law_take" (defArgs s__law_take) (defBody s__law_take) (defScope s__law_take) .none kV11 dc11 pm11 an11 cd11 ct11), sl11⟩)
    (k11 : PySem.W.codeIn K cd11 "_law_take" = true) (e11 : PySem.W.keepIn K (.ref f__law_take) = true)
    {oc12 kV12 dc12 pm12 cd12 ct12 : Value} {od12 an12 : Option Addr} {sl12 : Array (Option Value)}
    (a12 : PySem.W.nsIn K mainGlobals "_law_of" = some (some (.ref f__law_of)))
    (l12 : K.lookup f__law_of = some ⟨oc12, od12, .func (PySem.W.fnOf "_law_of" "_law_of" (defArgs s__law_of) (defBody s__law_of) (defScope s__law_of) .none kV12 dc12 pm12 an12 cd12 ct12), sl12⟩)
    (k12 : PySem.W.codeIn K cd12 "_law_of" = true) (e12 : PySem.W.keepIn K (.ref f__law_of) = true)
    {oc13 kV13 dc13 pm13 cd13 ct13 : Value} {od13 an13 : Option Addr} {sl13 : Array (Option Value)}
    (a13 : PySem.W.nsIn K mainGlobals "_law_trace" = some (some (.ref f__law_trace)))
    (l13 : K.lookup f__law_trace = some ⟨oc13, od13, .func (PySem.W.fnOf "_law_trace" "_law_trace" (defArgs s__law_trace) (defBody s__law_trace) (defScope s__law_trace) .none kV13 dc13 pm13 an13 cd13 ct13), sl13⟩)
    (k13 : PySem.W.codeIn K cd13 "_law_trace" = true) (e13 : PySem.W.keepIn K (.ref f__law_trace) = true)
    {oc14 kV14 dc14 pm14 cd14 ct14 : Value} {od14 an14 : Option Addr} {sl14 : Array (Option Value)}
    (a14 : PySem.W.nsIn K mainGlobals "_law_traces" = some (some (.ref f__law_traces)))
    (l14 : K.lookup f__law_traces = some ⟨oc14, od14, .func (PySem.W.fnOf "_law_traces" "_law_traces" (defArgs s__law_traces) (defBody s__law_traces) (defScope s__law_traces) .none kV14 dc14 pm14 an14 cd14 ct14), sl14⟩)
    (k14 : PySem.W.codeIn K cd14 "_law_traces" = true) (e14 : PySem.W.keepIn K (.ref f__law_traces) = true)
    {oc15 kV15 dc15 pm15 cd15 ct15 : Value} {od15 an15 : Option Addr} {sl15 : Array (Option Value)}
    (a15 : PySem.W.nsIn K mainGlobals "_law_drawn_output" = some (some (.ref f__law_drawn_output)))
    (l15 : K.lookup f__law_drawn_output = some ⟨oc15, od15, .func (PySem.W.fnOf "_law_drawn_output" "_law_drawn_output" (defArgs s__law_drawn_output) (defBody s__law_drawn_output) (defScope s__law_drawn_output) .none kV15 dc15 pm15 an15 cd15 ct15), sl15⟩)
    (k15 : PySem.W.codeIn K cd15 "_law_drawn_output" = true) (e15 : PySem.W.keepIn K (.ref f__law_drawn_output) = true)
    {oc16 kV16 dc16 pm16 cd16 ct16 : Value} {od16 an16 : Option Addr} {sl16 : Array (Option Value)}
    (a16 : PySem.W.nsIn K mainGlobals "_law_is_form" = some (some (.ref f__law_is_form)))
    (l16 : K.lookup f__law_is_form = some ⟨oc16, od16, .func (PySem.W.fnOf "_law_is_form" "_law_is_form" (defArgs s__law_is_form) (defBody s__law_is_form) (defScope s__law_is_form) .none kV16 dc16 pm16 an16 cd16 ct16), sl16⟩)
    (k16 : PySem.W.codeIn K cd16 "_law_is_form" = true) (e16 : PySem.W.keepIn K (.ref f__law_is_form) = true)
    {oc17 kV17 dc17 pm17 cd17 ct17 : Value} {od17 an17 : Option Addr} {sl17 : Array (Option Value)}
    (a17 : PySem.W.nsIn K mainGlobals "_law_is_begun" = some (some (.ref f__law_is_begun)))
    (l17 : K.lookup f__law_is_begun = some ⟨oc17, od17, .func (PySem.W.fnOf "_law_is_begun" "_law_is_begun" (defArgs s__law_is_begun) (defBody s__law_is_begun) (defScope s__law_is_begun) .none kV17 dc17 pm17 an17 cd17 ct17), sl17⟩)
    (k17 : PySem.W.codeIn K cd17 "_law_is_begun" = true) (e17 : PySem.W.keepIn K (.ref f__law_is_begun) = true)
    {oc18 kV18 dc18 pm18 cd18 ct18 : Value} {od18 an18 : Option Addr} {sl18 : Array (Option Value)}
    (a18 : PySem.W.nsIn K mainGlobals "_law_due" = some (some (.ref f__law_due)))
    (l18 : K.lookup f__law_due = some ⟨oc18, od18, .func (PySem.W.fnOf "_law_due" "_law_due" (defArgs s__law_due) (defBody s__law_due) (defScope s__law_due) .none kV18 dc18 pm18 an18 cd18 ct18), sl18⟩)
    (k18 : PySem.W.codeIn K cd18 "_law_due" = true) (e18 : PySem.W.keepIn K (.ref f__law_due) = true)
    {oc19 kV19 dc19 pm19 cd19 ct19 : Value} {od19 an19 : Option Addr} {sl19 : Array (Option Value)}
    (a19 : PySem.W.nsIn K mainGlobals "_law_bent_trace" = some (some (.ref f__law_bent_trace)))
    (l19 : K.lookup f__law_bent_trace = some ⟨oc19, od19, .func (PySem.W.fnOf "_law_bent_trace" "_law_bent_trace" (defArgs s__law_bent_trace) (defBody s__law_bent_trace) (defScope s__law_bent_trace) .none kV19 dc19 pm19 an19 cd19 ct19), sl19⟩)
    (k19 : PySem.W.codeIn K cd19 "_law_bent_trace" = true) (e19 : PySem.W.keepIn K (.ref f__law_bent_trace) = true)
    {oc20 kV20 dc20 pm20 cd20 ct20 : Value} {od20 an20 : Option Addr} {sl20 : Array (Option Value)}
    (a20 : PySem.W.nsIn K mainGlobals "_law_bent" = some (some (.ref f__law_bent)))
    (l20 : K.lookup f__law_bent = some ⟨oc20, od20, .func (PySem.W.fnOf "_law_bent" "_law_bent" (defArgs s__law_bent) (defBody s__law_bent) (defScope s__law_bent) .none kV20 dc20 pm20 an20 cd20 ct20), sl20⟩)
    (k20 : PySem.W.codeIn K cd20 "_law_bent" = true) (e20 : PySem.W.keepIn K (.ref f__law_bent) = true)
    {oc21 kV21 dc21 pm21 cd21 ct21 : Value} {od21 an21 : Option Addr} {sl21 : Array (Option Value)}
    (a21 : PySem.W.nsIn K mainGlobals "_law_is_told" = some (some (.ref f__law_is_told)))
    (l21 : K.lookup f__law_is_told = some ⟨oc21, od21, .func (PySem.W.fnOf "_law_is_told" "_law_is_told" (defArgs s__law_is_told) (defBody s__law_is_told) (defScope s__law_is_told) .none kV21 dc21 pm21 an21 cd21 ct21), sl21⟩)
    (k21 : PySem.W.codeIn K cd21 "_law_is_told" = true) (e21 : PySem.W.keepIn K (.ref f__law_is_told) = true)
    {oc22 kV22 dc22 pm22 cd22 ct22 : Value} {od22 an22 : Option Addr} {sl22 : Array (Option Value)}
    (a22 : PySem.W.nsIn K mainGlobals "_law_right" = some (some (.ref f__law_right)))
    (l22 : K.lookup f__law_right = some ⟨oc22, od22, .func (PySem.W.fnOf "_law_right" "_law_right" (defArgs s__law_right) (defBody s__law_right) (defScope s__law_right) .none kV22 dc22 pm22 an22 cd22 ct22), sl22⟩)
    (k22 : PySem.W.codeIn K cd22 "_law_right" = true) (e22 : PySem.W.keepIn K (.ref f__law_right) = true)
    {oc23 kV23 dc23 pm23 cd23 ct23 : Value} {od23 an23 : Option Addr} {sl23 : Array (Option Value)}
    (a23 : PySem.W.nsIn K mainGlobals "law" = some (some (.ref f_law)))
    (l23 : K.lookup f_law = some ⟨oc23, od23, .func (PySem.W.fnOf "law" "law" (defArgs s_law) (defBody s_law) (defScope s_law) .none kV23 dc23 pm23 an23 cd23 ct23), sl23⟩)
    (k23 : PySem.W.codeIn K cd23 "law" = true) (e23 : PySem.W.keepIn K (.ref f_law) = true)
    (g_Follower : PySem.W.nsIn K mainGlobals "Follower" = some (some (.ref c_Follower)))
    (pg_Follower : PySem.W.plainGet K c_Follower Str.empty = true) (hd_Follower : PySem.W.hasDictIn K c_Follower = true) (po_Follower : PySem.W.plainOver K c_Follower = true) (sa_Follower : PySem.W.findIn K (.ref c_Follower) "__setattr__" = some (some (.builtin "object.__setattr__"))) (mk_Follower : PySem.W.makesIn K c_Follower = true) (kc_Follower : PySem.W.keepIn K (.ref c_Follower) = true)
    (nf_Follower_own_position : PySem.W.findIn K (.ref c_Follower) "own_position" = some none)
    (nf_Follower_own_trace : PySem.W.findIn K (.ref c_Follower) "own_trace" = some none)
    (nf_Follower_many_read : PySem.W.findIn K (.ref c_Follower) "many_read" = some none)
    (z_abs : PySem.W.nsIn K mainGlobals "abs" = some none)
    (z_all : PySem.W.nsIn K mainGlobals "all" = some none)
    (z_enumerate : PySem.W.nsIn K mainGlobals "enumerate" = some none)
    (z_int : PySem.W.nsIn K mainGlobals "int" = some none)
    (z_isinstance : PySem.W.nsIn K mainGlobals "isinstance" = some none)
    (z_len : PySem.W.nsIn K mainGlobals "len" = some none)
    (z_list : PySem.W.nsIn K mainGlobals "list" = some none)
    (z_max : PySem.W.nsIn K mainGlobals "max" = some none)
    (z_min : PySem.W.nsIn K mainGlobals "min" = some none)
    (z_range : PySem.W.nsIn K mainGlobals "range" = some none)
    (z_repr : PySem.W.nsIn K mainGlobals "repr" = some none)
    (z_str : PySem.W.nsIn K mainGlobals "str" = some none)
    (z_sum : PySem.W.nsIn K mainGlobals "sum" = some none)
    (z_tuple : PySem.W.nsIn K mainGlobals "tuple" = some none)
    (z_zip : PySem.W.nsIn K mainGlobals "zip" = some none)
    {t_ABOVE : Tok} (c_ABOVE : PySem.W.nsIn K mainGlobals "ABOVE" = some (some (.str "above" t_ABOVE)))
    {t_BELOW : Tok} (c_BELOW : PySem.W.nsIn K mainGlobals "BELOW" = some (some (.str "below" t_BELOW)))
    {t_FEWEST : Tok} (c_FEWEST : PySem.W.nsIn K mainGlobals "FEWEST" = some (some (.int 2 t_FEWEST)))
    {t_LETTERS : Tok} (c_LETTERS : PySem.W.nsIn K mainGlobals "LETTERS" = some (some (.str "abcdefghijklmnopqrstuvwxyz" t_LETTERS))) :
    ∃ D : Ad, Txt K mg D ∧ D.f_law = f_law ∧ D.d_law = PySem.W.fnOf "law" "law" (defArgs s_law) (defBody s_law) (defScope s_law) .none kV23 dc23 pm23 an23 cd23 ct23 ∧ D.c_Follower = c_Follower :=
  ⟨{
    f_is_letter := f_is_letter, d_is_letter := PySem.W.fnOf "is_letter" "is_letter" (defArgs s_is_letter) (defBody s_is_letter) (defScope s_is_letter) .none kV0 dc0 pm0 an0 cd0 ct0,
    f_side_of := f_side_of, d_side_of := PySem.W.fnOf "side_of" "side_of" (defArgs s_side_of) (defBody s_side_of) (defScope s_side_of) .none kV1 dc1 pm1 an1 cd1 ct1,
    f_is_trace := f_is_trace, d_is_trace := PySem.W.fnOf "is_trace" "is_trace" (defArgs s_is_trace) (defBody s_is_trace) (defScope s_is_trace) .none kV2 dc2 pm2 an2 cd2 ct2,
    f_are_traces := f_are_traces, d_are_traces := PySem.W.fnOf "are_traces" "are_traces" (defArgs s_are_traces) (defBody s_are_traces) (defScope s_are_traces) .none kV3 dc3 pm3 an3 cd3 ct3,
    f_Follower_init := f_Follower_init, d_Follower_init := PySem.W.fnOf "__init__" "Follower.__init__" (defArgs s_Follower_init) (defBody s_Follower_init) (defScope s_Follower_init) .none kV4 dc4 pm4 an4 cd4 ct4,
    f_Follower_next_word := f_Follower_next_word, d_Follower_next_word := PySem.W.fnOf "next_word" "Follower.next_word" (defArgs s_Follower_next_word) (defBody s_Follower_next_word) (defScope s_Follower_next_word) .none kV5 dc5 pm5 an5 cd5 ct5,
    f_Follower_is_within := f_Follower_is_within, d_Follower_is_within := PySem.W.fnOf "is_within" "Follower.is_within" (defArgs s_Follower_is_within) (defBody s_Follower_is_within) (defScope s_Follower_is_within) .none kV6 dc6 pm6 an6 cd6 ct6,
    f_Follower_lets := f_Follower_lets, d_Follower_lets := PySem.W.fnOf "lets" "Follower.lets" (defArgs s_Follower_lets) (defBody s_Follower_lets) (defScope s_Follower_lets) .none kV7 dc7 pm7 an7 cd7 ct7,
    f_Follower_go_on := f_Follower_go_on, d_Follower_go_on := PySem.W.fnOf "go_on" "Follower.go_on" (defArgs s_Follower_go_on) (defBody s_Follower_go_on) (defScope s_Follower_go_on) .none kV8 dc8 pm8 an8 cd8 ct8,
    f_output_of := f_output_of, d_output_of := PySem.W.fnOf "output_of" "output_of" (defArgs s_output_of) (defBody s_output_of) (defScope s_output_of) .none kV9 dc9 pm9 an9 cd9 ct9,
    f__law_pot_of := f__law_pot_of, d__law_pot_of := PySem.W.fnOf "_law_pot_of" "_law_pot_of" (defArgs s__law_pot_of) (defBody s__law_pot_of) (defScope s__law_pot_of) .none kV10 dc10 pm10 an10 cd10 ct10,
    f__law_take := f__law_take, d__law_take := PySem.W.fnOf "_law_take" "_law_take" (defArgs s__law_take) (defBody s__law_take) (defScope s__law_take) .none kV11 dc11 pm11 an11 cd11 ct11,
    f__law_of := f__law_of, d__law_of := PySem.W.fnOf "_law_of" "_law_of" (defArgs s__law_of) (defBody s__law_of) (defScope s__law_of) .none kV12 dc12 pm12 an12 cd12 ct12,
    f__law_trace := f__law_trace, d__law_trace := PySem.W.fnOf "_law_trace" "_law_trace" (defArgs s__law_trace) (defBody s__law_trace) (defScope s__law_trace) .none kV13 dc13 pm13 an13 cd13 ct13,
    f__law_traces := f__law_traces, d__law_traces := PySem.W.fnOf "_law_traces" "_law_traces" (defArgs s__law_traces) (defBody s__law_traces) (defScope s__law_traces) .none kV14 dc14 pm14 an14 cd14 ct14,
    f__law_drawn_output := f__law_drawn_output, d__law_drawn_output := PySem.W.fnOf "_law_drawn_output" "_law_drawn_output" (defArgs s__law_drawn_output) (defBody s__law_drawn_output) (defScope s__law_drawn_output) .none kV15 dc15 pm15 an15 cd15 ct15,
    f__law_is_form := f__law_is_form, d__law_is_form := PySem.W.fnOf "_law_is_form" "_law_is_form" (defArgs s__law_is_form) (defBody s__law_is_form) (defScope s__law_is_form) .none kV16 dc16 pm16 an16 cd16 ct16,
    f__law_is_begun := f__law_is_begun, d__law_is_begun := PySem.W.fnOf "_law_is_begun" "_law_is_begun" (defArgs s__law_is_begun) (defBody s__law_is_begun) (defScope s__law_is_begun) .none kV17 dc17 pm17 an17 cd17 ct17,
    f__law_due := f__law_due, d__law_due := PySem.W.fnOf "_law_due" "_law_due" (defArgs s__law_due) (defBody s__law_due) (defScope s__law_due) .none kV18 dc18 pm18 an18 cd18 ct18,
    f__law_bent_trace := f__law_bent_trace, d__law_bent_trace := PySem.W.fnOf "_law_bent_trace" "_law_bent_trace" (defArgs s__law_bent_trace) (defBody s__law_bent_trace) (defScope s__law_bent_trace) .none kV19 dc19 pm19 an19 cd19 ct19,
    f__law_bent := f__law_bent, d__law_bent := PySem.W.fnOf "_law_bent" "_law_bent" (defArgs s__law_bent) (defBody s__law_bent) (defScope s__law_bent) .none kV20 dc20 pm20 an20 cd20 ct20,
    f__law_is_told := f__law_is_told, d__law_is_told := PySem.W.fnOf "_law_is_told" "_law_is_told" (defArgs s__law_is_told) (defBody s__law_is_told) (defScope s__law_is_told) .none kV21 dc21 pm21 an21 cd21 ct21,
    f__law_right := f__law_right, d__law_right := PySem.W.fnOf "_law_right" "_law_right" (defArgs s__law_right) (defBody s__law_right) (defScope s__law_right) .none kV22 dc22 pm22 an22 cd22 ct22,
    f_law := f_law, d_law := PySem.W.fnOf "law" "law" (defArgs s_law) (defBody s_law) (defScope s_law) .none kV23 dc23 pm23 an23 cd23 ct23,
    c_Follower := c_Follower },
   { f_is_letter := fun_mk (st := s_is_letter) l0 k0 e0,
     b_is_letter := (fun_mk (st := s_is_letter) l0 k0 e0).binds (ps := P_is_letter) fun _ _ _ _ _ _ us hl => match us, hl with | [_], _ => rfl,
     g_is_letter := PySem.W.mg_of X G a0,
     f_side_of := fun_mk (st := s_side_of) l1 k1 e1,
     b_side_of := (fun_mk (st := s_side_of) l1 k1 e1).binds (ps := P_side_of) fun _ _ _ _ _ _ us hl => match us, hl with | [_, _], _ => rfl,
     g_side_of := PySem.W.mg_of X G a1,
     f_is_trace := fun_mk (st := s_is_trace) l2 k2 e2,
     b_is_trace := (fun_mk (st := s_is_trace) l2 k2 e2).binds (ps := P_is_trace) fun _ _ _ _ _ _ us hl => match us, hl with | [_], _ => rfl,
     g_is_trace := PySem.W.mg_of X G a2,
     f_are_traces := fun_mk (st := s_are_traces) l3 k3 e3,
     b_are_traces := (fun_mk (st := s_are_traces) l3 k3 e3).binds (ps := P_are_traces) fun _ _ _ _ _ _ us hl => match us, hl with | [_], _ => rfl,
     g_are_traces := PySem.W.mg_of X G a3,
     f_Follower_init := fun_mk (st := s_Follower_init) l4 k4 e4,
     b_Follower_init := (fun_mk (st := s_Follower_init) l4 k4 e4).binds (ps := P_Follower_init) fun _ _ _ _ _ _ us hl => match us, hl with | [_, _, _], _ => rfl,
     mk_Follower := ⟨mk_Follower, a4, i4, kc_Follower⟩,
     f_Follower_next_word := fun_mk (st := s_Follower_next_word) l5 k5 e5,
     b_Follower_next_word := (fun_mk (st := s_Follower_next_word) l5 k5 e5).binds (ps := P_Follower_next_word) fun _ _ _ _ _ _ us hl => match us, hl with | [_], _ => rfl,
     m_Follower_next_word := ⟨a5, i5, e5⟩,
     f_Follower_is_within := fun_mk (st := s_Follower_is_within) l6 k6 e6,
     b_Follower_is_within := (fun_mk (st := s_Follower_is_within) l6 k6 e6).binds (ps := P_Follower_is_within) fun _ _ _ _ _ _ us hl => match us, hl with | [_, _], _ => rfl,
     m_Follower_is_within := ⟨a6, i6, e6⟩,
     f_Follower_lets := fun_mk (st := s_Follower_lets) l7 k7 e7,
     b_Follower_lets := (fun_mk (st := s_Follower_lets) l7 k7 e7).binds (ps := P_Follower_lets) fun _ _ _ _ _ _ us hl => match us, hl with | [_, _], _ => rfl,
     m_Follower_lets := ⟨a7, i7, e7⟩,
     f_Follower_go_on := fun_mk (st := s_Follower_go_on) l8 k8 e8,
     b_Follower_go_on := (fun_mk (st := s_Follower_go_on) l8 k8 e8).binds (ps := P_Follower_go_on) fun _ _ _ _ _ _ us hl => match us, hl with | [_, _], _ => rfl,
     m_Follower_go_on := ⟨a8, i8, e8⟩,
     f_output_of := fun_mk (st := s_output_of) l9 k9 e9,
     b_output_of := (fun_mk (st := s_output_of) l9 k9 e9).binds (ps := P_output_of) fun _ _ _ _ _ _ us hl => match us, hl with | [_], _ => rfl,
     g_output_of := PySem.W.mg_of X G a9,
     k_output_of := ⟨fun s us ws _ hl => match us, ws, hl with | [_], [], _ => .of_eq rfl | [], [_], _ => .of_eq rfl, fun a b => a.append b⟩,
     f__law_pot_of := fun_mk (st := s__law_pot_of) l10 k10 e10,
     b__law_pot_of := (fun_mk (st := s__law_pot_of) l10 k10 e10).binds (ps := P__law_pot_of) fun _ _ _ _ _ _ us hl => match us, hl with | [_, _], _ => rfl,
     g__law_pot_of := PySem.W.mg_of X G a10,
     f__law_take := fun_mk (st := s__law_take) l11 k11 e11,
     b__law_take := (fun_mk (st := s__law_take) l11 k11 e11).binds (ps := P__law_take) fun _ _ _ _ _ _ us hl => match us, hl with | [_, _], _ => rfl,
     g__law_take := PySem.W.mg_of X G a11,
     f__law_of := fun_mk (st := s__law_of) l12 k12 e12,
     b__law_of := (fun_mk (st := s__law_of) l12 k12 e12).binds (ps := P__law_of) fun _ _ _ _ _ _ us hl => match us, hl with | [_, _], _ => rfl,
     g__law_of := PySem.W.mg_of X G a12,
     f__law_trace := fun_mk (st := s__law_trace) l13 k13 e13,
     b__law_trace := (fun_mk (st := s__law_trace) l13 k13 e13).binds (ps := P__law_trace) fun _ _ _ _ _ _ us hl => match us, hl with | [_, _], _ => rfl,
     g__law_trace := PySem.W.mg_of X G a13,
     f__law_traces := fun_mk (st := s__law_traces) l14 k14 e14,
     b__law_traces := (fun_mk (st := s__law_traces) l14 k14 e14).binds (ps := P__law_traces) fun _ _ _ _ _ _ us hl => match us, hl with | [_, _], _ => rfl,
     g__law_traces := PySem.W.mg_of X G a14,
     f__law_drawn_output := fun_mk (st := s__law_drawn_output) l15 k15 e15,
     b__law_drawn_output := (fun_mk (st := s__law_drawn_output) l15 k15 e15).binds (ps := P__law_drawn_output) fun _ _ _ _ _ _ us hl => match us, hl with | [_, _], _ => rfl,
     g__law_drawn_output := PySem.W.mg_of X G a15,
     f__law_is_form := fun_mk (st := s__law_is_form) l16 k16 e16,
     b__law_is_form := (fun_mk (st := s__law_is_form) l16 k16 e16).binds (ps := P__law_is_form) fun _ _ _ _ _ _ us hl => match us, hl with | [_], _ => rfl,
     g__law_is_form := PySem.W.mg_of X G a16,
     f__law_is_begun := fun_mk (st := s__law_is_begun) l17 k17 e17,
     b__law_is_begun := (fun_mk (st := s__law_is_begun) l17 k17 e17).binds (ps := P__law_is_begun) fun _ _ _ _ _ _ us hl => match us, hl with | [_, _], _ => rfl,
     g__law_is_begun := PySem.W.mg_of X G a17,
     f__law_due := fun_mk (st := s__law_due) l18 k18 e18,
     b__law_due := (fun_mk (st := s__law_due) l18 k18 e18).binds (ps := P__law_due) fun _ _ _ _ _ _ us hl => match us, hl with | [_], _ => rfl,
     g__law_due := PySem.W.mg_of X G a18,
     f__law_bent_trace := fun_mk (st := s__law_bent_trace) l19 k19 e19,
     b__law_bent_trace := (fun_mk (st := s__law_bent_trace) l19 k19 e19).binds (ps := P__law_bent_trace) fun _ _ _ _ _ _ us hl => match us, hl with | [_, _], _ => rfl,
     g__law_bent_trace := PySem.W.mg_of X G a19,
     f__law_bent := fun_mk (st := s__law_bent) l20 k20 e20,
     b__law_bent := (fun_mk (st := s__law_bent) l20 k20 e20).binds (ps := P__law_bent) fun _ _ _ _ _ _ us hl => match us, hl with | [_, _], _ => rfl,
     g__law_bent := PySem.W.mg_of X G a20,
     f__law_is_told := fun_mk (st := s__law_is_told) l21 k21 e21,
     b__law_is_told := (fun_mk (st := s__law_is_told) l21 k21 e21).binds (ps := P__law_is_told) fun _ _ _ _ _ _ us hl => match us, hl with | [_], _ => rfl,
     g__law_is_told := PySem.W.mg_of X G a21,
     f__law_right := fun_mk (st := s__law_right) l22 k22 e22,
     b__law_right := (fun_mk (st := s__law_right) l22 k22 e22).binds (ps := P__law_right) fun _ _ _ _ _ _ us hl => match us, hl with | [_], _ => rfl,
     g__law_right := PySem.W.mg_of X G a22,
     f_law := fun_mk (st := s_law) l23 k23 e23,
     b_law := (fun_mk (st := s_law) l23 k23 e23).binds (ps := P_law) fun _ _ _ _ _ _ us hl => match us, hl with | [_], _ => rfl,
     g_law := PySem.W.mg_of X G a23,
     g_Follower := PySem.W.mg_of X G g_Follower,
     cl_Follower := ⟨pg_Follower, hd_Follower, po_Follower, sa_Follower⟩,
     n_Follower_own_position := nf_Follower_own_position,
     n_Follower_own_trace := nf_Follower_own_trace,
     n_Follower_many_read := nf_Follower_many_read,
     z_abs := PySem.W.mg_none_of X G z_abs,
     z_all := PySem.W.mg_none_of X G z_all,
     z_enumerate := PySem.W.mg_none_of X G z_enumerate,
     z_int := PySem.W.mg_none_of X G z_int,
     z_isinstance := PySem.W.mg_none_of X G z_isinstance,
     z_len := PySem.W.mg_none_of X G z_len,
     z_list := PySem.W.mg_none_of X G z_list,
     z_max := PySem.W.mg_none_of X G z_max,
     z_min := PySem.W.mg_none_of X G z_min,
     z_range := PySem.W.mg_none_of X G z_range,
     z_repr := PySem.W.mg_none_of X G z_repr,
     z_str := PySem.W.mg_none_of X G z_str,
     z_sum := PySem.W.mg_none_of X G z_sum,
     z_tuple := PySem.W.mg_none_of X G z_tuple,
     z_zip := PySem.W.mg_none_of X G z_zip,
     c_ABOVE := ⟨t_ABOVE, PySem.W.mg_of X G c_ABOVE⟩,
     c_BELOW := ⟨t_BELOW, PySem.W.mg_of X G c_BELOW⟩,
     c_FEWEST := ⟨t_FEWEST, PySem.W.mg_of X G c_FEWEST⟩,
     c_LETTERS := ⟨t_LETTERS, PySem.W.mg_of X G c_LETTERS⟩ }, rfl, rfl, rfl⟩
theorem fin_of {P : Program} {w : World} {K : PySem.W.Frag} {h : Heap} {mg : Str → Option Value} {fa f_law c_Follower : Addr} {fdl : FuncData} (X : K.In h) (G : h.Ns mainGlobals mg) (hfa : mg "law" = some (.ref fa))
    (A : ∃ D : Ad, Txt K mg D ∧ D.f_law = f_law ∧ D.d_law = fdl ∧ D.c_Follower = c_Follower)
    (hb : ∀ (s : Shared) (u : Value), BindsTo s fdl ⟨[u], []⟩ [("_law_script", u)]) :
    ∃ fd : FuncData, (∀ (s : Shared) (u : Value), BindsTo s fd ⟨[u], []⟩ [("_law_script", u)]) ∧ ∀ base : Heap, K.In base → base.Ns mainGlobals mg → FnOkG P w K mg base CX0 7 fa fd ["_law_script"] (sp_law K) := by
  obtain ⟨D, T, e1, e2, e3⟩ := A
  have e := hfa.symm.trans T.g_law
  cases e
  subst e1 e2 e3
  exact ⟨D.d_law, hb, fun base _ _ => ok_law T (k := 0)⟩
end K14
open PySem PySem.W PyProof.Rows
set_option maxRecDepth 100000 in
set_option maxHeartbeats 0 in
theorem PySem.Challenge.cw_fewgoings_k14_outputs_of_other_traces_holds : PySem.Challenge.rw_fewgoings_k14_outputs_of_other_traces.Holds := by
  w_on; o_law; k_head; (case hw => w_witness2)
  k_fill
  refine FG.walkGX (n := 63) (k := 7) (x := "_law_script") (sp := K14.sp_law) rfl (by decide) rfl ⟨rfl, by decide, by decide⟩ (fun w h Y => PySem.W.kIn_of Y) ?F ?S
  case F =>
    intro w mg fa h KX G XP hmg
    refine' K14.fin_of KX G hmg (K14.all_mk KX G ?a0 ?l0 ?k0 ?e0 ?a1 ?l1 ?k1 ?e1 ?a2 ?l2 ?k2 ?e2 ?a3 ?l3 ?k3 ?e3 ?a4 ?i4 ?l4 ?k4 ?e4 ?a5 ?i5 ?l5 ?k5 ?e5 ?a6 ?i6 ?l6 ?k6 ?e6 ?a7 ?i7 ?l7 ?k7 ?e7 ?a8 ?i8 ?l8 ?k8 ?e8 ?a9 ?l9 ?k9 ?e9 ?a10 ?l10 ?k10 ?e10 ?a11 ?l11 ?k11 ?e11 ?a12 ?l12 ?k12 ?e12 ?a13 ?l13 ?k13 ?e13 ?a14 ?l14 ?k14 ?e14 ?a15 ?l15 ?k15 ?e15 ?a16 ?l16 ?k16 ?e16 ?a17 ?l17 ?k17 ?e17 ?a18 ?l18 ?k18 ?e18 ?a19 ?l19 ?k19 ?e19 ?a20 ?l20 ?k20 ?e20 ?a21 ?l21 ?k21 ?e21 ?a22 ?l22 ?k22 ?e22 ?a23 ?l23 ?k23 ?e23 ?g_Follower ?pg_Follower ?hd_Follower ?po_Follower ?sa_Follower ?mk_Follower ?kc_Follower ?nf_Follower_own_position ?nf_Follower_own_trace ?nf_Follower_many_read ?z_abs ?z_all ?z_enumerate ?z_int ?z_isinstance ?z_len ?z_list ?z_max ?z_min ?z_range ?z_repr ?z_str ?z_sum ?z_tuple ?z_zip ?c_ABOVE ?c_BELOW ?c_FEWEST ?c_LETTERS) ?hb
    (case g_Follower => k_is); (case a0 => k_is); (case l0 => k_is); (case k0 => k_is); (case e0 => k_is); (case a1 => k_is); (case l1 => k_is); (case k1 => k_is); (case e1 => k_is); (case a2 => k_is); (case l2 => k_is); (case k2 => k_is); (case e2 => k_is); (case a3 => k_is); (case l3 => k_is); (case k3 => k_is); (case e3 => k_is); (case a4 => k_is); (case i4 => k_is); (case l4 => k_is); (case k4 => k_is); (case e4 => k_is); (case a5 => k_is); (case i5 => k_is); (case l5 => k_is); (case k5 => k_is); (case e5 => k_is); (case a6 => k_is); (case i6 => k_is); (case l6 => k_is); (case k6 => k_is); (case e6 => k_is); (case a7 => k_is); (case i7 => k_is); (case l7 => k_is); (case k7 => k_is); (case e7 => k_is); (case a8 => k_is); (case i8 => k_is); (case l8 => k_is); (case k8 => k_is); (case e8 => k_is); (case a9 => k_is); (case l9 => k_is); (case k9 => k_is); (case e9 => k_is); (case a10 => k_is); (case l10 => k_is); (case k10 => k_is); (case e10 => k_is); (case a11 => k_is); (case l11 => k_is); (case k11 => k_is); (case e11 => k_is); (case a12 => k_is); (case l12 => k_is); (case k12 => k_is); (case e12 => k_is); (case a13 => k_is); (case l13 => k_is); (case k13 => k_is); (case e13 => k_is); (case a14 => k_is); (case l14 => k_is); (case k14 => k_is); (case e14 => k_is); (case a15 => k_is); (case l15 => k_is); (case k15 => k_is); (case e15 => k_is); (case a16 => k_is); (case l16 => k_is); (case k16 => k_is); (case e16 => k_is); (case a17 => k_is); (case l17 => k_is); (case k17 => k_is); (case e17 => k_is); (case a18 => k_is); (case l18 => k_is); (case k18 => k_is); (case e18 => k_is); (case a19 => k_is); (case l19 => k_is); (case k19 => k_is); (case e19 => k_is); (case a20 => k_is); (case l20 => k_is); (case k20 => k_is); (case e20 => k_is); (case a21 => k_is); (case l21 => k_is); (case k21 => k_is); (case e21 => k_is); (case a22 => k_is); (case l22 => k_is); (case k22 => k_is); (case e22 => k_is); (case a23 => k_is); (case l23 => k_is); (case k23 => k_is); (case e23 => k_is); (case pg_Follower => k_is); (case hd_Follower => k_is); (case po_Follower => k_is); (case sa_Follower => k_is); (case mk_Follower => k_is); (case kc_Follower => k_is); (case nf_Follower_own_position => k_is); (case nf_Follower_own_trace => k_is); (case nf_Follower_many_read => k_is); (case z_abs => k_is); (case z_all => k_is); (case z_enumerate => k_is); (case z_int => k_is); (case z_isinstance => k_is); (case z_len => k_is); (case z_list => k_is); (case z_max => k_is); (case z_min => k_is); (case z_range => k_is); (case z_repr => k_is); (case z_str => k_is); (case z_sum => k_is); (case z_tuple => k_is); (case z_zip => k_is); (case c_ABOVE => k_is); (case c_BELOW => k_is); (case c_FEWEST => k_is); (case c_LETTERS => k_is)
    case hb => exact fun s u => .of_eq rfl
  case S =>
    intro w H a ns hl hO hS
    exact ⟨a, ns, rfl, hS, hl, fun _ => rfl⟩
