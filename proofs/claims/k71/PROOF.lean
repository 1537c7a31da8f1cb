import PyProof.Rows.All
import Wide.All
import OpenK.AllK
import Wide.FinOn
import HandS.ForMost
import HandS.Exc
import HandS.ExcInit
import HandS.ExcField
import HandS.ExcIs
import HandS.IsInst
import HandS.Wide
import HandS.WideBits
import HandS.TupMul
import HandS.TupAny
import HandS.Conv
import HandS.RaiseMore
import HandS.WordsExc
import KE.KExcSuper
import KE.KExcIs
import PySem.Challenge.RW_fewgoings_k71_far_texts_and_what_are_non
set_option Elab.async false
set_option linter.all false
set_option maxRecDepth 100000
set_option maxHeartbeats 4000000
/-! FG: a layer over HandS: defs that are called where no repr is under way -/
namespace FG
open PySem PySem.Spec PyProof.Rows L2

/-- a def's promise where no guard stands around the call -/
structure FnOkG (P : Program) (w : World) (K : PySem.W.Frag) (mg : Str → Option Value) (base : Heap)
    (CX : CXT) (k : Nat) (f : Addr) (fd : FuncData) (ps : List Str) (sp : Sp) : Prop where
  len : ∀ vs H Q E, sp vs H Q E → vs.length = ps.length
  run : ∀ (A : Around) (outer : List Env) (s : Shared) (H : Hp) (args : Args) (us : List Value) (vs : List V)
    (Q : VK) (E : XK), A.guards = some [] → Room k A → Env0 P w K mg base A outer s H →
    BindsTo s fd args (ps.zip us) → Vals vs us → sp vs H Q E →
    codeAny (model P w) A (.call (.ref f) args) (CR CX outer P w H s Q E) s

section
variable {P : Program} {w : World} {K : PySem.W.Frag} {mg : Str → Option Value} {base : Heap} {CX : CXT}
  {k j : Nat} {f : Addr} {fd : FuncData} {ps : List Str} {sp : Sp}
theorem FnOkG.of (F : FnOk P w K mg base CX k f fd ps sp) : FnOkG P w K mg base CX k f fd ps sp :=
  ⟨F.len, fun A o s H args us vs Q E _ => F.run A o s H args us vs Q E⟩
theorem FnOkG.mono (F : FnOkG P w K mg base CX j f fd ps sp) (h : j ≤ k) : FnOkG P w K mg base CX k f fd ps sp :=
  ⟨F.len, fun A o s H args us vs Q E g hr => F.run A o s H args us vs Q E g (hr.mono h)⟩

/-- the rule of a def by its body, as fn_of, with the guards told -/
theorem fnG_of {name qual : Str} {params : Arguments} {body : List Stmt} {scope : Scope}
    {dV kV doc pm cdv ct oc : Value} {an od : Option Addr} {osl : Array (Option Value)} {N : List Str}
    (lk : K.lookup f = some ⟨oc, od, .func (PySem.W.fnOf name qual params body scope dV kV doc pm an cdv ct), osl⟩)
    (hcd : PySem.W.codeIn K cdv qual = true) (S : FnScope N ps scope)
    (len : ∀ vs H Q E, sp vs H Q E → vs.length = ps.length)
    (hbody : ∀ (A : Around) (outer : List Env) (s : Shared) (H : Hp) (vs : List V) (Q : VK) (E : XK),
      A.guards = some [] → Room k (A.deeper (envOfC qual scope s.heap.objs.size f cdv)) → sp vs H Q E →
      ∃ t, PSs (cxOf CX P w K mg base N qual scope f cdv A outer s H E) body t ∧
        t { nx := fun _ H' => Q .non H', rt := Q } (start N vs) H) :
    FnOkG P w K mg base CX (k + 1) f (PySem.W.fnOf name qual params body scope dV kV doc pm an cdv ct) ps sp := by
  refine ⟨len, fun A outer s H args us vs Q E hgu hr e0 hb r hsp => ?_⟩
  have hl := len vs H Q E hsp
  have KX : K.In s.heap := e0.mod.kin.keeps fun b o e => (e0.bs b o e).1
  have lim : s.heap.NoLimit := e0.mod.nolimit.keeps fun b o e => (e0.bs b o e).1
  have hkind : ∀ y ∈ ps.zip us, scope.names.lookup y.1 = some .local ∨ (scope.names.lookup y.1 = some .cell ∧
      ((cellsFrom (s.heap.objs.size + 1) scope.names []).lookup y.1).isSome = true) := by
    rintro ⟨n, v⟩ hy
    rcases S.par n (List.of_mem_zip hy).1 with q | q
    · exact .inl q
    · exact .inr ⟨q, PySem.W.cellsFrom_some _ _ _ (.inl q)⟩
  refine codeAny_call_function hr.depth (KX _ _ lk) rfl S.co S.gen rfl (PySem.W.codeRec_of KX hcd) (hb _ _ _ _ ?_)
  refine wpAny_newFunctionEnv_cells S.kind hkind ?_
  rintro env rfl s1 x
  refine ⟨lim.keeps x.toInCall.keep, codeAny_func ?_⟩
  obtain ⟨t, ht, hq⟩ := hbody A outer s H vs Q E hgu (hr.deeper _) hsp
  have I : Inv (cxOf CX P w K mg base N qual scope f cdv A outer s H E) [] (start N vs) H s1 :=
    inv_start S hr.hd e0 hl r x
  refine wpAny_mono (ht.run [] s1 (start N vs) H _ I hq) ?_ (fun _ _ hs => hs)
  intro fl s' hs
  cases fl with
  | ret u =>
    obtain ⟨v, σ', H', J, rv, q⟩ := hs
    exact ⟨v, H', J.os, J.bare, J.base, J.hok, rv, q⟩
  | next =>
    obtain ⟨σ', H', J, q⟩ := hs
    exact ⟨V.non, H', J.os, J.bare, J.base, J.hok, rfl, q⟩
  | brk => exact False.elim hs.choose_spec.choose_spec.2
  | cont => exact False.elim hs.choose_spec.choose_spec.2

theorem okG {x qual : Str} {st : Stmt} {N : List Str} (F : Fun K x qual st f fd) (S : FnScope N ps (defScope st))
    (len : ∀ vs H Q E, sp vs H Q E → vs.length = ps.length)
    (hbody : ∀ (cdv : Value) (A : Around) (outer : List Env) (s : Shared) (H : Hp) (vs : List V) (Q : VK) (E : XK),
      A.guards = some [] → Room k (A.deeper (envOfC qual (defScope st) s.heap.objs.size f cdv)) → sp vs H Q E →
      ∃ t, PSs (cxOf CX0 P w K mg base N qual (defScope st) f cdv A outer s H E).nox (defBody st) t ∧
        t { nx := fun _ H' => Q .non H', rt := Q } (start N vs) H) : FnOkG P w K mg base CX0 (k + 1) f fd ps sp := by
  obtain ⟨oc, od, kV, doc, pm, an, cdv, ct, osl, rfl, lk, hcd⟩ := F.ex
  refine fnG_of lk hcd S len fun A outer s H vs Q E hgu hr hsp => ?_
  obtain ⟨t, h, q⟩ := hbody cdv A outer s H vs Q E hgu hr hsp
  exact ⟨t, h.nox, q⟩
end

section
variable {X : Cx} {CX : CXT} {k : Nat} {f C : Addr} {fd : FuncData} {ps : List Str} {sp : Sp} {dvs : List V}
  {ds : List Value} {E : XK} {x : Str} {p pos : Pos} {e : Expr} {es : List Expr} {t : TA}
/-- the callee runs, no guard around -/
theorem runG {pins : List (Addr × Obj)} {σ : L2.St} {H : Hp} {s : Shared} {Q : VK} {us : List Value} {vs : List V}
    (F : FnOkG X.prog X.w X.K X.mg X.base CX k f fd ps sp) (hgu : X.A.guards = some []) (hr : Room k X.A)
    (hb : Binds X.K fd ps ds) (hd : Vals dvs ds) (hx : Passes CX X E) (I : Inv X pins σ H s) (r : Vals vs us)
    (h : sp (vs ++ dvs) H Q E) : wpAny (model X.prog X.w) X.A (call (.ref f) us) (EP X pins σ Q) X.xe s := by
  have r2 : Vals (vs ++ dvs) (us ++ ds) := r.append hd
  have hl : (us ++ ds).length = ps.length := by rw [← r2.length]; exact F.len _ _ _ _ h
  have run := F.run X.A X.stack s H ⟨us, []⟩ (us ++ ds) (vs ++ dvs) Q E hgu hr I.env0 (hb s us I.kIn hl) r2 h
  refine wpAny_call (codeAny_mono run ?_)
  intro r s' hq
  cases r with
  | error e => exact hx pins σ H s e s' I hq
  | ok fl =>
    cases fl with
    | ret u => exact I.after hq
    | _ => exact False.elim hq
theorem pe_callG (F : FnOkG X.prog X.w X.K X.mg X.base CX k f fd ps sp) (hgu : X.A.guards = some [])
    (hr : Room k X.A) (hg : Gl X x) (hm : X.mg x = some (.ref f)) (hk : PySem.W.keepIn X.K (.ref f) = true)
    (hb : Binds X.K fd ps ds) (hd : Vals dvs ds) (hx : Passes CX X E) (ha : PA X (e :: es) t)
    (hdb : (x == ("__debug__" : Str)) = false := by decide)
    (he : starEach (e :: es) X.env = (false, eval e X.env) :: starEach es X.env := by rfl)
    (hpl : (backTo pos (starEach es X.env)).any (·.1) = false := by rfl) :
    PE X (.Call (.Name x p) (e :: es) [] pos) (tCall sp dvs E t) := by
  refine ⟨fun pins s σ H Q I h => wpAny_Call_Name_kw (ld_glob I hg hm ?_ hdb)⟩
  refine PySem.W.callWith_K (h₀ := X.base) I.ok.mod.kin hk (thn (ha.run pos pins s σ H _ I h) ?_) he hpl
  rintro us s1 ⟨vs, H1, I1, r, q⟩
  exact ⟨I1.kIn, runG F hgu hr hb hd hx I1 r q⟩
end

/-! ### the law's end -/
/-- the head, as law_call, for a promise under no guard -/
theorem lawG {P : Program} {w : World} {K : PySem.W.Frag} {mg mb : Str → Option Value} {k : Nat}
    {fa a : Addr} {fd : FuncData} {x : Str} {sp : Sp} {s₁ : Shared} {vs : List Value} {ns : List Int}
    (KX : K.In s₁.heap) (hns : s₁.heap.Ns mainGlobals mg) (hb : s₁.heap.Ns builtinsNs mb)
    (hbb : ∀ x : Str, x ≠ "__name__" → mb x = bootBuiltins x) (hlim : s₁.heap.NoLimit) (hg : s₁.gens = #[])
    (ha : s₁.heap.get? a = some { cls := .type "list", data := .seq vs.toArray }) (hi : IntsAre vs ns)
    (hl : ns.length ≤ sizeLine) (hr : Room k callerA)
    (F : ∀ base : Heap, K.In base → base.Ns mainGlobals mg → FnOkG P w K mg base CX0 k fa fd [x] sp)
    (hbind : ∀ (s : Shared) (u : Value), BindsTo s fd ⟨[u], []⟩ [(x, u)])
    (hsp : ∀ H : Hp, Only H → SqL K H a (ns.map V.int) → sp [.ref a] H (fun v _ => v = .bl true) fun _ _ _ => False) :
    codeAny (model P w) callerA (.call (.ref fa) ⟨[.ref a], []⟩)
      (fun r s' => r = .ok (.ret (.bool true)) ∧ OldK s₁.heap s'.heap ∧ s'.os = s₁.os ∧ AllBare s'.gens) s₁ := by
  have rv := vals_ints hi
  have lenV := hi.length
  have core : ∀ H : Hp, Only H → SqL K H a (ns.map V.int) → HOk P w H s₁.heap → (∀ b, H b ≠ none → b = a) →
      (H a ≠ none → K.lookup a = none) → codeAny (model P w) callerA (.call (.ref fa) ⟨[.ref a], []⟩)
      (fun r s' => r = .ok (.ret (.bool true)) ∧ OldK s₁.heap s'.heap ∧ s'.os = s₁.os ∧ AllBare s'.gens) s₁ := by
    intro H hO hS hok hA hK
    have noA : ∀ {b : Addr} {o : Obj} {es : Array DictEntry} {ep : Nat},
        s₁.heap.get? b = some o → o.data = .dict es ep → H b = none := by
      intro b o es ep e d
      cases q : H b with
      | none => rfl
      | some u =>
        obtain rfl : b = a := hA b (by rw [q]; simp)
        rw [ha] at e; cases e
        cases (show Data.seq vs.toArray _ = Data.dict es ep from d)
    have nsK : ∀ {b : Addr} {m : Str → Option Value}, s₁.heap.Ns b m → (hidT s₁.heap H).Ns b m := by
      rintro b m ⟨o, es, ep, e, d, r⟩
      exact ⟨o, es, ep, hidT_get e (noA e d), d, r⟩
    have hKb : K.In (hidT s₁.heap H) := by
      intro b o e
      refine hidT_get (KX b o e) ?_
      cases q : H b with
      | none => rfl
      | some u =>
        obtain rfl : b = a := hA b (by rw [q]; simp)
        rw [hK (by rw [q]; simp)] at e; cases e
    have hM : Mod K mg (hidT s₁.heap H) := by
      refine ⟨hKb, nsK hns, ⟨mb, nsK hb, hbb⟩, ?_⟩
      obtain ⟨mc, h1, h2⟩ := hlim
      exact ⟨mc, nsK h1, h2⟩
    have e0 : Env0 P w K mg (hidT s₁.heap H) callerA [] s₁ H :=
      { frames := rfl, mod := hM, bs := fun b o e => of_hidT e, bsz := Nat.le_of_eq (hidT_size _ _), funs := trivial,
        frf := fun b hb => absurd (show b ∈ ([] : List Addr) from hb) (by simp), hok := hok, bare := .of_eq hg }
    have run := (F _ hKb (nsK hns)).run callerA [] s₁ H ⟨[.ref a], []⟩ [.ref a] [.ref a] (fun v _ => v = .bl true)
      (fun _ _ _ => False) rfl hr e0 (hbind s₁ (.ref a)) (.cons rfl .nil) (hsp H hO hS)
    refine codeAny_mono run ?_
    intro r s' h
    cases r with
    | error e => exact False.elim h
    | ok fl =>
      cases fl with
      | ret u =>
        obtain ⟨v, H', os, bare, un, hok', r', q⟩ := h
        obtain rfl : v = .bl true := q
        obtain rfl : u = Value.bool true := r'
        refine ⟨rfl, OldK.of_keep fun b o e => ?_, os, bare⟩
        cases q : H b with
        | none => exact un.keep b o e q (by intro z; exact absurd (show b ∈ ([] : List Addr) from z) (by simp)) (by simp)
        | some u =>
          rcases hO b with z | ⟨ob, xs, z⟩
          · rw [q] at z; cases z
          · obtain ⟨e1, _⟩ := hok b _ z
            obtain ⟨e2, _⟩ := hok' b _ (un.frzs b ob _ z)
            rw [e] at e1; cases e1
            exact e2
      | _ => exact False.elim h
  cases hk : K.lookup a with
  | some o =>
    have e := KX a o hk
    rw [ha] at e
    cases e
    refine core (fun _ => none) (fun _ => .inl rfl) (.inr ⟨_, vs.toArray, _, hk, rfl, rfl, rfl, ?_, by simpa using rv⟩) ?_ ?_ ?_
    · rw [List.size_toArray, lenV]; exact hl
    · intro b u z; cases (show (none : Option HO) = some u from z)
    · intro b z; exact absurd rfl z
    · intro z; exact absurd rfl z
  | none =>
    let ob : Obj := { cls := .type "list", data := .seq vs.toArray }
    refine core (fun b => if b = a then some (.frz ob (.lst (ns.map V.int))) else none) ?_ (.inl (.inr ⟨ob, if_pos rfl⟩)) ?_ ?_ ?_
    · intro b
      by_cases hb : b = a
      · exact .inr ⟨_, _, if_pos hb⟩
      · exact .inl (if_neg hb)
    · intro b u z
      by_cases hb : b = a
      · cases (if_pos hb).symm.trans z
        subst hb
        exact ⟨ha, by rw [List.length_map]; exact hl, vs, _, rv, ha⟩
      · cases (if_neg hb).symm.trans z
    · intro b z
      by_cases hb : b = a
      · exact hb
      · exact absurd (if_neg hb) z
    · intro _; exact hk

/-- the goal of k_head, from a promise under no guard -/
theorem walkG {l : PySem.W.OpenLaw} {n k : Nat} {q : Program} {loose : List Str}
    {XP : (Str → Option Value) → Heap → Prop} {YP : World → Heap → Prop} {d : DefRec} {K : Params → PySem.W.Frag}
    {sp : World → Sp} {x : Str} (hn : l.most = some n) (hn2 : n ≤ sizeLine) (hdf : d.params.defaults = [])
    (hr : Room k callerA) (hY : ∀ (w : World) (h : Heap), YP w h → (K w.params).In h)
    (F : ∀ (w : World) (mg : Str → Option Value) (fa : Addr) (h : Heap), (K w.params).In h → h.Ns mainGlobals mg →
      mg d.name = some (.ref fa) → ∃ fd : FuncData, (∀ (s : Shared) (u : Value), BindsTo s fd ⟨[u], []⟩ [(x, u)]) ∧
        ∀ base : Heap, (K w.params).In base → base.Ns mainGlobals mg →
          FnOkG l.prog w (K w.params) mg base CX0 k fa fd [x] (sp w))
    (hsp : ∀ (w : World) (H : Hp) (a : Addr) (ns : List Int), ns.length ≤ n → Only H →
      SqL (K w.params) H a (ns.map V.int) → sp w [.ref a] H (fun v _ => v = .bl true) fun _ _ _ => False) :
    PySem.W.WalkO q loose XP YP l.row.toRowW d [] (fun f vs => PySem.call f vs) := by
  refine Att.attach_call hn hdf ?_
  intro w s₀ s₁ mg mb fa o pm cd doc a vs ns G Y ho hd hcd hmg hobj hints hlen hg
  have KX := hY w _ Y
  obtain ⟨fd, hb, hF⟩ := F w mg fa _ KX G.T.g hmg
  exact lawG KX G.T.g G.T.b G.T.builtins G.T.nolimit hg hobj hints (Nat.le_trans hlen hn2) hr hF hb
    (fun H hO hS => hsp w H a ns hlen hO hS)
end FG

/-! FG: data of any depth, repr -/
namespace FG
open PySem PySem.Spec PyProof.Rows L2

def keyD : Key → PyData
  | .inl i => .int i
  | .inr x => .str x
/-- a list, a tuple that is read, and stays while the places of M may change -/
def SqLm (K : PySem.W.Frag) (M : Addr → Prop) (H : Hp) (a : Addr) (xs : List V) : Prop := (¬ M a ∧ Rd H a (.lst xs)) ∨ SqL K (fun _ => none) a xs
def SqTm (K : PySem.W.Frag) (M : Addr → Prop) (H : Hp) (a : Addr) (xs : List V) : Prop := (¬ M a ∧ Rd H a (.tup xs)) ∨ SqT K (fun _ => none) a xs
theorem SqLm.l {K : PySem.W.Frag} {M : Addr → Prop} {H : Hp} {a : Addr} {xs : List V} (h : SqLm K M H a xs) : SqL K H a xs := by
  rcases h with ⟨_, h⟩ | h
  · exact .inl h
  · rcases h with (h | ⟨o, h⟩) | h
    · cases h
    · cases h
    · exact .inr h
theorem SqTm.t {K : PySem.W.Frag} {M : Addr → Prop} {H : Hp} {a : Addr} {xs : List V} (h : SqTm K M H a xs) : SqT K H a xs := by
  rcases h with ⟨_, h⟩ | h
  · exact .inl h
  · rcases h with (h | ⟨o, h⟩) | h
    · cases h
    · cases h
    · exact .inr h
theorem SqTm.of {K : PySem.W.Frag} {M : Addr → Prop} {H : Hp} {a : Addr} {xs : List V} (n : ¬ M a) (h : SqT K H a xs) : SqTm K M H a xs := by
  rcases h with h | h
  · exact .inl ⟨n, h⟩
  · exact .inr (.inr h)
theorem SqLm.of {K : PySem.W.Frag} {M : Addr → Prop} {H : Hp} {a : Addr} {xs : List V} (n : ¬ M a) (h : SqL K H a xs) : SqLm K M H a xs := by
  rcases h with h | h
  · exact .inl ⟨n, h⟩
  · exact .inr (.inr h)
mutual
inductive Dq (K : PySem.W.Frag) (M : Addr → Prop) (H : Hp) : V → PyData → Prop
  | non : Dq K M H .non .none
  | bl (b : Bool) : Dq K M H (.bl b) (.bool b)
  | int (i : Int) : Dq K M H (.int i) (.int i)
  | str (x : Str) : Dq K M H (.str x) (.str x)
  | lst {a : Addr} {xs : List V} {ds : List PyData}  : SqLm K M H a xs → DqAll K M H xs ds → Dq K M H (.ref a) (.list ds)
  | tup {a : Addr} {xs : List V} {ds : List PyData}  : SqTm K M H a xs → DqAll K M H xs ds → Dq K M H (.ref a) (.tuple ds)
  | dct {a : Addr} {kvs : List (Key × V)} {ds : List PyData}  : ¬ M a → H a = some (.dK kvs) → DqAll K M H (kvs.map (·.2)) ds →
      Dq K M H (.ref a) (.dict ((kvs.map fun p => keyD p.1).zip ds))
inductive DqAll (K : PySem.W.Frag) (M : Addr → Prop) (H : Hp) : List V → List PyData → Prop
  | nil : DqAll K M H [] []
  | cons {v : V} {vs : List V} {d : PyData} {ds : List PyData} : Dq K M H v d → DqAll K M H vs ds → DqAll K M H (v :: vs) (d :: ds)
end

theorem same_t {K : PySem.W.Frag} {H H' : Hp} {a : Addr} {xs : List V} (e : Same H H') (h : SqT K H a xs) : SqT K H' a xs := by
  rcases h with (h | ⟨o, h⟩) | h
  · exact .inl (.inl (e _ _ h))
  · exact .inl (.inr ⟨o, e _ _ h⟩)
  · exact .inr h
theorem same_upd {H : Hp} {p : Addr} {o : HO} (h : H p = none) : Same H (upd H p o) := fun b x e => by
  rw [upd_ne (ne_of_none e h)]
  exact e
theorem same_put {H H' : Hp} {p : Addr} {o : HO} (s : Same H H') (h : H p = none) : Same H (upd H' p o) := fun b x e => by
  rw [upd_ne (ne_of_none e h)]
  exact s b x e
/-- all that was tracked is as it was, but for the places of M -/
def SameM (M : Addr → Prop) (H H' : Hp) : Prop := ∀ b o, ¬ M b → H b = some o → H' b = some o
theorem SameM.refl (M : Addr → Prop) (H : Hp) : SameM M H H := fun _ _ _ h => h
theorem SameM.trans {M : Addr → Prop} {H H1 H2 : Hp} (a : SameM M H H1) (b : SameM M H1 H2) : SameM M H H2 := fun c o n h => b c o n (a c o n h)
theorem SameM.of {M : Addr → Prop} {H H' : Hp} (s : Same H H') : SameM M H H' := fun b o _ h => s b o h
theorem SameM.upd {M : Addr → Prop} {H : Hp} {p : Addr} {o : HO} (h : M p) : SameM M H (upd H p o) := fun b x n e => by
  rw [upd_ne]
  · exact e
  · rintro rfl; exact n h
section
variable {K : PySem.W.Frag} {M : Addr → Prop} {H H' : Hp}
theorem SameM.rd {a : Addr} {u : HO} (s : SameM M H H') (n : ¬ M a) (h : Rd H a u) : Rd H' a u := by
  rcases h with h | ⟨o, h⟩
  · exact .inl (s _ _ n h)
  · exact .inr ⟨o, s _ _ n h⟩
theorem SameM.l {a : Addr} {xs : List V} (s : SameM M H H') (h : SqLm K M H a xs) : SqLm K M H' a xs := by
  rcases h with ⟨n, h⟩ | h
  · exact .inl ⟨n, s.rd n h⟩
  · exact .inr h
theorem SameM.t {a : Addr} {xs : List V} (s : SameM M H H') (h : SqTm K M H a xs) : SqTm K M H' a xs := by
  rcases h with ⟨n, h⟩ | h
  · exact .inl ⟨n, s.rd n h⟩
  · exact .inr h
mutual
theorem Dq.mono (s : SameM M H H') : ∀ {v : V} {d : PyData}, Dq K M H v d → Dq K M H' v d
  | _, _, .non => .non
  | _, _, .bl b => .bl b
  | _, _, .int i => .int i
  | _, _, .str x => .str x
  | _, _, .lst h a => .lst (s.l h) (DqAll.mono s a)
  | _, _, .tup h a => .tup (s.t h) (DqAll.mono s a)
  | _, _, .dct n h a => .dct n (s _ _ n h) (DqAll.mono s a)
theorem DqAll.mono (s : SameM M H H') : ∀ {vs : List V} {ds : List PyData}, DqAll K M H vs ds → DqAll K M H' vs ds
  | _, _, .nil => .nil
  | _, _, .cons h a => .cons (Dq.mono s h) (DqAll.mono s a)
end
/-! places where nothing was tracked may change, too -/
mutual
theorem Dq.avoid {N : Addr → Prop} (f : ∀ a, N a → M a ∨ H a = none) : ∀ {v : V} {d : PyData}, Dq K M H v d → Dq K N H v d
  | _, _, .non => .non
  | _, _, .bl b => .bl b
  | _, _, .int i => .int i
  | _, _, .str x => .str x
  | _, _, .lst h a => .lst (by
      rcases h with ⟨n, h⟩ | h
      · refine .inl ⟨fun z => ?_, h⟩
        rcases f _ z with y | y
        · exact n y
        · rcases h with h | ⟨o, h⟩
          · rw [y] at h; cases h
          · rw [y] at h; cases h
      · exact .inr h) (DqAll.avoid f a)
  | _, _, .tup h a => .tup (by
      rcases h with ⟨n, h⟩ | h
      · refine .inl ⟨fun z => ?_, h⟩
        rcases f _ z with y | y
        · exact n y
        · rcases h with h | ⟨o, h⟩
          · rw [y] at h; cases h
          · rw [y] at h; cases h
      · exact .inr h) (DqAll.avoid f a)
  | _, _, .dct n h a => .dct (fun z => by
      rcases f _ z with y | y
      · exact n y
      · rw [y] at h; cases h) h (DqAll.avoid f a)
theorem DqAll.avoid {N : Addr → Prop} (f : ∀ a, N a → M a ∨ H a = none) : ∀ {vs : List V} {ds : List PyData}, DqAll K M H vs ds → DqAll K N H vs ds
  | _, _, .nil => .nil
  | _, _, .cons h a => .cons (Dq.avoid f h) (DqAll.avoid f a)
end
theorem DqAll.length : ∀ {vs : List V} {ds : List PyData}, DqAll K M H vs ds → vs.length = ds.length
  | _, _, .nil => rfl
  | _, _, .cons _ a => by
    rw [List.length_cons, List.length_cons, DqAll.length a]
theorem DqAll.get : ∀ {vs : List V} {ds : List PyData} {i : Nat} {v : V}, DqAll K M H vs ds → vs[i]? = some v → ∃ d, ds[i]? = some d ∧ Dq K M H v d
  | _, _, _, _, .nil, e => by simp at e
  | _, _, 0, _, .cons h _, e => by simp at e; subst e; exact ⟨_, rfl, h⟩
  | _, _, i + 1, v, .cons _ a, e => by
    obtain ⟨d, h1, h2⟩ := DqAll.get (i := i) a (by simpa using e)
    exact ⟨d, by simpa using h1, h2⟩
theorem DqAll.append : ∀ {vs ws : List V} {ds es : List PyData}, DqAll K M H vs ds → DqAll K M H ws es → DqAll K M H (vs ++ ws) (ds ++ es)
  | _, _, _, _, .nil, b => b
  | _, _, _, _, .cons h a, b => .cons h (DqAll.append a b)
theorem DqAll.take : ∀ {vs : List V} {ds : List PyData} (n : Nat), DqAll K M H vs ds → DqAll K M H (vs.take n) (ds.take n)
  | _, _, 0, _ => .nil
  | _, _, _ + 1, .nil => .nil
  | _, _, n + 1, .cons h a => .cons h (DqAll.take n a)
theorem DqAll.drop : ∀ {vs : List V} {ds : List PyData} (n : Nat), DqAll K M H vs ds → DqAll K M H (vs.drop n) (ds.drop n)
  | _, _, 0, a => a
  | _, _, _ + 1, .nil => .nil
  | _, _, n + 1, .cons _ a => DqAll.drop n a
end

mutual
def noList : PyData → Bool
  | .none | .bool _ | .int _ | .str _ => true
  | .list _ => false
  | .tuple xs => noListAll xs
  | .dict kvs => noListKv kvs
def noListAll : List PyData → Bool
  | [] => true
  | x :: xs => noList x && noListAll xs
def noListKv : List (PyData × PyData) → Bool
  | [] => true
  | (k, v) :: r => noList k && noList v && noListKv r
end
theorem noListKv_vals : ∀ (ks : List PyData) (ds : List PyData), ks.length = ds.length → noListKv (ks.zip ds) = true → noListAll ds = true
  | [], [], _, _ => rfl
  | k :: ks, d :: ds, hl, h => by
    rw [List.zip_cons_cons] at h
    simp only [noListKv, Bool.and_eq_true] at h
    simp only [noListAll, Bool.and_eq_true]
    exact ⟨h.1.2, noListKv_vals ks ds (by simpa using hl) h.2⟩

section
variable {X : Cx} {pins : List (Addr × Obj)} {σ : L2.St} {M : Addr → Prop} {H : Hp} {s : Shared}
theorem pairs_keys {P : Program} {w : World} {h : Heap} : ∀ {es : List DictEntry} {kvs : List (Key × Value)}, Pairs (mixKind P w) es kvs →
    ReadsAll h (es.map (·.key)) (kvs.map fun p => keyD p.1) [] ∧ es.map (·.val) = kvs.map (·.2) := by
  intro es
  induction es with
  | nil =>
    intro kvs h
    cases h
    exact ⟨.nil, rfl⟩
  | cons e es ih =>
    intro kvs h
    cases h with
    | cons k1 k2 h2 =>
      rename_i p kvs
      obtain ⟨r1, r2⟩ := ih h2
      refine ⟨?_, ?_⟩
      · show ReadsAll _ (e.key :: es.map (·.key)) (keyD p.1 :: _) ([] ++ [])
        refine .cons ?_ r1
        rcases keyIs_shape k1 with ⟨i, t, e1, e2⟩ | ⟨x, t, e1, e2⟩
        · rw [e1, e2]; exact .int i t
        · rw [e1, e2]; exact .str x t
      · rw [List.map_cons, List.map_cons, r2, k2]
theorem kv_vals {κ : Type} : ∀ {kvs : List (κ × V)} {vs : List (κ × Value)}, KV kvs vs → Vals (kvs.map (·.2)) (vs.map (·.2)) ∧ kvs.map (·.1) = vs.map (·.1)
  | _, _, .nil => ⟨.nil, rfl⟩
  | _, _, .cons r t => by
    obtain ⟨a, b⟩ := kv_vals t
    exact ⟨.cons r.2 a, by rw [List.map_cons, List.map_cons, b, r.1]⟩
mutual
theorem Dq.reads (I : Inv X pins σ H s) : ∀ {v : V} {d : PyData}, Dq X.K M H v d → ∀ u : Value, RelV v u →
    ∃ as, Reads s.heap u d as ∧ (noList d = true → sysModules ∉ as)
  | _, _, .non, _, r => by
    cases r
    exact ⟨_, Reads.none, fun _ => by simp⟩
  | _, _, .bl b, _, r => by
    cases r
    exact ⟨_, Reads.bool b, fun _ => by simp⟩
  | _, _, .int i, _, r => by
    obtain ⟨t, rfl⟩ := r
    exact ⟨_, Reads.int i t, fun _ => by simp⟩
  | _, _, .str x, _, r => by
    obtain ⟨t, rfl⟩ := r
    exact ⟨_, Reads.str x t, fun _ => by simp⟩
  | _, _, .lst hs ha, _, r => by
    cases r
    obtain ⟨its, rv, ⟨o, n, ho, hc, _, hd⟩, _⟩ := I.list hs.l
    obtain ⟨as, hr, _⟩ := DqAll.reads I ha its rv
    exact ⟨_, Reads.list ho hc hd hr, fun z => by simp [noList] at z⟩
  | _, _, .tup hs ha, _, r => by
    cases r
    obtain ⟨its, rv, ⟨o, ho, hc, n, hd⟩, _⟩ := I.tuple hs.t
    obtain ⟨as, hr, hn⟩ := DqAll.reads I ha its rv
    exact ⟨_, Reads.tuple ho hc hd hr, fun z => hn (by simpa [noList] using z)⟩
  | _, _, @Dq.dct _ _ _ a kvs ds _ hs ha, _, r => by
    cases r
    obtain ⟨_, hsys, vs, kv, o, es, ep, ho, hex, hd, _, hp, _⟩ := I.hok a _ hs
    obtain ⟨r1, r2⟩ := pairs_keys (h := s.heap) hp
    obtain ⟨rv, ek⟩ := kv_vals kv
    have hl := DqAll.length ha
    rw [List.length_map] at hl
    have hl2 : (kvs.map fun p => keyD p.1).length = ds.length := by rw [List.length_map]; exact hl
    obtain ⟨bs, q1, q2⟩ := DqAll.reads I ha (vs.map (·.2)) rv
    have ek2 : (kvs.map fun p => keyD p.1) = vs.map fun p => keyD p.1 := by
      have e := congrArg (List.map keyD) ek
      rw [List.map_map, List.map_map] at e
      exact e
    refine ⟨_, Reads.dict ho hex.1 hd (as := []) (bs := bs) ?_ ?_, fun z => ?_⟩
    · rw [List.map_fst_zip (by omega), ek2]; exact r1
    · rw [List.map_snd_zip (by omega), r2]; exact q1
    · have zz := q2 (noListKv_vals _ _ hl2 (by simpa [noList] using z))
      intro hm
      rcases List.mem_append.mp hm with y | y
      · obtain rfl : sysModules = a := by simpa using y
        simp at hsys
      · exact zz y
theorem DqAll.reads (I : Inv X pins σ H s) : ∀ {vs : List V} {ds : List PyData}, DqAll X.K M H vs ds → ∀ us : List Value, Vals vs us →
    ∃ as, ReadsAll s.heap us ds as ∧ (noListAll ds = true → sysModules ∉ as)
  | _, _, .nil, _, r => by
    cases r
    exact ⟨_, ReadsAll.nil, fun _ => by simp⟩
  | _, _, .cons h1 h2, _, r => by
    cases r with
    | cons r1 r2 =>
      obtain ⟨as, q1, n1⟩ := Dq.reads I h1 _ r1
      obtain ⟨bs, q2, n2⟩ := DqAll.reads I h2 _ r2
      refine ⟨_, ReadsAll.cons q1 q2, fun z => ?_⟩
      simp only [noListAll, Bool.and_eq_true] at z
      intro hm
      rcases List.mem_append.mp hm with y | y
      · exact n1 z.1 y
      · exact n2 z.2 y
end
end

/-! ### repr -/
structure Show (d : PyData) : Prop where
  ok : d.showable = true
  dp : d.depth ≤ 60
  sz : d.shown.length ≤ sizeLine
  nl : d.hasDict = true → noList d = true
def rRepr (K : PySem.W.Frag) : List V → Hp → VK → Prop := fun xs H Q => ∃ (M : Addr → Prop) (x : V) (d : PyData), xs = [x] ∧ Dq K M H x d ∧ Show d ∧ Q (.str d.shown) H
theorem call_reprG {X : Cx} {k : Nat} (hg : X.A.guards = some []) (hr : Room k X.A) : CallR X (.builtin "repr") (rRepr X.K) := by
  intro pins s σ H xs us Q I r h
  obtain ⟨M, x, d, rfl, hd, hs, q⟩ := h
  obtain ⟨u, rfl, ru⟩ := vals1 r
  have hz := hs.sz
  have hok := hs.ok
  have fin : ∀ (a : Addr), u = .ref a → wpAny (model X.prog X.w) X.A (call (.builtin "repr") [u]) (EP X pins σ Q) X.xe s := by
    rintro a rfl
    obtain ⟨as, rd, hn⟩ := Dq.reads I hd _ ru
    refine repr_of_reads' rd hok (fun z => hn (hs.nl z)) hg ?_ (fun _ _ e => e) (fun h' t tk hk => ?_) hz
    · have := hr.un
      have := hs.dp
      omega
    · exact ⟨.str _, H, I.kept hk, ⟨_, rfl⟩, q⟩
  cases hd with
  | non =>
    cases ru
    exact PySem.P.repr_of_none ⟨.str _, H, I.tok _, ⟨_, rfl⟩, q⟩
  | bl b =>
    cases ru
    refine PySem.P.repr_of_bool ⟨.str _, H, I.tok _, ⟨_, rfl⟩, ?_⟩
    simp only [PyData.shown] at q
    exact q
  | int i =>
    obtain ⟨t, rfl⟩ := ru
    refine PySem.P.repr_of_int (by simpa [PyData.showable] using hok) ⟨.str _, H, I.tok _, ⟨_, rfl⟩, ?_⟩
    simp only [PyData.shown] at q
    exact q
  | str x =>
    obtain ⟨t, rfl⟩ := ru
    simp only [PyData.shown] at q hz
    exact PySem.P.repr_of_str ⟨.str _, H, I.tok _, ⟨_, rfl⟩, q⟩ hz
  | lst _ _ => exact fin _ ru
  | tup _ _ => exact fin _ ru
  | dct _ _ _ => exact fin _ ru
end FG

/-! FG: the errors' own __init__, with super() in it -/
namespace FG
open PySem PySem.Spec PyProof.Rows L2

/-- the body: super().__init__(text); self.value = value -/
def initBody (txt : Str) (j : Nat) (p0 p1 p2 p3 p4 p5 p6 p7 p8 p9 : Pos) : List Stmt :=
  [.Expr (.Call (.Attribute (.Call (.Name "super" p0) [] [] p1) "__init__" p2) [.Constant (.str txt) j p3] [] p4) p5,
   .Assign [.Attribute (.Name "self" p6) "value" p7] (.Name "value" p8) p9]

def initNames : List (Str × NameKind) := [((Str.ofString "self"), .local), ((Str.ofString "value"), .local), ((Str.ofString "__class__"), .free), ((Str.ofString "super"), .globalImplicit)]
def initScope (more : List (Str × Const)) : Scope := { kind := .function, names := initNames, isGenerator := false, isCoroutine := false, more := more }
/-- what the written part tells of the def at f, the class D that it stands in -/
structure InitTxt (P : Program) (K : PySem.W.Frag) (f D : Addr) (fd : FuncData) : Prop where
  fn : ∃ (oc : Value) (od : Option Addr) (osl : Array (Option Value)) (nm qual : Str) (params : Arguments) (body : List Stmt)
    (scope : Scope) (dV kV doc pm : Value) (an : Option Addr) (cda : Addr) (ct : Value) (cc : Addr) (txt : Str) (j : Nat) (p0 p1 p2 p3 p4 p5 p6 p7 p8 p9 : Pos)
    (more : List (Str × Const)) (ar : Arg) (ccl : Value) (cdd : Option Addr) (vs : Array Value) (ccs : Array (Option Value)) (file : Str) (tf : Tok)
    (cl : Value) (cld : Option Addr) (csl : Array (Option Value)),
    fd = PySem.W.ksFn nm qual params body scope dV kV doc pm an (.ref cda) ct cc ∧ K.lookup f = some ⟨oc, od, .func fd, osl⟩ ∧
    PySem.W.codeIn K (.ref cda) qual = true ∧ body = initBody txt j p0 p1 p2 p3 p4 p5 p6 p7 p8 p9 ∧
    (p2.endLine == p4.line) = true ∧ scope = initScope more ∧
    (params.posonlyargs ++ params.args).head? = some ar ∧ ar.arg = "self" ∧
    K.lookup cda = some ⟨ccl, cdd, .fields vs, ccs⟩ ∧ vs[2]? = some (.str file tf) ∧ ((P.main.file : Str) == file) = true ∧
    K.lookup cc = some ⟨cl, cld, .cell (some (.ref D)), csl⟩
  cls : ∃ cd, PySem.W.clsIn K D = some cd
  sup : PySem.W.nsIn K mainGlobals "super" = some none
  third : PySem.W.nsIn K cStatics "thirdparty.any" = some none
  top : (P.main.scope.names.lookup ("super" : Str)).isSome = false
/-- what it tells of a class C below D -/
structure ErrC (K : PySem.W.Frag) (D C : Addr) : Prop where
  oex : OexC K C
  mro : PySem.W.mroIn K C (.ref D) = some true
  up : PySem.W.ks_superIn K C D "__init__" = some (some (.builtin "ValueError.__init__"))
  ve : PySem.W.subIn K (.ref C) (.type "ValueError") = some true
  no : PySem.W.findIn K (.ref C) "value" = some none

theorem init_eval (env : Env) (txt : Str) (j : Nat) (p0 p1 p2 p3 p4 : Pos) (hp : (p2.endLine == p4.line) = true) :
   eval (.Call (.Attribute (.Call (.Name "super" p0) [] [] p1) "__init__" p2) [.Constant (.str txt) j p3] [] p4) env = (do
      let ov ← attributeBase (.Call (.Name "super" p0) [] [] p1) "__init__" env (eval (.Call (.Name "super" p0) [] [] p1) env)
      standAt p2.atName
      let (f, first) ← holding [ov] (getMethod ov "__init__" (do return (← importBound (.Call (.Name "super" p0) [] [] p1) env).getD true))
      callWith p4 f first (backTo p4 (starEach [.Constant (.str txt) j p3] env)) []) := by
  show (do
      let ov ← attributeBase (.Call (.Name "super" p0) [] [] p1) "__init__" env (eval (.Call (.Name "super" p0) [] [] p1) env)
      standAt p2.atName
      methodCall (.Call (.Name "super" p0) [] [] p1) "__init__" p2 p4 env ov 1 (backTo p4 (starEach [.Constant (.str txt) j p3] env)) []) = _
  unfold methodCall methodCallPos
  rw [hp, Bool.or_true]
  rfl

/-- its promise -/
def spInit (K : PySem.W.Frag) (D : Addr) : Sp := fun vs H Q _ => ∃ (a C : Addr) (v : V), vs = [.ref a, v] ∧ ErrC K D C ∧ H a = some (exo a C none) ∧
  ∀ dx, H dx = none → dx ≠ a → Q .non (upd (upd H dx (exd dx [("value", v)])) a (exo a C (some dx)))

theorem exo_inst {P : Program} {w : World} {H : Hp} {h : Heap} {e C : Addr} {d : Option Addr} (hok : HOk P w H h) (he : H e = some (exo e C none)) :
    ∃ ox, PySem.W.InstAt h e ox C none ∧ ∃ t1, ox = PySem.HandSPX.excO C t1 := by
  obtain ⟨t1, z⟩ := exo_at hok he
  exact ⟨_, ⟨z, rfl, rfl, trivial⟩, t1, rfl⟩

theorem init_okG {P : Program} {w : World} {K : PySem.W.Frag} {mg : Str → Option Value} {base : Heap} {f D : Addr} {fd : FuncData} {k : Nat}
    (T : InitTxt P K f D fd) : FnOk P w K mg base CX0 (k + 1) f fd ["self", "value"] (spInit K D) := by
  obtain ⟨oc, od, osl, nm, qual, params, body, scope, dV, kV, doc, pm, an, cda, ct, cc, txt, j, p0, p1, p2, p3, p4, p5, p6, p7, p8, p9,
    more, ar, ccl, cdd, vs0, ccs, file, tf, cl, cld, csl, rfl, lk, hcd, rfl, hpos, rfl, hpar, har, hcode, hvs, hfile, hcell⟩ := T.fn
  have hkind : (initScope more).kind = .function := rfl
  have hnames : (initScope more).names = initNames := rfl
  refine ⟨fun vs H Q E h => ?_, fun A outer s H args us vs Q E hr e0 hb r hsp => ?_⟩
  · obtain ⟨a, C, v, rfl, _⟩ := h
    rfl
  obtain ⟨a, C, v, rfl, EC, hexo, q⟩ := hsp
  obtain ⟨u1, u2, rfl, r1, r2⟩ := vals2 r
  obtain rfl : u1 = Value.ref a := r1
  have KX : K.In s.heap := e0.mod.kin.keeps fun b o e => (e0.bs b o e).1
  have lim : s.heap.NoLimit := e0.mod.nolimit.keeps fun b o e => (e0.bs b o e).1
  refine ks_codeAny_call_defAt (fd := PySem.W.ksFn nm qual params (initBody txt j p0 p1 p2 p3 p4 p5 p6 p7 p8 p9) (initScope more) dV kV doc pm an (.ref cda) ct cc)
    hr.depth (KX _ _ lk) rfl lim (PySem.W.codeRec_of KX hcd) rfl hb ?_ ?_ ?_ rfl rfl rfl
  · intro y hy
    have hy' : y ∈ initNames := by rw [← hnames]; exact hy
    have all : ∀ z ∈ initNames, z.2 ≠ .cell := by decide
    exact all y hy'
  · intro y hy
    show (initScope more).names.lookup y.1 = some .local
    rw [hnames]
    rcases List.mem_cons.mp hy with rfl | hy
    · rfl
    rcases List.mem_cons.mp hy with rfl | hy
    · rfl
    · cases hy
  · intro h1 hns hk1
    let L := s.heap.objs.size
    let env := PySem.W.ksEnv qual (initScope more) L f (.ref cda) cc
    let X : Cx := { prog := P, w := w, K := K, mg := mg, base := base, A := A.deeper env, N := ["self", "value"], s_0 := s, H_0 := H, env := env, outer := outer, stack := env :: outer, ex := [], fn := fun _ => false, calm := true, pn := [], xe := fun _ _ => False }
    show _root_.PySem.wpAt (model P w) (A.deeper env) (.func _ env) (execs (initBody txt j p0 p1 p2 p3 p4 p5 p6 p7 p8 p9) env) _ _ _
    have lkc : ∀ y c, env.cells.lookup y = some c → y = "__class__" ∧ c = cc := fun y c e => by
      have e' : List.lookup y [((Str.ofString "__class__"), cc)] = some c := e
      rw [List.lookup_cons] at e'
      cases hq : (y == Str.ofString "__class__") with
      | true =>
        rw [hq] at e'
        exact ⟨by simpa using hq, (Option.some.inj e').symm⟩
      | false =>
        rw [hq] at e'
        cases e'
    have kcl : K.In h1 := KX.keeps hk1
    have bk : ∀ b o, base.get? b = some o → h1.get? b = some o := fun b o e => hk1 b o (e0.bs b o e).1
    have hH : H cc = none := (e0.bs cc _ (e0.mod.kin _ _ hcell)).2
    have I0 : Inv X [] [some (.ref a), some v] H { s with heap := h1, toks := s.toks + 2 } := by
      refine ⟨⟨e0.mod, hkind, rfl, rfl, Nat.le_refl _, ?_, ?_, fun y c z _ => absurd z (by simp [X]), fun _ => hr.hd, Around.frames_deeper e0.frames, .inr ⟨rfl, rfl⟩, fun b z => ?_, e0.bs, e0.bsz, fun b _ _ z => ?_, fun b z => ?_, e0.funs, e0.frf⟩,
        rfl, e0.bare, Un.kept hk1, ⟨_, hns, ?_⟩, ?_, e0.hok.fresh (Nat.le_refl _), ?_, ?_, e0.hok.kept hk1, rfl⟩
      · intro y z c e1 e2
        rw [(lkc y c e1).1, (lkc z c e2).1]
      · intro y hy
        have hy' : (initScope more).names.lookup y = some .cell ∨ (initScope more).names.lookup y = some .free := hy
        rw [hnames] at hy'
        have hyc : y = "__class__" := by
          have all : ∀ z ∈ initNames, (z.2 = .cell ∨ z.2 = .free) → z.1 = "__class__" := by decide
          rcases hy' with z | z
          · exact all _ (PySem.mem_of_lookup z) (.inl rfl)
          · exact all _ (PySem.mem_of_lookup z) (.inr rfl)
        subst hyc
        exact ⟨cc, by rfl⟩
      · cases (show b ∈ ([] : List Addr) from z)
      · cases (show b ∈ ([] : List Addr) from z)
      · cases (show b ∈ ([] : List Addr) from z)
      · intro i y vv e1 e2 e3
        match i, e1, e2 with
        | 0, e1, e2 =>
          obtain rfl : (Str.ofString "self") = y := Option.some.inj e1
          obtain rfl : V.ref a = vv := Option.some.inj (Option.some.inj e2)
          exact ⟨.ref a, rfl, .inl ⟨by show (initScope more).names.lookup _ = _; rw [hnames]; rfl, rfl⟩⟩
        | 1, e1, e2 =>
          obtain rfl : (Str.ofString "value") = y := Option.some.inj e1
          obtain rfl : v = vv := Option.some.inj (Option.some.inj e2)
          exact ⟨u2, r2, .inl ⟨by show (initScope more).names.lookup _ = _; rw [hnames]; rfl, rfl⟩⟩
        | (n + 2), e1, e2 => cases (show (none : Option Str) = some y from e1)
      · intro y c e
        obtain ⟨_, rfl⟩ := lkc y c e
        exact ⟨_, _, kcl _ _ hcell, rfl⟩
      · intro y c e
        obtain ⟨_, rfl⟩ := lkc y c e
        exact hH
      · intro p hp
        cases (show p ∈ ([] : List (Addr × Obj)) from hp)
    obtain ⟨cdD, hcD⟩ := T.cls
    obtain ⟨oD, hD1, hD2⟩ : ∃ oD, h1.get? D = some oD ∧ oD.data = .cls cdD := by
      unfold PySem.W.clsIn at hcD
      split at hcD
      · rename_i c d cd' sl ho
        cases hcD
        exact ⟨_, kcl _ _ ho, rfl⟩
      · cases hcD
    obtain ⟨nmC, qC, NC, bsC, bmC, snC, subC, abC, colC, ddC, k0, k1, k2, k3, k5, hC, hbm⟩ := EC.oex.cls
    have hclC : PySem.W.clsIn K C = some { name := nmC, bases := bsC, mro := .ref C :: bmC, ns := NC, qualname := qC, hasDict := true, slotNames := snC, subclasses := subC, abstract := abC, collection := colC, hasDel := false } := by
      unfold PySem.W.clsIn; rw [hC] <;> rfl
    obtain ⟨ox, IA, t1, rfl⟩ := exo_inst (d := none) I0.hok hexo
    have hka : ∀ y, y ∈ [Str.ofString "self", Str.ofString "value"] → (initScope more).names.lookup y = some .local := fun y hy => by
      rw [hnames]
      rcases List.mem_cons.mp hy with rfl | hy
      · rfl
      rcases List.mem_cons.mp hy with rfl | hy
      · rfl
      · cases hy
    obtain ⟨mb, hbl, hbb⟩ := e0.mod.blt
    refine ks_wpAt_execs_cons (ks_wpAt_Expr_any (ks_wpAt_MethodCall ?_ (init_eval env txt j p0 p1 p2 p3 p4 hpos)))
    refine ks_wpAt_super_base (env := env) (by show (initScope more).names.lookup _ = _; rw [hnames]; rfl) (by show (initScope more).names.lookup _ = _; rw [hnames]; rfl) (by decide) rfl (kcl _ _ lk) rfl hpar rfl (kcl _ _ hcode) rfl hvs hfile T.top ?_
    refine PySem.W.ks_loadName_global hkind (by show (initScope more).names.lookup _ = _; rw [hnames]; rfl) (Calls.loadGlobal_builtin (env := env) (e0.mod.glob.keeps bk) (PySem.W.mg_none_of e0.mod.kin e0.mod.glob T.sup) (hbl.keeps bk) ((hbb _ (by decide +kernel)).trans (by decide +kernel)) ⟨rfl, ?_⟩)
    refine wpAny_loadName_free hkind (by show (initScope more).names.lookup _ = _; rw [hnames]; rfl) rfl ⟨_, kcl _ _ hcell, rfl⟩ ?_
    rw [har]
    refine wpAny_loadName_local hkind (hka _ (by simp)) hns rfl ?_
    refine ks_wpAny_isType_cls hD1 hD2 ⟨rfl, ?_⟩
    refine ks_wpAny_call_super hD1 hD2 IA.at_ IA.cls (fun c e => by cases e) (PySem.W.looks_mroIn kcl EC.mro) ?_
    intro h2 hso k2'
    have K2 : K.In h2 := kcl.keeps k2'
    have IA2 : PySem.W.InstAt h2 a (PySem.HandSPX.excO C t1) C none := ⟨k2' _ _ IA.at_, rfl, rfl, trivial⟩
    have hm := EC.up
    unfold PySem.W.ks_superIn at hm
    rw [hclC] at hm
    refine PySem.W.kxs_getMethod PySem.W.kxs_ValueError hso (PySem.W.looks_opaque K2 T.third) (l₀ := .ref C :: bmC) ?_ rfl K2 hm (IA2.type.andThen (PySem.W.looks_subIn K2 EC.ve)) (PySem.W.ks_ne K2 IA2 hclC) (by decide) ?_
    · exact fun A Q E s k q => wpAny_bind ((PySem.W.looks_clsIn K2 hclC) A _ E s k (wpAny_pure q))
    generalize hu0 : h2.objs.size = u0
    have hmw : (h2.push (PySem.W.kxs_mw "ValueError.__init__" a)).get? u0 = some (PySem.W.kxs_mw "ValueError.__init__" a) := by
      rw [← hu0]
      exact Heap.get?_push_at rfl rfl
    have k3' : ∀ b o, h2.get? b = some o → (h2.push (PySem.W.kxs_mw "ValueError.__init__" a)).get? b = some o := fun b o e => Heap.get?_push_of_some _ e
    generalize h2.push (PySem.W.kxs_mw "ValueError.__init__" a) = h3 at hmw k3' ⊢
    have K3 : K.In h3 := K2.keeps k3'
    have I3 : Inv X [] [some (.ref a), some v] H { s with heap := h3, toks := s.toks + 2 + 1 + 1 } := I0.kept (t' := s.toks + 2 + 1 + 1) fun b o e => k3' b o (k2' b o e)
    have he3 : h3.get? a = some (PySem.HandSPX.excO C t1) := k3' _ _ IA2.at_
    refine PySem.W.kxs_callWith (i := "ValueError.__init__") (x := a) rfl (Calls.evalArgs_plain (Calls.spliced_cons (Calls.Constant_str (k := j) (pos := p3) ?_)))
    refine Calls.spliced_nil ⟨hmw, ?_⟩
    refine wpAny_call (codeAny_of_tree ?_)
    show wpAny _ (A.deeper env).in1 (callAny (.ref u0) ⟨[.str txt (s.toks + 2 + 1)], []⟩) _ _ _
    simp only [callAny]
    refine wpAny_bind (wpAny_load hmw ?_)
    simp only [PySem.W.kxs_mw, show (Value.type "method-wrapper" == Value.type "method" || Value.type "method-wrapper" == Value.type "builtin_function_or_method" || Value.type "method-wrapper" == Value.type "method-wrapper") = true by decide, if_true]
    refine PySem.W.KFB.if_so (by decide) ?_
    refine wpAny_bind (PySem.W.check_bound_init F.excBase_ValueError.toExcCallFacts (K3 _ _ hC) he3 rfl ?_)
    refine wpAny_bind (wpAny_pure (wpAny_pure ?_))
    refine ⟨PySem.plainId_quiet F.excBase_ValueError.init.plain _, codeAny_builtin F.excBase_ValueError.initEntry ?_⟩
    refine PySem.W.exc_init_tree (cls := .ref C) (t0 := t1) (dv := none) (c2 := .none) (c3 := .none) (b4 := .bool false) he3 (show 1 ≤ sizeLine by decide) ?_
    intro h4 k4 he4 _
    have J := I3.write (t' := s.toks + 2 + 1 + 1) (x := a) (e := a) (o := exo a C none) (by rw [hexo]; exact True.intro) (.inl rfl) k4 ⟨_, he4⟩ (exo_ok he4)
    have eu : upd H a (exo a C none) = H := by
      funext b
      by_cases hb : b = a
      · rw [hb, upd_same, hexo]
      · rw [upd_ne hb]
    rw [eu] at J
    have ps : PSs X [.Assign [.Attribute (.Name "self" p6) "value" p7] (.Name "value" p8) p9] _ := pss_one (ps_ost (pv 0) (pv 1))
    have run := ps.run [] _ _ _ { nx := fun _ H' => Q .non H', rt := Q } J ?_
    · refine wpAt_of_wpAny (wpAny_mono run (fun fl s' hs => ?_) (fun _ _ hs => hs.elim))
      cases fl with
      | ret u =>
        obtain ⟨v', σ', H', J', rv, q'⟩ := hs
        exact ⟨v', H', J'.os, J'.bare, J'.base, J'.hok, rv, q'⟩
      | next =>
        obtain ⟨σ', H', J', q'⟩ := hs
        exact ⟨V.non, H', J'.os, J'.bare, J'.base, J'.hok, rfl, q'⟩
      | brk => exact False.elim hs.choose_spec.choose_spec.2
      | cont => exact False.elim hs.choose_spec.choose_spec.2
    · exact ⟨v, rfl, .ref a, rfl, a, C, rfl, EC.oex, EC.no, .inl ⟨hexo, q⟩⟩
end FG

/-! FG: errors raised, caught and kept -/
namespace FG
open PySem PySem.Spec PyProof.Rows L2

/-! ### raise X(e) -/
/-- all that is asked of an error class C called x -/
structure ErrF (P : Program) (w : World) (K : PySem.W.Frag) (mg : Str → Option Value) (base : Heap) (D C : Addr) (x : Str) : Prop where
  ec : ErrC K D C
  gx : mg x = some (.ref C)
  xf : XfC K C
  init : ∃ (fI : Addr) (fd : FuncData), PySem.W.findIn K (.ref C) "__init__" = some (some (.ref fI)) ∧ PySem.W.typeIn K (.ref fI) = some (.type "function") ∧
    InitTxt P K fI D fd ∧ Binds K fd ["self", "value"] []
/-- an expression's reading, made to bear weaker ends -/
def tW (te : TE) : TE := fun σ H Q => ∃ Q0 : VK, te σ H Q0 ∧ ∀ v H', Q0 v H' → Q v H'
theorem pe_w {X : Cx} {e : Expr} {te : TE} (he : PE X e te) : PE X e (tW te) := by
  refine ⟨fun pins s σ H Q I h => ?_⟩
  obtain ⟨Q0, h0, hm⟩ := h
  refine thn (he.run pins s σ H Q0 I h0) ?_
  rintro u s' ⟨v, H', I', r, q⟩
  exact ⟨v, H', I', r, hm v H' q⟩
def tErr (C : Addr) (te : TE) : L2.St → Hp → XK → Prop := fun σ H Q => te σ H fun v H1 => ∀ d, H1 d = none → Q (.ref C) (some d) (upd H1 d (.xd [((Str.ofString "value"), v)]))
section
variable {X : Cx} {x : Str} {p pos : Pos} {e : Expr} {te : TE} {D C : Addr} {k : Nat}
theorem pmk_err (T : ErrF X.prog X.w X.K X.mg X.base D C x) (hr : Room (k + 2) X.A) (hg : Gl X x) (he : PE X e te)
    (hdb : (x == ("__debug__" : Str)) = false := by decide) (hs : starEach [e] X.env = (false, eval e X.env) :: starEach [] X.env := by rfl) :
    PMk X (.Call (.Name x p) [e] [] pos) (tErr C te) := by
  obtain ⟨fI, fd, iC, tI, IT, hb⟩ := T.init
  have F1 : FnOk X.prog X.w X.K X.mg X.base CX0 (k + 1) fI fd ["self", "value"] (spInit X.K D) := init_okG IT
  have base := pmk_oex (p := p) (pos := pos) (dvs := []) T.ec.oex iC tI F1 hr hb .nil pass0 hg T.gx (pa_cons (pe_w he) pa_nil hs) hdb hs rfl
  intro pins s σ H Q I h
  refine base pins s σ H Q I ⟨_, h, fun v H1 hq => ⟨by show 1 ≤ 1000; decide, fun a na => ⟨a, C, v, rfl, T.ec, upd_same, fun dx ndx ne => ⟨rfl, dx, [((Str.ofString "value"), v)], upd_same, ?_, ?_, ?_⟩⟩⟩⟩
  · rw [upd_ne ne, upd_same]
  · rw [upd_ne ne] at ndx; exact ndx
  · rw [upd_ne ne] at ndx
    have e : upd (del (upd (upd (upd H1 a (exo a C none)) dx (exd dx [((Str.ofString "value"), v)])) a (exo a C (some dx))) a) dx (.xd [((Str.ofString "value"), v)]) = upd H1 dx (.xd [((Str.ofString "value"), v)]) := by
      funext b
      by_cases hb : b = dx
      · rw [hb, upd_same, upd_same]
      · rw [upd_ne hb, upd_ne hb]
        by_cases ha : b = a
        · rw [ha, del_same, na]
        · rw [del_ne ha, upd_ne ha, upd_ne hb, upd_ne ha]
    rw [e]
    exact hq dx ndx
/-- raise X(e) -/
theorem ps_err {W : WX} {rp : Pos} (hc : X.calm = true) (tk : Takes X W) (T : ErrF X.prog X.w X.K X.mg X.base D C x) (hr : Room (k + 2) X.A) (hg : Gl X x) (he : PE X e te)
    (hdb : (x == ("__debug__" : Str)) = false := by decide) (hs : starEach [e] X.env = (false, eval e X.env) :: starEach [] X.env := by rfl) :
    PS X (.Raise (some (.Call (.Name x p) [e] [] pos)) none rp) (fun _ σ H => te σ H fun v H1 => ∀ d, H1 d = none → W (.ref C) (some d) σ (upd H1 d (.xd [((Str.ofString "value"), v)]))) :=
  ps_raise hc tk (pmk_err T hr hg he hdb hs)
end

/-! ### an error that is kept -/
/-- at a: an error of the class cls, its dict d -/
def exq (a : Addr) (cls : Value) (d : Option Addr) : HO := .ext fun h => ∃ o vs, h.get? a = some o ∧ o.cls = cls ∧ o.dict = d ∧ o.data = .fields vs
theorem exq_ok {P : Program} {w : World} {H : Hp} {h : Heap} {a : Addr} {cls : Value} {d : Option Addr} {o : Obj} {vs : Array Value} (e : h.get? a = some o) (h1 : o.cls = cls) (h2 : o.dict = d) (h3 : o.data = .fields vs) :
    ObjOk P w H h a (exq a cls d) :=
  ⟨⟨o, vs, e, h1, h2, h3⟩, ⟨o, e⟩, fun _ _ ⟨o', vs', z, r⟩ k => ⟨o', vs', k _ z, r⟩⟩
theorem exq_at {P : Program} {w : World} {H : Hp} {h : Heap} {a : Addr} {cls : Value} {d : Option Addr} (hok : HOk P w H h) (he : H a = some (exq a cls d)) :
    ∃ o vs, h.get? a = some o ∧ o.cls = cls ∧ o.dict = d ∧ o.data = .fields vs := by
  have x : ObjOk P w H h a (.ext fun h => ∃ o vs, h.get? a = some o ∧ o.cls = cls ∧ o.dict = d ∧ o.data = .fields vs) := hok a _ he
  exact x.1
section
variable {X : Cx} {pins : List (Addr × Obj)} {σ : L2.St} {H : Hp} {s : Shared}
/-- an object that was pinned, and that was not there at the entry, is tracked from here on -/
theorem track {a : Addr} {o : Obj} {u : HO} (I : Inv X ((a, o) :: pins) σ H s) (h0 : X.s_0.heap.get? a = none) (hp : ∀ p ∈ X.pn ++ pins, p.1 ≠ a) (hu : ObjOk X.prog X.w (upd H a u) s.heap a u) :
    Inv X pins σ (upd H a u) s := by
  obtain ⟨ha, hn, hL, hF, hc⟩ := I.pin (a, o) (List.mem_append_right _ List.mem_cons_self)
  have ne : ∀ {b : Addr} {z : HO}, H b = some z → b ≠ a := fun {b z} e q => by rw [q, hn] at e; cases e
  refine ⟨I.ok, I.os, I.bare, ⟨I.base.keep, I.base.slot, ?_, I.base.there, ?_, ?_, ?_⟩, I.loc, I.cell, ?_, ?_, ?_, ?_, I.len⟩
  · intro b ob e n hx
    rw [upd_ne]
    · exact I.base.free b ob e n hx
    · rintro rfl
      rw [h0] at e; cases e
  · intro b xs e
    have z := I.base.tups b xs e
    rw [upd_ne (ne z)]; exact z
  · intro b ob u e
    have z := I.base.frzs b ob u e
    rw [upd_ne (ne z)]; exact z
  · intro b ps e
    obtain ⟨m, z⟩ := I.base.tbls b ps e
    exact ⟨m, by rw [upd_ne (ne z)]; exact z⟩
  · rw [upd_ne (Ne.symm hL)]; exact I.free
  · intro y c e
    rw [upd_ne]
    · exact I.freeC y c e
    · rintro rfl
      obtain ⟨v, oc, e1, e2⟩ := I.cell y c e
      rw [ha] at e1
      cases e1
      exact hc _ e2
  · intro p hm
    obtain ⟨z1, z2, z3, z4, z5⟩ := I.pin p (by
      rcases List.mem_append.mp hm with q | q
      · exact List.mem_append_left _ q
      · exact List.mem_append_right _ (List.mem_cons_of_mem _ q))
    exact ⟨z1, by rw [upd_ne (hp p hm)]; exact z2, z3, z4, z5⟩
  · intro b z e
    by_cases hb : b = a
    · subst hb
      rw [upd_same] at e
      cases e
      exact hu
    · rw [upd_ne hb] at e
      exact (I.hok b z e).stay (fun _ _ _ q => q) (fun c q => by rw [upd_ne (ne q)]; exact q) (fun c xs q => by rw [upd_ne (ne q)]; exact q)
end

/-! ### try: body / except x as n: y = n -/
def wKeep (K : PySem.W.Frag) (c : Value) (i j : Nat) (Wout : WX) (D : Ends) : WX := fun cls d σ H =>
  ∃ b, PySem.W.exmOne K cls c = some b ∧ (b = true → ∀ a, H a = none → D.nx (((σ.set i (some (.ref a))).set j (some (.ref a))).set i none) (upd H a (exq a cls d))) ∧
    (b = false → Wout cls d σ H)
section
variable {X : Cx} {x n y : Str} {c : Value} {i j : Nat} {body : List Stmt} {np pos pos' py pn1 sp1 : Pos} {tb : WX → TS} {Wout : WX}
theorem ps_try_keep (hs : X.stack = X.env :: X.outer) (hf : X.env.frame = some X.env.locals) (hex : X.ex = []) (hN : X.N.Nodup) (hi : X.N[i]? = some n) (hln : X.env.kindOf n = some .local)
    (hj : X.N[j]? = some y) (hly : X.env.kindOf y = some .local) (hc : Names X x c) (tk : Takes X Wout)
    (hb : ∀ (W : WX) (pn : List (Addr × Obj)) (xe : Value → Shared → Prop), Takes (X.tr pn xe) W → PassesOwn (model X.prog X.w) X.A X.env xe → PSs (X.tr pn xe) body (tb W))
    (hdn : (n == ("__debug__" : Str)) = false := by decide) (hdc : (n == ("__classdict__" : Str)) = false := by decide) :
    PS X (.Try body [.ExceptHandler (some (.Name x np)) (some n) [.Assign [.Name y py] (.Name n pn1) sp1] pos'] [] [] pos) (fun D σ H => tb (wKeep X.K c i j Wout D) D σ H) := by
  refine ⟨fun pins s σ H D I h => ?_⟩
  have ok := I.ok
  have hfr : X.A.frames = some (X.env :: X.outer) := by rw [ok.frames, hs]
  have hloc : Loc X.env.scope n := .inl hln
  refine wpAny_Try_except ?_
  have tbr := hb (wKeep X.K c i j Wout D) (X.pn ++ pins) (fun e s₁ => wpAny (model X.prog X.w) X.A (noteFrame e X.env) (fun _ s₂ => wpAny (model X.prog X.w) X.A (setFlight e none) (fun _ s₃ =>
    wpAny (model X.prog X.w) X.A (handleBy e X.env [.ExceptHandler (some (.Name x np)) (some n) [.Assign [.Name y py] (.Name n pn1) sp1] pos']) (SP X pins D) X.xe s₃) X.xe s₂) X.xe s₁) ?_ PassesOwn.looking
  · refine wpAny_mono (tbr.run [] s σ H D (I.toTry _) h) ?_ (fun e s1 he => he)
    intro f s1 hsp
    cases f with
    | next =>
      obtain ⟨σ', H', J', q⟩ := hsp
      exact wpAny_execs_nil ⟨σ', H', J'.ofTry ok, q⟩
    | brk =>
      obtain ⟨σ', H', J', q⟩ := hsp
      exact ⟨σ', H', J'.ofTry ok, q⟩
    | cont =>
      obtain ⟨σ', H', J', q⟩ := hsp
      exact ⟨σ', H', J'.ofTry ok, q⟩
    | ret u =>
      obtain ⟨v, σ', H', J', r, q⟩ := hsp
      exact ⟨v, σ', H', J'.ofTry ok, r, q⟩
  · intro u s' xx
    obtain ⟨a, B, sI, pins', σ', H', cls, d, rfl, J', nb, up, sky, na, os, ag, b, hb1, hyes, hno⟩ := xx
    have J : Inv X pins σ' H' sI := J'.ofTry ok
    have sky' : Sky B (X.env :: X.outer) a (Zc cls d) X.env.locals s'.heap := by rw [← hs]; exact sky
    show wpAny (model X.prog X.w) X.A (noteFrame (.ref a) X.env) _ _ _
    refine Sky.land Zc.steady hfr hf sky' ?_
    intro h3 fl3 up3
    have J3 : Inv X pins σ' H' { s' with heap := h3 } := J.landed nb fl3.1 (up.trans up3) os ag
    obtain ⟨oe3, vs3, he3, hz3, hd3⟩ := fl3.there
    have nfr : a ∉ frs (X.env :: X.outer) := by
      intro hm
      obtain ⟨_, o', e', hnf⟩ := fl3.2.2.1.mem hm
      rw [he3] at e'; cases e'
      exact hnf _ hd3
    have nL : a ≠ X.env.locals := fun z => nfr (List.mem_filterMap.mpr ⟨X.env, List.mem_cons_self, by rw [hf, z]⟩)
    have nF : a ∉ X.fs := by
      intro hm
      obtain ⟨e, he, q⟩ := List.mem_filterMap.mp hm
      exact nfr (List.mem_filterMap.mpr ⟨e, List.mem_cons_of_mem _ he, q⟩)
    -- it was not there
    have nI : sI.heap.get? a = none := by
      cases q : sI.heap.get? a with
      | none => rfl
      | some o =>
        have z := nb a o q (by rw [hs]; exact nfr)
        rw [fl3.2.1] at z; cases z
    have n0 : X.s_0.heap.get? a = none := by
      cases q : X.s_0.heap.get? a with
      | none => rfl
      | some o =>
        obtain ⟨o', z⟩ := J.base.there a o q (by rw [hex]; simp)
        rw [nI] at z; cases z
    have npin : ∀ p ∈ X.pn ++ pins, p.1 ≠ a := by
      rintro p hp rfl
      have z := (J.pin p hp).1
      rw [nI] at z; cases z
    have S3 := J3.suite he3 hd3 na nL nF
    refine wpAny_handleBy_cons (codeAny_handlers_test ?_) (by intro q; cases q)
    have LT : PySem.W.Looks (model X.prog X.w) h3 (typeOf (.ref a)) cls := fun A Q E s k q => wpAny_typeOf_ref (k _ _ he3) (by rw [hz3.1]; exact q)
    have LM := PySem.W.exm_one (M := model X.prog X.w) (J3.kIn) LT hb1
    have test : ∀ {Q : Value → Shared → Prop} {E : Value → Shared → Prop}, Q c { s' with heap := h3 } → wpAny (model X.prog X.w) (X.A.mark (some (.ref a))) (eval (.Name x np) X.env) Q E { s' with heap := h3 } := by
      intro Q E q
      obtain ⟨hg, hdbg, hm | ⟨hm, hv, hnn⟩⟩ := hc
      · exact ld_glob (X := X.suite a ((a, oe3) :: (X.pn ++ pins))) S3 hg hm q hdbg
      · exact ld_blt (X := X.suite a ((a, oe3) :: (X.pn ++ pins))) S3 hg hm hv q hnn hdbg
    refine test (LM.here ?_)
    cases b with
    | true =>
      refine codeAny_handlers_suite_as ?_
      refine HandSPX.lands_againZ fl3 ?_
      intro h4 fl4 up4
      have J4 : Inv X pins σ' H' { s' with heap := h4 } := J.landed nb fl4.1 ((up.trans up3).trans up4) os ag
      obtain ⟨oe4, vs4, he4, hz4, hd4⟩ := fl4.there
      have S4 := J4.suite he4 hd4 na nL nF
      refine store_ok (X := X.suite a ((a, oe4) :: (X.pn ++ pins))) (v := .ref a) S4 hN hi hloc rfl ?_ (.inr hln)
      intro s5 S5
      have hlen : i < σ'.length := by rw [J4.len]; exact (List.getElem?_eq_some_iff.mp hi).1
      have ps : PSs (X.suite a ((a, oe4) :: (X.pn ++ pins))) [.Assign [.Name y py] (.Name n pn1) sp1] _ :=
        pss_one (ps_asg (pe_var (i := i) hi (.inl hln) hdn hdc) (pg_name (i := j) hN hj (.inl hly) (hf := .inr hly)))
      have run := ps.run [] s5 _ H' { nx := fun σ6 H6 => σ6 = (σ'.set i (some (.ref a))).set j (some (.ref a)) ∧ H6 = H', rt := fun _ _ => False } S5 ?_
      · refine wpAny_mono run ?_ (fun _ _ z => False.elim z)
        intro f s6 hsp
        cases f with
        | next =>
          obtain ⟨σ6, H6, S6, e1, e2⟩ := hsp
          subst e1
          subst e2
          have J6 : Inv X ((a, oe4) :: pins) ((σ'.set i (some (.ref a))).set j (some (.ref a))) H6 s6 := by
            refine (S6.unsuite ok).pins_of ?_
            intro p hp
            rcases List.mem_cons.mp hp with rfl | hp
            · obtain ⟨z1, z2, z3, z4, z5⟩ := S6.pin (a, oe4) (List.mem_append_left _ List.mem_cons_self)
              exact ⟨z1, z2, z3, z4, z5⟩
            · exact (S6.unsuite ok).pin p (List.mem_append_right _ hp)
          refine gone_ok J6 hN hi hln ?_
          intro s7 J7
          obtain ⟨z1, _⟩ := J7.pin (a, oe4) (List.mem_append_right _ List.mem_cons_self)
          exact ⟨_, _, track (u := exq a cls d) J7 n0 npin (exq_ok z1 hz4.1 hz4.2 hd4), hyes rfl a na⟩
        | brk => exact False.elim hsp.choose_spec.choose_spec.2
        | cont => exact False.elim hsp.choose_spec.choose_spec.2
        | ret u =>
          obtain ⟨v6, σ6, H6, S6, r6, q6⟩ := hsp
          exact False.elim q6
      · exact ⟨.ref a, by rw [List.getElem?_set_self hlen], ⟨rfl, rfl⟩⟩
    | false =>
      show wpAny _ X.A (handleBy (.ref a) X.env []) _ _ _
      refine wpAny_handleBy_nil ?_
      obtain ⟨k1, k2, k3, oe, vs, T, oT, ts', he, hz, hd, h1, hr⟩ := id fl3
      unfold PySem.passOn
      refine wpAny_bind (wpAny_field he hd h1 ?_)
      rw [if_neg (show ¬ ((Value.ref T == Value.none) = true) from by simp)]
      have fin : wpAny (model X.prog X.w) X.A (setFlight (.ref a) X.env.frame) (fun _ s4 => wpAny (model X.prog X.w) X.A (throw (.ref a) : Sem Flow) (SP X pins D) X.xe s4) X.xe { s' with heap := h3 } := by
        rw [hf]
        refine HandSPX.setFlight_upZ fl3 ?_
        intro h4 hh4 up4
        refine wpAny_throw (tk _ _ ?_)
        exact ⟨a, B, sI, pins, σ', H', cls, d, rfl, J, nb, (up.trans up3).trans up4, .inr (.inr (by rw [hs]; exact hh4)), na, os, ag, hno rfl⟩
      first
        | exact wpAny_bind (wpAny_pure (wpAny_bind fin))
        | exact wpAny_bind fin
end

/-! ### what is asked of a kept error -/
/-- facts of the class for isinstance -/
structure IsiC (K : PySem.W.Frag) (C : Addr) : Prop where
  cls : (PySem.W.clsIn K C).isSome = true
  xf : XfC K C
  ac : PySem.W.findIn K (.ref C) "__class__" = some (some (.builtin "object.__class__"))
  gs : PySem.W.specialIn K (.builtin "object.__class__") "__get__" = some (some (.builtin "getset_descriptor.__get__"))
  tk : PySem.W.takesIn K (.builtin "object.__class__") = some true
  mo : PySem.W.mroIn K C (.type "object") = some true
/-- isinstance(e, c), e a kept error -/
def rIsQ (K : PySem.W.Frag) : List V → Hp → VK → Prop := fun xs H Q => ∃ (a C d : Addr) (fs : List (Str × V)) (c : V) (u : Value) (b : Bool), xs = [.ref a, c] ∧ ClsV c u ∧
  H a = some (exq a (.ref C) (some d)) ∧ H d = some (.xd fs) ∧ IsiC K C ∧ PySem.W.kitOne K (.ref C) u = some b ∧ Q (.bl b) H
section
variable {X : Cx}
theorem exq_inst {P : Program} {w : World} {H : Hp} {h : Heap} {a C d : Addr} {fs : List (Str × V)} (hok : HOk P w H h) (ha : H a = some (exq a (.ref C) (some d))) (hd : H d = some (.xd fs)) :
    ∃ ox od, PySem.W.InstAt h a ox C (some od) ∧ ∀ n v, fs.lookup n = some v → ∃ u, PySem.W.lookIn n od = some (some u) ∧ RelV v u := by
  obtain ⟨o, vs, e, h1, h2, h3⟩ := exq_at hok ha
  have hx : ObjOk P w H h d (.xd fs) := hok d _ hd
  obtain ⟨mA, hns, hr⟩ := hx
  obtain ⟨od, ho, hl⟩ := lookIn_ns hns
  refine ⟨o, od, ⟨e, h1, by unfold PySem.W.notCls; rw [h3] <;> rfl, by rw [h2]; exact ho⟩, ?_⟩
  intro n v hv
  obtain ⟨u, hu, ru⟩ := RelO.some_of (v := v) (o := mA n) (by rw [← hv]; exact hr n)
  exact ⟨u, by rw [hl, hu], ru⟩
theorem call_isQ : CallR X (.builtin "isinstance") (rIsQ X.K) := by
  intro pins s σ H xs us Q I r h
  obtain ⟨a, C, d, fs, c, u, b, rfl, k, ha, hd, T, e, q⟩ := h
  obtain ⟨u1, u2, rfl, r1, r2⟩ := vals2 r
  have e2 := k.eq r2
  subst e2
  obtain rfl : u1 = Value.ref a := r1
  obtain ⟨ox, od, J, _⟩ := exq_inst I.hok ha hd
  have Z := PySem.W.kitx_exc (x := a) (ox := ox) (od := some od) T.cls T.xf.ga T.xf.gg T.xf.exC T.ac T.gs T.tk T.mo
  exact PySem.W.kia_one Z I.kIn J e (fun z => nomatch z) fun tk => ⟨.bl b, H, I.tok tk, rfl, q⟩
/-- e.n, e a kept error -/
def tXq (K : PySem.W.Frag) (n : Str) (te : TE) : TE := fun σ H Q => te σ H fun x H1 => ∃ (a C d : Addr) (fs : List (Str × V)) (v : V), x = .ref a ∧ H1 a = some (exq a (.ref C) (some d)) ∧ H1 d = some (.xd fs) ∧
  XfC K C ∧ PySem.W.findIn K (.ref C) n = some none ∧ fs.lookup n = some v ∧ Q v H1
theorem pe_xq {e : Expr} {te : TE} {pos : Pos} {n : Str} (he : PE X e te) (hb : attributeBase e n X.env (eval e X.env) = eval e X.env := by rfl) :
    PE X (.Attribute e n pos) (tXq X.K n te) := by
  refine ⟨fun pins s σ H Q I h => ?_⟩
  refine attr_of hb (thn (he.run pins s σ H _ I h) ?_)
  rintro u s1 ⟨x, H1, I1, rx, a, C, d, fs, v, rfl, ha, hd, T, hno, hv, q⟩
  obtain rfl : u = Value.ref a := rx
  obtain ⟨ox, od, J, hl⟩ := exq_inst I1.hok ha hd
  obtain ⟨u, hu, ru⟩ := hl n v hv
  exact HandSPX.exc_get I1.kIn J T.ga T.gg T.exC (PySem.W.findObj_own T.hdC hno rfl hu) (handed_of ru) ⟨v, H1, I1.tok _, ru, q⟩
end
end FG

/-! FG: values of data: isinstance, ** of great ints, text * int; the drawing pot -/
namespace FG
open PySem PySem.Spec PyProof.Rows L2

def tyD : PyData → String
  | .none => "NoneType"
  | .bool _ => "bool"
  | .int _ => "int"
  | .str _ => "str"
  | .list _ => "list"
  | .tuple _ => "tuple"
  | .dict _ => "dict"
/-- isinstance(d, T), T one of the built-in types below -/
def isTy (T : String) : PyData → Bool
  | .none => false
  | .bool _ => T == "bool" || T == "int"
  | .int _ => T == "int"
  | .str _ => T == "str"
  | .list _ => T == "list"
  | .tuple _ => T == "tuple"
  | .dict _ => T == "dict"
def tyNames : List String := ["str", "int", "bool", "tuple", "list", "dict"]
theorem kit_isTy : ∀ T ∈ tyNames, ∀ d : PyData, kitB (tyD d) T = some (isTy T d) := by
  have all : ∀ T ∈ tyNames, kitB "NoneType" T = some false ∧ kitB "bool" T = some (T == "bool" || T == "int") ∧ kitB "int" T = some (T == "int") ∧ kitB "str" T = some (T == "str") ∧
      kitB "list" T = some (T == "list") ∧ kitB "tuple" T = some (T == "tuple") ∧ kitB "dict" T = some (T == "dict") := by decide +kernel
  intro T hT d
  obtain ⟨h1, h2, h3, h4, h5, h6, h7⟩ := all T hT
  cases d <;> assumption
theorem Dq.ty {K : PySem.W.Frag} {M : Addr → Prop} {H : Hp} {v : V} {d : PyData} (h : Dq K M H v d) : TyX K H v (.type (tyD d)) := by
  cases h with
  | non => exact .base .non
  | bl b => exact .base (.bl b)
  | int i => exact .base (.int i)
  | str x => exact .base (.str x)
  | lst h _ =>
    rcases h.l with (h | ⟨o, h⟩) | ⟨o, its, n, h, hc, _⟩
    · exact .base (.lst h)
    · exact .base (.frz h)
    · exact .kList h hc
  | tup h _ =>
    rcases h.t with (h | ⟨o, h⟩) | ⟨o, its, n, h, hc, _⟩
    · exact .base (.tup h)
    · exact .fTuple h
    · exact .kTuple h hc
  | dct _ h _ => exact .base (.dK h)
def rIsD (K : PySem.W.Frag) : List V → Hp → VK → Prop := fun xs H Q => ∃ (M : Addr → Prop) (x : V) (d : PyData) (T : String), xs = [x, .ty T] ∧ Dq K M H x d ∧ T ∈ tyNames ∧ Q (.bl (isTy T d)) H
section
variable {X : Cx}
theorem call_isD : CallR X (.builtin "isinstance") (rIsD X.K) := by
  intro pins s σ H xs us Q I r h
  obtain ⟨M, x, d, T, rfl, hd, hT, q⟩ := h
  exact call_isi pins s σ H _ us Q I r ⟨x, .ty T, .type (tyD d), .type T, isTy T d, rfl, .ty T, hd.ty, kit_ty (kit_isTy T hT d), q⟩
/-- ** of ints of together not too many bits -/
def CPowW (i j : Int) : Prop := 0 ≤ j ∧ ∃ b : Nat, i.natAbs < 2 ^ b ∧ (b : Int) * j ≤ 1000000
theorem op_powW : OpR X (binaryOp .Pow) (rI CPowW fun i j => .int (i ^ j.toNat)) := opI fun i j _ _ _ _ _ hc q => by
  obtain ⟨h0, b, hb, hz⟩ := hc
  refine pow_int h0 ?_ q
  have hbits : Builtin.Int.intBits i ≤ b := by
    unfold Builtin.Int.intBits
    split
    · exact Nat.zero_le _
    · rename_i hi
      have : i.natAbs.log2 < b := by
        rw [Nat.log2_lt]
        · exact hb
        · intro z; apply hi; simpa using z
      omega
  have h1 : (Builtin.Int.intBits i : Int) * j ≤ (b : Int) * j := Int.mul_le_mul_of_nonneg_right (by exact_mod_cast hbits) h0
  omega
def repS (x : Str) (n : Nat) : Str := ⟨(List.replicate n x.cps).foldl (· ++ ·) #[]⟩
theorem op_repS : OpR X (binaryOp .Mult) (fun x y H Q => ∃ (a : Str) (n : Nat), x = .str a ∧ y = .int n ∧ 2 ≤ n ∧ n ≤ 1000 ∧ 1 ≤ a.length ∧ a.length ≤ 1000 ∧ Q (.str (repS a n)) H) := by
  intro pins s σ H x y v u Q I rx ry h
  obtain ⟨a, n, rfl, rfl, h2, h3, h4, h5, q⟩ := h
  obtain ⟨t, rfl⟩ := rx
  obtain ⟨t', rfl⟩ := ry
  have hn1 : ¬ ((n : Int) < 1) := by omega
  have hz : a.length * n ≤ 1000000 := Nat.le_trans (Nat.mul_le_mul h5 h3) (by decide)
  have hsmall : (((n : Int) == 1) || (a.length == 0)) = false := by
    rw [Bool.or_eq_false_iff]
    refine ⟨?_, ?_⟩
    · rw [beq_eq_false_iff_ne]; omega
    · rw [beq_eq_false_iff_ne]; omega
  have hlong : (repS a n).length ≤ sizeLine := by
    have key : ∀ (m : Nat) (acc : Array Nat), ((List.replicate m a.cps).foldl (· ++ ·) acc).size = acc.size + m * a.cps.size := by
      intro m
      induction m with
      | zero => intro acc; simp
      | succ m ih =>
        intro acc
        rw [List.replicate_succ, List.foldl_cons, ih, Array.size_append, Nat.succ_mul]
        omega
    have e : (repS a n).length = n * a.length := by
      show ((List.replicate n a.cps).foldl (· ++ ·) #[]).size = _
      rw [key]
      simp [Str.length]
    rw [e, Nat.mul_comm]
    exact Nat.le_trans hz (by decide)
  refine PySem.P.mul_str ?_ ?_ ?_ ?_
  · rw [decide_eq_false (by omega), decide_eq_false (by omega)]; rfl
  · intro _ _
    have : (a.length : Int) ≤ 1000 := by exact_mod_cast h5
    have h6 : (1000 : Int) ≤ (2 ^ 63 - 1) / (n : Int) := by
      have : (n : Int) ≤ 1000 := by exact_mod_cast h3
      rw [Int.le_ediv_iff_mul_le (by omega)]
      omega
    omega
  · intro _ _
    refine decide_eq_false ?_
    show ¬ (a.length * (n : Int).toNat > sizeLine)
    rw [Int.toNat_natCast]
    exact Nat.not_lt.mpr (Nat.le_trans hz (by decide))
  · rw [if_neg hn1, hsmall, if_neg Bool.false_ne_true]
    exact ⟨hlong, ⟨.str _, H, I.tok _, ⟨_, rfl⟩, q⟩⟩
end

/-! ### the pot -/
/-- at p: three ints, the third at most n -/
def PotAt (H : Hp) (p : Addr) (n : Nat) : Prop := ∃ a b c : Int, H p = some (.lst [.int a, .int b, .int c]) ∧ 0 ≤ a ∧ a < 2 ^ 1000 ∧ 0 ≤ b ∧ b < 2 ^ 62 ∧ 0 ≤ c ∧ c ≤ n
theorem PotAt.mono {H : Hp} {p : Addr} {n m : Nat} (h : PotAt H p n) (hn : n ≤ m) : PotAt H p m := by
  obtain ⟨a, b, c, e, h1, h2, h3, h4, h5, h6⟩ := h
  exact ⟨a, b, c, e, h1, h2, h3, h4, h5, by omega⟩
theorem PotAt.same {H H' : Hp} {p : Addr} {n : Nat} (h : PotAt H p n) (e : H' p = H p) : PotAt H' p n := by
  obtain ⟨a, b, c, z, r⟩ := h
  exact ⟨a, b, c, by rw [e]; exact z, r⟩
theorem PotAt.keep {H H' : Hp} {p : Addr} {n : Nat} (h : PotAt H p n) (s : Same H H') : PotAt H' p n := by
  obtain ⟨a, b, c, z, r⟩ := h
  exact ⟨a, b, c, s _ _ z, r⟩
theorem PotAt.ne {H : Hp} {p q : Addr} {n : Nat} (h : PotAt H p n) (hq : H q = none) : q ≠ p := by
  obtain ⟨a, b, c, z, r⟩ := h
  rintro rfl
  rw [hq] at z; cases z
/-- _law_take(pot, upto) -/
def spTake : Sp := fun vs H Q _ => ∃ (p : Addr) (u : Int) (n : Nat), vs = [.ref p, .int u] ∧ PotAt H p n ∧ n ≤ 1000000000 ∧ 0 < u ∧ u < 1073741824 ∧
  ∀ (d : Int) (H' : Hp), 0 ≤ d → d < u → PotAt H' p (n + 1) → SameM (· = p) H H' → Q (.int d) H'
/-- _law_of(pot, some), a list or a text -/
def spOf (K : PySem.W.Frag) : Sp := fun vs H Q _ => ∃ (p : Addr) (n : Nat), PotAt H p n ∧ n ≤ 1000000000 ∧
  ((∃ (a : Addr) (xs : List V), vs = [.ref p, .ref a] ∧ a ≠ p ∧ SqL K H a xs ∧ xs ≠ [] ∧ xs.length < 1000000 ∧ ∀ (v : V) (H' : Hp), v ∈ xs → PotAt H' p (n + 1) → SameM (· = p) H H' → Q v H') ∨
   (∃ (z : Str), vs = [.ref p, .str z] ∧ 0 < z.length ∧ z.length < 1000000 ∧ ∀ (c : Nat) (H' : Hp), c ∈ z.cps.toList → PotAt H' p (n + 1) → SameM (· = p) H H' → Q (.str ⟨#[c]⟩) H'))
/-- _law_pot_of(script, k) -/
def spPotOf (K : PySem.W.Frag) : Sp := fun vs H Q _ => ∃ (a : Addr) (ns : List Int) (k : Nat), vs = [.ref a, .int k] ∧ SqL K H a (ns.map V.int) ∧ ns.length ≤ 63 ∧ k ≤ 63 ∧
  ∀ (p : Addr) (H' : Hp), H p = none → Same H H' → PotAt H' p 0 → Q (.ref p) H'
theorem atI_mem {α : Type} {xs : List α} {i : Int} (h0 : 0 ≤ i) (h1 : i < xs.length) : ∃ v, atI xs i = some v ∧ v ∈ xs := by
  obtain ⟨n, rfl⟩ := Int.eq_ofNat_of_zero_le h0
  have hn : n < xs.length := by exact_mod_cast h1
  exact ⟨xs[n], atI_nat (List.getElem?_eq_getElem hn), List.getElem_mem hn⟩
end FG

/-! FG: readings by steps: named readings, a lemma a step -/
namespace FG
open PySem PySem.Spec PyProof.Rows L2

/-! ### named readings of operators and calls -/
def qIsN : R2 := fun x y H Q => y = .non ∧ Q (.bl (decide (x = .non))) H
def qNotN : R2 := fun x y H Q => y = .non ∧ Q (.bl (!decide (x = .non))) H
def qAddS : R2 := fun x y H Q => ∃ i j, x = .str i ∧ y = .str j ∧ i.length + j.length ≤ sizeLine ∧ Q (.str (i ++ j)) H
def qInS : R2 := fun x y H Q => ∃ (c : Nat) (z : Str), x = .str ⟨#[c]⟩ ∧ y = .str z ∧ Q (.bl (decide (c ∈ z.cps.toList))) H
def qNotInS : R2 := fun x y H Q => ∃ (c : Nat) (z : Str), x = .str ⟨#[c]⟩ ∧ y = .str z ∧ Q (.bl (!decide (c ∈ z.cps.toList))) H
def qRepS : R2 := fun x y H Q => ∃ (a : Str) (n : Nat), x = .str a ∧ y = .int n ∧ 2 ≤ n ∧ n ≤ 1000 ∧ 1 ≤ a.length ∧ a.length ≤ 1000 ∧ Q (.str (repS a n)) H
def qInt : List V → Hp → VK → Prop := fun xs H Q => (∃ i, xs = [.int i] ∧ Q (.int i) H) ∨ ∃ k, xs = [.bl k] ∧ Q (.int (if k then 1 else 0)) H
def qAbs : List V → Hp → VK → Prop := fun xs H Q => ∃ i, xs = [.int i] ∧ Q (.int (if i < 0 then -i else i)) H
def qMax : List V → Hp → VK → Prop := fun xs H Q => ∃ i j, xs = [.int i, .int j] ∧ Q (.int (if j > i then j else i)) H
def qMin : List V → Hp → VK → Prop := fun xs H Q => ∃ i j, xs = [.int i, .int j] ∧ Q (.int (if j < i then j else i)) H
def qLen (K : PySem.W.Frag) : List V → Hp → VK → Prop := fun xs H Q => ∃ x n, xs = [x] ∧ LenV K x H n ∧ Q (.int n) H
def qListOf (K : PySem.W.Frag) : List V → Hp → VK → Prop := fun xs H Q => ∃ p ys, xs = [.ref p] ∧ (SqL K H p ys ∨ SqT K H p ys) ∧ ∀ l, H l = none → Q (.ref l) (upd H l (.lst ys))
def qTupOf (K : PySem.W.Frag) : List V → Hp → VK → Prop := fun xs H Q => ∃ p ys, xs = [.ref p] ∧ ((SqL K H p ys ∧ ∀ l, H l = none → Q (.ref l) (upd H l (.tup ys))) ∨ (SqT K H p ys ∧ Q (.ref p) H))
section
variable {X : Cx}
theorem o_isN : OpR X (compareOp .Is) qIsN := op_isN
theorem o_notN : OpR X (compareOp .IsNot) qNotN := op_notN
theorem o_addS : OpR X (binaryOp .Add) qAddS := op_add_str
theorem o_inS : OpR X (compareOp .In) qInS := op_in_sign
theorem o_notInS : OpR X (compareOp .NotIn) qNotInS := op_notIn_sign
theorem o_repS : OpR X (binaryOp .Mult) qRepS := op_repS
theorem q_int : CallR X (.type "int") qInt := call_int1
theorem q_abs : CallR X (.builtin "abs") qAbs := call_abs
theorem q_max (hc : X.calm = true) : CallR X (.builtin "max") qMax := call_max2 hc
theorem q_min (hc : X.calm = true) : CallR X (.builtin "min") qMin := call_min2 hc
theorem q_len : CallR X (.builtin "len") (qLen X.K) := call_len
theorem q_listOf : CallR X (.type "list") (qListOf X.K) := call_list_of
theorem q_tupOf : CallR X (.type "tuple") (qTupOf X.K) := call_tuple_of
end

/-- a new tuple, a new list -/
def NewT (xs : List V) (H : Hp) (Q : VK) : Prop := xs.length ≤ sizeLine ∧ ∀ p, H p = none → Q (.ref p) (upd H p (.tup xs))
def NewL (xs : List V) (H : Hp) (Q : VK) : Prop := xs.length ≤ sizeLine ∧ ∀ p, H p = none → Q (.ref p) (upd H p (.lst xs))
/-! ### steps -/
section
variable {σ : L2.St} {H : Hp} {Q : VK} {QT : Bool → Hp → Prop} {QA : List V → Hp → Prop} {ta tb te tc : TE} {tr : TA} {r r' : R2} {D : Ends} {t u : TS} {i j : Nat} {v : V} {cT uT : TT}
  {K : PySem.W.Frag} {g : TG} {xs : List V}
theorem b_var (h : σ[i]? = some (some v)) (q : Q v H) : tVar i σ H Q := ⟨v, h, q⟩
theorem b_c (q : Q v H) : tC v σ H Q := q
theorem b_op (q : ta σ H fun x H1 => tb σ H1 fun y H2 => r x y H2 Q) : tOp r ta tb σ H Q := q
theorem b_un {f : V → Hp → VK → Prop} (q : ta σ H fun x H1 => f x H1 Q) : tUn f ta σ H Q := q
theorem b_neg {i : Int} (q : Q (.int (-i)) H) : rU (fun i => V.int (-i)) (.int i) H Q := ⟨i, rfl, q⟩
theorem b_cons (q : ta σ H fun x H1 => tr σ H1 fun xs H2 => QA (x :: xs) H2) : tCons ta tr σ H QA := q
theorem b_nil (q : QA [] H) : tNil σ H QA := q
theorem b_chain (q : ta σ H fun x H1 => tb σ H1 fun y H2 => r x y H2 fun z H3 => ∃ k, z = .bl k ∧ (if k = true then tc σ H3 fun w' H4 => r' y w' H4 Q else Q (.bl false) H3)) : tChain r r' ta tb tc σ H Q := q
theorem b_bl {b : Bool} (q : QT b H) : ∃ k, V.bl b = .bl k ∧ QT k H := ⟨b, rfl, q⟩
theorem b_blP {b : Bool} {P : Bool → Prop} (q : P b) : ∃ k, V.bl b = .bl k ∧ P k := ⟨b, rfl, q⟩
theorem b_test (q : te σ H fun x H1 => ∃ k, x = .bl k ∧ QT k H1) : tTest te σ H QT := q
theorem b_tb (q : te σ H fun x H1 => ∃ k, x = .bl k ∧ QT k H1) : tB te σ H QT := q
theorem b_and (q : cT σ H fun c H1 => if c = true then uT σ H1 QT else QT false H1) : tAnd cT uT σ H QT := q
theorem b_or (q : cT σ H fun c H1 => if c = true then QT true H1 else uT σ H1 QT) : tOr cT uT σ H QT := q
theorem b_not (q : cT σ H fun c H1 => QT (!c) H1) : tNot cT σ H QT := q
theorem b_andV (q : ta σ H fun x H1 => ∃ c, x = .bl c ∧ if c = true then tb σ H1 Q else Q (.bl false) H1) : tAndV ta tb σ H Q := q
theorem b_orV (q : ta σ H fun x H1 => ∃ c, x = .bl c ∧ if c = true then Q (.bl true) H1 else tb σ H1 Q) : tOrV ta tb σ H Q := q
theorem b_notV (q : ta σ H fun x H1 => ∃ c, x = .bl c ∧ Q (.bl (!c)) H1) : tNotV ta σ H Q := q
theorem b_if (q : cT σ H fun c H1 => if c = true then ta σ H1 Q else tb σ H1 Q) : tIf cT ta tb σ H Q := q
theorem b_seq (q : t { D with nx := u D } σ H) : tSeq t u D σ H := q
theorem b_next (q : D.nx σ H) : tNext D σ H := q
theorem b_asg (q : te σ H fun x H1 => g x σ H1 D.nx) : tAsg te g D σ H := q
theorem b_name {k : L2.St → Hp → Prop} (q : k (σ.set i (some v)) H) : gName i v σ H k := q
theorem b_par (q : tr σ H fun vs H1 => ∃ v w, vs = [v, w] ∧ D.nx ((σ.set i (some v)).set j (some w)) H1) : tPar i j tr D σ H := q
theorem b_parE {v w : V} (q : D.nx ((σ.set i (some v)).set j (some w)) H) : ∃ v' w', [v, w] = [v', w'] ∧ D.nx ((σ.set i (some v')).set j (some w')) H := ⟨v, w, rfl, q⟩
theorem b_sub {to ti : TE} {f : TSet} {k : L2.St → Hp → Prop} (q : to σ H fun o H1 => ti σ H1 fun i H2 => f o i v H2 fun H3 => k σ H3) : gSub to ti f v σ H k := q
theorem b_aug {ti : TIp} {x : V} (h : σ[i]? = some (some x)) (q : te σ H fun y H1 => ti x y H1 fun z H2 => D.nx (σ.set i (some z)) H2) : tAug i te ti D σ H := ⟨x, h, q⟩
theorem b_ip {f : Int → Int → Int} {x y : Int} (q : Q (.int (f x y)) H) : ipI f (.int x) (.int y) H Q := ⟨x, y, rfl, rfl, q⟩
theorem b_ret (q : te σ H D.rt) : tRet te D σ H := q
theorem b_retN (q : D.rt .non H) : tRetN D σ H := q
theorem b_ifS (q : cT σ H fun b H1 => if b = true then t D σ H1 else u D σ H1) : tIfS cT t u D σ H := q
theorem b_drop (q : te σ H fun _ H1 => D.nx σ H1) : tDrop te D σ H := q
theorem b_cb {f : List V → Hp → VK → Prop} (q : tr σ H fun vs H1 => f vs H1 Q) : tCB f tr σ H Q := q
theorem b_call {sp : Sp} {dvs : List V} {E : XK} (q : tr σ H fun vs H1 => sp (vs ++ dvs) H1 Q E) : tCall sp dvs E tr σ H Q := q
theorem b_tup (q : tr σ H fun xs H1 => NewT xs H1 Q) : tTup tr σ H Q := q
theorem b_lst (q : tr σ H fun xs H1 => NewL xs H1 Q) : tLst tr σ H Q := q
theorem b_sl {f : V → Option Int → Option Int → Hp → VK → Prop} {tl th : TO} (q : te σ H fun x H1 => tl σ H1 fun l H2 => th σ H2 fun u H3 => f x l u H3 Q) : tSl f te tl th σ H Q := q
theorem b_part {QO : Option Int → Hp → Prop} (q : te σ H fun x H1 => ∃ i, x = .int i ∧ QO (some i) H1) : tPart te σ H QO := q
theorem b_partE {QO : Option Int → Hp → Prop} {i : Int} (q : QO (some i) H) : ∃ i', V.int i = .int i' ∧ QO (some i') H := ⟨i, rfl, q⟩
theorem b_nopart {QO : Option Int → Hp → Prop} (q : QO none H) : tNoPart σ H QO := q
theorem b_bm {T : String} {f : V → List V → Hp → VK → Prop} (q : te σ H fun x H1 => tyV K T x H1 ∧ tr σ H1 fun xs H2 => f x xs H2 Q) : tBM K T f te tr σ H Q := q
theorem b_m1 {f : V → List V → Hp → VK → Prop} (q : ta σ H fun x H1 => (∃ a, x = .str a) ∧ tb σ H1 fun y H2 => f x [y] H2 Q) : tM1 f ta tb σ H Q := q
theorem b_yes (q : QT true H) : tYes σ H QT := q
/-! operators -/
theorem b_I0 {f : Int → Int → V} {x y : Int} (q : Q (f x y) H) : rI0 f (.int x) (.int y) H Q := ⟨x, y, rfl, rfl, q⟩
theorem b_I {C : Int → Int → Prop} {f : Int → Int → V} {x y : Int} (c : C x y) (q : Q (f x y) H) : rI C f (.int x) (.int y) H Q := ⟨x, y, rfl, rfl, c, q⟩
theorem b_eq {x y : V} (h : scal x y = true) (q : Q (.bl (decide (x = y))) H) : rEq x y H Q := ⟨h, q⟩
theorem b_ne {x y : V} (h : scal x y = true) (q : Q (.bl (!decide (x = y))) H) : rNe x y H Q := ⟨h, q⟩
theorem b_isN {x : V} (q : Q (.bl (decide (x = .non))) H) : qIsN x .non H Q := ⟨rfl, q⟩
theorem b_notN {x : V} (q : Q (.bl (!decide (x = .non))) H) : qNotN x .non H Q := ⟨rfl, q⟩
theorem b_addS {x y : Str} (h : x.length + y.length ≤ sizeLine) (q : Q (.str (x ++ y)) H) : qAddS (.str x) (.str y) H Q := ⟨x, y, rfl, rfl, h, q⟩
theorem b_inS {c : Nat} {z : Str} (q : Q (.bl (decide (c ∈ z.cps.toList))) H) : qInS (.str ⟨#[c]⟩) (.str z) H Q := ⟨c, z, rfl, rfl, q⟩
theorem b_int {x : Int} (q : Q (.int x) H) : qInt [.int x] H Q := .inl ⟨x, rfl, q⟩
theorem b_intB {b : Bool} (q : Q (.int (if b then 1 else 0)) H) : qInt [.bl b] H Q := .inr ⟨b, rfl, q⟩
theorem b_abs {x : Int} (q : Q (.int (if x < 0 then -x else x)) H) : qAbs [.int x] H Q := ⟨x, rfl, q⟩
theorem b_max {x y : Int} (q : Q (.int (if y > x then y else x)) H) : qMax [.int x, .int y] H Q := ⟨x, y, rfl, q⟩
theorem b_min {x y : Int} (q : Q (.int (if y < x then y else x)) H) : qMin [.int x, .int y] H Q := ⟨x, y, rfl, q⟩
theorem b_lenS {x : Str} (h : x.length ≤ sizeLine) (q : Q (.int x.length) H) : qLen K [.str x] H Q := ⟨.str x, x.length, rfl, ⟨h, rfl⟩, q⟩
theorem b_lenL {p : Addr} (h : SqL K H p xs) (q : Q (.int xs.length) H) : qLen K [.ref p] H Q := ⟨.ref p, xs.length, rfl, .inl ⟨xs, h, rfl⟩, q⟩
theorem b_lenT {p : Addr} (h : SqT K H p xs) (q : Q (.int xs.length) H) : qLen K [.ref p] H Q := ⟨.ref p, xs.length, rfl, .inr ⟨xs, h, rfl⟩, q⟩
theorem b_ixL {p : Addr} {x : Int} (h : SqL K H p xs) (ha : atI xs x = some v) (q : Q v H) : rIxL K (.ref p) (.int x) H Q := ⟨p, xs, x, v, rfl, rfl, h, ha, q⟩
theorem b_ixT {p : Addr} {x : Int} (h : SqT K H p xs) (ha : atI xs x = some v) (q : Q v H) : rIxT K (.ref p) (.int x) H Q := ⟨p, xs, x, v, rfl, rfl, h, ha, q⟩
theorem b_ixSL {p : Addr} {x : Int} (h : SqL K H p xs) (ha : atI xs x = some v) (q : Q v H) : rIx K (.ref p) (.int x) H Q := .inl ⟨p, xs, x, v, rfl, rfl, h, ha, q⟩
theorem b_ixSS {z : Str} {x : Int} {c : Nat} (h : z.length ≤ sizeLine) (ha : atI z.cps.toList x = some c) (q : Q (.str ⟨#[c]⟩) H) : rIx K (.str z) (.int x) H Q := .inr (.inr ⟨z, x, c, rfl, rfl, h, ha, q⟩)
theorem b_setL {p : Addr} {x : Int} {k : Hp → Prop} (h : H p = some (.lst xs)) (hj : ixN xs.length x = some j) (q : k (upd H p (.lst (xs.set j v)))) : rSetL (.ref p) (.int x) v H k := ⟨p, xs, x, j, rfl, rfl, h, hj, q⟩
theorem b_isD {M : Addr → Prop} {x : V} {d : PyData} {T : String} (h : Dq K M H x d) (hT : T ∈ tyNames) (q : Q (.bl (isTy T d)) H) : rIsD K [x, .ty T] H Q := ⟨M, x, d, T, rfl, h, hT, q⟩
theorem e_setL {p : Addr} {x : Int} {k : Hp → Prop} (h : H p = some (.lst xs)) (hj : ixN xs.length x = some j) (q : ∀ H', H' p = some (.lst (xs.set j v)) → SameM (· = p) H H' → k H') : rSetL (.ref p) (.int x) v H k :=
  ⟨p, xs, x, j, rfl, rfl, h, hj, q _ upd_same (SameM.upd rfl)⟩
/-! new objects: the heap behind is any that keeps what was and holds the new one -/
theorem e_tup (q : ∀ p H', H p = none → H' p = some (.tup xs) → Same H H' → Q (.ref p) H') (hl : xs.length ≤ 100000 := by first | decide | simp) : NewT xs H Q :=
  ⟨Nat.le_trans hl (by decide), fun p np => q p _ np upd_same (same_upd np)⟩
theorem e_lst (q : ∀ p H', H p = none → H' p = some (.lst xs) → Same H H' → Q (.ref p) H') (hl : xs.length ≤ 100000 := by first | decide | simp) : NewL xs H Q :=
  ⟨Nat.le_trans hl (by decide), fun p np => q p _ np upd_same (same_upd np)⟩
theorem e_new {o : HO} (q : ∀ p H', H p = none → H' p = some o → Same H H' → Q (.ref p) H') : ∀ p, H p = none → Q (.ref p) (upd H p o) := fun p np => q p _ np upd_same (same_upd np)
theorem e_listL {p : Addr} (h : SqL K H p xs) (q : ∀ l H', H l = none → H' l = some (.lst xs) → Same H H' → Q (.ref l) H') : qListOf K [.ref p] H Q := ⟨p, xs, rfl, .inl h, e_new q⟩
theorem e_listT {p : Addr} (h : SqT K H p xs) (q : ∀ l H', H l = none → H' l = some (.lst xs) → Same H H' → Q (.ref l) H') : qListOf K [.ref p] H Q := ⟨p, xs, rfl, .inr h, e_new q⟩
theorem e_tupL {p : Addr} (h : SqL K H p xs) (q : ∀ l H', H l = none → H' l = some (.tup xs) → Same H H' → Q (.ref l) H') : qTupOf K [.ref p] H Q := ⟨p, xs, rfl, .inl ⟨h, e_new q⟩⟩
end

theorem nat_of_abs {i : Int} {n : Nat} (h1 : -(2 ^ n) < i) (h2 : i < 2 ^ n) : i.natAbs < 2 ^ n := by
  have h1' : -((2 ^ n : Nat) : Int) < i := by simpa using h1
  have h2' : i < ((2 ^ n : Nat) : Int) := by simpa using h2
  omega
theorem cmul {i j : Int} (h1 : -(2 ^ 1100) < i) (h2 : i < 2 ^ 1100) (h3 : -(2 ^ 1100) < j) (h4 : j < 2 ^ 1100) : CMulW i j :=
  wide_mul (nat_of_abs h1 h2) (nat_of_abs h3 h4) (by decide) (by decide) (by decide)
/-- a product's bounds -/
theorem mul_bd {i j a b : Int} (h1 : 0 ≤ i) (h2 : i ≤ a) (h3 : 0 ≤ j) (h4 : j ≤ b) : 0 ≤ i * j ∧ i * j ≤ a * b :=
  ⟨Int.mul_nonneg h1 h3, Int.mul_le_mul h2 h4 h3 (Int.le_trans h1 h2)⟩
theorem cpow {i j : Int} (b : Nat) (h0 : 0 ≤ j) (h1 : -(2 ^ b) < i) (h2 : i < 2 ^ b) (h3 : (b : Int) * j ≤ 1000000) : CPowW i j := ⟨h0, b, nat_of_abs h1 h2, h3⟩
end FG

/-! FG: loops and comprehensions by steps -/
namespace FG
open PySem PySem.Spec PyProof.Rows L2

/-- what a comprehension's turn does behind its element -/
def AppD (D : Addr) (y : V) (H : Hp) (k : Hp → Prop) : Prop := ∃ acc, H D = some (.lst acc) ∧ acc.length < sizeLine ∧ k (upd H D (.lst (acc ++ [y])))
theorem e_app {D : Addr} {y : V} {H : Hp} {k : Hp → Prop} {acc : List V} (h : H D = some (.lst acc)) (hl : acc.length < 100000) (q : ∀ H', H' D = some (.lst (acc ++ [y])) → SameM (· = D) H H' → k H') : AppD D y H k :=
  ⟨acc, h, Nat.lt_of_lt_of_le hl (by decide), q _ upd_same (SameM.upd rfl)⟩
section
variable {g : TG} {tt : TT} {te tl : TE} {ta : TA} {vs : List Nat} {σ : L2.St} {H : Hp} {Q : VK} {K : PySem.W.Frag}
/-- a turn of a comprehension at the item x -/
def Turn1 (g : TG) (tt : TT) (te : TE) (vs : List Nat) (σ : L2.St) (D : Addr) (x : V) (H : Hp) (nx : Hp → Prop) : Prop :=
  g x (wipe σ vs) H fun σ2 H2 => wipe σ2 vs = wipe σ vs ∧ tt σ2 H2 fun b H3 => if b = true then te σ2 H3 fun y H4 => AppD D y H4 nx else nx H3
def LcAny (J : It) (g : TG) (tt : TT) (te : TE) (vs : List Nat) (σ : L2.St) (H : Hp) (Q : VK) : Prop := ∀ D, H D = none → ∃ W : Nat → Nat → Hp → Prop, (∃ m, W 0 m (upd H D (.lst []))) ∧ ∀ i m H, W i m H →
  (J.stop i H ∧ Q (.ref D) H) ∨ (J.go i H ∧ ∃ Nx : Hp → Prop, (∀ H', Nx H' → ∃ m', m' < m ∧ W (i + 1) m' H') ∧ ∀ x H', J.yld i H x H' → Turn1 g tt te vs σ D x H' Nx)
/-- by an invariant over the turn's number: n turns, the items told -/
theorem lc_by {J : It} (n : Nat) (Pv : Addr → Nat → Hp → Prop) (h0 : ∀ D H', H D = none → H' D = some (.lst []) → Same H H' → Pv D 0 H')
    (hgo : ∀ D i H', H D = none → i < n → Pv D i H' → J.go i H' ∧ ∀ x H2, J.yld i H' x H2 → Turn1 g tt te vs σ D x H2 (Pv D (i + 1)))
    (hst : ∀ D H', H D = none → Pv D n H' → J.stop n H' ∧ Q (.ref D) H') : LcAny J g tt te vs σ H Q := by
  intro D nD
  refine ⟨fun i m H' => m = n - i ∧ i ≤ n ∧ Pv D i H', ⟨n, by simp, Nat.zero_le _, h0 D _ nD upd_same (same_upd nD)⟩, ?_⟩
  rintro i m H' ⟨rfl, hi, p⟩
  by_cases hlt : i < n
  · obtain ⟨h1, h2⟩ := hgo D i H' nD hlt p
    exact .inr ⟨h1, Pv D (i + 1), fun H'' p' => ⟨n - (i + 1), by omega, rfl, hlt, p'⟩, h2⟩
  · obtain rfl : i = n := by omega
    exact .inl (hst D H' nD p)
theorem b_lcS (q : tl σ H fun v H1 => ∃ x, v = .str x ∧ LcAny (Its x) g tt te vs σ H1 Q) : tLc (iStr tl) g tt te vs σ H Q := q
theorem b_lcR (q : ta σ H fun xs H1 => ∃ j : Int, xs = [.int j] ∧ -(2 ^ 62) ≤ j ∧ j < 2 ^ 62 ∧ LcAny (Itr 0 j.toNat) g tt te vs σ H1 Q) : tLc (iRng1 ta) g tt te vs σ H Q := q
theorem b_lcT (q : tl σ H fun x H1 => ∃ a, x = .ref a ∧ (∃ xs, SqT K H1 a xs) ∧ LcAny (Itt K a) g tt te vs σ H1 Q) : tLc (iTup K tl) g tt te vs σ H Q := q
theorem b_lcL (q : tl σ H fun x H1 => ∃ a, x = .ref a ∧ (∃ xs, SqL K H1 a xs) ∧ LcAny (Itl K a) g tt te vs σ H1 Q) : tLc (iList K tl) g tt te vs σ H Q := q
theorem e_lcS {x : Str} (Pv : Addr → Nat → Hp → Prop) (h0 : ∀ D H', H D = none → H' D = some (.lst []) → Same H H' → Pv D 0 H')
    (hs : ∀ D i c H', H D = none → x.cps[i]? = some c → Pv D i H' → Turn1 g tt te vs σ D (.str ⟨#[c]⟩) H' (Pv D (i + 1)))
    (hd : ∀ D H', H D = none → Pv D x.cps.size H' → Q (.ref D) H') : ∃ x', V.str x = .str x' ∧ LcAny (Its x') g tt te vs σ H Q := by
  refine ⟨x, rfl, lc_by x.cps.size Pv h0 (fun D i H' nD hi p => ⟨hi, ?_⟩) (fun D H' nD p => ⟨Nat.le_refl _, hd D H' nD p⟩)⟩
  rintro v H2 ⟨rfl, c, hc, rfl⟩
  exact hs D i c H2 nD hc p
theorem e_lcR {j : Int} (Pv : Addr → Nat → Hp → Prop) (hj : -(2 ^ 62) ≤ j) (hj2 : j < 2 ^ 62) (h0 : ∀ D H', H D = none → H' D = some (.lst []) → Same H H' → Pv D 0 H')
    (hs : ∀ D i H', H D = none → i < j.toNat → Pv D i H' → Turn1 g tt te vs σ D (.int (0 + i)) H' (Pv D (i + 1)))
    (hd : ∀ D H', H D = none → Pv D j.toNat H' → Q (.ref D) H') : ∃ j' : Int, [V.int j] = [.int j'] ∧ -(2 ^ 62) ≤ j' ∧ j' < 2 ^ 62 ∧ LcAny (Itr 0 j'.toNat) g tt te vs σ H Q := by
  refine ⟨j, rfl, hj, hj2, lc_by j.toNat Pv h0 (fun D i H' nD hi p => ⟨hi, ?_⟩) (fun D H' nD p => ⟨Nat.le_refl _, hd D H' nD p⟩)⟩
  rintro v H2 ⟨rfl, rfl⟩
  exact hs D i H2 nD hi p
theorem e_lcT {a : Addr} {xs : List V} (hS : SqT K H a xs) (Pv : Addr → Nat → Hp → Prop) (h0 : ∀ D H', H D = none → H' D = some (.lst []) → Same H H' → Pv D 0 H')
    (hl : ∀ D i H', H D = none → Pv D i H' → SqT K H' a xs)
    (hs : ∀ D i x H', H D = none → xs[i]? = some x → Pv D i H' → Turn1 g tt te vs σ D x H' (Pv D (i + 1)))
    (hd : ∀ D H', H D = none → Pv D xs.length H' → Q (.ref D) H') : ∃ a', V.ref a = .ref a' ∧ (∃ xs, SqT K H a' xs) ∧ LcAny (Itt K a') g tt te vs σ H Q := by
  refine ⟨a, rfl, ⟨xs, hS⟩, lc_by xs.length Pv h0 (fun D i H' nD hi p => ⟨⟨xs, xs[i], hl D i H' nD p, by simp [hi]⟩, ?_⟩) (fun D H' nD p => ⟨⟨xs, hl D _ H' nD p, Nat.le_refl _⟩, hd D H' nD p⟩)⟩
  rintro v H2 ⟨rfl, hv⟩
  exact hs D i v _ nD (hv xs (hl D i _ nD p)) p
theorem e_lcL {a : Addr} {xs : List V} (hS : SqL K H a xs) (Pv : Addr → Nat → Hp → Prop) (h0 : ∀ D H', H D = none → H' D = some (.lst []) → Same H H' → Pv D 0 H')
    (hl : ∀ D i H', H D = none → Pv D i H' → SqL K H' a xs)
    (hs : ∀ D i x H', H D = none → xs[i]? = some x → Pv D i H' → Turn1 g tt te vs σ D x H' (Pv D (i + 1)))
    (hd : ∀ D H', H D = none → Pv D xs.length H' → Q (.ref D) H') : ∃ a', V.ref a = .ref a' ∧ (∃ xs, SqL K H a' xs) ∧ LcAny (Itl K a') g tt te vs σ H Q := by
  refine ⟨a, rfl, ⟨xs, hS⟩, lc_by xs.length Pv h0 (fun D i H' nD hi p => ⟨⟨xs, xs[i], hl D i H' nD p, by simp [hi]⟩, ?_⟩) (fun D H' nD p => ⟨⟨xs, hl D _ H' nD p, Nat.le_refl _⟩, hd D H' nD p⟩)⟩
  rintro v H2 ⟨rfl, hv⟩
  exact hs D i v _ nD (hv xs (hl D i _ nD p)) p
theorem b_turn {x : V} {D : Addr} {nx : Hp → Prop} (q : g x (wipe σ vs) H fun σ2 H2 => wipe σ2 vs = wipe σ vs ∧ tt σ2 H2 fun b H3 => if b = true then te σ2 H3 fun y H4 => AppD D y H4 nx else nx H3) : Turn1 g tt te vs σ D x H nx := q

/-! for -/
variable {tb : TS} {D : Ends}
def ForAny (J : It) (g : TG) (tb : TS) (D : Ends) (σ : L2.St) (H : Hp) : Prop := ∃ W : Nat → Nat → L2.St → Hp → Prop, (∃ m, W 0 m σ H) ∧ ∀ i m σ H, W i m σ H →
  (J.stop i H ∧ D.nx σ H) ∨ (J.go i H ∧ ∃ N : L2.St → Hp → Prop, (∀ σ' H', N σ' H' → ∃ m', m' < m ∧ W (i + 1) m' σ' H') ∧ ∀ x H', J.yld i H x H' → g x σ H' fun σ2 H2 => tb { D with nx := N, ct := N, bk := D.nx } σ2 H2)
theorem b_forT (q : tl σ H fun x H1 => ∃ a, x = .ref a ∧ (∃ xs, SqT K H1 a xs) ∧ ForAny (Itt K a) g tb D σ H1) : tFor (iTup K tl) g tb D σ H := q
theorem b_forL (q : tl σ H fun x H1 => ∃ a, x = .ref a ∧ (∃ xs, SqL K H1 a xs) ∧ ForAny (Itl K a) g tb D σ H1) : tFor (iList K tl) g tb D σ H := q
theorem b_forR (q : ta σ H fun xs H1 => ∃ j : Int, xs = [.int j] ∧ -(2 ^ 62) ≤ j ∧ j < 2 ^ 62 ∧ ForAny (Itr 0 j.toNat) g tb D σ H1) : tFor (iRng1 ta) g tb D σ H := q
theorem e_forT {a : Addr} {xs : List V} (hS : SqT K H a xs) (Pv : Nat → L2.St → Hp → Prop) (h0 : Pv 0 σ H) (hl : ∀ i σ H, Pv i σ H → SqT K H a xs)
    (hs : ∀ i x σ H, xs[i]? = some x → Pv i σ H → g x σ H fun σ2 H2 => tb { D with nx := Pv (i + 1), ct := Pv (i + 1), bk := D.nx } σ2 H2) (hd : ∀ σ H, Pv xs.length σ H → D.nx σ H) :
    ∃ a', V.ref a = .ref a' ∧ (∃ xs, SqT K H a' xs) ∧ ForAny (Itt K a') g tb D σ H := ⟨a, rfl, ⟨xs, hS⟩, for_tup Pv h0 (fun i σ H _ p => hl i σ H p) hs hd⟩
theorem e_forL {a : Addr} {xs : List V} (hS : SqL K H a xs) (Pv : Nat → L2.St → Hp → Prop) (h0 : Pv 0 σ H) (hl : ∀ i σ H, Pv i σ H → SqL K H a xs)
    (hs : ∀ i x σ H, xs[i]? = some x → Pv i σ H → g x σ H fun σ2 H2 => tb { D with nx := Pv (i + 1), ct := Pv (i + 1), bk := D.nx } σ2 H2) (hd : ∀ σ H, Pv xs.length σ H → D.nx σ H) :
    ∃ a', V.ref a = .ref a' ∧ (∃ xs, SqL K H a' xs) ∧ ForAny (Itl K a') g tb D σ H := ⟨a, rfl, ⟨xs, hS⟩, for_list Pv h0 (fun i σ H _ p => hl i σ H p) hs hd⟩
theorem e_forR {j : Int} (Pv : Nat → L2.St → Hp → Prop) (hj : -(2 ^ 62) ≤ j) (hj2 : j < 2 ^ 62) (h0 : Pv 0 σ H)
    (hs : ∀ i σ H, i < j.toNat → Pv i σ H → g (.int (0 + i)) σ H fun σ2 H2 => tb { D with nx := Pv (i + 1), ct := Pv (i + 1), bk := D.nx } σ2 H2) (hd : ∀ σ H, Pv j.toNat σ H → D.nx σ H) :
    ∃ j' : Int, [V.int j] = [.int j'] ∧ -(2 ^ 62) ≤ j' ∧ j' < 2 ^ 62 ∧ ForAny (Itr 0 j'.toNat) g tb D σ H := ⟨j, rfl, hj, hj2, for_range Pv h0 hs hd⟩
end
/-- all([..]) of bools -/
theorem b_all {K : PySem.W.Frag} {a : Addr} {bs : List Bool} {H : Hp} {Q : VK} (h : SqL K H a (bs.map V.bl)) (q : Q (.bl (bs.all id)) H) : rAll K [.ref a] H Q := ⟨a, bs, rfl, h, q⟩
end FG

/-! FG: more steps -/
namespace FG
open PySem PySem.Spec PyProof.Rows L2
theorem iteNF {A B : Prop} (h : A) : if (!false) = true then A else B := h
theorem iteNT {A B : Prop} (h : B) : if (!true) = true then A else B := h
/-- values of two plain kinds -/
def vne : V → V → Bool
  | .int _, .non | .str _, .non | .bl _, .non | .ref _, .non => true
  | _, _ => false
theorem vne_ne : ∀ {x y : V}, vne x y = true → x ≠ y := by
  intro x y h
  unfold vne at h
  split at h <;> first | (intro z; cases z; done) | cases h
theorem iteVF {A B : Prop} {x y : V} [Decidable (x = y)] (n : vne x y = true) (h : B) : if decide (x = y) = true then A else B := by
  rw [decide_eq_false (vne_ne n)]; exact iteF h
theorem iteVT {A B : Prop} {x : V} [Decidable (x = x)] (h : A) : if decide (x = x) = true then A else B := by
  rw [decide_eq_true rfl]; exact iteT h
theorem iteNVF {A B : Prop} {x y : V} [Decidable (x = y)] (n : vne x y = true) (h : A) : if (!decide (x = y)) = true then A else B := by
  rw [decide_eq_false (vne_ne n)]; exact iteNF h
theorem iteNVT {A B : Prop} {x : V} [Decidable (x = x)] (h : B) : if (!decide (x = x)) = true then A else B := by
  rw [decide_eq_true rfl]; exact iteNT h
section
variable {σ : L2.St} {H : Hp} {Q : VK} {tr : TA} {te : TE} {D : Ends}
theorem b_callS {sp : Sp} {E : L2.St → XK} (q : tr σ H fun vs H1 => sp vs H1 Q (E σ)) : tCallS sp E tr σ H Q := q
theorem b_w {Q0 : VK} (h0 : te σ H Q0) (hm : ∀ v H', Q0 v H' → Q v H') : tW te σ H Q := ⟨Q0, h0, hm⟩
end
/-- a statement's reading, made to bear weaker ends -/
def tWS (t : TS) : TS := fun D σ H => ∃ N : L2.St → Hp → Prop, t { D with nx := N } σ H ∧ ∀ σ' H', N σ' H' → D.nx σ' H'
theorem ps_w {X : Cx} {st : Stmt} {t : TS} (hp : PS X st t) : PS X st (tWS t) := by
  refine ⟨fun pins s σ H D I h => ?_⟩
  obtain ⟨N, h0, hm⟩ := h
  refine wpAny_mono (hp.run pins s σ H { D with nx := N } I h0) ?_ (fun _ _ z => z)
  intro f s1 hsp
  cases f with
  | next =>
    obtain ⟨σ', H', J', q⟩ := hsp
    exact ⟨σ', H', J', hm _ _ q⟩
  | brk => exact hsp
  | cont => exact hsp
  | ret u => exact hsp
theorem b_ws {t : TS} {D : Ends} {σ : L2.St} {H : Hp} (N : L2.St → Hp → Prop) (h0 : t { D with nx := N } σ H) (hm : ∀ σ' H', N σ' H' → D.nx σ' H') : tWS t D σ H := ⟨N, h0, hm⟩
theorem Dq.tupE {K : PySem.W.Frag} {M : Addr → Prop} {H : Hp} {v : V} {ds : List PyData} (h : Dq K M H v (.tuple ds)) : ∃ a xs, v = .ref a ∧ SqTm K M H a xs ∧ DqAll K M H xs ds := by
  cases h with
  | tup h a => exact ⟨_, _, rfl, h, a⟩
theorem isTy_tuple {d : PyData} (h : isTy "tuple" d = true) : ∃ ds, d = .tuple ds := by
  cases d <;> simp [isTy] at h
  exact ⟨_, rfl⟩
theorem DqAll.two {K : PySem.W.Frag} {M : Addr → Prop} {H : Hp} {xs : List V} {a b : PyData} (h : DqAll K M H xs [a, b]) : ∃ x y, xs = [x, y] ∧ Dq K M H x a ∧ Dq K M H y b := by
  cases h with
  | cons h1 h2 =>
    cases h2 with
    | cons h3 h4 =>
      cases h4
      exact ⟨_, _, rfl, h1, h3⟩
end FG

/-! FG: what is small enough to be shown; new data; tuples cut and joined -/
namespace FG
open PySem PySem.Spec PyProof.Rows L2
structure Small (h n : Nat) (d : PyData) : Prop where
  ok : d.showable = true
  dp : d.depth ≤ h
  sz : d.shown.length ≤ n
  nd : d.hasDict = false
theorem Small.mono {h n h' n' : Nat} {d : PyData} (s : Small h n d) (e1 : h ≤ h') (e2 : n ≤ n') : Small h' n' d := ⟨s.ok, Nat.le_trans s.dp e1, Nat.le_trans s.sz e2, s.nd⟩
theorem Small.show {h n : Nat} {d : PyData} (s : Small h n d) (e1 : h ≤ 60) (e2 : n ≤ 16000000) : Show d :=
  ⟨s.ok, Nat.le_trans s.dp e1, Nat.le_trans s.sz (Nat.le_trans e2 (by decide)), fun z => by rw [s.nd] at z; cases z⟩
theorem Small.non {h : Nat} : Small h 4 .none := ⟨rfl, Nat.zero_le _, by decide, rfl⟩
theorem Small.bl {h : Nat} (b : Bool) : Small h 5 (.bool b) := ⟨rfl, Nat.zero_le _, by cases b <;> decide, rfl⟩
theorem Small.int {h : Nat} {i : Int} (k : Nat) (hk : 0 < k) (hk2 : k ≤ 100) (h1 : i.natAbs < 10 ^ k) : Small h (k + 1) (.int i) := by
  refine ⟨?_, Nat.zero_le _, ?_, rfl⟩
  · simp only [PyData.showable, decide_eq_true_eq]
    by_cases h0 : i.natAbs = 0
    · rw [h0]; decide
    · rw [Nat.log2_lt h0]
      refine Nat.lt_of_lt_of_le h1 (Nat.le_trans (Nat.pow_le_pow_right (by decide) hk2) ?_)
      decide +kernel
  · have e := int_text_length_le10 hk h1
    show (Str.ofString (toString i)).length ≤ _
    rw [PySem.ofString_length]; exact e
theorem Small.str {h m : Nat} {x : Str} (hx : ∀ c ∈ x.cps.toList, c < 16 ^ 8) (hl : x.length ≤ m) : Small h (10 * m + 2) (.str x) := by
  refine ⟨rfl, Nat.zero_le _, ?_, rfl⟩
  have := PySem.StrLaws.reprText_len x hx
  simp only [PyData.shown]
  omega
theorem showableAll_of : ∀ {ds : List PyData}, (∀ d ∈ ds, d.showable = true) → PyData.showableAll ds = true
  | [], _ => rfl
  | d :: ds, h => by
    simp only [PyData.showableAll, Bool.and_eq_true]
    exact ⟨h d List.mem_cons_self, showableAll_of fun e he => h e (List.mem_cons_of_mem _ he)⟩
theorem hasDictAll_of : ∀ {ds : List PyData}, (∀ d ∈ ds, d.hasDict = false) → PyData.hasDictAll ds = false
  | [], _ => rfl
  | d :: ds, h => by
    simp only [PyData.hasDictAll, Bool.or_eq_false_iff]
    exact ⟨h d List.mem_cons_self, hasDictAll_of fun e he => h e (List.mem_cons_of_mem _ he)⟩
theorem depthAll_of {k : Nat} : ∀ {ds : List PyData}, (∀ d ∈ ds, d.depth ≤ k) → PyData.depthAll ds ≤ k
  | [], _ => Nat.zero_le _
  | d :: ds, h => by
    simp only [PyData.depthAll]
    exact Nat.max_le.mpr ⟨h d List.mem_cons_self, depthAll_of fun e he => h e (List.mem_cons_of_mem _ he)⟩
/-- the lengths' sum -/
def sumLen : List PyData → Nat
  | [] => 0
  | d :: ds => d.shown.length + 2 + sumLen ds
theorem sumLen_eq : ∀ ds : List PyData, ((PyData.shownAll ds).map (·.length)).sum + 2 * ds.length = sumLen ds
  | [] => rfl
  | d :: ds => by
    have := sumLen_eq ds
    simp only [PyData.shownAll, List.map_cons, List.sum_cons, List.length_cons, sumLen]
    omega
theorem sumLen_le {n : Nat} : ∀ {ds : List PyData}, (∀ d ∈ ds, d.shown.length ≤ n) → sumLen ds ≤ ds.length * (n + 2)
  | [], _ => Nat.zero_le _
  | d :: ds, h => by
    have h1 := h d List.mem_cons_self
    have h2 := sumLen_le fun e he => h e (List.mem_cons_of_mem _ he)
    simp only [sumLen, List.length_cons, Nat.succ_mul]
    omega
theorem shown_tuple (ds : List PyData) : (PyData.shown (.tuple ds)).length ≤ sumLen ds + 3 := by
  have h2 := tupleText_len_le (PyData.shownAll ds)
  have h3 := PyData.shownAll_length ds
  have h4 := sumLen_eq ds
  simp only [PyData.shown]
  omega
theorem shown_list (ds : List PyData) : (PyData.shown (.list ds)).length ≤ sumLen ds + 3 := by
  have h2 := listText_len_le (PyData.shownAll ds)
  have h3 := PyData.shownAll_length ds
  have h4 := sumLen_eq ds
  simp only [PyData.shown]
  omega
theorem Small.tup {h n m : Nat} {ds : List PyData} (hs : ∀ d ∈ ds, Small h n d) (hl : ds.length ≤ m) : Small (h + 1) (m * (n + 2) + 3) (.tuple ds) := by
  refine ⟨?_, ?_, ?_, ?_⟩
  · simp only [PyData.showable]; exact showableAll_of fun d hd => (hs d hd).ok
  · have := depthAll_of fun d hd => (hs d hd).dp
    simp only [PyData.depth]; omega
  · have h1 := shown_tuple ds
    have h2 := sumLen_le fun d hd => (hs d hd).sz
    have h3 := Nat.mul_le_mul_right (n + 2) hl
    omega
  · simp only [PyData.hasDict]; exact hasDictAll_of fun d hd => (hs d hd).nd
theorem Small.lst {h n m : Nat} {ds : List PyData} (hs : ∀ d ∈ ds, Small h n d) (hl : ds.length ≤ m) : Small (h + 1) (m * (n + 2) + 3) (.list ds) := by
  refine ⟨?_, ?_, ?_, ?_⟩
  · simp only [PyData.showable]; exact showableAll_of fun d hd => (hs d hd).ok
  · have := depthAll_of fun d hd => (hs d hd).dp
    simp only [PyData.depth]; omega
  · have h1 := shown_list ds
    have h2 := sumLen_le fun d hd => (hs d hd).sz
    have h3 := Nat.mul_le_mul_right (n + 2) hl
    omega
  · simp only [PyData.hasDict]; exact hasDictAll_of fun d hd => (hs d hd).nd
theorem Small.tup2 {h n m : Nat} {a b : PyData} (ha : Small h n a) (hb : Small h m b) : Small (h + 1) (n + m + 7) (.tuple [a, b]) := by
  refine ⟨?_, ?_, ?_, ?_⟩
  · simp only [PyData.showable, PyData.showableAll, ha.ok, hb.ok]; rfl
  · have h1 := ha.dp
    have h2 := hb.dp
    simp only [PyData.depth, PyData.depthAll]; omega
  · have h1 := shown_tuple [a, b]
    have h2 := ha.sz
    have h3 := hb.sz
    simp only [sumLen] at h1
    omega
  · simp only [PyData.hasDict, PyData.hasDictAll, ha.nd, hb.nd]; rfl
theorem Small.lst2 {h n m : Nat} {a b : PyData} (ha : Small h n a) (hb : Small h m b) : Small (h + 1) (n + m + 7) (.list [a, b]) := by
  refine ⟨?_, ?_, ?_, ?_⟩
  · simp only [PyData.showable, PyData.showableAll, ha.ok, hb.ok]; rfl
  · have h1 := ha.dp
    have h2 := hb.dp
    simp only [PyData.depth, PyData.depthAll]; omega
  · have h1 := shown_list [a, b]
    have h2 := ha.sz
    have h3 := hb.sz
    simp only [sumLen] at h1
    omega
  · simp only [PyData.hasDict, PyData.hasDictAll, ha.nd, hb.nd]; rfl
theorem Small.tup3 {h n m l : Nat} {a b c : PyData} (ha : Small h n a) (hb : Small h m b) (hc : Small h l c) : Small (h + 1) (n + m + l + 9) (.tuple [a, b, c]) := by
  refine ⟨?_, ?_, ?_, ?_⟩
  · simp only [PyData.showable, PyData.showableAll, ha.ok, hb.ok, hc.ok]; rfl
  · have h1 := ha.dp
    have h2 := hb.dp
    have h3 := hc.dp
    simp only [PyData.depth, PyData.depthAll]; omega
  · have h1 := shown_tuple [a, b, c]
    have h2 := ha.sz
    have h3 := hb.sz
    have h4 := hc.sz
    simp only [sumLen] at h1
    omega
  · simp only [PyData.hasDict, PyData.hasDictAll, ha.nd, hb.nd, hc.nd]; rfl
theorem Small.tup1 {h n : Nat} {a : PyData} (ha : Small h n a) : Small (h + 1) (n + 5) (.tuple [a]) := by
  refine ⟨?_, ?_, ?_, ?_⟩
  · simp only [PyData.showable, PyData.showableAll, ha.ok]; rfl
  · have h1 := ha.dp
    simp only [PyData.depth, PyData.depthAll]; omega
  · have h1 := shown_tuple [a]
    have h2 := ha.sz
    simp only [sumLen] at h1
    omega
  · simp only [PyData.hasDict, PyData.hasDictAll, ha.nd]; rfl
theorem Small.item {h n : Nat} {ds : List PyData} {d : PyData} (s : Small h n (.tuple ds)) (hm : d ∈ ds) : d.depth ≤ h ∧ d.showable = true := by
  refine ⟨?_, ?_⟩
  · have h1 := s.dp
    simp only [PyData.depth] at h1
    have : ∀ {es : List PyData}, d ∈ es → d.depth ≤ PyData.depthAll es := by
      intro es
      induction es with
      | nil => intro z; cases z
      | cons e es ih =>
        intro z
        simp only [PyData.depthAll]
        rcases List.mem_cons.mp z with rfl | z
        · exact Nat.le_max_left _ _
        · exact Nat.le_trans (ih z) (Nat.le_max_right _ _)
    have := this hm
    omega
  · have h1 := s.ok
    simp only [PyData.showable] at h1
    have : ∀ {es : List PyData}, d ∈ es → PyData.showableAll es = true → d.showable = true := by
      intro es
      induction es with
      | nil => intro z; cases z
      | cons e es ih =>
        intro z k
        simp only [PyData.showableAll, Bool.and_eq_true] at k
        rcases List.mem_cons.mp z with rfl | z
        · exact k.1
        · exact ih z k.2
    exact this hm h1

/-! ### what is tracked -/
def Trk (M : Addr → Prop) (H : Hp) : Prop := ∀ a, M a → H a ≠ none
theorem Trk.same {M : Addr → Prop} {H H' : Hp} (t : Trk M H) (s : Same H H') : Trk M H' := fun a m z => by
  cases e : H a with
  | none => exact t a m e
  | some o => rw [s _ _ e] at z; cases z
theorem Trk.pot {M : Addr → Prop} {H H' : Hp} {p : Addr} {n : Nat} (t : Trk M H) (s : SameM (· = p) H H') (hp : PotAt H' p n) : Trk M H' := fun a m z => by
  by_cases e : a = p
  · subst e
    obtain ⟨_, _, _, e, _⟩ := hp
    rw [z] at e; cases e
  · cases he : H a with
    | none => exact t a m he
    | some o => rw [s _ _ e he] at z; cases z
theorem Trk.new {M : Addr → Prop} {H : Hp} {a : Addr} (t : Trk M H) (h : H a = none) : ¬ M a := fun m => t a m h
theorem Trk.put {M : Addr → Prop} {H : Hp} {f : Addr} (t : Trk M H) (h : H f ≠ none) : Trk (fun a => M a ∨ a = f) H := fun a m => by
  rcases m with m | rfl
  · exact t a m
  · exact h
theorem none_back {H H' : Hp} {p : Addr} (s : Same H H') (h : H' p = none) : H p = none := by
  cases e : H p with
  | none => rfl
  | some o => rw [s _ _ e] at h; cases h
theorem none_backM {M : Addr → Prop} {H H' : Hp} {p : Addr} (s : SameM M H H') (n : ¬ M p) (h : H' p = none) : H p = none := by
  cases e : H p with
  | none => rfl
  | some o => rw [s _ _ n e] at h; cases h
section
variable {K : PySem.W.Frag} {M : Addr → Prop} {H H' : Hp}
theorem Dq.newT {p : Addr} {xs : List V} {ds : List PyData} (n : ¬ M p) (h : H' p = some (.tup xs)) (ha : DqAll K M H' xs ds) : Dq K M H' (.ref p) (.tuple ds) := .tup (.inl ⟨n, .inl h⟩) ha
theorem Dq.newL {p : Addr} {xs : List V} {ds : List PyData} (n : ¬ M p) (h : H' p = some (.lst xs)) (ha : DqAll K M H' xs ds) : Dq K M H' (.ref p) (.list ds) := .lst (.inl ⟨n, .inl h⟩) ha
theorem Dq.same (s : Same H H') {v : V} {d : PyData} (h : Dq K M H v d) : Dq K M H' v d := h.mono (SameM.of s)
theorem DqAll.same (s : Same H H') {v : List V} {d : List PyData} (h : DqAll K M H v d) : DqAll K M H' v d := h.mono (SameM.of s)
/-- the pot alone has changed, and it is one of M -/
theorem SameM.sub {N : Addr → Prop} (s : SameM M H H') (h : ∀ a, M a → N a) : SameM N H H' := fun b o n e => s b o (fun z => n (h b z)) e
theorem Dq.pot {p : Addr} (hp : M p) (s : SameM (· = p) H H') {v : V} {d : PyData} (h : Dq K M H v d) : Dq K M H' v d := h.mono (s.sub fun a z => by rw [z]; exact hp)
theorem DqAll.pot {p : Addr} (hp : M p) (s : SameM (· = p) H H') {v : List V} {d : List PyData} (h : DqAll K M H v d) : DqAll K M H' v d := h.mono (s.sub fun a z => by rw [z]; exact hp)
/-! tuples -/
variable {Q : VK}
theorem e_catT {a b : Addr} {xs ys : List V} (t : Trk M H) (ha : SqTm K M H a xs) (hb : SqTm K M H b ys) (hl : xs.length + ys.length ≤ 100000) (q : ∀ p H', SqTm K M H' p (xs ++ ys) → Same H H' → Q (.ref p) H') : rCatA K (.ref a) (.ref b) H Q := by
  refine ⟨a, b, xs, ys, rfl, rfl, ha.t, hb.t, Nat.le_trans hl (by decide), fun e => ?_, fun e e2 => ?_, fun _ _ p np => ?_⟩
  · refine q b H ?_ (Same.refl H)
    rw [e]; exact hb
  · refine q a H ?_ (Same.refl H)
    rw [e2, List.append_nil]; exact ha
  · exact q p _ (.inl ⟨t.new np, .inl upd_same⟩) (same_upd np)
theorem e_slT {a : Addr} {xs : List V} {lo hi : Option Int} (t : Trk M H) (ha : SqTm K M H a xs) (q : ∀ p H', SqTm K M H' p (cutV xs lo hi) → Same H H' → Q (.ref p) H') : rSlA K (.ref a) lo hi H Q := by
  refine ⟨a, xs, rfl, ha.t, fun e => ?_, fun _ p np => ?_⟩
  · refine q a H ?_ (Same.refl H)
    unfold cutV
    rw [e.1, e.2, List.drop_zero, Nat.sub_zero, List.take_length]
    exact ha
  · exact q p _ (.inl ⟨t.new np, .inl upd_same⟩) (same_upd np)
theorem cut_to (xs : List V) (n : Nat) : cutV xs none (some (n : Int)) = xs.take n := by
  unfold cutV
  rw [HT.sIx_none, HT.sIx_nat, List.drop_zero, Nat.sub_zero, List.take_eq_take_iff]
  omega
theorem cut_from (xs : List V) (n : Nat) : cutV xs (some (n : Int)) none = xs.drop n := by
  unfold cutV
  rw [HT.sIx_none, HT.sIx_nat]
  by_cases h : n ≤ xs.length
  · rw [Nat.min_eq_left h, List.take_of_length_le (by rw [List.length_drop]; omega)]
  · rw [Nat.min_eq_right (by omega), List.drop_eq_nil_of_le (Nat.le_refl _), List.drop_eq_nil_of_le (by omega), List.take_nil]
theorem e_toT {a : Addr} {xs : List V} {n : Nat} (t : Trk M H) (ha : SqTm K M H a xs) (q : ∀ p H', SqTm K M H' p (xs.take n) → Same H H' → Q (.ref p) H') : rSlA K (.ref a) none (some (n : Int)) H Q :=
  e_slT t ha (by rw [cut_to]; exact q)
theorem e_fromT {a : Addr} {xs : List V} {n : Nat} (t : Trk M H) (ha : SqTm K M H a xs) (q : ∀ p H', SqTm K M H' p (xs.drop n) → Same H H' → Q (.ref p) H') : rSlA K (.ref a) (some (n : Int)) none H Q :=
  e_slT t ha (by rw [cut_from]; exact q)
theorem e_repT {a : Addr} {xs : List V} {k : Int} (ha : SqT K H a xs) (hne : xs ≠ []) (h2 : 2 ≤ k) (h3 : k ≤ 1000) (hl : xs.length ≤ 1000) (q : ∀ p H', H p = none → H' p = some (.tup (List.replicate k.toNat xs).flatten) → Same H H' → Q (.ref p) H') :
    rRepT K (.ref a) (.int k) H Q := ⟨a, k, xs, rfl, rfl, ha, hne, h2, h3, hl, e_new q⟩
theorem e_gtup2 {k : L2.St → Hp → Prop} {i j : Nat} {a : Addr} {x y : V} {σ : L2.St} (h : SqT K H a [x, y]) (q : k ((σ.set i (some x)).set j (some y)) H) : gTup K 2 (gCons (gName i) (gCons (gName j) gNil)) (.ref a) σ H k :=
  ⟨a, [x, y], rfl, h, rfl, x, [y], rfl, y, [], rfl, rfl, q⟩
theorem b_repS {x : Str} {n : Nat} {k : Int} (e : k = n) (h2 : 2 ≤ n) (h3 : n ≤ 1000) (h4 : 1 ≤ x.length) (h5 : x.length ≤ 1000) (q : Q (.str (repS x n)) H) : qRepS (.str x) (.int k) H Q := by
  subst e
  exact ⟨x, n, rfl, rfl, h2, h3, h4, h5, q⟩
theorem b_partP {Pr : Int → Prop} {i : Int} (q : Pr i) : ∃ i', V.int i = .int i' ∧ Pr i' := ⟨i, rfl, q⟩
/-! append, join -/
theorem ty_list {p : Addr} {xs : List V} (h : H p = some (.lst xs)) : tyV K "list" (.ref p) H := .inl ⟨rfl, xs, SqL.of h⟩
theorem e_append {l : Addr} {xs : List V} {y : V} (h : H l = some (.lst xs)) (hl : xs.length < 100000) (q : ∀ H', H' l = some (.lst (xs ++ [y])) → SameM (· = l) H H' → Q .non H') : rAppend (.ref l) [y] H Q :=
  ⟨l, xs, y, rfl, rfl, h, Nat.lt_of_lt_of_le hl (by decide), q _ upd_same (SameM.upd rfl)⟩
end
def qJoin (K : PySem.W.Frag) : V → List V → Hp → VK → Prop := fun x xs H Q => ∃ a p, ∃ ys : List Str, x = .str a ∧ xs = [.ref p] ∧ (SqL K H p (ys.map V.str) ∨ SqT K H p (ys.map V.str)) ∧
      (ys.map (·.length)).sum + ys.length * a.length ≤ 16777216 ∧ Q (.str (Txt.join a ys)) H
section
variable {X : Cx} {o e : Expr} {to te : TE}
theorem p_join {apos pos : Pos} (ho : PE X o to) (he : PE X e te) (hs : starEach [e] X.env = [(false, eval e X.env)] := by rfl) (hbase : attributeBase o "join" X.env (eval o X.env) = eval o X.env := by rfl) (hline : (apos.endLine == pos.line) = true := by rfl) :
    PE X (.Call (.Attribute o "join" apos) [e] [] pos) (tM1 (qJoin X.K) to te) := pe_join ho he hs hbase hline
end
theorem e_joinL {K : PySem.W.Frag} {H : Hp} {Q : VK} {a : Str} {p : Addr} {ys : List Str} (h : SqL K H p (ys.map V.str)) (hz : (ys.map (·.length)).sum + ys.length * a.length ≤ 16777216) (q : Q (.str (Txt.join a ys)) H) : qJoin K (.str a) [.ref p] H Q :=
  ⟨a, p, ys, rfl, rfl, .inl h, hz, q⟩
theorem joinL_mem {S : List Nat} {c : Nat} : ∀ {ps : List (List Nat)}, c ∈ TL.joinL S ps → c ∈ S ∨ ∃ p ∈ ps, c ∈ p
  | [], h => by simp [TL.joinL] at h
  | [p], h => .inr ⟨p, List.mem_singleton_self p, h⟩
  | p :: q :: r, h => by
    simp only [TL.joinL, List.mem_append] at h
    rcases h with h | h | h
    · exact .inr ⟨p, List.mem_cons_self, h⟩
    · exact .inl h
    · rcases joinL_mem h with h | ⟨z, hz, h⟩
      · exact .inl h
      · exact .inr ⟨z, List.mem_cons_of_mem _ hz, h⟩
theorem join_mem {y : Str} {ps : List Str} {c : Nat} (h : c ∈ (Txt.join y ps).cps.toList) : c ∈ y.cps.toList ∨ ∃ p ∈ ps, c ∈ p.cps.toList := by
  rw [TL.join_eq] at h
  have e := TL.tl_join y ps
  have h' : c ∈ TL.tl (Str.join y ps) := h
  rw [e] at h'
  rcases joinL_mem h' with h | ⟨p, hp, hc⟩
  · exact .inl h
  · obtain ⟨z, hz, rfl⟩ := List.mem_map.mp hp
    exact .inr ⟨z, hz, hc⟩
theorem ones_sum : ∀ (ys : List Str), (∀ y ∈ ys, y.length = 1) → (ys.map (·.length)).sum = ys.length
  | [], _ => rfl
  | y :: ys, h => by
    simp only [List.map_cons, List.sum_cons, List.length_cons]
    rw [h y List.mem_cons_self, ones_sum ys fun z hz => h z (List.mem_cons_of_mem _ hz)]
    omega
theorem SameM.two {p f : Addr} {H H1 H2 : Hp} (s1 : SameM (· = p) H H1) (s2 : SameM (· = f) H1 H2) (hf : H f = none) : SameM (· = p) H H2 := fun b o n e => s2 b o (fun z => by rw [z] at e; rw [hf] at e; cases e) (s1 b o n e)
end FG

/-! FG: more steps: lists joined, dicts, calls under no guard, repr, kept errors -/
namespace FG
open PySem PySem.Spec PyProof.Rows L2
section
variable {σ : L2.St} {H : Hp} {Q : VK} {K : PySem.W.Frag}
theorem e_catL {a b : Addr} {xs ys : List V} (ha : H a = some (.lst xs)) (hb : H b = some (.lst ys)) (hl : xs.length + ys.length ≤ 100000) (q : ∀ p H', H p = none → H' p = some (.lst (xs ++ ys)) → Same H H' → Q (.ref p) H') : rCat (.ref a) (.ref b) H Q :=
  ⟨a, b, xs, ys, rfl, rfl, ha, hb, Nat.le_trans hl (by decide), e_new q⟩
theorem e_dnew (q : ∀ p H', H p = none → H' p = some (.dK []) → Same H H' → Q (.ref p) H') : tDNewK σ H Q := e_new q
theorem b_repr {M : Addr → Prop} {x : V} {d : PyData} (h : Dq K M H x d) (hs : Show d) (q : Q (.str d.shown) H) : rRepr K [x] H Q := ⟨M, x, d, rfl, h, hs, q⟩
theorem b_isQ {a C d : Addr} {fs : List (Str × V)} {c : V} {u : Value} {b : Bool} (hc : ClsV c u) (ha : H a = some (exq a (.ref C) (some d))) (hd : H d = some (.xd fs)) (T : IsiC K C) (e : PySem.W.kitOne K (.ref C) u = some b) (q : Q (.bl b) H) : rIsQ K [.ref a, c] H Q :=
  ⟨a, C, d, fs, c, u, b, rfl, hc, ha, hd, T, e, q⟩
theorem b_xq {te : TE} {n : Str} (q : te σ H fun x H1 => ∃ (a C d : Addr) (fs : List (Str × V)) (v : V), x = .ref a ∧ H1 a = some (exq a (.ref C) (some d)) ∧ H1 d = some (.xd fs) ∧
  XfC K C ∧ PySem.W.findIn K (.ref C) n = some none ∧ fs.lookup n = some v ∧ Q v H1) : tXq K n te σ H Q := q
end
/-- a list that is read while a new place may change -/
theorem SqL.new {K : PySem.W.Frag} {H : Hp} {a p : Addr} {xs : List V} (np : H p = none) (h : SqL K H a xs) : SqLm K (· = p) H a xs := by
  rcases h with h | h
  · refine .inl ⟨fun z => ?_, h⟩
    rw [z] at h
    rcases h with h | ⟨o, h⟩
    · rw [np] at h; cases h
    · rw [np] at h; cases h
  · exact .inr (.inr h)
abbrev M0 : Addr → Prop := fun _ => False
theorem Dq.free {K : PySem.W.Frag} {M : Addr → Prop} {H : Hp} {v : V} {d : PyData} (h : Dq K M H v d) : Dq K M0 H v d := h.avoid fun _ z => False.elim z
section
variable {X : Cx} {CX : CXT} {k : Nat} {f : Addr} {fd : FuncData} {ps : List Str} {sp : Sp} {E : XK} {x : Str} {p pos : Pos} {ds : List Value} {dvs : List V}
theorem pe_call0G (F : FnOkG X.prog X.w X.K X.mg X.base CX k f fd ps sp) (hgu : X.A.guards = some [])
    (hr : Room k X.A) (hg : Gl X x) (hm : X.mg x = some (.ref f)) (hk : PySem.W.keepIn X.K (.ref f) = true)
    (hb : Binds X.K fd ps ds) (hd : Vals dvs ds) (hx : Passes CX X E)
    (hdb : (x == ("__debug__" : Str)) = false := by decide) :
    PE X (.Call (.Name x p) [] [] pos) (tCall sp dvs E tNil) := by
  refine ⟨fun pins s σ H Q I h => wpAny_Call_Name_kw (ld_glob I hg hm ?_ hdb)⟩
  exact PySem.W.callWith_K0 I.kIn hk (runG (us := []) F hgu hr hb hd hx I .nil h)
end
end FG

/-! FG: data made anew, with nothing to avoid -/
namespace FG
open PySem PySem.Spec PyProof.Rows L2
section
variable {H : Hp} {Q : VK} {K : PySem.W.Frag} {xs : List V} {ds : List PyData}
theorem trk0 {H : Hp} : Trk M0 H := fun _ z => False.elim z
theorem e_tupD (h : DqAll K M0 H xs ds) (q : ∀ p H', Dq K M0 H' (.ref p) (.tuple ds) → Same H H' → Q (.ref p) H') (hl : xs.length ≤ 100000 := by first | decide | simp) : NewT xs H Q :=
  e_tup (fun p H' np hp s => q p H' (Dq.newT (fun z => z) hp (h.same s)) s) hl
theorem e_lstD (h : DqAll K M0 H xs ds) (q : ∀ p H', Dq K M0 H' (.ref p) (.list ds) → H' p = some (.lst xs) → Same H H' → Q (.ref p) H') (hl : xs.length ≤ 100000 := by first | decide | simp) : NewL xs H Q :=
  e_lst (fun p H' np hp s => q p H' (Dq.newL (fun z => z) hp (h.same s)) hp s) hl
theorem e_catD {a b : V} {ds es : List PyData} (ha : Dq K M0 H a (.tuple ds)) (hb : Dq K M0 H b (.tuple es)) (hl : ds.length + es.length ≤ 100000) (q : ∀ v H', Dq K M0 H' v (.tuple (ds ++ es)) → Same H H' → Q v H') : rCatA K a b H Q := by
  obtain ⟨p, xs, rfl, hx, hxs⟩ := ha.tupE
  obtain ⟨r, ys, rfl, hy, hys⟩ := hb.tupE
  refine e_catT trk0 hx hy (by rw [hxs.length, hys.length]; exact hl) fun t H' ht s => q _ H' (.tup ht ((hxs.same s).append (hys.same s))) s
theorem dqAll_rep {v : V} {d : PyData} (h : Dq K M0 H v d) : ∀ n : Nat, DqAll K M0 H (List.replicate n [v]).flatten (List.replicate n d)
  | 0 => .nil
  | n + 1 => by
    rw [List.replicate_succ, List.replicate_succ, List.flatten_cons]
    exact .cons h (dqAll_rep h n)
theorem e_repD {a : V} {d : PyData} {k : Int} (ha : Dq K M0 H a (.tuple [d])) (h2 : 2 ≤ k) (h3 : k ≤ 1000) (q : ∀ v H', Dq K M0 H' v (.tuple (List.replicate k.toNat d)) → Same H H' → Q v H') : rRepT K a (.int k) H Q := by
  obtain ⟨p, xs, rfl, hx, hxs⟩ := ha.tupE
  cases hxs with
  | cons h1 hn =>
    cases hn
    refine e_repT hx.t (by simp) h2 h3 (by simp) fun t H' nt ht s => q _ H' (Dq.newT (fun z => z) ht (dqAll_rep (h1.same s) _)) s
end
end FG

/-! FG: the law's end, with what the top has computed -/
namespace FG
open PySem PySem.Spec PyProof.Rows L2
/-- as walkG; the promise's words speak of K, and what the head tells of the names that were computed is handed on -/
theorem walkGX {l : PySem.W.OpenLaw} {n k : Nat} {q : Program} {loose : List Str}
    {XP : (Str → Option Value) → Heap → Prop} {YP : World → Heap → Prop} {d : DefRec} {K : Params → PySem.W.Frag}
    {sp : PySem.W.Frag → Sp} {x : Str} (hn : l.most = some n) (hn2 : n ≤ sizeLine) (hdf : d.params.defaults = [])
    (hr : Room k callerA) (hY : ∀ (w : World) (h : Heap), YP w h → (K w.params).In h)
    (F : ∀ (w : World) (mg : Str → Option Value) (fa : Addr) (h : Heap), (K w.params).In h → h.Ns mainGlobals mg → XP mg h →
      mg d.name = some (.ref fa) → ∃ fd : FuncData, (∀ (s : Shared) (u : Value), BindsTo s fd ⟨[u], []⟩ [(x, u)]) ∧
        ∀ base : Heap, (K w.params).In base → base.Ns mainGlobals mg →
          FnOkG l.prog w (K w.params) mg base CX0 k fa fd [x] (sp (K w.params)))
    (hsp : ∀ (w : World) (H : Hp) (a : Addr) (ns : List Int), ns.length ≤ n → Only H →
      SqL (K w.params) H a (ns.map V.int) → sp (K w.params) [.ref a] H (fun v _ => v = .bl true) fun _ _ _ => False) :
    PySem.W.WalkO q loose XP YP l.row.toRowW d [] (fun f vs => PySem.call f vs) := by
  refine Att.attach_call hn hdf ?_
  intro w s₀ s₁ mg mb fa o pm cd doc a vs ns G Y ho hd hcd hmg hobj hints hlen hg
  have KX := hY w _ Y
  obtain ⟨fd, hb, hF⟩ := F w mg fa _ KX G.T.g G.X hmg
  exact lawG KX G.T.g G.T.b G.T.builtins G.T.nolimit hg hobj hints (Nat.le_trans hlen hn2) hr hF hb
    (fun H hO hS => hsp w H a ns hlen hO hS)
theorem loose_int {p : Program} {lv : List (Str × PySem.W.WData)} {mg : Str → Option Value} {h : Heap} {x : Str} {i : Int} (X : PySem.W.XL p lv mg h) (hm : (x, PySem.W.WData.int i) ∈ lv) : ∃ t, mg x = some (.int i t) := by
  obtain ⟨v, a, b⟩ := X.2.val _ hm
  cases b
  exact ⟨_, a⟩
end FG

namespace K71
open PySem PySem.Spec PyProof.Rows L2 FG
def topS (i : Nat) : Stmt := PySem.Challenge.pw_fewgoings_k71_far_texts_and_what_are_non.main.body.getD i (.Pass ⟨0, 0, 0, 0⟩)
abbrev s_is_piece : Stmt := topS 10
abbrev N_is_piece : List Str := ["symbols", "value", "sign"]
abbrev P_is_piece : List Str := ["symbols", "value"]
theorem sc_is_piece : FnScope N_is_piece P_is_piece (defScope s_is_piece) := ⟨rfl, rfl, rfl, by decide +kernel, rfl, by decide +kernel, by decide +kernel⟩
abbrev s_is_times : Stmt := topS 11
abbrev N_is_times : List Str := ["value"]
abbrev P_is_times : List Str := ["value"]
theorem sc_is_times : FnScope N_is_times P_is_times (defScope s_is_times) := ⟨rfl, rfl, rfl, by decide +kernel, rfl, by decide +kernel, by decide +kernel⟩
abbrev s_length_in : Stmt := topS 12
abbrev N_length_in : List Str := ["symbols", "value", "deep", "total", "pair", "size"]
abbrev P_length_in : List Str := ["symbols", "value", "deep"]
theorem sc_length_in : FnScope N_length_in P_length_in (defScope s_length_in) := ⟨rfl, rfl, rfl, by decide +kernel, rfl, by decide +kernel, by decide +kernel⟩
abbrev s_is_far : Stmt := topS 13
abbrev N_is_far : List Str := ["symbols", "value", "found"]
abbrev P_is_far : List Str := ["symbols", "value"]
theorem sc_is_far : FnScope N_is_far P_is_far (defScope s_is_far) := ⟨rfl, rfl, rfl, by decide +kernel, rfl, by decide +kernel, by decide +kernel⟩
abbrev s_check_far : Stmt := topS 14
abbrev N_check_far : List Str := ["symbols", "value"]
abbrev P_check_far : List Str := ["symbols", "value"]
theorem sc_check_far : FnScope N_check_far P_check_far (defScope s_check_far) := ⟨rfl, rfl, rfl, by decide +kernel, rfl, by decide +kernel, by decide +kernel⟩
abbrev s_far_length : Stmt := topS 16
abbrev N_far_length : List Str := ["far"]
abbrev P_far_length : List Str := ["far"]
theorem sc_far_length : FnScope N_far_length P_far_length (defScope s_far_length) := ⟨rfl, rfl, rfl, by decide +kernel, rfl, by decide +kernel, by decide +kernel⟩
abbrev s__law_pot_of : Stmt := topS 18
abbrev N__law_pot_of : List Str := ["_law_script", "_law_k", "_law_cell", "_law_own"]
abbrev P__law_pot_of : List Str := ["_law_script", "_law_k"]
theorem sc__law_pot_of : FnScope N__law_pot_of P__law_pot_of (defScope s__law_pot_of) := ⟨rfl, rfl, rfl, by decide +kernel, rfl, by decide +kernel, by decide +kernel⟩
abbrev s__law_take : Stmt := topS 19
abbrev N__law_take : List Str := ["_law_pot", "_law_upto", "_law_prime", "_law_mixed", "_law_digit"]
abbrev P__law_take : List Str := ["_law_pot", "_law_upto"]
theorem sc__law_take : FnScope N__law_take P__law_take (defScope s__law_take) := ⟨rfl, rfl, rfl, by decide +kernel, rfl, by decide +kernel, by decide +kernel⟩
abbrev s__law_of : Stmt := topS 20
abbrev N__law_of : List Str := ["_law_pot", "_law_some"]
abbrev P__law_of : List Str := ["_law_pot", "_law_some"]
theorem sc__law_of : FnScope N__law_of P__law_of (defScope s__law_of) := ⟨rfl, rfl, rfl, by decide +kernel, rfl, by decide +kernel, by decide +kernel⟩
abbrev s__law_drawn : Stmt := topS 21
abbrev N__law_drawn : List Str := ["_law_pot", "_law_deep", "_law_found", "_law_turn", "_law_piece", "_law_at"]
abbrev P__law_drawn : List Str := ["_law_pot", "_law_deep"]
theorem sc__law_drawn : FnScope N__law_drawn P__law_drawn (defScope s__law_drawn) := ⟨rfl, rfl, rfl, by decide +kernel, rfl, by decide +kernel, by decide +kernel⟩
abbrev s__law_size : Stmt := topS 22
abbrev N__law_size : List Str := ["_law_thing", "_law_deep", "_law_total", "_law_pair", "_law_size_here", "_law_times", "_law_sign"]
abbrev P__law_size : List Str := ["_law_thing", "_law_deep"]
theorem sc__law_size : FnScope N__law_size P__law_size (defScope s__law_size) := ⟨rfl, rfl, rfl, by decide +kernel, rfl, by decide +kernel, by decide +kernel⟩
abbrev s__law_spoilt : Stmt := topS 23
abbrev N__law_spoilt : List Str := ["_law_pot", "_law_thing", "_law_at", "_law_piece", "_law_times", "_law_way", "_law_odd"]
abbrev P__law_spoilt : List Str := ["_law_pot", "_law_thing"]
theorem sc__law_spoilt : FnScope N__law_spoilt P__law_spoilt (defScope s__law_spoilt) := ⟨rfl, rfl, rfl, by decide +kernel, rfl, by decide +kernel, by decide +kernel⟩
abbrev s__law_edges : Stmt := topS 24
abbrev N__law_edges : List Str := ["_law_deep", "_law_turn", "_law_full", "_law_some"]
abbrev P__law_edges : List Str := []
theorem sc__law_edges : FnScope N__law_edges P__law_edges (defScope s__law_edges) := ⟨rfl, rfl, rfl, by decide +kernel, rfl, by decide +kernel, by decide +kernel⟩
abbrev s__law_told : Stmt := topS 25
abbrev N__law_told : List Str := ["_law_thing", "_law_got", "_law_caught", "_law_is_bad", "error"]
abbrev P__law_told : List Str := ["_law_thing"]
theorem sc__law_told : FnScope N__law_told P__law_told (defScope s__law_told) := ⟨rfl, rfl, rfl, by decide +kernel, rfl, by decide +kernel, by decide +kernel⟩
abbrev s__law_is_right : Stmt := topS 26
abbrev N__law_is_right : List Str := ["_law_thing", "_law_size_here", "_law_kept", "_law_due"]
abbrev P__law_is_right : List Str := ["_law_thing"]
theorem sc__law_is_right : FnScope N__law_is_right P__law_is_right (defScope s__law_is_right) := ⟨rfl, rfl, rfl, by decide +kernel, rfl, by decide +kernel, by decide +kernel⟩
abbrev s__law_right : Stmt := topS 27
abbrev N__law_right : List Str := ["_law_pot", "_law_turn", "_law_tale", "_law_thing"]
abbrev P__law_right : List Str := ["_law_pot"]
theorem sc__law_right : FnScope N__law_right P__law_right (defScope s__law_right) := ⟨rfl, rfl, rfl, by decide +kernel, rfl, by decide +kernel, by decide +kernel⟩
abbrev s_law : Stmt := topS 28
abbrev N_law : List Str := ["_law_script", "_law_k", "_law_thing"]
abbrev P_law : List Str := ["_law_script"]
theorem sc_law : FnScope N_law P_law (defScope s_law) := ⟨rfl, rfl, rfl, by decide +kernel, rfl, by decide +kernel, by decide +kernel⟩
structure Ad where
  f_is_piece : Addr
  d_is_piece : FuncData
  f_is_times : Addr
  d_is_times : FuncData
  f_length_in : Addr
  d_length_in : FuncData
  f_is_far : Addr
  d_is_far : FuncData
  f_check_far : Addr
  d_check_far : FuncData
  f_far_length : Addr
  d_far_length : FuncData
  f__law_pot_of : Addr
  d__law_pot_of : FuncData
  f__law_take : Addr
  d__law_take : FuncData
  f__law_of : Addr
  d__law_of : FuncData
  f__law_drawn : Addr
  d__law_drawn : FuncData
  f__law_size : Addr
  d__law_size : FuncData
  f__law_spoilt : Addr
  d__law_spoilt : FuncData
  f__law_edges : Addr
  d__law_edges : FuncData
  f__law_told : Addr
  d__law_told : FuncData
  f__law_is_right : Addr
  d__law_is_right : FuncData
  f__law_right : Addr
  d__law_right : FuncData
  f_law : Addr
  d_law : FuncData
  c_PassError : Addr
  c_BadFar : Addr
structure Txt (K : PySem.W.Frag) (mg : Str → Option Value) (D : Ad) : Prop where
  f_is_piece : Fun K "is_piece" "is_piece" s_is_piece D.f_is_piece D.d_is_piece
  b_is_piece : Binds K D.d_is_piece P_is_piece []
  g_is_piece : mg "is_piece" = some (.ref D.f_is_piece)
  f_is_times : Fun K "is_times" "is_times" s_is_times D.f_is_times D.d_is_times
  b_is_times : Binds K D.d_is_times P_is_times []
  g_is_times : mg "is_times" = some (.ref D.f_is_times)
  f_length_in : Fun K "length_in" "length_in" s_length_in D.f_length_in D.d_length_in
  b_length_in : Binds K D.d_length_in P_length_in []
  g_length_in : mg "length_in" = some (.ref D.f_length_in)
  f_is_far : Fun K "is_far" "is_far" s_is_far D.f_is_far D.d_is_far
  b_is_far : Binds K D.d_is_far P_is_far []
  g_is_far : mg "is_far" = some (.ref D.f_is_far)
  f_check_far : Fun K "check_far" "check_far" s_check_far D.f_check_far D.d_check_far
  b_check_far : Binds K D.d_check_far P_check_far []
  g_check_far : mg "check_far" = some (.ref D.f_check_far)
  f_far_length : Fun K "far_length" "far_length" s_far_length D.f_far_length D.d_far_length
  b_far_length : Binds K D.d_far_length P_far_length []
  g_far_length : mg "far_length" = some (.ref D.f_far_length)
  f__law_pot_of : Fun K "_law_pot_of" "_law_pot_of" s__law_pot_of D.f__law_pot_of D.d__law_pot_of
  b__law_pot_of : Binds K D.d__law_pot_of P__law_pot_of []
  g__law_pot_of : mg "_law_pot_of" = some (.ref D.f__law_pot_of)
  f__law_take : Fun K "_law_take" "_law_take" s__law_take D.f__law_take D.d__law_take
  b__law_take : Binds K D.d__law_take P__law_take []
  g__law_take : mg "_law_take" = some (.ref D.f__law_take)
  f__law_of : Fun K "_law_of" "_law_of" s__law_of D.f__law_of D.d__law_of
  b__law_of : Binds K D.d__law_of P__law_of []
  g__law_of : mg "_law_of" = some (.ref D.f__law_of)
  f__law_drawn : Fun K "_law_drawn" "_law_drawn" s__law_drawn D.f__law_drawn D.d__law_drawn
  b__law_drawn : Binds K D.d__law_drawn P__law_drawn []
  g__law_drawn : mg "_law_drawn" = some (.ref D.f__law_drawn)
  f__law_size : Fun K "_law_size" "_law_size" s__law_size D.f__law_size D.d__law_size
  b__law_size : Binds K D.d__law_size P__law_size []
  g__law_size : mg "_law_size" = some (.ref D.f__law_size)
  f__law_spoilt : Fun K "_law_spoilt" "_law_spoilt" s__law_spoilt D.f__law_spoilt D.d__law_spoilt
  b__law_spoilt : Binds K D.d__law_spoilt P__law_spoilt []
  g__law_spoilt : mg "_law_spoilt" = some (.ref D.f__law_spoilt)
  f__law_edges : Fun K "_law_edges" "_law_edges" s__law_edges D.f__law_edges D.d__law_edges
  b__law_edges : Binds K D.d__law_edges P__law_edges []
  g__law_edges : mg "_law_edges" = some (.ref D.f__law_edges)
  f__law_told : Fun K "_law_told" "_law_told" s__law_told D.f__law_told D.d__law_told
  b__law_told : Binds K D.d__law_told P__law_told []
  g__law_told : mg "_law_told" = some (.ref D.f__law_told)
  f__law_is_right : Fun K "_law_is_right" "_law_is_right" s__law_is_right D.f__law_is_right D.d__law_is_right
  b__law_is_right : Binds K D.d__law_is_right P__law_is_right []
  g__law_is_right : mg "_law_is_right" = some (.ref D.f__law_is_right)
  f__law_right : Fun K "_law_right" "_law_right" s__law_right D.f__law_right D.d__law_right
  b__law_right : Binds K D.d__law_right P__law_right []
  g__law_right : mg "_law_right" = some (.ref D.f__law_right)
  f_law : Fun K "law" "law" s_law D.f_law D.d_law
  b_law : Binds K D.d_law P_law []
  g_law : mg "law" = some (.ref D.f_law)
  g_PassError : mg "PassError" = some (.ref D.c_PassError)
  g_BadFar : mg "BadFar" = some (.ref D.c_BadFar)
  z_ValueError : mg "ValueError" = none
  z_abs : mg "abs" = none
  z_all : mg "all" = none
  z_bool : mg "bool" = none
  z_int : mg "int" = none
  z_isinstance : mg "isinstance" = none
  z_len : mg "len" = none
  z_list : mg "list" = none
  z_max : mg "max" = none
  z_min : mg "min" = none
  z_range : mg "range" = none
  z_repr : mg "repr" = none
  z_str : mg "str" = none
  z_tuple : mg "tuple" = none
  c_GREATEST : ∃ t, mg "GREATEST" = some (.int 1000000000000000000000000 t)
  c_LETTERS : ∃ t, mg "LETTERS" = some (.str "abcdefghijklmnopqrstuvwxyz" t)
  c_MOST_DEEP : ∃ t, mg "MOST_DEEP" = some (.int 4 t)
  c_MOST_PAIRS : ∃ t, mg "MOST_PAIRS" = some (.int 6 t)
  c_MOST_PIECE : ∃ t, mg "MOST_PIECE" = some (.int 20 t)
  c_MOST_TIMES : ∃ t, mg "MOST_TIMES" = some (.int 1000000000000000000 t)
local macro_rules | `(tactic| walk_at "sq") => `(tactic| first
  | assumption
  | exact SqL.of (by assumption)
  | exact SqT.of (by assumption)
  | exact SqLm.l (by assumption)
  | exact SqTm.t (by assumption))
local macro_rules | `(tactic| walk_at "cond") => `(tactic| first
  | assumption
  | (show (0 : Int) < _; omega)
  | (show (0 : Int) < _ ∧ _ < 1073741824; omega))
local macro_rules | `(tactic| walk_at "st") => `(tactic| first
  | with_reducible refine b_seq ?_
  | with_reducible refine b_asg ?_
  | with_reducible refine b_op ?_
  | ((with_reducible refine' b_var ?hv ?_); (case hv => exact rfl))
  | with_reducible refine b_c ?_
  | with_reducible refine b_name ?_
  | with_reducible refine b_I0 ?_
  | with_reducible refine b_cons ?_
  | with_reducible refine b_nil ?_
  | with_reducible refine b_cb ?_
  | with_reducible refine b_call ?_
  | with_reducible refine b_ret ?_
  | with_reducible refine b_ifS ?_
  | with_reducible refine b_test ?_
  | with_reducible refine b_tb ?_
  | with_reducible refine b_bl ?_
  | with_reducible refine b_blP ?_
  | with_reducible refine b_next ?_
  | with_reducible refine b_drop ?_
  | with_reducible refine b_sub ?_
  | with_reducible refine b_chain ?_
  | with_reducible refine b_and ?_
  | with_reducible refine b_or ?_
  | with_reducible refine b_not ?_
  | with_reducible refine b_andV ?_
  | with_reducible refine b_orV ?_
  | with_reducible refine b_notV ?_
  | with_reducible refine b_if ?_
  | with_reducible refine b_par ?_
  | with_reducible refine b_parE ?_
  | ((with_reducible refine' b_aug ?hv ?_); (case hv => exact rfl))
  | with_reducible refine b_ip ?_
  | with_reducible refine b_retN ?_
  | with_reducible refine b_tup ?_
  | with_reducible refine b_lst ?_
  | with_reducible refine b_sl ?_
  | with_reducible refine b_part ?_
  | with_reducible refine b_partP ?_
  | with_reducible refine b_nopart ?_
  | with_reducible refine b_bm ?_
  | with_reducible refine b_m1 ?_
  | with_reducible refine b_yes ?_
  | with_reducible refine b_un ?_
  | with_reducible refine b_neg ?_
  | with_reducible refine b_isN ?_
  | with_reducible refine b_notN ?_
  | with_reducible refine b_inS ?_
  | with_reducible refine b_int ?_
  | with_reducible refine b_intB ?_
  | with_reducible refine b_abs ?_
  | with_reducible refine b_max ?_
  | with_reducible refine b_min ?_
  | ((with_reducible refine b_eq ?hv ?_); (case hv => exact rfl))
  | ((with_reducible refine b_ne ?hv ?_); (case hv => exact rfl))
  | ((with_reducible refine' b_lenL ?hv ?_); (case hv => walk_at "sq"))
  | ((with_reducible refine' b_lenT ?hv ?_); (case hv => walk_at "sq"))
  | ((with_reducible refine' b_ixL ?hv ?hw ?_); (case hv => walk_at "sq"); (case hw => exact rfl))
  | ((with_reducible refine' b_ixT ?hv ?hw ?_); (case hv => walk_at "sq"); (case hw => exact rfl))
  | ((with_reducible refine b_I ?hv ?_); (case hv => walk_at "cond"))
  | with_reducible refine b_lcS ?_
  | with_reducible refine b_lcR ?_
  | with_reducible refine b_lcT ?_
  | with_reducible refine b_lcL ?_
  | with_reducible refine b_forT ?_
  | with_reducible refine b_forL ?_
  | with_reducible refine b_forR ?_
  | with_reducible refine b_turn ?_
  | ((with_reducible refine And.intro (a := wipe _ _ = wipe _ _) ?hv ?_); (case hv => exact rfl))
  | ((with_reducible refine And.intro (a := tyV _ "list" _ _) ?hv ?_); (case hv => exact ty_list (by assumption)))
  | with_reducible refine And.intro (a := ∃ a, V.str _ = V.str a) ⟨_, rfl⟩ ?_
  | (with_reducible refine iteT ?_)
  | (with_reducible refine iteNF ?_)
  | (with_reducible refine iteNT ?_)
  | (with_reducible refine iteVT ?_)
  | (with_reducible refine iteNVT ?_)
  | ((with_reducible refine iteVF ?hv ?_); (case hv => exact rfl))
  | ((with_reducible refine iteNVF ?hv ?_); (case hv => exact rfl))
  | with_reducible refine b_callS ?_
  | with_reducible refine b_xq ?_
  | (with_reducible refine iteF ?_))

section
variable {P : Program} {w : World} {K : PySem.W.Frag} {mg : Str → Option Value} {base : Heap} {D : Ad}
theorem ok__law_take (T : Txt K mg D) {k : Nat} : FnOk P w K mg base CX0 (k + 1) D.f__law_take D.d__law_take P__law_take spTake := by
  refine T.f__law_take.ok sc__law_take (fun vs H Q E h => ?_) (fun cdv A outer s H vs Q E hr h => ?_)
  · obtain ⟨p, u, n, rfl, _⟩ := h
    rfl
  · obtain ⟨p, u, n, rfl, hp, hn, hu0, hu1, q⟩ := h
    obtain ⟨a, b, c, hp, ha0, ha1, hb0, hb1, hc0, hc1⟩ := hp
    refine ⟨_, (pss_cons (ps_if (pt_cmpR op_gt (pe_ix ix_list (pv 0) pe_int (fun _ _ => rfl)) pe_int (nomark _)) (pss_cons (ps_set (i := 4) sc__law_take.nd rfl (by first | exact .inl rfl | exact .inr rfl) (pe_op op_mod (pe_callTy q_int (by rfl) T.z_int (by decide +kernel) (pa_cons (pe_ix ix_list (pv 0) pe_int (fun _ _ => rfl)) pa_nil)) (pv 1)))
      (pss_cons (ps_asg (pe_op op_fdiv (pe_ix ix_list (pv 0) pe_int (fun _ _ => rfl)) (pv 1)) (pg_sub (pv 0) pe_int set_list))
      (pss_one (ps_ret (pv 4))))) pss_nil)
      (pss_cons (ps_asg (pe_op op_add (pe_ix ix_list (pv 0) pe_int (fun _ _ => rfl)) pe_int) (pg_sub (pv 0) pe_int set_list))
      (pss_cons (ps_set (i := 2) sc__law_take.nd rfl (by first | exact .inl rfl | exact .inr rfl) (pe_ix ix_list (pe_lst (pa_cons pe_int (pa_cons pe_int (pa_cons pe_int (pa_cons pe_int (pa_cons pe_int pa_nil)))))) (pe_op op_mod (pe_callTy q_int (by rfl) T.z_int (by decide +kernel) (pa_cons (pe_ix ix_list (pv 0) pe_int (fun _ _ => rfl)) pa_nil)) pe_int) (fun _ _ => rfl)))
      (pss_cons (ps_set (i := 3) sc__law_take.nd rfl (by first | exact .inl rfl | exact .inr rfl) (pe_op op_mod (pe_callTy q_int (by rfl) T.z_int (by decide +kernel) (pa_cons (pe_op op_powW (pe_op op_add (pe_op op_add (pe_ix ix_list (pv 0) pe_int (fun _ _ => rfl)) (pe_op op_mulW (pe_op op_mulW pe_int (pe_ix ix_list (pv 0) pe_int (fun _ _ => rfl))) (pe_ix ix_list (pv 0) pe_int (fun _ _ => rfl)))) pe_int) pe_int) pa_nil)) (pv 2)))
      (pss_one (ps_ret (pe_op op_mod (pe_callTy q_int (by rfl) T.z_int (by decide +kernel) (pa_cons (pe_op op_fdiv (pe_op op_mulW (pv 3) (pe_op op_add (pe_op op_mod (pe_callTy q_int (by rfl) T.z_int (by decide +kernel) (pa_cons (pv 3) pa_nil)) pe_int) (pe_op op_mulW pe_int (pe_ix ix_list (pv 0) pe_int (fun _ _ => rfl))))) pe_int) pa_nil)) (pv 1)))))))), ?_⟩
    repeat walk_at "st"
    refine ite2 (fun h => ?_) (fun h => ?_)
    · have h1 : 0 < a := of_decide_eq_true h
      repeat walk_at "st"
      refine e_setL hp rfl fun H1 h1 s1 => ?_
      repeat walk_at "st"
      refine q _ _ (Int.emod_nonneg _ (by omega)) (Int.emod_lt_of_pos _ hu0) ?_ s1
      refine ⟨a / u, b, c, h1, Int.ediv_nonneg ha0 (by omega), ?_, hb0, hb1, hc0, by omega⟩
      exact Int.lt_of_le_of_lt (Int.ediv_le_self _ ha0) ha1
    · repeat walk_at "st"
      refine e_setL hp rfl fun H1 h1 s1 => ?_
      repeat walk_at "st"
      refine e_lst fun l H2 nl hl s2 => ?_
      have h2 := s2 _ _ h1
      repeat walk_at "st"
      have hm0 : 0 ≤ (c + 1) % 5 := Int.emod_nonneg _ (by decide)
      have hm1 : (c + 1) % 5 < 5 := Int.emod_lt_of_pos _ (by decide)
      obtain ⟨v, hv, hmem⟩ := atI_mem (xs := [V.int 2147483647, .int 2147483629, .int 2147483587, .int 2147483579, .int 2147483563]) hm0 (by exact hm1)
      obtain ⟨pr, rfl, hpr0, hpr1⟩ : ∃ pr : Int, v = .int pr ∧ 0 < pr ∧ pr ≤ 2147483647 := by
        simp only [List.mem_cons, List.not_mem_nil, or_false] at hmem
        rcases hmem with rfl | rfl | rfl | rfl | rfl <;> exact ⟨_, rfl, by decide, by decide⟩
      refine b_ixL (SqL.of hl) hv ?_
      repeat walk_at "st"
      refine b_I (cmul (by omega) (by omega) (by omega) (by omega)) ?_
      repeat walk_at "st"
      refine b_I (cmul (by omega) (by omega) (by omega) (by omega)) ?_
      obtain ⟨m0, m1⟩ := mul_bd (i := 70001 * (c + 1)) (j := c + 1) (a := 70001 * 1000000001) (b := 1000000001) (by omega) (by omega) (by omega) (by omega)
      generalize 70001 * (c + 1) * (c + 1) = m at m0 m1 ⊢
      repeat walk_at "st"
      refine b_I (cpow 90 (by decide) (by omega) (by omega) (by decide)) ?_
      generalize (b + m + 53) ^ (Int.toNat 3) = z
      repeat walk_at "st"
      have z0 : 0 ≤ z % pr := Int.emod_nonneg _ (by omega)
      have z1 : z % pr < pr := Int.emod_lt_of_pos _ hpr0
      generalize z % pr = y at z0 z1 ⊢
      repeat walk_at "st"
      have y0 : 0 ≤ y % 10007 := Int.emod_nonneg _ (by decide)
      have y1 : y % 10007 < 10007 := Int.emod_lt_of_pos _ (by decide)
      generalize y % 10007 = x at y0 y1 ⊢
      refine b_I (cmul (by omega) (by omega) (by omega) (by omega)) ?_
      repeat walk_at "st"
      refine b_I (cmul (by omega) (by omega) (by omega) (by omega)) ?_
      repeat walk_at "st"
      refine q _ _ (Int.emod_nonneg _ (by omega)) (Int.emod_lt_of_pos _ hu0) ?_ (s1.trans (SameM.of s2))
      exact ⟨a, b, c + 1, h2, ha0, ha1, hb0, hb1, by omega, by omega⟩
end
end K71

namespace K71
open PySem PySem.Spec PyProof.Rows L2 FG
local macro_rules | `(tactic| walk_at "sq") => `(tactic| first
  | assumption
  | exact SqL.of (by assumption)
  | exact SqT.of (by assumption)
  | exact SqLm.l (by assumption)
  | exact SqTm.t (by assumption))
local macro_rules | `(tactic| walk_at "cond") => `(tactic| first
  | assumption
  | (show (0 : Int) < _; omega)
  | (show (0 : Int) < _ ∧ _ < 1073741824; omega))
local macro_rules | `(tactic| walk_at "st") => `(tactic| first
  | with_reducible refine b_seq ?_
  | with_reducible refine b_asg ?_
  | with_reducible refine b_op ?_
  | ((with_reducible refine' b_var ?hv ?_); (case hv => exact rfl))
  | with_reducible refine b_c ?_
  | with_reducible refine b_name ?_
  | with_reducible refine b_I0 ?_
  | with_reducible refine b_cons ?_
  | with_reducible refine b_nil ?_
  | with_reducible refine b_cb ?_
  | with_reducible refine b_call ?_
  | with_reducible refine b_ret ?_
  | with_reducible refine b_ifS ?_
  | with_reducible refine b_test ?_
  | with_reducible refine b_tb ?_
  | with_reducible refine b_bl ?_
  | with_reducible refine b_blP ?_
  | with_reducible refine b_next ?_
  | with_reducible refine b_drop ?_
  | with_reducible refine b_sub ?_
  | with_reducible refine b_chain ?_
  | with_reducible refine b_and ?_
  | with_reducible refine b_or ?_
  | with_reducible refine b_not ?_
  | with_reducible refine b_andV ?_
  | with_reducible refine b_orV ?_
  | with_reducible refine b_notV ?_
  | with_reducible refine b_if ?_
  | with_reducible refine b_par ?_
  | with_reducible refine b_parE ?_
  | ((with_reducible refine' b_aug ?hv ?_); (case hv => exact rfl))
  | with_reducible refine b_ip ?_
  | with_reducible refine b_retN ?_
  | with_reducible refine b_tup ?_
  | with_reducible refine b_lst ?_
  | with_reducible refine b_sl ?_
  | with_reducible refine b_part ?_
  | with_reducible refine b_partP ?_
  | with_reducible refine b_nopart ?_
  | with_reducible refine b_bm ?_
  | with_reducible refine b_m1 ?_
  | with_reducible refine b_yes ?_
  | with_reducible refine b_un ?_
  | with_reducible refine b_neg ?_
  | with_reducible refine b_isN ?_
  | with_reducible refine b_notN ?_
  | with_reducible refine b_inS ?_
  | with_reducible refine b_int ?_
  | with_reducible refine b_intB ?_
  | with_reducible refine b_abs ?_
  | with_reducible refine b_max ?_
  | with_reducible refine b_min ?_
  | ((with_reducible refine b_eq ?hv ?_); (case hv => exact rfl))
  | ((with_reducible refine b_ne ?hv ?_); (case hv => exact rfl))
  | ((with_reducible refine' b_lenL ?hv ?_); (case hv => walk_at "sq"))
  | ((with_reducible refine' b_lenT ?hv ?_); (case hv => walk_at "sq"))
  | ((with_reducible refine' b_ixL ?hv ?hw ?_); (case hv => walk_at "sq"); (case hw => exact rfl))
  | ((with_reducible refine' b_ixT ?hv ?hw ?_); (case hv => walk_at "sq"); (case hw => exact rfl))
  | ((with_reducible refine b_I ?hv ?_); (case hv => walk_at "cond"))
  | with_reducible refine b_lcS ?_
  | with_reducible refine b_lcR ?_
  | with_reducible refine b_lcT ?_
  | with_reducible refine b_lcL ?_
  | with_reducible refine b_forT ?_
  | with_reducible refine b_forL ?_
  | with_reducible refine b_forR ?_
  | with_reducible refine b_turn ?_
  | ((with_reducible refine And.intro (a := wipe _ _ = wipe _ _) ?hv ?_); (case hv => exact rfl))
  | ((with_reducible refine And.intro (a := tyV _ "list" _ _) ?hv ?_); (case hv => exact ty_list (by assumption)))
  | with_reducible refine And.intro (a := ∃ a, V.str _ = V.str a) ⟨_, rfl⟩ ?_
  | (with_reducible refine iteT ?_)
  | (with_reducible refine iteNF ?_)
  | (with_reducible refine iteNT ?_)
  | (with_reducible refine iteVT ?_)
  | (with_reducible refine iteNVT ?_)
  | ((with_reducible refine iteVF ?hv ?_); (case hv => exact rfl))
  | ((with_reducible refine iteNVF ?hv ?_); (case hv => exact rfl))
  | with_reducible refine b_callS ?_
  | with_reducible refine b_xq ?_
  | (with_reducible refine iteF ?_))

section
variable {P : Program} {w : World} {K : PySem.W.Frag} {mg : Str → Option Value} {base : Heap} {D : Ad}
theorem ok__law_of (T : Txt K mg D) {k : Nat} : FnOk P w K mg base CX0 (k + 2) D.f__law_of D.d__law_of P__law_of (spOf K) := by
  have G__law_take : FnOk P w K mg base CX0 (k + 1) D.f__law_take D.d__law_take P__law_take spTake := ok__law_take T
  refine T.f__law_of.ok sc__law_of (fun vs H Q E h => ?_) (fun cdv A outer s H vs Q E hr h => ?_)
  · obtain ⟨p, n, _, _, ⟨a, xs, rfl, _⟩ | ⟨z, rfl, _⟩⟩ := h <;> rfl
  · obtain ⟨p, n, hp, hn, h⟩ := h
    rcases h with ⟨a, xs, rfl, hne, hS, hx0, hx1, q⟩ | ⟨z, rfl, hz0, hz1, q⟩
    · refine ⟨_, (pss_one (ps_ret (pe_ix ix_seq (pv 1) (pe_call G__law_take hr (by rfl) T.g__law_take T.f__law_take.kp T.b__law_take .nil pass0 (pa_cons (pv 0) (pa_cons (pe_callB q_len (by rfl) T.z_len (by decide +kernel) (pa_cons (pv 1) pa_nil)) pa_nil))) (fun _ _ => rfl)))), ?_⟩
      repeat walk_at "st"
      have hlen : xs.length ≠ 0 := by simpa using hx0
      refine ⟨p, xs.length, n, rfl, hp, hn, by omega, by omega, fun d H1 d0 d1 hp1 s1 => ?_⟩
      obtain ⟨v, hv, hm⟩ := atI_mem d0 d1
      have hS1 : SqL K H1 a xs := (s1.l (SqLm.of (M := (· = p)) hne hS)).l
      exact b_ixSL hS1 hv (q v H1 hm hp1 s1)
    · refine ⟨_, (pss_one (ps_ret (pe_ix ix_seq (pv 1) (pe_call G__law_take hr (by rfl) T.g__law_take T.f__law_take.kp T.b__law_take .nil pass0 (pa_cons (pv 0) (pa_cons (pe_callB q_len (by rfl) T.z_len (by decide +kernel) (pa_cons (pv 1) pa_nil)) pa_nil))) (fun _ _ => rfl)))), ?_⟩
      repeat walk_at "st"
      refine b_lenS (Nat.le_trans (Nat.le_of_lt hz1) (by decide)) ?_
      repeat walk_at "st"
      refine ⟨p, z.length, n, rfl, hp, hn, by omega, by omega, fun d H1 d0 d1 hp1 s1 => ?_⟩
      obtain ⟨c, hv, hm⟩ := atI_mem (xs := z.cps.toList) d0 (by simpa [Str.length] using d1)
      exact b_ixSS (Nat.le_trans (Nat.le_of_lt hz1) (by decide)) hv (q c H1 hm hp1 s1)
theorem ok__law_pot_of (T : Txt K mg D) {k : Nat} : FnOk P w K mg base CX0 (k + 1) D.f__law_pot_of D.d__law_pot_of P__law_pot_of (spPotOf K) := by
  refine T.f__law_pot_of.ok sc__law_pot_of (fun vs H Q E h => ?_) (fun cdv A outer s H vs Q E hr h => ?_)
  · obtain ⟨a, ns, j, rfl, _⟩ := h
    rfl
  · obtain ⟨a, ns, j, rfl, hS, hn, hj, q⟩ := h
    refine ⟨_, (pss_cons (ps_set (i := 2) sc__law_pot_of.nd rfl (by first | exact .inl rfl | exact .inr rfl) (pe_ifExp (pt_cmpR op_lt (pv 1) (pe_callB q_len (by rfl) T.z_len (by decide +kernel) (pa_cons (pv 0) pa_nil)) (nomark _)) (pe_ix ix_list (pv 0) (pv 1) (fun _ _ => rfl)) (pe_op op_add (pe_op op_mulW pe_int (pv 1)) pe_int)))
      (pss_cons (ps_set (i := 3) sc__law_pot_of.nd rfl (by first | exact .inl rfl | exact .inr rfl) (pe_op op_mulW (pe_op op_mod (pe_callTy q_int (by rfl) T.z_int (by decide +kernel) (pa_cons (pe_callB q_abs (by rfl) T.z_abs (by decide +kernel) (pa_cons (pv 2) pa_nil)) pa_nil)) (pe_op op_powW (pe_op op_powW pe_int pe_int) pe_int)) (pe_callTy q_int (by rfl) T.z_int (by decide +kernel) (pa_cons (pe_cmpR op_ge (pe_callB q_abs (by rfl) T.z_abs (by decide +kernel) (pa_cons (pv 2) pa_nil)) (pe_op op_powW pe_int pe_int) (nomark _)) pa_nil))))
      (pss_one (ps_ret (pe_lst (pa_cons (pv 3) (pa_cons (pe_op op_mod (pe_op op_add (pe_op op_add (pe_op op_mulW (pe_op op_mod (pe_callTy q_int (by rfl) T.z_int (by decide +kernel) (pa_cons (pv 2) pa_nil)) pe_int) pe_int) (pe_op op_mulW (pe_op op_mulW pe_int (pv 1)) (pv 1))) pe_int) pe_int) (pa_cons pe_int pa_nil)))))))), ?_⟩
    repeat walk_at "st"
    refine ite2 (fun h => ?_) (fun h => ?_)
    · have h1 := of_decide_eq_true h
      obtain ⟨v, hv, hm⟩ := atI_mem (xs := ns.map V.int) (i := (j : Int)) (by omega) (by exact_mod_cast h1)
      obtain ⟨cell, _, rfl⟩ := List.mem_map.mp hm
      repeat walk_at "st"
      refine b_ixL hS hv ?_
      walk_at "st"
      clear hv hm h h1
      repeat walk_at "st"
      refine b_I (cpow 4 (by decide) (by decide) (by decide) (by decide)) ?_
      repeat walk_at "st"
      refine b_I (cpow 200 (by decide) (by decide +kernel) (by decide +kernel) (by decide)) ?_
      refine b_I (show (0 : Int) < (10 ^ Int.toNat 60) ^ Int.toNat 5 by decide +kernel) ?_
      repeat walk_at "st"
      refine b_I (cpow 4 (by decide) (by decide) (by decide) (by decide)) ?_
      repeat walk_at "st"
      have a0 : 0 ≤ (if cell < 0 then -cell else cell) % (10 ^ Int.toNat 60) ^ Int.toNat 5 := Int.emod_nonneg _ (by decide +kernel)
      have a1 : (if cell < 0 then -cell else cell) % (10 ^ Int.toNat 60) ^ Int.toNat 5 < (10 ^ Int.toNat 60) ^ Int.toNat 5 := Int.emod_lt_of_pos _ (by decide +kernel)
      have a2 : ((10 : Int) ^ Int.toNat 60) ^ Int.toNat 5 < 2 ^ 1000 := by decide +kernel
      generalize (if cell < 0 then -cell else cell) % (10 ^ Int.toNat 60) ^ Int.toNat 5 = m at a0 a1 ⊢
      have a3 : m < 2 ^ 1000 := Int.lt_trans a1 a2
      have b0 : ∀ b : Bool, (0 : Int) ≤ (if b = true then 1 else 0) ∧ (if b = true then (1 : Int) else 0) ≤ 1 := fun b => by cases b <;> decide
      obtain ⟨b1, b2⟩ := b0 (decide ((10 : Int) ^ Int.toNat 18 ≤ if cell < 0 then -cell else cell))
      generalize (if decide ((10 : Int) ^ Int.toNat 18 ≤ if cell < 0 then -cell else cell) = true then (1 : Int) else 0) = b at b1 b2 ⊢
      refine b_I (cmul (by omega) (by omega) (by omega) (by omega)) ?_
      obtain ⟨c0, c1⟩ := mul_bd (a := 2 ^ 1000 - 1) (b := 1) a0 (by omega) b1 b2
      generalize m * b = mb at c0 c1 ⊢
      repeat walk_at "st"
      have d0 : 0 ≤ cell % 2305843009213693951 := Int.emod_nonneg _ (by decide)
      have d1 : cell % 2305843009213693951 < 2305843009213693951 := Int.emod_lt_of_pos _ (by decide)
      generalize cell % 2305843009213693951 = e at d0 d1 ⊢
      refine b_I (cmul (by omega) (by omega) (by omega) (by omega)) ?_
      repeat walk_at "st"
      refine b_I (cmul (by omega) (by omega) (by omega) (by omega)) ?_
      repeat walk_at "st"
      refine b_I (cmul (by omega) (by omega) (by omega) (by omega)) ?_
      repeat walk_at "st"
      refine e_lst fun p H1 np hp s1 => ?_
      exact q p H1 np s1 ⟨mb, _, 0, hp, c0, by omega, Int.emod_nonneg _ (by decide), Int.lt_trans (Int.emod_lt_of_pos _ (by decide)) (by decide), by decide, by decide⟩
    · repeat walk_at "st"
      refine b_I (cmul (by omega) (by omega) (by omega) (by omega)) ?_
      repeat walk_at "st"
      generalize 37 * (j : Int) + 11 = cell
      repeat walk_at "st"
      refine b_I (cpow 4 (by decide) (by decide) (by decide) (by decide)) ?_
      repeat walk_at "st"
      refine b_I (cpow 200 (by decide) (by decide +kernel) (by decide +kernel) (by decide)) ?_
      refine b_I (show (0 : Int) < (10 ^ Int.toNat 60) ^ Int.toNat 5 by decide +kernel) ?_
      repeat walk_at "st"
      refine b_I (cpow 4 (by decide) (by decide) (by decide) (by decide)) ?_
      repeat walk_at "st"
      have a0 : 0 ≤ (if cell < 0 then -cell else cell) % (10 ^ Int.toNat 60) ^ Int.toNat 5 := Int.emod_nonneg _ (by decide +kernel)
      have a1 : (if cell < 0 then -cell else cell) % (10 ^ Int.toNat 60) ^ Int.toNat 5 < (10 ^ Int.toNat 60) ^ Int.toNat 5 := Int.emod_lt_of_pos _ (by decide +kernel)
      have a2 : ((10 : Int) ^ Int.toNat 60) ^ Int.toNat 5 < 2 ^ 1000 := by decide +kernel
      generalize (if cell < 0 then -cell else cell) % (10 ^ Int.toNat 60) ^ Int.toNat 5 = m at a0 a1 ⊢
      have a3 : m < 2 ^ 1000 := Int.lt_trans a1 a2
      have b0 : ∀ b : Bool, (0 : Int) ≤ (if b = true then 1 else 0) ∧ (if b = true then (1 : Int) else 0) ≤ 1 := fun b => by cases b <;> decide
      obtain ⟨b1, b2⟩ := b0 (decide ((10 : Int) ^ Int.toNat 18 ≤ if cell < 0 then -cell else cell))
      generalize (if decide ((10 : Int) ^ Int.toNat 18 ≤ if cell < 0 then -cell else cell) = true then (1 : Int) else 0) = b at b1 b2 ⊢
      refine b_I (cmul (by omega) (by omega) (by omega) (by omega)) ?_
      obtain ⟨c0, c1⟩ := mul_bd (a := 2 ^ 1000 - 1) (b := 1) a0 (by omega) b1 b2
      generalize m * b = mb at c0 c1 ⊢
      repeat walk_at "st"
      have d0 : 0 ≤ cell % 2305843009213693951 := Int.emod_nonneg _ (by decide)
      have d1 : cell % 2305843009213693951 < 2305843009213693951 := Int.emod_lt_of_pos _ (by decide)
      generalize cell % 2305843009213693951 = e at d0 d1 ⊢
      refine b_I (cmul (by omega) (by omega) (by omega) (by omega)) ?_
      repeat walk_at "st"
      refine b_I (cmul (by omega) (by omega) (by omega) (by omega)) ?_
      repeat walk_at "st"
      refine b_I (cmul (by omega) (by omega) (by omega) (by omega)) ?_
      repeat walk_at "st"
      refine e_lst fun p H1 np hp s1 => ?_
      exact q p H1 np s1 ⟨mb, _, 0, hp, c0, by omega, Int.emod_nonneg _ (by decide), Int.lt_trans (Int.emod_lt_of_pos _ (by decide)) (by decide), by decide, by decide⟩
end
end K71

namespace FG
open PySem PySem.Spec PyProof.Rows L2
/-! ### what is shown: parts -/
theorem showableAll_mem : ∀ {ds : List PyData} {d : PyData}, PyData.showableAll ds = true → d ∈ ds → d.showable = true
  | e :: ds, d, h, hm => by
    simp only [PyData.showableAll, Bool.and_eq_true] at h
    rcases List.mem_cons.mp hm with rfl | hm
    · exact h.1
    · exact showableAll_mem h.2 hm
theorem depthAll_mem : ∀ {ds : List PyData} {d : PyData}, d ∈ ds → d.depth ≤ PyData.depthAll ds
  | e :: ds, d, hm => by
    simp only [PyData.depthAll]
    rcases List.mem_cons.mp hm with rfl | hm
    · exact Nat.le_max_left _ _
    · exact Nat.le_trans (depthAll_mem hm) (Nat.le_max_right _ _)
theorem shownAll_mem : ∀ {ds : List PyData} {d : PyData}, d ∈ ds → d.shown ∈ PyData.shownAll ds
  | e :: ds, d, hm => by
    simp only [PyData.shownAll]
    rcases List.mem_cons.mp hm with rfl | hm
    · exact List.mem_cons_self
    · exact List.mem_cons_of_mem _ (shownAll_mem hm)
theorem hasDictAll_mem : ∀ {ds : List PyData} {d : PyData}, d ∈ ds → d.hasDict = true → PyData.hasDictAll ds = true
  | e :: ds, d, hm, h => by
    simp only [PyData.hasDictAll, Bool.or_eq_true]
    rcases List.mem_cons.mp hm with rfl | hm
    · exact .inl h
    · exact .inr (hasDictAll_mem hm h)
theorem noListAll_mem : ∀ {ds : List PyData} {d : PyData}, d ∈ ds → noListAll ds = true → noList d = true
  | e :: ds, d, hm, h => by
    simp only [noListAll, Bool.and_eq_true] at h
    rcases List.mem_cons.mp hm with rfl | hm
    · exact h.1
    · exact noListAll_mem hm h.2
theorem Show.item {ds : List PyData} {d : PyData} (h : Show (.tuple ds)) (hm : d ∈ ds) : Show d := by
  obtain ⟨h1, h2, h3, h4⟩ := h
  simp only [PyData.showable] at h1
  simp only [PyData.depth] at h2
  simp only [PyData.shown] at h3
  simp only [PyData.hasDict, noList] at h4
  refine ⟨showableAll_mem h1 hm, ?_, Nat.le_trans (tupleText_mem_le (shownAll_mem hm)) h3, fun z => noListAll_mem hm (h4 (hasDictAll_mem hm z))⟩
  have := depthAll_mem hm
  omega
theorem reprChar_pos (q c : Nat) : 1 ≤ (Builtin.Str.reprChar q c).length := by
  unfold Builtin.Str.reprChar
  dsimp only
  repeat' split
  all_goals simp
theorem foldl_repr_more (q : Nat) : ∀ (l : List Nat) (acc : Array Nat), acc.size + l.length ≤ (l.foldl (fun out c => out ++ (Builtin.Str.reprChar q c).toArray) acc).size
  | [], acc => Nat.le_refl _
  | c :: r, acc => by
    have ih := foldl_repr_more q r (acc ++ (Builtin.Str.reprChar q c).toArray)
    have hc := reprChar_pos q c
    simp only [List.foldl_cons, List.length_cons]
    simp only [Array.size_append, List.size_toArray] at ih
    omega
theorem reprText_more (x : Str) : x.length ≤ (reprText x).length := by
  unfold reprText
  show _ ≤ ((x.cps.foldl (fun out c => out ++ (Builtin.Str.reprChar (reprQuote x) c).toArray) #[reprQuote x]).push (reprQuote x)).size
  rw [Array.size_push, ← Array.foldl_toList]
  have h := foldl_repr_more (reprQuote x) x.cps.toList #[reprQuote x]
  have e : x.cps.toList.length = x.length := by simp [Str.length]
  rw [e] at h
  omega
theorem Show.str {x : Str} (h : Show (.str x)) : x.length ≤ sizeLine := by
  have h3 := h.sz
  simp only [PyData.shown] at h3
  exact Nat.le_trans (reprText_more x) h3
end FG
namespace K71
open PySem PySem.Spec PyProof.Rows L2 FG
/-! ### the mathematics -/
def pieceOk (syms x : Str) : Bool := decide (1 ≤ x.length) && (decide (x.length ≤ 20) && x.cps.toList.all fun c => decide (c ∈ syms.cps.toList))
def isPiece (syms : Str) : PyData → Bool
  | .str x => pieceOk syms x
  | _ => false
def timesOk (m : Int) : Bool := decide (1 ≤ m) && decide (m ≤ 1000000000000000000)
def isTimes : PyData → Bool
  | .int m => timesOk m
  | _ => false
/-- the sum of sizes times times; none where a pair is none -/
def lenAcc (f : PyData → Option Int) : Int → List PyData → Option Int
  | acc, [] => some acc
  | acc, .tuple [a, .int m] :: r => if timesOk m = true then (match f a with
      | some z => lenAcc f (acc + z * m) r
      | none => none) else none
  | _, _ :: _ => none
def farLen (syms : Str) : Nat → PyData → Option Int
  | 0, _ => none
  | n + 1, .tuple ds => if 1 ≤ ds.length ∧ ds.length ≤ 6 then lenAcc (fun a => match a with
      | .str x => if pieceOk syms x = true then some (x.length : Int) else none
      | a => farLen syms n a) 0 ds else none
  | _ + 1, _ => none
/-- the size of a first part -/
def partLen (syms : Str) (n : Nat) (a : PyData) : Option Int := match a with
  | .str x => if pieceOk syms x = true then some (x.length : Int) else none
  | a => farLen syms n a
theorem farLen_tup (syms : Str) (n : Nat) (ds : List PyData) : farLen syms (n + 1) (.tuple ds) = if 1 ≤ ds.length ∧ ds.length ≤ 6 then lenAcc (partLen syms n) 0 ds else none := rfl
def optV : Option Int → V
  | none => .non
  | some z => .int z
def capN (n : Nat) : Int := 20 * 6000000000000000000 ^ n
theorem capN_pos (n : Nat) : 20 ≤ capN n := by
  unfold capN
  have : (1 : Int) ≤ 6000000000000000000 ^ n := by
    induction n with
    | zero => decide
    | succ n ih => rw [Int.pow_succ]; omega
  omega
theorem capN_succ (n : Nat) : capN (n + 1) = 6 * (capN n * 1000000000000000000) := by
  unfold capN
  rw [Int.pow_succ]
  omega
theorem lenAcc_pair (f : PyData → Option Int) (acc m : Int) (a : PyData) (r : List PyData) : lenAcc f acc (.tuple [a, .int m] :: r) = if timesOk m = true then (match f a with
      | some z => lenAcc f (acc + z * m) r
      | none => none) else none := rfl
theorem lenAcc_none (f : PyData → Option Int) (acc : Int) (d : PyData) (r : List PyData) (h : ∀ a m, d ≠ .tuple [a, .int m]) : lenAcc f acc (d :: r) = none := by
  unfold lenAcc
  split
  · rename_i heq; cases heq
  · rename_i heq
    cases heq
    exact absurd rfl (h _ _)
  · rfl
theorem lenAcc_bd {f : PyData → Option Int} {B : Int} (hf : ∀ a z, f a = some z → 0 ≤ z ∧ z ≤ B) (hB : 0 ≤ B) : ∀ (ds : List PyData) (acc z : Int), 0 ≤ acc → lenAcc f acc ds = some z → acc ≤ z ∧ z ≤ acc + ds.length * (B * 1000000000000000000)
  | [], acc, z, h0, h => by
    simp only [lenAcc, Option.some.injEq] at h
    subst h
    simp
  | d :: r, acc, z, h0, h => by
    by_cases hd : ∃ a m, d = .tuple [a, .int m]
    · obtain ⟨a, m, rfl⟩ := hd
      rw [lenAcc_pair] at h
      split at h
      · rename_i hm
        unfold timesOk at hm
        simp only [Bool.and_eq_true, decide_eq_true_eq] at hm
        cases hz : f a with
        | none => rw [hz] at h; cases h
        | some y =>
          rw [hz] at h
          obtain ⟨y0, y1⟩ := hf a y hz
          obtain ⟨p0, p1⟩ := mul_bd y0 y1 (show 0 ≤ m by omega) hm.2
          obtain ⟨q0, q1⟩ := lenAcc_bd hf hB r (acc + y * m) z (by omega) h
          refine ⟨by omega, ?_⟩
          rw [List.length_cons]
          have : ((r.length + 1 : Nat) : Int) * (B * 1000000000000000000) = r.length * (B * 1000000000000000000) + B * 1000000000000000000 := by
            rw [Int.natCast_add, Int.add_mul]; omega
          rw [this]
          omega
      · cases h
    · rw [lenAcc_none f acc d r (fun a m e => hd ⟨a, m, e⟩)] at h
      cases h
theorem farLen_bd (syms : Str) : ∀ (n : Nat) (d : PyData) (z : Int), farLen syms n d = some z → 0 ≤ z ∧ z ≤ capN n
  | 0, d, z, h => by simp [farLen] at h
  | n + 1, d, z, h => by
    cases d with
    | tuple ds =>
      rw [farLen_tup] at h
      split at h
      · rename_i hl
        have hp : ∀ a y, partLen syms n a = some y → 0 ≤ y ∧ y ≤ capN n := by
          intro a y hy
          unfold partLen at hy
          split at hy
          · rename_i x
            split at hy
            · rename_i hx
              unfold pieceOk at hx
              simp only [Bool.and_eq_true, decide_eq_true_eq] at hx
              cases hy
              have := capN_pos n
              omega
            · cases hy
          · exact farLen_bd syms n _ _ hy
        have hc := capN_pos n
        obtain ⟨h1, h2⟩ := lenAcc_bd hp (by omega) ds 0 z (by omega) h
        rw [capN_succ]
        have : (ds.length : Int) * (capN n * 1000000000000000000) ≤ 6 * (capN n * 1000000000000000000) := Int.mul_le_mul_of_nonneg_right (by omega) (by omega)
        omega
      · cases h
    | _ => simp [farLen] at h
theorem partLen_bd (syms : Str) (n : Nat) (a : PyData) (y : Int) (hy : partLen syms n a = some y) : 0 ≤ y ∧ y ≤ capN n := by
  unfold partLen at hy
  split at hy
  · rename_i x
    split at hy
    · rename_i hx
      unfold pieceOk at hx
      simp only [Bool.and_eq_true, decide_eq_true_eq] at hx
      cases hy
      have := capN_pos n
      omega
    · cases hy
  · exact farLen_bd syms n _ _ hy
theorem capN_le {n : Nat} (h : n ≤ 4) : capN n ≤ capN 4 := by
  match n, h with
  | 0, _ => decide
  | 1, _ => decide
  | 2, _ => decide
  | 3, _ => decide
  | 4, _ => exact Int.le_refl _
end K71

namespace K71
open PySem PySem.Spec PyProof.Rows L2 FG
local macro_rules | `(tactic| walk_at "sq") => `(tactic| first
  | assumption
  | exact SqL.of (by assumption)
  | exact SqT.of (by assumption)
  | exact SqLm.l (by assumption)
  | exact SqTm.t (by assumption))
local macro_rules | `(tactic| walk_at "cond") => `(tactic| first
  | assumption
  | (show (0 : Int) < _; omega)
  | (show (0 : Int) < _ ∧ _ < 1073741824; omega))
local macro_rules | `(tactic| walk_at "st") => `(tactic| first
  | with_reducible refine b_seq ?_
  | with_reducible refine b_asg ?_
  | with_reducible refine b_op ?_
  | ((with_reducible refine' b_var ?hv ?_); (case hv => exact rfl))
  | with_reducible refine b_c ?_
  | with_reducible refine b_name ?_
  | with_reducible refine b_I0 ?_
  | with_reducible refine b_cons ?_
  | with_reducible refine b_nil ?_
  | with_reducible refine b_cb ?_
  | with_reducible refine b_call ?_
  | with_reducible refine b_ret ?_
  | with_reducible refine b_ifS ?_
  | with_reducible refine b_test ?_
  | with_reducible refine b_tb ?_
  | with_reducible refine b_bl ?_
  | with_reducible refine b_blP ?_
  | with_reducible refine b_next ?_
  | with_reducible refine b_drop ?_
  | with_reducible refine b_sub ?_
  | with_reducible refine b_chain ?_
  | with_reducible refine b_and ?_
  | with_reducible refine b_or ?_
  | with_reducible refine b_not ?_
  | with_reducible refine b_andV ?_
  | with_reducible refine b_orV ?_
  | with_reducible refine b_notV ?_
  | with_reducible refine b_if ?_
  | with_reducible refine b_par ?_
  | with_reducible refine b_parE ?_
  | ((with_reducible refine' b_aug ?hv ?_); (case hv => exact rfl))
  | with_reducible refine b_ip ?_
  | with_reducible refine b_retN ?_
  | with_reducible refine b_tup ?_
  | with_reducible refine b_lst ?_
  | with_reducible refine b_sl ?_
  | with_reducible refine b_part ?_
  | with_reducible refine b_partP ?_
  | with_reducible refine b_nopart ?_
  | with_reducible refine b_bm ?_
  | with_reducible refine b_m1 ?_
  | with_reducible refine b_yes ?_
  | with_reducible refine b_un ?_
  | with_reducible refine b_neg ?_
  | with_reducible refine b_isN ?_
  | with_reducible refine b_notN ?_
  | with_reducible refine b_inS ?_
  | with_reducible refine b_int ?_
  | with_reducible refine b_intB ?_
  | with_reducible refine b_abs ?_
  | with_reducible refine b_max ?_
  | with_reducible refine b_min ?_
  | ((with_reducible refine b_eq ?hv ?_); (case hv => exact rfl))
  | ((with_reducible refine b_ne ?hv ?_); (case hv => exact rfl))
  | ((with_reducible refine' b_lenL ?hv ?_); (case hv => walk_at "sq"))
  | ((with_reducible refine' b_lenT ?hv ?_); (case hv => walk_at "sq"))
  | ((with_reducible refine' b_ixL ?hv ?hw ?_); (case hv => walk_at "sq"); (case hw => exact rfl))
  | ((with_reducible refine' b_ixT ?hv ?hw ?_); (case hv => walk_at "sq"); (case hw => exact rfl))
  | ((with_reducible refine b_I ?hv ?_); (case hv => walk_at "cond"))
  | with_reducible refine b_lcS ?_
  | with_reducible refine b_lcR ?_
  | with_reducible refine b_lcT ?_
  | with_reducible refine b_lcL ?_
  | with_reducible refine b_forT ?_
  | with_reducible refine b_forL ?_
  | with_reducible refine b_forR ?_
  | with_reducible refine b_turn ?_
  | ((with_reducible refine And.intro (a := wipe _ _ = wipe _ _) ?hv ?_); (case hv => exact rfl))
  | ((with_reducible refine And.intro (a := tyV _ "list" _ _) ?hv ?_); (case hv => exact ty_list (by assumption)))
  | with_reducible refine And.intro (a := ∃ a, V.str _ = V.str a) ⟨_, rfl⟩ ?_
  | (with_reducible refine iteT ?_)
  | (with_reducible refine iteNF ?_)
  | (with_reducible refine iteNT ?_)
  | (with_reducible refine iteVT ?_)
  | (with_reducible refine iteNVT ?_)
  | ((with_reducible refine iteVF ?hv ?_); (case hv => exact rfl))
  | ((with_reducible refine iteNVF ?hv ?_); (case hv => exact rfl))
  | with_reducible refine b_callS ?_
  | with_reducible refine b_xq ?_
  | (with_reducible refine iteF ?_))

section
variable {P : Program} {w : World} {K : PySem.W.Frag} {mg : Str → Option Value} {base : Heap} {D : Ad}
def sp_is_piece (K : PySem.W.Frag) : Sp := fun vs H Q _ => ∃ (M : Addr → Prop) (syms : Str) (v : V) (d : PyData), vs = [.str syms, v] ∧ Dq K M H v d ∧ Show d ∧ ∀ H', Same H H' → Q (.bl (isPiece syms d)) H'
theorem isTy_str {d : PyData} (h : isTy "str" d = true) : ∃ x, d = .str x := by
  cases d <;> simp [isTy] at h
  exact ⟨_, rfl⟩
theorem ok_is_piece (T : Txt K mg D) {k : Nat} : FnOk P w K mg base CX0 (k + 1) D.f_is_piece D.d_is_piece P_is_piece (sp_is_piece K) := by
  refine T.f_is_piece.ok sc_is_piece (fun vs H Q E h => ?_) (fun cdv A outer s H vs Q E hr h => ?_)
  · obtain ⟨M, syms, v, d, rfl, _⟩ := h
    rfl
  · obtain ⟨M, syms, v, d, rfl, hd, hs, q⟩ := h
    refine ⟨_, (pss_one (ps_ret (pe_and (pe_callB call_isD (by rfl) T.z_isinstance (by decide +kernel) (pa_cons (pv 1) (pa_cons (pe_bltn (v := .ty "str") (by rfl) T.z_str (by decide +kernel) rfl) pa_nil))) (pe_and (pe_chain op_le op_le pe_int (pe_callB q_len (by rfl) T.z_len (by decide +kernel) (pa_cons (pv 1) pa_nil)) (pe_glob (v := .int 20) (by rfl) T.c_MOST_PIECE.choose_spec ⟨_, rfl⟩)) (pe_one (pe_callB (cr_all rfl) (by rfl) T.z_all (by decide +kernel) (pa_cons (pe_lc (own := [("sign", 2)]) (g := gName 2) (tt := tYes) (by rfl) sc_is_piece.nd (pi_str (pv 1)) (blkOk_by (own := [("sign", 2)]) (N := N_is_piece) (sc := defScope s_is_piece) (by decide +kernel)) (fun _ _ _ _ _ => (pg_name (i := 2) sc_is_piece.nd rfl (by first | exact .inl rfl | exact .inr rfl))) (fun _ _ _ _ _ => pts_nil) (fun _ _ _ _ _ => (pe_cmpR o_inS (pv 2) (pv 0) (by rfl)))) pa_nil))))))), ?_⟩
    repeat walk_at "st"
    refine b_isD hd (by decide) ?_
    repeat walk_at "st"
    by_cases hT : isTy "str" d = true
    · obtain ⟨x, rfl⟩ := isTy_str hT
      have hx := hs.str
      cases hd
      rw [hT]
      repeat walk_at "st"
      refine b_lenS hx ?_
      repeat walk_at "st"
      refine ite2 (fun h1 => ?_) (fun h1 => ?_)
      · repeat walk_at "st"
        refine ite2 (fun h2 => ?_) (fun h2 => ?_)
        · repeat walk_at "st"
          have e1 : 1 ≤ x.length := by have := of_decide_eq_true h1; omega
          have e2 : x.length ≤ 20 := by have := of_decide_eq_true h2; omega
          refine e_lcS (fun D i H' => H' D = some (.lst (((x.cps.toList.take i).map fun c => decide (c ∈ syms.cps.toList)).map V.bl)) ∧ Same H H') (fun D H' nD hD sD => ⟨hD, sD⟩) ?_ ?_
          · rintro D i c H' nD hc ⟨hD, sD⟩
            repeat walk_at "st"
            refine e_app hD ?_ fun H2 h2 s2 => ⟨?_, fun b o hb => ?_⟩
            · rw [List.length_map, List.length_map, List.length_take]
              have : x.cps.toList.length = x.length := by simp [Str.length]
              omega
            · rw [h2, List.take_add_one, Array.getElem?_toList, hc]
              simp
            · exact s2 b o (fun z => by rw [z] at hb; rw [hb] at nD; cases nD) (sD b o hb)
          · rintro D H' nD ⟨hD, sD⟩
            repeat walk_at "st"
            rw [List.take_of_length_le (by simp)] at hD
            refine b_all (SqL.of hD) ?_
            have e3 : isPiece syms (.str x) = (x.cps.toList.map fun c => decide (c ∈ syms.cps.toList)).all id := by
              show pieceOk syms x = _
              unfold pieceOk
              rw [decide_eq_true e1, decide_eq_true e2, List.all_map]
              rfl
            rw [← e3]
            exact q H' sD
        · repeat walk_at "st"
          have e3 : isPiece syms (.str x) = false := by
            show pieceOk syms x = _
            unfold pieceOk
            rw [decide_eq_false (p := x.length ≤ 20) (fun z => h2 (decide_eq_true (by exact_mod_cast z)))]
            simp
          rw [← e3]
          exact q H (Same.refl H)
      · repeat walk_at "st"
        have e3 : isPiece syms (.str x) = false := by
          show pieceOk syms x = _
          unfold pieceOk
          rw [decide_eq_false (p := 1 ≤ x.length) (fun z => h1 (decide_eq_true (by exact_mod_cast z)))]
          rfl
        rw [← e3]
        exact q H (Same.refl H)
    · rw [Bool.eq_false_iff.mpr hT]
      repeat walk_at "st"
      have e3 : isPiece syms d = false := by
        cases d <;> first | rfl | simp [isTy] at hT
      rw [← e3]
      exact q H (Same.refl H)
def sp_is_times (K : PySem.W.Frag) : Sp := fun vs H Q _ => ∃ (M : Addr → Prop) (v : V) (d : PyData), vs = [v] ∧ Dq K M H v d ∧ Q (.bl (isTimes d)) H
theorem ok_is_times (T : Txt K mg D) {k : Nat} : FnOk P w K mg base CX0 (k + 1) D.f_is_times D.d_is_times P_is_times (sp_is_times K) := by
  refine T.f_is_times.ok sc_is_times (fun vs H Q E h => ?_) (fun cdv A outer s H vs Q E hr h => ?_)
  · obtain ⟨M, v, d, rfl, _⟩ := h
    rfl
  · obtain ⟨M, v, d, rfl, hd, q⟩ := h
    refine ⟨_, (pss_one (ps_ret (pe_and (pe_callB call_isD (by rfl) T.z_isinstance (by decide +kernel) (pa_cons (pv 0) (pa_cons (pe_bltn (v := .ty "int") (by rfl) T.z_int (by decide +kernel) rfl) pa_nil))) (pe_and (pe_not (pe_callB call_isD (by rfl) T.z_isinstance (by decide +kernel) (pa_cons (pv 0) (pa_cons (pe_bltn (v := .ty "bool") (by rfl) T.z_bool (by decide +kernel) rfl) pa_nil)))) (pe_one (pe_chain op_le op_le pe_int (pv 0) (pe_glob (v := .int 1000000000000000000) (by rfl) T.c_MOST_TIMES.choose_spec ⟨_, rfl⟩))))))), ?_⟩
    repeat walk_at "st"
    refine b_isD hd (by decide) ?_
    repeat walk_at "st"
    cases d with
    | int i =>
      cases id hd
      rw [show isTy "int" (.int i) = true from rfl]
      repeat walk_at "st"
      refine b_isD hd (by decide) ?_
      rw [show isTy "bool" (.int i) = false from rfl]
      repeat walk_at "st"
      refine ite2 (fun h1 => ?_) (fun h1 => ?_)
      · repeat walk_at "st"
        have e : isTimes (.int i) = decide (i ≤ 1000000000000000000) := by
          show timesOk i = _
          unfold timesOk
          rw [h1]
          rfl
        rw [e] at q
        exact q
      · repeat walk_at "st"
        have e : isTimes (.int i) = false := by
          show timesOk i = _
          unfold timesOk
          rw [Bool.eq_false_iff.mpr h1]
          rfl
        rw [e] at q
        exact q
    | bool b =>
      rw [show isTy "int" (.bool b) = true from rfl]
      repeat walk_at "st"
      refine b_isD hd (by decide) ?_
      rw [show isTy "bool" (.bool b) = true from rfl]
      repeat walk_at "st"
      exact q
    | _ =>
      repeat walk_at "st"
      exact q
end
end K71

namespace K71
open PySem PySem.Spec PyProof.Rows L2 FG
local macro_rules | `(tactic| walk_at "sq") => `(tactic| first
  | assumption
  | exact SqL.of (by assumption)
  | exact SqT.of (by assumption)
  | exact SqLm.l (by assumption)
  | exact SqTm.t (by assumption))
local macro_rules | `(tactic| walk_at "cond") => `(tactic| first
  | assumption
  | (show (0 : Int) < _; omega)
  | (show (0 : Int) < _ ∧ _ < 1073741824; omega))
local macro_rules | `(tactic| walk_at "st") => `(tactic| first
  | with_reducible refine b_seq ?_
  | with_reducible refine b_asg ?_
  | with_reducible refine b_op ?_
  | ((with_reducible refine' b_var ?hv ?_); (case hv => exact rfl))
  | with_reducible refine b_c ?_
  | with_reducible refine b_name ?_
  | with_reducible refine b_I0 ?_
  | with_reducible refine b_cons ?_
  | with_reducible refine b_nil ?_
  | with_reducible refine b_cb ?_
  | with_reducible refine b_call ?_
  | with_reducible refine b_ret ?_
  | with_reducible refine b_ifS ?_
  | with_reducible refine b_test ?_
  | with_reducible refine b_tb ?_
  | with_reducible refine b_bl ?_
  | with_reducible refine b_blP ?_
  | with_reducible refine b_next ?_
  | with_reducible refine b_drop ?_
  | with_reducible refine b_sub ?_
  | with_reducible refine b_chain ?_
  | with_reducible refine b_and ?_
  | with_reducible refine b_or ?_
  | with_reducible refine b_not ?_
  | with_reducible refine b_andV ?_
  | with_reducible refine b_orV ?_
  | with_reducible refine b_notV ?_
  | with_reducible refine b_if ?_
  | with_reducible refine b_par ?_
  | with_reducible refine b_parE ?_
  | ((with_reducible refine' b_aug ?hv ?_); (case hv => exact rfl))
  | with_reducible refine b_ip ?_
  | with_reducible refine b_retN ?_
  | with_reducible refine b_tup ?_
  | with_reducible refine b_lst ?_
  | with_reducible refine b_sl ?_
  | with_reducible refine b_part ?_
  | with_reducible refine b_partP ?_
  | with_reducible refine b_nopart ?_
  | with_reducible refine b_bm ?_
  | with_reducible refine b_m1 ?_
  | with_reducible refine b_yes ?_
  | with_reducible refine b_un ?_
  | with_reducible refine b_neg ?_
  | with_reducible refine b_isN ?_
  | with_reducible refine b_notN ?_
  | with_reducible refine b_inS ?_
  | with_reducible refine b_int ?_
  | with_reducible refine b_intB ?_
  | with_reducible refine b_abs ?_
  | with_reducible refine b_max ?_
  | with_reducible refine b_min ?_
  | ((with_reducible refine b_eq ?hv ?_); (case hv => exact rfl))
  | ((with_reducible refine b_ne ?hv ?_); (case hv => exact rfl))
  | ((with_reducible refine' b_lenL ?hv ?_); (case hv => walk_at "sq"))
  | ((with_reducible refine' b_lenT ?hv ?_); (case hv => walk_at "sq"))
  | ((with_reducible refine' b_ixL ?hv ?hw ?_); (case hv => walk_at "sq"); (case hw => exact rfl))
  | ((with_reducible refine' b_ixT ?hv ?hw ?_); (case hv => walk_at "sq"); (case hw => exact rfl))
  | ((with_reducible refine b_I ?hv ?_); (case hv => walk_at "cond"))
  | with_reducible refine b_lcS ?_
  | with_reducible refine b_lcR ?_
  | with_reducible refine b_lcT ?_
  | with_reducible refine b_lcL ?_
  | with_reducible refine b_forT ?_
  | with_reducible refine b_forL ?_
  | with_reducible refine b_forR ?_
  | with_reducible refine b_turn ?_
  | ((with_reducible refine And.intro (a := wipe _ _ = wipe _ _) ?hv ?_); (case hv => exact rfl))
  | ((with_reducible refine And.intro (a := tyV _ "list" _ _) ?hv ?_); (case hv => exact ty_list (by assumption)))
  | with_reducible refine And.intro (a := ∃ a, V.str _ = V.str a) ⟨_, rfl⟩ ?_
  | (with_reducible refine iteT ?_)
  | (with_reducible refine iteNF ?_)
  | (with_reducible refine iteNT ?_)
  | (with_reducible refine iteVT ?_)
  | (with_reducible refine iteNVT ?_)
  | ((with_reducible refine iteVF ?hv ?_); (case hv => exact rfl))
  | ((with_reducible refine iteNVF ?hv ?_); (case hv => exact rfl))
  | with_reducible refine b_callS ?_
  | with_reducible refine b_xq ?_
  | (with_reducible refine iteF ?_))

section
variable {P : Program} {w : World} {K : PySem.W.Frag} {mg : Str → Option Value} {base : Heap} {D : Ad}
def sp_length_in (K : PySem.W.Frag) (j : Nat) : Sp := fun vs H Q _ => ∃ (M : Addr → Prop) (syms : Str) (v : V) (d : PyData) (n : Nat), n < j ∧ n ≤ 4 ∧ vs = [.str syms, v, .int n] ∧ Dq K M H v d ∧ Show d ∧
  ∀ H', Same H H' → Q (optV (farLen syms n d)) H'
theorem pair_shape (ds : List PyData) (h : ds.length = 2) : ∃ a b, ds = [a, b] := by
  match ds, h with
  | [a, b], _ => exact ⟨a, b, rfl⟩
theorem partLen_str {syms : Str} {n : Nat} {a : PyData} (h : isPiece syms a = true) : ∃ x, a = .str x ∧ partLen syms n a = some (x.length : Int) ∧ x.length ≤ 20 := by
  cases a <;> simp [isPiece] at h
  rename_i x
  refine ⟨x, rfl, ?_, ?_⟩
  · unfold partLen
    exact if_pos h
  · unfold pieceOk at h
    simp only [Bool.and_eq_true, decide_eq_true_eq] at h
    omega
theorem partLen_far {syms : Str} {n : Nat} {a : PyData} (h : isPiece syms a ≠ true) : partLen syms n a = farLen syms n a := by
  cases a with
  | str x =>
    have e : partLen syms n (.str x) = if pieceOk syms x = true then some (x.length : Int) else none := rfl
    rw [e, if_neg (show ¬ pieceOk syms x = true from h)]
    cases n <;> rfl
  | _ => rfl
theorem isTimes_int {b : PyData} (h : isTimes b = true) : ∃ m, b = .int m ∧ timesOk m = true ∧ 1 ≤ m ∧ m ≤ 1000000000000000000 := by
  cases b <;> simp [isTimes] at h
  rename_i m
  refine ⟨m, rfl, h, ?_⟩
  unfold timesOk at h
  simp only [Bool.and_eq_true, decide_eq_true_eq] at h
  exact h
theorem lenAcc_not {f : PyData → Option Int} {acc : Int} {d : PyData} {r : List PyData} (h : ∀ a b, d = .tuple [a, b] → isTimes b ≠ true) : lenAcc f acc (d :: r) = none := by
  by_cases hd : ∃ a m, d = .tuple [a, .int m]
  · obtain ⟨a, m, rfl⟩ := hd
    rw [lenAcc_pair, if_neg (show ¬ timesOk m = true from h a (.int m) rfl)]
  · exact lenAcc_none f acc d r fun a m e => hd ⟨a, m, e⟩
theorem ok_length_in (T : Txt K mg D) {k : Nat} : ∀ j, FnOk P w K mg base CX0 (k + j + 1) D.f_length_in D.d_length_in P_length_in (sp_length_in K j) := by
  intro j
  induction j with
  | zero =>
    refine T.f_length_in.ok sc_length_in (fun vs H Q E h => ?_) (fun cdv A outer s H vs Q E hr h => ?_)
    · obtain ⟨M, syms, v, d, n, hn, _⟩ := h
      exact absurd hn (Nat.not_lt_zero _)
    · obtain ⟨M, syms, v, d, n, hn, _⟩ := h
      exact absurd hn (Nat.not_lt_zero _)
  | succ j ih =>
  have G_length_in : FnOk P w K mg base CX0 (k + j + 1) D.f_length_in D.d_length_in P_length_in (sp_length_in K j) := ih
  have G_is_piece : FnOk P w K mg base CX0 (k + j + 1) D.f_is_piece D.d_is_piece P_is_piece (sp_is_piece K) := ok_is_piece T
  have G_is_times : FnOk P w K mg base CX0 (k + j + 1) D.f_is_times D.d_is_times P_is_times (sp_is_times K) := ok_is_times T
  refine T.f_length_in.ok sc_length_in (fun vs H Q E h => ?_) (fun cdv A outer s H vs Q E hr h => ?_)
  · obtain ⟨M, syms, v, d, n, _, _, rfl, _⟩ := h
    rfl
  · obtain ⟨M, syms, v, d, n, hnj, hn4, rfl, hd, hs, q⟩ := h
    refine ⟨_, (pss_cons (ps_if (PW.pt (pw_or (pt_cmpR op_eq (pv 2) pe_int (nomark _)) (pw_or (pt_not (pt_val (pe_callB call_isD (by rfl) T.z_isinstance (by decide +kernel) (pa_cons (pv 1) (pa_cons (pe_bltn (v := .ty "tuple") (by rfl) T.z_tuple (by decide +kernel) rfl) pa_nil))))) (pw_or1 (pt_not (pt_chain op_le op_le pe_int (pe_callB q_len (by rfl) T.z_len (by decide +kernel) (pa_cons (pv 1) pa_nil)) (pe_glob (v := .int 6) (by rfl) T.c_MOST_PAIRS.choose_spec ⟨_, rfl⟩))))))) (pss_one (ps_ret pe_non)) pss_nil)
      (pss_cons (ps_set (i := 3) sc_length_in.nd rfl (by first | exact .inl rfl | exact .inr rfl) pe_int)
      (pss_cons (ps_for PassesOwn.never rfl (pi_tup (pv 1)) (pg_name (i := 4) sc_length_in.nd rfl (by first | exact .inl rfl | exact .inr rfl)) (pss_cons (ps_if (PW.pt (pw_or (pt_not (pt_val (pe_callB call_isD (by rfl) T.z_isinstance (by decide +kernel) (pa_cons (pv 4) (pa_cons (pe_bltn (v := .ty "tuple") (by rfl) T.z_tuple (by decide +kernel) rfl) pa_nil))))) (pw_or (pt_cmpR op_ne (pe_callB q_len (by rfl) T.z_len (by decide +kernel) (pa_cons (pv 4) pa_nil)) pe_int (nomark _)) (pw_or1 (pt_not (pt_val (pe_call G_is_times hr (by rfl) T.g_is_times T.f_is_times.kp T.b_is_times .nil pass0 (pa_cons (pe_ix ix_tup (pv 4) pe_int (fun _ _ => rfl)) pa_nil)))))))) (pss_one (ps_ret pe_non)) pss_nil)
      (pss_cons (ps_set (i := 5) sc_length_in.nd rfl (by first | exact .inl rfl | exact .inr rfl) (pe_ifExp (pt_val (pe_call G_is_piece hr (by rfl) T.g_is_piece T.f_is_piece.kp T.b_is_piece .nil pass0 (pa_cons (pv 0) (pa_cons (pe_ix ix_tup (pv 4) pe_int (fun _ _ => rfl)) pa_nil)))) (pe_callB q_len (by rfl) T.z_len (by decide +kernel) (pa_cons (pe_ix ix_tup (pv 4) pe_int (fun _ _ => rfl)) pa_nil)) (pe_call G_length_in hr (by rfl) T.g_length_in T.f_length_in.kp T.b_length_in .nil pass0 (pa_cons (pv 0) (pa_cons (pe_ix ix_tup (pv 4) pe_int (fun _ _ => rfl)) (pa_cons (pe_op op_sub (pv 2) pe_int) pa_nil))))))
      (pss_cons (ps_if (pt_cmpR o_isN (pv 5) pe_non (nomark _)) (pss_one (ps_ret pe_non)) pss_nil)
      (pss_one (ps_aug (i := 3) sc_length_in.nd rfl (by first | exact .inl rfl | exact .inr rfl) (pe_op op_mulW (pv 5) (pe_ix ix_tup (pv 4) pe_int (fun _ _ => rfl))) ip_add))))))
      (pss_one (ps_ret (pv 3)))))), ?_⟩
    repeat walk_at "st"
    refine ite2 (fun h => ?_) (fun h => ?_)
    · have e := of_decide_eq_true h
      injection e with e
      obtain rfl : n = 0 := by omega
      repeat walk_at "st"
      exact q H (Same.refl H)
    obtain ⟨m, rfl⟩ : ∃ m, n = m + 1 := by
      cases n with
      | zero => exact absurd (decide_eq_true rfl) h
      | succ m => exact ⟨m, rfl⟩
    clear h
    repeat walk_at "st"
    refine b_isD hd (by decide) ?_
    repeat walk_at "st"
    by_cases hT : isTy "tuple" d = true
    rotate_left
    · rw [Bool.eq_false_iff.mpr hT]
      repeat walk_at "st"
      have e : farLen syms (m + 1) d = none := by
        cases d <;> first | rfl | simp [isTy] at hT
      rw [e] at q
      exact q H (Same.refl H)
    obtain ⟨ds, rfl⟩ := isTy_tuple hT
    rw [hT]
    obtain ⟨a, xs, rfl, hx, hxs⟩ := hd.tupE
    have hlen := hxs.length
    have hxt := hx.t
    rw [farLen_tup] at q
    repeat walk_at "st"
    refine ite2 (fun h1 => ?_) (fun h1 => ?_)
    rotate_left
    · repeat walk_at "st"
      rw [if_neg (fun z => h1 (decide_eq_true (by omega)))] at q
      exact q H (Same.refl H)
    repeat walk_at "st"
    by_cases h2 : (xs.length : Int) ≤ 6
    rotate_left
    · rw [decide_eq_false h2]
      repeat walk_at "st"
      rw [if_neg (fun z => h2 (by omega))] at q
      exact q H (Same.refl H)
    rw [decide_eq_true h2]
    have h1' := of_decide_eq_true h1
    rw [if_pos (by omega)] at q
    repeat walk_at "st"
    refine e_forT hxt (fun i σ H' => Same H H' ∧ ∃ acc x y, σ = [some (.str syms), some (.ref a), some (.int (m + 1 : Nat)), some (.int acc), x, y] ∧ 0 ≤ acc ∧ acc ≤ i * (capN m * 1000000000000000000) ∧
      lenAcc (partLen syms m) acc (ds.drop i) = lenAcc (partLen syms m) 0 ds) ?_ ?_ ?_ ?_
    · exact ⟨Same.refl H, 0, none, none, rfl, by decide, by simp, by simp⟩
    · rintro i σ H' ⟨s1, _⟩
      exact ((SameM.of s1).t hx).t
    · rintro i v σ H' hv ⟨s1, acc, x, y, rfl, ha0, ha1, hacc⟩
      obtain ⟨p, hp, hpd⟩ := hxs.get hv
      have hpd := hpd.mono (SameM.of s1)
      have hi : i < ds.length := (List.getElem?_eq_some_iff.mp hp).1
      have hsp : Show p := hs.item (List.mem_of_getElem? hp)
      rw [List.drop_eq_getElem_cons hi, (List.getElem?_eq_some_iff.mp hp).2] at hacc
      repeat walk_at "st"
      refine b_isD hpd (by decide) ?_
      repeat walk_at "st"
      by_cases hT2 : isTy "tuple" p = true
      rotate_left
      · rw [Bool.eq_false_iff.mpr hT2]
        repeat walk_at "st"
        rw [lenAcc_not (fun a b e => absurd (by rw [e]; rfl) hT2)] at hacc
        rw [← hacc] at q
        exact q H' s1
      obtain ⟨es, rfl⟩ := isTy_tuple hT2
      rw [hT2]
      obtain ⟨b, ys, rfl, hy, hys⟩ := hpd.tupE
      have hyl := hys.length
      have hyt := hy.t
      repeat walk_at "st"
      by_cases h3 : es.length = 2
      rotate_left
      · rw [decide_eq_false (show ¬ (V.int (ys.length : Int) = V.int 2) from fun z => by injection z with z; omega)]
        repeat walk_at "st"
        rw [lenAcc_not (fun a b e => absurd (by injection e with e; rw [e]; rfl) h3)] at hacc
        rw [← hacc] at q
        exact q H' s1
      rw [decide_eq_true (show V.int (ys.length : Int) = V.int 2 from by rw [hyl, h3]; rfl)]
      obtain ⟨pa, pb, rfl⟩ := pair_shape es h3
      obtain ⟨u, t, rfl, hu, ht⟩ := hys.two
      have hsa : Show pa := hsp.item (by simp)
      have hsb : Show pb := hsp.item (by simp)
      repeat walk_at "st"
      refine ⟨M, t, pb, rfl, ht, ?_⟩
      repeat walk_at "st"
      by_cases h4 : isTimes pb = true
      rotate_left
      · rw [Bool.eq_false_iff.mpr h4]
        repeat walk_at "st"
        rw [lenAcc_not (fun a b e => by injection e with e; injection e with e1 e2; injection e2 with e2; rw [← e2]; exact h4)] at hacc
        rw [← hacc] at q
        exact q H' s1
      rw [h4]
      obtain ⟨mt, rfl, ht1, ht2, ht3⟩ := isTimes_int h4
      cases ht
      rw [lenAcc_pair, if_pos ht1] at hacc
      repeat walk_at "st"
      refine ⟨M, syms, u, pa, rfl, hu, hsa, fun H2 s2 => ?_⟩
      have hyt2 := ((SameM.of (M := M) s2).t hy).t
      have hu2 := hu.mono (SameM.of s2)
      have s12 := s1.trans s2
      repeat walk_at "st"
      have hc4 := capN_le (n := m) (by omega)
      have hcv : capN 4 < 2 ^ 300 := by decide
      have hcp := capN_pos m
      have fin : ∀ (H3 : Hp) (z : Int), Same H H3 → partLen syms m pa = some z → 0 ≤ acc + z * mt ∧ acc + z * mt ≤ ((i + 1 : Nat) : Int) * (capN m * 1000000000000000000) ∧ 0 ≤ z ∧ z < 2 ^ 300 ∧ lenAcc (partLen syms m) (acc + z * mt) (ds.drop (i + 1)) = lenAcc (partLen syms m) 0 ds := by
        intro H3 z s3 hz
        rw [hz] at hacc
        obtain ⟨b0, b1⟩ := partLen_bd syms m pa z hz
        obtain ⟨p0, p1⟩ := mul_bd b0 b1 (show 0 ≤ mt by omega) ht3
        refine ⟨by omega, ?_, b0, by omega, hacc⟩
        have : ((i + 1 : Nat) : Int) * (capN m * 1000000000000000000) = i * (capN m * 1000000000000000000) + capN m * 1000000000000000000 := by
          rw [Int.natCast_add, Int.add_mul]; omega
        omega
      refine ite2 (fun h5 => ?_) (fun h5 => ?_)
      · obtain ⟨px, rfl, hpl, hpx⟩ := partLen_str (n := m) h5
        cases hu
        repeat walk_at "st"
        refine b_lenS (Nat.le_trans hpx (by decide)) ?_
        repeat walk_at "st"
        obtain ⟨f1, f2, f3, f4, f5⟩ := fin H2 _ s12 hpl
        refine b_I (cmul (by omega) (by omega) (by omega) (by omega)) ?_
        repeat walk_at "st"
        exact ⟨s12, _, _, _, rfl, f1, f2, f5⟩
      · have hpf := partLen_far (n := m) h5
        repeat walk_at "st"
        refine ⟨M, syms, u, pa, m, by omega, by omega, ?_, hu2, hsa, fun H3 s3 => ?_⟩
        · have : ((m + 1 : Nat) : Int) - 1 = m := by omega
          rw [this]
          rfl
        have s13 := s12.trans s3
        have hyt3 := ((SameM.of (M := M) (s2.trans s3)).t hy).t
        rw [← hpf]
        cases hz : partLen syms m pa with
        | none =>
          repeat walk_at "st"
          rw [hz] at hacc
          rw [← hacc] at q
          exact q H3 s13
        | some z =>
          repeat walk_at "st"
          obtain ⟨f1, f2, f3, f4, f5⟩ := fin H3 _ s13 hz
          refine b_I (cmul (by omega) (by omega) (by omega) (by omega)) ?_
          repeat walk_at "st"
          exact ⟨s13, _, _, _, rfl, f1, f2, f5⟩
    · rintro σ H' ⟨s1, acc, x, y, rfl, ha0, ha1, hacc⟩
      rw [hlen, List.drop_length] at hacc
      rw [← hacc] at q
      repeat walk_at "st"
      exact q H' s1
end
end K71

namespace K71
open PySem PySem.Spec PyProof.Rows L2 FG
local macro_rules | `(tactic| walk_at "sq") => `(tactic| first
  | assumption
  | exact SqL.of (by assumption)
  | exact SqT.of (by assumption)
  | exact SqLm.l (by assumption)
  | exact SqTm.t (by assumption))
local macro_rules | `(tactic| walk_at "cond") => `(tactic| first
  | assumption
  | (show (0 : Int) < _; omega)
  | (show (0 : Int) < _ ∧ _ < 1073741824; omega))
local macro_rules | `(tactic| walk_at "st") => `(tactic| first
  | with_reducible refine b_seq ?_
  | with_reducible refine b_asg ?_
  | with_reducible refine b_op ?_
  | ((with_reducible refine' b_var ?hv ?_); (case hv => exact rfl))
  | with_reducible refine b_c ?_
  | with_reducible refine b_name ?_
  | with_reducible refine b_I0 ?_
  | with_reducible refine b_cons ?_
  | with_reducible refine b_nil ?_
  | with_reducible refine b_cb ?_
  | with_reducible refine b_call ?_
  | with_reducible refine b_ret ?_
  | with_reducible refine b_ifS ?_
  | with_reducible refine b_test ?_
  | with_reducible refine b_tb ?_
  | with_reducible refine b_bl ?_
  | with_reducible refine b_blP ?_
  | with_reducible refine b_next ?_
  | with_reducible refine b_drop ?_
  | with_reducible refine b_sub ?_
  | with_reducible refine b_chain ?_
  | with_reducible refine b_and ?_
  | with_reducible refine b_or ?_
  | with_reducible refine b_not ?_
  | with_reducible refine b_andV ?_
  | with_reducible refine b_orV ?_
  | with_reducible refine b_notV ?_
  | with_reducible refine b_if ?_
  | with_reducible refine b_par ?_
  | with_reducible refine b_parE ?_
  | ((with_reducible refine' b_aug ?hv ?_); (case hv => exact rfl))
  | with_reducible refine b_ip ?_
  | with_reducible refine b_retN ?_
  | with_reducible refine b_tup ?_
  | with_reducible refine b_lst ?_
  | with_reducible refine b_sl ?_
  | with_reducible refine b_part ?_
  | with_reducible refine b_partP ?_
  | with_reducible refine b_nopart ?_
  | with_reducible refine b_bm ?_
  | with_reducible refine b_m1 ?_
  | with_reducible refine b_yes ?_
  | with_reducible refine b_un ?_
  | with_reducible refine b_neg ?_
  | with_reducible refine b_isN ?_
  | with_reducible refine b_notN ?_
  | with_reducible refine b_inS ?_
  | with_reducible refine b_int ?_
  | with_reducible refine b_intB ?_
  | with_reducible refine b_abs ?_
  | with_reducible refine b_max ?_
  | with_reducible refine b_min ?_
  | ((with_reducible refine b_eq ?hv ?_); (case hv => exact rfl))
  | ((with_reducible refine b_ne ?hv ?_); (case hv => exact rfl))
  | ((with_reducible refine' b_lenL ?hv ?_); (case hv => walk_at "sq"))
  | ((with_reducible refine' b_lenT ?hv ?_); (case hv => walk_at "sq"))
  | ((with_reducible refine' b_ixL ?hv ?hw ?_); (case hv => walk_at "sq"); (case hw => exact rfl))
  | ((with_reducible refine' b_ixT ?hv ?hw ?_); (case hv => walk_at "sq"); (case hw => exact rfl))
  | ((with_reducible refine b_I ?hv ?_); (case hv => walk_at "cond"))
  | with_reducible refine b_lcS ?_
  | with_reducible refine b_lcR ?_
  | with_reducible refine b_lcT ?_
  | with_reducible refine b_lcL ?_
  | with_reducible refine b_forT ?_
  | with_reducible refine b_forL ?_
  | with_reducible refine b_forR ?_
  | with_reducible refine b_turn ?_
  | ((with_reducible refine And.intro (a := wipe _ _ = wipe _ _) ?hv ?_); (case hv => exact rfl))
  | ((with_reducible refine And.intro (a := tyV _ "list" _ _) ?hv ?_); (case hv => exact ty_list (by assumption)))
  | with_reducible refine And.intro (a := ∃ a, V.str _ = V.str a) ⟨_, rfl⟩ ?_
  | (with_reducible refine iteT ?_)
  | (with_reducible refine iteNF ?_)
  | (with_reducible refine iteNT ?_)
  | (with_reducible refine iteVT ?_)
  | (with_reducible refine iteNVT ?_)
  | ((with_reducible refine iteVF ?hv ?_); (case hv => exact rfl))
  | ((with_reducible refine iteNVF ?hv ?_); (case hv => exact rfl))
  | with_reducible refine b_callS ?_
  | with_reducible refine b_xq ?_
  | (with_reducible refine iteF ?_))

section
variable {P : Program} {w : World} {K : PySem.W.Frag} {mg : Str → Option Value} {base : Heap} {D : Ad}
def farOk (syms : Str) (d : PyData) : Bool := match farLen syms 4 d with
  | some z => decide (z ≤ 1000000000000000000000000)
  | none => false
def sp_is_far (K : PySem.W.Frag) : Sp := fun vs H Q _ => ∃ (M : Addr → Prop) (syms : Str) (v : V) (d : PyData), vs = [.str syms, v] ∧ Dq K M H v d ∧ Show d ∧ ∀ H', Same H H' → Q (.bl (farOk syms d)) H'
theorem ok_is_far (T : Txt K mg D) {k : Nat} : FnOk P w K mg base CX0 (k + 7) D.f_is_far D.d_is_far P_is_far (sp_is_far K) := by
  have G_length_in : FnOk P w K mg base CX0 (k + 5 + 1) D.f_length_in D.d_length_in P_length_in (sp_length_in K 5) := ok_length_in T 5
  refine T.f_is_far.ok sc_is_far (fun vs H Q E h => ?_) (fun cdv A outer s H vs Q E hr h => ?_)
  · obtain ⟨M, syms, v, d, rfl, _⟩ := h
    rfl
  · obtain ⟨M, syms, v, d, rfl, hd, hs, q⟩ := h
    refine ⟨_, (pss_cons (ps_set (i := 2) sc_is_far.nd rfl (by first | exact .inl rfl | exact .inr rfl) (pe_call G_length_in hr (by rfl) T.g_length_in T.f_length_in.kp T.b_length_in .nil pass0 (pa_cons (pv 0) (pa_cons (pv 1) (pa_cons (pe_glob (v := .int 4) (by rfl) T.c_MOST_DEEP.choose_spec ⟨_, rfl⟩) pa_nil)))))
      (pss_one (ps_ret (pe_and (pe_cmpR o_notN (pv 2) pe_non (nomark _)) (pe_one (pe_cmpR op_le (pv 2) (pe_glob (v := .int 1000000000000000000000000) (by rfl) T.c_GREATEST.choose_spec ⟨_, rfl⟩) (nomark _))))))), ?_⟩
    repeat walk_at "st"
    refine ⟨M, syms, v, d, 4, by decide, by decide, rfl, hd, hs, fun H1 s1 => ?_⟩
    unfold farOk at q
    cases hz : farLen syms 4 d with
    | none =>
      rw [hz] at q
      repeat walk_at "st"
      exact q H1 s1
    | some z =>
      rw [hz] at q
      rw [show optV (some z) = .int z from rfl]
      repeat walk_at "st"
      exact q H1 s1
def sp_check_far (K : PySem.W.Frag) (C : Addr) : Sp := fun vs H Q E => ∃ (M : Addr → Prop) (syms : Str) (v : V) (d : PyData), vs = [.str syms, v] ∧ Dq K M H v d ∧ Show d ∧ (farOk syms d = true → ∀ H', Same H H' → Q .non H') ∧
  (farOk syms d = false → ∀ dx H', H dx = none → H' dx = some (.xd [((Str.ofString "value"), v)]) → Same H H' → E (.ref C) (some dx) H')
theorem ok_check_far (T : Txt K mg D) {D0 : Addr} (X_BadFar : ErrF P w K mg base D0 D.c_BadFar "BadFar") {k : Nat} : FnOk P w K mg base (L2.CX P w) (k + 8) D.f_check_far D.d_check_far P_check_far (sp_check_far K D.c_BadFar) := by
  have G_is_far : FnOk P w K mg base CX0 (k + 7) D.f_is_far D.d_is_far P_is_far (sp_is_far K) := ok_is_far T
  refine T.f_check_far.okX sc_check_far (fun vs H Q E h => ?_) (fun cdv A outer s H vs Q E hr h => ?_)
  · obtain ⟨M, syms, v, d, rfl, _⟩ := h
    rfl
  · obtain ⟨M, syms, v, d, rfl, hd, hs, q, q2⟩ := h
    refine ⟨_, (pss_one (ps_if (pt_not (pt_val (pe_call G_is_far hr (by rfl) T.g_is_far T.f_is_far.kp T.b_is_far .nil pass0 (pa_cons (pv 0) (pa_cons (pv 1) pa_nil))))) (pss_one (ps_err rfl (takes_of rfl rfl rfl rfl) X_BadFar hr (by rfl) (pv 1))) pss_nil)), ?_⟩
    repeat walk_at "st"
    refine ⟨M, syms, v, d, rfl, hd, hs, fun H1 s1 => ?_⟩
    repeat walk_at "st"
    cases hf : farOk syms d with
    | true =>
      repeat walk_at "st"
      exact q hf H1 s1
    | false =>
      repeat walk_at "st"
      refine fun dx hdx => q2 hf dx _ ?_ upd_same (s1.trans (same_upd hdx))
      cases he : H dx with
      | none => rfl
      | some o => rw [s1 _ _ he] at hdx; cases hdx
def letters : Str := "abcdefghijklmnopqrstuvwxyz"
def sp_far_length (K : PySem.W.Frag) (C : Addr) : Sp := fun vs H Q E => ∃ (M : Addr → Prop) (v : V) (d : PyData), vs = [v] ∧ Dq K M H v d ∧ Show d ∧ (farOk letters d = true → ∀ H', Same H H' → Q (optV (farLen letters 4 d)) H') ∧
  (farOk letters d = false → ∀ dx H', H dx = none → H' dx = some (.xd [((Str.ofString "value"), v)]) → Same H H' → E (.ref C) (some dx) H')
theorem ok_far_length (T : Txt K mg D) {D0 : Addr} (X_BadFar : ErrF P w K mg base D0 D.c_BadFar "BadFar") {k : Nat} : FnOk P w K mg base (L2.CX P w) (k + 9) D.f_far_length D.d_far_length P_far_length (sp_far_length K D.c_BadFar) := by
  have G_check_far : FnOk P w K mg base (L2.CX P w) (k + 8) D.f_check_far D.d_check_far P_check_far (sp_check_far K D.c_BadFar) := ok_check_far T X_BadFar
  have G_length_in : FnOk P w K mg base CX0 (k + 8) D.f_length_in D.d_length_in P_length_in (sp_length_in K 5) := (ok_length_in T (k := k) 5).mono (by omega)
  refine T.f_far_length.okX sc_far_length (fun vs H Q E h => ?_) (fun cdv A outer s H vs Q E hr h => ?_)
  · obtain ⟨M, v, d, rfl, _⟩ := h
    rfl
  · obtain ⟨M, v, d, rfl, hd, hs, q, q2⟩ := h
    refine ⟨_, (pss_cons (ps_expr (pe_callS G_check_far hr (by rfl) T.g_check_far T.f_check_far.kp T.b_check_far (fun σ => passAt (takes_of rfl rfl rfl rfl) σ) (pa_cons (pe_glob (v := .str "abcdefghijklmnopqrstuvwxyz") (by rfl) T.c_LETTERS.choose_spec ⟨_, rfl⟩) (pa_cons (pv 0) pa_nil))))
      (pss_one (ps_ret (pe_call G_length_in hr (by rfl) T.g_length_in T.f_length_in.kp T.b_length_in .nil pass0 (pa_cons (pe_glob (v := .str "abcdefghijklmnopqrstuvwxyz") (by rfl) T.c_LETTERS.choose_spec ⟨_, rfl⟩) (pa_cons (pv 0) (pa_cons (pe_glob (v := .int 4) (by rfl) T.c_MOST_DEEP.choose_spec ⟨_, rfl⟩) pa_nil))))))), ?_⟩
    repeat walk_at "st"
    refine ⟨M, letters, v, d, rfl, hd, hs, fun hf H1 s1 => ?_, fun hf dx H1 ndx hx s1 => q2 hf dx H1 ndx hx s1⟩
    repeat walk_at "st"
    refine ⟨M, letters, v, d, 4, by decide, by decide, rfl, hd.mono (SameM.of s1), hs, fun H2 s2 => ?_⟩
    exact q hf H2 (s1.trans s2)
end
end K71

namespace K71
open PySem PySem.Spec PyProof.Rows L2 FG
local macro_rules | `(tactic| walk_at "sq") => `(tactic| first
  | assumption
  | exact SqL.of (by assumption)
  | exact SqT.of (by assumption)
  | exact SqLm.l (by assumption)
  | exact SqTm.t (by assumption))
local macro_rules | `(tactic| walk_at "cond") => `(tactic| first
  | assumption
  | (show (0 : Int) < _; omega)
  | (show (0 : Int) < _ ∧ _ < 1073741824; omega))
local macro_rules | `(tactic| walk_at "st") => `(tactic| first
  | with_reducible refine b_seq ?_
  | with_reducible refine b_asg ?_
  | with_reducible refine b_op ?_
  | ((with_reducible refine' b_var ?hv ?_); (case hv => exact rfl))
  | with_reducible refine b_c ?_
  | with_reducible refine b_name ?_
  | with_reducible refine b_I0 ?_
  | with_reducible refine b_cons ?_
  | with_reducible refine b_nil ?_
  | with_reducible refine b_cb ?_
  | with_reducible refine b_call ?_
  | with_reducible refine b_ret ?_
  | with_reducible refine b_ifS ?_
  | with_reducible refine b_test ?_
  | with_reducible refine b_tb ?_
  | with_reducible refine b_bl ?_
  | with_reducible refine b_blP ?_
  | with_reducible refine b_next ?_
  | with_reducible refine b_drop ?_
  | with_reducible refine b_sub ?_
  | with_reducible refine b_chain ?_
  | with_reducible refine b_and ?_
  | with_reducible refine b_or ?_
  | with_reducible refine b_not ?_
  | with_reducible refine b_andV ?_
  | with_reducible refine b_orV ?_
  | with_reducible refine b_notV ?_
  | with_reducible refine b_if ?_
  | with_reducible refine b_par ?_
  | with_reducible refine b_parE ?_
  | ((with_reducible refine' b_aug ?hv ?_); (case hv => exact rfl))
  | with_reducible refine b_ip ?_
  | with_reducible refine b_retN ?_
  | with_reducible refine b_tup ?_
  | with_reducible refine b_lst ?_
  | with_reducible refine b_sl ?_
  | with_reducible refine b_part ?_
  | with_reducible refine b_partP ?_
  | with_reducible refine b_nopart ?_
  | with_reducible refine b_bm ?_
  | with_reducible refine b_m1 ?_
  | with_reducible refine b_yes ?_
  | with_reducible refine b_un ?_
  | with_reducible refine b_neg ?_
  | with_reducible refine b_isN ?_
  | with_reducible refine b_notN ?_
  | with_reducible refine b_inS ?_
  | with_reducible refine b_int ?_
  | with_reducible refine b_intB ?_
  | with_reducible refine b_abs ?_
  | with_reducible refine b_max ?_
  | with_reducible refine b_min ?_
  | ((with_reducible refine b_eq ?hv ?_); (case hv => exact rfl))
  | ((with_reducible refine b_ne ?hv ?_); (case hv => exact rfl))
  | ((with_reducible refine' b_lenL ?hv ?_); (case hv => walk_at "sq"))
  | ((with_reducible refine' b_lenT ?hv ?_); (case hv => walk_at "sq"))
  | ((with_reducible refine' b_ixL ?hv ?hw ?_); (case hv => walk_at "sq"); (case hw => exact rfl))
  | ((with_reducible refine' b_ixT ?hv ?hw ?_); (case hv => walk_at "sq"); (case hw => exact rfl))
  | ((with_reducible refine b_I ?hv ?_); (case hv => walk_at "cond"))
  | with_reducible refine b_lcS ?_
  | with_reducible refine b_lcR ?_
  | with_reducible refine b_lcT ?_
  | with_reducible refine b_lcL ?_
  | with_reducible refine b_forT ?_
  | with_reducible refine b_forL ?_
  | with_reducible refine b_forR ?_
  | with_reducible refine b_turn ?_
  | ((with_reducible refine And.intro (a := wipe _ _ = wipe _ _) ?hv ?_); (case hv => exact rfl))
  | ((with_reducible refine And.intro (a := tyV _ "list" _ _) ?hv ?_); (case hv => exact ty_list (by assumption)))
  | with_reducible refine And.intro (a := ∃ a, V.str _ = V.str a) ⟨_, rfl⟩ ?_
  | (with_reducible refine iteT ?_)
  | (with_reducible refine iteNF ?_)
  | (with_reducible refine iteNT ?_)
  | (with_reducible refine iteVT ?_)
  | (with_reducible refine iteNVT ?_)
  | ((with_reducible refine iteVF ?hv ?_); (case hv => exact rfl))
  | ((with_reducible refine iteNVF ?hv ?_); (case hv => exact rfl))
  | with_reducible refine b_callS ?_
  | with_reducible refine b_xq ?_
  | (with_reducible refine iteF ?_))

section
variable {P : Program} {w : World} {K : PySem.W.Frag} {mg : Str → Option Value} {base : Heap} {D : Ad}
def sp_size (K : PySem.W.Frag) (j : Nat) : Sp := fun vs H Q _ => ∃ (M : Addr → Prop) (v : V) (d : PyData) (n : Nat), n < j ∧ n ≤ 4 ∧ vs = [v, .int n] ∧ Dq K M H v d ∧ Show d ∧
  ∀ H', Same H H' → Q (optV (farLen letters n d)) H'
theorem pow18 : (10 : Int) ^ Int.toNat 18 = 1000000000000000000 := by decide
theorem partLen_str0 (syms : Str) (n : Nat) (x : Str) : partLen syms n (.str x) = if pieceOk syms x = true then some (x.length : Int) else none := rfl
theorem partLen_oth {syms : Str} {n : Nat} {d : PyData} (h : isTy "str" d ≠ true) : partLen syms n d = farLen syms n d := by
  cases d <;> first | rfl | simp [isTy] at h
theorem ok__law_size (T : Txt K mg D) {k : Nat} : ∀ j, FnOk P w K mg base CX0 (k + j + 1) D.f__law_size D.d__law_size P__law_size (sp_size K j) := by
  intro j
  induction j with
  | zero =>
    refine T.f__law_size.ok sc__law_size (fun vs H Q E h => ?_) (fun cdv A outer s H vs Q E hr h => ?_)
    · obtain ⟨M, v, d, n, hn, _⟩ := h
      exact absurd hn (Nat.not_lt_zero _)
    · obtain ⟨M, v, d, n, hn, _⟩ := h
      exact absurd hn (Nat.not_lt_zero _)
  | succ j ih =>
  have G__law_size : FnOk P w K mg base CX0 (k + j + 1) D.f__law_size D.d__law_size P__law_size (sp_size K j) := ih
  refine T.f__law_size.ok sc__law_size (fun vs H Q E h => ?_) (fun cdv A outer s H vs Q E hr h => ?_)
  · obtain ⟨M, v, d, n, _, _, rfl, _⟩ := h
    rfl
  · obtain ⟨M, v, d, n, hnj, hn4, rfl, hd, hs, q⟩ := h
    refine ⟨_, (pss_cons (ps_if (PW.pt (pw_or (pt_cmpR op_eq (pv 1) pe_int (nomark _)) (pw_or (pt_not (pt_val (pe_callB call_isD (by rfl) T.z_isinstance (by decide +kernel) (pa_cons (pv 0) (pa_cons (pe_bltn (v := .ty "tuple") (by rfl) T.z_tuple (by decide +kernel) rfl) pa_nil))))) (pw_or1 (pt_not (pt_chain op_le op_le pe_int (pe_callB q_len (by rfl) T.z_len (by decide +kernel) (pa_cons (pv 0) pa_nil)) pe_int)))))) (pss_one (ps_ret pe_non)) pss_nil)
      (pss_cons (ps_set (i := 2) sc__law_size.nd rfl (by first | exact .inl rfl | exact .inr rfl) pe_int)
      (pss_cons (ps_for PassesOwn.never rfl (pi_tup (pv 0)) (pg_name (i := 3) sc__law_size.nd rfl (by first | exact .inl rfl | exact .inr rfl)) (pss_cons (ps_if (PW.pt (pw_or (pt_not (pt_val (pe_callB call_isD (by rfl) T.z_isinstance (by decide +kernel) (pa_cons (pv 3) (pa_cons (pe_bltn (v := .ty "tuple") (by rfl) T.z_tuple (by decide +kernel) rfl) pa_nil))))) (pw_or1 (pt_cmpR op_ne (pe_callB q_len (by rfl) T.z_len (by decide +kernel) (pa_cons (pv 3) pa_nil)) pe_int (nomark _))))) (pss_one (ps_ret pe_non)) pss_nil)
      (pss_cons (ps_par (i := 4) (j := 5) (by rfl) sc__law_size.nd rfl rfl (by decide) rfl rfl (pa_cons (pe_call G__law_size hr (by rfl) T.g__law_size T.f__law_size.kp T.b__law_size .nil pass0 (pa_cons (pe_ix ix_tup (pv 3) pe_int (fun _ _ => rfl)) (pa_cons (pe_op op_sub (pv 1) pe_int) pa_nil))) (pa_cons (pe_ix ix_tup (pv 3) pe_int (fun _ _ => rfl)) pa_nil)) (by rfl))
      (pss_cons (ps_w (ps_if (PW.pt (pw_and (pt_val (pe_callB call_isD (by rfl) T.z_isinstance (by decide +kernel) (pa_cons (pe_ix ix_tup (pv 3) pe_int (fun _ _ => rfl)) (pa_cons (pe_bltn (v := .ty "str") (by rfl) T.z_str (by decide +kernel) rfl) pa_nil)))) (pw_and1 (pt_chain op_le op_le pe_int (pe_callB q_len (by rfl) T.z_len (by decide +kernel) (pa_cons (pe_ix ix_tup (pv 3) pe_int (fun _ _ => rfl)) pa_nil)) pe_int)))) (pss_one (ps_set (i := 4) sc__law_size.nd rfl (by first | exact .inl rfl | exact .inr rfl) (pe_ifExp (pt_val (pe_callB (cr_all rfl) (by rfl) T.z_all (by decide +kernel) (pa_cons (pe_lc (own := [("_law_sign", 6)]) (g := gName 6) (tt := tYes) (by rfl) sc__law_size.nd (pi_str (pe_ix ix_tup (pv 3) pe_int (fun _ _ => rfl))) (blkOk_by (own := [("_law_sign", 6)]) (N := N__law_size) (sc := defScope s__law_size) (by decide +kernel)) (fun _ _ _ _ _ => (pg_name (i := 6) sc__law_size.nd rfl (by first | exact .inl rfl | exact .inr rfl))) (fun _ _ _ _ _ => pts_nil) (fun _ _ _ _ _ => (pe_cmpR o_inS (pv 6) pe_str (by rfl)))) pa_nil))) (pe_callB q_len (by rfl) T.z_len (by decide +kernel) (pa_cons (pe_ix ix_tup (pv 3) pe_int (fun _ _ => rfl)) pa_nil)) pe_non))) pss_nil))
      (pss_cons (ps_if (PW.pt (pw_or (pt_not (pt_val (pe_callB call_isD (by rfl) T.z_isinstance (by decide +kernel) (pa_cons (pv 5) (pa_cons (pe_bltn (v := .ty "int") (by rfl) T.z_int (by decide +kernel) rfl) pa_nil))))) (pw_or (pt_val (pe_callB call_isD (by rfl) T.z_isinstance (by decide +kernel) (pa_cons (pv 5) (pa_cons (pe_bltn (v := .ty "bool") (by rfl) T.z_bool (by decide +kernel) rfl) pa_nil)))) (pw_or (pt_not (pt_chain op_le op_le pe_int (pv 5) (pe_op op_powW pe_int pe_int))) (pw_or1 (pt_cmpR o_isN (pv 4) pe_non (nomark _))))))) (pss_one (ps_ret pe_non)) pss_nil)
      (pss_one (ps_set (i := 2) sc__law_size.nd rfl (by first | exact .inl rfl | exact .inr rfl) (pe_op op_add (pv 2) (pe_op op_mulW (pv 4) (pv 5))))))))))
      (pss_one (ps_ret (pv 2)))))), ?_⟩
    repeat walk_at "st"
    refine ite2 (fun h => ?_) (fun h => ?_)
    · have e := of_decide_eq_true h
      injection e with e
      obtain rfl : n = 0 := by omega
      repeat walk_at "st"
      exact q H (Same.refl H)
    obtain ⟨m, rfl⟩ : ∃ m, n = m + 1 := by
      cases n with
      | zero => exact absurd (decide_eq_true rfl) h
      | succ m => exact ⟨m, rfl⟩
    clear h
    repeat walk_at "st"
    refine b_isD hd (by decide) ?_
    repeat walk_at "st"
    by_cases hT : isTy "tuple" d = true
    rotate_left
    · rw [Bool.eq_false_iff.mpr hT]
      repeat walk_at "st"
      have e : farLen letters (m + 1) d = none := by
        cases d <;> first | rfl | simp [isTy] at hT
      rw [e] at q
      exact q H (Same.refl H)
    obtain ⟨ds, rfl⟩ := isTy_tuple hT
    rw [hT]
    obtain ⟨a, xs, rfl, hx, hxs⟩ := hd.tupE
    have hlen := hxs.length
    have hxt := hx.t
    rw [farLen_tup] at q
    repeat walk_at "st"
    refine ite2 (fun h1 => ?_) (fun h1 => ?_)
    rotate_left
    · repeat walk_at "st"
      rw [if_neg (fun z => h1 (decide_eq_true (by omega)))] at q
      exact q H (Same.refl H)
    repeat walk_at "st"
    by_cases h2 : (xs.length : Int) ≤ 6
    rotate_left
    · rw [decide_eq_false h2]
      repeat walk_at "st"
      rw [if_neg (fun z => h2 (by omega))] at q
      exact q H (Same.refl H)
    rw [decide_eq_true h2]
    have h1' := of_decide_eq_true h1
    rw [if_pos (by omega)] at q
    repeat walk_at "st"
    refine e_forT hxt (fun i σ H' => Same H H' ∧ ∃ acc x y z u, σ = [some (.ref a), some (.int (m + 1 : Nat)), some (.int acc), x, y, z, u] ∧ 0 ≤ acc ∧ acc ≤ i * (capN m * 1000000000000000000) ∧
      lenAcc (partLen letters m) acc (ds.drop i) = lenAcc (partLen letters m) 0 ds) ?_ ?_ ?_ ?_
    · exact ⟨Same.refl H, 0, none, none, none, none, rfl, by decide, by simp, by simp⟩
    · rintro i σ H' ⟨s1, _⟩
      exact ((SameM.of s1).t hx).t
    · rintro i v σ H' hv ⟨s1, acc, x0, y0, z0, u0, rfl, ha0, ha1, hacc⟩
      obtain ⟨p, hp, hpd⟩ := hxs.get hv
      have hpd := hpd.mono (SameM.of s1)
      have hi : i < ds.length := (List.getElem?_eq_some_iff.mp hp).1
      have hsp : Show p := hs.item (List.mem_of_getElem? hp)
      rw [List.drop_eq_getElem_cons hi, (List.getElem?_eq_some_iff.mp hp).2] at hacc
      repeat walk_at "st"
      refine b_isD hpd (by decide) ?_
      repeat walk_at "st"
      by_cases hT2 : isTy "tuple" p = true
      rotate_left
      · rw [Bool.eq_false_iff.mpr hT2]
        repeat walk_at "st"
        rw [lenAcc_not (fun a b e => absurd (by rw [e]; rfl) hT2)] at hacc
        rw [← hacc] at q
        exact q H' s1
      obtain ⟨es, rfl⟩ := isTy_tuple hT2
      rw [hT2]
      obtain ⟨b, ys, rfl, hy, hys⟩ := hpd.tupE
      have hyl := hys.length
      have hyt := hy.t
      repeat walk_at "st"
      by_cases h3 : es.length = 2
      rotate_left
      · rw [decide_eq_false (show ¬ (V.int (ys.length : Int) = V.int 2) from fun z => by injection z with z; omega)]
        repeat walk_at "st"
        rw [lenAcc_not (fun a b e => absurd (by injection e with e; rw [e]; rfl) h3)] at hacc
        rw [← hacc] at q
        exact q H' s1
      rw [decide_eq_true (show V.int (ys.length : Int) = V.int 2 from by rw [hyl, h3]; rfl)]
      obtain ⟨pa, pb, rfl⟩ := pair_shape es h3
      obtain ⟨u, t, rfl, hu, ht⟩ := hys.two
      have hsa : Show pa := hsp.item (by simp)
      have hsb : Show pb := hsp.item (by simp)
      repeat walk_at "st"
      refine ⟨M, u, pa, m, by omega, by omega, ?_, hu, hsa, fun H2 s2 => ?_⟩
      · have : ((m + 1 : Nat) : Int) - 1 = m := by omega
        rw [this]
        rfl
      have hyt2 := ((SameM.of (M := M) s2).t hy).t
      have hu2 := hu.mono (SameM.of s2)
      have ht2 := ht.mono (SameM.of s2)
      have s12 := s1.trans s2
      repeat walk_at "st"
      have hc4 := capN_le (n := m) (by omega)
      have hcv : capN 4 < 2 ^ 300 := by decide
      have hcp := capN_pos m
      refine b_ws (fun σ' H3 => Same H2 H3 ∧ ∃ u1, σ' = [some (.ref a), some (.int (m + 1 : Nat)), some (.int acc), some (.ref b), some (optV (partLen letters m pa)), some t, u1]) ?_ ?_
      · repeat walk_at "st"
        refine b_isD hu2 (by decide) ?_
        repeat walk_at "st"
        by_cases hS : isTy "str" pa = true
        rotate_left
        · rw [Bool.eq_false_iff.mpr hS, partLen_oth hS]
          repeat walk_at "st"
          exact ⟨Same.refl _, _, rfl⟩
        obtain ⟨x, rfl⟩ := isTy_str hS
        have hx := hsa.str
        cases hu
        rw [hS, partLen_str0]
        have hno : farLen letters m (.str x) = none := by cases m <;> rfl
        rw [hno]
        repeat walk_at "st"
        refine b_lenS hx ?_
        repeat walk_at "st"
        refine ite2 (fun g1 => ?_) (fun g1 => ?_)
        rotate_left
        · repeat walk_at "st"
          refine ⟨Same.refl _, u0, ?_⟩
          rw [if_neg]
          · rfl
          · intro z
            unfold pieceOk at z
            simp only [Bool.and_eq_true, decide_eq_true_eq] at z
            exact g1 (decide_eq_true (by exact_mod_cast z.1))
        repeat walk_at "st"
        by_cases g2 : (x.length : Int) ≤ 20
        rotate_left
        · rw [decide_eq_false g2]
          repeat walk_at "st"
          refine ⟨Same.refl _, u0, ?_⟩
          rw [if_neg]
          · rfl
          · intro z
            unfold pieceOk at z
            simp only [Bool.and_eq_true, decide_eq_true_eq] at z
            exact g2 (by exact_mod_cast z.2.1)
        rw [decide_eq_true g2]
        have g1' := of_decide_eq_true g1
        repeat walk_at "st"
        refine e_lcS (fun D i H' => H' D = some (.lst (((x.cps.toList.take i).map fun c => decide (c ∈ letters.cps.toList)).map V.bl)) ∧ Same H2 H') (fun D H' nD hD sD => ⟨hD, sD⟩) ?_ ?_
        · rintro D i c H' nD hc ⟨hD, sD⟩
          repeat walk_at "st"
          refine e_app hD ?_ fun H2 h2 s2 => ⟨?_, fun b o hb => ?_⟩
          · rw [List.length_map, List.length_map, List.length_take]
            have : x.cps.toList.length = x.length := by simp [Str.length]
            omega
          · rw [h2, List.take_add_one, Array.getElem?_toList, hc]
            simp [letters]
          · exact s2 b o (fun z => by rw [z] at hb; rw [hb] at nD; cases nD) (sD b o hb)
        · rintro D H' nD ⟨hD, sD⟩
          have hyt3 := ((SameM.of (M := M) (s2.trans sD)).t hy).t
          repeat walk_at "st"
          rw [List.take_of_length_le (by simp)] at hD
          refine b_all (SqL.of hD) ?_
          have e3 : pieceOk letters x = (x.cps.toList.map fun c => decide (c ∈ letters.cps.toList)).all id := by
            unfold pieceOk
            rw [decide_eq_true (show 1 ≤ x.length by omega), decide_eq_true (show x.length ≤ 20 by omega), List.all_map]
            rfl
          rw [← e3]
          repeat walk_at "st"
          refine ite2 (fun h5 => ?_) (fun h5 => ?_)
          · repeat walk_at "st"
            refine b_lenS hx ?_
            repeat walk_at "st"
            rw [if_pos h5]
            exact ⟨sD, _, rfl⟩
          · repeat walk_at "st"
            rw [if_neg h5]
            exact ⟨sD, _, rfl⟩
      · rintro σ' H3 ⟨s3, u1, rfl⟩
        have ht3 := ht2.mono (SameM.of s3)
        have s13 := s12.trans s3
        repeat walk_at "st"
        refine b_isD ht3 (by decide) ?_
        repeat walk_at "st"
        by_cases k1 : isTy "int" pb = true
        rotate_left
        · rw [Bool.eq_false_iff.mpr k1]
          repeat walk_at "st"
          rw [lenAcc_not (fun a b e => by injection e with e; injection e with e1 e2; injection e2 with e2; rw [← e2]; intro z; obtain ⟨mt, rfl, _⟩ := isTimes_int z; exact k1 rfl)] at hacc
          rw [← hacc] at q
          exact q H3 s13
        rw [k1]
        repeat walk_at "st"
        refine b_isD ht3 (by decide) ?_
        repeat walk_at "st"
        by_cases k2 : isTy "bool" pb = true
        · rw [k2]
          repeat walk_at "st"
          rw [lenAcc_not (fun a b e => by injection e with e; injection e with e1 e2; injection e2 with e2; rw [← e2]; intro z; obtain ⟨mt, rfl, _⟩ := isTimes_int z; simp [isTy] at k2)] at hacc
          rw [← hacc] at q
          exact q H3 s13
        obtain ⟨mt, rfl⟩ : ∃ mt, pb = .int mt := by
          cases pb <;> simp [isTy] at k1 k2
          exact ⟨_, rfl⟩
        cases ht
        rw [Bool.eq_false_iff.mpr k2]
        repeat walk_at "st"
        refine ite2 (fun k3 => ?_) (fun k3 => ?_)
        rotate_left
        · repeat walk_at "st"
          rw [lenAcc_not (fun a b e => by injection e with e; injection e with e1 e2; injection e2 with e2; rw [← e2]; intro z; obtain ⟨mt', z1, _, z2, _⟩ := isTimes_int z; injection z1 with z1; exact k3 (decide_eq_true (by omega)))] at hacc
          rw [← hacc] at q
          exact q H3 s13
        have k3' := of_decide_eq_true k3
        repeat walk_at "st"
        refine b_I (cpow 4 (by decide) (by decide) (by decide) (by decide)) ?_
        rw [pow18]
        repeat walk_at "st"
        by_cases k4 : mt ≤ 1000000000000000000
        rotate_left
        · rw [decide_eq_false k4]
          repeat walk_at "st"
          rw [lenAcc_not (fun a b e => by injection e with e; injection e with e1 e2; injection e2 with e2; rw [← e2]; intro z; obtain ⟨mt', z1, _, z2, z3⟩ := isTimes_int z; injection z1 with z1; omega)] at hacc
          rw [← hacc] at q
          exact q H3 s13
        rw [decide_eq_true k4]
        have ht1 : timesOk mt = true := by
          unfold timesOk
          rw [decide_eq_true k3', decide_eq_true k4]
          rfl
        rw [lenAcc_pair, if_pos ht1] at hacc
        repeat walk_at "st"
        cases hz : partLen letters m pa with
        | none =>
          rw [show optV none = .non from rfl]
          repeat walk_at "st"
          rw [hz] at hacc
          rw [← hacc] at q
          exact q H3 s13
        | some z =>
          rw [show optV (some z) = .int z from rfl]
          repeat walk_at "st"
          rw [hz] at hacc
          obtain ⟨b0, b1⟩ := partLen_bd letters m pa z hz
          obtain ⟨p0, p1⟩ := mul_bd b0 b1 (show 0 ≤ mt by omega) k4
          refine b_I (cmul (by omega) (by omega) (by omega) (by omega)) ?_
          repeat walk_at "st"
          refine ⟨s13, _, _, _, _, _, rfl, by omega, ?_, hacc⟩
          have : ((i + 1 : Nat) : Int) * (capN m * 1000000000000000000) = i * (capN m * 1000000000000000000) + capN m * 1000000000000000000 := by
            rw [Int.natCast_add, Int.add_mul]; omega
          omega
    · rintro σ H' ⟨s1, acc, x, y, z, u, rfl, ha0, ha1, hacc⟩
      rw [hlen, List.drop_length] at hacc
      rw [← hacc] at q
      repeat walk_at "st"
      exact q H' s1
end
end K71

namespace K71
open PySem PySem.Spec PyProof.Rows L2 FG
local macro_rules | `(tactic| walk_at "sq") => `(tactic| first
  | assumption
  | exact SqL.of (by assumption)
  | exact SqT.of (by assumption)
  | exact SqLm.l (by assumption)
  | exact SqTm.t (by assumption))
local macro_rules | `(tactic| walk_at "cond") => `(tactic| first
  | assumption
  | (show (0 : Int) < _; omega)
  | (show (0 : Int) < _ ∧ _ < 1073741824; omega))
local macro_rules | `(tactic| walk_at "st") => `(tactic| first
  | with_reducible refine b_seq ?_
  | with_reducible refine b_asg ?_
  | with_reducible refine b_op ?_
  | ((with_reducible refine' b_var ?hv ?_); (case hv => exact rfl))
  | with_reducible refine b_c ?_
  | with_reducible refine b_name ?_
  | with_reducible refine b_I0 ?_
  | with_reducible refine b_cons ?_
  | with_reducible refine b_nil ?_
  | with_reducible refine b_cb ?_
  | with_reducible refine b_call ?_
  | with_reducible refine b_ret ?_
  | with_reducible refine b_ifS ?_
  | with_reducible refine b_test ?_
  | with_reducible refine b_tb ?_
  | with_reducible refine b_bl ?_
  | with_reducible refine b_blP ?_
  | with_reducible refine b_next ?_
  | with_reducible refine b_drop ?_
  | with_reducible refine b_sub ?_
  | with_reducible refine b_chain ?_
  | with_reducible refine b_and ?_
  | with_reducible refine b_or ?_
  | with_reducible refine b_not ?_
  | with_reducible refine b_andV ?_
  | with_reducible refine b_orV ?_
  | with_reducible refine b_notV ?_
  | with_reducible refine b_if ?_
  | with_reducible refine b_par ?_
  | with_reducible refine b_parE ?_
  | ((with_reducible refine' b_aug ?hv ?_); (case hv => exact rfl))
  | with_reducible refine b_ip ?_
  | with_reducible refine b_retN ?_
  | with_reducible refine b_tup ?_
  | with_reducible refine b_lst ?_
  | with_reducible refine b_sl ?_
  | with_reducible refine b_part ?_
  | with_reducible refine b_partP ?_
  | with_reducible refine b_nopart ?_
  | with_reducible refine b_bm ?_
  | with_reducible refine b_m1 ?_
  | with_reducible refine b_yes ?_
  | with_reducible refine b_un ?_
  | with_reducible refine b_neg ?_
  | with_reducible refine b_isN ?_
  | with_reducible refine b_notN ?_
  | with_reducible refine b_inS ?_
  | with_reducible refine b_int ?_
  | with_reducible refine b_intB ?_
  | with_reducible refine b_abs ?_
  | with_reducible refine b_max ?_
  | with_reducible refine b_min ?_
  | ((with_reducible refine b_eq ?hv ?_); (case hv => exact rfl))
  | ((with_reducible refine b_ne ?hv ?_); (case hv => exact rfl))
  | ((with_reducible refine' b_lenL ?hv ?_); (case hv => walk_at "sq"))
  | ((with_reducible refine' b_lenT ?hv ?_); (case hv => walk_at "sq"))
  | ((with_reducible refine' b_ixL ?hv ?hw ?_); (case hv => walk_at "sq"); (case hw => exact rfl))
  | ((with_reducible refine' b_ixT ?hv ?hw ?_); (case hv => walk_at "sq"); (case hw => exact rfl))
  | ((with_reducible refine b_I ?hv ?_); (case hv => walk_at "cond"))
  | with_reducible refine b_lcS ?_
  | with_reducible refine b_lcR ?_
  | with_reducible refine b_lcT ?_
  | with_reducible refine b_lcL ?_
  | with_reducible refine b_forT ?_
  | with_reducible refine b_forL ?_
  | with_reducible refine b_forR ?_
  | with_reducible refine b_turn ?_
  | ((with_reducible refine And.intro (a := wipe _ _ = wipe _ _) ?hv ?_); (case hv => exact rfl))
  | ((with_reducible refine And.intro (a := tyV _ "list" _ _) ?hv ?_); (case hv => exact ty_list (by assumption)))
  | with_reducible refine And.intro (a := ∃ a, V.str _ = V.str a) ⟨_, rfl⟩ ?_
  | (with_reducible refine iteT ?_)
  | (with_reducible refine iteNF ?_)
  | (with_reducible refine iteNT ?_)
  | (with_reducible refine iteVT ?_)
  | (with_reducible refine iteNVT ?_)
  | ((with_reducible refine iteVF ?hv ?_); (case hv => exact rfl))
  | ((with_reducible refine iteNVF ?hv ?_); (case hv => exact rfl))
  | with_reducible refine b_callS ?_
  | with_reducible refine b_xq ?_
  | (with_reducible refine iteF ?_))

def nDraw : Nat → Nat
  | 0 => 0
  | n + 1 => 1 + 6 * (30 + nDraw n)
theorem nDraw_succ (n : Nat) : nDraw (n + 1) = 1 + 6 * (30 + nDraw n) := rfl
def Tale : Nat → PyData → Prop
  | 0, _ => False
  | n + 1, d => ∃ ds, d = .tuple ds ∧ 1 ≤ ds.length ∧ ds.length ≤ 6 ∧ ∀ q ∈ ds, ∃ a m, q = .tuple [a, .int m] ∧ 0 ≤ m ∧ m ≤ 1000000 ∧ (Tale n a ∨ ∃ x, a = .str x ∧ x.length ≤ 20 ∧ ∀ c ∈ x.cps.toList, c < 128)
def Piece (n : Nat) (a : PyData) : Prop := Tale n a ∨ ∃ x, a = .str x ∧ x.length ≤ 20 ∧ ∀ c ∈ x.cps.toList, c < 128
def PairOk (n : Nat) (q : PyData) : Prop := ∃ a m, q = .tuple [a, .int m] ∧ 0 ≤ m ∧ m ≤ 1000000 ∧ Piece n a
theorem tale_succ (n : Nat) (d : PyData) : Tale (n + 1) d ↔ ∃ ds, d = .tuple ds ∧ 1 ≤ ds.length ∧ ds.length ≤ 6 ∧ ∀ q ∈ ds, PairOk n q := Iff.rfl
section
variable {P : Program} {w : World} {K : PySem.W.Frag} {mg : Str → Option Value} {base : Heap} {D : Ad}
def sp_drawn (K : PySem.W.Frag) (j : Nat) : Sp := fun vs H Q _ => ∃ (M : Addr → Prop) (p : Addr) (n dp : Nat), dp < j ∧ 1 ≤ dp ∧ dp ≤ 4 ∧ vs = [.ref p, .int dp] ∧ M p ∧ Trk M H ∧ PotAt H p n ∧ n + nDraw dp ≤ 1000000000 ∧
  ∀ v d H', Dq K M H' v d → Tale dp d → PotAt H' p (n + nDraw dp) → SameM (· = p) H H' → Q v H'
theorem ok__law_drawn (T : Txt K mg D) {k : Nat} : ∀ j, FnOk P w K mg base CX0 (k + j + 3) D.f__law_drawn D.d__law_drawn P__law_drawn (sp_drawn K j) := by
  intro j
  induction j with
  | zero =>
    refine T.f__law_drawn.ok sc__law_drawn (fun vs H Q E h => ?_) (fun cdv A outer s H vs Q E hr h => ?_)
    · obtain ⟨M, p, n, dp, hn, _⟩ := h
      exact absurd hn (Nat.not_lt_zero _)
    · obtain ⟨M, p, n, dp, hn, _⟩ := h
      exact absurd hn (Nat.not_lt_zero _)
  | succ j ih =>
  have G__law_drawn : FnOk P w K mg base CX0 (k + j + 3) D.f__law_drawn D.d__law_drawn P__law_drawn (sp_drawn K j) := ih
  have G__law_take : FnOk P w K mg base CX0 (k + j + 3) D.f__law_take D.d__law_take P__law_take spTake := ok__law_take T
  have G__law_of : FnOk P w K mg base CX0 (k + j + 3) D.f__law_of D.d__law_of P__law_of (spOf K) := ok__law_of T (k := k + j + 1)
  refine T.f__law_drawn.ok sc__law_drawn (fun vs H Q E h => ?_) (fun cdv A outer s H vs Q E hr h => ?_)
  · obtain ⟨M, p, n, dp, _, _, _, rfl, _⟩ := h
    rfl
  · obtain ⟨M, p, n, dp, hj, hd1, hd4, rfl, hMp, hT, hP, hnn, q⟩ := h
    obtain ⟨dq, rfl⟩ : ∃ dq, dp = dq + 1 := ⟨dp - 1, by omega⟩
    rw [nDraw_succ] at hnn
    refine ⟨_, (pss_cons (ps_set (i := 2) sc__law_drawn.nd rfl (by first | exact .inl rfl | exact .inr rfl) (pe_lst pa_nil))
      (pss_cons (ps_for PassesOwn.never rfl (pi_range1 (by rfl) T.z_range (pa_cons (pe_op op_add pe_int (pe_call G__law_of hr (by rfl) T.g__law_of T.f__law_of.kp T.b__law_of .nil pass0 (pa_cons (pv 0) (pa_cons (pe_lst (pa_cons pe_int (pa_cons pe_int (pa_cons pe_int (pa_cons pe_int pa_nil))))) pa_nil)))) pa_nil)) (pg_name (i := 3) sc__law_drawn.nd rfl (by first | exact .inl rfl | exact .inr rfl)) (pss_cons (ps_set (i := 4) sc__law_drawn.nd rfl (by first | exact .inl rfl | exact .inr rfl) (p_join pe_str (pe_lc (own := [("_law_at", 5)]) (g := gName 5) (tt := tYes) (by rfl) sc__law_drawn.nd (pi_range1 (by rfl) T.z_range (pa_cons (pe_call G__law_of hr (by rfl) T.g__law_of T.f__law_of.kp T.b__law_of .nil pass0 (pa_cons (pv 0) (pa_cons (pe_lst (pa_cons pe_int (pa_cons pe_int (pa_cons pe_int (pa_cons pe_int pa_nil))))) pa_nil))) pa_nil)) (blkOk_by (own := [("_law_at", 5)]) (N := N__law_drawn) (sc := defScope s__law_drawn) (by decide +kernel)) (fun _ _ _ _ _ => (pg_name (i := 5) sc__law_drawn.nd rfl (by first | exact .inl rfl | exact .inr rfl))) (fun _ _ _ _ _ => pts_nil) (fun _ _ _ _ _ => (pe_call G__law_of hr (by rfl) T.g__law_of T.f__law_of.kp T.b__law_of .nil pass0 (pa_cons (pv 0) (pa_cons pe_str pa_nil)))))))
      (pss_cons (ps_w (ps_if (PW.pt (pw_and (pt_cmpR op_gt (pv 1) pe_int (nomark _)) (pw_and1 (pt_cmpR op_eq (pe_call G__law_take hr (by rfl) T.g__law_take T.f__law_take.kp T.b__law_take .nil pass0 (pa_cons (pv 0) (pa_cons pe_int pa_nil))) pe_int (nomark _))))) (pss_one (ps_set (i := 4) sc__law_drawn.nd rfl (by first | exact .inl rfl | exact .inr rfl) (pe_call G__law_drawn hr (by rfl) T.g__law_drawn T.f__law_drawn.kp T.b__law_drawn .nil pass0 (pa_cons (pv 0) (pa_cons (pe_op op_sub (pv 1) pe_int) pa_nil))))) pss_nil))
      (pss_one (ps_expr (pe_bm PySem.F.plainAttrs_list PySem.F.slot_list_append PySem.F.type_list_append mt_append (pv 2) (pa_cons (pe_tup (pa_cons (pv 4) (pa_cons (pe_call G__law_of hr (by rfl) T.g__law_of T.f__law_of.kp T.b__law_of .nil pass0 (pa_cons (pv 0) (pa_cons (pe_lst (pa_cons pe_int (pa_cons pe_int (pa_cons pe_int (pa_cons pe_int (pa_cons (pe_op op_powW pe_int pe_int) (pa_cons (pe_op op_add pe_int (pe_call G__law_take hr (by rfl) T.g__law_take T.f__law_take.kp T.b__law_take .nil pass0 (pa_cons (pv 0) (pa_cons pe_int pa_nil)))) pa_nil))))))) pa_nil))) pa_nil))) pa_nil)))))))
      (pss_one (ps_ret (pe_callTy q_tupOf (by rfl) T.z_tuple (by decide +kernel) (pa_cons (pv 2) pa_nil)))))), ?_⟩
    repeat walk_at "st"
    refine e_lst fun f H1 nf hf s1 => ?_
    repeat walk_at "st"
    refine e_lst fun l H2 nl hl s2 => ?_
    repeat walk_at "st"
    have hP2 := (hP.keep s1).keep s2
    refine ⟨p, n, hP2, by omega, .inl ⟨l, _, rfl, (hP.keep s1).ne nl, SqL.of hl, by simp, by simp, fun v H3 hv hP3 s3 => ?_⟩⟩
    obtain ⟨z, rfl, hz0, hz1⟩ : ∃ z : Int, v = .int z ∧ 0 ≤ z ∧ z ≤ 5 := by
      simp only [List.mem_cons, List.not_mem_nil, or_false] at hv
      rcases hv with rfl | rfl | rfl | rfl <;> exact ⟨_, rfl, by decide, by decide⟩
    repeat walk_at "st"
    have hfp : f ≠ p := hP.ne nf
    refine e_forR (fun i σ H' => ∃ xs ds x3 x4 x5, σ = [some (.ref p), some (.int (dq + 1 : Nat)), some (.ref f), x3, x4, x5] ∧ H' f = some (.lst xs) ∧ DqAll K (fun a => M a ∨ a = f) H' xs ds ∧ ds.length = i ∧
      (∀ q ∈ ds, PairOk dq q) ∧ PotAt H' p (n + 1 + i * (30 + nDraw dq)) ∧ SameM (· = p) H H' ∧ Trk (fun a => M a ∨ a = f) H') (by omega) (by omega) ?_ ?_ ?_
    · have sA : SameM (· = p) H H3 := ((SameM.of s1).trans (SameM.of s2)).trans s3
      have hf3 : H3 f = some (.lst []) := s3 _ _ hfp (s2 _ _ hf)
      refine ⟨[], [], none, none, none, rfl, hf3, .nil, rfl, by simp, by simpa using hP3, sA, ?_⟩
      exact (hT.pot sA hP3).put (by rw [hf3]; simp)
    · rintro i σ Ha hi ⟨xs, ds, x3, x4, x5, rfl, hfa, hxs, hlen, hpo, hPa, sa, hTa⟩
      have hi6 : i < 6 := by omega
      have hmul : (i + 1) * (30 + nDraw dq) ≤ 6 * (30 + nDraw dq) := Nat.mul_le_mul_right _ (by omega)
      rw [Nat.succ_mul] at hmul
      repeat walk_at "st"
      refine e_lst fun lb Hb nlb hlb sb => ?_
      repeat walk_at "st"
      refine ⟨p, _, hPa.keep sb, by omega, .inl ⟨lb, _, rfl, hPa.ne nlb, SqL.of hlb, by simp, by simp, fun v Hc hv hPc sc => ?_⟩⟩
      obtain ⟨y, rfl, hy0, hy1⟩ : ∃ y : Int, v = .int y ∧ 1 ≤ y ∧ y ≤ 20 := by
        simp only [List.mem_cons, List.not_mem_nil, or_false] at hv
        rcases hv with rfl | rfl | rfl | rfl <;> exact ⟨_, rfl, by decide, by decide⟩
      repeat walk_at "st"
      generalize hm : n + 1 + i * (30 + nDraw dq) = m at *
      refine e_lcR (fun L t Hd => ∃ ys : List Str, Hd L = some (.lst (ys.map V.str)) ∧ ys.length = t ∧ (∀ y ∈ ys, ∃ c, y = ⟨#[c]⟩ ∧ c < 128) ∧ PotAt Hd p (m + 1 + t) ∧ SameM (· = p) Hc Hd) (by omega) (by omega) ?_ ?_ ?_
      · intro L Hd nL hL sd
        exact ⟨[], hL, rfl, by simp, hPc.keep sd, SameM.of sd⟩
      · rintro L t Hd nL ht ⟨ys, hL, hyl, hyo, hPd, sd⟩
        repeat walk_at "st"
        refine ⟨p, _, hPd, by omega, .inr ⟨_, rfl, by decide, by decide, fun c He hc hPe se => ?_⟩⟩
        have hLp : L ≠ p := hPc.ne nL
        have hL2 := se _ _ hLp hL
        repeat walk_at "st"
        refine e_app hL2 (by rw [List.length_map]; omega) fun Hf hLf sf => ?_
        have hPf : PotAt Hf p (m + 1 + (t + 1)) := by
          obtain ⟨a, b, c, e, r⟩ := hPe
          exact ⟨a, b, c, sf _ _ (fun z => hLp z.symm) e, r⟩
        refine ⟨ys ++ [⟨#[c]⟩], by rw [hLf]; simp, by simp [hyl], ?_, hPf, ?_⟩
        · intro y hy
          rcases List.mem_append.mp hy with hy | hy
          · exact hyo y hy
          · rw [List.mem_singleton.mp hy]
            refine ⟨c, rfl, ?_⟩
            have : ∀ c ∈ (Str.ofString "abz").cps.toList, c < 128 := by decide
            exact this c hc
        · intro b o nb e
          have nbL : b ≠ L := fun z => by rw [z, nL] at e; cases e
          exact sf _ _ nbL (se _ _ nb (sd _ _ nb e))
      · rintro L Hd nL ⟨ys, hL, hyl, hyo, hPd, sd⟩
        have hy1 : ∀ y ∈ ys, y.length = 1 := fun y hy => by obtain ⟨c, rfl, _⟩ := hyo y hy; rfl
        have hys : ys.length ≤ 20 := by omega
        repeat walk_at "st"
        refine e_joinL (SqL.of hL) ?_ ?_
        · rw [ones_sum ys hy1]
          show ys.length + ys.length * 0 ≤ _
          omega
        have hjl : (Txt.join (Str.ofString "") ys).length ≤ 20 := by rw [PySem.W.KT.join_ones ys hy1]; exact hys
        have hjc : ∀ c ∈ (Txt.join (Str.ofString "") ys).cps.toList, c < 128 := by
          intro c hc
          rcases join_mem hc with hc | ⟨y, hy, hc⟩
          · exact absurd (show c ∈ ([] : List Nat) from hc) (by simp)
          · obtain ⟨e, rfl, he⟩ := hyo y hy
            have : c = e := by simpa using hc
            omega
        generalize Txt.join (Str.ofString "") ys = px at hjl hjc ⊢
        repeat walk_at "st"
        -- from Ha to Hd
        have sad : SameM (· = p) Ha Hd := ((SameM.of sb).trans sc).trans sd
        have hPd := hPd.mono (m := m + 21) (by omega)
        refine b_ws (fun σ' He => ∃ v d x5, σ' = [some (.ref p), some (.int (dq + 1 : Nat)), some (.ref f), some (.int (0 + (i : Int))), some v, x5] ∧ Dq K (fun a => M a ∨ a = f) He v d ∧ Piece dq d ∧ PotAt He p (m + 22 + nDraw dq) ∧ SameM (· = p) Hd He) ?_ ?_
        · repeat walk_at "st"
          have base1 : ∃ v d x5', [some (V.ref p), some (V.int (dq + 1 : Nat)), some (V.ref f), some (V.int (0 + (i : Int))), some (V.str px), x5] = [some (.ref p), some (.int (dq + 1 : Nat)), some (.ref f), some (.int (0 + (i : Int))), some v, x5'] ∧ Dq K (fun a => M a ∨ a = f) Hd v d ∧ Piece dq d :=
            ⟨_, .str px, _, rfl, .str px, .inr ⟨px, rfl, hjl, hjc⟩⟩
          refine ite2 (fun g1 => ?_) (fun g1 => ?_)
          rotate_left
          · repeat walk_at "st"
            obtain ⟨v, d, x5', e, h1, h2⟩ := base1
            exact ⟨v, d, x5', e, h1, h2, hPd.mono (by omega), SameM.refl _ _⟩
          have g1' := of_decide_eq_true g1
          repeat walk_at "st"
          refine ⟨p, 3, _, rfl, hPd, by omega, by decide, by decide, fun t He t0 t1 hPe se => ?_⟩
          repeat walk_at "st"
          refine ite2 (fun g2 => ?_) (fun g2 => ?_)
          rotate_left
          · repeat walk_at "st"
            exact ⟨_, .str px, _, rfl, .str px, .inr ⟨px, rfl, hjl, hjc⟩, hPe.mono (by omega), se⟩
          repeat walk_at "st"
          have hTe : Trk (fun a => M a ∨ a = f) He := (hTa.pot sad hPd).pot se hPe
          refine ⟨fun a => M a ∨ a = f, p, _, dq, by omega, by omega, by omega, ?_, .inl hMp, hTe, hPe, by omega, fun v d Hf hv hd hPf sf => ?_⟩
          · have : ((dq + 1 : Nat) : Int) - 1 = dq := by omega
            rw [this]
            rfl
          repeat walk_at "st"
          exact ⟨v, d, _, rfl, hv, .inl hd, hPf.mono (by omega), se.trans sf⟩
        · rintro σ' He ⟨v, d, x5, rfl, hv, hd, hPe, se⟩
          have sae := sad.trans se
          have hfe : He f = some (.lst xs) := sae _ _ hfp hfa
          have hTe : Trk (fun a => M a ∨ a = f) He := hTa.pot sae hPe
          have hxe := hxs.pot (.inl hMp) sae
          repeat walk_at "st"
          refine b_I (cpow 4 (by decide) (by decide) (by decide) (by decide)) ?_
          repeat walk_at "st"
          refine ⟨p, 99, _, rfl, hPe, by omega, by decide, by decide, fun t Hf t0 t1 hPf sf => ?_⟩
          repeat walk_at "st"
          refine e_lst fun lg Hg nlg hlg sg => ?_
          repeat walk_at "st"
          refine ⟨p, _, hPf.keep sg, by omega, .inl ⟨lg, _, rfl, hPf.ne nlg, SqL.of hlg, by simp, by simp, fun u Hh hu hPh sh => ?_⟩⟩
          obtain ⟨y, rfl, hy0, hy1⟩ : ∃ y : Int, u = .int y ∧ 0 ≤ y ∧ y ≤ 1000000 := by
            simp only [List.mem_cons, List.not_mem_nil, or_false] at hu
            rcases hu with rfl | rfl | rfl | rfl | rfl | rfl <;> exact ⟨_, rfl, by first | decide | omega, by first | decide | omega⟩
          have seh : SameM (· = p) He Hh := (sf.trans (SameM.of sg)).trans sh
          have hTh := hTe.pot seh hPh
          repeat walk_at "st"
          refine e_tup fun tt Hi ntt htt si => ?_
          have hfi : Hi f = some (.lst xs) := si _ _ (seh _ _ hfp hfe)
          repeat walk_at "st"
          refine e_append hfi ?_ fun Hj hfj sj => ?_
          · rw [hxs.length]; omega
          repeat walk_at "st"
          have hfnt : tt ≠ f := fun z => by rw [z] at ntt; rw [seh _ _ hfp hfe] at ntt; cases ntt
          have ntM : ¬ (M tt ∨ tt = f) := hTh.new ntt
          have sM : SameM (fun a => M a ∨ a = f) Hi Hj := sj.sub fun a z => .inr z
          have hpair : Dq K (fun a => M a ∨ a = f) Hj (.ref tt) (.tuple [d, .int y]) :=
            (Dq.newT ntM htt (.cons ((hv.pot (.inl hMp) seh).same si) (.cons (.int y) .nil))).mono sM
          have hPj : PotAt Hj p (m + 22 + nDraw dq + 1 + 1) := by
            obtain ⟨a, b, c, e, r⟩ := hPh
            exact ⟨a, b, c, sj _ _ (fun z => hfp z.symm) (si _ _ e), r⟩
          refine ⟨xs ++ [.ref tt], ds ++ [.tuple [d, .int y]], _, _, _, rfl, hfj, (((hxe.pot (.inl hMp) seh).same si).mono sM).append (.cons hpair .nil), by simp [hlen], ?_, ?_, ?_, ?_⟩
          · intro q hq
            rcases List.mem_append.mp hq with hq | hq
            · exact hpo q hq
            · rw [List.mem_singleton.mp hq]
              exact ⟨d, y, rfl, hy0, hy1, hd⟩
          · refine hPj.mono ?_
            rw [Nat.succ_mul]
            omega
          · exact ((sa.trans sae).trans (seh.trans (SameM.of si))).two sj nf
          · intro a ha z
            by_cases e : a = f
            · rw [e, hfj] at z; cases z
            · exact (hTh.same si) a ha (none_backM sj e z)
    · rintro σ Ha ⟨xs, ds, x3, x4, x5, rfl, hfa, hxs, hlen, hpo, hPa, sa, hTa⟩
      repeat walk_at "st"
      refine e_tupL (SqL.of hfa) fun r Hb nr hr2 sb => ?_
      have ntM : ¬ M r := fun z => hTa.new nr (.inl z)
      have hds : ds.length = (1 + z).toNat := hlen
      have hle : ds.length * (30 + nDraw dq) ≤ 6 * (30 + nDraw dq) := Nat.mul_le_mul_right _ (by omega)
      refine q (.ref r) (.tuple ds) Hb (Dq.newT ntM hr2 ?_) ?_ ?_ (sa.trans (SameM.of sb))
      · exact (hxs.avoid (fun a z => .inl (.inl z))).same sb
      · exact ⟨ds, rfl, by omega, by omega, hpo⟩
      · refine (hPa.keep sb).mono ?_
        rw [nDraw_succ, ← hds]
        omega
end
end K71

namespace K71
open PySem PySem.Spec PyProof.Rows L2 FG
local macro_rules | `(tactic| walk_at "sq") => `(tactic| first
  | assumption
  | exact SqL.of (by assumption)
  | exact SqT.of (by assumption)
  | exact SqLm.l (by assumption)
  | exact SqTm.t (by assumption))
local macro_rules | `(tactic| walk_at "cond") => `(tactic| first
  | assumption
  | (show (0 : Int) < _; omega)
  | (show (0 : Int) < _ ∧ _ < 1073741824; omega))
local macro_rules | `(tactic| walk_at "st") => `(tactic| first
  | with_reducible refine b_seq ?_
  | with_reducible refine b_asg ?_
  | with_reducible refine b_op ?_
  | ((with_reducible refine' b_var ?hv ?_); (case hv => exact rfl))
  | with_reducible refine b_c ?_
  | with_reducible refine b_name ?_
  | with_reducible refine b_I0 ?_
  | with_reducible refine b_cons ?_
  | with_reducible refine b_nil ?_
  | with_reducible refine b_cb ?_
  | with_reducible refine b_call ?_
  | with_reducible refine b_ret ?_
  | with_reducible refine b_ifS ?_
  | with_reducible refine b_test ?_
  | with_reducible refine b_tb ?_
  | with_reducible refine b_bl ?_
  | with_reducible refine b_blP ?_
  | with_reducible refine b_next ?_
  | with_reducible refine b_drop ?_
  | with_reducible refine b_sub ?_
  | with_reducible refine b_chain ?_
  | with_reducible refine b_and ?_
  | with_reducible refine b_or ?_
  | with_reducible refine b_not ?_
  | with_reducible refine b_andV ?_
  | with_reducible refine b_orV ?_
  | with_reducible refine b_notV ?_
  | with_reducible refine b_if ?_
  | with_reducible refine b_par ?_
  | with_reducible refine b_parE ?_
  | ((with_reducible refine' b_aug ?hv ?_); (case hv => exact rfl))
  | with_reducible refine b_ip ?_
  | with_reducible refine b_retN ?_
  | with_reducible refine b_tup ?_
  | with_reducible refine b_lst ?_
  | with_reducible refine b_sl ?_
  | with_reducible refine b_part ?_
  | with_reducible refine b_partP ?_
  | with_reducible refine b_nopart ?_
  | with_reducible refine b_bm ?_
  | with_reducible refine b_m1 ?_
  | with_reducible refine b_yes ?_
  | with_reducible refine b_un ?_
  | with_reducible refine b_neg ?_
  | with_reducible refine b_isN ?_
  | with_reducible refine b_notN ?_
  | with_reducible refine b_inS ?_
  | with_reducible refine b_int ?_
  | with_reducible refine b_intB ?_
  | with_reducible refine b_abs ?_
  | with_reducible refine b_max ?_
  | with_reducible refine b_min ?_
  | ((with_reducible refine b_eq ?hv ?_); (case hv => exact rfl))
  | ((with_reducible refine b_ne ?hv ?_); (case hv => exact rfl))
  | ((with_reducible refine' b_lenL ?hv ?_); (case hv => walk_at "sq"))
  | ((with_reducible refine' b_lenT ?hv ?_); (case hv => walk_at "sq"))
  | ((with_reducible refine' b_ixL ?hv ?hw ?_); (case hv => walk_at "sq"); (case hw => exact rfl))
  | ((with_reducible refine' b_ixT ?hv ?hw ?_); (case hv => walk_at "sq"); (case hw => exact rfl))
  | ((with_reducible refine b_I ?hv ?_); (case hv => walk_at "cond"))
  | with_reducible refine b_lcS ?_
  | with_reducible refine b_lcR ?_
  | with_reducible refine b_lcT ?_
  | with_reducible refine b_lcL ?_
  | with_reducible refine b_forT ?_
  | with_reducible refine b_forL ?_
  | with_reducible refine b_forR ?_
  | with_reducible refine b_turn ?_
  | ((with_reducible refine And.intro (a := wipe _ _ = wipe _ _) ?hv ?_); (case hv => exact rfl))
  | ((with_reducible refine And.intro (a := tyV _ "list" _ _) ?hv ?_); (case hv => exact ty_list (by assumption)))
  | with_reducible refine And.intro (a := ∃ a, V.str _ = V.str a) ⟨_, rfl⟩ ?_
  | (with_reducible refine iteT ?_)
  | (with_reducible refine iteNF ?_)
  | (with_reducible refine iteNT ?_)
  | (with_reducible refine iteVT ?_)
  | (with_reducible refine iteNVT ?_)
  | ((with_reducible refine iteVF ?hv ?_); (case hv => exact rfl))
  | ((with_reducible refine iteNVF ?hv ?_); (case hv => exact rfl))
  | with_reducible refine b_callS ?_
  | with_reducible refine b_xq ?_
  | (with_reducible refine iteF ?_))

def sL : Nat → Nat
  | 0 => 220
  | n + 1 => 12 * (sL n + 60) + 3
theorem sL_succ (n : Nat) : sL (n + 1) = 12 * (sL n + 60) + 3 := rfl
theorem sL_ge (n : Nat) : 220 ≤ sL n := by
  induction n with
  | zero => exact Nat.le_refl _
  | succ n ih => rw [sL_succ]; omega
theorem mix_small {n : Nat} {es : List PyData} (h : ∀ e ∈ es, Small (3 * n + 2) (sL n + 58) e) (hl : es.length ≤ 12) : Small (3 * (n + 1)) (sL (n + 1)) (.tuple es) :=
  (Small.tup h hl).mono (by omega) (by rw [sL_succ]; omega)
theorem mix_smallL {n : Nat} {es : List PyData} (h : ∀ e ∈ es, Small (3 * n + 2) (sL n + 58) e) (hl : es.length ≤ 12) : Small (3 * (n + 1)) (sL (n + 1)) (.list es) :=
  (Small.lst h hl).mono (by omega) (by rw [sL_succ]; omega)
theorem small_m {h : Nat} {m : Int} (h0 : 0 ≤ m) (h1 : m ≤ 1000000) : Small h 25 (.int m) := by
  refine (Small.int (k := 20) (by decide) (by decide) ?_).mono (Nat.le_refl _) (by decide)
  have : (10 : Nat) ^ 20 = 100000000000000000000 := by decide
  omega
mutual
theorem tale_small : ∀ (n : Nat) (d : PyData), Tale n d → Small (3 * n) (sL n) d
  | 0, _, h => False.elim h
  | n + 1, d, h => by
    obtain ⟨ds, rfl, h1, h2, h3⟩ := h
    refine mix_small (fun e he => ?_) (by omega)
    obtain ⟨a, m, rfl, m0, m1, hp⟩ := h3 e he
    exact (Small.tup2 (piece_small n a hp) (small_m m0 m1)).mono (by omega) (by omega)
theorem piece_small : ∀ (n : Nat) (a : PyData), Piece n a → Small (3 * n) (sL n) a
  | n, a, .inl h => tale_small n a h
  | n, _, .inr ⟨x, rfl, hl, hc⟩ => (Small.str (h := 0) (fun c h => Nat.lt_trans (hc c h) (by decide)) hl).mono (by omega) (by have := sL_ge n; omega)
end
theorem pair_small {n : Nat} {q : PyData} (h : PairOk n q) : Small (3 * n + 1) (sL n + 32) q := by
  obtain ⟨a, m, rfl, m0, m1, hp⟩ := h
  exact Small.tup2 (piece_small n a hp) (small_m m0 m1)
theorem tale_small1 {n : Nat} {ds : List PyData} (h2 : ds.length ≤ 6) (h3 : ∀ q ∈ ds, PairOk n q) : Small (3 * n + 2) (6 * (sL n + 34) + 3) (.tuple ds) := Small.tup (fun e he => pair_small (h3 e he)) h2
theorem mem_mid {α : Type} {ds : List α} {n m : Nat} {x e : α} (h : e ∈ ds.take n ++ [x] ++ ds.drop m) : e ∈ ds ∨ e = x := by
  rcases List.mem_append.mp h with h | h
  · rcases List.mem_append.mp h with h | h
    · exact .inl (List.mem_of_mem_take h)
    · exact .inr (List.mem_singleton.mp h)
  · exact .inl (List.mem_of_mem_drop h)
theorem len_mid {α : Type} {ds : List α} {n : Nat} {x : α} : (ds.take n ++ [x] ++ ds.drop (n + 1)).length ≤ ds.length + 1 := by
  simp only [List.length_append, List.length_take, List.length_drop, List.length_singleton]
  omega
section
variable {P : Program} {w : World} {K : PySem.W.Frag} {mg : Str → Option Value} {base : Heap} {D : Ad}
def sp_spoilt (K : PySem.W.Frag) (j : Nat) : Sp := fun vs H Q _ => ∃ (M : Addr → Prop) (p : Addr) (n dp : Nat) (v : V) (d : PyData), dp < j ∧ dp ≤ 4 ∧ vs = [.ref p, v] ∧ M p ∧ Trk M H ∧ PotAt H p n ∧ n + 4 * dp ≤ 1000000000 ∧ Dq K M H v d ∧ Tale dp d ∧
  ∀ v' d' H', Dq K M H' v' d' → Small (3 * dp) (sL dp) d' → PotAt H' p (n + 4 * dp) → SameM (· = p) H H' → Q v' H'
theorem ok__law_spoilt (T : Txt K mg D) {k : Nat} : ∀ j, FnOk P w K mg base CX0 (k + j + 3) D.f__law_spoilt D.d__law_spoilt P__law_spoilt (sp_spoilt K j) := by
  intro j
  induction j with
  | zero =>
    refine T.f__law_spoilt.ok sc__law_spoilt (fun vs H Q E h => ?_) (fun cdv A outer s H vs Q E hr h => ?_)
    · obtain ⟨M, p, n, dp, v, d, hn, _⟩ := h
      exact absurd hn (Nat.not_lt_zero _)
    · obtain ⟨M, p, n, dp, v, d, hn, _⟩ := h
      exact absurd hn (Nat.not_lt_zero _)
  | succ j ih =>
  have G__law_spoilt : FnOk P w K mg base CX0 (k + j + 3) D.f__law_spoilt D.d__law_spoilt P__law_spoilt (sp_spoilt K j) := ih
  have G__law_take : FnOk P w K mg base CX0 (k + j + 3) D.f__law_take D.d__law_take P__law_take spTake := ok__law_take T
  have G__law_of : FnOk P w K mg base CX0 (k + j + 3) D.f__law_of D.d__law_of P__law_of (spOf K) := ok__law_of T (k := k + j + 1)
  refine T.f__law_spoilt.ok sc__law_spoilt (fun vs H Q E h => ?_) (fun cdv A outer s H vs Q E hr h => ?_)
  · obtain ⟨M, p, n, dp, v, d, _, _, rfl, _⟩ := h
    rfl
  · obtain ⟨M, p, n, dp, v, d, hj, hd4, rfl, hMp, hT, hP, hnn, hd, htale, q⟩ := h
    obtain ⟨dq, rfl⟩ : ∃ dq, dp = dq + 1 := by
      cases dp with
      | zero => exact False.elim htale
      | succ m => exact ⟨m, rfl⟩
    obtain ⟨ds, rfl, hl1, hl2, hpo⟩ := htale
    obtain ⟨a, xs, rfl, hx, hxs⟩ := hd.tupE
    have hlen := hxs.length
    have hxt := hx.t
    refine ⟨_, (pss_cons (ps_set (i := 2) sc__law_spoilt.nd rfl (by first | exact .inl rfl | exact .inr rfl) (pe_call G__law_take hr (by rfl) T.g__law_take T.f__law_take.kp T.b__law_take .nil pass0 (pa_cons (pv 0) (pa_cons (pe_callB q_len (by rfl) T.z_len (by decide +kernel) (pa_cons (pv 1) pa_nil)) pa_nil))))
      (pss_cons (ps_asg (pe_ix ix_tup (pv 1) (pv 2) (fun _ _ => rfl)) (pg_tup (by rfl) (pgs_cons (pg_name (i := 3) sc__law_spoilt.nd rfl (by first | exact .inl rfl | exact .inr rfl)) (pgs_cons (pg_name (i := 4) sc__law_spoilt.nd rfl (by first | exact .inl rfl | exact .inr rfl)) pgs_nil))))
      (pss_cons (ps_set (i := 5) sc__law_spoilt.nd rfl (by first | exact .inl rfl | exact .inr rfl) (pe_call G__law_take hr (by rfl) T.g__law_take T.f__law_take.kp T.b__law_take .nil pass0 (pa_cons (pv 0) (pa_cons pe_int pa_nil))))
      (pss_cons (ps_w (ps_if (PW.pt (pw_and (pt_cmpR op_lt (pv 5) pe_int (nomark _)) (pw_and1 (pt_val (pe_callB call_isD (by rfl) T.z_isinstance (by decide +kernel) (pa_cons (pv 3) (pa_cons (pe_bltn (v := .ty "tuple") (by rfl) T.z_tuple (by decide +kernel) rfl) pa_nil))))))) (pss_one (ps_ret (pe_op op_catA (pe_op op_catA (pe_slice sl_tupA (pv 1) po_none (po_some (pv 2))) (pe_tup (pa_cons (pe_tup (pa_cons (pe_call G__law_spoilt hr (by rfl) T.g__law_spoilt T.f__law_spoilt.kp T.b__law_spoilt .nil pass0 (pa_cons (pv 0) (pa_cons (pv 3) pa_nil))) (pa_cons (pv 4) pa_nil))) pa_nil))) (pe_slice sl_tupA (pv 1) (po_some (pe_op op_add (pv 2) pe_int)) po_none)))) pss_nil))
      (pss_cons (ps_w (ps_if (pt_cmpR op_lt (pv 5) pe_int (nomark _)) (pss_one (ps_set (i := 3) sc__law_spoilt.nd rfl (by first | exact .inl rfl | exact .inr rfl) (pe_call G__law_of hr (by rfl) T.g__law_of T.f__law_of.kp T.b__law_of .nil pass0 (pa_cons (pv 0) (pa_cons (pe_lst (pa_cons pe_str (pa_cons pe_str (pa_cons pe_str (pa_cons (pe_op o_repS pe_str pe_int) (pa_cons pe_str (pa_cons pe_str (pa_cons pe_non (pa_cons pe_int (pa_cons (pe_tup pa_nil) (pa_cons (pe_lst pa_nil) (pa_cons (pe_tup (pa_cons pe_str pa_nil)) (pa_cons (pe_op o_repS pe_str pe_int) pa_nil))))))))))))) pa_nil))))) (pss_one (ps_if (pt_cmpR op_lt (pv 5) pe_int (nomark _)) (pss_one (ps_set (i := 4) sc__law_spoilt.nd rfl (by first | exact .inl rfl | exact .inr rfl) (pe_call G__law_of hr (by rfl) T.g__law_of T.f__law_of.kp T.b__law_of .nil pass0 (pa_cons (pv 0) (pa_cons (pe_lst (pa_cons pe_int (pa_cons (pe_un un_neg pe_int) (pa_cons pe_bl (pa_cons pe_non (pa_cons pe_str (pa_cons (pe_op op_add (pe_op op_powW pe_int pe_int) pe_int) (pa_cons (pe_op op_powW pe_int pe_int) (pa_cons (pe_tup (pa_cons pe_int pa_nil)) (pa_cons pe_int pa_nil)))))))))) pa_nil))))) (pss_one (ps_if (pt_cmpR op_eq (pv 5) pe_int (nomark _)) (pss_one (ps_ret (pe_call G__law_of hr (by rfl) T.g__law_of T.f__law_of.kp T.b__law_of .nil pass0 (pa_cons (pv 0) (pa_cons (pe_lst (pa_cons (pe_callTy q_listOf (by rfl) T.z_list (by decide +kernel) (pa_cons (pv 1) pa_nil)) (pa_cons (pe_op op_catA (pv 1) (pe_op op_repT (pe_tup (pa_cons (pe_tup (pa_cons (pv 3) (pa_cons (pv 4) pa_nil))) pa_nil)) pe_int)) (pa_cons (pe_op op_catA (pe_slice sl_tupA (pv 1) po_none (po_some (pv 2))) (pe_slice sl_tupA (pv 1) (po_some (pe_op op_add (pv 2) pe_int)) po_none)) (pa_cons (pe_tup (pa_cons (pv 1) pa_nil)) pa_nil))))) pa_nil))))) (pss_cons (ps_set (i := 6) sc__law_spoilt.nd rfl (by first | exact .inl rfl | exact .inr rfl) (pe_call G__law_of hr (by rfl) T.g__law_of T.f__law_of.kp T.b__law_of .nil pass0 (pa_cons (pv 0) (pa_cons (pe_lst (pa_cons (pe_lst (pa_cons (pv 3) (pa_cons (pv 4) pa_nil))) (pa_cons (pe_tup (pa_cons (pv 3) pa_nil)) (pa_cons (pe_tup (pa_cons (pv 3) (pa_cons (pv 4) (pa_cons pe_int pa_nil)))) (pa_cons (pv 3) pa_nil))))) pa_nil))))
      (pss_one (ps_ret (pe_op op_catA (pe_op op_catA (pe_slice sl_tupA (pv 1) po_none (po_some (pv 2))) (pe_tup (pa_cons (pv 6) pa_nil))) (pe_slice sl_tupA (pv 1) (po_some (pe_op op_add (pv 2) pe_int)) po_none)))))))))))
      (pss_one (ps_ret (pe_op op_catA (pe_op op_catA (pe_slice sl_tupA (pv 1) po_none (po_some (pv 2))) (pe_tup (pa_cons (pe_tup (pa_cons (pv 3) (pa_cons (pv 4) pa_nil))) pa_nil))) (pe_slice sl_tupA (pv 1) (po_some (pe_op op_add (pv 2) pe_int)) po_none))))))))), ?_⟩
    repeat walk_at "st"
    refine ⟨p, _, n, rfl, hP, by omega, by omega, by omega, fun at_ Ha at0 at1 hPa sa => ?_⟩
    obtain ⟨i, rfl⟩ := Int.eq_ofNat_of_zero_le at0
    have hi : i < xs.length := by omega
    have sMa : SameM M H Ha := sa.sub fun b z => by rw [z]; exact hMp
    have hxa := sMa.t hx
    have hxsa := hxs.mono sMa
    have hTa := hT.pot sa hPa
    repeat walk_at "st"
    obtain ⟨u, hu⟩ : ∃ u, xs[i]? = some u := ⟨xs[i], List.getElem?_eq_getElem hi⟩
    obtain ⟨pd, hpd, hupd⟩ := hxsa.get hu
    obtain ⟨da, m, rfl, m0, m1, hpiece⟩ := hpo pd (List.mem_of_getElem? hpd)
    obtain ⟨b, ys, rfl, hy, hys⟩ := hupd.tupE
    obtain ⟨pv1, pv2, rfl, hv1, hv2⟩ := hys.two
    cases hv2
    refine b_ixT hxa.t (atI_nat hu) ?_
    refine e_gtup2 hy.t ?_
    repeat walk_at "st"
    refine ⟨p, 9, _, rfl, hPa, by omega, by decide, by decide, fun way Hb w0 w1 hPb sb => ?_⟩
    have sMb : SameM M Ha Hb := sb.sub fun b z => by rw [z]; exact hMp
    have hxb := sMb.t hxa
    have hxsb := hxsa.mono sMb
    have hTb := hTa.pot sb hPb
    have hv1b := hv1.mono sMb
    have hab : SameM (· = p) H Hb := sa.trans sb
    repeat walk_at "st"
    have hda : Small (3 * dq) (sL dq) da := piece_small dq da hpiece
    have hsm : Small (3 * dq) 25 (.int m) := small_m m0 m1
    have hxl : xs.length ≤ 6 := by omega
    have hcast : ((i : Int) + 1) = ((i + 1 : Nat) : Int) := by omega
    -- a tuple with a new item in the midst
    have mid : ∀ (e : PyData), Small (3 * dq + 2) (sL dq + 58) e → Small (3 * (dq + 1)) (sL (dq + 1)) (.tuple (ds.take i ++ [e] ++ ds.drop (i + 1))) := by
      intro e he
      refine mix_small (fun z hz => ?_) (by have := len_mid (ds := ds) (n := i) (x := e); omega)
      rcases mem_mid hz with hz | rfl
      · exact (pair_small (hpo z hz)).mono (by omega) (by omega)
      · exact he
    refine b_ws (fun σ' Hc => σ' = [some (.ref p), some (.ref a), some (.int i), some pv1, some (.int m), some (.int way), none] ∧ Hc = Hb) ?_ ?_
    · repeat walk_at "st"
      refine ite2 (fun g1 => ?_) (fun g1 => ?_)
      rotate_left
      · repeat walk_at "st"
        exact ⟨rfl, rfl⟩
      repeat walk_at "st"
      refine b_isD hv1b (by decide) ?_
      repeat walk_at "st"
      refine ite2 (fun g2 => ?_) (fun g2 => ?_)
      rotate_left
      · repeat walk_at "st"
        exact ⟨rfl, rfl⟩
      have htd : Tale dq da := by
        rcases hpiece with h | ⟨x, rfl, _⟩
        · exact h
        · simp [isTy] at g2
      repeat walk_at "st"
      refine e_toT hTb hxb fun pc Hc hc sc => ?_
      repeat walk_at "st"
      refine ⟨M, p, _, dq, pv1, da, by omega, by omega, rfl, hMp, hTb.same sc, hPb.keep sc, by omega, hv1b.same sc, htd, fun v' d' Hd hd' hs' hPd sd => ?_⟩
      have sMd : SameM M Hc Hd := sd.sub fun b z => by rw [z]; exact hMp
      have hTd := (hTb.same sc).pot sd hPd
      repeat walk_at "st"
      refine e_tup fun t1 He n1 h1 se => ?_
      have hTe := hTd.same se
      repeat walk_at "st"
      refine e_tup fun t2 Hf n2 h2 sf => ?_
      have hTf := hTe.same sf
      have hpair : Dq K M Hf (.ref t1) (.tuple [d', .int m]) := (Dq.newT (hTd.new n1) h1 (.cons (hd'.same se) (.cons (.int m) .nil))).same sf
      have sMcf : SameM M Hc Hf := (sMd.trans (SameM.of se)).trans (SameM.of sf)
      refine e_catT hTf (sMcf.t hc) (SqTm.of (hTe.new n2) (SqT.of h2)) (by rw [List.length_take, List.length_singleton]; omega) fun pg Hg hg sg => ?_
      have hTg := hTf.same sg
      have sMbg : SameM M Hb Hg := ((SameM.of sc).trans sMcf).trans (SameM.of sg)
      repeat walk_at "st"
      rw [hcast]
      refine e_fromT hTg (sMbg.t hxb) fun ph Hh hh sh => ?_
      repeat walk_at "st"
      refine e_catT (hTg.same sh) ((SameM.of sh).t hg) hh (by simp only [List.length_append, List.length_take, List.length_drop, List.length_singleton]; omega) fun pi Hi hi2 si => ?_
      have sMbi : SameM M Hb Hi := (sMbg.trans (SameM.of sh)).trans (SameM.of si)
      have hxsi := hxsb.mono sMbi
      refine q _ _ Hi (.tup hi2 (((hxsi.take i).append (.cons (hpair.same ((sg.trans sh).trans si)) .nil)).append (hxsi.drop (i + 1)))) (mid _ ((Small.tup2 hs' hsm).mono (by omega) (by omega))) ?_ ?_
      · exact ((((hPd.keep se).keep sf).keep sg).keep sh).keep si |>.mono (by omega)
      · exact hab.trans ((SameM.of sc).trans (sd.trans (SameM.of ((((se.trans sf).trans sg).trans sh).trans si))))
    · rintro σ' Hb' ⟨rfl, rfl⟩
      have hbm : ∀ (s : Str), (∀ c ∈ s.cps.toList, c < 16 ^ 8) → s.length ≤ 21 → Small (3 * dq + 1) (sL dq) (.str s) := fun s h1 h2 => (Small.str (h := 0) h1 h2).mono (by omega) (by have := sL_ge dq; omega)
      have hge := sL_ge dq
      repeat walk_at "st"
      refine b_ws (fun σ' Hc => ∃ v1 d1 v2 d2 x6, σ' = [some (.ref p), some (.ref a), some (.int i), some v1, some v2, some (.int way), x6] ∧ Dq K M Hc v1 d1 ∧ Small (3 * dq + 1) (sL dq) d1 ∧ Dq K M Hc v2 d2 ∧ Small (3 * dq + 1) 25 d2 ∧ PotAt Hc p (n + 3) ∧ SameM (· = p) Hb' Hc) ?_ ?_
      · repeat walk_at "st"
        refine ite2 (fun g1 => ?_) (fun g1 => ?_)
        · -- the piece is changed
          repeat walk_at "st"
          refine b_repS (n := 21) rfl (by decide) (by decide) (by decide) (by decide) ?_
          repeat walk_at "st"
          refine e_tup fun t1 H1 n1 h1 s1 => ?_
          repeat walk_at "st"
          refine e_lst fun t2 H2 n2 h2 s2 => ?_
          repeat walk_at "st"
          refine e_tup fun t3 H3 n3 h3 s3 => ?_
          repeat walk_at "st"
          refine b_repS (n := 20) rfl (by decide) (by decide) (by decide) (by decide) ?_
          repeat walk_at "st"
          refine e_lst fun t4 H4 n4 h4 s4 => ?_
          repeat walk_at "st"
          have hT1 := hTb.same s1
          have hT2 := hT1.same s2
          have hT3 := hT2.same s3
          have hP3 := ((hPb.keep s1).keep s2).keep s3
          refine ⟨p, _, hP3.keep s4, by omega, .inl ⟨t4, _, rfl, hP3.ne n4, SqL.of h4, by simp, by simp, fun v H5 hv hP5 s5 => ?_⟩⟩
          repeat walk_at "st"
          have sM5 : SameM M H4 H5 := s5.sub fun b z => by rw [z]; exact hMp
          have e1 : Dq K M H5 (.ref t1) (.tuple []) := ((Dq.newT (hTb.new n1) h1 .nil).same ((s2.trans s3).trans s4)).mono sM5
          have e2 : Dq K M H5 (.ref t2) (.list []) := ((Dq.newL (hT1.new n2) h2 .nil).same (s3.trans s4)).mono sM5
          have e3 : Dq K M H5 (.ref t3) (.tuple [.str "a"]) := ((Dq.newT (hT2.new n3) h3 (.cons (.str _) .nil)).same s4).mono sM5
          have sb5 : SameM (· = p) Hb' H5 := (SameM.of (((s1.trans s2).trans s3).trans s4)).trans s5
          obtain ⟨d1, hd1, hs1⟩ : ∃ d1, Dq K M H5 v d1 ∧ Small (3 * dq + 1) (sL dq) d1 := by
            simp only [List.mem_cons, List.not_mem_nil, or_false] at hv
            rcases hv with rfl | rfl | rfl | rfl | rfl | rfl | rfl | rfl | rfl | rfl | rfl | rfl
            · exact ⟨_, .str _, hbm _ (by decide) (by decide)⟩
            · exact ⟨_, .str _, hbm _ (by decide) (by decide)⟩
            · exact ⟨_, .str _, hbm _ (by decide) (by decide)⟩
            · exact ⟨_, .str _, hbm _ (by decide) (by decide)⟩
            · exact ⟨_, .str _, hbm _ (by decide) (by decide)⟩
            · exact ⟨_, .str _, hbm _ (by decide) (by decide)⟩
            · exact ⟨_, .non, Small.non.mono (Nat.le_refl _) (by omega)⟩
            · exact ⟨_, .int _, (Small.int 3 (by decide) (by decide) (by decide)).mono (Nat.le_refl _) (by omega)⟩
            · exact ⟨_, e1, (Small.tup (h := 0) (n := 0) (m := 0) (fun d hd => by simp at hd) (by simp)).mono (by omega) (by omega)⟩
            · exact ⟨_, e2, (Small.lst (h := 0) (n := 0) (m := 0) (fun d hd => by simp at hd) (by simp)).mono (by omega) (by omega)⟩
            · exact ⟨_, e3, (Small.tup1 (Small.str (h := 0) (m := 1) (by decide) (by decide))).mono (by omega) (by omega)⟩
            · exact ⟨_, .str _, hbm _ (by decide) (by decide)⟩
          exact ⟨v, d1, _, _, _, rfl, hd1, hs1, .int m, hsm.mono (by omega) (by omega), hP5, sb5⟩
        repeat walk_at "st"
        refine ite2 (fun g2 => ?_) (fun g2 => ?_)
        · -- the times are changed
          repeat walk_at "st"
          refine b_I (cpow 4 (by decide) (by decide) (by decide) (by decide)) ?_
          repeat walk_at "st"
          refine b_I (cpow 4 (by decide) (by decide) (by decide) (by decide)) ?_
          repeat walk_at "st"
          refine e_tup fun t1 H1 n1 h1 s1 => ?_
          repeat walk_at "st"
          refine e_lst fun t4 H4 n4 h4 s4 => ?_
          repeat walk_at "st"
          have hP3 := hPb.keep s1
          refine ⟨p, _, hP3.keep s4, by omega, .inl ⟨t4, _, rfl, hP3.ne n4, SqL.of h4, by simp, by simp, fun v H5 hv hP5 s5 => ?_⟩⟩
          repeat walk_at "st"
          have sM5 : SameM M H4 H5 := s5.sub fun b z => by rw [z]; exact hMp
          have e1 : Dq K M H5 (.ref t1) (.tuple [.int 2]) := ((Dq.newT (hTb.new n1) h1 (.cons (.int _) .nil)).same s4).mono sM5
          have sb5 : SameM (· = p) Hb' H5 := (SameM.of (s1.trans s4)).trans s5
          have hint : ∀ z : Int, z.natAbs < 10 ^ 20 → Small (3 * dq + 1) 25 (.int z) := fun z hz => (Small.int 20 (by decide) (by decide) hz).mono (Nat.le_refl _) (by decide)
          obtain ⟨d1, hd1, hs1⟩ : ∃ d1, Dq K M H5 v d1 ∧ Small (3 * dq + 1) 25 d1 := by
            simp only [List.mem_cons, List.not_mem_nil, or_false] at hv
            rcases hv with rfl | rfl | rfl | rfl | rfl | rfl | rfl | rfl | rfl
            · exact ⟨_, .int _, hint _ (by decide)⟩
            · exact ⟨_, .int _, hint _ (by decide)⟩
            · exact ⟨_, .bl _, (Small.bl _).mono (Nat.le_refl _) (by decide)⟩
            · exact ⟨_, .non, Small.non.mono (Nat.le_refl _) (by decide)⟩
            · exact ⟨_, .str _, (Small.str (m := 1) (by decide) (by decide)).mono (Nat.le_refl _) (by decide)⟩
            · exact ⟨_, .int _, hint _ (by decide)⟩
            · exact ⟨_, .int _, hint _ (by decide)⟩
            · exact ⟨_, e1, (Small.tup1 (Small.int (h := 0) 3 (by decide) (by decide) (by decide))).mono (by omega) (by omega)⟩
            · exact ⟨_, .int _, hint _ (by decide)⟩
          exact ⟨_, _, v, d1, _, rfl, hv1b.mono (sb5.sub fun b z => by rw [z]; exact hMp), hda.mono (by omega) (by omega), hd1, hs1, hP5, sb5⟩
        repeat walk_at "st"
        refine ite2 (fun g3 => ?_) (fun g3 => ?_)
        · -- the whole is changed
          repeat walk_at "st"
          refine e_listT hxb.t fun t1 H1 n1 h1 s1 => ?_
          have hT1 := hTb.same s1
          repeat walk_at "st"
          refine e_tup fun t2 H2 n2 h2 s2 => ?_
          have hT2 := hT1.same s2
          repeat walk_at "st"
          refine e_tup fun t3 H3 n3 h3 s3 => ?_
          have hT3 := hT2.same s3
          repeat walk_at "st"
          refine e_repT (SqT.of h3) (by simp) (by decide) (by decide) (by simp) fun t4 H4 n4 h4 s4 => ?_
          have hT4 := hT3.same s4
          have sb4 := ((s1.trans s2).trans s3).trans s4
          have e4 : (List.replicate (Int.toNat 6) [V.ref t2]).flatten = [.ref t2, .ref t2, .ref t2, .ref t2, .ref t2, .ref t2] := rfl
          rw [e4] at h4
          refine e_catT hT4 ((SameM.of sb4).t hxb) (SqTm.of (hT3.new n4) (SqT.of h4)) (by simp; omega) fun t5 H5 h5 s5 => ?_
          have hT5 := hT4.same s5
          have sb5 := sb4.trans s5
          repeat walk_at "st"
          refine e_toT hT5 ((SameM.of sb5).t hxb) fun t6 H6 h6 s6 => ?_
          have hT6 := hT5.same s6
          have sb6 := sb5.trans s6
          repeat walk_at "st"
          rw [hcast]
          refine e_fromT hT6 ((SameM.of sb6).t hxb) fun t7 H7 h7 s7 => ?_
          have hT7 := hT6.same s7
          have sb7 := sb6.trans s7
          repeat walk_at "st"
          refine e_catT hT7 ((SameM.of s7).t h6) h7 (by simp only [List.length_append, List.length_take, List.length_drop, List.length_singleton]; omega) fun t8 H8 h8 s8 => ?_
          have hT8 := hT7.same s8
          have sb8 := sb7.trans s8
          repeat walk_at "st"
          refine e_tup fun t9 H9 n9 h9 s9 => ?_
          have sb9 := sb8.trans s9
          repeat walk_at "st"
          refine e_lst fun tl HL nL hL sL' => ?_
          have hPL := hPb.keep sb9
          have sbL := sb9.trans sL'
          repeat walk_at "st"
          refine ⟨p, _, hPL.keep sL', by omega, .inl ⟨tl, _, rfl, hPL.ne nL, SqL.of hL, by simp, by simp, fun v HM hv hPM sM => ?_⟩⟩
          have sbM : SameM M Hb' HM := (SameM.of sbL).trans (sM.sub fun b z => by rw [z]; exact hMp)
          have sMM : SameM M HL HM := sM.sub fun b z => by rw [z]; exact hMp
          have hxM := hxsb.mono sbM
          have hpairM : Dq K M HM (.ref t2) (.tuple [da, .int m]) := ((Dq.newT (hT1.new n2) h2 (.cons ((hv1b.same s1).same s2) (.cons (.int m) .nil))).same ((((((((s3.trans s4).trans s5).trans s6).trans s7).trans s8).trans s9).trans sL'))).mono sMM
          have hthing : Dq K M HM (.ref a) (.tuple ds) := .tup (sbM.t hxb) hxM
          have hpo58 : ∀ z ∈ ds, Small (3 * dq + 2) (sL dq + 58) z := fun z hz => (pair_small (hpo z hz)).mono (by omega) (by omega)
          obtain ⟨d1, hd1, hs1⟩ : ∃ d1, Dq K M HM v d1 ∧ Small (3 * (dq + 1)) (sL (dq + 1)) d1 := by
            simp only [List.mem_cons, List.not_mem_nil, or_false] at hv
            rcases hv with rfl | rfl | rfl | rfl
            · refine ⟨_, ((Dq.newL (hTb.new n1) h1 (hxsb.same s1)).same ((((((((s2.trans s3).trans s4).trans s5).trans s6).trans s7).trans s8).trans s9).trans sL')).mono sMM, mix_smallL hpo58 (by omega)⟩
            · refine ⟨_, .tup (sMM.t ((SameM.of ((((s6.trans s7).trans s8).trans s9).trans sL')).t h5)) (hxM.append (.cons hpairM (.cons hpairM (.cons hpairM (.cons hpairM (.cons hpairM (.cons hpairM .nil))))))), mix_small (fun z hz => ?_) (by simp; omega)⟩
              rcases List.mem_append.mp hz with hz | hz
              · exact hpo58 z hz
              · obtain rfl : z = .tuple [da, .int m] := by simpa using hz
                exact (Small.tup2 hda hsm).mono (by omega) (by omega)
            · refine ⟨_, .tup (sMM.t ((SameM.of (s9.trans sL')).t h8)) ((hxM.take i).append (hxM.drop (i + 1))), mix_small (fun z hz => ?_) (by simp only [List.length_append, List.length_take, List.length_drop]; omega)⟩
              rcases List.mem_append.mp hz with hz | hz
              · exact hpo58 z (List.mem_of_mem_take hz)
              · exact hpo58 z (List.mem_of_mem_drop hz)
            · refine ⟨.tuple [.tuple ds], ((Dq.newT (hT8.new n9) h9 (.cons (.tup ((SameM.of sb9).t hxb) (hxsb.same sb9)) .nil)).same sL').mono sMM, (Small.tup1 (tale_small1 hl2 hpo)).mono (by omega) ?_⟩
              rw [sL_succ]; omega
          exact q v d1 HM hd1 hs1 (hPM.mono (by omega)) (hab.trans ((SameM.of sbL).trans sM))
        · -- a pair is odd
          repeat walk_at "st"
          refine e_lst fun t1 H1 n1 h1 s1 => ?_
          have hT1 := hTb.same s1
          repeat walk_at "st"
          refine e_tup fun t2 H2 n2 h2 s2 => ?_
          have hT2 := hT1.same s2
          repeat walk_at "st"
          refine e_tup fun t3 H3 n3 h3 s3 => ?_
          have sb3 := (s1.trans s2).trans s3
          repeat walk_at "st"
          refine e_lst fun tl HL nL hL sL' => ?_
          have hPL := hPb.keep sb3
          have sbL := sb3.trans sL'
          repeat walk_at "st"
          refine ⟨p, _, hPL.keep sL', by omega, .inl ⟨tl, _, rfl, hPL.ne nL, SqL.of hL, by simp, by simp, fun v HM hv hPM sM => ?_⟩⟩
          have sMM : SameM M HL HM := sM.sub fun b z => by rw [z]; exact hMp
          have sbM : SameM M Hb' HM := (SameM.of sbL).trans sMM
          have hTM := (hTb.same sbL).pot sM hPM
          obtain ⟨d1, hd1, hs1⟩ : ∃ d1, Dq K M HM v d1 ∧ Small (3 * dq + 2) (sL dq + 58) d1 := by
            simp only [List.mem_cons, List.not_mem_nil, or_false] at hv
            rcases hv with rfl | rfl | rfl | rfl
            · exact ⟨_, ((Dq.newL (hTb.new n1) h1 (.cons (hv1b.same s1) (.cons (.int m) .nil))).same ((s2.trans s3).trans sL')).mono sMM, (Small.lst2 hda hsm).mono (by omega) (by omega)⟩
            · exact ⟨_, ((Dq.newT (hT1.new n2) h2 (.cons ((hv1b.same s1).same s2) .nil)).same (s3.trans sL')).mono sMM, (Small.tup1 hda).mono (by omega) (by omega)⟩
            · exact ⟨_, ((Dq.newT (hT2.new n3) h3 (.cons (hv1b.same sb3) (.cons (.int m) (.cons (.int 1) .nil)))).same sL').mono sMM, (Small.tup3 hda hsm (Small.int 3 (by decide) (by decide) (by decide))).mono (by omega) (by omega)⟩
            · exact ⟨_, hv1b.mono sbM, hda.mono (by omega) (by omega)⟩
          repeat walk_at "st"
          refine e_toT hTM (sbM.t hxb) fun pd Hd hd' sd => ?_
          have hTd := hTM.same sd
          repeat walk_at "st"
          refine e_tup fun t2 Hf n2 h2 sf => ?_
          have hTf := hTd.same sf
          refine e_catT hTf ((SameM.of sf).t hd') (SqTm.of (hTd.new n2) (SqT.of h2)) (by rw [List.length_take, List.length_singleton]; omega) fun pg Hg hg sg => ?_
          have hTg := hTf.same sg
          have scg := (sd.trans sf).trans sg
          repeat walk_at "st"
          rw [hcast]
          refine e_fromT hTg ((sbM.trans (SameM.of scg)).t hxb) fun ph Hh hh sh => ?_
          repeat walk_at "st"
          refine e_catT (hTg.same sh) ((SameM.of sh).t hg) hh (by simp only [List.length_append, List.length_take, List.length_drop, List.length_singleton]; omega) fun pi Hi hi2 si => ?_
          have sci := (scg.trans sh).trans si
          have hxsi := hxsb.mono (sbM.trans (SameM.of sci))
          refine q _ _ Hi (.tup hi2 (((hxsi.take i).append (.cons (hd1.same sci) .nil)).append (hxsi.drop (i + 1)))) (mid _ hs1) ?_ ?_
          · exact (hPM.keep sci).mono (by omega)
          · exact hab.trans ((SameM.of sbL).trans (sM.trans (SameM.of sci)))
      · rintro σ' Hc ⟨v1, d1, v2, d2, x6, rfl, hd1, hs1, hd2, hs2, hPc, sbc⟩
        have sMc : SameM M Hb' Hc := sbc.sub fun b z => by rw [z]; exact hMp
        have hTc := hTb.pot sbc hPc
        repeat walk_at "st"
        refine e_toT hTc (sMc.t hxb) fun pd Hd hd' sd => ?_
        have hTd := hTc.same sd
        repeat walk_at "st"
        refine e_tup fun t1 He n1 h1 se => ?_
        have hTe := hTd.same se
        repeat walk_at "st"
        refine e_tup fun t2 Hf n2 h2 sf => ?_
        have hTf := hTe.same sf
        have sdf := se.trans sf
        have hpair : Dq K M Hf (.ref t1) (.tuple [d1, d2]) := (Dq.newT (hTd.new n1) h1 (.cons ((hd1.same sd).same se) (.cons ((hd2.same sd).same se) .nil))).same sf
        refine e_catT hTf ((SameM.of sdf).t hd') (SqTm.of (hTe.new n2) (SqT.of h2)) (by rw [List.length_take, List.length_singleton]; omega) fun pg Hg hg sg => ?_
        have hTg := hTf.same sg
        have scg := (sd.trans sdf).trans sg
        repeat walk_at "st"
        rw [hcast]
        refine e_fromT hTg ((sMc.trans (SameM.of scg)).t hxb) fun ph Hh hh sh => ?_
        repeat walk_at "st"
        refine e_catT (hTg.same sh) ((SameM.of sh).t hg) hh (by simp only [List.length_append, List.length_take, List.length_drop, List.length_singleton]; omega) fun pi Hi hi2 si => ?_
        have sci := (scg.trans sh).trans si
        have hxsi := hxsb.mono (sMc.trans (SameM.of sci))
        refine q _ _ Hi (.tup hi2 (((hxsi.take i).append (.cons (hpair.same ((sg.trans sh).trans si)) .nil)).append (hxsi.drop (i + 1)))) (mid _ ((Small.tup2 hs1 hs2).mono (by omega) (by omega))) ?_ ?_
        · exact (hPc.keep sci).mono (by omega)
        · exact hab.trans (sbc.trans (SameM.of sci))
end
end K71

namespace K71
open PySem PySem.Spec PyProof.Rows L2 FG
local macro_rules | `(tactic| walk_at "sq") => `(tactic| first
  | assumption
  | exact SqL.of (by assumption)
  | exact SqT.of (by assumption)
  | exact SqLm.l (by assumption)
  | exact SqTm.t (by assumption))
local macro_rules | `(tactic| walk_at "cond") => `(tactic| first
  | assumption
  | (show (0 : Int) < _; omega)
  | (show (0 : Int) < _ ∧ _ < 1073741824; omega))
local macro_rules | `(tactic| walk_at "st") => `(tactic| first
  | with_reducible refine b_seq ?_
  | with_reducible refine b_asg ?_
  | with_reducible refine b_op ?_
  | ((with_reducible refine' b_var ?hv ?_); (case hv => exact rfl))
  | with_reducible refine b_c ?_
  | with_reducible refine b_name ?_
  | with_reducible refine b_I0 ?_
  | with_reducible refine b_cons ?_
  | with_reducible refine b_nil ?_
  | with_reducible refine b_cb ?_
  | with_reducible refine b_call ?_
  | with_reducible refine b_ret ?_
  | with_reducible refine b_ifS ?_
  | with_reducible refine b_test ?_
  | with_reducible refine b_tb ?_
  | with_reducible refine b_bl ?_
  | with_reducible refine b_blP ?_
  | with_reducible refine b_next ?_
  | with_reducible refine b_drop ?_
  | with_reducible refine b_sub ?_
  | with_reducible refine b_chain ?_
  | with_reducible refine b_and ?_
  | with_reducible refine b_or ?_
  | with_reducible refine b_not ?_
  | with_reducible refine b_andV ?_
  | with_reducible refine b_orV ?_
  | with_reducible refine b_notV ?_
  | with_reducible refine b_if ?_
  | with_reducible refine b_par ?_
  | with_reducible refine b_parE ?_
  | ((with_reducible refine' b_aug ?hv ?_); (case hv => exact rfl))
  | with_reducible refine b_ip ?_
  | with_reducible refine b_retN ?_
  | with_reducible refine b_tup ?_
  | with_reducible refine b_lst ?_
  | with_reducible refine b_sl ?_
  | with_reducible refine b_part ?_
  | with_reducible refine b_partP ?_
  | with_reducible refine b_nopart ?_
  | with_reducible refine b_bm ?_
  | with_reducible refine b_m1 ?_
  | with_reducible refine b_yes ?_
  | with_reducible refine b_un ?_
  | with_reducible refine b_neg ?_
  | with_reducible refine b_isN ?_
  | with_reducible refine b_notN ?_
  | with_reducible refine b_inS ?_
  | with_reducible refine b_int ?_
  | with_reducible refine b_intB ?_
  | with_reducible refine b_abs ?_
  | with_reducible refine b_max ?_
  | with_reducible refine b_min ?_
  | ((with_reducible refine b_eq ?hv ?_); (case hv => exact rfl))
  | ((with_reducible refine b_ne ?hv ?_); (case hv => exact rfl))
  | ((with_reducible refine' b_lenL ?hv ?_); (case hv => walk_at "sq"))
  | ((with_reducible refine' b_lenT ?hv ?_); (case hv => walk_at "sq"))
  | ((with_reducible refine' b_ixL ?hv ?hw ?_); (case hv => walk_at "sq"); (case hw => exact rfl))
  | ((with_reducible refine' b_ixT ?hv ?hw ?_); (case hv => walk_at "sq"); (case hw => exact rfl))
  | ((with_reducible refine b_I ?hv ?_); (case hv => walk_at "cond"))
  | with_reducible refine b_lcS ?_
  | with_reducible refine b_lcR ?_
  | with_reducible refine b_lcT ?_
  | with_reducible refine b_lcL ?_
  | with_reducible refine b_forT ?_
  | with_reducible refine b_forL ?_
  | with_reducible refine b_forR ?_
  | with_reducible refine b_turn ?_
  | ((with_reducible refine And.intro (a := wipe _ _ = wipe _ _) ?hv ?_); (case hv => exact rfl))
  | ((with_reducible refine And.intro (a := tyV _ "list" _ _) ?hv ?_); (case hv => exact ty_list (by assumption)))
  | with_reducible refine And.intro (a := ∃ a, V.str _ = V.str a) ⟨_, rfl⟩ ?_
  | (with_reducible refine iteT ?_)
  | (with_reducible refine iteNF ?_)
  | (with_reducible refine iteNT ?_)
  | (with_reducible refine iteVT ?_)
  | (with_reducible refine iteNVT ?_)
  | ((with_reducible refine iteVF ?hv ?_); (case hv => exact rfl))
  | ((with_reducible refine iteNVF ?hv ?_); (case hv => exact rfl))
  | with_reducible refine b_callS ?_
  | with_reducible refine b_xq ?_
  | (with_reducible refine iteF ?_))

section
variable {P : Program} {w : World} {K : PySem.W.Frag} {mg : Str → Option Value} {base : Heap} {D : Ad}
/-- what is asked of the classes -/
structure BadK (K : PySem.W.Frag) (D : Ad) : Prop where
  isi : IsiC K D.c_BadFar
  k1 : PySem.W.kitOne K (.ref D.c_BadFar) (.ref D.c_BadFar) = some true
  k2 : PySem.W.kitOne K (.ref D.c_BadFar) (.type "ValueError") = some true
  ex : PySem.W.exmOne K (.ref D.c_BadFar) (.ref D.c_PassError) = some true
  nov : PySem.W.findIn K (.ref D.c_BadFar) "value" = some none
def toldV (v : V) (d : PyData) : List V := if farOk letters d = true then [.str "told", optV (farLen letters 4 d)] else [.str "bad", v]
def sp_told (K : PySem.W.Frag) : Sp := fun vs H Q _ => ∃ (M : Addr → Prop) (v : V) (d : PyData), vs = [v] ∧ Dq K M H v d ∧ Show d ∧ ∀ t H', H t = none → H' t = some (.tup (toldV v d)) → Same H H' → Q (.ref t) H'
theorem ok__law_told (T : Txt K mg D) {D0 : Addr} (X_BadFar : ErrF P w K mg base D0 D.c_BadFar "BadFar") (B : BadK K D) {k : Nat} : FnOk P w K mg base CX0 (k + 10) D.f__law_told D.d__law_told P__law_told (sp_told K) := by
  have G_far_length : FnOk P w K mg base (L2.CX P w) (k + 9) D.f_far_length D.d_far_length P_far_length (sp_far_length K D.c_BadFar) := ok_far_length T X_BadFar
  refine T.f__law_told.ok sc__law_told (fun vs H Q E h => ?_) (fun cdv A outer s H vs Q E hr h => ?_)
  · obtain ⟨M, v, d, rfl, _⟩ := h
    rfl
  · obtain ⟨M, v, d, rfl, hd, hs, q⟩ := h
    refine ⟨_, (pss_cons (ps_asg (pe_tup (pa_cons pe_non (pa_cons pe_non pa_nil))) (pg_tup (by rfl) (pgs_cons (pg_name (i := 1) sc__law_told.nd rfl (by first | exact .inl rfl | exact .inr rfl)) (pgs_cons (pg_name (i := 2) sc__law_told.nd rfl (by first | exact .inl rfl | exact .inr rfl)) pgs_nil))))
      (pss_cons (ps_try_keep (i := 4) (j := 2) rfl rfl rfl sc__law_told.nd rfl rfl rfl rfl ⟨by rfl, by decide, .inl T.g_PassError⟩ takes0 (fun W pn xe tk po => (pss_one (ps_set (i := 1) sc__law_told.nd rfl (by first | exact .inl rfl | exact .inr rfl) (pe_callS G_far_length hr (by rfl) T.g_far_length T.f_far_length.kp T.b_far_length (fun σ => passAt tk σ) (pa_cons (pv 0) pa_nil))))))
      (pss_cons (ps_if (pt_cmpR o_isN (pv 2) pe_non (nomark _)) (pss_one (ps_ret (pe_tup (pa_cons pe_str (pa_cons (pv 1) pa_nil))))) pss_nil)
      (pss_cons (ps_set (i := 3) sc__law_told.nd rfl (by first | exact .inl rfl | exact .inr rfl) (pe_and (pe_callB call_isQ (by rfl) T.z_isinstance (by decide +kernel) (pa_cons (pv 2) (pa_cons (pe_glob (v := .ref D.c_BadFar) (by rfl) T.g_BadFar rfl) pa_nil))) (pe_one (pe_callB call_isQ (by rfl) T.z_isinstance (by decide +kernel) (pa_cons (pv 2) (pa_cons (pe_bltn (v := .ty "ValueError") (by rfl) T.z_ValueError (by decide +kernel) rfl) pa_nil))))))
      (pss_one (ps_ret (pe_ifExp (pt_val (pv 3)) (pe_tup (pa_cons pe_str (pa_cons (pe_xq (pv 2)) pa_nil))) (pe_tup (pa_cons pe_str (pa_cons pe_non pa_nil)))))))))), ?_⟩
    unfold toldV at q
    repeat walk_at "st"
    refine e_tup fun t0 H0 nt0 ht0 s0 => ?_
    refine e_gtup2 (SqT.of ht0) ?_
    repeat walk_at "st"
    refine ⟨M, v, d, rfl, hd.same s0, hs, fun hf H1 s1 => ?_, fun hf dx H1 ndx hx s1 => ?_⟩ <;> replace s1 := s0.trans s1
    · rw [if_pos hf] at q
      repeat walk_at "st"
      refine e_tup fun t H2 nt ht s2 => ?_
      exact q t H2 (none_back s1 nt) ht (s1.trans s2)
    · rw [if_neg (by rw [hf]; exact Bool.false_ne_true)] at q
      refine ⟨true, B.ex, fun _ a na => ?_, fun z => nomatch z⟩
      have ha : upd H1 a (exq a (.ref D.c_BadFar) (some dx)) a = some (exq a (.ref D.c_BadFar) (some dx)) := upd_same
      have hdx : upd H1 a (exq a (.ref D.c_BadFar) (some dx)) dx = some (.xd [((Str.ofString "value"), v)]) := same_upd na _ _ hx
      have s2 : Same H1 (upd H1 a (exq a (.ref D.c_BadFar) (some dx))) := same_upd na
      generalize upd H1 a (exq a (.ref D.c_BadFar) (some dx)) = H2 at ha hdx s2 ⊢
      repeat walk_at "st"
      refine b_isQ (.own _) ha hdx B.isi B.k1 ?_
      repeat walk_at "st"
      refine b_isQ (.ty _) ha hdx B.isi B.k2 ?_
      repeat walk_at "st"
      refine ⟨a, _, dx, _, v, rfl, ha, hdx, B.isi.xf, B.nov, rfl, ?_⟩
      repeat walk_at "st"
      refine e_tup fun t H3 nt ht s3 => ?_
      exact q t H3 (none_back (s1.trans s2) nt) ht ((s1.trans s2).trans s3)
/-- what may be asked about -/
structure Fine (d : PyData) : Prop where
  one : Show d
  two : Show (.tuple [.str "bad", d])
theorem Small.fine {h n : Nat} {d : PyData} (s : Small h n d) (e1 : h ≤ 50) (e2 : n ≤ 15000000) : Fine d :=
  ⟨s.show (by omega) (by omega), ((Small.tup2 (Small.str (m := 3) (by decide) (by decide)) s).mono (h' := 60) (n' := 16000000) (by omega) (by omega)).show (by omega) (by omega)⟩
end
end K71

namespace K71
open PySem PySem.Spec PyProof.Rows L2 FG
local macro_rules | `(tactic| walk_at "sq") => `(tactic| first
  | assumption
  | exact SqL.of (by assumption)
  | exact SqT.of (by assumption)
  | exact SqLm.l (by assumption)
  | exact SqTm.t (by assumption))
local macro_rules | `(tactic| walk_at "cond") => `(tactic| first
  | assumption
  | (show (0 : Int) < _; omega)
  | (show (0 : Int) < _ ∧ _ < 1073741824; omega))
local macro_rules | `(tactic| walk_at "st") => `(tactic| first
  | with_reducible refine b_seq ?_
  | with_reducible refine b_asg ?_
  | with_reducible refine b_op ?_
  | ((with_reducible refine' b_var ?hv ?_); (case hv => exact rfl))
  | with_reducible refine b_c ?_
  | with_reducible refine b_name ?_
  | with_reducible refine b_I0 ?_
  | with_reducible refine b_cons ?_
  | with_reducible refine b_nil ?_
  | with_reducible refine b_cb ?_
  | with_reducible refine b_call ?_
  | with_reducible refine b_ret ?_
  | with_reducible refine b_ifS ?_
  | with_reducible refine b_test ?_
  | with_reducible refine b_tb ?_
  | with_reducible refine b_bl ?_
  | with_reducible refine b_blP ?_
  | with_reducible refine b_next ?_
  | with_reducible refine b_drop ?_
  | with_reducible refine b_sub ?_
  | with_reducible refine b_chain ?_
  | with_reducible refine b_and ?_
  | with_reducible refine b_or ?_
  | with_reducible refine b_not ?_
  | with_reducible refine b_andV ?_
  | with_reducible refine b_orV ?_
  | with_reducible refine b_notV ?_
  | with_reducible refine b_if ?_
  | with_reducible refine b_par ?_
  | with_reducible refine b_parE ?_
  | ((with_reducible refine' b_aug ?hv ?_); (case hv => exact rfl))
  | with_reducible refine b_ip ?_
  | with_reducible refine b_retN ?_
  | with_reducible refine b_tup ?_
  | with_reducible refine b_lst ?_
  | with_reducible refine b_sl ?_
  | with_reducible refine b_part ?_
  | with_reducible refine b_partP ?_
  | with_reducible refine b_nopart ?_
  | with_reducible refine b_bm ?_
  | with_reducible refine b_m1 ?_
  | with_reducible refine b_yes ?_
  | with_reducible refine b_un ?_
  | with_reducible refine b_neg ?_
  | with_reducible refine b_isN ?_
  | with_reducible refine b_notN ?_
  | with_reducible refine b_inS ?_
  | with_reducible refine b_int ?_
  | with_reducible refine b_intB ?_
  | with_reducible refine b_abs ?_
  | with_reducible refine b_max ?_
  | with_reducible refine b_min ?_
  | ((with_reducible refine b_eq ?hv ?_); (case hv => exact rfl))
  | ((with_reducible refine b_ne ?hv ?_); (case hv => exact rfl))
  | ((with_reducible refine' b_lenL ?hv ?_); (case hv => walk_at "sq"))
  | ((with_reducible refine' b_lenT ?hv ?_); (case hv => walk_at "sq"))
  | ((with_reducible refine' b_ixL ?hv ?hw ?_); (case hv => walk_at "sq"); (case hw => exact rfl))
  | ((with_reducible refine' b_ixT ?hv ?hw ?_); (case hv => walk_at "sq"); (case hw => exact rfl))
  | ((with_reducible refine b_I ?hv ?_); (case hv => walk_at "cond"))
  | with_reducible refine b_lcS ?_
  | with_reducible refine b_lcR ?_
  | with_reducible refine b_lcT ?_
  | with_reducible refine b_lcL ?_
  | with_reducible refine b_forT ?_
  | with_reducible refine b_forL ?_
  | with_reducible refine b_forR ?_
  | with_reducible refine b_turn ?_
  | ((with_reducible refine And.intro (a := wipe _ _ = wipe _ _) ?hv ?_); (case hv => exact rfl))
  | ((with_reducible refine And.intro (a := tyV _ "list" _ _) ?hv ?_); (case hv => exact ty_list (by assumption)))
  | with_reducible refine And.intro (a := ∃ a, V.str _ = V.str a) ⟨_, rfl⟩ ?_
  | (with_reducible refine iteT ?_)
  | (with_reducible refine iteNF ?_)
  | (with_reducible refine iteNT ?_)
  | (with_reducible refine iteVT ?_)
  | (with_reducible refine iteNVT ?_)
  | ((with_reducible refine iteVF ?hv ?_); (case hv => exact rfl))
  | ((with_reducible refine iteNVF ?hv ?_); (case hv => exact rfl))
  | with_reducible refine b_callS ?_
  | with_reducible refine b_xq ?_
  | (with_reducible refine iteF ?_))

section
variable {P : Program} {w : World} {K : PySem.W.Frag} {mg : Str → Option Value} {base : Heap} {D : Ad}
structure DF (K : PySem.W.Frag) (H : Hp) (vs : List V) (ds : List PyData) : Prop where
  all : DqAll K M0 H vs ds
  fine : ∀ d ∈ ds, Fine d
theorem DF.nil {H : Hp} : DF K H [] [] := ⟨.nil, by simp⟩
theorem DF.same {H H' : Hp} {vs : List V} {ds : List PyData} (h : DF K H vs ds) (s : Same H H') : DF K H' vs ds := ⟨h.all.same s, h.fine⟩
theorem DF.push {H : Hp} {vs : List V} {ds : List PyData} {v : V} {d : PyData} (h : DF K H vs ds) (hv : Dq K M0 H v d) (hd : Fine d) : DF K H (vs ++ [v]) (ds ++ [d]) :=
  ⟨h.all.append (.cons hv .nil), fun e he => by
    rcases List.mem_append.mp he with he | he
    · exact h.fine e he
    · rw [List.mem_singleton.mp he]; exact hd⟩
theorem DF.append {H : Hp} {vs ws : List V} {ds es : List PyData} (h : DF K H vs ds) (g : DF K H ws es) : DF K H (vs ++ ws) (ds ++ es) :=
  ⟨h.all.append g.all, fun e he => by
    rcases List.mem_append.mp he with he | he
    · exact h.fine e he
    · exact g.fine e he⟩
/-- text and int, small -/
theorem smS (x : Str) (h1 : ∀ c ∈ x.cps.toList, c < 16 ^ 8) (h2 : x.length ≤ 30) : Small 0 302 (.str x) := Small.str h1 h2
theorem smI (z : Int) (h : z.natAbs < 10 ^ 30) : Small 0 31 (.int z) := Small.int 30 (by decide) (by decide) h
theorem Small.rep {h n : Nat} {d : PyData} (hd : Small h n d) (k : Nat) : Small (h + 1) (k * (n + 2) + 3) (.tuple (List.replicate k d)) :=
  Small.tup (fun e he => by rw [List.eq_of_mem_replicate he]; exact hd) (by simp)
def sp_edges (K : PySem.W.Frag) : Sp := fun vs H Q _ => vs = [] ∧ ∀ l xs ds H', H' l = some (.lst xs) → DF K H' xs ds → xs.length ≤ 100 → Same H H' → Q (.ref l) H'
theorem ok__law_edges (T : Txt K mg D) {k : Nat} : FnOk P w K mg base CX0 (k + 1) D.f__law_edges D.d__law_edges P__law_edges (sp_edges K) := by
  refine T.f__law_edges.ok sc__law_edges (fun vs H Q E h => ?_) (fun cdv A outer s H vs Q E hr h => ?_)
  · obtain ⟨rfl, _⟩ := h
    rfl
  · obtain ⟨rfl, q⟩ := h
    have aok : ∀ c ∈ (Str.ofString "a").cps.toList, c < 16 ^ 8 := by decide
    refine ⟨_, (pss_cons (ps_set (i := 0) sc__law_edges.nd rfl (by first | exact .inl rfl | exact .inr rfl) (pe_tup (pa_cons (pe_tup (pa_cons pe_str (pa_cons pe_int pa_nil))) pa_nil)))
      (pss_cons (ps_for PassesOwn.never rfl (pi_range1 (by rfl) T.z_range (pa_cons pe_int pa_nil)) (pg_name (i := 1) sc__law_edges.nd rfl (by first | exact .inl rfl | exact .inr rfl)) (pss_one (ps_set (i := 0) sc__law_edges.nd rfl (by first | exact .inl rfl | exact .inr rfl) (pe_tup (pa_cons (pe_tup (pa_cons (pv 0) (pa_cons pe_int pa_nil))) pa_nil)))))
      (pss_cons (ps_set (i := 2) sc__law_edges.nd rfl (by first | exact .inl rfl | exact .inr rfl) (pe_tup (pa_cons (pe_tup (pa_cons (pe_tup (pa_cons (pe_tup (pa_cons pe_str (pa_cons (pe_op op_powW pe_int pe_int) pa_nil))) pa_nil)) (pa_cons (pe_op op_powW pe_int pe_int) pa_nil))) pa_nil)))
      (pss_cons (ps_set (i := 3) sc__law_edges.nd rfl (by first | exact .inl rfl | exact .inr rfl) (pe_lst (pa_cons (pv 0) (pa_cons (pe_tup (pa_cons (pe_tup (pa_cons (pv 0) (pa_cons pe_int pa_nil))) pa_nil)) (pa_cons (pv 2) (pa_cons (pe_op op_catA (pv 2) (pe_tup (pa_cons (pe_tup (pa_cons pe_str (pa_cons pe_int pa_nil))) pa_nil))) (pa_cons (pe_tup (pa_cons (pe_tup (pa_cons pe_str (pa_cons (pe_op op_powW pe_int pe_int) pa_nil))) pa_nil)) (pa_cons (pe_tup (pa_cons (pe_tup (pa_cons pe_str (pa_cons (pe_op op_add (pe_op op_powW pe_int pe_int) pe_int) pa_nil))) pa_nil)) (pa_cons (pe_tup (pa_cons (pe_tup (pa_cons (pe_op o_repS pe_str pe_int) (pa_cons pe_int pa_nil))) pa_nil)) pa_nil)))))))))
      (pss_cons (ps_set (i := 3) sc__law_edges.nd rfl (by first | exact .inl rfl | exact .inr rfl) (pe_op op_cat (pv 3) (pe_lst (pa_cons (pe_tup (pa_cons (pe_tup (pa_cons (pe_op o_repS pe_str pe_int) (pa_cons pe_int pa_nil))) pa_nil)) (pa_cons (pe_op op_repT (pe_tup (pa_cons (pe_tup (pa_cons pe_str (pa_cons pe_int pa_nil))) pa_nil)) pe_int) (pa_cons (pe_op op_repT (pe_tup (pa_cons (pe_tup (pa_cons pe_str (pa_cons pe_int pa_nil))) pa_nil)) pe_int) (pa_cons (pe_tup (pa_cons (pe_tup (pa_cons pe_str (pa_cons pe_int pa_nil))) pa_nil)) (pa_cons (pe_tup (pa_cons (pe_tup (pa_cons pe_str (pa_cons pe_int pa_nil))) pa_nil)) (pa_cons (pe_tup (pa_cons (pe_tup (pa_cons pe_str (pa_cons pe_bl pa_nil))) pa_nil)) pa_nil)))))))))
      (pss_one (ps_ret (pe_op op_cat (pv 3) (pe_lst (pa_cons pe_non (pa_cons pe_bl (pa_cons pe_int (pa_cons pe_str (pa_cons pe_str (pa_cons pe_str (pa_cons (pe_tup pa_nil) (pa_cons (pe_lst pa_nil) (pa_cons pe_dnewK (pa_cons (pe_lst (pa_cons (pe_tup (pa_cons pe_str (pa_cons pe_int pa_nil))) pa_nil)) (pa_cons (pe_tup (pa_cons pe_str (pa_cons pe_int pa_nil))) (pa_cons (pe_tup (pa_cons (pe_tup (pa_cons pe_str (pa_cons pe_int pa_nil))) (pa_cons pe_non pa_nil))) (pa_cons (pe_tup (pa_cons (pe_tup (pa_cons (pe_tup (pa_cons pe_str (pa_cons pe_int pa_nil))) pa_nil)) pa_nil)) pa_nil)))))))))))))))))))))), ?_⟩
    repeat walk_at "st"
    refine e_tupD (K := K) (.cons (.str _) (.cons (.int _) .nil)) fun t1 H1 h1 s1 => ?_
    repeat walk_at "st"
    refine e_tupD (.cons h1 .nil) fun t2 H2 h2 s2 => ?_
    repeat walk_at "st"
    have sh := s1.trans s2
    refine e_forR (fun i σ H' => ∃ v d x1, σ = [some v, x1, none, none] ∧ Dq K M0 H' v d ∧ Small (2 * i + 2) (400 * (i + 1)) d ∧ Same H H') (by decide) (by decide) ?_ ?_ ?_
    · exact ⟨_, _, none, rfl, h2, (Small.tup1 (Small.tup2 (smS _ (by decide) (by decide)) (smI _ (by decide)))).mono (by omega) (by omega), sh⟩
    · rintro i σ Ha hi ⟨v, d, x1, rfl, hv, hd, sa⟩
      repeat walk_at "st"
      refine e_tupD (.cons hv (.cons (.int _) .nil)) fun t3 H3 h3 s3 => ?_
      repeat walk_at "st"
      refine e_tupD (.cons h3 .nil) fun t4 H4 h4 s4 => ?_
      repeat walk_at "st"
      exact ⟨_, _, _, rfl, h4, (Small.tup1 (Small.tup2 hd ((smI 2 (by decide)).mono (by omega) (Nat.le_refl _)))).mono (by omega) (by omega), (sa.trans s3).trans s4⟩
    · rintro σ Ha ⟨v, d, x1, rfl, hv, hd, sa⟩
      have hd8 : Small 8 1600 d := hd.mono (by decide) (by decide)
      have p18 : CPowW 10 18 := cpow 4 (by decide) (by decide) (by decide) (by decide)
      have p6 : CPowW 10 6 := cpow 4 (by decide) (by decide) (by decide) (by decide)
      have acc : DF K Ha [v] [d] := ⟨.cons hv .nil, fun e he => by rw [List.mem_singleton.mp he]; exact Small.fine hd8 (by decide) (by decide)⟩
      clear sh h1 h2
      -- full
      repeat walk_at "st"
      refine e_tupD (K := K) (.cons (.str _) (.cons (.int _) .nil)) fun t1 H1 h1 s1 => ?_
      repeat walk_at "st"
      refine e_tupD (.cons h1 .nil) fun t2 H2 h2 s2 => ?_
      repeat walk_at "st"
      refine e_tupD (.cons h2 (.cons (.int _) .nil)) fun t3 H3 h3 s3 => ?_
      repeat walk_at "st"
      refine e_tupD (.cons h3 .nil) fun t4 H4 hfull s4 => ?_
      replace acc := acc.same (((s1.trans s2).trans s3).trans s4)
      replace sa := sa.trans (((s1.trans s2).trans s3).trans s4)
      have hv4 := hv.same (((s1.trans s2).trans s3).trans s4)
      have sF : Small 6 1000 (.tuple [.tuple [.tuple [.tuple [.str "a", .int (10 ^ Int.toNat 18)]], .int (10 ^ Int.toNat 6)]]) :=
        (Small.tup1 (Small.tup2 (Small.tup1 (Small.tup2 (smS _ (by decide) (by decide)) (smI _ (by decide)))) ((smI _ (by decide)).mono (by decide) (Nat.le_refl _)))).mono (by decide) (by decide)
      clear h1 h2 h3 s1 s2 s3 s4 hv
      -- some 1
      repeat walk_at "st"
      refine e_tupD (.cons hv4 (.cons (.int _) .nil)) fun t1 H1 h1 s1 => ?_
      repeat walk_at "st"
      refine e_tupD (.cons h1 .nil) fun t2 H2 h2 s2 => ?_
      replace acc := (acc.same (s1.trans s2)).push h2 (Small.fine ((Small.tup1 (Small.tup2 hd8 ((smI _ (by decide)).mono (by decide) (Nat.le_refl _))))) (by decide) (by decide))
      replace hfull := hfull.same (s1.trans s2)
      replace acc := acc.push hfull (Small.fine sF (by decide) (by decide))
      replace sa := sa.trans (s1.trans s2)
      clear h1 h2 s1 s2 hv4
      repeat walk_at "st"
      refine e_tupD (K := K) (.cons (.str _) (.cons (.int _) .nil)) fun t1 H1 h1 s1 => ?_
      repeat walk_at "st"
      refine e_tupD (.cons h1 .nil) fun t2 H2 h2 s2 => ?_
      repeat walk_at "st"
      refine e_catD (hfull.same (s1.trans s2)) h2 (by simp) fun v3 H3 h3 s3 => ?_
      replace acc := (acc.same ((s1.trans s2).trans s3)).push h3 (Small.fine (Small.tup (h := 6) (n := 1000) (m := 2) (fun e he => by
        simp only [List.cons_append, List.nil_append, List.mem_cons, List.not_mem_nil, or_false] at he
        rcases he with rfl | rfl
        · exact (Small.tup2 (Small.tup1 (Small.tup2 (smS _ (by decide) (by decide)) (smI _ (by decide)))) ((smI _ (by decide)).mono (by decide) (Nat.le_refl _))).mono (by decide) (by decide)
        · exact (Small.tup2 (smS _ (by decide) (by decide)) (smI _ (by decide))).mono (by decide) (by decide)) (by simp)) (by decide) (by decide))
      replace sa := sa.trans ((s1.trans s2).trans s3)
      clear h1 h2 h3 s1 s2 s3 hfull
      repeat walk_at "st"
      refine e_tupD (K := K) (.cons (.str _) (.cons (.int _) .nil)) fun t1 H1 h1 s1 => ?_
      repeat walk_at "st"
      refine e_tupD (.cons h1 .nil) fun t2 H2 h2 s2 => ?_
      replace sa := sa.trans (s1.trans s2)
      replace acc := (acc.same (s1.trans s2)).push h2 (Small.fine (Small.tup1 (Small.tup2 (smS _ (by decide) (by decide)) (smI _ (by decide)))) (by decide) (by decide))
      clear h1 h2 s1 s2
      repeat walk_at "st"
      refine e_tupD (K := K) (.cons (.str _) (.cons (.int _) .nil)) fun t1 H1 h1 s1 => ?_
      repeat walk_at "st"
      refine e_tupD (.cons h1 .nil) fun t2 H2 h2 s2 => ?_
      replace sa := sa.trans (s1.trans s2)
      replace acc := (acc.same (s1.trans s2)).push h2 (Small.fine (Small.tup1 (Small.tup2 (smS _ (by decide) (by decide)) (smI _ (by decide)))) (by decide) (by decide))
      clear h1 h2 s1 s2
      repeat walk_at "st"
      refine b_repS (n := 20) rfl (by decide) (by decide) (by decide) (by decide) ?_
      repeat walk_at "st"
      refine e_tupD (K := K) (.cons (.str _) (.cons (.int _) .nil)) fun t1 H1 h1 s1 => ?_
      repeat walk_at "st"
      refine e_tupD (.cons h1 .nil) fun t2 H2 h2 s2 => ?_
      replace sa := sa.trans (s1.trans s2)
      replace acc := (acc.same (s1.trans s2)).push h2 (Small.fine (Small.tup1 (Small.tup2 (smS _ (by decide) (by decide)) (smI _ (by decide)))) (by decide) (by decide))
      clear h1 h2 s1 s2
      repeat walk_at "st"
      refine e_lst fun l1 H1 nl1 hl1 s1 => ?_
      replace sa := sa.trans s1
      have all1 := acc.same s1
      clear acc s1
      have acc : DF K H1 [] [] := DF.nil
      repeat walk_at "st"
      refine b_repS (n := 21) rfl (by decide) (by decide) (by decide) (by decide) ?_
      repeat walk_at "st"
      refine e_tupD (K := K) (.cons (.str _) (.cons (.int _) .nil)) fun t1 H1 h1 s1 => ?_
      repeat walk_at "st"
      refine e_tupD (.cons h1 .nil) fun t2 H2 h2 s2 => ?_
      replace sa := sa.trans (s1.trans s2)
      replace all1 := all1.same (s1.trans s2)
      replace hl1 := (s1.trans s2) _ _ hl1
      replace acc := (acc.same (s1.trans s2)).push h2 (Small.fine (Small.tup1 (Small.tup2 (smS _ (by decide) (by decide)) (smI _ (by decide)))) (by decide) (by decide))
      clear h1 h2 s1 s2
      repeat walk_at "st"
      refine e_tupD (K := K) (.cons (.str _) (.cons (.int _) .nil)) fun t1 H1 h1 s1 => ?_
      repeat walk_at "st"
      refine e_tupD (.cons h1 .nil) fun t2 H2 h2 s2 => ?_
      repeat walk_at "st"
      refine e_repD h2 (by decide) (by decide) fun v3 H3 h3 s3 => ?_
      replace sa := sa.trans ((s1.trans s2).trans s3)
      replace all1 := all1.same ((s1.trans s2).trans s3)
      replace hl1 := ((s1.trans s2).trans s3) _ _ hl1
      replace acc := (acc.same ((s1.trans s2).trans s3)).push h3 (Small.fine (Small.rep (Small.tup2 (smS _ (by decide) (by decide)) (smI _ (by decide))) 6) (by decide) (by decide))
      clear h1 h2 s1 s2 h3 s3
      repeat walk_at "st"
      refine e_tupD (K := K) (.cons (.str _) (.cons (.int _) .nil)) fun t1 H1 h1 s1 => ?_
      repeat walk_at "st"
      refine e_tupD (.cons h1 .nil) fun t2 H2 h2 s2 => ?_
      repeat walk_at "st"
      refine e_repD h2 (by decide) (by decide) fun v3 H3 h3 s3 => ?_
      replace sa := sa.trans ((s1.trans s2).trans s3)
      replace all1 := all1.same ((s1.trans s2).trans s3)
      replace hl1 := ((s1.trans s2).trans s3) _ _ hl1
      replace acc := (acc.same ((s1.trans s2).trans s3)).push h3 (Small.fine (Small.rep (Small.tup2 (smS _ (by decide) (by decide)) (smI _ (by decide))) 7) (by decide) (by decide))
      clear h1 h2 s1 s2 h3 s3
      repeat walk_at "st"
      refine e_tupD (K := K) (.cons (.str _) (.cons (.int _) .nil)) fun t1 H1 h1 s1 => ?_
      repeat walk_at "st"
      refine e_tupD (.cons h1 .nil) fun t2 H2 h2 s2 => ?_
      replace sa := sa.trans (s1.trans s2)
      replace all1 := all1.same (s1.trans s2)
      replace hl1 := (s1.trans s2) _ _ hl1
      replace acc := (acc.same (s1.trans s2)).push h2 (Small.fine (Small.tup1 (Small.tup2 (smS _ (by decide) (by decide)) (smI _ (by decide)))) (by decide) (by decide))
      clear h1 h2 s1 s2
      repeat walk_at "st"
      refine e_tupD (K := K) (.cons (.str _) (.cons (.int _) .nil)) fun t1 H1 h1 s1 => ?_
      repeat walk_at "st"
      refine e_tupD (.cons h1 .nil) fun t2 H2 h2 s2 => ?_
      replace sa := sa.trans (s1.trans s2)
      replace all1 := all1.same (s1.trans s2)
      replace hl1 := (s1.trans s2) _ _ hl1
      replace acc := (acc.same (s1.trans s2)).push h2 (Small.fine (Small.tup1 (Small.tup2 (smS _ (by decide) (by decide)) (smI _ (by decide)))) (by decide) (by decide))
      clear h1 h2 s1 s2
      repeat walk_at "st"
      refine e_tupD (K := K) (.cons (.str _) (.cons (.bl _) .nil)) fun t1 H1 h1 s1 => ?_
      repeat walk_at "st"
      refine e_tupD (.cons h1 .nil) fun t2 H2 h2 s2 => ?_
      replace sa := sa.trans (s1.trans s2)
      replace all1 := all1.same (s1.trans s2)
      replace hl1 := (s1.trans s2) _ _ hl1
      replace acc := (acc.same (s1.trans s2)).push h2 (Small.fine (Small.tup1 (Small.tup2 (smS _ (by decide) (by decide)) (Small.bl true))) (by decide) (by decide))
      clear h1 h2 s1 s2
      repeat walk_at "st"
      refine e_lst fun l2 H2 nl2 hl2 s2 => ?_
      replace sa := sa.trans s2
      replace all1 := all1.same s2
      replace hl1 := s2 _ _ hl1
      replace acc := acc.same s2
      repeat walk_at "st"
      refine e_catL hl1 hl2 (by simp) fun l3 H3 nl3 hl3 s3 => ?_
      replace sa := sa.trans s3
      have all3 := DF.append (all1.same s3) (acc.same s3)
      clear all1 hl1 hl2 acc s2 s3
      have all1 := all3
      have hl1 := hl3
      clear all3 hl3
      have acc : DF K H3 [] [] := DF.nil
      replace acc := acc.push (v := _) (d := _) .non (Small.fine (Small.non (h := 0)) (by decide) (by decide))
      replace acc := acc.push (v := _) (d := _) (.bl true) (Small.fine (Small.bl (h := 0) true) (by decide) (by decide))
      replace acc := acc.push (v := _) (d := _) (.int 0) (Small.fine (smI _ (by decide)) (by decide) (by decide))
      replace acc := acc.push (v := _) (d := _) (.str "") (Small.fine (smS _ (by decide) (by decide)) (by decide) (by decide))
      replace acc := acc.push (v := _) (d := _) (.str "a") (Small.fine (smS _ (by decide) (by decide)) (by decide) (by decide))
      replace acc := acc.push (v := _) (d := _) (.str "a*1") (Small.fine (smS _ (by decide) (by decide)) (by decide) (by decide))
      repeat walk_at "st"
      refine e_tupD (K := K) .nil fun t1 H1 h1 s1 => ?_
      replace sa := sa.trans s1
      replace all1 := all1.same s1
      replace hl1 := s1 _ _ hl1
      replace acc := (acc.same s1).push h1 (Small.fine (Small.tup (h := 0) (n := 0) (m := 0) (fun d hd => by simp at hd) (by simp)) (by decide) (by decide))
      clear h1 s1
      repeat walk_at "st"
      refine e_lstD (K := K) .nil fun t1 H1 h1 hh1 s1 => ?_
      replace sa := sa.trans s1
      replace all1 := all1.same s1
      replace hl1 := s1 _ _ hl1
      replace acc := (acc.same s1).push h1 (Small.fine (Small.lst (h := 0) (n := 0) (m := 0) (fun d hd => by simp at hd) (by simp)) (by decide) (by decide))
      clear h1 s1
      repeat walk_at "st"
      refine e_dnew fun t1 H1 n1 h1 s1 => ?_
      replace sa := sa.trans s1
      replace all1 := all1.same s1
      replace hl1 := s1 _ _ hl1
      replace acc := (acc.same s1).push (Dq.dct (M := M0) (fun z => z) h1 .nil) ⟨⟨rfl, by decide, by decide +kernel, fun _ => rfl⟩, ⟨rfl, by decide +kernel, by decide +kernel, fun _ => rfl⟩⟩
      clear h1 s1
      repeat walk_at "st"
      refine e_tupD (K := K) (.cons (.str _) (.cons (.int _) .nil)) fun t1 H1 h1 s1 => ?_
      repeat walk_at "st"
      refine e_lstD (.cons h1 .nil) fun t2 H2 h2 hh2 s2 => ?_
      replace sa := sa.trans (s1.trans s2)
      replace all1 := all1.same (s1.trans s2)
      replace hl1 := (s1.trans s2) _ _ hl1
      replace acc := (acc.same (s1.trans s2)).push h2 (Small.fine (Small.lst (m := 1) (fun d hd => by rw [List.mem_singleton.mp hd]; exact Small.tup2 (smS _ (by decide) (by decide)) (smI _ (by decide))) (by simp)) (by decide) (by decide))
      clear h1 h2 hh2 s1 s2
      repeat walk_at "st"
      refine e_tupD (K := K) (.cons (.str _) (.cons (.int _) .nil)) fun t1 H1 h1 s1 => ?_
      replace sa := sa.trans s1
      replace all1 := all1.same s1
      replace hl1 := s1 _ _ hl1
      replace acc := (acc.same s1).push h1 (Small.fine (Small.tup2 (smS _ (by decide) (by decide)) (smI _ (by decide))) (by decide) (by decide))
      clear h1 s1
      repeat walk_at "st"
      refine e_tupD (K := K) (.cons (.str _) (.cons (.int _) .nil)) fun t1 H1 h1 s1 => ?_
      repeat walk_at "st"
      refine e_tupD (.cons h1 (.cons .non .nil)) fun t2 H2 h2 s2 => ?_
      replace sa := sa.trans (s1.trans s2)
      replace all1 := all1.same (s1.trans s2)
      replace hl1 := (s1.trans s2) _ _ hl1
      replace acc := (acc.same (s1.trans s2)).push h2 (Small.fine (Small.tup2 (Small.tup2 (smS _ (by decide) (by decide)) (smI _ (by decide))) Small.non) (by decide) (by decide))
      clear h1 h2 s1 s2
      repeat walk_at "st"
      refine e_tupD (K := K) (.cons (.str _) (.cons (.int _) .nil)) fun t1 H1 h1 s1 => ?_
      repeat walk_at "st"
      refine e_tupD (.cons h1 .nil) fun t2 H2 h2 s2 => ?_
      repeat walk_at "st"
      refine e_tupD (.cons h2 .nil) fun t3 H3 h3 s3 => ?_
      replace sa := sa.trans ((s1.trans s2).trans s3)
      replace all1 := all1.same ((s1.trans s2).trans s3)
      replace hl1 := ((s1.trans s2).trans s3) _ _ hl1
      replace acc := (acc.same ((s1.trans s2).trans s3)).push h3 (Small.fine (Small.tup1 (Small.tup1 (Small.tup2 (smS _ (by decide) (by decide)) (smI _ (by decide))))) (by decide) (by decide))
      clear h1 h2 h3 s1 s2 s3
      repeat walk_at "st"
      refine e_lst fun l2 H2 nl2 hl2 s2 => ?_
      replace sa := sa.trans s2
      replace all1 := all1.same s2
      replace hl1 := s2 _ _ hl1
      replace acc := acc.same s2
      repeat walk_at "st"
      refine e_catL hl1 hl2 (by simp) fun l3 H3 nl3 hl3 s3 => ?_
      replace sa := sa.trans s3
      have all3 := DF.append (all1.same s3) (acc.same s3)
      exact q l3 _ _ H3 hl3 all3 (by simp) sa
end
end K71

namespace K71
open PySem PySem.Spec PyProof.Rows L2 FG
local macro_rules | `(tactic| walk_at "sq") => `(tactic| first
  | assumption
  | exact SqL.of (by assumption)
  | exact SqT.of (by assumption)
  | exact SqLm.l (by assumption)
  | exact SqTm.t (by assumption))
local macro_rules | `(tactic| walk_at "cond") => `(tactic| first
  | assumption
  | (show (0 : Int) < _; omega)
  | (show (0 : Int) < _ ∧ _ < 1073741824; omega))
local macro_rules | `(tactic| walk_at "st") => `(tactic| first
  | with_reducible refine b_seq ?_
  | with_reducible refine b_asg ?_
  | with_reducible refine b_op ?_
  | ((with_reducible refine' b_var ?hv ?_); (case hv => exact rfl))
  | with_reducible refine b_c ?_
  | with_reducible refine b_name ?_
  | with_reducible refine b_I0 ?_
  | with_reducible refine b_cons ?_
  | with_reducible refine b_nil ?_
  | with_reducible refine b_cb ?_
  | with_reducible refine b_call ?_
  | with_reducible refine b_ret ?_
  | with_reducible refine b_ifS ?_
  | with_reducible refine b_test ?_
  | with_reducible refine b_tb ?_
  | with_reducible refine b_bl ?_
  | with_reducible refine b_blP ?_
  | with_reducible refine b_next ?_
  | with_reducible refine b_drop ?_
  | with_reducible refine b_sub ?_
  | with_reducible refine b_chain ?_
  | with_reducible refine b_and ?_
  | with_reducible refine b_or ?_
  | with_reducible refine b_not ?_
  | with_reducible refine b_andV ?_
  | with_reducible refine b_orV ?_
  | with_reducible refine b_notV ?_
  | with_reducible refine b_if ?_
  | with_reducible refine b_par ?_
  | with_reducible refine b_parE ?_
  | ((with_reducible refine' b_aug ?hv ?_); (case hv => exact rfl))
  | with_reducible refine b_ip ?_
  | with_reducible refine b_retN ?_
  | with_reducible refine b_tup ?_
  | with_reducible refine b_lst ?_
  | with_reducible refine b_sl ?_
  | with_reducible refine b_part ?_
  | with_reducible refine b_partP ?_
  | with_reducible refine b_nopart ?_
  | with_reducible refine b_bm ?_
  | with_reducible refine b_m1 ?_
  | with_reducible refine b_yes ?_
  | with_reducible refine b_un ?_
  | with_reducible refine b_neg ?_
  | with_reducible refine b_isN ?_
  | with_reducible refine b_notN ?_
  | with_reducible refine b_inS ?_
  | with_reducible refine b_int ?_
  | with_reducible refine b_intB ?_
  | with_reducible refine b_abs ?_
  | with_reducible refine b_max ?_
  | with_reducible refine b_min ?_
  | ((with_reducible refine b_eq ?hv ?_); (case hv => exact rfl))
  | ((with_reducible refine b_ne ?hv ?_); (case hv => exact rfl))
  | ((with_reducible refine' b_lenL ?hv ?_); (case hv => walk_at "sq"))
  | ((with_reducible refine' b_lenT ?hv ?_); (case hv => walk_at "sq"))
  | ((with_reducible refine' b_ixL ?hv ?hw ?_); (case hv => walk_at "sq"); (case hw => exact rfl))
  | ((with_reducible refine' b_ixT ?hv ?hw ?_); (case hv => walk_at "sq"); (case hw => exact rfl))
  | ((with_reducible refine b_I ?hv ?_); (case hv => walk_at "cond"))
  | with_reducible refine b_lcS ?_
  | with_reducible refine b_lcR ?_
  | with_reducible refine b_lcT ?_
  | with_reducible refine b_lcL ?_
  | with_reducible refine b_forT ?_
  | with_reducible refine b_forL ?_
  | with_reducible refine b_forR ?_
  | with_reducible refine b_turn ?_
  | ((with_reducible refine And.intro (a := wipe _ _ = wipe _ _) ?hv ?_); (case hv => exact rfl))
  | ((with_reducible refine And.intro (a := tyV _ "list" _ _) ?hv ?_); (case hv => exact ty_list (by assumption)))
  | with_reducible refine And.intro (a := ∃ a, V.str _ = V.str a) ⟨_, rfl⟩ ?_
  | (with_reducible refine iteT ?_)
  | (with_reducible refine iteNF ?_)
  | (with_reducible refine iteNT ?_)
  | (with_reducible refine iteVT ?_)
  | (with_reducible refine iteNVT ?_)
  | ((with_reducible refine iteVF ?hv ?_); (case hv => exact rfl))
  | ((with_reducible refine iteNVF ?hv ?_); (case hv => exact rfl))
  | with_reducible refine b_callS ?_
  | with_reducible refine b_xq ?_
  | (with_reducible refine iteF ?_))

section
variable {P : Program} {w : World} {K : PySem.W.Frag} {mg : Str → Option Value} {base : Heap} {D : Ad}
def optD : Option Int → PyData
  | none => .none
  | some z => .int z
theorem dq_opt {M : Addr → Prop} {H : Hp} (o : Option Int) : Dq K M H (optV o) (optD o) := by
  cases o
  · exact .non
  · exact .int _
def ddL (d : PyData) : List PyData := if farOk letters d = true then [.str "told", optD (farLen letters 4 d)] else [.str "bad", d]
theorem dq_told {H : Hp} {v : V} {d : PyData} (h : Dq K M0 H v d) : DqAll K M0 H (toldV v d) (ddL d) := by
  unfold toldV ddL
  split
  · exact .cons (.str _) (.cons (dq_opt _) .nil)
  · exact .cons (.str _) (.cons h .nil)
theorem show_dd {d : PyData} (h : Fine d) : Show (.tuple (ddL d)) := by
  unfold ddL
  by_cases hf : farOk letters d = true
  · rw [if_pos hf]
    unfold farOk at hf
    cases hz : farLen letters 4 d with
    | none => rw [hz] at hf; cases hf
    | some z =>
      rw [hz] at hf
      have h1 := of_decide_eq_true hf
      obtain ⟨h0, _⟩ := farLen_bd letters 4 d z hz
      exact (Small.tup2 (Small.str (m := 4) (h := 0) (by decide) (by decide)) (Small.int 30 (by decide) (by decide) (by
        have : (10 : Nat) ^ 30 = 1000000000000000000000000000000 := by decide
        omega))).show (by decide) (by decide)
  · rw [if_neg hf]
    exact h.two
theorem pow24 : (10 : Int) ^ Int.toNat 24 = 1000000000000000000000000 := by decide
def sp_is_right (K : PySem.W.Frag) : Sp := fun vs H Q _ => ∃ (M : Addr → Prop) (v : V) (d : PyData), vs = [v] ∧ Dq K M H v d ∧ Fine d ∧ ∀ H', Same H H' → Q (.bl true) H'
theorem ok__law_is_right (T : Txt K mg D) {D0 : Addr} (X_BadFar : ErrF P w K mg base D0 D.c_BadFar "BadFar") (B : BadK K D) {k : Nat} : FnOkG P w K mg base CX0 (k + 11) D.f__law_is_right D.d__law_is_right P__law_is_right (sp_is_right K) := by
  have G__law_told : FnOk P w K mg base CX0 (k + 10) D.f__law_told D.d__law_told P__law_told (sp_told K) := ok__law_told T X_BadFar B
  have G__law_size : FnOk P w K mg base CX0 (k + 10) D.f__law_size D.d__law_size P__law_size (sp_size K 5) := (ok__law_size T (k := k) 5).mono (by omega)
  refine okG T.f__law_is_right sc__law_is_right (fun vs H Q E h => ?_) (fun cdv A outer s H vs Q E hgu hr h => ?_)
  · obtain ⟨M, v, d, rfl, _⟩ := h
    rfl
  · obtain ⟨M, v, d, rfl, hd, hs, q⟩ := h
    replace hd := hd.free
    refine ⟨_, (pss_cons (ps_par (i := 1) (j := 2) (by rfl) sc__law_is_right.nd rfl rfl (by decide) rfl rfl (pa_cons (pe_call G__law_size hr (by rfl) T.g__law_size T.f__law_size.kp T.b__law_size .nil pass0 (pa_cons (pv 0) (pa_cons pe_int pa_nil))) (pa_cons (pe_callB (call_reprG hgu hr) (by rfl) T.z_repr (by decide +kernel) (pa_cons (pv 0) pa_nil)) pa_nil)) (by rfl))
      (pss_cons (ps_w (ps_set (i := 3) sc__law_is_right.nd rfl (by first | exact .inl rfl | exact .inr rfl) (pe_ifExp (PW.pt (pw_and (pt_cmpR o_notN (pv 1) pe_non (nomark _)) (pw_and1 (pt_cmpR op_le (pv 1) (pe_op op_powW pe_int pe_int) (nomark _))))) (pe_tup (pa_cons pe_str (pa_cons (pv 1) pa_nil))) (pe_tup (pa_cons pe_str (pa_cons (pv 0) pa_nil))))))
      (pss_one (ps_ret (pe_and (pe_cmpR op_eq (pe_callB (call_reprG hgu hr) (by rfl) T.z_repr (by decide +kernel) (pa_cons (pe_call G__law_told hr (by rfl) T.g__law_told T.f__law_told.kp T.b__law_told .nil pass0 (pa_cons (pv 0) pa_nil)) pa_nil)) (pe_callB (call_reprG hgu hr) (by rfl) T.z_repr (by decide +kernel) (pa_cons (pv 3) pa_nil)) (nomark _)) (pe_one (pe_cmpR op_eq (pe_callB (call_reprG hgu hr) (by rfl) T.z_repr (by decide +kernel) (pa_cons (pv 0) pa_nil)) (pv 2) (nomark _)))))))), ?_⟩
    repeat walk_at "st"
    refine ⟨M0, v, d, 4, by decide, by decide, rfl, hd, hs.one, fun H1 s1 => ?_⟩
    have hd1 := hd.same s1
    repeat walk_at "st"
    refine b_repr hd1 hs.one ?_
    repeat walk_at "st"
    refine b_ws (fun σ' H2 => ∃ t, σ' = [some v, some (optV (farLen letters 4 d)), some (.str d.shown), some (.ref t)] ∧ Dq K M0 H2 (.ref t) (.tuple (ddL d)) ∧ Same H1 H2) ?_ ?_
    · repeat walk_at "st"
      have hdd : ddL d = if farOk letters d = true then [.str "told", optD (farLen letters 4 d)] else [.str "bad", d] := rfl
      unfold farOk at hdd
      cases hz : farLen letters 4 d with
      | none =>
        rw [hz] at hdd
        rw [show optV none = .non from rfl]
        repeat walk_at "st"
        refine e_tupD (.cons (.str _) (.cons hd1 .nil)) fun t H2 h2 s2 => ?_
        repeat walk_at "st"
        rw [hdd]
        exact ⟨t, rfl, h2, s2⟩
      | some z =>
        rw [hz] at hdd
        rw [show optV (some z) = .int z from rfl]
        repeat walk_at "st"
        refine b_I (cpow 4 (by decide) (by decide) (by decide) (by decide)) ?_
        rw [pow24]
        repeat walk_at "st"
        refine ite2 (fun h => ?_) (fun h => ?_)
        · repeat walk_at "st"
          dsimp only at hdd
          rw [if_pos h] at hdd
          refine e_tupD (K := K) (.cons (.str _) (.cons (.int _) .nil)) fun t H2 h2 s2 => ?_
          repeat walk_at "st"
          rw [hdd]
          exact ⟨t, rfl, h2, s2⟩
        · repeat walk_at "st"
          dsimp only at hdd
          rw [if_neg h] at hdd
          refine e_tupD (.cons (.str _) (.cons hd1 .nil)) fun t H2 h2 s2 => ?_
          repeat walk_at "st"
          rw [hdd]
          exact ⟨t, rfl, h2, s2⟩
    · rintro σ' H2 ⟨t, rfl, ht, s2⟩
      have hd2 := hd1.same s2
      repeat walk_at "st"
      refine ⟨M0, v, d, rfl, hd2, hs.one, fun t3 H3 nt3 ht3 s3 => ?_⟩
      have hd3 := hd2.same s3
      repeat walk_at "st"
      refine b_repr (M := M0) (Dq.newT (fun z => z) ht3 (dq_told hd3)) (show_dd hs) ?_
      repeat walk_at "st"
      refine b_repr (ht.same s3) (show_dd hs) ?_
      repeat walk_at "st"
      refine b_repr hd3 hs.one ?_
      repeat walk_at "st"
      rw [decide_eq_true rfl]
      exact q H3 ((s1.trans s2).trans s3)
def nRight : Nat := 12 * (nDraw 4 + 40)
def sp_right (K : PySem.W.Frag) : Sp := fun vs H Q _ => ∃ (p : Addr) (n : Nat), vs = [.ref p] ∧ PotAt H p n ∧ n ≤ 1000 ∧ ∀ H', SameM (· = p) H H' → Q (.bl true) H'
theorem ok__law_right (T : Txt K mg D) {D0 : Addr} (X_BadFar : ErrF P w K mg base D0 D.c_BadFar "BadFar") (B : BadK K D) {k : Nat} : FnOkG P w K mg base CX0 (k + 12) D.f__law_right D.d__law_right P__law_right (sp_right K) := by
  have G__law_is_right : FnOkG P w K mg base CX0 (k + 11) D.f__law_is_right D.d__law_is_right P__law_is_right (sp_is_right K) := ok__law_is_right T X_BadFar B
  have G__law_drawn : FnOk P w K mg base CX0 (k + 11) D.f__law_drawn D.d__law_drawn P__law_drawn (sp_drawn K 5) := (ok__law_drawn T (k := k) 5).mono (by omega)
  have G__law_spoilt : FnOk P w K mg base CX0 (k + 11) D.f__law_spoilt D.d__law_spoilt P__law_spoilt (sp_spoilt K 5) := (ok__law_spoilt T (k := k) 5).mono (by omega)
  refine okG T.f__law_right sc__law_right (fun vs H Q E h => ?_) (fun cdv A outer s H vs Q E hgu hr h => ?_)
  · obtain ⟨p, n, rfl, _⟩ := h
    rfl
  · obtain ⟨p, n, rfl, hP, hn, q⟩ := h
    have hN : nDraw 4 ≤ 100000 := by decide
    refine ⟨_, (pss_cons (ps_for PassesOwn.never rfl (pi_range1 (by rfl) T.z_range (pa_cons pe_int pa_nil)) (pg_name (i := 1) sc__law_right.nd rfl (by first | exact .inl rfl | exact .inr rfl)) (pss_cons (ps_set (i := 2) sc__law_right.nd rfl (by first | exact .inl rfl | exact .inr rfl) (pe_call G__law_drawn hr (by rfl) T.g__law_drawn T.f__law_drawn.kp T.b__law_drawn .nil pass0 (pa_cons (pv 0) (pa_cons pe_int pa_nil))))
      (pss_one (ps_if (pt_not (pt_val (pe_callB (cr_all rfl) (by rfl) T.z_all (by decide +kernel) (pa_cons (pe_lc (own := [("_law_thing", 3)]) (g := gName 3) (tt := tYes) (by rfl) sc__law_right.nd (pi_tup (pe_tup (pa_cons (pv 2) (pa_cons (pe_call G__law_spoilt hr (by rfl) T.g__law_spoilt T.f__law_spoilt.kp T.b__law_spoilt .nil pass0 (pa_cons (pv 0) (pa_cons (pv 2) pa_nil))) (pa_cons (pe_call G__law_spoilt hr (by rfl) T.g__law_spoilt T.f__law_spoilt.kp T.b__law_spoilt .nil pass0 (pa_cons (pv 0) (pa_cons (pv 2) pa_nil))) pa_nil))))) (blkOk_by (own := [("_law_thing", 3)]) (N := N__law_right) (sc := defScope s__law_right) (by decide +kernel)) (fun _ _ _ _ _ => (pg_name (i := 3) sc__law_right.nd rfl (by first | exact .inl rfl | exact .inr rfl))) (fun _ _ _ _ _ => pts_nil) (fun _ _ _ _ _ => (pe_callG G__law_is_right hgu hr (by rfl) T.g__law_is_right T.f__law_is_right.kp T.b__law_is_right .nil pass0 (pa_cons (pv 3) pa_nil)))) pa_nil)))) (pss_one (ps_ret pe_bl)) pss_nil))))
      (pss_one (ps_ret pe_bl))), ?_⟩
    repeat walk_at "st"
    refine e_forR (fun i σ H' => ∃ x1 x2 x3, σ = [some (.ref p), x1, x2, x3] ∧ PotAt H' p (n + i * 200000) ∧ SameM (· = p) H H') (by decide) (by decide) ?_ ?_ ?_
    · exact ⟨none, none, none, rfl, by simpa using hP, SameM.refl _ _⟩
    · rintro i σ Ha hi ⟨x1, x2, x3, rfl, hPa, sa⟩
      have hi12 : i < 12 := hi
      have htr : ∀ {H' : Hp} {m : Nat}, PotAt H' p m → Trk (· = p) H' := by
        rintro H' m ⟨_, _, _, e, _⟩ a rfl z
        rw [z] at e; cases e
      repeat walk_at "st"
      refine ⟨(· = p), p, _, 4, by decide, by decide, by decide, rfl, rfl, htr hPa, hPa, by omega, fun v d Hb hv htale hPb sb => ?_⟩
      have hfine : Fine d := Small.fine (tale_small 4 d htale) (by decide) (by decide)
      repeat walk_at "st"
      refine ⟨(· = p), p, _, 4, v, d, by decide, by decide, rfl, rfl, htr hPb, hPb, by omega, hv, htale, fun v1 d1 Hc hv1 hs1 hPc sc => ?_⟩
      repeat walk_at "st"
      refine ⟨(· = p), p, _, 4, v, d, by decide, by decide, rfl, rfl, htr hPc, hPc, by omega, hv.mono sc, htale, fun v2 d2 Hd hv2 hs2 hPd sd => ?_⟩
      repeat walk_at "st"
      refine e_tup fun t He nt ht se => ?_
      have hf1 : Fine d1 := Small.fine hs1 (by decide) (by decide)
      have hf2 : Fine d2 := Small.fine hs2 (by decide) (by decide)
      have hall : ∀ x ∈ [v, v1, v2], ∃ e, Dq K M0 He x e ∧ Fine e := by
        intro x hx
        simp only [List.mem_cons, List.not_mem_nil, or_false] at hx
        rcases hx with rfl | rfl | rfl
        · exact ⟨d, (((hv.mono sc).mono sd).same se).free, hfine⟩
        · exact ⟨d1, ((hv1.mono sd).same se).free, hf1⟩
        · exact ⟨d2, (hv2.same se).free, hf2⟩
      refine e_lcT (SqT.of ht) (fun L i H' => H' L = some (.lst ((List.replicate i true).map V.bl)) ∧ Same He H') ?_ ?_ ?_ ?_
      · intro L H' nL hL sL
        exact ⟨hL, sL⟩
      · rintro L i H' nL ⟨_, s'⟩
        exact SqT.of (s' _ _ ht)
      · rintro L i x H' nL hx ⟨hL, s'⟩
        obtain ⟨e, he, hfe⟩ := hall x (List.mem_of_getElem? hx)
        repeat walk_at "st"
        refine ⟨M0, x, e, rfl, he.same s', hfe, fun H2 s2 => ?_⟩
        repeat walk_at "st"
        have hi3 : i < 3 := (List.getElem?_eq_some_iff.mp hx).1
        refine e_app (s2 _ _ hL) (by simp; omega) fun H3 h3 s3 => ⟨?_, ?_⟩
        · rw [h3, List.replicate_succ', List.map_append]; rfl
        · intro b o e
          exact s3 _ _ (fun z => by rw [z, nL] at e; cases e) (s2 _ _ (s' _ _ e))
      · rintro L H' nL ⟨hL, s'⟩
        repeat walk_at "st"
        refine b_all (SqL.of hL) ?_
        repeat walk_at "st"
        rw [show (List.replicate [v, v1, v2].length true).all id = true from rfl]
        repeat walk_at "st"
        refine ⟨_, _, _, rfl, ((hPd.keep se).keep s').mono (by omega), ?_⟩
        exact (((sa.trans sb).trans sc).trans sd).trans (SameM.of (se.trans s'))
    · rintro σ Ha ⟨x1, x2, x3, rfl, hPa, sa⟩
      repeat walk_at "st"
      exact q Ha sa
def sp_law (K : PySem.W.Frag) : Sp := fun vs H Q _ => ∃ (a : Addr) (ns : List Int), vs = [.ref a] ∧ SqL K H a (ns.map V.int) ∧ ns.length ≤ 63 ∧ ∀ H', Q (.bl true) H'
theorem ok_law (T : Txt K mg D) {D0 : Addr} (X_BadFar : ErrF P w K mg base D0 D.c_BadFar "BadFar") (B : BadK K D) {k : Nat} : FnOkG P w K mg base CX0 (k + 13) D.f_law D.d_law P_law (sp_law K) := by
  have G__law_is_right : FnOkG P w K mg base CX0 (k + 12) D.f__law_is_right D.d__law_is_right P__law_is_right (sp_is_right K) := ok__law_is_right T X_BadFar B (k := k + 1)
  have G__law_right : FnOkG P w K mg base CX0 (k + 12) D.f__law_right D.d__law_right P__law_right (sp_right K) := ok__law_right T X_BadFar B
  have G__law_edges : FnOk P w K mg base CX0 (k + 12) D.f__law_edges D.d__law_edges P__law_edges (sp_edges K) := ok__law_edges T
  have G__law_pot_of : FnOk P w K mg base CX0 (k + 12) D.f__law_pot_of D.d__law_pot_of P__law_pot_of (spPotOf K) := ok__law_pot_of T
  refine okG T.f_law sc_law (fun vs H Q E h => ?_) (fun cdv A outer s H vs Q E hgu hr h => ?_)
  · obtain ⟨a, ns, rfl, _⟩ := h
    rfl
  · obtain ⟨a, ns, rfl, hS, hn, q⟩ := h
    refine ⟨_, (pss_cons (ps_for PassesOwn.never rfl (pi_range1 (by rfl) T.z_range (pa_cons (pe_callB (q_max rfl) (by rfl) T.z_max (by decide +kernel) (pa_cons pe_int (pa_cons (pe_callB (q_min rfl) (by rfl) T.z_min (by decide +kernel) (pa_cons pe_int (pa_cons (pe_callB q_len (by rfl) T.z_len (by decide +kernel) (pa_cons (pv 0) pa_nil)) pa_nil))) pa_nil))) pa_nil)) (pg_name (i := 1) sc_law.nd rfl (by first | exact .inl rfl | exact .inr rfl)) (pss_one (ps_if (pt_not (pt_val (pe_callG G__law_right hgu hr (by rfl) T.g__law_right T.f__law_right.kp T.b__law_right .nil pass0 (pa_cons (pe_call G__law_pot_of hr (by rfl) T.g__law_pot_of T.f__law_pot_of.kp T.b__law_pot_of .nil pass0 (pa_cons (pv 0) (pa_cons (pv 1) pa_nil))) pa_nil)))) (pss_one (ps_ret pe_bl)) pss_nil)))
      (pss_one (ps_ret (pe_callB (cr_all rfl) (by rfl) T.z_all (by decide +kernel) (pa_cons (pe_lc (own := [("_law_thing", 2)]) (g := gName 2) (tt := tYes) (by rfl) sc_law.nd (pi_list (pe_call0 G__law_edges hr (by rfl) T.g__law_edges T.f__law_edges.kp T.b__law_edges .nil pass0)) (blkOk_by (own := [("_law_thing", 2)]) (N := N_law) (sc := defScope s_law) (by decide +kernel)) (fun _ _ _ _ _ => (pg_name (i := 2) sc_law.nd rfl (by first | exact .inl rfl | exact .inr rfl))) (fun _ _ _ _ _ => pts_nil) (fun _ _ _ _ _ => (pe_callG G__law_is_right hgu hr (by rfl) T.g__law_is_right T.f__law_is_right.kp T.b__law_is_right .nil pass0 (pa_cons (pv 2) pa_nil)))) pa_nil))))), ?_⟩
    repeat walk_at "st"
    have hj : ∀ x : Int, 1 ≤ (if (if x < 4 then x else 4) > 1 then (if x < 4 then x else 4) else 1) ∧ (if (if x < 4 then x else 4) > 1 then (if x < 4 then x else 4) else 1) ≤ 4 := by
      intro x
      split <;> split <;> omega
    obtain ⟨hj1, hj2⟩ := hj ((ns.map V.int).length : Int)
    generalize (if (if (((ns.map V.int).length : Nat) : Int) < 4 then (((ns.map V.int).length : Nat) : Int) else 4) > 1 then (if (((ns.map V.int).length : Nat) : Int) < 4 then (((ns.map V.int).length : Nat) : Int) else 4) else 1) = jj at hj1 hj2 ⊢
    refine e_forR (fun i σ H' => ∃ x1 x2, σ = [some (.ref a), x1, x2] ∧ Same H H') (by omega) (by omega) ?_ ?_ ?_
    · exact ⟨none, none, rfl, Same.refl H⟩
    · rintro i σ Ha hi ⟨x1, x2, rfl, sa⟩
      repeat walk_at "st"
      refine ⟨a, ns, i, by rw [Int.zero_add]; rfl, ?_, hn, by omega, fun p Hb np sb hPb => ?_⟩
      · rcases hS with (h | ⟨o, h⟩) | h
        · exact .inl (.inl (sa _ _ h))
        · exact .inl (.inr ⟨o, sa _ _ h⟩)
        · exact .inr h
      repeat walk_at "st"
      refine ⟨p, 0, rfl, hPb, by decide, fun Hc sc => ?_⟩
      repeat walk_at "st"
      refine ⟨_, _, rfl, fun b o e => ?_⟩
      have e2 := sa _ _ e
      exact sc _ _ (fun z => by rw [z, np] at e2; cases e2) (sb _ _ e2)
    · rintro σ Ha ⟨x1, x2, rfl, sa⟩
      repeat walk_at "st"
      refine ⟨rfl, fun l xs ds Hb hl hdf hxl sb => ?_⟩
      refine e_lcL (SqL.of hl) (fun L i H' => H' L = some (.lst ((List.replicate i true).map V.bl)) ∧ Same Hb H') ?_ ?_ ?_ ?_
      · intro L H' nL hL sL
        exact ⟨hL, sL⟩
      · rintro L i H' nL ⟨_, s'⟩
        exact SqL.of (s' _ _ hl)
      · rintro L i x H' nL hx ⟨hL, s'⟩
        obtain ⟨e, he, hd⟩ := hdf.all.get hx
        repeat walk_at "st"
        refine ⟨M0, x, e, rfl, hd.same s', hdf.fine e (List.mem_of_getElem? he), fun H2 s2 => ?_⟩
        repeat walk_at "st"
        have hi3 : i < xs.length := (List.getElem?_eq_some_iff.mp hx).1
        refine e_app (s2 _ _ hL) (by simp; omega) fun H3 h3 s3 => ⟨?_, ?_⟩
        · rw [h3, List.replicate_succ', List.map_append]; rfl
        · intro b o e
          exact s3 _ _ (fun z => by rw [z, nL] at e; cases e) (s2 _ _ (s' _ _ e))
      · rintro L H' nL ⟨hL, s'⟩
        repeat walk_at "st"
        refine b_all (SqL.of hL) ?_
        have e : (List.replicate xs.length true).all id = true := by simp
        rw [e]
        repeat walk_at "st"
        exact q H'
end
end K71

namespace K71
open PySem PySem.Spec PyProof.Rows L2 FG
theorem all_mk {K : PySem.W.Frag} {h : Heap} {mg : Str → Option Value} {f_is_piece f_is_times f_length_in f_is_far f_check_far f_far_length f__law_pot_of f__law_take f__law_of f__law_drawn f__law_size f__law_spoilt f__law_edges f__law_told f__law_is_right f__law_right f_law c_PassError c_BadFar : Addr} (X : K.In h) (G : h.Ns mainGlobals mg)
    {oc0 kV0 dc0 pm0 cd0 ct0 : Value} {od0 an0 : Option Addr} {sl0 : Array (Option Value)}
    (a0 : PySem.W.nsIn K mainGlobals "is_piece" = some (some (.ref f_is_piece)))
    (l0 : K.lookup f_is_piece = some ⟨oc0, od0, .func (PySem.W.fnOf "is_piece" "is_piece" (defArgs s_is_piece) (defBody s_is_piece) (defScope s_is_piece) .none kV0 dc0 pm0 an0 cd0 ct0), sl0⟩)
    (k0 : PySem.W.codeIn K cd0 "is_piece" = true) (e0 : PySem.W.keepIn K (.ref f_is_piece) = true)
    {oc1 kV1 dc1 pm1 cd1 ct1 : Value} {od1 an1 : Option Addr} {sl1 : Array (Option Value)}
    (a1 : PySem.W.nsIn K mainGlobals "is_times" = some (some (.ref f_is_times)))
    (l1 : K.lookup f_is_times = some ⟨oc1, od1, .func (PySem.W.fnOf "is_times" "is_times" (defArgs s_is_times) (defBody s_is_times) (defScope s_is_times) .none kV1 dc1 pm1 an1 cd1 ct1), sl1⟩)
    (k1 : PySem.W.codeIn K cd1 "is_times" = true) (e1 : PySem.W.keepIn K (.ref f_is_times) = true)
    {oc2 kV2 dc2 pm2 cd2 ct2 : Value} {od2 an2 : Option Addr} {sl2 : Array (Option Value)}
    (a2 : PySem.W.nsIn K mainGlobals "length_in" = some (some (.ref f_length_in)))
    (l2 : K.lookup f_length_in = some ⟨oc2, od2, .func (PySem.W.fnOf "length_in" "length_in" (defArgs s_length_in) (defBody s_length_in) (defScope s_length_in) .none kV2 dc2 pm2 an2 cd2 ct2), sl2⟩)
    (k2 : PySem.W.codeIn K cd2 "length_in" = true) (e2 : PySem.W.keepIn K (.ref f_length_in) = true)
    {oc3 kV3 dc3 pm3 cd3 ct3 : Value} {od3 an3 : Option Addr} {sl3 : Array (Option Value)}
    (a3 : PySem.W.nsIn K mainGlobals "is_far" = some (some (.ref f_is_far)))
    (l3 : K.lookup f_is_far = some ⟨oc3, od3, .func (PySem.W.fnOf "is_far" "is_far" (defArgs s_is_far) (defBody s_is_far) (defScope s_is_far) .none kV3 dc3 pm3 an3 cd3 ct3), sl3⟩)
    (k3 : PySem.W.codeIn K cd3 "is_far" = true) (e3 : PySem.W.keepIn K (.ref f_is_far) = true)
    {oc4 kV4 dc4 pm4 cd4 ct4 : Value} {od4 an4 : Option Addr} {sl4 : Array (Option Value)}
    (a4 : PySem.W.nsIn K mainGlobals "check_far" = some (some (.ref f_check_far)))
    (l4 : K.lookup f_check_far = some ⟨oc4, od4, .func (PySem.W.fnOf "check_far" "check_far" (defArgs s_check_far) (defBody s_check_far) (defScope s_check_far) .none kV4 dc4 pm4 an4 cd4 ct4), sl4⟩)
    (k4 : PySem.W.codeIn K cd4 "check_far" = true) (e4 : PySem.W.keepIn K (.ref f_check_far) = true)
    {oc5 kV5 dc5 pm5 cd5 ct5 : Value} {od5 an5 : Option Addr} {sl5 : Array (Option Value)}
    (a5 : PySem.W.nsIn K mainGlobals "far_length" = some (some (.ref f_far_length)))
    (l5 : K.lookup f_far_length = some ⟨oc5, od5, .func (PySem.W.fnOf "far_length" "far_length" (defArgs s_far_length) (defBody s_far_length) (defScope s_far_length) .none kV5 dc5 pm5 an5 cd5 ct5), sl5⟩)
    (k5 : PySem.W.codeIn K cd5 "far_length" = true) (e5 : PySem.W.keepIn K (.ref f_far_length) = true)
    {oc6 kV6 dc6 pm6 cd6 ct6 : Value} {od6 an6 : Option Addr} {sl6 : Array (Option Value)}
    (a6 : PySem.W.nsIn K mainGlobals "_law_pot_of" = some (some (.ref f__law_pot_of)))
    (l6 : K.lookup f__law_pot_of = some ⟨oc6, od6, .func (PySem.W.fnOf "_law_pot_of" "_law_pot_of" (defArgs s__law_pot_of) (defBody s__law_pot_of) (defScope s__law_pot_of) .none kV6 dc6 pm6 an6 cd6 ct6), sl6⟩)
    (k6 : PySem.W.codeIn K cd6 "_law_pot_of" = true) (e6 : PySem.W.keepIn K (.ref f__law_pot_of) = true)
    {oc7 kV7 dc7 pm7 cd7 ct7 : Value} {od7 an7 : Option Addr} {sl7 : Array (Option Value)}
    (a7 : PySem.W.nsIn K mainGlobals "_law_take" = some (some (.ref f__law_take)))
    (l7 : K.lookup f__law_take = some ⟨oc7, od7, .func (PySem.W.fnOf "_law_take" "_law_take" (defArgs s__law_take) (defBody s__law_take) (defScope s__law_take) .none kV7 dc7 pm7 an7 cd7 ct7), sl7⟩)
    (k7 : PySem.W.codeIn K cd7 "_law_take" = true) (e7 : PySem.W.keepIn K (.ref f__law_take) = true)
    {oc8 kV8 dc8 pm8 cd8 ct8 : Value} {od8 an8 : Option Addr} {sl8 : Array (Option Value)}
    (a8 : PySem.W.nsIn K mainGlobals "_law_of" = some (some (.ref f__law_of)))
    (l8 : K.lookup f__law_of = some ⟨oc8, od8, .func (PySem.W.fnOf "_law_of" "_law_of" (defArgs s__law_of) (defBody s__law_of) (defScope s__law_of) .none kV8 dc8 pm8 an8 cd8 ct8), sl8⟩)
    (k8 : PySem.W.codeIn K cd8 "_law_of" = true) (e8 : PySem.W.keepIn K (.ref f__law_of) = true)
    {oc9 kV9 dc9 pm9 cd9 ct9 : Value} {od9 an9 : Option Addr} {sl9 : Array (Option Value)}
    (a9 : PySem.W.nsIn K mainGlobals "_law_drawn" = some (some (.ref f__law_drawn)))
    (l9 : K.lookup f__law_drawn = some ⟨oc9, od9, .func (PySem.W.fnOf "_law_drawn" "_law_drawn" (defArgs s__law_drawn) (defBody s__law_drawn) (defScope s__law_drawn) .none kV9 dc9 pm9 an9 cd9 ct9), sl9⟩)
    (k9 : PySem.W.codeIn K cd9 "_law_drawn" = true) (e9 : PySem.W.keepIn K (.ref f__law_drawn) = true)
    {oc10 kV10 dc10 pm10 cd10 ct10 : Value} {od10 an10 : Option Addr} {sl10 : Array (Option Value)}
    (a10 : PySem.W.nsIn K mainGlobals "_law_size" = some (some (.ref f__law_size)))
    (l10 : K.lookup f__law_size = some ⟨oc10, od10, .func (PySem.W.fnOf "_law_size" "_law_size" (defArgs s__law_size) (defBody s__law_size) (defScope s__law_size) .none kV10 dc10 pm10 an10 cd10 ct10), sl10⟩)
    (k10 : PySem.W.codeIn K cd10 "_law_size" = true) (e10 : PySem.W.keepIn K (.ref f__law_size) = true)
    {oc11 kV11 dc11 pm11 cd11 ct11 : Value} {od11 an11 : Option Addr} {sl11 : Array (Option Value)}
    (a11 : PySem.W.nsIn K mainGlobals "_law_spoilt" = some (some (.ref f__law_spoilt)))
    (l11 : K.lookup f__law_spoilt = some ⟨oc11, od11, .func (PySem.W.fnOf "_law_spoilt" "_law_spoilt" (defArgs s__law_spoilt) (defBody s__law_spoilt) (defScope s__law_spoilt) .none kV11 dc11 pm11 an11 cd11 ct11), sl11⟩)
    (k11 : PySem.W.codeIn K cd11 "_law_spoilt" = true) (e11 : PySem.W.keepIn K (.ref f__law_spoilt) = true)
    {oc12 kV12 dc12 pm12 cd12 ct12 : Value} {od12 an12 : Option Addr} {sl12 : Array (Option Value)}
    (a12 : PySem.W.nsIn K mainGlobals "_law_edges" = some (some (.ref f__law_edges)))
    (l12 : K.lookup f__law_edges = some ⟨oc12, od12, .func (PySem.W.fnOf "_law_edges" "_law_edges" (defArgs s__law_edges) (defBody s__law_edges) (defScope s__law_edges) .none kV12 dc12 pm12 an12 cd12 ct12), sl12⟩)
    (k12 : PySem.W.codeIn K cd12 "_law_edges" = true) (e12 : PySem.W.keepIn K (.ref f__law_edges) = true)
    {oc13 kV13 dc13 pm13 cd13 ct13 : Value} {od13 an13 : Option Addr} {sl13 : Array (Option Value)}
    (a13 : PySem.W.nsIn K mainGlobals "_law_told" = some (some (.ref f__law_told)))
    (l13 : K.lookup f__law_told = some ⟨oc13, od13, .func (PySem.W.fnOf "_law_told" "_law_told" (defArgs s__law_told) (defBody s__law_told) (defScope s__law_told) .none kV13 dc13 pm13 an13 cd13 ct13), sl13⟩)
    (k13 : PySem.W.codeIn K cd13 "_law_told" = true) (e13 : PySem.W.keepIn K (.ref f__law_told) = true)
    {oc14 kV14 dc14 pm14 cd14 ct14 : Value} {od14 an14 : Option Addr} {sl14 : Array (Option Value)}
    (a14 : PySem.W.nsIn K mainGlobals "_law_is_right" = some (some (.ref f__law_is_right)))
    (l14 : K.lookup f__law_is_right = some ⟨oc14, od14, .func (PySem.W.fnOf "_law_is_right" "_law_is_right" (defArgs s__law_is_right) (defBody s__law_is_right) (defScope s__law_is_right) .none kV14 dc14 pm14 an14 cd14 ct14), sl14⟩)
    (k14 : PySem.W.codeIn K cd14 "_law_is_right" = true) (e14 : PySem.W.keepIn K (.ref f__law_is_right) = true)
    {oc15 kV15 dc15 pm15 cd15 ct15 : Value} {od15 an15 : Option Addr} {sl15 : Array (Option Value)}
    (a15 : PySem.W.nsIn K mainGlobals "_law_right" = some (some (.ref f__law_right)))
    (l15 : K.lookup f__law_right = some ⟨oc15, od15, .func (PySem.W.fnOf "_law_right" "_law_right" (defArgs s__law_right) (defBody s__law_right) (defScope s__law_right) .none kV15 dc15 pm15 an15 cd15 ct15), sl15⟩)
    (k15 : PySem.W.codeIn K cd15 "_law_right" = true) (e15 : PySem.W.keepIn K (.ref f__law_right) = true)
    {oc16 kV16 dc16 pm16 cd16 ct16 : Value} {od16 an16 : Option Addr} {sl16 : Array (Option Value)}
    (a16 : PySem.W.nsIn K mainGlobals "law" = some (some (.ref f_law)))
    (l16 : K.lookup f_law = some ⟨oc16, od16, .func (PySem.W.fnOf "law" "law" (defArgs s_law) (defBody s_law) (defScope s_law) .none kV16 dc16 pm16 an16 cd16 ct16), sl16⟩)
    (k16 : PySem.W.codeIn K cd16 "law" = true) (e16 : PySem.W.keepIn K (.ref f_law) = true)
    (g_PassError : PySem.W.nsIn K mainGlobals "PassError" = some (some (.ref c_PassError)))
    (g_BadFar : PySem.W.nsIn K mainGlobals "BadFar" = some (some (.ref c_BadFar)))
    (z_ValueError : PySem.W.nsIn K mainGlobals "ValueError" = some none)
    (z_abs : PySem.W.nsIn K mainGlobals "abs" = some none)
    (z_all : PySem.W.nsIn K mainGlobals "all" = some none)
    (z_bool : PySem.W.nsIn K mainGlobals "bool" = some none)
    (z_int : PySem.W.nsIn K mainGlobals "int" = some none)
    (z_isinstance : PySem.W.nsIn K mainGlobals "isinstance" = some none)
    (z_len : PySem.W.nsIn K mainGlobals "len" = some none)
    (z_list : PySem.W.nsIn K mainGlobals "list" = some none)
    (z_max : PySem.W.nsIn K mainGlobals "max" = some none)
    (z_min : PySem.W.nsIn K mainGlobals "min" = some none)
    (z_range : PySem.W.nsIn K mainGlobals "range" = some none)
    (z_repr : PySem.W.nsIn K mainGlobals "repr" = some none)
    (z_str : PySem.W.nsIn K mainGlobals "str" = some none)
    (z_tuple : PySem.W.nsIn K mainGlobals "tuple" = some none)
    (c_GREATEST : ∃ t, mg "GREATEST" = some (.int 1000000000000000000000000 t))
    {t_LETTERS : Tok} (c_LETTERS : PySem.W.nsIn K mainGlobals "LETTERS" = some (some (.str "abcdefghijklmnopqrstuvwxyz" t_LETTERS)))
    {t_MOST_DEEP : Tok} (c_MOST_DEEP : PySem.W.nsIn K mainGlobals "MOST_DEEP" = some (some (.int 4 t_MOST_DEEP)))
    {t_MOST_PAIRS : Tok} (c_MOST_PAIRS : PySem.W.nsIn K mainGlobals "MOST_PAIRS" = some (some (.int 6 t_MOST_PAIRS)))
    {t_MOST_PIECE : Tok} (c_MOST_PIECE : PySem.W.nsIn K mainGlobals "MOST_PIECE" = some (some (.int 20 t_MOST_PIECE)))
    (c_MOST_TIMES : ∃ t, mg "MOST_TIMES" = some (.int 1000000000000000000 t)) :
    ∃ D : Ad, Txt K mg D ∧ D.f_law = f_law ∧ D.d_law = PySem.W.fnOf "law" "law" (defArgs s_law) (defBody s_law) (defScope s_law) .none kV16 dc16 pm16 an16 cd16 ct16 ∧ D.c_PassError = c_PassError ∧ D.c_BadFar = c_BadFar :=
  ⟨{
    f_is_piece := f_is_piece, d_is_piece := PySem.W.fnOf "is_piece" "is_piece" (defArgs s_is_piece) (defBody s_is_piece) (defScope s_is_piece) .none kV0 dc0 pm0 an0 cd0 ct0,
    f_is_times := f_is_times, d_is_times := PySem.W.fnOf "is_times" "is_times" (defArgs s_is_times) (defBody s_is_times) (defScope s_is_times) .none kV1 dc1 pm1 an1 cd1 ct1,
    f_length_in := f_length_in, d_length_in := PySem.W.fnOf "length_in" "length_in" (defArgs s_length_in) (defBody s_length_in) (defScope s_length_in) .none kV2 dc2 pm2 an2 cd2 ct2,
    f_is_far := f_is_far, d_is_far := PySem.W.fnOf "is_far" "is_far" (defArgs s_is_far) (defBody s_is_far) (defScope s_is_far) .none kV3 dc3 pm3 an3 cd3 ct3,
    f_check_far := f_check_far, d_check_far := PySem.W.fnOf "check_far" "check_far" (defArgs s_check_far) (defBody s_check_far) (defScope s_check_far) .none kV4 dc4 pm4 an4 cd4 ct4,
    f_far_length := f_far_length, d_far_length := PySem.W.fnOf "far_length" "far_length" (defArgs s_far_length) (defBody s_far_length) (defScope s_far_length) .none kV5 dc5 pm5 an5 cd5 ct5,
    f__law_pot_of := f__law_pot_of, d__law_pot_of := PySem.W.fnOf "_law_pot_of" "_law_pot_of" (defArgs s__law_pot_of) (defBody s__law_pot_of) (defScope s__law_pot_of) .none kV6 dc6 pm6 an6 cd6 ct6,
    f__law_take := f__law_take, d__law_take := PySem.W.fnOf "_law_take" "_law_take" (defArgs s__law_take) (defBody s__law_take) (defScope s__law_take) .none kV7 dc7 pm7 an7 cd7 ct7,
    f__law_of := f__law_of, d__law_of := PySem.W.fnOf "_law_of" "_law_of" (defArgs s__law_of) (defBody s__law_of) (defScope s__law_of) .none kV8 dc8 pm8 an8 cd8 ct8,
    f__law_drawn := f__law_drawn, d__law_drawn := PySem.W.fnOf "_law_drawn" "_law_drawn" (defArgs s__law_drawn) (defBody s__law_drawn) (defScope s__law_drawn) .none kV9 dc9 pm9 an9 cd9 ct9,
    f__law_size := f__law_size, d__law_size := PySem.W.fnOf "_law_size" "_law_size" (defArgs s__law_size) (defBody s__law_size) (defScope s__law_size) .none kV10 dc10 pm10 an10 cd10 ct10,
    f__law_spoilt := f__law_spoilt, d__law_spoilt := PySem.W.fnOf "_law_spoilt" "_law_spoilt" (defArgs s__law_spoilt) (defBody s__law_spoilt) (defScope s__law_spoilt) .none kV11 dc11 pm11 an11 cd11 ct11,
    f__law_edges := f__law_edges, d__law_edges := PySem.W.fnOf "_law_edges" "_law_edges" (defArgs s__law_edges) (defBody s__law_edges) (defScope s__law_edges) .none kV12 dc12 pm12 an12 cd12 ct12,
    f__law_told := f__law_told, d__law_told := PySem.W.fnOf "_law_told" "_law_told" (defArgs s__law_told) (defBody s__law_told) (defScope s__law_told) .none kV13 dc13 pm13 an13 cd13 ct13,
    f__law_is_right := f__law_is_right, d__law_is_right := PySem.W.fnOf "_law_is_right" "_law_is_right" (defArgs s__law_is_right) (defBody s__law_is_right) (defScope s__law_is_right) .none kV14 dc14 pm14 an14 cd14 ct14,
    f__law_right := f__law_right, d__law_right := PySem.W.fnOf "_law_right" "_law_right" (defArgs s__law_right) (defBody s__law_right) (defScope s__law_right) .none kV15 dc15 pm15 an15 cd15 ct15,
    f_law := f_law, d_law := PySem.W.fnOf "law" "law" (defArgs s_law) (defBody s_law) (defScope s_law) .none kV16 dc16 pm16 an16 cd16 ct16,
    c_PassError := c_PassError,
    c_BadFar := c_BadFar },
   { f_is_piece := fun_mk (st := s_is_piece) l0 k0 e0,
     b_is_piece := (fun_mk (st := s_is_piece) l0 k0 e0).binds (ps := P_is_piece) fun _ _ _ _ _ _ us hl => match us, hl with | [_, _], _ => rfl,
     g_is_piece := PySem.W.mg_of X G a0,
     f_is_times := fun_mk (st := s_is_times) l1 k1 e1,
     b_is_times := (fun_mk (st := s_is_times) l1 k1 e1).binds (ps := P_is_times) fun _ _ _ _ _ _ us hl => match us, hl with | [_], _ => rfl,
     g_is_times := PySem.W.mg_of X G a1,
     f_length_in := fun_mk (st := s_length_in) l2 k2 e2,
     b_length_in := (fun_mk (st := s_length_in) l2 k2 e2).binds (ps := P_length_in) fun _ _ _ _ _ _ us hl => match us, hl with | [_, _, _], _ => rfl,
     g_length_in := PySem.W.mg_of X G a2,
     f_is_far := fun_mk (st := s_is_far) l3 k3 e3,
     b_is_far := (fun_mk (st := s_is_far) l3 k3 e3).binds (ps := P_is_far) fun _ _ _ _ _ _ us hl => match us, hl with | [_, _], _ => rfl,
     g_is_far := PySem.W.mg_of X G a3,
     f_check_far := fun_mk (st := s_check_far) l4 k4 e4,
     b_check_far := (fun_mk (st := s_check_far) l4 k4 e4).binds (ps := P_check_far) fun _ _ _ _ _ _ us hl => match us, hl with | [_, _], _ => rfl,
     g_check_far := PySem.W.mg_of X G a4,
     f_far_length := fun_mk (st := s_far_length) l5 k5 e5,
     b_far_length := (fun_mk (st := s_far_length) l5 k5 e5).binds (ps := P_far_length) fun _ _ _ _ _ _ us hl => match us, hl with | [_], _ => rfl,
     g_far_length := PySem.W.mg_of X G a5,
     f__law_pot_of := fun_mk (st := s__law_pot_of) l6 k6 e6,
     b__law_pot_of := (fun_mk (st := s__law_pot_of) l6 k6 e6).binds (ps := P__law_pot_of) fun _ _ _ _ _ _ us hl => match us, hl with | [_, _], _ => rfl,
     g__law_pot_of := PySem.W.mg_of X G a6,
     f__law_take := fun_mk (st := s__law_take) l7 k7 e7,
     b__law_take := (fun_mk (st := s__law_take) l7 k7 e7).binds (ps := P__law_take) fun _ _ _ _ _ _ us hl => match us, hl with | [_, _], _ => rfl,
     g__law_take := PySem.W.mg_of X G a7,
     f__law_of := fun_mk (st := s__law_of) l8 k8 e8,
     b__law_of := (fun_mk (st := s__law_of) l8 k8 e8).binds (ps := P__law_of) fun _ _ _ _ _ _ us hl => match us, hl with | [_, _], _ => rfl,
     g__law_of := PySem.W.mg_of X G a8,
     f__law_drawn := fun_mk (st := s__law_drawn) l9 k9 e9,
     b__law_drawn := (fun_mk (st := s__law_drawn) l9 k9 e9).binds (ps := P__law_drawn) fun _ _ _ _ _ _ us hl => match us, hl with | [_, _], _ => rfl,
     g__law_drawn := PySem.W.mg_of X G a9,
     f__law_size := fun_mk (st := s__law_size) l10 k10 e10,
     b__law_size := (fun_mk (st := s__law_size) l10 k10 e10).binds (ps := P__law_size) fun _ _ _ _ _ _ us hl => match us, hl with | [_, _], _ => rfl,
     g__law_size := PySem.W.mg_of X G a10,
     f__law_spoilt := fun_mk (st := s__law_spoilt) l11 k11 e11,
     b__law_spoilt := (fun_mk (st := s__law_spoilt) l11 k11 e11).binds (ps := P__law_spoilt) fun _ _ _ _ _ _ us hl => match us, hl with | [_, _], _ => rfl,
     g__law_spoilt := PySem.W.mg_of X G a11,
     f__law_edges := fun_mk (st := s__law_edges) l12 k12 e12,
     b__law_edges := (fun_mk (st := s__law_edges) l12 k12 e12).binds (ps := P__law_edges) fun _ _ _ _ _ _ us hl => match us, hl with | [], _ => rfl,
     g__law_edges := PySem.W.mg_of X G a12,
     f__law_told := fun_mk (st := s__law_told) l13 k13 e13,
     b__law_told := (fun_mk (st := s__law_told) l13 k13 e13).binds (ps := P__law_told) fun _ _ _ _ _ _ us hl => match us, hl with | [_], _ => rfl,
     g__law_told := PySem.W.mg_of X G a13,
     f__law_is_right := fun_mk (st := s__law_is_right) l14 k14 e14,
     b__law_is_right := (fun_mk (st := s__law_is_right) l14 k14 e14).binds (ps := P__law_is_right) fun _ _ _ _ _ _ us hl => match us, hl with | [_], _ => rfl,
     g__law_is_right := PySem.W.mg_of X G a14,
     f__law_right := fun_mk (st := s__law_right) l15 k15 e15,
     b__law_right := (fun_mk (st := s__law_right) l15 k15 e15).binds (ps := P__law_right) fun _ _ _ _ _ _ us hl => match us, hl with | [_], _ => rfl,
     g__law_right := PySem.W.mg_of X G a15,
     f_law := fun_mk (st := s_law) l16 k16 e16,
     b_law := (fun_mk (st := s_law) l16 k16 e16).binds (ps := P_law) fun _ _ _ _ _ _ us hl => match us, hl with | [_], _ => rfl,
     g_law := PySem.W.mg_of X G a16,
     g_PassError := PySem.W.mg_of X G g_PassError,
     g_BadFar := PySem.W.mg_of X G g_BadFar,
     z_ValueError := PySem.W.mg_none_of X G z_ValueError,
     z_abs := PySem.W.mg_none_of X G z_abs,
     z_all := PySem.W.mg_none_of X G z_all,
     z_bool := PySem.W.mg_none_of X G z_bool,
     z_int := PySem.W.mg_none_of X G z_int,
     z_isinstance := PySem.W.mg_none_of X G z_isinstance,
     z_len := PySem.W.mg_none_of X G z_len,
     z_list := PySem.W.mg_none_of X G z_list,
     z_max := PySem.W.mg_none_of X G z_max,
     z_min := PySem.W.mg_none_of X G z_min,
     z_range := PySem.W.mg_none_of X G z_range,
     z_repr := PySem.W.mg_none_of X G z_repr,
     z_str := PySem.W.mg_none_of X G z_str,
     z_tuple := PySem.W.mg_none_of X G z_tuple,
     c_GREATEST := c_GREATEST,
     c_LETTERS := ⟨t_LETTERS, PySem.W.mg_of X G c_LETTERS⟩,
     c_MOST_DEEP := ⟨t_MOST_DEEP, PySem.W.mg_of X G c_MOST_DEEP⟩,
     c_MOST_PAIRS := ⟨t_MOST_PAIRS, PySem.W.mg_of X G c_MOST_PAIRS⟩,
     c_MOST_PIECE := ⟨t_MOST_PIECE, PySem.W.mg_of X G c_MOST_PIECE⟩,
     c_MOST_TIMES := c_MOST_TIMES }, rfl, rfl, rfl, rfl⟩
def sInit : Stmt := match topS 1 with
  | .ClassDef (body := b) .. => b.getD 0 (.Pass ⟨0, 0, 0, 0⟩)
  | s => s
theorem init_mk {P : Program} {K : PySem.W.Frag} {h : Heap} {D fI cda cc : Addr} (X : K.In h)
    {oc dV kV doc pm ct ccl cl : Value} {od an cdd cld : Option Addr} {sl ccs csl : Array (Option Value)} {vs : Array Value} {file : Str} {tf : Tok} {cd : ClassData}
    (lI : K.lookup fI = some ⟨oc, od, .func (PySem.W.ksFn "__init__" "PassError.__init__" (defArgs sInit) (defBody sInit) (defScope sInit) dV kV doc pm an (.ref cda) ct cc), sl⟩)
    (kI : PySem.W.codeIn K (.ref cda) "PassError.__init__" = true) (lc : K.lookup cda = some ⟨ccl, cdd, .fields vs, ccs⟩) (hv : vs[2]? = some (.str file tf)) (hfile : ((P.main.file : Str) == file) = true)
    (lcc : K.lookup cc = some ⟨cl, cld, .cell (some (.ref D)), csl⟩) (hcls : PySem.W.clsIn K D = some cd) (hsup : PySem.W.nsIn K mainGlobals "super" = some none)
    (h3 : PySem.W.nsIn K cStatics "thirdparty.any" = some none) (ht : (P.main.scope.names.lookup ("super" : Str)).isSome = false) :
    InitTxt P K fI D (PySem.W.ksFn "__init__" "PassError.__init__" (defArgs sInit) (defBody sInit) (defScope sInit) dV kV doc pm an (.ref cda) ct cc) := by
  refine ⟨?_, ⟨_, hcls⟩, hsup, h3, ht⟩
  exact ⟨_, _, _, _, _, _, _, _, _, _, _, _, _, _, _, _, _, _, _, _, _, _, _, _, _, _, _, _, _, _, _, _, _, _, _, _, _, _, _, rfl, lI, kI, rfl, rfl, rfl, rfl, rfl, lc, hv, hfile, lcc⟩
end K71

namespace K71
open PySem PySem.Spec PyProof.Rows L2 FG
theorem fin_of {P : Program} {w : World} {K : PySem.W.Frag} {h : Heap} {mg : Str → Option Value} {fa f_law c_PassError c_BadFar fI : Addr} {fdl fdI : FuncData} (X : K.In h) (G : h.Ns mainGlobals mg) (hfa : mg "law" = some (.ref fa))
    (A : ∃ D : Ad, Txt K mg D ∧ D.f_law = f_law ∧ D.d_law = fdl ∧ D.c_PassError = c_PassError ∧ D.c_BadFar = c_BadFar)
    (hb : ∀ (s : Shared) (u : Value), BindsTo s fdl ⟨[u], []⟩ [("_law_script", u)])
    {nm q : Str} {N : Addr} {bs bm : List Value} {sn : List Str} {sub : List Value} {ab : Bool} {col : Option Bool} {dd : Option Addr} {m0 m1 m2 m3 m5 : Option Value}
    (xL : K.lookup c_BadFar = some (excClassObj nm q c_BadFar N bs bm true sn sub ab col dd m0 m1 m2 m3 m5 "ValueError.__new__")) (xv : PySem.HandSPX.refsVE bm = true)
    (sa : PySem.W.findIn K (.ref c_BadFar) "__setattr__" = some (some (.builtin "object.__setattr__"))) (eC : PySem.W.subIn K (.ref c_BadFar) (.type "BaseException") = some true)
    (tC : PySem.W.typeIn K (.ref c_BadFar) = some (.type "type")) (kC : PySem.W.keepIn K (.ref c_BadFar) = true)
    (mro : PySem.W.mroIn K c_BadFar (.ref c_PassError) = some true) (up : PySem.W.ks_superIn K c_BadFar c_PassError "__init__" = some (some (.builtin "ValueError.__init__")))
    (ve : PySem.W.subIn K (.ref c_BadFar) (.type "ValueError") = some true) (nov : PySem.W.findIn K (.ref c_BadFar) "value" = some none)
    (ga : PySem.W.findIn K (.ref c_BadFar) "__getattribute__" = some (some (.builtin "BaseException.__getattribute__"))) (gg : PySem.W.findIn K (.ref c_BadFar) "__getattr__" = some none)
    (hC : PySem.W.hasDictIn K c_BadFar = true)
    (i1 : PySem.W.findIn K (.ref c_BadFar) "__init__" = some (some (.ref fI))) (i2 : PySem.W.typeIn K (.ref fI) = some (.type "function"))
    (i3 : InitTxt P K fI c_PassError fdI) (i4 : Binds K fdI ["self", "value"] [])
    {cdB : ClassData} (c1 : PySem.W.clsIn K c_BadFar = some cdB) (ac : PySem.W.findIn K (.ref c_BadFar) "__class__" = some (some (.builtin "object.__class__")))
    (gs : PySem.W.specialIn K (.builtin "object.__class__") "__get__" = some (some (.builtin "getset_descriptor.__get__"))) (tk : PySem.W.takesIn K (.builtin "object.__class__") = some true)
    (mo : PySem.W.mroIn K c_BadFar (.type "object") = some true)
    (k1 : PySem.W.kitOne K (.ref c_BadFar) (.ref c_BadFar) = some true) (k2 : PySem.W.kitOne K (.ref c_BadFar) (.type "ValueError") = some true)
    (ex : PySem.W.exmOne K (.ref c_BadFar) (.ref c_PassError) = some true) :
    ∃ fd : FuncData, (∀ (s : Shared) (u : Value), BindsTo s fd ⟨[u], []⟩ [("_law_script", u)]) ∧ ∀ base : Heap, K.In base → base.Ns mainGlobals mg → FnOkG P w K mg base CX0 13 fa fd ["_law_script"] (sp_law K) := by
  obtain ⟨D, T, e1, e2, e3, e4⟩ := A
  have e := hfa.symm.trans T.g_law
  cases e
  subst e1 e2 e3 e4
  have xf : XfC K D.c_BadFar := ⟨ga, gg, eC, hC⟩
  refine ⟨D.d_law, hb, fun base _ _ => ?_⟩
  refine ok_law T (D0 := D.c_PassError) ⟨⟨⟨⟨nm, q, N, bs, bm, sn, sub, ab, col, dd, m0, m1, m2, m3, m5, xL, xv⟩, sa, eC, tC, kC⟩, mro, up, ve, nov⟩, T.g_BadFar, xf, ⟨fI, fdI, i1, i2, i3, i4⟩⟩
    ⟨⟨by rw [c1]; rfl, xf, ac, gs, tk, mo⟩, k1, k2, ex, nov⟩ (k := 0)
end K71
open PySem PySem.W PyProof.Rows
set_option maxRecDepth 100000 in
set_option maxHeartbeats 0 in
theorem PySem.Challenge.cw_fewgoings_k71_far_texts_and_what_are_non_holds : PySem.Challenge.rw_fewgoings_k71_far_texts_and_what_are_non.Holds := by
  w_on; o_law; k_head; (case hw => w_witness2)
  k_fill
  refine FG.walkGX (n := 63) (k := 13) (x := "_law_script") (sp := K71.sp_law) rfl (by decide) rfl ⟨rfl, by decide, by decide⟩ (fun w h Y => PySem.W.kIn_of Y) ?F ?S
  case F =>
    intro w mg fa h KX G XP hmg
    refine' K71.fin_of KX G hmg (K71.all_mk KX G ?a0 ?l0 ?k0 ?e0 ?a1 ?l1 ?k1 ?e1 ?a2 ?l2 ?k2 ?e2 ?a3 ?l3 ?k3 ?e3 ?a4 ?l4 ?k4 ?e4 ?a5 ?l5 ?k5 ?e5 ?a6 ?l6 ?k6 ?e6 ?a7 ?l7 ?k7 ?e7 ?a8 ?l8 ?k8 ?e8 ?a9 ?l9 ?k9 ?e9 ?a10 ?l10 ?k10 ?e10 ?a11 ?l11 ?k11 ?e11 ?a12 ?l12 ?k12 ?e12 ?a13 ?l13 ?k13 ?e13 ?a14 ?l14 ?k14 ?e14 ?a15 ?l15 ?k15 ?e15 ?a16 ?l16 ?k16 ?e16 ?g_PassError ?g_BadFar ?z_ValueError ?z_abs ?z_all ?z_bool ?z_int ?z_isinstance ?z_len ?z_list ?z_max ?z_min ?z_range ?z_repr ?z_str ?z_tuple ?c_GREATEST ?c_LETTERS ?c_MOST_DEEP ?c_MOST_PAIRS ?c_MOST_PIECE ?c_MOST_TIMES) ?hb ?xL ?xv ?sa ?eC ?tC ?kC ?mro ?up ?ve ?nov ?ga ?gg ?hC ?i1 ?i2 (K71.init_mk KX ?lI ?kI ?lc ?hv ?hfile ?lcc ?hcls ?hsup ?h3 ?ht) ?i4 ?c1 ?ac ?gs ?tk ?mo ?q1 ?q2 ?ex
    (case a0 => k_is); (case l0 => k_is); (case k0 => k_is); (case e0 => k_is); (case a1 => k_is); (case l1 => k_is); (case k1 => k_is); (case e1 => k_is); (case a2 => k_is); (case l2 => k_is); (case k2 => k_is); (case e2 => k_is); (case a3 => k_is); (case l3 => k_is); (case k3 => k_is); (case e3 => k_is); (case a4 => k_is); (case l4 => k_is); (case k4 => k_is); (case e4 => k_is); (case a5 => k_is); (case l5 => k_is); (case k5 => k_is); (case e5 => k_is); (case a6 => k_is); (case l6 => k_is); (case k6 => k_is); (case e6 => k_is); (case a7 => k_is); (case l7 => k_is); (case k7 => k_is); (case e7 => k_is); (case a8 => k_is); (case l8 => k_is); (case k8 => k_is); (case e8 => k_is); (case a9 => k_is); (case l9 => k_is); (case k9 => k_is); (case e9 => k_is); (case a10 => k_is); (case l10 => k_is); (case k10 => k_is); (case e10 => k_is); (case a11 => k_is); (case l11 => k_is); (case k11 => k_is); (case e11 => k_is); (case a12 => k_is); (case l12 => k_is); (case k12 => k_is); (case e12 => k_is); (case a13 => k_is); (case l13 => k_is); (case k13 => k_is); (case e13 => k_is); (case a14 => k_is); (case l14 => k_is); (case k14 => k_is); (case e14 => k_is); (case a15 => k_is); (case l15 => k_is); (case k15 => k_is); (case e15 => k_is); (case a16 => k_is); (case l16 => k_is); (case k16 => k_is); (case e16 => k_is); (case g_PassError => k_is); (case g_BadFar => k_is); (case z_ValueError => k_is); (case z_abs => k_is); (case z_all => k_is); (case z_bool => k_is); (case z_int => k_is); (case z_isinstance => k_is); (case z_len => k_is); (case z_list => k_is); (case z_max => k_is); (case z_min => k_is); (case z_range => k_is); (case z_repr => k_is); (case z_str => k_is); (case z_tuple => k_is); (case c_GREATEST => exact FG.loose_int XP (by decide +kernel)); (case c_LETTERS => k_is); (case c_MOST_DEEP => k_is); (case c_MOST_PAIRS => k_is); (case c_MOST_PIECE => k_is); (case c_MOST_TIMES => exact FG.loose_int XP (by decide +kernel))
    case hb => exact fun s u => .of_eq rfl
    case xL => k_is
    case xv => rfl
    case sa => k_is
    case eC => k_is
    case tC => k_is
    case kC => k_is
    case mro => k_is
    case up => rfl
    case ve => k_is
    case nov => k_is
    case ga => k_is
    case gg => k_is
    case hC => k_is
    case i1 => k_is
    case i2 => k_is
    case lI => k_is
    case kI => k_is
    case lc => k_is
    case hv => rfl
    case hfile => rfl
    case lcc => k_is
    case hcls => k_is
    case hsup => k_is
    case h3 => k_is
    case ht => rfl
    case i4 => exact .all fun us hl => match us, hl with | [_, _], _ => rfl
    case c1 => k_is
    case ac => k_is
    case gs => k_is
    case tk => k_is
    case mo => k_is
    case q1 => first | rfl | k_is
    case q2 => first | rfl | k_is
    case ex => first | rfl | k_is
  case S =>
    intro w H a ns hl hO hS
    exact ⟨a, ns, rfl, hS, hl, fun _ => rfl⟩
