import PyProof.Rows.All
import Wide.All
import OpenK.AllK
import Wide.FinOn
import HandS.ForMost
import HandS.Exc
import HandS.ExcInit
import HandS.ExcField
import HandS.ExcIs
import HandS.IsInst
import HandS.Wide
import HandS.WideBits
import HandS.TupMul
import HandS.TupAny
import HandS.Conv
import HandS.RaiseMore
import HandS.WordsExc
import KE.KExcSuper
import KE.KExcIs
import KE.GoesMore
import HandS.Style
import HandS.Zip
import HandS.More
import HandS.Deep
import KE.GoesZip
import KE.GoesEnum
import KE.KDictList
import PyProof.CollectStr
import HandS.Property
import HandS.WordsDict
import HandS.SetTxt0
import HandS.TupSets
import HandS.OwnEq
import PyProof.InstEq
import HandS.MakeKw
import PyProof.StrLaws
import HandS.StrMore
import PyProof.Rows.StrCut
import PyProof.Lay0
import PyProof.Rows.TmSorted
import PySem.Challenge.RW_fewgoings_k09_what_a_program_tells
set_option Elab.async false
set_option linter.all false
set_option maxRecDepth 100000
set_option maxHeartbeats 4000000
/-! FG: a layer over HandS: defs that are called where no repr is under way -/
namespace FG
open PySem PySem.Spec PyProof.Rows L2

/-- a def's promise where no guard stands around the call -/
structure FnOkG (P : Program) (w : World) (K : PySem.W.Frag) (mg : Str → Option Value) (base : Heap)
    (CX : CXT) (k : Nat) (f : Addr) (fd : FuncData) (ps : List Str) (sp : Sp) : Prop where
  len : ∀ vs H Q E, sp vs H Q E → vs.length = ps.length
  run : ∀ (A : Around) (outer : List Env) (s : Shared) (H : Hp) (args : Args) (us : List Value) (vs : List V)
    (Q : VK) (E : XK), A.guards = some [] → Room k A → Env0 P w K mg base A outer s H →
    BindsTo s fd args (ps.zip us) → Vals vs us → sp vs H Q E →
    codeAny (model P w) A (.call (.ref f) args) (CR CX outer P w H s Q E) s

section
variable {P : Program} {w : World} {K : PySem.W.Frag} {mg : Str → Option Value} {base : Heap} {CX : CXT}
  {k j : Nat} {f : Addr} {fd : FuncData} {ps : List Str} {sp : Sp}
theorem FnOkG.of (F : FnOk P w K mg base CX k f fd ps sp) : FnOkG P w K mg base CX k f fd ps sp :=
  ⟨F.len, fun A o s H args us vs Q E _ => F.run A o s H args us vs Q E⟩
theorem FnOkG.mono (F : FnOkG P w K mg base CX j f fd ps sp) (h : j ≤ k) : FnOkG P w K mg base CX k f fd ps sp :=
  ⟨F.len, fun A o s H args us vs Q E g hr => F.run A o s H args us vs Q E g (hr.mono h)⟩

/-- the rule of a def by its body, as fn_of, with the guards told -/
theorem fnG_of {name qual : Str} {params : Arguments} {body : List Stmt} {scope : Scope}
    {dV kV doc pm cdv ct oc : Value} {an od : Option Addr} {osl : Array (Option Value)} {N : List Str}
    (lk : K.lookup f = some ⟨oc, od, .func (PySem.W.fnOf name qual params body scope dV kV doc pm an cdv ct), osl⟩)
    (hcd : PySem.W.codeIn K cdv qual = true) (S : FnScope N ps scope)
    (len : ∀ vs H Q E, sp vs H Q E → vs.length = ps.length)
    (hbody : ∀ (A : Around) (outer : List Env) (s : Shared) (H : Hp) (vs : List V) (Q : VK) (E : XK),
      A.guards = some [] → Room k (A.deeper (envOfC qual scope s.heap.objs.size f cdv)) → sp vs H Q E →
      ∃ t, PSs (cxOf CX P w K mg base N qual scope f cdv A outer s H E) body t ∧
        t { nx := fun _ H' => Q .non H', rt := Q } (start N vs) H) :
    FnOkG P w K mg base CX (k + 1) f (PySem.W.fnOf name qual params body scope dV kV doc pm an cdv ct) ps sp := by
  refine ⟨len, fun A outer s H args us vs Q E hgu hr e0 hb r hsp => ?_⟩
  have hl := len vs H Q E hsp
  have KX : K.In s.heap := e0.mod.kin.keeps fun b o e => (e0.bs b o e).1
  have lim : s.heap.NoLimit := e0.mod.nolimit.keeps fun b o e => (e0.bs b o e).1
  have hkind : ∀ y ∈ ps.zip us, scope.names.lookup y.1 = some .local ∨ (scope.names.lookup y.1 = some .cell ∧
      ((cellsFrom (s.heap.objs.size + 1) scope.names []).lookup y.1).isSome = true) := by
    rintro ⟨n, v⟩ hy
    rcases S.par n (List.of_mem_zip hy).1 with q | q
    · exact .inl q
    · exact .inr ⟨q, PySem.W.cellsFrom_some _ _ _ (.inl q)⟩
  refine codeAny_call_function hr.depth (KX _ _ lk) rfl S.co S.gen rfl (PySem.W.codeRec_of KX hcd) (hb _ _ _ _ ?_)
  refine wpAny_newFunctionEnv_cells S.kind hkind ?_
  rintro env rfl s1 x
  refine ⟨lim.keeps x.toInCall.keep, codeAny_func ?_⟩
  obtain ⟨t, ht, hq⟩ := hbody A outer s H vs Q E hgu (hr.deeper _) hsp
  have I : Inv (cxOf CX P w K mg base N qual scope f cdv A outer s H E) [] (start N vs) H s1 :=
    inv_start S hr.hd e0 hl r x
  refine wpAny_mono (ht.run [] s1 (start N vs) H _ I hq) ?_ (fun _ _ hs => hs)
  intro fl s' hs
  cases fl with
  | ret u =>
    obtain ⟨v, σ', H', J, rv, q⟩ := hs
    exact ⟨v, H', J.os, J.bare, J.base, J.hok, rv, q⟩
  | next =>
    obtain ⟨σ', H', J, q⟩ := hs
    exact ⟨V.non, H', J.os, J.bare, J.base, J.hok, rfl, q⟩
  | brk => exact False.elim hs.choose_spec.choose_spec.2
  | cont => exact False.elim hs.choose_spec.choose_spec.2

theorem okG {x qual : Str} {st : Stmt} {N : List Str} (F : Fun K x qual st f fd) (S : FnScope N ps (defScope st))
    (len : ∀ vs H Q E, sp vs H Q E → vs.length = ps.length)
    (hbody : ∀ (cdv : Value) (A : Around) (outer : List Env) (s : Shared) (H : Hp) (vs : List V) (Q : VK) (E : XK),
      A.guards = some [] → Room k (A.deeper (envOfC qual (defScope st) s.heap.objs.size f cdv)) → sp vs H Q E →
      ∃ t, PSs (cxOf CX0 P w K mg base N qual (defScope st) f cdv A outer s H E).nox (defBody st) t ∧
        t { nx := fun _ H' => Q .non H', rt := Q } (start N vs) H) : FnOkG P w K mg base CX0 (k + 1) f fd ps sp := by
  obtain ⟨oc, od, kV, doc, pm, an, cdv, ct, osl, rfl, lk, hcd⟩ := F.ex
  refine fnG_of lk hcd S len fun A outer s H vs Q E hgu hr hsp => ?_
  obtain ⟨t, h, q⟩ := hbody cdv A outer s H vs Q E hgu hr hsp
  exact ⟨t, h.nox, q⟩
end

section
variable {X : Cx} {CX : CXT} {k : Nat} {f C : Addr} {fd : FuncData} {ps : List Str} {sp : Sp} {dvs : List V}
  {ds : List Value} {E : XK} {x : Str} {p pos : Pos} {e : Expr} {es : List Expr} {t : TA}
/-- the callee runs, no guard around -/
theorem runG {pins : List (Addr × Obj)} {σ : L2.St} {H : Hp} {s : Shared} {Q : VK} {us : List Value} {vs : List V}
    (F : FnOkG X.prog X.w X.K X.mg X.base CX k f fd ps sp) (hgu : X.A.guards = some []) (hr : Room k X.A)
    (hb : Binds X.K fd ps ds) (hd : Vals dvs ds) (hx : Passes CX X E) (I : Inv X pins σ H s) (r : Vals vs us)
    (h : sp (vs ++ dvs) H Q E) : wpAny (model X.prog X.w) X.A (call (.ref f) us) (EP X pins σ Q) X.xe s := by
  have r2 : Vals (vs ++ dvs) (us ++ ds) := r.append hd
  have hl : (us ++ ds).length = ps.length := by rw [← r2.length]; exact F.len _ _ _ _ h
  have run := F.run X.A X.stack s H ⟨us, []⟩ (us ++ ds) (vs ++ dvs) Q E hgu hr I.env0 (hb s us I.kIn hl) r2 h
  refine wpAny_call (codeAny_mono run ?_)
  intro r s' hq
  cases r with
  | error e => exact hx pins σ H s e s' I hq
  | ok fl =>
    cases fl with
    | ret u => exact I.after hq
    | _ => exact False.elim hq
theorem pe_callG (F : FnOkG X.prog X.w X.K X.mg X.base CX k f fd ps sp) (hgu : X.A.guards = some [])
    (hr : Room k X.A) (hg : Gl X x) (hm : X.mg x = some (.ref f)) (hk : PySem.W.keepIn X.K (.ref f) = true)
    (hb : Binds X.K fd ps ds) (hd : Vals dvs ds) (hx : Passes CX X E) (ha : PA X (e :: es) t)
    (hdb : (x == ("__debug__" : Str)) = false := by decide)
    (he : starEach (e :: es) X.env = (false, eval e X.env) :: starEach es X.env := by rfl)
    (hpl : (backTo pos (starEach es X.env)).any (·.1) = false := by rfl) :
    PE X (.Call (.Name x p) (e :: es) [] pos) (tCall sp dvs E t) := by
  refine ⟨fun pins s σ H Q I h => wpAny_Call_Name_kw (ld_glob I hg hm ?_ hdb)⟩
  refine PySem.W.callWith_K (h₀ := X.base) I.ok.mod.kin hk (thn (ha.run pos pins s σ H _ I h) ?_) he hpl
  rintro us s1 ⟨vs, H1, I1, r, q⟩
  exact ⟨I1.kIn, runG F hgu hr hb hd hx I1 r q⟩
end

/-! ### the law's end -/
/-- the head, as law_call, for a promise under no guard -/
theorem lawG {P : Program} {w : World} {K : PySem.W.Frag} {mg mb : Str → Option Value} {k : Nat}
    {fa a : Addr} {fd : FuncData} {x : Str} {sp : Sp} {s₁ : Shared} {vs : List Value} {ns : List Int}
    (KX : K.In s₁.heap) (hns : s₁.heap.Ns mainGlobals mg) (hb : s₁.heap.Ns builtinsNs mb)
    (hbb : ∀ x : Str, x ≠ "__name__" → mb x = bootBuiltins x) (hlim : s₁.heap.NoLimit) (hg : s₁.gens = #[])
    (ha : s₁.heap.get? a = some { cls := .type "list", data := .seq vs.toArray }) (hi : IntsAre vs ns)
    (hl : ns.length ≤ sizeLine) (hr : Room k callerA)
    (F : ∀ base : Heap, K.In base → base.Ns mainGlobals mg → FnOkG P w K mg base CX0 k fa fd [x] sp)
    (hbind : ∀ (s : Shared) (u : Value), BindsTo s fd ⟨[u], []⟩ [(x, u)])
    (hsp : ∀ H : Hp, Only H → SqL K H a (ns.map V.int) → sp [.ref a] H (fun v _ => v = .bl true) fun _ _ _ => False) :
    codeAny (model P w) callerA (.call (.ref fa) ⟨[.ref a], []⟩)
      (fun r s' => r = .ok (.ret (.bool true)) ∧ OldK s₁.heap s'.heap ∧ s'.os = s₁.os ∧ AllBare s'.gens) s₁ := by
  have rv := vals_ints hi
  have lenV := hi.length
  have core : ∀ H : Hp, Only H → SqL K H a (ns.map V.int) → HOk P w H s₁.heap → (∀ b, H b ≠ none → b = a) →
      (H a ≠ none → K.lookup a = none) → codeAny (model P w) callerA (.call (.ref fa) ⟨[.ref a], []⟩)
      (fun r s' => r = .ok (.ret (.bool true)) ∧ OldK s₁.heap s'.heap ∧ s'.os = s₁.os ∧ AllBare s'.gens) s₁ := by
    intro H hO hS hok hA hK
    have noA : ∀ {b : Addr} {o : Obj} {es : Array DictEntry} {ep : Nat},
        s₁.heap.get? b = some o → o.data = .dict es ep → H b = none := by
      intro b o es ep e d
      cases q : H b with
      | none => rfl
      | some u =>
        obtain rfl : b = a := hA b (by rw [q]; simp)
        rw [ha] at e; cases e
        cases (show Data.seq vs.toArray _ = Data.dict es ep from d)
    have nsK : ∀ {b : Addr} {m : Str → Option Value}, s₁.heap.Ns b m → (hidT s₁.heap H).Ns b m := by
      rintro b m ⟨o, es, ep, e, d, r⟩
      exact ⟨o, es, ep, hidT_get e (noA e d), d, r⟩
    have hKb : K.In (hidT s₁.heap H) := by
      intro b o e
      refine hidT_get (KX b o e) ?_
      cases q : H b with
      | none => rfl
      | some u =>
        obtain rfl : b = a := hA b (by rw [q]; simp)
        rw [hK (by rw [q]; simp)] at e; cases e
    have hM : Mod K mg (hidT s₁.heap H) := by
      refine ⟨hKb, nsK hns, ⟨mb, nsK hb, hbb⟩, ?_⟩
      obtain ⟨mc, h1, h2⟩ := hlim
      exact ⟨mc, nsK h1, h2⟩
    have e0 : Env0 P w K mg (hidT s₁.heap H) callerA [] s₁ H :=
      { frames := rfl, mod := hM, bs := fun b o e => of_hidT e, bsz := Nat.le_of_eq (hidT_size _ _), funs := trivial,
        frf := fun b hb => absurd (show b ∈ ([] : List Addr) from hb) (by simp), hok := hok, bare := .of_eq hg }
    have run := (F _ hKb (nsK hns)).run callerA [] s₁ H ⟨[.ref a], []⟩ [.ref a] [.ref a] (fun v _ => v = .bl true)
      (fun _ _ _ => False) rfl hr e0 (hbind s₁ (.ref a)) (.cons rfl .nil) (hsp H hO hS)
    refine codeAny_mono run ?_
    intro r s' h
    cases r with
    | error e => exact False.elim h
    | ok fl =>
      cases fl with
      | ret u =>
        obtain ⟨v, H', os, bare, un, hok', r', q⟩ := h
        obtain rfl : v = .bl true := q
        obtain rfl : u = Value.bool true := r'
        refine ⟨rfl, OldK.of_keep fun b o e => ?_, os, bare⟩
        cases q : H b with
        | none => exact un.keep b o e q (by intro z; exact absurd (show b ∈ ([] : List Addr) from z) (by simp)) (by simp)
        | some u =>
          rcases hO b with z | ⟨ob, xs, z⟩
          · rw [q] at z; cases z
          · obtain ⟨e1, _⟩ := hok b _ z
            obtain ⟨e2, _⟩ := hok' b _ (un.frzs b ob _ z)
            rw [e] at e1; cases e1
            exact e2
      | _ => exact False.elim h
  cases hk : K.lookup a with
  | some o =>
    have e := KX a o hk
    rw [ha] at e
    cases e
    refine core (fun _ => none) (fun _ => .inl rfl) (.inr ⟨_, vs.toArray, _, hk, rfl, rfl, rfl, ?_, by simpa using rv⟩) ?_ ?_ ?_
    · rw [List.size_toArray, lenV]; exact hl
    · intro b u z; cases (show (none : Option HO) = some u from z)
    · intro b z; exact absurd rfl z
    · intro z; exact absurd rfl z
  | none =>
    let ob : Obj := { cls := .type "list", data := .seq vs.toArray }
    refine core (fun b => if b = a then some (.frz ob (.lst (ns.map V.int))) else none) ?_ (.inl (.inr ⟨ob, if_pos rfl⟩)) ?_ ?_ ?_
    · intro b
      by_cases hb : b = a
      · exact .inr ⟨_, _, if_pos hb⟩
      · exact .inl (if_neg hb)
    · intro b u z
      by_cases hb : b = a
      · cases (if_pos hb).symm.trans z
        subst hb
        exact ⟨ha, by rw [List.length_map]; exact hl, vs, _, rv, ha⟩
      · cases (if_neg hb).symm.trans z
    · intro b z
      by_cases hb : b = a
      · exact hb
      · exact absurd (if_neg hb) z
    · intro _; exact hk

/-- the goal of k_head, from a promise under no guard -/
theorem walkG {l : PySem.W.OpenLaw} {n k : Nat} {q : Program} {loose : List Str}
    {XP : (Str → Option Value) → Heap → Prop} {YP : World → Heap → Prop} {d : DefRec} {K : Params → PySem.W.Frag}
    {sp : World → Sp} {x : Str} (hn : l.most = some n) (hn2 : n ≤ sizeLine) (hdf : d.params.defaults = [])
    (hr : Room k callerA) (hY : ∀ (w : World) (h : Heap), YP w h → (K w.params).In h)
    (F : ∀ (w : World) (mg : Str → Option Value) (fa : Addr) (h : Heap), (K w.params).In h → h.Ns mainGlobals mg →
      mg d.name = some (.ref fa) → ∃ fd : FuncData, (∀ (s : Shared) (u : Value), BindsTo s fd ⟨[u], []⟩ [(x, u)]) ∧
        ∀ base : Heap, (K w.params).In base → base.Ns mainGlobals mg →
          FnOkG l.prog w (K w.params) mg base CX0 k fa fd [x] (sp w))
    (hsp : ∀ (w : World) (H : Hp) (a : Addr) (ns : List Int), ns.length ≤ n → Only H →
      SqL (K w.params) H a (ns.map V.int) → sp w [.ref a] H (fun v _ => v = .bl true) fun _ _ _ => False) :
    PySem.W.WalkO q loose XP YP l.row.toRowW d [] (fun f vs => PySem.call f vs) := by
  refine Att.attach_call hn hdf ?_
  intro w s₀ s₁ mg mb fa o pm cd doc a vs ns G Y ho hd hcd hmg hobj hints hlen hg
  have KX := hY w _ Y
  obtain ⟨fd, hb, hF⟩ := F w mg fa _ KX G.T.g hmg
  exact lawG KX G.T.g G.T.b G.T.builtins G.T.nolimit hg hobj hints (Nat.le_trans hlen hn2) hr hF hb
    (fun H hO hS => hsp w H a ns hlen hO hS)
end FG

/-! FG: data of any depth, repr -/
namespace FG
open PySem PySem.Spec PyProof.Rows L2

def keyD : Key → PyData
  | .inl i => .int i
  | .inr x => .str x
/-- a list, a tuple that is read, and stays while the places of M may change -/
def SqLm (K : PySem.W.Frag) (M : Addr → Prop) (H : Hp) (a : Addr) (xs : List V) : Prop := (¬ M a ∧ Rd H a (.lst xs)) ∨ SqL K (fun _ => none) a xs
def SqTm (K : PySem.W.Frag) (M : Addr → Prop) (H : Hp) (a : Addr) (xs : List V) : Prop := (¬ M a ∧ Rd H a (.tup xs)) ∨ SqT K (fun _ => none) a xs
theorem SqLm.l {K : PySem.W.Frag} {M : Addr → Prop} {H : Hp} {a : Addr} {xs : List V} (h : SqLm K M H a xs) : SqL K H a xs := by
  rcases h with ⟨_, h⟩ | h
  · exact .inl h
  · rcases h with (h | ⟨o, h⟩) | h
    · cases h
    · cases h
    · exact .inr h
theorem SqTm.t {K : PySem.W.Frag} {M : Addr → Prop} {H : Hp} {a : Addr} {xs : List V} (h : SqTm K M H a xs) : SqT K H a xs := by
  rcases h with ⟨_, h⟩ | h
  · exact .inl h
  · rcases h with (h | ⟨o, h⟩) | h
    · cases h
    · cases h
    · exact .inr h
theorem SqTm.of {K : PySem.W.Frag} {M : Addr → Prop} {H : Hp} {a : Addr} {xs : List V} (n : ¬ M a) (h : SqT K H a xs) : SqTm K M H a xs := by
  rcases h with h | h
  · exact .inl ⟨n, h⟩
  · exact .inr (.inr h)
theorem SqLm.of {K : PySem.W.Frag} {M : Addr → Prop} {H : Hp} {a : Addr} {xs : List V} (n : ¬ M a) (h : SqL K H a xs) : SqLm K M H a xs := by
  rcases h with h | h
  · exact .inl ⟨n, h⟩
  · exact .inr (.inr h)
mutual
inductive Dq (K : PySem.W.Frag) (M : Addr → Prop) (H : Hp) : V → PyData → Prop
  | non : Dq K M H .non .none
  | bl (b : Bool) : Dq K M H (.bl b) (.bool b)
  | int (i : Int) : Dq K M H (.int i) (.int i)
  | str (x : Str) : Dq K M H (.str x) (.str x)
  | lst {a : Addr} {xs : List V} {ds : List PyData}  : SqLm K M H a xs → DqAll K M H xs ds → Dq K M H (.ref a) (.list ds)
  | tup {a : Addr} {xs : List V} {ds : List PyData}  : SqTm K M H a xs → DqAll K M H xs ds → Dq K M H (.ref a) (.tuple ds)
  | dct {a : Addr} {kvs : List (Key × V)} {ds : List PyData}  : ¬ M a → H a = some (.dK kvs) → DqAll K M H (kvs.map (·.2)) ds →
      Dq K M H (.ref a) (.dict ((kvs.map fun p => keyD p.1).zip ds))
inductive DqAll (K : PySem.W.Frag) (M : Addr → Prop) (H : Hp) : List V → List PyData → Prop
  | nil : DqAll K M H [] []
  | cons {v : V} {vs : List V} {d : PyData} {ds : List PyData} : Dq K M H v d → DqAll K M H vs ds → DqAll K M H (v :: vs) (d :: ds)
end

theorem same_t {K : PySem.W.Frag} {H H' : Hp} {a : Addr} {xs : List V} (e : Same H H') (h : SqT K H a xs) : SqT K H' a xs := by
  rcases h with (h | ⟨o, h⟩) | h
  · exact .inl (.inl (e _ _ h))
  · exact .inl (.inr ⟨o, e _ _ h⟩)
  · exact .inr h
theorem same_upd {H : Hp} {p : Addr} {o : HO} (h : H p = none) : Same H (upd H p o) := fun b x e => by
  rw [upd_ne (ne_of_none e h)]
  exact e
theorem same_put {H H' : Hp} {p : Addr} {o : HO} (s : Same H H') (h : H p = none) : Same H (upd H' p o) := fun b x e => by
  rw [upd_ne (ne_of_none e h)]
  exact s b x e
/-- all that was tracked is as it was, but for the places of M -/
def SameM (M : Addr → Prop) (H H' : Hp) : Prop := ∀ b o, ¬ M b → H b = some o → H' b = some o
theorem SameM.refl (M : Addr → Prop) (H : Hp) : SameM M H H := fun _ _ _ h => h
theorem SameM.trans {M : Addr → Prop} {H H1 H2 : Hp} (a : SameM M H H1) (b : SameM M H1 H2) : SameM M H H2 := fun c o n h => b c o n (a c o n h)
theorem SameM.of {M : Addr → Prop} {H H' : Hp} (s : Same H H') : SameM M H H' := fun b o _ h => s b o h
theorem SameM.upd {M : Addr → Prop} {H : Hp} {p : Addr} {o : HO} (h : M p) : SameM M H (upd H p o) := fun b x n e => by
  rw [upd_ne]
  · exact e
  · rintro rfl; exact n h
section
variable {K : PySem.W.Frag} {M : Addr → Prop} {H H' : Hp}
theorem SameM.rd {a : Addr} {u : HO} (s : SameM M H H') (n : ¬ M a) (h : Rd H a u) : Rd H' a u := by
  rcases h with h | ⟨o, h⟩
  · exact .inl (s _ _ n h)
  · exact .inr ⟨o, s _ _ n h⟩
theorem SameM.l {a : Addr} {xs : List V} (s : SameM M H H') (h : SqLm K M H a xs) : SqLm K M H' a xs := by
  rcases h with ⟨n, h⟩ | h
  · exact .inl ⟨n, s.rd n h⟩
  · exact .inr h
theorem SameM.t {a : Addr} {xs : List V} (s : SameM M H H') (h : SqTm K M H a xs) : SqTm K M H' a xs := by
  rcases h with ⟨n, h⟩ | h
  · exact .inl ⟨n, s.rd n h⟩
  · exact .inr h
mutual
theorem Dq.mono (s : SameM M H H') : ∀ {v : V} {d : PyData}, Dq K M H v d → Dq K M H' v d
  | _, _, .non => .non
  | _, _, .bl b => .bl b
  | _, _, .int i => .int i
  | _, _, .str x => .str x
  | _, _, .lst h a => .lst (s.l h) (DqAll.mono s a)
  | _, _, .tup h a => .tup (s.t h) (DqAll.mono s a)
  | _, _, .dct n h a => .dct n (s _ _ n h) (DqAll.mono s a)
theorem DqAll.mono (s : SameM M H H') : ∀ {vs : List V} {ds : List PyData}, DqAll K M H vs ds → DqAll K M H' vs ds
  | _, _, .nil => .nil
  | _, _, .cons h a => .cons (Dq.mono s h) (DqAll.mono s a)
end
/-! places where nothing was tracked may change, too -/
mutual
theorem Dq.avoid {N : Addr → Prop} (f : ∀ a, N a → M a ∨ H a = none) : ∀ {v : V} {d : PyData}, Dq K M H v d → Dq K N H v d
  | _, _, .non => .non
  | _, _, .bl b => .bl b
  | _, _, .int i => .int i
  | _, _, .str x => .str x
  | _, _, .lst h a => .lst (by
      rcases h with ⟨n, h⟩ | h
      · refine .inl ⟨fun z => ?_, h⟩
        rcases f _ z with y | y
        · exact n y
        · rcases h with h | ⟨o, h⟩
          · rw [y] at h; cases h
          · rw [y] at h; cases h
      · exact .inr h) (DqAll.avoid f a)
  | _, _, .tup h a => .tup (by
      rcases h with ⟨n, h⟩ | h
      · refine .inl ⟨fun z => ?_, h⟩
        rcases f _ z with y | y
        · exact n y
        · rcases h with h | ⟨o, h⟩
          · rw [y] at h; cases h
          · rw [y] at h; cases h
      · exact .inr h) (DqAll.avoid f a)
  | _, _, .dct n h a => .dct (fun z => by
      rcases f _ z with y | y
      · exact n y
      · rw [y] at h; cases h) h (DqAll.avoid f a)
theorem DqAll.avoid {N : Addr → Prop} (f : ∀ a, N a → M a ∨ H a = none) : ∀ {vs : List V} {ds : List PyData}, DqAll K M H vs ds → DqAll K N H vs ds
  | _, _, .nil => .nil
  | _, _, .cons h a => .cons (Dq.avoid f h) (DqAll.avoid f a)
end
theorem DqAll.length : ∀ {vs : List V} {ds : List PyData}, DqAll K M H vs ds → vs.length = ds.length
  | _, _, .nil => rfl
  | _, _, .cons _ a => by
    rw [List.length_cons, List.length_cons, DqAll.length a]
theorem DqAll.get : ∀ {vs : List V} {ds : List PyData} {i : Nat} {v : V}, DqAll K M H vs ds → vs[i]? = some v → ∃ d, ds[i]? = some d ∧ Dq K M H v d
  | _, _, _, _, .nil, e => by simp at e
  | _, _, 0, _, .cons h _, e => by simp at e; subst e; exact ⟨_, rfl, h⟩
  | _, _, i + 1, v, .cons _ a, e => by
    obtain ⟨d, h1, h2⟩ := DqAll.get (i := i) a (by simpa using e)
    exact ⟨d, by simpa using h1, h2⟩
theorem DqAll.append : ∀ {vs ws : List V} {ds es : List PyData}, DqAll K M H vs ds → DqAll K M H ws es → DqAll K M H (vs ++ ws) (ds ++ es)
  | _, _, _, _, .nil, b => b
  | _, _, _, _, .cons h a, b => .cons h (DqAll.append a b)
theorem DqAll.take : ∀ {vs : List V} {ds : List PyData} (n : Nat), DqAll K M H vs ds → DqAll K M H (vs.take n) (ds.take n)
  | _, _, 0, _ => .nil
  | _, _, _ + 1, .nil => .nil
  | _, _, n + 1, .cons h a => .cons h (DqAll.take n a)
theorem DqAll.drop : ∀ {vs : List V} {ds : List PyData} (n : Nat), DqAll K M H vs ds → DqAll K M H (vs.drop n) (ds.drop n)
  | _, _, 0, a => a
  | _, _, _ + 1, .nil => .nil
  | _, _, n + 1, .cons _ a => DqAll.drop n a
end

mutual
def noList : PyData → Bool
  | .none | .bool _ | .int _ | .str _ => true
  | .list _ => false
  | .tuple xs => noListAll xs
  | .dict kvs => noListKv kvs
def noListAll : List PyData → Bool
  | [] => true
  | x :: xs => noList x && noListAll xs
def noListKv : List (PyData × PyData) → Bool
  | [] => true
  | (k, v) :: r => noList k && noList v && noListKv r
end
theorem noListKv_vals : ∀ (ks : List PyData) (ds : List PyData), ks.length = ds.length → noListKv (ks.zip ds) = true → noListAll ds = true
  | [], [], _, _ => rfl
  | k :: ks, d :: ds, hl, h => by
    rw [List.zip_cons_cons] at h
    simp only [noListKv, Bool.and_eq_true] at h
    simp only [noListAll, Bool.and_eq_true]
    exact ⟨h.1.2, noListKv_vals ks ds (by simpa using hl) h.2⟩

section
variable {X : Cx} {pins : List (Addr × Obj)} {σ : L2.St} {M : Addr → Prop} {H : Hp} {s : Shared}
theorem pairs_keys {P : Program} {w : World} {h : Heap} : ∀ {es : List DictEntry} {kvs : List (Key × Value)}, Pairs (mixKind P w) es kvs →
    ReadsAll h (es.map (·.key)) (kvs.map fun p => keyD p.1) [] ∧ es.map (·.val) = kvs.map (·.2) := by
  intro es
  induction es with
  | nil =>
    intro kvs h
    cases h
    exact ⟨.nil, rfl⟩
  | cons e es ih =>
    intro kvs h
    cases h with
    | cons k1 k2 h2 =>
      rename_i p kvs
      obtain ⟨r1, r2⟩ := ih h2
      refine ⟨?_, ?_⟩
      · show ReadsAll _ (e.key :: es.map (·.key)) (keyD p.1 :: _) ([] ++ [])
        refine .cons ?_ r1
        rcases keyIs_shape k1 with ⟨i, t, e1, e2⟩ | ⟨x, t, e1, e2⟩
        · rw [e1, e2]; exact .int i t
        · rw [e1, e2]; exact .str x t
      · rw [List.map_cons, List.map_cons, r2, k2]
theorem kv_vals {κ : Type} : ∀ {kvs : List (κ × V)} {vs : List (κ × Value)}, KV kvs vs → Vals (kvs.map (·.2)) (vs.map (·.2)) ∧ kvs.map (·.1) = vs.map (·.1)
  | _, _, .nil => ⟨.nil, rfl⟩
  | _, _, .cons r t => by
    obtain ⟨a, b⟩ := kv_vals t
    exact ⟨.cons r.2 a, by rw [List.map_cons, List.map_cons, b, r.1]⟩
mutual
theorem Dq.reads (I : Inv X pins σ H s) : ∀ {v : V} {d : PyData}, Dq X.K M H v d → ∀ u : Value, RelV v u →
    ∃ as, Reads s.heap u d as ∧ (noList d = true → sysModules ∉ as)
  | _, _, .non, _, r => by
    cases r
    exact ⟨_, Reads.none, fun _ => by simp⟩
  | _, _, .bl b, _, r => by
    cases r
    exact ⟨_, Reads.bool b, fun _ => by simp⟩
  | _, _, .int i, _, r => by
    obtain ⟨t, rfl⟩ := r
    exact ⟨_, Reads.int i t, fun _ => by simp⟩
  | _, _, .str x, _, r => by
    obtain ⟨t, rfl⟩ := r
    exact ⟨_, Reads.str x t, fun _ => by simp⟩
  | _, _, .lst hs ha, _, r => by
    cases r
    obtain ⟨its, rv, ⟨o, n, ho, hc, _, hd⟩, _⟩ := I.list hs.l
    obtain ⟨as, hr, _⟩ := DqAll.reads I ha its rv
    exact ⟨_, Reads.list ho hc hd hr, fun z => by simp [noList] at z⟩
  | _, _, .tup hs ha, _, r => by
    cases r
    obtain ⟨its, rv, ⟨o, ho, hc, n, hd⟩, _⟩ := I.tuple hs.t
    obtain ⟨as, hr, hn⟩ := DqAll.reads I ha its rv
    exact ⟨_, Reads.tuple ho hc hd hr, fun z => hn (by simpa [noList] using z)⟩
  | _, _, @Dq.dct _ _ _ a kvs ds _ hs ha, _, r => by
    cases r
    obtain ⟨_, hsys, vs, kv, o, es, ep, ho, hex, hd, _, hp, _⟩ := I.hok a _ hs
    obtain ⟨r1, r2⟩ := pairs_keys (h := s.heap) hp
    obtain ⟨rv, ek⟩ := kv_vals kv
    have hl := DqAll.length ha
    rw [List.length_map] at hl
    have hl2 : (kvs.map fun p => keyD p.1).length = ds.length := by rw [List.length_map]; exact hl
    obtain ⟨bs, q1, q2⟩ := DqAll.reads I ha (vs.map (·.2)) rv
    have ek2 : (kvs.map fun p => keyD p.1) = vs.map fun p => keyD p.1 := by
      have e := congrArg (List.map keyD) ek
      rw [List.map_map, List.map_map] at e
      exact e
    refine ⟨_, Reads.dict ho hex.1 hd (as := []) (bs := bs) ?_ ?_, fun z => ?_⟩
    · rw [List.map_fst_zip (by omega), ek2]; exact r1
    · rw [List.map_snd_zip (by omega), r2]; exact q1
    · have zz := q2 (noListKv_vals _ _ hl2 (by simpa [noList] using z))
      intro hm
      rcases List.mem_append.mp hm with y | y
      · obtain rfl : sysModules = a := by simpa using y
        simp at hsys
      · exact zz y
theorem DqAll.reads (I : Inv X pins σ H s) : ∀ {vs : List V} {ds : List PyData}, DqAll X.K M H vs ds → ∀ us : List Value, Vals vs us →
    ∃ as, ReadsAll s.heap us ds as ∧ (noListAll ds = true → sysModules ∉ as)
  | _, _, .nil, _, r => by
    cases r
    exact ⟨_, ReadsAll.nil, fun _ => by simp⟩
  | _, _, .cons h1 h2, _, r => by
    cases r with
    | cons r1 r2 =>
      obtain ⟨as, q1, n1⟩ := Dq.reads I h1 _ r1
      obtain ⟨bs, q2, n2⟩ := DqAll.reads I h2 _ r2
      refine ⟨_, ReadsAll.cons q1 q2, fun z => ?_⟩
      simp only [noListAll, Bool.and_eq_true] at z
      intro hm
      rcases List.mem_append.mp hm with y | y
      · exact n1 z.1 y
      · exact n2 z.2 y
end
end

/-! ### repr -/
structure Show (d : PyData) : Prop where
  ok : d.showable = true
  dp : d.depth ≤ 60
  sz : d.shown.length ≤ sizeLine
  nl : d.hasDict = true → noList d = true
def rRepr (K : PySem.W.Frag) : List V → Hp → VK → Prop := fun xs H Q => ∃ (M : Addr → Prop) (x : V) (d : PyData), xs = [x] ∧ Dq K M H x d ∧ Show d ∧ Q (.str d.shown) H
theorem call_reprG {X : Cx} {k : Nat} (hg : X.A.guards = some []) (hr : Room k X.A) : CallR X (.builtin "repr") (rRepr X.K) := by
  intro pins s σ H xs us Q I r h
  obtain ⟨M, x, d, rfl, hd, hs, q⟩ := h
  obtain ⟨u, rfl, ru⟩ := vals1 r
  have hz := hs.sz
  have hok := hs.ok
  have fin : ∀ (a : Addr), u = .ref a → wpAny (model X.prog X.w) X.A (call (.builtin "repr") [u]) (EP X pins σ Q) X.xe s := by
    rintro a rfl
    obtain ⟨as, rd, hn⟩ := Dq.reads I hd _ ru
    refine repr_of_reads' rd hok (fun z => hn (hs.nl z)) hg ?_ (fun _ _ e => e) (fun h' t tk hk => ?_) hz
    · have := hr.un
      have := hs.dp
      omega
    · exact ⟨.str _, H, I.kept hk, ⟨_, rfl⟩, q⟩
  cases hd with
  | non =>
    cases ru
    exact PySem.P.repr_of_none ⟨.str _, H, I.tok _, ⟨_, rfl⟩, q⟩
  | bl b =>
    cases ru
    refine PySem.P.repr_of_bool ⟨.str _, H, I.tok _, ⟨_, rfl⟩, ?_⟩
    simp only [PyData.shown] at q
    exact q
  | int i =>
    obtain ⟨t, rfl⟩ := ru
    refine PySem.P.repr_of_int (by simpa [PyData.showable] using hok) ⟨.str _, H, I.tok _, ⟨_, rfl⟩, ?_⟩
    simp only [PyData.shown] at q
    exact q
  | str x =>
    obtain ⟨t, rfl⟩ := ru
    simp only [PyData.shown] at q hz
    exact PySem.P.repr_of_str ⟨.str _, H, I.tok _, ⟨_, rfl⟩, q⟩ hz
  | lst _ _ => exact fin _ ru
  | tup _ _ => exact fin _ ru
  | dct _ _ _ => exact fin _ ru
end FG

/-! FG: the errors' own __init__, with super() in it -/
namespace FG
open PySem PySem.Spec PyProof.Rows L2

/-- the body: super().__init__(text); self.value = value -/
def initBody (txt : Str) (j : Nat) (p0 p1 p2 p3 p4 p5 p6 p7 p8 p9 : Pos) : List Stmt :=
  [.Expr (.Call (.Attribute (.Call (.Name "super" p0) [] [] p1) "__init__" p2) [.Constant (.str txt) j p3] [] p4) p5,
   .Assign [.Attribute (.Name "self" p6) "value" p7] (.Name "value" p8) p9]

def initNames : List (Str × NameKind) := [((Str.ofString "self"), .local), ((Str.ofString "value"), .local), ((Str.ofString "__class__"), .free), ((Str.ofString "super"), .globalImplicit)]
def initScope (more : List (Str × Const)) : Scope := { kind := .function, names := initNames, isGenerator := false, isCoroutine := false, more := more }
/-- what the written part tells of the def at f, the class D that it stands in -/
structure InitTxt (P : Program) (K : PySem.W.Frag) (f D : Addr) (fd : FuncData) : Prop where
  fn : ∃ (oc : Value) (od : Option Addr) (osl : Array (Option Value)) (nm qual : Str) (params : Arguments) (body : List Stmt)
    (scope : Scope) (dV kV doc pm : Value) (an : Option Addr) (cda : Addr) (ct : Value) (cc : Addr) (txt : Str) (j : Nat) (p0 p1 p2 p3 p4 p5 p6 p7 p8 p9 : Pos)
    (more : List (Str × Const)) (ar : Arg) (ccl : Value) (cdd : Option Addr) (vs : Array Value) (ccs : Array (Option Value)) (file : Str) (tf : Tok)
    (cl : Value) (cld : Option Addr) (csl : Array (Option Value)),
    fd = PySem.W.ksFn nm qual params body scope dV kV doc pm an (.ref cda) ct cc ∧ K.lookup f = some ⟨oc, od, .func fd, osl⟩ ∧
    PySem.W.codeIn K (.ref cda) qual = true ∧ body = initBody txt j p0 p1 p2 p3 p4 p5 p6 p7 p8 p9 ∧
    (p2.endLine == p4.line) = true ∧ scope = initScope more ∧
    (params.posonlyargs ++ params.args).head? = some ar ∧ ar.arg = "self" ∧
    K.lookup cda = some ⟨ccl, cdd, .fields vs, ccs⟩ ∧ vs[2]? = some (.str file tf) ∧ ((P.main.file : Str) == file) = true ∧
    K.lookup cc = some ⟨cl, cld, .cell (some (.ref D)), csl⟩
  cls : ∃ cd, PySem.W.clsIn K D = some cd
  sup : PySem.W.nsIn K mainGlobals "super" = some none
  third : PySem.W.nsIn K cStatics "thirdparty.any" = some none
  top : (P.main.scope.names.lookup ("super" : Str)).isSome = false
/-- what it tells of a class C below D -/
structure ErrC (K : PySem.W.Frag) (D C : Addr) : Prop where
  oex : OexC K C
  mro : PySem.W.mroIn K C (.ref D) = some true
  up : PySem.W.ks_superIn K C D "__init__" = some (some (.builtin "ValueError.__init__"))
  ve : PySem.W.subIn K (.ref C) (.type "ValueError") = some true
  no : PySem.W.findIn K (.ref C) "value" = some none

theorem init_eval (env : Env) (txt : Str) (j : Nat) (p0 p1 p2 p3 p4 : Pos) (hp : (p2.endLine == p4.line) = true) :
   eval (.Call (.Attribute (.Call (.Name "super" p0) [] [] p1) "__init__" p2) [.Constant (.str txt) j p3] [] p4) env = (do
      let ov ← attributeBase (.Call (.Name "super" p0) [] [] p1) "__init__" env (eval (.Call (.Name "super" p0) [] [] p1) env)
      standAt p2.atName
      let (f, first) ← holding [ov] (getMethod ov "__init__" (do return (← importBound (.Call (.Name "super" p0) [] [] p1) env).getD true))
      callWith p4 f first (backTo p4 (starEach [.Constant (.str txt) j p3] env)) []) := by
  show (do
      let ov ← attributeBase (.Call (.Name "super" p0) [] [] p1) "__init__" env (eval (.Call (.Name "super" p0) [] [] p1) env)
      standAt p2.atName
      methodCall (.Call (.Name "super" p0) [] [] p1) "__init__" p2 p4 env ov 1 (backTo p4 (starEach [.Constant (.str txt) j p3] env)) []) = _
  unfold methodCall methodCallPos
  rw [hp, Bool.or_true]
  rfl

/-- its promise -/
def spInit (K : PySem.W.Frag) (D : Addr) : Sp := fun vs H Q _ => ∃ (a C : Addr) (v : V), vs = [.ref a, v] ∧ ErrC K D C ∧ H a = some (exo a C none) ∧
  ∀ dx, H dx = none → dx ≠ a → Q .non (upd (upd H dx (exd dx [("value", v)])) a (exo a C (some dx)))

theorem exo_inst {P : Program} {w : World} {H : Hp} {h : Heap} {e C : Addr} {d : Option Addr} (hok : HOk P w H h) (he : H e = some (exo e C none)) :
    ∃ ox, PySem.W.InstAt h e ox C none ∧ ∃ t1, ox = PySem.HandSPX.excO C t1 := by
  obtain ⟨t1, z⟩ := exo_at hok he
  exact ⟨_, ⟨z, rfl, rfl, trivial⟩, t1, rfl⟩

theorem init_okG {P : Program} {w : World} {K : PySem.W.Frag} {mg : Str → Option Value} {base : Heap} {f D : Addr} {fd : FuncData} {k : Nat}
    (T : InitTxt P K f D fd) : FnOk P w K mg base CX0 (k + 1) f fd ["self", "value"] (spInit K D) := by
  obtain ⟨oc, od, osl, nm, qual, params, body, scope, dV, kV, doc, pm, an, cda, ct, cc, txt, j, p0, p1, p2, p3, p4, p5, p6, p7, p8, p9,
    more, ar, ccl, cdd, vs0, ccs, file, tf, cl, cld, csl, rfl, lk, hcd, rfl, hpos, rfl, hpar, har, hcode, hvs, hfile, hcell⟩ := T.fn
  have hkind : (initScope more).kind = .function := rfl
  have hnames : (initScope more).names = initNames := rfl
  refine ⟨fun vs H Q E h => ?_, fun A outer s H args us vs Q E hr e0 hb r hsp => ?_⟩
  · obtain ⟨a, C, v, rfl, _⟩ := h
    rfl
  obtain ⟨a, C, v, rfl, EC, hexo, q⟩ := hsp
  obtain ⟨u1, u2, rfl, r1, r2⟩ := vals2 r
  obtain rfl : u1 = Value.ref a := r1
  have KX : K.In s.heap := e0.mod.kin.keeps fun b o e => (e0.bs b o e).1
  have lim : s.heap.NoLimit := e0.mod.nolimit.keeps fun b o e => (e0.bs b o e).1
  refine ks_codeAny_call_defAt (fd := PySem.W.ksFn nm qual params (initBody txt j p0 p1 p2 p3 p4 p5 p6 p7 p8 p9) (initScope more) dV kV doc pm an (.ref cda) ct cc)
    hr.depth (KX _ _ lk) rfl lim (PySem.W.codeRec_of KX hcd) rfl hb ?_ ?_ ?_ rfl rfl rfl
  · intro y hy
    have hy' : y ∈ initNames := by rw [← hnames]; exact hy
    have all : ∀ z ∈ initNames, z.2 ≠ .cell := by decide
    exact all y hy'
  · intro y hy
    show (initScope more).names.lookup y.1 = some .local
    rw [hnames]
    rcases List.mem_cons.mp hy with rfl | hy
    · rfl
    rcases List.mem_cons.mp hy with rfl | hy
    · rfl
    · cases hy
  · intro h1 hns hk1
    let L := s.heap.objs.size
    let env := PySem.W.ksEnv qual (initScope more) L f (.ref cda) cc
    let X : Cx := { prog := P, w := w, K := K, mg := mg, base := base, A := A.deeper env, N := ["self", "value"], s_0 := s, H_0 := H, env := env, outer := outer, stack := env :: outer, ex := [], fn := fun _ => false, calm := true, pn := [], xe := fun _ _ => False }
    show _root_.PySem.wpAt (model P w) (A.deeper env) (.func _ env) (execs (initBody txt j p0 p1 p2 p3 p4 p5 p6 p7 p8 p9) env) _ _ _
    have lkc : ∀ y c, env.cells.lookup y = some c → y = "__class__" ∧ c = cc := fun y c e => by
      have e' : List.lookup y [((Str.ofString "__class__"), cc)] = some c := e
      rw [List.lookup_cons] at e'
      cases hq : (y == Str.ofString "__class__") with
      | true =>
        rw [hq] at e'
        exact ⟨by simpa using hq, (Option.some.inj e').symm⟩
      | false =>
        rw [hq] at e'
        cases e'
    have kcl : K.In h1 := KX.keeps hk1
    have bk : ∀ b o, base.get? b = some o → h1.get? b = some o := fun b o e => hk1 b o (e0.bs b o e).1
    have hH : H cc = none := (e0.bs cc _ (e0.mod.kin _ _ hcell)).2
    have I0 : Inv X [] [some (.ref a), some v] H { s with heap := h1, toks := s.toks + 2 } := by
      refine ⟨⟨e0.mod, hkind, rfl, rfl, Nat.le_refl _, ?_, ?_, fun y c z _ => absurd z (by simp [X]), fun _ => hr.hd, Around.frames_deeper e0.frames, .inr ⟨rfl, rfl⟩, fun b z => ?_, e0.bs, e0.bsz, fun b _ _ z => ?_, fun b z => ?_, e0.funs, e0.frf⟩,
        rfl, e0.bare, Un.kept hk1, ⟨_, hns, ?_⟩, ?_, e0.hok.fresh (Nat.le_refl _), ?_, ?_, e0.hok.kept hk1, rfl⟩
      · intro y z c e1 e2
        rw [(lkc y c e1).1, (lkc z c e2).1]
      · intro y hy
        have hy' : (initScope more).names.lookup y = some .cell ∨ (initScope more).names.lookup y = some .free := hy
        rw [hnames] at hy'
        have hyc : y = "__class__" := by
          have all : ∀ z ∈ initNames, (z.2 = .cell ∨ z.2 = .free) → z.1 = "__class__" := by decide
          rcases hy' with z | z
          · exact all _ (PySem.mem_of_lookup z) (.inl rfl)
          · exact all _ (PySem.mem_of_lookup z) (.inr rfl)
        subst hyc
        exact ⟨cc, by rfl⟩
      · cases (show b ∈ ([] : List Addr) from z)
      · cases (show b ∈ ([] : List Addr) from z)
      · cases (show b ∈ ([] : List Addr) from z)
      · intro i y vv e1 e2 e3
        match i, e1, e2 with
        | 0, e1, e2 =>
          obtain rfl : (Str.ofString "self") = y := Option.some.inj e1
          obtain rfl : V.ref a = vv := Option.some.inj (Option.some.inj e2)
          exact ⟨.ref a, rfl, .inl ⟨by show (initScope more).names.lookup _ = _; rw [hnames]; rfl, rfl⟩⟩
        | 1, e1, e2 =>
          obtain rfl : (Str.ofString "value") = y := Option.some.inj e1
          obtain rfl : v = vv := Option.some.inj (Option.some.inj e2)
          exact ⟨u2, r2, .inl ⟨by show (initScope more).names.lookup _ = _; rw [hnames]; rfl, rfl⟩⟩
        | (n + 2), e1, e2 => cases (show (none : Option Str) = some y from e1)
      · intro y c e
        obtain ⟨_, rfl⟩ := lkc y c e
        exact ⟨_, _, kcl _ _ hcell, rfl⟩
      · intro y c e
        obtain ⟨_, rfl⟩ := lkc y c e
        exact hH
      · intro p hp
        cases (show p ∈ ([] : List (Addr × Obj)) from hp)
    obtain ⟨cdD, hcD⟩ := T.cls
    obtain ⟨oD, hD1, hD2⟩ : ∃ oD, h1.get? D = some oD ∧ oD.data = .cls cdD := by
      unfold PySem.W.clsIn at hcD
      split at hcD
      · rename_i c d cd' sl ho
        cases hcD
        exact ⟨_, kcl _ _ ho, rfl⟩
      · cases hcD
    obtain ⟨nmC, qC, NC, bsC, bmC, snC, subC, abC, colC, ddC, k0, k1, k2, k3, k5, hC, hbm⟩ := EC.oex.cls
    have hclC : PySem.W.clsIn K C = some { name := nmC, bases := bsC, mro := .ref C :: bmC, ns := NC, qualname := qC, hasDict := true, slotNames := snC, subclasses := subC, abstract := abC, collection := colC, hasDel := false } := by
      unfold PySem.W.clsIn; rw [hC] <;> rfl
    obtain ⟨ox, IA, t1, rfl⟩ := exo_inst (d := none) I0.hok hexo
    have hka : ∀ y, y ∈ [Str.ofString "self", Str.ofString "value"] → (initScope more).names.lookup y = some .local := fun y hy => by
      rw [hnames]
      rcases List.mem_cons.mp hy with rfl | hy
      · rfl
      rcases List.mem_cons.mp hy with rfl | hy
      · rfl
      · cases hy
    obtain ⟨mb, hbl, hbb⟩ := e0.mod.blt
    refine ks_wpAt_execs_cons (ks_wpAt_Expr_any (ks_wpAt_MethodCall ?_ (init_eval env txt j p0 p1 p2 p3 p4 hpos)))
    refine ks_wpAt_super_base (env := env) (by show (initScope more).names.lookup _ = _; rw [hnames]; rfl) (by show (initScope more).names.lookup _ = _; rw [hnames]; rfl) (by decide) rfl (kcl _ _ lk) rfl hpar rfl (kcl _ _ hcode) rfl hvs hfile T.top ?_
    refine PySem.W.ks_loadName_global hkind (by show (initScope more).names.lookup _ = _; rw [hnames]; rfl) (Calls.loadGlobal_builtin (env := env) (e0.mod.glob.keeps bk) (PySem.W.mg_none_of e0.mod.kin e0.mod.glob T.sup) (hbl.keeps bk) ((hbb _ (by decide +kernel)).trans (by decide +kernel)) ⟨rfl, ?_⟩)
    refine wpAny_loadName_free hkind (by show (initScope more).names.lookup _ = _; rw [hnames]; rfl) rfl ⟨_, kcl _ _ hcell, rfl⟩ ?_
    rw [har]
    refine wpAny_loadName_local hkind (hka _ (by simp)) hns rfl ?_
    refine ks_wpAny_isType_cls hD1 hD2 ⟨rfl, ?_⟩
    refine ks_wpAny_call_super hD1 hD2 IA.at_ IA.cls (fun c e => by cases e) (PySem.W.looks_mroIn kcl EC.mro) ?_
    intro h2 hso k2'
    have K2 : K.In h2 := kcl.keeps k2'
    have IA2 : PySem.W.InstAt h2 a (PySem.HandSPX.excO C t1) C none := ⟨k2' _ _ IA.at_, rfl, rfl, trivial⟩
    have hm := EC.up
    unfold PySem.W.ks_superIn at hm
    rw [hclC] at hm
    refine PySem.W.kxs_getMethod PySem.W.kxs_ValueError hso (PySem.W.looks_opaque K2 T.third) (l₀ := .ref C :: bmC) ?_ rfl K2 hm (IA2.type.andThen (PySem.W.looks_subIn K2 EC.ve)) (PySem.W.ks_ne K2 IA2 hclC) (by decide) ?_
    · exact fun A Q E s k q => wpAny_bind ((PySem.W.looks_clsIn K2 hclC) A _ E s k (wpAny_pure q))
    generalize hu0 : h2.objs.size = u0
    have hmw : (h2.push (PySem.W.kxs_mw "ValueError.__init__" a)).get? u0 = some (PySem.W.kxs_mw "ValueError.__init__" a) := by
      rw [← hu0]
      exact Heap.get?_push_at rfl rfl
    have k3' : ∀ b o, h2.get? b = some o → (h2.push (PySem.W.kxs_mw "ValueError.__init__" a)).get? b = some o := fun b o e => Heap.get?_push_of_some _ e
    generalize h2.push (PySem.W.kxs_mw "ValueError.__init__" a) = h3 at hmw k3' ⊢
    have K3 : K.In h3 := K2.keeps k3'
    have I3 : Inv X [] [some (.ref a), some v] H { s with heap := h3, toks := s.toks + 2 + 1 + 1 } := I0.kept (t' := s.toks + 2 + 1 + 1) fun b o e => k3' b o (k2' b o e)
    have he3 : h3.get? a = some (PySem.HandSPX.excO C t1) := k3' _ _ IA2.at_
    refine PySem.W.kxs_callWith (i := "ValueError.__init__") (x := a) rfl (Calls.evalArgs_plain (Calls.spliced_cons (Calls.Constant_str (k := j) (pos := p3) ?_)))
    refine Calls.spliced_nil ⟨hmw, ?_⟩
    refine wpAny_call (codeAny_of_tree ?_)
    show wpAny _ (A.deeper env).in1 (callAny (.ref u0) ⟨[.str txt (s.toks + 2 + 1)], []⟩) _ _ _
    simp only [callAny]
    refine wpAny_bind (wpAny_load hmw ?_)
    simp only [PySem.W.kxs_mw, show (Value.type "method-wrapper" == Value.type "method" || Value.type "method-wrapper" == Value.type "builtin_function_or_method" || Value.type "method-wrapper" == Value.type "method-wrapper") = true by decide, if_true]
    refine PySem.W.KFB.if_so (by decide) ?_
    refine wpAny_bind (PySem.W.check_bound_init F.excBase_ValueError.toExcCallFacts (K3 _ _ hC) he3 rfl ?_)
    refine wpAny_bind (wpAny_pure (wpAny_pure ?_))
    refine ⟨PySem.plainId_quiet F.excBase_ValueError.init.plain _, codeAny_builtin F.excBase_ValueError.initEntry ?_⟩
    refine PySem.W.exc_init_tree (cls := .ref C) (t0 := t1) (dv := none) (c2 := .none) (c3 := .none) (b4 := .bool false) he3 (show 1 ≤ sizeLine by decide) ?_
    intro h4 k4 he4 _
    have J := I3.write (t' := s.toks + 2 + 1 + 1) (x := a) (e := a) (o := exo a C none) (by rw [hexo]; exact True.intro) (.inl rfl) k4 ⟨_, he4⟩ (exo_ok he4)
    have eu : upd H a (exo a C none) = H := by
      funext b
      by_cases hb : b = a
      · rw [hb, upd_same, hexo]
      · rw [upd_ne hb]
    rw [eu] at J
    have ps : PSs X [.Assign [.Attribute (.Name "self" p6) "value" p7] (.Name "value" p8) p9] _ := pss_one (ps_ost (pv 0) (pv 1))
    have run := ps.run [] _ _ _ { nx := fun _ H' => Q .non H', rt := Q } J ?_
    · refine wpAt_of_wpAny (wpAny_mono run (fun fl s' hs => ?_) (fun _ _ hs => hs.elim))
      cases fl with
      | ret u =>
        obtain ⟨v', σ', H', J', rv, q'⟩ := hs
        exact ⟨v', H', J'.os, J'.bare, J'.base, J'.hok, rv, q'⟩
      | next =>
        obtain ⟨σ', H', J', q'⟩ := hs
        exact ⟨V.non, H', J'.os, J'.bare, J'.base, J'.hok, rfl, q'⟩
      | brk => exact False.elim hs.choose_spec.choose_spec.2
      | cont => exact False.elim hs.choose_spec.choose_spec.2
    · exact ⟨v, rfl, .ref a, rfl, a, C, rfl, EC.oex, EC.no, .inl ⟨hexo, q⟩⟩
end FG

/-! FG: errors raised, caught and kept -/
namespace FG
open PySem PySem.Spec PyProof.Rows L2

/-! ### raise X(e) -/
/-- all that is asked of an error class C called x -/
structure ErrF (P : Program) (w : World) (K : PySem.W.Frag) (mg : Str → Option Value) (base : Heap) (D C : Addr) (x : Str) : Prop where
  ec : ErrC K D C
  gx : mg x = some (.ref C)
  xf : XfC K C
  init : ∃ (fI : Addr) (fd : FuncData), PySem.W.findIn K (.ref C) "__init__" = some (some (.ref fI)) ∧ PySem.W.typeIn K (.ref fI) = some (.type "function") ∧
    InitTxt P K fI D fd ∧ Binds K fd ["self", "value"] []
/-- an expression's reading, made to bear weaker ends -/
def tW (te : TE) : TE := fun σ H Q => ∃ Q0 : VK, te σ H Q0 ∧ ∀ v H', Q0 v H' → Q v H'
theorem pe_w {X : Cx} {e : Expr} {te : TE} (he : PE X e te) : PE X e (tW te) := by
  refine ⟨fun pins s σ H Q I h => ?_⟩
  obtain ⟨Q0, h0, hm⟩ := h
  refine thn (he.run pins s σ H Q0 I h0) ?_
  rintro u s' ⟨v, H', I', r, q⟩
  exact ⟨v, H', I', r, hm v H' q⟩
def tErr (C : Addr) (te : TE) : L2.St → Hp → XK → Prop := fun σ H Q => te σ H fun v H1 => ∀ d, H1 d = none → Q (.ref C) (some d) (upd H1 d (.xd [((Str.ofString "value"), v)]))
section
variable {X : Cx} {x : Str} {p pos : Pos} {e : Expr} {te : TE} {D C : Addr} {k : Nat}
theorem pmk_err (T : ErrF X.prog X.w X.K X.mg X.base D C x) (hr : Room (k + 2) X.A) (hg : Gl X x) (he : PE X e te)
    (hdb : (x == ("__debug__" : Str)) = false := by decide) (hs : starEach [e] X.env = (false, eval e X.env) :: starEach [] X.env := by rfl) :
    PMk X (.Call (.Name x p) [e] [] pos) (tErr C te) := by
  obtain ⟨fI, fd, iC, tI, IT, hb⟩ := T.init
  have F1 : FnOk X.prog X.w X.K X.mg X.base CX0 (k + 1) fI fd ["self", "value"] (spInit X.K D) := init_okG IT
  have base := pmk_oex (p := p) (pos := pos) (dvs := []) T.ec.oex iC tI F1 hr hb .nil pass0 hg T.gx (pa_cons (pe_w he) pa_nil hs) hdb hs rfl
  intro pins s σ H Q I h
  refine base pins s σ H Q I ⟨_, h, fun v H1 hq => ⟨by show 1 ≤ 1000; decide, fun a na => ⟨a, C, v, rfl, T.ec, upd_same, fun dx ndx ne => ⟨rfl, dx, [((Str.ofString "value"), v)], upd_same, ?_, ?_, ?_⟩⟩⟩⟩
  · rw [upd_ne ne, upd_same]
  · rw [upd_ne ne] at ndx; exact ndx
  · rw [upd_ne ne] at ndx
    have e : upd (del (upd (upd (upd H1 a (exo a C none)) dx (exd dx [((Str.ofString "value"), v)])) a (exo a C (some dx))) a) dx (.xd [((Str.ofString "value"), v)]) = upd H1 dx (.xd [((Str.ofString "value"), v)]) := by
      funext b
      by_cases hb : b = dx
      · rw [hb, upd_same, upd_same]
      · rw [upd_ne hb, upd_ne hb]
        by_cases ha : b = a
        · rw [ha, del_same, na]
        · rw [del_ne ha, upd_ne ha, upd_ne hb, upd_ne ha]
    rw [e]
    exact hq dx ndx
/-- raise X(e) -/
theorem ps_err {W : WX} {rp : Pos} (hc : X.calm = true) (tk : Takes X W) (T : ErrF X.prog X.w X.K X.mg X.base D C x) (hr : Room (k + 2) X.A) (hg : Gl X x) (he : PE X e te)
    (hdb : (x == ("__debug__" : Str)) = false := by decide) (hs : starEach [e] X.env = (false, eval e X.env) :: starEach [] X.env := by rfl) :
    PS X (.Raise (some (.Call (.Name x p) [e] [] pos)) none rp) (fun _ σ H => te σ H fun v H1 => ∀ d, H1 d = none → W (.ref C) (some d) σ (upd H1 d (.xd [((Str.ofString "value"), v)]))) :=
  ps_raise hc tk (pmk_err T hr hg he hdb hs)
end

/-! ### an error that is kept -/
/-- at a: an error of the class cls, its dict d -/
def exq (a : Addr) (cls : Value) (d : Option Addr) : HO := .ext fun h => ∃ o vs, h.get? a = some o ∧ o.cls = cls ∧ o.dict = d ∧ o.data = .fields vs
theorem exq_ok {P : Program} {w : World} {H : Hp} {h : Heap} {a : Addr} {cls : Value} {d : Option Addr} {o : Obj} {vs : Array Value} (e : h.get? a = some o) (h1 : o.cls = cls) (h2 : o.dict = d) (h3 : o.data = .fields vs) :
    ObjOk P w H h a (exq a cls d) :=
  ⟨⟨o, vs, e, h1, h2, h3⟩, ⟨o, e⟩, fun _ _ ⟨o', vs', z, r⟩ k => ⟨o', vs', k _ z, r⟩⟩
theorem exq_at {P : Program} {w : World} {H : Hp} {h : Heap} {a : Addr} {cls : Value} {d : Option Addr} (hok : HOk P w H h) (he : H a = some (exq a cls d)) :
    ∃ o vs, h.get? a = some o ∧ o.cls = cls ∧ o.dict = d ∧ o.data = .fields vs := by
  have x : ObjOk P w H h a (.ext fun h => ∃ o vs, h.get? a = some o ∧ o.cls = cls ∧ o.dict = d ∧ o.data = .fields vs) := hok a _ he
  exact x.1
section
variable {X : Cx} {pins : List (Addr × Obj)} {σ : L2.St} {H : Hp} {s : Shared}
/-- an object that was pinned, and that was not there at the entry, is tracked from here on -/
theorem track {a : Addr} {o : Obj} {u : HO} (I : Inv X ((a, o) :: pins) σ H s) (h0 : X.s_0.heap.get? a = none) (hp : ∀ p ∈ X.pn ++ pins, p.1 ≠ a) (hu : ObjOk X.prog X.w (upd H a u) s.heap a u) :
    Inv X pins σ (upd H a u) s := by
  obtain ⟨ha, hn, hL, hF, hc⟩ := I.pin (a, o) (List.mem_append_right _ List.mem_cons_self)
  have ne : ∀ {b : Addr} {z : HO}, H b = some z → b ≠ a := fun {b z} e q => by rw [q, hn] at e; cases e
  refine ⟨I.ok, I.os, I.bare, ⟨I.base.keep, I.base.slot, ?_, I.base.there, ?_, ?_, ?_⟩, I.loc, I.cell, ?_, ?_, ?_, ?_, I.len⟩
  · intro b ob e n hx
    rw [upd_ne]
    · exact I.base.free b ob e n hx
    · rintro rfl
      rw [h0] at e; cases e
  · intro b xs e
    have z := I.base.tups b xs e
    rw [upd_ne (ne z)]; exact z
  · intro b ob u e
    have z := I.base.frzs b ob u e
    rw [upd_ne (ne z)]; exact z
  · intro b ps e
    obtain ⟨m, z⟩ := I.base.tbls b ps e
    exact ⟨m, by rw [upd_ne (ne z)]; exact z⟩
  · rw [upd_ne (Ne.symm hL)]; exact I.free
  · intro y c e
    rw [upd_ne]
    · exact I.freeC y c e
    · rintro rfl
      obtain ⟨v, oc, e1, e2⟩ := I.cell y c e
      rw [ha] at e1
      cases e1
      exact hc _ e2
  · intro p hm
    obtain ⟨z1, z2, z3, z4, z5⟩ := I.pin p (by
      rcases List.mem_append.mp hm with q | q
      · exact List.mem_append_left _ q
      · exact List.mem_append_right _ (List.mem_cons_of_mem _ q))
    exact ⟨z1, by rw [upd_ne (hp p hm)]; exact z2, z3, z4, z5⟩
  · intro b z e
    by_cases hb : b = a
    · subst hb
      rw [upd_same] at e
      cases e
      exact hu
    · rw [upd_ne hb] at e
      exact (I.hok b z e).stay (fun _ _ _ q => q) (fun c q => by rw [upd_ne (ne q)]; exact q) (fun c xs q => by rw [upd_ne (ne q)]; exact q)
end

/-! ### try: body / except x as n: y = n -/
def wKeep (K : PySem.W.Frag) (c : Value) (i j : Nat) (Wout : WX) (D : Ends) : WX := fun cls d σ H =>
  ∃ b, PySem.W.exmOne K cls c = some b ∧ (b = true → ∀ a, H a = none → D.nx (((σ.set i (some (.ref a))).set j (some (.ref a))).set i none) (upd H a (exq a cls d))) ∧
    (b = false → Wout cls d σ H)
section
variable {X : Cx} {x n y : Str} {c : Value} {i j : Nat} {body : List Stmt} {np pos pos' py pn1 sp1 : Pos} {tb : WX → TS} {Wout : WX}
theorem ps_try_keep (hs : X.stack = X.env :: X.outer) (hf : X.env.frame = some X.env.locals) (hex : X.ex = []) (hN : X.N.Nodup) (hi : X.N[i]? = some n) (hln : X.env.kindOf n = some .local)
    (hj : X.N[j]? = some y) (hly : X.env.kindOf y = some .local) (hc : Names X x c) (tk : Takes X Wout)
    (hb : ∀ (W : WX) (pn : List (Addr × Obj)) (xe : Value → Shared → Prop), Takes (X.tr pn xe) W → PassesOwn (model X.prog X.w) X.A X.env xe → PSs (X.tr pn xe) body (tb W))
    (hdn : (n == ("__debug__" : Str)) = false := by decide) (hdc : (n == ("__classdict__" : Str)) = false := by decide) :
    PS X (.Try body [.ExceptHandler (some (.Name x np)) (some n) [.Assign [.Name y py] (.Name n pn1) sp1] pos'] [] [] pos) (fun D σ H => tb (wKeep X.K c i j Wout D) D σ H) := by
  refine ⟨fun pins s σ H D I h => ?_⟩
  have ok := I.ok
  have hfr : X.A.frames = some (X.env :: X.outer) := by rw [ok.frames, hs]
  have hloc : Loc X.env.scope n := .inl hln
  refine wpAny_Try_except ?_
  have tbr := hb (wKeep X.K c i j Wout D) (X.pn ++ pins) (fun e s₁ => wpAny (model X.prog X.w) X.A (noteFrame e X.env) (fun _ s₂ => wpAny (model X.prog X.w) X.A (setFlight e none) (fun _ s₃ =>
    wpAny (model X.prog X.w) X.A (handleBy e X.env [.ExceptHandler (some (.Name x np)) (some n) [.Assign [.Name y py] (.Name n pn1) sp1] pos']) (SP X pins D) X.xe s₃) X.xe s₂) X.xe s₁) ?_ PassesOwn.looking
  · refine wpAny_mono (tbr.run [] s σ H D (I.toTry _) h) ?_ (fun e s1 he => he)
    intro f s1 hsp
    cases f with
    | next =>
      obtain ⟨σ', H', J', q⟩ := hsp
      exact wpAny_execs_nil ⟨σ', H', J'.ofTry ok, q⟩
    | brk =>
      obtain ⟨σ', H', J', q⟩ := hsp
      exact ⟨σ', H', J'.ofTry ok, q⟩
    | cont =>
      obtain ⟨σ', H', J', q⟩ := hsp
      exact ⟨σ', H', J'.ofTry ok, q⟩
    | ret u =>
      obtain ⟨v, σ', H', J', r, q⟩ := hsp
      exact ⟨v, σ', H', J'.ofTry ok, r, q⟩
  · intro u s' xx
    obtain ⟨a, B, sI, pins', σ', H', cls, d, rfl, J', nb, up, sky, na, os, ag, b, hb1, hyes, hno⟩ := xx
    have J : Inv X pins σ' H' sI := J'.ofTry ok
    have sky' : Sky B (X.env :: X.outer) a (Zc cls d) X.env.locals s'.heap := by rw [← hs]; exact sky
    show wpAny (model X.prog X.w) X.A (noteFrame (.ref a) X.env) _ _ _
    refine Sky.land Zc.steady hfr hf sky' ?_
    intro h3 fl3 up3
    have J3 : Inv X pins σ' H' { s' with heap := h3 } := J.landed nb fl3.1 (up.trans up3) os ag
    obtain ⟨oe3, vs3, he3, hz3, hd3⟩ := fl3.there
    have nfr : a ∉ frs (X.env :: X.outer) := by
      intro hm
      obtain ⟨_, o', e', hnf⟩ := fl3.2.2.1.mem hm
      rw [he3] at e'; cases e'
      exact hnf _ hd3
    have nL : a ≠ X.env.locals := fun z => nfr (List.mem_filterMap.mpr ⟨X.env, List.mem_cons_self, by rw [hf, z]⟩)
    have nF : a ∉ X.fs := by
      intro hm
      obtain ⟨e, he, q⟩ := List.mem_filterMap.mp hm
      exact nfr (List.mem_filterMap.mpr ⟨e, List.mem_cons_of_mem _ he, q⟩)
    -- it was not there
    have nI : sI.heap.get? a = none := by
      cases q : sI.heap.get? a with
      | none => rfl
      | some o =>
        have z := nb a o q (by rw [hs]; exact nfr)
        rw [fl3.2.1] at z; cases z
    have n0 : X.s_0.heap.get? a = none := by
      cases q : X.s_0.heap.get? a with
      | none => rfl
      | some o =>
        obtain ⟨o', z⟩ := J.base.there a o q (by rw [hex]; simp)
        rw [nI] at z; cases z
    have npin : ∀ p ∈ X.pn ++ pins, p.1 ≠ a := by
      rintro p hp rfl
      have z := (J.pin p hp).1
      rw [nI] at z; cases z
    have S3 := J3.suite he3 hd3 na nL nF
    refine wpAny_handleBy_cons (codeAny_handlers_test ?_) (by intro q; cases q)
    have LT : PySem.W.Looks (model X.prog X.w) h3 (typeOf (.ref a)) cls := fun A Q E s k q => wpAny_typeOf_ref (k _ _ he3) (by rw [hz3.1]; exact q)
    have LM := PySem.W.exm_one (M := model X.prog X.w) (J3.kIn) LT hb1
    have test : ∀ {Q : Value → Shared → Prop} {E : Value → Shared → Prop}, Q c { s' with heap := h3 } → wpAny (model X.prog X.w) (X.A.mark (some (.ref a))) (eval (.Name x np) X.env) Q E { s' with heap := h3 } := by
      intro Q E q
      obtain ⟨hg, hdbg, hm | ⟨hm, hv, hnn⟩⟩ := hc
      · exact ld_glob (X := X.suite a ((a, oe3) :: (X.pn ++ pins))) S3 hg hm q hdbg
      · exact ld_blt (X := X.suite a ((a, oe3) :: (X.pn ++ pins))) S3 hg hm hv q hnn hdbg
    refine test (LM.here ?_)
    cases b with
    | true =>
      refine codeAny_handlers_suite_as ?_
      refine HandSPX.lands_againZ fl3 ?_
      intro h4 fl4 up4
      have J4 : Inv X pins σ' H' { s' with heap := h4 } := J.landed nb fl4.1 ((up.trans up3).trans up4) os ag
      obtain ⟨oe4, vs4, he4, hz4, hd4⟩ := fl4.there
      have S4 := J4.suite he4 hd4 na nL nF
      refine store_ok (X := X.suite a ((a, oe4) :: (X.pn ++ pins))) (v := .ref a) S4 hN hi hloc rfl ?_ (.inr hln)
      intro s5 S5
      have hlen : i < σ'.length := by rw [J4.len]; exact (List.getElem?_eq_some_iff.mp hi).1
      have ps : PSs (X.suite a ((a, oe4) :: (X.pn ++ pins))) [.Assign [.Name y py] (.Name n pn1) sp1] _ :=
        pss_one (ps_asg (pe_var (i := i) hi (.inl hln) hdn hdc) (pg_name (i := j) hN hj (.inl hly) (hf := .inr hly)))
      have run := ps.run [] s5 _ H' { nx := fun σ6 H6 => σ6 = (σ'.set i (some (.ref a))).set j (some (.ref a)) ∧ H6 = H', rt := fun _ _ => False } S5 ?_
      · refine wpAny_mono run ?_ (fun _ _ z => False.elim z)
        intro f s6 hsp
        cases f with
        | next =>
          obtain ⟨σ6, H6, S6, e1, e2⟩ := hsp
          subst e1
          subst e2
          have J6 : Inv X ((a, oe4) :: pins) ((σ'.set i (some (.ref a))).set j (some (.ref a))) H6 s6 := by
            refine (S6.unsuite ok).pins_of ?_
            intro p hp
            rcases List.mem_cons.mp hp with rfl | hp
            · obtain ⟨z1, z2, z3, z4, z5⟩ := S6.pin (a, oe4) (List.mem_append_left _ List.mem_cons_self)
              exact ⟨z1, z2, z3, z4, z5⟩
            · exact (S6.unsuite ok).pin p (List.mem_append_right _ hp)
          refine gone_ok J6 hN hi hln ?_
          intro s7 J7
          obtain ⟨z1, _⟩ := J7.pin (a, oe4) (List.mem_append_right _ List.mem_cons_self)
          exact ⟨_, _, track (u := exq a cls d) J7 n0 npin (exq_ok z1 hz4.1 hz4.2 hd4), hyes rfl a na⟩
        | brk => exact False.elim hsp.choose_spec.choose_spec.2
        | cont => exact False.elim hsp.choose_spec.choose_spec.2
        | ret u =>
          obtain ⟨v6, σ6, H6, S6, r6, q6⟩ := hsp
          exact False.elim q6
      · exact ⟨.ref a, by rw [List.getElem?_set_self hlen], ⟨rfl, rfl⟩⟩
    | false =>
      show wpAny _ X.A (handleBy (.ref a) X.env []) _ _ _
      refine wpAny_handleBy_nil ?_
      obtain ⟨k1, k2, k3, oe, vs, T, oT, ts', he, hz, hd, h1, hr⟩ := id fl3
      unfold PySem.passOn
      refine wpAny_bind (wpAny_field he hd h1 ?_)
      rw [if_neg (show ¬ ((Value.ref T == Value.none) = true) from by simp)]
      have fin : wpAny (model X.prog X.w) X.A (setFlight (.ref a) X.env.frame) (fun _ s4 => wpAny (model X.prog X.w) X.A (throw (.ref a) : Sem Flow) (SP X pins D) X.xe s4) X.xe { s' with heap := h3 } := by
        rw [hf]
        refine HandSPX.setFlight_upZ fl3 ?_
        intro h4 hh4 up4
        refine wpAny_throw (tk _ _ ?_)
        exact ⟨a, B, sI, pins, σ', H', cls, d, rfl, J, nb, (up.trans up3).trans up4, .inr (.inr (by rw [hs]; exact hh4)), na, os, ag, hno rfl⟩
      first
        | exact wpAny_bind (wpAny_pure (wpAny_bind fin))
        | exact wpAny_bind fin
end

/-! ### what is asked of a kept error -/
/-- facts of the class for isinstance -/
structure IsiC (K : PySem.W.Frag) (C : Addr) : Prop where
  cls : (PySem.W.clsIn K C).isSome = true
  xf : XfC K C
  ac : PySem.W.findIn K (.ref C) "__class__" = some (some (.builtin "object.__class__"))
  gs : PySem.W.specialIn K (.builtin "object.__class__") "__get__" = some (some (.builtin "getset_descriptor.__get__"))
  tk : PySem.W.takesIn K (.builtin "object.__class__") = some true
  mo : PySem.W.mroIn K C (.type "object") = some true
/-- isinstance(e, c), e a kept error -/
def rIsQ (K : PySem.W.Frag) : List V → Hp → VK → Prop := fun xs H Q => ∃ (a C d : Addr) (fs : List (Str × V)) (c : V) (u : Value) (b : Bool), xs = [.ref a, c] ∧ ClsV c u ∧
  H a = some (exq a (.ref C) (some d)) ∧ H d = some (.xd fs) ∧ IsiC K C ∧ PySem.W.kitOne K (.ref C) u = some b ∧ Q (.bl b) H
section
variable {X : Cx}
theorem exq_inst {P : Program} {w : World} {H : Hp} {h : Heap} {a C d : Addr} {fs : List (Str × V)} (hok : HOk P w H h) (ha : H a = some (exq a (.ref C) (some d))) (hd : H d = some (.xd fs)) :
    ∃ ox od, PySem.W.InstAt h a ox C (some od) ∧ ∀ n v, fs.lookup n = some v → ∃ u, PySem.W.lookIn n od = some (some u) ∧ RelV v u := by
  obtain ⟨o, vs, e, h1, h2, h3⟩ := exq_at hok ha
  have hx : ObjOk P w H h d (.xd fs) := hok d _ hd
  obtain ⟨mA, hns, hr⟩ := hx
  obtain ⟨od, ho, hl⟩ := lookIn_ns hns
  refine ⟨o, od, ⟨e, h1, by unfold PySem.W.notCls; rw [h3] <;> rfl, by rw [h2]; exact ho⟩, ?_⟩
  intro n v hv
  obtain ⟨u, hu, ru⟩ := RelO.some_of (v := v) (o := mA n) (by rw [← hv]; exact hr n)
  exact ⟨u, by rw [hl, hu], ru⟩
theorem call_isQ : CallR X (.builtin "isinstance") (rIsQ X.K) := by
  intro pins s σ H xs us Q I r h
  obtain ⟨a, C, d, fs, c, u, b, rfl, k, ha, hd, T, e, q⟩ := h
  obtain ⟨u1, u2, rfl, r1, r2⟩ := vals2 r
  have e2 := k.eq r2
  subst e2
  obtain rfl : u1 = Value.ref a := r1
  obtain ⟨ox, od, J, _⟩ := exq_inst I.hok ha hd
  have Z := PySem.W.kitx_exc (x := a) (ox := ox) (od := some od) T.cls T.xf.ga T.xf.gg T.xf.exC T.ac T.gs T.tk T.mo
  exact PySem.W.kia_one Z I.kIn J e (fun z => nomatch z) fun tk => ⟨.bl b, H, I.tok tk, rfl, q⟩
/-- e.n, e a kept error -/
def tXq (K : PySem.W.Frag) (n : Str) (te : TE) : TE := fun σ H Q => te σ H fun x H1 => ∃ (a C d : Addr) (fs : List (Str × V)) (v : V), x = .ref a ∧ H1 a = some (exq a (.ref C) (some d)) ∧ H1 d = some (.xd fs) ∧
  XfC K C ∧ PySem.W.findIn K (.ref C) n = some none ∧ fs.lookup n = some v ∧ Q v H1
theorem pe_xq {e : Expr} {te : TE} {pos : Pos} {n : Str} (he : PE X e te) (hb : attributeBase e n X.env (eval e X.env) = eval e X.env := by rfl) :
    PE X (.Attribute e n pos) (tXq X.K n te) := by
  refine ⟨fun pins s σ H Q I h => ?_⟩
  refine attr_of hb (thn (he.run pins s σ H _ I h) ?_)
  rintro u s1 ⟨x, H1, I1, rx, a, C, d, fs, v, rfl, ha, hd, T, hno, hv, q⟩
  obtain rfl : u = Value.ref a := rx
  obtain ⟨ox, od, J, hl⟩ := exq_inst I1.hok ha hd
  obtain ⟨u, hu, ru⟩ := hl n v hv
  exact HandSPX.exc_get I1.kIn J T.ga T.gg T.exC (PySem.W.findObj_own T.hdC hno rfl hu) (handed_of ru) ⟨v, H1, I1.tok _, ru, q⟩
end
end FG

/-! FG: values of data: isinstance, ** of great ints, text * int; the drawing pot -/
namespace FG
open PySem PySem.Spec PyProof.Rows L2

def tyD : PyData → String
  | .none => "NoneType"
  | .bool _ => "bool"
  | .int _ => "int"
  | .str _ => "str"
  | .list _ => "list"
  | .tuple _ => "tuple"
  | .dict _ => "dict"
/-- isinstance(d, T), T one of the built-in types below -/
def isTy (T : String) : PyData → Bool
  | .none => false
  | .bool _ => T == "bool" || T == "int"
  | .int _ => T == "int"
  | .str _ => T == "str"
  | .list _ => T == "list"
  | .tuple _ => T == "tuple"
  | .dict _ => T == "dict"
def tyNames : List String := ["str", "int", "bool", "tuple", "list", "dict"]
theorem kit_isTy : ∀ T ∈ tyNames, ∀ d : PyData, kitB (tyD d) T = some (isTy T d) := by
  have all : ∀ T ∈ tyNames, kitB "NoneType" T = some false ∧ kitB "bool" T = some (T == "bool" || T == "int") ∧ kitB "int" T = some (T == "int") ∧ kitB "str" T = some (T == "str") ∧
      kitB "list" T = some (T == "list") ∧ kitB "tuple" T = some (T == "tuple") ∧ kitB "dict" T = some (T == "dict") := by decide +kernel
  intro T hT d
  obtain ⟨h1, h2, h3, h4, h5, h6, h7⟩ := all T hT
  cases d <;> assumption
theorem Dq.ty {K : PySem.W.Frag} {M : Addr → Prop} {H : Hp} {v : V} {d : PyData} (h : Dq K M H v d) : TyX K H v (.type (tyD d)) := by
  cases h with
  | non => exact .base .non
  | bl b => exact .base (.bl b)
  | int i => exact .base (.int i)
  | str x => exact .base (.str x)
  | lst h _ =>
    rcases h.l with (h | ⟨o, h⟩) | ⟨o, its, n, h, hc, _⟩
    · exact .base (.lst h)
    · exact .base (.frz h)
    · exact .kList h hc
  | tup h _ =>
    rcases h.t with (h | ⟨o, h⟩) | ⟨o, its, n, h, hc, _⟩
    · exact .base (.tup h)
    · exact .fTuple h
    · exact .kTuple h hc
  | dct _ h _ => exact .base (.dK h)
def rIsD (K : PySem.W.Frag) : List V → Hp → VK → Prop := fun xs H Q => ∃ (M : Addr → Prop) (x : V) (d : PyData) (T : String), xs = [x, .ty T] ∧ Dq K M H x d ∧ T ∈ tyNames ∧ Q (.bl (isTy T d)) H
section
variable {X : Cx}
theorem call_isD : CallR X (.builtin "isinstance") (rIsD X.K) := by
  intro pins s σ H xs us Q I r h
  obtain ⟨M, x, d, T, rfl, hd, hT, q⟩ := h
  exact call_isi pins s σ H _ us Q I r ⟨x, .ty T, .type (tyD d), .type T, isTy T d, rfl, .ty T, hd.ty, kit_ty (kit_isTy T hT d), q⟩
/-- ** of ints of together not too many bits -/
def CPowW (i j : Int) : Prop := 0 ≤ j ∧ ∃ b : Nat, i.natAbs < 2 ^ b ∧ (b : Int) * j ≤ 1000000
theorem op_powW : OpR X (binaryOp .Pow) (rI CPowW fun i j => .int (i ^ j.toNat)) := opI fun i j _ _ _ _ _ hc q => by
  obtain ⟨h0, b, hb, hz⟩ := hc
  refine pow_int h0 ?_ q
  have hbits : Builtin.Int.intBits i ≤ b := by
    unfold Builtin.Int.intBits
    split
    · exact Nat.zero_le _
    · rename_i hi
      have : i.natAbs.log2 < b := by
        rw [Nat.log2_lt]
        · exact hb
        · intro z; apply hi; simpa using z
      omega
  have h1 : (Builtin.Int.intBits i : Int) * j ≤ (b : Int) * j := Int.mul_le_mul_of_nonneg_right (by exact_mod_cast hbits) h0
  omega
def repS (x : Str) (n : Nat) : Str := ⟨(List.replicate n x.cps).foldl (· ++ ·) #[]⟩
theorem op_repS : OpR X (binaryOp .Mult) (fun x y H Q => ∃ (a : Str) (n : Nat), x = .str a ∧ y = .int n ∧ 2 ≤ n ∧ n ≤ 1000 ∧ 1 ≤ a.length ∧ a.length ≤ 1000 ∧ Q (.str (repS a n)) H) := by
  intro pins s σ H x y v u Q I rx ry h
  obtain ⟨a, n, rfl, rfl, h2, h3, h4, h5, q⟩ := h
  obtain ⟨t, rfl⟩ := rx
  obtain ⟨t', rfl⟩ := ry
  have hn1 : ¬ ((n : Int) < 1) := by omega
  have hz : a.length * n ≤ 1000000 := Nat.le_trans (Nat.mul_le_mul h5 h3) (by decide)
  have hsmall : (((n : Int) == 1) || (a.length == 0)) = false := by
    rw [Bool.or_eq_false_iff]
    refine ⟨?_, ?_⟩
    · rw [beq_eq_false_iff_ne]; omega
    · rw [beq_eq_false_iff_ne]; omega
  have hlong : (repS a n).length ≤ sizeLine := by
    have key : ∀ (m : Nat) (acc : Array Nat), ((List.replicate m a.cps).foldl (· ++ ·) acc).size = acc.size + m * a.cps.size := by
      intro m
      induction m with
      | zero => intro acc; simp
      | succ m ih =>
        intro acc
        rw [List.replicate_succ, List.foldl_cons, ih, Array.size_append, Nat.succ_mul]
        omega
    have e : (repS a n).length = n * a.length := by
      show ((List.replicate n a.cps).foldl (· ++ ·) #[]).size = _
      rw [key]
      simp [Str.length]
    rw [e, Nat.mul_comm]
    exact Nat.le_trans hz (by decide)
  refine PySem.P.mul_str ?_ ?_ ?_ ?_
  · rw [decide_eq_false (by omega), decide_eq_false (by omega)]; rfl
  · intro _ _
    have : (a.length : Int) ≤ 1000 := by exact_mod_cast h5
    have h6 : (1000 : Int) ≤ (2 ^ 63 - 1) / (n : Int) := by
      have : (n : Int) ≤ 1000 := by exact_mod_cast h3
      rw [Int.le_ediv_iff_mul_le (by omega)]
      omega
    omega
  · intro _ _
    refine decide_eq_false ?_
    show ¬ (a.length * (n : Int).toNat > sizeLine)
    rw [Int.toNat_natCast]
    exact Nat.not_lt.mpr (Nat.le_trans hz (by decide))
  · rw [if_neg hn1, hsmall, if_neg Bool.false_ne_true]
    exact ⟨hlong, ⟨.str _, H, I.tok _, ⟨_, rfl⟩, q⟩⟩
end

/-! ### the pot -/
/-- at p: three ints, the third at most n -/
def PotAt (H : Hp) (p : Addr) (n : Nat) : Prop := ∃ a b c : Int, H p = some (.lst [.int a, .int b, .int c]) ∧ 0 ≤ a ∧ a < 2 ^ 1000 ∧ 0 ≤ b ∧ b < 2 ^ 62 ∧ 0 ≤ c ∧ c ≤ n
theorem PotAt.mono {H : Hp} {p : Addr} {n m : Nat} (h : PotAt H p n) (hn : n ≤ m) : PotAt H p m := by
  obtain ⟨a, b, c, e, h1, h2, h3, h4, h5, h6⟩ := h
  exact ⟨a, b, c, e, h1, h2, h3, h4, h5, by omega⟩
theorem PotAt.same {H H' : Hp} {p : Addr} {n : Nat} (h : PotAt H p n) (e : H' p = H p) : PotAt H' p n := by
  obtain ⟨a, b, c, z, r⟩ := h
  exact ⟨a, b, c, by rw [e]; exact z, r⟩
theorem PotAt.keep {H H' : Hp} {p : Addr} {n : Nat} (h : PotAt H p n) (s : Same H H') : PotAt H' p n := by
  obtain ⟨a, b, c, z, r⟩ := h
  exact ⟨a, b, c, s _ _ z, r⟩
theorem PotAt.ne {H : Hp} {p q : Addr} {n : Nat} (h : PotAt H p n) (hq : H q = none) : q ≠ p := by
  obtain ⟨a, b, c, z, r⟩ := h
  rintro rfl
  rw [hq] at z; cases z
/-- _law_take(pot, upto) -/
def spTake : Sp := fun vs H Q _ => ∃ (p : Addr) (u : Int) (n : Nat), vs = [.ref p, .int u] ∧ PotAt H p n ∧ n ≤ 1000000000 ∧ 0 < u ∧ u < 1073741824 ∧
  ∀ (d : Int) (H' : Hp), 0 ≤ d → d < u → PotAt H' p (n + 1) → SameM (· = p) H H' → Q (.int d) H'
/-- _law_of(pot, some), a list or a text -/
def spOf (K : PySem.W.Frag) : Sp := fun vs H Q _ => ∃ (p : Addr) (n : Nat), PotAt H p n ∧ n ≤ 1000000000 ∧
  ((∃ (a : Addr) (xs : List V), vs = [.ref p, .ref a] ∧ a ≠ p ∧ SqL K H a xs ∧ xs ≠ [] ∧ xs.length < 1000000 ∧ ∀ (v : V) (H' : Hp), v ∈ xs → PotAt H' p (n + 1) → SameM (· = p) H H' → Q v H') ∨
   (∃ (z : Str), vs = [.ref p, .str z] ∧ 0 < z.length ∧ z.length < 1000000 ∧ ∀ (c : Nat) (H' : Hp), c ∈ z.cps.toList → PotAt H' p (n + 1) → SameM (· = p) H H' → Q (.str ⟨#[c]⟩) H'))
/-- _law_pot_of(script, k) -/
def spPotOf (K : PySem.W.Frag) : Sp := fun vs H Q _ => ∃ (a : Addr) (ns : List Int) (k : Nat), vs = [.ref a, .int k] ∧ SqL K H a (ns.map V.int) ∧ ns.length ≤ 63 ∧ k ≤ 63 ∧
  ∀ (p : Addr) (H' : Hp), H p = none → Same H H' → PotAt H' p 0 → Q (.ref p) H'
theorem atI_mem {α : Type} {xs : List α} {i : Int} (h0 : 0 ≤ i) (h1 : i < xs.length) : ∃ v, atI xs i = some v ∧ v ∈ xs := by
  obtain ⟨n, rfl⟩ := Int.eq_ofNat_of_zero_le h0
  have hn : n < xs.length := by exact_mod_cast h1
  exact ⟨xs[n], atI_nat (List.getElem?_eq_getElem hn), List.getElem_mem hn⟩
end FG

/-! FG: readings by steps: named readings, a lemma a step -/
namespace FG
open PySem PySem.Spec PyProof.Rows L2

/-! ### named readings of operators and calls -/
def qIsN : R2 := fun x y H Q => y = .non ∧ Q (.bl (decide (x = .non))) H
def qNotN : R2 := fun x y H Q => y = .non ∧ Q (.bl (!decide (x = .non))) H
def qAddS : R2 := fun x y H Q => ∃ i j, x = .str i ∧ y = .str j ∧ i.length + j.length ≤ sizeLine ∧ Q (.str (i ++ j)) H
def qInS : R2 := fun x y H Q => ∃ (c : Nat) (z : Str), x = .str ⟨#[c]⟩ ∧ y = .str z ∧ Q (.bl (decide (c ∈ z.cps.toList))) H
def qNotInS : R2 := fun x y H Q => ∃ (c : Nat) (z : Str), x = .str ⟨#[c]⟩ ∧ y = .str z ∧ Q (.bl (!decide (c ∈ z.cps.toList))) H
def qRepS : R2 := fun x y H Q => ∃ (a : Str) (n : Nat), x = .str a ∧ y = .int n ∧ 2 ≤ n ∧ n ≤ 1000 ∧ 1 ≤ a.length ∧ a.length ≤ 1000 ∧ Q (.str (repS a n)) H
def qInt : List V → Hp → VK → Prop := fun xs H Q => (∃ i, xs = [.int i] ∧ Q (.int i) H) ∨ ∃ k, xs = [.bl k] ∧ Q (.int (if k then 1 else 0)) H
def qAbs : List V → Hp → VK → Prop := fun xs H Q => ∃ i, xs = [.int i] ∧ Q (.int (if i < 0 then -i else i)) H
def qMax : List V → Hp → VK → Prop := fun xs H Q => ∃ i j, xs = [.int i, .int j] ∧ Q (.int (if j > i then j else i)) H
def qMin : List V → Hp → VK → Prop := fun xs H Q => ∃ i j, xs = [.int i, .int j] ∧ Q (.int (if j < i then j else i)) H
def qLen (K : PySem.W.Frag) : List V → Hp → VK → Prop := fun xs H Q => ∃ x n, xs = [x] ∧ LenV K x H n ∧ Q (.int n) H
def qListOf (K : PySem.W.Frag) : List V → Hp → VK → Prop := fun xs H Q => ∃ p ys, xs = [.ref p] ∧ (SqL K H p ys ∨ SqT K H p ys) ∧ ∀ l, H l = none → Q (.ref l) (upd H l (.lst ys))
def qTupOf (K : PySem.W.Frag) : List V → Hp → VK → Prop := fun xs H Q => ∃ p ys, xs = [.ref p] ∧ ((SqL K H p ys ∧ ∀ l, H l = none → Q (.ref l) (upd H l (.tup ys))) ∨ (SqT K H p ys ∧ Q (.ref p) H))
section
variable {X : Cx}
theorem o_isN : OpR X (compareOp .Is) qIsN := op_isN
theorem o_notN : OpR X (compareOp .IsNot) qNotN := op_notN
theorem o_addS : OpR X (binaryOp .Add) qAddS := op_add_str
theorem o_inS : OpR X (compareOp .In) qInS := op_in_sign
theorem o_notInS : OpR X (compareOp .NotIn) qNotInS := op_notIn_sign
theorem o_repS : OpR X (binaryOp .Mult) qRepS := op_repS
theorem q_int : CallR X (.type "int") qInt := call_int1
theorem q_abs : CallR X (.builtin "abs") qAbs := call_abs
theorem q_max (hc : X.calm = true) : CallR X (.builtin "max") qMax := call_max2 hc
theorem q_min (hc : X.calm = true) : CallR X (.builtin "min") qMin := call_min2 hc
theorem q_len : CallR X (.builtin "len") (qLen X.K) := call_len
theorem q_listOf : CallR X (.type "list") (qListOf X.K) := call_list_of
theorem q_tupOf : CallR X (.type "tuple") (qTupOf X.K) := call_tuple_of
end

/-- a new tuple, a new list -/
def NewT (xs : List V) (H : Hp) (Q : VK) : Prop := xs.length ≤ sizeLine ∧ ∀ p, H p = none → Q (.ref p) (upd H p (.tup xs))
def NewL (xs : List V) (H : Hp) (Q : VK) : Prop := xs.length ≤ sizeLine ∧ ∀ p, H p = none → Q (.ref p) (upd H p (.lst xs))
/-! ### steps -/
section
variable {σ : L2.St} {H : Hp} {Q : VK} {QT : Bool → Hp → Prop} {QA : List V → Hp → Prop} {ta tb te tc : TE} {tr : TA} {r r' : R2} {D : Ends} {t u : TS} {i j : Nat} {v : V} {cT uT : TT}
  {K : PySem.W.Frag} {g : TG} {xs : List V}
theorem b_var (h : σ[i]? = some (some v)) (q : Q v H) : tVar i σ H Q := ⟨v, h, q⟩
theorem b_c (q : Q v H) : tC v σ H Q := q
theorem b_op (q : ta σ H fun x H1 => tb σ H1 fun y H2 => r x y H2 Q) : tOp r ta tb σ H Q := q
theorem b_un {f : V → Hp → VK → Prop} (q : ta σ H fun x H1 => f x H1 Q) : tUn f ta σ H Q := q
theorem b_neg {i : Int} (q : Q (.int (-i)) H) : rU (fun i => V.int (-i)) (.int i) H Q := ⟨i, rfl, q⟩
theorem b_cons (q : ta σ H fun x H1 => tr σ H1 fun xs H2 => QA (x :: xs) H2) : tCons ta tr σ H QA := q
theorem b_nil (q : QA [] H) : tNil σ H QA := q
theorem b_chain (q : ta σ H fun x H1 => tb σ H1 fun y H2 => r x y H2 fun z H3 => ∃ k, z = .bl k ∧ (if k = true then tc σ H3 fun w' H4 => r' y w' H4 Q else Q (.bl false) H3)) : tChain r r' ta tb tc σ H Q := q
theorem b_bl {b : Bool} (q : QT b H) : ∃ k, V.bl b = .bl k ∧ QT k H := ⟨b, rfl, q⟩
theorem b_blP {b : Bool} {P : Bool → Prop} (q : P b) : ∃ k, V.bl b = .bl k ∧ P k := ⟨b, rfl, q⟩
theorem b_test (q : te σ H fun x H1 => ∃ k, x = .bl k ∧ QT k H1) : tTest te σ H QT := q
theorem b_tb (q : te σ H fun x H1 => ∃ k, x = .bl k ∧ QT k H1) : tB te σ H QT := q
theorem b_and (q : cT σ H fun c H1 => if c = true then uT σ H1 QT else QT false H1) : tAnd cT uT σ H QT := q
theorem b_or (q : cT σ H fun c H1 => if c = true then QT true H1 else uT σ H1 QT) : tOr cT uT σ H QT := q
theorem b_not (q : cT σ H fun c H1 => QT (!c) H1) : tNot cT σ H QT := q
theorem b_andV (q : ta σ H fun x H1 => ∃ c, x = .bl c ∧ if c = true then tb σ H1 Q else Q (.bl false) H1) : tAndV ta tb σ H Q := q
theorem b_orV (q : ta σ H fun x H1 => ∃ c, x = .bl c ∧ if c = true then Q (.bl true) H1 else tb σ H1 Q) : tOrV ta tb σ H Q := q
theorem b_notV (q : ta σ H fun x H1 => ∃ c, x = .bl c ∧ Q (.bl (!c)) H1) : tNotV ta σ H Q := q
theorem b_if (q : cT σ H fun c H1 => if c = true then ta σ H1 Q else tb σ H1 Q) : tIf cT ta tb σ H Q := q
theorem b_seq (q : t { D with nx := u D } σ H) : tSeq t u D σ H := q
theorem b_next (q : D.nx σ H) : tNext D σ H := q
theorem b_asg (q : te σ H fun x H1 => g x σ H1 D.nx) : tAsg te g D σ H := q
theorem b_name {k : L2.St → Hp → Prop} (q : k (σ.set i (some v)) H) : gName i v σ H k := q
theorem b_par (q : tr σ H fun vs H1 => ∃ v w, vs = [v, w] ∧ D.nx ((σ.set i (some v)).set j (some w)) H1) : tPar i j tr D σ H := q
theorem b_parE {v w : V} (q : D.nx ((σ.set i (some v)).set j (some w)) H) : ∃ v' w', [v, w] = [v', w'] ∧ D.nx ((σ.set i (some v')).set j (some w')) H := ⟨v, w, rfl, q⟩
theorem b_sub {to ti : TE} {f : TSet} {k : L2.St → Hp → Prop} (q : to σ H fun o H1 => ti σ H1 fun i H2 => f o i v H2 fun H3 => k σ H3) : gSub to ti f v σ H k := q
theorem b_aug {ti : TIp} {x : V} (h : σ[i]? = some (some x)) (q : te σ H fun y H1 => ti x y H1 fun z H2 => D.nx (σ.set i (some z)) H2) : tAug i te ti D σ H := ⟨x, h, q⟩
theorem b_ip {f : Int → Int → Int} {x y : Int} (q : Q (.int (f x y)) H) : ipI f (.int x) (.int y) H Q := ⟨x, y, rfl, rfl, q⟩
theorem b_ret (q : te σ H D.rt) : tRet te D σ H := q
theorem b_retN (q : D.rt .non H) : tRetN D σ H := q
theorem b_ifS (q : cT σ H fun b H1 => if b = true then t D σ H1 else u D σ H1) : tIfS cT t u D σ H := q
theorem b_drop (q : te σ H fun _ H1 => D.nx σ H1) : tDrop te D σ H := q
theorem b_cb {f : List V → Hp → VK → Prop} (q : tr σ H fun vs H1 => f vs H1 Q) : tCB f tr σ H Q := q
theorem b_call {sp : Sp} {dvs : List V} {E : XK} (q : tr σ H fun vs H1 => sp (vs ++ dvs) H1 Q E) : tCall sp dvs E tr σ H Q := q
theorem b_tup (q : tr σ H fun xs H1 => NewT xs H1 Q) : tTup tr σ H Q := q
theorem b_lst (q : tr σ H fun xs H1 => NewL xs H1 Q) : tLst tr σ H Q := q
theorem b_sl {f : V → Option Int → Option Int → Hp → VK → Prop} {tl th : TO} (q : te σ H fun x H1 => tl σ H1 fun l H2 => th σ H2 fun u H3 => f x l u H3 Q) : tSl f te tl th σ H Q := q
theorem b_part {QO : Option Int → Hp → Prop} (q : te σ H fun x H1 => ∃ i, x = .int i ∧ QO (some i) H1) : tPart te σ H QO := q
theorem b_partE {QO : Option Int → Hp → Prop} {i : Int} (q : QO (some i) H) : ∃ i', V.int i = .int i' ∧ QO (some i') H := ⟨i, rfl, q⟩
theorem b_nopart {QO : Option Int → Hp → Prop} (q : QO none H) : tNoPart σ H QO := q
theorem b_bm {T : String} {f : V → List V → Hp → VK → Prop} (q : te σ H fun x H1 => tyV K T x H1 ∧ tr σ H1 fun xs H2 => f x xs H2 Q) : tBM K T f te tr σ H Q := q
theorem b_m1 {f : V → List V → Hp → VK → Prop} (q : ta σ H fun x H1 => (∃ a, x = .str a) ∧ tb σ H1 fun y H2 => f x [y] H2 Q) : tM1 f ta tb σ H Q := q
theorem b_yes (q : QT true H) : tYes σ H QT := q
/-! operators -/
theorem b_I0 {f : Int → Int → V} {x y : Int} (q : Q (f x y) H) : rI0 f (.int x) (.int y) H Q := ⟨x, y, rfl, rfl, q⟩
theorem b_I {C : Int → Int → Prop} {f : Int → Int → V} {x y : Int} (c : C x y) (q : Q (f x y) H) : rI C f (.int x) (.int y) H Q := ⟨x, y, rfl, rfl, c, q⟩
theorem b_eq {x y : V} (h : scal x y = true) (q : Q (.bl (decide (x = y))) H) : rEq x y H Q := ⟨h, q⟩
theorem b_ne {x y : V} (h : scal x y = true) (q : Q (.bl (!decide (x = y))) H) : rNe x y H Q := ⟨h, q⟩
theorem b_isN {x : V} (q : Q (.bl (decide (x = .non))) H) : qIsN x .non H Q := ⟨rfl, q⟩
theorem b_notN {x : V} (q : Q (.bl (!decide (x = .non))) H) : qNotN x .non H Q := ⟨rfl, q⟩
theorem b_addS {x y : Str} (h : x.length + y.length ≤ sizeLine) (q : Q (.str (x ++ y)) H) : qAddS (.str x) (.str y) H Q := ⟨x, y, rfl, rfl, h, q⟩
theorem b_inS {c : Nat} {z : Str} (q : Q (.bl (decide (c ∈ z.cps.toList))) H) : qInS (.str ⟨#[c]⟩) (.str z) H Q := ⟨c, z, rfl, rfl, q⟩
theorem b_int {x : Int} (q : Q (.int x) H) : qInt [.int x] H Q := .inl ⟨x, rfl, q⟩
theorem b_intB {b : Bool} (q : Q (.int (if b then 1 else 0)) H) : qInt [.bl b] H Q := .inr ⟨b, rfl, q⟩
theorem b_abs {x : Int} (q : Q (.int (if x < 0 then -x else x)) H) : qAbs [.int x] H Q := ⟨x, rfl, q⟩
theorem b_max {x y : Int} (q : Q (.int (if y > x then y else x)) H) : qMax [.int x, .int y] H Q := ⟨x, y, rfl, q⟩
theorem b_min {x y : Int} (q : Q (.int (if y < x then y else x)) H) : qMin [.int x, .int y] H Q := ⟨x, y, rfl, q⟩
theorem b_lenS {x : Str} (h : x.length ≤ sizeLine) (q : Q (.int x.length) H) : qLen K [.str x] H Q := ⟨.str x, x.length, rfl, ⟨h, rfl⟩, q⟩
theorem b_lenL {p : Addr} (h : SqL K H p xs) (q : Q (.int xs.length) H) : qLen K [.ref p] H Q := ⟨.ref p, xs.length, rfl, .inl ⟨xs, h, rfl⟩, q⟩
theorem b_lenT {p : Addr} (h : SqT K H p xs) (q : Q (.int xs.length) H) : qLen K [.ref p] H Q := ⟨.ref p, xs.length, rfl, .inr ⟨xs, h, rfl⟩, q⟩
theorem b_ixL {p : Addr} {x : Int} (h : SqL K H p xs) (ha : atI xs x = some v) (q : Q v H) : rIxL K (.ref p) (.int x) H Q := ⟨p, xs, x, v, rfl, rfl, h, ha, q⟩
theorem b_ixT {p : Addr} {x : Int} (h : SqT K H p xs) (ha : atI xs x = some v) (q : Q v H) : rIxT K (.ref p) (.int x) H Q := ⟨p, xs, x, v, rfl, rfl, h, ha, q⟩
theorem b_ixSL {p : Addr} {x : Int} (h : SqL K H p xs) (ha : atI xs x = some v) (q : Q v H) : rIx K (.ref p) (.int x) H Q := .inl ⟨p, xs, x, v, rfl, rfl, h, ha, q⟩
theorem b_ixSS {z : Str} {x : Int} {c : Nat} (h : z.length ≤ sizeLine) (ha : atI z.cps.toList x = some c) (q : Q (.str ⟨#[c]⟩) H) : rIx K (.str z) (.int x) H Q := .inr (.inr ⟨z, x, c, rfl, rfl, h, ha, q⟩)
theorem b_setL {p : Addr} {x : Int} {k : Hp → Prop} (h : H p = some (.lst xs)) (hj : ixN xs.length x = some j) (q : k (upd H p (.lst (xs.set j v)))) : rSetL (.ref p) (.int x) v H k := ⟨p, xs, x, j, rfl, rfl, h, hj, q⟩
theorem b_isD {M : Addr → Prop} {x : V} {d : PyData} {T : String} (h : Dq K M H x d) (hT : T ∈ tyNames) (q : Q (.bl (isTy T d)) H) : rIsD K [x, .ty T] H Q := ⟨M, x, d, T, rfl, h, hT, q⟩
theorem e_setL {p : Addr} {x : Int} {k : Hp → Prop} (h : H p = some (.lst xs)) (hj : ixN xs.length x = some j) (q : ∀ H', H' p = some (.lst (xs.set j v)) → SameM (· = p) H H' → k H') : rSetL (.ref p) (.int x) v H k :=
  ⟨p, xs, x, j, rfl, rfl, h, hj, q _ upd_same (SameM.upd rfl)⟩
/-! new objects: the heap behind is any that keeps what was and holds the new one -/
theorem e_tup (q : ∀ p H', H p = none → H' p = some (.tup xs) → Same H H' → Q (.ref p) H') (hl : xs.length ≤ 100000 := by first | decide | simp) : NewT xs H Q :=
  ⟨Nat.le_trans hl (by decide), fun p np => q p _ np upd_same (same_upd np)⟩
theorem e_lst (q : ∀ p H', H p = none → H' p = some (.lst xs) → Same H H' → Q (.ref p) H') (hl : xs.length ≤ 100000 := by first | decide | simp) : NewL xs H Q :=
  ⟨Nat.le_trans hl (by decide), fun p np => q p _ np upd_same (same_upd np)⟩
theorem e_new {o : HO} (q : ∀ p H', H p = none → H' p = some o → Same H H' → Q (.ref p) H') : ∀ p, H p = none → Q (.ref p) (upd H p o) := fun p np => q p _ np upd_same (same_upd np)
theorem e_listL {p : Addr} (h : SqL K H p xs) (q : ∀ l H', H l = none → H' l = some (.lst xs) → Same H H' → Q (.ref l) H') : qListOf K [.ref p] H Q := ⟨p, xs, rfl, .inl h, e_new q⟩
theorem e_listT {p : Addr} (h : SqT K H p xs) (q : ∀ l H', H l = none → H' l = some (.lst xs) → Same H H' → Q (.ref l) H') : qListOf K [.ref p] H Q := ⟨p, xs, rfl, .inr h, e_new q⟩
theorem e_tupL {p : Addr} (h : SqL K H p xs) (q : ∀ l H', H l = none → H' l = some (.tup xs) → Same H H' → Q (.ref l) H') : qTupOf K [.ref p] H Q := ⟨p, xs, rfl, .inl ⟨h, e_new q⟩⟩
end

theorem nat_of_abs {i : Int} {n : Nat} (h1 : -(2 ^ n) < i) (h2 : i < 2 ^ n) : i.natAbs < 2 ^ n := by
  have h1' : -((2 ^ n : Nat) : Int) < i := by simpa using h1
  have h2' : i < ((2 ^ n : Nat) : Int) := by simpa using h2
  omega
theorem cmul {i j : Int} (h1 : -(2 ^ 1100) < i) (h2 : i < 2 ^ 1100) (h3 : -(2 ^ 1100) < j) (h4 : j < 2 ^ 1100) : CMulW i j :=
  wide_mul (nat_of_abs h1 h2) (nat_of_abs h3 h4) (by decide) (by decide) (by decide)
/-- a product's bounds -/
theorem mul_bd {i j a b : Int} (h1 : 0 ≤ i) (h2 : i ≤ a) (h3 : 0 ≤ j) (h4 : j ≤ b) : 0 ≤ i * j ∧ i * j ≤ a * b :=
  ⟨Int.mul_nonneg h1 h3, Int.mul_le_mul h2 h4 h3 (Int.le_trans h1 h2)⟩
theorem cpow {i j : Int} (b : Nat) (h0 : 0 ≤ j) (h1 : -(2 ^ b) < i) (h2 : i < 2 ^ b) (h3 : (b : Int) * j ≤ 1000000) : CPowW i j := ⟨h0, b, nat_of_abs h1 h2, h3⟩
end FG

/-! FG: loops and comprehensions by steps -/
namespace FG
open PySem PySem.Spec PyProof.Rows L2

/-- what a comprehension's turn does behind its element -/
def AppD (D : Addr) (y : V) (H : Hp) (k : Hp → Prop) : Prop := ∃ acc, H D = some (.lst acc) ∧ acc.length < sizeLine ∧ k (upd H D (.lst (acc ++ [y])))
theorem e_app {D : Addr} {y : V} {H : Hp} {k : Hp → Prop} {acc : List V} (h : H D = some (.lst acc)) (hl : acc.length < 100000) (q : ∀ H', H' D = some (.lst (acc ++ [y])) → SameM (· = D) H H' → k H') : AppD D y H k :=
  ⟨acc, h, Nat.lt_of_lt_of_le hl (by decide), q _ upd_same (SameM.upd rfl)⟩
section
variable {g : TG} {tt : TT} {te tl : TE} {ta : TA} {vs : List Nat} {σ : L2.St} {H : Hp} {Q : VK} {K : PySem.W.Frag}
/-- a turn of a comprehension at the item x -/
def Turn1 (g : TG) (tt : TT) (te : TE) (vs : List Nat) (σ : L2.St) (D : Addr) (x : V) (H : Hp) (nx : Hp → Prop) : Prop :=
  g x (wipe σ vs) H fun σ2 H2 => wipe σ2 vs = wipe σ vs ∧ tt σ2 H2 fun b H3 => if b = true then te σ2 H3 fun y H4 => AppD D y H4 nx else nx H3
def LcAny (J : It) (g : TG) (tt : TT) (te : TE) (vs : List Nat) (σ : L2.St) (H : Hp) (Q : VK) : Prop := ∀ D, H D = none → ∃ W : Nat → Nat → Hp → Prop, (∃ m, W 0 m (upd H D (.lst []))) ∧ ∀ i m H, W i m H →
  (J.stop i H ∧ Q (.ref D) H) ∨ (J.go i H ∧ ∃ Nx : Hp → Prop, (∀ H', Nx H' → ∃ m', m' < m ∧ W (i + 1) m' H') ∧ ∀ x H', J.yld i H x H' → Turn1 g tt te vs σ D x H' Nx)
/-- by an invariant over the turn's number: n turns, the items told -/
theorem lc_by {J : It} (n : Nat) (Pv : Addr → Nat → Hp → Prop) (h0 : ∀ D H', H D = none → H' D = some (.lst []) → Same H H' → Pv D 0 H')
    (hgo : ∀ D i H', H D = none → i < n → Pv D i H' → J.go i H' ∧ ∀ x H2, J.yld i H' x H2 → Turn1 g tt te vs σ D x H2 (Pv D (i + 1)))
    (hst : ∀ D H', H D = none → Pv D n H' → J.stop n H' ∧ Q (.ref D) H') : LcAny J g tt te vs σ H Q := by
  intro D nD
  refine ⟨fun i m H' => m = n - i ∧ i ≤ n ∧ Pv D i H', ⟨n, by simp, Nat.zero_le _, h0 D _ nD upd_same (same_upd nD)⟩, ?_⟩
  rintro i m H' ⟨rfl, hi, p⟩
  by_cases hlt : i < n
  · obtain ⟨h1, h2⟩ := hgo D i H' nD hlt p
    exact .inr ⟨h1, Pv D (i + 1), fun H'' p' => ⟨n - (i + 1), by omega, rfl, hlt, p'⟩, h2⟩
  · obtain rfl : i = n := by omega
    exact .inl (hst D H' nD p)
theorem b_lcS (q : tl σ H fun v H1 => ∃ x, v = .str x ∧ LcAny (Its x) g tt te vs σ H1 Q) : tLc (iStr tl) g tt te vs σ H Q := q
theorem b_lcR (q : ta σ H fun xs H1 => ∃ j : Int, xs = [.int j] ∧ -(2 ^ 62) ≤ j ∧ j < 2 ^ 62 ∧ LcAny (Itr 0 j.toNat) g tt te vs σ H1 Q) : tLc (iRng1 ta) g tt te vs σ H Q := q
theorem b_lcT (q : tl σ H fun x H1 => ∃ a, x = .ref a ∧ (∃ xs, SqT K H1 a xs) ∧ LcAny (Itt K a) g tt te vs σ H1 Q) : tLc (iTup K tl) g tt te vs σ H Q := q
theorem b_lcL (q : tl σ H fun x H1 => ∃ a, x = .ref a ∧ (∃ xs, SqL K H1 a xs) ∧ LcAny (Itl K a) g tt te vs σ H1 Q) : tLc (iList K tl) g tt te vs σ H Q := q
theorem e_lcS {x : Str} (Pv : Addr → Nat → Hp → Prop) (h0 : ∀ D H', H D = none → H' D = some (.lst []) → Same H H' → Pv D 0 H')
    (hs : ∀ D i c H', H D = none → x.cps[i]? = some c → Pv D i H' → Turn1 g tt te vs σ D (.str ⟨#[c]⟩) H' (Pv D (i + 1)))
    (hd : ∀ D H', H D = none → Pv D x.cps.size H' → Q (.ref D) H') : ∃ x', V.str x = .str x' ∧ LcAny (Its x') g tt te vs σ H Q := by
  refine ⟨x, rfl, lc_by x.cps.size Pv h0 (fun D i H' nD hi p => ⟨hi, ?_⟩) (fun D H' nD p => ⟨Nat.le_refl _, hd D H' nD p⟩)⟩
  rintro v H2 ⟨rfl, c, hc, rfl⟩
  exact hs D i c H2 nD hc p
theorem e_lcR {j : Int} (Pv : Addr → Nat → Hp → Prop) (hj : -(2 ^ 62) ≤ j) (hj2 : j < 2 ^ 62) (h0 : ∀ D H', H D = none → H' D = some (.lst []) → Same H H' → Pv D 0 H')
    (hs : ∀ D i H', H D = none → i < j.toNat → Pv D i H' → Turn1 g tt te vs σ D (.int (0 + i)) H' (Pv D (i + 1)))
    (hd : ∀ D H', H D = none → Pv D j.toNat H' → Q (.ref D) H') : ∃ j' : Int, [V.int j] = [.int j'] ∧ -(2 ^ 62) ≤ j' ∧ j' < 2 ^ 62 ∧ LcAny (Itr 0 j'.toNat) g tt te vs σ H Q := by
  refine ⟨j, rfl, hj, hj2, lc_by j.toNat Pv h0 (fun D i H' nD hi p => ⟨hi, ?_⟩) (fun D H' nD p => ⟨Nat.le_refl _, hd D H' nD p⟩)⟩
  rintro v H2 ⟨rfl, rfl⟩
  exact hs D i H2 nD hi p
theorem e_lcT {a : Addr} {xs : List V} (hS : SqT K H a xs) (Pv : Addr → Nat → Hp → Prop) (h0 : ∀ D H', H D = none → H' D = some (.lst []) → Same H H' → Pv D 0 H')
    (hl : ∀ D i H', H D = none → Pv D i H' → SqT K H' a xs)
    (hs : ∀ D i x H', H D = none → xs[i]? = some x → Pv D i H' → Turn1 g tt te vs σ D x H' (Pv D (i + 1)))
    (hd : ∀ D H', H D = none → Pv D xs.length H' → Q (.ref D) H') : ∃ a', V.ref a = .ref a' ∧ (∃ xs, SqT K H a' xs) ∧ LcAny (Itt K a') g tt te vs σ H Q := by
  refine ⟨a, rfl, ⟨xs, hS⟩, lc_by xs.length Pv h0 (fun D i H' nD hi p => ⟨⟨xs, xs[i], hl D i H' nD p, by simp [hi]⟩, ?_⟩) (fun D H' nD p => ⟨⟨xs, hl D _ H' nD p, Nat.le_refl _⟩, hd D H' nD p⟩)⟩
  rintro v H2 ⟨rfl, hv⟩
  exact hs D i v _ nD (hv xs (hl D i _ nD p)) p
theorem e_lcL {a : Addr} {xs : List V} (hS : SqL K H a xs) (Pv : Addr → Nat → Hp → Prop) (h0 : ∀ D H', H D = none → H' D = some (.lst []) → Same H H' → Pv D 0 H')
    (hl : ∀ D i H', H D = none → Pv D i H' → SqL K H' a xs)
    (hs : ∀ D i x H', H D = none → xs[i]? = some x → Pv D i H' → Turn1 g tt te vs σ D x H' (Pv D (i + 1)))
    (hd : ∀ D H', H D = none → Pv D xs.length H' → Q (.ref D) H') : ∃ a', V.ref a = .ref a' ∧ (∃ xs, SqL K H a' xs) ∧ LcAny (Itl K a') g tt te vs σ H Q := by
  refine ⟨a, rfl, ⟨xs, hS⟩, lc_by xs.length Pv h0 (fun D i H' nD hi p => ⟨⟨xs, xs[i], hl D i H' nD p, by simp [hi]⟩, ?_⟩) (fun D H' nD p => ⟨⟨xs, hl D _ H' nD p, Nat.le_refl _⟩, hd D H' nD p⟩)⟩
  rintro v H2 ⟨rfl, hv⟩
  exact hs D i v _ nD (hv xs (hl D i _ nD p)) p
theorem b_turn {x : V} {D : Addr} {nx : Hp → Prop} (q : g x (wipe σ vs) H fun σ2 H2 => wipe σ2 vs = wipe σ vs ∧ tt σ2 H2 fun b H3 => if b = true then te σ2 H3 fun y H4 => AppD D y H4 nx else nx H3) : Turn1 g tt te vs σ D x H nx := q

/-! for -/
variable {tb : TS} {D : Ends}
def ForAny (J : It) (g : TG) (tb : TS) (D : Ends) (σ : L2.St) (H : Hp) : Prop := ∃ W : Nat → Nat → L2.St → Hp → Prop, (∃ m, W 0 m σ H) ∧ ∀ i m σ H, W i m σ H →
  (J.stop i H ∧ D.nx σ H) ∨ (J.go i H ∧ ∃ N : L2.St → Hp → Prop, (∀ σ' H', N σ' H' → ∃ m', m' < m ∧ W (i + 1) m' σ' H') ∧ ∀ x H', J.yld i H x H' → g x σ H' fun σ2 H2 => tb { D with nx := N, ct := N, bk := D.nx } σ2 H2)
theorem b_forT (q : tl σ H fun x H1 => ∃ a, x = .ref a ∧ (∃ xs, SqT K H1 a xs) ∧ ForAny (Itt K a) g tb D σ H1) : tFor (iTup K tl) g tb D σ H := q
theorem b_forL (q : tl σ H fun x H1 => ∃ a, x = .ref a ∧ (∃ xs, SqL K H1 a xs) ∧ ForAny (Itl K a) g tb D σ H1) : tFor (iList K tl) g tb D σ H := q
theorem b_forR (q : ta σ H fun xs H1 => ∃ j : Int, xs = [.int j] ∧ -(2 ^ 62) ≤ j ∧ j < 2 ^ 62 ∧ ForAny (Itr 0 j.toNat) g tb D σ H1) : tFor (iRng1 ta) g tb D σ H := q
theorem e_forT {a : Addr} {xs : List V} (hS : SqT K H a xs) (Pv : Nat → L2.St → Hp → Prop) (h0 : Pv 0 σ H) (hl : ∀ i σ H, Pv i σ H → SqT K H a xs)
    (hs : ∀ i x σ H, xs[i]? = some x → Pv i σ H → g x σ H fun σ2 H2 => tb { D with nx := Pv (i + 1), ct := Pv (i + 1), bk := D.nx } σ2 H2) (hd : ∀ σ H, Pv xs.length σ H → D.nx σ H) :
    ∃ a', V.ref a = .ref a' ∧ (∃ xs, SqT K H a' xs) ∧ ForAny (Itt K a') g tb D σ H := ⟨a, rfl, ⟨xs, hS⟩, for_tup Pv h0 (fun i σ H _ p => hl i σ H p) hs hd⟩
theorem e_forL {a : Addr} {xs : List V} (hS : SqL K H a xs) (Pv : Nat → L2.St → Hp → Prop) (h0 : Pv 0 σ H) (hl : ∀ i σ H, Pv i σ H → SqL K H a xs)
    (hs : ∀ i x σ H, xs[i]? = some x → Pv i σ H → g x σ H fun σ2 H2 => tb { D with nx := Pv (i + 1), ct := Pv (i + 1), bk := D.nx } σ2 H2) (hd : ∀ σ H, Pv xs.length σ H → D.nx σ H) :
    ∃ a', V.ref a = .ref a' ∧ (∃ xs, SqL K H a' xs) ∧ ForAny (Itl K a') g tb D σ H := ⟨a, rfl, ⟨xs, hS⟩, for_list Pv h0 (fun i σ H _ p => hl i σ H p) hs hd⟩
theorem e_forR {j : Int} (Pv : Nat → L2.St → Hp → Prop) (hj : -(2 ^ 62) ≤ j) (hj2 : j < 2 ^ 62) (h0 : Pv 0 σ H)
    (hs : ∀ i σ H, i < j.toNat → Pv i σ H → g (.int (0 + i)) σ H fun σ2 H2 => tb { D with nx := Pv (i + 1), ct := Pv (i + 1), bk := D.nx } σ2 H2) (hd : ∀ σ H, Pv j.toNat σ H → D.nx σ H) :
    ∃ j' : Int, [V.int j] = [.int j'] ∧ -(2 ^ 62) ≤ j' ∧ j' < 2 ^ 62 ∧ ForAny (Itr 0 j'.toNat) g tb D σ H := ⟨j, rfl, hj, hj2, for_range Pv h0 hs hd⟩
end
/-- all([..]) of bools -/
theorem b_all {K : PySem.W.Frag} {a : Addr} {bs : List Bool} {H : Hp} {Q : VK} (h : SqL K H a (bs.map V.bl)) (q : Q (.bl (bs.all id)) H) : rAll K [.ref a] H Q := ⟨a, bs, rfl, h, q⟩
end FG

/-! FG: more steps -/
namespace FG
open PySem PySem.Spec PyProof.Rows L2
theorem iteNF {A B : Prop} (h : A) : if (!false) = true then A else B := h
theorem iteNT {A B : Prop} (h : B) : if (!true) = true then A else B := h
/-- values of two plain kinds -/
def vne : V → V → Bool
  | .int _, .non | .str _, .non | .bl _, .non | .ref _, .non => true
  | _, _ => false
theorem vne_ne : ∀ {x y : V}, vne x y = true → x ≠ y := by
  intro x y h
  unfold vne at h
  split at h <;> first | (intro z; cases z; done) | cases h
theorem iteVF {A B : Prop} {x y : V} [Decidable (x = y)] (n : vne x y = true) (h : B) : if decide (x = y) = true then A else B := by
  rw [decide_eq_false (vne_ne n)]; exact iteF h
theorem iteVT {A B : Prop} {x : V} [Decidable (x = x)] (h : A) : if decide (x = x) = true then A else B := by
  rw [decide_eq_true rfl]; exact iteT h
theorem iteNVF {A B : Prop} {x y : V} [Decidable (x = y)] (n : vne x y = true) (h : A) : if (!decide (x = y)) = true then A else B := by
  rw [decide_eq_false (vne_ne n)]; exact iteNF h
theorem iteNVT {A B : Prop} {x : V} [Decidable (x = x)] (h : B) : if (!decide (x = x)) = true then A else B := by
  rw [decide_eq_true rfl]; exact iteNT h
section
variable {σ : L2.St} {H : Hp} {Q : VK} {tr : TA} {te : TE} {D : Ends}
theorem b_callS {sp : Sp} {E : L2.St → XK} (q : tr σ H fun vs H1 => sp vs H1 Q (E σ)) : tCallS sp E tr σ H Q := q
theorem b_w {Q0 : VK} (h0 : te σ H Q0) (hm : ∀ v H', Q0 v H' → Q v H') : tW te σ H Q := ⟨Q0, h0, hm⟩
end
/-- a statement's reading, made to bear weaker ends -/
def tWS (t : TS) : TS := fun D σ H => ∃ N : L2.St → Hp → Prop, t { D with nx := N } σ H ∧ ∀ σ' H', N σ' H' → D.nx σ' H'
theorem ps_w {X : Cx} {st : Stmt} {t : TS} (hp : PS X st t) : PS X st (tWS t) := by
  refine ⟨fun pins s σ H D I h => ?_⟩
  obtain ⟨N, h0, hm⟩ := h
  refine wpAny_mono (hp.run pins s σ H { D with nx := N } I h0) ?_ (fun _ _ z => z)
  intro f s1 hsp
  cases f with
  | next =>
    obtain ⟨σ', H', J', q⟩ := hsp
    exact ⟨σ', H', J', hm _ _ q⟩
  | brk => exact hsp
  | cont => exact hsp
  | ret u => exact hsp
theorem b_ws {t : TS} {D : Ends} {σ : L2.St} {H : Hp} (N : L2.St → Hp → Prop) (h0 : t { D with nx := N } σ H) (hm : ∀ σ' H', N σ' H' → D.nx σ' H') : tWS t D σ H := ⟨N, h0, hm⟩
theorem Dq.tupE {K : PySem.W.Frag} {M : Addr → Prop} {H : Hp} {v : V} {ds : List PyData} (h : Dq K M H v (.tuple ds)) : ∃ a xs, v = .ref a ∧ SqTm K M H a xs ∧ DqAll K M H xs ds := by
  cases h with
  | tup h a => exact ⟨_, _, rfl, h, a⟩
theorem isTy_tuple {d : PyData} (h : isTy "tuple" d = true) : ∃ ds, d = .tuple ds := by
  cases d <;> simp [isTy] at h
  exact ⟨_, rfl⟩
theorem DqAll.two {K : PySem.W.Frag} {M : Addr → Prop} {H : Hp} {xs : List V} {a b : PyData} (h : DqAll K M H xs [a, b]) : ∃ x y, xs = [x, y] ∧ Dq K M H x a ∧ Dq K M H y b := by
  cases h with
  | cons h1 h2 =>
    cases h2 with
    | cons h3 h4 =>
      cases h4
      exact ⟨_, _, rfl, h1, h3⟩
end FG

/-! FG: what is small enough to be shown; new data; tuples cut and joined -/
namespace FG
open PySem PySem.Spec PyProof.Rows L2
structure Small (h n : Nat) (d : PyData) : Prop where
  ok : d.showable = true
  dp : d.depth ≤ h
  sz : d.shown.length ≤ n
  nd : d.hasDict = false
theorem Small.mono {h n h' n' : Nat} {d : PyData} (s : Small h n d) (e1 : h ≤ h') (e2 : n ≤ n') : Small h' n' d := ⟨s.ok, Nat.le_trans s.dp e1, Nat.le_trans s.sz e2, s.nd⟩
theorem Small.show {h n : Nat} {d : PyData} (s : Small h n d) (e1 : h ≤ 60) (e2 : n ≤ 16000000) : Show d :=
  ⟨s.ok, Nat.le_trans s.dp e1, Nat.le_trans s.sz (Nat.le_trans e2 (by decide)), fun z => by rw [s.nd] at z; cases z⟩
theorem Small.non {h : Nat} : Small h 4 .none := ⟨rfl, Nat.zero_le _, by decide, rfl⟩
theorem Small.bl {h : Nat} (b : Bool) : Small h 5 (.bool b) := ⟨rfl, Nat.zero_le _, by cases b <;> decide, rfl⟩
theorem Small.int {h : Nat} {i : Int} (k : Nat) (hk : 0 < k) (hk2 : k ≤ 100) (h1 : i.natAbs < 10 ^ k) : Small h (k + 1) (.int i) := by
  refine ⟨?_, Nat.zero_le _, ?_, rfl⟩
  · simp only [PyData.showable, decide_eq_true_eq]
    by_cases h0 : i.natAbs = 0
    · rw [h0]; decide
    · rw [Nat.log2_lt h0]
      refine Nat.lt_of_lt_of_le h1 (Nat.le_trans (Nat.pow_le_pow_right (by decide) hk2) ?_)
      decide +kernel
  · have e := int_text_length_le10 hk h1
    show (Str.ofString (toString i)).length ≤ _
    rw [PySem.ofString_length]; exact e
theorem Small.str {h m : Nat} {x : Str} (hx : ∀ c ∈ x.cps.toList, c < 16 ^ 8) (hl : x.length ≤ m) : Small h (10 * m + 2) (.str x) := by
  refine ⟨rfl, Nat.zero_le _, ?_, rfl⟩
  have := PySem.StrLaws.reprText_len x hx
  simp only [PyData.shown]
  omega
theorem showableAll_of : ∀ {ds : List PyData}, (∀ d ∈ ds, d.showable = true) → PyData.showableAll ds = true
  | [], _ => rfl
  | d :: ds, h => by
    simp only [PyData.showableAll, Bool.and_eq_true]
    exact ⟨h d List.mem_cons_self, showableAll_of fun e he => h e (List.mem_cons_of_mem _ he)⟩
theorem hasDictAll_of : ∀ {ds : List PyData}, (∀ d ∈ ds, d.hasDict = false) → PyData.hasDictAll ds = false
  | [], _ => rfl
  | d :: ds, h => by
    simp only [PyData.hasDictAll, Bool.or_eq_false_iff]
    exact ⟨h d List.mem_cons_self, hasDictAll_of fun e he => h e (List.mem_cons_of_mem _ he)⟩
theorem depthAll_of {k : Nat} : ∀ {ds : List PyData}, (∀ d ∈ ds, d.depth ≤ k) → PyData.depthAll ds ≤ k
  | [], _ => Nat.zero_le _
  | d :: ds, h => by
    simp only [PyData.depthAll]
    exact Nat.max_le.mpr ⟨h d List.mem_cons_self, depthAll_of fun e he => h e (List.mem_cons_of_mem _ he)⟩
/-- the lengths' sum -/
def sumLen : List PyData → Nat
  | [] => 0
  | d :: ds => d.shown.length + 2 + sumLen ds
theorem sumLen_eq : ∀ ds : List PyData, ((PyData.shownAll ds).map (·.length)).sum + 2 * ds.length = sumLen ds
  | [] => rfl
  | d :: ds => by
    have := sumLen_eq ds
    simp only [PyData.shownAll, List.map_cons, List.sum_cons, List.length_cons, sumLen]
    omega
theorem sumLen_le {n : Nat} : ∀ {ds : List PyData}, (∀ d ∈ ds, d.shown.length ≤ n) → sumLen ds ≤ ds.length * (n + 2)
  | [], _ => Nat.zero_le _
  | d :: ds, h => by
    have h1 := h d List.mem_cons_self
    have h2 := sumLen_le fun e he => h e (List.mem_cons_of_mem _ he)
    simp only [sumLen, List.length_cons, Nat.succ_mul]
    omega
theorem shown_tuple (ds : List PyData) : (PyData.shown (.tuple ds)).length ≤ sumLen ds + 3 := by
  have h2 := tupleText_len_le (PyData.shownAll ds)
  have h3 := PyData.shownAll_length ds
  have h4 := sumLen_eq ds
  simp only [PyData.shown]
  omega
theorem shown_list (ds : List PyData) : (PyData.shown (.list ds)).length ≤ sumLen ds + 3 := by
  have h2 := listText_len_le (PyData.shownAll ds)
  have h3 := PyData.shownAll_length ds
  have h4 := sumLen_eq ds
  simp only [PyData.shown]
  omega
theorem Small.tup {h n m : Nat} {ds : List PyData} (hs : ∀ d ∈ ds, Small h n d) (hl : ds.length ≤ m) : Small (h + 1) (m * (n + 2) + 3) (.tuple ds) := by
  refine ⟨?_, ?_, ?_, ?_⟩
  · simp only [PyData.showable]; exact showableAll_of fun d hd => (hs d hd).ok
  · have := depthAll_of fun d hd => (hs d hd).dp
    simp only [PyData.depth]; omega
  · have h1 := shown_tuple ds
    have h2 := sumLen_le fun d hd => (hs d hd).sz
    have h3 := Nat.mul_le_mul_right (n + 2) hl
    omega
  · simp only [PyData.hasDict]; exact hasDictAll_of fun d hd => (hs d hd).nd
theorem Small.lst {h n m : Nat} {ds : List PyData} (hs : ∀ d ∈ ds, Small h n d) (hl : ds.length ≤ m) : Small (h + 1) (m * (n + 2) + 3) (.list ds) := by
  refine ⟨?_, ?_, ?_, ?_⟩
  · simp only [PyData.showable]; exact showableAll_of fun d hd => (hs d hd).ok
  · have := depthAll_of fun d hd => (hs d hd).dp
    simp only [PyData.depth]; omega
  · have h1 := shown_list ds
    have h2 := sumLen_le fun d hd => (hs d hd).sz
    have h3 := Nat.mul_le_mul_right (n + 2) hl
    omega
  · simp only [PyData.hasDict]; exact hasDictAll_of fun d hd => (hs d hd).nd
theorem Small.tup2 {h n m : Nat} {a b : PyData} (ha : Small h n a) (hb : Small h m b) : Small (h + 1) (n + m + 7) (.tuple [a, b]) := by
  refine ⟨?_, ?_, ?_, ?_⟩
  · simp only [PyData.showable, PyData.showableAll, ha.ok, hb.ok]; rfl
  · have h1 := ha.dp
    have h2 := hb.dp
    simp only [PyData.depth, PyData.depthAll]; omega
  · have h1 := shown_tuple [a, b]
    have h2 := ha.sz
    have h3 := hb.sz
    simp only [sumLen] at h1
    omega
  · simp only [PyData.hasDict, PyData.hasDictAll, ha.nd, hb.nd]; rfl
theorem Small.lst2 {h n m : Nat} {a b : PyData} (ha : Small h n a) (hb : Small h m b) : Small (h + 1) (n + m + 7) (.list [a, b]) := by
  refine ⟨?_, ?_, ?_, ?_⟩
  · simp only [PyData.showable, PyData.showableAll, ha.ok, hb.ok]; rfl
  · have h1 := ha.dp
    have h2 := hb.dp
    simp only [PyData.depth, PyData.depthAll]; omega
  · have h1 := shown_list [a, b]
    have h2 := ha.sz
    have h3 := hb.sz
    simp only [sumLen] at h1
    omega
  · simp only [PyData.hasDict, PyData.hasDictAll, ha.nd, hb.nd]; rfl
theorem Small.tup3 {h n m l : Nat} {a b c : PyData} (ha : Small h n a) (hb : Small h m b) (hc : Small h l c) : Small (h + 1) (n + m + l + 9) (.tuple [a, b, c]) := by
  refine ⟨?_, ?_, ?_, ?_⟩
  · simp only [PyData.showable, PyData.showableAll, ha.ok, hb.ok, hc.ok]; rfl
  · have h1 := ha.dp
    have h2 := hb.dp
    have h3 := hc.dp
    simp only [PyData.depth, PyData.depthAll]; omega
  · have h1 := shown_tuple [a, b, c]
    have h2 := ha.sz
    have h3 := hb.sz
    have h4 := hc.sz
    simp only [sumLen] at h1
    omega
  · simp only [PyData.hasDict, PyData.hasDictAll, ha.nd, hb.nd, hc.nd]; rfl
theorem Small.tup1 {h n : Nat} {a : PyData} (ha : Small h n a) : Small (h + 1) (n + 5) (.tuple [a]) := by
  refine ⟨?_, ?_, ?_, ?_⟩
  · simp only [PyData.showable, PyData.showableAll, ha.ok]; rfl
  · have h1 := ha.dp
    simp only [PyData.depth, PyData.depthAll]; omega
  · have h1 := shown_tuple [a]
    have h2 := ha.sz
    simp only [sumLen] at h1
    omega
  · simp only [PyData.hasDict, PyData.hasDictAll, ha.nd]; rfl
theorem Small.item {h n : Nat} {ds : List PyData} {d : PyData} (s : Small h n (.tuple ds)) (hm : d ∈ ds) : d.depth ≤ h ∧ d.showable = true := by
  refine ⟨?_, ?_⟩
  · have h1 := s.dp
    simp only [PyData.depth] at h1
    have : ∀ {es : List PyData}, d ∈ es → d.depth ≤ PyData.depthAll es := by
      intro es
      induction es with
      | nil => intro z; cases z
      | cons e es ih =>
        intro z
        simp only [PyData.depthAll]
        rcases List.mem_cons.mp z with rfl | z
        · exact Nat.le_max_left _ _
        · exact Nat.le_trans (ih z) (Nat.le_max_right _ _)
    have := this hm
    omega
  · have h1 := s.ok
    simp only [PyData.showable] at h1
    have : ∀ {es : List PyData}, d ∈ es → PyData.showableAll es = true → d.showable = true := by
      intro es
      induction es with
      | nil => intro z; cases z
      | cons e es ih =>
        intro z k
        simp only [PyData.showableAll, Bool.and_eq_true] at k
        rcases List.mem_cons.mp z with rfl | z
        · exact k.1
        · exact ih z k.2
    exact this hm h1

/-! ### what is tracked -/
def Trk (M : Addr → Prop) (H : Hp) : Prop := ∀ a, M a → H a ≠ none
theorem Trk.same {M : Addr → Prop} {H H' : Hp} (t : Trk M H) (s : Same H H') : Trk M H' := fun a m z => by
  cases e : H a with
  | none => exact t a m e
  | some o => rw [s _ _ e] at z; cases z
theorem Trk.pot {M : Addr → Prop} {H H' : Hp} {p : Addr} {n : Nat} (t : Trk M H) (s : SameM (· = p) H H') (hp : PotAt H' p n) : Trk M H' := fun a m z => by
  by_cases e : a = p
  · subst e
    obtain ⟨_, _, _, e, _⟩ := hp
    rw [z] at e; cases e
  · cases he : H a with
    | none => exact t a m he
    | some o => rw [s _ _ e he] at z; cases z
theorem Trk.new {M : Addr → Prop} {H : Hp} {a : Addr} (t : Trk M H) (h : H a = none) : ¬ M a := fun m => t a m h
theorem Trk.put {M : Addr → Prop} {H : Hp} {f : Addr} (t : Trk M H) (h : H f ≠ none) : Trk (fun a => M a ∨ a = f) H := fun a m => by
  rcases m with m | rfl
  · exact t a m
  · exact h
theorem none_back {H H' : Hp} {p : Addr} (s : Same H H') (h : H' p = none) : H p = none := by
  cases e : H p with
  | none => rfl
  | some o => rw [s _ _ e] at h; cases h
theorem none_backM {M : Addr → Prop} {H H' : Hp} {p : Addr} (s : SameM M H H') (n : ¬ M p) (h : H' p = none) : H p = none := by
  cases e : H p with
  | none => rfl
  | some o => rw [s _ _ n e] at h; cases h
section
variable {K : PySem.W.Frag} {M : Addr → Prop} {H H' : Hp}
theorem Dq.newT {p : Addr} {xs : List V} {ds : List PyData} (n : ¬ M p) (h : H' p = some (.tup xs)) (ha : DqAll K M H' xs ds) : Dq K M H' (.ref p) (.tuple ds) := .tup (.inl ⟨n, .inl h⟩) ha
theorem Dq.newL {p : Addr} {xs : List V} {ds : List PyData} (n : ¬ M p) (h : H' p = some (.lst xs)) (ha : DqAll K M H' xs ds) : Dq K M H' (.ref p) (.list ds) := .lst (.inl ⟨n, .inl h⟩) ha
theorem Dq.same (s : Same H H') {v : V} {d : PyData} (h : Dq K M H v d) : Dq K M H' v d := h.mono (SameM.of s)
theorem DqAll.same (s : Same H H') {v : List V} {d : List PyData} (h : DqAll K M H v d) : DqAll K M H' v d := h.mono (SameM.of s)
/-- the pot alone has changed, and it is one of M -/
theorem SameM.sub {N : Addr → Prop} (s : SameM M H H') (h : ∀ a, M a → N a) : SameM N H H' := fun b o n e => s b o (fun z => n (h b z)) e
theorem Dq.pot {p : Addr} (hp : M p) (s : SameM (· = p) H H') {v : V} {d : PyData} (h : Dq K M H v d) : Dq K M H' v d := h.mono (s.sub fun a z => by rw [z]; exact hp)
theorem DqAll.pot {p : Addr} (hp : M p) (s : SameM (· = p) H H') {v : List V} {d : List PyData} (h : DqAll K M H v d) : DqAll K M H' v d := h.mono (s.sub fun a z => by rw [z]; exact hp)
/-! tuples -/
variable {Q : VK}
theorem e_catT {a b : Addr} {xs ys : List V} (t : Trk M H) (ha : SqTm K M H a xs) (hb : SqTm K M H b ys) (hl : xs.length + ys.length ≤ 100000) (q : ∀ p H', SqTm K M H' p (xs ++ ys) → Same H H' → Q (.ref p) H') : rCatA K (.ref a) (.ref b) H Q := by
  refine ⟨a, b, xs, ys, rfl, rfl, ha.t, hb.t, Nat.le_trans hl (by decide), fun e => ?_, fun e e2 => ?_, fun _ _ p np => ?_⟩
  · refine q b H ?_ (Same.refl H)
    rw [e]; exact hb
  · refine q a H ?_ (Same.refl H)
    rw [e2, List.append_nil]; exact ha
  · exact q p _ (.inl ⟨t.new np, .inl upd_same⟩) (same_upd np)
theorem e_slT {a : Addr} {xs : List V} {lo hi : Option Int} (t : Trk M H) (ha : SqTm K M H a xs) (q : ∀ p H', SqTm K M H' p (cutV xs lo hi) → Same H H' → Q (.ref p) H') : rSlA K (.ref a) lo hi H Q := by
  refine ⟨a, xs, rfl, ha.t, fun e => ?_, fun _ p np => ?_⟩
  · refine q a H ?_ (Same.refl H)
    unfold cutV
    rw [e.1, e.2, List.drop_zero, Nat.sub_zero, List.take_length]
    exact ha
  · exact q p _ (.inl ⟨t.new np, .inl upd_same⟩) (same_upd np)
theorem cut_to (xs : List V) (n : Nat) : cutV xs none (some (n : Int)) = xs.take n := by
  unfold cutV
  rw [HT.sIx_none, HT.sIx_nat, List.drop_zero, Nat.sub_zero, List.take_eq_take_iff]
  omega
theorem cut_from (xs : List V) (n : Nat) : cutV xs (some (n : Int)) none = xs.drop n := by
  unfold cutV
  rw [HT.sIx_none, HT.sIx_nat]
  by_cases h : n ≤ xs.length
  · rw [Nat.min_eq_left h, List.take_of_length_le (by rw [List.length_drop]; omega)]
  · rw [Nat.min_eq_right (by omega), List.drop_eq_nil_of_le (Nat.le_refl _), List.drop_eq_nil_of_le (by omega), List.take_nil]
theorem e_toT {a : Addr} {xs : List V} {n : Nat} (t : Trk M H) (ha : SqTm K M H a xs) (q : ∀ p H', SqTm K M H' p (xs.take n) → Same H H' → Q (.ref p) H') : rSlA K (.ref a) none (some (n : Int)) H Q :=
  e_slT t ha (by rw [cut_to]; exact q)
theorem e_fromT {a : Addr} {xs : List V} {n : Nat} (t : Trk M H) (ha : SqTm K M H a xs) (q : ∀ p H', SqTm K M H' p (xs.drop n) → Same H H' → Q (.ref p) H') : rSlA K (.ref a) (some (n : Int)) none H Q :=
  e_slT t ha (by rw [cut_from]; exact q)
theorem e_repT {a : Addr} {xs : List V} {k : Int} (ha : SqT K H a xs) (hne : xs ≠ []) (h2 : 2 ≤ k) (h3 : k ≤ 1000) (hl : xs.length ≤ 1000) (q : ∀ p H', H p = none → H' p = some (.tup (List.replicate k.toNat xs).flatten) → Same H H' → Q (.ref p) H') :
    rRepT K (.ref a) (.int k) H Q := ⟨a, k, xs, rfl, rfl, ha, hne, h2, h3, hl, e_new q⟩
theorem e_gtup2 {k : L2.St → Hp → Prop} {i j : Nat} {a : Addr} {x y : V} {σ : L2.St} (h : SqT K H a [x, y]) (q : k ((σ.set i (some x)).set j (some y)) H) : gTup K 2 (gCons (gName i) (gCons (gName j) gNil)) (.ref a) σ H k :=
  ⟨a, [x, y], rfl, h, rfl, x, [y], rfl, y, [], rfl, rfl, q⟩
theorem b_repS {x : Str} {n : Nat} {k : Int} (e : k = n) (h2 : 2 ≤ n) (h3 : n ≤ 1000) (h4 : 1 ≤ x.length) (h5 : x.length ≤ 1000) (q : Q (.str (repS x n)) H) : qRepS (.str x) (.int k) H Q := by
  subst e
  exact ⟨x, n, rfl, rfl, h2, h3, h4, h5, q⟩
theorem b_partP {Pr : Int → Prop} {i : Int} (q : Pr i) : ∃ i', V.int i = .int i' ∧ Pr i' := ⟨i, rfl, q⟩
/-! append, join -/
theorem ty_list {p : Addr} {xs : List V} (h : H p = some (.lst xs)) : tyV K "list" (.ref p) H := .inl ⟨rfl, xs, SqL.of h⟩
theorem e_append {l : Addr} {xs : List V} {y : V} (h : H l = some (.lst xs)) (hl : xs.length < 100000) (q : ∀ H', H' l = some (.lst (xs ++ [y])) → SameM (· = l) H H' → Q .non H') : rAppend (.ref l) [y] H Q :=
  ⟨l, xs, y, rfl, rfl, h, Nat.lt_of_lt_of_le hl (by decide), q _ upd_same (SameM.upd rfl)⟩
end
def qJoin (K : PySem.W.Frag) : V → List V → Hp → VK → Prop := fun x xs H Q => ∃ a p, ∃ ys : List Str, x = .str a ∧ xs = [.ref p] ∧ (SqL K H p (ys.map V.str) ∨ SqT K H p (ys.map V.str)) ∧
      (ys.map (·.length)).sum + ys.length * a.length ≤ 16777216 ∧ Q (.str (Txt.join a ys)) H
section
variable {X : Cx} {o e : Expr} {to te : TE}
theorem p_join {apos pos : Pos} (ho : PE X o to) (he : PE X e te) (hs : starEach [e] X.env = [(false, eval e X.env)] := by rfl) (hbase : attributeBase o "join" X.env (eval o X.env) = eval o X.env := by rfl) (hline : (apos.endLine == pos.line) = true := by rfl) :
    PE X (.Call (.Attribute o "join" apos) [e] [] pos) (tM1 (qJoin X.K) to te) := pe_join ho he hs hbase hline
end
theorem e_joinL {K : PySem.W.Frag} {H : Hp} {Q : VK} {a : Str} {p : Addr} {ys : List Str} (h : SqL K H p (ys.map V.str)) (hz : (ys.map (·.length)).sum + ys.length * a.length ≤ 16777216) (q : Q (.str (Txt.join a ys)) H) : qJoin K (.str a) [.ref p] H Q :=
  ⟨a, p, ys, rfl, rfl, .inl h, hz, q⟩
theorem joinL_mem {S : List Nat} {c : Nat} : ∀ {ps : List (List Nat)}, c ∈ TL.joinL S ps → c ∈ S ∨ ∃ p ∈ ps, c ∈ p
  | [], h => by simp [TL.joinL] at h
  | [p], h => .inr ⟨p, List.mem_singleton_self p, h⟩
  | p :: q :: r, h => by
    simp only [TL.joinL, List.mem_append] at h
    rcases h with h | h | h
    · exact .inr ⟨p, List.mem_cons_self, h⟩
    · exact .inl h
    · rcases joinL_mem h with h | ⟨z, hz, h⟩
      · exact .inl h
      · exact .inr ⟨z, List.mem_cons_of_mem _ hz, h⟩
theorem join_mem {y : Str} {ps : List Str} {c : Nat} (h : c ∈ (Txt.join y ps).cps.toList) : c ∈ y.cps.toList ∨ ∃ p ∈ ps, c ∈ p.cps.toList := by
  rw [TL.join_eq] at h
  have e := TL.tl_join y ps
  have h' : c ∈ TL.tl (Str.join y ps) := h
  rw [e] at h'
  rcases joinL_mem h' with h | ⟨p, hp, hc⟩
  · exact .inl h
  · obtain ⟨z, hz, rfl⟩ := List.mem_map.mp hp
    exact .inr ⟨z, hz, hc⟩
theorem ones_sum : ∀ (ys : List Str), (∀ y ∈ ys, y.length = 1) → (ys.map (·.length)).sum = ys.length
  | [], _ => rfl
  | y :: ys, h => by
    simp only [List.map_cons, List.sum_cons, List.length_cons]
    rw [h y List.mem_cons_self, ones_sum ys fun z hz => h z (List.mem_cons_of_mem _ hz)]
    omega
theorem SameM.two {p f : Addr} {H H1 H2 : Hp} (s1 : SameM (· = p) H H1) (s2 : SameM (· = f) H1 H2) (hf : H f = none) : SameM (· = p) H H2 := fun b o n e => s2 b o (fun z => by rw [z] at e; rw [hf] at e; cases e) (s1 b o n e)
end FG

/-! FG: more steps: lists joined, dicts, calls under no guard, repr, kept errors -/
namespace FG
open PySem PySem.Spec PyProof.Rows L2
section
variable {σ : L2.St} {H : Hp} {Q : VK} {K : PySem.W.Frag}
theorem e_catL {a b : Addr} {xs ys : List V} (ha : H a = some (.lst xs)) (hb : H b = some (.lst ys)) (hl : xs.length + ys.length ≤ 100000) (q : ∀ p H', H p = none → H' p = some (.lst (xs ++ ys)) → Same H H' → Q (.ref p) H') : rCat (.ref a) (.ref b) H Q :=
  ⟨a, b, xs, ys, rfl, rfl, ha, hb, Nat.le_trans hl (by decide), e_new q⟩
theorem e_dnew (q : ∀ p H', H p = none → H' p = some (.dK []) → Same H H' → Q (.ref p) H') : tDNewK σ H Q := e_new q
theorem b_repr {M : Addr → Prop} {x : V} {d : PyData} (h : Dq K M H x d) (hs : Show d) (q : Q (.str d.shown) H) : rRepr K [x] H Q := ⟨M, x, d, rfl, h, hs, q⟩
theorem b_isQ {a C d : Addr} {fs : List (Str × V)} {c : V} {u : Value} {b : Bool} (hc : ClsV c u) (ha : H a = some (exq a (.ref C) (some d))) (hd : H d = some (.xd fs)) (T : IsiC K C) (e : PySem.W.kitOne K (.ref C) u = some b) (q : Q (.bl b) H) : rIsQ K [.ref a, c] H Q :=
  ⟨a, C, d, fs, c, u, b, rfl, hc, ha, hd, T, e, q⟩
theorem b_xq {te : TE} {n : Str} (q : te σ H fun x H1 => ∃ (a C d : Addr) (fs : List (Str × V)) (v : V), x = .ref a ∧ H1 a = some (exq a (.ref C) (some d)) ∧ H1 d = some (.xd fs) ∧
  XfC K C ∧ PySem.W.findIn K (.ref C) n = some none ∧ fs.lookup n = some v ∧ Q v H1) : tXq K n te σ H Q := q
end
/-- a list that is read while a new place may change -/
theorem SqL.new {K : PySem.W.Frag} {H : Hp} {a p : Addr} {xs : List V} (np : H p = none) (h : SqL K H a xs) : SqLm K (· = p) H a xs := by
  rcases h with h | h
  · refine .inl ⟨fun z => ?_, h⟩
    rw [z] at h
    rcases h with h | ⟨o, h⟩
    · rw [np] at h; cases h
    · rw [np] at h; cases h
  · exact .inr (.inr h)
abbrev M0 : Addr → Prop := fun _ => False
theorem Dq.free {K : PySem.W.Frag} {M : Addr → Prop} {H : Hp} {v : V} {d : PyData} (h : Dq K M H v d) : Dq K M0 H v d := h.avoid fun _ z => False.elim z
section
variable {X : Cx} {CX : CXT} {k : Nat} {f : Addr} {fd : FuncData} {ps : List Str} {sp : Sp} {E : XK} {x : Str} {p pos : Pos} {ds : List Value} {dvs : List V}
theorem pe_call0G (F : FnOkG X.prog X.w X.K X.mg X.base CX k f fd ps sp) (hgu : X.A.guards = some [])
    (hr : Room k X.A) (hg : Gl X x) (hm : X.mg x = some (.ref f)) (hk : PySem.W.keepIn X.K (.ref f) = true)
    (hb : Binds X.K fd ps ds) (hd : Vals dvs ds) (hx : Passes CX X E)
    (hdb : (x == ("__debug__" : Str)) = false := by decide) :
    PE X (.Call (.Name x p) [] [] pos) (tCall sp dvs E tNil) := by
  refine ⟨fun pins s σ H Q I h => wpAny_Call_Name_kw (ld_glob I hg hm ?_ hdb)⟩
  exact PySem.W.callWith_K0 I.kIn hk (runG (us := []) F hgu hr hb hd hx I .nil h)
end
end FG

/-! FG: data made anew, with nothing to avoid -/
namespace FG
open PySem PySem.Spec PyProof.Rows L2
section
variable {H : Hp} {Q : VK} {K : PySem.W.Frag} {xs : List V} {ds : List PyData}
theorem trk0 {H : Hp} : Trk M0 H := fun _ z => False.elim z
theorem e_tupD (h : DqAll K M0 H xs ds) (q : ∀ p H', Dq K M0 H' (.ref p) (.tuple ds) → Same H H' → Q (.ref p) H') (hl : xs.length ≤ 100000 := by first | decide | simp) : NewT xs H Q :=
  e_tup (fun p H' np hp s => q p H' (Dq.newT (fun z => z) hp (h.same s)) s) hl
theorem e_lstD (h : DqAll K M0 H xs ds) (q : ∀ p H', Dq K M0 H' (.ref p) (.list ds) → H' p = some (.lst xs) → Same H H' → Q (.ref p) H') (hl : xs.length ≤ 100000 := by first | decide | simp) : NewL xs H Q :=
  e_lst (fun p H' np hp s => q p H' (Dq.newL (fun z => z) hp (h.same s)) hp s) hl
theorem e_catD {a b : V} {ds es : List PyData} (ha : Dq K M0 H a (.tuple ds)) (hb : Dq K M0 H b (.tuple es)) (hl : ds.length + es.length ≤ 100000) (q : ∀ v H', Dq K M0 H' v (.tuple (ds ++ es)) → Same H H' → Q v H') : rCatA K a b H Q := by
  obtain ⟨p, xs, rfl, hx, hxs⟩ := ha.tupE
  obtain ⟨r, ys, rfl, hy, hys⟩ := hb.tupE
  refine e_catT trk0 hx hy (by rw [hxs.length, hys.length]; exact hl) fun t H' ht s => q _ H' (.tup ht ((hxs.same s).append (hys.same s))) s
theorem dqAll_rep {v : V} {d : PyData} (h : Dq K M0 H v d) : ∀ n : Nat, DqAll K M0 H (List.replicate n [v]).flatten (List.replicate n d)
  | 0 => .nil
  | n + 1 => by
    rw [List.replicate_succ, List.replicate_succ, List.flatten_cons]
    exact .cons h (dqAll_rep h n)
theorem e_repD {a : V} {d : PyData} {k : Int} (ha : Dq K M0 H a (.tuple [d])) (h2 : 2 ≤ k) (h3 : k ≤ 1000) (q : ∀ v H', Dq K M0 H' v (.tuple (List.replicate k.toNat d)) → Same H H' → Q v H') : rRepT K a (.int k) H Q := by
  obtain ⟨p, xs, rfl, hx, hxs⟩ := ha.tupE
  cases hxs with
  | cons h1 hn =>
    cases hn
    refine e_repT hx.t (by simp) h2 h3 (by simp) fun t H' nt ht s => q _ H' (Dq.newT (fun z => z) ht (dqAll_rep (h1.same s) _)) s
end
end FG

/-! FG: the law's end, with what the top has computed -/
namespace FG
open PySem PySem.Spec PyProof.Rows L2
/-- as walkG; the promise's words speak of K, and what the head tells of the names that were computed is handed on -/
theorem walkGX {l : PySem.W.OpenLaw} {n k : Nat} {q : Program} {loose : List Str}
    {XP : (Str → Option Value) → Heap → Prop} {YP : World → Heap → Prop} {d : DefRec} {K : Params → PySem.W.Frag}
    {sp : PySem.W.Frag → Sp} {x : Str} (hn : l.most = some n) (hn2 : n ≤ sizeLine) (hdf : d.params.defaults = [])
    (hr : Room k callerA) (hY : ∀ (w : World) (h : Heap), YP w h → (K w.params).In h)
    (F : ∀ (w : World) (mg : Str → Option Value) (fa : Addr) (h : Heap), (K w.params).In h → h.Ns mainGlobals mg → XP mg h →
      mg d.name = some (.ref fa) → ∃ fd : FuncData, (∀ (s : Shared) (u : Value), BindsTo s fd ⟨[u], []⟩ [(x, u)]) ∧
        ∀ base : Heap, (K w.params).In base → base.Ns mainGlobals mg →
          FnOkG l.prog w (K w.params) mg base CX0 k fa fd [x] (sp (K w.params)))
    (hsp : ∀ (w : World) (H : Hp) (a : Addr) (ns : List Int), ns.length ≤ n → Only H →
      SqL (K w.params) H a (ns.map V.int) → sp (K w.params) [.ref a] H (fun v _ => v = .bl true) fun _ _ _ => False) :
    PySem.W.WalkO q loose XP YP l.row.toRowW d [] (fun f vs => PySem.call f vs) := by
  refine Att.attach_call hn hdf ?_
  intro w s₀ s₁ mg mb fa o pm cd doc a vs ns G Y ho hd hcd hmg hobj hints hlen hg
  have KX := hY w _ Y
  obtain ⟨fd, hb, hF⟩ := F w mg fa _ KX G.T.g G.X hmg
  exact lawG KX G.T.g G.T.b G.T.builtins G.T.nolimit hg hobj hints (Nat.le_trans hlen hn2) hr hF hb
    (fun H hO hS => hsp w H a ns hlen hO hS)
theorem loose_int {p : Program} {lv : List (Str × PySem.W.WData)} {mg : Str → Option Value} {h : Heap} {x : Str} {i : Int} (X : PySem.W.XL p lv mg h) (hm : (x, PySem.W.WData.int i) ∈ lv) : ∃ t, mg x = some (.int i t) := by
  obtain ⟨v, a, b⟩ := X.2.val _ hm
  cases b
  exact ⟨_, a⟩
end FG

/-! FG: enumerate(tuple), zip of tuples; equality and membership of data -/
namespace FG
open PySem PySem.Spec PyProof.Rows L2
open AutoSeq1 (wpAny_loadPart')
theorem meets_enumT (l : Addr) (items : Array Value) (n : Nat) (dct : Option Addr) (sl : Array (Option Value)) :
    Meets (Builtin.«enumerate.__new__» ⟨[.type "enumerate", .ref l], []⟩) (fun _ R s => s.heap.get? l = some { cls := .type "tuple", dict := dct, data := .seq items n, slots := sl } ∧
      R (.ok (.ret (.ref (s.heap.push { cls := .type "tuple_iterator", data := .fields #[.ref l, .int 0 0] }).objs.size)))
        { s with heap := (s.heap.push { cls := .type "tuple_iterator", data := .fields #[.ref l, .int 0 0] }).push { cls := .type "enumerate", data := .fields #[.none, .bool false, .ref s.heap.objs.size, rawInt 0, .none, .none] } }) :=
  .of_wp fun prog w A R s h => by
    obtain ⟨hp, g, d, tk, os⟩ := s
    obtain ⟨hl, h⟩ := h
    have hsub := sub_enumerate
    have hL : Heap.IsTuple (Shared.heap ⟨hp, g, d, tk, os⟩) l items := ⟨_, hl, rfl, n, rfl⟩
    wp_walk using wpAny_loadPart' hl
    refine wpAny_stack_any fun st => wpAny_pure ?_
    split
    · rename_i c _ _ _ _ _
      cases (c == Value.type "enumerate")
      · wp_walk using wpAny_loadPart' hl, wpAny_pyIter_tuple hL
        exact ⟨_, rfl, h⟩
      · wp_walk using wpAny_loadPart' hl, wpAny_pyIter_tuple hL
        exact ⟨_, rfl, h⟩
    · wp_walk using wpAny_loadPart' hl, wpAny_pyIter_tuple hL
      exact ⟨_, rfl, h⟩
section
variable {prog : Program} {w : World} {A : Around} {E : Value → Shared → Prop} {s : Shared}
theorem call_enumT {l : Addr} {items : Array Value} {Q : Value → Shared → Prop} (hL : s.heap.IsTuple l items)
    (h : ∀ h', IsEnum h' (s.heap.objs.size + 1) s.heap.objs.size 0 .none → h'.IsTupleIter s.heap.objs.size l 0 → h'.objs.size = s.heap.objs.size + 2 →
      (∀ b o, s.heap.get? b = some o → h'.get? b = some o) → Q (.ref (s.heap.objs.size + 1)) { s with heap := h' }) :
    wpAny (model prog w) A (call (.type "enumerate") [.ref l]) Q E s := by
  obtain ⟨⟨c, dct, dt, sl⟩, hl, hc, n, hd⟩ := hL
  replace hc : c = .type "tuple" := hc
  replace hd : dt = .seq items n := hd
  subst hc hd
  refine callType_new F.called_enumerate (by decide) (F.typeCall_enumerate_1 _) (F.newCall_enumerate_1 _) (fun obj => F.args_object_init_2 obj _) F.entry_enumerate_new (meets_enumT l items n dct sl) ⟨hl, ?_⟩
  generalize ho : ({ cls := .type "tuple_iterator", data := .fields #[.ref l, .int 0 0] } : Obj) = o1
  have hz : (s.heap.push o1).objs.size = s.heap.objs.size + 1 := Heap.size_push ..
  show _ ∧ _
  rw [hz]
  have he : IsEnum ((s.heap.push o1).push { cls := .type "enumerate", data := .fields #[.none, .bool false, .ref s.heap.objs.size, rawInt 0, .none, .none] }) (s.heap.objs.size + 1) s.heap.objs.size 0 .none := by
    have := Heap.get?_push_size (s.heap.push o1) (o := { cls := .type "enumerate", data := .fields #[.none, .bool false, .ref s.heap.objs.size, rawInt 0, .none, .none] }) rfl
    rw [hz] at this
    exact this
  subst ho
  exact ⟨⟨_, he, rfl⟩, h _ he ⟨_, Heap.get?_push_of_some _ (Heap.get?_push_size _ rfl), rfl, rfl⟩ (by rw [Heap.size_push, hz]) fun b o x => Heap.get?_push_of_some _ (Heap.get?_push_of_some _ x)⟩
end
/-- the tuple at a, each item in a new pair -/
def IteT (K : PySem.W.Frag) (a : Addr) : It :=
  ⟨fun i H => ∃ (xs : List V) (x : V), SqT K H a xs ∧ xs[i]? = some x, fun i H v H' => ∃ T x, v = .ref T ∧ H T = none ∧ H' = upd H T (.tup [.int (i : Nat), x]) ∧ ∀ xs, SqT K H a xs → xs[i]? = some x, fun i H => ∃ xs : List V, SqT K H a xs ∧ xs.length ≤ i⟩
theorem tup_ne_iter {h : Heap} {a it : Addr} {items : Array Value} {i : Nat} (hT : h.IsTuple a items) (hI : h.IsTupleIter it a i) : a ≠ it := by
  rintro rfl
  obtain ⟨o, e, _, n, d⟩ := hT
  obtain ⟨o2, e2, _, d2⟩ := hI
  rw [e] at e2
  cases e2
  rw [d] at d2
  cases d2
theorem turn_enumT {P : Program} {w : World} {K : PySem.W.Frag} {elts : List Expr} {kk : Nat} {tpos : Pos} (a e it : Addr) :
    Turn P w K (.Tuple elts kk tpos) (IteT K a) [e, it] e (fun i h => (∃ old, IsEnum h e it ((i : Nat) : Int) old) ∧ h.IsTupleIter it a i ∧ e ≠ it) where
  mem := by simp
  obj := fun i h st b hb => by
    obtain ⟨⟨old, he⟩, ⟨o, ho, hc, hd⟩, _⟩ := st
    have e' : b = e ∨ b = it := by simpa using hb
    rcases e' with z | z
    · rw [z]; exact ⟨_, he, fun v q => nomatch q⟩
    · rw [z]; exact ⟨o, ho, fun v q => by rw [hd] at q; cases q⟩
  keep := fun i h h' st k => let ⟨⟨old, he⟩, hi, hne⟩ := st; ⟨⟨old, k e (by simp) _ he⟩, hi.at fun o q => k it (by simp) o q, hne⟩
  item := by
    intro X hP hw hK hc i pins s σ H E I hf st hg
    subst hP hw hK
    obtain ⟨⟨old, he⟩, hit, hne⟩ := st
    obtain ⟨xs, x, hq, hx⟩ := hg
    obtain ⟨its, rv, p, hz⟩ := I.tuple hq
    obtain ⟨u, hu, ru⟩ := rv.get hx
    have hel : e < s.heap.objs.size := Heap.lt_size he
    have hil : it < s.heap.objs.size := by obtain ⟨_, q, _⟩ := hit; exact Heap.lt_size q
    have nai := tup_ne_iter p hit
    have nae : e ≠ a := by
      rintro rfl
      obtain ⟨o, e1, _, n, d⟩ := p
      have e2 : s.heap.get? e = some _ := he
      rw [e1] at e2
      cases e2
      cases d
    have hlt : i < its.toArray.size := by
      have := (List.getElem?_eq_some_iff.mp hu).1
      simpa using this
    refine wpAny_pyNext_enum_itemD (Draws.tuple (A := X.A.in1) (show X.A.in1.handled = none from I.ok.hd hc) it a nai its.toArray) he ⟨hit, p⟩ hlt hne (by simp [hne, nae]) fun x2 h' tk hP ho hit' hT hsz hk => ?_
    obtain rfl : x2 = u := by
      have h1 : its.toArray[i]? = some x2 := hP
      have h2 : its.toArray[i]? = some u := by simpa using hu
      rw [h1] at h2
      exact Option.some.inj h2
    refine ⟨_, rfl, wpAny_letOwnedTupleGo_enum (s := { s with heap := h', toks := tk + 1 }) ho fun h'' he' sb => ?_⟩
    have hT2 : h''.get? s.heap.objs.size = some { cls := .type "tuple", data := .seq #[.int i tk, x2] } := (sb.2 _ (Nat.ne_of_gt hel)).trans hT
    have new : ObjOk X.prog X.w (upd H s.heap.objs.size (.tup [.int (i : Nat), x])) h'' s.heap.objs.size (.tup [.int (i : Nat), x]) :=
      ⟨by show 2 ≤ sizeLine; decide, [.int i tk, x2], .cons ⟨_, rfl⟩ (.cons ru .nil), ⟨_, hT2, rfl, _, rfl⟩⟩
    have I1 : Inv X pins σ (upd H s.heap.objs.size (.tup [.int (i : Nat), x])) { s with heap := h'', toks := tk + 1 } :=
      I.turnedNew (ch := [e, it]) (fun b ob nb q => (sb.2 b (fun z => nb (by rw [z]; simp))).trans (hk b ob (fun z => nb (by rw [z]; simp)) (fun z => nb (by rw [z]; simp)) q)) hf (Nat.le_refl _) new
    refine ⟨.ref s.heap.objs.size, _, I1, rfl, ⟨_, x, rfl, I.hok.fresh (Nat.le_refl _), rfl, fun ys hy => ?_⟩, ⟨⟨x2, ?_⟩, hit'.1.at fun o q => (sb.2 it (Ne.symm hne)).trans q, hne⟩, fun b hb => ?_⟩
    · rw [I.tuple_inj hy hq]
      exact hx
    · have e1 : ((i + 1 : Nat) : Int) = (i : Int) + 1 := by omega
      rw [e1]
      exact he'
    · have hlt2 : b < s.heap.objs.size := by
        have e2 : b = e ∨ b = it := by simpa using hb
        rcases e2 with z | z
        · rw [z]
          exact hel
        · rw [z]
          exact hil
      rw [upd_ne (Nat.ne_of_lt hlt2)]
      exact (hf b hb).1
  done := by
    intro X hP hw hK hc i pins s σ H E I hf st hg
    subst hP hw hK
    obtain ⟨⟨was, hEn⟩, hIt, _⟩ := st
    obtain ⟨xs, hq, hx⟩ := hg
    obtain ⟨its, rv, p, _⟩ := I.tuple hq
    obtain ⟨f0, f1, f2, f3, f4, f5⟩ := hf it (by simp)
    have hno : its.toArray[i]? = none := by
      have := rv.length
      simp
      omega
    have Dn : Draws X.prog X.w X.A.in1 it [it, a] 0 (fun _ _ => False) (fun _ h => h.IsTupleIter it a i ∧ h.IsTuple a its.toArray) :=
      { live := fun _ _ st => ⟨_, st.1.choose_spec.1⟩
        frame := fun _ _ _ st k => ⟨st.1.at fun o e => k it (by simp) o e, st.2.at fun o e => k a (by simp) o e⟩
        item := fun j _ _ _ hj => absurd hj (Nat.not_lt_zero _)
        done := fun s Q E st hE => wpAny_nextOf_tuple_end (show X.A.in1.handled = none from I.ok.hd hc) st.1 st.2 hno hE }
    exact wpAny_pyNext_enum_endD Dn hEn ⟨hIt, p⟩ fun h' eb => ⟨rfl, I.turned (t' := s.toks) (fun b o nb q => eb b o nb q) f0 f1 f3 f4 f5⟩
  self := fun A i s Q E st h => wpAny_pyIter_enum st.1.choose_spec h
def iEnumT (K : PySem.W.Frag) (ta : TA) : TI := fun σ H R => ta σ H fun vs H1 => ∃ a xs, vs = [.ref a] ∧ SqT K H1 a xs ∧ R (IteT K a) H1
/-- for x, y in enumerate(t), t a tuple -/
theorem pi_enumT {X : Cx} {e : Expr} {ta : TA} {p pos tpos : Pos} {elts : List Expr} {kk : Nat} (hg : Gl X "enumerate") (hm : X.mg "enumerate" = none) (ha : PA X [e] ta) (hs : starEach [e] X.env = [(false, eval e X.env)] := by rfl) :
    PI X (.Tuple elts kk tpos) (.Call (.Name "enumerate" p) [e] [] pos) (iEnumT X.K ta) := by
  refine ⟨fun pins s σ H R I h => ?_⟩
  refine Call_ (ld_blt I hg hm boot_enumerate (PyProof.Rows.callWith_type1 (thn (ha.run pos pins s σ H _ I h) ?_) hs rfl))
  rintro us s1 ⟨vs, H1, I1, r1, a, xs, rfl, hq, q⟩
  obtain ⟨u, rfl, ru⟩ := r1.one
  cases ru
  obtain ⟨its, rv, p', _⟩ := I1.tuple hq
  refine call_enumT p' fun h' hEn hIt hsz hk => wpAny_pyIter_enum hEn ?_
  have I2 : Inv X pins σ H1 { s1 with heap := h' } := I1.kept (t' := s1.toks) hk
  refine ⟨s1.heap.objs.size + 1, [s1.heap.objs.size + 1, s1.heap.objs.size], _, _, H1, rfl, I2, turn_enumT a (s1.heap.objs.size + 1) s1.heap.objs.size, ⟨⟨.none, hEn⟩, hIt, Nat.succ_ne_self _⟩, fun b hb => ?_, q⟩
  have hle : s1.heap.objs.size ≤ b := by
    have e2 : b = s1.heap.objs.size + 1 ∨ b = s1.heap.objs.size := by simpa using hb
    rcases e2 with z | z
    · rw [z]
      exact Nat.le_add_right _ _
    · rw [z]
      exact Nat.le_refl _
  exact I1.fpOk hle (I1.hok.fresh hle)
section
variable {X : Cx}
/-! equality, membership -/
def rEqQ (K : PySem.W.Frag) : R2 := fun x y H Q => ∃ (M N : Addr → Prop) (d e : PyData), Dq K M H x d ∧ Dq K N H y e ∧ SeqAt.shaped d = true ∧ SeqAt.shaped e = true ∧ Q (.bl (PyData.eqv d e)) H
def rNeQ (K : PySem.W.Frag) : R2 := fun x y H Q => ∃ (M N : Addr → Prop) (d e : PyData), Dq K M H x d ∧ Dq K N H y e ∧ SeqAt.shaped d = true ∧ SeqAt.shaped e = true ∧ Q (.bl (!PyData.eqv d e)) H
theorem op_eqQ (hu : X.A.units + 64 < cLine) : OpR X (compareOp .Eq) (rEqQ X.K) := by
  intro pins s σ H x y v u Q I rx ry h
  obtain ⟨M, N, d, e, hd, he, sd, se, q⟩ := h
  obtain ⟨as, r1, _⟩ := hd.reads I _ rx
  obtain ⟨bs, r2, _⟩ := he.reads I _ ry
  exact SeqAt.compareEq_shaped r1 r2 sd se hu ⟨.bl _, H, I, rfl, q⟩
theorem op_neQ (hu : X.A.units + 64 < cLine) : OpR X (compareOp .NotEq) (rNeQ X.K) := by
  intro pins s σ H x y v u Q I rx ry h
  obtain ⟨M, N, d, e, hd, he, sd, se, q⟩ := h
  obtain ⟨as, r1, _⟩ := hd.reads I _ rx
  obtain ⟨bs, r2, _⟩ := he.reads I _ ry
  exact SeqAt.compareNe_shaped r1 r2 sd se hu ⟨.bl _, H, I, rfl, q⟩
/-- d in (..), data of any kind -/
def rInQ (K : PySem.W.Frag) : R2 := fun x y H Q => ∃ (M N : Addr → Prop) (d : PyData) (es : List PyData), Dq K M H x d ∧ Dq K N H y (.tuple es) ∧ SeqAt.shaped d = true ∧ SeqAt.shaped (.tuple es) = true ∧ Q (.bl (es.any fun z => PyData.eqv z d)) H
def rNotInQ (K : PySem.W.Frag) : R2 := fun x y H Q => ∃ (M N : Addr → Prop) (d : PyData) (es : List PyData), Dq K M H x d ∧ Dq K N H y (.tuple es) ∧ SeqAt.shaped d = true ∧ SeqAt.shaped (.tuple es) = true ∧ Q (.bl (!es.any fun z => PyData.eqv z d)) H
theorem op_inQ (hu : X.A.units + 65 < cLine) : OpR X (compareOp .In) (rInQ X.K) := by
  intro pins s σ H x y v u Q I rx ry h
  obtain ⟨M, N, d, es, hd, he, sd, se, q⟩ := h
  obtain ⟨as, r1, _⟩ := hd.reads I _ rx
  obtain ⟨bs, r2, _⟩ := he.reads I _ ry
  have hle := SeqAt.depth_of_shaped sd
  exact SeqAt.in_tuple_reads r2 r1 (SeqAt.canLay_of_shaped se) (SeqAt.canLay_of_shaped sd) (by omega) ⟨.bl _, H, I, rfl, q⟩
theorem op_notInQ (hu : X.A.units + 65 < cLine) : OpR X (compareOp .NotIn) (rNotInQ X.K) := by
  intro pins s σ H x y v u Q I rx ry h
  obtain ⟨M, N, d, es, hd, he, sd, se, q⟩ := h
  obtain ⟨as, r1, _⟩ := hd.reads I _ rx
  obtain ⟨bs, r2, _⟩ := he.reads I _ ry
  have hle := SeqAt.depth_of_shaped sd
  exact SeqAt.notIn_tuple_reads r2 r1 (SeqAt.canLay_of_shaped se) (SeqAt.canLay_of_shaped sd) (by omega) ⟨.bl _, H, I, rfl, q⟩
end
end FG

/-! FG: t[::-1], t a tuple -/
namespace FG
open PySem PySem.Spec PyProof.Rows L2
section
variable {prog : Program} {w : World} {A : Around} {E : Value → Shared → Prop} {s : Shared}
theorem applied_rev {sl : Addr} {vs : Value} {n : Nat} {Q : Int × Int × Nat → Shared → Prop} (hs : s.heap.IsSliceOf sl .none .none vs) (ps : IsPart vs (some (-1)))
    (h : Q ((n : Int) - 1, -1, n) s) : wpAny (model prog w) A (Builtin.Slice.sliceApplied (.ref sl) (pure (n : Int))) Q E s := by
  obtain ⟨os, e1, e2, e3⟩ := id hs
  unfold Builtin.Slice.sliceApplied Builtin.Slice.sliceFields
  refine wpAny_bind (wpAny_bind (wpAny_field e1 e3 (x := .none) rfl ?_))
  refine wpAny_bind (wpAny_field e1 e3 (x := .none) rfl ?_)
  refine wpAny_bind (wpAny_field e1 e3 (x := vs) rfl (wpAny_pure ?_))
  refine wpAny_bind (HT.slicePart_ ps ?_)
  show wpAny _ _ (if ((-1 : Int) == 0) = true then _ else _) _ _ s
  rw [if_neg (by decide)]
  refine wpAny_bind (HT.slicePart_ .none ?_)
  refine wpAny_bind (HT.slicePart_ .none ?_)
  refine wpAny_bind (wpAny_pure ?_)
  have e4 : Builtin.Slice.sliceAdjust none none (-1) (n : Int) = ((n : Int) - 1, -1) := by
    unfold Builtin.Slice.sliceAdjust
    rfl
  show wpAny _ _ (match Builtin.Slice.sliceAdjust none none (-1) (n : Int) with | (lo, hi) => pure (lo, (-1 : Int), Builtin.Slice.slicePlaces lo hi (-1))) _ _ s
  rw [e4]
  have e5 : Builtin.Slice.slicePlaces ((n : Int) - 1) (-1) (-1) = n := by
    unfold Builtin.Slice.slicePlaces
    simp only [show ¬ ((-1 : Int) > 0) by decide, if_false]
    by_cases z : (n : Int) - 1 > -1
    · simp only [z, if_true]
      rw [show (- -1 : Int) = 1 by decide, Int.ediv_one]
      omega
    · simp only [z, if_false]
      omega
  show wpAny _ _ (pure ((n : Int) - 1, (-1 : Int), Builtin.Slice.slicePlaces ((n : Int) - 1) (-1) (-1))) _ _ s
  rw [e5]
  exact wpAny_pure h
theorem fm_congr {α β : Type} {f g : α → Option β} : ∀ l : List α, (∀ x ∈ l, f x = g x) → l.filterMap f = l.filterMap g
  | [], _ => rfl
  | x :: l, h => by
    rw [List.filterMap_cons, List.filterMap_cons, h x List.mem_cons_self, fm_congr l fun y hy => h y (List.mem_cons_of_mem _ hy)]
theorem pick_rev (xs : Array Value) : ((List.range xs.size).filterMap fun (m : Nat) => xs[(((xs.size : Int) - 1) + (m : Int) * (-1)).toNat]?).toArray = xs.toList.reverse.toArray := by
  have e : (List.range xs.size).filterMap (fun (m : Nat) => xs[(((xs.size : Int) - 1) + (m : Int) * (-1)).toNat]?) = ((List.range xs.size).map fun k => xs.size - 1 - k).filterMap (xs[·]?) := by
    rw [List.filterMap_map]
    refine fm_congr _ fun m hm => ?_
    have := List.mem_range.mp hm
    show xs[(((xs.size : Int) - 1) + (m : Int) * (-1)).toNat]? = xs[xs.size - 1 - m]?
    have e : (((xs.size : Int) - 1) + (m : Int) * (-1)).toNat = xs.size - 1 - m := by omega
    rw [e]
  rw [e, PySem.W.krv_range, List.filterMap_reverse, PySem.W.krv_all]
theorem getItem_tuple_rev {t sl : Addr} {items : Array Value} {vs : Value} {Q : Value → Shared → Prop} (ht : IsTup s.heap t items) (hs : s.heap.IsSliceOf sl .none .none vs) (ps : IsPart vs (some (-1)))
    (h : Q (.ref s.heap.objs.size) { s with heap := s.heap.push { cls := .type "tuple", data := .seq items.toList.reverse.toArray } })
    (hsz : items.size ≤ sizeLine) : wpAny (model prog w) A (getItem (.ref t) (.ref sl)) Q E s := by
  have hok : sizeOk (.seq items.toList.reverse.toArray) := by
    show items.toList.reverse.toArray.size ≤ sizeLine
    simpa using hsz
  obtain ⟨os, e1, e2, e3⟩ := id hs
  have hTs : s.TypeIs (.ref sl) "slice" := ⟨os, e1, e2⟩
  unfold getItem
  try with_reducible refine wpAny_holding ?_
  first | refine wpAny_bind (wpAny_pure ?_) | skip
  refine wpAny_bind (wpAny_sequenceKey ht.typeIs (by decide) ?_)
  refine wpAny_bind (wpAny_callSpecial?_slot (name := Str.ofString "__getitem__") ht.typeIs PyProof.Rows.slot_tuple_getitem (wpAny_call_entry PyProof.Rows.slot_tuple_getitem ht.typeIs entry_tuple_getitem ?_ (args_tuple_getitem _ _)))
  show wpAny _ _ (Builtin.Tuple.tupleItemsOf (.ref t) >>= _) _ _ s
  refine wpAny_bind (tupleItemsOf_ ht ?_)
  refine wpAny_bind (wpAny_typeOf hTs ?_)
  rw [if_pos (by decide)]
  refine wpAny_bind (applied_rev hs ps ?_)
  show wpAny _ _ (if (((items.size : Int) - 1) == 0 && (-1 : Int) == 1 && items.size == items.size) = true then _ else _) _ _ s
  rw [if_neg (by rw [show ((-1 : Int) == 1) = false from rfl, Bool.and_false, Bool.false_and]; exact Bool.false_ne_true), pick_rev]
  first
    | exact wpAny_bind (m := Builtin.Tuple.tupleExact _) (wpAny_newObj_type (wpAny_pure ⟨_, rfl, wpAny_pure h⟩) hok)
    | exact wpAny_bind (m := Builtin.Tuple.tupleExact _) (wpAny_newObj_type (wpAny_bind (wpAny_pure (wpAny_pure ⟨_, rfl, wpAny_pure h⟩))) hok)
    | exact wpAny_bind (wpAny_bind (m := Builtin.Tuple.tupleExact _) (wpAny_newObj_type (wpAny_pure (wpAny_pure ⟨_, rfl, wpAny_pure h⟩)) hok))
    | exact wpAny_bind (wpAny_bind (m := Builtin.Tuple.tupleExact _) (wpAny_newObj_type (wpAny_pure ⟨_, rfl, wpAny_pure h⟩) hok))
end
section
variable {X : Cx}
def tRevT (K : PySem.W.Frag) (te : TE) : TE := fun σ H Q => te σ H fun x H1 => ∃ a xs, x = .ref a ∧ SqT K H1 a xs ∧ ∀ p, H1 p = none → Q (.ref p) (upd H1 p (.tup xs.reverse))
theorem pe_revT {e : Expr} {te : TE} {k : Nat} {p1 p2 p3 pos : Pos} (he : PE X e te) : PE X (.Subscript e (.Slice none none (some (.UnaryOp .USub (.Constant (.int 1) k p1) p2)) p3) pos) (tRevT X.K te) := by
  refine ⟨fun pins s σ H Q I h => ?_⟩
  refine Subscript_ (thn (he.run pins s σ H _ I h) ?_)
  rintro v s1 ⟨x, H1, I1, r1, a, xs, rfl, hx, q⟩
  cases r1
  have hst : PO X (some (.UnaryOp .USub (.Constant (.int 1) k p1) p2)) (tPart (tUn (rU fun i => .int (-i)) (tC (.int 1)))) := po_some (pe_un un_neg pe_int)
  refine wpAny_Slice ?_
  rw [evalPart_none]
  refine wpAny_pure ?_
  refine wpAny_pure ?_
  refine thn (hst.run pins s1 σ H1 (fun o H4 => o = some (-1) ∧ H4 = H1) I1 ⟨1, rfl, -1, rfl, rfl, rfl⟩) ?_
  rintro vs s4 ⟨o, H4, I4, ps, rfl, rfl⟩
  have I5 : Inv X pins σ H4 { s4 with heap := s4.heap.push { cls := .type "slice", data := .fields #[.none, .none, vs] } } := I4.kept (t' := s4.toks) fun b ob z => Heap.get?_push_of_some _ z
  obtain ⟨its, r, ht, hz⟩ := I5.tuple hx
  have hlen := r.length
  refine tail_any (ops := [.ref a, .ref s4.heap.objs.size]) ht.typeIs (PyProof.Rows.slot_tuple_getitem.lookup) ?_ (by with_unfolding_all rfl)
  refine getItem_tuple_rev ht (Heap.IsSliceOf.new _ .none .none vs) ps ?_ (by rw [List.size_toArray]; omega)
  refine ⟨.ref _, _, I5.laid (t' := s4.toks) (o := .tup xs.reverse) (fun b ob z => Heap.get?_push_of_some _ z) (Nat.le_refl _) ?_, rfl, q _ (I5.hok.fresh (Nat.le_refl _))⟩
  exact ⟨by rw [List.length_reverse]; exact hz, _, r.reverse, ⟨_, Heap.get?_push_size _ rfl, rfl, 0, rfl⟩⟩
end
theorem units65 {k : Nat} {A : Around} (r : Room k A) : A.units + 65 < cLine := by
  have := r.un
  omega
end FG

/-! FG: objects, keywords, by steps -/
namespace FG
open PySem PySem.Spec PyProof.Rows L2
section
variable {X : Cx} {CX : CXT} {k : Nat} {f : Addr} {fd : FuncData} {ps ks : List Str} {sp : Sp} {E : XK} {x : Str} {p pos : Pos} {g : List Value → List Value → List Value} {gV : List V → List V → List V} {kws : List Keyword} {tk : TA}
/-- f(k = v, ..) -/
theorem pe_callK0 (F : FnOk X.prog X.w X.K X.mg X.base CX k f fd ps sp) (hr : Room k X.A) (hg : Gl X x) (hm : X.mg x = some (.ref f)) (hk : PySem.W.keepIn X.K (.ref f) = true) (hb : KBinds X.K fd ps ks g gV) (hx : Passes CX X E) (hkw : PK X kws tk)
    (hall : (backToKw pos (keywordEach kws X.env)).all (·.1.isSome) = true := by rfl) (hks : (backToKw pos (keywordEach kws X.env)).filterMap (·.1) = ks := by rfl) (hdb : (x == ("__debug__" : Str)) = false := by decide)
    (hpl : ((backTo pos (starEach [] X.env)).any (·.1) || (backToKw pos (keywordEach kws X.env)).any (·.1.isNone)) = false := by rfl) :
    PE X (.Call (.Name x p) [] kws pos) (tCallK sp gV E tNil tk) := by
  refine ⟨fun pins s σ H Q I h => wpAny_Call_Name_kw (ld_glob I hg hm ?_ hdb)⟩
  refine PySem.W.callWith_KW0 (h₀ := X.base) I.ok.mod.kin hk hall (thn (hkw.run pos pins s σ H _ I h) ?_) hpl
  rintro ws s2 ⟨zs, H2, I2, rz, q2⟩
  refine ⟨I2.kIn, ?_⟩
  rw [hks]
  exact run_fnk (us := []) (vs := []) F hr hb hx I2 .nil rz q2
end
/-! ### rules that say K: inside a comprehension the context's own K must not show -/
section
variable {X : Cx} {K : PySem.W.Frag}
theorem opK {o : Value → Value → Sem Value} {r : PySem.W.Frag → R2} (hK : X.K = K) (h : OpR X o (r X.K)) : OpR X o (r K) := hK ▸ h
theorem callK {f : Value} {r : PySem.W.Frag → List V → Hp → VK → Prop} (hK : X.K = K) (h : CallR X f (r X.K)) : CallR X f (r K) := hK ▸ h
theorem ixK {r : PySem.W.Frag → R2} (hK : X.K = K) (h : IxR X (r X.K)) : IxR X (r K) := hK ▸ h
theorem slK {r : PySem.W.Frag → V → Option Int → Option Int → Hp → VK → Prop} (hK : X.K = K) (h : SlR X (r X.K)) : SlR X (r K) := hK ▸ h
theorem pe_fldK {e : Expr} {f : Str} {pos : Pos} {ta : TE} (hK : X.K = K) (he : PE X e ta) (hb : attributeBase e f X.env (eval e X.env) = eval e X.env) : PE X (.Attribute e f pos) (tFld K ta f) := hK ▸ pe_fld he hb
theorem pi_tupK {tg l : Expr} {tl : TE} (hK : X.K = K) (hl : PE X l tl) : PI X tg l (iTup K tl) := hK ▸ pi_tup hl
theorem pi_listK {tg l : Expr} {tl : TE} (hK : X.K = K) (hl : PE X l tl) : PI X tg l (iList K tl) := hK ▸ pi_list hl
end
/-! ### readings of fields, by name -/
def FldAt (K : PySem.W.Frag) (f : Str) (x : V) (H : Hp) (Q : VK) : Prop := ∃ a C dx fs v, x = .ref a ∧ H a = some (.ins C dx fs) ∧ Cls K C ∧ NoAttr K C f ∧ fs.lookup f = some v ∧ Q v H
def SetAt (K : PySem.W.Frag) (f : Str) (x y : V) (H : Hp) (k : Hp → Prop) : Prop := ∃ a C dx fs, x = .ref a ∧ H a = some (.ins C dx fs) ∧ Cls K C ∧ NoAttr K C f ∧ fs.length < 1000 ∧ k (upd H a (.ins C dx (putF f y fs)))
def MethAt (C : Addr) (m : Str) (x : V) (H : Hp) (q : Prop) : Prop := ∃ a dx fs, x = .ref a ∧ H a = some (.ins C dx fs) ∧ fs.lookup m = none ∧ q
def MakeAt (C : Addr) (sp : Sp) (vs : List V) (E : XK) (Q : VK) (H : Hp) : Prop := ∀ x dx, H x = none → H dx = none → dx ≠ x → sp (.ref x :: vs) (upd (upd H dx (.own x)) x (.ins C dx [])) (fun v H2 => v = .non ∧ Q (.ref x) H2) E
section
variable {σ : L2.St} {H : Hp} {Q : VK} {ta tv : TE} {t : TA} {K : PySem.W.Frag} {f m : Str} {D : Ends} {sp : Sp} {dvs : List V} {E : XK} {C : Addr} {tk : TA} {gV : List V → List V → List V}
theorem b_fld (q : ta σ H fun x H1 => FldAt K f x H1 Q) : tFld K ta f σ H Q := q
theorem e_fld {a C dx : Addr} {fs : List (Str × V)} {v : V} (h : H a = some (.ins C dx fs)) (c : Cls K C) (n : NoAttr K C f) (l : fs.lookup f = some v) (q : Q v H) : FldAt K f (.ref a) H Q := ⟨a, C, dx, fs, v, rfl, h, c, n, l, q⟩
theorem b_sfld (q : tv σ H fun y H1 => ta σ H1 fun x H2 => SetAt K f x y H2 fun H3 => D.nx σ H3) : sFld K ta tv f D σ H := q
theorem e_sfld {a C dx : Addr} {fs : List (Str × V)} {y : V} {k : Hp → Prop} (h : H a = some (.ins C dx fs)) (c : Cls K C) (n : NoAttr K C f) (hl : fs.length < 1000) (q : ∀ H', H' a = some (.ins C dx (putF f y fs)) → SameM (· = a) H H' → k H') : SetAt K f (.ref a) y H k :=
  ⟨a, C, dx, fs, rfl, h, c, n, hl, q _ upd_same (SameM.upd rfl)⟩
theorem b_meth (q : ta σ H fun x H1 => MethAt C m x H1 (t σ H1 fun vs H2 => sp (x :: (vs ++ dvs)) H2 Q E)) : tMeth C m sp dvs E ta t σ H Q := q
theorem e_meth {a dx : Addr} {fs : List (Str × V)} {q : Prop} (h : H a = some (.ins C dx fs)) (l : fs.lookup m = none) (hq : q) : MethAt C m (.ref a) H q := ⟨a, dx, fs, rfl, h, l, hq⟩
theorem b_make (q : t σ H fun vs H1 => MakeAt C sp (vs ++ dvs) E Q H1) : tMake C sp dvs E t σ H Q := q
theorem e_make {vs : List V} (q : ∀ x dx H', H x = none → H' x = some (.ins C dx []) → Same H H' → sp (.ref x :: vs) H' (fun v H2 => v = .non ∧ Q (.ref x) H2) E) : MakeAt C sp vs E Q H := fun x dx nx nd ne =>
  q x dx _ nx upd_same fun b o e => by
    rw [upd_ne (ne_of_none e nx), upd_ne (ne_of_none e nd)]
    exact e
theorem b_callK (q : t σ H fun vs H1 => tk σ H1 fun zs H2 => sp (gV vs zs) H2 Q E) : tCallK sp gV E t tk σ H Q := q
end
end FG

/-! FG: enumerate and zip by steps; fields that count on; x in (..) of flat things; lists cut -/
namespace FG
open PySem PySem.Spec PyProof.Rows L2 RZ
def RevAt (K : PySem.W.Frag) (v : V) (H : Hp) (Q : VK) : Prop := ∃ a xs, v = .ref a ∧ SqT K H a xs ∧ ∀ p, H p = none → Q (.ref p) (upd H p (.tup xs.reverse))
theorem pe_revTK {X : Cx} {K : PySem.W.Frag} {e : Expr} {te : TE} {k : Nat} {p1 p2 p3 pos : Pos} (hK : X.K = K) (he : PE X e te) : PE X (.Subscript e (.Slice none none (some (.UnaryOp .USub (.Constant (.int 1) k p1) p2)) p3) pos) (tRevT K te) := hK ▸ pe_revT he
section
variable {g : TG} {tt : TT} {te tl tv ta : TE} {tr : TA} {vs : List Nat} {σ : L2.St} {H : Hp} {Q : VK} {K : PySem.W.Frag} {tb : TS} {D : Ends} {xs ys : List V} {a b : Addr}
theorem b_lcEnT (q : tr σ H fun xs H1 => ∃ a ys, xs = [.ref a] ∧ SqT K H1 a ys ∧ LcAny (IteT K a) g tt te vs σ H1 Q) : tLc (iEnumT K tr) g tt te vs σ H Q := q
theorem b_lcEnL (q : tr σ H fun xs H1 => ∃ a ys, xs = [.ref a] ∧ SqL K H1 a ys ∧ LcAny (Ite K a) g tt te vs σ H1 Q) : tLc (iEnum K tr) g tt te vs σ H Q := q
theorem b_forEnT (q : tr σ H fun xs H1 => ∃ a ys, xs = [.ref a] ∧ SqT K H1 a ys ∧ ForAny (IteT K a) g tb D σ H1) : tFor (iEnumT K tr) g tb D σ H := q
theorem b_forEnL (q : tr σ H fun xs H1 => ∃ a ys, xs = [.ref a] ∧ SqL K H1 a ys ∧ ForAny (Ite K a) g tb D σ H1) : tFor (iEnum K tr) g tb D σ H := q
theorem b_lcZ (q : tr σ H fun vs' H1 => ∃ a b xs ys, vs' = [.ref a, .ref b] ∧ ((SqL K H1 a xs ∧ SqL K H1 b ys ∧ LcAny (Itz K a b) g tt te vs σ H1 Q) ∨ (SqT K H1 a xs ∧ SqT K H1 b ys ∧ LcAny (ItzT K a b) g tt te vs σ H1 Q))) : tLc (iZipA K tr) g tt te vs σ H Q := q
theorem e_lcEnT (hS : SqT K H a xs) (Pv : Addr → Nat → Hp → Prop) (h0 : ∀ D H', H D = none → H' D = some (.lst []) → Same H H' → Pv D 0 H')
    (hl : ∀ D i H', H D = none → Pv D i H' → SqT K H' a xs)
    (hs : ∀ D i x T H' H2, H D = none → xs[i]? = some x → Pv D i H' → H' T = none → H2 T = some (.tup [.int (i : Nat), x]) → Same H' H2 → Turn1 g tt te vs σ D (.ref T) H2 (Pv D (i + 1)))
    (hd : ∀ D H', H D = none → Pv D xs.length H' → Q (.ref D) H') : ∃ a' ys, [V.ref a] = [.ref a'] ∧ SqT K H a' ys ∧ LcAny (IteT K a') g tt te vs σ H Q := by
  refine ⟨a, xs, rfl, hS, lc_by xs.length Pv h0 (fun D i H' nD hi p => ⟨⟨xs, xs[i], hl D i H' nD p, by simp [hi]⟩, ?_⟩) (fun D H' nD p => ⟨⟨xs, hl D _ H' nD p, Nat.le_refl _⟩, hd D H' nD p⟩)⟩
  rintro v H2 ⟨T, x, rfl, nT, rfl, hv⟩
  exact hs D i x T H' _ nD (hv xs (hl D i _ nD p)) p nT upd_same (same_upd nT)
theorem e_lcEnL (hS : SqL K H a xs) (Pv : Addr → Nat → Hp → Prop) (h0 : ∀ D H', H D = none → H' D = some (.lst []) → Same H H' → Pv D 0 H')
    (hl : ∀ D i H', H D = none → Pv D i H' → SqL K H' a xs)
    (hs : ∀ D i x T H' H2, H D = none → xs[i]? = some x → Pv D i H' → H' T = none → H2 T = some (.tup [.int (i : Nat), x]) → Same H' H2 → Turn1 g tt te vs σ D (.ref T) H2 (Pv D (i + 1)))
    (hd : ∀ D H', H D = none → Pv D xs.length H' → Q (.ref D) H') : ∃ a' ys, [V.ref a] = [.ref a'] ∧ SqL K H a' ys ∧ LcAny (Ite K a') g tt te vs σ H Q := by
  refine ⟨a, xs, rfl, hS, lc_by xs.length Pv h0 (fun D i H' nD hi p => ⟨⟨xs, xs[i], hl D i H' nD p, by simp [hi]⟩, ?_⟩) (fun D H' nD p => ⟨⟨xs, hl D _ H' nD p, Nat.le_refl _⟩, hd D H' nD p⟩)⟩
  rintro v H2 ⟨T, x, rfl, nT, rfl, hv⟩
  exact hs D i x T H' _ nD (hv xs (hl D i _ nD p)) p nT upd_same (same_upd nT)
theorem e_lcZT (hS : SqT K H a xs) (hS2 : SqT K H b ys) (hn : xs.length ≤ ys.length) (Pv : Addr → Nat → Hp → Prop) (h0 : ∀ D H', H D = none → H' D = some (.lst []) → Same H H' → Pv D 0 H')
    (hl : ∀ D i H', H D = none → Pv D i H' → SqT K H' a xs ∧ SqT K H' b ys)
    (hs : ∀ D i x y T H' H2, H D = none → xs[i]? = some x → ys[i]? = some y → Pv D i H' → H' T = none → H2 T = some (.tup [x, y]) → Same H' H2 → Turn1 g tt te vs σ D (.ref T) H2 (Pv D (i + 1)))
    (hd : ∀ D H', H D = none → Pv D xs.length H' → Q (.ref D) H') : ∃ a' b' xs' ys', [V.ref a, .ref b] = [.ref a', .ref b'] ∧ ((SqL K H a' xs' ∧ SqL K H b' ys' ∧ LcAny (Itz K a' b') g tt te vs σ H Q) ∨ (SqT K H a' xs' ∧ SqT K H b' ys' ∧ LcAny (ItzT K a' b') g tt te vs σ H Q)) := by
  refine ⟨a, b, xs, ys, rfl, .inr ⟨hS, hS2, lc_by xs.length Pv h0 (fun D i H' nD hi p => ⟨⟨xs, ys, xs[i], ys[i]'(by omega), (hl D i H' nD p).1, (hl D i H' nD p).2, by simp [hi], List.getElem?_eq_getElem (by omega)⟩, ?_⟩) (fun D H' nD p => ⟨⟨xs, ys, (hl D _ H' nD p).1, (hl D _ H' nD p).2, .inl (Nat.le_refl _)⟩, hd D H' nD p⟩)⟩⟩
  rintro v H2 ⟨T, x, y, rfl, nT, rfl, hv, hw⟩
  exact hs D i x y T H' _ nD (hv xs (hl D i _ nD p).1) (hw ys (hl D i _ nD p).2) p nT upd_same (same_upd nT)
theorem for_by {J : It} (n : Nat) (Pv : Nat → L2.St → Hp → Prop) (h0 : Pv 0 σ H)
    (hgo : ∀ i σ H, i < n → Pv i σ H → J.go i H ∧ ∀ x H2, J.yld i H x H2 → g x σ H2 fun σ2 H3 => tb { D with nx := Pv (i + 1), ct := Pv (i + 1), bk := D.nx } σ2 H3)
    (hst : ∀ σ H, Pv n σ H → J.stop n H ∧ D.nx σ H) : ForAny J g tb D σ H := by
  refine ⟨fun i m σ H => m = n - i ∧ i ≤ n ∧ Pv i σ H, ⟨n, by simp, Nat.zero_le _, h0⟩, ?_⟩
  rintro i m σ H ⟨rfl, hi, p⟩
  by_cases hlt : i < n
  · obtain ⟨h1, h2⟩ := hgo i σ H hlt p
    exact .inr ⟨h1, Pv (i + 1), fun σ' H' p' => ⟨n - (i + 1), by omega, rfl, hlt, p'⟩, h2⟩
  · obtain rfl : i = n := by omega
    exact .inl (hst σ H p)
theorem e_forEnL (hS : SqL K H a xs) (Pv : Nat → L2.St → Hp → Prop) (h0 : Pv 0 σ H) (hl : ∀ i σ H, Pv i σ H → SqL K H a xs)
    (hs : ∀ i x T σ H H2, xs[i]? = some x → Pv i σ H → H T = none → H2 T = some (.tup [.int (i : Nat), x]) → Same H H2 → g (.ref T) σ H2 fun σ2 H2 => tb { D with nx := Pv (i + 1), ct := Pv (i + 1), bk := D.nx } σ2 H2) (hd : ∀ σ H, Pv xs.length σ H → D.nx σ H) :
    ∃ a' ys, [V.ref a] = [.ref a'] ∧ SqL K H a' ys ∧ ForAny (Ite K a') g tb D σ H := by
  refine ⟨a, xs, rfl, hS, for_by xs.length Pv h0 (fun i σ H hi p => ⟨⟨xs, xs[i], hl i σ H p, by simp [hi]⟩, ?_⟩) (fun σ H p => ⟨⟨xs, hl _ σ H p, Nat.le_refl _⟩, hd σ H p⟩)⟩
  rintro v H2 ⟨T, x, rfl, nT, rfl, hv⟩
  exact hs i x T σ H _ (hv xs (hl i σ H p)) p nT upd_same (same_upd nT)
theorem e_forEnT (hS : SqT K H a xs) (Pv : Nat → L2.St → Hp → Prop) (h0 : Pv 0 σ H) (hl : ∀ i σ H, Pv i σ H → SqT K H a xs)
    (hs : ∀ i x T σ H H2, xs[i]? = some x → Pv i σ H → H T = none → H2 T = some (.tup [.int (i : Nat), x]) → Same H H2 → g (.ref T) σ H2 fun σ2 H2 => tb { D with nx := Pv (i + 1), ct := Pv (i + 1), bk := D.nx } σ2 H2) (hd : ∀ σ H, Pv xs.length σ H → D.nx σ H) :
    ∃ a' ys, [V.ref a] = [.ref a'] ∧ SqT K H a' ys ∧ ForAny (IteT K a') g tb D σ H := by
  refine ⟨a, xs, rfl, hS, for_by xs.length Pv h0 (fun i σ H hi p => ⟨⟨xs, xs[i], hl i σ H p, by simp [hi]⟩, ?_⟩) (fun σ H p => ⟨⟨xs, hl _ σ H p, Nat.le_refl _⟩, hd σ H p⟩)⟩
  rintro v H2 ⟨T, x, rfl, nT, rfl, hv⟩
  exact hs i x T σ H _ (hv xs (hl i σ H p)) p nT upd_same (same_upd nT)
theorem Same.new {M : Addr → Prop} {H H1 H2 : Hp} (s : Same H H1) (t : SameM M H1 H2) (h : ∀ b, M b → H b = none) : Same H H2 := fun b o e => t b o (fun z => by rw [h b z] at e; cases e) (s b o e)
/-! fields -/
theorem b_fldaug {f : Str} {rd : V → V → Hp → VK → Prop} {a C dx : Addr} {fs : List (Str × V)} {v : V} (h : H a = some (.ins C dx fs)) (c : Cls K C) (n : NoAttr K C f) (l : fs.lookup f = some v)
    (q : tv σ H fun y H2 => rd v y H2 fun z H3 => ∃ dx' fs', H3 a = some (.ins C dx' fs') ∧ fs'.length < 1000 ∧ D.nx σ (upd H3 a (.ins C dx' (putF f z fs')))) (ha : ta = tC (.ref a)) : sFldAug K ta tv rd f D σ H := by
  subst ha
  exact ⟨a, C, dx, fs, v, rfl, h, c, n, l, q⟩
def FldAug (K : PySem.W.Frag) (f : Str) (tv : TE) (rd : V → V → Hp → VK → Prop) (σ : L2.St) (D : Ends) (x : V) (H : Hp) : Prop := ∃ a C dx fs v, x = .ref a ∧ H a = some (.ins C dx fs) ∧ Cls K C ∧ NoAttr K C f ∧ fs.lookup f = some v ∧
  tv σ H fun y H2 => rd v y H2 fun z H3 => ∃ dx' fs', H3 a = some (.ins C dx' fs') ∧ fs'.length < 1000 ∧ D.nx σ (upd H3 a (.ins C dx' (putF f z fs')))
theorem b_sfa {f : Str} {rd : V → V → Hp → VK → Prop} (q : ta σ H fun x H1 => FldAug K f tv rd σ D x H1) : sFldAug K ta tv rd f D σ H := q
/-- x.f += i -/
theorem e_sfa {f : Str} {C dx : Addr} {fs : List (Str × V)} {i j : Int} (h : H a = some (.ins C dx fs)) (c : Cls K C) (n : NoAttr K C f) (hl : fs.length < 1000) (l : fs.lookup f = some (.int i))
    (q : ∀ H', H' a = some (.ins C dx (putF f (.int (i + j)) fs)) → SameM (· = a) H H' → D.nx σ H') : FldAug K f (tC (.int j)) (ipI (· + ·)) σ D (.ref a) H :=
  ⟨a, C, dx, fs, .int i, rfl, h, c, n, l, i, j, rfl, rfl, dx, fs, h, hl, q _ upd_same (SameM.upd rfl)⟩
/-! in, of flat things -/
theorem b_inT {x : V} {neg : Bool} (h : SqT K H a xs) (fx : flatV x = true) (fs : xs.all flatV = true) (q : Q (.bl (if neg then !inV x xs else inV x xs)) H) : rIn K neg x (.ref a) H Q := ⟨a, xs, rfl, .inr h, fx, fs, q⟩
theorem b_inL {x : V} {neg : Bool} (h : SqL K H a xs) (fx : flatV x = true) (fs : xs.all flatV = true) (q : Q (.bl (if neg then !inV x xs else inV x xs)) H) : rIn K neg x (.ref a) H Q := ⟨a, xs, rfl, .inl h, fx, fs, q⟩
/-! lists -/
theorem e_slL {lo hi : Option Int} (ha : SqL K H a xs) (q : ∀ p H', H p = none → H' p = some (.lst (cutV xs lo hi)) → Same H H' → Q (.ref p) H') : rSlL K (.ref a) lo hi H Q := ⟨a, xs, rfl, ha, e_new q⟩
theorem e_extend (ha : H a = some (.lst xs)) (hb : H b = some (.lst ys)) (hl : xs.length + ys.length ≤ 100000) (q : ∀ H', H' a = some (.lst (xs ++ ys)) → SameM (· = a) H H' → Q .non H') : rExtend (.ref a) [.ref b] H Q :=
  ⟨a, b, xs, ys, rfl, rfl, ha, hb, Nat.le_trans hl (by decide), q _ upd_same (SameM.upd rfl)⟩
theorem b_sum {ns : List Int} (h : SqL K H a (ns.map V.int)) (q : Q (.int ns.sum) H) : rSum K [.ref a] H Q := ⟨a, ns, rfl, h, q⟩
theorem e_revT (q : ta σ H fun x H1 => RevAt K x H1 Q) : tRevT K ta σ H Q := q
/-- a tuple turned, as data -/
theorem e_revD {v : V} {ds : List PyData} (h : Dq K M0 H v (.tuple ds)) (q : ∀ p H', Dq K M0 H' p (.tuple ds.reverse) → Same H H' → Q p H') : RevAt K v H Q := by
  obtain ⟨p, xs, rfl, hx, hxs⟩ := h.tupE
  refine ⟨p, xs, rfl, hx.t, fun r nr => ?_⟩
  refine q (.ref r) _ (Dq.newT (fun z => z) upd_same ?_) (same_upd nr)
  have : ∀ {vs : List V} {es : List PyData}, DqAll K M0 H vs es → DqAll K M0 H vs.reverse es.reverse := by
    intro vs
    induction vs with
    | nil => intro es h; cases h; exact .nil
    | cons v vs ih =>
      intro es h
      cases h with
      | cons h1 h2 =>
        rw [List.reverse_cons, List.reverse_cons]
        exact (ih h2).append (.cons h1 .nil)
  exact (this hxs).same (same_upd nr)
/-- t[lo:hi], as data -/
def cutD (ds : List PyData) (lo hi : Option Int) : List PyData := (ds.drop (HT.sIx ds.length 0 lo)).take (HT.sIx ds.length ds.length hi - HT.sIx ds.length 0 lo)
theorem cut_all {M : Addr → Prop} {ds : List PyData} (h : DqAll K M H xs ds) (lo hi : Option Int) : DqAll K M H (cutV xs lo hi) (cutD ds lo hi) := by
  unfold cutV cutD
  rw [h.length]
  exact (h.drop _).take _
theorem e_slD {v : V} {ds : List PyData} {lo hi : Option Int} (h : Dq K M0 H v (.tuple ds)) (q : ∀ p H', Dq K M0 H' p (.tuple (cutD ds lo hi)) → Same H H' → Q p H') : rSlA K v lo hi H Q := by
  obtain ⟨p, xs, rfl, hx, hxs⟩ := h.tupE
  exact e_slT trk0 hx fun r H' hr s => q _ H' (.tup hr ((cut_all hxs lo hi).same s)) s
theorem cutD_to (ds : List PyData) (n : Nat) : cutD ds none (some (n : Int)) = ds.take n := by
  unfold cutD
  rw [HT.sIx_none, HT.sIx_nat, List.drop_zero, Nat.sub_zero, List.take_eq_take_iff]
  omega
theorem cutD_from (ds : List PyData) (n : Nat) : cutD ds (some (n : Int)) none = ds.drop n := by
  unfold cutD
  rw [HT.sIx_none, HT.sIx_nat]
  by_cases h : n ≤ ds.length
  · rw [Nat.min_eq_left h, List.take_of_length_le (by rw [List.length_drop]; omega)]
  · rw [Nat.min_eq_right (by omega), List.drop_eq_nil_of_le (Nat.le_refl _), List.drop_eq_nil_of_le (by omega), List.take_nil]
end
section
variable {X : Cx} {K : PySem.W.Frag} {e e2 : Expr} {ta : TA} {p pos tpos : Pos} {elts : List Expr} {kk : Nat}
theorem pi_enumTK (hK : X.K = K) (hg : Gl X "enumerate") (hm : X.mg "enumerate" = none) (ha : PA X [e] ta) (hs : starEach [e] X.env = [(false, eval e X.env)] := by rfl) :
    PI X (.Tuple elts kk tpos) (.Call (.Name "enumerate" p) [e] [] pos) (iEnumT K ta) := hK ▸ pi_enumT hg hm ha hs
theorem pi_enumLK (hK : X.K = K) (hg : Gl X "enumerate") (hm : X.mg "enumerate" = none) (ha : PA X [e] ta) (hs : starEach [e] X.env = [(false, eval e X.env)] := by rfl) :
    PI X (.Tuple elts kk tpos) (.Call (.Name "enumerate" p) [e] [] pos) (iEnum K ta) := hK ▸ pi_enum hg hm ha hs
theorem pi_zipK (hK : X.K = K) (hg : Gl X "zip") (hm : X.mg "zip" = none) (ha : PA X [e, e2] ta) (hs : starEach [e, e2] X.env = (false, eval e X.env) :: starEach [e2] X.env := by rfl) (hpl : (backTo pos (starEach [e2] X.env)).any (·.1) = false := by rfl) :
    PI X (.Tuple elts kk tpos) (.Call (.Name "zip" p) [e, e2] [] pos) (iZipA K ta) := hK ▸ pi_zipA hg hm ha hs hpl
end
end FG

/-! FG: data that fits: it can be shown and compared -/
namespace FG
open PySem PySem.Spec PyProof.Rows L2
theorem showableAll_mem : ∀ {ds : List PyData} {d : PyData}, PyData.showableAll ds = true → d ∈ ds → d.showable = true
  | e :: ds, d, h, hm => by
    simp only [PyData.showableAll, Bool.and_eq_true] at h
    rcases List.mem_cons.mp hm with rfl | hm
    · exact h.1
    · exact showableAll_mem h.2 hm
theorem depthAll_mem : ∀ {ds : List PyData} {d : PyData}, d ∈ ds → d.depth ≤ PyData.depthAll ds
  | e :: ds, d, hm => by
    simp only [PyData.depthAll]
    rcases List.mem_cons.mp hm with rfl | hm
    · exact Nat.le_max_left _ _
    · exact Nat.le_trans (depthAll_mem hm) (Nat.le_max_right _ _)
theorem shownAll_mem : ∀ {ds : List PyData} {d : PyData}, d ∈ ds → d.shown ∈ PyData.shownAll ds
  | e :: ds, d, hm => by
    simp only [PyData.shownAll]
    rcases List.mem_cons.mp hm with rfl | hm
    · exact List.mem_cons_self
    · exact List.mem_cons_of_mem _ (shownAll_mem hm)
theorem canLayAll_mem : ∀ {ds : List PyData} {d : PyData}, PyData.canLayAll0 ds = true → d ∈ ds → d.canLay0 = true
  | e :: ds, d, h, hm => by
    simp only [PyData.canLayAll0, Bool.and_eq_true] at h
    rcases List.mem_cons.mp hm with rfl | hm
    · exact h.1
    · exact canLayAll_mem h.2 hm
theorem canLayAll_of : ∀ {ds : List PyData}, (∀ d ∈ ds, d.canLay0 = true) → PyData.canLayAll0 ds = true
  | [], _ => rfl
  | e :: ds, h => by
    simp only [PyData.canLayAll0, Bool.and_eq_true]
    exact ⟨h e List.mem_cons_self, canLayAll_of fun d hd => h d (List.mem_cons_of_mem _ hd)⟩
theorem tup_len {ds : List PyData} {h n : Nat} (s : Small h n (.tuple ds)) : ds.length ≤ n + 2 := by
  have h3 := s.sz
  simp only [PyData.shown] at h3
  have h4 := PyData.shownAll_length ds
  by_cases hz : ds = []
  · subst hz; simp
  · have h5 := join_length_add (PyData.shownAll ds) (by intro z; rw [z] at h4; simp at h4; exact hz (List.eq_nil_of_length_eq_zero h4.symm))
    have h6 : ∀ ts : List Str, 2 * ts.length ≤ piled ts := by
      intro ts
      induction ts with
      | nil => simp [piled_nil]
      | cons t ts ih => rw [piled_cons, List.length_cons]; omega
    have h7 := h6 (PyData.shownAll ds)
    unfold tupleText at h3
    rw [strLen_append, strLen_append] at h3
    omega
/-- small, and of plain kinds: it can be shown and compared -/
structure Fit (h n : Nat) (d : PyData) : Prop where
  sm : Small h n d
  lay : d.canLay0 = true
theorem Fit.show {h n : Nat} {d : PyData} (f : Fit h n d) (e1 : h ≤ 60) (e2 : n ≤ 16000000) : Show d := f.sm.show e1 e2
theorem Fit.shaped {h n : Nat} {d : PyData} (f : Fit h n d) (e1 : h ≤ 60) : SeqAt.shaped d = true := by
  unfold SeqAt.shaped
  rw [f.lay, Bool.true_and]
  exact decide_eq_true (Nat.le_trans f.sm.dp (by omega))
theorem Fit.mono {h n h' n' : Nat} {d : PyData} (s : Fit h n d) (e1 : h ≤ h') (e2 : n ≤ n') : Fit h' n' d := ⟨s.sm.mono e1 e2, s.lay⟩
theorem Fit.item {h n : Nat} {ds : List PyData} {d : PyData} (f : Fit h n (.tuple ds)) (hm : d ∈ ds) : Fit h n d := by
  obtain ⟨⟨h1, h2, h3, h4⟩, h5⟩ := f
  simp only [PyData.showable] at h1
  simp only [PyData.depth] at h2
  simp only [PyData.shown] at h3
  simp only [PyData.canLay0] at h5
  have hd := depthAll_mem hm
  refine ⟨⟨showableAll_mem h1 hm, by omega, Nat.le_trans (tupleText_mem_le (shownAll_mem hm)) h3, ?_⟩, canLayAll_mem h5 hm⟩
  exact PyData.hasDict_of_canLay _ (canLayAll_mem h5 hm)
theorem sumLen_piled : ∀ ds : List PyData, sumLen ds = piled (PyData.shownAll ds)
  | [] => rfl
  | d :: ds => by
    simp only [sumLen, PyData.shownAll]
    rw [piled_cons, sumLen_piled ds]
theorem sumLen_shown (ds : List PyData) : sumLen ds ≤ (PyData.shown (.tuple ds)).length := by
  simp only [PyData.shown]
  rw [sumLen_piled]
  by_cases hz : ds = []
  · subst hz; simp [PyData.shownAll, piled_nil]
  · have h4 := PyData.shownAll_length ds
    have h5 := join_length_add (PyData.shownAll ds) (by intro z; rw [z] at h4; simp at h4; exact hz (List.eq_nil_of_length_eq_zero h4.symm))
    unfold tupleText
    rw [strLen_append, strLen_append]
    have h6 : (Str.ofString "(").length = 1 := rfl
    have h7 : 1 ≤ (Str.ofString (if ((PyData.shownAll ds).length == 1) = true then ",)" else ")")).length := by
      split <;> decide
    omega
theorem sumLen_append : ∀ ds es : List PyData, sumLen (ds ++ es) = sumLen ds + sumLen es
  | [], es => by simp [sumLen]
  | d :: ds, es => by
    rw [List.cons_append]
    simp only [sumLen]
    rw [sumLen_append ds es]
    omega
theorem sumLen_take (ds : List PyData) (i : Nat) : sumLen (ds.take i) ≤ sumLen ds := by
  have := sumLen_append (ds.take i) (ds.drop i)
  rw [List.take_append_drop] at this
  omega
theorem sumLen_drop (ds : List PyData) (i : Nat) : sumLen (ds.drop i) ≤ sumLen ds := by
  have := sumLen_append (ds.take i) (ds.drop i)
  rw [List.take_append_drop] at this
  omega
theorem sumLen_reverse : ∀ ds : List PyData, sumLen ds.reverse = sumLen ds
  | [] => rfl
  | d :: ds => by
    rw [List.reverse_cons, sumLen_append, sumLen_reverse ds]
    simp only [sumLen]
    omega
theorem sumLen_two : ∀ ds : List PyData, 2 * ds.length ≤ sumLen ds
  | [] => Nat.zero_le _
  | d :: ds => by
    have := sumLen_two ds
    simp only [sumLen, List.length_cons]
    omega
/-- things that fit, together so long -/
structure FitL (h n : Nat) (ds : List PyData) : Prop where
  it : ∀ d ∈ ds, ∃ m, Fit h m d
  sz : sumLen ds ≤ n
theorem FitL.mono {h n h' n' : Nat} {ds : List PyData} (f : FitL h n ds) (e1 : h ≤ h') (e2 : n ≤ n') : FitL h' n' ds :=
  ⟨fun d hd => let ⟨m, z⟩ := f.it d hd; ⟨m, z.mono e1 (Nat.le_refl _)⟩, Nat.le_trans f.sz e2⟩
theorem FitL.nil {h n : Nat} : FitL h n [] := ⟨by simp, Nat.zero_le _⟩
theorem FitL.one {h n : Nat} {d : PyData} (f : Fit h n d) : FitL h (n + 2) [d] :=
  ⟨fun e he => by rw [List.mem_singleton.mp he]; exact ⟨n, f⟩, by
    have := f.sm.sz
    simp only [sumLen]
    omega⟩
theorem FitL.append {h n m : Nat} {ds es : List PyData} (a : FitL h n ds) (b : FitL h m es) : FitL h (n + m) (ds ++ es) :=
  ⟨fun d hd => by
    rcases List.mem_append.mp hd with hd | hd
    · exact a.it d hd
    · exact b.it d hd, by
    have h1 := a.sz
    have h2 := b.sz
    rw [sumLen_append]
    omega⟩
theorem FitL.take {h n : Nat} {ds : List PyData} (a : FitL h n ds) (i : Nat) : FitL h n (ds.take i) := ⟨fun d hd => a.it d (List.mem_of_mem_take hd), Nat.le_trans (sumLen_take ds i) a.sz⟩
theorem FitL.drop {h n : Nat} {ds : List PyData} (a : FitL h n ds) (i : Nat) : FitL h n (ds.drop i) := ⟨fun d hd => a.it d (List.mem_of_mem_drop hd), Nat.le_trans (sumLen_drop ds i) a.sz⟩
theorem FitL.cut {h n : Nat} {ds : List PyData} (a : FitL h n ds) (lo hi : Option Int) : FitL h n (cutD ds lo hi) := (a.drop _).take _
theorem FitL.rev {h n : Nat} {ds : List PyData} (a : FitL h n ds) : FitL h n ds.reverse := ⟨fun d hd => a.it d (List.mem_reverse.mp hd), by rw [sumLen_reverse]; exact a.sz⟩
theorem FitL.tup {h n : Nat} {ds : List PyData} (f : FitL h n ds) : Fit (h + 1) (n + 3) (.tuple ds) := by
  refine ⟨⟨?_, ?_, ?_, ?_⟩, ?_⟩
  · simp only [PyData.showable]; exact showableAll_of fun d hd => (f.it d hd).choose_spec.sm.ok
  · have := depthAll_of fun d hd => (f.it d hd).choose_spec.sm.dp
    simp only [PyData.depth]; omega
  · have h1 := shown_tuple ds
    have h2 := f.sz
    omega
  · simp only [PyData.hasDict]; exact hasDictAll_of fun d hd => (f.it d hd).choose_spec.sm.nd
  · simp only [PyData.canLay0]; exact canLayAll_of fun d hd => (f.it d hd).choose_spec.lay
theorem FitL.lst {h n : Nat} {ds : List PyData} (f : FitL h n ds) : Fit (h + 1) (n + 3) (.list ds) := by
  refine ⟨⟨?_, ?_, ?_, ?_⟩, ?_⟩
  · simp only [PyData.showable]; exact showableAll_of fun d hd => (f.it d hd).choose_spec.sm.ok
  · have := depthAll_of fun d hd => (f.it d hd).choose_spec.sm.dp
    simp only [PyData.depth]; omega
  · have h1 := shown_list ds
    have h2 := f.sz
    omega
  · simp only [PyData.hasDict]; exact hasDictAll_of fun d hd => (f.it d hd).choose_spec.sm.nd
  · simp only [PyData.canLay0]; exact canLayAll_of fun d hd => (f.it d hd).choose_spec.lay
theorem Fit.items {h n : Nat} {ds : List PyData} (f : Fit (h + 1) n (.tuple ds)) : FitL h n ds := by
  refine ⟨fun d hd => ?_, Nat.le_trans (sumLen_shown ds) f.sm.sz⟩
  have h1 := f.item hd
  have h2 := depthAll_mem hd
  have h3 := f.sm.dp
  simp only [PyData.depth] at h3
  exact ⟨n, ⟨h1.sm.ok, by omega, h1.sm.sz, h1.sm.nd⟩, h1.lay⟩
theorem Fit.items' {h n : Nat} {ds : List PyData} (f : Fit h n (.tuple ds)) : FitL h n ds :=
  ⟨fun d hd => ⟨n, f.item hd⟩, Nat.le_trans (sumLen_shown ds) f.sm.sz⟩
theorem Fit.non {h : Nat} : Fit h 4 .none := ⟨Small.non, rfl⟩
theorem Fit.bl {h : Nat} (b : Bool) : Fit h 5 (.bool b) := ⟨Small.bl b, rfl⟩
theorem Fit.int {h : Nat} {i : Int} (k : Nat) (hk : 0 < k) (hk2 : k ≤ 100) (h1 : i.natAbs < 10 ^ k) : Fit h (k + 1) (.int i) := ⟨Small.int k hk hk2 h1, rfl⟩
theorem Fit.str {h m : Nat} {x : Str} (ok : PyData.canLay0 (.str x) = true) (hx : ∀ c ∈ x.cps.toList, c < 16 ^ 8) (hl : x.length ≤ m) : Fit h (10 * m + 2) (.str x) := ⟨Small.str hx hl, ok⟩
end FG

/-! FG: data of tuples alone stays while lists change; data made anew, with places to avoid -/
namespace FG
open PySem PySem.Spec PyProof.Rows L2
theorem shaped_of {d : PyData} (h1 : d.canLay0 = true) (h2 : d.depth ≤ 64) : SeqAt.shaped d = true := by
  unfold SeqAt.shaped
  rw [h1, Bool.true_and]
  exact decide_eq_true h2
theorem ite_c {c : Bool} {A B : V} {σ : L2.St} {H : Hp} {Q : VK} (q : Q (if c = true then A else B) H) : if c = true then tC A σ H Q else tC B σ H Q := by
  cases c
  · exact q
  · exact q
mutual
/-- no list and no dict in it -/
def noLD : PyData → Bool
  | .none | .bool _ | .int _ | .str _ => true
  | .list _ => false
  | .tuple xs => noLDAll xs
  | .dict _ => false
def noLDAll : List PyData → Bool
  | [] => true
  | x :: xs => noLD x && noLDAll xs
end
theorem noLDAll_of : ∀ {ds : List PyData}, (∀ d ∈ ds, noLD d = true) → noLDAll ds = true
  | [], _ => rfl
  | d :: ds, h => by
    simp only [noLDAll, Bool.and_eq_true]
    exact ⟨h d List.mem_cons_self, noLDAll_of fun e he => h e (List.mem_cons_of_mem _ he)⟩
theorem noLD_tup {ds : List PyData} (h : ∀ d ∈ ds, noLD d = true) : noLD (.tuple ds) = true := by
  simp only [noLD]
  exact noLDAll_of h
/-- all tuples stay -/
def SameN (H H' : Hp) : Prop := ∀ b xs, Rd H b (.tup xs) → Rd H' b (.tup xs)
theorem SameN.refl (H : Hp) : SameN H H := fun _ _ h => h
theorem SameN.trans {H H1 H2 : Hp} (a : SameN H H1) (b : SameN H1 H2) : SameN H H2 := fun c xs h => b c xs (a c xs h)
theorem SameN.of {H H' : Hp} (s : Same H H') : SameN H H' := fun b xs h => by
  rcases h with h | ⟨o, h⟩
  · exact .inl (s _ _ h)
  · exact .inr ⟨o, s _ _ h⟩
theorem SameN.lst {H H' : Hp} {l : Addr} {xs : List V} (h : H l = some (.lst xs)) (s : SameM (· = l) H H') : SameN H H' := fun b ys hb => by
  have hne : b ≠ l := by
    rintro rfl
    rcases hb with e | ⟨o, e⟩
    · rw [h] at e; cases e
    · rw [h] at e; cases e
  rcases hb with e | ⟨o, e⟩
  · exact .inl (s _ _ hne e)
  · exact .inr ⟨o, s _ _ hne e⟩
section
variable {K : PySem.W.Frag} {M N : Addr → Prop} {H H' : Hp}
mutual
theorem Dq.keepN (s : SameN H H') : ∀ {v : V} {d : PyData}, noLD d = true → Dq K M H v d → Dq K M H' v d
  | _, _, _, .non => .non
  | _, _, _, .bl b => .bl b
  | _, _, _, .int i => .int i
  | _, _, _, .str x => .str x
  | _, _, n, .lst _ _ => absurd (by simpa [noLD] using n) Bool.false_ne_true
  | _, _, n, .tup h a => .tup (by
      rcases h with ⟨n, h⟩ | h
      · exact .inl ⟨n, s _ _ h⟩
      · exact .inr h) (DqAll.keepN s (by simpa [noLD] using n) a)
  | _, _, n, .dct _ _ _ => absurd (by simpa [noLD] using n) Bool.false_ne_true
theorem DqAll.keepN (s : SameN H H') : ∀ {vs : List V} {ds : List PyData}, noLDAll ds = true → DqAll K M H vs ds → DqAll K M H' vs ds
  | _, _, _, .nil => .nil
  | _, _, n, .cons h a => by
    simp only [noLDAll, Bool.and_eq_true] at n
    exact .cons (Dq.keepN s n.1 h) (DqAll.keepN s n.2 a)
end
/-! with places to avoid -/
variable {Q : VK} {xs : List V} {ds es : List PyData}
theorem e_tupM (t : Trk M H) (h : DqAll K M H xs ds) (q : ∀ p H', Dq K M H' (.ref p) (.tuple ds) → Same H H' → Q (.ref p) H') (hl : xs.length ≤ 100000 := by first | decide | simp) : NewT xs H Q :=
  e_tup (fun p H' np hp s => q p H' (Dq.newT (t.new np) hp (h.same s)) s) hl
theorem e_lstM (t : Trk M H) (h : DqAll K M H xs ds) (q : ∀ p H', Dq K M H' (.ref p) (.list ds) → H' p = some (.lst xs) → H p = none → Same H H' → Q (.ref p) H') (hl : xs.length ≤ 100000 := by first | decide | simp) : NewL xs H Q :=
  e_lst (fun p H' np hp s => q p H' (Dq.newL (t.new np) hp (h.same s)) hp np s) hl
theorem e_catM {a b : V} (t : Trk M H) (ha : Dq K M H a (.tuple ds)) (hb : Dq K M H b (.tuple es)) (hl : ds.length + es.length ≤ 100000) (q : ∀ v H', Dq K M H' v (.tuple (ds ++ es)) → Same H H' → Q v H') : rCatA K a b H Q := by
  obtain ⟨p, xs, rfl, hx, hxs⟩ := ha.tupE
  obtain ⟨r, ys, rfl, hy, hys⟩ := hb.tupE
  refine e_catT t hx hy (by rw [hxs.length, hys.length]; exact hl) fun t H' ht s => q _ H' (.tup ht ((hxs.same s).append (hys.same s))) s
theorem cut_allM (h : DqAll K M H xs ds) (lo hi : Option Int) : DqAll K M H (cutV xs lo hi) (cutD ds lo hi) := by
  unfold cutV cutD
  rw [h.length]
  exact (h.drop _).take _
theorem e_slM {v : V} {lo hi : Option Int} (t : Trk M H) (h : Dq K M H v (.tuple ds)) (q : ∀ p H', Dq K M H' p (.tuple (cutD ds lo hi)) → Same H H' → Q p H') : rSlA K v lo hi H Q := by
  obtain ⟨p, xs, rfl, hx, hxs⟩ := h.tupE
  exact e_slT t hx fun r H' hr s => q _ H' (.tup hr ((cut_allM hxs lo hi).same s)) s
theorem DqAll.rev : ∀ {vs : List V} {es : List PyData}, DqAll K M H vs es → DqAll K M H vs.reverse es.reverse := by
  intro vs
  induction vs with
  | nil => intro es h; cases h; exact .nil
  | cons v vs ih =>
    intro es h
    cases h with
    | cons h1 h2 =>
      rw [List.reverse_cons, List.reverse_cons]
      exact (ih h2).append (.cons h1 .nil)
/-- a tuple turned -/
theorem e_revM {v : V} (t : Trk M H) (h : Dq K M H v (.tuple ds)) (q : ∀ p H', Dq K M H' p (.tuple ds.reverse) → Same H H' → Q p H') : RevAt K v H Q := by
  obtain ⟨p, xs, rfl, hx, hxs⟩ := h.tupE
  refine ⟨p, xs, rfl, hx.t, fun r nr => ?_⟩
  exact q (.ref r) _ (Dq.newT (t.new nr) upd_same (hxs.rev.same (same_upd nr))) (same_upd nr)
theorem e_listM {v : V} (t : Trk M H) (h : Dq K M H v (.tuple ds)) (q : ∀ p H', Dq K M H' p (.list ds) → Same H H' → Q p H') : qListOf K [v] H Q := by
  obtain ⟨p, xs, rfl, hx, hxs⟩ := h.tupE
  exact e_listT hx.t fun l H' nl hl s => q _ H' (Dq.newL (t.new nl) hl (hxs.same s)) s
theorem b_ixD {v : V} {x : Int} (h : Dq K M H v (.tuple ds)) {d : PyData} (ha : atI ds x = some d) (q : ∀ y, Dq K M H y d → Q y H) : rIxT K v (.int x) H Q := by
  obtain ⟨p, xs, rfl, hx, hxs⟩ := h.tupE
  unfold atI at ha
  cases e : ixN ds.length x with
  | none => rw [e] at ha; cases ha
  | some j =>
    rw [e] at ha
    have hj : j < ds.length := (List.getElem?_eq_some_iff.mp ha).1
    have hj2 : j < xs.length := by rw [hxs.length]; exact hj
    obtain ⟨d', h1, h2⟩ := hxs.get (List.getElem?_eq_getElem hj2)
    have e3 : ds[j]? = some d := ha
    rw [e3] at h1
    cases h1
    refine b_ixT hx.t (v := xs[j]) ?_ (q _ h2)
    unfold atI
    rw [hxs.length, e]
    exact List.getElem?_eq_getElem hj2
theorem b_lenD {v : V} (h : Dq K M H v (.tuple ds)) (q : Q (.int ds.length) H) : qLen K [v] H Q := by
  obtain ⟨p, xs, rfl, hx, hxs⟩ := h.tupE
  refine b_lenT hx.t ?_
  rw [hxs.length]
  exact q
end
end FG

/-! FG: the pot by steps -/
namespace FG
open PySem PySem.Spec PyProof.Rows L2
theorem PotAt.trk {H : Hp} {p : Addr} {n : Nat} (h : PotAt H p n) : Trk (· = p) H := by
  obtain ⟨_, _, _, e, _⟩ := h
  rintro a rfl z
  rw [z] at e; cases e
section
variable {K : PySem.W.Frag} {M : Addr → Prop} {H : Hp} {Q : VK} {E : XK} {xs : List V} {ds : List PyData} {p : Addr} {n : Nat}
theorem mem_dq : ∀ {xs : List V} {ds : List PyData} {v : V}, DqAll K M H xs ds → v ∈ xs → ∃ d ∈ ds, Dq K M H v d
  | _ :: _, _ :: _, v, .cons h a, hm => by
    rcases List.mem_cons.mp hm with rfl | hm
    · exact ⟨_, List.mem_cons_self, h⟩
    · obtain ⟨d, h1, h2⟩ := mem_dq a hm
      exact ⟨d, List.mem_cons_of_mem _ h1, h2⟩
theorem e_lstA (h : DqAll K M H xs ds) (q : ∀ p H', H p = none → H' p = some (.lst xs) → DqAll K M H' xs ds → Same H H' → Q (.ref p) H') (hl : xs.length ≤ 100000 := by first | decide | simp) : NewL xs H Q :=
  e_lst (fun p H' np hp s => q p H' np hp (h.same s) s) hl
theorem e_take {u : Int} (hp : PotAt H p n) (hn : n ≤ 1000000000) (h0 : 0 < u) (h1 : u < 1073741824) (q : ∀ (d : Nat) (H' : Hp), (d : Int) < u → PotAt H' p (n + 1) → SameM (· = p) H H' → Q (.int d) H') : spTake [.ref p, .int u] H Q E := by
  refine ⟨p, u, n, rfl, hp, hn, h0, h1, fun d H' d0 d1 hp' s => ?_⟩
  obtain ⟨m, rfl⟩ := Int.eq_ofNat_of_zero_le d0
  exact q m H' d1 hp' s
/-- one of a list of data -/
theorem e_of {la : Addr} (hp : PotAt H p n) (hn : n ≤ 1000000000) (hlap : la ≠ p) (hla : H la = some (.lst xs)) (h : DqAll K (· = p) H xs ds) (ne : xs ≠ []) (hl : xs.length < 1000000)
    (q : ∀ v d H', d ∈ ds → Dq K (· = p) H' v d → PotAt H' p (n + 1) → SameM (· = p) H H' → Q v H') : spOf K [.ref p, .ref la] H Q E := by
  refine ⟨p, n, hp, hn, .inl ⟨la, xs, rfl, hlap, SqL.of hla, ne, hl, fun v H' hv hp' s => ?_⟩⟩
  obtain ⟨d, h1, h2⟩ := mem_dq (DqAll.pot (M := (· = p)) rfl s h) hv
  exact q v d H' h1 h2 hp' s
end
end FG

/-! FG: zip of two texts -/
namespace FG
open PySem PySem.Spec PyProof.Rows L2
/-- the signs of two texts, in new pairs -/
def ItzS (x y : Str) : It :=
  ⟨fun i _ => i < x.cps.size ∧ i < y.cps.size, fun i H v H' => ∃ T c d, v = .ref T ∧ H T = none ∧ H' = upd H T (.tup [.str ⟨#[c]⟩, .str ⟨#[d]⟩]) ∧ x.cps[i]? = some c ∧ y.cps[i]? = some d,
    fun i _ => i ≤ x.cps.size ∧ i ≤ y.cps.size ∧ (i = x.cps.size ∨ i = y.cps.size)⟩
theorem turn_zipS {P : Program} {w : World} {K : PySem.W.Frag} {elts : List Expr} {kk : Nat} {tpos : Pos} {z TI TO i1 i2 : Addr} (D : ZipSep2 z TI TO i1 i2 [i1] [i2]) (x y : Str) (tx ty : Tok) :
    Turn P w K (.Tuple elts kk tpos) (ItzS x y) [z, TI, TO, i1, i2] z (fun i h => IsZip h z TI TO .none ∧ IsTupOf2 h TI (.ref i1) (.ref i2) ∧ (∃ u v, IsTupOf2 h TO u v) ∧ h.IsStrIter i1 (strIterType x) x tx i ∧ h.IsStrIter i2 (strIterType y) y ty i) where
  mem := by simp
  obj := fun i h st c hc => by
    obtain ⟨hz, hTI, ⟨u, v, hTO⟩, ⟨o1, e1, _, d1⟩, ⟨o2, e2, _, d2⟩⟩ := st
    have e' : c = z ∨ c = TI ∨ c = TO ∨ c = i1 ∨ c = i2 := by simpa using hc
    rcases e' with q | q | q | q | q
    · rw [q]; exact ⟨_, hz, fun v q => nomatch q⟩
    · rw [q]; exact ⟨_, hTI, fun v q => nomatch q⟩
    · rw [q]; exact ⟨_, hTO, fun v q => nomatch q⟩
    · rw [q]; exact ⟨o1, e1, fun v q => by rw [d1] at q; cases q⟩
    · rw [q]; exact ⟨o2, e2, fun v q => by rw [d2] at q; cases q⟩
  keep := fun i h h' st k => by
    obtain ⟨hz, hTI, ⟨u, v, hTO⟩, ⟨o1, e1, r1⟩, ⟨o2, e2, r2⟩⟩ := st
    exact ⟨k z (by simp) _ hz, k TI (by simp) _ hTI, ⟨u, v, k TO (by simp) _ hTO⟩, ⟨o1, k i1 (by simp) _ e1, r1⟩, ⟨o2, k i2 (by simp) _ e2, r2⟩⟩
  item := by
    intro X hP hw hK hc i pins s σ H E I hf st hg
    subst hP hw hK
    obtain ⟨hz, hTI, ⟨x0, y0, hTO⟩, h1, h2⟩ := st
    obtain ⟨l1, l2⟩ := hg
    have hzl : z < s.heap.objs.size := Heap.lt_size hz
    have hh : X.A.in1.handled = none := I.ok.hd hc
    refine wpAny_pyNext_zipD2_item D (Draws.text hh i1 x tx) (Draws.text hh i2 y ty) hz hTI hTO h1 h2 l1 l2 fun u u2 h' tk hu hu2 z' TO' h1' h2' hT hsz hk => ?_
    obtain ⟨c, t1, hc1, rfl⟩ := hu
    obtain ⟨d, t2, hd1, rfl⟩ := hu2
    refine ⟨_, rfl, wpAny_letOwnedTupleGo_zip (s := { s with heap := h', toks := tk }) z' fun h'' z'' sb => ?_⟩
    have hT2 : h''.get? s.heap.objs.size = some { cls := .type "tuple", data := .seq #[.str ⟨#[c]⟩ t1, .str ⟨#[d]⟩ t2] } := (sb.2 _ (Nat.ne_of_gt hzl)).trans hT
    have new : ObjOk X.prog X.w (upd H s.heap.objs.size (.tup [.str ⟨#[c]⟩, .str ⟨#[d]⟩])) h'' s.heap.objs.size (.tup [.str ⟨#[c]⟩, .str ⟨#[d]⟩]) :=
      ⟨by show 2 ≤ sizeLine; decide, [.str ⟨#[c]⟩ t1, .str ⟨#[d]⟩ t2], .cons ⟨_, rfl⟩ (.cons ⟨_, rfl⟩ .nil), ⟨_, hT2, rfl, _, rfl⟩⟩
    have I1 : Inv X pins σ (upd H s.heap.objs.size (.tup [.str ⟨#[c]⟩, .str ⟨#[d]⟩])) { s with heap := h'', toks := tk } :=
      I.turnedNew (t' := tk) (ch := [z, TI, TO, i1, i2]) (fun c o hb q => (sb.2 c (fun q' => hb (by simp [q']))).trans (hk c o (fun q' => hb (by simp [q'])) (fun q' => hb (by simp [q'])) (fun q' => hb (by simp [q'])) (fun q' => hb (by simp [q'])) q)) hf (Nat.le_refl _) new
    obtain ⟨oo1, ee1, rr1⟩ := h1'
    obtain ⟨oo2, ee2, rr2⟩ := h2'
    refine ⟨.ref s.heap.objs.size, _, I1, rfl, ⟨_, c, d, rfl, I.hok.fresh (Nat.le_refl _), rfl, hc1, hd1⟩, ⟨z'', ?_, ⟨.str ⟨#[c]⟩ t1, .str ⟨#[d]⟩ t2, ?_⟩, ⟨oo1, ?_, rr1⟩, ⟨oo2, ?_, rr2⟩⟩, fun c hcm => ?_⟩
    · exact (sb.2 _ D.TIz).trans (hk _ _ D.TIz D.TITO D.TIi1 D.TIi2 hTI)
    · exact (sb.2 _ D.TOz).trans TO'
    · exact (sb.2 _ (Ne.symm D.zi1)).trans ee1
    · exact (sb.2 _ (Ne.symm D.zi2)).trans ee2
    · have hlt : c < s.heap.objs.size := by
        have e' : c = z ∨ c = TI ∨ c = TO ∨ c = i1 ∨ c = i2 := by simpa using hcm
        rcases e' with q | q | q | q | q
        · rw [q]; exact hzl
        · rw [q]; exact Heap.lt_size hTI
        · rw [q]; exact Heap.lt_size hTO
        · rw [q]; obtain ⟨_, e1, _⟩ := h1; exact Heap.lt_size e1
        · rw [q]; obtain ⟨_, e2, _⟩ := h2; exact Heap.lt_size e2
      rw [upd_ne (Nat.ne_of_lt hlt)]
      exact (hf c hcm).1
  done := by
    intro X hP hw hK hc i pins s σ H E I hf st hg
    subst hP hw hK
    obtain ⟨hz, hTI, ⟨x0, y0, hTO⟩, h1, h2⟩ := st
    obtain ⟨l1, l2, l3⟩ := hg
    have hh : X.A.in1.handled = none := I.ok.hd hc
    exact wpAny_pyNext_zipD2_end D (Draws.text hh i1 x tx) (Draws.text hh i2 y ty) hz hTI hTO h1 h2 l1 l2 l3 fun h' tk hk => ⟨rfl, I.turnedL (t' := tk) (ch := [z, TI, TO, i1, i2]) (fun c o hb q =>
      hk c o (fun q' => hb (by simp [q'])) (fun q' => hb (by simp [q'])) (fun q' => hb (by simp [q'])) (fun q' => hb (by simp [q'])) q) hf⟩
  self := fun A i s Q E st h => wpAny_pyIter_zip st.1 h
/-- zip of two texts, of two lists, of two tuples -/
def iZipX (K : PySem.W.Frag) (ta : TA) : TI := fun σ H R => ta σ H fun vs H1 => (∃ x y, vs = [.str x, .str y] ∧ R (ItzS x y) H1) ∨ ∃ a b xs ys, vs = [.ref a, .ref b] ∧ ((SqL K H1 a xs ∧ SqL K H1 b ys ∧ R (Itz K a b) H1) ∨ (SqT K H1 a xs ∧ SqT K H1 b ys ∧ R (RZ.ItzT K a b) H1))
theorem pi_zipX {X : Cx} {K : PySem.W.Frag} {e e2 : Expr} {ta : TA} {p pos tpos : Pos} {elts : List Expr} {kk : Nat} (hK : X.K = K) (hg : Gl X "zip") (hm : X.mg "zip" = none) (ha : PA X [e, e2] ta)
    (hs : starEach [e, e2] X.env = (false, eval e X.env) :: starEach [e2] X.env := by rfl) (hpl : (backTo pos (starEach [e2] X.env)).any (·.1) = false := by rfl) :
    PI X (.Tuple elts kk tpos) (.Call (.Name "zip" p) [e, e2] [] pos) (iZipX K ta) := by
  refine ⟨fun pins s σ H R I h => ?_⟩
  have split : PA X [e, e2] (fun σ H Q => ta σ H Q) := ha
  refine Call_ (ld_blt I hg hm PyProof.Rows.boot_zip (PyProof.Rows.callWith_type1 (thn (ha.run pos pins s σ H _ I h) fun us s1 ⟨vs, H1, I1, r1, q1⟩ => ?_) hs hpl))
  have fresh5 : ∀ c, c ∈ [s1.heap.objs.size + 4, s1.heap.objs.size + 2, s1.heap.objs.size + 3, s1.heap.objs.size, s1.heap.objs.size + 1] → FpOk X pins H1 c := fun c hcm => by
    have e' : c = s1.heap.objs.size + 4 ∨ c = s1.heap.objs.size + 2 ∨ c = s1.heap.objs.size + 3 ∨ c = s1.heap.objs.size ∨ c = s1.heap.objs.size + 1 := by simpa using hcm
    have hle : s1.heap.objs.size ≤ c := by omega
    exact I1.fpOk hle (I1.hok.fresh hle)
  rcases q1 with ⟨x, y, ex, q⟩ | ⟨a, b, xs, ys, ex, q1⟩
  · subst ex
    obtain ⟨u, u2, rfl, ⟨t1, rfl⟩, ⟨t2, rfl⟩⟩ : ∃ u u2, us = [u, u2] ∧ RelV (.str x) u ∧ RelV (.str y) u2 := by
      cases r1 with
      | cons r rr =>
        cases rr with
        | cons r' rr =>
          cases rr
          exact ⟨_, _, rfl, r, r'⟩
    refine zip_begins2 (begins_text x t1) (begins_text y t2) trivial trivial fun h' hz hTI hTO h1 h2 hsz hk => wpAny_pyIter_zip hz ?_
    have I2 : Inv X pins σ H1 { s1 with heap := h' } := I1.kept (t' := s1.toks) hk
    have S : ZipSep2 (s1.heap.objs.size + 4) (s1.heap.objs.size + 2) (s1.heap.objs.size + 3) s1.heap.objs.size (s1.heap.objs.size + 1) [s1.heap.objs.size] [s1.heap.objs.size + 1] := zip_sep2 (N := s1.heap.objs.size) (fp1 := []) (fp2 := []) (by simp) (by simp)
    exact ⟨s1.heap.objs.size + 4, [s1.heap.objs.size + 4, s1.heap.objs.size + 2, s1.heap.objs.size + 3, s1.heap.objs.size, s1.heap.objs.size + 1], _, _, H1, rfl, I2, turn_zipS S x y t1 t2, ⟨hz, hTI, ⟨_, _, hTO⟩, ⟨_, h1, rfl, rfl⟩, ⟨_, h2, rfl, rfl⟩⟩, fresh5, q⟩
  · subst ex
    subst hK
    cases r1 with
    | cons r rr =>
      cases rr with
      | cons r' rr =>
        cases rr
        cases r
        cases r'
        rcases q1 with ⟨hqx, hqy, q⟩ | ⟨hqx, hqy, q⟩
        · obtain ⟨its, rv, p1, _⟩ := I1.list hqx
          obtain ⟨its2, rv2, p2, _⟩ := I1.list hqy
          refine call_zip_2 p1.isList p2.isList fun h' hz hTI hTO h1 h2 hsz hk => wpAny_pyIter_zip hz ?_
          have I2 : Inv X pins σ H1 { s1 with heap := h' } := I1.kept (t' := s1.toks) hk
          exact ⟨s1.heap.objs.size + 4, [s1.heap.objs.size + 4, s1.heap.objs.size + 2, s1.heap.objs.size + 3, s1.heap.objs.size, s1.heap.objs.size + 1], _, _, H1, rfl, I2, turn_zip (PySem.W.ktu_apart s1.heap.objs.size a b p1.lt p2.lt), ⟨hz, hTI, ⟨_, _, hTO⟩, h1, h2⟩, fresh5, q⟩
        · obtain ⟨its, rv, p1, _⟩ := I1.tuple hqx
          obtain ⟨its2, rv2, p2, _⟩ := I1.tuple hqy
          obtain ⟨o1, ho1, _⟩ := id p1
          obtain ⟨o2, ho2, _⟩ := id p2
          refine RZ.call_zipT (show s1.heap.IsTuple a its.toArray from p1) (show s1.heap.IsTuple b its2.toArray from p2) fun h' hz hTI hTO h1 h2 hsz hk => wpAny_pyIter_zip hz ?_
          have I2 : Inv X pins σ H1 { s1 with heap := h' } := I1.kept (t' := s1.toks) hk
          exact ⟨s1.heap.objs.size + 4, [s1.heap.objs.size + 4, s1.heap.objs.size + 2, s1.heap.objs.size + 3, s1.heap.objs.size, s1.heap.objs.size + 1], _, _, H1, rfl, I2, RZ.turn_zipT (PySem.W.ktu_apart s1.heap.objs.size a b (Heap.lt_size ho1) (Heap.lt_size ho2)), ⟨hz, hTI, ⟨_, _, hTO⟩, h1, h2⟩, fresh5, q⟩
section
variable {g : TG} {tt : TT} {te : TE} {tr : TA} {vs : List Nat} {σ : L2.St} {H : Hp} {Q : VK} {K : PySem.W.Frag} {xs ys : List V} {a b : Addr}
def LcZX (K : PySem.W.Frag) (g : TG) (tt : TT) (te : TE) (vs : List Nat) (σ : L2.St) (Q : VK) (ws : List V) (H : Hp) : Prop := (∃ x y, ws = [.str x, .str y] ∧ LcAny (ItzS x y) g tt te vs σ H Q) ∨ ∃ a b xs ys, ws = [.ref a, .ref b] ∧ ((SqL K H a xs ∧ SqL K H b ys ∧ LcAny (Itz K a b) g tt te vs σ H Q) ∨ (SqT K H a xs ∧ SqT K H b ys ∧ LcAny (RZ.ItzT K a b) g tt te vs σ H Q))
theorem b_lcZX (q : tr σ H fun ws H1 => LcZX K g tt te vs σ Q ws H1) : tLc (iZipX K tr) g tt te vs σ H Q := q
theorem e_lcZS {x y : Str} (hn : y.cps.size ≤ x.cps.size) (Pv : Addr → Nat → Hp → Prop) (h0 : ∀ D H', H D = none → H' D = some (.lst []) → Same H H' → Pv D 0 H')
    (hs : ∀ D i c d T H' H2, H D = none → x.cps[i]? = some c → y.cps[i]? = some d → Pv D i H' → H' T = none → H2 T = some (.tup [.str ⟨#[c]⟩, .str ⟨#[d]⟩]) → Same H' H2 → Turn1 g tt te vs σ D (.ref T) H2 (Pv D (i + 1)))
    (hd : ∀ D H', H D = none → Pv D y.cps.size H' → Q (.ref D) H') : LcZX K g tt te vs σ Q [.str x, .str y] H := by
  refine .inl ⟨x, y, rfl, lc_by y.cps.size Pv h0 (fun D i H' nD hi p => ⟨⟨by omega, hi⟩, ?_⟩) (fun D H' nD p => ⟨⟨hn, Nat.le_refl _, .inr rfl⟩, hd D H' nD p⟩)⟩
  rintro v H2 ⟨T, c, d, rfl, nT, rfl, hc, hd'⟩
  exact hs D i c d T H' _ nD hc hd' p nT upd_same (same_upd nT)
theorem e_lcZL (hS : SqL K H a xs) (hS2 : SqL K H b ys) (hn : ys.length ≤ xs.length) (Pv : Addr → Nat → Hp → Prop) (h0 : ∀ D H', H D = none → H' D = some (.lst []) → Same H H' → Pv D 0 H')
    (hl : ∀ D i H', H D = none → Pv D i H' → SqL K H' a xs ∧ SqL K H' b ys)
    (hs : ∀ D i x y T H' H2, H D = none → xs[i]? = some x → ys[i]? = some y → Pv D i H' → H' T = none → H2 T = some (.tup [x, y]) → Same H' H2 → Turn1 g tt te vs σ D (.ref T) H2 (Pv D (i + 1)))
    (hd : ∀ D H', H D = none → Pv D ys.length H' → Q (.ref D) H') : LcZX K g tt te vs σ Q [.ref a, .ref b] H := by
  refine .inr ⟨a, b, xs, ys, rfl, .inl ⟨hS, hS2, lc_by ys.length Pv h0 (fun D i H' nD hi p => ⟨⟨xs, ys, xs[i]'(by omega), ys[i], (hl D i H' nD p).1, (hl D i H' nD p).2, List.getElem?_eq_getElem (by omega), by simp [hi]⟩, ?_⟩) (fun D H' nD p => ⟨⟨xs, ys, (hl D _ H' nD p).1, (hl D _ H' nD p).2, .inr (Nat.le_refl _)⟩, hd D H' nD p⟩)⟩⟩
  rintro v H2 ⟨T, x, y, rfl, nT, rfl, hv, hw⟩
  exact hs D i x y T H' _ nD (hv xs (hl D i _ nD p).1) (hw ys (hl D i _ nD p).2) p nT upd_same (same_upd nT)
theorem e_lcZXT (hS : SqT K H a xs) (hS2 : SqT K H b ys) (hn : ys.length ≤ xs.length) (Pv : Addr → Nat → Hp → Prop) (h0 : ∀ D H', H D = none → H' D = some (.lst []) → Same H H' → Pv D 0 H')
    (hl : ∀ D i H', H D = none → Pv D i H' → SqT K H' a xs ∧ SqT K H' b ys)
    (hs : ∀ D i x y T H' H2, H D = none → xs[i]? = some x → ys[i]? = some y → Pv D i H' → H' T = none → H2 T = some (.tup [x, y]) → Same H' H2 → Turn1 g tt te vs σ D (.ref T) H2 (Pv D (i + 1)))
    (hd : ∀ D H', H D = none → Pv D ys.length H' → Q (.ref D) H') : LcZX K g tt te vs σ Q [.ref a, .ref b] H := by
  refine .inr ⟨a, b, xs, ys, rfl, .inr ⟨hS, hS2, lc_by ys.length Pv h0 (fun D i H' nD hi p => ⟨⟨xs, ys, xs[i]'(by omega), ys[i], (hl D i H' nD p).1, (hl D i H' nD p).2, List.getElem?_eq_getElem (by omega), by simp [hi]⟩, ?_⟩) (fun D H' nD p => ⟨⟨xs, ys, (hl D _ H' nD p).1, (hl D _ H' nD p).2, .inr (Nat.le_refl _)⟩, hd D H' nD p⟩)⟩⟩
  rintro v H2 ⟨T, x, y, rfl, nT, rfl, hv, hw⟩
  exact hs D i x y T H' _ nD (hv xs (hl D i _ nD p).1) (hw ys (hl D i _ nD p).2) p nT upd_same (same_upd nT)
end
end FG

/-! FG: [*d.values(), ..], tuple(d) -/
namespace FG
open PySem PySem.Spec PyProof.Rows L2
section
variable {prog : Program} {w : World} {A : Around} {E : Value → Shared → Prop} {s : Shared} {T : String} {r d : Addr} {n : Nat} {P : Nat → Value → Prop} {OK : Heap → Prop}
theorem collect_kdl {Q : List Value → Shared → Prop} (K : PySem.W.KdlSrc prog w T r d n P OK) (hh : A.handled = none) (hok : OK s.heap) (hn : n ≤ sizeLine)
    (hQ : ∀ (h' : Heap) (tk : Nat) (acc : Array Value), (∀ b o, s.heap.get? b = some o → h'.get? b = some o) → ItemsOf P acc n → Q acc.toList { s with heap := h', toks := tk }) :
    wpAny (model prog w) A (collect (.ref r)) Q E s := by
  obtain ⟨lr, ld⟩ := K.there _ hok
  unfold collect
  refine wpAny_bind (wpAny_runValue (codeAny_builtin F.entry_proto_collect ?_))
  rw [Around.under_plainId F.plain_proto_collect _]
  show wpAny _ A.in1 (newList [] >>= fun l => again (.builtin "list.__iadd__" ⟨[l, .ref r], []⟩)) _ _ s
  refine wpAny_bind (wpAny_newObj_type ?_)
  refine wpAny_pure ⟨plainId_quiet F.plain_list_iadd _, codeAny_builtin F.entry_list_iadd ?_⟩
  rw [Around.under_plainId F.plain_list_iadd _]
  show wpAny _ A.in1 (Builtin.List.listExtendWith (.ref s.heap.objs.size) (.ref r) (.ref s.heap.objs.size)) _ _ _
  have hS : (s.heap.push { cls := .type "list", data := .seq ([] : List Value).toArray }).get? s.heap.objs.size = some { cls := .type "list", data := .seq #[] 0 } := Heap.get?_push_size _ rfl
  have hok2 : OK (s.heap.push { cls := .type "list", data := .seq ([] : List Value).toArray }) := K.keep _ _ hok fun b _ o e => Heap.get?_push_of_some _ e
  refine wpAny_mono (PySem.W.kdl_extend (A := A) (R := fun rr s' => rr = .ok (.ret (.ref s.heap.objs.size)) ∧ ∃ (h' : Heap) (tk : Nat) (acc : Array Value) (c' : Nat), s' = { s with heap := h', toks := tk } ∧
      (∀ b o, s.heap.get? b = some o → h'.get? b = some o) ∧ h'.get? s.heap.objs.size = some { cls := .type "list", dict := none, data := .seq acc c', slots := #[] } ∧ ItemsOf P acc n)
    (s := { s with heap := s.heap.push { cls := .type "list", data := .seq ([] : List Value).toArray } }) K hh hok2 _ (Nat.ne_of_gt lr) (Nat.ne_of_gt ld) _ 0 hS
    (fun h' tk acc c' hk e hi => ⟨rfl, h', tk, acc, c', rfl, fun b o q => hk b o (Nat.ne_of_lt (Heap.lt_size q)) (Heap.get?_push_of_some _ q), e, hi⟩) hn) (fun fin s' h => ?_) (fun e s' h => ?_)
  · cases fin with
    | done f =>
      obtain ⟨e, h', tk, acc, c', rfl, hk, hS', hi⟩ := h
      cases e
      show wpAny _ A (load s.heap.objs.size >>= _) _ _ _
      exact wpAny_bind (wpAny_load hS' (wpAny_pure (hQ h' tk acc hk hi)))
    | again c' =>
      refine ⟨h.1, codeAny_mono h.2 fun rr s'' hr' => ?_⟩
      obtain ⟨rfl, h', tk, acc, c', rfl, hk, hS', hi⟩ := hr'
      show wpAny _ A (load s.heap.objs.size >>= _) _ _ _
      exact wpAny_bind (wpAny_load hS' (wpAny_pure (hQ h' tk acc hk hi)))
  · exact absurd h.1 (by simp)
end
def tStarV (td : TE) (t : TA) : TA := fun σ H Q => td σ H fun x H1 => ∃ d kvs, x = .ref d ∧ H1 d = some (.dK kvs) ∧ t σ H1 fun ys H2 => Q (kvs.map (·.2) ++ ys) H2
/-- *d.values() ahead -/
theorem pa_starV {X : Cx} {e : Expr} {es : List Expr} {td : TE} {t : TA} {p apos cpos : Pos} (hc : X.calm = true) (he : PE X e td) (hr : PA X es t)
    (hs : starEach (.Starred (.Call (.Attribute e "values" apos) [] [] cpos) p :: es) X.env = (true, eval (.Call (.Attribute e "values" apos) [] [] cpos) X.env) :: starEach es X.env := by rfl)
    (hbase : attributeBase e "values" X.env (eval e X.env) = eval e X.env := by rfl) (hline : (apos.endLine == cpos.line) = true := by rfl) :
    PA X (.Starred (.Call (.Attribute e "values" apos) [] [] cpos) p :: es) (tStarV td t) := by
  refine ⟨fun pos pins s σ H Q I h => ?_⟩
  refine PySem.W.items_star ?_ hs
  refine wpAny_Call_method (T := "dict") (id := "dict.values") hbase rfl hline F.plainAttrs_dict F.slot_dict_values F.type_dict_values (thn (he.run pins s σ H _ I h) fun u s1 ⟨x, H1, I1, rx, d, kvs, ex, hd, q⟩ => ?_)
  subst ex
  obtain rfl : u = Value.ref d := rx
  obtain ⟨z, lo, vs, rk, hdd⟩ := (show ObjOk X.prog X.w H1 s1.heap d (.dK kvs) from I1.hok d _ hd)
  obtain ⟨ep, hat⟩ := hdd.dictAt
  have hl : kvs.length = vs.length := Paired.length rk
  refine ⟨hat.dictOf.typeIs, hat.dictOf.mapOf.noDict, ?_⟩
  have I2 : Inv X pins σ H1 { s1 with heap := s1.heap.push { cls := .type "dict_values", data := .fields #[.ref d] } } := I1.kept (t' := s1.toks) fun b ob q => Heap.get?_push_of_some _ q
  have fin : PySem.W.StarOf (model X.prog X.w) X.A X.xe (.ref s1.heap.objs.size) (fun here s₂ => wpAny (model X.prog X.w) X.A (spliced (backTo pos (starEach es X.env))) (fun vs s₃ => AP X pins σ Q (here ++ vs) s₃) X.xe s₂) { s1 with heap := s1.heap.push { cls := .type "dict_values", data := .fields #[.ref d] } } := by
    have hv : (s1.heap.push { cls := .type "dict_values", data := .fields #[.ref d] }).IsValuesView s1.heap.objs.size d := ⟨_, Heap.get?_push_size _ rfl, rfl, rfl⟩
    have hT : ({ s1 with heap := s1.heap.push { cls := .type "dict_values", data := .fields #[.ref d] } } : Shared).TypeIs (.ref s1.heap.objs.size) "dict_values" := hv.typeIs
    have zz : wpAny (model X.prog X.w) X.A (collect (.ref s1.heap.objs.size)) (fun here s₂ => wpAny (model X.prog X.w) X.A (spliced (backTo pos (starEach es X.env))) (fun vs s₃ => AP X pins σ Q (here ++ vs) s₃) X.xe s₂) X.xe { s1 with heap := s1.heap.push { cls := .type "dict_values", data := .fields #[.ref d] } } := by
      refine collect_kdl (PySem.W.kdl_values (knd := mixKind X.prog X.w) (kvs := vs) (ep := ep)) (I1.ok.hd hc) ⟨hv, hat.push _⟩ (by rw [← hl]; exact z) fun h' tk acc hk hi => ?_
      have I3 : Inv X pins σ H1 { s1 with heap := h', toks := tk } := I2.kept (t' := tk) hk
      have el : acc.toList.length = acc.size := by simp
      have rv : Vals (kvs.map (·.2)) acc.toList := by
        refine vals_of_at (by rw [List.length_map, el, hi.1, hl]) fun j y w h1 h2 => ?_
        obtain ⟨k, hk2⟩ := hi.2 j w (by rw [← Array.getElem?_toList]; exact h2)
        obtain ⟨rv2, _⟩ := kv_vals rk
        obtain ⟨w', hw', rw'⟩ := rv2.get h1
        rw [List.getElem?_map, hk2] at hw'
        cases hw'
        exact rw'
      exact thn (hr.run pos pins _ σ H1 _ I3 q) fun ws s3 ⟨vs, H3, I4, r3, q3⟩ => ⟨kvs.map (·.2) ++ vs, H3, I4, rv.append r3, q3⟩
    unfold PySem.W.StarOf notIterableAtAll
    exact wpAny_bind (wpAny_specialOf hT PySem.F.slot_dict_values_iter.lookup (wpAny_pure ⟨rfl, zz⟩))
  show wpAny _ _ (callWith cpos (.builtin "dict.values") [.ref d] [] []) _ X.xe s1
  exact method_meetsIn F.slot_dict_values F.entry_dict_values rfl (PySem.evalArgs_none ⟨rfl, hat.dictOf.typeIs, F.args_dict_values_1 _, _, meets_dict_values (mixKind X.prog X.w) d lo, ⟨vs, hat.dictOf⟩, fin⟩)
end FG

/-! FG: list(text), tuple(d) of a dict's keys -/
namespace FG
open PySem PySem.Spec PyProof.Rows L2
section
variable {prog : Program} {w : World} {A : Around} {E : Value → Shared → Prop} {s : Shared}
theorem ext_str {R : Result → Shared → Prop} (hh : A.handled = none) (x : Str) (t : Tok) (S : Addr) (res : Value) (c₀ : Nat) (hS : s.heap.get? S = some { cls := .type "list", data := .seq #[] c₀ })
    (hR : ∀ s' acc' c', (∀ b o, b ≠ S → s.heap.get? b = some o → s'.heap.get? b = some o) → s'.gens = s.gens → s'.drawn = s.drawn → s'.os = s.os → s'.heap.get? S = some { cls := .type "list", dict := none, data := .seq acc' c', slots := #[] } → ItemsOf (SignAt x) acc' x.cps.size → R (.ok (.ret res)) s') (hn : x.cps.size ≤ sizeLine) :
    wpAny (model prog w) A.in1 (Builtin.List.listExtendWith (.ref S) (.str x t) res)
      (fun fin s' => match fin with | .done f => R (.ok f) s' | .again c' => c'.quiet = true ∧ codeAny (model prog w) A c' R s') (fun e s' => R (.error e) s') s := by
  have hlt : S < s.heap.objs.size := Heap.lt_size hS
  unfold Builtin.List.listExtendWith
  refine wpAny_bind (wpAny_typeOf (T := "str") (v := .str x t) rfl ?_)
  have h1 : Builtin.List.listSameRef (.ref S) (.str x t) = false := rfl
  have h2 : (Value.type "str" == Value.type "list") = false := by decide
  have h3 : (Value.type "str" == Value.type "tuple") = false := by decide
  simp only [h1, h2, h3, Bool.or_false, Bool.false_eq_true, if_false]
  refine wpAny_bind (wpAny_pyIter_str fun o St W hst => ?_)
  refine wpAny_bind (wpAny_holding ?_)
  unfold Builtin.List.listLengthHint
  refine wpAny_bind (wpAny_specialOf (T := "str") (v := .str x t) rfl PySem.F.str_len ?_)
  wp_delta
  refine wpAny_bind (wpAny_isInstance (T := "str") (v := .str x t) (b := true) rfl (by rw [isSubtype_type]; kernel_rfl) ?_)
  show wpAny _ A.in1 (typeOf (Value.str x t) >>= _) _ _ _
  refine wpAny_bind (wpAny_typeOf (T := "str") (v := .str x t) rfl ?_)
  refine wpAny_pure ?_
  rw [if_neg (by decide)]
  have hSf : S ∉ [s.heap.objs.size] := fun hm => by rw [List.mem_singleton.mp hm] at hlt; exact absurd hlt (Nat.lt_irrefl _)
  have hS2 : (s.heap.push o).get? S = some { cls := .type "list", data := .seq #[] c₀ } := Heap.get?_push_of_some _ hS
  refine wpAny_pure ⟨plainId_quiet F.plain_extend_loop _, codeAny_extend_loopS (W A.in1 hh).toS hn _ hSf _ x.cps.size 0 _ _ _ rfl (Nat.zero_le _) hst hS2 (ItemsOf.nil _) fun s' acc' c' hm hS' hacc => ?_⟩
  refine hR s' acc' c' (fun b ob hb e => hm.heap b ob (fun hbm => ?_) (Heap.get?_push_of_some _ e)) hm.gens hm.drawn hm.os hS' hacc
  have hl2 := Heap.lt_size e
  rcases List.mem_cons.mp hbm with h | h
  · exact hb h
  · rw [List.mem_singleton.mp h] at hl2; exact absurd hl2 (Nat.lt_irrefl _)
theorem list_str {Q : Value → Shared → Prop} (hh : A.handled = none) (x : Str) (t : Tok) (hn : x.cps.size ≤ sizeLine)
    (hQ : ∀ s' acc' c', (∀ b o, s.heap.get? b = some o → s'.heap.get? b = some o) → s'.gens = s.gens → s'.drawn = s.drawn → s'.os = s.os → s'.heap.get? s.heap.objs.size = some { cls := .type "list", dict := none, data := .seq acc' c', slots := #[] } → ItemsOf (SignAt x) acc' x.cps.size → Q (.ref s.heap.objs.size) s') :
    wpAny (model prog w) A (call (.type "list") [.str x t]) Q E s := by
  refine callType_codes (Q₁ := fun obj s₁ => obj = .ref s.heap.objs.size ∧ s₁ = { s with heap := s.heap.push { cls := .type "list", data := .seq #[] } }) PySem.F.called_list (PySem.F.typeCall_list_1 _) PySem.F.entry_list_init
    (code_list_new _ ⟨rfl, rfl⟩) fun obj s₁ h₁ => ?_
  obtain ⟨rfl, rfl⟩ := h₁
  have hS : (s.heap.push { cls := .type "list", data := .seq #[] }).get? s.heap.objs.size = some { cls := .type "list", data := .seq #[] } := Heap.get?_push_size _ rfl
  refine ⟨⟨_, hS, rfl⟩, PySem.F.args_list_init_2 _ _, ?_⟩
  show wpAny _ _ (do let old ← Builtin.List.listItems (.ref s.heap.objs.size); Builtin.List.listUpdate (.ref s.heap.objs.size) (fun _ => #[]); letGo old.toList.reverse; Builtin.List.listExtendWith (.ref s.heap.objs.size) (.str x t) .none) _ _ _
  refine wpAny_bind ?_
  unfold Builtin.List.listItems
  refine wpAny_bind (wpAny_seqItems hS rfl (wpAny_pure ?_))
  show wpAny _ _ (updateSeq s.heap.objs.size (fun _ => #[]) >>= fun _ => letGo (#[] : Array Value).toList.reverse >>= fun _ => Builtin.List.listExtendWith (.ref s.heap.objs.size) (.str x t) .none) _ _ _
  refine wpAny_bind (wpAny_updateSeq hS rfl ?_)
  have hS₂ := Heap.get?_update_self (Obj.mapSeq (fun _ => (#[] : Array Value))) hS rfl
  have oth : ∀ b o, b ≠ s.heap.objs.size → (s.heap.push { cls := .type "list", data := .seq #[] }).get? b = some o → ((s.heap.push { cls := .type "list", data := .seq #[] }).update s.heap.objs.size (Obj.mapSeq (fun _ => (#[] : Array Value)))).get? b = some o :=
    fun b o hb e => (Heap.get?_update_other _ _ (Ne.symm hb)).trans e
  refine wpAny_bind (wpAny_letGo ?_)
  refine ext_str (A := A.in1) hh x t s.heap.objs.size .none _ hS₂ (fun s' acc' c' hk hg hd ho hS' hacc => ?_) hn
  exact ⟨rfl, hQ s' acc' c' (fun b o e => hk b o (Nat.ne_of_lt (Heap.lt_size e)) (oth b o (Nat.ne_of_lt (Heap.lt_size e)) (Heap.get?_push_of_some _ e))) hg hd ho hS' hacc⟩
end
def rListS : List V → Hp → VK → Prop := fun xs H Q => ∃ x : Str, xs = [.str x] ∧ x.length ≤ sizeLine ∧ ∀ q, H q = none → Q (.ref q) (upd H q (.lst (x.cps.toList.map fun c => V.str ⟨#[c]⟩)))
theorem call_list_str {X : Cx} (hc : X.calm = true) : CallR X (.type "list") rListS := by
  intro pins s σ H xs us Q I r h
  obtain ⟨x, rfl, hn, q⟩ := h
  obtain ⟨u, rfl, rx⟩ := vals1 r
  obtain ⟨t, rfl⟩ := rx
  refine list_str (I.ok.hd hc) x t hn fun s' acc' c' hk hg hd ho hS hacc => ?_
  obtain ⟨hp', g', d', tk', os'⟩ := s'
  cases hg
  cases hd
  cases ho
  refine ⟨.ref s.heap.objs.size, _, I.laid (t' := tk') (o := .lst (x.cps.toList.map fun c => V.str ⟨#[c]⟩)) hk (Nat.le_refl _) ⟨?_, acc'.toList, c', ?_, ?_⟩, rfl, q _ (I.hok.fresh (Nat.le_refl _))⟩
  · rw [List.length_map]
    have : x.cps.toList.length = x.length := by simp [Str.length]
    omega
  · have el : acc'.toList.length = acc'.size := by simp
    refine vals_of_at (by rw [List.length_map, el, hacc.1]; simp) fun j y v h1 h2 => ?_
    obtain ⟨c, u, hc', rfl⟩ := hacc.2 j v (by rw [← Array.getElem?_toList]; exact h2)
    rw [List.getElem?_map, Array.getElem?_toList, hc'] at h1
    cases h1
    exact ⟨_, rfl⟩
  · rw [Array.toArray_toList]; exact hS
end FG

/-! FG: what Program's text wants: int(text), x in a tuple that the top has computed, properties, dicts by steps -/
namespace FG
open PySem PySem.Spec PyProof.Rows L2
theorem at0 {α : Type} {x : α} {xs : List α} : atI (x :: xs) 0 = some x := atI_nat (j := 0) rfl
theorem at1 {α : Type} {x y : α} {xs : List α} : atI (x :: y :: xs) 1 = some y := atI_nat (j := 1) rfl
theorem at2 {α : Type} {x y z : α} {xs : List α} : atI (x :: y :: z :: xs) 2 = some z := atI_nat (j := 2) rfl
theorem unit1 {k : Nat} {A : Around} (r : Room k A) : A.units + 1 < cLine := by
  have := r.un
  omega
def qIntS : List V → Hp → VK → Prop := fun xs H Q => ∃ a n, xs = [.str a] ∧ PySem.intText? a = some n ∧ a.length ≤ 640 ∧ Q (.int n) H
theorem q_intS {X : Cx} : CallR X (.type "int") qIntS := call_int_str
/-- a tuple of texts that stands in the heap from the law's begin on -/
def BaseTup (base : Heap) (p : Addr) (ws : List Str) : Prop := ∃ o ts, base.get? p = some o ∧ o.cls = .type "tuple" ∧ (∃ n, o.data = .seq (ts : List Value).toArray n) ∧ Vals (ws.map V.str) ts
def rInB (p : Addr) (ws : List Str) : R2 := fun x y H Q => ∃ w : Str, x = .str w ∧ y = .ref p ∧ Q (.bl (decide (w ∈ ws))) H
theorem op_inB {X : Cx} {p : Addr} {ws : List Str} (hB : BaseTup X.base p ws) : OpR X (compareOp .In) (rInB p ws) := by
  intro pins s σ H x y v u Q I rx ry h
  obtain ⟨w, rfl, rfl, q⟩ := h
  cases ry
  obtain ⟨o, ts, ho, hc, ⟨n, hd⟩, rv⟩ := hB
  have ho2 := (I.env0.bs p o ho).1
  have pl : s.heap.IsTuple p ts.toArray := ⟨o, ho2, hc, n, hd⟩
  have fs : (ws.map V.str).all flatV = true := by
    rw [List.all_eq_true]
    intro z hz
    obtain ⟨a, _, rfl⟩ := List.mem_map.mp hz
    rfl
  refine SeqAt.in_tupleAt (eqU (.str w)) pl (fun z hz => mem_eqAt rx rfl rv fs z (by simpa using hz)) ⟨.bl _, H, I, rfl, ?_⟩
  rw [show ts.toArray.any (eqU (.str w)) = ts.any (eqU (.str w)) by simp, any_eqU rv fs]
  have e : (ws.map V.str).any (fun y => eqV y (.str w)) = decide (w ∈ ws) := by
    rw [Bool.eq_iff_iff, decide_eq_true_eq, List.any_eq_true]
    constructor
    · rintro ⟨z, hz, e⟩
      obtain ⟨a, ha, rfl⟩ := List.mem_map.mp hz
      have : (a == w) = true := e
      rw [beq_iff_eq] at this
      rw [← this]; exact ha
    · intro hw
      refine ⟨.str w, List.mem_map_of_mem hw, ?_⟩
      show (w == w) = true
      simp
  rw [e]
  exact q
section
variable {σ : L2.St} {H : Hp} {Q : VK} {ta tb : TE} {D : Ends} {K : PySem.W.Frag} {tv td ty : TE} {sp : Sp} {dvs : List V} {E : XK} {C : Addr} {p a : Addr} {ws : List Str}
theorem b_inB {w : Str} (q : Q (.bl (decide (w ∈ ws))) H) : rInB p ws (.str w) (.ref p) H Q := ⟨w, rfl, rfl, q⟩
theorem b_prop (q : ta σ H fun x H1 => ∃ a dx fs, x = .ref a ∧ H1 a = some (.ins C dx fs) ∧ sp (.ref a :: dvs) H1 Q E) : tProp C sp dvs E ta σ H Q := q
def DPutAt (x y v : V) (H : Hp) (k : Hp → Prop) : Prop := ∃ a H4, x = .ref a ∧ DPut H a y v H4 ∧ k H4
theorem b_dput (q : tv σ H fun v H1 => td σ H1 fun x H2 => ty σ H2 fun y H3 => DPutAt x y v H3 fun H4 => D.nx σ H4) : sDPut td ty tv D σ H := q
/-- d[k] = v -/
theorem e_dput {kvs : List (Key × V)} {k : Key} {v : V} {kk : Hp → Prop} (h : H a = some (.dK kvs)) (hl : kvs.length < 100000) (q : ∀ H', H' a = some (.dK (putK kvs k v)) → SameM (· = a) H H' → kk H') : DPutAt (.ref a) (kV k) v H kk :=
  ⟨a, _, rfl, .inl ⟨kvs, k, h, rfl, Nat.lt_of_lt_of_le hl (by decide), rfl⟩, q _ upd_same (SameM.upd rfl)⟩
def DInAt (x y : V) (H : Hp) (Q : VK) : Prop := ∃ a o, x = .ref a ∧ DGet H a y o ∧ Q (.bl o.isSome) H
theorem b_din (q : ty σ H fun y H1 => td σ H1 fun x H2 => DInAt x y H2 Q) : tDIn ty td σ H Q := q
theorem e_din {kvs : List (Key × V)} {k : Key} (h : H a = some (.dK kvs)) (q : Q (.bl (valV kvs k).isSome) H) : DInAt (.ref a) (kV k) H Q := ⟨a, _, rfl, DGet.k h, q⟩
theorem b_splitS {x y : Str} (q : (∃ z : Str, V.str x = .str z) ∧ Q (.str y) H) : (∃ z : Str, V.str x = .str z) ∧ Q (.str y) H := q
/-- a text cut: a new list -/
theorem e_split {x y : Str} {ys : List Str} (h0 : (y.length == 0) = false) (hl : x.length ≤ 100000) (hs : Txt.split x y = ys) (q : ∀ p H', H p = none → H' p = some (.lst (ys.map V.str)) → Same H H' → Q (.ref p) H') :
    ∃ a b, V.str x = .str a ∧ [V.str y] = [.str b] ∧ (b.length == 0) = false ∧ a.length + 2 ≤ sizeLine ∧ rNewStrs (Txt.split a b) H Q := by
  refine ⟨x, y, rfl, rfl, h0, Nat.le_trans (Nat.add_le_add_right hl 2) (by decide), ?_⟩
  rw [hs]
  exact fun p np => q p _ np upd_same (same_upd np)
theorem e_listS {x : Str} (hl : x.length ≤ 100000) (q : ∀ p H', H p = none → H' p = some (.lst (x.cps.toList.map fun c => V.str ⟨#[c]⟩)) → Same H H' → Q (.ref p) H') : rListS [.str x] H Q :=
  ⟨x, rfl, Nat.le_trans hl (by decide), fun p np => q p _ np upd_same (same_upd np)⟩
end
end FG

/-! FG: set(list of texts), sorted(that set) -/
namespace FG
open PySem PySem.Spec PyProof.Rows L2 PySem.Froz
/-- the set at a holds the texts l, each once -/
def SetX (P : Program) (w : World) (h : Heap) (a : Addr) (l : List Str) : Prop :=
  ∃ D : SD, h.get? a = some (sObj "set" D) ∧ TxOk P w D l ∧ Ris D.2.2.place.toList ∧ (w.params.followText "set-order" = true ∨ D.2.2.led = true) ∧ l.Nodup
theorem SetX.at {P : Program} {w : World} {h h' : Heap} {a : Addr} {l : List Str} (R : SetX P w h a l) (k : ∀ o, h.get? a = some o → h'.get? a = some o) : SetX P w h' a l := by
  obtain ⟨D, ho, r⟩ := R
  exact ⟨D, k _ ho, r⟩
theorem tail_ris {ep : Nat} {es : Array (Int × Value)} {t : SetTable} {b : Bool} (r : Ris t.place.toList) : Ris (tailTx ep es t b).2.2.place.toList := by
  unfold tailTx
  split
  · exact relayAll_ris _ _ _
  · exact r
theorem tail_led {ep : Nat} {es : Array (Int × Value)} {t : SetTable} {b : Bool} : (tailTx ep es t b).2.2.led = t.led := by
  unfold tailTx
  split
  · exact relayAll_led _ _ _
  · rfl
theorem addTx_ris {h : Int} {v : Value} {D : SD} (r : Ris D.2.2.place.toList) : Ris (addTx h v D).2.2.place.toList := by
  obtain ⟨es, ep, t⟩ := D
  have h1 := layNew_ris t es h v r
  refine tail_ris ?_
  split <;> exact h1
theorem addTx_led {h : Int} {v : Value} {D : SD} : (addTx h v D).2.2.led = D.2.2.led := by
  obtain ⟨es, ep, t⟩ := D
  have h1 := layNew_led t es h v
  refine tail_led.trans ?_
  split <;> exact h1
section
variable {P : Program} {w : World} {A : Around} {E : Value → Shared → Prop} {s : Shared}
theorem had_x {a : Addr} {T : String} {D : SD} {l : List Str} {k : Str} {u : Tok} {Q : Bool → Shared → Prop} (ho : s.heap.get? a = some (sObj T D)) (F : TxOk P w D l) (hk : k ∈ l) (hb : l.length < scanBound)
    (h : Q false s) : wpAny (model P w) A (setAddHashed a (.str k u) (hashStr w k)) Q E s := by
  obtain ⟨es, ep, t⟩ := D
  have hd : (sObj T (es, ep, t)).data = .set es ep t := rfl
  have hf : t.fits es.size = true := F.fit
  have hel : ElemsOf (PySem.strKind P w) es.toList := F.el
  have hsz : es.size = l.length := F.sz
  have hb0 : es.size < scanBound := by omega
  have hkey : (PySem.strKind P w).is k (.str k u) = true := is_str k u
  obtain ⟨e, he, q⟩ := (F.mem k).mp hk
  unfold setAddHashed setAddHashedIn
  refine wpAny_holding (wpAny_bind (wpAny_setState_of ho hd hf ?_))
  dsimp only
  rw [byScan_of rfl hb0 hel]
  simp only [↓reduceIte]
  unfold setAddByScan
  refine wpAny_bind ?_
  refine wpAny_bind (wpAny_rule ?_)
  refine wpAny_bind (wpAny_setScan_of (knd := PySem.strKind P w) (k := k) hkey ho hd hf hel ?_)
  cases hfi : List.findIdx? (fun e => (PySem.strKind P w).is k e.2) es.toList with
  | some j =>
    dsimp only
    exact wpAny_pure (wpAny_pure h)
  | none =>
    have c := List.findIdx?_eq_none_iff.mp hfi e he
    rw [q] at c
    cases c
theorem setX_add {a : Addr} {l : List Str} {k : Str} {u : Tok} {Q : Bool → Shared → Prop} (R : SetX P w s.heap a l) (hb : l.length + 1 < scanBound)
    (hQ : ∀ b h', Heap.SameBut a s.heap h' → SetX P w h' a (if k ∈ l then l else k :: l) → Q b { s with heap := h' }) : wpAny (model P w) A (setAddHashed a (.str k u) (hashStr w k)) Q E s := by
  obtain ⟨D, ho, F, r, hl, nd⟩ := R
  by_cases hk : k ∈ l
  · refine had_x ho F hk (by omega) ?_
    have q := hQ false s.heap (Heap.SameBut.refl a s.heap) (by rw [if_pos hk]; exact ⟨D, ho, F, r, hl, nd⟩)
    exact q
  · refine add_x ho F hk hb (hQ true _ (Heap.SameBut.update ..) ?_)
    rw [if_neg hk]
    exact ⟨_, get_upd _ ho rfl, add_ok u F, addTx_ris r, by rw [addTx_led]; exact hl, List.nodup_cons.mpr ⟨hk, nd⟩⟩
theorem setX_fresh {h : Heap} {a : Addr} (ho : h.get? a = some { cls := .type "set", dict := none, data := .set #[] 0 (.fresh 0 0 (!w.params.followText "set-order")) }) : SetX P w h a [] :=
  ⟨(#[], 0, _), ho, TxOk.nil rfl, List.Pairwise.nil, by
    show _ ∨ (!w.params.followText "set-order") = true
    cases w.params.followText "set-order"
    · exact .inr rfl
    · exact .inl rfl, List.nodup_nil⟩
theorem set_update_txts {I : Addr} {fp wr : List Addr} {G : Array GenState → Array GenState → Prop} {n : Nat} {Pv : Nat → Value → Prop} {St : Nat → Shared → Prop} {R : Result → Shared → Prop}
    (W : WalksS P w A.in1 I fp wr G n Pv St) (S : Addr) (hSf : S ∉ fp) (xs : List Str) (hn : n = xs.length) (hb : xs.length + 1 < scanBound) (hval : ∀ i v, Pv i v → ∃ k t, xs[i]? = some k ∧ v = .str k t) :
    ∀ (k i : Nat) (s : Shared), n - i = k → i ≤ n → St i s → (∃ l : List Str, l.length ≤ i ∧ (∀ x, x ∈ l ↔ x ∈ xs.take i) ∧ SetX P w s.heap S l) →
      (∀ s' l, Moved (S :: wr) G s s' → (∀ x, x ∈ l ↔ x ∈ xs) → l.length ≤ xs.length → SetX P w s'.heap S l → R (.ok (.ret .none)) s') →
      codeAny (model P w) A (.builtin "set.update.loop" ⟨[.ref S, .ref I], []⟩) R s := by
  have hSw : S ∉ wr := fun h => hSf (W.sub _ h)
  have hsub : ∀ b ∈ wr, b ∈ S :: wr := fun b hb => List.mem_cons_of_mem _ hb
  intro k
  induction k with
  | zero =>
    intro i s hk' hi hst ⟨l, hc, hm0, hS⟩ hR
    have hin : i = n := by omega
    subst hin
    refine codeAny_builtin F.entry_set_update_loop ?_
    rw [Around.under_plainId F.plain_set_update_loop _]
    show wpAny _ A.in1 (pyNext (.ref I) >>= _) _ _ s
    refine wpAny_bind (W.done s _ _ hst fun s' hm => ?_)
    show wpAny _ A.in1 (ret Value.none) _ _ s'
    have e : xs.take i = xs := List.take_of_length_le (by omega)
    rw [e] at hm0
    exact wpAny_pure (hR s' l (hm.mono hsub) hm0 (by omega) (hS.at fun o e => hm.heap S o hSw e))
  | succ k ih =>
    intro i s hk' hi hst ⟨l, hc, hm0, hS⟩ hR
    have hlt : i < n := by omega
    refine codeAny_builtin F.entry_set_update_loop ?_
    rw [Around.under_plainId F.plain_set_update_loop _]
    show wpAny _ A.in1 (pyNext (.ref I) >>= _) _ _ s
    refine wpAny_bind (W.item i s _ _ hlt hst fun v s' hP hst' hm => ?_)
    obtain ⟨z, t, hz, rfl⟩ := hval i v hP
    have hS' : SetX P w s'.heap S l := hS.at fun o e => hm.heap S o hSw e
    show wpAny _ A.in1 (holding [Value.str z t] (setAdd S (.str z t)) >>= _) _ _ s'
    refine wpAny_bind (wpAny_holding ?_)
    unfold setAdd
    refine wpAny_holding ?_
    refine wpAny_bind ((PySem.strKind P w).pyHash (k := z) (is_str _ _) ?_)
    refine setX_add (s := { s' with toks := s'.toks + 1 }) hS' (by omega) fun b h' hsb hS2 => ?_
    have hm1 : ∀ x, x ∈ (if z ∈ l then l else z :: l) ↔ x ∈ xs.take (i + 1) := fun x => by
      rw [List.take_add_one, hz]
      by_cases hzl : z ∈ l
      · rw [if_pos hzl, hm0 x]
        simp only [Option.toList, List.mem_append, List.mem_singleton]
        exact ⟨.inl, fun q => q.elim id fun e => e ▸ (hm0 z).mp hzl⟩
      · rw [if_neg hzl, List.mem_cons, hm0 x]
        simp only [Option.toList, List.mem_append, List.mem_singleton]
        exact Or.comm
    have hc3 : (if z ∈ l then l else z :: l).length ≤ i + 1 := by
      split
      · omega
      · rw [List.length_cons]; omega
    refine wpAny_pure ⟨plainId_quiet F.plain_set_update_loop _, ih (i + 1) _ (by omega) hlt (W.frame _ s' _ _ hst' (Nat.le_succ _) fun b hb o e => ?_) ⟨_, hc3, hm1, hS2⟩ fun s'' l2 hm'' hc'' hl'' hS'' => ?_⟩
    · rw [hsb.2 b (fun h : b = S => hSf (by rw [← h]; exact hb))]; exact e
    · refine hR s'' l2 (Moved.trans W.gtrans ((hm.mono hsub).then_heap (Nat.le_succ _) fun b o hb e => ?_) hm'') hc'' hl'' hS''
      rw [hsb.2 b (fun h : b = S => hb (by rw [h]; exact List.mem_cons_self))]; exact e
theorem strs_at : ∀ {vs : List Value} {ss : List Str}, StrsAre vs ss → ∀ (i : Nat) (v : Value), vs[i]? = some v → ∃ k t, ss[i]? = some k ∧ v = .str k t
  | _, _, .nil, i, v, h => by simp at h
  | _, _, .cons x t hr, 0, v, h => by simp at h; exact ⟨x, t, rfl, h.symm⟩
  | _, _, .cons x t hr, i + 1, v, h => by
    simp only [List.getElem?_cons_succ] at h
    exact strs_at hr i v h
theorem strs_len : ∀ {vs : List Value} {ss : List Str}, StrsAre vs ss → vs.length = ss.length
  | _, _, .nil => rfl
  | _, _, .cons x t hr => by rw [List.length_cons, List.length_cons, strs_len hr]
theorem call_set_txts {l : Addr} {items : Array Value} (xs : List Str) {Q : Value → Shared → Prop} (hh : A.handled = none) (hl : s.heap.IsList l items) (hit : StrsAre items.toList xs) (hb : xs.length + 1 < scanBound)
    (h : ∀ (h' : Heap) (tk : Nat) m, SetX P w h' s.heap.objs.size m → (∀ x, x ∈ m ↔ x ∈ xs) → m.length ≤ xs.length → (∀ b o, s.heap.get? b = some o → h'.get? b = some o) → Q (.ref s.heap.objs.size) { s with heap := h', toks := tk }) :
    wpAny (model P w) A (call (.type "set") [.ref l]) Q E s := by
  have hisz : items.size = xs.length := by
    have q := strs_len hit
    rw [Array.length_toList] at q
    exact q
  obtain ⟨c, tl, hmro⟩ := F.called_set.mro
  have hmade := F.called_set.made
  have hsub := F.called_set.sub
  refine wpAny_call (codeAny_of_tree ?_)
  show wpAny _ _ (callAny (.type "set") _) _ _ _
  refine wpAny_pure ⟨Code.quiet_builtin _ (by decide +kernel), codeAny_builtin F.entry_type_call ?_⟩
  rw [Around.under_plain (weight_type_call_type "set" [.ref l] []) rfl]
  have h1 := F.called_set.notType
  have h2 := F.called_set.canCreate
  have hct := F.typeCall_set_1 (.ref l)
  repeat (any_goals (first | assumption | wp_step))
  refine codeAny_mono (code_set_led1 (.ref l) (E := E) (Q₁ := fun obj s₁ => obj = .ref s.heap.objs.size ∧ s₁ = { s with heap := s.heap.push { cls := .type "set", dict := none, data := .set #[] 0 (.fresh 0 0 (!w.params.followText "set-order")) } }) ⟨rfl, rfl⟩) fun r s₁ hr => ?_
  cases r with
  | error e => exact hr
  | ok fl =>
    cases fl with
    | ret obj =>
      obtain ⟨rfl, rfl⟩ := hr
      have hS : (s.heap.push { cls := .type "set", dict := none, data := .set #[] 0 (.fresh 0 0 (!w.params.followText "set-order")) }).get? s.heap.objs.size = some { cls := .type "set", dict := none, data := .set #[] 0 (.fresh 0 0 (!w.params.followText "set-order")) } := Heap.get?_push_size _ rfl
      have hT : Shared.TypeIs { s with heap := s.heap.push { cls := .type "set", dict := none, data := .set #[] 0 (.fresh 0 0 (!w.params.followText "set-order")) } } (.ref s.heap.objs.size) "set" := ⟨_, hS, rfl⟩
      have hli := F.called_set.init.lookup
      have hbi := F.called_set.init.bind (.ref s.heap.objs.size)
      repeat (any_goals (first | assumption | wp_step))
      refine codeAny_mono (codeAny_call_builtin (R := wants (fun r s₂ => r = .none ∧ ∃ h' tk m, s₂ = { s with heap := h', toks := tk } ∧ SetX P w h' s.heap.objs.size m ∧ (∀ x, x ∈ m ↔ x ∈ xs) ∧ m.length ≤ xs.length ∧
          (∀ b o, s.heap.get? b = some o → h'.get? b = some o)) E) F.called_set.init.plain F.entry_set_init (check_set_init_1 hT ?_)) fun r₂ s₂ hr₂ => ?_
      · obtain ⟨ol, hol, hcl, nl, hdl⟩ := hl
        obtain ⟨ocls, odict, odata, oslots⟩ := ol
        simp only at hcl hdl
        subst hcl; subst hdl
        have hol' : (s.heap.push { cls := .type "set", dict := none, data := .set #[] 0 (.fresh 0 0 (!w.params.followText "set-order")) }).get? l = some { cls := .type "list", dict := odict, data := .seq items nl, slots := oslots } := Heap.get?_push_of_some _ hol
        have hsls := F.sub_list_set
        have hslf := F.sub_list_frozenset
        have hne : (Value.type "list" == Value.type "dict") = false := by decide
        have hl1 : (s.heap.push { cls := .type "set", dict := none, data := .set #[] 0 (.fresh 0 0 (!w.params.followText "set-order")) }).IsList l items := ⟨_, hol', rfl, nl, rfl⟩
        unfold Builtin.«set.__init__» noKeywords Builtin.Frozenset.updateFrom
        generalize hPI : pyIter = PI
        wp_walk
        subst hPI
        refine wpAny_pyIter_list hl1 ?_
        refine wpAny_bind (wpAny_runValue ?_)
        have hlS : l < s.heap.objs.size := Heap.lt_size hol
        have hh3 : A.in1.in1.in1.handled = none := by simp [hh]
        have hneI : l ≠ (s.heap.push { cls := .type "set", dict := none, data := .set #[] 0 (.fresh 0 0 (!w.params.followText "set-order")) }).objs.size := by
          rw [Heap.size_push]; exact Nat.ne_of_lt (Nat.lt_succ_of_lt hlS)
        have hSf : s.heap.objs.size ∉ [(s.heap.push { cls := .type "set", dict := none, data := .set #[] 0 (.fresh 0 0 (!w.params.followText "set-order")) }).objs.size, l] := by
          rw [Heap.size_push]; simp only [List.mem_cons, List.mem_singleton, List.not_mem_nil, or_false, not_or]
          exact ⟨Nat.ne_of_lt (Nat.lt_succ_self _), Nat.ne_of_gt hlS⟩
        have hval : ∀ (i : Nat) (v : Value), items[i]? = some v → ∃ k t, xs[i]? = some k ∧ v = .str k t := fun i v hv =>
          strs_at hit i v (by rw [Array.getElem?_toList]; exact hv)
        refine set_update_txts ((Walks.list hh3 _ l hneI items).toS) s.heap.objs.size
          hSf xs hisz hb hval (items.size - 0) 0 _ (by omega) (Nat.zero_le _)
          ⟨⟨_, Heap.get?_push_size _ rfl, rfl, rfl⟩, (hl1.push _)⟩ ?hS0 ?hR
        case hS0 =>
          have hget : ((s.heap.push { cls := .type "set", dict := none, data := .set #[] 0 (.fresh 0 0 (!w.params.followText "set-order")) }).push { cls := .type "list_iterator", data := .fields #[.ref l, .int 0 0] }).get? s.heap.objs.size
              = some { cls := .type "set", dict := none, data := .set #[] 0 (.fresh 0 0 (!w.params.followText "set-order")) } := Heap.get?_push_of_some _ hS
          exact ⟨[], Nat.le_refl 0, fun x => by simp, setX_fresh hget⟩
        case hR =>
          intro s' m hm hmem hlen hS'
          obtain ⟨h', g2, d', tk', os'⟩ := s'
          have eg : g2 = s.gens := hm.gens
          have ed : d' = s.drawn := hm.drawn
          have eo : os' = s.os := hm.os
          subst eg; subst ed; subst eo
          show wpAny _ _ _ _ _ _
          refine wpAny_pure ?_
          show wpAny _ _ (ret Value.none) _ _ _
          refine wpAny_pure ⟨rfl, h', tk', m, rfl, hS', hmem, hlen, fun b o e => ?_⟩
          have hb0 : b < s.heap.objs.size := Heap.lt_size e
          have hb1 : b ≠ s.heap.objs.size := Nat.ne_of_lt hb0
          have hb2 : b ≠ (s.heap.push { cls := .type "set", dict := none, data := .set #[] 0 (.fresh 0 0 (!w.params.followText "set-order")) }).objs.size := by
            rw [Heap.size_push]; exact Nat.ne_of_lt (Nat.lt_succ_of_lt hb0)
          exact hm.heap b o (by simp only [List.mem_cons, List.mem_singleton, List.not_mem_nil, or_false, not_or]; exact ⟨hb1, hb2⟩) (Heap.get?_push_of_some _ (Heap.get?_push_of_some _ e))
      · cases r₂ with
        | error e => exact hr₂
        | ok fl₂ =>
          cases fl₂ with
          | ret r =>
            obtain ⟨rfl, h', tk, m, rfl, hS', hm', hlen', hk'⟩ := hr₂
            repeat (any_goals (first | assumption | wp_step))
            exact h _ _ _ hS' hm' hlen' hk'
          | _ => exact hr₂.elim
    | _ => exact hr.elim
/-! ### sorted -/
theorem perm_of_sub : ∀ {l m : List Str}, l.Nodup → (∀ x ∈ l, x ∈ m) → m.length ≤ l.length → l.Perm m
  | [], m, _, _, h => by
    have : m = [] := List.eq_nil_of_length_eq_zero (by simpa using h)
    rw [this]
  | x :: l, m, nd, hs, h => by
    obtain ⟨d1, d2⟩ := List.nodup_cons.mp nd
    have hx : x ∈ m := hs x List.mem_cons_self
    have hp : m.Perm (x :: m.erase x) := List.perm_cons_erase hx
    have hl : (m.erase x).length = m.length - 1 := List.length_erase_of_mem hx
    refine List.Perm.trans (List.Perm.cons x (perm_of_sub d2 (fun y hy => ?_) ?_)) hp.symm
    · exact (List.mem_erase_of_ne (fun e : y = x => d1 (e ▸ hy))).mpr (hs y (List.mem_cons_of_mem _ hy))
    · rw [hl]
      rw [List.length_cons] at h
      omega
theorem sorted_txts {a : Addr} {l : List Str} {Q : Value → Shared → Prop} (R : SetX P w s.heap a l) (hh : A.handled = none) (h64 : l.length < 64)
    (hQ : ∀ s' p (out : Array Value) (c : Nat) (ys : List Str), (∀ b o, s.heap.get? b = some o → s'.heap.get? b = some o) → s'.gens = s.gens → s'.os = s.os → s.heap.objs.size ≤ p →
      s'.heap.get? p = some (seqObj "list" out c) → StrsAre out.toList ys → ys.Perm l → sortedS ys = true → Q (.ref p) s') :
    wpAny (model P w) A (call (.builtin "sorted") [.ref a]) Q E s := by
  obtain ⟨⟨es, ep, t⟩, ho, F, hr, hl, nd⟩ := R
  have hsz : es.size = l.length := F.sz
  refine Calls.call_function_entry kind_sorted plain_sorted entry_sorted (args_sorted1 _) ?_
  unfold Builtin.«sorted»
  refine wpAny_bind (m := checkCount "sorted" 1 1 _) (wpAny_pure ?_)
  refine wpAny_bind (collect_set (A := A.in1) hh ⟨_, ho, rfl, rfl⟩ F.fit (by rw [hsz]; unfold scanBound; omega) hr hl fun s1 vs k1 hz g1 o1 pm => ?_)
  have hvl : vs.length = l.length := by rw [pm.length_eq, List.length_map, Array.length_toList]; exact hsz
  have hall : ∀ v, v ∈ vs → ∃ x u, v = Value.str x u := fun v hv => by
    obtain ⟨e, he, q⟩ := List.mem_map.mp (pm.mem_iff.mp hv)
    obtain ⟨⟨k, hk, _⟩, _⟩ := F.el e he
    rw [q] at hk
    cases v with
    | str x u => exact ⟨x, u, rfl⟩
    | _ => cases hk
  have hI : StrsAre vs (vs.map PyProof.Rows.strOf) := strsAre_map vs hall
  have pk : l.Perm (vs.map PyProof.Rows.strOf) := by
    refine perm_of_sub nd (fun x hx => ?_) (by rw [List.length_map, hvl]; exact Nat.le_refl _)
    obtain ⟨e, he, q⟩ := (F.mem x).mp hx
    have hv : e.2 ∈ vs := pm.mem_iff.mpr (List.mem_map.mpr ⟨e, he, rfl⟩)
    refine List.mem_map.mpr ⟨e.2, hv, ?_⟩
    obtain ⟨y, u, ey⟩ := hall _ hv
    rw [ey] at q ⊢
    have q2 : Value.isStrOf x (.str y u) = true := q
    simp [Value.isStrOf] at q2
    exact q2
  refine wpAny_bind (wpAny_newList ?_ (by rw [hvl, sizeLine_eq]; omega))
  have hoL : (s1.heap.push (seqObj "list" vs.toArray 0)).get? s1.heap.objs.size = some (seqObj "list" vs.toArray 0) := Heap.get?_push_size _ rfl
  refine wpAny_bind (wpAny_holding (wpAny_call_entry slot_list_sort ⟨_, hoL, rfl⟩ entry_list_sort (list_sort_treeK strKind_oneLt hoL hI.keysOf (fun v₁ v₂ rest e => keyKind_strs (by rw [← e]; exact hI)) (by rw [hvl]; exact h64) fun st' hp hs => ⟨_, rfl, ?_⟩) (args_list_sort _)))
  obtain ⟨ys, h1, h2, h3⟩ := sorted_out_str hI hp hs
  obtain ⟨c, hc⟩ := sortedHeap_at (vs := vs) (out := (arrOf st').map (·.2)) hoL
  refine wpAny_pure ⟨_, rfl, hQ _ s1.heap.objs.size _ c ys (fun b u e => ?_) g1 o1 hz hc h1 (h2.trans pk.symm) h3⟩
  have q := k1 b u e
  have hlt := Heap.lt_size q
  show (sortedHeap (s1.heap.push (seqObj "list" vs.toArray 0)) s1.heap.objs.size vs _).get? b = some u
  rw [sortedHeap_old (Nat.ne_of_lt hlt) (by rw [size_push']; exact Nat.lt_succ_of_lt hlt)]
  exact Heap.get?_push_of_some _ q
end
/-! ### the steps -/
def SetXO (P : Program) (w : World) (a : Addr) (l : List Str) : HO := .ext fun h => SetX P w h a l
theorem setXO_new {w : World} {P : Program} {H : Hp} {h : Heap} {a : Addr} {l : List Str} (R : SetX P w h a l) : ObjOk P w H h a (SetXO P w a l) := by
  have ⟨_, ho, _⟩ := R
  exact ⟨R, ⟨_, ho⟩, fun h1 h2 p k => SetX.at p k⟩
section
variable {X : Cx}
/-- set(xs), xs a list of texts -/
def rSetX (K : PySem.W.Frag) (P : Program) (w : World) : List V → Hp → VK → Prop := fun vs H Q => ∃ (l : Addr) (xs : List Str), vs = [V.ref l] ∧ SqL K H l (xs.map V.str) ∧ xs.length + 1 < scanBound ∧
  ∀ a m, H a = none → (∀ x, x ∈ m ↔ x ∈ xs) → m.Nodup → m.length ≤ xs.length → Q (.ref a) (upd H a (SetXO P w a m))
theorem cr_setX (hc : X.calm = true) : CallR X (.type "set") (rSetX X.K X.prog X.w) := by
  intro pins s σ H vs us Q I r h
  obtain ⟨l, xs, rfl, hl, hb, q⟩ := h
  rw [Vals.ref1 r]
  obtain ⟨its, rv, pl, hz⟩ := I.list hl
  have hn : H s.heap.objs.size = none := I.hok.fresh (Nat.le_refl _)
  refine call_set_txts (P := X.prog) (w := X.w) xs (I.ok.hd hc) pl.isList (by simpa using rv.strs) hb fun h' tk m R hm hlen k => ?_
  have ⟨_, _, _, _, _, nd⟩ := R
  exact ⟨.ref s.heap.objs.size, upd H s.heap.objs.size (SetXO X.prog X.w s.heap.objs.size m), I.laid (t' := tk) k (Nat.le_refl _) (setXO_new R), rfl, q _ m hn hm nd hlen⟩
/-- sorted(that set) -/
def rSortX (P : Program) (w : World) : List V → Hp → VK → Prop := fun vs H Q => ∃ (a : Addr) (l : List Str), vs = [V.ref a] ∧ H a = some (SetXO P w a l) ∧ l.length < 64 ∧
  ∀ (ys : List Str) (p : Addr), ys.Perm l → sortedS ys = true → H p = none → Q (.ref p) (upd H p (.lst (ys.map V.str)))
theorem cr_sortX (hc : X.calm = true) : CallR X (.builtin "sorted") (rSortX X.prog X.w) := by
  intro pins s σ H vs us Q I r h
  obtain ⟨a, l, rfl, ha, h64, q⟩ := h
  have R : SetX X.prog X.w s.heap a l := (I.hok a _ ha).1
  rw [Vals.ref1 r]
  refine sorted_txts R (I.ok.hd hc) h64 fun s' p out c ys k g o hp hg hi pm hs => ?_
  have hlen : (ys.map V.str).length ≤ sizeLine := by rw [List.length_map, pm.length_eq, sizeLine_eq]; omega
  have hn : H p = none := I.hok.fresh hp
  have J : Inv X pins σ (upd H p (.lst (ys.map V.str))) { s with heap := s'.heap, gens := s'.gens, drawn := s'.drawn, toks := s'.toks } :=
    I.call (ch := []) (Un.laid k hp hn) (I.hok.laid k hp ⟨hlen, out.toList, c, vals_of_strs hi, hg⟩) (by rw [g]; exact I.bare) (fun _ z => nomatch z)
  have e : s' = { s with heap := s'.heap, gens := s'.gens, drawn := s'.drawn, toks := s'.toks } := by
    cases s'
    cases s
    cases o
    rfl
  rw [e]
  exact ⟨.ref p, _, J, rfl, q ys p pm hs hn⟩
end
section
variable {K : PySem.W.Frag} {P : Program} {w : World} {H : Hp} {Q : VK}
theorem e_setX {l : Addr} {xs : List Str} (hl : SqL K H l (xs.map V.str)) (hb : xs.length + 1 < scanBound)
    (q : ∀ a m H', H a = none → H' a = some (SetXO P w a m) → (∀ x, x ∈ m ↔ x ∈ xs) → m.Nodup → Same H H' → Q (.ref a) H') : rSetX K P w [.ref l] H Q :=
  ⟨l, xs, rfl, hl, hb, fun a m hn hm nd _ => q a m _ hn upd_same hm nd (same_upd hn)⟩
theorem e_sortX {a : Addr} {l : List Str} (ha : H a = some (SetXO P w a l)) (hl : l.length < 64)
    (q : ∀ ys p H', ys.Perm l → sortedS ys = true → H p = none → H' p = some (.lst (ys.map V.str)) → Same H H' → Q (.ref p) H') : rSortX P w [.ref a] H Q :=
  ⟨a, l, rfl, ha, hl, fun ys p pm hs hn => q ys p _ pm hs hn upd_same (same_upd hn)⟩
end
end FG

/-! FG: tuple(d), the keys -/
namespace FG
open PySem PySem.Spec PyProof.Rows L2
section
variable {prog : Program} {w : World} {A : Around} {E : Value → Shared → Prop} {s : Shared} {d : Addr} {n : Nat} {P : Nat → Value → Prop} {OK : Heap → Prop}
theorem code_tuple_new_kdl {Q₁ : Value → Shared → Prop} (K : PySem.W.KdlSrc prog w "dict" d d n P OK) (hh : A.handled = none) (hok : OK s.heap) (hn : n ≤ sizeLine)
    (h : ∀ (h' : Heap) (tk : Nat) (acc : Array Value), (∀ b o, s.heap.get? b = some o → h'.get? b = some o) → ItemsOf P acc n →
      Q₁ (.ref h'.objs.size) { s with heap := h'.push { cls := .type "tuple", data := .seq acc }, toks := tk }) :
    codeAny (model prog w) A (.call (.builtin "tuple.__new__") ⟨[.type "tuple", .ref d], []⟩) (wants Q₁ E) s := by
  refine codeAny_of_tree ?_
  show wpAny _ A.in1 (do checkBuiltinCall "tuple.__new__" ⟨[.type "tuple", .ref d], []⟩; again (.builtin "tuple.__new__" ⟨[.type "tuple", .ref d], []⟩)) _ _ s
  refine wpAny_bind (wpAny_of_eq (PySem.F.newCall_tuple_1 _) (wpAny_pure ⟨plainId_quiet PySem.F.plain_tuple_new _, codeAny_builtin PySem.F.entry_tuple_new ?_⟩))
  rw [Around.under_plainId PySem.F.plain_tuple_new _]
  have hsub := sub_tuple_self
  have hinit := init_tuple_lookup
  have hmh := madeHere_tuple
  have hTI : s.TypeIs (.ref d) "dict" := K.type _ hok
  have hh1 : A.in1.handled = none := hh
  wp_walk using wpAny_typeOf hTI, collect_kdl (A := A.in1) K hh1 hok hn
  intro h' tk acc hk hacc
  show wpAny _ _ (Builtin.Tuple.tupleExact acc.toList.toArray >>= fun v => ret v) _ _ _
  unfold Builtin.Tuple.tupleExact
  refine wpAny_bind (wpAny_newObj_type ?_ (by show acc.toList.toArray.size ≤ sizeLine; simp only [Array.toArray_toList]; rw [hacc.1]; exact hn))
  refine wpAny_pure ?_
  have e : acc.toList.toArray = acc := by simp
  rw [e]
  exact h h' tk acc hk hacc
theorem call_tuple_kdl {Q : Value → Shared → Prop} (K : PySem.W.KdlSrc prog w "dict" d d n P OK) (hh : A.handled = none) (hok : OK s.heap) (hn : n ≤ sizeLine)
    (hQ : ∀ (h' : Heap) (tk : Nat) (acc : Array Value), (∀ b o, s.heap.get? b = some o → h'.get? b = some o) → ItemsOf P acc n →
      Q (.ref h'.objs.size) { s with heap := h'.push { cls := .type "tuple", data := .seq acc }, toks := tk }) :
    wpAny (model prog w) A (call (.type "tuple") [.ref d]) Q E s := by
  refine callType_codes (Q₁ := fun obj s₁ => s₁.TypeIs obj "tuple" ∧ Q obj s₁) PySem.F.called_tuple (PySem.F.typeCall_tuple_1 _) PySem.F.entry_object_init
    (code_tuple_new_kdl (A := A.in1) K hh hok hn fun h' tk acc hk hacc => ⟨⟨_, Heap.get?_push_size _ rfl, rfl⟩, hQ h' tk acc hk hacc⟩) fun obj s₁ h₁ => ?_
  exact ⟨h₁.1, PySem.F.args_object_init_2 obj _, object_init_meets PySem.F.called_tuple.init.lookup PySem.F.called_tuple.made (by decide) prog w A.in1 _ s₁ ⟨h₁.1, rfl, h₁.2⟩⟩
end
/-- a statement that is never come to -/
theorem ps_dead {X : Cx} {st : Stmt} : PS X st (fun _ _ _ => False) := ⟨fun pins s σ H D I h => h.elim⟩
/-- tuple(d): a new tuple of the keys -/
def rTupD : List V → Hp → VK → Prop := fun xs H Q => ∃ d kvs, xs = [.ref d] ∧ H d = some (.dK kvs) ∧ ∀ q, H q = none → Q (.ref q) (upd H q (.tup (kvs.map fun p => kV p.1)))
theorem cr_tupD {X : Cx} (hc : X.calm = true) : CallR X (.type "tuple") rTupD := by
  intro pins s σ H xs us Q I r h
  obtain ⟨d, kvs, rfl, hd, q⟩ := h
  rw [Vals.ref1 r]
  obtain ⟨z, lo, vs, rk, hdd⟩ := (show ObjOk X.prog X.w H s.heap d (.dK kvs) from I.hok d _ hd)
  obtain ⟨ep, hat⟩ := hdd.dictAt
  have hl : kvs.length = vs.length := Paired.length rk
  refine call_tuple_kdl (PySem.W.kdl_dict (knd := mixKind X.prog X.w) (kvs := vs) (ep := ep) lo) (I.ok.hd hc) hat (by rw [← hl]; exact z) fun h' tk acc hk hi => ?_
  have I1 : Inv X pins σ H { s with heap := h', toks := tk } := I.kept (t' := tk) hk
  have el : acc.toList.length = acc.size := by simp
  have rv : Vals (kvs.map fun p => kV p.1) acc.toList := by
    refine vals_of_at (by rw [List.length_map, el, hi.1, hl]) fun j y v h1 h2 => ?_
    obtain ⟨k, x, hk2, hk3⟩ := hi.2 j v (by rw [← Array.getElem?_toList]; exact h2)
    have ek := (kv_vals rk).2
    have h3 : (kvs.map (·.1))[j]? = some k := by rw [ek, List.getElem?_map, hk2] <;> rfl
    have h4 : y = kV k := by
      rw [List.getElem?_map] at h1 h3
      cases e : kvs[j]? with
      | none => rw [e] at h1; cases h1
      | some p =>
        rw [e] at h1 h3
        cases h1
        cases h3
        rfl
    rw [h4]
    rcases keyIs_shape hk3 with ⟨i, t, rfl, rfl⟩ | ⟨x, t, rfl, rfl⟩
    · exact ⟨t, rfl⟩
    · exact ⟨t, rfl⟩
  have I2 : Inv X pins σ (upd H h'.objs.size (.tup (kvs.map fun p => kV p.1))) { s with heap := h'.push { cls := .type "tuple", data := .seq acc }, toks := tk } :=
    I1.laid (t' := tk) (fun b o e => Heap.get?_push_of_some _ e) (Nat.le_refl _) (show ObjOk X.prog X.w _ _ _ (.tup (kvs.map fun p => kV p.1)) from ⟨by rw [List.length_map]; exact z, acc.toList, rv, by have := IsTup.new h' acc; simpa using this⟩)
  exact ⟨.ref h'.objs.size, upd H h'.objs.size (.tup (kvs.map fun p => kV p.1)), I2, rfl, q _ (I1.hok.fresh (Nat.le_refl _))⟩
section
variable {H : Hp} {Q : VK}
theorem e_tupDk {d : Addr} {kvs : List (Key × V)} (hd : H d = some (.dK kvs)) (q : ∀ p H', H p = none → H' p = some (.tup (kvs.map fun p => kV p.1)) → Same H H' → Q (.ref p) H') : rTupD [.ref d] H Q :=
  ⟨d, kvs, rfl, hd, fun p hn => q p _ hn upd_same (same_upd hn)⟩
end
end FG

/-! FG: [y for x in xs for y in ys] over lists -/
namespace FG
open PySem PySem.Spec PyProof.Rows L2
section
variable {g g1 : TG} {tt tt1 : TT} {te tl : TE} {wi1 : TI} {vs vs1 : List Nat} {σ : L2.St} {H : Hp} {Q : VK} {K : PySem.W.Frag} {nx : Hp → Prop} {D : Addr}
def In2 (J : It) (g1 : TG) (tt1 : TT) (te : TE) (vs1 : List Nat) (σ : L2.St) (D : Addr) (H : Hp) (nx : Hp → Prop) : Prop := ∃ W1 : Nat → Nat → Hp → Prop, (∃ m, W1 0 m H) ∧ ∀ j k H, W1 j k H →
  (J.stop j H ∧ nx H) ∨ (J.go j H ∧ ∃ Nx1 : Hp → Prop, (∀ H', Nx1 H' → ∃ k', k' < k ∧ W1 (j + 1) k' H') ∧ ∀ x H', J.yld j H x H' → Turn1 g1 tt1 te vs1 σ D x H' Nx1)
def Turn2 (g : TG) (tt : TT) (wi1 : TI) (g1 : TG) (tt1 : TT) (te : TE) (vs vs1 : List Nat) (σ : L2.St) (D : Addr) (x : V) (H : Hp) (nx : Hp → Prop) : Prop :=
  g x (wipe σ vs) H fun σ2 H2 => wipe σ2 vs = wipe σ vs ∧ tt σ2 H2 fun b H3 => if b = true then wi1 σ2 H3 fun J1 H4 => In2 J1 g1 tt1 te vs1 σ2 D H4 nx else nx H3
def Lc2Any (J : It) (g : TG) (tt : TT) (wi1 : TI) (g1 : TG) (tt1 : TT) (te : TE) (vs vs1 : List Nat) (σ : L2.St) (H : Hp) (Q : VK) : Prop := ∀ D, H D = none → ∃ W : Nat → Nat → Hp → Prop, (∃ m, W 0 m (upd H D (.lst []))) ∧ ∀ i m H, W i m H →
  (J.stop i H ∧ Q (.ref D) H) ∨ (J.go i H ∧ ∃ Nx : Hp → Prop, (∀ H', Nx H' → ∃ m', m' < m ∧ W (i + 1) m' H') ∧ ∀ x H', J.yld i H x H' → Turn2 g tt wi1 g1 tt1 te vs vs1 σ D x H' Nx)
theorem b_lc2L (q : tl σ H fun x H1 => ∃ a, x = .ref a ∧ (∃ xs, SqL K H1 a xs) ∧ Lc2Any (Itl K a) g tt wi1 g1 tt1 te vs vs1 σ H1 Q) : tLc2 (iList K tl) g tt wi1 g1 tt1 te vs vs1 σ H Q := q
theorem b_turn2 {x : V} (q : g x (wipe σ vs) H fun σ2 H2 => wipe σ2 vs = wipe σ vs ∧ tt σ2 H2 fun b H3 => if b = true then wi1 σ2 H3 fun J1 H4 => In2 J1 g1 tt1 te vs1 σ2 D H4 nx else nx H3) : Turn2 g tt wi1 g1 tt1 te vs vs1 σ D x H nx := q
theorem b_in2L (q : tl σ H fun x H1 => ∃ a, x = .ref a ∧ (∃ xs, SqL K H1 a xs) ∧ In2 (Itl K a) g1 tt1 te vs1 σ D H1 nx) : iList K tl σ H fun J1 H4 => In2 J1 g1 tt1 te vs1 σ D H4 nx := q
theorem e_lc2L {a : Addr} {xs : List V} (hS : SqL K H a xs) (Pv : Addr → Nat → Hp → Prop) (h0 : ∀ D H', H D = none → H' D = some (.lst []) → Same H H' → Pv D 0 H')
    (hl : ∀ D i H', H D = none → Pv D i H' → SqL K H' a xs)
    (hs : ∀ D i x H', H D = none → xs[i]? = some x → Pv D i H' → Turn2 g tt wi1 g1 tt1 te vs vs1 σ D x H' (Pv D (i + 1)))
    (hd : ∀ D H', H D = none → Pv D xs.length H' → Q (.ref D) H') : ∃ a', V.ref a = .ref a' ∧ (∃ xs, SqL K H a' xs) ∧ Lc2Any (Itl K a') g tt wi1 g1 tt1 te vs vs1 σ H Q := by
  refine ⟨a, rfl, ⟨xs, hS⟩, fun D nD => ⟨fun i m H' => m = xs.length - i ∧ i ≤ xs.length ∧ Pv D i H', ⟨xs.length, by simp, Nat.zero_le _, h0 D _ nD upd_same (same_upd nD)⟩, ?_⟩⟩
  rintro i m H' ⟨rfl, hi, p⟩
  by_cases hlt : i < xs.length
  · refine .inr ⟨⟨xs, xs[i], hl D i H' nD p, by simp [hlt]⟩, Pv D (i + 1), fun H'' p' => ⟨xs.length - (i + 1), by omega, rfl, hlt, p'⟩, ?_⟩
    rintro v H2 ⟨rfl, hv⟩
    exact hs D i v _ nD (hv xs (hl D i _ nD p)) p
  · obtain rfl : i = xs.length := by omega
    exact .inl ⟨⟨xs, hl D _ H' nD p, Nat.le_refl _⟩, hd D H' nD p⟩
theorem e_in2L {a : Addr} {xs : List V} (hS : SqL K H a xs) (Pv : Nat → Hp → Prop) (h0 : Pv 0 H) (hl : ∀ i H', Pv i H' → SqL K H' a xs)
    (hs : ∀ i x H', xs[i]? = some x → Pv i H' → Turn1 g1 tt1 te vs1 σ D x H' (Pv (i + 1)))
    (hd : ∀ H', Pv xs.length H' → nx H') : ∃ a', V.ref a = .ref a' ∧ (∃ xs, SqL K H a' xs) ∧ In2 (Itl K a') g1 tt1 te vs1 σ D H nx := by
  refine ⟨a, rfl, ⟨xs, hS⟩, fun i m H' => m = xs.length - i ∧ i ≤ xs.length ∧ Pv i H', ⟨xs.length, by simp, Nat.zero_le _, h0⟩, ?_⟩
  rintro i m H' ⟨rfl, hi, p⟩
  by_cases hlt : i < xs.length
  · refine .inr ⟨⟨xs, xs[i], hl i H' p, by simp [hlt]⟩, Pv (i + 1), fun H'' p' => ⟨xs.length - (i + 1), by omega, rfl, hlt, p'⟩, ?_⟩
    rintro v H2 ⟨rfl, hv⟩
    exact hs i v _ (hv xs (hl i _ p)) p
  · obtain rfl : i = xs.length := by omega
    exact .inl ⟨⟨xs, hl _ H' p, Nat.le_refl _⟩, hd H' p⟩
end
end FG

/-! FG: == and != by an own __eq__ of one class -/
namespace FG
open PySem PySem.Spec PyProof.Rows L2
section
variable {prog : Program} {w : World} {A : Around} {E : Value → Shared → Prop} {s : Shared} {K : PySem.W.Frag} {x y C f : Addr} {ox : Obj} {od : Option Obj} {name : Str}
theorem ifBound_B {M : Model} {id : String} {args : List Value} {Q : Option Value → Shared → Prop} (X : K.In s.heap) (I : PySem.W.InstAt s.heap x ox C od) (hs : PySem.W.findIn K (.ref C) name = some (some (.builtin id)))
    (hb : ∀ self, bindSpecial (.builtin id) self = pure (.builtin id, [self])) (h : wpAny M A (call (.builtin id) (.ref x :: args)) (fun v => Q (some v)) E s) : wpAny M A (callSpecialIfBound? (.ref x) name args) Q E s := by
  simp only [callSpecialIfBound?, bindSpecialIfBound?]
  refine wpAny_holding (wpAny_bind (wpAny_bind (wpAny_bind (I.type.here ((PySem.W.looks_findIn X hs).here ?_)))))
  simp only [hb]
  refine wpAny_bind (wpAny_askSetting (wpAny_ite ?_))
  have fin : wpAny M A (call (.builtin id) ([.ref x] ++ args) >>= fun v => pure (some v)) Q E s := wpAny_bind (wpAny_mono h (fun v s' h' => wpAny_pure h') fun _ _ h' => h')
  split
  · exact wpAny_bind (wpAny_pure (wpAny_pure fin))
  · exact wpAny_tryCatch (wpAny_bind (wpAny_pure (wpAny_pure fin)))
theorem ne_own {oy : Obj} {oe : Option Obj} {Q : Value → Shared → Prop} (hu : A.units + 1 < cLine) (X : K.In s.heap) (I : PySem.W.InstAt s.heap x ox C od) (J : PySem.W.InstAt s.heap y oy C oe)
    (hn : PySem.W.findIn K (.ref C) "__ne__" = some (some (.builtin "object.__ne__"))) (hm : PySem.W.mroIn K C (.type "object") = some true)
    (he : PySem.W.findIn K (.ref C) "__eq__" = some (some (.ref f))) (hf : PySem.W.isFn K (.ref f) = true)
    (h : wpAny (model prog w) A.in1 (call (.ref f) [.ref x, .ref y]) (fun v s' => ∃ b, v = .bool b ∧ Q (.bool (!b)) s') E s) : wpAny (model prog w) A (richCompare .NotEq (.ref x) (.ref y)) Q E s := by
  unfold richCompare
  simp only [oneThing_ref]
  refine wpAny_holding (wpAny_bind (wpAny_cRoomFor (Nat.lt_of_succ_lt hu) ?_))
  rw [cmpInfo_NotEq]
  dsimp only
  refine wpAny_bind (I.type.here (wpAny_bind (J.type.here ?_)))
  rw [show (Value.ref C != Value.ref C) = false from by simp]
  simp only [Bool.false_eq_true, if_false]
  refine wpAny_bind (wpAny_pure ?_)
  simp only [Bool.false_eq_true, if_false, tryCompare]
  refine wpAny_bind (wpAny_bind (ifBound_B X I hn (fun self => F.cmp_object.ne.bind self) (wpAny_call (codeAny_call_builtin F.cmp_object.ne.plain F.cmpEntry_ne
    (PySem.W.check_slot F.cmpKind_ne F.cmpSplit_ne ((I.type).andThen (PySem.W.looks_mroIn X hm)) (F.cmpArgs_ne _ _) ?_)))))
  unfold Builtin.«object.__ne__»
  refine wpAny_bind (wpAny_of_eq (a := (Value.ref x, [Value.ref y])) rfl ?_)
  dsimp only
  refine wpAny_bind (wpAny_cRoomFor hu ?_)
  refine wpAny_bind (PySem.W.ifBound_K X I he hf (wpAny_mono h (fun v s' hv => ?_) fun _ _ e => e))
  obtain ⟨b, rfl, hq⟩ := hv
  show wpAny _ _ (truthy (.bool b) >>= _) _ _ _
  refine wpAny_bind (wpAny_truthy_bool (wpAny_pure ?_))
  exact wpAny_pure (wpAny_pure hq)
end
def rOwnEq (C : Addr) (sp : Sp) (E : XK) (neg : Bool) : R2 := fun x y H Q => ∃ a b dx dy fs gs, x = .ref a ∧ y = .ref b ∧ H a = some (.ins C dx fs) ∧ H b = some (.ins C dy gs) ∧ sp [.ref a, .ref b] H (fun v H' => ∃ r, v = .bl r ∧ Q (.bl (if neg = true then !r else r)) H') E
section
variable {X : Cx} {CX : CXT} {n : Nat} {C f : Addr} {fd : FuncData} {ps : List Str} {sp : Sp} {E : XK}
theorem run_own (F : FnOk X.prog X.w X.K X.mg X.base CX n f fd ps sp) (hb : Binds X.K fd ps []) (hx : Passes CX X E) {A : Around} (hr : Room n A) (fr : A.frames = X.A.frames) {pins : List (Addr × Obj)} {s : Shared} {σ : L2.St} {H : Hp} {a b : Addr} {R : Bool → Hp → Prop}
    (I : Inv X pins σ H s) (h : sp [.ref a, .ref b] H (fun v H' => ∃ r, v = .bl r ∧ R r H') E) : wpAny (model X.prog X.w) A (call (.ref f) [.ref a, .ref b]) (fun v s' => ∃ r, v = .bool r ∧ ∃ H', Inv X pins σ H' s' ∧ R r H') X.xe s := by
  have e0 : Env0 X.prog X.w X.K X.mg X.base A X.stack s H := by
    have e := I.env0
    exact ⟨by rw [fr]; exact e.frames, e.mod, e.bs, e.bsz, e.funs, e.frf, e.hok, e.bare⟩
  have hl := F.len _ _ _ _ h
  have r2 : Vals [V.ref a, V.ref b] [Value.ref a, Value.ref b] := .cons rfl (.cons rfl .nil)
  refine wpAny_call (codeAny_mono (F.run A X.stack s H ⟨[.ref a, .ref b], []⟩ [.ref a, .ref b] [.ref a, .ref b] _ E hr e0 (by
    have := hb s [.ref a, .ref b] I.kIn (by simpa using hl)
    simpa using this) r2 h) fun r s' hq => ?_)
  cases r with
  | error e => exact hx pins σ H s e s' I hq
  | ok fl =>
    cases fl with
    | ret w =>
      obtain ⟨z, H', I', rz, r, ez, q⟩ := I.after hq
      subst ez
      cases rz
      exact ⟨r, rfl, H', I', q⟩
    | next => exact False.elim hq
    | brk => exact False.elim hq
    | cont => exact False.elim hq
theorem op_ownEq (F : FnOk X.prog X.w X.K X.mg X.base CX n f fd ps sp) (m : Meth X.K C "__eq__" f) (hb : Binds X.K fd ps []) (hx : Passes CX X E) (hr : Room n X.A) : OpR X (compareOp .Eq) (rOwnEq C sp E false) := by
  intro pins s σ H x y v u Q I rx ry hq
  obtain ⟨a, b, dx, dy, fs, gs, rfl, rfl, ha, hb', h⟩ := hq
  cases rx
  cases ry
  obtain ⟨mA, J, _⟩ := ins_get I.hok ha
  obtain ⟨mB, J', _⟩ := ins_get I.hok hb'
  obtain ⟨od, J, _⟩ := J.look
  obtain ⟨od', J', _⟩ := J'.look
  obtain ⟨m0, hF⟩ := I.fr
  refine PySem.W.cmp_K (op := .Eq) (tb := .ref C) hr.units0 hF I.ok.mod.kin J J'.type (by simp [PySem.W.notFirst]) m.at_ m.fn (wpAny_mono (run_own F hb hx hr rfl I h) (fun r s' z => ?_) fun _ _ e => e)
  obtain ⟨r, rfl, H', I', q⟩ := z
  exact ⟨.bl r, H', I', rfl, q⟩
theorem op_ownNe (F : FnOk X.prog X.w X.K X.mg X.base CX n f fd ps sp) (m : Meth X.K C "__eq__" f) (hn : PySem.W.findIn X.K (.ref C) "__ne__" = some (some (.builtin "object.__ne__"))) (hm : PySem.W.mroIn X.K C (.type "object") = some true)
    (hb : Binds X.K fd ps []) (hx : Passes CX X E) (hr : Room (n + 1) X.A) : OpR X (compareOp .NotEq) (rOwnEq C sp E true) := by
  intro pins s σ H x y v u Q I rx ry hq
  obtain ⟨a, b, dx, dy, fs, gs, rfl, rfl, ha, hb', h⟩ := hq
  cases rx
  cases ry
  obtain ⟨mA, J, _⟩ := ins_get I.hok ha
  obtain ⟨mB, J', _⟩ := ins_get I.hok hb'
  obtain ⟨od, J, _⟩ := J.look
  obtain ⟨od', J', _⟩ := J'.look
  show wpAny (model X.prog X.w) X.A (richCompare .NotEq _ _) (EP X pins σ Q) X.xe s
  refine ne_own (by have := hr.in1.units0; simpa using this) I.kIn J J' hn hm m.at_ m.fn (wpAny_mono (run_own F hb hx hr.in1 rfl I h) (fun r s' z => ?_) fun _ _ e => e)
  obtain ⟨r, rfl, H', I', q⟩ := z
  exact ⟨r, rfl, .bl (!r), H', I', rfl, q⟩
end
/-- an own class whose objects are compared and asked for their class -/
structure OwnCls (K : PySem.W.Frag) (C : Addr) : Prop where
  cls : Cls K C
  ha : PySem.W.findIn K (.ref C) "__class__" = some (some (.builtin "object.__class__"))
  hn : PySem.W.specialIn K (.builtin "object.__class__") "__get__" = some (some (.builtin "getset_descriptor.__get__"))
  ht : PySem.W.takesIn K (.builtin "object.__class__") = some true
  hm : PySem.W.mroIn K C (.type "object") = some true
  ne : PySem.W.findIn K (.ref C) "__ne__" = some (some (.builtin "object.__ne__"))
theorem e_isOwn {K : PySem.W.Frag} {C a dx : Addr} {fs : List (Str × V)} {H : Hp} {Q : VK} (o : OwnCls K C) (ha : H a = some (.ins C dx fs)) (q : Q (.bl true) H) : rIsi K [.ref a, .ref C] H Q :=
  ⟨.ref a, .ref C, .ref C, .ref C, true, rfl, .own C, .base (.ins ha o.cls o.ha o.hn o.ht o.hm), by unfold PySem.W.kitOne; simp, q⟩
end FG

/-! FG: xs.pop(i), d[k], {k: v, ..} -/
namespace FG
open PySem PySem.Spec PyProof.Rows L2
section
variable {σ : L2.St} {H : Hp} {Q : VK} {td ty tk tv : TE} {trs : List (TE × TE)}
theorem e_popAt {l : Addr} {xs : List V} {i : Nat} {y : V} (h : H l = some (.lst xs)) (hl : xs.length ≤ 100000) (hy : xs[i]? = some y) (q : ∀ H', H' l = some (.lst (xs.eraseIdx i)) → SameM (· = l) H H' → Q y H') : rPopAt (.ref l) [.int (i : Nat)] H Q := by
  have hi : i < xs.length := (List.getElem?_eq_some_iff.mp hy).1
  refine ⟨l, xs, i, i, y, rfl, rfl, h, by omega, by omega, ?_, hy, q _ upd_same (SameM.upd rfl)⟩
  unfold seqIndex?
  simp
  omega
def DGetAt (x y : V) (H : Hp) (Q : VK) : Prop := ∃ a v, x = .ref a ∧ DGet H a y (some v) ∧ Q v H
theorem b_dget (q : td σ H fun x H1 => ty σ H1 fun y H2 => DGetAt x y H2 Q) : tDGet td ty σ H Q := q
theorem e_dget {a : Addr} {kvs : List (Key × V)} {k : Key} {v : V} (h : H a = some (.dK kvs)) (hv : valV kvs k = some v) (q : Q v H) : DGetAt (.ref a) (kV k) H Q := ⟨a, v, rfl, by rw [← hv]; exact DGet.k h, q⟩
theorem e_dgetS {a : Addr} {kvs : List (Key × V)} {k : Str} {v : V} (h : H a = some (.dK kvs)) (hv : valV kvs (.inr k) = some v) (q : Q v H) : DGetAt (.ref a) (.str k) H Q := e_dget (k := .inr k) h hv q
theorem b_disp (q : ∀ p H', H p = none → H' p = some (.dK []) → Same H H' → tPairs trs σ H' fun ps H2 => H2 p = some (.dK []) ∧ ∃ kvs : List (Key × V), ps = kvs.map (fun kv => (kV kv.1, kv.2)) ∧ kvs.length ≤ 15 ∧ Q (.ref p) (upd H2 p (.dK (mergeK [] kvs)))) : tDisp trs σ H Q :=
  fun p np => q p _ np upd_same (same_upd np)
theorem b_pairs {R : List (V × V) → Hp → Prop} (q : tk σ H fun x H1 => tv σ H1 fun y H2 => tPairs trs σ H2 fun ps H3 => R ((x, y) :: ps) H3) : tPairs ((tk, tv) :: trs) σ H R := q
theorem b_pairs0 {R : List (V × V) → Hp → Prop} (q : R [] H) : tPairs [] σ H R := q
end
section
variable {X : Cx} {CX : CXT} {k : Nat} {f C : Addr} {fd : FuncData} {ps ks : List Str} {sp : Sp} {E : XK} {x : Str} {p pos : Pos} {kws : List Keyword} {tk : TA} {g : List Value → List Value → List Value} {gV : List V → List V → List V}
/-- C(k = v, ..) -/
theorem pe_makeN0 (M : Mk X.K C f) (F : FnOk X.prog X.w X.K X.mg X.base CX k f fd ps sp) (hr : Room (k + 1) X.A) (hg : Gl X x) (hm : X.mg x = some (.ref C)) (hb : KBn X.K fd ps (0 + 1) ks g gV) (hx : Passes CX X E)
    (hkw : PK X kws tk) (hall : (backToKw pos (keywordEach kws X.env)).all (·.1.isSome) = true := by rfl) (hks : (backToKw pos (keywordEach kws X.env)).filterMap (·.1) = ks := by rfl)
    (hdb : (x == ("__debug__" : Str)) = false := by decide)
    (hpl : ((backTo pos (starEach [] X.env)).any (·.1) || (backToKw pos (keywordEach kws X.env)).any (·.1.isNone)) = false := by rfl) :
    PE X (.Call (.Name x p) [] kws pos) (tMakeN C 0 ks.length sp gV E tNil tk) := by
  refine ⟨fun pins s σ H Q I h => wpAny_Call_Name_kw (ld_glob I hg hm ?_ hdb)⟩
  refine PySem.W.callWith_KW0 (h₀ := X.base) I.ok.mod.kin M.kp hall (thn (hkw.run pos pins s σ H _ I h) ?_) hpl
  rintro ws s2 ⟨zs, H2, I2, rz, l1, l2, q2⟩
  refine ⟨I2.kIn, ?_⟩
  rw [hks]
  exact run_makeN M F hr hb hx I2 .nil rz l1 l2 q2
def MakeNAt (C : Addr) (n m : Nat) (sp : Sp) (gV : List V → List V → List V) (E : XK) (vs zs : List V) (H : Hp) (Q : VK) : Prop := vs.length = n ∧ zs.length = m ∧
  ∀ x dx, H x = none → H dx = none → dx ≠ x → sp (gV (.ref x :: vs) zs) (upd (upd H dx (.own x)) x (.ins C dx [])) (fun v H3 => v = .non ∧ Q (.ref x) H3) E
theorem b_makeN {n m : Nat} {t : TA} {σ : L2.St} {H : Hp} {Q : VK} (q : t σ H fun vs H1 => tk σ H1 fun zs H2 => MakeNAt C n m sp gV E vs zs H2 Q) : tMakeN C n m sp gV E t tk σ H Q := q
theorem e_makeN {n m : Nat} {vs zs : List V} {H : Hp} {Q : VK} (h1 : vs.length = n) (h2 : zs.length = m) (q : ∀ x dx H', H x = none → H' x = some (.ins C dx []) → Same H H' → sp (gV (.ref x :: vs) zs) H' (fun v H2 => v = .non ∧ Q (.ref x) H2) E) : MakeNAt C n m sp gV E vs zs H Q :=
  ⟨h1, h2, fun x dx nx nd ne => q x dx _ nx upd_same fun b o e => by
    rw [upd_ne (ne_of_none e nx), upd_ne (ne_of_none e nd)]
    exact e⟩
end
end FG

/-! FG: text * int from 1 on, str(int), lists beside [] -/
namespace FG
open PySem PySem.Spec PyProof.Rows L2
section
variable {X : Cx} {K : PySem.W.Frag} {M : Addr → Prop} {σ : L2.St} {H : Hp} {Q : VK}
def qRepN : R2 := fun x y H Q => ∃ (a : Str) (n : Nat), x = .str a ∧ y = .int n ∧ 1 ≤ n ∧ n ≤ 1000 ∧ 1 ≤ a.length ∧ a.length ≤ 1000 ∧ Q (.str (repS a n)) H
theorem repS_one (a : Str) : repS a 1 = a := by
  unfold repS
  simp
theorem o_repN : OpR X (binaryOp .Mult) qRepN := by
  intro pins s σ H x y v u Q I rx ry h
  obtain ⟨a, n, rfl, rfl, h2, h3, h4, h5, q⟩ := h
  by_cases e : n = 1
  · subst e
    obtain ⟨t, rfl⟩ := rx
    obtain ⟨t', rfl⟩ := ry
    refine PySem.P.mul_str (by decide) (fun _ h => by simp at h) (fun _ h => by simp at h) ?_
    rw [if_neg (by decide), if_pos (by simp)]
    rw [repS_one] at q
    exact ⟨.str _, H, I, ⟨_, rfl⟩, q⟩
  · exact op_repS pins s σ H _ _ v u Q I rx ry ⟨a, n, rfl, rfl, by omega, h3, h4, h5, q⟩
theorem b_repN {x : Str} {n : Nat} {k : Int} (e : k = n) (h2 : 1 ≤ n) (h3 : n ≤ 1000) (h4 : 1 ≤ x.length) (h5 : x.length ≤ 1000) (q : Q (.str (repS x n)) H) : qRepN (.str x) (.int k) H Q := by
  subst e
  exact ⟨x, n, rfl, rfl, h2, h3, h4, h5, q⟩
def qStrI : List V → Hp → VK → Prop := fun xs H Q => ∃ i, xs = [.int i] ∧ i.natAbs.log2 < 1920 ∧ Q (.str (toString i)) H
theorem q_strI : CallR X (.type "str") qStrI := call_str_int
theorem b_strI {i : Int} (h1 : i.natAbs ≤ 1000) (q : Q (.str (toString i)) H) : qStrI [.int i] H Q := ⟨i, rfl, Nat.lt_of_le_of_lt (Nat.log2_le_self _) (by omega), q⟩
theorem strs_dq : ∀ (l : List Str), DqAll K M H (l.map V.str) (l.map PyData.str)
  | [] => .nil
  | x :: l => .cons (.str x) (strs_dq l)
theorem eqv_nil {ds : List PyData} : PyData.eqv (.list ds) (.list []) = ds.isEmpty := by
  cases ds with
  | nil => rfl
  | cons d ds => simp [PyData.eqv, PyData.eqvAll]
theorem shaped_nil : SeqAt.shaped (.list []) = true := shaped_of rfl (by decide)
/-- xs != [] -/
theorem e_neNil {a b : Addr} {xs : List V} {ds : List PyData} (ha : H a = some (.lst xs)) (hd : DqAll K M0 H xs ds) (hs : SeqAt.shaped (.list ds) = true) (hb : H b = some (.lst [])) (q : Q (.bl (!xs.isEmpty)) H) : rNeQ K (.ref a) (.ref b) H Q := by
  refine ⟨M0, M0, .list ds, .list [], Dq.newL (fun z => z) ha hd, Dq.newL (fun z => z) hb .nil, hs, shaped_nil, ?_⟩
  rw [eqv_nil]
  have : ds.isEmpty = xs.isEmpty := by
    have := hd.length
    cases xs <;> cases ds <;> simp_all
  rw [this]
  exact q
theorem strs_shaped {l : List Str} (h : ∀ x ∈ l, PyData.canLay0 (.str x) = true) : SeqAt.shaped (.list (l.map PyData.str)) = true := by
  refine shaped_of ?_ ?_
  · show PyData.canLayAll0 _ = true
    refine canLayAll_of fun d hd => ?_
    obtain ⟨x, hx, rfl⟩ := List.mem_map.mp hd
    exact h x hx
  · have : PyData.depthAll (l.map PyData.str) ≤ 0 := depthAll_of fun d hd => by
      obtain ⟨x, hx, rfl⟩ := List.mem_map.mp hd
      exact Nat.le_refl _
    show PyData.depthAll (l.map PyData.str) + 1 ≤ 64
    omega
def tWT (t : TT) : TT := fun σ H Q => ∃ Q0 : Bool → Hp → Prop, t σ H Q0 ∧ ∀ b H', Q0 b H' → Q b H'
theorem pt_w {e : Expr} {t : TT} (h : PT X e t) : PT X e (tWT t) := by
  refine ⟨fun pins s σ H Q I hw => ?_⟩
  obtain ⟨Q0, h0, hm⟩ := hw
  refine wpAny_mono (h.run pins s σ H Q0 I h0) ?_ (fun _ _ z => z)
  rintro b s1 ⟨H1, I1, q⟩
  exact ⟨H1, I1, hm _ _ q⟩
theorem b_wt {t : TT} {QT : Bool → Hp → Prop} (Q0 : Bool → Hp → Prop) (h0 : t σ H Q0) (hm : ∀ b H', Q0 b H' → QT b H') : tWT t σ H QT := ⟨Q0, h0, hm⟩
end
end FG

/-! FG: the law's end, with tuples that the top has computed -/
namespace FG
open PySem PySem.Spec PyProof.Rows L2
/-- tuples stay where the base hides the script alone -/
def TupKeep (h base : Heap) : Prop := ∀ (b : Addr) (o : Obj), h.get? b = some o → o.cls = .type "tuple" → base.get? b = some o
/-- the head, as lawG; tuples of the top stand in the base -/
theorem lawGT {P : Program} {w : World} {K : PySem.W.Frag} {mg mb : Str → Option Value} {k : Nat}
    {fa a : Addr} {fd : FuncData} {x : Str} {sp : Sp} {s₁ : Shared} {vs : List Value} {ns : List Int}
    (KX : K.In s₁.heap) (hns : s₁.heap.Ns mainGlobals mg) (hb : s₁.heap.Ns builtinsNs mb)
    (hbb : ∀ x : Str, x ≠ "__name__" → mb x = bootBuiltins x) (hlim : s₁.heap.NoLimit) (hg : s₁.gens = #[])
    (ha : s₁.heap.get? a = some { cls := .type "list", data := .seq vs.toArray }) (hi : IntsAre vs ns)
    (hl : ns.length ≤ sizeLine) (hr : Room k callerA)
    (F : ∀ base : Heap, K.In base → base.Ns mainGlobals mg → TupKeep s₁.heap base → FnOkG P w K mg base CX0 k fa fd [x] sp)
    (hbind : ∀ (s : Shared) (u : Value), BindsTo s fd ⟨[u], []⟩ [(x, u)])
    (hsp : ∀ H : Hp, Only H → SqL K H a (ns.map V.int) → sp [.ref a] H (fun v _ => v = .bl true) fun _ _ _ => False) :
    codeAny (model P w) callerA (.call (.ref fa) ⟨[.ref a], []⟩)
      (fun r s' => r = .ok (.ret (.bool true)) ∧ OldK s₁.heap s'.heap ∧ s'.os = s₁.os ∧ AllBare s'.gens) s₁ := by
  have rv := vals_ints hi
  have lenV := hi.length
  have core : ∀ H : Hp, Only H → SqL K H a (ns.map V.int) → HOk P w H s₁.heap → (∀ b, H b ≠ none → b = a) →
      (H a ≠ none → K.lookup a = none) → codeAny (model P w) callerA (.call (.ref fa) ⟨[.ref a], []⟩)
      (fun r s' => r = .ok (.ret (.bool true)) ∧ OldK s₁.heap s'.heap ∧ s'.os = s₁.os ∧ AllBare s'.gens) s₁ := by
    intro H hO hS hok hA hK
    have noA : ∀ {b : Addr} {o : Obj} {es : Array DictEntry} {ep : Nat},
        s₁.heap.get? b = some o → o.data = .dict es ep → H b = none := by
      intro b o es ep e d
      cases q : H b with
      | none => rfl
      | some u =>
        obtain rfl : b = a := hA b (by rw [q]; simp)
        rw [ha] at e; cases e
        cases (show Data.seq vs.toArray _ = Data.dict es ep from d)
    have hT : TupKeep s₁.heap (hidT s₁.heap H) := by
      intro b o e c
      refine hidT_get e ?_
      cases q : H b with
      | none => rfl
      | some u =>
        obtain rfl : b = a := hA b (by rw [q]; simp)
        rw [ha] at e; cases e
        exact absurd (show Value.type "list" = .type "tuple" from c) (by simp)
    have nsK : ∀ {b : Addr} {m : Str → Option Value}, s₁.heap.Ns b m → (hidT s₁.heap H).Ns b m := by
      rintro b m ⟨o, es, ep, e, d, r⟩
      exact ⟨o, es, ep, hidT_get e (noA e d), d, r⟩
    have hKb : K.In (hidT s₁.heap H) := by
      intro b o e
      refine hidT_get (KX b o e) ?_
      cases q : H b with
      | none => rfl
      | some u =>
        obtain rfl : b = a := hA b (by rw [q]; simp)
        rw [hK (by rw [q]; simp)] at e; cases e
    have hM : Mod K mg (hidT s₁.heap H) := by
      refine ⟨hKb, nsK hns, ⟨mb, nsK hb, hbb⟩, ?_⟩
      obtain ⟨mc, h1, h2⟩ := hlim
      exact ⟨mc, nsK h1, h2⟩
    have e0 : Env0 P w K mg (hidT s₁.heap H) callerA [] s₁ H :=
      { frames := rfl, mod := hM, bs := fun b o e => of_hidT e, bsz := Nat.le_of_eq (hidT_size _ _), funs := trivial,
        frf := fun b hb => absurd (show b ∈ ([] : List Addr) from hb) (by simp), hok := hok, bare := .of_eq hg }
    have run := (F _ hKb (nsK hns) hT).run callerA [] s₁ H ⟨[.ref a], []⟩ [.ref a] [.ref a] (fun v _ => v = .bl true)
      (fun _ _ _ => False) rfl hr e0 (hbind s₁ (.ref a)) (.cons rfl .nil) (hsp H hO hS)
    refine codeAny_mono run ?_
    intro r s' h
    cases r with
    | error e => exact False.elim h
    | ok fl =>
      cases fl with
      | ret u =>
        obtain ⟨v, H', os, bare, un, hok', r', q⟩ := h
        obtain rfl : v = .bl true := q
        obtain rfl : u = Value.bool true := r'
        refine ⟨rfl, OldK.of_keep fun b o e => ?_, os, bare⟩
        cases q : H b with
        | none => exact un.keep b o e q (by intro z; exact absurd (show b ∈ ([] : List Addr) from z) (by simp)) (by simp)
        | some u =>
          rcases hO b with z | ⟨ob, xs, z⟩
          · rw [q] at z; cases z
          · obtain ⟨e1, _⟩ := hok b _ z
            obtain ⟨e2, _⟩ := hok' b _ (un.frzs b ob _ z)
            rw [e] at e1; cases e1
            exact e2
      | _ => exact False.elim h
  cases hk : K.lookup a with
  | some o =>
    have e := KX a o hk
    rw [ha] at e
    cases e
    refine core (fun _ => none) (fun _ => .inl rfl) (.inr ⟨_, vs.toArray, _, hk, rfl, rfl, rfl, ?_, by simpa using rv⟩) ?_ ?_ ?_
    · rw [List.size_toArray, lenV]; exact hl
    · intro b u z; cases (show (none : Option HO) = some u from z)
    · intro b z; exact absurd rfl z
    · intro z; exact absurd rfl z
  | none =>
    let ob : Obj := { cls := .type "list", data := .seq vs.toArray }
    refine core (fun b => if b = a then some (.frz ob (.lst (ns.map V.int))) else none) ?_ (.inl (.inr ⟨ob, if_pos rfl⟩)) ?_ ?_ ?_
    · intro b
      by_cases hb : b = a
      · exact .inr ⟨_, _, if_pos hb⟩
      · exact .inl (if_neg hb)
    · intro b u z
      by_cases hb : b = a
      · cases (if_pos hb).symm.trans z
        subst hb
        exact ⟨ha, by rw [List.length_map]; exact hl, vs, _, rv, ha⟩
      · cases (if_neg hb).symm.trans z
    · intro b z
      by_cases hb : b = a
      · exact hb
      · exact absurd (if_neg hb) z
    · intro _; exact hk
/-- as walkGX, with the tuples kept -/
theorem walkGT {l : PySem.W.OpenLaw} {n k : Nat} {q : Program} {loose : List Str}
    {XP : (Str → Option Value) → Heap → Prop} {YP : World → Heap → Prop} {d : DefRec} {K : Params → PySem.W.Frag}
    {sp : PySem.W.Frag → Sp} {x : Str} (hn : l.most = some n) (hn2 : n ≤ sizeLine) (hdf : d.params.defaults = [])
    (hr : Room k callerA) (hY : ∀ (w : World) (h : Heap), YP w h → (K w.params).In h)
    (F : ∀ (w : World) (mg : Str → Option Value) (fa : Addr) (h : Heap), (K w.params).In h → h.Ns mainGlobals mg → XP mg h →
      mg d.name = some (.ref fa) → ∃ fd : FuncData, (∀ (s : Shared) (u : Value), BindsTo s fd ⟨[u], []⟩ [(x, u)]) ∧
        ∀ base : Heap, (K w.params).In base → base.Ns mainGlobals mg → TupKeep h base →
          FnOkG l.prog w (K w.params) mg base CX0 k fa fd [x] (sp (K w.params)))
    (hsp : ∀ (w : World) (H : Hp) (a : Addr) (ns : List Int), ns.length ≤ n → Only H →
      SqL (K w.params) H a (ns.map V.int) → sp (K w.params) [.ref a] H (fun v _ => v = .bl true) fun _ _ _ => False) :
    PySem.W.WalkO q loose XP YP l.row.toRowW d [] (fun f vs => PySem.call f vs) := by
  refine Att.attach_call hn hdf ?_
  intro w s₀ s₁ mg mb fa o pm cd doc a vs ns G Y ho hd hcd hmg hobj hints hlen hg
  have KX := hY w _ Y
  obtain ⟨fd, hb, hF⟩ := F w mg fa _ KX G.T.g G.X hmg
  exact lawGT KX G.T.g G.T.b G.T.builtins G.T.nolimit hg hobj hints (Nat.le_trans hlen hn2) hr hF hb
    (fun H hO hS => hsp w H a ns hlen hO hS)
/-- a tuple of texts that the top has computed -/
def LooseTup (mg : Str → Option Value) (h : Heap) (x : Str) (ws : List Str) : Prop := ∃ p : Addr, mg x = some (.ref p) ∧ ∀ base, TupKeep h base → BaseTup base p ws
theorem reads_strs {h : Heap} : ∀ {ws : List Str} {vs : List Value} {as : List Addr}, PySem.W.ReadsAllW [] (fun _ => none) h vs (ws.map PySem.W.WData.str) as → Vals (ws.map V.str) vs
  | [], _, _, .nil => .nil
  | _ :: _, _, _, .cons (.str _ t) r => .cons ⟨t, rfl⟩ (reads_strs r)
theorem loose_tup {p : Program} {lv : List (Str × PySem.W.WData)} {mg : Str → Option Value} {h : Heap} {x : Str} {ws : List Str} (X : PySem.W.XL p lv mg h) (hm : (x, PySem.W.WData.tuple (ws.map PySem.W.WData.str)) ∈ lv) : LooseTup mg h x ws := by
  obtain ⟨v, a, b⟩ := X.2.val _ hm
  cases b with
  | tuple e c d r =>
    rename_i p o vs n
    refine ⟨p, a, fun base hT => ⟨o, vs.toList, hT _ _ e c, c, ⟨n, by rw [d]⟩, reads_strs r⟩⟩
end FG

/-! FG: == of an object with data; x.split(), x.lstrip() -/
namespace FG
open PySem PySem.Spec PyProof.Rows L2
structure OwnKit (K : PySem.W.Frag) (C : Addr) : Prop where
  cls : (PySem.W.clsIn K C).isSome = true
  ty : PySem.W.typeIn K (.ref C) = some (.type "type")
theorem types_ref (C : Addr) : ∀ l : List String, (l.map Value.type).contains (.ref C) = false
  | [] => rfl
  | a :: l => by
    rw [List.map_cons, List.contains_cons, types_ref C l]
    rfl
theorem sub_own {K : PySem.W.Frag} {C : Addr} (d : PyData) : PySem.W.subIn K (.type (tyD d)) (.ref C) = some false := by
  have key : ∀ n ∈ ["NoneType", "bool", "int", "str", "list", "tuple", "dict"], (fastFind? n).isSome = true := by decide +kernel
  have h : (fastFind? (tyD d)).isSome = true := key _ (by cases d <;> simp [tyD])
  obtain ⟨x, hx⟩ := Option.isSome_iff_exists.mp h
  show (fastBuiltinMro (tyD d)).map _ = _
  unfold fastBuiltinMro
  rw [hx]
  exact congrArg some (types_ref C x.mro)
theorem kit_own {K : PySem.W.Frag} {C : Addr} (o : OwnKit K C) (d : PyData) : PySem.W.kitOne K (.type (tyD d)) (.ref C) = some false := by
  unfold PySem.W.kitOne
  rw [if_neg (by simp)]
  unfold PySem.W.kitCls
  dsimp only
  rw [if_pos (by rw [o.cls, o.ty]; simp)]
  exact sub_own d
theorem e_isNot {K : PySem.W.Frag} {C : Addr} {M : Addr → Prop} {v : V} {d : PyData} {H : Hp} {Q : VK} (o : OwnKit K C) (h : Dq K M H v d) (q : Q (.bl false) H) : rIsi K [v, .ref C] H Q :=
  ⟨v, .ref C, .type (tyD d), .ref C, false, rfl, .own C, h.ty, kit_own o d, q⟩
def rOwnEqD (K : PySem.W.Frag) (C : Addr) (sp : Sp) (E : XK) : R2 := fun x y H Q => ∃ a dx fs, ∃ (M : Addr → Prop) (d : PyData), x = .ref a ∧ H a = some (.ins C dx fs) ∧ Dq K M H y d ∧ sp [.ref a, y] H (fun v H' => ∃ r, v = .bl r ∧ Q (.bl r) H') E
section
variable {X : Cx} {CX : CXT} {n : Nat} {C f : Addr} {fd : FuncData} {ps : List Str} {sp : Sp} {E : XK}
theorem run_ownD (F : FnOk X.prog X.w X.K X.mg X.base CX n f fd ps sp) (hb : Binds X.K fd ps []) (hx : Passes CX X E) (hr : Room n X.A) {pins : List (Addr × Obj)} {s : Shared} {σ : L2.St} {H : Hp} {a : Addr} {y : V} {u : Value} {R : Bool → Hp → Prop}
    (I : Inv X pins σ H s) (ry : RelV y u) (h : sp [.ref a, y] H (fun v H' => ∃ r, v = .bl r ∧ R r H') E) : wpAny (model X.prog X.w) X.A (call (.ref f) [.ref a, u]) (fun v s' => ∃ r, v = .bool r ∧ ∃ H', Inv X pins σ H' s' ∧ R r H') X.xe s := by
  have e0 : Env0 X.prog X.w X.K X.mg X.base X.A X.stack s H := I.env0
  have hl := F.len _ _ _ _ h
  have r2 : Vals [V.ref a, y] [Value.ref a, u] := .cons rfl (.cons ry .nil)
  refine wpAny_call (codeAny_mono (F.run X.A X.stack s H ⟨[.ref a, u], []⟩ [.ref a, u] [.ref a, y] _ E hr e0 (by
    have := hb s [.ref a, u] I.kIn (by simpa using hl)
    simpa using this) r2 h) fun r s' hq => ?_)
  cases r with
  | error e => exact hx pins σ H s e s' I hq
  | ok fl =>
    cases fl with
    | ret w =>
      obtain ⟨z, H', I', rz, r, ez, q⟩ := I.after hq
      subst ez
      cases rz
      exact ⟨r, rfl, H', I', q⟩
    | next => exact False.elim hq
    | brk => exact False.elim hq
    | cont => exact False.elim hq
theorem op_ownEqD (F : FnOk X.prog X.w X.K X.mg X.base CX n f fd ps sp) (m : Meth X.K C "__eq__" f) (hb : Binds X.K fd ps []) (hx : Passes CX X E) (hr : Room n X.A) : OpR X (compareOp .Eq) (rOwnEqD X.K C sp E) := by
  intro pins s σ H x y v u Q I rx ry hq
  obtain ⟨a, dx, fs, M, d, rfl, ha, hd, h⟩ := hq
  cases rx
  obtain ⟨mA, J, _⟩ := ins_get I.hok ha
  obtain ⟨od, J, _⟩ := J.look
  obtain ⟨m0, hF⟩ := I.fr
  obtain ⟨Pk, kx, ps', _⟩ := kit_of I ry hd.ty
  refine PySem.W.cmp_K (op := .Eq) (tb := .type (tyD d)) hr.units0 hF I.ok.mod.kin J ?_ (by unfold PySem.W.notFirst; rw [sub_own]; simp) m.at_ m.fn (wpAny_mono (run_ownD F hb hx hr I ry h) (fun r s' z => ?_) fun _ _ e => e)
  · exact kx.ty _ _ I.kIn ps'
  · obtain ⟨r, rfl, H', I', q⟩ := z
    exact ⟨.bl r, H', I', rfl, q⟩
end
def qWords : V → List V → Hp → VK → Prop := fun x xs H Q => ∃ a, x = .str a ∧ xs = [] ∧ a.length + 2 ≤ sizeLine ∧ rNewStrs (Txt.words a) H Q
def qLstrip : V → List V → Hp → VK → Prop := fun x xs H Q => ∃ a, x = .str a ∧ xs = [] ∧ a.length ≤ sizeLine ∧ Q (.str (Txt.lstrip a)) H
theorem m_words {X : Cx} : MtR X "str.split" qWords := mt_words
theorem m_lstrip {X : Cx} : MtR X "str.lstrip" qLstrip := mt_lstrip
section
variable {σ : L2.St} {H : Hp} {Q : VK} {to : TE} {K : PySem.W.Frag}
theorem b_m0 {f : V → List V → Hp → VK → Prop} (q : to σ H fun x H1 => (∃ a, x = .str a) ∧ f x [] H1 Q) : tM0 f to σ H Q := q
theorem e_words {x : Str} {ys : List Str} (hl : x.length ≤ 100000) (hs : Txt.words x = ys) (q : ∀ p H', H p = none → H' p = some (.lst (ys.map V.str)) → Same H H' → Q (.ref p) H') : qWords (.str x) [] H Q := by
  refine ⟨x, rfl, rfl, Nat.le_trans (Nat.add_le_add_right hl 2) (by decide), ?_⟩
  rw [hs]
  exact fun p np => q p _ np upd_same (same_upd np)
theorem e_lstrip {x y : Str} (hl : x.length ≤ 100000) (hs : Txt.lstrip x = y) (q : Q (.str y) H) : qLstrip (.str x) [] H Q := ⟨x, rfl, rfl, Nat.le_trans hl (by decide), hs ▸ q⟩
end
end FG

/-! PR: programs as texts: lines, what the reader makes of them -/
namespace PR
open PySem PySem.Spec PySem.Builtin PySem.Builtin.Str
/-- a line: how far it is indented, its words -/
structure Line where
  ind : Nat
  ws : List Str
def blanks (n : Nat) : Str := ⟨(List.replicate n 32).toArray⟩
def wordsText (ws : List Str) : Str := Txt.join " " ws
def rowText (l : Line) : Str := blanks l.ind ++ wordsText l.ws
def okWord (w : Str) : Prop := w.cps.toList ≠ [] ∧ (32 : Nat) ∉ w.cps.toList ∧ (10 : Nat) ∉ w.cps.toList
def okLine (l : Line) : Prop := l.ws ≠ [] ∧ ∀ w ∈ l.ws, okWord w
structure Cond where
  signs : Option Str
  cell : Nat
  num : Nat
  turned : Bool
inductive St where
  | mk (line : Nat) (kind word : Str) (cell num : Nat) (asked : Option Cond) (body els : List St)
structure RS where
  now : Nat
  sy : Str
  cells : List (Str × Nat)
  names : List Str
  bodies : List (Str × List St)
  main : List St
  many : Nat
def letterB (c : Nat) : Bool := decide (c ∈ (Str.ofString "abcdefghijklmnopqrstuvwxyz").cps.toList)
def wordB (w : Str) : Bool := w.cps.toList.all letterB
def nameB (w : Str) : Bool := wordB w && (decide (1 ≤ w.length) && decide (w.length ≤ 8))
def ascL : List Nat → Bool
  | [] => true
  | [_] => true
  | a :: b :: r => decide (a < b) && ascL (b :: r)
def ascI : List Int → Bool
  | [] => true
  | [_] => true
  | a :: b :: r => decide (a < b) && ascI (b :: r)
def taken : List Str := ["symbols", "cell", "part", "main", "write", "set", "add", "else", "do", "at", "not", "right", "left", "copy", "stop", "if", "while"]
def bare : List Str := ["right", "left", "copy", "stop"]
def blocks : List Str := ["if", "while"]
def mosts : List Str := ["1", "2"]
def values : List Str := ["0", "1", "2"]
def inS (w : Str) (l : List Str) : Bool := decide (w ∈ l)
def digit (w : Str) : Nat := if w = "1" then 1 else if w = "2" then 2 else 0
def ind (L : List Line) (n : Nat) : Int := match L[n]? with
  | none => -1
  | some l => (l.ind : Int)
def wds (L : List Line) (n : Nat) : List Str := match L[n]? with
  | none => []
  | some l => l.ws
/-! each step: none where the reader fails -/
def newName (s : RS) (w : Str) : Option RS := if (nameB w && !inS w s.names && !inS w taken) = true then some { s with names := s.names ++ [w] } else none
def cellIx (cs : List (Str × Nat)) (w : Str) : Option Nat := cs.findIdx? fun c => c.1 == w
def valuesOf (s : RS) (c : Nat) : List Str := values.take ((s.cells.getD c ("", 0)).2 + 1)
def numberOf (w : Str) (some_ : List Str) : Option Nat := if inS w some_ = true then some (digit w) else none
def places (sy w : Str) : List Int := w.cps.toList.map fun c => Txt.find (("<" : Str) ++ sy ++ (">" : Str)) ⟨#[c]⟩
def signsB (sy w : Str) : Bool := decide (w ≠ "") && (!decide ((-1 : Int) ∈ places sy w) && ascI (places sy w))
def askedIn (s : RS) (ws : List Str) (t : Bool) : Option Cond := match ws with
  | [a, b] => if a = "at" then (if signsB s.sy b = true then some ⟨some b, 0, 0, t⟩ else none) else none
  | [a, b, c] => if b = "=" then (match cellIx s.cells a with
      | none => none
      | some i => match numberOf c (valuesOf s i) with
        | none => none
        | some n => some ⟨none, i, n, t⟩) else none
  | _ => none
def blockSt (s : RS) (ws : List Str) : Option St := match ws with
  | [] => none
  | k :: rest => match (if rest.take 1 = [Str.ofString "not"] then askedIn s (rest.drop 1) true else askedIn s rest false) with
    | none => none
    | some c => some (.mk (s.now + 1) k "" 0 0 (some c) [] [])
def letterW (w : Str) : Bool := decide (w.length = 1) && wordB w
def plainSt (s : RS) (ws : List Str) : Option St := match ws with
  | [k] => if inS k bare = true then some (.mk (s.now + 1) k "" 0 0 none [] []) else none
  | [k, a] => if k = "write" ∧ letterW a = true then some (.mk (s.now + 1) k a 0 0 none [] [])
    else if k = "do" ∧ inS a (s.bodies.map (·.1)) = true then some (.mk (s.now + 1) k a 0 0 none [] []) else none
  | [k, a, b] => if k = "set" ∨ k = "add" then (match cellIx s.cells a with
      | none => none
      | some i => match numberOf b (if k = "add" then mosts else valuesOf s i) with
        | none => none
        | some n => some (.mk (s.now + 1) k "" i n none [] [])) else none
  | _ => none
def St.withBody : St → List St → St
  | .mk l k w c n a _ e, b => .mk l k w c n a b e
def St.withElse : St → List St → St
  | .mk l k w c n a b _, e => .mk l k w c n a b e
/-- a body's further statements -/
def loopWith (L : List Line) (stmt : RS → Option (St × RS)) (d : Nat) : Nat → RS → List St → Option (List St × RS)
  | 0, _, _ => none
  | n + 1, s, acc => if ind L s.now = 2 * d then (match stmt s with
      | none => none
      | some (x, s1) => loopWith L stmt d n s1 (acc ++ [x])) else if ind L s.now > 2 * d then none else some (acc, s)
def bodyWith (L : List Line) (stmt : RS → Option (St × RS)) (d : Nat) (s : RS) : Option (List St × RS) := match stmt s with
  | none => none
  | some (x, s1) => loopWith L stmt d (L.length + 1) s1 [x]
def step (s : RS) : RS := { s with many := s.many + 1, now := s.now + 1 }
def stmtWith (L : List Line) (body : RS → Option (List St × RS)) (d : Nat) (s : RS) : Option (St × RS) :=
  if ind L s.now ≠ 2 * d ∨ 4 < d ∨ s.many = 20 then none else
  match wds L s.now with
  | [] => none
  | k :: r => if inS k blocks = true then (match blockSt s (k :: r) with
      | none => none
      | some x => match body (step s) with
        | none => none
        | some (b, s2) => if k = "if" ∧ ind L s2.now = 2 * d ∧ wds L s2.now = [Str.ofString "else"] then (match body { s2 with now := s2.now + 1 } with
            | none => none
            | some (e, s3) => some ((x.withBody b).withElse e, s3)) else some (x.withBody b, s2))
    else (match plainSt s (k :: r) with
      | none => none
      | some x => some (x, step s))
def rdS (L : List Line) : Nat → Nat → RS → Option (St × RS)
  | 0, _, _ => none
  | e + 1, d, s => stmtWith L (bodyWith L (rdS L e (d + 1)) (d + 1)) d s
def rdB (L : List Line) (e d : Nat) (s : RS) : Option (List St × RS) := bodyWith L (rdS L e d) d s
def begins (L : List Line) (n : Nat) (w : Str) : Bool := decide (ind L n = 0) && decide ((wds L n).head? = some w)
def readCell (L : List Line) (s : RS) : Option RS := match wds L s.now with
  | [_, b, c] => if inS c mosts = true ∧ s.cells.length ≠ 2 then (match newName s b with
      | none => none
      | some s1 => some { s1 with cells := s1.cells ++ [(b, digit c)], now := s1.now + 1 }) else none
  | _ => none
def readPart (L : List Line) (s : RS) : Option RS := match wds L s.now with
  | [_, b] => if s.bodies.length ≠ 2 then (match newName s b with
      | none => none
      | some s1 => match rdB L 4 1 { s1 with now := s1.now + 1 } with
        | none => none
        | some (x, s2) => some { s2 with bodies := s2.bodies ++ [(b, x)] }) else none
  | _ => none
def whileB (c : RS → Bool) (f : RS → Option RS) : Nat → RS → Option RS
  | 0, _ => none
  | n + 1, s => if c s = true then (match f s with
      | none => none
      | some s1 => whileB c f n s1) else some s
def symB (w : Str) : Bool := wordB w && (decide (2 ≤ w.length) && decide (w.length ≤ 4)) && ascL w.cps.toList
def readSymbols (L : List Line) (s : RS) : Option RS := match wds L 0 with
  | [a, b] => if a = "symbols" ∧ ind L 0 = 0 ∧ symB b = true then some { s with sy := b, now := s.now + 1 } else none
  | _ => none
def start : RS := ⟨0, "", [], [], [], [], 0⟩
def readAll (L : List Line) : Option RS := match readSymbols L start with
  | none => none
  | some s1 => match whileB (fun s => begins L s.now "cell") (readCell L) (L.length + 1) s1 with
    | none => none
    | some s2 => match whileB (fun s => begins L s.now "part") (readPart L) (L.length + 1) s2 with
      | none => none
      | some s3 => if L[s3.now]?.map rowText = some "main" then (match rdB L 4 1 { s3 with now := s3.now + 1 } with
          | none => none
          | some (b, s4) => if s4.now = L.length then some { s4 with main := b } else none) else none
/-! ### texts of lines -/
theorem toL_append (a b : Str) : (a ++ b).cps.toList = a.cps.toList ++ b.cps.toList := TL.tl_append a b
theorem row_len (l : Line) : (rowText l).length = l.ind + (wordsText l.ws).length := by
  unfold rowText
  rw [strLen_append]
  congr 1
  show (List.replicate l.ind 32).toArray.size = _
  simp
theorem words_head {ws : List Str} (h : ws ≠ []) (ok : ∀ w ∈ ws, okWord w) : ∃ c r, (wordsText ws).cps.toList = c :: r ∧ c ≠ 32 := by
  cases ws with
  | nil => exact absurd rfl h
  | cons w ws =>
    obtain ⟨h1, h2, h3⟩ := ok w List.mem_cons_self
    obtain ⟨c, r, e⟩ : ∃ c r, w.cps.toList = c :: r := by
      cases e : w.cps.toList with
      | nil => exact absurd e h1
      | cons c r => exact ⟨c, r, rfl⟩
    have hc : c ≠ 32 := fun z => h2 (by rw [e, z]; exact List.mem_cons_self)
    have key : (wordsText (w :: ws)).cps.toList = TL.joinL [32] ((w :: ws).map TL.tl) := by
      unfold wordsText
      rw [TL.join_eq]
      exact TL.tl_join " " (w :: ws)
    rw [key]
    cases ws with
    | nil => exact ⟨c, r, e, hc⟩
    | cons v vs => exact ⟨c, _, by
        show TL.tl w ++ _ = _
        rw [show TL.tl w = c :: r from e]
        rfl, hc⟩
theorem split_words {ws : List Str} (h : ws ≠ []) (ok : ∀ w ∈ ws, okWord w) : Txt.split (wordsText ws) " " = ws :=
  TL.split_join (s := 32) (S := []) rfl (by decide +kernel) h fun p hp => (ok p hp).2.1
theorem lines_text {L : List Line} (h : L ≠ []) (ok : ∀ l ∈ L, okLine l) : Txt.split (Txt.join "\n" (L.map rowText)) "\n" = L.map rowText := by
  refine TL.split_join (s := 10) (S := []) rfl (by decide +kernel) (by simpa using h) fun p hp => ?_
  obtain ⟨l, hl, rfl⟩ := List.mem_map.mp hp
  obtain ⟨h1, h2⟩ := ok l hl
  have e : TL.tl (rowText l) = List.replicate l.ind 32 ++ TL.joinL [32] (l.ws.map TL.tl) := by
    show (rowText l).cps.toList = _
    unfold rowText
    rw [toL_append]
    congr 1
    unfold wordsText
    rw [TL.join_eq]
    exact TL.tl_join " " l.ws
  rw [e]
  intro hm
  rcases List.mem_append.mp hm with hm | hm
  · have := List.eq_of_mem_replicate hm
    omega
  · have key : ∀ ps : List Str, (∀ w ∈ ps, okWord w) → (10 : Nat) ∉ TL.joinL [32] (ps.map TL.tl) := by
      intro ps
      induction ps with
      | nil => intro _; simp [TL.joinL]
      | cons a ps ih =>
        intro hok
        cases ps with
        | nil => exact (hok a List.mem_cons_self).2.2
        | cons b r =>
          intro z
          have z2 : (10 : Nat) ∈ TL.tl a ++ ([32] ++ TL.joinL [32] ((b :: r).map TL.tl)) := z
          rcases List.mem_append.mp z2 with z3 | z3
          · exact (hok a List.mem_cons_self).2.2 z3
          · rcases List.mem_append.mp z3 with z4 | z4
            · simp at z4
            · exact ih (fun w hw => hok w (List.mem_cons_of_mem _ hw)) z4
    exact key _ h2 hm
theorem lstrip_row {l : Line} (ok : okLine l) : Txt.lstripChars (rowText l) " " = wordsText l.ws := by
  obtain ⟨c, r, e, hc⟩ := words_head ok.1 ok.2
  have ex : (rowText l).cps.toList = List.replicate l.ind 32 ++ (c :: r) := by
    unfold rowText
    rw [toL_append, e]
    rfl
  have g1 : (Str.ofString " ").cps.contains 32 = true := by decide +kernel
  have g2 : (Str.ofString " ").cps.contains c = false := by
    have : (Str.ofString " ").cps = #[32] := rfl
    rw [this]
    simp [hc]
  have lo : stripLo (Str.ofString " ").cps.contains true (rowText l) = l.ind := by
    show ((rowText l).cps.toList.takeWhile (Str.ofString " ").cps.contains).length = _
    rw [ex]
    have : ∀ n : Nat, ((List.replicate n 32 ++ (c :: r)).takeWhile (Str.ofString " ").cps.contains).length = n := by
      intro n
      induction n with
      | zero => rw [List.replicate_zero, List.nil_append, List.takeWhile_cons, g2]; rfl
      | succ n ih => rw [List.replicate_succ, List.cons_append, List.takeWhile_cons, if_pos g1, List.length_cons, ih]
    exact this _
  unfold Txt.lstripChars
  rw [PyProof.Rows.stripBy_eq, lo]
  show (⟨(rowText l).cps.extract l.ind (rowText l).length⟩ : Str) = _
  have hw : wordsText l.ws = ⟨(c :: r).toArray⟩ := by
    rw [← e]
  rw [hw]
  congr 1
  apply Array.ext'
  rw [Array.toList_extract, ex]
  have hlen : (rowText l).length = l.ind + (c :: r).length := by
    have : (rowText l).length = (rowText l).cps.toList.length := by simp [Str.length]
    rw [this, ex]
    simp
  rw [hlen]
  simp [List.extract]
end PR

/-! PR: what reading keeps -/
namespace PR
open PySem
structure Kept (L : List Line) (s s' : RS) : Prop where
  sy : s'.sy = s.sy
  cells : s'.cells = s.cells
  names : s'.names = s.names
  bodies : s'.bodies = s.bodies
  main : s'.main = s.main
  now : s'.now ≤ L.length
  le : s.now ≤ s'.now
theorem Kept.trans {L : List Line} {a b c : RS} (h : Kept L a b) (g : Kept L b c) : Kept L a c :=
  ⟨g.sy.trans h.sy, g.cells.trans h.cells, g.names.trans h.names, g.bodies.trans h.bodies, g.main.trans h.main, g.now, Nat.le_trans h.le g.le⟩
theorem ind_lt {L : List Line} {n d : Nat} (h : ind L n = 2 * (d : Int)) : n < L.length := by
  unfold ind at h
  split at h
  · rename_i e
    omega
  · rename_i l e
    exact (List.getElem?_eq_some_iff.mp e).1
theorem loop_kept {L : List Line} {stmt : RS → Option (St × RS)} {d : Nat} (hs : ∀ s x s', stmt s = some (x, s') → Kept L s s') : ∀ (n : Nat) (s : RS) (acc b : List St) (s' : RS), s.now ≤ L.length → loopWith L stmt d n s acc = some (b, s') → Kept L s s'
  | 0, s, acc, b, s', _, h => by cases h
  | n + 1, s, acc, b, s', hn, h => by
    unfold loopWith at h
    split at h
    · split at h
      · cases h
      · rename_i x s1 e
        have k := hs _ _ _ e
        exact k.trans (loop_kept hs n s1 _ b s' k.now h)
    · split at h
      · cases h
      · cases h
        exact ⟨rfl, rfl, rfl, rfl, rfl, hn, Nat.le_refl _⟩
theorem body_kept {L : List Line} {stmt : RS → Option (St × RS)} {d : Nat} (hs : ∀ s x s', stmt s = some (x, s') → Kept L s s') {s s' : RS} {b : List St} (h : bodyWith L stmt d s = some (b, s')) : Kept L s s' := by
  unfold bodyWith at h
  split at h
  · cases h
  · rename_i x s1 e
    have k := hs _ _ _ e
    exact k.trans (loop_kept hs _ s1 _ b s' k.now h)
theorem stmt_kept {L : List Line} {body : RS → Option (List St × RS)} {d : Nat} (hb : ∀ s b s', body s = some (b, s') → Kept L s s') {s s' : RS} {x : St} (h : stmtWith L body d s = some (x, s')) : Kept L s s' ∧ s.now < s'.now := by
  unfold stmtWith at h
  split at h
  · cases h
  rename_i hc
  have hn : s.now < L.length := ind_lt (d := d) (by
    false_or_by_contra
    rename_i z
    exact hc (.inl z))
  have k0 : Kept L s (step s) := ⟨rfl, rfl, rfl, rfl, rfl, hn, Nat.le_succ _⟩
  have u0 : s.now < (step s).now := Nat.lt_succ_self _
  split at h
  · cases h
  · rename_i k r e
    split at h
    · split at h
      · cases h
      · rename_i x0 e0
        split at h
        · cases h
        · rename_i b s2 e2
          have k2 := k0.trans (hb _ _ _ e2)
          split at h
          · rename_i hel
            split at h
            · cases h
            · rename_i e3 s3 e4
              cases h
              have k3 := hb _ _ _ e4
              have l1 := (hb _ _ _ e2).le
              have l2 := k3.le
              exact ⟨⟨k3.sy.trans k2.sy, k3.cells.trans k2.cells, k3.names.trans k2.names, k3.bodies.trans k2.bodies, k3.main.trans k2.main, k3.now, by have : s2.now + 1 ≤ s'.now := l2; have := k2.le; omega⟩, by have : s2.now + 1 ≤ s'.now := l2; omega⟩
          · cases h
            have l1 := (hb _ _ _ e2).le
            exact ⟨k2, by omega⟩
    · split at h
      · cases h
      · cases h
        exact ⟨k0, u0⟩
theorem rdS_kept {L : List Line} : ∀ {e d : Nat} {s s' : RS} {x : St}, rdS L e d s = some (x, s') → Kept L s s'
  | 0, _, _, _, _, h => by cases h
  | e + 1, d, s, s', x, h => (stmt_kept (fun s b s' hb => body_kept (fun s x s' hs => rdS_kept hs) hb) h).1
theorem rdS_up {L : List Line} : ∀ {e d : Nat} {s s' : RS} {x : St}, rdS L e d s = some (x, s') → s.now < s'.now
  | 0, _, _, _, _, h => by cases h
  | e + 1, d, s, s', x, h => (stmt_kept (fun s b s' hb => body_kept (fun s x s' hs => rdS_kept hs) hb) h).2
theorem rdB_kept {L : List Line} {e d : Nat} {s s' : RS} {b : List St} (h : rdB L e d s = some (b, s')) : Kept L s s' := body_kept (fun s x s' hs => rdS_kept hs) h
end PR

/-! PR: the letters of a body; how deep, how many -/
namespace PR
open PySem
def sing (c : Nat) : Str := ⟨#[c]⟩
mutual
def lettersS (sy : Str) : St → List Str
  | .mk _ k w _ _ _ b e => (if k = "write" then [w] else if k = "copy" then sy.cps.toList.map sing else []) ++ (lettersL sy b ++ lettersL sy e)
def lettersL (sy : Str) : List St → List Str
  | [] => []
  | x :: xs => lettersS sy x ++ lettersL sy xs
end
/-- e deep at most, n statements in all, letters are written -/
inductive Ok : Nat → Nat → List St → Prop
  | nil {e : Nat} : Ok e 0 []
  | cons {e n m p l : Nat} {k w : Str} {c u : Nat} {q : Option Cond} {body els xs : List St} : Ok e n body → Ok e m els → (k = "write" → letterW w = true) → Ok (e + 1) p xs → Ok (e + 1) (n + m + p + 1) (.mk l k w c u q body els :: xs)
theorem Ok.append {e n : Nat} {a : List St} (h : Ok e n a) : ∀ {m : Nat} {b : List St}, Ok e m b → Ok e (n + m) (a ++ b) := by
  induction h with
  | nil => intro m b hb; rw [Nat.zero_add]; exact hb
  | cons h1 h2 hw h3 i1 i2 i3 =>
    intro m b hb
    rw [show ∀ a b c d : Nat, a + b + c + 1 + d = a + b + (c + d) + 1 from fun a b c d => by omega]
    exact Ok.cons h1 h2 hw (i3 hb)
theorem lettersL_len {sy : Str} (hs : sy.length ≤ 4) {e n : Nat} {b : List St} (h : Ok e n b) : (lettersL sy b).length ≤ 4 * n := by
  have hz : sy.cps.toList.length ≤ 4 := by simpa [Str.length] using hs
  induction h with
  | nil => simp [lettersL]
  | cons h1 h2 hw h3 i1 i2 i3 =>
    simp only [lettersL, lettersS, List.length_append]
    split
    · simp only [List.length_cons, List.length_nil]; omega
    · split
      · rw [List.length_map]; omega
      · simp only [List.length_nil]; omega
theorem lettersL_mem {sy : Str} (hs : wordB sy = true) {e n : Nat} {b : List St} (h : Ok e n b) : ∀ x ∈ lettersL sy b, letterW x = true := by
  induction h with
  | nil => intro x hx; simp [lettersL] at hx
  | cons h1 h2 hw h3 i1 i2 i3 =>
    intro x hx
    simp only [lettersL, lettersS, List.mem_append] at hx
    rcases hx with (hx | hx | hx) | hx
    · split at hx
      · rename_i hk
        rw [List.mem_singleton.mp hx]
        exact hw hk
      · split at hx
        · obtain ⟨c, hc, rfl⟩ := List.mem_map.mp hx
          unfold wordB at hs
          have := List.all_eq_true.mp hs c hc
          unfold letterW wordB
          rw [Bool.and_eq_true, decide_eq_true_eq]
          exact ⟨rfl, by simpa [sing] using this⟩
        · cases hx
    · exact i1 x hx
    · exact i2 x hx
    · exact i3 x hx
/-! ### what reading makes -/
def Made (e : Nat) (s s' : RS) (b : List St) : Prop := s.many ≤ 20 → s'.many ≤ 20 ∧ ∃ n, s'.many = s.many + n ∧ Ok e n b
theorem loop_made {L : List Line} {stmt : RS → Option (St × RS)} {d e : Nat} (hs : ∀ s x s', stmt s = some (x, s') → Made e s s' [x]) : ∀ (n : Nat) (s0 s : RS) (acc b : List St) (s' : RS), Made e s0 s acc → loopWith L stmt d n s acc = some (b, s') → Made e s0 s' b
  | 0, s0, s, acc, b, s', _, h => by cases h
  | n + 1, s0, s, acc, b, s', hm, h => by
    unfold loopWith at h
    split at h
    · split at h
      · cases h
      · rename_i x s1 e1
        have k := hs _ _ _ e1
        refine loop_made hs n s0 s1 _ b s' (fun z => ?_) h
        obtain ⟨m1, n1, q1, o1⟩ := hm z
        obtain ⟨m2, n2, q2, o2⟩ := k m1
        exact ⟨m2, n1 + n2, by omega, o1.append o2⟩
    · split at h
      · cases h
      · cases h
        exact hm
theorem body_made {L : List Line} {stmt : RS → Option (St × RS)} {d e : Nat} (hs : ∀ s x s', stmt s = some (x, s') → Made e s s' [x]) {s s' : RS} {b : List St} (h : bodyWith L stmt d s = some (b, s')) : Made e s s' b := by
  unfold bodyWith at h
  split at h
  · cases h
  · rename_i x s1 e1
    exact loop_made hs _ s s1 _ b s' (hs _ _ _ e1) h
theorem block_shape {s : RS} {ws : List Str} {x : St} (h : blockSt s ws = some x) : ∃ k r c, ws = k :: r ∧ x = .mk (s.now + 1) k "" 0 0 (some c) [] [] := by
  unfold blockSt at h
  split at h
  · cases h
  · rename_i k rest
    split at h
    · cases h
    · rename_i c e
      cases h
      exact ⟨k, rest, c, rfl, rfl⟩
theorem plain_shape {s : RS} {ws : List Str} {x : St} (h : plainSt s ws = some x) : ∃ k w c n, x = .mk (s.now + 1) k w c n none [] [] ∧ (k = "write" → letterW w = true) := by
  unfold plainSt at h
  split at h
  · split at h
    · rename_i k hb
      cases h
      refine ⟨k, _, _, _, rfl, fun z => ?_⟩
      rw [z] at hb
      exact absurd hb (by decide +kernel)
    · cases h
  · split at h
    · rename_i hc
      cases h
      exact ⟨_, _, _, _, rfl, fun _ => hc.2⟩
    · split at h
      · rename_i hc
        cases h
        refine ⟨_, _, _, _, rfl, fun z => ?_⟩
        rw [hc.1] at z
        exact absurd z (by decide +kernel)
      · cases h
  · split at h
    · rename_i hc
      split at h
      · cases h
      · split at h
        · cases h
        · cases h
          refine ⟨_, _, _, _, rfl, fun z => ?_⟩
          rw [z] at hc
          exact absurd hc (by decide +kernel)
    · cases h
  · cases h
theorem stmt_made {L : List Line} {body : RS → Option (List St × RS)} {d e : Nat} (hb : ∀ s b s', body s = some (b, s') → Made e s s' b) {s s' : RS} {x : St} (h : stmtWith L body d s = some (x, s')) : Made (e + 1) s s' [x] := by
  intro hle
  unfold stmtWith at h
  split at h
  · cases h
  rename_i hc
  have hm : s.many ≠ 20 := fun z => hc (.inr (.inr z))
  have h1 : (step s).many = s.many + 1 := rfl
  split at h
  · cases h
  · rename_i k r e0
    split at h
    · rename_i hbl
      split at h
      · cases h
      · rename_i x0 e1
        obtain ⟨k', r', c, ek, rfl⟩ := block_shape e1
        cases ek
        have hk : k = "write" → letterW "" = true := fun z => by
          rw [z] at hbl
          exact absurd hbl (by decide +kernel)
        split at h
        · cases h
        · rename_i b s2 e2
          obtain ⟨m2, n2, q2, o2⟩ := hb _ _ _ e2 (by omega)
          split at h
          · split at h
            · cases h
            · rename_i e3 s3 e4
              cases h
              obtain ⟨m3, n3, q3, o3⟩ := hb _ _ _ e4 m2
              refine ⟨m3, n2 + n3 + 0 + 1, ?_, Ok.cons o2 o3 hk .nil⟩
              have : ({ s2 with now := s2.now + 1 } : RS).many = s2.many := rfl
              omega
          · cases h
            exact ⟨m2, n2 + 0 + 0 + 1, by omega, Ok.cons o2 .nil hk .nil⟩
    · split at h
      · cases h
      · rename_i x0 e1
        cases h
        obtain ⟨k', w, c, n, rfl, hk⟩ := plain_shape e1
        exact ⟨by omega, 0 + 0 + 0 + 1, by omega, Ok.cons .nil .nil hk .nil⟩
theorem rdS_made {L : List Line} : ∀ {e d : Nat} {s s' : RS} {x : St}, rdS L e d s = some (x, s') → Made e s s' [x]
  | 0, _, _, _, _, h => by cases h
  | e + 1, d, s, s', x, h => stmt_made (fun s b s' hb => body_made (fun s x s' hs => rdS_made hs) hb) h
theorem rdB_made {L : List Line} {e d : Nat} {s s' : RS} {b : List St} (h : rdB L e d s = some (b, s')) : Made e s s' b := body_made (fun s x s' hs => rdS_made hs) h
/-- all bodies of a program -/
def Whole (s : RS) : Prop := s.many ≤ 20 ∧ (∀ p ∈ s.bodies, ∃ n, n ≤ 20 ∧ Ok 4 n p.2) ∧ wordB s.sy = true
theorem newName_same {s s' : RS} {w : Str} (h : newName s w = some s') : s'.many = s.many ∧ s'.bodies = s.bodies ∧ s'.sy = s.sy ∧ s'.cells = s.cells := by
  unfold newName at h
  split at h
  · cases h; exact ⟨rfl, rfl, rfl, rfl⟩
  · cases h
theorem while_whole {L : List Line} {c : RS → Bool} {f : RS → Option RS} {W : RS → Prop} (hf : ∀ s s', W s → f s = some s' → W s') : ∀ (n : Nat) {s s' : RS}, W s → whileB c f n s = some s' → W s'
  | 0, s, s', _, h => by cases h
  | n + 1, s, s', hw, h => by
    unfold whileB at h
    split at h
    · split at h
      · cases h
      · rename_i s1 e
        exact while_whole (L := L) hf n (hf _ _ hw e) h
    · cases h; exact hw
theorem cell_whole {L : List Line} (s s' : RS) (hw : Whole s) (h : readCell L s = some s') : Whole s' := by
  unfold readCell at h
  split at h
  · split at h
    · split at h
      · cases h
      · rename_i s1 e
        cases h
        obtain ⟨h1, h2, h3, h4⟩ := newName_same e
        refine ⟨by show s1.many ≤ 20; rw [h1]; exact hw.1, fun p hp => hw.2.1 p ?_, by show wordB s1.sy = true; rw [h3]; exact hw.2.2⟩
        have : p ∈ s1.bodies := hp
        rw [h2] at this
        exact this
    · cases h
  · cases h
theorem part_whole {L : List Line} (s s' : RS) (hw : Whole s) (h : readPart L s = some s') : Whole s' := by
  unfold readPart at h
  split at h
  · split at h
    · split at h
      · cases h
      · rename_i s1 e
        split at h
        · cases h
        · rename_i x s2 e2
          cases h
          obtain ⟨h1, h2, h3, h4⟩ := newName_same e
          have hm : ({ s1 with now := s1.now + 1 } : RS).many ≤ 20 := by show s1.many ≤ 20; rw [h1]; exact hw.1
          obtain ⟨m2, n, q, o⟩ := rdB_made e2 hm
          have kb : s2.bodies = s1.bodies := (rdB_kept e2).bodies
          refine ⟨m2, fun p hp => ?_, ?_⟩
          rotate_left
          · show wordB s2.sy = true
            rw [(rdB_kept e2).sy]
            show wordB s1.sy = true
            rw [h3]
            exact hw.2.2
          have hp' : p ∈ s2.bodies ++ [(_, x)] := hp
          rcases List.mem_append.mp hp' with z | z
          · rw [kb, h2] at z
            exact hw.2.1 p z
          · rw [List.mem_singleton.mp z]
            exact ⟨n, by omega, o⟩
    · cases h
  · cases h
theorem readAll_whole {L : List Line} {s : RS} (h : readAll L = some s) : (∀ p ∈ s.bodies, ∃ n, n ≤ 20 ∧ Ok 4 n p.2) ∧ (∃ n, n ≤ 20 ∧ Ok 4 n s.main) ∧ wordB s.sy = true := by
  unfold readAll at h
  split at h
  · cases h
  rename_i s1 hsym
  split at h
  · cases h
  rename_i s2 hcells
  split at h
  · cases h
  rename_i s3 hparts
  split at h
  rotate_left
  · cases h
  split at h
  · cases h
  rename_i b s4 hbody
  split at h
  rotate_left
  · cases h
  cases h
  have w1 : Whole s1 := by
    unfold readSymbols at hsym
    split at hsym
    · split at hsym
      · rename_i hc
        cases hsym
        refine ⟨Nat.zero_le _, fun p hp => (by cases hp), ?_⟩
        have hsy := hc.2.2
        unfold symB at hsy
        rw [Bool.and_eq_true, Bool.and_eq_true] at hsy
        exact hsy.1.1
      · cases hsym
    · cases hsym
  have w2 := while_whole (L := L) cell_whole _ w1 hcells
  have w3 := while_whole (L := L) part_whole _ w2 hparts
  obtain ⟨m4, n, q, o⟩ := rdB_made hbody (by exact w3.1)
  have kb : s4.bodies = s3.bodies := (rdB_kept hbody).bodies
  refine ⟨fun p hp => w3.2.1 p ?_, ⟨n, by omega, o⟩, (show wordB s4.sy = true by rw [(rdB_kept hbody).sy]; exact w3.2.2)⟩
  have : p ∈ s4.bodies := hp
  rw [kb] at this
  exact this
/-- letters of one sign: few -/
theorem letters_few {l : List Str} (nd : l.Nodup) (h : ∀ x ∈ l, letterW x = true) : l.length ≤ 26 := by
  have key : ∀ (l : List Str) (A : List Nat), l.Nodup → (∀ x ∈ l, ∃ c ∈ A, x = sing c) → l.length ≤ A.length := by
    intro l
    induction l with
    | nil => intro A _ _; exact Nat.zero_le _
    | cons x l ih =>
      intro A nd h
      obtain ⟨c, hc, rfl⟩ := h x List.mem_cons_self
      obtain ⟨d1, d2⟩ := List.nodup_cons.mp nd
      have := ih (A.erase c) d2 fun y hy => by
        obtain ⟨e, he, rfl⟩ := h y (List.mem_cons_of_mem _ hy)
        refine ⟨e, (List.mem_erase_of_ne fun z => ?_).mpr he, rfl⟩
        rw [z] at hy
        exact d1 hy
      rw [List.length_erase_of_mem hc] at this
      have hp : 0 < A.length := List.length_pos_of_mem hc
      rw [List.length_cons]
      omega
  have e26 : (Str.ofString "abcdefghijklmnopqrstuvwxyz").cps.toList.length = 26 := by decide +kernel
  rw [← e26]
  refine key l _ nd fun x hx => ?_
  have := h x hx
  unfold letterW wordB at this
  rw [Bool.and_eq_true, decide_eq_true_eq] at this
  obtain ⟨h1, h2⟩ := this
  have h1' : x.cps.size = 1 := h1
  obtain ⟨⟨xs⟩⟩ := x
  match xs, h1' with
  | [c], _ =>
    refine ⟨c, ?_, rfl⟩
    have := List.all_eq_true.mp h2 c (by simp)
    unfold letterB at this
    exact of_decide_eq_true this
end PR

/-! PR: programs that are drawn: their lines, and what the reader makes of them -/
namespace PR
open PySem
structure Ctx where
  sy : Str
  cells : List (Str × Nat)
  known : List Str
structure Fits (G : Ctx) (s : RS) : Prop where
  sy : s.sy = G.sy
  cells : s.cells = G.cells
  known : ∀ n ∈ G.known, n ∈ s.bodies.map (·.1)
theorem Fits.kept {G : Ctx} {L : List Line} {s s' : RS} (h : Fits G s) (k : Kept L s s') : Fits G s' := ⟨k.sy.trans h.sy, k.cells.trans h.cells, fun n hn => by rw [k.bodies]; exact h.known n hn⟩
theorem Fits.step {G : Ctx} {s : RS} (h : Fits G s) : Fits G (step s) := ⟨h.sy, h.cells, h.known⟩
structure AskOk (G : Ctx) (ws : List Str) : Prop where
  ne : ws ≠ []
  rd : ∀ s, Fits G s → ∃ c, (if ws.take 1 = [Str.ofString "not"] then askedIn s (ws.drop 1) true else askedIn s ws false) = some c
structure PlainOk (G : Ctx) (ws : List Str) : Prop where
  ne : ws ≠ []
  nb : ∀ k r, ws = k :: r → inS k blocks = false
  nel : ws ≠ [Str.ofString "else"]
  rd : ∀ s, Fits G s → ∃ x, plainSt s ws = some x
/-- statements at the depth d, n in all -/
inductive Sts (G : Ctx) : Nat → Nat → List Line → Prop
  | nil {d : Nat} : Sts G d 0 []
  | plain {d n : Nat} {ws : List Str} {L : List Line} : PlainOk G ws → Sts G d n L → Sts G d (n + 1) (⟨2 * d, ws⟩ :: L)
  | block {d n m : Nat} {k : Str} {ws : List Str} {B L : List Line} : inS k blocks = true → AskOk G ws → d < 4 → B ≠ [] → Sts G (d + 1) m B → Sts G d n L → Sts G d (m + n + 1) (⟨2 * d, k :: ws⟩ :: (B ++ L))
  | both {d n m p : Nat} {ws : List Str} {B E L : List Line} : AskOk G ws → d < 4 → B ≠ [] → E ≠ [] → Sts G (d + 1) m B → Sts G (d + 1) p E → Sts G d n L →
      Sts G d (m + p + n + 1) (⟨2 * d, Str.ofString "if" :: ws⟩ :: (B ++ ⟨2 * d, [Str.ofString "else"]⟩ :: (E ++ L)))
theorem Sts.cast {G : Ctx} {d n m : Nat} {L : List Line} (h : Sts G d n L) (e : n = m) : Sts G d m L := e ▸ h
theorem Sts.append {G : Ctx} {d n : Nat} {A : List Line} (h : Sts G d n A) : ∀ {m : Nat} {B : List Line}, Sts G d m B → Sts G d (n + m) (A ++ B) := by
  induction h with
  | nil => intro m B hB; exact hB.cast (Nat.zero_add m).symm
  | plain hp _ ih => intro m B hB; exact (Sts.plain hp (ih hB)).cast (by omega)
  | block hk ha hd hne hB1 hL _ ihL =>
    intro m B hB
    rw [List.cons_append, List.append_assoc]
    exact (Sts.block hk ha hd hne hB1 (ihL hB)).cast (by omega)
  | both ha hd h1 h2 hB1 hE hL _ _ ihL =>
    intro m B hB
    rw [List.cons_append, List.append_assoc, List.cons_append, List.append_assoc]
    exact (Sts.both ha hd h1 h2 hB1 hE (ihL hB)).cast (by omega)
/-- the first of the lines that come stands less deep -/
def Low (d : Nat) (post : List Line) : Prop := ∀ l, post.head? = some l → l.ind < 2 * d
theorem Sts.head {G : Ctx} {d n : Nat} {B : List Line} (h : Sts G d n B) : ∀ l, B.head? = some l → l.ind = 2 * d ∧ l.ws ≠ [Str.ofString "else"] := by
  intro l hl
  cases h with
  | nil => cases hl
  | plain hp _ => cases hl; exact ⟨rfl, hp.nel⟩
  | block hk _ _ _ _ _ =>
    cases hl
    refine ⟨rfl, fun z => ?_⟩
    have := (List.cons.inj z).1
    rw [this] at hk
    exact absurd hk (by decide +kernel)
  | both _ _ _ _ _ _ _ =>
    cases hl
    refine ⟨rfl, fun z => ?_⟩
    exact absurd (List.cons.inj z).1 (by decide +kernel)
theorem Sts.low {G : Ctx} {d n : Nat} {B post : List Line} (h : Sts G d n B) (hp : Low d post) : Low (d + 1) (B ++ post) := by
  intro l hl
  cases B with
  | nil => have := hp l hl; omega
  | cons b B =>
    have := (h.head l (by rw [← hl]; rfl)).1
    omega
theorem ind_at {pre post : List Line} {l : Line} : ind (pre ++ l :: post) pre.length = l.ind := by
  unfold ind
  rw [List.getElem?_append_right (Nat.le_refl _), Nat.sub_self]
  rfl
theorem wds_at {pre post : List Line} {l : Line} : wds (pre ++ l :: post) pre.length = l.ws := by
  unfold wds
  rw [List.getElem?_append_right (Nat.le_refl _), Nat.sub_self]
  rfl
theorem ind_low {pre post : List Line} {d : Nat} (h : Low d post) : ind (pre ++ post) pre.length < 2 * (d : Int) := by
  cases post with
  | nil =>
    unfold ind
    rw [List.append_nil, List.getElem?_eq_none (Nat.le_refl _)]
    show (-1 : Int) < _
    omega
  | cons l post =>
    rw [ind_at]
    have := h l rfl
    omega
theorem at_pre {W pre post : List Line} {l : Line} {n : Nat} (e : W = pre ++ l :: post) (h : n = pre.length) : ind W n = l.ind ∧ wds W n = l.ws := by
  rw [e, h]
  exact ⟨ind_at, wds_at⟩
theorem not_else {G : Ctx} {W pre L post : List Line} {d n q : Nat} (hL : Sts G d n L) (hl : Low d post) (e : W = pre ++ (L ++ post)) (h : q = pre.length) : ¬ (ind W q = 2 * (d : Int) ∧ wds W q = [Str.ofString "else"]) := by
  rintro ⟨z1, z2⟩
  cases L with
  | nil =>
    have := ind_low (pre := pre) hl
    rw [List.nil_append] at e
    rw [e, h] at z1
    omega
  | cons l L =>
    obtain ⟨_, a2⟩ := at_pre (W := W) (l := l) (post := L ++ post) (by rw [e]; rfl) h
    rw [a2] at z2
    exact (hL.head l rfl).2 z2
/-- what reading a body gives -/
def Read (L : List Line) (d n m : Nat) (s : RS) (acc : List St) (r : Option (List St × RS)) : Prop := ∃ b s', r = some (acc ++ b, s') ∧ s'.now = s.now + m ∧ s'.many = s.many + n ∧ Kept L s s'
theorem kept_refl {L : List Line} {s : RS} (h : s.now ≤ L.length) : Kept L s s := ⟨rfl, rfl, rfl, rfl, rfl, h, Nat.le_refl _⟩
theorem body_loop {L : List Line} {stmt : RS → Option (St × RS)} {d : Nat} {s : RS} (h : ind L s.now = 2 * (d : Int)) : bodyWith L stmt d s = loopWith L stmt d (L.length + 2) s [] := by
  conv => rhs; unfold loopWith
  rw [if_pos h]
  rfl
theorem read_sts {G : Ctx} {d n : Nat} {B : List Line} (h : Sts G d n B) : ∀ (pre post : List Line) (s : RS) (e fuel : Nat) (acc : List St), s.now = pre.length → Fits G s → s.many + n ≤ 20 → Low d post → d ≤ 4 → 5 ≤ d + e → B.length < fuel →
    Read (pre ++ (B ++ post)) d n B.length s acc (loopWith (pre ++ (B ++ post)) (rdS (pre ++ (B ++ post)) e d) d fuel s acc) := by
  induction h with
  | @nil d =>
    intro pre post s e fuel acc hn hf hm hl hd he hfu
    cases fuel with
    | zero => cases hfu
    | succ fuel =>
    have h1 := ind_low (pre := pre) hl
    unfold loopWith
    rw [List.nil_append, hn, if_neg (by omega), if_neg (by omega)]
    exact ⟨[], s, by rw [List.append_nil], rfl, rfl, kept_refl (by rw [hn, List.length_append]; omega)⟩
  | @plain d n ws L hp hL ih =>
    intro pre post s e fuel acc hn hf hm hl hd he hfu
    cases fuel with
    | zero => cases hfu
    | succ fuel =>
    obtain ⟨e, rfl⟩ : ∃ e', e = e' + 1 := ⟨e - 1, by omega⟩
    have hi : ind (pre ++ (⟨2 * d, ws⟩ :: L ++ post)) s.now = 2 * (d : Int) := by
      rw [hn, List.cons_append, ind_at]
      show ((2 * d : Nat) : Int) = _
      omega
    have hw : wds (pre ++ (⟨2 * d, ws⟩ :: L ++ post)) s.now = ws := by rw [hn, List.cons_append, wds_at]
    obtain ⟨x, hx⟩ := hp.rd s hf
    have hst : rdS (pre ++ (⟨2 * d, ws⟩ :: L ++ post)) (e + 1) d s = some (x, step s) := by
      show stmtWith _ _ d s = _
      unfold stmtWith
      rw [if_neg (by
        rintro (z | z | z)
        · exact z hi
        · omega
        · omega), hw]
      cases ws with
      | nil => exact absurd rfl hp.ne
      | cons k r =>
        dsimp only
        rw [if_neg (by rw [hp.nb k r rfl]; exact Bool.false_ne_true), hx]
    unfold loopWith
    rw [if_pos hi, hst]
    dsimp only
    have eL : pre ++ (⟨2 * d, ws⟩ :: L ++ post) = (pre ++ [⟨2 * d, ws⟩]) ++ (L ++ post) := by simp
    obtain ⟨b, s', h1, h2, h3, h4⟩ := ih (pre ++ [⟨2 * d, ws⟩]) post (step s) (e + 1) fuel (acc ++ [x]) (by simp [step, hn]) hf.step (by show s.many + 1 + n ≤ 20; omega) hl hd he (by rw [List.length_cons] at hfu; omega)
    rw [← eL] at h1 h4
    refine ⟨x :: b, s', by rw [h1, List.append_assoc]; rfl, ?_, ?_, ?_⟩
    · rw [h2, List.length_cons]; show s.now + 1 + _ = _; omega
    · rw [h3]; show s.many + 1 + n = _; omega
    · refine Kept.trans (b := step s) ⟨rfl, rfl, rfl, rfl, rfl, ?_, Nat.le_succ _⟩ h4
      show s.now + 1 ≤ _
      rw [hn, List.length_append, List.length_append, List.length_cons]
      omega
  | @block d n m k ws B L hk ha hd4 hne hB hL ihB ihL =>
    intro pre post s e fuel acc hn hf hm hl hd he hfu
    cases fuel with
    | zero => cases hfu
    | succ fuel =>
    obtain ⟨e, rfl⟩ : ∃ e', e = e' + 1 := ⟨e - 1, by omega⟩
    generalize hW : pre ++ (⟨2 * d, k :: ws⟩ :: (B ++ L) ++ post) = W
    have eW1 : W = (pre ++ [(⟨2 * d, k :: ws⟩ : Line)]) ++ (B ++ (L ++ post)) := by rw [← hW]; simp
    have eW2 : W = (pre ++ [(⟨2 * d, k :: ws⟩ : Line)] ++ B) ++ (L ++ post) := by rw [← hW]; simp
    have lW : W.length = pre.length + 1 + B.length + L.length + post.length := by rw [← hW]; simp; omega
    obtain ⟨hi, hw⟩ := at_pre (W := W) (l := ⟨2 * d, k :: ws⟩) (post := B ++ L ++ post) (by rw [← hW]; simp) hn
    have hi : ind W s.now = 2 * (d : Int) := by rw [hi]; show ((2 * d : Nat) : Int) = _; omega
    have hw : wds W s.now = k :: ws := hw
    obtain ⟨c, hc⟩ := ha.rd s hf
    have hbk : blockSt s (k :: ws) = some (.mk (s.now + 1) k "" 0 0 (some c) [] []) := by
      unfold blockSt
      dsimp only
      rw [hc]
    obtain ⟨b0, B', rfl⟩ : ∃ b0 B', B = b0 :: B' := by
      cases B with
      | nil => exact absurd rfl hne
      | cons b0 B' => exact ⟨b0, B', rfl⟩
    have hi1 : ind W (step s).now = 2 * ((d + 1 : Nat) : Int) := by
      obtain ⟨z, _⟩ := at_pre (W := W) (l := b0) (post := B' ++ (L ++ post)) (n := (step s).now) eW1 (by simp [step, hn])
      rw [z, (hB.head b0 rfl).1]
      omega
    obtain ⟨b, s2, r1, r2, r3, r4⟩ := ihB (pre ++ [(⟨2 * d, k :: ws⟩ : Line)]) (L ++ post) (step s) e (W.length + 2) [] (by simp [step, hn]) hf.step (by show s.many + 1 + m ≤ 20; omega) (hL.low hl) (by omega) (by omega) (by omega)
    rw [← eW1] at r1 r4
    have hs2 : s2.now = (pre ++ [(⟨2 * d, k :: ws⟩ : Line)] ++ (b0 :: B')).length := by
      rw [r2, List.length_append, List.length_append]
      show s.now + 1 + _ = _
      rw [hn]
      rfl
    have hst : rdS W (e + 1) d s = some ((St.mk (s.now + 1) k "" 0 0 (some c) [] []).withBody b, s2) := by
      show stmtWith W (bodyWith W (rdS W e (d + 1)) (d + 1)) d s = _
      unfold stmtWith
      rw [if_neg (by
        rintro (z | z | z)
        · exact z hi
        · omega
        · omega), hw]
      dsimp only
      rw [if_pos hk, hbk]
      dsimp only
      rw [body_loop hi1, r1]
      dsimp only
      rw [if_neg (fun z => not_else hL hl eW2 hs2 z.2), List.nil_append]
    unfold loopWith
    rw [if_pos hi, hst]
    dsimp only
    obtain ⟨b2, s3, q1, q2, q3, q4⟩ := ihL (pre ++ [(⟨2 * d, k :: ws⟩ : Line)] ++ (b0 :: B')) post s2 (e + 1) fuel (acc ++ [(St.mk (s.now + 1) k "" 0 0 (some c) [] []).withBody b]) hs2 (hf.step.kept r4) (by
      rw [r3]; show s.many + 1 + m + n ≤ 20; omega) hl hd he (by rw [List.length_cons, List.length_append] at hfu; omega)
    rw [← eW2] at q1 q4
    refine ⟨_ :: b2, s3, by rw [q1, List.append_assoc]; rfl, ?_, ?_, ?_⟩
    · rw [q2, r2]; show s.now + 1 + _ + _ = _; simp; omega
    · rw [q3, r3]; show s.many + 1 + m + n = _; omega
    · refine Kept.trans (b := step s) ⟨rfl, rfl, rfl, rfl, rfl, ?_, Nat.le_succ _⟩ (r4.trans q4)
      show s.now + 1 ≤ _
      omega
  | @both d n m p ws B E L ha hd4 h1 h2 hB hE hL ihB ihE ihL =>
    intro pre post s e fuel acc hn hf hm hl hd he hfu
    cases fuel with
    | zero => cases hfu
    | succ fuel =>
    obtain ⟨e, rfl⟩ : ∃ e', e = e' + 1 := ⟨e - 1, by omega⟩
    generalize hk0 : Str.ofString "if" = k
    have hk : inS k blocks = true := by rw [← hk0]; decide +kernel
    generalize hW : pre ++ (⟨2 * d, k :: ws⟩ :: (B ++ ⟨2 * d, [Str.ofString "else"]⟩ :: (E ++ L)) ++ post) = W
    have eW1 : W = (pre ++ [(⟨2 * d, k :: ws⟩ : Line)]) ++ (B ++ (⟨2 * d, [Str.ofString "else"]⟩ :: (E ++ L) ++ post)) := by rw [← hW]; simp
    have eW2 : W = (pre ++ [(⟨2 * d, k :: ws⟩ : Line)] ++ B) ++ ⟨2 * d, [Str.ofString "else"]⟩ :: (E ++ L ++ post) := by rw [← hW]; simp
    have eW3 : W = (pre ++ [(⟨2 * d, k :: ws⟩ : Line)] ++ B ++ [(⟨2 * d, [Str.ofString "else"]⟩ : Line)]) ++ (E ++ (L ++ post)) := by rw [← hW]; simp
    have eW4 : W = (pre ++ [(⟨2 * d, k :: ws⟩ : Line)] ++ B ++ [(⟨2 * d, [Str.ofString "else"]⟩ : Line)] ++ E) ++ (L ++ post) := by rw [← hW]; simp
    have lW : W.length = pre.length + 1 + B.length + 1 + E.length + L.length + post.length := by rw [← hW]; simp; omega
    obtain ⟨hi, hw⟩ := at_pre (W := W) (l := ⟨2 * d, k :: ws⟩) (post := B ++ ⟨2 * d, [Str.ofString "else"]⟩ :: (E ++ L) ++ post) (by rw [← hW]; simp) hn
    have hi : ind W s.now = 2 * (d : Int) := by rw [hi]; show ((2 * d : Nat) : Int) = _; omega
    have hw : wds W s.now = k :: ws := hw
    obtain ⟨c, hc⟩ := ha.rd s hf
    have hbk : blockSt s (k :: ws) = some (.mk (s.now + 1) k "" 0 0 (some c) [] []) := by
      unfold blockSt
      dsimp only
      rw [hc]
    have hi1 : ind W (step s).now = 2 * ((d + 1 : Nat) : Int) := by
      cases B with
      | nil => exact absurd rfl h1
      | cons b0 B' =>
      obtain ⟨z, _⟩ := at_pre (W := W) (l := b0) (post := B' ++ (⟨2 * d, [Str.ofString "else"]⟩ :: (E ++ L) ++ post)) (n := (step s).now) eW1 (by simp [step, hn])
      rw [z, (hB.head b0 rfl).1]
      omega
    obtain ⟨b, s2, r1, r2, r3, r4⟩ := ihB (pre ++ [(⟨2 * d, k :: ws⟩ : Line)]) (⟨2 * d, [Str.ofString "else"]⟩ :: (E ++ L) ++ post) (step s) e (W.length + 2) [] (by simp [step, hn]) hf.step (by show s.many + 1 + m ≤ 20; omega) (by
      intro l hl'
      cases hl'
      show 2 * d < _
      omega) (by omega) (by omega) (by omega)
    rw [← eW1] at r1 r4
    have hs2 : s2.now = (pre ++ [(⟨2 * d, k :: ws⟩ : Line)] ++ B).length := by
      rw [r2, List.length_append, List.length_append]
      show s.now + 1 + _ = _
      rw [hn]
      rfl
    obtain ⟨ie, we⟩ := at_pre (W := W) eW2 hs2
    have hel : k = "if" ∧ ind W s2.now = 2 * (d : Int) ∧ wds W s2.now = [Str.ofString "else"] := ⟨hk0.symm, by rw [ie]; show ((2 * d : Nat) : Int) = _; omega, we⟩
    have hi3 : ind W ({ s2 with now := s2.now + 1 } : RS).now = 2 * ((d + 1 : Nat) : Int) := by
      cases E with
      | nil => exact absurd rfl h2
      | cons b0 B' =>
      obtain ⟨z, _⟩ := at_pre (W := W) (l := b0) (post := B' ++ (L ++ post)) (n := s2.now + 1) eW3 (by rw [hs2]; simp; omega)
      show ind W (s2.now + 1) = _
      rw [z, (hE.head b0 rfl).1]
      omega
    have f2 : Fits G ({ s2 with now := s2.now + 1 } : RS) := by
      have := hf.step.kept r4
      exact ⟨this.sy, this.cells, this.known⟩
    obtain ⟨b', s3, t1, t2, t3, t4⟩ := ihE (pre ++ [(⟨2 * d, k :: ws⟩ : Line)] ++ B ++ [(⟨2 * d, [Str.ofString "else"]⟩ : Line)]) (L ++ post) { s2 with now := s2.now + 1 } e (W.length + 2) [] (by show s2.now + 1 = _; rw [hs2]; simp; omega) f2 (by
      show s2.many + p ≤ 20
      rw [r3]; show s.many + 1 + m + p ≤ 20; omega) (hL.low hl) (by omega) (by omega) (by omega)
    rw [← eW3] at t1 t4
    have hs3 : s3.now = (pre ++ [(⟨2 * d, k :: ws⟩ : Line)] ++ B ++ [(⟨2 * d, [Str.ofString "else"]⟩ : Line)] ++ E).length := by
      rw [t2]
      show s2.now + 1 + E.length = _
      rw [hs2]
      simp
      omega
    have hst : rdS W (e + 1) d s = some (((St.mk (s.now + 1) k "" 0 0 (some c) [] []).withBody b).withElse b', s3) := by
      show stmtWith W (bodyWith W (rdS W e (d + 1)) (d + 1)) d s = _
      unfold stmtWith
      rw [if_neg (by
        rintro (z | z | z)
        · exact z hi
        · omega
        · omega), hw]
      dsimp only
      rw [if_pos hk, hbk]
      dsimp only
      rw [body_loop hi1, r1]
      dsimp only
      rw [if_pos hel, body_loop hi3, t1]
      dsimp only
      rw [List.nil_append, List.nil_append]
    have k3 : Kept W (step s) s3 := by
      refine r4.trans (Kept.trans (b := { s2 with now := s2.now + 1 }) ⟨rfl, rfl, rfl, rfl, rfl, ?_, Nat.le_succ _⟩ t4)
      show s2.now + 1 ≤ _
      rw [hs2]
      simp
      omega
    unfold loopWith
    rw [if_pos hi, hst]
    dsimp only
    obtain ⟨b2, s4, q1, q2, q3, q4⟩ := ihL (pre ++ [(⟨2 * d, k :: ws⟩ : Line)] ++ B ++ [(⟨2 * d, [Str.ofString "else"]⟩ : Line)] ++ E) post s3 (e + 1) fuel (acc ++ [((St.mk (s.now + 1) k "" 0 0 (some c) [] []).withBody b).withElse b']) hs3 (hf.step.kept k3) (by
      rw [t3]; show s2.many + p + n ≤ 20; rw [r3]; show s.many + 1 + m + p + n ≤ 20; omega) hl hd he (by simp at hfu; omega)
    rw [← eW4] at q1 q4
    refine ⟨_ :: b2, s4, by rw [q1, List.append_assoc]; rfl, ?_, ?_, ?_⟩
    · rw [q2, t2]; show s2.now + 1 + _ + _ = _; rw [r2]; show s.now + 1 + _ + 1 + _ + _ = _; simp; omega
    · rw [q3, t3]; show s2.many + p + n = _; rw [r3]; show s.many + 1 + m + p + n = _; omega
    · refine Kept.trans (b := step s) ⟨rfl, rfl, rfl, rfl, rfl, ?_, Nat.le_succ _⟩ (k3.trans q4)
      show s.now + 1 ≤ _
      omega
end PR

/-! PR: whole programs that are drawn -/
namespace PR
open PySem
theorem read_body {G : Ctx} {d n e : Nat} {B pre post : List Line} {s : RS} (h : Sts G d n B) (hne : B ≠ []) (hn : s.now = pre.length) (hf : Fits G s) (hm : s.many + n ≤ 20) (hl : Low d post) (hd : d ≤ 4) (he : 5 ≤ d + e) :
    ∃ b s', rdB (pre ++ (B ++ post)) e d s = some (b, s') ∧ s'.now = s.now + B.length ∧ s'.many = s.many + n ∧ Kept (pre ++ (B ++ post)) s s' := by
  have hi : ind (pre ++ (B ++ post)) s.now = 2 * (d : Int) := by
    cases B with
    | nil => exact absurd rfl hne
    | cons b B =>
      obtain ⟨z, _⟩ := at_pre (W := pre ++ (b :: B ++ post)) (l := b) (post := B ++ post) rfl hn
      rw [z, (h.head b rfl).1]
      omega
  obtain ⟨b, s', h1, h2, h3, h4⟩ := read_sts h pre post s e ((pre ++ (B ++ post)).length + 2) [] hn hf hm hl hd he (by simp; omega)
  exact ⟨b, s', by unfold rdB; rw [body_loop hi, h1, List.nil_append], h2, h3, h4⟩
def digT (m : Nat) : Str := if m = 1 then "1" else "2"
theorem digT_ok {m : Nat} (h : m = 1 ∨ m = 2) : inS (digT m) mosts = true ∧ digit (digT m) = m := by
  rcases h with rfl | rfl <;> exact ⟨by decide +kernel, by decide +kernel⟩
def cellLine (c : Str × Nat) : Line := ⟨0, ["cell", c.1, digT c.2]⟩
def partLines (p : Str × List Line) : List Line := ⟨0, ["part", p.1]⟩ :: p.2
structure NameOk (w : Str) : Prop where
  nm : nameB w = true
  nt : inS w taken = false
theorem newName_ok {s : RS} {w : Str} (h : NameOk w) (hn : w ∉ s.names) : newName s w = some { s with names := s.names ++ [w] } := by
  unfold newName
  rw [if_pos (by rw [h.nm, h.nt, show inS w s.names = false from decide_eq_false hn]; rfl)]
/-- the head of what comes does not begin with the word -/
def Else (w : Str) (post : List Line) : Prop := ∀ l, post.head? = some l → l.ws.head? ≠ some w
theorem begins_no {pre post : List Line} {n : Nat} {w : Str} (h : Else w post) (hn : n = pre.length) : begins (pre ++ post) n w = false := by
  unfold begins
  cases post with
  | nil =>
    have : ind (pre ++ []) n = -1 := by
      unfold ind
      rw [List.append_nil, hn, List.getElem?_eq_none (Nat.le_refl _)]
    rw [this]
    rfl
  | cons l post =>
    obtain ⟨_, z⟩ := at_pre (W := pre ++ l :: post) rfl hn
    rw [z, decide_eq_false (h l rfl), Bool.and_false]
theorem begins_yes {pre post : List Line} {l : Line} {n : Nat} {w : Str} (h : l.ws.head? = some w) (h0 : l.ind = 0) (hn : n = pre.length) : begins (pre ++ l :: post) n w = true := by
  unfold begins
  obtain ⟨y, z⟩ := at_pre (W := pre ++ l :: post) rfl hn
  rw [y, z, h0, decide_eq_true h]
  rfl
theorem read_cells : ∀ (cs : List (Str × Nat)) (pre post : List Line) (s : RS) (fuel : Nat), s.now = pre.length → Else "cell" post → s.cells.length + cs.length ≤ 2 → (∀ c ∈ cs, (c.2 = 1 ∨ c.2 = 2) ∧ NameOk c.1) → (cs.map (·.1)).Nodup → (∀ c ∈ cs, c.1 ∉ s.names) → cs.length < fuel →
    whileB (fun s => begins (pre ++ (cs.map cellLine ++ post)) s.now "cell") (readCell (pre ++ (cs.map cellLine ++ post))) fuel s = some { s with now := s.now + cs.length, cells := s.cells ++ cs, names := s.names ++ cs.map (·.1) }
  | [], pre, post, s, fuel, hn, hp, hc, hok, hnd, hnn, hfu => by
    cases fuel with
    | zero => cases hfu
    | succ fuel =>
    unfold whileB
    rw [List.map_nil, List.nil_append, begins_no hp hn, if_neg Bool.false_ne_true]
    simp
  | c :: cs, pre, post, s, fuel, hn, hp, hc, hok, hnd, hnn, hfu => by
    cases fuel with
    | zero => cases hfu
    | succ fuel =>
    have hb : begins (pre ++ ((c :: cs).map cellLine ++ post)) s.now "cell" = true := by
      rw [List.map_cons, List.cons_append]
      exact begins_yes rfl rfl hn
    have hw : wds (pre ++ ((c :: cs).map cellLine ++ post)) s.now = [Str.ofString "cell", c.1, digT c.2] := by
      rw [List.map_cons, List.cons_append, hn, wds_at]
      rfl
    obtain ⟨h1, h2⟩ := hok c List.mem_cons_self
    obtain ⟨d1, d2⟩ := digT_ok h1
    rw [List.length_cons] at hc
    have hr : readCell (pre ++ ((c :: cs).map cellLine ++ post)) s = some { s with now := s.now + 1, cells := s.cells ++ [c], names := s.names ++ [c.1] } := by
      unfold readCell
      rw [hw]
      dsimp only
      rw [if_pos ⟨d1, by omega⟩, newName_ok h2 (hnn c List.mem_cons_self)]
      dsimp only
      rw [d2]
    unfold whileB
    rw [if_pos hb, hr]
    dsimp only
    obtain ⟨nd1, nd2⟩ := List.nodup_cons.mp (by rw [List.map_cons] at hnd; exact hnd)
    have ih := read_cells cs (pre ++ [cellLine c]) post { s with now := s.now + 1, cells := s.cells ++ [c], names := s.names ++ [c.1] } fuel (by show s.now + 1 = _; rw [hn, List.length_append]; rfl) hp (by show (s.cells ++ [c]).length + _ ≤ 2; simp; omega)
      (fun x hx => hok x (List.mem_cons_of_mem _ hx)) nd2 (fun x hx z => by
        rcases List.mem_append.mp z with z | z
        · exact hnn x (List.mem_cons_of_mem _ hx) z
        · exact nd1 (by rw [← List.mem_singleton.mp z]; exact List.mem_map.mpr ⟨x, hx, rfl⟩)) (by rw [List.length_cons] at hfu; omega)
    have eL : pre ++ ((c :: cs).map cellLine ++ post) = (pre ++ [cellLine c]) ++ (cs.map cellLine ++ post) := by simp
    rw [eL, ih]
    simp
    omega
/-- a drawn part's body: it knows the parts ahead of it -/
def PartsOk (sy : Str) (cells : List (Str × Nat)) : List Str → Nat → List (Str × List Line) → Prop
  | _, n, [] => n = 0
  | known, n, p :: ps => ∃ n1 n2, n = n1 + n2 ∧ Sts ⟨sy, cells, known⟩ 1 n1 p.2 ∧ p.2 ≠ [] ∧ NameOk p.1 ∧ PartsOk sy cells (known ++ [p.1]) n2 ps
theorem low_top {ws : List Str} {post : List Line} : Low 1 (⟨0, ws⟩ :: post) := fun l hl => by cases hl; show 0 < 2; decide
theorem read_parts {sy : Str} {cells : List (Str × Nat)} : ∀ (ps : List (Str × List Line)) (n : Nat) (pre post : List Line) (s : RS) (fuel : Nat), s.now = pre.length → Else "part" post → Low 1 post → s.sy = sy → s.cells = cells → PartsOk sy cells (s.bodies.map (·.1)) n ps → s.many + n ≤ 20 →
    s.bodies.length + ps.length ≤ 2 → (ps.map (·.1)).Nodup → (∀ c ∈ ps, c.1 ∉ s.names) → ps.length < fuel →
    ∃ s', whileB (fun s => begins (pre ++ (ps.flatMap partLines ++ post)) s.now "part") (readPart (pre ++ (ps.flatMap partLines ++ post))) fuel s = some s' ∧ s'.now = s.now + (ps.flatMap partLines).length ∧ s'.many = s.many + n ∧ s'.sy = sy ∧ s'.cells = cells ∧ s'.bodies.map (·.1) = s.bodies.map (·.1) ++ ps.map (·.1)
  | [], n, pre, post, s, fuel, hn, hp, hl, hs, hc, hok, hm, hb, hnd, hnn, hfu => by
    cases fuel with
    | zero => cases hfu
    | succ fuel =>
    unfold whileB
    rw [List.flatMap_nil, List.nil_append, begins_no hp hn, if_neg Bool.false_ne_true]
    have : n = 0 := hok
    exact ⟨s, rfl, rfl, by omega, hs, hc, by simp⟩
  | p :: ps, n, pre, post, s, fuel, hn, hp, hl, hs, hc, hok, hm, hb, hnd, hnn, hfu => by
    cases fuel with
    | zero => cases hfu
    | succ fuel =>
    obtain ⟨n1, n2, rfl, hS, hne, hnm, hrest⟩ := hok
    obtain ⟨nd1, nd2⟩ := List.nodup_cons.mp (by rw [List.map_cons] at hnd; exact hnd)
    rw [List.length_cons] at hb
    generalize hW : pre ++ ((p :: ps).flatMap partLines ++ post) = W
    have eW1 : W = (pre ++ [(⟨0, ["part", p.1]⟩ : Line)]) ++ (p.2 ++ (ps.flatMap partLines ++ post)) := by rw [← hW]; simp [partLines]
    have eW2 : W = (pre ++ [(⟨0, ["part", p.1]⟩ : Line)] ++ p.2) ++ (ps.flatMap partLines ++ post) := by rw [← hW]; simp [partLines]
    have eW0 : W = pre ++ (⟨0, ["part", p.1]⟩ : Line) :: (p.2 ++ (ps.flatMap partLines ++ post)) := by rw [← hW]; simp [partLines]
    have hbg : begins W s.now "part" = true := by rw [eW0]; exact begins_yes rfl rfl hn
    have hw : wds W s.now = [Str.ofString "part", p.1] := by rw [eW0, hn, wds_at]
    have lowR : Low 1 (ps.flatMap partLines ++ post) := by
      cases ps with
      | nil => exact hl
      | cons q ps => exact low_top
    obtain ⟨b, s2, r1, r2, r3, r4⟩ := read_body (e := 4) (pre := pre ++ [(⟨0, ["part", p.1]⟩ : Line)]) (post := ps.flatMap partLines ++ post) (s := { s with names := s.names ++ [p.1], now := s.now + 1 }) hS hne
      (by show s.now + 1 = _; rw [hn, List.length_append]; rfl) ⟨hs, hc, fun _ z => z⟩ (by show s.many + n1 ≤ 20; omega) lowR (by decide) (by decide)
    rw [← eW1] at r1 r4
    have hr : readPart W s = some { s2 with bodies := s2.bodies ++ [(p.1, b)] } := by
      unfold readPart
      rw [hw]
      dsimp only
      rw [if_pos (by omega), newName_ok hnm (hnn p List.mem_cons_self)]
      dsimp only
      rw [r1]
    unfold whileB
    rw [if_pos hbg, hr]
    dsimp only
    have kb : s2.bodies = s.bodies := r4.bodies
    have kn : s2.names = s.names ++ [p.1] := r4.names
    have hbm : ({ s2 with bodies := s2.bodies ++ [(p.1, b)] } : RS).bodies.map (·.1) = s.bodies.map (·.1) ++ [p.1] := by
      show (s2.bodies ++ [(p.1, b)]).map (·.1) = _
      rw [kb, List.map_append]
      rfl
    obtain ⟨s3, q1, q2, q3, q4, q5, q6⟩ := read_parts ps n2 (pre ++ [(⟨0, ["part", p.1]⟩ : Line)] ++ p.2) post { s2 with bodies := s2.bodies ++ [(p.1, b)] } fuel
      (by show s2.now = _; rw [r2]; show s.now + 1 + _ = _; rw [hn]; simp; omega) hp hl (r4.sy.trans hs) (r4.cells.trans hc) (by rw [hbm]; exact hrest)
      (by show s2.many + n2 ≤ 20; rw [r3]; show s.many + n1 + n2 ≤ 20; omega) (by show (s2.bodies ++ [(p.1, b)]).length + _ ≤ 2; rw [kb]; simp; omega) nd2
      (fun x hx z => by
        have z : x.1 ∈ s2.names := z
        rw [kn] at z
        rcases List.mem_append.mp z with z | z
        · exact hnn x (List.mem_cons_of_mem _ hx) z
        · exact nd1 (by rw [← List.mem_singleton.mp z]; exact List.mem_map.mpr ⟨x, hx, rfl⟩)) (by rw [List.length_cons] at hfu; omega)
    rw [← eW2] at q1
    refine ⟨s3, q1, ?_, ?_, q4, q5, ?_⟩
    · rw [q2]; show s2.now + _ = _; rw [r2]; show s.now + 1 + _ + _ = _; simp [partLines]; omega
    · rw [q3]; show s2.many + n2 = _; rw [r3]; show s.many + n1 + n2 = _; omega
    · rw [q6, hbm, List.map_cons, List.append_assoc]; rfl
/-- a whole program's lines -/
def progLines (sy : Str) (cells : List (Str × Nat)) (parts : List (Str × List Line)) (main : List Line) : List Line :=
  ⟨0, ["symbols", sy]⟩ :: (cells.map cellLine ++ (parts.flatMap partLines ++ ⟨0, ["main"]⟩ :: main))
theorem read_all {sy : Str} {cells : List (Str × Nat)} {parts : List (Str × List Line)} {main : List Line} {n m : Nat} (hsy : symB sy = true) (hc : cells.length ≤ 2) (hck : ∀ c ∈ cells, (c.2 = 1 ∨ c.2 = 2) ∧ NameOk c.1) (hp : parts.length ≤ 2)
    (hnd : (cells.map (·.1) ++ parts.map (·.1)).Nodup) (hpo : PartsOk sy cells [] n parts) (hmn : Sts ⟨sy, cells, parts.map (·.1)⟩ 1 m main) (hne : main ≠ []) (h20 : n + m ≤ 20) :
    ∃ s, readAll (progLines sy cells parts main) = some s ∧ s.sy = sy ∧ s.cells = cells ∧ s.bodies.map (·.1) = parts.map (·.1) := by
  obtain ⟨nd1, nd2, nd3⟩ := List.nodup_append.mp hnd
  generalize hW : progLines sy cells parts main = W
  have e1 : W = [(⟨0, ["symbols", sy]⟩ : Line)] ++ (cells.map cellLine ++ (parts.flatMap partLines ++ ⟨0, ["main"]⟩ :: main)) := by rw [← hW]; rfl
  have e2 : W = ((⟨0, ["symbols", sy]⟩ : Line) :: cells.map cellLine) ++ (parts.flatMap partLines ++ ⟨0, ["main"]⟩ :: main) := by rw [← hW]; rfl
  have e3 : W = ((⟨0, ["symbols", sy]⟩ : Line) :: cells.map cellLine ++ parts.flatMap partLines) ++ (⟨0, ["main"]⟩ : Line) :: main := by rw [← hW]; simp [progLines]
  have e4 : W = ((⟨0, ["symbols", sy]⟩ : Line) :: cells.map cellLine ++ parts.flatMap partLines ++ [(⟨0, ["main"]⟩ : Line)]) ++ (main ++ []) := by rw [← hW]; simp [progLines]
  have lW : W.length = 1 + cells.length + (parts.flatMap partLines).length + 1 + main.length := by rw [← hW]; simp [progLines]; omega
  have hs1 : readSymbols W start = some ⟨1, sy, [], [], [], [], 0⟩ := by
    unfold readSymbols
    have h0 : wds W 0 = [Str.ofString "symbols", sy] := by rw [← hW]; rfl
    have h1 : ind W 0 = 0 := by rw [← hW]; rfl
    rw [h0]
    dsimp only
    rw [if_pos ⟨rfl, h1, hsy⟩]
    rfl
  have elc : Else "cell" (parts.flatMap partLines ++ (⟨0, ["main"]⟩ : Line) :: main) := by
    intro l hl
    cases parts with
    | nil => cases hl; decide +kernel
    | cons p ps => cases hl; show some (Str.ofString "part") ≠ _; decide +kernel
  have hcl := read_cells cells [(⟨0, ["symbols", sy]⟩ : Line)] (parts.flatMap partLines ++ ⟨0, ["main"]⟩ :: main) ⟨1, sy, [], [], [], [], 0⟩ (W.length + 1) rfl elc (by show 0 + cells.length ≤ 2; omega) hck nd1 (fun _ _ z => by cases z) (by omega)
  rw [← e1] at hcl
  have hcl : whileB (fun s => begins W s.now "cell") (readCell W) (W.length + 1) ⟨1, sy, [], [], [], [], 0⟩ = some ⟨1 + cells.length, sy, cells, cells.map (·.1), [], [], 0⟩ := hcl
  have elp : Else "part" ((⟨0, ["main"]⟩ : Line) :: main) := by
    intro l hl
    cases hl
    show some (Str.ofString "main") ≠ _
    decide +kernel
  obtain ⟨s3, p1, p2, p3, p4, p5, p6⟩ := read_parts parts n ((⟨0, ["symbols", sy]⟩ : Line) :: cells.map cellLine) ((⟨0, ["main"]⟩ : Line) :: main) ⟨1 + cells.length, sy, cells, cells.map (·.1), [], [], 0⟩ (W.length + 1)
    (by show 1 + cells.length = _; simp; omega) elp low_top rfl rfl hpo (by show 0 + n ≤ 20; omega) (by show 0 + parts.length ≤ 2; omega) nd2 (fun c hc' z => by
      have z : c.1 ∈ cells.map (·.1) := z
      exact nd3 _ z _ (List.mem_map.mpr ⟨c, hc', rfl⟩) rfl) (by
        have : parts.length ≤ (parts.flatMap partLines).length := by
          clear hp hnd hpo hmn nd2 nd3 e1 e2 e3 e4 lW hW elc hcl hs1
          induction parts with
          | nil => exact Nat.le_refl _
          | cons p ps ih => rw [List.flatMap_cons, List.length_append, List.length_cons]; show ps.length + 1 ≤ (p.2.length + 1) + (ps.flatMap partLines).length; omega
        omega)
  rw [← e2] at p1
  have hn3 : s3.now = ((⟨0, ["symbols", sy]⟩ : Line) :: cells.map cellLine ++ parts.flatMap partLines).length := by
    rw [p2]
    show 1 + cells.length + _ = _
    simp
    omega
  obtain ⟨b, s4, r1, r2, r3, r4⟩ := read_body (e := 4) (pre := (⟨0, ["symbols", sy]⟩ : Line) :: cells.map cellLine ++ parts.flatMap partLines ++ [(⟨0, ["main"]⟩ : Line)]) (post := []) (s := { s3 with now := s3.now + 1 }) hmn hne
    (by show s3.now + 1 = _; rw [hn3]; simp; omega) ⟨p4, p5, fun x hx => by show x ∈ s3.bodies.map (·.1); rw [p6]; exact hx⟩ (by show s3.many + m ≤ 20; rw [p3]; show 0 + n + m ≤ 20; omega) (fun l hl => by cases hl) (by decide) (by decide)
  rw [← e4] at r1 r4
  refine ⟨{ s4 with main := b }, ?_, r4.sy.trans p4, r4.cells.trans p5, ?_⟩
  · unfold readAll
    rw [hs1]
    dsimp only
    rw [hcl]
    dsimp only
    rw [p1]
    dsimp only
    have hmain : W[s3.now]?.map rowText = some (Str.ofString "main") := by
      rw [hn3, e3, List.getElem?_append_right (Nat.le_refl _), Nat.sub_self]
      show some (rowText ⟨0, ["main"]⟩) = _
      decide +kernel
    refine (if_pos hmain).trans ?_
    rw [r1]
    dsimp only
    rw [if_pos (by rw [r2]; show s3.now + 1 + main.length = _; rw [hn3, lW]; simp; omega)]
  · show s4.bodies.map (·.1) = _
    rw [r4.bodies]
    show s3.bodies.map (·.1) = _
    rw [p6]
    rfl
end PR

/-! PR: the single statements and conditions that are drawn -/
namespace PR
open PySem
def goodW (w : Str) : Bool := decide (1 ≤ w.length) && (decide (w.length ≤ 100) && w.cps.toList.all fun c => decide (33 ≤ c) && decide (c ≤ 126))
theorem goodW_lay {w : Str} (h : goodW w = true) : PyData.canLay0 (.str w) = true := by
  unfold goodW at h
  rw [Bool.and_eq_true, Bool.and_eq_true] at h
  simp only [PyData.canLay0, PyData.strOk]
  rw [Array.all_eq_true']
  intro c hc
  have := List.all_eq_true.mp h.2.2 c (by simpa using hc)
  rw [Bool.and_eq_true, decide_eq_true_eq, decide_eq_true_eq] at this
  exact decide_eq_true (by omega)
theorem goodW_ok {w : Str} (h : goodW w = true) : okWord w ∧ w.length ≤ 100 := by
  unfold goodW at h
  rw [Bool.and_eq_true, Bool.and_eq_true, decide_eq_true_eq, decide_eq_true_eq] at h
  obtain ⟨h1, h2, h3⟩ := h
  have h4 : ∀ c ∈ w.cps.toList, 33 ≤ c ∧ c ≤ 126 := fun c hc => by
    have := List.all_eq_true.mp h3 c hc
    rw [Bool.and_eq_true, decide_eq_true_eq, decide_eq_true_eq] at this
    exact this
  refine ⟨⟨fun z => ?_, fun z => ?_, fun z => ?_⟩, h2⟩
  · have : w.length = 0 := by show w.cps.size = 0; rw [← Array.length_toList, z]; rfl
    omega
  · have := h4 _ z; omega
  · have := h4 _ z; omega
/-! conditions -/
def valT (v : Nat) : Str := if v = 0 then "0" else if v = 1 then "1" else "2"
theorem val_ok {v m : Nat} (h : v ≤ m) (hm : m = 1 ∨ m = 2) : numberOf (valT v) (values.take (m + 1)) = some v := by
  have : ∀ m ∈ [1, 2], ∀ v ∈ [0, 1, 2], v ≤ m → numberOf (valT v) (values.take (m + 1)) = some v := by decide +kernel
  refine this m (by rcases hm with rfl | rfl <;> simp) v ?_ h
  have : v ≤ 2 := by omega
  match v, this with
  | 0, _ => simp
  | 1, _ => simp
  | 2, _ => simp
theorem cell_ix {cells : List (Str × Nat)} {c : Str × Nat} (nd : (cells.map (·.1)).Nodup) (h : c ∈ cells) : ∃ i, cellIx cells c.1 = some i ∧ cells.getD i ("", 0) = c := by
  unfold cellIx
  induction cells with
  | nil => cases h
  | cons x xs ih =>
    obtain ⟨n1, n2⟩ := List.nodup_cons.mp (by rw [List.map_cons] at nd; exact nd)
    rw [List.findIdx?_cons]
    by_cases e : x.1 = c.1
    · have : x = c := by
        rcases List.mem_cons.mp h with z | z
        · exact z.symm
        · exact absurd (by rw [e]; exact List.mem_map.mpr ⟨c, z, rfl⟩) n1
      refine ⟨0, ?_, by rw [this]; rfl⟩
      rw [show (x.1 == c.1) = true from beq_iff_eq.mpr e]
      rfl
    · have hc : c ∈ xs := by
        rcases List.mem_cons.mp h with z | z
        · exact absurd (by rw [z]) e
        · exact z
      obtain ⟨i, h1, h2⟩ := ih n2 hc
      refine ⟨i + 1, ?_, ?_⟩
      · rw [show (x.1 == c.1) = false from beq_eq_false_iff_ne.mpr e, h1]
        rfl
      · rw [List.getD_cons_succ]
        exact h2
theorem asked_at {G : Ctx} {sg : Str} (h : signsB G.sy sg = true) (s : RS) (hf : Fits G s) (t : Bool) : ∃ c, askedIn s [Str.ofString "at", sg] t = some c := by
  unfold askedIn
  dsimp only
  rw [if_pos rfl, hf.sy, if_pos h]
  exact ⟨_, rfl⟩
theorem asked_cell {G : Ctx} {c : Str × Nat} {v : Nat} (nd : (G.cells.map (·.1)).Nodup) (hc : c ∈ G.cells) (hm : c.2 = 1 ∨ c.2 = 2) (hv : v ≤ c.2) (s : RS) (hf : Fits G s) (t : Bool) : ∃ q, askedIn s [c.1, Str.ofString "=", valT v] t = some q := by
  obtain ⟨i, h1, h2⟩ := cell_ix nd hc
  unfold askedIn
  dsimp only
  rw [if_pos rfl, hf.cells, h1]
  dsimp only
  unfold valuesOf
  rw [hf.cells, h2, val_ok hv hm]
  exact ⟨_, rfl⟩
theorem AskOk.at_ {G : Ctx} {sg : Str} (h : signsB G.sy sg = true) : AskOk G [Str.ofString "at", sg] := ⟨by simp, fun s hf => by
  rw [if_neg (by
    intro z
    exact absurd (List.cons.inj z).1 (by decide +kernel))]
  exact asked_at h s hf false⟩
theorem AskOk.cell {G : Ctx} {c : Str × Nat} {v : Nat} (nd : (G.cells.map (·.1)).Nodup) (hc : c ∈ G.cells) (hn : NameOk c.1) (hm : c.2 = 1 ∨ c.2 = 2) (hv : v ≤ c.2) : AskOk G [c.1, Str.ofString "=", valT v] := ⟨by simp, fun s hf => by
  rw [if_neg (by
    intro z
    have := (List.cons.inj z).1
    have h2 := hn.nt
    rw [this] at h2
    exact absurd h2 (by decide +kernel))]
  exact asked_cell nd hc hm hv s hf false⟩
theorem AskOk.notAt {G : Ctx} {sg : Str} (h : signsB G.sy sg = true) : AskOk G [Str.ofString "not", Str.ofString "at", sg] := ⟨by simp, fun s hf => by
  obtain ⟨c, hc⟩ := asked_at h s hf true
  exact ⟨c, (if_pos rfl).trans hc⟩⟩
theorem AskOk.notCell {G : Ctx} {c : Str × Nat} {v : Nat} (nd : (G.cells.map (·.1)).Nodup) (hc : c ∈ G.cells) (hm : c.2 = 1 ∨ c.2 = 2) (hv : v ≤ c.2) : AskOk G [Str.ofString "not", c.1, Str.ofString "=", valT v] := ⟨by simp, fun s hf => by
  obtain ⟨q, hq⟩ := asked_cell nd hc hm hv s hf true
  exact ⟨q, (if_pos rfl).trans hq⟩⟩
/-! plain statements -/
theorem PlainOk.bare {G : Ctx} {k : Str} (h : inS k PR.bare = true) : PlainOk G [k] := by
  have hk : k ∈ PR.bare := of_decide_eq_true h
  have hall : ∀ k ∈ PR.bare, inS k blocks = false ∧ [k] ≠ [Str.ofString "else"] := by decide +kernel
  refine ⟨by simp, fun k' r e => ?_, (hall k hk).2, fun s hf => ?_⟩
  · cases e; exact (hall _ hk).1
  · unfold plainSt
    dsimp only
    rw [if_pos h]
    exact ⟨_, rfl⟩
theorem two_else {a b : Str} : [a, b] ≠ [Str.ofString "else"] := by
  intro z
  have := congrArg List.length z
  simp at this
theorem PlainOk.write {G : Ctx} {a : Str} (h : letterW a = true) : PlainOk G [Str.ofString "write", a] := by
  refine ⟨by simp, fun k' r e => ?_, two_else, fun s hf => ?_⟩
  · cases e; decide +kernel
  · unfold plainSt
    dsimp only
    rw [if_pos ⟨rfl, h⟩]
    exact ⟨_, rfl⟩
theorem PlainOk.do_ {G : Ctx} {a : Str} (h : a ∈ G.known) : PlainOk G [Str.ofString "do", a] := by
  refine ⟨by simp, fun k' r e => ?_, two_else, fun s hf => ?_⟩
  · cases e; decide +kernel
  · unfold plainSt
    dsimp only
    rw [if_neg (fun z => absurd z.1 (by decide +kernel)), if_pos ⟨rfl, decide_eq_true (hf.known a h)⟩]
    exact ⟨_, rfl⟩
theorem three_else {a b c : Str} : [a, b, c] ≠ [Str.ofString "else"] := by
  intro z
  have := congrArg List.length z
  simp at this
theorem PlainOk.set_ {G : Ctx} {c : Str × Nat} {v : Nat} (nd : (G.cells.map (·.1)).Nodup) (hc : c ∈ G.cells) (hm : c.2 = 1 ∨ c.2 = 2) (hv : v ≤ c.2) : PlainOk G [Str.ofString "set", c.1, valT v] := by
  refine ⟨by simp, fun k' r e => ?_, three_else, fun s hf => ?_⟩
  · cases e; decide +kernel
  · obtain ⟨i, h1, h2⟩ := cell_ix nd hc
    unfold plainSt
    dsimp only
    rw [if_pos (.inl rfl), hf.cells, h1]
    dsimp only
    rw [if_neg (by decide +kernel)]
    unfold valuesOf
    rw [hf.cells, h2, val_ok hv hm]
    exact ⟨_, rfl⟩
theorem PlainOk.add {G : Ctx} {c : Str × Nat} {v : Nat} (nd : (G.cells.map (·.1)).Nodup) (hc : c ∈ G.cells) (hv : v = 1 ∨ v = 2) : PlainOk G [Str.ofString "add", c.1, valT v] := by
  refine ⟨by simp, fun k' r e => ?_, three_else, fun s hf => ?_⟩
  · cases e; decide +kernel
  · obtain ⟨i, h1, h2⟩ := cell_ix nd hc
    unfold plainSt
    dsimp only
    rw [if_pos (.inr rfl), hf.cells, h1]
    dsimp only
    rw [if_pos rfl]
    rcases hv with rfl | rfl
    · exact ⟨_, rfl⟩
    · exact ⟨_, rfl⟩
/-! subsequences -/
def subsL : List Nat → List (List Nat)
  | [] => [[]]
  | x :: xs => subsL xs ++ (subsL xs).map (x :: ·)
theorem subs_mem {l m : List Nat} (h : l.Sublist m) : l ∈ subsL m := by
  induction h with
  | slnil => exact List.mem_singleton.mpr rfl
  | cons a _ ih => exact List.mem_append_left _ ih
  | cons_cons a _ ih => exact List.mem_append_right _ (List.mem_map.mpr ⟨_, ih, rfl⟩)
def sixSy : List Str := ["ab", "abc", "az", "mnyz", "xy", "abcd"]
def signsOf (sy : Str) : List Nat := (("<" : Str) ++ sy ++ (">" : Str)).cps.toList
theorem six_signs : ∀ sy ∈ sixSy, ∀ w ∈ subsL (signsOf sy), w ≠ [] → signsB sy ⟨w.toArray⟩ = true ∧ goodW ⟨w.toArray⟩ = true := by decide +kernel
theorem six_sym : ∀ sy ∈ sixSy, symB sy = true ∧ goodW sy = true ∧ sy.length ≤ 4 := by decide +kernel
def eight : List Str := ["n", "k", "cells", "mainly", "ab", "abcdefgh", "rightly", "z"]
theorem eight_ok : ∀ w ∈ eight, nameB w = true ∧ inS w taken = false ∧ goodW w = true := by decide +kernel
end PR

/-! PR: letters of a program by its lines; lines exchanged -/
namespace PR
open PySem
def lineLetters (sy : Str) (ws : List Str) : List Str := match ws with
  | [a, b] => if a = Str.ofString "write" then [b] else []
  | [a] => if a = Str.ofString "copy" then sy.cps.toList.map sing else []
  | _ => []
/-- a letter of the lines from i on to j -/
def LetIn (sy : Str) (L : List Line) (i j : Nat) (y : Str) : Prop := ∃ k, i ≤ k ∧ k < j ∧ y ∈ lineLetters sy (wds L k)
theorem LetIn.split {sy : Str} {L : List Line} {i m j : Nat} {y : Str} (h1 : i ≤ m) (h2 : m ≤ j) : LetIn sy L i j y ↔ LetIn sy L i m y ∨ LetIn sy L m j y := by
  constructor
  · rintro ⟨k, a, b, c⟩
    by_cases hk : k < m
    · exact .inl ⟨k, a, hk, c⟩
    · exact .inr ⟨k, by omega, b, c⟩
  · rintro (⟨k, a, b, c⟩ | ⟨k, a, b, c⟩)
    · exact ⟨k, a, by omega, c⟩
    · exact ⟨k, by omega, b, c⟩
theorem LetIn.one {sy : Str} {L : List Line} {i : Nat} {y : Str} : LetIn sy L i (i + 1) y ↔ y ∈ lineLetters sy (wds L i) := by
  constructor
  · rintro ⟨k, a, b, c⟩
    obtain rfl : k = i := by omega
    exact c
  · intro h
    exact ⟨i, Nat.le_refl _, Nat.lt_succ_self _, h⟩
theorem LetIn.none {sy : Str} {L : List Line} {i : Nat} {y : Str} : ¬ LetIn sy L i i y := by
  rintro ⟨k, a, b, c⟩
  omega
theorem head_letters {sy k : Str} {r : List Str} (h1 : k ≠ Str.ofString "write") (h2 : k ≠ Str.ofString "copy") : lineLetters sy (k :: r) = [] := by
  match r with
  | [] => exact if_neg h2
  | [b] => exact if_neg h1
  | _ :: _ :: _ => rfl
/-- what a reading finds are the letters of its lines -/
def Tells (sy : Str) (L : List Line) (s s' : RS) (l : List Str) : Prop := ∀ y, y ∈ l ↔ LetIn sy L s.now s'.now y
theorem lettersL_append {sy : Str} : ∀ (a b : List St), lettersL sy (a ++ b) = lettersL sy a ++ lettersL sy b
  | [], b => rfl
  | x :: a, b => by
    rw [List.cons_append]
    simp only [lettersL]
    rw [lettersL_append a b, List.append_assoc]
theorem lettersL_one {sy : Str} (x : St) : lettersL sy [x] = lettersS sy x := by simp only [lettersL, List.append_nil]
theorem Tells.trans {sy : Str} {L : List Line} {s s1 s2 : RS} {a b : List Str} (h1 : s.now ≤ s1.now) (h2 : s1.now ≤ s2.now) (ha : Tells sy L s s1 a) (hb : Tells sy L s1 s2 b) : Tells sy L s s2 (a ++ b) := by
  intro y
  rw [List.mem_append, ha y, hb y, LetIn.split h1 h2]
theorem loop_tells {sy : Str} {L : List Line} {stmt : RS → Option (St × RS)} {d : Nat} (hs : ∀ s x s', stmt s = some (x, s') → Kept L s s' ∧ Tells sy L s s' (lettersS sy x)) : ∀ (n : Nat) (s0 s : RS) (acc b : List St) (s' : RS), s0.now ≤ s.now → s.now ≤ L.length → Tells sy L s0 s (lettersL sy acc) → loopWith L stmt d n s acc = some (b, s') → Tells sy L s0 s' (lettersL sy b)
  | 0, s0, s, acc, b, s', _, _, _, h => by cases h
  | n + 1, s0, s, acc, b, s', h0, hn, ht, h => by
    unfold loopWith at h
    split at h
    · split at h
      · cases h
      · rename_i x s1 e
        obtain ⟨k, t⟩ := hs _ _ _ e
        refine loop_tells hs n s0 s1 _ b s' (Nat.le_trans h0 k.le) k.now ?_ h
        rw [lettersL_append, lettersL_one]
        exact ht.trans h0 k.le t
    · split at h
      · cases h
      · cases h
        exact ht
theorem body_tells {sy : Str} {L : List Line} {stmt : RS → Option (St × RS)} {d : Nat} (hs : ∀ s x s', stmt s = some (x, s') → Kept L s s' ∧ Tells sy L s s' (lettersS sy x)) {s s' : RS} {b : List St} (h : bodyWith L stmt d s = some (b, s')) : Tells sy L s s' (lettersL sy b) := by
  unfold bodyWith at h
  split at h
  · cases h
  · rename_i x s1 e
    obtain ⟨k, t⟩ := hs _ _ _ e
    exact loop_tells hs _ s s1 _ b s' k.le k.now (by rw [lettersL_one]; exact t) h
theorem block_words {k : Str} (h : inS k blocks = true) : k ≠ Str.ofString "write" ∧ k ≠ Str.ofString "copy" := by
  have hk : k ∈ blocks := of_decide_eq_true h
  have : ∀ k ∈ blocks, k ≠ Str.ofString "write" ∧ k ≠ Str.ofString "copy" := by decide +kernel
  exact this k hk
theorem plain_tells {sy : Str} {s : RS} {ws : List Str} {x : St} (h : plainSt s ws = some x) : lettersS sy x = lineLetters sy ws := by
  unfold plainSt at h
  split at h
  · split at h
    · rename_i k hb
      cases h
      have hk : k ∈ bare := of_decide_eq_true hb
      have hw : ∀ k ∈ bare, k ≠ Str.ofString "write" := by decide +kernel
      simp only [lettersS, lineLetters, lettersL, List.append_nil]
      rw [if_neg (hw k hk)]
    · cases h
  · split at h
    · rename_i hc
      cases h
      simp only [lettersS, lineLetters, lettersL, List.append_nil]
      rw [if_pos hc.1, if_pos (show _ = Str.ofString "write" from hc.1)]
    · split at h
      · rename_i hc
        cases h
        simp only [lettersS, lineLetters, lettersL, List.append_nil]
        have h1 : (Str.ofString "do" : Str) ≠ Str.ofString "write" := by decide +kernel
        have h2 : (Str.ofString "do" : Str) ≠ Str.ofString "copy" := by decide +kernel
        rw [hc.1]
        rw [if_neg h1, if_neg h2, if_neg h1]
      · cases h
  · split at h
    · rename_i hc
      split at h
      · cases h
      · split at h
        · cases h
        · cases h
          simp only [lettersS, lineLetters, lettersL, List.append_nil]
          have h1 : ∀ k ∈ [Str.ofString "set", Str.ofString "add"], k ≠ Str.ofString "write" ∧ k ≠ Str.ofString "copy" := by decide +kernel
          rename_i k a b _ _ _ _ _ _
          have hk := h1 k (by
            rcases hc with z | z
            · rw [z]; exact List.mem_cons_self
            · rw [z]; exact List.mem_cons_of_mem _ List.mem_cons_self)
          rw [if_neg hk.1, if_neg hk.2]
    · cases h
  · cases h
theorem stmt_tells {sy : Str} {L : List Line} {body : RS → Option (List St × RS)} {d : Nat} (hb : ∀ s b s', body s = some (b, s') → Kept L s s' ∧ Tells sy L s s' (lettersL sy b)) {s s' : RS} {x : St} (h : stmtWith L body d s = some (x, s')) : Tells sy L s s' (lettersS sy x) := by
  unfold stmtWith at h
  split at h
  · cases h
  split at h
  · cases h
  · rename_i k r e
    split at h
    · rename_i hbl
      obtain ⟨w1, w2⟩ := block_words hbl
      split at h
      · cases h
      · rename_i x0 e1
        obtain ⟨k', r', c, ek, rfl⟩ := block_shape e1
        cases ek
        have hl : lineLetters sy (wds L s.now) = [] := by rw [e]; exact head_letters w1 w2
        split at h
        · cases h
        · rename_i b s2 e2
          obtain ⟨k2, t2⟩ := hb _ _ _ e2
          have t0 : Tells sy L s (step s) [] := fun y => by
            rw [show (step s).now = s.now + 1 from rfl, LetIn.one, hl]
          have l1 : s.now ≤ (step s).now := Nat.le_succ _
          have t02 := t0.trans l1 k2.le t2
          split at h
          · rename_i hel
            split at h
            · cases h
            · rename_i e3 s3 e4
              cases h
              obtain ⟨k3, t3⟩ := hb _ _ _ e4
              have tel : Tells sy L s2 { s2 with now := s2.now + 1 } [] := fun y => by
                rw [show ({ s2 with now := s2.now + 1 } : RS).now = s2.now + 1 from rfl, LetIn.one, hel.2.2]
                rw [head_letters (by decide +kernel) (by decide +kernel)]
              have t4 := (t02.trans (Nat.le_trans l1 k2.le) (Nat.le_succ _) tel).trans (Nat.le_trans (Nat.le_trans l1 k2.le) (Nat.le_succ _)) k3.le t3
              intro y
              rw [← t4 y]
              simp only [St.withBody, St.withElse, lettersS]
              rw [if_neg w1, if_neg w2]
              simp
          · cases h
            intro y
            rw [← t02 y]
            simp only [St.withBody, lettersS, lettersL]
            rw [if_neg w1, if_neg w2]
            simp
    · split at h
      · cases h
      · rename_i x0 e1
        cases h
        intro y
        rw [plain_tells e1, show (step s).now = s.now + 1 from rfl, LetIn.one, e]
theorem rdS_tells {sy : Str} {L : List Line} : ∀ {e d : Nat} {s s' : RS} {x : St}, rdS L e d s = some (x, s') → Tells sy L s s' (lettersS sy x)
  | 0, _, _, _, _, h => by cases h
  | e + 1, d, s, s', x, h => stmt_tells (fun s b s' hb => ⟨body_kept (fun s x s' hs => rdS_kept hs) hb, body_tells (fun s x s' hs => ⟨rdS_kept hs, rdS_tells hs⟩) hb⟩) h
theorem rdB_tells {sy : Str} {L : List Line} {e d : Nat} {s s' : RS} {b : List St} (h : rdB L e d s = some (b, s')) : Tells sy L s s' (lettersL sy b) := body_tells (fun s x s' hs => ⟨rdS_kept hs, rdS_tells hs⟩) h
/-- all letters of what was read so far -/
def bodyLetters (sy : Str) (bs : List (Str × List St)) : List Str := bs.flatMap fun p => lettersL sy p.2
def Told (sy : Str) (L : List Line) (s : RS) : Prop := ∀ y, y ∈ bodyLetters sy s.bodies ↔ LetIn sy L 0 s.now y
theorem begins_word {L : List Line} {n : Nat} {w : Str} (h : begins L n w = true) : ∃ r, wds L n = w :: r := by
  unfold begins at h
  rw [Bool.and_eq_true, decide_eq_true_eq, decide_eq_true_eq] at h
  cases e : wds L n with
  | nil => rw [e] at h; cases h.2
  | cons a r =>
    rw [e] at h
    cases h.2
    exact ⟨r, rfl⟩
theorem while_told {L : List Line} {c : RS → Bool} {f : RS → Option RS} {W : RS → Prop} (hf : ∀ s s', W s → c s = true → f s = some s' → W s') : ∀ (n : Nat) {s s' : RS}, W s → whileB c f n s = some s' → W s'
  | 0, s, s', _, h => by cases h
  | n + 1, s, s', hw, h => by
    unfold whileB at h
    split at h
    · rename_i hc
      split at h
      · cases h
      · rename_i s1 e
        exact while_told (L := L) hf n (hf _ _ hw hc e) h
    · cases h; exact hw
theorem newName_now {s s' : RS} {w : Str} (h : newName s w = some s') : s'.now = s.now := by
  unfold newName at h
  split at h
  · cases h; rfl
  · cases h
theorem Told.next {sy : Str} {L : List Line} {s s' : RS} {w : Str} {r : List Str} (h : Told sy L s) (hb : s'.bodies = s.bodies) (hn : s'.now = s.now + 1) (e : wds L s.now = w :: r) (h1 : w ≠ Str.ofString "write") (h2 : w ≠ Str.ofString "copy") : Told sy L s' := by
  intro y
  rw [hb, h y, hn, LetIn.split (Nat.zero_le s.now) (Nat.le_succ _), LetIn.one, e, head_letters h1 h2]
  simp
theorem readAll_letters {L : List Line} {s : RS} (h : readAll L = some s) : ∀ y, y ∈ bodyLetters s.sy s.bodies ++ lettersL s.sy s.main ↔ LetIn s.sy L 0 L.length y := by
  unfold readAll at h
  split at h
  · cases h
  rename_i s1 hsym
  split at h
  · cases h
  rename_i s2 hcells
  split at h
  · cases h
  rename_i s3 hparts
  split at h
  rotate_left
  · cases h
  rename_i hmain
  split at h
  · cases h
  rename_i b s4 hbody
  split at h
  rotate_left
  · cases h
  rename_i hend
  cases h
  generalize hsy : ({ s4 with main := b } : RS).sy = sy
  have t1 : Told sy L s1 := by
    unfold readSymbols at hsym
    split at hsym
    · split at hsym
      · rename_i a b hw hc
        cases hsym
        refine Told.next (s := start) (w := a) (r := [b]) (fun y => ?_) rfl rfl hw ?_ ?_
        · show y ∈ [] ↔ _
          simp only [List.not_mem_nil, false_iff]
          exact LetIn.none
        · rw [hc.1]; decide +kernel
        · rw [hc.1]; decide +kernel
      · cases hsym
    · cases hsym
  have t2 : Told sy L s2 := while_told (L := L) (W := Told sy L) (fun s s' ht hc hf => by
    obtain ⟨r, e⟩ := begins_word hc
    unfold readCell at hf
    split at hf
    · split at hf
      · split at hf
        · cases hf
        · rename_i s1 e1
          cases hf
          exact ht.next (newName_same e1).2.1 (by show s1.now + 1 = _; rw [newName_now e1]) e (by decide +kernel) (by decide +kernel)
      · cases hf
    · cases hf) _ t1 hcells
  have t3 : Told sy L s3 := while_told (L := L) (W := Told sy L) (fun s s' ht hc hf => by
    obtain ⟨r, e⟩ := begins_word hc
    unfold readPart at hf
    split at hf
    · split at hf
      · split at hf
        · cases hf
        · rename_i s1 e1
          split at hf
          · cases hf
          · rename_i x s2 e2
            cases hf
            have tt : Told sy L { s1 with now := s1.now + 1 } := ht.next (newName_same e1).2.1 (by show s1.now + 1 = _; rw [newName_now e1]) e (by decide +kernel) (by decide +kernel)
            have kk := rdB_kept e2
            have tb := rdB_tells (sy := sy) e2
            intro y
            show y ∈ bodyLetters sy (s2.bodies ++ [(_, x)]) ↔ _
            rw [kk.bodies]
            unfold bodyLetters
            rw [List.flatMap_append, List.mem_append]
            have := tt y
            unfold bodyLetters at this
            rw [this]
            have h2 := tb y
            simp only [List.flatMap_cons, List.flatMap_nil, List.append_nil]
            rw [h2]
            exact (LetIn.split (Nat.zero_le _) kk.le).symm
      · cases hf
    · cases hf) _ t2 hparts
  have hmw : ∃ l, L[s3.now]? = some l ∧ rowText l = Str.ofString "main" := by
    cases e : L[s3.now]? with
    | none => rw [e] at hmain; cases hmain
    | some l => rw [e] at hmain; exact ⟨l, rfl, Option.some.inj hmain⟩
  obtain ⟨l, hl, hr⟩ := hmw
  have hm0 : ∀ y, ¬ y ∈ lineLetters sy (wds L s3.now) := by
    intro y hy
    have hw : wds L s3.now = l.ws := by unfold wds; rw [hl]
    rw [hw] at hy
    have hb : ∀ c ∈ (rowText l).cps.toList, c ≠ 119 ∧ c ≠ 99 := by rw [hr]; decide +kernel
    have key : ∀ (a : Str) (r : List Str), l.ws = a :: r → ∀ c ∈ a.cps.toList, c ∈ (rowText l).cps.toList := by
      intro a r e c hc
      unfold rowText
      rw [toL_append]
      refine List.mem_append_right _ ?_
      rw [e]
      unfold wordsText
      rw [TL.join_eq]
      have e2 : ((Str.ofString " ").join (a :: r)).cps.toList = TL.joinL [32] ((a :: r).map TL.tl) := TL.tl_join " " (a :: r)
      rw [e2]
      cases r with
      | nil => exact hc
      | cons b r => exact List.mem_append_left _ hc
    unfold lineLetters at hy
    split at hy
    · split at hy
      · rename_i a b e1 e2
        have := (hb 119 (key a [b] e1 119 (by rw [e2]; decide +kernel))).1
        exact this rfl
      · cases hy
    · split at hy
      · rename_i a e1 e2
        have := (hb 99 (key a [] e1 99 (by rw [e2]; decide +kernel))).2
        exact this rfl
      · cases hy
    · cases hy
  have kk := rdB_kept hbody
  have tb := rdB_tells (sy := sy) hbody
  intro y
  show y ∈ bodyLetters sy s4.bodies ++ lettersL sy b ↔ _
  have kb : s4.bodies = s3.bodies := kk.bodies
  rw [List.mem_append, kb, t3 y, tb y, ← hend]
  have l3 : s3.now + 1 ≤ s4.now := kk.le
  show LetIn sy L 0 s3.now y ∨ LetIn sy L (s3.now + 1) s4.now y ↔ LetIn sy L 0 s4.now y
  rw [LetIn.split (Nat.zero_le s3.now) (show s3.now ≤ s4.now by omega), LetIn.split (m := s3.now + 1) (i := s3.now) (Nat.le_succ _) l3, LetIn.one]
  constructor
  · rintro (z | z)
    · exact .inl z
    · exact .inr (.inr z)
  · rintro (z | z | z)
    · exact .inl z
    · exact absurd z (hm0 y)
    · exact .inr z
/-! ### one line otherwise -/
/-- a line that is no block's and no else -/
def isPlainL (l : Line) : Prop := (∀ k r, l.ws = k :: r → inS k blocks = false) ∧ l.ws ≠ [Str.ofString "else"]
theorem cut_two {α : Type} {A B pre post : List α} {x : α} (h : A ++ B = pre ++ x :: post) : (∃ post', A = pre ++ x :: post' ∧ post = post' ++ B) ∨ (∃ pre', pre = A ++ pre' ∧ B = pre' ++ x :: post) := by
  rcases List.append_eq_append_iff.mp h with ⟨a, h1, h2⟩ | ⟨a, h1, h2⟩
  · exact .inr ⟨a, h1, h2⟩
  · cases a with
    | nil =>
      rw [List.append_nil] at h1
      rw [List.nil_append] at h2
      exact .inr ⟨[], by rw [h1, List.append_nil], h2.symm⟩
    | cons y a =>
      rw [List.cons_append] at h2
      cases h2
      exact .inl ⟨a, h1, rfl⟩
theorem Sts.repl {G : Ctx} {d n : Nat} {B : List Line} (h : Sts G d n B) : ∀ {pre post : List Line} {l : Line} {ws : List Str}, B = pre ++ l :: post → isPlainL l → PlainOk G ws → Sts G d n (pre ++ ⟨l.ind, ws⟩ :: post) := by
  induction h with
  | nil => intro pre post l ws e; cases pre <;> cases e
  | @plain d n vs L hp hL ih =>
    intro pre post l ws e hl hw
    cases pre with
    | nil => cases e; exact Sts.plain hw hL
    | cons a pre =>
      cases e
      exact Sts.plain hp (ih rfl hl hw)
  | @block d n m k vs B L hk ha hd hne hB hL ihB ihL =>
    intro pre post l ws e hl hw
    cases pre with
    | nil =>
      cases e
      exact absurd (hl.1 k vs rfl) (by rw [hk]; exact Bool.noConfusion)
    | cons a pre =>
      rw [List.cons_append] at e
      injection e with e1 e2
      subst e1
      rcases cut_two e2 with ⟨post', h1, h2⟩ | ⟨pre', h1, h2⟩
      · rw [h2, List.cons_append]
        have := ihB h1 hl hw
        refine (show (⟨2 * d, k :: vs⟩ : Line) :: (pre ++ ⟨l.ind, ws⟩ :: (post' ++ L)) = ⟨2 * d, k :: vs⟩ :: ((pre ++ ⟨l.ind, ws⟩ :: post') ++ L) by simp) ▸ Sts.block hk ha hd (by simp) this hL
      · rw [h1, List.cons_append, List.append_assoc]
        exact Sts.block hk ha hd hne hB (ihL h2 hl hw)
  | @both d n m p vs B E L ha hd h1 h2 hB hE hL ihB ihE ihL =>
    intro pre post l ws e hl hw
    cases pre with
    | nil =>
      cases e
      exact absurd (hl.1 _ vs rfl) (by decide +kernel)
    | cons a pre =>
      rw [List.cons_append] at e
      injection e with e1 e2
      subst e1
      rcases cut_two e2 with ⟨post', q1, q2⟩ | ⟨pre', q1, q2⟩
      · rw [q2, List.cons_append]
        have := ihB q1 hl hw
        refine (show (⟨2 * d, Str.ofString "if" :: vs⟩ : Line) :: (pre ++ ⟨l.ind, ws⟩ :: (post' ++ ⟨2 * d, [Str.ofString "else"]⟩ :: (E ++ L))) = ⟨2 * d, Str.ofString "if" :: vs⟩ :: ((pre ++ ⟨l.ind, ws⟩ :: post') ++ ⟨2 * d, [Str.ofString "else"]⟩ :: (E ++ L)) by simp) ▸ Sts.both ha hd (by simp) h2 this hE hL
      · cases pre' with
        | nil =>
          cases q2
          exact absurd rfl hl.2
        | cons a' pre' =>
          rw [List.cons_append] at q2
          injection q2 with q3 q4
          subst q3
          rw [q1]
          rcases cut_two q4 with ⟨post', r1, r2⟩ | ⟨pre'', r1, r2⟩
          · rw [r2]
            have := ihE r1 hl hw
            refine (show (⟨2 * d, Str.ofString "if" :: vs⟩ : Line) :: (B ++ ⟨2 * d, [Str.ofString "else"]⟩ :: ((pre' ++ ⟨l.ind, ws⟩ :: post') ++ L)) = (⟨2 * d, Str.ofString "if" :: vs⟩ :: (B ++ ⟨2 * d, [Str.ofString "else"]⟩ :: pre')) ++ ⟨l.ind, ws⟩ :: (post' ++ L) by simp) ▸ Sts.both ha hd h1 (by simp) hB this hL
          · rw [r1]
            refine (show (⟨2 * d, Str.ofString "if" :: vs⟩ : Line) :: (B ++ ⟨2 * d, [Str.ofString "else"]⟩ :: (E ++ (pre'' ++ ⟨l.ind, ws⟩ :: post))) = (⟨2 * d, Str.ofString "if" :: vs⟩ :: (B ++ ⟨2 * d, [Str.ofString "else"]⟩ :: (E ++ pre''))) ++ ⟨l.ind, ws⟩ :: post by simp) ▸ Sts.both ha hd h1 h2 hB hE (ihL r2 hl hw)
theorem Sts.lastPlain {G : Ctx} {d n : Nat} {B : List Line} (h : Sts G d n B) : ∀ {pre : List Line} {l : Line}, B = pre ++ [l] → isPlainL l := by
  induction h with
  | nil => intro pre l e; cases pre <;> cases e
  | @plain d n vs L hp hL ih =>
    intro pre l e
    cases pre with
    | nil => cases e; exact ⟨fun k r e => hp.nb k r e, hp.nel⟩
    | cons a pre => cases e; exact ih rfl
  | @block d n m k vs B L hk ha hd hne hB hL ihB ihL =>
    intro pre l e
    cases pre with
    | nil =>
      injection e with e1 e2
      exact absurd (List.append_eq_nil_iff.mp e2).1 hne
    | cons a pre =>
      rw [List.cons_append] at e
      injection e with e1 e2
      rcases cut_two e2 with ⟨post', q1, q2⟩ | ⟨pre', q1, q2⟩
      · have : post' = [] := (List.append_eq_nil_iff.mp q2.symm).1
        rw [this] at q1
        exact ihB q1
      · exact ihL q2
  | @both d n m p vs B E L ha hd h1 h2 hB hE hL ihB ihE ihL =>
    intro pre l e
    cases pre with
    | nil =>
      injection e with e1 e2
      exact absurd (List.append_eq_nil_iff.mp e2).1 h1
    | cons a pre =>
      rw [List.cons_append] at e
      injection e with e1 e2
      rcases cut_two e2 with ⟨post', q1, q2⟩ | ⟨pre', q1, q2⟩
      · cases post' <;> cases q2
      · cases pre' with
        | nil =>
          injection q2 with q3 q4
          exact absurd (List.append_eq_nil_iff.mp q4).1 h2
        | cons a' pre' =>
          rw [List.cons_append] at q2
          injection q2 with q3 q4
          rcases cut_two q4 with ⟨post', r1, r2⟩ | ⟨pre'', r1, r2⟩
          · have : post' = [] := (List.append_eq_nil_iff.mp r2.symm).1
            rw [this] at r1
            exact ihE r1
          · exact ihL r2
end PR

/-! PR: rows cut at blanks, rows without their blanks ahead -/
namespace PR
open PySem PySem.Spec PySem.Builtin PySem.Builtin.Str
theorem no_space {c : Nat} (h1 : 33 ≤ c) (h2 : c ≤ 126) : Unicode.isSpace c = false := by
  have key : ∀ c ∈ List.range 127, 33 ≤ c → Unicode.isSpace c = false := by decide +kernel
  exact key c (List.mem_range.mpr (by omega)) h1
theorem goodW_sign {w : Str} (h : goodW w = true) {c : Nat} (hc : c ∈ w.cps.toList) : 33 ≤ c ∧ c ≤ 126 := by
  unfold goodW at h
  rw [Bool.and_eq_true, Bool.and_eq_true] at h
  have := List.all_eq_true.mp h.2.2 c hc
  rw [Bool.and_eq_true, decide_eq_true_eq, decide_eq_true_eq] at this
  exact this
theorem row_tl (l : Line) : TL.tl (rowText l) = List.replicate l.ind 32 ++ TL.joinL [32] (l.ws.map TL.tl) := by
  show (rowText l).cps.toList = _
  unfold rowText
  rw [toL_append]
  congr 1
  unfold wordsText
  rw [TL.join_eq]
  exact TL.tl_join " " l.ws
theorem tl_inj {a b : Str} (h : TL.tl a = TL.tl b) : a = b := by
  cases a
  cases b
  congr 1
  exact Array.toList_inj.mp h
theorem map_tl_inj : ∀ {as bs : List Str}, as.map TL.tl = bs.map TL.tl → as = bs
  | [], [], _ => rfl
  | [], _ :: _, h => by cases h
  | _ :: _, [], h => by cases h
  | a :: as, b :: bs, h => by
    rw [List.map_cons, List.map_cons] at h
    injection h with h1 h2
    rw [tl_inj h1, map_tl_inj h2]
theorem wfold_blanks : ∀ n : Nat, (List.replicate n 32).foldl TL.wstep (([] : List (List Nat)), ([] : List Nat)) = ([], [])
  | 0 => rfl
  | n + 1 => by
    rw [List.replicate_succ, List.foldl_cons]
    have e : TL.wstep (([] : List (List Nat)), ([] : List Nat)) 32 = ([], []) := by
      have hs : Unicode.isSpace 32 = true := by decide +kernel
      have a : TL.wstep (([] : List (List Nat)), ([] : List Nat)) 32 = (if ([] : List Nat) = [] then (([] : List (List Nat)), ([] : List Nat)) else ([] ++ [[]], [])) := if_pos hs
      exact a.trans (if_pos rfl)
    rw [e]
    exact wfold_blanks n
/-- a row's words -/
theorem words_row {l : Line} (hne : l.ws ≠ []) (h : ∀ w ∈ l.ws, goodW w = true) : Txt.words (rowText l) = l.ws := by
  refine map_tl_inj ?_
  rw [TL.words_tl, row_tl, List.foldl_append, wfold_blanks]
  rw [TL.wfold_join _ _ (by simpa using hne) fun p hp => ?_]
  · rfl
  · obtain ⟨w, hw, rfl⟩ := List.mem_map.mp hp
    exact ⟨(goodW_ok (h w hw)).1.1, fun c hc => by
      obtain ⟨a, b⟩ := goodW_sign (h w hw) hc
      exact no_space a b⟩
/-- a row without its blanks -/
theorem lstrip_row' {l : Line} (hne : l.ws ≠ []) (h : ∀ w ∈ l.ws, goodW w = true) : Txt.lstrip (rowText l) = wordsText l.ws := by
  have ok : okLine l := ⟨hne, fun w hw => (goodW_ok (h w hw)).1⟩
  obtain ⟨c, r, e, hc⟩ := words_head ok.1 ok.2
  have g2 : Unicode.isSpace c = false := by
    obtain ⟨w, ws, ew⟩ : ∃ w ws, l.ws = w :: ws := by
      cases q : l.ws with
      | nil => exact absurd q hne
      | cons w ws => exact ⟨w, ws, rfl⟩
    have hw := h w (by rw [ew]; exact List.mem_cons_self)
    obtain ⟨d, t, ed⟩ : ∃ d t, w.cps.toList = d :: t := by
      cases q : w.cps.toList with
      | nil => exact absurd q (goodW_ok hw).1.1
      | cons d t => exact ⟨d, t, rfl⟩
    have e2 : (wordsText l.ws).cps.toList = TL.joinL [32] (l.ws.map TL.tl) := by
      unfold wordsText
      rw [TL.join_eq]
      exact TL.tl_join " " l.ws
    have e3 : ∃ z, TL.joinL [32] (l.ws.map TL.tl) = d :: z := by
      rw [ew]
      cases ws with
      | nil => exact ⟨t, ed⟩
      | cons v vs => exact ⟨_, by
          show TL.tl w ++ _ = _
          rw [show TL.tl w = d :: t from ed]
          rfl⟩
    obtain ⟨z, e3⟩ := e3
    rw [e2, e3] at e
    injection e with e4 e5
    obtain ⟨a, b⟩ := goodW_sign hw (c := d) (by rw [ed]; exact List.mem_cons_self)
    rw [← e4]
    exact no_space a b
  have ex : (rowText l).cps.toList = List.replicate l.ind 32 ++ (c :: r) := by
    unfold rowText
    rw [toL_append, e]
    rfl
  have g1 : Unicode.isSpace 32 = true := by decide +kernel
  have lo : stripLo Unicode.isSpace true (rowText l) = l.ind := by
    show ((rowText l).cps.toList.takeWhile Unicode.isSpace).length = _
    rw [ex]
    have : ∀ n : Nat, ((List.replicate n 32 ++ (c :: r)).takeWhile Unicode.isSpace).length = n := by
      intro n
      induction n with
      | zero => rw [List.replicate_zero, List.nil_append, List.takeWhile_cons, g2]; rfl
      | succ n ih => rw [List.replicate_succ, List.cons_append, List.takeWhile_cons, if_pos g1, List.length_cons, ih]
    exact this _
  unfold Txt.lstrip
  rw [PyProof.Rows.stripBy_eq, lo]
  show (⟨(rowText l).cps.extract l.ind (rowText l).length⟩ : Str) = _
  have hw : wordsText l.ws = ⟨(c :: r).toArray⟩ := by
    rw [← e]
  rw [hw]
  congr 1
  apply Array.ext'
  rw [Array.toList_extract, ex]
  have hlen : (rowText l).length = l.ind + (c :: r).length := by
    have : (rowText l).length = (rowText l).cps.toList.length := by simp [Str.length]
    rw [this, ex]
    simp
  rw [hlen]
  simp [List.extract]
end PR

/-! PR: sorted texts without duplicates are told by their members -/
namespace PR
open PySem PySem.Spec PyProof.Rows
theorem lt_or : ∀ {a b : List Nat}, ltCps b a = false → a ≠ b → ltCps a b = true
  | [], [], _, n => absurd rfl n
  | [], _ :: _, _, _ => rfl
  | _ :: _, [], h, _ => by cases h
  | a :: r, b :: t, h, n => by
    simp only [ltCps, Bool.or_eq_false_iff, Bool.and_eq_false_iff, decide_eq_false_iff_not] at h
    simp only [ltCps, Bool.or_eq_true, Bool.and_eq_true, decide_eq_true_eq, beq_iff_eq]
    obtain ⟨h1, h2⟩ := h
    by_cases e : a = b
    · subst e
      refine .inr ⟨rfl, lt_or ?_ fun z => n (by rw [z])⟩
      rcases h2 with h2 | h2
      · simp at h2
      · exact h2
    · exact .inl (by omega)
theorem lt_irr : ∀ a : List Nat, ltCps a a = false
  | [] => rfl
  | a :: r => by
    simp only [ltCps, lt_irr r]
    simp
theorem lt_trans : ∀ {a b c : List Nat}, ltCps a b = true → ltCps b c = true → ltCps a c = true
  | [], [], _, h, _ => by cases h
  | [], _ :: _, [], _, h => by cases h
  | [], _ :: _, _ :: _, _, _ => rfl
  | _ :: _, [], _, h, _ => by cases h
  | _ :: _, _ :: _, [], _, h => by cases h
  | a :: r, b :: t, c :: u, h1, h2 => by
    simp only [ltCps, Bool.or_eq_true, Bool.and_eq_true, decide_eq_true_eq, beq_iff_eq] at h1 h2 ⊢
    rcases h1 with h1 | ⟨rfl, h1⟩
    · rcases h2 with h2 | ⟨rfl, h2⟩
      · exact .inl (by omega)
      · exact .inl h1
    · rcases h2 with h2 | ⟨rfl, h2⟩
      · exact .inl h2
      · exact .inr ⟨rfl, lt_trans h1 h2⟩
def LtS (a b : Str) : Prop := ltCps a.cps.toList b.cps.toList = true
theorem sorted_strict : ∀ {l : List Str}, sortedS l = true → l.Nodup → l.Pairwise LtS
  | [], _, _ => .nil
  | [x], _, _ => List.pairwise_singleton _ _
  | x :: y :: r, h, nd => by
    have h' : (!ltCps y.cps.toList x.cps.toList && risingS y r) = true := h
    rw [Bool.and_eq_true, Bool.not_eq_true'] at h'
    obtain ⟨n1, n2⟩ := List.nodup_cons.mp nd
    have ih := sorted_strict (l := y :: r) h'.2 n2
    have hxy : LtS x y := lt_or h'.1 fun z => n1 (by rw [tl_inj z]; exact List.mem_cons_self)
    refine List.pairwise_cons.mpr ⟨fun z hz => ?_, ih⟩
    rcases List.mem_cons.mp hz with rfl | hz
    · exact hxy
    · exact lt_trans hxy ((List.pairwise_cons.mp ih).1 z hz)
theorem strict_eq : ∀ {l m : List Str}, l.Pairwise LtS → m.Pairwise LtS → (∀ x, x ∈ l ↔ x ∈ m) → l = m
  | [], [], _, _, _ => rfl
  | [], b :: m, _, _, h => absurd ((h b).mpr List.mem_cons_self) (by simp)
  | a :: l, [], _, _, h => absurd ((h a).mp List.mem_cons_self) (by simp)
  | a :: l, b :: m, hl, hm, h => by
    obtain ⟨l1, l2⟩ := List.pairwise_cons.mp hl
    obtain ⟨m1, m2⟩ := List.pairwise_cons.mp hm
    have irr : ∀ x : Str, ¬ LtS x x := fun x z => by
      unfold LtS at z
      rw [lt_irr] at z
      cases z
    have e : a = b := by
      rcases List.mem_cons.mp ((h a).mp List.mem_cons_self) with z | z
      · exact z
      · rcases List.mem_cons.mp ((h b).mpr List.mem_cons_self) with y | y
        · exact y.symm
        · exact absurd (lt_trans (m1 a z) (l1 b y)) (irr b)
    subst e
    congr 1
    refine strict_eq l2 m2 fun x => ⟨fun hx => ?_, fun hx => ?_⟩
    · rcases List.mem_cons.mp ((h x).mp (List.mem_cons_of_mem _ hx)) with rfl | z
      · exact absurd (l1 x hx) (irr x)
      · exact z
    · rcases List.mem_cons.mp ((h x).mpr (List.mem_cons_of_mem _ hx)) with rfl | z
      · exact absurd (m1 x hx) (irr x)
      · exact z
theorem sorted_eq {l m : List Str} (h1 : sortedS l = true) (h2 : sortedS m = true) (n1 : l.Nodup) (n2 : m.Nodup) (h : ∀ x, x ∈ l ↔ x ∈ m) : l = m := strict_eq (sorted_strict h1 n1) (sorted_strict h2 n2) h
end PR

/-! PR: a drawn program with one statement otherwise; its lines that write -/
namespace PR
open PySem
def isWC (l : Line) : Prop := ∃ k r, l.ws = k :: r ∧ (k = Str.ofString "write" ∨ k = Str.ofString "copy")
theorem isWC.plain {l : Line} (h : isWC l) : isPlainL l := by
  obtain ⟨k, r, e, hk⟩ := h
  refine ⟨fun k' r' e' => ?_, fun z => ?_⟩
  · rw [e] at e'
    cases e'
    rcases hk with rfl | rfl <;> decide +kernel
  · rw [e] at z
    have := (List.cons.inj z).1
    rw [this] at hk
    exact absurd hk (by decide +kernel)
theorem isWC.not {l : Line} (h : isWC l) {k : Str} {r : List Str} (e : l.ws = k :: r) (n1 : k ≠ Str.ofString "write") (n2 : k ≠ Str.ofString "copy") : False := by
  obtain ⟨k', r', e', hk⟩ := h
  rw [e] at e'
  cases e'
  rcases hk with z | z
  · exact n1 z
  · exact n2 z
theorem parts_repl {sy : Str} {cells : List (Str × Nat)} {l : Line} {ws : List Str} (hl : isWC l) (hw : ∀ kn, PlainOk ⟨sy, cells, kn⟩ ws) : ∀ {ps : List (Str × List Line)} {known : List Str} {n : Nat} {pre post : List Line}, PartsOk sy cells known n ps → ps.flatMap partLines = pre ++ l :: post →
    ∃ ps', ps'.flatMap partLines = pre ++ ⟨l.ind, ws⟩ :: post ∧ ps'.map (·.1) = ps.map (·.1) ∧ PartsOk sy cells known n ps'
  | [], _, _, pre, post, _, e => by cases pre <;> cases e
  | p :: ps, known, n, pre, post, h, e => by
    obtain ⟨n1, n2, rfl, h1, h2, h3, h4⟩ := h
    rw [List.flatMap_cons] at e
    rcases cut_two e with ⟨post', q1, q2⟩ | ⟨pre', q1, q2⟩
    · cases pre with
      | nil =>
        injection q1 with q3 q4
        exact (hl.not (by rw [← q3]) (by decide +kernel) (by decide +kernel)).elim
      | cons a pre =>
        rw [List.cons_append] at q1
        injection q1 with q3 q4
        refine ⟨(p.1, pre ++ ⟨l.ind, ws⟩ :: post') :: ps, ?_, rfl, n1, n2, rfl, h1.repl q4 hl.plain (hw _), by simp, h3, h4⟩
        rw [List.flatMap_cons, q2, ← q3]
        simp [partLines]
    · obtain ⟨ps', r1, r2, r3⟩ := parts_repl hl hw h4 q2
      refine ⟨p :: ps', ?_, by rw [List.map_cons, r2, List.map_cons], n1, n2, rfl, h1, h2, h3, r3⟩
      rw [List.flatMap_cons, r1, q1, List.append_assoc]
theorem cells_line {cells : List (Str × Nat)} {pre post : List Line} {l : Line} (h : cells.map cellLine = pre ++ l :: post) : ∃ r, l.ws = Str.ofString "cell" :: r := by
  have hm : l ∈ cells.map cellLine := by rw [h]; simp
  obtain ⟨c, _, rfl⟩ := List.mem_map.mp hm
  exact ⟨_, rfl⟩
theorem prog_repl {sy : Str} {cells : List (Str × Nat)} {parts : List (Str × List Line)} {main : List Line} {n m : Nat} {l : Line} {ws : List Str} {pre post : List Line} (hpo : PartsOk sy cells [] n parts) (hmn : Sts ⟨sy, cells, parts.map (·.1)⟩ 1 m main) (hne : main ≠ [])
    (e : progLines sy cells parts main = pre ++ l :: post) (hl : isWC l ∨ post = []) (hw : ∀ kn, PlainOk ⟨sy, cells, kn⟩ ws) :
    ∃ parts' main', progLines sy cells parts' main' = pre ++ ⟨l.ind, ws⟩ :: post ∧ parts'.map (·.1) = parts.map (·.1) ∧ PartsOk sy cells [] n parts' ∧ Sts ⟨sy, cells, parts.map (·.1)⟩ 1 m main' ∧ main' ≠ [] := by
  unfold progLines at e
  cases pre with
  | nil =>
    rw [List.nil_append] at e
    injection e with e1 e2
    rcases hl with hl | hl
    · exact (hl.not (by rw [← e1]) (by decide +kernel) (by decide +kernel)).elim
    · rw [hl] at e2
      have := congrArg List.length e2
      simp at this
  | cons a pre =>
  rw [List.cons_append] at e
  injection e with e1 e2
  subst e1
  rcases cut_two e2 with ⟨post', q1, q2⟩ | ⟨pre', q1, q2⟩
  · rcases hl with hl | hl
    · obtain ⟨r, er⟩ := cells_line q1
      exact (hl.not er (by decide +kernel) (by decide +kernel)).elim
    · rw [hl] at q2
      have := congrArg List.length q2
      simp at this
  · rcases cut_two q2 with ⟨post', r1, r2⟩ | ⟨pre'', r1, r2⟩
    · rcases hl with hl | hl
      · obtain ⟨ps', t1, t2, t3⟩ := parts_repl hl hw hpo r1
        refine ⟨ps', main, ?_, t2, t3, hmn, hne⟩
        unfold progLines
        rw [t1, q1, r2]
        simp
      · rw [hl] at r2
        have := congrArg List.length r2
        simp at this
    · cases pre'' with
      | nil =>
        rw [List.nil_append] at r2
        injection r2 with r3 r4
        rcases hl with hl | hl
        · exact (hl.not (by rw [← r3]) (by decide +kernel) (by decide +kernel)).elim
        · exact absurd (r4.trans hl) hne
      | cons b pre3 =>
        rw [List.cons_append] at r2
        injection r2 with r3 r4
        subst r3
        have hp : isPlainL l := by
          rcases hl with hl | hl
          · exact hl.plain
          · rw [hl] at r4
            exact hmn.lastPlain r4
        refine ⟨parts, pre3 ++ ⟨l.ind, ws⟩ :: post, ?_, rfl, hpo, hmn.repl r4 hp (hw _), by simp⟩
        unfold progLines
        rw [q1, r1]
        simp
/-! lines that write -/
def WritesOk (l : Line) : Prop := ∀ r, l.ws = Str.ofString "write" :: r → ∃ a, r = [a] ∧ letterW a = true
theorem fits_some (G : Ctx) : Fits G ⟨0, G.sy, G.cells, [], G.known.map fun n => (n, []), [], 0⟩ := ⟨rfl, rfl, fun n hn => by
  show n ∈ (G.known.map fun n => (n, ([] : List St))).map (·.1)
  rw [List.map_map]
  simpa using hn⟩
theorem PlainOk.writes {G : Ctx} {ws : List Str} {d : Nat} (h : PlainOk G ws) : WritesOk ⟨d, ws⟩ := by
  intro r e
  have e : ws = Str.ofString "write" :: r := e
  obtain ⟨x, hx⟩ := h.rd _ (fits_some G)
  rw [e] at hx
  match r, hx with
  | [], hx =>
    unfold plainSt at hx
    dsimp only at hx
    rw [if_neg (by decide +kernel)] at hx
    cases hx
  | [a], hx =>
    unfold plainSt at hx
    dsimp only at hx
    split at hx
    · rename_i hc
      exact ⟨a, rfl, hc.2⟩
    · rw [if_neg (fun z => absurd z.1 (by decide +kernel))] at hx
      cases hx
  | [a, b], hx =>
    unfold plainSt at hx
    dsimp only at hx
    rw [if_neg (by decide +kernel)] at hx
    cases hx
  | _ :: _ :: _ :: _, hx => cases hx
theorem writes_not {d : Nat} {k : Str} {ws : List Str} (h : k ≠ Str.ofString "write") : WritesOk ⟨d, k :: ws⟩ := fun r e => by
  have e : k :: ws = Str.ofString "write" :: r := e
  exact absurd (List.cons.inj e).1 h
theorem Sts.writes {G : Ctx} {d n : Nat} {B : List Line} (h : Sts G d n B) : ∀ l ∈ B, WritesOk l := by
  induction h with
  | nil => intro l hl; cases hl
  | plain hp _ ih =>
    intro l hl
    rcases List.mem_cons.mp hl with rfl | hl
    · exact hp.writes
    · exact ih l hl
  | block hk ha hd hne hB hL ihB ihL =>
    intro l hl
    rcases List.mem_cons.mp hl with rfl | hl
    · exact writes_not (block_words hk).1
    · rcases List.mem_append.mp hl with hl | hl
      · exact ihB l hl
      · exact ihL l hl
  | both ha hd h1 h2 hB hE hL ihB ihE ihL =>
    intro l hl
    rcases List.mem_cons.mp hl with rfl | hl
    · exact writes_not (by decide +kernel)
    · rcases List.mem_append.mp hl with hl | hl
      · exact ihB l hl
      · rcases List.mem_cons.mp hl with rfl | hl
        · exact writes_not (by decide +kernel)
        · rcases List.mem_append.mp hl with hl | hl
          · exact ihE l hl
          · exact ihL l hl
theorem parts_writes {sy : Str} {cells : List (Str × Nat)} : ∀ {ps : List (Str × List Line)} {known : List Str} {n : Nat}, PartsOk sy cells known n ps → ∀ l ∈ ps.flatMap partLines, WritesOk l
  | [], _, _, _, l, hl => by cases hl
  | p :: ps, known, n, h, l, hl => by
    obtain ⟨n1, n2, rfl, h1, h2, h3, h4⟩ := h
    rw [List.flatMap_cons] at hl
    rcases List.mem_append.mp hl with hl | hl
    · rcases List.mem_cons.mp hl with rfl | hl
      · exact writes_not (by decide +kernel)
      · exact h1.writes l hl
    · exact parts_writes h4 l hl
theorem prog_writes {sy : Str} {cells : List (Str × Nat)} {parts : List (Str × List Line)} {main : List Line} {n m : Nat} (hpo : PartsOk sy cells [] n parts) (hmn : Sts ⟨sy, cells, parts.map (·.1)⟩ 1 m main) : ∀ l ∈ progLines sy cells parts main, WritesOk l := by
  intro l hl
  rcases List.mem_cons.mp hl with rfl | hl
  · exact writes_not (by decide +kernel)
  · rcases List.mem_append.mp hl with hl | hl
    · obtain ⟨c, _, rfl⟩ := List.mem_map.mp hl
      exact writes_not (by decide +kernel)
    · rcases List.mem_append.mp hl with hl | hl
      · exact parts_writes hpo l hl
      · rcases List.mem_cons.mp hl with rfl | hl
        · exact writes_not (by decide +kernel)
        · exact hmn.writes l hl
/-! the letters as a law finds them -/
def wrOf (ws : List Str) : List Str := match ws with
  | k :: a :: _ => if k = Str.ofString "write" then [a] else []
  | _ => []
def writesOf (L : List Line) : List Str := L.flatMap fun l => wrOf l.ws
def copiesOf (sy : Str) (L : List Line) : List Str := L.flatMap fun l => if l.ws = [Str.ofString "copy"] then sy.cps.toList.map sing else []
theorem found_iff {sy : Str} {L : List Line} (h : ∀ l ∈ L, WritesOk l) (y : Str) : y ∈ writesOf L ++ copiesOf sy L ↔ LetIn sy L 0 L.length y := by
  have one : ∀ l, WritesOk l → (y ∈ wrOf l.ws ∨ y ∈ (if l.ws = [Str.ofString "copy"] then sy.cps.toList.map sing else []) ↔ y ∈ lineLetters sy l.ws) := by
    intro l hl
    match e : l.ws with
    | [] => simp [lineLetters, wrOf]
    | [a] =>
      simp only [lineLetters, wrOf, List.not_mem_nil, false_or]
      by_cases q : a = Str.ofString "copy"
      · rw [if_pos (by rw [q]), if_pos q]
      · rw [if_neg (fun z => q (List.cons.inj z).1), if_neg q]
    | [a, b] =>
      simp only [lineLetters, wrOf]
      have q0 : ¬ [a, b] = [Str.ofString "copy"] := by intro z; have := congrArg List.length z; simp at this
      rw [if_neg q0]
      simp
    | a :: b :: c :: r =>
      simp only [lineLetters, wrOf]
      have q0 : ¬ a :: b :: c :: r = [Str.ofString "copy"] := by intro z; have := congrArg List.length z; simp at this
      rw [if_neg q0]
      by_cases q : a = Str.ofString "write"
      · obtain ⟨z, hz, _⟩ := hl (b :: c :: r) (by rw [e, q])
        have := congrArg List.length hz
        simp at this
      · rw [if_neg q]
        simp
  have at_ : LetIn sy L 0 L.length y ↔ ∃ l ∈ L, y ∈ lineLetters sy l.ws := by
    constructor
    · rintro ⟨k, _, hk, hy⟩
      refine ⟨L[k], List.getElem_mem hk, ?_⟩
      unfold wds at hy
      rw [List.getElem?_eq_getElem hk] at hy
      exact hy
    · rintro ⟨l, hl, hy⟩
      obtain ⟨k, hk, rfl⟩ := List.getElem_of_mem hl
      refine ⟨k, Nat.zero_le _, hk, ?_⟩
      unfold wds
      rw [List.getElem?_eq_getElem hk]
      exact hy
  rw [at_, List.mem_append]
  unfold writesOf copiesOf
  rw [List.mem_flatMap, List.mem_flatMap]
  constructor
  · rintro (⟨l, hl, hy⟩ | ⟨l, hl, hy⟩)
    · exact ⟨l, hl, (one l (h l hl)).mp (.inl hy)⟩
    · exact ⟨l, hl, (one l (h l hl)).mp (.inr hy)⟩
  · rintro ⟨l, hl, hy⟩
    rcases (one l (h l hl)).mpr hy with z | z
    · exact .inl ⟨l, hl, z⟩
    · exact .inr ⟨l, hl, z⟩
theorem found_letters {sy : Str} {L : List Line} (hs : wordB sy = true) (h : ∀ l ∈ L, WritesOk l) : ∀ y ∈ writesOf L ++ copiesOf sy L, letterW y = true := by
  intro y hy
  rcases List.mem_append.mp hy with hy | hy
  · obtain ⟨l, hl, hy⟩ := List.mem_flatMap.mp hy
    match e : l.ws with
    | [] => rw [e] at hy; cases hy
    | [a] => rw [e] at hy; cases hy
    | a :: b :: r =>
      rw [e] at hy
      unfold wrOf at hy
      dsimp only at hy
      split at hy
      · rename_i q
        obtain ⟨z, hz, hw⟩ := h l hl (b :: r) (by rw [e, q])
        cases hz
        rw [List.mem_singleton.mp hy]
        exact hw
      · cases hy
  · obtain ⟨l, hl, hy⟩ := List.mem_flatMap.mp hy
    split at hy
    · obtain ⟨c, hc, rfl⟩ := List.mem_map.mp hy
      unfold wordB at hs
      have := List.all_eq_true.mp hs c hc
      unfold letterW wordB
      rw [Bool.and_eq_true, decide_eq_true_eq]
      exact ⟨rfl, by simpa [sing] using this⟩
    · cases hy
end PR

namespace K09
open PySem PySem.Spec PyProof.Rows L2 FG
def topS (i : Nat) : Stmt := PySem.Challenge.pw_fewgoings_k09_what_a_program_tells.main.body.getD i (.Pass ⟨0, 0, 0, 0⟩)
abbrev s__wall : Stmt := topS 0
abbrev N__wall : List Str := ["k"]
abbrev P__wall : List Str := ["k"]
theorem sc__wall : FnScope N__wall P__wall (defScope s__wall) := ⟨rfl, rfl, rfl, by decide +kernel, rfl, by decide +kernel, by decide +kernel⟩
abbrev s_is_letter : Stmt := topS 9
abbrev N_is_letter : List Str := ["value"]
abbrev P_is_letter : List Str := ["value"]
theorem sc_is_letter : FnScope N_is_letter P_is_letter (defScope s_is_letter) := ⟨rfl, rfl, rfl, by decide +kernel, rfl, by decide +kernel, by decide +kernel⟩
abbrev s_is_word : Stmt := topS 10
abbrev N_is_word : List Str := ["value", "letter"]
abbrev P_is_word : List Str := ["value"]
theorem sc_is_word : FnScope N_is_word P_is_word (defScope s_is_word) := ⟨rfl, rfl, rfl, by decide +kernel, rfl, by decide +kernel, by decide +kernel⟩
abbrev s_is_name : Stmt := topS 11
abbrev N_is_name : List Str := ["value"]
abbrev P_is_name : List Str := ["value"]
theorem sc_is_name : FnScope N_is_name P_is_name (defScope s_is_name) := ⟨rfl, rfl, rfl, by decide +kernel, rfl, by decide +kernel, by decide +kernel⟩
abbrev s_are_ascending : Stmt := topS 12
abbrev N_are_ascending : List Str := ["some", "one", "other"]
abbrev P_are_ascending : List Str := ["some"]
theorem sc_are_ascending : FnScope N_are_ascending P_are_ascending (defScope s_are_ascending) := ⟨rfl, rfl, rfl, by decide +kernel, rfl, by decide +kernel, by decide +kernel⟩
abbrev s_Condition_init : Stmt := inClass (topS 29) 0
abbrev N_Condition_init : List Str := ["self", "signs", "cell", "number"]
abbrev P_Condition_init : List Str := ["self", "signs", "cell", "number"]
theorem sc_Condition_init : FnScope N_Condition_init P_Condition_init (defScope s_Condition_init) := ⟨rfl, rfl, rfl, by decide +kernel, rfl, by decide +kernel, by decide +kernel⟩
abbrev s_Condition_holds : Stmt := inClass (topS 29) 1
abbrev N_Condition_holds : List Str := ["self", "sign", "cells"]
abbrev P_Condition_holds : List Str := ["self", "sign", "cells"]
theorem sc_Condition_holds : FnScope N_Condition_holds P_Condition_holds (defScope s_Condition_holds) := ⟨rfl, rfl, rfl, by decide +kernel, rfl, by decide +kernel, by decide +kernel⟩
abbrev s_Statement_init : Stmt := inClass (topS 30) 0
abbrev N_Statement_init : List Str := ["self", "line", "kind"]
abbrev P_Statement_init : List Str := ["self", "line", "kind"]
theorem sc_Statement_init : FnScope N_Statement_init P_Statement_init (defScope s_Statement_init) := ⟨rfl, rfl, rfl, by decide +kernel, rfl, by decide +kernel, by decide +kernel⟩
abbrev s_ProgramReader_init : Stmt := inClass (topS 31) 0
abbrev N_ProgramReader_init : List Str := ["self", "text"]
abbrev P_ProgramReader_init : List Str := ["self", "text"]
theorem sc_ProgramReader_init : FnScope N_ProgramReader_init P_ProgramReader_init (defScope s_ProgramReader_init) := ⟨rfl, rfl, rfl, by decide +kernel, rfl, by decide +kernel, by decide +kernel⟩
abbrev s_ProgramReader_fail : Stmt := inClass (topS 31) 1
abbrev N_ProgramReader_fail : List Str := ["self"]
abbrev P_ProgramReader_fail : List Str := ["self"]
theorem sc_ProgramReader_fail : FnScope N_ProgramReader_fail P_ProgramReader_fail (defScope s_ProgramReader_fail) := ⟨rfl, rfl, rfl, by decide +kernel, rfl, by decide +kernel, by decide +kernel⟩
abbrev s_ProgramReader_is_over : Stmt := inClass (topS 31) 2
abbrev N_ProgramReader_is_over : List Str := ["self"]
abbrev P_ProgramReader_is_over : List Str := ["self"]
theorem sc_ProgramReader_is_over : FnScope N_ProgramReader_is_over P_ProgramReader_is_over (defScope s_ProgramReader_is_over) := ⟨rfl, rfl, rfl, by decide +kernel, rfl, by decide +kernel, by decide +kernel⟩
abbrev s_ProgramReader_words : Stmt := inClass (topS 31) 3
abbrev N_ProgramReader_words : List Str := ["self"]
abbrev P_ProgramReader_words : List Str := ["self"]
theorem sc_ProgramReader_words : FnScope N_ProgramReader_words P_ProgramReader_words (defScope s_ProgramReader_words) := ⟨rfl, rfl, rfl, by decide +kernel, rfl, by decide +kernel, by decide +kernel⟩
abbrev s_ProgramReader_indent : Stmt := inClass (topS 31) 4
abbrev N_ProgramReader_indent : List Str := ["self"]
abbrev P_ProgramReader_indent : List Str := ["self"]
theorem sc_ProgramReader_indent : FnScope N_ProgramReader_indent P_ProgramReader_indent (defScope s_ProgramReader_indent) := ⟨rfl, rfl, rfl, by decide +kernel, rfl, by decide +kernel, by decide +kernel⟩
abbrev s_ProgramReader_begins : Stmt := inClass (topS 31) 5
abbrev N_ProgramReader_begins : List Str := ["self", "word"]
abbrev P_ProgramReader_begins : List Str := ["self", "word"]
theorem sc_ProgramReader_begins : FnScope N_ProgramReader_begins P_ProgramReader_begins (defScope s_ProgramReader_begins) := ⟨rfl, rfl, rfl, by decide +kernel, rfl, by decide +kernel, by decide +kernel⟩
abbrev s_ProgramReader_read : Stmt := inClass (topS 31) 6
abbrev N_ProgramReader_read : List Str := ["self"]
abbrev P_ProgramReader_read : List Str := ["self"]
theorem sc_ProgramReader_read : FnScope N_ProgramReader_read P_ProgramReader_read (defScope s_ProgramReader_read) := ⟨rfl, rfl, rfl, by decide +kernel, rfl, by decide +kernel, by decide +kernel⟩
abbrev s_ProgramReader_read_symbols : Stmt := inClass (topS 31) 7
abbrev N_ProgramReader_read_symbols : List Str := ["self", "words"]
abbrev P_ProgramReader_read_symbols : List Str := ["self"]
theorem sc_ProgramReader_read_symbols : FnScope N_ProgramReader_read_symbols P_ProgramReader_read_symbols (defScope s_ProgramReader_read_symbols) := ⟨rfl, rfl, rfl, by decide +kernel, rfl, by decide +kernel, by decide +kernel⟩
abbrev s_ProgramReader_new_name : Stmt := inClass (topS 31) 8
abbrev N_ProgramReader_new_name : List Str := ["self", "word"]
abbrev P_ProgramReader_new_name : List Str := ["self", "word"]
theorem sc_ProgramReader_new_name : FnScope N_ProgramReader_new_name P_ProgramReader_new_name (defScope s_ProgramReader_new_name) := ⟨rfl, rfl, rfl, by decide +kernel, rfl, by decide +kernel, by decide +kernel⟩
abbrev s_ProgramReader_read_cell : Stmt := inClass (topS 31) 9
abbrev N_ProgramReader_read_cell : List Str := ["self", "words"]
abbrev P_ProgramReader_read_cell : List Str := ["self"]
theorem sc_ProgramReader_read_cell : FnScope N_ProgramReader_read_cell P_ProgramReader_read_cell (defScope s_ProgramReader_read_cell) := ⟨rfl, rfl, rfl, by decide +kernel, rfl, by decide +kernel, by decide +kernel⟩
abbrev s_ProgramReader_read_part : Stmt := inClass (topS 31) 10
abbrev N_ProgramReader_read_part : List Str := ["self", "words"]
abbrev P_ProgramReader_read_part : List Str := ["self"]
theorem sc_ProgramReader_read_part : FnScope N_ProgramReader_read_part P_ProgramReader_read_part (defScope s_ProgramReader_read_part) := ⟨rfl, rfl, rfl, by decide +kernel, rfl, by decide +kernel, by decide +kernel⟩
abbrev s_ProgramReader_read_body : Stmt := inClass (topS 31) 11
abbrev N_ProgramReader_read_body : List Str := ["self", "depth", "found"]
abbrev P_ProgramReader_read_body : List Str := ["self", "depth"]
theorem sc_ProgramReader_read_body : FnScope N_ProgramReader_read_body P_ProgramReader_read_body (defScope s_ProgramReader_read_body) := ⟨rfl, rfl, rfl, by decide +kernel, rfl, by decide +kernel, by decide +kernel⟩
abbrev s_ProgramReader_read_statement : Stmt := inClass (topS 31) 12
abbrev N_ProgramReader_read_statement : List Str := ["self", "depth", "words", "found"]
abbrev P_ProgramReader_read_statement : List Str := ["self", "depth"]
theorem sc_ProgramReader_read_statement : FnScope N_ProgramReader_read_statement P_ProgramReader_read_statement (defScope s_ProgramReader_read_statement) := ⟨rfl, rfl, rfl, by decide +kernel, rfl, by decide +kernel, by decide +kernel⟩
abbrev s_ProgramReader_plain : Stmt := inClass (topS 31) 13
abbrev N_ProgramReader_plain : List Str := ["self", "words", "found"]
abbrev P_ProgramReader_plain : List Str := ["self", "words"]
theorem sc_ProgramReader_plain : FnScope N_ProgramReader_plain P_ProgramReader_plain (defScope s_ProgramReader_plain) := ⟨rfl, rfl, rfl, by decide +kernel, rfl, by decide +kernel, by decide +kernel⟩
abbrev s_ProgramReader_block : Stmt := inClass (topS 31) 14
abbrev N_ProgramReader_block : List Str := ["self", "words", "found", "rest", "is_turned", "asked"]
abbrev P_ProgramReader_block : List Str := ["self", "words"]
theorem sc_ProgramReader_block : FnScope N_ProgramReader_block P_ProgramReader_block (defScope s_ProgramReader_block) := ⟨rfl, rfl, rfl, by decide +kernel, rfl, by decide +kernel, by decide +kernel⟩
abbrev s_ProgramReader_asked_in : Stmt := inClass (topS 31) 15
abbrev N_ProgramReader_asked_in : List Str := ["self", "words", "cell"]
abbrev P_ProgramReader_asked_in : List Str := ["self", "words"]
theorem sc_ProgramReader_asked_in : FnScope N_ProgramReader_asked_in P_ProgramReader_asked_in (defScope s_ProgramReader_asked_in) := ⟨rfl, rfl, rfl, by decide +kernel, rfl, by decide +kernel, by decide +kernel⟩
abbrev s_ProgramReader_check_signs : Stmt := inClass (topS 31) 16
abbrev N_ProgramReader_check_signs : List Str := ["self", "word", "order", "places", "sign"]
abbrev P_ProgramReader_check_signs : List Str := ["self", "word"]
theorem sc_ProgramReader_check_signs : FnScope N_ProgramReader_check_signs P_ProgramReader_check_signs (defScope s_ProgramReader_check_signs) := ⟨rfl, rfl, rfl, by decide +kernel, rfl, by decide +kernel, by decide +kernel⟩
abbrev s_ProgramReader_cell_of : Stmt := inClass (topS 31) 17
abbrev N_ProgramReader_cell_of : List Str := ["self", "word", "found", "index", "cell"]
abbrev P_ProgramReader_cell_of : List Str := ["self", "word"]
theorem sc_ProgramReader_cell_of : FnScope N_ProgramReader_cell_of P_ProgramReader_cell_of (defScope s_ProgramReader_cell_of) := ⟨rfl, rfl, rfl, by decide +kernel, rfl, by decide +kernel, by decide +kernel⟩
abbrev s_ProgramReader_values_of : Stmt := inClass (topS 31) 18
abbrev N_ProgramReader_values_of : List Str := ["self", "cell"]
abbrev P_ProgramReader_values_of : List Str := ["self", "cell"]
theorem sc_ProgramReader_values_of : FnScope N_ProgramReader_values_of P_ProgramReader_values_of (defScope s_ProgramReader_values_of) := ⟨rfl, rfl, rfl, by decide +kernel, rfl, by decide +kernel, by decide +kernel⟩
abbrev s_ProgramReader_number_of : Stmt := inClass (topS 31) 19
abbrev N_ProgramReader_number_of : List Str := ["self", "word", "some"]
abbrev P_ProgramReader_number_of : List Str := ["self", "word", "some"]
theorem sc_ProgramReader_number_of : FnScope N_ProgramReader_number_of P_ProgramReader_number_of (defScope s_ProgramReader_number_of) := ⟨rfl, rfl, rfl, by decide +kernel, rfl, by decide +kernel, by decide +kernel⟩
abbrev s_letters_of : Stmt := topS 32
abbrev N_letters_of : List Str := ["symbols", "body", "found", "statement"]
abbrev P_letters_of : List Str := ["symbols", "body"]
theorem sc_letters_of : FnScope N_letters_of P_letters_of (defScope s_letters_of) := ⟨rfl, rfl, rfl, by decide +kernel, rfl, by decide +kernel, by decide +kernel⟩
abbrev s_Program_init : Stmt := inClass (topS 33) 0
abbrev N_Program_init : List Str := ["self", "text", "reader", "bodies", "every", "body", "letter"]
abbrev P_Program_init : List Str := ["self", "text"]
theorem sc_Program_init : FnScope N_Program_init P_Program_init (defScope s_Program_init) := ⟨rfl, rfl, rfl, by decide +kernel, rfl, by decide +kernel, by decide +kernel⟩
abbrev s_Program_text : Stmt := inClass (topS 33) 1
abbrev N_Program_text : List Str := ["self"]
abbrev P_Program_text : List Str := ["self"]
theorem sc_Program_text : FnScope N_Program_text P_Program_text (defScope s_Program_text) := ⟨rfl, rfl, rfl, by decide +kernel, rfl, by decide +kernel, by decide +kernel⟩
abbrev s_Program_symbols : Stmt := inClass (topS 33) 2
abbrev N_Program_symbols : List Str := ["self"]
abbrev P_Program_symbols : List Str := ["self"]
theorem sc_Program_symbols : FnScope N_Program_symbols P_Program_symbols (defScope s_Program_symbols) := ⟨rfl, rfl, rfl, by decide +kernel, rfl, by decide +kernel, by decide +kernel⟩
abbrev s_Program_cells : Stmt := inClass (topS 33) 3
abbrev N_Program_cells : List Str := ["self"]
abbrev P_Program_cells : List Str := ["self"]
theorem sc_Program_cells : FnScope N_Program_cells P_Program_cells (defScope s_Program_cells) := ⟨rfl, rfl, rfl, by decide +kernel, rfl, by decide +kernel, by decide +kernel⟩
abbrev s_Program_parts : Stmt := inClass (topS 33) 4
abbrev N_Program_parts : List Str := ["self"]
abbrev P_Program_parts : List Str := ["self"]
theorem sc_Program_parts : FnScope N_Program_parts P_Program_parts (defScope s_Program_parts) := ⟨rfl, rfl, rfl, by decide +kernel, rfl, by decide +kernel, by decide +kernel⟩
abbrev s_Program_letters : Stmt := inClass (topS 33) 5
abbrev N_Program_letters : List Str := ["self"]
abbrev P_Program_letters : List Str := ["self"]
theorem sc_Program_letters : FnScope N_Program_letters P_Program_letters (defScope s_Program_letters) := ⟨rfl, rfl, rfl, by decide +kernel, rfl, by decide +kernel, by decide +kernel⟩
abbrev s_Program_eq : Stmt := inClass (topS 33) 6
abbrev N_Program_eq : List Str := ["self", "other"]
abbrev P_Program_eq : List Str := ["self", "other"]
theorem sc_Program_eq : FnScope N_Program_eq P_Program_eq (defScope s_Program_eq) := ⟨rfl, rfl, rfl, by decide +kernel, rfl, by decide +kernel, by decide +kernel⟩
abbrev s__law_pot_of : Stmt := topS 35
abbrev N__law_pot_of : List Str := ["_law_script", "_law_k", "_law_cell", "_law_own"]
abbrev P__law_pot_of : List Str := ["_law_script", "_law_k"]
theorem sc__law_pot_of : FnScope N__law_pot_of P__law_pot_of (defScope s__law_pot_of) := ⟨rfl, rfl, rfl, by decide +kernel, rfl, by decide +kernel, by decide +kernel⟩
abbrev s__law_take : Stmt := topS 36
abbrev N__law_take : List Str := ["_law_pot", "_law_upto", "_law_prime", "_law_mixed", "_law_digit"]
abbrev P__law_take : List Str := ["_law_pot", "_law_upto"]
theorem sc__law_take : FnScope N__law_take P__law_take (defScope s__law_take) := ⟨rfl, rfl, rfl, by decide +kernel, rfl, by decide +kernel, by decide +kernel⟩
abbrev s__law_of : Stmt := topS 37
abbrev N__law_of : List Str := ["_law_pot", "_law_some"]
abbrev P__law_of : List Str := ["_law_pot", "_law_some"]
theorem sc__law_of : FnScope N__law_of P__law_of (defScope s__law_of) := ⟨rfl, rfl, rfl, by decide +kernel, rfl, by decide +kernel, by decide +kernel⟩
abbrev s__law_wide_lore : Stmt := topS 38
abbrev N__law_wide_lore : List Str := ["_law_pot", "_law_some", "_law_names", "_law_turn", "_law_lore", "_law_name"]
abbrev P__law_wide_lore : List Str := ["_law_pot"]
theorem sc__law_wide_lore : FnScope N__law_wide_lore P__law_wide_lore (defScope s__law_wide_lore) := ⟨rfl, rfl, rfl, by decide +kernel, rfl, by decide +kernel, by decide +kernel⟩
abbrev s__law_wide_asked : Stmt := topS 39
abbrev N__law_wide_asked : List Str := ["_law_pot", "_law_lore", "_law_signs", "_law_some", "_law_asked", "_law_name", "_law_most", "_law_sign"]
abbrev P__law_wide_asked : List Str := ["_law_pot", "_law_lore"]
theorem sc__law_wide_asked : FnScope N__law_wide_asked P__law_wide_asked (defScope s__law_wide_asked) := ⟨rfl, rfl, rfl, by decide +kernel, rfl, by decide +kernel, by decide +kernel⟩
abbrev s__law_wide_plain : Stmt := topS 40
abbrev N__law_wide_plain : List Str := ["_law_pot", "_law_lore", "_law_known", "_law_way", "_law_name", "_law_most", "_law_number"]
abbrev P__law_wide_plain : List Str := ["_law_pot", "_law_lore", "_law_known"]
theorem sc__law_wide_plain : FnScope N__law_wide_plain P__law_wide_plain (defScope s__law_wide_plain) := ⟨rfl, rfl, rfl, by decide +kernel, rfl, by decide +kernel, by decide +kernel⟩
abbrev s__law_wide_body : Stmt := topS 41
abbrev N__law_wide_body : List Str := ["_law_pot", "_law_lore", "_law_known", "_law_depth", "_law_found", "_law_blanks", "_law_turn", "_law_kind"]
abbrev P__law_wide_body : List Str := ["_law_pot", "_law_lore", "_law_known", "_law_depth"]
theorem sc__law_wide_body : FnScope N__law_wide_body P__law_wide_body (defScope s__law_wide_body) := ⟨rfl, rfl, rfl, by decide +kernel, rfl, by decide +kernel, by decide +kernel⟩
abbrev s__law_grown : Stmt := topS 42
abbrev N__law_grown : List Str := ["_law_pot", "_law_lore", "_law_found", "_law_number", "_law_name", "_law_most"]
abbrev P__law_grown : List Str := ["_law_pot", "_law_lore"]
theorem sc__law_grown : FnScope N__law_grown P__law_grown (defScope s__law_grown) := ⟨rfl, rfl, rfl, by decide +kernel, rfl, by decide +kernel, by decide +kernel⟩
abbrev s__law_letters : Stmt := topS 43
abbrev N__law_letters : List Str := ["_law_source", "_law_rows", "_law_found", "_law_words", "_law_row"]
abbrev P__law_letters : List Str := ["_law_source"]
theorem sc__law_letters : FnScope N__law_letters P__law_letters (defScope s__law_letters) := ⟨rfl, rfl, rfl, by decide +kernel, rfl, by decide +kernel, by decide +kernel⟩
abbrev s__law_other : Stmt := topS 44
abbrev N__law_other : List Str := ["_law_pot", "_law_source", "_law_rows", "_law_spots", "_law_at", "_law_blanks", "_law_word", "_law_row"]
abbrev P__law_other : List Str := ["_law_pot", "_law_source"]
theorem sc__law_other : FnScope N__law_other P__law_other (defScope s__law_other) := ⟨rfl, rfl, rfl, by decide +kernel, rfl, by decide +kernel, by decide +kernel⟩
abbrev s__law_right : Stmt := topS 45
abbrev N__law_right : List Str := ["_law_pot", "_law_source", "_law_other_here", "_law_one", "_law_two", "_law_thing"]
abbrev P__law_right : List Str := ["_law_pot"]
theorem sc__law_right : FnScope N__law_right P__law_right (defScope s__law_right) := ⟨rfl, rfl, rfl, by decide +kernel, rfl, by decide +kernel, by decide +kernel⟩
abbrev s_law : Stmt := topS 46
abbrev N_law : List Str := ["_law_script", "_law_k", "_law_pot", "_law_turn"]
abbrev P_law : List Str := ["_law_script"]
theorem sc_law : FnScope N_law P_law (defScope s_law) := ⟨rfl, rfl, rfl, by decide +kernel, rfl, by decide +kernel, by decide +kernel⟩
structure Ad where
  f__wall : Addr
  d__wall : FuncData
  f_is_letter : Addr
  d_is_letter : FuncData
  f_is_word : Addr
  d_is_word : FuncData
  f_is_name : Addr
  d_is_name : FuncData
  f_are_ascending : Addr
  d_are_ascending : FuncData
  f_Condition_init : Addr
  d_Condition_init : FuncData
  f_Condition_holds : Addr
  d_Condition_holds : FuncData
  f_Statement_init : Addr
  d_Statement_init : FuncData
  f_ProgramReader_init : Addr
  d_ProgramReader_init : FuncData
  f_ProgramReader_fail : Addr
  d_ProgramReader_fail : FuncData
  f_ProgramReader_is_over : Addr
  d_ProgramReader_is_over : FuncData
  f_ProgramReader_words : Addr
  d_ProgramReader_words : FuncData
  f_ProgramReader_indent : Addr
  d_ProgramReader_indent : FuncData
  f_ProgramReader_begins : Addr
  d_ProgramReader_begins : FuncData
  f_ProgramReader_read : Addr
  d_ProgramReader_read : FuncData
  f_ProgramReader_read_symbols : Addr
  d_ProgramReader_read_symbols : FuncData
  f_ProgramReader_new_name : Addr
  d_ProgramReader_new_name : FuncData
  f_ProgramReader_read_cell : Addr
  d_ProgramReader_read_cell : FuncData
  f_ProgramReader_read_part : Addr
  d_ProgramReader_read_part : FuncData
  f_ProgramReader_read_body : Addr
  d_ProgramReader_read_body : FuncData
  f_ProgramReader_read_statement : Addr
  d_ProgramReader_read_statement : FuncData
  f_ProgramReader_plain : Addr
  d_ProgramReader_plain : FuncData
  f_ProgramReader_block : Addr
  d_ProgramReader_block : FuncData
  f_ProgramReader_asked_in : Addr
  d_ProgramReader_asked_in : FuncData
  f_ProgramReader_check_signs : Addr
  d_ProgramReader_check_signs : FuncData
  f_ProgramReader_cell_of : Addr
  d_ProgramReader_cell_of : FuncData
  f_ProgramReader_values_of : Addr
  d_ProgramReader_values_of : FuncData
  f_ProgramReader_number_of : Addr
  d_ProgramReader_number_of : FuncData
  f_letters_of : Addr
  d_letters_of : FuncData
  f_Program_init : Addr
  d_Program_init : FuncData
  f_Program_text : Addr
  d_Program_text : FuncData
  f_Program_symbols : Addr
  d_Program_symbols : FuncData
  f_Program_cells : Addr
  d_Program_cells : FuncData
  f_Program_parts : Addr
  d_Program_parts : FuncData
  f_Program_letters : Addr
  d_Program_letters : FuncData
  f_Program_eq : Addr
  d_Program_eq : FuncData
  f__law_pot_of : Addr
  d__law_pot_of : FuncData
  f__law_take : Addr
  d__law_take : FuncData
  f__law_of : Addr
  d__law_of : FuncData
  f__law_wide_lore : Addr
  d__law_wide_lore : FuncData
  f__law_wide_asked : Addr
  d__law_wide_asked : FuncData
  f__law_wide_plain : Addr
  d__law_wide_plain : FuncData
  f__law_wide_body : Addr
  d__law_wide_body : FuncData
  f__law_grown : Addr
  d__law_grown : FuncData
  f__law_letters : Addr
  d__law_letters : FuncData
  f__law_other : Addr
  d__law_other : FuncData
  f__law_right : Addr
  d__law_right : FuncData
  f_law : Addr
  d_law : FuncData
  c_PassError : Addr
  c_BadProgram : Addr
  c_Condition : Addr
  c_Statement : Addr
  c_ProgramReader : Addr
  c_Program : Addr
  p_Program_cells : Addr
  p_Program_letters : Addr
  p_Program_parts : Addr
  p_Program_symbols : Addr
  p_Program_text : Addr
  k_BARE : Addr
  k_BLOCKS : Addr
  k_MOSTS : Addr
  k_TAKEN : Addr
  k_VALUES : Addr
structure Txt (K : PySem.W.Frag) (mg : Str → Option Value) (D : Ad) : Prop where
  f__wall : Fun K "_wall" "_wall" s__wall D.f__wall D.d__wall
  b__wall : Binds K D.d__wall P__wall []
  g__wall : mg "_wall" = some (.ref D.f__wall)
  f_is_letter : Fun K "is_letter" "is_letter" s_is_letter D.f_is_letter D.d_is_letter
  b_is_letter : Binds K D.d_is_letter P_is_letter []
  g_is_letter : mg "is_letter" = some (.ref D.f_is_letter)
  f_is_word : Fun K "is_word" "is_word" s_is_word D.f_is_word D.d_is_word
  b_is_word : Binds K D.d_is_word P_is_word []
  g_is_word : mg "is_word" = some (.ref D.f_is_word)
  f_is_name : Fun K "is_name" "is_name" s_is_name D.f_is_name D.d_is_name
  b_is_name : Binds K D.d_is_name P_is_name []
  g_is_name : mg "is_name" = some (.ref D.f_is_name)
  f_are_ascending : Fun K "are_ascending" "are_ascending" s_are_ascending D.f_are_ascending D.d_are_ascending
  b_are_ascending : Binds K D.d_are_ascending P_are_ascending []
  g_are_ascending : mg "are_ascending" = some (.ref D.f_are_ascending)
  f_Condition_init : Fun K "__init__" "Condition.__init__" s_Condition_init D.f_Condition_init D.d_Condition_init
  b_Condition_init : Binds K D.d_Condition_init P_Condition_init []
  mk_Condition : Mk K D.c_Condition D.f_Condition_init
  f_Condition_holds : Fun K "holds" "Condition.holds" s_Condition_holds D.f_Condition_holds D.d_Condition_holds
  b_Condition_holds : Binds K D.d_Condition_holds P_Condition_holds []
  m_Condition_holds : Meth K D.c_Condition "holds" D.f_Condition_holds
  f_Statement_init : Fun K "__init__" "Statement.__init__" s_Statement_init D.f_Statement_init D.d_Statement_init
  b_Statement_init : Binds K D.d_Statement_init P_Statement_init []
  mk_Statement : Mk K D.c_Statement D.f_Statement_init
  f_ProgramReader_init : Fun K "__init__" "ProgramReader.__init__" s_ProgramReader_init D.f_ProgramReader_init D.d_ProgramReader_init
  b_ProgramReader_init : Binds K D.d_ProgramReader_init P_ProgramReader_init []
  mk_ProgramReader : Mk K D.c_ProgramReader D.f_ProgramReader_init
  f_ProgramReader_fail : Fun K "fail" "ProgramReader.fail" s_ProgramReader_fail D.f_ProgramReader_fail D.d_ProgramReader_fail
  b_ProgramReader_fail : Binds K D.d_ProgramReader_fail P_ProgramReader_fail []
  m_ProgramReader_fail : Meth K D.c_ProgramReader "fail" D.f_ProgramReader_fail
  f_ProgramReader_is_over : Fun K "is_over" "ProgramReader.is_over" s_ProgramReader_is_over D.f_ProgramReader_is_over D.d_ProgramReader_is_over
  b_ProgramReader_is_over : Binds K D.d_ProgramReader_is_over P_ProgramReader_is_over []
  m_ProgramReader_is_over : Meth K D.c_ProgramReader "is_over" D.f_ProgramReader_is_over
  f_ProgramReader_words : Fun K "words" "ProgramReader.words" s_ProgramReader_words D.f_ProgramReader_words D.d_ProgramReader_words
  b_ProgramReader_words : Binds K D.d_ProgramReader_words P_ProgramReader_words []
  m_ProgramReader_words : Meth K D.c_ProgramReader "words" D.f_ProgramReader_words
  f_ProgramReader_indent : Fun K "indent" "ProgramReader.indent" s_ProgramReader_indent D.f_ProgramReader_indent D.d_ProgramReader_indent
  b_ProgramReader_indent : Binds K D.d_ProgramReader_indent P_ProgramReader_indent []
  m_ProgramReader_indent : Meth K D.c_ProgramReader "indent" D.f_ProgramReader_indent
  f_ProgramReader_begins : Fun K "begins" "ProgramReader.begins" s_ProgramReader_begins D.f_ProgramReader_begins D.d_ProgramReader_begins
  b_ProgramReader_begins : Binds K D.d_ProgramReader_begins P_ProgramReader_begins []
  m_ProgramReader_begins : Meth K D.c_ProgramReader "begins" D.f_ProgramReader_begins
  f_ProgramReader_read : Fun K "read" "ProgramReader.read" s_ProgramReader_read D.f_ProgramReader_read D.d_ProgramReader_read
  b_ProgramReader_read : Binds K D.d_ProgramReader_read P_ProgramReader_read []
  m_ProgramReader_read : Meth K D.c_ProgramReader "read" D.f_ProgramReader_read
  f_ProgramReader_read_symbols : Fun K "read_symbols" "ProgramReader.read_symbols" s_ProgramReader_read_symbols D.f_ProgramReader_read_symbols D.d_ProgramReader_read_symbols
  b_ProgramReader_read_symbols : Binds K D.d_ProgramReader_read_symbols P_ProgramReader_read_symbols []
  m_ProgramReader_read_symbols : Meth K D.c_ProgramReader "read_symbols" D.f_ProgramReader_read_symbols
  f_ProgramReader_new_name : Fun K "new_name" "ProgramReader.new_name" s_ProgramReader_new_name D.f_ProgramReader_new_name D.d_ProgramReader_new_name
  b_ProgramReader_new_name : Binds K D.d_ProgramReader_new_name P_ProgramReader_new_name []
  m_ProgramReader_new_name : Meth K D.c_ProgramReader "new_name" D.f_ProgramReader_new_name
  f_ProgramReader_read_cell : Fun K "read_cell" "ProgramReader.read_cell" s_ProgramReader_read_cell D.f_ProgramReader_read_cell D.d_ProgramReader_read_cell
  b_ProgramReader_read_cell : Binds K D.d_ProgramReader_read_cell P_ProgramReader_read_cell []
  m_ProgramReader_read_cell : Meth K D.c_ProgramReader "read_cell" D.f_ProgramReader_read_cell
  f_ProgramReader_read_part : Fun K "read_part" "ProgramReader.read_part" s_ProgramReader_read_part D.f_ProgramReader_read_part D.d_ProgramReader_read_part
  b_ProgramReader_read_part : Binds K D.d_ProgramReader_read_part P_ProgramReader_read_part []
  m_ProgramReader_read_part : Meth K D.c_ProgramReader "read_part" D.f_ProgramReader_read_part
  f_ProgramReader_read_body : Fun K "read_body" "ProgramReader.read_body" s_ProgramReader_read_body D.f_ProgramReader_read_body D.d_ProgramReader_read_body
  b_ProgramReader_read_body : Binds K D.d_ProgramReader_read_body P_ProgramReader_read_body []
  m_ProgramReader_read_body : Meth K D.c_ProgramReader "read_body" D.f_ProgramReader_read_body
  f_ProgramReader_read_statement : Fun K "read_statement" "ProgramReader.read_statement" s_ProgramReader_read_statement D.f_ProgramReader_read_statement D.d_ProgramReader_read_statement
  b_ProgramReader_read_statement : Binds K D.d_ProgramReader_read_statement P_ProgramReader_read_statement []
  m_ProgramReader_read_statement : Meth K D.c_ProgramReader "read_statement" D.f_ProgramReader_read_statement
  f_ProgramReader_plain : Fun K "plain" "ProgramReader.plain" s_ProgramReader_plain D.f_ProgramReader_plain D.d_ProgramReader_plain
  b_ProgramReader_plain : Binds K D.d_ProgramReader_plain P_ProgramReader_plain []
  m_ProgramReader_plain : Meth K D.c_ProgramReader "plain" D.f_ProgramReader_plain
  f_ProgramReader_block : Fun K "block" "ProgramReader.block" s_ProgramReader_block D.f_ProgramReader_block D.d_ProgramReader_block
  b_ProgramReader_block : Binds K D.d_ProgramReader_block P_ProgramReader_block []
  m_ProgramReader_block : Meth K D.c_ProgramReader "block" D.f_ProgramReader_block
  f_ProgramReader_asked_in : Fun K "asked_in" "ProgramReader.asked_in" s_ProgramReader_asked_in D.f_ProgramReader_asked_in D.d_ProgramReader_asked_in
  b_ProgramReader_asked_in : Binds K D.d_ProgramReader_asked_in P_ProgramReader_asked_in []
  m_ProgramReader_asked_in : Meth K D.c_ProgramReader "asked_in" D.f_ProgramReader_asked_in
  f_ProgramReader_check_signs : Fun K "check_signs" "ProgramReader.check_signs" s_ProgramReader_check_signs D.f_ProgramReader_check_signs D.d_ProgramReader_check_signs
  b_ProgramReader_check_signs : Binds K D.d_ProgramReader_check_signs P_ProgramReader_check_signs []
  m_ProgramReader_check_signs : Meth K D.c_ProgramReader "check_signs" D.f_ProgramReader_check_signs
  f_ProgramReader_cell_of : Fun K "cell_of" "ProgramReader.cell_of" s_ProgramReader_cell_of D.f_ProgramReader_cell_of D.d_ProgramReader_cell_of
  b_ProgramReader_cell_of : Binds K D.d_ProgramReader_cell_of P_ProgramReader_cell_of []
  m_ProgramReader_cell_of : Meth K D.c_ProgramReader "cell_of" D.f_ProgramReader_cell_of
  f_ProgramReader_values_of : Fun K "values_of" "ProgramReader.values_of" s_ProgramReader_values_of D.f_ProgramReader_values_of D.d_ProgramReader_values_of
  b_ProgramReader_values_of : Binds K D.d_ProgramReader_values_of P_ProgramReader_values_of []
  m_ProgramReader_values_of : Meth K D.c_ProgramReader "values_of" D.f_ProgramReader_values_of
  f_ProgramReader_number_of : Fun K "number_of" "ProgramReader.number_of" s_ProgramReader_number_of D.f_ProgramReader_number_of D.d_ProgramReader_number_of
  b_ProgramReader_number_of : Binds K D.d_ProgramReader_number_of P_ProgramReader_number_of []
  m_ProgramReader_number_of : Meth K D.c_ProgramReader "number_of" D.f_ProgramReader_number_of
  f_letters_of : Fun K "letters_of" "letters_of" s_letters_of D.f_letters_of D.d_letters_of
  b_letters_of : Binds K D.d_letters_of P_letters_of []
  g_letters_of : mg "letters_of" = some (.ref D.f_letters_of)
  f_Program_init : Fun K "__init__" "Program.__init__" s_Program_init D.f_Program_init D.d_Program_init
  b_Program_init : Binds K D.d_Program_init P_Program_init []
  mk_Program : Mk K D.c_Program D.f_Program_init
  f_Program_text : Fun K "text" "Program.text" s_Program_text D.f_Program_text D.d_Program_text
  b_Program_text : Binds K D.d_Program_text P_Program_text []
  p_Program_text : PropOf K D.c_Program "text" D.p_Program_text D.f_Program_text
  f_Program_symbols : Fun K "symbols" "Program.symbols" s_Program_symbols D.f_Program_symbols D.d_Program_symbols
  b_Program_symbols : Binds K D.d_Program_symbols P_Program_symbols []
  p_Program_symbols : PropOf K D.c_Program "symbols" D.p_Program_symbols D.f_Program_symbols
  f_Program_cells : Fun K "cells" "Program.cells" s_Program_cells D.f_Program_cells D.d_Program_cells
  b_Program_cells : Binds K D.d_Program_cells P_Program_cells []
  p_Program_cells : PropOf K D.c_Program "cells" D.p_Program_cells D.f_Program_cells
  f_Program_parts : Fun K "parts" "Program.parts" s_Program_parts D.f_Program_parts D.d_Program_parts
  b_Program_parts : Binds K D.d_Program_parts P_Program_parts []
  p_Program_parts : PropOf K D.c_Program "parts" D.p_Program_parts D.f_Program_parts
  f_Program_letters : Fun K "letters" "Program.letters" s_Program_letters D.f_Program_letters D.d_Program_letters
  b_Program_letters : Binds K D.d_Program_letters P_Program_letters []
  p_Program_letters : PropOf K D.c_Program "letters" D.p_Program_letters D.f_Program_letters
  f_Program_eq : Fun K "__eq__" "Program.__eq__" s_Program_eq D.f_Program_eq D.d_Program_eq
  b_Program_eq : Binds K D.d_Program_eq P_Program_eq []
  m_Program_eq : Meth K D.c_Program "__eq__" D.f_Program_eq
  f__law_pot_of : Fun K "_law_pot_of" "_law_pot_of" s__law_pot_of D.f__law_pot_of D.d__law_pot_of
  b__law_pot_of : Binds K D.d__law_pot_of P__law_pot_of []
  g__law_pot_of : mg "_law_pot_of" = some (.ref D.f__law_pot_of)
  f__law_take : Fun K "_law_take" "_law_take" s__law_take D.f__law_take D.d__law_take
  b__law_take : Binds K D.d__law_take P__law_take []
  g__law_take : mg "_law_take" = some (.ref D.f__law_take)
  f__law_of : Fun K "_law_of" "_law_of" s__law_of D.f__law_of D.d__law_of
  b__law_of : Binds K D.d__law_of P__law_of []
  g__law_of : mg "_law_of" = some (.ref D.f__law_of)
  f__law_wide_lore : Fun K "_law_wide_lore" "_law_wide_lore" s__law_wide_lore D.f__law_wide_lore D.d__law_wide_lore
  b__law_wide_lore : Binds K D.d__law_wide_lore P__law_wide_lore []
  g__law_wide_lore : mg "_law_wide_lore" = some (.ref D.f__law_wide_lore)
  f__law_wide_asked : Fun K "_law_wide_asked" "_law_wide_asked" s__law_wide_asked D.f__law_wide_asked D.d__law_wide_asked
  b__law_wide_asked : Binds K D.d__law_wide_asked P__law_wide_asked []
  g__law_wide_asked : mg "_law_wide_asked" = some (.ref D.f__law_wide_asked)
  f__law_wide_plain : Fun K "_law_wide_plain" "_law_wide_plain" s__law_wide_plain D.f__law_wide_plain D.d__law_wide_plain
  b__law_wide_plain : Binds K D.d__law_wide_plain P__law_wide_plain []
  g__law_wide_plain : mg "_law_wide_plain" = some (.ref D.f__law_wide_plain)
  f__law_wide_body : Fun K "_law_wide_body" "_law_wide_body" s__law_wide_body D.f__law_wide_body D.d__law_wide_body
  b__law_wide_body : Binds K D.d__law_wide_body P__law_wide_body []
  g__law_wide_body : mg "_law_wide_body" = some (.ref D.f__law_wide_body)
  f__law_grown : Fun K "_law_grown" "_law_grown" s__law_grown D.f__law_grown D.d__law_grown
  b__law_grown : Binds K D.d__law_grown P__law_grown []
  g__law_grown : mg "_law_grown" = some (.ref D.f__law_grown)
  f__law_letters : Fun K "_law_letters" "_law_letters" s__law_letters D.f__law_letters D.d__law_letters
  b__law_letters : Binds K D.d__law_letters P__law_letters []
  g__law_letters : mg "_law_letters" = some (.ref D.f__law_letters)
  f__law_other : Fun K "_law_other" "_law_other" s__law_other D.f__law_other D.d__law_other
  b__law_other : Binds K D.d__law_other P__law_other []
  g__law_other : mg "_law_other" = some (.ref D.f__law_other)
  f__law_right : Fun K "_law_right" "_law_right" s__law_right D.f__law_right D.d__law_right
  b__law_right : Binds K D.d__law_right P__law_right []
  g__law_right : mg "_law_right" = some (.ref D.f__law_right)
  f_law : Fun K "law" "law" s_law D.f_law D.d_law
  b_law : Binds K D.d_law P_law []
  g_law : mg "law" = some (.ref D.f_law)
  cl_Condition : Cls K D.c_Condition
  n_Condition_signs : NoAttr K D.c_Condition "signs"
  n_Condition_cell : NoAttr K D.c_Condition "cell"
  n_Condition_number : NoAttr K D.c_Condition "number"
  n_Condition_is_turned : NoAttr K D.c_Condition "is_turned"
  cl_Statement : Cls K D.c_Statement
  n_Statement_line : NoAttr K D.c_Statement "line"
  n_Statement_kind : NoAttr K D.c_Statement "kind"
  n_Statement_own_word : NoAttr K D.c_Statement "own_word"
  n_Statement_cell : NoAttr K D.c_Statement "cell"
  n_Statement_number : NoAttr K D.c_Statement "number"
  n_Statement_asked : NoAttr K D.c_Statement "asked"
  n_Statement_body : NoAttr K D.c_Statement "body"
  n_Statement_else_body : NoAttr K D.c_Statement "else_body"
  cl_ProgramReader : Cls K D.c_ProgramReader
  n_ProgramReader_rows : NoAttr K D.c_ProgramReader "rows"
  n_ProgramReader_now : NoAttr K D.c_ProgramReader "now"
  n_ProgramReader_own_symbols : NoAttr K D.c_ProgramReader "own_symbols"
  n_ProgramReader_own_cells : NoAttr K D.c_ProgramReader "own_cells"
  n_ProgramReader_names : NoAttr K D.c_ProgramReader "names"
  n_ProgramReader_bodies : NoAttr K D.c_ProgramReader "bodies"
  n_ProgramReader_main : NoAttr K D.c_ProgramReader "main"
  n_ProgramReader_own_many : NoAttr K D.c_ProgramReader "own_many"
  cl_Program : Cls K D.c_Program
  n_Program_own_text : NoAttr K D.c_Program "own_text"
  n_Program_own_symbols : NoAttr K D.c_Program "own_symbols"
  n_Program_own_cells : NoAttr K D.c_Program "own_cells"
  n_Program_own_bodies : NoAttr K D.c_Program "own_bodies"
  n_Program_own_main : NoAttr K D.c_Program "own_main"
  n_Program_own_letters : NoAttr K D.c_Program "own_letters"
  n_Program_own_plan : NoAttr K D.c_Program "own_plan"
  ow_Program : OwnCls K D.c_Program
  g_PassError : mg "PassError" = some (.ref D.c_PassError)
  g_BadProgram : mg "BadProgram" = some (.ref D.c_BadProgram)
  g_Condition : mg "Condition" = some (.ref D.c_Condition)
  g_Statement : mg "Statement" = some (.ref D.c_Statement)
  g_ProgramReader : mg "ProgramReader" = some (.ref D.c_ProgramReader)
  g_Program : mg "Program" = some (.ref D.c_Program)
  z_abs : mg "abs" = none
  z_all : mg "all" = none
  z_any : mg "any" = none
  z_enumerate : mg "enumerate" = none
  z_int : mg "int" = none
  z_isinstance : mg "isinstance" = none
  z_len : mg "len" = none
  z_list : mg "list" = none
  z_max : mg "max" = none
  z_min : mg "min" = none
  z_range : mg "range" = none
  z_repr : mg "repr" = none
  z_set : mg "set" = none
  z_sorted : mg "sorted" = none
  z_str : mg "str" = none
  z_tuple : mg "tuple" = none
  z_zip : mg "zip" = none
  g_BARE : mg "BARE" = some (.ref D.k_BARE)
  t_BARE : SqT K (fun _ => none) D.k_BARE [.str "right", .str "left", .str "copy", .str "stop"]
  c_BLANK : ∃ t, mg "BLANK" = some (.str " " t)
  g_BLOCKS : mg "BLOCKS" = some (.ref D.k_BLOCKS)
  t_BLOCKS : SqT K (fun _ => none) D.k_BLOCKS [.str "if", .str "while"]
  c_FEED : ∃ t, mg "FEED" = some (.str "\n" t)
  c_LEAST_SYMBOLS : ∃ t, mg "LEAST_SYMBOLS" = some (.int 2 t)
  c_LEFT_MARK : ∃ t, mg "LEFT_MARK" = some (.str "<" t)
  c_LETTERS : ∃ t, mg "LETTERS" = some (.str "abcdefghijklmnopqrstuvwxyz" t)
  g_MOSTS : mg "MOSTS" = some (.ref D.k_MOSTS)
  t_MOSTS : SqT K (fun _ => none) D.k_MOSTS [.str "1", .str "2"]
  c_MOST_CELLS : ∃ t, mg "MOST_CELLS" = some (.int 2 t)
  c_MOST_DEPTH : ∃ t, mg "MOST_DEPTH" = some (.int 4 t)
  c_MOST_NAME : ∃ t, mg "MOST_NAME" = some (.int 8 t)
  c_MOST_PARTS : ∃ t, mg "MOST_PARTS" = some (.int 2 t)
  c_MOST_STATEMENTS : ∃ t, mg "MOST_STATEMENTS" = some (.int 20 t)
  c_MOST_SYMBOLS : ∃ t, mg "MOST_SYMBOLS" = some (.int 4 t)
  c_RIGHT_MARK : ∃ t, mg "RIGHT_MARK" = some (.str ">" t)
  c_STEP : ∃ t, mg "STEP" = some (.int 2 t)
  g_TAKEN : mg "TAKEN" = some (.ref D.k_TAKEN)
  g_VALUES : mg "VALUES" = some (.ref D.k_VALUES)
  t_VALUES : SqT K (fun _ => none) D.k_VALUES [.str "0", .str "1", .str "2"]
  ki_Program : OwnKit K D.c_Program
local macro_rules | `(tactic| walk_at "sq") => `(tactic| first
  | assumption
  | exact SqL.of (by assumption)
  | exact SqT.of (by assumption)
  | exact SqLm.l (by assumption)
  | exact SqTm.t (by assumption))
local macro_rules | `(tactic| walk_at "cond") => `(tactic| first
  | assumption
  | (show (0 : Int) < _; omega)
  | (show (0 : Int) < _ ∧ _ < 1073741824; omega))
local macro_rules | `(tactic| walk_at "st") => `(tactic| first
  | with_reducible refine b_seq ?_
  | with_reducible refine b_asg ?_
  | with_reducible refine b_op ?_
  | ((with_reducible refine' b_var ?hv ?_); (case hv => exact rfl))
  | with_reducible refine b_c ?_
  | with_reducible refine b_name ?_
  | with_reducible refine b_I0 ?_
  | with_reducible refine b_cons ?_
  | with_reducible refine b_nil ?_
  | with_reducible refine b_cb ?_
  | with_reducible refine b_call ?_
  | with_reducible refine b_ret ?_
  | with_reducible refine b_ifS ?_
  | with_reducible refine b_test ?_
  | with_reducible refine b_tb ?_
  | with_reducible refine b_bl ?_
  | with_reducible refine b_blP ?_
  | with_reducible refine b_next ?_
  | with_reducible refine b_drop ?_
  | with_reducible refine b_dget ?_
  | with_reducible refine b_makeN ?_
  | with_reducible refine b_pairs ?_
  | with_reducible refine b_pairs0 ?_
  | with_reducible refine b_sub ?_
  | with_reducible refine b_chain ?_
  | with_reducible refine b_and ?_
  | with_reducible refine b_or ?_
  | with_reducible refine b_not ?_
  | with_reducible refine b_andV ?_
  | with_reducible refine b_orV ?_
  | with_reducible refine b_notV ?_
  | with_reducible refine b_if ?_
  | with_reducible refine b_par ?_
  | with_reducible refine b_parE ?_
  | ((with_reducible refine' b_aug ?hv ?_); (case hv => exact rfl))
  | with_reducible refine b_ip ?_
  | with_reducible refine b_retN ?_
  | with_reducible refine b_tup ?_
  | with_reducible refine b_lst ?_
  | with_reducible refine b_sl ?_
  | with_reducible refine b_part ?_
  | with_reducible refine b_partP ?_
  | with_reducible refine b_nopart ?_
  | with_reducible refine b_bm ?_
  | with_reducible refine b_m1 ?_
  | with_reducible refine b_m0 ?_
  | with_reducible refine b_yes ?_
  | with_reducible refine b_un ?_
  | with_reducible refine b_neg ?_
  | with_reducible refine b_isN ?_
  | with_reducible refine b_notN ?_
  | with_reducible refine b_inS ?_
  | with_reducible refine b_int ?_
  | with_reducible refine b_intB ?_
  | with_reducible refine b_abs ?_
  | with_reducible refine b_max ?_
  | with_reducible refine b_min ?_
  | ((with_reducible refine b_eq ?hv ?_); (case hv => exact rfl))
  | ((with_reducible refine b_ne ?hv ?_); (case hv => exact rfl))
  | ((with_reducible refine' b_lenL ?hv ?_); (case hv => walk_at "sq"))
  | ((with_reducible refine' b_lenT ?hv ?_); (case hv => walk_at "sq"))
  | ((with_reducible refine' b_ixL ?hv ?hw ?_); (case hv => walk_at "sq"); (case hw => first | exact rfl | exact at0 | exact at1 | exact at2))
  | ((with_reducible refine' b_ixT ?hv ?hw ?_); (case hv => walk_at "sq"); (case hw => first | exact rfl | exact at0 | exact at1 | exact at2))
  | ((with_reducible refine b_I ?hv ?_); (case hv => walk_at "cond"))
  | with_reducible refine b_lcS ?_
  | with_reducible refine b_lcR ?_
  | with_reducible refine b_lcT ?_
  | with_reducible refine b_lcL ?_
  | with_reducible refine b_forT ?_
  | with_reducible refine b_forL ?_
  | with_reducible refine b_forR ?_
  | with_reducible refine b_turn ?_
  | ((with_reducible refine And.intro (a := wipe _ _ = wipe _ _) ?hv ?_); (case hv => exact rfl))
  | ((with_reducible refine And.intro (a := tyV _ "list" _ _) ?hv ?_); (case hv => exact ty_list (by assumption)))
  | with_reducible refine And.intro (a := ∃ a, V.str _ = V.str a) ⟨_, rfl⟩ ?_
  | (with_reducible refine iteT ?_)
  | (with_reducible refine iteNF ?_)
  | (with_reducible refine iteNT ?_)
  | (with_reducible refine iteVT ?_)
  | (with_reducible refine iteNVT ?_)
  | ((with_reducible refine iteVF ?hv ?_); (case hv => exact rfl))
  | ((with_reducible refine iteNVF ?hv ?_); (case hv => exact rfl))
  | with_reducible refine b_callS ?_
  | with_reducible refine b_xq ?_
  | with_reducible refine b_fld ?_
  | with_reducible refine b_sfld ?_
  | with_reducible refine b_meth ?_
  | with_reducible refine b_make ?_
  | with_reducible refine b_callK ?_
  | with_reducible refine b_sfa ?_
  | with_reducible refine b_lcEnT ?_
  | with_reducible refine b_lcEnL ?_
  | with_reducible refine b_forEnT ?_
  | with_reducible refine b_forEnL ?_
  | with_reducible refine b_lcZ ?_
  | with_reducible refine b_lcZX ?_
  | with_reducible refine b_prop ?_
  | with_reducible refine b_dput ?_
  | with_reducible refine b_din ?_
  | with_reducible refine b_inB ?_
  | with_reducible refine e_revT ?_
  | ((with_reducible refine' e_fld ?hv ?hc ?hn ?hl ?_); (case hv => assumption); (case hc => assumption); (case hn => assumption); (case hl => exact rfl))
  | ((with_reducible refine' e_meth ?hv ?hl ?_); (case hv => assumption); (case hl => exact rfl))
  | (with_reducible refine iteF ?_))

section
variable {P : Program} {w : World} {K : PySem.W.Frag} {mg : Str → Option Value} {base : Heap} {D : Ad}
theorem never {k : Nat} {f : Addr} {fd : FuncData} {ps : List Str} : FnOk P w K mg base CX0 k f fd ps (fun _ _ _ _ => False) := ⟨fun _ _ _ _ h => h.elim, fun _ _ _ _ _ _ _ _ _ _ _ _ _ h => h.elim⟩
end
end K09

namespace K09
open PySem PySem.Spec PyProof.Rows L2 FG
local macro_rules | `(tactic| walk_at "sq") => `(tactic| first
  | assumption
  | exact SqL.of (by assumption)
  | exact SqT.of (by assumption)
  | exact SqLm.l (by assumption)
  | exact SqTm.t (by assumption))
local macro_rules | `(tactic| walk_at "cond") => `(tactic| first
  | assumption
  | (show (0 : Int) < _; omega)
  | (show (0 : Int) < _ ∧ _ < 1073741824; omega))
local macro_rules | `(tactic| walk_at "st") => `(tactic| first
  | with_reducible refine b_seq ?_
  | with_reducible refine b_asg ?_
  | with_reducible refine b_op ?_
  | ((with_reducible refine' b_var ?hv ?_); (case hv => exact rfl))
  | with_reducible refine b_c ?_
  | with_reducible refine b_name ?_
  | with_reducible refine b_I0 ?_
  | with_reducible refine b_cons ?_
  | with_reducible refine b_nil ?_
  | with_reducible refine b_cb ?_
  | with_reducible refine b_call ?_
  | with_reducible refine b_ret ?_
  | with_reducible refine b_ifS ?_
  | with_reducible refine b_test ?_
  | with_reducible refine b_tb ?_
  | with_reducible refine b_bl ?_
  | with_reducible refine b_blP ?_
  | with_reducible refine b_next ?_
  | with_reducible refine b_drop ?_
  | with_reducible refine b_dget ?_
  | with_reducible refine b_makeN ?_
  | with_reducible refine b_pairs ?_
  | with_reducible refine b_pairs0 ?_
  | with_reducible refine b_sub ?_
  | with_reducible refine b_chain ?_
  | with_reducible refine b_and ?_
  | with_reducible refine b_or ?_
  | with_reducible refine b_not ?_
  | with_reducible refine b_andV ?_
  | with_reducible refine b_orV ?_
  | with_reducible refine b_notV ?_
  | with_reducible refine b_if ?_
  | with_reducible refine b_par ?_
  | with_reducible refine b_parE ?_
  | ((with_reducible refine' b_aug ?hv ?_); (case hv => exact rfl))
  | with_reducible refine b_ip ?_
  | with_reducible refine b_retN ?_
  | with_reducible refine b_tup ?_
  | with_reducible refine b_lst ?_
  | with_reducible refine b_sl ?_
  | with_reducible refine b_part ?_
  | with_reducible refine b_partP ?_
  | with_reducible refine b_nopart ?_
  | with_reducible refine b_bm ?_
  | with_reducible refine b_m1 ?_
  | with_reducible refine b_m0 ?_
  | with_reducible refine b_yes ?_
  | with_reducible refine b_un ?_
  | with_reducible refine b_neg ?_
  | with_reducible refine b_isN ?_
  | with_reducible refine b_notN ?_
  | with_reducible refine b_inS ?_
  | with_reducible refine b_int ?_
  | with_reducible refine b_intB ?_
  | with_reducible refine b_abs ?_
  | with_reducible refine b_max ?_
  | with_reducible refine b_min ?_
  | ((with_reducible refine b_eq ?hv ?_); (case hv => exact rfl))
  | ((with_reducible refine b_ne ?hv ?_); (case hv => exact rfl))
  | ((with_reducible refine' b_lenL ?hv ?_); (case hv => walk_at "sq"))
  | ((with_reducible refine' b_lenT ?hv ?_); (case hv => walk_at "sq"))
  | ((with_reducible refine' b_ixL ?hv ?hw ?_); (case hv => walk_at "sq"); (case hw => first | exact rfl | exact at0 | exact at1 | exact at2))
  | ((with_reducible refine' b_ixT ?hv ?hw ?_); (case hv => walk_at "sq"); (case hw => first | exact rfl | exact at0 | exact at1 | exact at2))
  | ((with_reducible refine b_I ?hv ?_); (case hv => walk_at "cond"))
  | with_reducible refine b_lcS ?_
  | with_reducible refine b_lcR ?_
  | with_reducible refine b_lcT ?_
  | with_reducible refine b_lcL ?_
  | with_reducible refine b_forT ?_
  | with_reducible refine b_forL ?_
  | with_reducible refine b_forR ?_
  | with_reducible refine b_turn ?_
  | ((with_reducible refine And.intro (a := wipe _ _ = wipe _ _) ?hv ?_); (case hv => exact rfl))
  | ((with_reducible refine And.intro (a := tyV _ "list" _ _) ?hv ?_); (case hv => exact ty_list (by assumption)))
  | with_reducible refine And.intro (a := ∃ a, V.str _ = V.str a) ⟨_, rfl⟩ ?_
  | (with_reducible refine iteT ?_)
  | (with_reducible refine iteNF ?_)
  | (with_reducible refine iteNT ?_)
  | (with_reducible refine iteVT ?_)
  | (with_reducible refine iteNVT ?_)
  | ((with_reducible refine iteVF ?hv ?_); (case hv => exact rfl))
  | ((with_reducible refine iteNVF ?hv ?_); (case hv => exact rfl))
  | with_reducible refine b_callS ?_
  | with_reducible refine b_xq ?_
  | with_reducible refine b_fld ?_
  | with_reducible refine b_sfld ?_
  | with_reducible refine b_meth ?_
  | with_reducible refine b_make ?_
  | with_reducible refine b_callK ?_
  | with_reducible refine b_sfa ?_
  | with_reducible refine b_lcEnT ?_
  | with_reducible refine b_lcEnL ?_
  | with_reducible refine b_forEnT ?_
  | with_reducible refine b_forEnL ?_
  | with_reducible refine b_lcZ ?_
  | with_reducible refine b_lcZX ?_
  | with_reducible refine b_prop ?_
  | with_reducible refine b_dput ?_
  | with_reducible refine b_din ?_
  | with_reducible refine b_inB ?_
  | with_reducible refine e_revT ?_
  | ((with_reducible refine' e_fld ?hv ?hc ?hn ?hl ?_); (case hv => assumption); (case hc => assumption); (case hn => assumption); (case hl => exact rfl))
  | ((with_reducible refine' e_meth ?hv ?hl ?_); (case hv => assumption); (case hl => exact rfl))
  | (with_reducible refine iteF ?_))

theorem str_one {x : Str} (h : x.length = 1) : ∃ c, x = ⟨#[c]⟩ := by
  obtain ⟨⟨l⟩⟩ := x
  have h' : l.length = 1 := h
  match l, h' with
  | [c], _ => exact ⟨c, rfl⟩
theorem isTy_str {d : PyData} (h : isTy "str" d = true) : ∃ x, d = .str x := by
  cases d <;> simp [isTy] at h
  exact ⟨_, rfl⟩
def wordD : PyData → Bool
  | .str x => PR.wordB x
  | _ => false
def letterD : PyData → Bool
  | .str x => PR.letterW x
  | _ => false
def ShortD (d : PyData) : Prop := ∀ x, d = .str x → x.length ≤ 90000
section
variable {P : Program} {w : World} {K : PySem.W.Frag} {mg : Str → Option Value} {base : Heap} {D : Ad}
def sp_is_word (K : PySem.W.Frag) : Sp := fun vs H Q _ => ∃ (M : Addr → Prop) (v : V) (d : PyData), vs = [v] ∧ Dq K M H v d ∧ ShortD d ∧ ∀ H', Same H H' → Q (.bl (wordD d)) H'
theorem ok_is_word (T : Txt K mg D) {k : Nat} : FnOk P w K mg base CX0 (k + 1) D.f_is_word D.d_is_word P_is_word (sp_is_word K) := by
  refine T.f_is_word.ok sc_is_word (fun vs H Q E h => ?_) (fun cdv A outer s H vs Q E hr h => ?_)
  · obtain ⟨M, v, d, rfl, _⟩ := h
    rfl
  · obtain ⟨M, v, d, rfl, hd, hs, q⟩ := h
    refine ⟨_, (pss_one (ps_ret (pe_and (pe_callB (callK (K := K) (r := rIsD) (by rfl) call_isD) (by rfl) T.z_isinstance (by decide +kernel) (pa_cons (pv 0) (pa_cons (pe_bltn (v := .ty "str") (by rfl) T.z_str (by decide +kernel) rfl) pa_nil))) (pe_one (pe_callB (callK (K := K) (r := rAll) (by rfl) (cr_all rfl)) (by rfl) T.z_all (by decide +kernel) (pa_cons (pe_lc (own := [("letter", 1)]) (g := gName 1) (tt := tYes) (by rfl) sc_is_word.nd (pi_str (pv 0)) (blkOk_by (own := [("letter", 1)]) (N := N_is_word) (sc := defScope s_is_word) (by decide +kernel)) (fun _ _ _ _ _ => (pg_name (i := 1) sc_is_word.nd rfl (by first | exact .inl rfl | exact .inr rfl))) (fun _ _ _ _ _ => pts_nil) (fun _ _ _ _ _ => (pe_cmpR o_inS (pv 1) (pe_glob (v := .str "abcdefghijklmnopqrstuvwxyz") (by rfl) T.c_LETTERS.choose_spec ⟨_, rfl⟩) (by rfl)))) pa_nil)))))), ?_⟩
    repeat walk_at "st"
    refine b_isD hd (by decide) ?_
    repeat walk_at "st"
    by_cases hT : isTy "str" d = true
    rotate_left
    · rw [Bool.eq_false_iff.mpr hT]
      repeat walk_at "st"
      have e : wordD d = false := by
        cases d <;> first | rfl | simp [isTy] at hT
      rw [e] at q
      exact q H (Same.refl H)
    obtain ⟨x, rfl⟩ := isTy_str hT
    rw [hT]
    have hx := hs x rfl
    have hxs : x.cps.size = x.length := rfl
    cases hd
    repeat walk_at "st"
    refine e_lcS (fun L i H' => H' L = some (.lst (((x.cps.toList.take i).map PR.letterB).map V.bl)) ∧ Same H H') ?_ ?_ ?_
    · intro L H' nL hL sL
      exact ⟨hL, sL⟩
    · rintro L i c H' nL hc ⟨hL, s'⟩
      have hi : i < x.cps.size := (Array.getElem?_eq_some_iff.mp hc).1
      have hc2 : x.cps.toList[i]? = some c := by rw [Array.getElem?_toList]; exact hc
      repeat walk_at "st"
      refine e_app hL (by simp; omega) fun H3 h3 s3 => ⟨?_, ?_⟩
      · rw [h3, List.take_add_one, hc2]
        simp [PR.letterB]
      · exact Same.new s' s3 fun b hb => by rw [hb]; exact nL
    · rintro L H' nL ⟨hL, s'⟩
      repeat walk_at "st"
      rw [List.take_of_length_le (by simp)] at hL
      refine b_all (SqL.of hL) ?_
      have e : wordD (.str x) = (x.cps.toList.map PR.letterB).all id := by
        show x.cps.toList.all PR.letterB = _
        rw [List.all_map]
        rfl
      rw [← e]
      exact q H' s'
def sp_is_name (K : PySem.W.Frag) : Sp := fun vs H Q _ => ∃ x : Str, vs = [.str x] ∧ x.length ≤ 90000 ∧ ∀ H', Same H H' → Q (.bl (PR.nameB x)) H'
theorem ok_is_name (T : Txt K mg D) {k : Nat} : FnOk P w K mg base CX0 (k + 2) D.f_is_name D.d_is_name P_is_name (sp_is_name K) := by
  have G_is_word : FnOk P w K mg base CX0 (k + 1) D.f_is_word D.d_is_word P_is_word (sp_is_word K) := ok_is_word T
  refine T.f_is_name.ok sc_is_name (fun vs H Q E h => ?_) (fun cdv A outer s H vs Q E hr h => ?_)
  · obtain ⟨x, rfl, _⟩ := h
    rfl
  · obtain ⟨x, rfl, hx, q⟩ := h
    refine ⟨_, (pss_one (ps_ret (pe_and (pe_call G_is_word hr (by rfl) T.g_is_word T.f_is_word.kp T.b_is_word .nil pass0 (pa_cons (pv 0) pa_nil)) (pe_one (pe_chain op_le op_le pe_int (pe_callB (callK (K := K) (r := qLen) (by rfl) q_len) (by rfl) T.z_len (by decide +kernel) (pa_cons (pv 0) pa_nil)) (pe_glob (v := .int 8) (by rfl) T.c_MOST_NAME.choose_spec ⟨_, rfl⟩)))))), ?_⟩
    repeat walk_at "st"
    refine ⟨M0, .str x, .str x, rfl, .str x, fun y hy => by cases hy; exact hx, fun H1 s1 => ?_⟩
    unfold PR.nameB at q
    cases e1 : PR.wordB x with
    | false =>
      rw [e1, Bool.false_and] at q
      rw [show wordD (.str x) = false from e1]
      repeat walk_at "st"
      exact q H1 s1
    | true =>
      rw [e1, Bool.true_and] at q
      rw [show wordD (.str x) = true from e1]
      repeat walk_at "st"
      refine b_lenS (Nat.le_trans hx (by decide)) ?_
      repeat walk_at "st"
      have c1 : decide ((1 : Int) ≤ (x.length : Int)) = decide (1 ≤ x.length) := decide_eq_decide.mpr (by omega)
      have c2 : decide ((x.length : Int) ≤ 8) = decide (x.length ≤ 8) := decide_eq_decide.mpr (by omega)
      rw [c1]
      cases e2 : decide (1 ≤ x.length) with
      | false =>
        rw [e2, Bool.false_and] at q
        repeat walk_at "st"
        exact q H1 s1
      | true =>
        rw [e2, Bool.true_and] at q
        repeat walk_at "st"
        rw [c2]
        exact q H1 s1
def sp_is_letter (K : PySem.W.Frag) : Sp := fun vs H Q _ => ∃ (M : Addr → Prop) (v : V) (d : PyData), vs = [v] ∧ Dq K M H v d ∧ ShortD d ∧ Q (.bl (letterD d)) H
theorem ok_is_letter (T : Txt K mg D) {k : Nat} : FnOk P w K mg base CX0 (k + 1) D.f_is_letter D.d_is_letter P_is_letter (sp_is_letter K) := by
  refine T.f_is_letter.ok sc_is_letter (fun vs H Q E h => ?_) (fun cdv A outer s H vs Q E hr h => ?_)
  · obtain ⟨M, v, d, rfl, _⟩ := h
    rfl
  · obtain ⟨M, v, d, rfl, hd, hs, q⟩ := h
    refine ⟨_, (pss_one (ps_ret (pe_and (pe_callB (callK (K := K) (r := rIsD) (by rfl) call_isD) (by rfl) T.z_isinstance (by decide +kernel) (pa_cons (pv 0) (pa_cons (pe_bltn (v := .ty "str") (by rfl) T.z_str (by decide +kernel) rfl) pa_nil))) (pe_and (pe_cmpR op_eq (pe_callB (callK (K := K) (r := qLen) (by rfl) q_len) (by rfl) T.z_len (by decide +kernel) (pa_cons (pv 0) pa_nil)) pe_int (nomark _)) (pe_one (pe_cmpR o_inS (pv 0) (pe_glob (v := .str "abcdefghijklmnopqrstuvwxyz") (by rfl) T.c_LETTERS.choose_spec ⟨_, rfl⟩) (by rfl))))))), ?_⟩
    repeat walk_at "st"
    refine b_isD hd (by decide) ?_
    repeat walk_at "st"
    by_cases hT : isTy "str" d = true
    rotate_left
    · rw [Bool.eq_false_iff.mpr hT]
      repeat walk_at "st"
      have e : letterD d = false := by
        cases d <;> first | rfl | simp [isTy] at hT
      rw [e] at q
      exact q
    obtain ⟨x, rfl⟩ := isTy_str hT
    rw [hT]
    have hx := hs x rfl
    cases hd
    repeat walk_at "st"
    refine b_lenS (Nat.le_trans hx (by decide)) ?_
    repeat walk_at "st"
    by_cases h1 : x.length = 1
    rotate_left
    · rw [decide_eq_false (show ¬ (V.int (x.length : Int) = V.int 1) from fun z => by injection z with z; omega)]
      repeat walk_at "st"
      have e : letterD (.str x) = false := by
        show (decide (x.length = 1) && _) = false
        rw [decide_eq_false h1]
        rfl
      rw [e] at q
      exact q
    obtain ⟨c, rfl⟩ := str_one h1
    rw [decide_eq_true (show V.int ((⟨#[c]⟩ : Str).length : Int) = V.int 1 from rfl)]
    repeat walk_at "st"
    have e : letterD (.str ⟨#[c]⟩) = PR.letterB c := by
      show (decide ((⟨#[c]⟩ : Str).length = 1) && (#[c] : Array Nat).toList.all PR.letterB) = _
      rw [decide_eq_true (show (⟨#[c]⟩ : Str).length = 1 from rfl)]
      simp
    rw [e] at q
    exact q
/-! ascending -/
theorem asc_zip : ∀ l : List Nat, PR.ascL l = (l.zip (l.drop 1)).all fun p => decide (p.1 < p.2)
  | [] => rfl
  | [_] => rfl
  | a :: b :: r => by
    have ih := asc_zip (b :: r)
    show (decide (a < b) && PR.ascL (b :: r)) = _
    rw [ih]
    simp
theorem ascI_zip : ∀ l : List Int, PR.ascI l = (l.zip (l.drop 1)).all fun p => decide (p.1 < p.2)
  | [] => rfl
  | [_] => rfl
  | a :: b :: r => by
    have ih := ascI_zip (b :: r)
    show (decide (a < b) && PR.ascI (b :: r)) = _
    rw [ih]
    simp
theorem sign_lt (c d : Nat) : decide ((⟨#[c]⟩ : Str).cps.toList < (⟨#[d]⟩ : Str).cps.toList) = decide (c < d) := by
  refine decide_eq_decide.mpr ?_
  show ([c] < [d]) ↔ _
  rw [List.cons_lt_cons_iff]
  simp
def sp_asc_s : Sp := fun vs H Q _ => ∃ x : Str, vs = [.str x] ∧ x.length ≤ 90000 ∧ ∀ H', Same H H' → Q (.bl (PR.ascL x.cps.toList)) H'
theorem ok_are_ascending (T : Txt K mg D) {k : Nat} : FnOk P w K mg base CX0 (k + 1) D.f_are_ascending D.d_are_ascending P_are_ascending sp_asc_s := by
  refine T.f_are_ascending.ok sc_are_ascending (fun vs H Q E h => ?_) (fun cdv A outer s H vs Q E hr h => ?_)
  · obtain ⟨x, rfl, _⟩ := h
    rfl
  · obtain ⟨x, rfl, hx, q⟩ := h
    refine ⟨_, (pss_one (ps_ret (pe_callB (callK (K := K) (r := rAll) (by rfl) (cr_all rfl)) (by rfl) T.z_all (by decide +kernel) (pa_cons (pe_lc (own := [("one", 1), ("other", 2)]) (g := gTup K 2 (gCons (gName 1) (gCons (gName 2) gNil))) (tt := tYes) (by rfl) sc_are_ascending.nd (pi_zipX (K := K) (by rfl) (by rfl) T.z_zip (pa_cons (pv 0) (pa_cons (pe_slice sl_str (pv 0) (po_some pe_int) po_none) pa_nil))) (blkOk_by (own := [("one", 1), ("other", 2)]) (N := N_are_ascending) (sc := defScope s_are_ascending) (by decide +kernel)) (fun _ _ _ _ _ => (pg_tup (by rfl) (pgs_cons (pg_name (i := 1) sc_are_ascending.nd rfl (by first | exact .inl rfl | exact .inr rfl)) (pgs_cons (pg_name (i := 2) sc_are_ascending.nd rfl (by first | exact .inl rfl | exact .inr rfl)) pgs_nil)))) (fun _ _ _ _ _ => pts_nil) (fun _ _ _ _ _ => (pe_cmpR op_lt_str (pv 1) (pv 2) (nomark _)))) pa_nil)))), ?_⟩
    repeat walk_at "st"
    have ec : (cutS x (some 1) none).cps.toList = x.cps.toList.drop 1 := by
      unfold cutS
      show ((x.cps.toList.drop (HT.sIx x.length 0 (some ((1 : Nat) : Int)))).take (HT.sIx x.length x.length none - HT.sIx x.length 0 (some ((1 : Nat) : Int)))) = _
      rw [HT.sIx_none, HT.sIx_nat]
      have hl : x.cps.toList.length = x.length := by simp [Str.length]
      by_cases h : 1 ≤ x.length
      · rw [Nat.min_eq_left h, List.take_of_length_le (by rw [List.length_drop]; omega)]
      · rw [Nat.min_eq_right (by omega), List.drop_eq_nil_of_le (by omega), List.drop_eq_nil_of_le (by omega), List.take_nil]
    have es : (cutS x (some 1) none).cps.size = x.length - 1 := by
      have : (cutS x (some 1) none).cps.size = (cutS x (some 1) none).cps.toList.length := by simp
      rw [this, ec, List.length_drop]
      simp [Str.length]
    have hxs : x.cps.size = x.length := rfl
    refine ⟨x, rfl, Nat.le_trans hx (by decide), ?_⟩
    repeat walk_at "st"
    refine e_lcZS (by omega) (fun L i H' => H' L = some (.lst ((((x.cps.toList.zip (x.cps.toList.drop 1)).take i).map fun p => decide (p.1 < p.2)).map V.bl)) ∧ Same H H') ?_ ?_ ?_
    · intro L H' nL hL sL
      exact ⟨hL, sL⟩
    · rintro L i c d t H' H2 nL hc hd ⟨hL, s'⟩ nt ht s2
      have hi : i < x.cps.size := (Array.getElem?_eq_some_iff.mp hc).1
      have hc2 : x.cps.toList[i]? = some c := by rw [Array.getElem?_toList]; exact hc
      have hd2 : (x.cps.toList.drop 1)[i]? = some d := by rw [← ec, Array.getElem?_toList]; exact hd
      have hz : (x.cps.toList.zip (x.cps.toList.drop 1))[i]? = some (c, d) := List.getElem?_zip_eq_some.mpr ⟨hc2, hd2⟩
      repeat walk_at "st"
      refine e_gtup2 (SqT.of ht) ?_
      repeat walk_at "st"
      refine ⟨_, _, rfl, rfl, ?_⟩
      rw [sign_lt]
      refine e_app (s2 _ _ hL) (by simp; omega) fun H3 h3 s3 => ⟨?_, ?_⟩
      · rw [h3, List.take_add_one, hz]
        simp
      · exact Same.new (s'.trans s2) s3 fun b hb => by rw [hb]; exact nL
    · rintro L H' nL ⟨hL, s'⟩
      repeat walk_at "st"
      rw [List.take_of_length_le (by rw [List.length_zip, List.length_drop, es]; simp [Str.length])] at hL
      refine b_all (SqL.of hL) ?_
      rw [List.all_map, ← show PR.ascL x.cps.toList = (x.cps.toList.zip (x.cps.toList.drop 1)).all (id ∘ fun p => decide (p.1 < p.2)) from asc_zip _]
      exact q H' s'
def sp_asc_i (K : PySem.W.Frag) : Sp := fun vs H Q _ => ∃ (a : Addr) (ns : List Int), vs = [.ref a] ∧ SqL K H a (ns.map V.int) ∧ ns.length ≤ 90000 ∧ ∀ H', Same H H' → Q (.bl (PR.ascI ns)) H'
theorem ok_are_ascendingI (T : Txt K mg D) {k : Nat} : FnOk P w K mg base CX0 (k + 1) D.f_are_ascending D.d_are_ascending P_are_ascending (sp_asc_i K) := by
  refine T.f_are_ascending.ok sc_are_ascending (fun vs H Q E h => ?_) (fun cdv A outer s H vs Q E hr h => ?_)
  · obtain ⟨a, ns, rfl, _⟩ := h
    rfl
  · obtain ⟨a, ns, rfl, hS, hn, q⟩ := h
    refine ⟨_, (pss_one (ps_ret (pe_callB (callK (K := K) (r := rAll) (by rfl) (cr_all rfl)) (by rfl) T.z_all (by decide +kernel) (pa_cons (pe_lc (own := [("one", 1), ("other", 2)]) (g := gTup K 2 (gCons (gName 1) (gCons (gName 2) gNil))) (tt := tYes) (by rfl) sc_are_ascending.nd (pi_zipX (K := K) (by rfl) (by rfl) T.z_zip (pa_cons (pv 0) (pa_cons (pe_slice (slK (K := K) (r := rSlL) (by rfl) sl_list) (pv 0) (po_some pe_int) po_none) pa_nil))) (blkOk_by (own := [("one", 1), ("other", 2)]) (N := N_are_ascending) (sc := defScope s_are_ascending) (by decide +kernel)) (fun _ _ _ _ _ => (pg_tup (by rfl) (pgs_cons (pg_name (i := 1) sc_are_ascending.nd rfl (by first | exact .inl rfl | exact .inr rfl)) (pgs_cons (pg_name (i := 2) sc_are_ascending.nd rfl (by first | exact .inl rfl | exact .inr rfl)) pgs_nil)))) (fun _ _ _ _ _ => pts_nil) (fun _ _ _ _ _ => (pe_cmpR op_lt (pv 1) (pv 2) (nomark _)))) pa_nil)))), ?_⟩
    repeat walk_at "st"
    refine e_slL hS fun b H1 nb hb s1 => ?_
    rw [show (1 : Int) = ((1 : Nat) : Int) from rfl, cut_from, ← List.map_drop] at hb
    have hS1 : SqL K H1 a (ns.map V.int) := by
      rcases hS with (h | ⟨o, h⟩) | h
      · exact .inl (.inl (s1 _ _ h))
      · exact .inl (.inr ⟨o, s1 _ _ h⟩)
      · exact .inr h
    repeat walk_at "st"
    refine e_lcZL hS1 (SqL.of hb) (by simp) (fun L i H' => H' L = some (.lst ((((ns.zip (ns.drop 1)).take i).map fun p => decide (p.1 < p.2)).map V.bl)) ∧ Same H1 H') ?_ ?_ ?_ ?_
    · intro L H' nL hL sL
      exact ⟨hL, sL⟩
    · rintro L i H' nL ⟨_, s'⟩
      refine ⟨?_, SqL.of (s' _ _ hb)⟩
      rcases hS1 with (h | ⟨o, h⟩) | h
      · exact .inl (.inl (s' _ _ h))
      · exact .inl (.inr ⟨o, s' _ _ h⟩)
      · exact .inr h
    · rintro L i x y t H' H2 nL hx hy ⟨hL, s'⟩ nt ht s2
      rw [List.getElem?_map] at hx hy
      cases ex : ns[i]? with
      | none => rw [ex] at hx; cases hx
      | some c =>
      cases ey : (ns.drop 1)[i]? with
      | none => rw [ey] at hy; cases hy
      | some d =>
      rw [ex] at hx
      rw [ey] at hy
      cases hx
      cases hy
      have hi := (List.getElem?_eq_some_iff.mp ex).1
      have hz : (ns.zip (ns.drop 1))[i]? = some (c, d) := List.getElem?_zip_eq_some.mpr ⟨ex, ey⟩
      repeat walk_at "st"
      refine e_gtup2 (SqT.of ht) ?_
      repeat walk_at "st"
      refine e_app (s2 _ _ hL) (by simp; omega) fun H3 h3 s3 => ⟨?_, ?_⟩
      · rw [h3, List.take_add_one, hz]
        simp
      · exact Same.new (s'.trans s2) s3 fun b hb => by rw [hb]; exact nL
    · rintro L H' nL ⟨hL, s'⟩
      repeat walk_at "st"
      rw [List.take_of_length_le (by rw [List.length_zip, List.length_drop]; simp)] at hL
      refine b_all (SqL.of hL) ?_
      rw [List.all_map, ← show PR.ascI ns = (ns.zip (ns.drop 1)).all (id ∘ fun p => decide (p.1 < p.2)) from ascI_zip _]
      exact q H' (s1.trans s')
end
end K09

namespace K09
open PySem PySem.Spec PyProof.Rows L2 FG
local macro_rules | `(tactic| walk_at "sq") => `(tactic| first
  | assumption
  | exact SqL.of (by assumption)
  | exact SqT.of (by assumption)
  | exact SqLm.l (by assumption)
  | exact SqTm.t (by assumption))
local macro_rules | `(tactic| walk_at "cond") => `(tactic| first
  | assumption
  | (show (0 : Int) < _; omega)
  | (show (0 : Int) < _ ∧ _ < 1073741824; omega))
local macro_rules | `(tactic| walk_at "st") => `(tactic| first
  | with_reducible refine b_seq ?_
  | with_reducible refine b_asg ?_
  | with_reducible refine b_op ?_
  | ((with_reducible refine' b_var ?hv ?_); (case hv => exact rfl))
  | with_reducible refine b_c ?_
  | with_reducible refine b_name ?_
  | with_reducible refine b_I0 ?_
  | with_reducible refine b_cons ?_
  | with_reducible refine b_nil ?_
  | with_reducible refine b_cb ?_
  | with_reducible refine b_call ?_
  | with_reducible refine b_ret ?_
  | with_reducible refine b_ifS ?_
  | with_reducible refine b_test ?_
  | with_reducible refine b_tb ?_
  | with_reducible refine b_bl ?_
  | with_reducible refine b_blP ?_
  | with_reducible refine b_next ?_
  | with_reducible refine b_drop ?_
  | with_reducible refine b_dget ?_
  | with_reducible refine b_makeN ?_
  | with_reducible refine b_pairs ?_
  | with_reducible refine b_pairs0 ?_
  | with_reducible refine b_sub ?_
  | with_reducible refine b_chain ?_
  | with_reducible refine b_and ?_
  | with_reducible refine b_or ?_
  | with_reducible refine b_not ?_
  | with_reducible refine b_andV ?_
  | with_reducible refine b_orV ?_
  | with_reducible refine b_notV ?_
  | with_reducible refine b_if ?_
  | with_reducible refine b_par ?_
  | with_reducible refine b_parE ?_
  | ((with_reducible refine' b_aug ?hv ?_); (case hv => exact rfl))
  | with_reducible refine b_ip ?_
  | with_reducible refine b_retN ?_
  | with_reducible refine b_tup ?_
  | with_reducible refine b_lst ?_
  | with_reducible refine b_sl ?_
  | with_reducible refine b_part ?_
  | with_reducible refine b_partP ?_
  | with_reducible refine b_nopart ?_
  | with_reducible refine b_bm ?_
  | with_reducible refine b_m1 ?_
  | with_reducible refine b_m0 ?_
  | with_reducible refine b_yes ?_
  | with_reducible refine b_un ?_
  | with_reducible refine b_neg ?_
  | with_reducible refine b_isN ?_
  | with_reducible refine b_notN ?_
  | with_reducible refine b_inS ?_
  | with_reducible refine b_int ?_
  | with_reducible refine b_intB ?_
  | with_reducible refine b_abs ?_
  | with_reducible refine b_max ?_
  | with_reducible refine b_min ?_
  | ((with_reducible refine b_eq ?hv ?_); (case hv => exact rfl))
  | ((with_reducible refine b_ne ?hv ?_); (case hv => exact rfl))
  | ((with_reducible refine' b_lenL ?hv ?_); (case hv => walk_at "sq"))
  | ((with_reducible refine' b_lenT ?hv ?_); (case hv => walk_at "sq"))
  | ((with_reducible refine' b_ixL ?hv ?hw ?_); (case hv => walk_at "sq"); (case hw => first | exact rfl | exact at0 | exact at1 | exact at2))
  | ((with_reducible refine' b_ixT ?hv ?hw ?_); (case hv => walk_at "sq"); (case hw => first | exact rfl | exact at0 | exact at1 | exact at2))
  | ((with_reducible refine b_I ?hv ?_); (case hv => walk_at "cond"))
  | with_reducible refine b_lcS ?_
  | with_reducible refine b_lcR ?_
  | with_reducible refine b_lcT ?_
  | with_reducible refine b_lcL ?_
  | with_reducible refine b_forT ?_
  | with_reducible refine b_forL ?_
  | with_reducible refine b_forR ?_
  | with_reducible refine b_turn ?_
  | ((with_reducible refine And.intro (a := wipe _ _ = wipe _ _) ?hv ?_); (case hv => exact rfl))
  | ((with_reducible refine And.intro (a := tyV _ "list" _ _) ?hv ?_); (case hv => exact ty_list (by assumption)))
  | with_reducible refine And.intro (a := ∃ a, V.str _ = V.str a) ⟨_, rfl⟩ ?_
  | (with_reducible refine iteT ?_)
  | (with_reducible refine iteNF ?_)
  | (with_reducible refine iteNT ?_)
  | (with_reducible refine iteVT ?_)
  | (with_reducible refine iteNVT ?_)
  | ((with_reducible refine iteVF ?hv ?_); (case hv => exact rfl))
  | ((with_reducible refine iteNVF ?hv ?_); (case hv => exact rfl))
  | with_reducible refine b_callS ?_
  | with_reducible refine b_xq ?_
  | with_reducible refine b_fld ?_
  | with_reducible refine b_sfld ?_
  | with_reducible refine b_meth ?_
  | with_reducible refine b_make ?_
  | with_reducible refine b_callK ?_
  | with_reducible refine b_sfa ?_
  | with_reducible refine b_lcEnT ?_
  | with_reducible refine b_lcEnL ?_
  | with_reducible refine b_forEnT ?_
  | with_reducible refine b_forEnL ?_
  | with_reducible refine b_lcZ ?_
  | with_reducible refine b_lcZX ?_
  | with_reducible refine b_prop ?_
  | with_reducible refine b_dput ?_
  | with_reducible refine b_din ?_
  | with_reducible refine b_inB ?_
  | with_reducible refine e_revT ?_
  | ((with_reducible refine' e_fld ?hv ?hc ?hn ?hl ?_); (case hv => assumption); (case hc => assumption); (case hn => assumption); (case hl => exact rfl))
  | ((with_reducible refine' e_meth ?hv ?hl ?_); (case hv => assumption); (case hl => exact rfl))
  | (with_reducible refine iteF ?_))

section
variable {P : Program} {w : World} {K : PySem.W.Frag} {mg : Str → Option Value} {base : Heap} {D : Ad}
/-! ### statements as objects -/
def cellD (c : Str × Nat) : PyData := .tuple [.str c.1, .int (c.2 : Nat)]
def CondAt (C : Addr) (M : Addr → Prop) (H : Hp) : V → Option PR.Cond → Prop
  | .non, none => True
  | .ref a, some c => ¬ M a ∧ ∃ dx, H a = some (.ins C dx [("signs", match c.signs with | some x => .str x | none => .non), ("cell", .int (c.cell : Nat)), ("number", .int (c.num : Nat)), ("is_turned", .bl c.turned)])
  | _, _ => False
mutual
/-- the statement st at v, away from the places of M -/
inductive STree (D : Ad) (M : Addr → Prop) (H : Hp) : V → PR.St → Prop
  | mk {a dx b1 b2 : Addr} {av : V} {xs ys : List V} {l : Nat} {k w : Str} {c n : Nat} {q : Option PR.Cond} {body els : List PR.St} : ¬ M a →
      H a = some (.ins D.c_Statement dx [("line", .int (l : Nat)), ("kind", .str k), ("own_word", .str w), ("cell", .int (c : Nat)), ("number", .int (n : Nat)), ("asked", av), ("body", .ref b1), ("else_body", .ref b2)]) →
      CondAt D.c_Condition M H av q → ¬ M b1 → H b1 = some (.lst xs) → STrees D M H xs body → ¬ M b2 → H b2 = some (.lst ys) → STrees D M H ys els →
      STree D M H (.ref a) (.mk l k w c n q body els)
inductive STrees (D : Ad) (M : Addr → Prop) (H : Hp) : List V → List PR.St → Prop
  | nil : STrees D M H [] []
  | cons {v : V} {vs : List V} {x : PR.St} {xs : List PR.St} : STree D M H v x → STrees D M H vs xs → STrees D M H (v :: vs) (x :: xs)
end
theorem CondAt.mono {C : Addr} {M : Addr → Prop} {H H' : Hp} (s : SameM M H H') : ∀ {v : V} {c : Option PR.Cond}, CondAt C M H v c → CondAt C M H' v c := by
  intro v c h
  cases v <;> cases c <;> first | exact h | (obtain ⟨n, dx, e⟩ := h; exact ⟨n, dx, s _ _ n e⟩)
theorem CondAt.avoid {C : Addr} {M N : Addr → Prop} {H : Hp} (f : ∀ a, N a → M a ∨ H a = none) : ∀ {v : V} {c : Option PR.Cond}, CondAt C M H v c → CondAt C N H v c := by
  intro v c h
  cases v <;> cases c <;> first | exact h | (obtain ⟨n, dx, e⟩ := h; refine ⟨fun z => ?_, dx, e⟩; rcases f _ z with y | y <;> first | exact n y | (rw [y] at e; cases e))
mutual
theorem STree.mono {M : Addr → Prop} {H H' : Hp} (s : SameM M H H') : ∀ {v : V} {x : PR.St}, STree D M H v x → STree D M H' v x
  | _, _, .mk n h hc n1 h1 t1 n2 h2 t2 => .mk n (s _ _ n h) (hc.mono s) n1 (s _ _ n1 h1) (STrees.mono s t1) n2 (s _ _ n2 h2) (STrees.mono s t2)
theorem STrees.mono {M : Addr → Prop} {H H' : Hp} (s : SameM M H H') : ∀ {v : List V} {x : List PR.St}, STrees D M H v x → STrees D M H' v x
  | _, _, .nil => .nil
  | _, _, .cons h t => .cons (STree.mono s h) (STrees.mono s t)
end
theorem av_step {M N : Addr → Prop} {H : Hp} (f : ∀ a, N a → M a ∨ H a = none) {a : Addr} {o : HO} (n : ¬ M a) (h : H a = some o) : ¬ N a := fun z => by
  rcases f _ z with y | y
  · exact n y
  · rw [y] at h; cases h
mutual
theorem STree.avoid {M N : Addr → Prop} {H : Hp} (f : ∀ a, N a → M a ∨ H a = none) : ∀ {v : V} {x : PR.St}, STree D M H v x → STree D N H v x
  | _, _, .mk n h hc n1 h1 t1 n2 h2 t2 => .mk (av_step f n h) h (hc.avoid f) (av_step f n1 h1) h1 (STrees.avoid f t1) (av_step f n2 h2) h2 (STrees.avoid f t2)
theorem STrees.avoid {M N : Addr → Prop} {H : Hp} (f : ∀ a, N a → M a ∨ H a = none) : ∀ {v : List V} {x : List PR.St}, STrees D M H v x → STrees D N H v x
  | _, _, .nil => .nil
  | _, _, .cons h t => .cons (STree.avoid f h) (STrees.avoid f t)
end
theorem STrees.append {M : Addr → Prop} {H : Hp} : ∀ {vs ws : List V} {xs ys : List PR.St}, STrees D M H vs xs → STrees D M H ws ys → STrees D M H (vs ++ ws) (xs ++ ys)
  | _, _, _, _, .nil, b => b
  | _, _, _, _, .cons h a, b => .cons h (STrees.append a b)
theorem STrees.length {M : Addr → Prop} {H : Hp} : ∀ {vs : List V} {xs : List PR.St}, STrees D M H vs xs → vs.length = xs.length
  | _, _, .nil => rfl
  | _, _, .cons _ a => by rw [List.length_cons, List.length_cons, STrees.length a]
/-! ### the reader -/
structure RA where
  dx : Addr
  rw : Addr
  cl : Addr
  nm : Addr
  bd : Addr
  mn : V
/-- the places that reading changes -/
def RM (r : Addr) (A : RA) (a : Addr) : Prop := a = r ∨ a = A.cl ∨ a = A.nm ∨ a = A.bd
inductive Bodies (D : Ad) (M : Addr → Prop) (H : Hp) : List (Key × V) → List (Str × List PR.St) → Prop
  | nil : Bodies D M H [] []
  | cons {n : Str} {b : Addr} {xs : List V} {ss : List PR.St} {kvs : List (Key × V)} {bs : List (Str × List PR.St)} : ¬ M b → H b = some (.lst xs) → STrees D M H xs ss → Bodies D M H kvs bs → Bodies D M H ((.inr n, .ref b) :: kvs) ((n, ss) :: bs)
theorem Bodies.mono {M : Addr → Prop} {H H' : Hp} (s : SameM M H H') : ∀ {kvs : List (Key × V)} {bs : List (Str × List PR.St)}, Bodies D M H kvs bs → Bodies D M H' kvs bs
  | _, _, .nil => .nil
  | _, _, .cons n h t r => .cons n (s _ _ n h) (t.mono s) (Bodies.mono s r)
theorem Bodies.keys {M : Addr → Prop} {H : Hp} : ∀ {kvs : List (Key × V)} {bs : List (Str × List PR.St)}, Bodies D M H kvs bs → kvs.map (·.1) = bs.map fun b => Sum.inr b.1
  | _, _, .nil => rfl
  | _, _, .cons _ _ _ r => by rw [List.map_cons, List.map_cons, Bodies.keys r]
structure RdAt (K : PySem.W.Frag) (D : Ad) (L : List PR.Line) (r : Addr) (A : RA) (s : PR.RS) (H : Hp) : Prop where
  ins : H r = some (.ins D.c_ProgramReader A.dx [("rows", .ref A.rw), ("now", .int (s.now : Nat)), ("own_symbols", .str s.sy), ("own_cells", .ref A.cl), ("names", .ref A.nm), ("bodies", .ref A.bd), ("main", A.mn), ("own_many", .int (s.many : Nat))])
  rows : H A.rw = some (.lst (L.map fun l => V.str (PR.rowText l)))
  cells : ∃ cs, H A.cl = some (.lst cs) ∧ DqAll K (RM r A) H cs (s.cells.map cellD)
  names : H A.nm = some (.lst (s.names.map V.str))
  bods : ∃ kvs, H A.bd = some (.dK kvs) ∧ Bodies D (RM r A) H kvs s.bodies
  rwM : ¬ RM r A A.rw
  clnm : A.cl ≠ A.nm
theorem RdAt.same {L : List PR.Line} {r : Addr} {A : RA} {s : PR.RS} {H H' : Hp} (h : RdAt K D L r A s H) (e : Same H H') : RdAt K D L r A s H' :=
  ⟨e _ _ h.ins, e _ _ h.rows, let ⟨cs, h1, h2⟩ := h.cells; ⟨cs, e _ _ h1, h2.same e⟩, e _ _ h.names, let ⟨kvs, h1, h2⟩ := h.bods; ⟨kvs, e _ _ h1, h2.mono (SameM.of e)⟩, h.rwM, h.clnm⟩
theorem RdAt.trk {L : List PR.Line} {r : Addr} {A : RA} {s : PR.RS} {H : Hp} (h : RdAt K D L r A s H) : Trk (RM r A) H := by
  intro a ha z
  obtain ⟨cs, hc, _⟩ := h.cells
  obtain ⟨kvs, hb, _⟩ := h.bods
  rcases ha with rfl | rfl | rfl | rfl
  · rw [h.ins] at z; cases z
  · rw [hc] at z; cases z
  · rw [h.names] at z; cases z
  · rw [hb] at z; cases z
/-- what is asked of the lines -/
structure LOk (L : List PR.Line) : Prop where
  ok : ∀ l ∈ L, PR.okLine l
  few : L.length ≤ 90000
  short : ∀ l ∈ L, (PR.rowText l).length ≤ 90000
  lay : ∀ l ∈ L, ∀ w ∈ l.ws, PyData.canLay0 (.str w) = true
def sp_is_over (K : PySem.W.Frag) (D : Ad) : Sp := fun vs H Q _ => ∃ (L : List PR.Line) (r : Addr) (A : RA) (s : PR.RS), vs = [.ref r] ∧ RdAt K D L r A s H ∧ LOk L ∧ Q (.bl (decide (s.now = L.length))) H
theorem ok_ProgramReader_is_over (T : Txt K mg D) {k : Nat} : FnOk P w K mg base CX0 (k + 1) D.f_ProgramReader_is_over D.d_ProgramReader_is_over P_ProgramReader_is_over (sp_is_over K D) := by
  have cl := T.cl_ProgramReader
  have n1 := T.n_ProgramReader_rows
  have n2 := T.n_ProgramReader_now
  refine T.f_ProgramReader_is_over.ok sc_ProgramReader_is_over (fun vs H Q E h => ?_) (fun cdv A outer s H vs Q E hr h => ?_)
  · obtain ⟨L, r, A, s, rfl, _⟩ := h
    rfl
  · obtain ⟨L, r, A, s, rfl, hR, hL, q⟩ := h
    have hi := hR.ins
    have hrw := hR.rows
    refine ⟨_, (pss_one (ps_ret (pe_cmpR op_eq (pe_fldK (K := K) (by rfl) (pv 0) (by rfl)) (pe_callB (callK (K := K) (r := qLen) (by rfl) q_len) (by rfl) T.z_len (by decide +kernel) (pa_cons (pe_fldK (K := K) (by rfl) (pv 0) (by rfl)) pa_nil)) (nomark _)))), ?_⟩
    repeat walk_at "st"
    have e : decide (V.int (s.now : Nat) = V.int (((L.map fun l => V.str (PR.rowText l)).length : Nat) : Int)) = decide (s.now = L.length) := by
      refine decide_eq_decide.mpr ?_
      rw [List.length_map]
      exact ⟨fun z => by injection z with z; omega, fun z => by rw [z]⟩
    rw [e]
    exact q
theorem at_row {L : List PR.Line} {n : Nat} {l : PR.Line} (h : L[n]? = some l) : atI (L.map fun l => V.str (PR.rowText l)) ((n : Nat) : Int) = some (.str (PR.rowText l)) := by
  refine atI_nat ?_
  rw [List.getElem?_map, h]
  rfl
def sp_words (K : PySem.W.Frag) (D : Ad) : Sp := fun vs H Q _ => ∃ (L : List PR.Line) (r : Addr) (A : RA) (s : PR.RS) (l : PR.Line), vs = [.ref r] ∧ RdAt K D L r A s H ∧ LOk L ∧ L[s.now]? = some l ∧
  ∀ p H', H p = none → H' p = some (.lst (l.ws.map V.str)) → Same H H' → Q (.ref p) H'
theorem ok_ProgramReader_words (T : Txt K mg D) {k : Nat} : FnOk P w K mg base CX0 (k + 1) D.f_ProgramReader_words D.d_ProgramReader_words P_ProgramReader_words (sp_words K D) := by
  have cl := T.cl_ProgramReader
  have n1 := T.n_ProgramReader_rows
  have n2 := T.n_ProgramReader_now
  refine T.f_ProgramReader_words.ok sc_ProgramReader_words (fun vs H Q E h => ?_) (fun cdv A outer s H vs Q E hr h => ?_)
  · obtain ⟨L, r, A, s, l, rfl, _⟩ := h
    rfl
  · obtain ⟨L, r, A, s, l, rfl, hR, hL, hl, q⟩ := h
    have hi := hR.ins
    have hrw := hR.rows
    have hlm := List.mem_of_getElem? hl
    have hok := hL.ok l hlm
    have hsh := hL.short l hlm
    refine ⟨_, (pss_one (ps_ret (pe_split (pe_m1 PySem.F.slot_str_lstrip PySem.F.type_str_lstrip mt_lstripChars (pe_ix (ixK (K := K) (r := rIxL) (by rfl) ix_list) (pe_fldK (K := K) (by rfl) (pv 0) (by rfl)) (pe_fldK (K := K) (by rfl) (pv 0) (by rfl)) (fun _ _ => rfl)) (pe_glob (v := .str " ") (by rfl) T.c_BLANK.choose_spec ⟨_, rfl⟩)) (pe_glob (v := .str " ") (by rfl) T.c_BLANK.choose_spec ⟨_, rfl⟩)))), ?_⟩
    repeat walk_at "st"
    refine b_ixL (SqL.of hrw) (at_row hl) ?_
    repeat walk_at "st"
    refine ⟨_, _, rfl, rfl, Nat.le_trans hsh (by decide), ?_⟩
    rw [PR.lstrip_row hok]
    repeat walk_at "st"
    refine e_split rfl (by have := PR.row_len l; omega) (PR.split_words hok.1 hok.2) fun p H' np hp s' => ?_
    exact q p H' np hp s'
def sp_indent (K : PySem.W.Frag) (D : Ad) : Sp := fun vs H Q _ => ∃ (L : List PR.Line) (r : Addr) (A : RA) (s : PR.RS), vs = [.ref r] ∧ RdAt K D L r A s H ∧ LOk L ∧ s.now ≤ L.length ∧ Q (.int (PR.ind L s.now)) H
theorem ok_ProgramReader_indent (T : Txt K mg D) {k : Nat} : FnOk P w K mg base CX0 (k + 2) D.f_ProgramReader_indent D.d_ProgramReader_indent P_ProgramReader_indent (sp_indent K D) := by
  have cl := T.cl_ProgramReader
  have n1 := T.n_ProgramReader_rows
  have n2 := T.n_ProgramReader_now
  have G_ProgramReader_is_over : FnOk P w K mg base CX0 (k + 1) D.f_ProgramReader_is_over D.d_ProgramReader_is_over P_ProgramReader_is_over (sp_is_over K D) := ok_ProgramReader_is_over T
  refine T.f_ProgramReader_indent.ok sc_ProgramReader_indent (fun vs H Q E h => ?_) (fun cdv A outer s H vs Q E hr h => ?_)
  · obtain ⟨L, r, A, s, rfl, _⟩ := h
    rfl
  · obtain ⟨L, r, A, s, rfl, hR, hL, hle, q⟩ := h
    have hi := hR.ins
    have hrw := hR.rows
    unfold PR.ind at q
    refine ⟨_, (pss_cons (ps_if (pt_val (pe_meth0 (pv 0) T.cl_ProgramReader T.m_ProgramReader_is_over G_ProgramReader_is_over hr T.b_ProgramReader_is_over .nil pass0)) (pss_one (ps_ret (pe_un un_neg pe_int))) pss_nil)
      (pss_one (ps_ret (pe_op op_sub (pe_callB (callK (K := K) (r := qLen) (by rfl) q_len) (by rfl) T.z_len (by decide +kernel) (pa_cons (pe_ix (ixK (K := K) (r := rIxL) (by rfl) ix_list) (pe_fldK (K := K) (by rfl) (pv 0) (by rfl)) (pe_fldK (K := K) (by rfl) (pv 0) (by rfl)) (fun _ _ => rfl)) pa_nil)) (pe_callB (callK (K := K) (r := qLen) (by rfl) q_len) (by rfl) T.z_len (by decide +kernel) (pa_cons (pe_m1 PySem.F.slot_str_lstrip PySem.F.type_str_lstrip mt_lstripChars (pe_ix (ixK (K := K) (r := rIxL) (by rfl) ix_list) (pe_fldK (K := K) (by rfl) (pv 0) (by rfl)) (pe_fldK (K := K) (by rfl) (pv 0) (by rfl)) (fun _ _ => rfl)) (pe_glob (v := .str " ") (by rfl) T.c_BLANK.choose_spec ⟨_, rfl⟩)) pa_nil)))))), ?_⟩
    repeat walk_at "st"
    refine ⟨L, r, A, s, rfl, hR, hL, ?_⟩
    by_cases hn : s.now = L.length
    · rw [decide_eq_true hn]
      rw [List.getElem?_eq_none (by omega)] at q
      repeat walk_at "st"
      exact q
    · rw [decide_eq_false hn]
      have hl : L[s.now]? = some (L[s.now]'(by omega)) := List.getElem?_eq_getElem _
      generalize L[s.now]'(by omega) = l at hl
      rw [hl] at q
      have hlm := List.mem_of_getElem? hl
      have hok := hL.ok l hlm
      have hsh := hL.short l hlm
      repeat walk_at "st"
      refine b_ixL (SqL.of hrw) (at_row hl) ?_
      repeat walk_at "st"
      refine b_lenS (Nat.le_trans hsh (by decide)) ?_
      repeat walk_at "st"
      refine b_ixL (SqL.of hrw) (at_row hl) ?_
      repeat walk_at "st"
      refine ⟨_, _, rfl, rfl, Nat.le_trans hsh (by decide), ?_⟩
      rw [PR.lstrip_row hok]
      repeat walk_at "st"
      have hrl := PR.row_len l
      refine b_lenS (by have : (90000 : Nat) ≤ sizeLine := by decide
                        omega) ?_
      repeat walk_at "st"
      rw [show ((PR.rowText l).length : Int) - ((PR.wordsText l.ws).length : Int) = (l.ind : Int) by omega]
      exact q
def sp_begins (K : PySem.W.Frag) (D : Ad) : Sp := fun vs H Q _ => ∃ (L : List PR.Line) (r : Addr) (A : RA) (s : PR.RS) (x : Str), vs = [.ref r, .str x] ∧ RdAt K D L r A s H ∧ LOk L ∧ s.now ≤ L.length ∧ ∀ H', Same H H' → Q (.bl (PR.begins L s.now x)) H'
theorem ok_ProgramReader_begins (T : Txt K mg D) {k : Nat} : FnOk P w K mg base CX0 (k + 3) D.f_ProgramReader_begins D.d_ProgramReader_begins P_ProgramReader_begins (sp_begins K D) := by
  have cl := T.cl_ProgramReader
  have G_ProgramReader_indent : FnOk P w K mg base CX0 (k + 2) D.f_ProgramReader_indent D.d_ProgramReader_indent P_ProgramReader_indent (sp_indent K D) := ok_ProgramReader_indent T
  have G_ProgramReader_words : FnOk P w K mg base CX0 (k + 2) D.f_ProgramReader_words D.d_ProgramReader_words P_ProgramReader_words (sp_words K D) := ok_ProgramReader_words T
  refine T.f_ProgramReader_begins.ok sc_ProgramReader_begins (fun vs H Q E h => ?_) (fun cdv A outer s H vs Q E hr h => ?_)
  · obtain ⟨L, r, A, s, x, rfl, _⟩ := h
    rfl
  · obtain ⟨L, r, A, s, x, rfl, hR, hL, hle, q⟩ := h
    have hi := hR.ins
    unfold PR.begins at q
    refine ⟨_, (pss_one (ps_ret (pe_and (pe_cmpR op_eq (pe_meth0 (pv 0) T.cl_ProgramReader T.m_ProgramReader_indent G_ProgramReader_indent hr T.b_ProgramReader_indent .nil pass0) pe_int (nomark _)) (pe_one (pe_cmpR op_eq (pe_ix (ixK (K := K) (r := rIxL) (by rfl) ix_list) (pe_meth0 (pv 0) T.cl_ProgramReader T.m_ProgramReader_words G_ProgramReader_words hr T.b_ProgramReader_words .nil pass0) pe_int (fun _ _ => rfl)) (pv 1) (nomark _)))))), ?_⟩
    repeat walk_at "st"
    refine ⟨L, r, A, s, rfl, hR, hL, hle, ?_⟩
    repeat walk_at "st"
    by_cases h0 : PR.ind L s.now = 0
    · rw [decide_eq_true (show V.int (PR.ind L s.now) = V.int 0 by rw [h0])]
      rw [decide_eq_true h0, Bool.true_and] at q
      obtain ⟨l, hl⟩ : ∃ l, L[s.now]? = some l := by
        cases e : L[s.now]? with
        | none => unfold PR.ind at h0; rw [e] at h0; exact absurd h0 (by decide)
        | some l => exact ⟨l, rfl⟩
      have hok := hL.ok l (List.mem_of_getElem? hl)
      unfold PR.wds at q
      rw [hl] at q
      repeat walk_at "st"
      refine ⟨L, r, A, s, l, rfl, hR, hL, hl, fun p H' np hp s' => ?_⟩
      obtain ⟨w0, ws, hw⟩ : ∃ w0 ws, l.ws = w0 :: ws := by
        cases e : l.ws with
        | nil => exact absurd e hok.1
        | cons a b => exact ⟨a, b, rfl⟩
      simp only [hw, List.map_cons] at q hp
      repeat walk_at "st"
      have e : decide (V.str w0 = V.str x) = decide ((w0 :: ws).head? = some x) := by
        refine decide_eq_decide.mpr ?_
        exact ⟨fun z => by injection z with z; rw [z]; rfl, fun z => by rw [Option.some.inj z]⟩
      rw [e]
      exact q H' s'
    · rw [decide_eq_false (show ¬ V.int (PR.ind L s.now) = V.int 0 from fun z => h0 (by injection z))]
      rw [decide_eq_false h0, Bool.false_and] at q
      repeat walk_at "st"
      exact q H (Same.refl H)
end
end K09

namespace K09
open PySem PySem.Spec PyProof.Rows L2 FG
local macro_rules | `(tactic| walk_at "sq") => `(tactic| first
  | assumption
  | exact SqL.of (by assumption)
  | exact SqT.of (by assumption)
  | exact SqLm.l (by assumption)
  | exact SqTm.t (by assumption))
local macro_rules | `(tactic| walk_at "cond") => `(tactic| first
  | assumption
  | (show (0 : Int) < _; omega)
  | (show (0 : Int) < _ ∧ _ < 1073741824; omega))
local macro_rules | `(tactic| walk_at "st") => `(tactic| first
  | with_reducible refine b_seq ?_
  | with_reducible refine b_asg ?_
  | with_reducible refine b_op ?_
  | ((with_reducible refine' b_var ?hv ?_); (case hv => exact rfl))
  | with_reducible refine b_c ?_
  | with_reducible refine b_name ?_
  | with_reducible refine b_I0 ?_
  | with_reducible refine b_cons ?_
  | with_reducible refine b_nil ?_
  | with_reducible refine b_cb ?_
  | with_reducible refine b_call ?_
  | with_reducible refine b_ret ?_
  | with_reducible refine b_ifS ?_
  | with_reducible refine b_test ?_
  | with_reducible refine b_tb ?_
  | with_reducible refine b_bl ?_
  | with_reducible refine b_blP ?_
  | with_reducible refine b_next ?_
  | with_reducible refine b_drop ?_
  | with_reducible refine b_dget ?_
  | with_reducible refine b_makeN ?_
  | with_reducible refine b_pairs ?_
  | with_reducible refine b_pairs0 ?_
  | with_reducible refine b_sub ?_
  | with_reducible refine b_chain ?_
  | with_reducible refine b_and ?_
  | with_reducible refine b_or ?_
  | with_reducible refine b_not ?_
  | with_reducible refine b_andV ?_
  | with_reducible refine b_orV ?_
  | with_reducible refine b_notV ?_
  | with_reducible refine b_if ?_
  | with_reducible refine b_par ?_
  | with_reducible refine b_parE ?_
  | ((with_reducible refine' b_aug ?hv ?_); (case hv => exact rfl))
  | with_reducible refine b_ip ?_
  | with_reducible refine b_retN ?_
  | with_reducible refine b_tup ?_
  | with_reducible refine b_lst ?_
  | with_reducible refine b_sl ?_
  | with_reducible refine b_part ?_
  | with_reducible refine b_partP ?_
  | with_reducible refine b_nopart ?_
  | with_reducible refine b_bm ?_
  | with_reducible refine b_m1 ?_
  | with_reducible refine b_m0 ?_
  | with_reducible refine b_yes ?_
  | with_reducible refine b_un ?_
  | with_reducible refine b_neg ?_
  | with_reducible refine b_isN ?_
  | with_reducible refine b_notN ?_
  | with_reducible refine b_inS ?_
  | with_reducible refine b_int ?_
  | with_reducible refine b_intB ?_
  | with_reducible refine b_abs ?_
  | with_reducible refine b_max ?_
  | with_reducible refine b_min ?_
  | ((with_reducible refine b_eq ?hv ?_); (case hv => exact rfl))
  | ((with_reducible refine b_ne ?hv ?_); (case hv => exact rfl))
  | ((with_reducible refine' b_lenL ?hv ?_); (case hv => walk_at "sq"))
  | ((with_reducible refine' b_lenT ?hv ?_); (case hv => walk_at "sq"))
  | ((with_reducible refine' b_ixL ?hv ?hw ?_); (case hv => walk_at "sq"); (case hw => first | exact rfl | exact at0 | exact at1 | exact at2))
  | ((with_reducible refine' b_ixT ?hv ?hw ?_); (case hv => walk_at "sq"); (case hw => first | exact rfl | exact at0 | exact at1 | exact at2))
  | ((with_reducible refine b_I ?hv ?_); (case hv => walk_at "cond"))
  | with_reducible refine b_lcS ?_
  | with_reducible refine b_lcR ?_
  | with_reducible refine b_lcT ?_
  | with_reducible refine b_lcL ?_
  | with_reducible refine b_forT ?_
  | with_reducible refine b_forL ?_
  | with_reducible refine b_forR ?_
  | with_reducible refine b_turn ?_
  | ((with_reducible refine And.intro (a := wipe _ _ = wipe _ _) ?hv ?_); (case hv => exact rfl))
  | ((with_reducible refine And.intro (a := tyV _ "list" _ _) ?hv ?_); (case hv => exact ty_list (by assumption)))
  | with_reducible refine And.intro (a := ∃ a, V.str _ = V.str a) ⟨_, rfl⟩ ?_
  | (with_reducible refine iteT ?_)
  | (with_reducible refine iteNF ?_)
  | (with_reducible refine iteNT ?_)
  | (with_reducible refine iteVT ?_)
  | (with_reducible refine iteNVT ?_)
  | ((with_reducible refine iteVF ?hv ?_); (case hv => exact rfl))
  | ((with_reducible refine iteNVF ?hv ?_); (case hv => exact rfl))
  | with_reducible refine b_callS ?_
  | with_reducible refine b_xq ?_
  | with_reducible refine b_fld ?_
  | with_reducible refine b_sfld ?_
  | with_reducible refine b_meth ?_
  | with_reducible refine b_make ?_
  | with_reducible refine b_callK ?_
  | with_reducible refine b_sfa ?_
  | with_reducible refine b_lcEnT ?_
  | with_reducible refine b_lcEnL ?_
  | with_reducible refine b_forEnT ?_
  | with_reducible refine b_forEnL ?_
  | with_reducible refine b_lcZ ?_
  | with_reducible refine b_lcZX ?_
  | with_reducible refine b_prop ?_
  | with_reducible refine b_dput ?_
  | with_reducible refine b_din ?_
  | with_reducible refine b_inB ?_
  | with_reducible refine e_revT ?_
  | ((with_reducible refine' e_fld ?hv ?hc ?hn ?hl ?_); (case hv => assumption); (case hc => assumption); (case hn => assumption); (case hl => exact rfl))
  | ((with_reducible refine' e_meth ?hv ?hl ?_); (case hv => assumption); (case hl => exact rfl))
  | (with_reducible refine iteF ?_))

theorem inV_str (x : Str) : ∀ ws : List Str, inV (V.str x) (ws.map V.str) = PR.inS x ws
  | [] => rfl
  | w :: ws => by
    have ih := inV_str x ws
    unfold inV PR.inS at *
    rw [List.map_cons, List.any_cons, ih]
    have e : eqV (V.str w) (V.str x) = (w == x) := rfl
    rw [e, Bool.eq_iff_iff]
    simp only [Bool.or_eq_true, beq_iff_eq, decide_eq_true_eq, List.mem_cons]
    exact ⟨fun h => h.elim (fun z => .inl z.symm) .inr, fun h => h.elim (fun z => .inl z.symm) .inr⟩
theorem flat_strs (ws : List Str) : (ws.map V.str).all flatV = true := by
  rw [List.all_eq_true]
  intro z hz
  obtain ⟨a, _, rfl⟩ := List.mem_map.mp hz
  rfl
/-- what is tracked -/
def Was (H : Hp) (b : Addr) : Prop := H b ≠ none
theorem Was.trk (H : Hp) : Trk (Was H) H := fun _ h => h
section
variable {P : Program} {w : World} {K : PySem.W.Frag} {mg : Str → Option Value} {base : Heap} {D : Ad}
theorem RdAt.was {L : List PR.Line} {r : Addr} {A : RA} {s : PR.RS} {H : Hp} (h : RdAt K D L r A s H) : ∀ a, RM r A a → Was H a := fun a z => h.trk a z
def sp_new_name (K : PySem.W.Frag) (D : Ad) : Sp := fun vs H Q _ => ∃ (L : List PR.Line) (r : Addr) (A : RA) (s s' : PR.RS) (x : Str), vs = [.ref r, .str x] ∧ RdAt K D L r A s H ∧ LOk L ∧ x.length ≤ 90000 ∧ s.names.length ≤ 1000 ∧ PR.newName s x = some s' ∧
  ∀ H', RdAt K D L r A s' H' → SameM (RM r A) H H' → Q .non H'
theorem ok_ProgramReader_new_name (T : Txt K mg D) (hB_TAKEN : BaseTup base D.k_TAKEN PR.taken) {k : Nat} : FnOk P w K mg base CX0 (k + 3) D.f_ProgramReader_new_name D.d_ProgramReader_new_name P_ProgramReader_new_name (sp_new_name K D) := by
  have cl := T.cl_ProgramReader
  have n1 := T.n_ProgramReader_names
  have G_is_name : FnOk P w K mg base CX0 (k + 2) D.f_is_name D.d_is_name P_is_name (sp_is_name K) := ok_is_name T
  have G_ProgramReader_fail : FnOk P w K mg base CX0 (k + 2) D.f_ProgramReader_fail D.d_ProgramReader_fail P_ProgramReader_fail (fun _ _ _ _ => False) := never
  refine T.f_ProgramReader_new_name.ok sc_ProgramReader_new_name (fun vs H Q E h => ?_) (fun cdv A outer s H vs Q E hr h => ?_)
  · obtain ⟨L, r, A, s, s', x, rfl, _⟩ := h
    rfl
  · obtain ⟨L, r, A, s, s', x, rfl, hR, hL, hx, hnl, hnew, q⟩ := h
    unfold PR.newName at hnew
    split at hnew
    rotate_left
    · cases hnew
    rename_i hc
    cases hnew
    rw [Bool.and_eq_true, Bool.and_eq_true, Bool.not_eq_true', Bool.not_eq_true'] at hc
    obtain ⟨⟨c1, c2⟩, c3⟩ := hc
    have hi := hR.ins
    have hnm := hR.names
    refine ⟨_, (pss_cons (ps_if (PW.pt (pw_or (pt_not (pt_val (pe_call G_is_name hr (by rfl) T.g_is_name T.f_is_name.kp T.b_is_name .nil pass0 (pa_cons (pv 1) pa_nil)))) (pw_or (pt_cmpR (opK (K := K) (r := fun K => rIn K false) (by rfl) op_in_seq) (pv 1) (pe_fldK (K := K) (by rfl) (pv 0) (by rfl)) (by rfl)) (pw_or1 (pt_cmpR (op_inB hB_TAKEN) (pv 1) (pe_glob (v := .ref D.k_TAKEN) (by rfl) T.g_TAKEN rfl) (by rfl)))))) (pss_one (ps_expr (pe_meth0 (pv 0) T.cl_ProgramReader T.m_ProgramReader_fail G_ProgramReader_fail hr T.b_ProgramReader_fail .nil pass0))) pss_nil)
      (pss_one (ps_expr (pe_bm PySem.F.plainAttrs_list PySem.F.slot_list_append PySem.F.type_list_append mt_append (pe_fldK (K := K) (by rfl) (pv 0) (by rfl)) (pa_cons (pv 1) pa_nil))))), ?_⟩
    repeat walk_at "st"
    refine ⟨x, rfl, hx, fun H1 s1 => ?_⟩
    rw [c1]
    have hR1 := hR.same s1
    have hi1 := hR1.ins
    have hnm1 := hR1.names
    repeat walk_at "st"
    refine b_inL (SqL.of hnm1) rfl (flat_strs _) ?_
    rw [inV_str, c2]
    simp only [Bool.false_eq_true, if_false]
    repeat walk_at "st"
    rw [show decide (x ∈ PR.taken) = false from c3]
    repeat walk_at "st"
    refine e_append hnm1 (by simp; omega) fun H2 h2 s2 => ?_
    repeat walk_at "st"
    have sM : SameM (RM r A) H1 H2 := s2.sub fun a z => .inr (.inr (.inl z))
    have ne1 : r ≠ A.nm := fun z => by rw [z, hnm1] at hi1; cases hi1
    obtain ⟨cs, hcs, hcd⟩ := hR1.cells
    obtain ⟨kvs, hb, hbd⟩ := hR1.bods
    have ne3 : A.bd ≠ A.nm := fun z => by rw [z, hnm1] at hb; cases hb
    refine q H2 ⟨s2 _ _ ne1 hi1, s2 _ _ (fun z => hR1.rwM (.inr (.inr (.inl z)))) hR1.rows, ⟨cs, s2 _ _ hR1.clnm hcs, hcd.mono sM⟩, ?_, ⟨kvs, s2 _ _ ne3 hb, hbd.mono sM⟩, hR1.rwM, hR1.clnm⟩ ((SameM.of s1).trans sM)
    rw [h2]; simp
/-! which cell -/
theorem idx_head (w : Str) : ∀ (cs : List (Str × Nat)) (j : Nat), ((List.range' j cs.length).filter fun i => decide (∃ c, cs[i - j]? = some c ∧ c.1 = w)).head? = (PR.cellIx cs w).map (· + j) := by
  intro cs
  induction cs with
  | nil => intro j; rfl
  | cons c cs ih =>
    intro j
    rw [List.length_cons, List.range'_succ, List.filter_cons]
    by_cases h : c.1 = w
    · rw [if_pos (decide_eq_true ⟨c, by simp, h⟩)]
      show some j = _
      unfold PR.cellIx
      rw [List.findIdx?_cons, if_pos (by simpa using h)]
      simp
    · have h0 : ¬ (decide (∃ c', (c :: cs)[j - j]? = some c' ∧ c'.1 = w) = true) := by
        rw [decide_eq_true_eq]
        rintro ⟨c', e1, e2⟩
        simp at e1
        rw [e1] at h
        exact h e2
      rw [if_neg h0]
      have e : (List.range' (j + 1) cs.length).filter (fun i => decide (∃ c', (c :: cs)[i - j]? = some c' ∧ c'.1 = w)) = (List.range' (j + 1) cs.length).filter (fun i => decide (∃ c', cs[i - (j + 1)]? = some c' ∧ c'.1 = w)) := by
        refine List.filter_congr fun i hi => ?_
        have hi2 := List.mem_range'_1.mp hi
        have : i - j = (i - (j + 1)) + 1 := by omega
        rw [this, List.getElem?_cons_succ]
      rw [e, ih (j + 1)]
      unfold PR.cellIx
      rw [List.findIdx?_cons, if_neg (by simpa using h)]
      cases List.findIdx? (fun c => c.1 == w) cs with
      | none => rfl
      | some i =>
        simp
        omega
def sp_cell_of (K : PySem.W.Frag) (D : Ad) : Sp := fun vs H Q _ => ∃ (L : List PR.Line) (r : Addr) (A : RA) (s : PR.RS) (x : Str) (i : Nat), vs = [.ref r, .str x] ∧ RdAt K D L r A s H ∧ s.cells.length ≤ 1000 ∧ PR.cellIx s.cells x = some i ∧
  ∀ H', Same H H' → Q (.int (i : Nat)) H'
theorem cell_vals {M : Addr → Prop} {H : Hp} {v : V} {c : Str × Nat} (h : Dq K M H v (cellD c)) : ∃ a, v = .ref a ∧ SqT K H a [.str c.1, .int (c.2 : Nat)] := by
  obtain ⟨a, xs, rfl, hx, hxs⟩ := Dq.tupE h
  obtain ⟨x1, x2, rfl, h1, h2⟩ := hxs.two
  cases h1
  cases h2
  exact ⟨a, rfl, hx.t⟩
theorem ok_ProgramReader_cell_of (T : Txt K mg D) {k : Nat} : FnOk P w K mg base CX0 (k + 1) D.f_ProgramReader_cell_of D.d_ProgramReader_cell_of P_ProgramReader_cell_of (sp_cell_of K D) := by
  have cl := T.cl_ProgramReader
  have n1 := T.n_ProgramReader_own_cells
  have G_ProgramReader_fail : FnOk P w K mg base CX0 k D.f_ProgramReader_fail D.d_ProgramReader_fail P_ProgramReader_fail (fun _ _ _ _ => False) := never
  refine T.f_ProgramReader_cell_of.ok sc_ProgramReader_cell_of (fun vs H Q E h => ?_) (fun cdv A outer s H vs Q E hr h => ?_)
  · obtain ⟨L, r, A, s, x, i, rfl, _⟩ := h
    rfl
  · obtain ⟨L, r, A, s, x, i, rfl, hR, hcl, hix, q⟩ := h
    have hi := hR.ins
    obtain ⟨cs, hcs, hcd⟩ := hR.cells
    have hcsl : cs.length = s.cells.length := by rw [hcd.length, List.length_map]
    refine ⟨_, (pss_cons (ps_setLc (i := 2) (own := [("index", 3), ("cell", 4)]) (g := gTup K 2 (gCons (gName 3) (gCons (gName 4) gNil)))  (by rfl) sc_ProgramReader_cell_of.nd rfl rfl (sw_true rfl rfl rfl (by decide +kernel)) (pi_enumLK (K := K) (by rfl) (by rfl) T.z_enumerate (pa_cons (pe_fldK (K := K) (by rfl) (pv 0) (by rfl)) pa_nil)) (blkOk_by (own := [("index", 3), ("cell", 4)]) (N := N_ProgramReader_cell_of) (sc := defScope s_ProgramReader_cell_of) (by decide +kernel)) (fun _ _ _ _ _ => (pg_tup (by rfl) (pgs_cons (pg_name (i := 3) sc_ProgramReader_cell_of.nd rfl (by first | exact .inl rfl | exact .inr rfl)) (pgs_cons (pg_name (i := 4) sc_ProgramReader_cell_of.nd rfl (by first | exact .inl rfl | exact .inr rfl)) pgs_nil)))) (fun _ _ _ _ _ => (pts_one (pt_cmpR op_eq (pe_ix (ixK (K := K) (r := rIxT) (by rfl) ix_tup) (pv 4) pe_int (fun _ _ => rfl)) (pv 1) (nomark _)))) (fun _ _ _ _ _ => (pv 3)))
      (pss_cons (ps_if (pt_cmpR (opK (K := K) (r := rEqQ) (by rfl) (op_eqQ hr.units)) (pv 2) (pe_lst pa_nil) (nomark _)) (pss_one (ps_expr (pe_meth0 (pv 0) T.cl_ProgramReader T.m_ProgramReader_fail G_ProgramReader_fail hr T.b_ProgramReader_fail .nil pass0))) pss_nil)
      (pss_one (ps_ret (pe_ix (ixK (K := K) (r := rIxL) (by rfl) ix_list) (pv 2) pe_int (fun _ _ => rfl)))))), ?_⟩
    repeat walk_at "st"
    refine e_lcEnL (SqL.of hcs) (fun S j H' => H' S = some (.lst (((List.range j).filter fun i => decide (∃ c, s.cells[i]? = some c ∧ c.1 = x)).map fun i => V.int (i : Nat))) ∧ Same H H') ?_ ?_ ?_ ?_
    · intro S H' nS hS sS
      exact ⟨hS, sS⟩
    · rintro S j H' nS ⟨_, s'⟩
      exact SqL.of (s' _ _ hcs)
    · rintro S j y t H' H2 nS hy ⟨hS, s'⟩ nt ht s2
      have s12 := s'.trans s2
      obtain ⟨d, hd1, hd2⟩ := (hcd.same s12).get hy
      rw [List.getElem?_map] at hd1
      cases ec : s.cells[j]? with
      | none => rw [ec] at hd1; cases hd1
      | some c =>
      rw [ec] at hd1
      cases hd1
      have hj := (List.getElem?_eq_some_iff.mp ec).1
      obtain ⟨b, rfl, hb⟩ := cell_vals hd2
      repeat walk_at "st"
      refine e_gtup2 (SqT.of ht) ?_
      repeat walk_at "st"
      have hfl := List.length_filter_le (fun i => decide (∃ c, s.cells[i]? = some c ∧ c.1 = x)) (List.range j)
      rw [List.length_range] at hfl
      by_cases hcx : c.1 = x
      · rw [decide_eq_true (show V.str c.1 = V.str x by rw [hcx])]
        repeat walk_at "st"
        refine e_app (s2 _ _ hS) (by rw [List.length_map]; omega) fun H3 h3 s3 => ⟨?_, Same.new s12 s3 fun b hb => by rw [hb]; exact nS⟩
        rw [h3, List.range_succ, List.filter_append]
        simp [List.filter_cons, ec, hcx]
      · rw [decide_eq_false (show ¬ V.str c.1 = V.str x from fun z => hcx (by injection z))]
        repeat walk_at "st"
        refine ⟨?_, s12⟩
        rw [s2 _ _ hS, List.range_succ, List.filter_append]
        simp [List.filter_cons, ec, hcx]
    rintro S H1 nS ⟨hS, s1⟩
    rw [hcsl] at hS
    have hh := idx_head x s.cells 0
    rw [hix] at hh
    have hh2 : ((List.range s.cells.length).filter fun i => decide (∃ c, s.cells[i]? = some c ∧ c.1 = x)).head? = some i := by
      rw [List.range_eq_range']
      simpa using hh
    generalize (List.range s.cells.length).filter (fun i => decide (∃ c, s.cells[i]? = some c ∧ c.1 = x)) = is at hS hh2
    cases is with
    | nil => cases hh2
    | cons i0 is =>
    cases hh2
    repeat walk_at "st"
    refine e_lst fun e0 H2 ne0 he0 s2 => ?_
    have hint : ∀ (ps : List Nat), DqAll K M0 H2 (ps.map fun p => V.int (p : Nat)) (ps.map fun p => PyData.int (p : Nat)) := by
      intro ps
      induction ps with
      | nil => exact .nil
      | cons p ps ih => exact .cons (.int _) ih
    have sh : SeqAt.shaped (PyData.list ((i :: is).map fun p => PyData.int (p : Nat))) = true := by
      refine shaped_of ?_ ?_
      · simp only [PyData.canLay0]
        refine canLayAll_of fun d hd => ?_
        obtain ⟨p, _, rfl⟩ := List.mem_map.mp hd
        rfl
      · simp only [PyData.depth]
        have : PyData.depthAll ((i :: is).map fun p => PyData.int (p : Nat)) ≤ 0 := depthAll_of fun d hd => by
          obtain ⟨p, _, rfl⟩ := List.mem_map.mp hd
          exact Nat.le_refl _
        omega
    refine ⟨M0, M0, _, .list [], Dq.newL (fun z => z) (s2 _ _ hS) (hint _), Dq.newL (fun z => z) he0 .nil, sh, by decide +kernel, ?_⟩
    rw [show PyData.eqv (PyData.list ((i :: is).map fun p => PyData.int (p : Nat))) (PyData.list []) = false by simp [PyData.eqv, PyData.eqvAll]]
    have hS2 := s2 _ _ hS
    simp only [List.map_cons] at hS2
    repeat walk_at "st"
    exact q H2 (s1.trans s2)
def strsD (ws : List Str) : PyData := .tuple (ws.map PyData.str)
theorem strs_vals {M : Addr → Prop} {H : Hp} {v : V} {ws : List Str} (h : Dq K M H v (strsD ws)) : ∃ a, v = .ref a ∧ SqT K H a (ws.map V.str) := by
  obtain ⟨a, xs, rfl, hx, hxs⟩ := Dq.tupE h
  refine ⟨a, rfl, ?_⟩
  have : ∀ {xs : List V} {t : List Str}, DqAll K M H xs (t.map PyData.str) → xs = t.map V.str := by
    intro xs
    induction xs with
    | nil =>
      intro t h
      cases t with
      | nil => rfl
      | cons w t => cases h
    | cons x xs ih =>
      intro t h
      cases t with
      | nil => cases h
      | cons w t =>
        rw [List.map_cons] at h
        cases h with
        | cons h1 h2 =>
          cases h1
          rw [ih h2, List.map_cons]
  rw [← this hxs]
  exact hx.t
theorem strs_all {M : Addr → Prop} {H : Hp} : ∀ ws : List Str, DqAll K M H (ws.map V.str) (ws.map PyData.str)
  | [] => .nil
  | w :: ws => .cons (.str w) (strs_all ws)
theorem strs_const {H : Hp} {p : Addr} {ws : List Str} (h : SqT K (fun _ => none) p (ws.map V.str)) : Dq K M0 H (.ref p) (strsD ws) := .tup (.inr h) (strs_all ws)
def sp_values_of (K : PySem.W.Frag) (D : Ad) : Sp := fun vs H Q _ => ∃ (L : List PR.Line) (r : Addr) (A : RA) (s : PR.RS) (c : Nat), vs = [.ref r, .int (c : Nat)] ∧ RdAt K D L r A s H ∧ c < s.cells.length ∧
  ∀ v H', Same H H' → Dq K M0 H' v (strsD (PR.valuesOf s c)) → Q v H'
theorem ok_ProgramReader_values_of (T : Txt K mg D) {k : Nat} : FnOk P w K mg base CX0 (k + 1) D.f_ProgramReader_values_of D.d_ProgramReader_values_of P_ProgramReader_values_of (sp_values_of K D) := by
  have cl := T.cl_ProgramReader
  have n1 := T.n_ProgramReader_own_cells
  refine T.f_ProgramReader_values_of.ok sc_ProgramReader_values_of (fun vs H Q E h => ?_) (fun cdv A outer s H vs Q E hr h => ?_)
  · obtain ⟨L, r, A, s, c, rfl, _⟩ := h
    rfl
  · obtain ⟨L, r, A, s, c, rfl, hR, hc, q⟩ := h
    have hi := hR.ins
    obtain ⟨cs, hcs, hcd⟩ := hR.cells
    have hcsl : cs.length = s.cells.length := by rw [hcd.length, List.length_map]
    have hv : Dq K M0 H (.ref D.k_VALUES) (strsD PR.values) := strs_const T.t_VALUES
    refine ⟨_, (pss_one (ps_ret (pe_slice (slK (K := K) (r := rSlA) (by rfl) sl_tupA) (pe_glob (v := .ref D.k_VALUES) (by rfl) T.g_VALUES rfl) po_none (po_some (pe_op op_add (pe_ix (ixK (K := K) (r := rIxT) (by rfl) ix_tup) (pe_ix (ixK (K := K) (r := rIxL) (by rfl) ix_list) (pe_fldK (K := K) (by rfl) (pv 0) (by rfl)) (pv 1) (fun _ _ => rfl)) pe_int (fun _ _ => rfl)) pe_int))))), ?_⟩
    repeat walk_at "st"
    have e1 : cs[c]? = some (cs[c]'(by omega)) := List.getElem?_eq_getElem _
    generalize cs[c]'(by omega) = cv at e1
    refine b_ixL (SqL.of hcs) (atI_nat e1) ?_
    obtain ⟨d, hd1, hd2⟩ := hcd.get e1
    rw [List.getElem?_map, List.getElem?_eq_getElem hc] at hd1
    cases hd1
    obtain ⟨b, rfl, hb⟩ := cell_vals hd2
    repeat walk_at "st"
    refine e_slD hv fun p H1 hp s1 => ?_
    rw [show ((s.cells[c].2 : Nat) : Int) + 1 = ((s.cells[c].2 + 1 : Nat) : Int) by omega, cutD_to, ← List.map_take] at hp
    refine q p H1 s1 ?_
    unfold PR.valuesOf
    rw [List.getD_eq_getElem?_getD, List.getElem?_eq_getElem hc]
    exact hp
def sp_number_of (K : PySem.W.Frag) (D : Ad) : Sp := fun vs H Q _ => ∃ (M : Addr → Prop) (r : Addr) (x : Str) (v : V) (ws : List Str) (n : Nat), vs = [.ref r, .str x, v] ∧ Dq K M H v (strsD ws) ∧ (∀ w ∈ ws, w ∈ PR.values) ∧ PR.numberOf x ws = some n ∧ Q (.int (n : Nat)) H
theorem ok_ProgramReader_number_of (T : Txt K mg D) {k : Nat} : FnOk P w K mg base CX0 (k + 1) D.f_ProgramReader_number_of D.d_ProgramReader_number_of P_ProgramReader_number_of (sp_number_of K D) := by
  have cl := T.cl_ProgramReader
  have G_ProgramReader_fail : FnOk P w K mg base CX0 k D.f_ProgramReader_fail D.d_ProgramReader_fail P_ProgramReader_fail (fun _ _ _ _ => False) := never
  refine T.f_ProgramReader_number_of.ok sc_ProgramReader_number_of (fun vs H Q E h => ?_) (fun cdv A outer s H vs Q E hr h => ?_)
  · obtain ⟨M, r, x, v, ws, n, rfl, _⟩ := h
    rfl
  · obtain ⟨M, r, x, v, ws, n, rfl, hv, hws, hn, q⟩ := h
    unfold PR.numberOf at hn
    split at hn
    rotate_left
    · cases hn
    rename_i hin
    cases hn
    obtain ⟨a, rfl, ha⟩ := strs_vals hv
    have hx : x ∈ PR.values := hws x (of_decide_eq_true hin)
    refine ⟨_, (pss_cons (ps_if (pt_cmpR (opK (K := K) (r := fun K => rIn K true) (by rfl) op_notIn_seq) (pv 1) (pv 2) (by rfl)) (pss_one (ps_expr (pe_meth0 (pv 0) T.cl_ProgramReader T.m_ProgramReader_fail G_ProgramReader_fail hr T.b_ProgramReader_fail .nil pass0))) pss_nil)
      (pss_one (ps_ret (pe_callTy q_intS (by rfl) T.z_int (by decide +kernel) (pa_cons (pv 1) pa_nil))))), ?_⟩
    repeat walk_at "st"
    refine b_inT ha rfl (flat_strs _) ?_
    rw [inV_str, hin]
    simp only [if_true, Bool.not_true]
    repeat walk_at "st"
    simp only [PR.values, List.mem_cons, List.not_mem_nil, or_false] at hx
    rcases hx with rfl | rfl | rfl
    · exact ⟨_, 0, rfl, by decide +kernel, by decide, q⟩
    · exact ⟨_, 1, rfl, by decide +kernel, by decide, q⟩
    · exact ⟨_, 2, rfl, by decide +kernel, by decide, q⟩
def sp_check_signs (K : PySem.W.Frag) (D : Ad) : Sp := fun vs H Q _ => ∃ (L : List PR.Line) (r : Addr) (A : RA) (s : PR.RS) (x : Str), vs = [.ref r, .str x] ∧ RdAt K D L r A s H ∧ s.sy.length ≤ 1000 ∧ x.length ≤ 90000 ∧ PR.signsB s.sy x = true ∧ ∀ H', Same H H' → Q .non H'
theorem ok_ProgramReader_check_signs (T : Txt K mg D) {k : Nat} : FnOk P w K mg base CX0 (k + 2) D.f_ProgramReader_check_signs D.d_ProgramReader_check_signs P_ProgramReader_check_signs (sp_check_signs K D) := by
  have cl := T.cl_ProgramReader
  have n1 := T.n_ProgramReader_own_symbols
  have G_are_ascending : FnOk P w K mg base CX0 (k + 1) D.f_are_ascending D.d_are_ascending P_are_ascending (sp_asc_i K) := ok_are_ascendingI T
  have G_ProgramReader_fail : FnOk P w K mg base CX0 (k + 1) D.f_ProgramReader_fail D.d_ProgramReader_fail P_ProgramReader_fail (fun _ _ _ _ => False) := never
  refine T.f_ProgramReader_check_signs.ok sc_ProgramReader_check_signs (fun vs H Q E h => ?_) (fun cdv A outer s H vs Q E hr h => ?_)
  · obtain ⟨L, r, A, s, x, rfl, _⟩ := h
    rfl
  · obtain ⟨L, r, A, s, x, rfl, hR, hsy, hx, hsg, q⟩ := h
    have hi := hR.ins
    unfold PR.signsB at hsg
    rw [Bool.and_eq_true, Bool.and_eq_true, Bool.not_eq_true', decide_eq_true_eq] at hsg
    obtain ⟨g1, g2, g3⟩ := hsg
    have hxs : x.cps.size = x.length := rfl
    refine ⟨_, (pss_cons (ps_set (i := 2) sc_ProgramReader_check_signs.nd rfl (by first | exact .inl rfl | exact .inr rfl) (pe_op o_addS (pe_op o_addS (pe_glob (v := .str "<") (by rfl) T.c_LEFT_MARK.choose_spec ⟨_, rfl⟩) (pe_fldK (K := K) (by rfl) (pv 0) (by rfl))) (pe_glob (v := .str ">") (by rfl) T.c_RIGHT_MARK.choose_spec ⟨_, rfl⟩)))
      (pss_cons (ps_setLc (i := 3) (own := [("sign", 4)]) (g := gName 4) (tt := tYes) (by rfl) sc_ProgramReader_check_signs.nd rfl rfl (sw_true rfl rfl rfl (by decide +kernel)) (pi_str (pv 1)) (blkOk_by (own := [("sign", 4)]) (N := N_ProgramReader_check_signs) (sc := defScope s_ProgramReader_check_signs) (by decide +kernel)) (fun _ _ _ _ _ => (pg_name (i := 4) sc_ProgramReader_check_signs.nd rfl (by first | exact .inl rfl | exact .inr rfl))) (fun _ _ _ _ _ => pts_nil) (fun _ _ _ _ _ => (pe_m1 PySem.F.slot_str_find PySem.F.type_str_find mt_find (pv 2) (pv 4))))
      (pss_one (ps_if (PW.pt (pw_or (pt_cmpR op_eq (pv 1) pe_str (nomark _)) (pw_or (pt_cmpR (opK (K := K) (r := fun K => rIn K false) (by rfl) op_in_seq) (pe_un un_neg pe_int) (pv 3) (by rfl)) (pw_or1 (pt_not (pt_val (pe_call G_are_ascending hr (by rfl) T.g_are_ascending T.f_are_ascending.kp T.b_are_ascending .nil pass0 (pa_cons (pv 3) pa_nil)))))))) (pss_one (ps_expr (pe_meth0 (pv 0) T.cl_ProgramReader T.m_ProgramReader_fail G_ProgramReader_fail hr T.b_ProgramReader_fail .nil pass0))) pss_nil)))), ?_⟩
    repeat walk_at "st"
    have l1 : (Str.ofString "<").length = 1 := rfl
    have l2 : (Str.ofString ">").length = 1 := rfl
    have l3 : (90000 : Nat) ≤ sizeLine := by decide
    refine b_addS (by omega) ?_
    repeat walk_at "st"
    refine b_addS (by rw [strLen_append]; omega) ?_
    repeat walk_at "st"
    refine e_lcS (fun S i H' => H' S = some (.lst (((PR.places s.sy x).take i).map V.int)) ∧ Same H H') ?_ ?_ ?_
    · intro S H' nS hS sS
      exact ⟨hS, sS⟩
    · rintro S i c H' nS hc ⟨hS, s'⟩
      have hci : i < x.cps.size := (Array.getElem?_eq_some_iff.mp hc).1
      have hc2 : x.cps.toList[i]? = some c := by rw [Array.getElem?_toList]; exact hc
      have hp : (PR.places s.sy x)[i]? = some (Txt.find (("<" : Str) ++ s.sy ++ (">" : Str)) ⟨#[c]⟩) := by
        unfold PR.places
        rw [List.getElem?_map, hc2]
        rfl
      have hpl : (PR.places s.sy x).length = x.length := by
        unfold PR.places
        rw [List.length_map]
        simp [Str.length]
      repeat walk_at "st"
      refine ⟨_, _, rfl, rfl, ?_⟩
      refine e_app hS (by simp; omega) fun H3 h3 s3 => ⟨?_, Same.new s' s3 fun b hb => by rw [hb]; exact nS⟩
      rw [h3, List.take_add_one, hp]
      simp
    · rintro S H1 nS ⟨hS, s1⟩
      have hpl : (PR.places s.sy x).length = x.length := by
        unfold PR.places
        rw [List.length_map]
        simp [Str.length]
      rw [List.take_of_length_le (by omega)] at hS
      repeat walk_at "st"
      rw [decide_eq_false (show ¬ V.str x = V.str "" from fun z => g1 (by injection z))]
      repeat walk_at "st"
      have hfl : ((PR.places s.sy x).map V.int).all flatV = true := by
        rw [List.all_eq_true]
        intro z hz
        obtain ⟨a, _, rfl⟩ := List.mem_map.mp hz
        rfl
      refine b_inL (SqL.of hS) rfl hfl ?_
      have hin : inV (V.int (-1)) ((PR.places s.sy x).map V.int) = false := by
        unfold inV
        rw [Bool.eq_false_iff]
        intro z
        rw [List.any_eq_true] at z
        obtain ⟨y, hy, e⟩ := z
        obtain ⟨a, ha, rfl⟩ := List.mem_map.mp hy
        have : (a == (-1 : Int)) = true := e
        rw [beq_iff_eq] at this
        rw [this] at ha
        rw [decide_eq_false_iff_not] at g2
        exact g2 ha
      rw [hin]
      simp only [Bool.false_eq_true, if_false]
      repeat walk_at "st"
      refine ⟨S, PR.places s.sy x, rfl, SqL.of hS, by omega, fun H2 s2 => ?_⟩
      rw [g3]
      repeat walk_at "st"
      exact q H2 (s1.trans s2)
end
end K09

namespace K09
open PySem PySem.Spec PyProof.Rows L2 FG
local macro_rules | `(tactic| walk_at "sq") => `(tactic| first
  | assumption
  | exact SqL.of (by assumption)
  | exact SqT.of (by assumption)
  | exact SqLm.l (by assumption)
  | exact SqTm.t (by assumption))
local macro_rules | `(tactic| walk_at "cond") => `(tactic| first
  | assumption
  | (show (0 : Int) < _; omega)
  | (show (0 : Int) < _ ∧ _ < 1073741824; omega))
local macro_rules | `(tactic| walk_at "st") => `(tactic| first
  | with_reducible refine b_seq ?_
  | with_reducible refine b_asg ?_
  | with_reducible refine b_op ?_
  | ((with_reducible refine' b_var ?hv ?_); (case hv => exact rfl))
  | with_reducible refine b_c ?_
  | with_reducible refine b_name ?_
  | with_reducible refine b_I0 ?_
  | with_reducible refine b_cons ?_
  | with_reducible refine b_nil ?_
  | with_reducible refine b_cb ?_
  | with_reducible refine b_call ?_
  | with_reducible refine b_ret ?_
  | with_reducible refine b_ifS ?_
  | with_reducible refine b_test ?_
  | with_reducible refine b_tb ?_
  | with_reducible refine b_bl ?_
  | with_reducible refine b_blP ?_
  | with_reducible refine b_next ?_
  | with_reducible refine b_drop ?_
  | with_reducible refine b_dget ?_
  | with_reducible refine b_makeN ?_
  | with_reducible refine b_pairs ?_
  | with_reducible refine b_pairs0 ?_
  | with_reducible refine b_sub ?_
  | with_reducible refine b_chain ?_
  | with_reducible refine b_and ?_
  | with_reducible refine b_or ?_
  | with_reducible refine b_not ?_
  | with_reducible refine b_andV ?_
  | with_reducible refine b_orV ?_
  | with_reducible refine b_notV ?_
  | with_reducible refine b_if ?_
  | with_reducible refine b_par ?_
  | with_reducible refine b_parE ?_
  | ((with_reducible refine' b_aug ?hv ?_); (case hv => exact rfl))
  | with_reducible refine b_ip ?_
  | with_reducible refine b_retN ?_
  | with_reducible refine b_tup ?_
  | with_reducible refine b_lst ?_
  | with_reducible refine b_sl ?_
  | with_reducible refine b_part ?_
  | with_reducible refine b_partP ?_
  | with_reducible refine b_nopart ?_
  | with_reducible refine b_bm ?_
  | with_reducible refine b_m1 ?_
  | with_reducible refine b_m0 ?_
  | with_reducible refine b_yes ?_
  | with_reducible refine b_un ?_
  | with_reducible refine b_neg ?_
  | with_reducible refine b_isN ?_
  | with_reducible refine b_notN ?_
  | with_reducible refine b_inS ?_
  | with_reducible refine b_int ?_
  | with_reducible refine b_intB ?_
  | with_reducible refine b_abs ?_
  | with_reducible refine b_max ?_
  | with_reducible refine b_min ?_
  | ((with_reducible refine b_eq ?hv ?_); (case hv => exact rfl))
  | ((with_reducible refine b_ne ?hv ?_); (case hv => exact rfl))
  | ((with_reducible refine' b_lenL ?hv ?_); (case hv => walk_at "sq"))
  | ((with_reducible refine' b_lenT ?hv ?_); (case hv => walk_at "sq"))
  | ((with_reducible refine' b_ixL ?hv ?hw ?_); (case hv => walk_at "sq"); (case hw => first | exact rfl | exact at0 | exact at1 | exact at2))
  | ((with_reducible refine' b_ixT ?hv ?hw ?_); (case hv => walk_at "sq"); (case hw => first | exact rfl | exact at0 | exact at1 | exact at2))
  | ((with_reducible refine b_I ?hv ?_); (case hv => walk_at "cond"))
  | with_reducible refine b_lcS ?_
  | with_reducible refine b_lcR ?_
  | with_reducible refine b_lcT ?_
  | with_reducible refine b_lcL ?_
  | with_reducible refine b_forT ?_
  | with_reducible refine b_forL ?_
  | with_reducible refine b_forR ?_
  | with_reducible refine b_turn ?_
  | ((with_reducible refine And.intro (a := wipe _ _ = wipe _ _) ?hv ?_); (case hv => exact rfl))
  | ((with_reducible refine And.intro (a := tyV _ "list" _ _) ?hv ?_); (case hv => exact ty_list (by assumption)))
  | with_reducible refine And.intro (a := ∃ a, V.str _ = V.str a) ⟨_, rfl⟩ ?_
  | (with_reducible refine iteT ?_)
  | (with_reducible refine iteNF ?_)
  | (with_reducible refine iteNT ?_)
  | (with_reducible refine iteVT ?_)
  | (with_reducible refine iteNVT ?_)
  | ((with_reducible refine iteVF ?hv ?_); (case hv => exact rfl))
  | ((with_reducible refine iteNVF ?hv ?_); (case hv => exact rfl))
  | with_reducible refine b_callS ?_
  | with_reducible refine b_xq ?_
  | with_reducible refine b_fld ?_
  | with_reducible refine b_sfld ?_
  | with_reducible refine b_meth ?_
  | with_reducible refine b_make ?_
  | with_reducible refine b_callK ?_
  | with_reducible refine b_sfa ?_
  | with_reducible refine b_lcEnT ?_
  | with_reducible refine b_lcEnL ?_
  | with_reducible refine b_forEnT ?_
  | with_reducible refine b_forEnL ?_
  | with_reducible refine b_lcZ ?_
  | with_reducible refine b_lcZX ?_
  | with_reducible refine b_prop ?_
  | with_reducible refine b_dput ?_
  | with_reducible refine b_din ?_
  | with_reducible refine b_inB ?_
  | with_reducible refine e_revT ?_
  | ((with_reducible refine' e_fld ?hv ?hc ?hn ?hl ?_); (case hv => assumption); (case hc => assumption); (case hn => assumption); (case hl => exact rfl))
  | ((with_reducible refine' e_meth ?hv ?hl ?_); (case hv => assumption); (case hl => exact rfl))
  | (with_reducible refine iteF ?_))

section
variable {P : Program} {w : World} {K : PySem.W.Frag} {mg : Str → Option Value} {base : Heap} {D : Ad}
def sgV : Option Str → V
  | some x => .str x
  | none => .non
def CondFs (sg : Option Str) (c n : Nat) (t : Bool) : List (Str × V) := [("signs", sgV sg), ("cell", .int (c : Nat)), ("number", .int (n : Nat)), ("is_turned", .bl t)]
def sp_cond_init (D : Ad) : Sp := fun vs H Q _ => ∃ (a dx : Addr) (sg : Option Str) (c n : Nat), vs = [.ref a, sgV sg, .int (c : Nat), .int (n : Nat)] ∧ H a = some (.ins D.c_Condition dx []) ∧ ∀ H', H' a = some (.ins D.c_Condition dx (CondFs sg c n false)) → SameM (· = a) H H' → Q .non H'
theorem ok_Condition_init (T : Txt K mg D) {k : Nat} : FnOk P w K mg base CX0 (k + 1) D.f_Condition_init D.d_Condition_init P_Condition_init (sp_cond_init D) := by
  have cl := T.cl_Condition
  have n1 := T.n_Condition_signs
  have n2 := T.n_Condition_cell
  have n3 := T.n_Condition_number
  have n4 := T.n_Condition_is_turned
  refine T.f_Condition_init.ok sc_Condition_init (fun vs H Q E h => ?_) (fun cdv A outer s H vs Q E hr h => ?_)
  · obtain ⟨a, dx, sg, c, n, rfl, _⟩ := h
    rfl
  · obtain ⟨a, dx, sg, c, n, rfl, ha, q⟩ := h
    refine ⟨_, (pss_cons (ps_fld (pv 0) (pv 1) rfl)
      (pss_cons (ps_fld (pv 0) (pv 2) rfl)
      (pss_cons (ps_fld (pv 0) (pv 3) rfl)
      (pss_one (ps_fld (pv 0) pe_bl rfl))))), ?_⟩
    repeat walk_at "st"
    refine e_sfld ha cl n1 (by decide) fun H1 h1 s1 => ?_
    repeat walk_at "st"
    refine e_sfld h1 cl n2 (show 1 < 1000 by decide) fun H2 h2 s2 => ?_
    repeat walk_at "st"
    refine e_sfld h2 cl n3 (show 2 < 1000 by decide) fun H3 h3 s3 => ?_
    repeat walk_at "st"
    refine e_sfld h3 cl n4 (show 3 < 1000 by decide) fun H4 h4 s4 => ?_
    repeat walk_at "st"
    exact q H4 h4 (((s1.trans s2).trans s3).trans s4)
def StFs (l : Nat) (k w : Str) (c n : Nat) (av : V) (b1 b2 : Addr) : List (Str × V) := [("line", .int (l : Nat)), ("kind", .str k), ("own_word", .str w), ("cell", .int (c : Nat)), ("number", .int (n : Nat)), ("asked", av), ("body", .ref b1), ("else_body", .ref b2)]
def sp_st_init (D : Ad) : Sp := fun vs H Q _ => ∃ (a dx : Addr) (l : Nat) (kd : Str), vs = [.ref a, .int (l : Nat), .str kd] ∧ H a = some (.ins D.c_Statement dx []) ∧
  ∀ b1 b2 H', H b1 = none → H b2 = none → b1 ≠ a → b2 ≠ a → b1 ≠ b2 → H' b1 = some (.lst []) → H' b2 = some (.lst []) → H' a = some (.ins D.c_Statement dx (StFs l kd "" 0 0 .non b1 b2)) → SameM (· = a) H H' → Q .non H'
theorem ok_Statement_init (T : Txt K mg D) {k : Nat} : FnOk P w K mg base CX0 (k + 1) D.f_Statement_init D.d_Statement_init P_Statement_init (sp_st_init D) := by
  have cl := T.cl_Statement
  have n1 := T.n_Statement_line
  have n2 := T.n_Statement_kind
  have n3 := T.n_Statement_own_word
  have n4 := T.n_Statement_cell
  have n5 := T.n_Statement_number
  have n6 := T.n_Statement_asked
  have n7 := T.n_Statement_body
  have n8 := T.n_Statement_else_body
  refine T.f_Statement_init.ok sc_Statement_init (fun vs H Q E h => ?_) (fun cdv A outer s H vs Q E hr h => ?_)
  · obtain ⟨a, dx, l, kd, rfl, _⟩ := h
    rfl
  · obtain ⟨a, dx, l, kd, rfl, ha, q⟩ := h
    refine ⟨_, (pss_cons (ps_fld (pv 0) (pv 1) rfl)
      (pss_cons (ps_fld (pv 0) (pv 2) rfl)
      (pss_cons (ps_fld (pv 0) pe_str rfl)
      (pss_cons (ps_fld (pv 0) pe_int rfl)
      (pss_cons (ps_fld (pv 0) pe_int rfl)
      (pss_cons (ps_fld (pv 0) pe_non rfl)
      (pss_cons (ps_fld (pv 0) (pe_lst pa_nil) rfl)
      (pss_one (ps_fld (pv 0) (pe_lst pa_nil) rfl))))))))), ?_⟩
    repeat walk_at "st"
    refine e_sfld ha cl n1 (by decide) fun H1 h1 s1 => ?_
    repeat walk_at "st"
    refine e_sfld h1 cl n2 (show 1 < 1000 by decide) fun H2 h2 s2 => ?_
    repeat walk_at "st"
    refine e_sfld h2 cl n3 (show 2 < 1000 by decide) fun H3 h3 s3 => ?_
    repeat walk_at "st"
    refine e_sfld h3 cl n4 (show 3 < 1000 by decide) fun H4 h4 s4 => ?_
    repeat walk_at "st"
    refine e_sfld h4 cl n5 (show 4 < 1000 by decide) fun H5 h5 s5 => ?_
    repeat walk_at "st"
    refine e_sfld h5 cl n6 (show 5 < 1000 by decide) fun H6 h6 s6 => ?_
    have s06 : SameM (· = a) H H6 := ((((s1.trans s2).trans s3).trans s4).trans s5).trans s6
    repeat walk_at "st"
    refine e_lst fun b1 H7 nb1 hb1 s7 => ?_
    have h7 := s7 _ _ h6
    have hb1a : b1 ≠ a := fun z => by rw [z, h6] at nb1; cases nb1
    repeat walk_at "st"
    refine e_sfld h7 cl n7 (show 6 < 1000 by decide) fun H8 h8 s8 => ?_
    have hb18 := s8 _ _ hb1a hb1
    repeat walk_at "st"
    refine e_lst fun b2 H9 nb2 hb2 s9 => ?_
    have h9 := s9 _ _ h8
    have hb2a : b2 ≠ a := fun z => by rw [z, h8] at nb2; cases nb2
    have hb12 : b1 ≠ b2 := fun z => by rw [z] at hb18; rw [hb18] at nb2; cases nb2
    repeat walk_at "st"
    refine e_sfld h9 cl n8 (show 7 < 1000 by decide) fun Ha ha' sa => ?_
    repeat walk_at "st"
    have s09 : SameM (· = a) H Ha := (((s06.trans (SameM.of s7)).trans s8).trans (SameM.of s9)).trans sa
    refine q b1 b2 Ha ?_ ?_ hb1a hb2a hb12 (sa _ _ hb1a (s9 _ _ hb18)) (sa _ _ hb2a hb2) ha' s09
    · exact none_backM s06 hb1a nb1
    · exact none_backM ((s06.trans (SameM.of s7)).trans s8) hb2a nb2
/-- the statement, made -/
theorem asked_turn (s : PR.RS) (ws : List Str) (t : Bool) : PR.askedIn s ws t = (PR.askedIn s ws false).map fun c => { c with turned := t } := by
  unfold PR.askedIn
  split
  · split
    · split <;> rfl
    · rfl
  · split
    · split
      · rfl
      · split <;> rfl
    · rfl
  · rfl
theorem values_sub (s : PR.RS) (c : Nat) : ∀ w ∈ PR.valuesOf s c, w ∈ PR.values := fun w h => List.mem_of_mem_take h
theorem cellIx_lt {cs : List (Str × Nat)} {w : Str} {i : Nat} (h : PR.cellIx cs w = some i) : i < cs.length := by
  unfold PR.cellIx at h
  exact (List.findIdx?_eq_some_iff_getElem.mp h).1
def sp_asked_in (K : PySem.W.Frag) (D : Ad) : Sp := fun vs H Q _ => ∃ (L : List PR.Line) (r p : Addr) (A : RA) (s : PR.RS) (ws : List Str) (c : PR.Cond), vs = [.ref r, .ref p] ∧ RdAt K D L r A s H ∧ H p = some (.lst (ws.map V.str)) ∧ s.sy.length ≤ 1000 ∧ s.cells.length ≤ 1000 ∧ (∀ w ∈ ws, w.length ≤ 90000) ∧
  PR.askedIn s ws false = some c ∧ ∀ a dx H', H a = none → H' a = some (.ins D.c_Condition dx (CondFs c.signs c.cell c.num false)) → Same H H' → Q (.ref a) H'
theorem ok_ProgramReader_asked_in (T : Txt K mg D) {k : Nat} : FnOk P w K mg base CX0 (k + 4) D.f_ProgramReader_asked_in D.d_ProgramReader_asked_in P_ProgramReader_asked_in (sp_asked_in K D) := by
  have cl := T.cl_ProgramReader
  have G_ProgramReader_check_signs : FnOk P w K mg base CX0 (k + 3) D.f_ProgramReader_check_signs D.d_ProgramReader_check_signs P_ProgramReader_check_signs (sp_check_signs K D) := ok_ProgramReader_check_signs T
  have G_ProgramReader_cell_of : FnOk P w K mg base CX0 (k + 3) D.f_ProgramReader_cell_of D.d_ProgramReader_cell_of P_ProgramReader_cell_of (sp_cell_of K D) := ok_ProgramReader_cell_of T
  have G_ProgramReader_values_of : FnOk P w K mg base CX0 (k + 3) D.f_ProgramReader_values_of D.d_ProgramReader_values_of P_ProgramReader_values_of (sp_values_of K D) := ok_ProgramReader_values_of T
  have G_ProgramReader_number_of : FnOk P w K mg base CX0 (k + 3) D.f_ProgramReader_number_of D.d_ProgramReader_number_of P_ProgramReader_number_of (sp_number_of K D) := ok_ProgramReader_number_of T
  have G_Condition_init : FnOk P w K mg base CX0 (k + 2) D.f_Condition_init D.d_Condition_init P_Condition_init (sp_cond_init D) := ok_Condition_init T
  refine T.f_ProgramReader_asked_in.ok sc_ProgramReader_asked_in (fun vs H Q E h => ?_) (fun cdv A outer s H vs Q E hr h => ?_)
  · obtain ⟨L, r, p, A, s, ws, c, rfl, _⟩ := h
    rfl
  · obtain ⟨L, r, p, A, s, ws, c, rfl, hR, hp, hsy, hcl, hwl, hc, q⟩ := h
    have hi := hR.ins
    refine ⟨_, (pss_cons (ps_if (PW.pt (pw_and (pt_cmpR op_eq (pe_callB (callK (K := K) (r := qLen) (by rfl) q_len) (by rfl) T.z_len (by decide +kernel) (pa_cons (pv 1) pa_nil)) pe_int (nomark _)) (pw_and1 (pt_cmpR op_eq (pe_ix (ixK (K := K) (r := rIxL) (by rfl) ix_list) (pv 1) pe_int (fun _ _ => rfl)) pe_str (nomark _))))) (pss_cons (ps_expr (pe_meth (pv 0) T.cl_ProgramReader T.m_ProgramReader_check_signs G_ProgramReader_check_signs hr T.b_ProgramReader_check_signs .nil pass0 (pa_cons (pe_ix (ixK (K := K) (r := rIxL) (by rfl) ix_list) (pv 1) pe_int (fun _ _ => rfl)) pa_nil)))
      (pss_one (ps_ret (pe_make T.mk_Condition G_Condition_init hr (by rfl) T.g_Condition T.b_Condition_init .nil pass0 (pa_cons (pe_ix (ixK (K := K) (r := rIxL) (by rfl) ix_list) (pv 1) pe_int (fun _ _ => rfl)) (pa_cons pe_int (pa_cons pe_int pa_nil))))))) pss_nil)
      (pss_cons (ps_if (PW.pt (pw_and (pt_cmpR op_eq (pe_callB (callK (K := K) (r := qLen) (by rfl) q_len) (by rfl) T.z_len (by decide +kernel) (pa_cons (pv 1) pa_nil)) pe_int (nomark _)) (pw_and1 (pt_cmpR op_eq (pe_ix (ixK (K := K) (r := rIxL) (by rfl) ix_list) (pv 1) pe_int (fun _ _ => rfl)) pe_str (nomark _))))) (pss_cons (ps_set (i := 2) sc_ProgramReader_asked_in.nd rfl (by first | exact .inl rfl | exact .inr rfl) (pe_meth (pv 0) T.cl_ProgramReader T.m_ProgramReader_cell_of G_ProgramReader_cell_of hr T.b_ProgramReader_cell_of .nil pass0 (pa_cons (pe_ix (ixK (K := K) (r := rIxL) (by rfl) ix_list) (pv 1) pe_int (fun _ _ => rfl)) pa_nil)))
      (pss_one (ps_ret (pe_make T.mk_Condition G_Condition_init hr (by rfl) T.g_Condition T.b_Condition_init .nil pass0 (pa_cons pe_non (pa_cons (pv 2) (pa_cons (pe_meth (pv 0) T.cl_ProgramReader T.m_ProgramReader_number_of G_ProgramReader_number_of hr T.b_ProgramReader_number_of .nil pass0 (pa_cons (pe_ix (ixK (K := K) (r := rIxL) (by rfl) ix_list) (pv 1) pe_int (fun _ _ => rfl)) (pa_cons (pe_meth (pv 0) T.cl_ProgramReader T.m_ProgramReader_values_of G_ProgramReader_values_of hr T.b_ProgramReader_values_of .nil pass0 (pa_cons (pv 2) pa_nil)) pa_nil))) pa_nil))))))) pss_nil)
      (pss_one (ps_ret pe_non)))), ?_⟩
    unfold PR.askedIn at hc
    split at hc
    · rename_i a b
      split at hc
      rotate_left
      · cases hc
      rename_i ha
      subst ha
      split at hc
      rotate_left
      · cases hc
      rename_i hsg
      cases hc
      simp only [List.map_cons, List.map_nil] at hp
      repeat walk_at "st"
      rw [decide_eq_true (show V.int (([V.str "at", V.str b].length : Nat) : Int) = V.int 2 from rfl)]
      repeat walk_at "st"
      refine ⟨L, r, A, s, b, rfl, hR, hsy, hwl b (by simp), hsg, fun H1 s1 => ?_⟩
      have hp1 := s1 _ _ hp
      repeat walk_at "st"
      refine e_make fun x dx H2 nx hx s2 => ?_
      refine ⟨x, dx, some b, 0, 0, rfl, hx, fun H3 h3 s3 => ⟨rfl, ?_⟩⟩
      have nxH : H x = none := none_back s1 nx
      exact q x dx H3 nxH h3 (Same.new (s1.trans s2) s3 fun z hz => by rw [hz]; exact nxH)
    · rename_i a b c0
      split at hc
      rotate_left
      · cases hc
      rename_i ha
      subst ha
      split at hc
      · cases hc
      rename_i i hix
      split at hc
      · cases hc
      rename_i n hn
      cases hc
      simp only [List.map_cons, List.map_nil] at hp
      repeat walk_at "st"
      rw [decide_eq_false (show ¬ V.int (([V.str a, V.str "=", V.str c0].length : Nat) : Int) = V.int 2 from fun z => by injection z with z; exact absurd (show (3 : Int) = 2 from z) (by decide))]
      repeat walk_at "st"
      rw [decide_eq_true (show V.int (([V.str a, V.str "=", V.str c0].length : Nat) : Int) = V.int 3 from rfl)]
      repeat walk_at "st"
      refine ⟨L, r, A, s, a, i, rfl, hR, hcl, hix, fun H1 s1 => ?_⟩
      have hp1 := s1 _ _ hp
      have hR1 := hR.same s1
      have hi1 := hR1.ins
      repeat walk_at "st"
      refine ⟨L, r, A, s, i, rfl, hR1, cellIx_lt hix, fun v H2 s2 hv => ?_⟩
      have hi2 := s2 _ _ hi1
      repeat walk_at "st"
      refine ⟨M0, r, c0, v, _, n, rfl, hv, values_sub s i, hn, ?_⟩
      repeat walk_at "st"
      refine e_make fun x dx H3 nx hx s3 => ?_
      refine ⟨x, dx, none, i, n, rfl, hx, fun H4 h4 s4 => ⟨rfl, ?_⟩⟩
      have nxH : H x = none := none_back (s1.trans s2) nx
      exact q x dx H4 nxH h4 (Same.new ((s1.trans s2).trans s3) s4 fun z hz => by rw [hz]; exact nxH)
    · cases hc
end
end K09

namespace K09
open PySem PySem.Spec PyProof.Rows L2 FG
local macro_rules | `(tactic| walk_at "sq") => `(tactic| first
  | assumption
  | exact SqL.of (by assumption)
  | exact SqT.of (by assumption)
  | exact SqLm.l (by assumption)
  | exact SqTm.t (by assumption))
local macro_rules | `(tactic| walk_at "cond") => `(tactic| first
  | assumption
  | (show (0 : Int) < _; omega)
  | (show (0 : Int) < _ ∧ _ < 1073741824; omega))
local macro_rules | `(tactic| walk_at "st") => `(tactic| first
  | with_reducible refine b_seq ?_
  | with_reducible refine b_asg ?_
  | with_reducible refine b_op ?_
  | ((with_reducible refine' b_var ?hv ?_); (case hv => exact rfl))
  | with_reducible refine b_c ?_
  | with_reducible refine b_name ?_
  | with_reducible refine b_I0 ?_
  | with_reducible refine b_cons ?_
  | with_reducible refine b_nil ?_
  | with_reducible refine b_cb ?_
  | with_reducible refine b_call ?_
  | with_reducible refine b_ret ?_
  | with_reducible refine b_ifS ?_
  | with_reducible refine b_test ?_
  | with_reducible refine b_tb ?_
  | with_reducible refine b_bl ?_
  | with_reducible refine b_blP ?_
  | with_reducible refine b_next ?_
  | with_reducible refine b_drop ?_
  | with_reducible refine b_dget ?_
  | with_reducible refine b_makeN ?_
  | with_reducible refine b_pairs ?_
  | with_reducible refine b_pairs0 ?_
  | with_reducible refine b_sub ?_
  | with_reducible refine b_chain ?_
  | with_reducible refine b_and ?_
  | with_reducible refine b_or ?_
  | with_reducible refine b_not ?_
  | with_reducible refine b_andV ?_
  | with_reducible refine b_orV ?_
  | with_reducible refine b_notV ?_
  | with_reducible refine b_if ?_
  | with_reducible refine b_par ?_
  | with_reducible refine b_parE ?_
  | ((with_reducible refine' b_aug ?hv ?_); (case hv => exact rfl))
  | with_reducible refine b_ip ?_
  | with_reducible refine b_retN ?_
  | with_reducible refine b_tup ?_
  | with_reducible refine b_lst ?_
  | with_reducible refine b_sl ?_
  | with_reducible refine b_part ?_
  | with_reducible refine b_partP ?_
  | with_reducible refine b_nopart ?_
  | with_reducible refine b_bm ?_
  | with_reducible refine b_m1 ?_
  | with_reducible refine b_m0 ?_
  | with_reducible refine b_yes ?_
  | with_reducible refine b_un ?_
  | with_reducible refine b_neg ?_
  | with_reducible refine b_isN ?_
  | with_reducible refine b_notN ?_
  | with_reducible refine b_inS ?_
  | with_reducible refine b_int ?_
  | with_reducible refine b_intB ?_
  | with_reducible refine b_abs ?_
  | with_reducible refine b_max ?_
  | with_reducible refine b_min ?_
  | ((with_reducible refine b_eq ?hv ?_); (case hv => exact rfl))
  | ((with_reducible refine b_ne ?hv ?_); (case hv => exact rfl))
  | ((with_reducible refine' b_lenL ?hv ?_); (case hv => walk_at "sq"))
  | ((with_reducible refine' b_lenT ?hv ?_); (case hv => walk_at "sq"))
  | ((with_reducible refine' b_ixL ?hv ?hw ?_); (case hv => walk_at "sq"); (case hw => first | exact rfl | exact at0 | exact at1 | exact at2))
  | ((with_reducible refine' b_ixT ?hv ?hw ?_); (case hv => walk_at "sq"); (case hw => first | exact rfl | exact at0 | exact at1 | exact at2))
  | ((with_reducible refine b_I ?hv ?_); (case hv => walk_at "cond"))
  | with_reducible refine b_lcS ?_
  | with_reducible refine b_lcR ?_
  | with_reducible refine b_lcT ?_
  | with_reducible refine b_lcL ?_
  | with_reducible refine b_forT ?_
  | with_reducible refine b_forL ?_
  | with_reducible refine b_forR ?_
  | with_reducible refine b_turn ?_
  | ((with_reducible refine And.intro (a := wipe _ _ = wipe _ _) ?hv ?_); (case hv => exact rfl))
  | ((with_reducible refine And.intro (a := tyV _ "list" _ _) ?hv ?_); (case hv => exact ty_list (by assumption)))
  | with_reducible refine And.intro (a := ∃ a, V.str _ = V.str a) ⟨_, rfl⟩ ?_
  | (with_reducible refine iteT ?_)
  | (with_reducible refine iteNF ?_)
  | (with_reducible refine iteNT ?_)
  | (with_reducible refine iteVT ?_)
  | (with_reducible refine iteNVT ?_)
  | ((with_reducible refine iteVF ?hv ?_); (case hv => exact rfl))
  | ((with_reducible refine iteNVF ?hv ?_); (case hv => exact rfl))
  | with_reducible refine b_callS ?_
  | with_reducible refine b_xq ?_
  | with_reducible refine b_fld ?_
  | with_reducible refine b_sfld ?_
  | with_reducible refine b_meth ?_
  | with_reducible refine b_make ?_
  | with_reducible refine b_callK ?_
  | with_reducible refine b_sfa ?_
  | with_reducible refine b_lcEnT ?_
  | with_reducible refine b_lcEnL ?_
  | with_reducible refine b_forEnT ?_
  | with_reducible refine b_forEnL ?_
  | with_reducible refine b_lcZ ?_
  | with_reducible refine b_lcZX ?_
  | with_reducible refine b_prop ?_
  | with_reducible refine b_dput ?_
  | with_reducible refine b_din ?_
  | with_reducible refine b_inB ?_
  | with_reducible refine e_revT ?_
  | ((with_reducible refine' e_fld ?hv ?hc ?hn ?hl ?_); (case hv => assumption); (case hc => assumption); (case hn => assumption); (case hl => exact rfl))
  | ((with_reducible refine' e_meth ?hv ?hl ?_); (case hv => assumption); (case hl => exact rfl))
  | (with_reducible refine iteF ?_))

section
variable {P : Program} {w : World} {K : PySem.W.Frag} {mg : Str → Option Value} {base : Heap} {D : Ad}
/-- a statement that was just made: all its places are new -/
theorem fresh_node {H H' : Hp} {a dx b1 b2 : Addr} {av : V} {l c n : Nat} {k x : Str} {q : Option PR.Cond} (na : H a = none) (n1 : H b1 = none) (n2 : H b2 = none) (h : H' a = some (.ins D.c_Statement dx (StFs l k x c n av b1 b2)))
    (hc : CondAt D.c_Condition (Was H) H' av q) (h1 : H' b1 = some (.lst [])) (h2 : H' b2 = some (.lst [])) : STree D (Was H) H' (.ref a) (.mk l k x c n q [] []) :=
  .mk (fun z => z na) h hc (fun z => z n1) h1 .nil (fun z => z n2) h2 .nil
def sp_block (K : PySem.W.Frag) (D : Ad) : Sp := fun vs H Q _ => ∃ (L : List PR.Line) (r p : Addr) (A : RA) (s : PR.RS) (ws : List Str) (x : PR.St), vs = [.ref r, .ref p] ∧ RdAt K D L r A s H ∧ H p = some (.lst (ws.map V.str)) ∧ s.sy.length ≤ 1000 ∧ s.cells.length ≤ 1000 ∧ (∀ w ∈ ws, w.length ≤ 90000) ∧ ws.length ≤ 90000 ∧ (∀ w ∈ ws, PyData.canLay0 (.str w) = true) ∧
  PR.blockSt s ws = some x ∧ ∀ v H', STree D (Was H) H' v x → Same H H' → Q v H'
theorem eqvAll_strs : ∀ a b : List Str, PyData.eqvAll (a.map PyData.str) (b.map PyData.str) = decide (a = b)
  | [], [] => by simp [PyData.eqvAll]
  | [], b :: bs => by simp [PyData.eqvAll]
  | a :: as, [] => by simp [PyData.eqvAll]
  | a :: as, b :: bs => by
    simp only [List.map_cons, PyData.eqvAll]
    have e : PyData.eqv (.str a) (.str b) = (a == b) := by unfold PyData.eqv; rfl
    rw [e, eqvAll_strs as bs, Bool.eq_iff_iff]
    simp
theorem eqv_strs (a b : List Str) : PyData.eqv (.list (a.map PyData.str)) (.list (b.map PyData.str)) = decide (a = b) := by
  simp only [PyData.eqv]
  exact eqvAll_strs a b
theorem shaped_strs {a : List Str} (h : ∀ w ∈ a, PyData.canLay0 (.str w) = true) : SeqAt.shaped (.list (a.map PyData.str)) = true := by
  refine shaped_of ?_ ?_
  · simp only [PyData.canLay0]
    refine canLayAll_of fun d hd => ?_
    obtain ⟨w, hw, rfl⟩ := List.mem_map.mp hd
    exact h w hw
  · simp only [PyData.depth]
    have : PyData.depthAll (a.map PyData.str) ≤ 0 := depthAll_of fun d hd => by
      obtain ⟨p, _, rfl⟩ := List.mem_map.mp hd
      exact Nat.le_refl _
    omega
theorem ok_ProgramReader_block (T : Txt K mg D) {k : Nat} : FnOk P w K mg base CX0 (k + 5) D.f_ProgramReader_block D.d_ProgramReader_block P_ProgramReader_block (sp_block K D) := by
  have cl := T.cl_ProgramReader
  have n2 := T.n_ProgramReader_now
  have clS := T.cl_Statement
  have nS := T.n_Statement_asked
  have clC := T.cl_Condition
  have nC := T.n_Condition_is_turned
  have G_ProgramReader_asked_in : FnOk P w K mg base CX0 (k + 4) D.f_ProgramReader_asked_in D.d_ProgramReader_asked_in P_ProgramReader_asked_in (sp_asked_in K D) := ok_ProgramReader_asked_in T
  have G_ProgramReader_fail : FnOk P w K mg base CX0 (k + 4) D.f_ProgramReader_fail D.d_ProgramReader_fail P_ProgramReader_fail (fun _ _ _ _ => False) := never
  have G_Statement_init : FnOk P w K mg base CX0 (k + 3) D.f_Statement_init D.d_Statement_init P_Statement_init (sp_st_init D) := ok_Statement_init T
  refine T.f_ProgramReader_block.ok sc_ProgramReader_block (fun vs H Q E h => ?_) (fun cdv A outer s H vs Q E hr h => ?_)
  · obtain ⟨L, r, p, A, s, ws, x, rfl, _⟩ := h
    rfl
  · obtain ⟨L, r, p, A, s, ws, x, rfl, hR, hp, hsy, hcl, hwl, hwn, hlay, hx, q⟩ := h
    have hi := hR.ins
    refine ⟨_, (pss_cons (ps_par (i := 2) (j := 3) (by rfl) sc_ProgramReader_block.nd rfl rfl (by decide) rfl rfl (pa_cons (pe_make T.mk_Statement G_Statement_init hr (by rfl) T.g_Statement T.b_Statement_init .nil pass0 (pa_cons (pe_op op_add (pe_fldK (K := K) (by rfl) (pv 0) (by rfl)) pe_int) (pa_cons (pe_ix (ixK (K := K) (r := rIxL) (by rfl) ix_list) (pv 1) pe_int (fun _ _ => rfl)) pa_nil))) (pa_cons (pe_slice (slK (K := K) (r := rSlL) (by rfl) sl_list) (pv 1) (po_some pe_int) po_none) pa_nil)) (by rfl))
      (pss_cons (ps_set (i := 4) sc_ProgramReader_block.nd rfl (by first | exact .inl rfl | exact .inr rfl) (pe_cmpR (opK (K := K) (r := rEqQ) (by rfl) (op_eqQ hr.units)) (pe_slice (slK (K := K) (r := rSlL) (by rfl) sl_list) (pv 3) po_none (po_some pe_int)) (pe_lst (pa_cons pe_str pa_nil)) (nomark _)))
      (pss_cons (ps_set (i := 5) sc_ProgramReader_block.nd rfl (by first | exact .inl rfl | exact .inr rfl) (pe_meth (pv 0) T.cl_ProgramReader T.m_ProgramReader_asked_in G_ProgramReader_asked_in hr T.b_ProgramReader_asked_in .nil pass0 (pa_cons (pe_ifExp (pt_val (pv 4)) (pe_slice (slK (K := K) (r := rSlL) (by rfl) sl_list) (pv 3) (po_some pe_int) po_none) (pv 3)) pa_nil)))
      (pss_cons (ps_if (pt_cmpR o_isN (pv 5) pe_non (nomark _)) (pss_one (ps_expr (pe_meth0 (pv 0) T.cl_ProgramReader T.m_ProgramReader_fail G_ProgramReader_fail hr T.b_ProgramReader_fail .nil pass0))) pss_nil)
      (pss_cons (ps_fld (pv 5) (pv 4) rfl)
      (pss_cons (ps_fld (pv 2) (pv 5) rfl)
      (pss_one (ps_ret (pv 2))))))))), ?_⟩
    unfold PR.blockSt at hx
    split at hx
    · cases hx
    rename_i kd rest
    split at hx
    · cases hx
    rename_i c hc
    cases hx
    have hrl : rest.length ≤ 90000 := by simp at hwn; omega
    simp only [List.map_cons] at hp
    repeat walk_at "st"
    refine e_make fun a dx H1 na ha s1 => ?_
    refine ⟨a, dx, s.now + 1, kd, rfl, ha, fun b1 b2 H2 nb1 nb2 b1a b2a b12 hb1 hb2 ha2 s2 => ⟨rfl, ?_⟩⟩
    have s12 : Same H H2 := Same.new s1 s2 fun z hz => by rw [hz]; exact na
    have nb1H := none_back s1 nb1
    have nb2H := none_back s1 nb2
    have hp2 := s12 _ _ hp
    repeat walk_at "st"
    refine e_slL (SqL.of hp2) fun p3 H3 np3 hp3 s3 => ?_
    rw [show (1 : Int) = ((1 : Nat) : Int) from rfl, cut_from] at hp3
    simp only [List.drop_succ_cons, List.drop_zero] at hp3
    repeat walk_at "st"
    refine e_slL (SqL.of hp3) fun p4 H4 np4 hp4 s4 => ?_
    rw [show (1 : Int) = ((1 : Nat) : Int) from rfl, cut_to, ← List.map_take] at hp4
    repeat walk_at "st"
    refine e_lst fun p5 H5 np5 hp5 s5 => ?_
    have s25 : Same H2 H5 := (s3.trans s4).trans s5
    have hR5 := (hR.same s12).same s25
    have hi5 := hR5.ins
    have hp35 := s5 _ _ (s4 _ _ hp3)
    have lstD : ∀ ws : List Str, DqAll K M0 H5 (ws.map V.str) (ws.map PyData.str) := strs_all
    have t1 : Dq K M0 H5 (.ref p4) (.list ((rest.take 1).map PyData.str)) := Dq.newL (fun z => z) (s5 _ _ hp4) (lstD _)
    have t2 : Dq K M0 H5 (.ref p5) (.list [.str "not"]) := Dq.newL (fun z => z) hp5 (lstD [Str.ofString "not"])
    refine ⟨M0, M0, _, .list ([Str.ofString "not"].map PyData.str), t1, t2, shaped_strs (fun w hw => hlay w (List.mem_cons_of_mem _ (List.mem_of_mem_take hw))), by decide +kernel, ?_⟩
    rw [eqv_strs]
    repeat walk_at "st"
    have key : ∀ (p6 : Addr) (ws6 : List Str) (H6 : Hp) (t : Bool) (c6 : PR.Cond), Same H5 H6 → H6 p6 = some (.lst (ws6.map V.str)) → (∀ w ∈ ws6, w.length ≤ 90000) → PR.askedIn s ws6 false = some c6 → c = { c6 with turned := t } →
        ∀ (Q' : VK), (∀ (av dxc : Addr) (H7 : Hp), H6 av = none → H7 av = some (.ins D.c_Condition dxc (CondFs c6.signs c6.cell c6.num false)) → Same H6 H7 → Q' (.ref av) H7) → sp_asked_in K D [.ref r, .ref p6] H6 Q' E0 := by
      intro p6 ws6 H6 t c6 s6 hp6 hw6 hc6 _ Q' hq
      exact ⟨L, r, p6, A, s, ws6, c6, rfl, hR5.same s6, hp6, hsy, hcl, hw6, hc6, hq⟩
    have fin : ∀ (t : Bool) (c6 : PR.Cond) (av dxc : Addr) (H6 H7 : Hp), c = { c6 with turned := t } → Same H5 H6 → H6 av = none → H7 av = some (.ins D.c_Condition dxc (CondFs c6.signs c6.cell c6.num false)) → Same H6 H7 →
        ∀ H8, H8 av = some (.ins D.c_Condition dxc (CondFs c6.signs c6.cell c6.num t)) → SameM (· = av) H7 H8 → ∀ H9, H9 a = some (.ins D.c_Statement dx (StFs (s.now + 1) kd "" 0 0 (.ref av) b1 b2)) → SameM (· = a) H8 H9 → Q (.ref a) H9 := by
      intro t c6 av dxc H6 H7 hct s6 nav hav s7 H8 h8 s8 H9 h9 s9
      have s26 := s25.trans s6
      have nav2 : H2 av = none := none_back s26 nav
      have navH : H av = none := none_back s12 nav2
      have avb1 : b1 ≠ av := fun z => by rw [z] at hb1; rw [hb1] at nav2; cases nav2
      have avb2 : b2 ≠ av := fun z => by rw [z] at hb2; rw [hb2] at nav2; cases nav2
      have ava : a ≠ av := fun z => by rw [z] at ha2; rw [ha2] at nav2; cases nav2
      have s27 := s26.trans s7
      refine q (.ref a) H9 (fresh_node na nb1H nb2H h9 ?_ (s9 _ _ b1a (s8 _ _ avb1 (s27 _ _ hb1))) (s9 _ _ b2a (s8 _ _ avb2 (s27 _ _ hb2)))) ?_
      · subst hct
        exact ⟨fun z => z navH, dxc, s9 _ _ (Ne.symm ava) h8⟩
      · refine Same.new (Same.new (s12.trans s27) s8 fun z hz => by rw [hz]; exact navH) s9 fun z hz => by rw [hz]; exact na
    by_cases ht : rest.take 1 = [Str.ofString "not"]
    · rw [if_pos ht, asked_turn] at hc
      obtain ⟨c6, hc6, hct⟩ := Option.map_eq_some_iff.mp hc
      rw [decide_eq_true ht]
      repeat walk_at "st"
      refine e_slL (SqL.of hp35) fun p6 H6 np6 hp6 s6 => ?_
      rw [show (1 : Int) = ((1 : Nat) : Int) from rfl, cut_from, ← List.map_drop] at hp6
      have hi6 := s6 _ _ hi5
      repeat walk_at "st"
      refine key p6 _ H6 true c6 s6 hp6 (fun w hw => hwl w (List.mem_cons_of_mem _ (List.mem_of_mem_drop hw))) hc6 hct.symm _ fun av dxc H7 nav hav s7 => ?_
      repeat walk_at "st"
      refine e_sfld hav clC nC (show 4 < 1000 by decide) fun H8 h8 s8 => ?_
      have ha8 : H8 a = some (.ins D.c_Statement dx (StFs (s.now + 1) kd "" 0 0 .non b1 b2)) := by
        have e6 := s6 _ _ (s25 _ _ ha2)
        exact s8 _ _ (fun z => by rw [z, nav] at e6; cases e6) (s7 _ _ e6)
      repeat walk_at "st"
      refine e_sfld ha8 clS nS (show 8 < 1000 by decide) fun H9 h9 s9 => ?_
      repeat walk_at "st"
      exact fin true c6 av dxc H6 H7 hct.symm s6 nav hav s7 H8 h8 s8 H9 h9 s9
    · rw [if_neg ht] at hc
      rw [decide_eq_false ht]
      repeat walk_at "st"
      refine key p3 rest H5 false c (Same.refl H5) hp35 (fun w hw => hwl w (List.mem_cons_of_mem _ hw)) hc ?_ _ fun av dxc H7 nav hav s7 => ?_
      · have := asked_turn s rest false
        rw [hc] at this
        exact Option.some.inj this
      repeat walk_at "st"
      refine e_sfld hav clC nC (show 4 < 1000 by decide) fun H8 h8 s8 => ?_
      have ha8 : H8 a = some (.ins D.c_Statement dx (StFs (s.now + 1) kd "" 0 0 .non b1 b2)) := by
        have e6 := s25 _ _ ha2
        exact s8 _ _ (fun z => by rw [z, nav] at e6; cases e6) (s7 _ _ e6)
      repeat walk_at "st"
      refine e_sfld ha8 clS nS (show 8 < 1000 by decide) fun H9 h9 s9 => ?_
      repeat walk_at "st"
      refine fin false c av dxc H5 H7 ?_ (Same.refl H5) nav hav s7 H8 h8 s8 H9 h9 s9
      have := asked_turn s rest false
      rw [hc] at this
      exact Option.some.inj this
end
end K09

namespace K09
open PySem PySem.Spec PyProof.Rows L2 FG
local macro_rules | `(tactic| walk_at "sq") => `(tactic| first
  | assumption
  | exact SqL.of (by assumption)
  | exact SqT.of (by assumption)
  | exact SqLm.l (by assumption)
  | exact SqTm.t (by assumption))
local macro_rules | `(tactic| walk_at "cond") => `(tactic| first
  | assumption
  | (show (0 : Int) < _; omega)
  | (show (0 : Int) < _ ∧ _ < 1073741824; omega))
local macro_rules | `(tactic| walk_at "st") => `(tactic| first
  | with_reducible refine b_seq ?_
  | with_reducible refine b_asg ?_
  | with_reducible refine b_op ?_
  | ((with_reducible refine' b_var ?hv ?_); (case hv => exact rfl))
  | with_reducible refine b_c ?_
  | with_reducible refine b_name ?_
  | with_reducible refine b_I0 ?_
  | with_reducible refine b_cons ?_
  | with_reducible refine b_nil ?_
  | with_reducible refine b_cb ?_
  | with_reducible refine b_call ?_
  | with_reducible refine b_ret ?_
  | with_reducible refine b_ifS ?_
  | with_reducible refine b_test ?_
  | with_reducible refine b_tb ?_
  | with_reducible refine b_bl ?_
  | with_reducible refine b_blP ?_
  | with_reducible refine b_next ?_
  | with_reducible refine b_drop ?_
  | with_reducible refine b_dget ?_
  | with_reducible refine b_makeN ?_
  | with_reducible refine b_pairs ?_
  | with_reducible refine b_pairs0 ?_
  | with_reducible refine b_sub ?_
  | with_reducible refine b_chain ?_
  | with_reducible refine b_and ?_
  | with_reducible refine b_or ?_
  | with_reducible refine b_not ?_
  | with_reducible refine b_andV ?_
  | with_reducible refine b_orV ?_
  | with_reducible refine b_notV ?_
  | with_reducible refine b_if ?_
  | with_reducible refine b_par ?_
  | with_reducible refine b_parE ?_
  | ((with_reducible refine' b_aug ?hv ?_); (case hv => exact rfl))
  | with_reducible refine b_ip ?_
  | with_reducible refine b_retN ?_
  | with_reducible refine b_tup ?_
  | with_reducible refine b_lst ?_
  | with_reducible refine b_sl ?_
  | with_reducible refine b_part ?_
  | with_reducible refine b_partP ?_
  | with_reducible refine b_nopart ?_
  | with_reducible refine b_bm ?_
  | with_reducible refine b_m1 ?_
  | with_reducible refine b_m0 ?_
  | with_reducible refine b_yes ?_
  | with_reducible refine b_un ?_
  | with_reducible refine b_neg ?_
  | with_reducible refine b_isN ?_
  | with_reducible refine b_notN ?_
  | with_reducible refine b_inS ?_
  | with_reducible refine b_int ?_
  | with_reducible refine b_intB ?_
  | with_reducible refine b_abs ?_
  | with_reducible refine b_max ?_
  | with_reducible refine b_min ?_
  | ((with_reducible refine b_eq ?hv ?_); (case hv => exact rfl))
  | ((with_reducible refine b_ne ?hv ?_); (case hv => exact rfl))
  | ((with_reducible refine' b_lenL ?hv ?_); (case hv => walk_at "sq"))
  | ((with_reducible refine' b_lenT ?hv ?_); (case hv => walk_at "sq"))
  | ((with_reducible refine' b_ixL ?hv ?hw ?_); (case hv => walk_at "sq"); (case hw => first | exact rfl | exact at0 | exact at1 | exact at2))
  | ((with_reducible refine' b_ixT ?hv ?hw ?_); (case hv => walk_at "sq"); (case hw => first | exact rfl | exact at0 | exact at1 | exact at2))
  | ((with_reducible refine b_I ?hv ?_); (case hv => walk_at "cond"))
  | with_reducible refine b_lcS ?_
  | with_reducible refine b_lcR ?_
  | with_reducible refine b_lcT ?_
  | with_reducible refine b_lcL ?_
  | with_reducible refine b_forT ?_
  | with_reducible refine b_forL ?_
  | with_reducible refine b_forR ?_
  | with_reducible refine b_turn ?_
  | ((with_reducible refine And.intro (a := wipe _ _ = wipe _ _) ?hv ?_); (case hv => exact rfl))
  | ((with_reducible refine And.intro (a := tyV _ "list" _ _) ?hv ?_); (case hv => exact ty_list (by assumption)))
  | with_reducible refine And.intro (a := ∃ a, V.str _ = V.str a) ⟨_, rfl⟩ ?_
  | (with_reducible refine iteT ?_)
  | (with_reducible refine iteNF ?_)
  | (with_reducible refine iteNT ?_)
  | (with_reducible refine iteVT ?_)
  | (with_reducible refine iteNVT ?_)
  | ((with_reducible refine iteVF ?hv ?_); (case hv => exact rfl))
  | ((with_reducible refine iteNVF ?hv ?_); (case hv => exact rfl))
  | with_reducible refine b_callS ?_
  | with_reducible refine b_xq ?_
  | with_reducible refine b_fld ?_
  | with_reducible refine b_sfld ?_
  | with_reducible refine b_meth ?_
  | with_reducible refine b_make ?_
  | with_reducible refine b_callK ?_
  | with_reducible refine b_sfa ?_
  | with_reducible refine b_lcEnT ?_
  | with_reducible refine b_lcEnL ?_
  | with_reducible refine b_forEnT ?_
  | with_reducible refine b_forEnL ?_
  | with_reducible refine b_lcZ ?_
  | with_reducible refine b_lcZX ?_
  | with_reducible refine b_prop ?_
  | with_reducible refine b_dput ?_
  | with_reducible refine b_din ?_
  | with_reducible refine b_inB ?_
  | with_reducible refine e_revT ?_
  | ((with_reducible refine' e_fld ?hv ?hc ?hn ?hl ?_); (case hv => assumption); (case hc => assumption); (case hn => assumption); (case hl => exact rfl))
  | ((with_reducible refine' e_meth ?hv ?hl ?_); (case hv => assumption); (case hl => exact rfl))
  | (with_reducible refine iteF ?_))

section
variable {P : Program} {w : World} {K : PySem.W.Frag} {mg : Str → Option Value} {base : Heap} {D : Ad}
def sp_plain (K : PySem.W.Frag) (D : Ad) : Sp := fun vs H Q _ => ∃ (L : List PR.Line) (r p : Addr) (A : RA) (s : PR.RS) (ws : List Str) (x : PR.St), vs = [.ref r, .ref p] ∧ RdAt K D L r A s H ∧ H p = some (.lst (ws.map V.str)) ∧ s.cells.length ≤ 1000 ∧ s.bodies.length ≤ 1000 ∧ (∀ w ∈ ws, w.length ≤ 90000) ∧
  PR.plainSt s ws = some x ∧ ∀ v H', STree D (Was H) H' v x → Same H H' → Q v H'
theorem body_key {M : Addr → Prop} {H : Hp} {x : Str} : ∀ {kvs : List (Key × V)} {bs : List (Str × List PR.St)}, Bodies D M H kvs bs → (valV kvs (Sum.inr x)).isSome = PR.inS x (bs.map (·.1))
  | _, _, .nil => rfl
  | _, _, @Bodies.cons _ _ _ n b xs ss kvs bs _ _ _ r => by
    have ih := body_key (x := x) r
    unfold valV PR.inS at *
    rw [List.find?_cons]
    by_cases h : n = x
    · subst h
      simp
    · have h1 : decide ((Sum.inr n : Key) = Sum.inr x) = false := decide_eq_false fun z => h (by injection z)
      simp only [h1]
      rw [ih]
      refine decide_eq_decide.mpr ?_
      simp [Ne.symm h]
theorem ok_ProgramReader_plain (T : Txt K mg D) {k : Nat} : FnOk P w K mg base CX0 (k + 3) D.f_ProgramReader_plain D.d_ProgramReader_plain P_ProgramReader_plain (sp_plain K D) := by
  have cl := T.cl_ProgramReader
  have n2 := T.n_ProgramReader_now
  have n3 := T.n_ProgramReader_bodies
  have clS := T.cl_Statement
  have nS1 := T.n_Statement_own_word
  have nS2 := T.n_Statement_cell
  have nS3 := T.n_Statement_number
  have G_is_letter : FnOk P w K mg base CX0 (k + 2) D.f_is_letter D.d_is_letter P_is_letter (sp_is_letter K) := ok_is_letter T
  have G_ProgramReader_cell_of : FnOk P w K mg base CX0 (k + 2) D.f_ProgramReader_cell_of D.d_ProgramReader_cell_of P_ProgramReader_cell_of (sp_cell_of K D) := ok_ProgramReader_cell_of T
  have G_ProgramReader_values_of : FnOk P w K mg base CX0 (k + 2) D.f_ProgramReader_values_of D.d_ProgramReader_values_of P_ProgramReader_values_of (sp_values_of K D) := ok_ProgramReader_values_of T
  have G_ProgramReader_number_of : FnOk P w K mg base CX0 (k + 2) D.f_ProgramReader_number_of D.d_ProgramReader_number_of P_ProgramReader_number_of (sp_number_of K D) := ok_ProgramReader_number_of T
  have G_ProgramReader_fail : FnOk P w K mg base CX0 (k + 2) D.f_ProgramReader_fail D.d_ProgramReader_fail P_ProgramReader_fail (fun _ _ _ _ => False) := never
  have G_Statement_init : FnOk P w K mg base CX0 (k + 1) D.f_Statement_init D.d_Statement_init P_Statement_init (sp_st_init D) := ok_Statement_init T
  refine T.f_ProgramReader_plain.ok sc_ProgramReader_plain (fun vs H Q E h => ?_) (fun cdv A outer s H vs Q E hr h => ?_)
  · obtain ⟨L, r, p, A, s, ws, x, rfl, _⟩ := h
    rfl
  · obtain ⟨L, r, p, A, s, ws, x, rfl, hR, hp, hcl, hbl, hwl, hx, q⟩ := h
    have hi := hR.ins
    have tBARE : ∀ H' : Hp, SqT K H' D.k_BARE (PR.bare.map V.str) := fun H' => (strs_vals (strs_const (H := H') T.t_BARE)).elim fun a h => by cases h.1; exact h.2
    have tMOSTS : ∀ H' : Hp, Dq K M0 H' (.ref D.k_MOSTS) (strsD PR.mosts) := fun H' => strs_const T.t_MOSTS
    refine ⟨_, (pss_cons (ps_set (i := 2) sc_ProgramReader_plain.nd rfl (by first | exact .inl rfl | exact .inr rfl) (pe_make T.mk_Statement G_Statement_init hr (by rfl) T.g_Statement T.b_Statement_init .nil pass0 (pa_cons (pe_op op_add (pe_fldK (K := K) (by rfl) (pv 0) (by rfl)) pe_int) (pa_cons (pe_ix (ixK (K := K) (r := rIxL) (by rfl) ix_list) (pv 1) pe_int (fun _ _ => rfl)) pa_nil))))
      (pss_cons (ps_if (PW.pt (pw_and (pt_cmpR (opK (K := K) (r := fun K => rIn K false) (by rfl) op_in_seq) (pe_ix (ixK (K := K) (r := rIxL) (by rfl) ix_list) (pv 1) pe_int (fun _ _ => rfl)) (pe_glob (v := .ref D.k_BARE) (by rfl) T.g_BARE rfl) (by rfl)) (pw_and1 (pt_cmpR op_eq (pe_callB (callK (K := K) (r := qLen) (by rfl) q_len) (by rfl) T.z_len (by decide +kernel) (pa_cons (pv 1) pa_nil)) pe_int (nomark _))))) (pss_one (ps_ret (pv 2))) pss_nil)
      (pss_cons (ps_if (PW.pt (pw_and (pt_cmpR op_eq (pe_ix (ixK (K := K) (r := rIxL) (by rfl) ix_list) (pv 1) pe_int (fun _ _ => rfl)) pe_str (nomark _)) (pw_and (pt_cmpR op_eq (pe_callB (callK (K := K) (r := qLen) (by rfl) q_len) (by rfl) T.z_len (by decide +kernel) (pa_cons (pv 1) pa_nil)) pe_int (nomark _)) (pw_and1 (pt_val (pe_call G_is_letter hr (by rfl) T.g_is_letter T.f_is_letter.kp T.b_is_letter .nil pass0 (pa_cons (pe_ix (ixK (K := K) (r := rIxL) (by rfl) ix_list) (pv 1) pe_int (fun _ _ => rfl)) pa_nil))))))) (pss_cons (ps_fld (pv 2) (pe_ix (ixK (K := K) (r := rIxL) (by rfl) ix_list) (pv 1) pe_int (fun _ _ => rfl)) rfl)
      (pss_one (ps_ret (pv 2)))) pss_nil)
      (pss_cons (ps_if (PW.pt (pw_and (pt_cmpR op_eq (pe_ix (ixK (K := K) (r := rIxL) (by rfl) ix_list) (pv 1) pe_int (fun _ _ => rfl)) pe_str (nomark _)) (pw_and (pt_cmpR op_eq (pe_callB (callK (K := K) (r := qLen) (by rfl) q_len) (by rfl) T.z_len (by decide +kernel) (pa_cons (pv 1) pa_nil)) pe_int (nomark _)) (pw_and1 (pt_cmp (pc_din (unit1 hr) (pe_ix (ixK (K := K) (r := rIxL) (by rfl) ix_list) (pv 1) pe_int (fun _ _ => rfl)) (pe_fldK (K := K) (by rfl) (pv 0) (by rfl)))))))) (pss_cons (ps_fld (pv 2) (pe_ix (ixK (K := K) (r := rIxL) (by rfl) ix_list) (pv 1) pe_int (fun _ _ => rfl)) rfl)
      (pss_one (ps_ret (pv 2)))) pss_nil)
      (pss_cons (ps_if (PW.pt (pw_and (pt_cmpR (opK (K := K) (r := fun K => rIn K false) (by rfl) op_in_seq) (pe_ix (ixK (K := K) (r := rIxL) (by rfl) ix_list) (pv 1) pe_int (fun _ _ => rfl)) (pe_tup (pa_cons pe_str (pa_cons pe_str pa_nil))) (by rfl)) (pw_and1 (pt_cmpR op_eq (pe_callB (callK (K := K) (r := qLen) (by rfl) q_len) (by rfl) T.z_len (by decide +kernel) (pa_cons (pv 1) pa_nil)) pe_int (nomark _))))) (pss_cons (ps_fld (pv 2) (pe_meth (pv 0) T.cl_ProgramReader T.m_ProgramReader_cell_of G_ProgramReader_cell_of hr T.b_ProgramReader_cell_of .nil pass0 (pa_cons (pe_ix (ixK (K := K) (r := rIxL) (by rfl) ix_list) (pv 1) pe_int (fun _ _ => rfl)) pa_nil)) rfl)
      (pss_cons (ps_fld (pv 2) (pe_meth (pv 0) T.cl_ProgramReader T.m_ProgramReader_number_of G_ProgramReader_number_of hr T.b_ProgramReader_number_of .nil pass0 (pa_cons (pe_ix (ixK (K := K) (r := rIxL) (by rfl) ix_list) (pv 1) pe_int (fun _ _ => rfl)) (pa_cons (pe_ifExp (pt_cmpR op_eq (pe_ix (ixK (K := K) (r := rIxL) (by rfl) ix_list) (pv 1) pe_int (fun _ _ => rfl)) pe_str (nomark _)) (pe_glob (v := .ref D.k_MOSTS) (by rfl) T.g_MOSTS rfl) (pe_meth (pv 0) T.cl_ProgramReader T.m_ProgramReader_values_of G_ProgramReader_values_of hr T.b_ProgramReader_values_of .nil pass0 (pa_cons (pe_fldK (K := K) (by rfl) (pv 2) (by rfl)) pa_nil))) pa_nil))) rfl)
      (pss_one (ps_ret (pv 2))))) pss_nil)
      (pss_cons (ps_expr (pe_meth0 (pv 0) T.cl_ProgramReader T.m_ProgramReader_fail G_ProgramReader_fail hr T.b_ProgramReader_fail .nil pass0))
      (pss_one (ps_ret (pv 2))))))))), ?_⟩
    unfold PR.plainSt at hx
    split at hx
    · -- one word
      rename_i kd
      split at hx
      rotate_left
      · cases hx
      rename_i hin
      cases hx
      simp only [List.map_cons, List.map_nil] at hp
      repeat walk_at "st"
      refine e_make fun a dx H1 na ha s1 => ?_
      refine ⟨a, dx, s.now + 1, kd, rfl, ha, fun b1 b2 H2 nb1 nb2 b1a b2a b12 hb1 hb2 ha2 s2 => ⟨rfl, ?_⟩⟩
      have s12 : Same H H2 := Same.new s1 s2 fun z hz => by rw [hz]; exact na
      have hp2 := s12 _ _ hp
      repeat walk_at "st"
      refine b_inT (tBARE H2) rfl (flat_strs _) ?_
      rw [inV_str, hin]
      simp only [Bool.false_eq_true, if_false]
      repeat walk_at "st"
      rw [decide_eq_true (show V.int (([V.str kd].length : Nat) : Int) = V.int 1 from rfl)]
      repeat walk_at "st"
      exact q (.ref a) H2 (fresh_node na (none_back s1 nb1) (none_back s1 nb2) ha2 trivial hb1 hb2) s12
    · -- two words
      rename_i kd aw
      simp only [List.map_cons, List.map_nil] at hp
      have common : ∀ (kd : Str) (Qk : Prop), PR.inS kd PR.bare = false → True := fun _ _ _ => trivial
      split at hx
      · rename_i hc
        obtain ⟨rfl, hlw⟩ := hc
        cases hx
        repeat walk_at "st"
        refine e_make fun a dx H1 na ha s1 => ?_
        refine ⟨a, dx, s.now + 1, _, rfl, ha, fun b1 b2 H2 nb1 nb2 b1a b2a b12 hb1 hb2 ha2 s2 => ⟨rfl, ?_⟩⟩
        have s12 : Same H H2 := Same.new s1 s2 fun z hz => by rw [hz]; exact na
        have hp2 := s12 _ _ hp
        repeat walk_at "st"
        refine b_inT (tBARE H2) rfl (flat_strs _) ?_
        rw [inV_str, show PR.inS "write" PR.bare = false by decide +kernel]
        simp only [Bool.false_eq_true, if_false]
        repeat walk_at "st"
        rw [decide_eq_true (show V.int (([V.str "write", V.str aw].length : Nat) : Int) = V.int 2 from rfl)]
        repeat walk_at "st"
        refine ⟨M0, .str aw, .str aw, rfl, .str aw, fun y hy => by cases hy; exact hwl _ (by simp), ?_⟩
        rw [show letterD (.str aw) = true from hlw]
        repeat walk_at "st"
        refine e_sfld ha2 clS nS1 (show 8 < 1000 by decide) fun H3 h3 s3 => ?_
        repeat walk_at "st"
        exact q (.ref a) H3 (fresh_node na (none_back s1 nb1) (none_back s1 nb2) h3 trivial (s3 _ _ b1a hb1) (s3 _ _ b2a hb2)) (Same.new s12 s3 fun z hz => by rw [hz]; exact na)
      · rename_i hnw
        split at hx
        rotate_left
        · cases hx
        rename_i hc
        obtain ⟨rfl, hbi⟩ := hc
        cases hx
        repeat walk_at "st"
        refine e_make fun a dx H1 na ha s1 => ?_
        refine ⟨a, dx, s.now + 1, _, rfl, ha, fun b1 b2 H2 nb1 nb2 b1a b2a b12 hb1 hb2 ha2 s2 => ⟨rfl, ?_⟩⟩
        have s12 : Same H H2 := Same.new s1 s2 fun z hz => by rw [hz]; exact na
        have hp2 := s12 _ _ hp
        have hR2 := hR.same s12
        have hi2 := hR2.ins
        obtain ⟨kvs, hbd, hbs⟩ := hR2.bods
        repeat walk_at "st"
        refine b_inT (tBARE H2) rfl (flat_strs _) ?_
        rw [inV_str, show PR.inS "do" PR.bare = false by decide +kernel]
        simp only [Bool.false_eq_true, if_false]
        repeat walk_at "st"
        rw [decide_eq_false (show ¬ V.str "do" = V.str "write" from fun z => absurd z (by decide))]
        repeat walk_at "st"
        rw [decide_eq_true (show V.int (([V.str "do", V.str aw].length : Nat) : Int) = V.int 2 from rfl)]
        repeat walk_at "st"
        refine e_din (k := Sum.inr aw) hbd ?_
        rw [body_key hbs, hbi]
        repeat walk_at "st"
        refine e_sfld ha2 clS nS1 (show 8 < 1000 by decide) fun H3 h3 s3 => ?_
        repeat walk_at "st"
        exact q (.ref a) H3 (fresh_node na (none_back s1 nb1) (none_back s1 nb2) h3 trivial (s3 _ _ b1a hb1) (s3 _ _ b2a hb2)) (Same.new s12 s3 fun z hz => by rw [hz]; exact na)
    · -- three words
      rename_i kd aw bw
      simp only [List.map_cons, List.map_nil] at hp
      split at hx
      rotate_left
      · cases hx
      rename_i hsa
      split at hx
      · cases hx
      rename_i i hix
      split at hx
      · cases hx
      rename_i n hn
      cases hx
      have e1 : PR.inS kd PR.bare = false := by
        rcases hsa with rfl | rfl <;> decide +kernel
      have e2 : ¬ V.str kd = V.str "write" := by
        rcases hsa with rfl | rfl <;> decide
      have e3 : ¬ V.str kd = V.str "do" := by
        rcases hsa with rfl | rfl <;> decide
      have e4 : PR.inS kd [Str.ofString "set", Str.ofString "add"] = true := by
        rcases hsa with rfl | rfl <;> decide +kernel
      repeat walk_at "st"
      refine e_make fun a dx H1 na ha s1 => ?_
      refine ⟨a, dx, s.now + 1, _, rfl, ha, fun b1 b2 H2 nb1 nb2 b1a b2a b12 hb1 hb2 ha2 s2 => ⟨rfl, ?_⟩⟩
      have s12 : Same H H2 := Same.new s1 s2 fun z hz => by rw [hz]; exact na
      have hp2 := s12 _ _ hp
      have hR2 := hR.same s12
      have hi2 := hR2.ins
      repeat walk_at "st"
      refine b_inT (tBARE H2) rfl (flat_strs _) ?_
      rw [inV_str, e1]
      simp only [Bool.false_eq_true, if_false]
      repeat walk_at "st"
      rw [decide_eq_false e2]
      repeat walk_at "st"
      rw [decide_eq_false e3]
      repeat walk_at "st"
      refine e_tup fun tp H3 ntp htp s3 => ?_
      refine b_inT (SqT.of htp) rfl (flat_strs [Str.ofString "set", Str.ofString "add"]) ?_
      rw [show [V.str "set", V.str "add"] = [Str.ofString "set", Str.ofString "add"].map V.str from rfl, inV_str, e4]
      simp only [Bool.false_eq_true, if_false]
      have hp3 := s3 _ _ hp2
      have hR3 := hR2.same s3
      have hi3 := hR3.ins
      have ha3 := s3 _ _ ha2
      repeat walk_at "st"
      rw [decide_eq_true (show V.int (([V.str kd, V.str aw, V.str bw].length : Nat) : Int) = V.int 3 from rfl)]
      repeat walk_at "st"
      refine ⟨L, r, A, s, aw, i, rfl, hR3, hcl, hix, fun H4 s4 => ?_⟩
      have ha4 := s4 _ _ ha3
      repeat walk_at "st"
      refine e_sfld ha4 clS nS2 (show 8 < 1000 by decide) fun H5 h5 s5 => ?_
      have s04 : Same H H4 := (s12.trans s3).trans s4
      have s05 : Same H H5 := Same.new s04 s5 fun z hz => by rw [hz]; exact na
      have hp5 := s05 _ _ hp
      have hR5 := hR.same s05
      have hi5 := hR5.ins
      have nb1H := none_back s1 nb1
      have nb2H := none_back s1 nb2
      have fin : ∀ H6, Same H5 H6 → ∀ H7, H7 a = some (.ins D.c_Statement dx (StFs (s.now + 1) kd "" i n .non b1 b2)) → SameM (· = a) H6 H7 → Q (.ref a) H7 := by
        intro H6 s6 H7 h7 s7
        have k1 : ∀ {b : Addr}, b ≠ a → H2 b = some (.lst []) → H7 b = some (.lst []) := fun hb e => s7 _ _ hb (s6 _ _ (s5 _ _ hb (s4 _ _ (s3 _ _ e))))
        exact q (.ref a) H7 (fresh_node na nb1H nb2H h7 trivial (k1 b1a hb1) (k1 b2a hb2)) (Same.new (s05.trans s6) s7 fun z hz => by rw [hz]; exact na)
      repeat walk_at "st"
      by_cases hadd : kd = Str.ofString "add"
      · rw [decide_eq_true (show V.str kd = V.str "add" by rw [hadd])]
        rw [if_pos hadd] at hn
        repeat walk_at "st"
        refine ⟨M0, r, bw, _, PR.mosts, n, rfl, tMOSTS H5, by decide, hn, ?_⟩
        repeat walk_at "st"
        refine e_sfld h5 clS nS3 (show 8 < 1000 by decide) fun H7 h7 s7 => ?_
        repeat walk_at "st"
        exact fin H5 (Same.refl H5) H7 h7 s7
      · rw [decide_eq_false (show ¬ V.str kd = V.str "add" from fun z => hadd (by injection z))]
        rw [if_neg hadd] at hn
        repeat walk_at "st"
        refine ⟨L, r, A, s, i, rfl, hR5, cellIx_lt hix, fun v H6 s6 hv => ?_⟩
        have hi6 := s6 _ _ hi5
        have h56 := s6 _ _ h5
        repeat walk_at "st"
        refine ⟨M0, r, bw, v, _, n, rfl, hv, values_sub s i, hn, ?_⟩
        repeat walk_at "st"
        refine e_sfld h56 clS nS3 (show 8 < 1000 by decide) fun H7 h7 s7 => ?_
        repeat walk_at "st"
        exact fin H6 s6 H7 h7 s7
    · cases hx
end
end K09

namespace K09
open PySem PySem.Spec PyProof.Rows L2 FG
local macro_rules | `(tactic| walk_at "sq") => `(tactic| first
  | assumption
  | exact SqL.of (by assumption)
  | exact SqT.of (by assumption)
  | exact SqLm.l (by assumption)
  | exact SqTm.t (by assumption))
local macro_rules | `(tactic| walk_at "cond") => `(tactic| first
  | assumption
  | (show (0 : Int) < _; omega)
  | (show (0 : Int) < _ ∧ _ < 1073741824; omega))
local macro_rules | `(tactic| walk_at "st") => `(tactic| first
  | with_reducible refine b_seq ?_
  | with_reducible refine b_asg ?_
  | with_reducible refine b_op ?_
  | ((with_reducible refine' b_var ?hv ?_); (case hv => exact rfl))
  | with_reducible refine b_c ?_
  | with_reducible refine b_name ?_
  | with_reducible refine b_I0 ?_
  | with_reducible refine b_cons ?_
  | with_reducible refine b_nil ?_
  | with_reducible refine b_cb ?_
  | with_reducible refine b_call ?_
  | with_reducible refine b_ret ?_
  | with_reducible refine b_ifS ?_
  | with_reducible refine b_test ?_
  | with_reducible refine b_tb ?_
  | with_reducible refine b_bl ?_
  | with_reducible refine b_blP ?_
  | with_reducible refine b_next ?_
  | with_reducible refine b_drop ?_
  | with_reducible refine b_dget ?_
  | with_reducible refine b_makeN ?_
  | with_reducible refine b_pairs ?_
  | with_reducible refine b_pairs0 ?_
  | with_reducible refine b_sub ?_
  | with_reducible refine b_chain ?_
  | with_reducible refine b_and ?_
  | with_reducible refine b_or ?_
  | with_reducible refine b_not ?_
  | with_reducible refine b_andV ?_
  | with_reducible refine b_orV ?_
  | with_reducible refine b_notV ?_
  | with_reducible refine b_if ?_
  | with_reducible refine b_par ?_
  | with_reducible refine b_parE ?_
  | ((with_reducible refine' b_aug ?hv ?_); (case hv => exact rfl))
  | with_reducible refine b_ip ?_
  | with_reducible refine b_retN ?_
  | with_reducible refine b_tup ?_
  | with_reducible refine b_lst ?_
  | with_reducible refine b_sl ?_
  | with_reducible refine b_part ?_
  | with_reducible refine b_partP ?_
  | with_reducible refine b_nopart ?_
  | with_reducible refine b_bm ?_
  | with_reducible refine b_m1 ?_
  | with_reducible refine b_m0 ?_
  | with_reducible refine b_yes ?_
  | with_reducible refine b_un ?_
  | with_reducible refine b_neg ?_
  | with_reducible refine b_isN ?_
  | with_reducible refine b_notN ?_
  | with_reducible refine b_inS ?_
  | with_reducible refine b_int ?_
  | with_reducible refine b_intB ?_
  | with_reducible refine b_abs ?_
  | with_reducible refine b_max ?_
  | with_reducible refine b_min ?_
  | ((with_reducible refine b_eq ?hv ?_); (case hv => exact rfl))
  | ((with_reducible refine b_ne ?hv ?_); (case hv => exact rfl))
  | ((with_reducible refine' b_lenL ?hv ?_); (case hv => walk_at "sq"))
  | ((with_reducible refine' b_lenT ?hv ?_); (case hv => walk_at "sq"))
  | ((with_reducible refine' b_ixL ?hv ?hw ?_); (case hv => walk_at "sq"); (case hw => first | exact rfl | exact at0 | exact at1 | exact at2))
  | ((with_reducible refine' b_ixT ?hv ?hw ?_); (case hv => walk_at "sq"); (case hw => first | exact rfl | exact at0 | exact at1 | exact at2))
  | ((with_reducible refine b_I ?hv ?_); (case hv => walk_at "cond"))
  | with_reducible refine b_lcS ?_
  | with_reducible refine b_lcR ?_
  | with_reducible refine b_lcT ?_
  | with_reducible refine b_lcL ?_
  | with_reducible refine b_forT ?_
  | with_reducible refine b_forL ?_
  | with_reducible refine b_forR ?_
  | with_reducible refine b_turn ?_
  | ((with_reducible refine And.intro (a := wipe _ _ = wipe _ _) ?hv ?_); (case hv => exact rfl))
  | ((with_reducible refine And.intro (a := tyV _ "list" _ _) ?hv ?_); (case hv => exact ty_list (by assumption)))
  | with_reducible refine And.intro (a := ∃ a, V.str _ = V.str a) ⟨_, rfl⟩ ?_
  | (with_reducible refine iteT ?_)
  | (with_reducible refine iteNF ?_)
  | (with_reducible refine iteNT ?_)
  | (with_reducible refine iteVT ?_)
  | (with_reducible refine iteNVT ?_)
  | ((with_reducible refine iteVF ?hv ?_); (case hv => exact rfl))
  | ((with_reducible refine iteNVF ?hv ?_); (case hv => exact rfl))
  | with_reducible refine b_callS ?_
  | with_reducible refine b_xq ?_
  | with_reducible refine b_fld ?_
  | with_reducible refine b_sfld ?_
  | with_reducible refine b_meth ?_
  | with_reducible refine b_make ?_
  | with_reducible refine b_callK ?_
  | with_reducible refine b_sfa ?_
  | with_reducible refine b_lcEnT ?_
  | with_reducible refine b_lcEnL ?_
  | with_reducible refine b_forEnT ?_
  | with_reducible refine b_forEnL ?_
  | with_reducible refine b_lcZ ?_
  | with_reducible refine b_lcZX ?_
  | with_reducible refine b_prop ?_
  | with_reducible refine b_dput ?_
  | with_reducible refine b_din ?_
  | with_reducible refine b_inB ?_
  | with_reducible refine e_revT ?_
  | ((with_reducible refine' e_fld ?hv ?hc ?hn ?hl ?_); (case hv => assumption); (case hc => assumption); (case hn => assumption); (case hl => exact rfl))
  | ((with_reducible refine' e_meth ?hv ?hl ?_); (case hv => assumption); (case hl => exact rfl))
  | (with_reducible refine iteF ?_))

section
variable {P : Program} {w : World} {K : PySem.W.Frag} {mg : Str → Option Value} {base : Heap} {D : Ad}
def InsAt (D : Ad) (r : Addr) (A : RA) (s : PR.RS) (H : Hp) : Prop := H r = some (.ins D.c_ProgramReader A.dx [("rows", .ref A.rw), ("now", .int (s.now : Nat)), ("own_symbols", .str s.sy), ("own_cells", .ref A.cl), ("names", .ref A.nm), ("bodies", .ref A.bd), ("main", A.mn), ("own_many", .int (s.many : Nat))])
theorem RdAt.step {L : List PR.Line} {r : Addr} {A : RA} {s s' : PR.RS} {H H' : Hp} (h : RdAt K D L r A s H) (k : PR.Kept L s s') (t : SameM (· = r) H H') (hi : InsAt D r A s' H') : RdAt K D L r A s' H' := by
  have sM : SameM (RM r A) H H' := t.sub fun a z => .inl z
  obtain ⟨cs, hc, hcd⟩ := h.cells
  obtain ⟨kvs, hb, hbd⟩ := h.bods
  have e0 := h.ins
  refine ⟨hi, t _ _ (fun z => h.rwM (.inl z)) h.rows, ⟨cs, t _ _ (fun z => by rw [z, e0] at hc; cases hc) hc, ?_⟩, ?_, ⟨kvs, t _ _ (fun z => by rw [z, e0] at hb; cases hb) hb, ?_⟩, h.rwM, h.clnm⟩
  · rw [k.cells]; exact hcd.mono sM
  · rw [k.names]; exact t _ _ (fun z => by have := h.names; rw [z, e0] at this; cases this) h.names
  · rw [k.bodies]; exact hbd.mono sM
structure SmallR (s : PR.RS) : Prop where
  sy : s.sy.length ≤ 1000
  cells : s.cells.length ≤ 1000
  bodies : s.bodies.length ≤ 1000
theorem SmallR.kept {L : List PR.Line} {s s' : PR.RS} (h : SmallR s) (k : PR.Kept L s s') : SmallR s' := ⟨by rw [k.sy]; exact h.sy, by rw [k.cells]; exact h.cells, by rw [k.bodies]; exact h.bodies⟩
def sp_stmt (K : PySem.W.Frag) (D : Ad) (e : Nat) : Sp := fun vs H Q _ => ∃ (L : List PR.Line) (r : Addr) (A : RA) (s s' : PR.RS) (d : Nat) (x : PR.St), vs = [.ref r, .int (d : Nat)] ∧ RdAt K D L r A s H ∧ LOk L ∧ SmallR s ∧ s.now ≤ L.length ∧ d ≤ 9 ∧ PR.rdS L e d s = some (x, s') ∧
  ∀ v H', STree D (Was H) H' v x → InsAt D r A s' H' → SameM (· = r) H H' → Q v H'
def sp_body (K : PySem.W.Frag) (D : Ad) (e : Nat) : Sp := fun vs H Q _ => ∃ (L : List PR.Line) (r : Addr) (A : RA) (s s' : PR.RS) (d : Nat) (b : List PR.St), vs = [.ref r, .int (d : Nat)] ∧ RdAt K D L r A s H ∧ LOk L ∧ SmallR s ∧ s.now ≤ L.length ∧ d ≤ 9 ∧ PR.rdB L e d s = some (b, s') ∧
  ∀ l xs H', H l = none → H' l = some (.lst xs) → STrees D (Was H) H' xs b → InsAt D r A s' H' → SameM (· = r) H H' → Q (.ref l) H'
theorem vac {k : Nat} {f : Addr} {fd : FuncData} {ps : List Str} {sp : Sp} (h : ∀ vs H Q E, ¬ sp vs H Q E) : FnOk P w K mg base CX0 k f fd ps sp := ⟨fun vs H Q E z => (h vs H Q E z).elim, fun _ _ _ H _ _ vs Q E _ _ _ _ z => (h vs H Q E z).elim⟩
theorem c2 {d : Nat} (hd : d ≤ 9) : CMulW 2 (d : Int) := cmul (by decide) (by decide) (by omega) (by omega)
theorem was_keep {r : Addr} {A : RA} {s : PR.RS} {H H' : Hp} (t : SameM (· = r) H H') (hi : InsAt D r A s H') {a : Addr} (h : Was H a) : Was H' a := by
  intro z
  by_cases e : a = r
  · subst e
    rw [hi] at z; cases z
  · cases q : H a with
    | none => exact h q
    | some o => rw [t _ _ e q] at z; cases z
theorem ok_body_of (T : Txt K mg D) {e k : Nat} (hst : FnOk P w K mg base CX0 (k + 6) D.f_ProgramReader_read_statement D.d_ProgramReader_read_statement P_ProgramReader_read_statement (sp_stmt K D e)) :
    FnOk P w K mg base CX0 (k + 7) D.f_ProgramReader_read_body D.d_ProgramReader_read_body P_ProgramReader_read_body (sp_body K D e) := by
  have cl := T.cl_ProgramReader
  have G_ProgramReader_read_statement := hst
  have G_ProgramReader_indent : FnOk P w K mg base CX0 (k + 6) D.f_ProgramReader_indent D.d_ProgramReader_indent P_ProgramReader_indent (sp_indent K D) := (ok_ProgramReader_indent T (k := 0)).mono (by omega)
  have G_ProgramReader_fail : FnOk P w K mg base CX0 (k + 6) D.f_ProgramReader_fail D.d_ProgramReader_fail P_ProgramReader_fail (fun _ _ _ _ => False) := never
  refine T.f_ProgramReader_read_body.ok sc_ProgramReader_read_body (fun vs H Q E h => ?_) (fun cdv A outer s H vs Q E hr h => ?_)
  · obtain ⟨L, r, A, s, s', d, b, rfl, _⟩ := h
    rfl
  · obtain ⟨L, r, A, s, s', d, b, rfl, hR, hL, hsm, hle, hd, hrd, q⟩ := h
    have hi := hR.ins
    unfold PR.rdB PR.bodyWith at hrd
    split at hrd
    · cases hrd
    rename_i x s1 e1
    have k1 := PR.rdS_kept e1
    refine ⟨_, (pss_cons (ps_set (i := 2) sc_ProgramReader_read_body.nd rfl (by first | exact .inl rfl | exact .inr rfl) (pe_lst (pa_cons (pe_meth (pv 0) T.cl_ProgramReader T.m_ProgramReader_read_statement G_ProgramReader_read_statement hr T.b_ProgramReader_read_statement .nil pass0 (pa_cons (pv 1) pa_nil)) pa_nil)))
      (pss_cons (ps_while PassesOwn.never (pt_cmpR op_eq (pe_meth0 (pv 0) T.cl_ProgramReader T.m_ProgramReader_indent G_ProgramReader_indent hr T.b_ProgramReader_indent .nil pass0) (pe_op op_mulW (pe_glob (v := .int 2) (by rfl) T.c_STEP.choose_spec ⟨_, rfl⟩) (pv 1)) (nomark _)) (pss_one (ps_expr (pe_bm PySem.F.plainAttrs_list PySem.F.slot_list_append PySem.F.type_list_append mt_append (pv 2) (pa_cons (pe_meth (pv 0) T.cl_ProgramReader T.m_ProgramReader_read_statement G_ProgramReader_read_statement hr T.b_ProgramReader_read_statement .nil pass0 (pa_cons (pv 1) pa_nil)) pa_nil)))))
      (pss_cons (ps_if (pt_cmpR op_gt (pe_meth0 (pv 0) T.cl_ProgramReader T.m_ProgramReader_indent G_ProgramReader_indent hr T.b_ProgramReader_indent .nil pass0) (pe_op op_mulW (pe_glob (v := .int 2) (by rfl) T.c_STEP.choose_spec ⟨_, rfl⟩) (pv 1)) (nomark _)) (pss_one (ps_expr (pe_meth0 (pv 0) T.cl_ProgramReader T.m_ProgramReader_fail G_ProgramReader_fail hr T.b_ProgramReader_fail .nil pass0))) pss_nil)
      (pss_one (ps_ret (pv 2)))))), ?_⟩
    repeat walk_at "st"
    refine ⟨L, r, A, s, s1, d, x, rfl, hR, hL, hsm, hle, hd, e1, fun v H1 hv hi1 t1 => ?_⟩
    repeat walk_at "st"
    refine e_lst fun l H2 nl hl s2 => ?_
    have nlH : H l = none := none_backM t1 (fun z => by rw [z, hi1] at nl; cases nl) nl
    have hi2 : InsAt D r A s1 H2 := s2 _ _ hi1
    have t2 : SameM (· = r) H H2 := t1.trans (SameM.of s2)
    have hv2 : STree D (fun a => Was H a ∨ a = l) H2 v x := (hv.avoid (N := fun a => Was H a ∨ a = l) fun a z => z.elim .inl fun z => .inr (by rw [z]; exact nl)).mono (SameM.of s2)
    repeat walk_at "st"
    refine ⟨fun mm σ H' => ∃ (acc : List PR.St) (xs : List V) (sc : PR.RS), σ = [some (.ref r), some (.int (d : Nat)), some (.ref l)] ∧ PR.loopWith L (PR.rdS L e d) d mm sc acc = some (b, s') ∧ H' l = some (.lst xs) ∧ STrees D (fun a => Was H a ∨ a = l) H' xs acc ∧ InsAt D r A sc H' ∧ SameM (· = r) H H' ∧ PR.Kept L s sc ∧ acc.length ≤ sc.now,
      ⟨_, [x], [v], s1, rfl, hrd, hl, .cons hv2 .nil, hi2, t2, k1, (by have := PR.rdS_up e1; simp; omega)⟩, ?_⟩
    rintro mm σ Hw ⟨acc, xs, sc, rfl, hlp, hlw, hxs, hiw, tw, kw, hacc⟩
    have hxl := hxs.length
    have hRw := hR.step kw tw hiw
    have hiw' : Hw r = some _ := hiw
    repeat walk_at "st"
    refine ⟨L, r, A, sc, rfl, hRw, hL, kw.now, ?_⟩
    repeat walk_at "st"
    refine b_I (c2 hd) ?_
    repeat walk_at "st"
    cases mm with
    | zero => cases hlp
    | succ m =>
    unfold PR.loopWith at hlp
    by_cases hind : PR.ind L sc.now = 2 * (d : Int)
    · rw [if_pos hind] at hlp
      rw [decide_eq_true (show V.int (PR.ind L sc.now) = V.int (2 * (d : Int)) by rw [hind])]
      split at hlp
      · cases hlp
      rename_i y s2' e2
      have k2 := PR.rdS_kept e2
      refine ⟨fun σ' H' => ∃ (acc : List PR.St) (xs : List V) (sc : PR.RS), σ' = [some (.ref r), some (.int (d : Nat)), some (.ref l)] ∧ PR.loopWith L (PR.rdS L e d) d m sc acc = some (b, s') ∧ H' l = some (.lst xs) ∧ STrees D (fun a => Was H a ∨ a = l) H' xs acc ∧ InsAt D r A sc H' ∧ SameM (· = r) H H' ∧ PR.Kept L s sc ∧ acc.length ≤ sc.now, fun σ' H' z => ⟨m, Nat.lt_succ_self m, z⟩, ?_⟩
      repeat walk_at "st"
      refine ⟨L, r, A, sc, s2', d, y, rfl, hRw, hL, hsm.kept kw, kw.now, hd, e2, fun v2 H3 hv3 hi3 t3 => ?_⟩
      have hlr : l ≠ r := fun z => by rw [z, hiw'] at hlw; cases hlw
      have hl3 := t3 _ _ hlr hlw
      repeat walk_at "st"
      refine e_append hl3 (by have := kw.now; have := hL.few; omega) fun H4 h4 t4 => ?_
      repeat walk_at "st"
      have hrl : r ≠ l := Ne.symm hlr
      have hi4 : InsAt D r A s2' H4 := t4 _ _ hrl hi3
      have sub1 : SameM (fun a => Was H a ∨ a = l) Hw H3 := t3.sub fun a z => .inl (by rw [z]; exact hR.was r (.inl rfl))
      have sub2 : SameM (fun a => Was H a ∨ a = l) H3 H4 := t4.sub fun a z => .inr z
      refine ⟨acc ++ [y], xs ++ [v2], s2', rfl, hlp, h4, ?_, hi4, ?_, kw.trans k2, (by have := PR.rdS_up e2; simp; omega)⟩
      · refine ((hxs.mono sub1).mono sub2).append (.cons ?_ .nil)
        refine (hv3.avoid (N := fun a => Was H a ∨ a = l) fun a z => .inl ?_).mono sub2
        rcases z with z | rfl
        · exact was_keep tw hiw z
        · rw [Was, hlw]; simp
      · exact (tw.trans t3).two t4 nlH
    · rw [if_neg hind] at hlp
      rw [decide_eq_false (show ¬ V.int (PR.ind L sc.now) = V.int (2 * (d : Int)) from fun z => hind (by injection z))]
      split at hlp
      · cases hlp
      rename_i hgt
      cases hlp
      repeat walk_at "st"
      refine ⟨L, r, A, s', rfl, hRw, hL, kw.now, ?_⟩
      repeat walk_at "st"
      refine b_I (c2 hd) ?_
      repeat walk_at "st"
      rw [decide_eq_false (show ¬ (2 * (d : Int) < PR.ind L s'.now) from fun z => hgt z)]
      repeat walk_at "st"
      exact q l xs Hw nlH hlw (hxs.avoid fun a z => .inl (.inl z)) hiw tw
end
end K09

namespace K09
open PySem PySem.Spec PyProof.Rows L2 FG
local macro_rules | `(tactic| walk_at "sq") => `(tactic| first
  | assumption
  | exact SqL.of (by assumption)
  | exact SqT.of (by assumption)
  | exact SqLm.l (by assumption)
  | exact SqTm.t (by assumption))
local macro_rules | `(tactic| walk_at "cond") => `(tactic| first
  | assumption
  | (show (0 : Int) < _; omega)
  | (show (0 : Int) < _ ∧ _ < 1073741824; omega))
local macro_rules | `(tactic| walk_at "st") => `(tactic| first
  | with_reducible refine b_seq ?_
  | with_reducible refine b_asg ?_
  | with_reducible refine b_op ?_
  | ((with_reducible refine' b_var ?hv ?_); (case hv => exact rfl))
  | with_reducible refine b_c ?_
  | with_reducible refine b_name ?_
  | with_reducible refine b_I0 ?_
  | with_reducible refine b_cons ?_
  | with_reducible refine b_nil ?_
  | with_reducible refine b_cb ?_
  | with_reducible refine b_call ?_
  | with_reducible refine b_ret ?_
  | with_reducible refine b_ifS ?_
  | with_reducible refine b_test ?_
  | with_reducible refine b_tb ?_
  | with_reducible refine b_bl ?_
  | with_reducible refine b_blP ?_
  | with_reducible refine b_next ?_
  | with_reducible refine b_drop ?_
  | with_reducible refine b_dget ?_
  | with_reducible refine b_makeN ?_
  | with_reducible refine b_pairs ?_
  | with_reducible refine b_pairs0 ?_
  | with_reducible refine b_sub ?_
  | with_reducible refine b_chain ?_
  | with_reducible refine b_and ?_
  | with_reducible refine b_or ?_
  | with_reducible refine b_not ?_
  | with_reducible refine b_andV ?_
  | with_reducible refine b_orV ?_
  | with_reducible refine b_notV ?_
  | with_reducible refine b_if ?_
  | with_reducible refine b_par ?_
  | with_reducible refine b_parE ?_
  | ((with_reducible refine' b_aug ?hv ?_); (case hv => exact rfl))
  | with_reducible refine b_ip ?_
  | with_reducible refine b_retN ?_
  | with_reducible refine b_tup ?_
  | with_reducible refine b_lst ?_
  | with_reducible refine b_sl ?_
  | with_reducible refine b_part ?_
  | with_reducible refine b_partP ?_
  | with_reducible refine b_nopart ?_
  | with_reducible refine b_bm ?_
  | with_reducible refine b_m1 ?_
  | with_reducible refine b_m0 ?_
  | with_reducible refine b_yes ?_
  | with_reducible refine b_un ?_
  | with_reducible refine b_neg ?_
  | with_reducible refine b_isN ?_
  | with_reducible refine b_notN ?_
  | with_reducible refine b_inS ?_
  | with_reducible refine b_int ?_
  | with_reducible refine b_intB ?_
  | with_reducible refine b_abs ?_
  | with_reducible refine b_max ?_
  | with_reducible refine b_min ?_
  | ((with_reducible refine b_eq ?hv ?_); (case hv => exact rfl))
  | ((with_reducible refine b_ne ?hv ?_); (case hv => exact rfl))
  | ((with_reducible refine' b_lenL ?hv ?_); (case hv => walk_at "sq"))
  | ((with_reducible refine' b_lenT ?hv ?_); (case hv => walk_at "sq"))
  | ((with_reducible refine' b_ixL ?hv ?hw ?_); (case hv => walk_at "sq"); (case hw => first | exact rfl | exact at0 | exact at1 | exact at2))
  | ((with_reducible refine' b_ixT ?hv ?hw ?_); (case hv => walk_at "sq"); (case hw => first | exact rfl | exact at0 | exact at1 | exact at2))
  | ((with_reducible refine b_I ?hv ?_); (case hv => walk_at "cond"))
  | with_reducible refine b_lcS ?_
  | with_reducible refine b_lcR ?_
  | with_reducible refine b_lcT ?_
  | with_reducible refine b_lcL ?_
  | with_reducible refine b_forT ?_
  | with_reducible refine b_forL ?_
  | with_reducible refine b_forR ?_
  | with_reducible refine b_turn ?_
  | ((with_reducible refine And.intro (a := wipe _ _ = wipe _ _) ?hv ?_); (case hv => exact rfl))
  | ((with_reducible refine And.intro (a := tyV _ "list" _ _) ?hv ?_); (case hv => exact ty_list (by assumption)))
  | with_reducible refine And.intro (a := ∃ a, V.str _ = V.str a) ⟨_, rfl⟩ ?_
  | (with_reducible refine iteT ?_)
  | (with_reducible refine iteNF ?_)
  | (with_reducible refine iteNT ?_)
  | (with_reducible refine iteVT ?_)
  | (with_reducible refine iteNVT ?_)
  | ((with_reducible refine iteVF ?hv ?_); (case hv => exact rfl))
  | ((with_reducible refine iteNVF ?hv ?_); (case hv => exact rfl))
  | with_reducible refine b_callS ?_
  | with_reducible refine b_xq ?_
  | with_reducible refine b_fld ?_
  | with_reducible refine b_sfld ?_
  | with_reducible refine b_meth ?_
  | with_reducible refine b_make ?_
  | with_reducible refine b_callK ?_
  | with_reducible refine b_sfa ?_
  | with_reducible refine b_lcEnT ?_
  | with_reducible refine b_lcEnL ?_
  | with_reducible refine b_forEnT ?_
  | with_reducible refine b_forEnL ?_
  | with_reducible refine b_lcZ ?_
  | with_reducible refine b_lcZX ?_
  | with_reducible refine b_prop ?_
  | with_reducible refine b_dput ?_
  | with_reducible refine b_din ?_
  | with_reducible refine b_inB ?_
  | with_reducible refine e_revT ?_
  | ((with_reducible refine' e_fld ?hv ?hc ?hn ?hl ?_); (case hv => assumption); (case hc => assumption); (case hn => assumption); (case hl => exact rfl))
  | ((with_reducible refine' e_meth ?hv ?hl ?_); (case hv => assumption); (case hl => exact rfl))
  | (with_reducible refine iteF ?_))

section
variable {P : Program} {w : World} {K : PySem.W.Frag} {mg : Str → Option Value} {base : Heap} {D : Ad}
theorem row_word {L : List PR.Line} (hL : LOk L) {l : PR.Line} (hl : l ∈ L) : ∀ w ∈ l.ws, w.length ≤ 90000 := by
  intro w hw
  have h1 := hL.short l hl
  have h2 := PR.row_len l
  have h3 : ∀ ws : List Str, w ∈ ws → w.length ≤ (PR.wordsText ws).length := by
    intro ws
    unfold PR.wordsText
    rw [TL.join_eq]
    induction ws with
    | nil => intro h; cases h
    | cons a ws ih =>
      intro h
      cases ws with
      | nil => rw [List.mem_singleton.mp h]; exact Nat.le_refl _
      | cons b r =>
        show _ ≤ (a ++ Str.ofString " " ++ Str.join " " (b :: r)).length
        rw [strLen_append, strLen_append]
        rcases List.mem_cons.mp h with rfl | h
        · omega
        · have := ih h
          omega
  have := h3 l.ws hw
  omega
theorem row_many {L : List PR.Line} (hL : LOk L) {l : PR.Line} (hl : l ∈ L) : l.ws.length ≤ 90000 := by
  have h1 := hL.short l hl
  have h2 := PR.row_len l
  have hok := (hL.ok l hl).2
  have h3 : ∀ ws : List Str, (∀ w ∈ ws, PR.okWord w) → ws.length ≤ (PR.wordsText ws).length := by
    intro ws
    unfold PR.wordsText
    rw [TL.join_eq]
    induction ws with
    | nil => intro _; exact Nat.zero_le _
    | cons a ws ih =>
      intro h
      have ha : 1 ≤ a.length := by
        have := (h a List.mem_cons_self).1
        have e : a.length = a.cps.toList.length := by simp [Str.length]
        rw [e]
        cases q : a.cps.toList with
        | nil => exact absurd q this
        | cons _ _ => simp
      cases ws with
      | nil => exact ha
      | cons b r =>
        have := ih fun w hw => h w (List.mem_cons_of_mem _ hw)
        show _ ≤ (a ++ Str.ofString " " ++ Str.join " " (b :: r)).length
        rw [strLen_append, strLen_append]
        simp only [List.length_cons] at *
        omega
  have := h3 l.ws hok
  omega
theorem ok_stmt_of (T : Txt K mg D) {e k : Nat} (hbd : FnOk P w K mg base CX0 (k + 7) D.f_ProgramReader_read_body D.d_ProgramReader_read_body P_ProgramReader_read_body (sp_body K D e)) :
    FnOk P w K mg base CX0 (k + 8) D.f_ProgramReader_read_statement D.d_ProgramReader_read_statement P_ProgramReader_read_statement (sp_stmt K D (e + 1)) := by
  have cl := T.cl_ProgramReader
  have n1 := T.n_ProgramReader_own_many
  have n2 := T.n_ProgramReader_now
  have clS := T.cl_Statement
  have nb1 := T.n_Statement_body
  have nb2 := T.n_Statement_else_body
  have G_ProgramReader_read_body := hbd
  have G_ProgramReader_indent : FnOk P w K mg base CX0 (k + 7) D.f_ProgramReader_indent D.d_ProgramReader_indent P_ProgramReader_indent (sp_indent K D) := (ok_ProgramReader_indent T (k := 0)).mono (by omega)
  have G_ProgramReader_words : FnOk P w K mg base CX0 (k + 7) D.f_ProgramReader_words D.d_ProgramReader_words P_ProgramReader_words (sp_words K D) := (ok_ProgramReader_words T (k := 0)).mono (by omega)
  have G_ProgramReader_block : FnOk P w K mg base CX0 (k + 7) D.f_ProgramReader_block D.d_ProgramReader_block P_ProgramReader_block (sp_block K D) := (ok_ProgramReader_block T (k := 0)).mono (by omega)
  have G_ProgramReader_plain : FnOk P w K mg base CX0 (k + 7) D.f_ProgramReader_plain D.d_ProgramReader_plain P_ProgramReader_plain (sp_plain K D) := (ok_ProgramReader_plain T (k := 0)).mono (by omega)
  have G_ProgramReader_fail : FnOk P w K mg base CX0 (k + 7) D.f_ProgramReader_fail D.d_ProgramReader_fail P_ProgramReader_fail (fun _ _ _ _ => False) := never
  refine T.f_ProgramReader_read_statement.ok sc_ProgramReader_read_statement (fun vs H Q E h => ?_) (fun cdv A outer s H vs Q E hr h => ?_)
  · obtain ⟨L, r, A, s, s', d, x, rfl, _⟩ := h
    rfl
  · obtain ⟨L, r, A, s, s', d, x, rfl, hR, hL, hsm, hle, hd, hrd, q⟩ := h
    have hi := hR.ins
    have tBL : ∀ H' : Hp, SqT K H' D.k_BLOCKS (PR.blocks.map V.str) := fun H' => (strs_vals (strs_const (H := H') T.t_BLOCKS)).elim fun a h => by cases h.1; exact h.2
    unfold PR.rdS PR.stmtWith at hrd
    split at hrd
    · cases hrd
    rename_i hok
    have h1 : PR.ind L s.now = 2 * (d : Int) := by
      false_or_by_contra
      rename_i z
      exact hok (.inl z)
    have h2 : d ≤ 4 := by
      false_or_by_contra
      rename_i z
      exact hok (.inr (.inl (by omega)))
    have h3 : s.many ≠ 20 := fun z => hok (.inr (.inr z))
    have hnow := PR.ind_lt h1
    obtain ⟨l, hl⟩ : ∃ l, L[s.now]? = some l := ⟨L[s.now], List.getElem?_eq_getElem hnow⟩
    have hlm := List.mem_of_getElem? hl
    have hwd : PR.wds L s.now = l.ws := by
      unfold PR.wds
      rw [hl]
    rw [hwd] at hrd
    have hwl := row_word hL hlm
    have hwn := row_many hL hlm
    have hlay := hL.lay l hlm
    refine ⟨_, (pss_cons (ps_if (PW.pt (pw_or (pt_cmpR op_ne (pe_meth0 (pv 0) T.cl_ProgramReader T.m_ProgramReader_indent G_ProgramReader_indent hr T.b_ProgramReader_indent .nil pass0) (pe_op op_mulW (pe_glob (v := .int 2) (by rfl) T.c_STEP.choose_spec ⟨_, rfl⟩) (pv 1)) (nomark _)) (pw_or (pt_cmpR op_gt (pv 1) (pe_glob (v := .int 4) (by rfl) T.c_MOST_DEPTH.choose_spec ⟨_, rfl⟩) (nomark _)) (pw_or1 (pt_cmpR op_eq (pe_fldK (K := K) (by rfl) (pv 0) (by rfl)) (pe_glob (v := .int 20) (by rfl) T.c_MOST_STATEMENTS.choose_spec ⟨_, rfl⟩) (nomark _)))))) (pss_one (ps_expr (pe_meth0 (pv 0) T.cl_ProgramReader T.m_ProgramReader_fail G_ProgramReader_fail hr T.b_ProgramReader_fail .nil pass0))) pss_nil)
      (pss_cons (ps_set (i := 2) sc_ProgramReader_read_statement.nd rfl (by first | exact .inl rfl | exact .inr rfl) (pe_meth0 (pv 0) T.cl_ProgramReader T.m_ProgramReader_words G_ProgramReader_words hr T.b_ProgramReader_words .nil pass0))
      (pss_cons (ps_set (i := 3) sc_ProgramReader_read_statement.nd rfl (by first | exact .inl rfl | exact .inr rfl) (pe_ifExp (pt_cmpR (opK (K := K) (r := fun K => rIn K false) (by rfl) op_in_seq) (pe_ix (ixK (K := K) (r := rIxL) (by rfl) ix_list) (pv 2) pe_int (fun _ _ => rfl)) (pe_glob (v := .ref D.k_BLOCKS) (by rfl) T.g_BLOCKS rfl) (by rfl)) (pe_meth (pv 0) T.cl_ProgramReader T.m_ProgramReader_block G_ProgramReader_block hr T.b_ProgramReader_block .nil pass0 (pa_cons (pv 2) pa_nil)) (pe_meth (pv 0) T.cl_ProgramReader T.m_ProgramReader_plain G_ProgramReader_plain hr T.b_ProgramReader_plain .nil pass0 (pa_cons (pv 2) pa_nil))))
      (pss_cons (ps_fldaug (pv 0) pe_int ip_add)
      (pss_cons (ps_fldaug (pv 0) pe_int ip_add)
      (pss_cons (ps_if (pt_cmpR (opK (K := K) (r := fun K => rIn K false) (by rfl) op_in_seq) (pe_ix (ixK (K := K) (r := rIxL) (by rfl) ix_list) (pv 2) pe_int (fun _ _ => rfl)) (pe_glob (v := .ref D.k_BLOCKS) (by rfl) T.g_BLOCKS rfl) (by rfl)) (pss_cons (ps_fld (pv 3) (pe_meth (pv 0) T.cl_ProgramReader T.m_ProgramReader_read_body G_ProgramReader_read_body hr T.b_ProgramReader_read_body .nil pass0 (pa_cons (pe_op op_add (pv 1) pe_int) pa_nil)) rfl)
      (pss_one (ps_if (PW.pt (pw_and (pt_cmpR op_eq (pe_ix (ixK (K := K) (r := rIxL) (by rfl) ix_list) (pv 2) pe_int (fun _ _ => rfl)) pe_str (nomark _)) (pw_and (pt_cmpR op_eq (pe_meth0 (pv 0) T.cl_ProgramReader T.m_ProgramReader_indent G_ProgramReader_indent hr T.b_ProgramReader_indent .nil pass0) (pe_op op_mulW (pe_glob (v := .int 2) (by rfl) T.c_STEP.choose_spec ⟨_, rfl⟩) (pv 1)) (nomark _)) (pw_and1 (pt_cmpR (opK (K := K) (r := rEqQ) (by rfl) (op_eqQ hr.units)) (pe_meth0 (pv 0) T.cl_ProgramReader T.m_ProgramReader_words G_ProgramReader_words hr T.b_ProgramReader_words .nil pass0) (pe_lst (pa_cons pe_str pa_nil)) (nomark _)))))) (pss_cons (ps_fldaug (pv 0) pe_int ip_add)
      (pss_one (ps_fld (pv 3) (pe_meth (pv 0) T.cl_ProgramReader T.m_ProgramReader_read_body G_ProgramReader_read_body hr T.b_ProgramReader_read_body .nil pass0 (pa_cons (pe_op op_add (pv 1) pe_int) pa_nil)) rfl))) pss_nil))) pss_nil)
      (pss_one (ps_ret (pv 3))))))))), ?_⟩
    repeat walk_at "st"
    refine ⟨L, r, A, s, rfl, hR, hL, hle, ?_⟩
    repeat walk_at "st"
    refine b_I (c2 hd) ?_
    repeat walk_at "st"
    rw [decide_eq_true (show V.int (PR.ind L s.now) = V.int (2 * (d : Int)) by rw [h1])]
    repeat walk_at "st"
    rw [decide_eq_false (show ¬ ((4 : Int) < (d : Int)) by omega)]
    repeat walk_at "st"
    rw [decide_eq_false (show ¬ V.int (s.many : Nat) = V.int 20 from fun z => h3 (by injection z with z; omega))]
    repeat walk_at "st"
    refine ⟨L, r, A, s, l, rfl, hR, hL, hl, fun p H1 np hp s1 => ?_⟩
    have hR1 := hR.same s1
    have hi1 := hR1.ins
    split at hrd
    · cases hrd
    rename_i kd rest hws
    rw [hws] at hp hwl hlay hwn
    have hp' := hp
    simp only [List.map_cons] at hp'
    have npr : p ≠ r := fun z => by rw [z, hi] at np; cases np
    repeat walk_at "st"
    refine b_inT (tBL H1) rfl (flat_strs _) ?_
    rw [inV_str]
    simp only [Bool.false_eq_true, if_false]
    -- behind: many and now
    have after : ∀ (H2 : Hp), Same H1 H2 → ∀ H3, H3 r = some (.ins D.c_ProgramReader A.dx (putF "own_many" (.int ((s.many : Int) + 1)) [("rows", .ref A.rw), ("now", .int (s.now : Nat)), ("own_symbols", .str s.sy), ("own_cells", .ref A.cl), ("names", .ref A.nm), ("bodies", .ref A.bd), ("main", A.mn), ("own_many", .int (s.many : Nat))])) → SameM (· = r) H2 H3 →
        ∀ H4, H4 r = some (.ins D.c_ProgramReader A.dx (putF "now" (.int ((s.now : Int) + 1)) (putF "own_many" (.int ((s.many : Int) + 1)) [("rows", .ref A.rw), ("now", .int (s.now : Nat)), ("own_symbols", .str s.sy), ("own_cells", .ref A.cl), ("names", .ref A.nm), ("bodies", .ref A.bd), ("main", A.mn), ("own_many", .int (s.many : Nat))]))) → SameM (· = r) H3 H4 →
        InsAt D r A (PR.step s) H4 ∧ SameM (· = r) H H4 := fun H2 s2 H3 h3 t3 H4 h4 t4 => ⟨h4, ((SameM.of (s1.trans s2)).trans t3).trans t4⟩
    have k0 : PR.Kept L s (PR.step s) := ⟨rfl, rfl, rfl, rfl, rfl, hnow, Nat.le_succ _⟩
    have wasr : Was H r := hR.was r (.inl rfl)
    split at hrd
    · -- a block
      rename_i hin
      rw [hin]
      split at hrd
      · cases hrd
      rename_i x0 hx0
      repeat walk_at "st"
      refine ⟨L, r, p, A, s, kd :: rest, x0, rfl, hR1, hp, hsm.sy, hsm.cells, hwl, hwn, hlay, hx0, fun v H2 hv s2 => ?_⟩
      have hi2 := s2 _ _ hi1
      repeat walk_at "st"
      refine e_sfa hi2 cl n1 (show 8 < 1000 by decide) rfl fun H3 h3' t3 => ?_
      repeat walk_at "st"
      refine e_sfa h3' cl n2 (show 8 < 1000 by decide) rfl fun H4 h4 t4 => ?_
      obtain ⟨hi4, t04⟩ := after H2 s2 H3 h3' t3 H4 h4 t4
      have hR4 := hR.step k0 t04 hi4
      have hp4 : H4 p = some (.lst (V.str kd :: rest.map V.str)) := t4 _ _ npr (t3 _ _ npr (s2 _ _ hp'))
      -- the statement's own places
      have hvW : STree D (Was H) H4 v x0 := by
        have a1 : STree D (Was H) H2 v x0 := hv.avoid fun a z => .inl (fun y => z (none_back s1 y))
        exact (a1.mono (t3.sub fun a z => by rw [z]; exact wasr)).mono (t4.sub fun a z => by rw [z]; exact wasr)
      obtain ⟨a, dx, b1, b2, av, ln, kd', wd', c', n', q', rfl, rfl, na, ha, hc, nb1', hb1, nb2', hb2⟩ : ∃ (a dx b1 b2 : Addr) (av : V) (ln : Nat) (kd' wd' : Str) (c' n' : Nat) (q' : Option PR.Cond), v = .ref a ∧ x0 = .mk ln kd' wd' c' n' q' [] [] ∧ ¬ Was H a ∧ H4 a = some (.ins D.c_Statement dx (StFs ln kd' wd' c' n' av b1 b2)) ∧ CondAt D.c_Condition (Was H) H4 av q' ∧ ¬ Was H b1 ∧ H4 b1 = some (.lst []) ∧ ¬ Was H b2 ∧ H4 b2 = some (.lst []) := by
        unfold PR.blockSt at hx0
        split at hx0
        · cases hx0
        split at hx0
        · cases hx0
        cases hx0
        cases hvW with
        | mk m1 m2 m3 m4 m5 m6 m7 m8 m9 =>
          cases m6
          cases m9
          exact ⟨_, _, _, _, _, _, _, _, _, _, _, rfl, rfl, m1, m2, m3, m4, m5, m7, m8⟩
      repeat walk_at "st"
      refine b_inT (tBL H4) rfl (flat_strs _) ?_
      rw [inV_str, hin]
      simp only [Bool.false_eq_true, if_false]
      repeat walk_at "st"
      split at hrd
      · cases hrd
      rename_i bb s2' hb
      have kb := PR.rdB_kept (L := L) (e := e) (d := d + 1) hb
      have k02 := k0.trans kb
      refine ⟨L, r, A, PR.step s, s2', d + 1, bb, by simp, hR4, hL, hsm.kept k0, hnow, by omega, hb, fun l1 xs1 H5 nl1 hl1 htr hi5 t5 => ?_⟩
      have har : a ≠ r := fun z => na (by rw [z]; exact wasr)
      have ha5 := t5 _ _ har ha
      repeat walk_at "st"
      refine e_sfld ha5 clS nb1 (show 8 < 1000 by decide) fun H6 h6 t6 => ?_
      have hra : r ≠ a := Ne.symm har
      have hi6 : InsAt D r A s2' H6 := t6 _ _ hra hi5
      have t06 : SameM (· = r) H H6 := (t04.trans t5).two t6 (by
        cases z : H a with
        | none => rfl
        | some o => exact absurd (show H a ≠ none by rw [z]; simp) na)
      have hR6 := hR.step k02 t06 hi6
      have hp6 : H6 p = some (.lst (V.str kd :: rest.map V.str)) := t6 _ _ (fun z => by rw [z, ha] at hp4; cases hp4) (t5 _ _ npr hp4)
      have was4 : ∀ b, Was H b → Was H4 b := fun b hb' => was_keep t04 hi4 hb'
      have a4 : Was H4 a := by rw [Was, ha]; simp
      have htr6 : STrees D (fun b => Was H b ∨ b = a) H6 xs1 bb := (htr.avoid (N := fun b => Was H b ∨ b = a) fun b z => .inl (z.elim (was4 b) fun y => by rw [y]; exact a4)).mono (t6.sub fun b z => .inr z)
      have hl1a : l1 ≠ a := fun z => by rw [z, ha] at nl1; cases nl1
      have hl16 := t6 _ _ hl1a hl1
      have nl1H : ¬ Was H l1 := fun z => was4 l1 z nl1
      have hc6 : CondAt D.c_Condition (Was H) H6 av q' := by
        have e5 := hc.mono (t5.sub fun b z => by rw [z]; exact wasr)
        cases av <;> cases q' <;> first | exact e5 | (obtain ⟨m1, dxc, m2⟩ := e5; exact ⟨m1, dxc, t6 _ _ (fun z => by
          rw [z, ha5] at m2
          injection m2 with m2
          injection m2 with _ _ m3
          injection m3 with m4 _
          injection m4 with m5 _
          exact absurd m5 (by decide)) m2⟩)
      have hb2a : b2 ≠ a := fun z => by rw [z, ha] at hb2; cases hb2
      have hb26 : H6 b2 = some (.lst []) := t6 _ _ hb2a (t5 _ _ (fun z => nb2' (by rw [z]; exact wasr)) hb2)
      have h6' : H6 a = some (.ins D.c_Statement dx (StFs ln kd' wd' c' n' av l1 b2)) := h6
      repeat walk_at "st"
      -- else?
      have done6 : s' = s2' → x = (PR.St.mk ln kd' wd' c' n' q' bb []) → ∀ H7, Same H6 H7 → Q (.ref a) H7 := by
        intro e1 e2 H7 s7
        subst e1 e2
        refine q (.ref a) H7 ?_ (s7 _ _ hi6) (t06.trans (SameM.of s7))
        exact .mk na (s7 _ _ h6') (hc6.mono (SameM.of s7)) nl1H (s7 _ _ hl16) ((htr6.avoid fun b z => .inl (.inl z)).mono (SameM.of s7)) nb2' (s7 _ _ hb26) .nil
      by_cases hif : kd = Str.ofString "if"
      rotate_left
      · rw [decide_eq_false (show ¬ V.str kd = V.str "if" from fun z => hif (by injection z))]
        rw [if_neg (fun z => hif z.1)] at hrd
        cases hrd
        repeat walk_at "st"
        exact done6 rfl rfl H6 (Same.refl H6)
      rw [decide_eq_true (show V.str kd = V.str "if" by rw [hif])]
      have hle2 : s2'.now ≤ L.length := kb.now
      repeat walk_at "st"
      refine ⟨L, r, A, s2', rfl, hR6, hL, hle2, ?_⟩
      repeat walk_at "st"
      refine b_I (c2 hd) ?_
      repeat walk_at "st"
      by_cases hin2 : PR.ind L s2'.now = 2 * (d : Int)
      rotate_left
      · rw [decide_eq_false (show ¬ V.int (PR.ind L s2'.now) = V.int (2 * (d : Int)) from fun z => hin2 (by injection z))]
        rw [if_neg (fun z => hin2 z.2.1)] at hrd
        cases hrd
        repeat walk_at "st"
        exact done6 rfl rfl H6 (Same.refl H6)
      rw [decide_eq_true (show V.int (PR.ind L s2'.now) = V.int (2 * (d : Int)) by rw [hin2])]
      have hnow2 := PR.ind_lt hin2
      obtain ⟨l2, hl2⟩ : ∃ l2, L[s2'.now]? = some l2 := ⟨L[s2'.now], List.getElem?_eq_getElem hnow2⟩
      have hl2m := List.mem_of_getElem? hl2
      have hwd2 : PR.wds L s2'.now = l2.ws := by
        unfold PR.wds
        rw [hl2]
      rw [hwd2] at hrd
      repeat walk_at "st"
      refine ⟨L, r, A, s2', l2, rfl, hR6, hL, hl2, fun p7 H7 np7 hp7 s7 => ?_⟩
      repeat walk_at "st"
      refine e_lst fun p8 H8 np8 hp8 s8 => ?_
      have d1 : Dq K M0 H8 (.ref p7) (.list (l2.ws.map PyData.str)) := Dq.newL (fun z => z) (s8 _ _ hp7) (strs_all _)
      have d2 : Dq K M0 H8 (.ref p8) (.list ([Str.ofString "else"].map PyData.str)) := Dq.newL (fun z => z) hp8 (strs_all [Str.ofString "else"])
      have s78 := s7.trans s8
      refine ⟨M0, M0, _, _, d1, d2, shaped_strs (hL.lay l2 hl2m), by decide +kernel, ?_⟩
      rw [eqv_strs]
      repeat walk_at "st"
      by_cases hel : l2.ws = [Str.ofString "else"]
      rotate_left
      · rw [decide_eq_false hel]
        rw [if_neg (fun z => hel z.2.2)] at hrd
        cases hrd
        repeat walk_at "st"
        exact done6 rfl rfl H8 s78
      rw [decide_eq_true hel]
      rw [if_pos ⟨hif, hin2, hel⟩] at hrd
      split at hrd
      · cases hrd
      rename_i eb s3' heb
      cases hrd
      have hi8 : H8 r = some _ := s78 _ _ hi6
      repeat walk_at "st"
      refine e_sfa hi8 cl n2 (show 8 < 1000 by decide) rfl fun H9 h9 t9 => ?_
      have hi9 : InsAt D r A { s2' with now := s2'.now + 1 } H9 := h9
      have t09 : SameM (· = r) H H9 := (t06.trans (SameM.of s78)).trans t9
      have k09 : PR.Kept L s { s2' with now := s2'.now + 1 } := ⟨k02.sy, k02.cells, k02.names, k02.bodies, k02.main, hnow2, Nat.le_succ_of_le k02.le⟩
      have hR9 := hR.step k09 t09 hi9
      repeat walk_at "st"
      refine ⟨L, r, A, _, s', d + 1, eb, by simp, hR9, hL, hsm.kept k09, hnow2, by omega, heb, fun l2' xs2 Ha nl2 hl2' htr2 hia ta => ?_⟩
      have h69 : ∀ {b : Addr} {o : HO}, b ≠ r → H6 b = some o → H9 b = some o := fun hb e => t9 _ _ hb (s78 _ _ e)
      have ha9 := h69 har h6'
      have haa := ta _ _ har ha9
      repeat walk_at "st"
      refine e_sfld haa clS nb2 (show 8 < 1000 by decide) fun Hb hb' tb => ?_
      repeat walk_at "st"
      have hib : InsAt D r A s' Hb := tb _ _ hra hia
      have was9 : ∀ b, Was H b → Was H9 b := fun b hb' => was_keep t09 hi9 hb'
      have a9 : Was H9 a := by rw [Was, ha9]; simp
      have naH : H a = none := by
        cases z : H a with
        | none => rfl
        | some o => exact absurd (show H a ≠ none by rw [z]; simp) na
      refine q (.ref a) Hb ?_ hib ((t09.trans ta).two tb naH)
      have l1r : l1 ≠ r := fun z => nl1H (by rw [z]; exact wasr)
      have m1 : SameM (fun b => Was H b ∨ b = a) H6 Hb := ((SameM.of s78).trans ((t9.trans ta).sub fun b z => .inl (by rw [z]; exact wasr))).trans (tb.sub fun b z => .inr z)
      have hcb : CondAt D.c_Condition (Was H) Hb av q' := by
        have e8 := (hc6.mono (SameM.of s78)).mono ((t9.trans ta).sub fun b z => by rw [z]; exact wasr)
        cases av <;> cases q' <;> first | exact e8 | (obtain ⟨m1, dxc, m2⟩ := e8; exact ⟨m1, dxc, tb _ _ (fun z => by
          rw [z, haa] at m2
          injection m2 with m2
          injection m2 with _ _ m3
          injection m3 with m4 _
          injection m4 with m5 _
          exact absurd m5 (by decide)) m2⟩)
      have hl2a : l2' ≠ a := fun z => by rw [z, ha9] at nl2; cases nl2
      exact .mk na hb' hcb nl1H (tb _ _ hl1a (ta _ _ l1r (h69 l1r hl16))) ((htr6.mono m1).avoid fun b z => .inl (.inl z)) (fun z => was9 l2' z nl2) (tb _ _ hl2a hl2')
        (((htr2.avoid (N := fun b => Was H b ∨ b = a) fun b z => .inl (z.elim (was9 b) fun y => by rw [y]; exact a9)).mono (tb.sub fun b z => .inr z)).avoid fun b z => .inl (.inl z))
    · -- a plain one
      rename_i hin
      rw [Bool.eq_false_iff.mpr hin]
      split at hrd
      · cases hrd
      rename_i x0 hx0
      cases hrd
      repeat walk_at "st"
      refine ⟨L, r, p, A, s, kd :: rest, x, rfl, hR1, hp, hsm.cells, hsm.bodies, hwl, hx0, fun v H2 hv s2 => ?_⟩
      have hi2 := s2 _ _ hi1
      repeat walk_at "st"
      refine e_sfa hi2 cl n1 (show 8 < 1000 by decide) rfl fun H3 h3' t3 => ?_
      repeat walk_at "st"
      refine e_sfa h3' cl n2 (show 8 < 1000 by decide) rfl fun H4 h4 t4 => ?_
      obtain ⟨hi4, t04⟩ := after H2 s2 H3 h3' t3 H4 h4 t4
      have hp4 : H4 p = some (.lst (V.str kd :: rest.map V.str)) := t4 _ _ npr (t3 _ _ npr (s2 _ _ hp'))
      have hvW : STree D (Was H) H4 v x := by
        have a1 : STree D (Was H) H2 v x := hv.avoid fun a z => .inl (fun y => z (none_back s1 y))
        exact (a1.mono (t3.sub fun a z => by rw [z]; exact wasr)).mono (t4.sub fun a z => by rw [z]; exact wasr)
      repeat walk_at "st"
      refine b_inT (tBL H4) rfl (flat_strs _) ?_
      rw [inV_str, Bool.eq_false_iff.mpr hin]
      simp only [Bool.false_eq_true, if_false]
      repeat walk_at "st"
      exact q v H4 hvW hi4 t04
theorem ok_rd (T : Txt K mg D) : ∀ (e k : Nat), FnOk P w K mg base CX0 (k + (6 + 2 * e)) D.f_ProgramReader_read_statement D.d_ProgramReader_read_statement P_ProgramReader_read_statement (sp_stmt K D e) ∧
    FnOk P w K mg base CX0 (k + (7 + 2 * e)) D.f_ProgramReader_read_body D.d_ProgramReader_read_body P_ProgramReader_read_body (sp_body K D e)
  | 0, k => by
    have h : FnOk P w K mg base CX0 (k + 6) D.f_ProgramReader_read_statement D.d_ProgramReader_read_statement P_ProgramReader_read_statement (sp_stmt K D 0) := vac fun vs H Q E z => by
      obtain ⟨L, r, A, s, s', d, x, _, _, _, _, _, _, hz, _⟩ := z
      cases hz
    exact ⟨h, ok_body_of T h⟩
  | e + 1, k => by
    have hb := (ok_rd T e k).2
    have hs : FnOk P w K mg base CX0 (k + (6 + 2 * (e + 1))) D.f_ProgramReader_read_statement D.d_ProgramReader_read_statement P_ProgramReader_read_statement (sp_stmt K D (e + 1)) :=
      (ok_stmt_of T (k := k + 2 * e) (hb.mono (by omega))).mono (by omega)
    exact ⟨hs, (ok_body_of T (k := k + 2 * (e + 1)) (hs.mono (by omega))).mono (by omega)⟩
end
end K09

namespace K09
open PySem PySem.Spec PyProof.Rows L2 FG
local macro_rules | `(tactic| walk_at "sq") => `(tactic| first
  | assumption
  | exact SqL.of (by assumption)
  | exact SqT.of (by assumption)
  | exact SqLm.l (by assumption)
  | exact SqTm.t (by assumption))
local macro_rules | `(tactic| walk_at "cond") => `(tactic| first
  | assumption
  | (show (0 : Int) < _; omega)
  | (show (0 : Int) < _ ∧ _ < 1073741824; omega))
local macro_rules | `(tactic| walk_at "st") => `(tactic| first
  | with_reducible refine b_seq ?_
  | with_reducible refine b_asg ?_
  | with_reducible refine b_op ?_
  | ((with_reducible refine' b_var ?hv ?_); (case hv => exact rfl))
  | with_reducible refine b_c ?_
  | with_reducible refine b_name ?_
  | with_reducible refine b_I0 ?_
  | with_reducible refine b_cons ?_
  | with_reducible refine b_nil ?_
  | with_reducible refine b_cb ?_
  | with_reducible refine b_call ?_
  | with_reducible refine b_ret ?_
  | with_reducible refine b_ifS ?_
  | with_reducible refine b_test ?_
  | with_reducible refine b_tb ?_
  | with_reducible refine b_bl ?_
  | with_reducible refine b_blP ?_
  | with_reducible refine b_next ?_
  | with_reducible refine b_drop ?_
  | with_reducible refine b_dget ?_
  | with_reducible refine b_makeN ?_
  | with_reducible refine b_pairs ?_
  | with_reducible refine b_pairs0 ?_
  | with_reducible refine b_sub ?_
  | with_reducible refine b_chain ?_
  | with_reducible refine b_and ?_
  | with_reducible refine b_or ?_
  | with_reducible refine b_not ?_
  | with_reducible refine b_andV ?_
  | with_reducible refine b_orV ?_
  | with_reducible refine b_notV ?_
  | with_reducible refine b_if ?_
  | with_reducible refine b_par ?_
  | with_reducible refine b_parE ?_
  | ((with_reducible refine' b_aug ?hv ?_); (case hv => exact rfl))
  | with_reducible refine b_ip ?_
  | with_reducible refine b_retN ?_
  | with_reducible refine b_tup ?_
  | with_reducible refine b_lst ?_
  | with_reducible refine b_sl ?_
  | with_reducible refine b_part ?_
  | with_reducible refine b_partP ?_
  | with_reducible refine b_nopart ?_
  | with_reducible refine b_bm ?_
  | with_reducible refine b_m1 ?_
  | with_reducible refine b_m0 ?_
  | with_reducible refine b_yes ?_
  | with_reducible refine b_un ?_
  | with_reducible refine b_neg ?_
  | with_reducible refine b_isN ?_
  | with_reducible refine b_notN ?_
  | with_reducible refine b_inS ?_
  | with_reducible refine b_int ?_
  | with_reducible refine b_intB ?_
  | with_reducible refine b_abs ?_
  | with_reducible refine b_max ?_
  | with_reducible refine b_min ?_
  | ((with_reducible refine b_eq ?hv ?_); (case hv => exact rfl))
  | ((with_reducible refine b_ne ?hv ?_); (case hv => exact rfl))
  | ((with_reducible refine' b_lenL ?hv ?_); (case hv => walk_at "sq"))
  | ((with_reducible refine' b_lenT ?hv ?_); (case hv => walk_at "sq"))
  | ((with_reducible refine' b_ixL ?hv ?hw ?_); (case hv => walk_at "sq"); (case hw => first | exact rfl | exact at0 | exact at1 | exact at2))
  | ((with_reducible refine' b_ixT ?hv ?hw ?_); (case hv => walk_at "sq"); (case hw => first | exact rfl | exact at0 | exact at1 | exact at2))
  | ((with_reducible refine b_I ?hv ?_); (case hv => walk_at "cond"))
  | with_reducible refine b_lcS ?_
  | with_reducible refine b_lcR ?_
  | with_reducible refine b_lcT ?_
  | with_reducible refine b_lcL ?_
  | with_reducible refine b_forT ?_
  | with_reducible refine b_forL ?_
  | with_reducible refine b_forR ?_
  | with_reducible refine b_turn ?_
  | ((with_reducible refine And.intro (a := wipe _ _ = wipe _ _) ?hv ?_); (case hv => exact rfl))
  | ((with_reducible refine And.intro (a := tyV _ "list" _ _) ?hv ?_); (case hv => exact ty_list (by assumption)))
  | with_reducible refine And.intro (a := ∃ a, V.str _ = V.str a) ⟨_, rfl⟩ ?_
  | (with_reducible refine iteT ?_)
  | (with_reducible refine iteNF ?_)
  | (with_reducible refine iteNT ?_)
  | (with_reducible refine iteVT ?_)
  | (with_reducible refine iteNVT ?_)
  | ((with_reducible refine iteVF ?hv ?_); (case hv => exact rfl))
  | ((with_reducible refine iteNVF ?hv ?_); (case hv => exact rfl))
  | with_reducible refine b_callS ?_
  | with_reducible refine b_xq ?_
  | with_reducible refine b_fld ?_
  | with_reducible refine b_sfld ?_
  | with_reducible refine b_meth ?_
  | with_reducible refine b_make ?_
  | with_reducible refine b_callK ?_
  | with_reducible refine b_sfa ?_
  | with_reducible refine b_lcEnT ?_
  | with_reducible refine b_lcEnL ?_
  | with_reducible refine b_forEnT ?_
  | with_reducible refine b_forEnL ?_
  | with_reducible refine b_lcZ ?_
  | with_reducible refine b_lcZX ?_
  | with_reducible refine b_prop ?_
  | with_reducible refine b_dput ?_
  | with_reducible refine b_din ?_
  | with_reducible refine b_inB ?_
  | with_reducible refine e_revT ?_
  | ((with_reducible refine' e_fld ?hv ?hc ?hn ?hl ?_); (case hv => assumption); (case hc => assumption); (case hn => assumption); (case hl => exact rfl))
  | ((with_reducible refine' e_meth ?hv ?hl ?_); (case hv => assumption); (case hl => exact rfl))
  | (with_reducible refine iteF ?_))

section
variable {P : Program} {w : World} {K : PySem.W.Frag} {mg : Str → Option Value} {base : Heap} {D : Ad}
theorem RdAt.put {L : List PR.Line} {r : Addr} {A : RA} {s s' : PR.RS} {H H' : Hp} (h : RdAt K D L r A s H) (k1 : s'.cells = s.cells) (k2 : s'.names = s.names) (k3 : s'.bodies = s.bodies) (t : SameM (· = r) H H') (hi : InsAt D r A s' H') : RdAt K D L r A s' H' := by
  have sM : SameM (RM r A) H H' := t.sub fun a z => .inl z
  obtain ⟨cs, hc, hcd⟩ := h.cells
  obtain ⟨kvs, hb, hbd⟩ := h.bods
  have e0 := h.ins
  refine ⟨hi, t _ _ (fun z => h.rwM (.inl z)) h.rows, ⟨cs, t _ _ (fun z => by rw [z, e0] at hc; cases hc) hc, ?_⟩, ?_, ⟨kvs, t _ _ (fun z => by rw [z, e0] at hb; cases hb) hb, ?_⟩, h.rwM, h.clnm⟩
  · rw [k1]; exact hcd.mono sM
  · rw [k2]; exact t _ _ (fun z => by have := h.names; rw [z, e0] at this; cases this) h.names
  · rw [k3]; exact hbd.mono sM
theorem str_ext {a b : Str} (h : a.cps.toList = b.cps.toList) : a = b := by
  cases a
  cases b
  exact congrArg Str.mk (Array.ext' h)
/-! ### __init__ -/
def sp_rinit (K : PySem.W.Frag) (D : Ad) : Sp := fun vs H Q _ => ∃ (L : List PR.Line) (a dx : Addr) (txt : Str), vs = [.ref a, .str txt] ∧ H a = some (.ins D.c_ProgramReader dx []) ∧ txt.length ≤ 90000 ∧ Txt.split txt "\n" = L.map PR.rowText ∧ L.length ≤ 90000 ∧
  ∀ A H', RdAt K D L a A PR.start H' → (∀ b, RM a A b → b ≠ a → H b = none) → SameM (· = a) H H' → Q .non H'
theorem ok_ProgramReader_init (T : Txt K mg D) {k : Nat} : FnOk P w K mg base CX0 (k + 1) D.f_ProgramReader_init D.d_ProgramReader_init P_ProgramReader_init (sp_rinit K D) := by
  have cl := T.cl_ProgramReader
  have n1 := T.n_ProgramReader_rows
  have n2 := T.n_ProgramReader_now
  have n3 := T.n_ProgramReader_own_symbols
  have n4 := T.n_ProgramReader_own_cells
  have n5 := T.n_ProgramReader_names
  have n6 := T.n_ProgramReader_bodies
  have n7 := T.n_ProgramReader_main
  have n8 := T.n_ProgramReader_own_many
  refine T.f_ProgramReader_init.ok sc_ProgramReader_init (fun vs H Q E h => ?_) (fun cdv A outer s H vs Q E hr h => ?_)
  · obtain ⟨L, a, dx, txt, rfl, _⟩ := h
    rfl
  · obtain ⟨L, a, dx, txt, rfl, ha, htl, hsp, hLl, q⟩ := h
    refine ⟨_, (pss_cons (ps_fld (pv 0) (pe_split (pv 1) (pe_glob (v := .str "\n") (by rfl) T.c_FEED.choose_spec ⟨_, rfl⟩)) rfl)
      (pss_cons (ps_fld (pv 0) pe_int rfl)
      (pss_cons (ps_fld (pv 0) pe_str rfl)
      (pss_cons (ps_fld (pv 0) (pe_lst pa_nil) rfl)
      (pss_cons (ps_fld (pv 0) (pe_lst pa_nil) rfl)
      (pss_cons (ps_fld (pv 0) pe_dnewK rfl)
      (pss_cons (ps_fld (pv 0) (pe_lst pa_nil) rfl)
      (pss_one (ps_fld (pv 0) pe_int rfl))))))))), ?_⟩
    repeat walk_at "st"
    refine e_split rfl (by omega) hsp fun rw0 H1 nrw hrw s1 => ?_
    have ha1 := s1 _ _ ha
    have rwa : rw0 ≠ a := fun z => by rw [z, ha] at nrw; cases nrw
    repeat walk_at "st"
    refine e_sfld ha1 cl n1 (by decide) fun H2 h2 s2 => ?_
    repeat walk_at "st"
    refine e_sfld h2 cl n2 (show 1 < 1000 by decide) fun H3 h3 s3 => ?_
    repeat walk_at "st"
    refine e_sfld h3 cl n3 (show 2 < 1000 by decide) fun H4 h4 s4 => ?_
    have s04 : SameM (· = a) H H4 := (((SameM.of s1).trans s2).trans s3).trans s4
    have hrw4 := s4 _ _ rwa (s3 _ _ rwa (s2 _ _ rwa hrw))
    repeat walk_at "st"
    refine e_lst fun c0 H5 nc0 hc0 s5 => ?_
    have c0a : c0 ≠ a := fun z => by rw [z, h4] at nc0; cases nc0
    repeat walk_at "st"
    refine e_sfld (s5 _ _ h4) cl n4 (show 3 < 1000 by decide) fun H6 h6 s6 => ?_
    have s06 : SameM (· = a) H H6 := (s04.trans (SameM.of s5)).trans s6
    have hc06 := s6 _ _ c0a hc0
    repeat walk_at "st"
    refine e_lst fun m0 H7 nm0 hm0 s7 => ?_
    have m0a : m0 ≠ a := fun z => by rw [z, h6] at nm0; cases nm0
    have m0c : c0 ≠ m0 := fun z => by rw [z] at hc06; rw [hc06] at nm0; cases nm0
    repeat walk_at "st"
    refine e_sfld (s7 _ _ h6) cl n5 (show 4 < 1000 by decide) fun H8 h8 s8 => ?_
    have s08 : SameM (· = a) H H8 := (s06.trans (SameM.of s7)).trans s8
    have hm08 := s8 _ _ m0a hm0
    repeat walk_at "st"
    refine e_dnew fun d0 H9 nd0 hd0 s9 => ?_
    have d0a : d0 ≠ a := fun z => by rw [z, h8] at nd0; cases nd0
    repeat walk_at "st"
    refine e_sfld (s9 _ _ h8) cl n6 (show 5 < 1000 by decide) fun Ha ha' sa => ?_
    have s0a : SameM (· = a) H Ha := (s08.trans (SameM.of s9)).trans sa
    have hd0a := sa _ _ d0a hd0
    repeat walk_at "st"
    refine e_lst fun mn0 Hb nmn0 hmn0 sb => ?_
    repeat walk_at "st"
    refine e_sfld (sb _ _ ha') cl n7 (show 6 < 1000 by decide) fun Hc hc' sc => ?_
    repeat walk_at "st"
    refine e_sfld hc' cl n8 (show 7 < 1000 by decide) fun Hd hd' sd => ?_
    repeat walk_at "st"
    have kk : ∀ {b : Addr} {o : HO}, b ≠ a → Ha b = some o → Hd b = some o := fun hb e => sd _ _ hb (sc _ _ hb (sb _ _ e))
    have k8 : ∀ {b : Addr} {o : HO}, b ≠ a → H8 b = some o → Hd b = some o := fun hb e => kk hb (sa _ _ hb (s9 _ _ e))
    have k6 : ∀ {b : Addr} {o : HO}, b ≠ a → H6 b = some o → Hd b = some o := fun hb e => k8 hb (s8 _ _ hb (s7 _ _ e))
    have k4 : ∀ {b : Addr} {o : HO}, b ≠ a → H4 b = some o → Hd b = some o := fun hb e => k6 hb (s6 _ _ hb (s5 _ _ e))
    have hrwd := k4 rwa hrw4
    have hcd := k6 c0a hc06
    have hmd := k8 m0a hm08
    have hdd := kk d0a hd0a
    have rwne : ¬ RM a ⟨dx, rw0, c0, m0, d0, .ref mn0⟩ rw0 := by
      rintro (z | z | z | z)
      · exact rwa z
      · have z' : rw0 = c0 := z
        rw [z'] at hrw4; rw [hrw4] at nc0; cases nc0
      · have z' : rw0 = m0 := z
        have := s6 _ _ rwa (s5 _ _ hrw4)
        rw [z'] at this; rw [this] at nm0; cases nm0
      · have z' : rw0 = d0 := z
        have := s8 _ _ rwa (s7 _ _ (s6 _ _ rwa (s5 _ _ hrw4)))
        rw [z'] at this; rw [this] at nd0; cases nd0
    refine q ⟨dx, rw0, c0, m0, d0, .ref mn0⟩ Hd ⟨hd', ?_, ⟨[], hcd, .nil⟩, hmd, ⟨[], hdd, .nil⟩, rwne, m0c⟩ ?_ (((s0a.trans (SameM.of sb)).trans sc).trans sd)
    · rw [hrwd, List.map_map]; rfl
    · rintro b (rfl | z | z | z) hb
      · exact absurd rfl hb
      · have z' : b = c0 := z
        subst z'
        exact none_backM s04 hb nc0
      · have z' : b = m0 := z
        subst z'
        exact none_backM s06 hb nm0
      · have z' : b = d0 := z
        subst z'
        exact none_backM s08 hb nd0
/-! ### symbols -/
def sp_rsym (K : PySem.W.Frag) (D : Ad) : Sp := fun vs H Q _ => ∃ (L : List PR.Line) (r : Addr) (A : RA) (s s' : PR.RS), vs = [.ref r] ∧ RdAt K D L r A s H ∧ LOk L ∧ PR.readSymbols L s = some s' ∧
  ∀ H', InsAt D r A s' H' → SameM (· = r) H H' → Q .non H'
theorem ok_ProgramReader_read_symbols (T : Txt K mg D) {k : Nat} : FnOk P w K mg base CX0 (k + 2) D.f_ProgramReader_read_symbols D.d_ProgramReader_read_symbols P_ProgramReader_read_symbols (sp_rsym K D) := by
  have cl := T.cl_ProgramReader
  have n1 := T.n_ProgramReader_rows
  have n2 := T.n_ProgramReader_now
  have n3 := T.n_ProgramReader_own_symbols
  have G_is_word : FnOk P w K mg base CX0 (k + 1) D.f_is_word D.d_is_word P_is_word (sp_is_word K) := ok_is_word T
  have G_are_ascending : FnOk P w K mg base CX0 (k + 1) D.f_are_ascending D.d_are_ascending P_are_ascending sp_asc_s := ok_are_ascending T
  have G_ProgramReader_fail : FnOk P w K mg base CX0 (k + 1) D.f_ProgramReader_fail D.d_ProgramReader_fail P_ProgramReader_fail (fun _ _ _ _ => False) := never
  refine T.f_ProgramReader_read_symbols.ok sc_ProgramReader_read_symbols (fun vs H Q E h => ?_) (fun cdv A outer s H vs Q E hr h => ?_)
  · obtain ⟨L, r, A, s, s', rfl, _⟩ := h
    rfl
  · obtain ⟨L, r, A, s, s', rfl, hR, hL, hrd, q⟩ := h
    have hi := hR.ins
    have hrw := hR.rows
    unfold PR.readSymbols at hrd
    split at hrd
    rotate_left
    · cases hrd
    rename_i a b hws
    split at hrd
    rotate_left
    · cases hrd
    rename_i hc
    obtain ⟨rfl, hind, hsy⟩ := hc
    cases hrd
    obtain ⟨l, hl⟩ : ∃ l, L[0]? = some l := by
      unfold PR.wds at hws
      cases e : L[0]? with
      | none => rw [e] at hws; cases hws
      | some l => exact ⟨l, rfl⟩
    have hlm := List.mem_of_getElem? hl
    have hok := hL.ok l hlm
    have hsh := hL.short l hlm
    have hlw : l.ws = [Str.ofString "symbols", b] := by
      unfold PR.wds at hws
      rw [hl] at hws
      exact hws
    have hl0 : l.ind = 0 := by
      unfold PR.ind at hind
      rw [hl] at hind
      have : (l.ind : Int) = 0 := hind
      omega
    have hrt : PR.rowText l = PR.wordsText l.ws := by
      have e : (PR.rowText l).cps.toList = (PR.wordsText l.ws).cps.toList := by
        unfold PR.rowText
        rw [PR.toL_append, hl0]
        rfl
      exact str_ext e
    unfold PR.symB at hsy
    rw [Bool.and_eq_true, Bool.and_eq_true, Bool.and_eq_true, decide_eq_true_eq, decide_eq_true_eq] at hsy
    obtain ⟨⟨g1, g2, g3⟩, g4⟩ := hsy
    refine ⟨_, (pss_cons (ps_set (i := 1) sc_ProgramReader_read_symbols.nd rfl (by first | exact .inl rfl | exact .inr rfl) (pe_split (pe_ix (ixK (K := K) (r := rIxL) (by rfl) ix_list) (pe_fldK (K := K) (by rfl) (pv 0) (by rfl)) pe_int (fun _ _ => rfl)) (pe_glob (v := .str " ") (by rfl) T.c_BLANK.choose_spec ⟨_, rfl⟩)))
      (pss_cons (ps_if (PW.pt (pw_or (pt_cmpR op_ne (pe_callB (callK (K := K) (r := qLen) (by rfl) q_len) (by rfl) T.z_len (by decide +kernel) (pa_cons (pv 1) pa_nil)) pe_int (nomark _)) (pw_or (pt_cmpR op_ne (pe_ix (ixK (K := K) (r := rIxL) (by rfl) ix_list) (pv 1) pe_int (fun _ _ => rfl)) pe_str (nomark _)) (pw_or1 (pt_not (pt_val (pe_call G_is_word hr (by rfl) T.g_is_word T.f_is_word.kp T.b_is_word .nil pass0 (pa_cons (pe_ix (ixK (K := K) (r := rIxL) (by rfl) ix_list) (pv 1) pe_int (fun _ _ => rfl)) pa_nil)))))))) (pss_one (ps_expr (pe_meth0 (pv 0) T.cl_ProgramReader T.m_ProgramReader_fail G_ProgramReader_fail hr T.b_ProgramReader_fail .nil pass0))) pss_nil)
      (pss_cons (ps_if (PW.pt (pw_or (pt_not (pt_chain op_le op_le (pe_glob (v := .int 2) (by rfl) T.c_LEAST_SYMBOLS.choose_spec ⟨_, rfl⟩) (pe_callB (callK (K := K) (r := qLen) (by rfl) q_len) (by rfl) T.z_len (by decide +kernel) (pa_cons (pe_ix (ixK (K := K) (r := rIxL) (by rfl) ix_list) (pv 1) pe_int (fun _ _ => rfl)) pa_nil)) (pe_glob (v := .int 4) (by rfl) T.c_MOST_SYMBOLS.choose_spec ⟨_, rfl⟩))) (pw_or1 (pt_not (pt_val (pe_call G_are_ascending hr (by rfl) T.g_are_ascending T.f_are_ascending.kp T.b_are_ascending .nil pass0 (pa_cons (pe_ix (ixK (K := K) (r := rIxL) (by rfl) ix_list) (pv 1) pe_int (fun _ _ => rfl)) pa_nil))))))) (pss_one (ps_expr (pe_meth0 (pv 0) T.cl_ProgramReader T.m_ProgramReader_fail G_ProgramReader_fail hr T.b_ProgramReader_fail .nil pass0))) pss_nil)
      (pss_cons (ps_fld (pv 0) (pe_ix (ixK (K := K) (r := rIxL) (by rfl) ix_list) (pv 1) pe_int (fun _ _ => rfl)) rfl)
      (pss_one (ps_fldaug (pv 0) pe_int ip_add)))))), ?_⟩
    repeat walk_at "st"
    refine b_ixL (SqL.of hrw) (at_row (n := 0) hl) ?_
    repeat walk_at "st"
    refine e_split (ys := l.ws) rfl (by omega) (by rw [hrt]; exact PR.split_words hok.1 hok.2) fun p H1 np hp s1 => ?_
    rw [hlw] at hp
    simp only [List.map_cons, List.map_nil] at hp
    have hi1 := s1 _ _ hi
    repeat walk_at "st"
    rw [decide_eq_true (show V.int (([V.str "symbols", V.str b].length : Nat) : Int) = V.int 2 from rfl)]
    repeat walk_at "st"
    refine ⟨M0, .str b, .str b, rfl, .str b, fun y hy => by cases hy; omega, fun H2 s2 => ?_⟩
    rw [show wordD (.str b) = true from g1]
    have hp2 := s2 _ _ hp
    have hi2 := s2 _ _ hi1
    repeat walk_at "st"
    refine b_lenS (Nat.le_trans g3 (by decide)) ?_
    repeat walk_at "st"
    rw [decide_eq_true (show (2 : Int) ≤ (b.length : Int) by omega)]
    repeat walk_at "st"
    rw [decide_eq_true (show (b.length : Int) ≤ 4 by omega)]
    repeat walk_at "st"
    refine ⟨b, rfl, by omega, fun H3 s3 => ?_⟩
    rw [g4]
    have hp3 := s3 _ _ hp2
    have hi3 := s3 _ _ hi2
    repeat walk_at "st"
    refine e_sfld hi3 cl n3 (show 8 < 1000 by decide) fun H4 h4 s4 => ?_
    repeat walk_at "st"
    refine e_sfa h4 cl n2 (show 8 < 1000 by decide) rfl fun H5 h5 s5 => ?_
    repeat walk_at "st"
    exact q H5 h5 ((((SameM.of s1).trans (SameM.of s2)).trans (SameM.of s3)).trans s4 |>.trans s5)
end
end K09

namespace K09
open PySem PySem.Spec PyProof.Rows L2 FG
local macro_rules | `(tactic| walk_at "sq") => `(tactic| first
  | assumption
  | exact SqL.of (by assumption)
  | exact SqT.of (by assumption)
  | exact SqLm.l (by assumption)
  | exact SqTm.t (by assumption))
local macro_rules | `(tactic| walk_at "cond") => `(tactic| first
  | assumption
  | (show (0 : Int) < _; omega)
  | (show (0 : Int) < _ ∧ _ < 1073741824; omega))
local macro_rules | `(tactic| walk_at "st") => `(tactic| first
  | with_reducible refine b_seq ?_
  | with_reducible refine b_asg ?_
  | with_reducible refine b_op ?_
  | ((with_reducible refine' b_var ?hv ?_); (case hv => exact rfl))
  | with_reducible refine b_c ?_
  | with_reducible refine b_name ?_
  | with_reducible refine b_I0 ?_
  | with_reducible refine b_cons ?_
  | with_reducible refine b_nil ?_
  | with_reducible refine b_cb ?_
  | with_reducible refine b_call ?_
  | with_reducible refine b_ret ?_
  | with_reducible refine b_ifS ?_
  | with_reducible refine b_test ?_
  | with_reducible refine b_tb ?_
  | with_reducible refine b_bl ?_
  | with_reducible refine b_blP ?_
  | with_reducible refine b_next ?_
  | with_reducible refine b_drop ?_
  | with_reducible refine b_dget ?_
  | with_reducible refine b_makeN ?_
  | with_reducible refine b_pairs ?_
  | with_reducible refine b_pairs0 ?_
  | with_reducible refine b_sub ?_
  | with_reducible refine b_chain ?_
  | with_reducible refine b_and ?_
  | with_reducible refine b_or ?_
  | with_reducible refine b_not ?_
  | with_reducible refine b_andV ?_
  | with_reducible refine b_orV ?_
  | with_reducible refine b_notV ?_
  | with_reducible refine b_if ?_
  | with_reducible refine b_par ?_
  | with_reducible refine b_parE ?_
  | ((with_reducible refine' b_aug ?hv ?_); (case hv => exact rfl))
  | with_reducible refine b_ip ?_
  | with_reducible refine b_retN ?_
  | with_reducible refine b_tup ?_
  | with_reducible refine b_lst ?_
  | with_reducible refine b_sl ?_
  | with_reducible refine b_part ?_
  | with_reducible refine b_partP ?_
  | with_reducible refine b_nopart ?_
  | with_reducible refine b_bm ?_
  | with_reducible refine b_m1 ?_
  | with_reducible refine b_m0 ?_
  | with_reducible refine b_yes ?_
  | with_reducible refine b_un ?_
  | with_reducible refine b_neg ?_
  | with_reducible refine b_isN ?_
  | with_reducible refine b_notN ?_
  | with_reducible refine b_inS ?_
  | with_reducible refine b_int ?_
  | with_reducible refine b_intB ?_
  | with_reducible refine b_abs ?_
  | with_reducible refine b_max ?_
  | with_reducible refine b_min ?_
  | ((with_reducible refine b_eq ?hv ?_); (case hv => exact rfl))
  | ((with_reducible refine b_ne ?hv ?_); (case hv => exact rfl))
  | ((with_reducible refine' b_lenL ?hv ?_); (case hv => walk_at "sq"))
  | ((with_reducible refine' b_lenT ?hv ?_); (case hv => walk_at "sq"))
  | ((with_reducible refine' b_ixL ?hv ?hw ?_); (case hv => walk_at "sq"); (case hw => first | exact rfl | exact at0 | exact at1 | exact at2))
  | ((with_reducible refine' b_ixT ?hv ?hw ?_); (case hv => walk_at "sq"); (case hw => first | exact rfl | exact at0 | exact at1 | exact at2))
  | ((with_reducible refine b_I ?hv ?_); (case hv => walk_at "cond"))
  | with_reducible refine b_lcS ?_
  | with_reducible refine b_lcR ?_
  | with_reducible refine b_lcT ?_
  | with_reducible refine b_lcL ?_
  | with_reducible refine b_forT ?_
  | with_reducible refine b_forL ?_
  | with_reducible refine b_forR ?_
  | with_reducible refine b_turn ?_
  | ((with_reducible refine And.intro (a := wipe _ _ = wipe _ _) ?hv ?_); (case hv => exact rfl))
  | ((with_reducible refine And.intro (a := tyV _ "list" _ _) ?hv ?_); (case hv => exact ty_list (by assumption)))
  | with_reducible refine And.intro (a := ∃ a, V.str _ = V.str a) ⟨_, rfl⟩ ?_
  | (with_reducible refine iteT ?_)
  | (with_reducible refine iteNF ?_)
  | (with_reducible refine iteNT ?_)
  | (with_reducible refine iteVT ?_)
  | (with_reducible refine iteNVT ?_)
  | ((with_reducible refine iteVF ?hv ?_); (case hv => exact rfl))
  | ((with_reducible refine iteNVF ?hv ?_); (case hv => exact rfl))
  | with_reducible refine b_callS ?_
  | with_reducible refine b_xq ?_
  | with_reducible refine b_fld ?_
  | with_reducible refine b_sfld ?_
  | with_reducible refine b_meth ?_
  | with_reducible refine b_make ?_
  | with_reducible refine b_callK ?_
  | with_reducible refine b_sfa ?_
  | with_reducible refine b_lcEnT ?_
  | with_reducible refine b_lcEnL ?_
  | with_reducible refine b_forEnT ?_
  | with_reducible refine b_forEnL ?_
  | with_reducible refine b_lcZ ?_
  | with_reducible refine b_lcZX ?_
  | with_reducible refine b_prop ?_
  | with_reducible refine b_dput ?_
  | with_reducible refine b_din ?_
  | with_reducible refine b_inB ?_
  | with_reducible refine e_revT ?_
  | ((with_reducible refine' e_fld ?hv ?hc ?hn ?hl ?_); (case hv => assumption); (case hc => assumption); (case hn => assumption); (case hl => exact rfl))
  | ((with_reducible refine' e_meth ?hv ?hl ?_); (case hv => assumption); (case hl => exact rfl))
  | (with_reducible refine iteF ?_))

section
variable {P : Program} {w : World} {K : PySem.W.Frag} {mg : Str → Option Value} {base : Heap} {D : Ad}
structure Nice (L : List PR.Line) (s : PR.RS) : Prop where
  nm : s.names.length ≤ s.cells.length + s.bodies.length
  cl : s.cells.length ≤ 2
  bd : s.bodies.length ≤ 2
  bn : ∀ p ∈ s.bodies, p.1 ∈ s.names
  now : s.now ≤ L.length
  sy : s.sy.length ≤ 4
theorem Nice.small {L : List PR.Line} {s : PR.RS} (h : Nice L s) : SmallR s := ⟨by have := h.sy; omega, by have := h.cl; omega, by have := h.bd; omega⟩
theorem Nice.kept {L : List PR.Line} {s s' : PR.RS} (h : Nice L s) (k : PR.Kept L s s') : Nice L s' := by
  refine ⟨?_, ?_, ?_, ?_, k.now, ?_⟩
  · rw [k.names, k.cells, k.bodies]; exact h.nm
  · rw [k.cells]; exact h.cl
  · rw [k.bodies]; exact h.bd
  · rw [k.bodies, k.names]; exact h.bn
  · rw [k.sy]; exact h.sy
theorem newName_eq {s s' : PR.RS} {x : Str} (h : PR.newName s x = some s') : s' = { s with names := s.names ++ [x] } ∧ x ∉ s.names := by
  unfold PR.newName at h
  split at h
  · rename_i hc
    cases h
    rw [Bool.and_eq_true, Bool.and_eq_true, Bool.not_eq_true', Bool.not_eq_true'] at hc
    exact ⟨rfl, of_decide_eq_false hc.1.2⟩
  · cases h
theorem cell_nice {L : List PR.Line} {s s' : PR.RS} (h : Nice L s) (hn : s.now < L.length) (e : PR.readCell L s = some s') : Nice L s' := by
  unfold PR.readCell at e
  split at e
  · split at e
    · rename_i hc
      split at e
      · cases e
      · rename_i s1 hnew
        cases e
        obtain ⟨rfl, _⟩ := newName_eq hnew
        have h1 := h.nm
        have h2 := h.cl
        have h3 := hc.2
        refine ⟨?_, ?_, h.bd, ?_, hn, h.sy⟩
        · simp; omega
        · simp; omega
        · intro p hp
          exact List.mem_append_left _ (h.bn p hp)
    · cases e
  · cases e
theorem part_nice {L : List PR.Line} {s s' : PR.RS} (h : Nice L s) (e : PR.readPart L s = some s') : Nice L s' := by
  unfold PR.readPart at e
  split at e
  · split at e
    · rename_i hc
      split at e
      · cases e
      · rename_i s1 hnew
        split at e
        · cases e
        · rename_i x s2 hb
          cases e
          obtain ⟨rfl, _⟩ := newName_eq hnew
          have k := PR.rdB_kept hb
          have h1 := h.nm
          have h2 := h.bd
          have e1 : s2.cells = s.cells := k.cells
          have e2 : s2.names = s.names ++ [_] := k.names
          have e3 : s2.bodies = s.bodies := k.bodies
          refine ⟨?_, ?_, ?_, ?_, k.now, ?_⟩
          · show s2.names.length ≤ s2.cells.length + (s2.bodies ++ [_]).length
            rw [e1, e2, e3]; simp; omega
          · show s2.cells.length ≤ 2
            rw [e1]; exact h.cl
          · show (s2.bodies ++ [_]).length ≤ 2
            rw [e3]; simp; omega
          · intro p hp
            show p.1 ∈ s2.names
            rw [e2]
            have hp' : p ∈ s2.bodies ++ [_] := hp
            rw [e3] at hp'
            rcases List.mem_append.mp hp' with hp' | hp'
            · exact List.mem_append_left _ (h.bn p hp')
            · rw [List.mem_singleton.mp hp']
              exact List.mem_append_right _ (List.mem_singleton_self _)
          · show s2.sy.length ≤ 4
            rw [show s2.sy = s.sy from k.sy]; exact h.sy
    · cases e
  · cases e
def sp_rcell (K : PySem.W.Frag) (D : Ad) : Sp := fun vs H Q _ => ∃ (L : List PR.Line) (r : Addr) (A : RA) (s s' : PR.RS), vs = [.ref r] ∧ RdAt K D L r A s H ∧ LOk L ∧ Nice L s ∧ PR.readCell L s = some s' ∧ ∀ H', RdAt K D L r A s' H' → SameM (RM r A) H H' → Q .non H'
theorem row_of {L : List PR.Line} {n : Nat} {ws : List Str} (h : PR.wds L n = ws) (hne : ws ≠ []) : ∃ l, L[n]? = some l ∧ l.ws = ws := by
  unfold PR.wds at h
  cases e : L[n]? with
  | none => rw [e] at h; exact absurd h.symm hne
  | some l => rw [e] at h; exact ⟨l, rfl, h⟩
theorem ok_ProgramReader_read_cell (T : Txt K mg D) (hB_TAKEN : BaseTup base D.k_TAKEN PR.taken) {k : Nat} : FnOk P w K mg base CX0 (k + 4) D.f_ProgramReader_read_cell D.d_ProgramReader_read_cell P_ProgramReader_read_cell (sp_rcell K D) := by
  have cl := T.cl_ProgramReader
  have n2 := T.n_ProgramReader_now
  have n4 := T.n_ProgramReader_own_cells
  have G_ProgramReader_words : FnOk P w K mg base CX0 (k + 3) D.f_ProgramReader_words D.d_ProgramReader_words P_ProgramReader_words (sp_words K D) := ok_ProgramReader_words T
  have G_ProgramReader_new_name : FnOk P w K mg base CX0 (k + 3) D.f_ProgramReader_new_name D.d_ProgramReader_new_name P_ProgramReader_new_name (sp_new_name K D) := ok_ProgramReader_new_name T hB_TAKEN
  have G_ProgramReader_fail : FnOk P w K mg base CX0 (k + 3) D.f_ProgramReader_fail D.d_ProgramReader_fail P_ProgramReader_fail (fun _ _ _ _ => False) := never
  refine T.f_ProgramReader_read_cell.ok sc_ProgramReader_read_cell (fun vs H Q E h => ?_) (fun cdv A outer s H vs Q E hr h => ?_)
  · obtain ⟨L, r, A, s, s', rfl, _⟩ := h
    rfl
  · obtain ⟨L, r, A, s, s', rfl, hR, hL, hN, hrd, q⟩ := h
    have hi := hR.ins
    have tM : ∀ H' : Hp, SqT K H' D.k_MOSTS (PR.mosts.map V.str) := fun H' => (strs_vals (strs_const (H := H') T.t_MOSTS)).elim fun a h => by cases h.1; exact h.2
    unfold PR.readCell at hrd
    split at hrd
    rotate_left
    · cases hrd
    rename_i a b c hws
    split at hrd
    rotate_left
    · cases hrd
    rename_i hc
    split at hrd
    · cases hrd
    rename_i s1 hnew
    cases hrd
    obtain ⟨l, hl, hlw⟩ := row_of hws (by simp)
    have hlm := List.mem_of_getElem? hl
    have hwl := row_word hL hlm
    refine ⟨_, (pss_cons (ps_set (i := 1) sc_ProgramReader_read_cell.nd rfl (by first | exact .inl rfl | exact .inr rfl) (pe_meth0 (pv 0) T.cl_ProgramReader T.m_ProgramReader_words G_ProgramReader_words hr T.b_ProgramReader_words .nil pass0))
      (pss_cons (ps_if (PW.pt (pw_or (pt_cmpR op_ne (pe_callB (callK (K := K) (r := qLen) (by rfl) q_len) (by rfl) T.z_len (by decide +kernel) (pa_cons (pv 1) pa_nil)) pe_int (nomark _)) (pw_or (pt_cmpR (opK (K := K) (r := fun K => rIn K true) (by rfl) op_notIn_seq) (pe_ix (ixK (K := K) (r := rIxL) (by rfl) ix_list) (pv 1) pe_int (fun _ _ => rfl)) (pe_glob (v := .ref D.k_MOSTS) (by rfl) T.g_MOSTS rfl) (by rfl)) (pw_or1 (pt_cmpR op_eq (pe_callB (callK (K := K) (r := qLen) (by rfl) q_len) (by rfl) T.z_len (by decide +kernel) (pa_cons (pe_fldK (K := K) (by rfl) (pv 0) (by rfl)) pa_nil)) (pe_glob (v := .int 2) (by rfl) T.c_MOST_CELLS.choose_spec ⟨_, rfl⟩) (nomark _)))))) (pss_one (ps_expr (pe_meth0 (pv 0) T.cl_ProgramReader T.m_ProgramReader_fail G_ProgramReader_fail hr T.b_ProgramReader_fail .nil pass0))) pss_nil)
      (pss_cons (ps_expr (pe_meth (pv 0) T.cl_ProgramReader T.m_ProgramReader_new_name G_ProgramReader_new_name hr T.b_ProgramReader_new_name .nil pass0 (pa_cons (pe_ix (ixK (K := K) (r := rIxL) (by rfl) ix_list) (pv 1) pe_int (fun _ _ => rfl)) pa_nil)))
      (pss_cons (ps_expr (pe_bm PySem.F.plainAttrs_list PySem.F.slot_list_append PySem.F.type_list_append mt_append (pe_fldK (K := K) (by rfl) (pv 0) (by rfl)) (pa_cons (pe_tup (pa_cons (pe_ix (ixK (K := K) (r := rIxL) (by rfl) ix_list) (pv 1) pe_int (fun _ _ => rfl)) (pa_cons (pe_callTy q_intS (by rfl) T.z_int (by decide +kernel) (pa_cons (pe_ix (ixK (K := K) (r := rIxL) (by rfl) ix_list) (pv 1) pe_int (fun _ _ => rfl)) pa_nil)) pa_nil))) pa_nil)))
      (pss_one (ps_fldaug (pv 0) pe_int ip_add)))))), ?_⟩
    repeat walk_at "st"
    refine ⟨L, r, A, s, l, rfl, hR, hL, hl, fun p H1 np hp s1' => ?_⟩
    rw [hlw] at hp hwl
    simp only [List.map_cons, List.map_nil] at hp
    have hR1 := hR.same s1'
    have hi1 := hR1.ins
    obtain ⟨cs, hcs, hcd⟩ := hR1.cells
    have hcl : cs.length = s.cells.length := by rw [hcd.length, List.length_map]
    repeat walk_at "st"
    rw [decide_eq_true (show V.int (([V.str a, V.str b, V.str c].length : Nat) : Int) = V.int 3 from rfl)]
    repeat walk_at "st"
    refine b_inT (tM H1) rfl (flat_strs _) ?_
    rw [inV_str, hc.1]
    simp only [if_true, Bool.not_true]
    repeat walk_at "st"
    rw [decide_eq_false (show ¬ V.int ((cs.length : Nat) : Int) = V.int 2 from fun z => hc.2 (by injection z with z; omega))]
    repeat walk_at "st"
    refine ⟨L, r, A, s, s1, b, rfl, hR1, hL, hwl b (by simp), by have := hN.nm; have := hN.cl; have := hN.bd; omega, hnew, fun H2 hR2 t2 => ?_⟩
    have hi2 := hR2.ins
    have hp2 : H2 p = some (.lst [V.str a, V.str b, V.str c]) := t2 _ _ (fun z => hR.trk p z np) hp
    obtain ⟨cs2, hcs2, hcd2⟩ := hR2.cells
    have hcl2 : cs2.length = s1.cells.length := by rw [hcd2.length, List.length_map]
    obtain ⟨hs1, _⟩ := newName_eq hnew
    have hcl3 : cs2.length ≤ 2 := by rw [hcl2, hs1]; exact hN.cl
    repeat walk_at "st"
    have hdig : PySem.intText? c = some ((PR.digit c : Nat) : Int) ∧ c.length ≤ 640 := by
      have hcm : c ∈ PR.mosts := of_decide_eq_true hc.1
      simp only [PR.mosts, List.mem_cons, List.not_mem_nil, or_false] at hcm
      rcases hcm with rfl | rfl
      · exact ⟨by decide +kernel, by decide⟩
      · exact ⟨by decide +kernel, by decide⟩
    refine ⟨c, _, rfl, hdig.1, hdig.2, ?_⟩
    repeat walk_at "st"
    refine e_tup fun t H3 nt ht s3 => ?_
    have hcs3 := s3 _ _ hcs2
    have hi3 := s3 _ _ hi2
    repeat walk_at "st"
    refine e_append hcs3 (by omega) fun H4 h4 t4 => ?_
    have rcl : r ≠ A.cl := fun z => by rw [z, hcs2] at hi2; cases hi2
    have hi4 := t4 _ _ rcl hi3
    repeat walk_at "st"
    refine e_sfa hi4 cl n2 (show 8 < 1000 by decide) rfl fun H5 h5 t5 => ?_
    repeat walk_at "st"
    have tcl : t ≠ A.cl := fun z => by rw [z, hcs2] at nt; cases nt
    have sM4 : SameM (RM r A) H3 H4 := t4.sub fun z hz => .inr (.inl hz)
    have sM5 : SameM (RM r A) H4 H5 := t5.sub fun z hz => .inl hz
    obtain ⟨kvs, hb, hbd⟩ := hR2.bods
    have bdr : A.bd ≠ r := fun z => by rw [z, hi2] at hb; cases hb
    have bdcl : A.bd ≠ A.cl := fun z => by rw [z, hcs2] at hb; cases hb
    have nmr : A.nm ≠ r := fun z => by have := hR2.names; rw [z, hi2] at this; cases this
    have hrwn := hR2.rwM
    have ntM : ¬ RM r A t := fun z => hR2.trk t z nt
    refine q H5 ⟨h5, ?_, ⟨cs2 ++ [.ref t], t5 _ _ (Ne.symm rcl) h4, ?_⟩, ?_, ⟨kvs, t5 _ _ bdr (t4 _ _ bdcl (s3 _ _ hb)), ((hbd.mono (SameM.of s3)).mono sM4).mono sM5⟩, hrwn, hR2.clnm⟩ ?_
    · exact t5 _ _ (fun z => hrwn (.inl z)) (t4 _ _ (fun z => hrwn (.inr (.inl z))) (s3 _ _ hR2.rows))
    · rw [List.map_append]
      refine (((hcd2.same s3).mono sM4).mono sM5).append (.cons ?_ .nil)
      exact Dq.newT ntM (t5 _ _ (fun z => ntM (.inl z)) (t4 _ _ tcl ht)) (.cons (.str _) (.cons (.int _) .nil))
    · exact t5 _ _ nmr (t4 _ _ (Ne.symm hR2.clnm) (s3 _ _ hR2.names))
    · exact ((((SameM.of s1').trans t2).trans (SameM.of s3)).trans sM4).trans sM5
end
end K09

namespace K09
open PySem PySem.Spec PyProof.Rows L2 FG
local macro_rules | `(tactic| walk_at "sq") => `(tactic| first
  | assumption
  | exact SqL.of (by assumption)
  | exact SqT.of (by assumption)
  | exact SqLm.l (by assumption)
  | exact SqTm.t (by assumption))
local macro_rules | `(tactic| walk_at "cond") => `(tactic| first
  | assumption
  | (show (0 : Int) < _; omega)
  | (show (0 : Int) < _ ∧ _ < 1073741824; omega))
local macro_rules | `(tactic| walk_at "st") => `(tactic| first
  | with_reducible refine b_seq ?_
  | with_reducible refine b_asg ?_
  | with_reducible refine b_op ?_
  | ((with_reducible refine' b_var ?hv ?_); (case hv => exact rfl))
  | with_reducible refine b_c ?_
  | with_reducible refine b_name ?_
  | with_reducible refine b_I0 ?_
  | with_reducible refine b_cons ?_
  | with_reducible refine b_nil ?_
  | with_reducible refine b_cb ?_
  | with_reducible refine b_call ?_
  | with_reducible refine b_ret ?_
  | with_reducible refine b_ifS ?_
  | with_reducible refine b_test ?_
  | with_reducible refine b_tb ?_
  | with_reducible refine b_bl ?_
  | with_reducible refine b_blP ?_
  | with_reducible refine b_next ?_
  | with_reducible refine b_drop ?_
  | with_reducible refine b_dget ?_
  | with_reducible refine b_makeN ?_
  | with_reducible refine b_pairs ?_
  | with_reducible refine b_pairs0 ?_
  | with_reducible refine b_sub ?_
  | with_reducible refine b_chain ?_
  | with_reducible refine b_and ?_
  | with_reducible refine b_or ?_
  | with_reducible refine b_not ?_
  | with_reducible refine b_andV ?_
  | with_reducible refine b_orV ?_
  | with_reducible refine b_notV ?_
  | with_reducible refine b_if ?_
  | with_reducible refine b_par ?_
  | with_reducible refine b_parE ?_
  | ((with_reducible refine' b_aug ?hv ?_); (case hv => exact rfl))
  | with_reducible refine b_ip ?_
  | with_reducible refine b_retN ?_
  | with_reducible refine b_tup ?_
  | with_reducible refine b_lst ?_
  | with_reducible refine b_sl ?_
  | with_reducible refine b_part ?_
  | with_reducible refine b_partP ?_
  | with_reducible refine b_nopart ?_
  | with_reducible refine b_bm ?_
  | with_reducible refine b_m1 ?_
  | with_reducible refine b_m0 ?_
  | with_reducible refine b_yes ?_
  | with_reducible refine b_un ?_
  | with_reducible refine b_neg ?_
  | with_reducible refine b_isN ?_
  | with_reducible refine b_notN ?_
  | with_reducible refine b_inS ?_
  | with_reducible refine b_int ?_
  | with_reducible refine b_intB ?_
  | with_reducible refine b_abs ?_
  | with_reducible refine b_max ?_
  | with_reducible refine b_min ?_
  | ((with_reducible refine b_eq ?hv ?_); (case hv => exact rfl))
  | ((with_reducible refine b_ne ?hv ?_); (case hv => exact rfl))
  | ((with_reducible refine' b_lenL ?hv ?_); (case hv => walk_at "sq"))
  | ((with_reducible refine' b_lenT ?hv ?_); (case hv => walk_at "sq"))
  | ((with_reducible refine' b_ixL ?hv ?hw ?_); (case hv => walk_at "sq"); (case hw => first | exact rfl | exact at0 | exact at1 | exact at2))
  | ((with_reducible refine' b_ixT ?hv ?hw ?_); (case hv => walk_at "sq"); (case hw => first | exact rfl | exact at0 | exact at1 | exact at2))
  | ((with_reducible refine b_I ?hv ?_); (case hv => walk_at "cond"))
  | with_reducible refine b_lcS ?_
  | with_reducible refine b_lcR ?_
  | with_reducible refine b_lcT ?_
  | with_reducible refine b_lcL ?_
  | with_reducible refine b_forT ?_
  | with_reducible refine b_forL ?_
  | with_reducible refine b_forR ?_
  | with_reducible refine b_turn ?_
  | ((with_reducible refine And.intro (a := wipe _ _ = wipe _ _) ?hv ?_); (case hv => exact rfl))
  | ((with_reducible refine And.intro (a := tyV _ "list" _ _) ?hv ?_); (case hv => exact ty_list (by assumption)))
  | with_reducible refine And.intro (a := ∃ a, V.str _ = V.str a) ⟨_, rfl⟩ ?_
  | (with_reducible refine iteT ?_)
  | (with_reducible refine iteNF ?_)
  | (with_reducible refine iteNT ?_)
  | (with_reducible refine iteVT ?_)
  | (with_reducible refine iteNVT ?_)
  | ((with_reducible refine iteVF ?hv ?_); (case hv => exact rfl))
  | ((with_reducible refine iteNVF ?hv ?_); (case hv => exact rfl))
  | with_reducible refine b_callS ?_
  | with_reducible refine b_xq ?_
  | with_reducible refine b_fld ?_
  | with_reducible refine b_sfld ?_
  | with_reducible refine b_meth ?_
  | with_reducible refine b_make ?_
  | with_reducible refine b_callK ?_
  | with_reducible refine b_sfa ?_
  | with_reducible refine b_lcEnT ?_
  | with_reducible refine b_lcEnL ?_
  | with_reducible refine b_forEnT ?_
  | with_reducible refine b_forEnL ?_
  | with_reducible refine b_lcZ ?_
  | with_reducible refine b_lcZX ?_
  | with_reducible refine b_prop ?_
  | with_reducible refine b_dput ?_
  | with_reducible refine b_din ?_
  | with_reducible refine b_inB ?_
  | with_reducible refine e_revT ?_
  | ((with_reducible refine' e_fld ?hv ?hc ?hn ?hl ?_); (case hv => assumption); (case hc => assumption); (case hn => assumption); (case hl => exact rfl))
  | ((with_reducible refine' e_meth ?hv ?hl ?_); (case hv => assumption); (case hl => exact rfl))
  | (with_reducible refine iteF ?_))

section
variable {P : Program} {w : World} {K : PySem.W.Frag} {mg : Str → Option Value} {base : Heap} {D : Ad}
theorem Bodies.append {M : Addr → Prop} {H : Hp} : ∀ {kvs kvs' : List (Key × V)} {bs bs' : List (Str × List PR.St)}, Bodies D M H kvs bs → Bodies D M H kvs' bs' → Bodies D M H (kvs ++ kvs') (bs ++ bs')
  | _, _, _, _, .nil, b => b
  | _, _, _, _, .cons n h t r, b => .cons n h t (Bodies.append r b)
theorem Bodies.length {M : Addr → Prop} {H : Hp} {kvs : List (Key × V)} {bs : List (Str × List PR.St)} (h : Bodies D M H kvs bs) : kvs.length = bs.length := by
  have := congrArg List.length h.keys
  simpa using this
def sp_rpart (K : PySem.W.Frag) (D : Ad) : Sp := fun vs H Q _ => ∃ (L : List PR.Line) (r : Addr) (A : RA) (s s' : PR.RS), vs = [.ref r] ∧ RdAt K D L r A s H ∧ LOk L ∧ Nice L s ∧ PR.readPart L s = some s' ∧ ∀ H', RdAt K D L r A s' H' → SameM (RM r A) H H' → Q .non H'
theorem ok_ProgramReader_read_part (T : Txt K mg D) (hB_TAKEN : BaseTup base D.k_TAKEN PR.taken) {k : Nat} : FnOk P w K mg base CX0 (k + 16) D.f_ProgramReader_read_part D.d_ProgramReader_read_part P_ProgramReader_read_part (sp_rpart K D) := by
  have cl := T.cl_ProgramReader
  have n2 := T.n_ProgramReader_now
  have n6 := T.n_ProgramReader_bodies
  have G_ProgramReader_words : FnOk P w K mg base CX0 (k + 15) D.f_ProgramReader_words D.d_ProgramReader_words P_ProgramReader_words (sp_words K D) := ok_ProgramReader_words T
  have G_ProgramReader_new_name : FnOk P w K mg base CX0 (k + 15) D.f_ProgramReader_new_name D.d_ProgramReader_new_name P_ProgramReader_new_name (sp_new_name K D) := ok_ProgramReader_new_name T hB_TAKEN
  have G_ProgramReader_read_body : FnOk P w K mg base CX0 (k + 15) D.f_ProgramReader_read_body D.d_ProgramReader_read_body P_ProgramReader_read_body (sp_body K D 4) := (ok_rd T 4 k).2
  have G_ProgramReader_fail : FnOk P w K mg base CX0 (k + 15) D.f_ProgramReader_fail D.d_ProgramReader_fail P_ProgramReader_fail (fun _ _ _ _ => False) := never
  refine T.f_ProgramReader_read_part.ok sc_ProgramReader_read_part (fun vs H Q E h => ?_) (fun cdv A outer s H vs Q E hr h => ?_)
  · obtain ⟨L, r, A, s, s', rfl, _⟩ := h
    rfl
  · obtain ⟨L, r, A, s, s', rfl, hR, hL, hN, hrd, q⟩ := h
    have hi := hR.ins
    unfold PR.readPart at hrd
    split at hrd
    rotate_left
    · cases hrd
    rename_i a b hws
    split at hrd
    rotate_left
    · cases hrd
    rename_i hc
    split at hrd
    · cases hrd
    rename_i s1 hnew
    split at hrd
    · cases hrd
    rename_i x s2 hb
    cases hrd
    obtain ⟨l, hl, hlw⟩ := row_of hws (by simp)
    have hlm := List.mem_of_getElem? hl
    have hnl : s.now < L.length := (List.getElem?_eq_some_iff.mp hl).1
    have hwl := row_word hL hlm
    obtain ⟨hs1, hbn⟩ := newName_eq hnew
    refine ⟨_, (pss_cons (ps_set (i := 1) sc_ProgramReader_read_part.nd rfl (by first | exact .inl rfl | exact .inr rfl) (pe_meth0 (pv 0) T.cl_ProgramReader T.m_ProgramReader_words G_ProgramReader_words hr T.b_ProgramReader_words .nil pass0))
      (pss_cons (ps_if (PW.pt (pw_or (pt_cmpR op_ne (pe_callB (callK (K := K) (r := qLen) (by rfl) q_len) (by rfl) T.z_len (by decide +kernel) (pa_cons (pv 1) pa_nil)) pe_int (nomark _)) (pw_or1 (pt_cmpR op_eq (pe_callB call_lenD (by rfl) T.z_len (by decide +kernel) (pa_cons (pe_fldK (K := K) (by rfl) (pv 0) (by rfl)) pa_nil)) (pe_glob (v := .int 2) (by rfl) T.c_MOST_PARTS.choose_spec ⟨_, rfl⟩) (nomark _))))) (pss_one (ps_expr (pe_meth0 (pv 0) T.cl_ProgramReader T.m_ProgramReader_fail G_ProgramReader_fail hr T.b_ProgramReader_fail .nil pass0))) pss_nil)
      (pss_cons (ps_expr (pe_meth (pv 0) T.cl_ProgramReader T.m_ProgramReader_new_name G_ProgramReader_new_name hr T.b_ProgramReader_new_name .nil pass0 (pa_cons (pe_ix (ixK (K := K) (r := rIxL) (by rfl) ix_list) (pv 1) pe_int (fun _ _ => rfl)) pa_nil)))
      (pss_cons (ps_fldaug (pv 0) pe_int ip_add)
      (pss_one (ps_dput (unit1 hr) (pe_fldK (K := K) (by rfl) (pv 0) (by rfl)) (pe_ix (ixK (K := K) (r := rIxL) (by rfl) ix_list) (pv 1) pe_int (fun _ _ => rfl)) (pe_meth (pv 0) T.cl_ProgramReader T.m_ProgramReader_read_body G_ProgramReader_read_body hr T.b_ProgramReader_read_body .nil pass0 (pa_cons pe_int pa_nil)) rfl)))))), ?_⟩
    repeat walk_at "st"
    refine ⟨L, r, A, s, l, rfl, hR, hL, hl, fun p H1 np hp s1' => ?_⟩
    rw [hlw] at hp hwl
    simp only [List.map_cons, List.map_nil] at hp
    have hR1 := hR.same s1'
    have hi1 := hR1.ins
    obtain ⟨kvs1, hb1, hbd1⟩ := hR1.bods
    have hkl := hbd1.length
    repeat walk_at "st"
    rw [decide_eq_true (show V.int (([V.str a, V.str b].length : Nat) : Int) = V.int 2 from rfl)]
    repeat walk_at "st"
    refine ⟨A.bd, kvs1, rfl, hb1, ?_⟩
    repeat walk_at "st"
    rw [decide_eq_false (show ¬ V.int ((kvs1.length : Nat) : Int) = V.int 2 from fun z => hc (by injection z with z; omega))]
    repeat walk_at "st"
    refine ⟨L, r, A, s, s1, b, rfl, hR1, hL, hwl b (by simp), by have := hN.nm; have := hN.cl; have := hN.bd; omega, hnew, fun H2 hR2 t2 => ?_⟩
    have hi2 := hR2.ins
    have npM : ¬ RM r A p := fun z => hR.trk p z np
    have hp2 : H2 p = some (.lst [V.str a, V.str b]) := t2 _ _ npM hp
    repeat walk_at "st"
    refine e_sfa hi2 cl n2 (show 8 < 1000 by decide) rfl fun H3 h3 t3 => ?_
    have hi3 : InsAt D r A { s1 with now := s1.now + 1 } H3 := h3
    have hR3 : RdAt K D L r A { s1 with now := s1.now + 1 } H3 := hR2.put rfl rfl rfl t3 hi3
    have hp3 : H3 p = some (.lst [V.str a, V.str b]) := t3 _ _ (fun z => npM (.inl z)) hp2
    have sm3 : SmallR { s1 with now := s1.now + 1 } := by
      subst hs1
      exact ⟨hN.small.sy, hN.small.cells, hN.small.bodies⟩
    have hn3 : s1.now + 1 ≤ L.length := by rw [hs1]; exact hnl
    have kb := PR.rdB_kept hb
    repeat walk_at "st"
    refine ⟨L, r, A, _, s2, 1, x, rfl, hR3, hL, sm3, hn3, by decide, hb, fun lb xs H4 nlb hlb htr hi4 t4 => ?_⟩
    have hR4 : RdAt K D L r A s2 H4 := hR3.step kb t4 hi4
    have hp4 : H4 p = some (.lst [V.str a, V.str b]) := t4 _ _ (fun z => npM (.inl z)) hp3
    have hi4' : H4 r = some _ := hi4
    obtain ⟨kvs4, hb4, hbd4⟩ := hR4.bods
    have hkl4 := hbd4.length
    have e3 : s2.bodies = s.bodies := by rw [kb.bodies, hs1]
    repeat walk_at "st"
    refine e_dput (k := Sum.inr b) hb4 (by rw [hkl4, e3]; have := hN.bd; omega) fun H5 h5 t5 => ?_
    repeat walk_at "st"
    have hval : valV kvs4 (Sum.inr b) = none := by
      have h1 := body_key (x := b) hbd4
      have h2 : PR.inS b (s2.bodies.map (·.1)) = false := by
        rw [e3]
        refine decide_eq_false ?_
        intro hm
        obtain ⟨pp, hpp, rfl⟩ := List.mem_map.mp hm
        exact hbn (hN.bn pp hpp)
      rw [h2] at h1
      cases z : valV kvs4 (Sum.inr b) with
      | none => rfl
      | some v => rw [z] at h1; cases h1
    rw [putK_new _ hval] at h5
    have sM5 : SameM (RM r A) H4 H5 := t5.sub fun z hz => .inr (.inr (.inr hz))
    have rbd : r ≠ A.bd := fun z => by rw [z, hb4] at hi4'; cases hi4'
    have hnm4 := hR4.names
    have nmbd : A.nm ≠ A.bd := fun z => by rw [z, hb4] at hnm4; cases hnm4
    obtain ⟨cs4, hcs4, hcd4⟩ := hR4.cells
    have clbd : A.cl ≠ A.bd := fun z => by rw [z, hb4] at hcs4; cases hcs4
    have hrwn := hR4.rwM
    have was3 : ∀ z, RM r A z → Was H3 z := hR3.was
    have lbM : ¬ RM r A lb := fun z => was3 lb z nlb
    refine q H5 ⟨t5 _ _ rbd hi4', t5 _ _ (fun z => hrwn (.inr (.inr (.inr z)))) hR4.rows, ⟨cs4, t5 _ _ clbd hcs4, hcd4.mono sM5⟩, t5 _ _ nmbd hnm4, ⟨_, h5, ?_⟩, hrwn, hR4.clnm⟩ ?_
    · refine (hbd4.mono sM5).append (.cons lbM (t5 _ _ (fun z => lbM (.inr (.inr (.inr z)))) hlb) ?_ .nil)
      exact (htr.avoid fun z hz => .inl (was3 z hz)).mono sM5
    · exact ((((SameM.of s1').trans t2).trans (t3.sub fun z hz => .inl hz)).trans (t4.sub fun z hz => .inl hz)).trans sM5
/-! ### all -/
def sp_read (K : PySem.W.Frag) (D : Ad) : Sp := fun vs H Q _ => ∃ (L : List PR.Line) (r : Addr) (A : RA) (s' : PR.RS), vs = [.ref r] ∧ RdAt K D L r A PR.start H ∧ LOk L ∧ PR.readAll L = some s' ∧
  ∀ l xs H', RdAt K D L r { A with mn := .ref l } s' H' → H l = none → H' l = some (.lst xs) → STrees D (RM r A) H' xs s'.main → SameM (RM r A) H H' → Nice L s' → Q .non H'
theorem ok_ProgramReader_read (T : Txt K mg D) (hB_TAKEN : BaseTup base D.k_TAKEN PR.taken) {k : Nat} : FnOk P w K mg base CX0 (k + 17) D.f_ProgramReader_read D.d_ProgramReader_read P_ProgramReader_read (sp_read K D) := by
  have cl := T.cl_ProgramReader
  have n1 := T.n_ProgramReader_rows
  have n2 := T.n_ProgramReader_now
  have n7 := T.n_ProgramReader_main
  have G_ProgramReader_read_symbols : FnOk P w K mg base CX0 (k + 16) D.f_ProgramReader_read_symbols D.d_ProgramReader_read_symbols P_ProgramReader_read_symbols (sp_rsym K D) := ok_ProgramReader_read_symbols T
  have G_ProgramReader_begins : FnOk P w K mg base CX0 (k + 16) D.f_ProgramReader_begins D.d_ProgramReader_begins P_ProgramReader_begins (sp_begins K D) := ok_ProgramReader_begins T
  have G_ProgramReader_read_cell : FnOk P w K mg base CX0 (k + 16) D.f_ProgramReader_read_cell D.d_ProgramReader_read_cell P_ProgramReader_read_cell (sp_rcell K D) := ok_ProgramReader_read_cell T hB_TAKEN
  have G_ProgramReader_read_part : FnOk P w K mg base CX0 (k + 16) D.f_ProgramReader_read_part D.d_ProgramReader_read_part P_ProgramReader_read_part (sp_rpart K D) := ok_ProgramReader_read_part T hB_TAKEN
  have G_ProgramReader_is_over : FnOk P w K mg base CX0 (k + 16) D.f_ProgramReader_is_over D.d_ProgramReader_is_over P_ProgramReader_is_over (sp_is_over K D) := ok_ProgramReader_is_over T
  have G_ProgramReader_read_body : FnOk P w K mg base CX0 (k + 16) D.f_ProgramReader_read_body D.d_ProgramReader_read_body P_ProgramReader_read_body (sp_body K D 4) := (ok_rd T 4 (k + 1)).2.mono (by omega)
  have G_ProgramReader_fail : FnOk P w K mg base CX0 (k + 16) D.f_ProgramReader_fail D.d_ProgramReader_fail P_ProgramReader_fail (fun _ _ _ _ => False) := never
  refine T.f_ProgramReader_read.ok sc_ProgramReader_read (fun vs H Q E h => ?_) (fun cdv A outer s H vs Q E hr h => ?_)
  · obtain ⟨L, r, A, s', rfl, _⟩ := h
    rfl
  · obtain ⟨L, r, A, s', rfl, hR, hL, hrd, q⟩ := h
    have hi := hR.ins
    unfold PR.readAll at hrd
    split at hrd
    · cases hrd
    rename_i s1 hsym
    split at hrd
    · cases hrd
    rename_i s2 hcells
    split at hrd
    · cases hrd
    rename_i s3 hparts
    split at hrd
    rotate_left
    · cases hrd
    rename_i hmain
    split at hrd
    · cases hrd
    rename_i b s4 hbody
    split at hrd
    rotate_left
    · cases hrd
    rename_i hend
    cases hrd
    have hN1 : Nice L s1 ∧ s1.cells = [] ∧ s1.names = [] ∧ s1.bodies = [] := by
      unfold PR.readSymbols at hsym
      split at hsym
      · rename_i a0 b0 hws
        split at hsym
        · rename_i hc
          cases hsym
          obtain ⟨l, hl, _⟩ := row_of hws (by simp)
          have hsy := hc.2.2
          unfold PR.symB at hsy
          rw [Bool.and_eq_true, Bool.and_eq_true, Bool.and_eq_true, decide_eq_true_eq, decide_eq_true_eq] at hsy
          refine ⟨⟨Nat.zero_le _, Nat.zero_le _, Nat.zero_le _, fun p hp => (by cases hp), ?_, hsy.1.2.2⟩, rfl, rfl, rfl⟩
          have := (List.getElem?_eq_some_iff.mp hl).1
          show 0 + 1 ≤ L.length
          omega
        · cases hsym
      · cases hsym
    obtain ⟨hN1, c1, c2', c3⟩ := hN1
    refine ⟨_, (pss_cons (ps_expr (pe_meth0 (pv 0) T.cl_ProgramReader T.m_ProgramReader_read_symbols G_ProgramReader_read_symbols hr T.b_ProgramReader_read_symbols .nil pass0))
      (pss_cons (ps_while PassesOwn.never (pt_val (pe_meth (pv 0) T.cl_ProgramReader T.m_ProgramReader_begins G_ProgramReader_begins hr T.b_ProgramReader_begins .nil pass0 (pa_cons pe_str pa_nil))) (pss_one (ps_expr (pe_meth0 (pv 0) T.cl_ProgramReader T.m_ProgramReader_read_cell G_ProgramReader_read_cell hr T.b_ProgramReader_read_cell .nil pass0))))
      (pss_cons (ps_while PassesOwn.never (pt_val (pe_meth (pv 0) T.cl_ProgramReader T.m_ProgramReader_begins G_ProgramReader_begins hr T.b_ProgramReader_begins .nil pass0 (pa_cons pe_str pa_nil))) (pss_one (ps_expr (pe_meth0 (pv 0) T.cl_ProgramReader T.m_ProgramReader_read_part G_ProgramReader_read_part hr T.b_ProgramReader_read_part .nil pass0))))
      (pss_cons (ps_if (PW.pt (pw_or (pt_val (pe_meth0 (pv 0) T.cl_ProgramReader T.m_ProgramReader_is_over G_ProgramReader_is_over hr T.b_ProgramReader_is_over .nil pass0)) (pw_or1 (pt_cmpR op_ne (pe_ix (ixK (K := K) (r := rIxL) (by rfl) ix_list) (pe_fldK (K := K) (by rfl) (pv 0) (by rfl)) (pe_fldK (K := K) (by rfl) (pv 0) (by rfl)) (fun _ _ => rfl)) pe_str (nomark _))))) (pss_one (ps_expr (pe_meth0 (pv 0) T.cl_ProgramReader T.m_ProgramReader_fail G_ProgramReader_fail hr T.b_ProgramReader_fail .nil pass0))) pss_nil)
      (pss_cons (ps_fldaug (pv 0) pe_int ip_add)
      (pss_cons (ps_fld (pv 0) (pe_meth (pv 0) T.cl_ProgramReader T.m_ProgramReader_read_body G_ProgramReader_read_body hr T.b_ProgramReader_read_body .nil pass0 (pa_cons pe_int pa_nil)) rfl)
      (pss_one (ps_if (pt_not (pt_val (pe_meth0 (pv 0) T.cl_ProgramReader T.m_ProgramReader_is_over G_ProgramReader_is_over hr T.b_ProgramReader_is_over .nil pass0))) (pss_one (ps_expr (pe_meth0 (pv 0) T.cl_ProgramReader T.m_ProgramReader_fail G_ProgramReader_fail hr T.b_ProgramReader_fail .nil pass0))) pss_nil)))))))), ?_⟩
    repeat walk_at "st"
    refine ⟨L, r, A, PR.start, s1, rfl, hR, hL, hsym, fun H1 hi1 t1 => ?_⟩
    have hR1 : RdAt K D L r A s1 H1 := hR.put c1 c2' c3 t1 hi1
    have tM1 : SameM (RM r A) H H1 := t1.sub fun z hz => .inl hz
    repeat walk_at "st"
    refine ⟨fun mm σ H' => ∃ sc : PR.RS, σ = [some (.ref r)] ∧ PR.whileB (fun s => PR.begins L s.now "cell") (PR.readCell L) mm sc = some s2 ∧ RdAt K D L r A sc H' ∧ Nice L sc ∧ SameM (RM r A) H H', ⟨_, s1, rfl, hcells, hR1, hN1, tM1⟩, ?_⟩
    rintro mm σ Hw ⟨sc, rfl, hw, hRw, hNw, tw⟩
    have hiw := hRw.ins
    repeat walk_at "st"
    refine ⟨L, r, A, sc, _, rfl, hRw, hL, hNw.now, fun Hx sx => ?_⟩
    have hRx := hRw.same sx
    have hix := hRx.ins
    have tx : SameM (RM r A) H Hx := tw.trans (SameM.of sx)
    cases mm with
    | zero => cases hw
    | succ m =>
    unfold PR.whileB at hw
    by_cases hbg : PR.begins L sc.now "cell" = true
    · rw [if_pos hbg] at hw
      rw [hbg]
      repeat walk_at "st"
      split at hw
      · cases hw
      rename_i sd hsd
      refine ⟨fun σ' H' => ∃ sc : PR.RS, σ' = [some (.ref r)] ∧ PR.whileB (fun s => PR.begins L s.now "cell") (PR.readCell L) m sc = some s2 ∧ RdAt K D L r A sc H' ∧ Nice L sc ∧ SameM (RM r A) H H', fun σ' H' z => ⟨m, Nat.lt_succ_self m, z⟩, ?_⟩
      repeat walk_at "st"
      refine ⟨L, r, A, sc, sd, rfl, hRx, hL, hNw, hsd, fun Hy hRy ty => ?_⟩
      repeat walk_at "st"
      have hlt : sc.now < L.length := by
        unfold PR.begins at hbg
        rw [Bool.and_eq_true, decide_eq_true_eq] at hbg
        exact PR.ind_lt (d := 0) (by rw [hbg.1]; rfl)
      exact ⟨sd, rfl, hw, hRy, cell_nice hNw hlt hsd, tx.trans ty⟩
    rw [if_neg hbg] at hw
    cases hw
    rw [Bool.eq_false_iff.mpr hbg]
    repeat walk_at "st"
    refine ⟨fun mm σ H' => ∃ sc : PR.RS, σ = [some (.ref r)] ∧ PR.whileB (fun s => PR.begins L s.now "part") (PR.readPart L) mm sc = some s3 ∧ RdAt K D L r A sc H' ∧ Nice L sc ∧ SameM (RM r A) H H', ⟨_, s2, rfl, hparts, hRx, hNw, tx⟩, ?_⟩
    clear hRw hiw hRx hix tx hbg
    rintro mm σ Hw2 ⟨sc2, rfl, hw, hRw, hNw2, tw2⟩
    have hiw := hRw.ins
    repeat walk_at "st"
    refine ⟨L, r, A, sc2, _, rfl, hRw, hL, hNw2.now, fun Hx sx => ?_⟩
    have hRx := hRw.same sx
    have hix := hRx.ins
    have tx : SameM (RM r A) H Hx := tw2.trans (SameM.of sx)
    cases mm with
    | zero => cases hw
    | succ m =>
    unfold PR.whileB at hw
    by_cases hbg : PR.begins L sc2.now "part" = true
    · rw [if_pos hbg] at hw
      rw [hbg]
      repeat walk_at "st"
      split at hw
      · cases hw
      rename_i sd hsd
      refine ⟨fun σ' H' => ∃ sc : PR.RS, σ' = [some (.ref r)] ∧ PR.whileB (fun s => PR.begins L s.now "part") (PR.readPart L) m sc = some s3 ∧ RdAt K D L r A sc H' ∧ Nice L sc ∧ SameM (RM r A) H H', fun σ' H' z => ⟨m, Nat.lt_succ_self m, z⟩, ?_⟩
      repeat walk_at "st"
      refine ⟨L, r, A, sc2, sd, rfl, hRx, hL, hNw2, hsd, fun Hy hRy ty => ?_⟩
      repeat walk_at "st"
      exact ⟨sd, rfl, hw, hRy, part_nice hNw2 hsd, tx.trans ty⟩
    rw [if_neg hbg] at hw
    cases hw
    rw [Bool.eq_false_iff.mpr hbg]
    repeat walk_at "st"
    -- main
    obtain ⟨l3, hl3, hrt⟩ : ∃ l, L[s3.now]? = some l ∧ PR.rowText l = Str.ofString "main" := by
      cases e : L[s3.now]? with
      | none => rw [e] at hmain; cases hmain
      | some l => rw [e] at hmain; exact ⟨l, rfl, Option.some.inj hmain⟩
    have hl3n : s3.now < L.length := (List.getElem?_eq_some_iff.mp hl3).1
    refine ⟨L, r, A, s3, rfl, hRx, hL, ?_⟩
    rw [decide_eq_false (show ¬ s3.now = L.length by omega)]
    have hrx := hRx.rows
    repeat walk_at "st"
    refine b_ixL (SqL.of hrx) (at_row hl3) ?_
    rw [hrt]
    repeat walk_at "st"
    refine e_sfa hix cl n2 (show 8 < 1000 by decide) rfl fun Hy hy ty => ?_
    have hiy : InsAt D r A { s3 with now := s3.now + 1 } Hy := hy
    have hRy : RdAt K D L r A { s3 with now := s3.now + 1 } Hy := hRx.put rfl rfl rfl ty hiy
    have tMy : SameM (RM r A) H Hy := tx.trans (ty.sub fun z hz => .inl hz)
    have smy : SmallR { s3 with now := s3.now + 1 } := ⟨hNw2.small.sy, hNw2.small.cells, hNw2.small.bodies⟩
    have kb := PR.rdB_kept hbody
    repeat walk_at "st"
    refine ⟨L, r, A, _, s4, 1, b, rfl, hRy, hL, smy, hl3n, by decide, hbody, fun lb xs Hz nlb hlb htr hiz tz => ?_⟩
    have hRz : RdAt K D L r A s4 Hz := hRy.step kb tz hiz
    have hiz' : Hz r = some _ := hiz
    repeat walk_at "st"
    refine e_sfld hiz' cl n7 (show 8 < 1000 by decide) fun Hu hu tu => ?_
    have sMu : SameM (RM r A) Hz Hu := tu.sub fun z hz => .inl hz
    have lbr : lb ≠ r := fun z => hRy.was r (.inl rfl) (by rw [← z]; exact nlb)
    obtain ⟨cs, hcs, hcd⟩ := hRz.cells
    obtain ⟨kvs, hbb, hbd⟩ := hRz.bods
    have e0 := hRz.ins
    have hRu : RdAt K D L r { A with mn := .ref lb } { s4 with main := b } Hu := by
      refine ⟨hu, tu _ _ (fun z => hRz.rwM (.inl z)) hRz.rows, ⟨cs, tu _ _ (fun z => by rw [z, e0] at hcs; cases hcs) hcs, hcd.mono sMu⟩, tu _ _ (fun z => by have := hRz.names; rw [z, e0] at this; cases this) hRz.names, ⟨kvs, tu _ _ (fun z => by rw [z, e0] at hbb; cases hbb) hbb, hbd.mono sMu⟩, hRz.rwM, hRz.clnm⟩
    repeat walk_at "st"
    refine ⟨L, r, _, _, rfl, hRu, hL, ?_⟩
    rw [decide_eq_true (show ({ s4 with main := b } : PR.RS).now = L.length from hend)]
    repeat walk_at "st"
    have nlbH : H lb = none := none_backM tMy (fun z => hRy.was lb z nlb) nlb
    refine q lb xs Hu hRu nlbH (tu _ _ lbr hlb) ?_ ((tMy.trans (tz.sub fun z hz => .inl hz)).trans sMu) ?_
    · exact (htr.avoid fun z hz => .inl (hRy.was z hz)).mono sMu
    · have h4 := (Nice.kept (L := L) (s := { s3 with now := s3.now + 1 }) (s' := s4) ⟨hNw2.nm, hNw2.cl, hNw2.bd, hNw2.bn, hl3n, hNw2.sy⟩ kb)
      exact ⟨h4.nm, h4.cl, h4.bd, h4.bn, h4.now, h4.sy⟩
end
end K09

namespace K09
open PySem PySem.Spec PyProof.Rows L2 FG
local macro_rules | `(tactic| walk_at "sq") => `(tactic| first
  | assumption
  | exact SqL.of (by assumption)
  | exact SqT.of (by assumption)
  | exact SqLm.l (by assumption)
  | exact SqTm.t (by assumption))
local macro_rules | `(tactic| walk_at "cond") => `(tactic| first
  | assumption
  | (show (0 : Int) < _; omega)
  | (show (0 : Int) < _ ∧ _ < 1073741824; omega))
local macro_rules | `(tactic| walk_at "st") => `(tactic| first
  | with_reducible refine b_seq ?_
  | with_reducible refine b_asg ?_
  | with_reducible refine b_op ?_
  | ((with_reducible refine' b_var ?hv ?_); (case hv => exact rfl))
  | with_reducible refine b_c ?_
  | with_reducible refine b_name ?_
  | with_reducible refine b_I0 ?_
  | with_reducible refine b_cons ?_
  | with_reducible refine b_nil ?_
  | with_reducible refine b_cb ?_
  | with_reducible refine b_call ?_
  | with_reducible refine b_ret ?_
  | with_reducible refine b_ifS ?_
  | with_reducible refine b_test ?_
  | with_reducible refine b_tb ?_
  | with_reducible refine b_bl ?_
  | with_reducible refine b_blP ?_
  | with_reducible refine b_next ?_
  | with_reducible refine b_drop ?_
  | with_reducible refine b_dget ?_
  | with_reducible refine b_makeN ?_
  | with_reducible refine b_pairs ?_
  | with_reducible refine b_pairs0 ?_
  | with_reducible refine b_sub ?_
  | with_reducible refine b_chain ?_
  | with_reducible refine b_and ?_
  | with_reducible refine b_or ?_
  | with_reducible refine b_not ?_
  | with_reducible refine b_andV ?_
  | with_reducible refine b_orV ?_
  | with_reducible refine b_notV ?_
  | with_reducible refine b_if ?_
  | with_reducible refine b_par ?_
  | with_reducible refine b_parE ?_
  | ((with_reducible refine' b_aug ?hv ?_); (case hv => exact rfl))
  | with_reducible refine b_ip ?_
  | with_reducible refine b_retN ?_
  | with_reducible refine b_tup ?_
  | with_reducible refine b_lst ?_
  | with_reducible refine b_sl ?_
  | with_reducible refine b_part ?_
  | with_reducible refine b_partP ?_
  | with_reducible refine b_nopart ?_
  | with_reducible refine b_bm ?_
  | with_reducible refine b_m1 ?_
  | with_reducible refine b_m0 ?_
  | with_reducible refine b_yes ?_
  | with_reducible refine b_un ?_
  | with_reducible refine b_neg ?_
  | with_reducible refine b_isN ?_
  | with_reducible refine b_notN ?_
  | with_reducible refine b_inS ?_
  | with_reducible refine b_int ?_
  | with_reducible refine b_intB ?_
  | with_reducible refine b_abs ?_
  | with_reducible refine b_max ?_
  | with_reducible refine b_min ?_
  | ((with_reducible refine b_eq ?hv ?_); (case hv => exact rfl))
  | ((with_reducible refine b_ne ?hv ?_); (case hv => exact rfl))
  | ((with_reducible refine' b_lenL ?hv ?_); (case hv => walk_at "sq"))
  | ((with_reducible refine' b_lenT ?hv ?_); (case hv => walk_at "sq"))
  | ((with_reducible refine' b_ixL ?hv ?hw ?_); (case hv => walk_at "sq"); (case hw => first | exact rfl | exact at0 | exact at1 | exact at2))
  | ((with_reducible refine' b_ixT ?hv ?hw ?_); (case hv => walk_at "sq"); (case hw => first | exact rfl | exact at0 | exact at1 | exact at2))
  | ((with_reducible refine b_I ?hv ?_); (case hv => walk_at "cond"))
  | with_reducible refine b_lcS ?_
  | with_reducible refine b_lcR ?_
  | with_reducible refine b_lcT ?_
  | with_reducible refine b_lcL ?_
  | with_reducible refine b_forT ?_
  | with_reducible refine b_forL ?_
  | with_reducible refine b_forR ?_
  | with_reducible refine b_turn ?_
  | ((with_reducible refine And.intro (a := wipe _ _ = wipe _ _) ?hv ?_); (case hv => exact rfl))
  | ((with_reducible refine And.intro (a := tyV _ "list" _ _) ?hv ?_); (case hv => exact ty_list (by assumption)))
  | with_reducible refine And.intro (a := ∃ a, V.str _ = V.str a) ⟨_, rfl⟩ ?_
  | (with_reducible refine iteT ?_)
  | (with_reducible refine iteNF ?_)
  | (with_reducible refine iteNT ?_)
  | (with_reducible refine iteVT ?_)
  | (with_reducible refine iteNVT ?_)
  | ((with_reducible refine iteVF ?hv ?_); (case hv => exact rfl))
  | ((with_reducible refine iteNVF ?hv ?_); (case hv => exact rfl))
  | with_reducible refine b_callS ?_
  | with_reducible refine b_xq ?_
  | with_reducible refine b_fld ?_
  | with_reducible refine b_sfld ?_
  | with_reducible refine b_meth ?_
  | with_reducible refine b_make ?_
  | with_reducible refine b_callK ?_
  | with_reducible refine b_sfa ?_
  | with_reducible refine b_lcEnT ?_
  | with_reducible refine b_lcEnL ?_
  | with_reducible refine b_forEnT ?_
  | with_reducible refine b_forEnL ?_
  | with_reducible refine b_lcZ ?_
  | with_reducible refine b_lcZX ?_
  | with_reducible refine b_prop ?_
  | with_reducible refine b_dput ?_
  | with_reducible refine b_din ?_
  | with_reducible refine b_inB ?_
  | with_reducible refine e_revT ?_
  | ((with_reducible refine' e_fld ?hv ?hc ?hn ?hl ?_); (case hv => assumption); (case hc => assumption); (case hn => assumption); (case hl => exact rfl))
  | ((with_reducible refine' e_meth ?hv ?hl ?_); (case hv => assumption); (case hl => exact rfl))
  | (with_reducible refine iteF ?_))

section
variable {P : Program} {w : World} {K : PySem.W.Frag} {mg : Str → Option Value} {base : Heap} {D : Ad}
/-! ### letters_of -/
def sp_letters (D : Ad) (j : Nat) : Sp := fun vs H Q _ => ∃ (M : Addr → Prop) (sy : Str) (b : Addr) (xs : List V) (ss : List PR.St) (n e : Nat), e < j ∧ vs = [.str sy, .ref b] ∧ sy.length ≤ 4 ∧ H b = some (.lst xs) ∧ STrees D M H xs ss ∧ PR.Ok e n ss ∧ n ≤ 20 ∧
  ∀ p H', H p = none → H' p = some (.lst ((PR.lettersL sy ss).map V.str)) → Same H H' → Q (.ref p) H'
theorem STrees.at {M : Addr → Prop} {H : Hp} : ∀ {vs : List V} {xs : List PR.St}, STrees D M H vs xs → ∀ {i : Nat} {v : V}, vs[i]? = some v → ∃ x, xs[i]? = some x ∧ STree D M H v x
  | _, _, .nil, i, v, h => by simp at h
  | _, _, .cons h t, 0, v, hv => by simp at hv; subst hv; exact ⟨_, rfl, h⟩
  | _, _, .cons h t, i + 1, v, hv => by simp at hv; exact STrees.at t hv
theorem Ok_at {e n : Nat} {ss : List PR.St} (h : PR.Ok e n ss) : ∀ {i : Nat} {l : Nat} {k w : Str} {c u : Nat} {q : Option PR.Cond} {body els : List PR.St}, ss[i]? = some (.mk l k w c u q body els) → ∃ e' n1 n2, e = e' + 1 ∧ n1 + n2 ≤ n ∧ PR.Ok e' n1 body ∧ PR.Ok e' n2 els := by
  induction h with
  | nil => intro i l k w c u q body els h; simp at h
  | @cons e n m p l k w c u q body els xs h1 h2 hw h3 i1 i2 i3 =>
    intro i l' k' w' c' u' q' body' els' h
    cases i with
    | zero =>
      simp at h
      obtain ⟨rfl, rfl, rfl, rfl, rfl, rfl, rfl, rfl⟩ := h
      exact ⟨e, n, m, rfl, by omega, h1, h2⟩
    | succ i =>
      simp at h
      obtain ⟨e', n1, n2, he, hn, o1, o2⟩ := i3 h
      exact ⟨e', n1, n2, he, by omega, o1, o2⟩
theorem lettersL_append (sy : Str) : ∀ (a b : List PR.St), PR.lettersL sy (a ++ b) = PR.lettersL sy a ++ PR.lettersL sy b
  | [], b => by simp [PR.lettersL]
  | x :: a, b => by simp [PR.lettersL, lettersL_append sy a b]
theorem letters_take {sy : Str} {ss : List PR.St} {i l : Nat} {k w : Str} {c u : Nat} {q : Option PR.Cond} {body els : List PR.St} (h : ss[i]? = some (.mk l k w c u q body els)) :
    PR.lettersL sy (ss.take (i + 1)) = PR.lettersL sy (ss.take i) ++ ((if k = "write" then [w] else if k = "copy" then sy.cps.toList.map PR.sing else []) ++ (PR.lettersL sy body ++ PR.lettersL sy els)) := by
  rw [List.take_add_one, h, lettersL_append]
  simp [PR.lettersL, PR.lettersS]
theorem Ok.take {e n : Nat} {ss : List PR.St} (h : PR.Ok e n ss) : ∀ i, ∃ m, m ≤ n ∧ PR.Ok e m (ss.take i) := by
  induction h with
  | nil => intro i; exact ⟨0, Nat.le_refl _, by simp; exact .nil⟩
  | @cons e n m p l k w c u q body els xs h1 h2 hw h3 i1 i2 i3 =>
    intro i
    cases i with
    | zero => exact ⟨0, Nat.zero_le _, by simp; exact .nil⟩
    | succ i =>
      obtain ⟨r, hr, o⟩ := i3 i
      exact ⟨n + m + r + 1, by omega, by simp only [List.take_succ_cons]; exact .cons h1 h2 hw o⟩
theorem ok_letters_of (T : Txt K mg D) : ∀ (j : Nat) {k : Nat}, FnOk P w K mg base CX0 (k + j + 1) D.f_letters_of D.d_letters_of P_letters_of (sp_letters D j) := by
  intro j
  induction j with
  | zero =>
    intro k
    exact vac fun vs H Q E z => by
      obtain ⟨M, sy, b, xs, ss, n, e, he, _⟩ := z
      exact absurd he (Nat.not_lt_zero _)
  | succ j ih =>
  intro k
  have n1 := T.n_Statement_kind
  have n2 := T.n_Statement_own_word
  have n3 := T.n_Statement_body
  have n4 := T.n_Statement_else_body
  have cl := T.cl_Statement
  have G_letters_of : FnOk P w K mg base CX0 (k + j + 1) D.f_letters_of D.d_letters_of P_letters_of (sp_letters D j) := ih
  refine T.f_letters_of.ok sc_letters_of (fun vs H Q E h => ?_) (fun cdv A outer s H vs Q E hr h => ?_)
  · obtain ⟨M, sy, b, xs, ss, n, e, _, rfl, _⟩ := h
    rfl
  · obtain ⟨M, sy, b, xs, ss, n, e, hej, rfl, hsy, hb, ht, ho, hn, q⟩ := h
    refine ⟨_, (pss_cons (ps_set (i := 2) sc_letters_of.nd rfl (by first | exact .inl rfl | exact .inr rfl) (pe_lst pa_nil))
      (pss_cons (ps_for PassesOwn.never rfl (pi_listK (K := K) (by rfl) (pv 1)) (pg_name (i := 3) sc_letters_of.nd rfl (by first | exact .inl rfl | exact .inr rfl)) (pss_cons (ps_w (ps_if (pt_cmpR op_eq (pe_fldK (K := K) (by rfl) (pv 3) (by rfl)) pe_str (nomark _)) (pss_one (ps_expr (pe_bm PySem.F.plainAttrs_list PySem.F.slot_list_append PySem.F.type_list_append mt_append (pv 2) (pa_cons (pe_fldK (K := K) (by rfl) (pv 3) (by rfl)) pa_nil)))) (pss_one (ps_if (pt_cmpR op_eq (pe_fldK (K := K) (by rfl) (pv 3) (by rfl)) pe_str (nomark _)) (pss_one (ps_expr (pe_bm PySem.F.plainAttrs_list PySem.F.slot_list_extend PySem.F.type_list_extend mt_extend (pv 2) (pa_cons (pe_callTy (call_list_str rfl) (by rfl) T.z_list (by decide +kernel) (pa_cons (pv 0) pa_nil)) pa_nil)))) pss_nil))))
      (pss_one (ps_expr (pe_bm PySem.F.plainAttrs_list PySem.F.slot_list_extend PySem.F.type_list_extend mt_extend (pv 2) (pa_cons (pe_op op_cat (pe_call G_letters_of hr (by rfl) T.g_letters_of T.f_letters_of.kp T.b_letters_of .nil pass0 (pa_cons (pv 0) (pa_cons (pe_fldK (K := K) (by rfl) (pv 3) (by rfl)) pa_nil))) (pe_call G_letters_of hr (by rfl) T.g_letters_of T.f_letters_of.kp T.b_letters_of .nil pass0 (pa_cons (pv 0) (pa_cons (pe_fldK (K := K) (by rfl) (pv 3) (by rfl)) pa_nil)))) pa_nil))))))
      (pss_one (ps_ret (pv 2))))), ?_⟩
    repeat walk_at "st"
    refine e_lst fun F H1 nF hF s1 => ?_
    have lenT : ∀ i, (PR.lettersL sy (ss.take i)).length ≤ 80 := fun i => by
      obtain ⟨m, hm, om⟩ := Ok.take ho i
      have := PR.lettersL_len hsy om
      omega
    repeat walk_at "st"
    refine e_forL (SqL.of (s1 _ _ hb)) (fun i σ H' => ∃ sl, σ = [some (.str sy), some (.ref b), some (.ref F), sl] ∧ H' F = some (.lst ((PR.lettersL sy (ss.take i)).map V.str)) ∧ Same H H') ?_ ?_ ?_ ?_
    · exact ⟨none, rfl, by simpa [PR.lettersL] using hF, s1⟩
    · rintro i σ H' ⟨_, _, _, s'⟩
      exact SqL.of (s' _ _ hb)
    · rintro i v σ H' hv ⟨sl, rfl, hF', s'⟩
      obtain ⟨x, hx, tx⟩ := ht.at hv
      cases tx with
      | @mk a dx b1 b2 av xs1 ys1 l kd wd c u qq body els m1 ha hc m2 hb1 t1 m3 hb2 t2 =>
      obtain ⟨e', c1, c2, rfl, hcn, o1, o2⟩ := Ok_at ho hx
      have lt := letters_take (sy := sy) hx
      have ll := lenT i
      have ll1 := PR.lettersL_len hsy o1
      have ll2 := PR.lettersL_len hsy o2
      have ha' := s' _ _ ha
      have hsz : sy.cps.toList.length ≤ 4 := by simpa [Str.length] using hsy
      repeat walk_at "st"
      refine b_ws (fun σ' Hb => σ' = [some (.str sy), some (.ref b), some (.ref F), some (.ref a)] ∧ Hb F = some (.lst ((PR.lettersL sy (ss.take i) ++ (if kd = "write" then [wd] else if kd = "copy" then sy.cps.toList.map PR.sing else [])).map V.str)) ∧ Same H Hb) ?_ ?_
      · repeat walk_at "st"
        refine ite2 (fun hk => ?_) (fun hk => ?_)
        · have hk := V.str.inj (of_decide_eq_true hk)
          repeat walk_at "st"
          refine e_append hF' (by rw [List.length_map]; omega) fun H2 hF2 s2 => ?_
          repeat walk_at "st"
          refine ⟨rfl, ?_, Same.new s' s2 fun _ z => z ▸ nF⟩
          rw [if_pos hk, List.map_append]
          exact hF2
        · have hk : ¬ kd = "write" := fun z => hk (by rw [z]; exact decide_eq_true rfl)
          rw [if_neg hk]
          repeat walk_at "st"
          refine ite2 (fun hk2 => ?_) (fun hk2 => ?_)
          · have hk2 := V.str.inj (of_decide_eq_true hk2)
            repeat walk_at "st"
            refine e_listS (by omega) fun p2 H2 np2 hp2 s2 => ?_
            have hF2 := s2 _ _ hF'
            repeat walk_at "st"
            refine e_extend hF2 hp2 (by rw [List.length_map, List.length_map]; omega) fun H3 hF3 s3 => ?_
            repeat walk_at "st"
            refine ⟨rfl, ?_, Same.new (Same.trans s' s2) s3 fun _ z => z ▸ nF⟩
            rw [if_pos hk2, List.map_append, List.map_map]
            exact hF3
          · have hk2 : ¬ kd = "copy" := fun z => hk2 (by rw [z]; exact decide_eq_true rfl)
            repeat walk_at "st"
            refine ⟨rfl, ?_, s'⟩
            rw [if_neg hk2, List.append_nil]
            exact hF'
      · rintro σ' Hb ⟨rfl, hFb, sb⟩
        have hab := sb _ _ ha
        have lw : (if kd = "write" then [wd] else if kd = "copy" then sy.cps.toList.map PR.sing else []).length ≤ 4 := by
          split
          · simp
          · split
            · rw [List.length_map]; exact hsz
            · simp
        repeat walk_at "st"
        refine ⟨M, sy, b1, xs1, body, c1, e', by omega, rfl, hsy, sb _ _ hb1, t1.mono (SameM.of sb), o1, by omega, fun p1 H2 np1 hp1 s2 => ?_⟩
        have ha2 := s2 _ _ hab
        have sb2 := sb.trans s2
        repeat walk_at "st"
        refine ⟨M, sy, b2, ys1, els, c2, e', by omega, rfl, hsy, sb2 _ _ hb2, t2.mono (SameM.of sb2), o2, by omega, fun p2 H3 np2 hp2 s3 => ?_⟩
        repeat walk_at "st"
        refine e_catL (s3 _ _ hp1) hp2 (by rw [List.length_map, List.length_map]; omega) fun p3 H4 np3 hp3 s4 => ?_
        have sb4 := (sb2.trans s3).trans s4
        have hF4 := s4 _ _ (s3 _ _ (s2 _ _ hFb))
        repeat walk_at "st"
        refine e_extend hF4 hp3 (by rw [List.length_append, List.length_map, List.length_map, List.length_map, List.length_append]; omega) fun H5 hF5 s5 => ?_
        repeat walk_at "st"
        refine ⟨_, rfl, ?_, Same.new sb4 s5 fun _ z => z ▸ nF⟩
        rw [lt, ← List.append_assoc, List.map_append, List.map_append (l₁ := PR.lettersL sy body)]
        exact hF5
    · rintro σ H' ⟨sl, rfl, hF', s'⟩
      repeat walk_at "st"
      refine q F H' nF ?_ s'
      have e0 : ss.take xs.length = ss := List.take_of_length_le (by rw [ht.length]; exact Nat.le_refl _)
      rw [← e0]
      exact hF'
end
end K09

namespace K09
open PySem PySem.Spec PyProof.Rows L2 FG
local macro_rules | `(tactic| walk_at "sq") => `(tactic| first
  | assumption
  | exact SqL.of (by assumption)
  | exact SqT.of (by assumption)
  | exact SqLm.l (by assumption)
  | exact SqTm.t (by assumption))
local macro_rules | `(tactic| walk_at "cond") => `(tactic| first
  | assumption
  | (show (0 : Int) < _; omega)
  | (show (0 : Int) < _ ∧ _ < 1073741824; omega))
local macro_rules | `(tactic| walk_at "st") => `(tactic| first
  | with_reducible refine b_seq ?_
  | with_reducible refine b_asg ?_
  | with_reducible refine b_op ?_
  | ((with_reducible refine' b_var ?hv ?_); (case hv => exact rfl))
  | with_reducible refine b_c ?_
  | with_reducible refine b_name ?_
  | with_reducible refine b_I0 ?_
  | with_reducible refine b_cons ?_
  | with_reducible refine b_nil ?_
  | with_reducible refine b_cb ?_
  | with_reducible refine b_call ?_
  | with_reducible refine b_ret ?_
  | with_reducible refine b_ifS ?_
  | with_reducible refine b_test ?_
  | with_reducible refine b_tb ?_
  | with_reducible refine b_bl ?_
  | with_reducible refine b_blP ?_
  | with_reducible refine b_next ?_
  | with_reducible refine b_drop ?_
  | with_reducible refine b_dget ?_
  | with_reducible refine b_makeN ?_
  | with_reducible refine b_pairs ?_
  | with_reducible refine b_pairs0 ?_
  | with_reducible refine b_sub ?_
  | with_reducible refine b_chain ?_
  | with_reducible refine b_and ?_
  | with_reducible refine b_or ?_
  | with_reducible refine b_not ?_
  | with_reducible refine b_andV ?_
  | with_reducible refine b_orV ?_
  | with_reducible refine b_notV ?_
  | with_reducible refine b_if ?_
  | with_reducible refine b_par ?_
  | with_reducible refine b_parE ?_
  | ((with_reducible refine' b_aug ?hv ?_); (case hv => exact rfl))
  | with_reducible refine b_ip ?_
  | with_reducible refine b_retN ?_
  | with_reducible refine b_tup ?_
  | with_reducible refine b_lst ?_
  | with_reducible refine b_sl ?_
  | with_reducible refine b_part ?_
  | with_reducible refine b_partP ?_
  | with_reducible refine b_nopart ?_
  | with_reducible refine b_bm ?_
  | with_reducible refine b_m1 ?_
  | with_reducible refine b_m0 ?_
  | with_reducible refine b_yes ?_
  | with_reducible refine b_un ?_
  | with_reducible refine b_neg ?_
  | with_reducible refine b_isN ?_
  | with_reducible refine b_notN ?_
  | with_reducible refine b_inS ?_
  | with_reducible refine b_int ?_
  | with_reducible refine b_intB ?_
  | with_reducible refine b_abs ?_
  | with_reducible refine b_max ?_
  | with_reducible refine b_min ?_
  | ((with_reducible refine b_eq ?hv ?_); (case hv => exact rfl))
  | ((with_reducible refine b_ne ?hv ?_); (case hv => exact rfl))
  | ((with_reducible refine' b_lenL ?hv ?_); (case hv => walk_at "sq"))
  | ((with_reducible refine' b_lenT ?hv ?_); (case hv => walk_at "sq"))
  | ((with_reducible refine' b_ixL ?hv ?hw ?_); (case hv => walk_at "sq"); (case hw => first | exact rfl | exact at0 | exact at1 | exact at2))
  | ((with_reducible refine' b_ixT ?hv ?hw ?_); (case hv => walk_at "sq"); (case hw => first | exact rfl | exact at0 | exact at1 | exact at2))
  | ((with_reducible refine b_I ?hv ?_); (case hv => walk_at "cond"))
  | with_reducible refine b_lcS ?_
  | with_reducible refine b_lcR ?_
  | with_reducible refine b_lcT ?_
  | with_reducible refine b_lcL ?_
  | with_reducible refine b_forT ?_
  | with_reducible refine b_forL ?_
  | with_reducible refine b_forR ?_
  | with_reducible refine b_turn ?_
  | ((with_reducible refine And.intro (a := wipe _ _ = wipe _ _) ?hv ?_); (case hv => exact rfl))
  | ((with_reducible refine And.intro (a := tyV _ "list" _ _) ?hv ?_); (case hv => exact ty_list (by assumption)))
  | with_reducible refine And.intro (a := ∃ a, V.str _ = V.str a) ⟨_, rfl⟩ ?_
  | (with_reducible refine iteT ?_)
  | (with_reducible refine iteNF ?_)
  | (with_reducible refine iteNT ?_)
  | (with_reducible refine iteVT ?_)
  | (with_reducible refine iteNVT ?_)
  | ((with_reducible refine iteVF ?hv ?_); (case hv => exact rfl))
  | ((with_reducible refine iteNVF ?hv ?_); (case hv => exact rfl))
  | with_reducible refine b_callS ?_
  | with_reducible refine b_xq ?_
  | with_reducible refine b_fld ?_
  | with_reducible refine b_sfld ?_
  | with_reducible refine b_meth ?_
  | with_reducible refine b_make ?_
  | with_reducible refine b_callK ?_
  | with_reducible refine b_sfa ?_
  | with_reducible refine b_lcEnT ?_
  | with_reducible refine b_lcEnL ?_
  | with_reducible refine b_forEnT ?_
  | with_reducible refine b_forEnL ?_
  | with_reducible refine b_lcZ ?_
  | with_reducible refine b_lcZX ?_
  | with_reducible refine b_prop ?_
  | with_reducible refine b_dput ?_
  | with_reducible refine b_din ?_
  | with_reducible refine b_inB ?_
  | with_reducible refine e_revT ?_
  | ((with_reducible refine' e_fld ?hv ?hc ?hn ?hl ?_); (case hv => assumption); (case hc => assumption); (case hn => assumption); (case hl => exact rfl))
  | ((with_reducible refine' e_meth ?hv ?hl ?_); (case hv => assumption); (case hl => exact rfl))
  | (with_reducible refine iteF ?_))

section
variable {P : Program} {w : World} {K : PySem.W.Frag} {mg : Str → Option Value} {base : Heap} {D : Ad}
/-! ### what keeps a tree: lists, statements and conditions stay -/
def StO (o : HO) : Prop := (∃ xs, o = .lst xs) ∨ (∃ C dx v r, o = .ins C dx (("line", v) :: r)) ∨ (∃ C dx v r, o = .ins C dx (("signs", v) :: r))
def KeepT (H H' : Hp) : Prop := ∀ b o, StO o → H b = some o → H' b = some o
theorem KeepT.of {H H' : Hp} {a C dx : Addr} {fs : List (Str × V)} (s : SameM (· = a) H H') (h : H a = some (.ins C dx fs)) (n : ∀ (v : V) (r : List (Str × V)), fs ≠ (Str.ofString "line", v) :: r ∧ fs ≠ (Str.ofString "signs", v) :: r) : KeepT H H' := by
  intro b o ho e
  refine s b o (fun z => ?_) e
  rw [z, h] at e
  cases e
  rcases ho with ⟨xs, z⟩ | ⟨C', dx', v, r, z⟩ | ⟨C', dx', v, r, z⟩
  · cases z
  · cases z; exact (n v r).1 rfl
  · cases z; exact (n v r).2 rfl
theorem CondAt.keep {C : Addr} {M : Addr → Prop} {H H' : Hp} (s : KeepT H H') : ∀ {v : V} {c : Option PR.Cond}, CondAt C M H v c → CondAt C M H' v c := by
  intro v c h
  cases v <;> cases c <;> first | exact h | (obtain ⟨n, dx, e⟩ := h; exact ⟨n, dx, s _ _ (.inr (.inr ⟨_, _, _, _, rfl⟩)) e⟩)
mutual
theorem STree.keep {M : Addr → Prop} {H H' : Hp} (s : KeepT H H') : ∀ {v : V} {x : PR.St}, STree D M H v x → STree D M H' v x
  | _, _, .mk n h hc n1 h1 t1 n2 h2 t2 => .mk n (s _ _ (.inr (.inl ⟨_, _, _, _, rfl⟩)) h) (hc.keep s) n1 (s _ _ (.inl ⟨_, rfl⟩) h1) (STrees.keep s t1) n2 (s _ _ (.inl ⟨_, rfl⟩) h2) (STrees.keep s t2)
theorem STrees.keep {M : Addr → Prop} {H H' : Hp} (s : KeepT H H') : ∀ {v : List V} {x : List PR.St}, STrees D M H v x → STrees D M H' v x
  | _, _, .nil => .nil
  | _, _, .cons h t => .cons (STree.keep s h) (STrees.keep s t)
end
theorem Bodies.keep {M : Addr → Prop} {H H' : Hp} (s : KeepT H H') : ∀ {kvs : List (Key × V)} {bs : List (Str × List PR.St)}, Bodies D M H kvs bs → Bodies D M H' kvs bs
  | _, _, .nil => .nil
  | _, _, .cons n h t r => .cons n (s _ _ (.inl ⟨_, rfl⟩) h) (t.keep s) (Bodies.keep s r)
theorem Bodies.free {M : Addr → Prop} {H : Hp} : ∀ {kvs : List (Key × V)} {bs : List (Str × List PR.St)}, Bodies D M H kvs bs → Bodies D M0 H kvs bs
  | _, _, .nil => .nil
  | _, _, .cons n h t r => .cons (fun z => z) h (t.avoid fun _ z => z.elim) (Bodies.free r)
theorem SameN.ins {H H' : Hp} {a C dx : Addr} {fs : List (Str × V)} (h : H a = some (.ins C dx fs)) (s : SameM (· = a) H H') : SameN H H' := fun b ys hb => by
  have ne : b ≠ a := fun z => by
    rw [z] at hb
    rcases hb with hb | ⟨o, hb⟩ <;> (rw [h] at hb; cases hb)
  rcases hb with hb | ⟨o, hb⟩
  · exact .inl (s _ _ ne hb)
  · exact .inr ⟨o, s _ _ ne hb⟩
theorem cells_noLD (cs : List (Str × Nat)) : noLDAll (cs.map cellD) = true := noLDAll_of fun d hd => by
  obtain ⟨c, _, rfl⟩ := List.mem_map.mp hd
  rfl
theorem RdAt.other {L : List PR.Line} {r a C dx : Addr} {A : RA} {s : PR.RS} {H H' : Hp} {fs : List (Str × V)} (h : RdAt K D L r A s H) (t : SameM (· = a) H H') (ha : H a = some (.ins C dx fs)) (n : ∀ (v : V) (r : List (Str × V)), fs ≠ (Str.ofString "line", v) :: r ∧ fs ≠ (Str.ofString "signs", v) :: r) (ar : a ≠ r) : RdAt K D L r A s H' := by
  have kt := KeepT.of t ha n
  have kl : ∀ {b : Addr} {xs : List V}, H b = some (.lst xs) → H' b = some (.lst xs) := fun e => kt _ _ (.inl ⟨_, rfl⟩) e
  obtain ⟨cs, hc, hcd⟩ := h.cells
  obtain ⟨kvs, hb, hbd⟩ := h.bods
  exact ⟨t _ _ (Ne.symm ar) h.ins, kl h.rows, ⟨cs, kl hc, hcd.keepN (SameN.ins ha t) (cells_noLD _)⟩, kl h.names, ⟨kvs, t _ _ (fun z => by rw [z, ha] at hb; cases hb) hb, hbd.keep kt⟩, h.rwM, h.clnm⟩
theorem Bodies.at {M : Addr → Prop} {H : Hp} : ∀ {kvs : List (Key × V)} {bs : List (Str × List PR.St)}, Bodies D M H kvs bs → ∀ {i : Nat} {v : V}, (kvs.map (·.2))[i]? = some v → ∃ b xs n ss, v = .ref b ∧ H b = some (.lst xs) ∧ STrees D M H xs ss ∧ bs[i]? = some (n, ss)
  | _, _, .nil, i, v, h => by simp at h
  | _, _, .cons n h t r, 0, v, hv => by simp at hv; subst hv; exact ⟨_, _, _, _, rfl, h, t, rfl⟩
  | _, _, .cons n h t r, i + 1, v, hv => by simp at hv; exact Bodies.at r (by simpa using hv)
theorem b_starV {td : TE} {t : TA} {σ : L2.St} {H : Hp} {Q : List V → Hp → Prop} (q : td σ H fun x H1 => ∃ d kvs, x = .ref d ∧ H1 d = some (.dK kvs) ∧ t σ H1 fun ys H2 => Q (kvs.map (·.2) ++ ys) H2) : tStarV td t σ H Q := q
/-- the bodies, one behind the other -/
def bodyLetters (sy : Str) (bs : List (List PR.St)) : List Str := bs.flatMap (PR.lettersL sy)
theorem bodyLetters_len {sy : Str} {Bs : List (List PR.St)} (h : ∀ ss ∈ Bs, (PR.lettersL sy ss).length ≤ 80) : (bodyLetters sy Bs).length ≤ 80 * Bs.length := by
  induction Bs with
  | nil => exact Nat.le_refl _
  | cons x xs ih =>
    have h1 := h x List.mem_cons_self
    have h2 := ih fun ss hs => h ss (List.mem_cons_of_mem _ hs)
    unfold bodyLetters at h2 ⊢
    rw [List.flatMap_cons, List.length_append, List.length_cons]
    omega
theorem bodyLetters_take {sy : Str} {Bs : List (List PR.St)} {i : Nat} {ss : List PR.St} (h : Bs[i]? = some ss) : bodyLetters sy (Bs.take (i + 1)) = bodyLetters sy (Bs.take i) ++ PR.lettersL sy ss := by
  unfold bodyLetters
  rw [List.take_add_one, h, List.flatMap_append]
  simp
def allBodies (s : PR.RS) : List (List PR.St) := s.bodies.map (·.2) ++ [s.main]
/-! ### Program -/
/-- the program s of the text txt at a -/
structure PgAt (K : PySem.W.Frag) (D : Ad) (M : Addr → Prop) (a : Addr) (txt : Str) (s : PR.RS) (H : Hp) : Prop where
  ex : ∃ dx ct bd mn lt, H a = some (.ins D.c_Program dx [("own_text", .str txt), ("own_symbols", .str s.sy), ("own_cells", .ref ct), ("own_bodies", .ref bd), ("own_main", .ref mn), ("own_letters", .ref lt), ("own_plan", .non)]) ∧
    Dq K M H (.ref ct) (.tuple (s.cells.map cellD)) ∧ (∃ kvs, H bd = some (.dK kvs) ∧ Bodies D M H kvs s.bodies) ∧ ¬ M bd ∧ (∃ xs, H mn = some (.lst xs) ∧ STrees D M H xs s.main) ∧ ¬ M mn ∧
    ∃ ls : List Str, H lt = some (.tup (ls.map V.str)) ∧ sortedS ls = true ∧ ls.Nodup ∧ ∀ x, x ∈ ls ↔ x ∈ bodyLetters s.sy (allBodies s)
def sp_pinit (K : PySem.W.Frag) (D : Ad) : Sp := fun vs H Q _ => ∃ (L : List PR.Line) (a dx : Addr) (txt : Str) (s : PR.RS), vs = [.ref a, .str txt] ∧ H a = some (.ins D.c_Program dx []) ∧ txt.length ≤ 90000 ∧ Txt.split txt "\n" = L.map PR.rowText ∧ LOk L ∧ PR.readAll L = some s ∧
  ∀ H', PgAt K D M0 a txt s H' → SameM (· = a) H H' → Q .non H'
theorem ok_Program_init (T : Txt K mg D) (hB_TAKEN : BaseTup base D.k_TAKEN PR.taken) {k : Nat} : FnOk P w K mg base CX0 (k + 18) D.f_Program_init D.d_Program_init P_Program_init (sp_pinit K D) := by
  have G_ProgramReader_init : FnOk P w K mg base CX0 (k + 16) D.f_ProgramReader_init D.d_ProgramReader_init P_ProgramReader_init (sp_rinit K D) := ok_ProgramReader_init T
  have G_ProgramReader_read : FnOk P w K mg base CX0 (k + 17) D.f_ProgramReader_read D.d_ProgramReader_read P_ProgramReader_read (sp_read K D) := ok_ProgramReader_read T hB_TAKEN
  have G_letters_of : FnOk P w K mg base CX0 (k + 17) D.f_letters_of D.d_letters_of P_letters_of (sp_letters D 6) := (ok_letters_of T 6 (k := k + 10))
  have cl := T.cl_ProgramReader
  have cp := T.cl_Program
  have n3 := T.n_ProgramReader_own_symbols
  have n4 := T.n_ProgramReader_own_cells
  have n6 := T.n_ProgramReader_bodies
  have n7 := T.n_ProgramReader_main
  have p1 := T.n_Program_own_text
  have p2 := T.n_Program_own_symbols
  have p3 := T.n_Program_own_cells
  have p4 := T.n_Program_own_bodies
  have p5 := T.n_Program_own_main
  have p6 := T.n_Program_own_letters
  have p7 := T.n_Program_own_plan
  refine T.f_Program_init.ok sc_Program_init (fun vs H Q E h => ?_) (fun cdv A outer s H vs Q E hr h => ?_)
  · obtain ⟨L, a, dx, txt, s, rfl, _⟩ := h
    rfl
  · obtain ⟨L, a, dx, txt, s', rfl, ha, htl, hsp, hL, hrd, q⟩ := h
    refine ⟨_, (pss_cons (ps_if (pt_not (pt_val (pe_callB (callK (K := K) (r := rIsD) (by rfl) call_isD) (by rfl) T.z_isinstance (by decide +kernel) (pa_cons (pv 1) (pa_cons (pe_bltn (v := .ty "str") (by rfl) T.z_str (by decide +kernel) rfl) pa_nil))))) (pss_one ps_dead) pss_nil)
      (pss_cons (ps_set (i := 2) sc_Program_init.nd rfl (by first | exact .inl rfl | exact .inr rfl) (pe_make T.mk_ProgramReader G_ProgramReader_init hr (by rfl) T.g_ProgramReader T.b_ProgramReader_init .nil pass0 (pa_cons (pv 1) pa_nil)))
      (pss_cons (ps_expr (pe_meth0 (pv 2) T.cl_ProgramReader T.m_ProgramReader_read G_ProgramReader_read hr T.b_ProgramReader_read .nil pass0))
      (pss_cons (ps_fld (pv 0) (pv 1) rfl)
      (pss_cons (ps_fld (pv 0) (pe_fldK (K := K) (by rfl) (pv 2) (by rfl)) rfl)
      (pss_cons (ps_fld (pv 0) (pe_callTy (callK (K := K) (r := qTupOf) (by rfl) q_tupOf) (by rfl) T.z_tuple (by decide +kernel) (pa_cons (pe_fldK (K := K) (by rfl) (pv 2) (by rfl)) pa_nil)) rfl)
      (pss_cons (ps_fld (pv 0) (pe_fldK (K := K) (by rfl) (pv 2) (by rfl)) rfl)
      (pss_cons (ps_fld (pv 0) (pe_fldK (K := K) (by rfl) (pv 2) (by rfl)) rfl)
      (pss_cons (ps_set (i := 3) sc_Program_init.nd rfl (by first | exact .inl rfl | exact .inr rfl) (pe_lst (pa_starV rfl (pe_fldK (K := K) (by rfl) (pv 2) (by rfl)) (pa_cons (pe_fldK (K := K) (by rfl) (pv 2) (by rfl)) pa_nil))))
      (pss_cons (ps_setLc2 (i := 4) (own := [("body", 5), ("letter", 6)]) (vs1 := [6]) (g := gName 5) (g1 := gName 6) (tt := tYes) (tt1 := tYes) (by rfl) sc_Program_init.nd rfl rfl (sw_true rfl rfl rfl (by decide +kernel)) (pi_listK (K := K) (by rfl) (pv 3)) (blkOk_by (own := [("body", 5), ("letter", 6)]) (N := N_Program_init) (sc := defScope s_Program_init) (by decide +kernel)) (by decide) (fun _ _ _ _ _ => (pg_name (i := 5) sc_Program_init.nd rfl (by first | exact .inl rfl | exact .inr rfl))) (fun _ _ _ _ _ => pts_nil) (fun _ _ _ _ _ => (pi_listK (K := K) (by rfl) (pe_call G_letters_of hr (by rfl) T.g_letters_of T.f_letters_of.kp T.b_letters_of .nil pass0 (pa_cons (pe_fldK (K := K) (by rfl) (pv 2) (by rfl)) (pa_cons (pv 5) pa_nil))))) (fun _ _ _ _ _ => (pg_name (i := 6) sc_Program_init.nd rfl (by first | exact .inl rfl | exact .inr rfl))) (fun _ _ _ _ _ => pts_nil) (fun _ _ _ _ _ => (pv 6)))
      (pss_cons (ps_fld (pv 0) (pe_callTy (callK (K := K) (r := qTupOf) (by rfl) q_tupOf) (by rfl) T.z_tuple (by decide +kernel) (pa_cons (pe_callB (callK (K := K) (r := (fun _ => rSortX P w)) (by rfl) (cr_sortX rfl)) (by rfl) T.z_sorted (by decide +kernel) (pa_cons (pe_callTy (callK (K := K) (r := (fun K => rSetX K P w)) (by rfl) (cr_setX rfl)) (by rfl) T.z_set (by decide +kernel) (pa_cons (pv 4) pa_nil)) pa_nil)) pa_nil)) rfl)
      (pss_one (ps_fld (pv 0) pe_non rfl))))))))))))), ?_⟩
    repeat walk_at "st"
    refine b_isD (M := M0) (.str txt) (by decide) ?_
    rw [show isTy "str" (.str txt) = true from rfl]
    repeat walk_at "st"
    refine e_make fun r dr H1 nr hr1 s1 => ?_
    refine ⟨L, r, dr, txt, rfl, hr1, htl, hsp, hL.few, fun A2 H2 hR2 fr2 s2 => ⟨rfl, ?_⟩⟩
    have ha1 := s1 _ _ ha
    have har : a ≠ r := fun z => by rw [z, nr] at ha; cases ha
    have ha2 := s2 _ _ har ha1
    have hi2 := hR2.ins
    repeat walk_at "st"
    refine ⟨L, r, A2, s', rfl, hR2, hL, hrd, fun l xs H3 hR3 nl hl ht s3 nice => ?_⟩
    have haM : ¬ RM r A2 a := fun z => by
      have := fr2 a z har
      rw [ha1] at this
      cases this
    have ha3 := s3 _ _ haM ha2
    have hi3 := hR3.ins
    obtain ⟨wB, ⟨n0, hn0, oM⟩, wW⟩ := PR.readAll_whole hrd
    repeat walk_at "st"
    have nf : ∀ (x : Str) (v0 : V) (r0 : List (Str × V)), x ≠ Str.ofString "line" → x ≠ Str.ofString "signs" → ∀ (v : V) (r : List (Str × V)), (x, v0) :: r0 ≠ (Str.ofString "line", v) :: r ∧ (x, v0) :: r0 ≠ (Str.ofString "signs", v) :: r := fun x v0 r0 h1 h2 v r =>
      ⟨fun z => h1 (congrArg Prod.fst (List.cons.inj z).1), fun z => h2 (congrArg Prod.fst (List.cons.inj z).1)⟩
    have nt := fun (v0 : V) (r0 : List (Str × V)) => nf "own_text" v0 r0 (by decide +kernel) (by decide +kernel)
    refine e_sfld ha3 cp p1 (show 0 < 1000 by decide) fun H4 ha4 s4 => ?_
    have ha4 : H4 a = some (.ins D.c_Program dx [("own_text", .str txt)]) := ha4
    have n0' : ∀ (v : V) (r : List (Str × V)), ([] : List (Str × V)) ≠ (Str.ofString "line", v) :: r ∧ ([] : List (Str × V)) ≠ (Str.ofString "signs", v) :: r := fun v r => ⟨(by intro z; cases z), (by intro z; cases z)⟩
    have k4 := KeepT.of s4 ha3 n0'
    have hR4 := hR3.other s4 ha3 n0' har
    have hl4 := k4 _ _ (.inl ⟨_, rfl⟩) hl
    have ht4 := ht.keep k4
    have hi4 := hR4.ins
    clear hi3 hi2 hR2 hR3 ht hl
    repeat walk_at "st"
    refine e_sfld ha4 cp p2 (show 1 < 1000 by decide) fun H5 ha5 s5 => ?_
    have ha5 : H5 a = some (.ins D.c_Program dx [("own_text", .str txt), ("own_symbols", .str s'.sy)]) := ha5
    have k5 := KeepT.of s5 ha4 (nt _ _)
    have hR5 := hR4.other s5 ha4 (nt _ _) har
    have hl5 := k5 _ _ (.inl ⟨_, rfl⟩) hl4
    have ht5 := ht4.keep k5
    have hi5 := hR5.ins
    clear hi4 hR4 ht4 hl4
    obtain ⟨cs5, hcs5, hcd5⟩ := hR5.cells
    repeat walk_at "st"
    refine e_tupL (SqL.of hcs5) fun ct H6 nct hct s6 => ?_
    have ha6 := s6 _ _ ha5
    have hR6 := hR5.same s6
    have hi6 := hR6.ins
    have hl6 := s6 _ _ hl5
    have ht6 := ht5.mono (SameM.of s6)
    have hcd6 := hcd5.same s6
    have dq6 : Dq K M0 H6 (.ref ct) (.tuple (s'.cells.map cellD)) := Dq.newT (fun z => z) hct (hcd6.avoid fun _ z => z.elim)
    have nLt : noLD (.tuple (s'.cells.map cellD)) = true := cells_noLD s'.cells
    clear hi5 hR5 ht5 hl5 hcs5
    repeat walk_at "st"
    refine e_sfld ha6 cp p3 (show 2 < 1000 by decide) fun H7 ha7 s7 => ?_
    have ha7 : H7 a = some (.ins D.c_Program dx [("own_text", .str txt), ("own_symbols", .str s'.sy), ("own_cells", .ref ct)]) := ha7
    have k7 := KeepT.of s7 ha6 (nt _ _)
    have hR7 := hR6.other s7 ha6 (nt _ _) har
    have hl7 := k7 _ _ (.inl ⟨_, rfl⟩) hl6
    have ht7 := ht6.keep k7
    have hi7 := hR7.ins
    have dq7 := dq6.keepN (SameN.ins ha6 s7) nLt
    clear hi6 hR6 ht6 hl6
    repeat walk_at "st"
    refine e_sfld ha7 cp p4 (show 3 < 1000 by decide) fun H8 ha8 s8 => ?_
    have ha8 : H8 a = some (.ins D.c_Program dx [("own_text", .str txt), ("own_symbols", .str s'.sy), ("own_cells", .ref ct), ("own_bodies", .ref A2.bd)]) := ha8
    have k8 := KeepT.of s8 ha7 (nt _ _)
    have hR8 := hR7.other s8 ha7 (nt _ _) har
    have hl8 := k8 _ _ (.inl ⟨_, rfl⟩) hl7
    have ht8 := ht7.keep k8
    have hi8 := hR8.ins
    have dq8 := dq7.keepN (SameN.ins ha7 s8) nLt
    clear hi7 hR7 ht7 hl7
    repeat walk_at "st"
    refine e_sfld ha8 cp p5 (show 4 < 1000 by decide) fun H9 ha9 s9 => ?_
    have ha9 : H9 a = some (.ins D.c_Program dx [("own_text", .str txt), ("own_symbols", .str s'.sy), ("own_cells", .ref ct), ("own_bodies", .ref A2.bd), ("own_main", .ref l)]) := ha9
    have k9 := KeepT.of s9 ha8 (nt _ _)
    have hR9 := hR8.other s9 ha8 (nt _ _) har
    have hl9 := k9 _ _ (.inl ⟨_, rfl⟩) hl8
    have ht9 := ht8.keep k9
    have hi9 := hR9.ins
    have dq9 := dq8.keepN (SameN.ins ha8 s9) nLt
    clear hi8 hR8 ht8 hl8
    obtain ⟨kvs, hbd9, hbs9⟩ := hR9.bods
    repeat walk_at "st"
    refine b_starV ?_
    repeat walk_at "st"
    refine ⟨_, kvs, rfl, hbd9, ?_⟩
    repeat walk_at "st"
    have hkl : kvs.length ≤ 2 := by rw [hbs9.length]; exact nice.bd
    refine e_lst (xs := kvs.map (·.2) ++ [V.ref l]) (fun BL H10 nBL hBL s10 => ?_) (by rw [List.length_append, List.length_map]; simp; omega)
    have ha10 := s10 _ _ ha9
    have hR10 := hR9.same s10
    have hi10 := hR10.ins
    have hl10 := s10 _ _ hl9
    have ht10 := ht9.mono (SameM.of s10)
    have dq10 := dq9.same s10
    have hbd10 := s10 _ _ hbd9
    have hbs10 := hbs9.mono (SameM.of s10)
    clear hi9 hR9 ht9 hl9 hbd9 hbs9
    -- the bodies and their letters
    have hsy : s'.sy.length ≤ 4 := nice.sy
    have all : ∀ (i : Nat) (v : V), (kvs.map (·.2) ++ [V.ref l])[i]? = some v → ∃ (b : Addr) (ys : List V) (ss : List PR.St) (n : Nat), v = V.ref b ∧ H10 b = some (.lst ys) ∧ STrees D (RM r A2) H10 ys ss ∧ PR.Ok 4 n ss ∧ n ≤ 20 ∧ (s'.bodies.map (·.2) ++ [s'.main])[i]? = some ss := by
      intro i v hv
      by_cases hi : i < kvs.length
      · rw [List.getElem?_append_left (by rw [List.length_map]; exact hi)] at hv
        obtain ⟨b, ys, n, ss, rfl, h1, h2, h3⟩ := hbs10.at hv
        obtain ⟨m, hm, om⟩ := wB _ (List.mem_of_getElem? h3)
        refine ⟨b, ys, ss, m, rfl, h1, h2, om, hm, ?_⟩
        rw [List.getElem?_append_left (by rw [List.length_map, ← hbs10.length]; exact hi), List.getElem?_map, h3]
        rfl
      · rw [List.getElem?_append_right (by rw [List.length_map]; omega), List.length_map] at hv
        have e0 : i - kvs.length = 0 := by
          have := (List.getElem?_eq_some_iff.mp hv).1
          simp at this
          omega
        rw [e0] at hv
        cases hv
        refine ⟨l, xs, s'.main, n0, rfl, hl10, ht10, oM, hn0, ?_⟩
        rw [List.getElem?_append_right (by rw [List.length_map, ← hbs10.length]; omega), List.length_map, ← hbs10.length, e0]
        rfl
    generalize hBs : (s'.bodies.map (·.2) ++ [s'.main]) = Bs at all
    have okB : ∀ ss ∈ Bs, ∃ n, n ≤ 20 ∧ PR.Ok 4 n ss := by
      intro ss hss
      rw [← hBs] at hss
      rcases List.mem_append.mp hss with z | z
      · obtain ⟨p, hp, rfl⟩ := List.mem_map.mp z
        exact wB p hp
      · rw [List.mem_singleton.mp z]
        exact ⟨n0, hn0, oM⟩
    have lB0 : Bs.length ≤ 3 := by
      rw [← hBs, List.length_append, List.length_map]
      have := nice.bd
      simp
      omega
    have lB : ∀ i, (bodyLetters s'.sy (Bs.take i)).length ≤ 240 := fun i => by
      have h1 : (Bs.take i).length ≤ 3 := by rw [List.length_take]; omega
      have h2 := bodyLetters_len (sy := s'.sy) (Bs := Bs.take i) fun ss hss => by
        obtain ⟨n, hn, o⟩ := okB ss (List.mem_of_mem_take hss)
        have := PR.lettersL_len hsy o
        omega
      omega
    have lW : ∀ x ∈ bodyLetters s'.sy Bs, PR.letterW x = true := fun x hx => by
      obtain ⟨ss, hss, hx⟩ := List.mem_flatMap.mp hx
      obtain ⟨n, hn, o⟩ := okB ss hss
      exact PR.lettersL_mem wW o x hx
    repeat walk_at "st"
    refine b_lc2L ?_
    repeat walk_at "st"
    refine e_lc2L (SqL.of hBL) (fun Dd i H' => H' Dd = some (.lst ((bodyLetters s'.sy (Bs.take i)).map V.str)) ∧ Same H10 H') ?_ ?_ ?_ ?_
    · intro Dd H' nD hD sD
      exact ⟨by simpa [bodyLetters] using hD, sD⟩
    · rintro Dd i H' nD ⟨_, sD⟩
      exact SqL.of (sD _ _ hBL)
    · rintro Dd i v H' nD hv ⟨hD, sD⟩
      obtain ⟨b, ys, ss, n, rfl, h1, h2, h3, h4, h5⟩ := all i v hv
      refine b_turn2 ?_
      have hi' := sD _ _ hi10
      repeat walk_at "st"
      refine b_in2L ?_
      repeat walk_at "st"
      refine ⟨RM r A2, s'.sy, b, ys, ss, n, 4, by decide, rfl, hsy, sD _ _ h1, h2.mono (SameM.of sD), h3, h4, fun pl H2 npl hpl s2 => ?_⟩
      have hpD : pl ≠ Dd := fun z => by rw [z, hD] at npl; cases npl
      have l1 := lB i
      have l2 := PR.lettersL_len hsy h3
      repeat walk_at "st"
      refine e_in2L (SqL.of hpl) (fun j H'' => H'' Dd = some (.lst ((bodyLetters s'.sy (Bs.take i) ++ (PR.lettersL s'.sy ss).take j).map V.str)) ∧ H'' pl = some (.lst ((PR.lettersL s'.sy ss).map V.str)) ∧ Same H10 H'') ?_ ?_ ?_ ?_
      · exact ⟨by rw [List.take_zero, List.append_nil]; exact s2 _ _ hD, hpl, Same.trans sD s2⟩
      · rintro j H'' ⟨_, h, _⟩
        exact SqL.of h
      · rintro j x H'' hx ⟨hD'', hpl'', sD''⟩
        rw [List.getElem?_map] at hx
        cases ey : (PR.lettersL s'.sy ss)[j]? with
        | none => rw [ey] at hx; cases hx
        | some y =>
        rw [ey] at hx
        cases hx
        repeat walk_at "st"
        refine e_app hD'' (by rw [List.length_map, List.length_append, List.length_take]; omega) fun H3 hD3 s3 => ?_
        refine ⟨?_, s3 _ _ hpD hpl'', Same.new sD'' s3 fun _ z => z ▸ nD⟩
        rw [List.take_add_one, ey, ← List.append_assoc, List.map_append]
        exact hD3
      · rintro H'' ⟨hD'', _, sD''⟩
        refine ⟨?_, sD''⟩
        rw [bodyLetters_take h5]
        rw [List.length_map, List.take_length] at hD''
        exact hD''
    · rintro Dd H' nD ⟨hD, sD⟩
      have e0 : Bs.take (kvs.map (·.2) ++ [V.ref l]).length = Bs := List.take_of_length_le (by
        rw [← hBs, List.length_append, List.length_append, List.length_map, List.length_map, hbs10.length]
        exact Nat.le_refl _)
      rw [e0] at hD
      have l1 := lB Bs.length
      rw [List.take_length] at l1
      repeat walk_at "st"
      refine e_setX (SqL.of hD) (by unfold scanBound; omega) fun Sa m H11 nSa hSa hmem nd s11 => ?_
      repeat walk_at "st"
      have hfew : m.length < 64 := by
        have := PR.letters_few nd fun x hx => lW x ((hmem x).mp hx)
        omega
      refine e_sortX hSa hfew fun zs pz H12 pm hz npz hpz s12 => ?_
      repeat walk_at "st"
      refine e_tupL (SqL.of hpz) fun lt H13 nlt hlt s13 => ?_
      have sT : Same H10 H13 := Same.trans (Same.trans (Same.trans sD s11) s12) s13
      have ha13 := sT _ _ ha10
      repeat walk_at "st"
      refine e_sfld ha13 cp p6 (show 5 < 1000 by decide) fun H14 ha14 s14 => ?_
      have ha14 : H14 a = some (.ins D.c_Program dx [("own_text", .str txt), ("own_symbols", .str s'.sy), ("own_cells", .ref ct), ("own_bodies", .ref A2.bd), ("own_main", .ref l), ("own_letters", .ref lt)]) := ha14
      repeat walk_at "st"
      refine e_sfld ha14 cp p7 (show 6 < 1000 by decide) fun H15 ha15 s15 => ?_
      have ha15 : H15 a = some (.ins D.c_Program dx [("own_text", .str txt), ("own_symbols", .str s'.sy), ("own_cells", .ref ct), ("own_bodies", .ref A2.bd), ("own_main", .ref l), ("own_letters", .ref lt), ("own_plan", .non)]) := ha15
      have k15 : KeepT H13 H15 := fun b o ho e => KeepT.of s15 ha14 (nt _ _) b o ho (KeepT.of s14 ha13 (nt _ _) b o ho e)
      have s1315 : SameM (· = a) H13 H15 := s14.trans s15
      repeat walk_at "st"
      refine q H15 ⟨dx, ct, A2.bd, l, lt, ha15, ?_, ⟨kvs, ?_, ?_⟩, fun z => z, ⟨xs, ?_, ?_⟩, fun z => z, zs, ?_, hz, pm.nodup_iff.mpr nd, fun x => ?_⟩ ?_
      · exact (dq10.same sT).keepN (SameN.ins ha13 s1315) nLt
      · exact s1315 _ _ (fun z => by rw [z, ha10] at hbd10; cases hbd10) (sT _ _ hbd10)
      · exact ((hbs10.mono (SameM.of sT)).keep k15).free
      · exact k15 _ _ (.inl ⟨_, rfl⟩) (sT _ _ hl10)
      · exact ((ht10.mono (SameM.of sT)).keep k15).avoid fun _ z => z.elim
      · exact s1315 _ _ (fun z => by rw [z, ha13] at hlt; cases hlt) hlt
      · rw [pm.mem_iff, hmem x]
        unfold allBodies
        rw [hBs]
      · intro b o nb e
        have b1 := s1 _ _ e
        have br : b ≠ r := fun z => by rw [z, nr] at e; cases e
        have b2 := s2 _ _ br b1
        have b3 := s3 _ _ (fun z => by have := fr2 b z br; rw [b1] at this; cases this) b2
        exact s1315 _ _ nb (sT _ _ (s10 _ _ (s9 _ _ nb (s8 _ _ nb (s7 _ _ nb (s6 _ _ (s5 _ _ nb (s4 _ _ nb b3))))))))
end
end K09

namespace K09
open PySem PySem.Spec PyProof.Rows L2 FG
local macro_rules | `(tactic| walk_at "sq") => `(tactic| first
  | assumption
  | exact SqL.of (by assumption)
  | exact SqT.of (by assumption)
  | exact SqLm.l (by assumption)
  | exact SqTm.t (by assumption))
local macro_rules | `(tactic| walk_at "cond") => `(tactic| first
  | assumption
  | (show (0 : Int) < _; omega)
  | (show (0 : Int) < _ ∧ _ < 1073741824; omega))
local macro_rules | `(tactic| walk_at "st") => `(tactic| first
  | with_reducible refine b_seq ?_
  | with_reducible refine b_asg ?_
  | with_reducible refine b_op ?_
  | ((with_reducible refine' b_var ?hv ?_); (case hv => exact rfl))
  | with_reducible refine b_c ?_
  | with_reducible refine b_name ?_
  | with_reducible refine b_I0 ?_
  | with_reducible refine b_cons ?_
  | with_reducible refine b_nil ?_
  | with_reducible refine b_cb ?_
  | with_reducible refine b_call ?_
  | with_reducible refine b_ret ?_
  | with_reducible refine b_ifS ?_
  | with_reducible refine b_test ?_
  | with_reducible refine b_tb ?_
  | with_reducible refine b_bl ?_
  | with_reducible refine b_blP ?_
  | with_reducible refine b_next ?_
  | with_reducible refine b_drop ?_
  | with_reducible refine b_dget ?_
  | with_reducible refine b_makeN ?_
  | with_reducible refine b_pairs ?_
  | with_reducible refine b_pairs0 ?_
  | with_reducible refine b_sub ?_
  | with_reducible refine b_chain ?_
  | with_reducible refine b_and ?_
  | with_reducible refine b_or ?_
  | with_reducible refine b_not ?_
  | with_reducible refine b_andV ?_
  | with_reducible refine b_orV ?_
  | with_reducible refine b_notV ?_
  | with_reducible refine b_if ?_
  | with_reducible refine b_par ?_
  | with_reducible refine b_parE ?_
  | ((with_reducible refine' b_aug ?hv ?_); (case hv => exact rfl))
  | with_reducible refine b_ip ?_
  | with_reducible refine b_retN ?_
  | with_reducible refine b_tup ?_
  | with_reducible refine b_lst ?_
  | with_reducible refine b_sl ?_
  | with_reducible refine b_part ?_
  | with_reducible refine b_partP ?_
  | with_reducible refine b_nopart ?_
  | with_reducible refine b_bm ?_
  | with_reducible refine b_m1 ?_
  | with_reducible refine b_m0 ?_
  | with_reducible refine b_yes ?_
  | with_reducible refine b_un ?_
  | with_reducible refine b_neg ?_
  | with_reducible refine b_isN ?_
  | with_reducible refine b_notN ?_
  | with_reducible refine b_inS ?_
  | with_reducible refine b_int ?_
  | with_reducible refine b_intB ?_
  | with_reducible refine b_abs ?_
  | with_reducible refine b_max ?_
  | with_reducible refine b_min ?_
  | ((with_reducible refine b_eq ?hv ?_); (case hv => exact rfl))
  | ((with_reducible refine b_ne ?hv ?_); (case hv => exact rfl))
  | ((with_reducible refine' b_lenL ?hv ?_); (case hv => walk_at "sq"))
  | ((with_reducible refine' b_lenT ?hv ?_); (case hv => walk_at "sq"))
  | ((with_reducible refine' b_ixL ?hv ?hw ?_); (case hv => walk_at "sq"); (case hw => first | exact rfl | exact at0 | exact at1 | exact at2))
  | ((with_reducible refine' b_ixT ?hv ?hw ?_); (case hv => walk_at "sq"); (case hw => first | exact rfl | exact at0 | exact at1 | exact at2))
  | ((with_reducible refine b_I ?hv ?_); (case hv => walk_at "cond"))
  | with_reducible refine b_lcS ?_
  | with_reducible refine b_lcR ?_
  | with_reducible refine b_lcT ?_
  | with_reducible refine b_lcL ?_
  | with_reducible refine b_forT ?_
  | with_reducible refine b_forL ?_
  | with_reducible refine b_forR ?_
  | with_reducible refine b_turn ?_
  | ((with_reducible refine And.intro (a := wipe _ _ = wipe _ _) ?hv ?_); (case hv => exact rfl))
  | ((with_reducible refine And.intro (a := tyV _ "list" _ _) ?hv ?_); (case hv => exact ty_list (by assumption)))
  | with_reducible refine And.intro (a := ∃ a, V.str _ = V.str a) ⟨_, rfl⟩ ?_
  | (with_reducible refine iteT ?_)
  | (with_reducible refine iteNF ?_)
  | (with_reducible refine iteNT ?_)
  | (with_reducible refine iteVT ?_)
  | (with_reducible refine iteNVT ?_)
  | ((with_reducible refine iteVF ?hv ?_); (case hv => exact rfl))
  | ((with_reducible refine iteNVF ?hv ?_); (case hv => exact rfl))
  | with_reducible refine b_callS ?_
  | with_reducible refine b_xq ?_
  | with_reducible refine b_fld ?_
  | with_reducible refine b_sfld ?_
  | with_reducible refine b_meth ?_
  | with_reducible refine b_make ?_
  | with_reducible refine b_callK ?_
  | with_reducible refine b_sfa ?_
  | with_reducible refine b_lcEnT ?_
  | with_reducible refine b_lcEnL ?_
  | with_reducible refine b_forEnT ?_
  | with_reducible refine b_forEnL ?_
  | with_reducible refine b_lcZ ?_
  | with_reducible refine b_lcZX ?_
  | with_reducible refine b_prop ?_
  | with_reducible refine b_dput ?_
  | with_reducible refine b_din ?_
  | with_reducible refine b_inB ?_
  | with_reducible refine e_revT ?_
  | ((with_reducible refine' e_fld ?hv ?hc ?hn ?hl ?_); (case hv => assumption); (case hc => assumption); (case hn => assumption); (case hl => exact rfl))
  | ((with_reducible refine' e_meth ?hv ?hl ?_); (case hv => assumption); (case hl => exact rfl))
  | (with_reducible refine iteF ?_))

section
variable {P : Program} {w : World} {K : PySem.W.Frag} {mg : Str → Option Value} {base : Heap} {D : Ad}
def sp_pfld (D : Ad) (f : Str) : Sp := fun vs H Q _ => ∃ (a dx : Addr) (fs : List (Str × V)) (v : V), vs = [.ref a] ∧ H a = some (.ins D.c_Program dx fs) ∧ fs.lookup f = some v ∧ Q v H
theorem ok_Program_text (T : Txt K mg D) {k : Nat} : FnOk P w K mg base CX0 (k + 1) D.f_Program_text D.d_Program_text P_Program_text (sp_pfld D "own_text") := by
  have cp := T.cl_Program
  have p1 := T.n_Program_own_text
  refine T.f_Program_text.ok sc_Program_text (fun vs H Q E h => ?_) (fun cdv A outer s H vs Q E hr h => ?_)
  · obtain ⟨a, dx, fs, v, rfl, _⟩ := h
    rfl
  · obtain ⟨a, dx, fs, v, rfl, ha, hl, q⟩ := h
    refine ⟨_, (pss_one (ps_ret (pe_fldK (K := K) (by rfl) (pv 0) (by rfl)))), ?_⟩
    repeat walk_at "st"
    refine e_fld ha cp p1 hl ?_
    exact q
theorem ok_Program_symbols (T : Txt K mg D) {k : Nat} : FnOk P w K mg base CX0 (k + 1) D.f_Program_symbols D.d_Program_symbols P_Program_symbols (sp_pfld D "own_symbols") := by
  have cp := T.cl_Program
  have p1 := T.n_Program_own_symbols
  refine T.f_Program_symbols.ok sc_Program_symbols (fun vs H Q E h => ?_) (fun cdv A outer s H vs Q E hr h => ?_)
  · obtain ⟨a, dx, fs, v, rfl, _⟩ := h
    rfl
  · obtain ⟨a, dx, fs, v, rfl, ha, hl, q⟩ := h
    refine ⟨_, (pss_one (ps_ret (pe_fldK (K := K) (by rfl) (pv 0) (by rfl)))), ?_⟩
    repeat walk_at "st"
    refine e_fld ha cp p1 hl ?_
    exact q
theorem ok_Program_cells (T : Txt K mg D) {k : Nat} : FnOk P w K mg base CX0 (k + 1) D.f_Program_cells D.d_Program_cells P_Program_cells (sp_pfld D "own_cells") := by
  have cp := T.cl_Program
  have p1 := T.n_Program_own_cells
  refine T.f_Program_cells.ok sc_Program_cells (fun vs H Q E h => ?_) (fun cdv A outer s H vs Q E hr h => ?_)
  · obtain ⟨a, dx, fs, v, rfl, _⟩ := h
    rfl
  · obtain ⟨a, dx, fs, v, rfl, ha, hl, q⟩ := h
    refine ⟨_, (pss_one (ps_ret (pe_fldK (K := K) (by rfl) (pv 0) (by rfl)))), ?_⟩
    repeat walk_at "st"
    refine e_fld ha cp p1 hl ?_
    exact q
theorem ok_Program_letters (T : Txt K mg D) {k : Nat} : FnOk P w K mg base CX0 (k + 1) D.f_Program_letters D.d_Program_letters P_Program_letters (sp_pfld D "own_letters") := by
  have cp := T.cl_Program
  have p1 := T.n_Program_own_letters
  refine T.f_Program_letters.ok sc_Program_letters (fun vs H Q E h => ?_) (fun cdv A outer s H vs Q E hr h => ?_)
  · obtain ⟨a, dx, fs, v, rfl, _⟩ := h
    rfl
  · obtain ⟨a, dx, fs, v, rfl, ha, hl, q⟩ := h
    refine ⟨_, (pss_one (ps_ret (pe_fldK (K := K) (by rfl) (pv 0) (by rfl)))), ?_⟩
    repeat walk_at "st"
    refine e_fld ha cp p1 hl ?_
    exact q
def sp_parts (D : Ad) : Sp := fun vs H Q _ => ∃ (a dx bd : Addr) (fs : List (Str × V)) (kvs : List (Key × V)), vs = [.ref a] ∧ H a = some (.ins D.c_Program dx fs) ∧ fs.lookup (Str.ofString "own_bodies") = some (V.ref bd) ∧ H bd = some (.dK kvs) ∧
  ∀ p H', H p = none → H' p = some (.tup (kvs.map fun p => kV p.1)) → Same H H' → Q (.ref p) H'
theorem ok_Program_parts (T : Txt K mg D) {k : Nat} : FnOk P w K mg base CX0 (k + 1) D.f_Program_parts D.d_Program_parts P_Program_parts (sp_parts D) := by
  have cp := T.cl_Program
  have p1 := T.n_Program_own_bodies
  refine T.f_Program_parts.ok sc_Program_parts (fun vs H Q E h => ?_) (fun cdv A outer s H vs Q E hr h => ?_)
  · obtain ⟨a, dx, bd, fs, kvs, rfl, _⟩ := h
    rfl
  · obtain ⟨a, dx, bd, fs, kvs, rfl, ha, hl, hb, q⟩ := h
    refine ⟨_, (pss_one (ps_ret (pe_callTy (cr_tupD rfl) (by rfl) T.z_tuple (by decide +kernel) (pa_cons (pe_fldK (K := K) (by rfl) (pv 0) (by rfl)) pa_nil)))), ?_⟩
    repeat walk_at "st"
    refine e_fld ha cp p1 hl ?_
    repeat walk_at "st"
    refine e_tupDk hb fun p H' np hp s' => ?_
    repeat walk_at "st"
    exact q p H' np hp s'
def sp_peq (D : Ad) : Sp := fun vs H Q _ => ∃ (a b dx dy : Addr) (fs gs : List (Str × V)) (x y : Str), vs = [.ref a, .ref b] ∧ H a = some (.ins D.c_Program dx fs) ∧ H b = some (.ins D.c_Program dy gs) ∧ fs.lookup (Str.ofString "own_text") = some (V.str x) ∧ gs.lookup (Str.ofString "own_text") = some (V.str y) ∧
  Q (.bl (decide (x = y))) H
theorem ok_Program_eq (T : Txt K mg D) {k : Nat} : FnOk P w K mg base CX0 (k + 1) D.f_Program_eq D.d_Program_eq P_Program_eq (sp_peq D) := by
  have cp := T.cl_Program
  have p1 := T.n_Program_own_text
  refine T.f_Program_eq.ok sc_Program_eq (fun vs H Q E h => ?_) (fun cdv A outer s H vs Q E hr h => ?_)
  · obtain ⟨a, b, dx, dy, fs, gs, x, y, rfl, _⟩ := h
    rfl
  · obtain ⟨a, b, dx, dy, fs, gs, x, y, rfl, ha, hb, hx, hy, q⟩ := h
    refine ⟨_, (pss_one (ps_ret (pe_and (pe_callB (callK (K := K) (r := rIsi) (by rfl) call_isi) (by rfl) T.z_isinstance (by decide +kernel) (pa_cons (pv 1) (pa_cons (pe_glob (v := .ref D.c_Program) (by rfl) T.g_Program rfl) pa_nil))) (pe_one (pe_cmpR op_eq (pe_fldK (K := K) (by rfl) (pv 0) (by rfl)) (pe_fldK (K := K) (by rfl) (pv 1) (by rfl)) (nomark _)))))), ?_⟩
    repeat walk_at "st"
    refine e_isOwn T.ow_Program hb ?_
    repeat walk_at "st"
    refine e_fld ha cp p1 hx ?_
    repeat walk_at "st"
    refine e_fld hb cp p1 hy ?_
    repeat walk_at "st"
    rw [show decide (x = y) = decide (V.str x = V.str y) from decide_eq_decide.mpr ⟨fun z => z ▸ rfl, fun z => V.str.inj z⟩] at q
    exact q
end
end K09

namespace PR
open PySem
theorem words_one (a : Str) : wordsText [a] = a := by unfold wordsText; rw [TL.join_eq]; rfl
theorem words_cons (a b : Str) (r : List Str) : wordsText (a :: b :: r) = a ++ (Str.ofString " " ++ wordsText (b :: r)) := by
  unfold wordsText
  rw [TL.join_eq, TL.join_eq, ← Str.append_assoc]
  rfl
theorem w_at (sg : Str) : Str.ofString "at " ++ sg = wordsText [Str.ofString "at", sg] := by
  rw [words_cons, words_one, ← Str.append_assoc]
  rfl
theorem w_eq (c v : Str) : c ++ Str.ofString " = " ++ v = wordsText [c, Str.ofString "=", v] := by
  rw [words_cons, words_cons, words_one, ← Str.append_assoc (Str.ofString "="), ← Str.append_assoc (Str.ofString " "), Str.append_assoc]
  rfl
theorem w_not (b : Str) (r : List Str) : Str.ofString "not " ++ wordsText (b :: r) = wordsText (Str.ofString "not" :: b :: r) := by
  rw [words_cons, ← Str.append_assoc]
  rfl
theorem w_do (a : Str) : Str.ofString "do " ++ a = wordsText [Str.ofString "do", a] := by
  rw [words_cons, words_one, ← Str.append_assoc]
  rfl
theorem w_write (a : Str) : Str.ofString "write " ++ a = wordsText [Str.ofString "write", a] := by
  rw [words_cons, words_one, ← Str.append_assoc]
  rfl
theorem w_set (a b : Str) : Str.ofString "set " ++ a ++ Str.ofString " " ++ b = wordsText [Str.ofString "set", a, b] := by
  rw [words_cons, words_cons, words_one, ← Str.append_assoc (Str.ofString "set"), ← Str.append_assoc a, ← Str.append_assoc _ (a ++ _), ← Str.append_assoc _ a]
  rfl
theorem w_add (a b : Str) : Str.ofString "add " ++ a ++ Str.ofString " " ++ b = wordsText [Str.ofString "add", a, b] := by
  rw [words_cons, words_cons, words_one, ← Str.append_assoc (Str.ofString "add"), ← Str.append_assoc a, ← Str.append_assoc _ (a ++ _), ← Str.append_assoc _ a]
  rfl
theorem valT_str : ∀ v : Nat, v ≤ 2 → ((toString (v : Int) : String) : Str) = valT v
  | 0, _ => by decide +kernel
  | 1, _ => by decide +kernel
  | 2, _ => by decide +kernel
theorem blanks_two : ∀ d : Nat, 1 ≤ d → d ≤ 4 → FG.repS (Str.ofString "  ") d = blanks (2 * d)
  | 1, _, _ => by decide +kernel
  | 2, _, _ => by decide +kernel
  | 3, _, _ => by decide +kernel
  | 4, _, _ => by decide +kernel
def chrs (l : List Nat) : List Str := l.map fun c => (⟨#[c]⟩ : Str)
theorem chrs_map (l : List Nat) : (l.map fun c => L2.V.str ⟨#[c]⟩) = (chrs l).map L2.V.str := by simp [chrs]
theorem join_chars (l : List Nat) : PySem.Txt.join (Str.ofString "") (chrs l) = ⟨l.toArray⟩ := by
  have h : TL.tl (Str.join (Str.ofString "") (chrs l)) = l := by
    rw [TL.tl_join]
    show TL.joinL [] _ = l
    unfold chrs
    induction l with
    | nil => rfl
    | cons a l ih =>
      cases l with
      | nil => rfl
      | cons b l =>
        show [a] ++ ([] ++ TL.joinL [] (List.map TL.tl (List.map (fun c => (⟨#[c]⟩ : Str)) (b :: l)))) = _
        exact congrArg (a :: ·) ih
  rw [TL.join_eq]
  apply Str.ext'
  apply Array.ext'
  exact h
theorem chrs_len (l : List Nat) : ((chrs l).map (·.length)).sum = l.length := by
  unfold chrs
  induction l with
  | nil => rfl
  | cons a l ih =>
    rw [List.map_cons, List.map_cons, List.sum_cons, ih, List.length_cons]
    show 1 + _ = _
    omega
theorem sign_good {sy : Str} (h : sy ∈ sixSy) {l : List Nat} (hl : l.Sublist (signsOf sy)) (ne : l ≠ []) : signsB sy ⟨l.toArray⟩ = true ∧ goodW ⟨l.toArray⟩ = true := six_signs sy h l (subs_mem hl) ne
theorem chrs_lay {sy : Str} (h : sy ∈ sixSy) {l : List Nat} (hl : l.Sublist (signsOf sy)) : ∀ x ∈ chrs l, PyData.canLay0 (.str x) = true := by
  intro x hx
  obtain ⟨c, hc, rfl⟩ := List.mem_map.mp hx
  exact goodW_lay (sign_good h (List.singleton_sublist.mpr (hl.subset hc)) (by simp)).2
end PR

namespace K09
open PySem PySem.Spec PyProof.Rows L2 FG
local macro_rules | `(tactic| walk_at "sq") => `(tactic| first
  | assumption
  | exact SqL.of (by assumption)
  | exact SqT.of (by assumption)
  | exact SqLm.l (by assumption)
  | exact SqTm.t (by assumption))
local macro_rules | `(tactic| walk_at "cond") => `(tactic| first
  | assumption
  | (show (0 : Int) < _; omega)
  | (show (0 : Int) < _ ∧ _ < 1073741824; omega))
local macro_rules | `(tactic| walk_at "st") => `(tactic| first
  | with_reducible refine b_seq ?_
  | with_reducible refine b_asg ?_
  | with_reducible refine b_op ?_
  | ((with_reducible refine' b_var ?hv ?_); (case hv => exact rfl))
  | with_reducible refine b_c ?_
  | with_reducible refine b_name ?_
  | with_reducible refine b_I0 ?_
  | with_reducible refine b_cons ?_
  | with_reducible refine b_nil ?_
  | with_reducible refine b_cb ?_
  | with_reducible refine b_call ?_
  | with_reducible refine b_ret ?_
  | with_reducible refine b_ifS ?_
  | with_reducible refine b_test ?_
  | with_reducible refine b_tb ?_
  | with_reducible refine b_bl ?_
  | with_reducible refine b_blP ?_
  | with_reducible refine b_next ?_
  | with_reducible refine b_drop ?_
  | with_reducible refine b_dget ?_
  | with_reducible refine b_makeN ?_
  | with_reducible refine b_pairs ?_
  | with_reducible refine b_pairs0 ?_
  | with_reducible refine b_sub ?_
  | with_reducible refine b_chain ?_
  | with_reducible refine b_and ?_
  | with_reducible refine b_or ?_
  | with_reducible refine b_not ?_
  | with_reducible refine b_andV ?_
  | with_reducible refine b_orV ?_
  | with_reducible refine b_notV ?_
  | with_reducible refine b_if ?_
  | with_reducible refine b_par ?_
  | with_reducible refine b_parE ?_
  | ((with_reducible refine' b_aug ?hv ?_); (case hv => exact rfl))
  | with_reducible refine b_ip ?_
  | with_reducible refine b_retN ?_
  | with_reducible refine b_tup ?_
  | with_reducible refine b_lst ?_
  | with_reducible refine b_sl ?_
  | with_reducible refine b_part ?_
  | with_reducible refine b_partP ?_
  | with_reducible refine b_nopart ?_
  | with_reducible refine b_bm ?_
  | with_reducible refine b_m1 ?_
  | with_reducible refine b_m0 ?_
  | with_reducible refine b_yes ?_
  | with_reducible refine b_un ?_
  | with_reducible refine b_neg ?_
  | with_reducible refine b_isN ?_
  | with_reducible refine b_notN ?_
  | with_reducible refine b_inS ?_
  | with_reducible refine b_int ?_
  | with_reducible refine b_intB ?_
  | with_reducible refine b_abs ?_
  | with_reducible refine b_max ?_
  | with_reducible refine b_min ?_
  | ((with_reducible refine b_eq ?hv ?_); (case hv => exact rfl))
  | ((with_reducible refine b_ne ?hv ?_); (case hv => exact rfl))
  | ((with_reducible refine' b_lenL ?hv ?_); (case hv => walk_at "sq"))
  | ((with_reducible refine' b_lenT ?hv ?_); (case hv => walk_at "sq"))
  | ((with_reducible refine' b_ixL ?hv ?hw ?_); (case hv => walk_at "sq"); (case hw => first | exact rfl | exact at0 | exact at1 | exact at2))
  | ((with_reducible refine' b_ixT ?hv ?hw ?_); (case hv => walk_at "sq"); (case hw => first | exact rfl | exact at0 | exact at1 | exact at2))
  | ((with_reducible refine b_I ?hv ?_); (case hv => walk_at "cond"))
  | with_reducible refine b_lcS ?_
  | with_reducible refine b_lcR ?_
  | with_reducible refine b_lcT ?_
  | with_reducible refine b_lcL ?_
  | with_reducible refine b_forT ?_
  | with_reducible refine b_forL ?_
  | with_reducible refine b_forR ?_
  | with_reducible refine b_turn ?_
  | ((with_reducible refine And.intro (a := wipe _ _ = wipe _ _) ?hv ?_); (case hv => exact rfl))
  | ((with_reducible refine And.intro (a := tyV _ "list" _ _) ?hv ?_); (case hv => exact ty_list (by assumption)))
  | with_reducible refine And.intro (a := ∃ a, V.str _ = V.str a) ⟨_, rfl⟩ ?_
  | (with_reducible refine iteT ?_)
  | (with_reducible refine iteNF ?_)
  | (with_reducible refine iteNT ?_)
  | (with_reducible refine iteVT ?_)
  | (with_reducible refine iteNVT ?_)
  | ((with_reducible refine iteVF ?hv ?_); (case hv => exact rfl))
  | ((with_reducible refine iteNVF ?hv ?_); (case hv => exact rfl))
  | with_reducible refine b_callS ?_
  | with_reducible refine b_xq ?_
  | with_reducible refine b_fld ?_
  | with_reducible refine b_sfld ?_
  | with_reducible refine b_meth ?_
  | with_reducible refine b_make ?_
  | with_reducible refine b_callK ?_
  | with_reducible refine b_sfa ?_
  | with_reducible refine b_lcEnT ?_
  | with_reducible refine b_lcEnL ?_
  | with_reducible refine b_forEnT ?_
  | with_reducible refine b_forEnL ?_
  | with_reducible refine b_lcZ ?_
  | with_reducible refine b_lcZX ?_
  | with_reducible refine b_prop ?_
  | with_reducible refine b_dput ?_
  | with_reducible refine b_din ?_
  | with_reducible refine b_inB ?_
  | with_reducible refine e_revT ?_
  | ((with_reducible refine' e_fld ?hv ?hc ?hn ?hl ?_); (case hv => assumption); (case hc => assumption); (case hn => assumption); (case hl => exact rfl))
  | ((with_reducible refine' e_meth ?hv ?hl ?_); (case hv => assumption); (case hl => exact rfl))
  | (with_reducible refine iteF ?_))

section
variable {P : Program} {w : World} {K : PySem.W.Frag} {mg : Str → Option Value} {base : Heap} {D : Ad}
theorem ok__law_take (T : Txt K mg D) {k : Nat} : FnOk P w K mg base CX0 (k + 1) D.f__law_take D.d__law_take P__law_take spTake := by
  refine T.f__law_take.ok sc__law_take (fun vs H Q E h => ?_) (fun cdv A outer s H vs Q E hr h => ?_)
  · obtain ⟨p, u, n, rfl, _⟩ := h
    rfl
  · obtain ⟨p, u, n, rfl, hp, hn, hu0, hu1, q⟩ := h
    obtain ⟨a, b, c, hp, ha0, ha1, hb0, hb1, hc0, hc1⟩ := hp
    refine ⟨_, (pss_cons (ps_if (pt_cmpR op_gt (pe_ix (ixK (K := K) (r := rIxL) (by rfl) ix_list) (pv 0) pe_int (fun _ _ => rfl)) pe_int (nomark _)) (pss_cons (ps_set (i := 4) sc__law_take.nd rfl (by first | exact .inl rfl | exact .inr rfl) (pe_op op_mod (pe_callTy q_int (by rfl) T.z_int (by decide +kernel) (pa_cons (pe_ix (ixK (K := K) (r := rIxL) (by rfl) ix_list) (pv 0) pe_int (fun _ _ => rfl)) pa_nil)) (pv 1)))
      (pss_cons (ps_asg (pe_op op_fdiv (pe_ix (ixK (K := K) (r := rIxL) (by rfl) ix_list) (pv 0) pe_int (fun _ _ => rfl)) (pv 1)) (pg_sub (pv 0) pe_int set_list))
      (pss_one (ps_ret (pv 4))))) pss_nil)
      (pss_cons (ps_asg (pe_op op_add (pe_ix (ixK (K := K) (r := rIxL) (by rfl) ix_list) (pv 0) pe_int (fun _ _ => rfl)) pe_int) (pg_sub (pv 0) pe_int set_list))
      (pss_cons (ps_set (i := 2) sc__law_take.nd rfl (by first | exact .inl rfl | exact .inr rfl) (pe_ix (ixK (K := K) (r := rIxL) (by rfl) ix_list) (pe_lst (pa_cons pe_int (pa_cons pe_int (pa_cons pe_int (pa_cons pe_int (pa_cons pe_int pa_nil)))))) (pe_op op_mod (pe_callTy q_int (by rfl) T.z_int (by decide +kernel) (pa_cons (pe_ix (ixK (K := K) (r := rIxL) (by rfl) ix_list) (pv 0) pe_int (fun _ _ => rfl)) pa_nil)) pe_int) (fun _ _ => rfl)))
      (pss_cons (ps_set (i := 3) sc__law_take.nd rfl (by first | exact .inl rfl | exact .inr rfl) (pe_op op_mod (pe_callTy q_int (by rfl) T.z_int (by decide +kernel) (pa_cons (pe_op op_powW (pe_op op_add (pe_op op_add (pe_ix (ixK (K := K) (r := rIxL) (by rfl) ix_list) (pv 0) pe_int (fun _ _ => rfl)) (pe_op op_mulW (pe_op op_mulW pe_int (pe_ix (ixK (K := K) (r := rIxL) (by rfl) ix_list) (pv 0) pe_int (fun _ _ => rfl))) (pe_ix (ixK (K := K) (r := rIxL) (by rfl) ix_list) (pv 0) pe_int (fun _ _ => rfl)))) pe_int) pe_int) pa_nil)) (pv 2)))
      (pss_one (ps_ret (pe_op op_mod (pe_callTy q_int (by rfl) T.z_int (by decide +kernel) (pa_cons (pe_op op_fdiv (pe_op op_mulW (pv 3) (pe_op op_add (pe_op op_mod (pe_callTy q_int (by rfl) T.z_int (by decide +kernel) (pa_cons (pv 3) pa_nil)) pe_int) (pe_op op_mulW pe_int (pe_ix (ixK (K := K) (r := rIxL) (by rfl) ix_list) (pv 0) pe_int (fun _ _ => rfl))))) pe_int) pa_nil)) (pv 1)))))))), ?_⟩
    repeat walk_at "st"
    refine ite2 (fun h => ?_) (fun h => ?_)
    · have h1 : 0 < a := of_decide_eq_true h
      repeat walk_at "st"
      refine e_setL hp rfl fun H1 h1 s1 => ?_
      repeat walk_at "st"
      refine q _ _ (Int.emod_nonneg _ (by omega)) (Int.emod_lt_of_pos _ hu0) ?_ s1
      refine ⟨a / u, b, c, h1, Int.ediv_nonneg ha0 (by omega), ?_, hb0, hb1, hc0, by omega⟩
      exact Int.lt_of_le_of_lt (Int.ediv_le_self _ ha0) ha1
    · repeat walk_at "st"
      refine e_setL hp rfl fun H1 h1 s1 => ?_
      repeat walk_at "st"
      refine e_lst fun l H2 nl hl s2 => ?_
      have h2 := s2 _ _ h1
      repeat walk_at "st"
      have hm0 : 0 ≤ (c + 1) % 5 := Int.emod_nonneg _ (by decide)
      have hm1 : (c + 1) % 5 < 5 := Int.emod_lt_of_pos _ (by decide)
      obtain ⟨v, hv, hmem⟩ := atI_mem (xs := [V.int 2147483647, .int 2147483629, .int 2147483587, .int 2147483579, .int 2147483563]) hm0 (by exact hm1)
      obtain ⟨pr, rfl, hpr0, hpr1⟩ : ∃ pr : Int, v = .int pr ∧ 0 < pr ∧ pr ≤ 2147483647 := by
        simp only [List.mem_cons, List.not_mem_nil, or_false] at hmem
        rcases hmem with rfl | rfl | rfl | rfl | rfl <;> exact ⟨_, rfl, by decide, by decide⟩
      refine b_ixL (SqL.of hl) hv ?_
      repeat walk_at "st"
      refine b_I (cmul (by omega) (by omega) (by omega) (by omega)) ?_
      repeat walk_at "st"
      refine b_I (cmul (by omega) (by omega) (by omega) (by omega)) ?_
      obtain ⟨m0, m1⟩ := mul_bd (i := 70001 * (c + 1)) (j := c + 1) (a := 70001 * 1000000001) (b := 1000000001) (by omega) (by omega) (by omega) (by omega)
      generalize 70001 * (c + 1) * (c + 1) = m at m0 m1 ⊢
      repeat walk_at "st"
      refine b_I (cpow 90 (by decide) (by omega) (by omega) (by decide)) ?_
      generalize (b + m + 53) ^ (Int.toNat 3) = z
      repeat walk_at "st"
      have z0 : 0 ≤ z % pr := Int.emod_nonneg _ (by omega)
      have z1 : z % pr < pr := Int.emod_lt_of_pos _ hpr0
      generalize z % pr = y at z0 z1 ⊢
      repeat walk_at "st"
      have y0 : 0 ≤ y % 10007 := Int.emod_nonneg _ (by decide)
      have y1 : y % 10007 < 10007 := Int.emod_lt_of_pos _ (by decide)
      generalize y % 10007 = x at y0 y1 ⊢
      refine b_I (cmul (by omega) (by omega) (by omega) (by omega)) ?_
      repeat walk_at "st"
      refine b_I (cmul (by omega) (by omega) (by omega) (by omega)) ?_
      repeat walk_at "st"
      refine q _ _ (Int.emod_nonneg _ (by omega)) (Int.emod_lt_of_pos _ hu0) ?_ (s1.trans (SameM.of s2))
      exact ⟨a, b, c + 1, h2, ha0, ha1, hb0, hb1, by omega, by omega⟩
theorem ok__law_of (T : Txt K mg D) {k : Nat} : FnOk P w K mg base CX0 (k + 2) D.f__law_of D.d__law_of P__law_of (spOf K) := by
  have G__law_take : FnOk P w K mg base CX0 (k + 1) D.f__law_take D.d__law_take P__law_take spTake := ok__law_take T
  refine T.f__law_of.ok sc__law_of (fun vs H Q E h => ?_) (fun cdv A outer s H vs Q E hr h => ?_)
  · obtain ⟨p, n, _, _, ⟨a, xs, rfl, _⟩ | ⟨z, rfl, _⟩⟩ := h <;> rfl
  · obtain ⟨p, n, hp, hn, h⟩ := h
    rcases h with ⟨a, xs, rfl, hne, hS, hx0, hx1, q⟩ | ⟨z, rfl, hz0, hz1, q⟩
    · refine ⟨_, (pss_one (ps_ret (pe_ix (ixK (K := K) (r := rIx) (by rfl) ix_seq) (pv 1) (pe_call G__law_take hr (by rfl) T.g__law_take T.f__law_take.kp T.b__law_take .nil pass0 (pa_cons (pv 0) (pa_cons (pe_callB (callK (K := K) (r := qLen) (by rfl) q_len) (by rfl) T.z_len (by decide +kernel) (pa_cons (pv 1) pa_nil)) pa_nil))) (fun _ _ => rfl)))), ?_⟩
      repeat walk_at "st"
      have hlen : xs.length ≠ 0 := by simpa using hx0
      refine ⟨p, xs.length, n, rfl, hp, hn, by omega, by omega, fun d H1 d0 d1 hp1 s1 => ?_⟩
      obtain ⟨v, hv, hm⟩ := atI_mem d0 d1
      have hS1 : SqL K H1 a xs := (s1.l (SqLm.of (M := (· = p)) hne hS)).l
      exact b_ixSL hS1 hv (q v H1 hm hp1 s1)
    · refine ⟨_, (pss_one (ps_ret (pe_ix (ixK (K := K) (r := rIx) (by rfl) ix_seq) (pv 1) (pe_call G__law_take hr (by rfl) T.g__law_take T.f__law_take.kp T.b__law_take .nil pass0 (pa_cons (pv 0) (pa_cons (pe_callB (callK (K := K) (r := qLen) (by rfl) q_len) (by rfl) T.z_len (by decide +kernel) (pa_cons (pv 1) pa_nil)) pa_nil))) (fun _ _ => rfl)))), ?_⟩
      repeat walk_at "st"
      refine b_lenS (Nat.le_trans (Nat.le_of_lt hz1) (by decide)) ?_
      repeat walk_at "st"
      refine ⟨p, z.length, n, rfl, hp, hn, by omega, by omega, fun d H1 d0 d1 hp1 s1 => ?_⟩
      obtain ⟨c, hv, hm⟩ := atI_mem (xs := z.cps.toList) d0 (by simpa [Str.length] using d1)
      exact b_ixSS (Nat.le_trans (Nat.le_of_lt hz1) (by decide)) hv (q c H1 hm hp1 s1)
theorem ok__law_pot_of (T : Txt K mg D) {k : Nat} : FnOk P w K mg base CX0 (k + 1) D.f__law_pot_of D.d__law_pot_of P__law_pot_of (spPotOf K) := by
  refine T.f__law_pot_of.ok sc__law_pot_of (fun vs H Q E h => ?_) (fun cdv A outer s H vs Q E hr h => ?_)
  · obtain ⟨a, ns, j, rfl, _⟩ := h
    rfl
  · obtain ⟨a, ns, j, rfl, hS, hn, hj, q⟩ := h
    refine ⟨_, (pss_cons (ps_set (i := 2) sc__law_pot_of.nd rfl (by first | exact .inl rfl | exact .inr rfl) (pe_ifExp (pt_cmpR op_lt (pv 1) (pe_callB (callK (K := K) (r := qLen) (by rfl) q_len) (by rfl) T.z_len (by decide +kernel) (pa_cons (pv 0) pa_nil)) (nomark _)) (pe_ix (ixK (K := K) (r := rIxL) (by rfl) ix_list) (pv 0) (pv 1) (fun _ _ => rfl)) (pe_op op_add (pe_op op_mulW pe_int (pv 1)) pe_int)))
      (pss_cons (ps_set (i := 3) sc__law_pot_of.nd rfl (by first | exact .inl rfl | exact .inr rfl) (pe_op op_mulW (pe_op op_mod (pe_callTy q_int (by rfl) T.z_int (by decide +kernel) (pa_cons (pe_callB q_abs (by rfl) T.z_abs (by decide +kernel) (pa_cons (pv 2) pa_nil)) pa_nil)) (pe_op op_powW (pe_op op_powW pe_int pe_int) pe_int)) (pe_callTy q_int (by rfl) T.z_int (by decide +kernel) (pa_cons (pe_cmpR op_ge (pe_callB q_abs (by rfl) T.z_abs (by decide +kernel) (pa_cons (pv 2) pa_nil)) (pe_op op_powW pe_int pe_int) (nomark _)) pa_nil))))
      (pss_one (ps_ret (pe_lst (pa_cons (pv 3) (pa_cons (pe_op op_mod (pe_op op_add (pe_op op_add (pe_op op_mulW (pe_op op_mod (pe_callTy q_int (by rfl) T.z_int (by decide +kernel) (pa_cons (pv 2) pa_nil)) pe_int) pe_int) (pe_op op_mulW (pe_op op_mulW pe_int (pv 1)) (pv 1))) pe_int) pe_int) (pa_cons pe_int pa_nil)))))))), ?_⟩
    repeat walk_at "st"
    refine ite2 (fun h => ?_) (fun h => ?_)
    · have h1 := of_decide_eq_true h
      obtain ⟨v, hv, hm⟩ := atI_mem (xs := ns.map V.int) (i := (j : Int)) (by omega) (by exact_mod_cast h1)
      obtain ⟨cell, _, rfl⟩ := List.mem_map.mp hm
      repeat walk_at "st"
      refine b_ixL hS hv ?_
      walk_at "st"
      clear hv hm h h1
      repeat walk_at "st"
      refine b_I (cpow 4 (by decide) (by decide) (by decide) (by decide)) ?_
      repeat walk_at "st"
      refine b_I (cpow 200 (by decide) (by decide +kernel) (by decide +kernel) (by decide)) ?_
      refine b_I (show (0 : Int) < (10 ^ Int.toNat 60) ^ Int.toNat 5 by decide +kernel) ?_
      repeat walk_at "st"
      refine b_I (cpow 4 (by decide) (by decide) (by decide) (by decide)) ?_
      repeat walk_at "st"
      have a0 : 0 ≤ (if cell < 0 then -cell else cell) % (10 ^ Int.toNat 60) ^ Int.toNat 5 := Int.emod_nonneg _ (by decide +kernel)
      have a1 : (if cell < 0 then -cell else cell) % (10 ^ Int.toNat 60) ^ Int.toNat 5 < (10 ^ Int.toNat 60) ^ Int.toNat 5 := Int.emod_lt_of_pos _ (by decide +kernel)
      have a2 : ((10 : Int) ^ Int.toNat 60) ^ Int.toNat 5 < 2 ^ 1000 := by decide +kernel
      generalize (if cell < 0 then -cell else cell) % (10 ^ Int.toNat 60) ^ Int.toNat 5 = m at a0 a1 ⊢
      have a3 : m < 2 ^ 1000 := Int.lt_trans a1 a2
      have b0 : ∀ b : Bool, (0 : Int) ≤ (if b = true then 1 else 0) ∧ (if b = true then (1 : Int) else 0) ≤ 1 := fun b => by cases b <;> decide
      obtain ⟨b1, b2⟩ := b0 (decide ((10 : Int) ^ Int.toNat 18 ≤ if cell < 0 then -cell else cell))
      generalize (if decide ((10 : Int) ^ Int.toNat 18 ≤ if cell < 0 then -cell else cell) = true then (1 : Int) else 0) = b at b1 b2 ⊢
      refine b_I (cmul (by omega) (by omega) (by omega) (by omega)) ?_
      obtain ⟨c0, c1⟩ := mul_bd (a := 2 ^ 1000 - 1) (b := 1) a0 (by omega) b1 b2
      generalize m * b = mb at c0 c1 ⊢
      repeat walk_at "st"
      have d0 : 0 ≤ cell % 2305843009213693951 := Int.emod_nonneg _ (by decide)
      have d1 : cell % 2305843009213693951 < 2305843009213693951 := Int.emod_lt_of_pos _ (by decide)
      generalize cell % 2305843009213693951 = e at d0 d1 ⊢
      refine b_I (cmul (by omega) (by omega) (by omega) (by omega)) ?_
      repeat walk_at "st"
      refine b_I (cmul (by omega) (by omega) (by omega) (by omega)) ?_
      repeat walk_at "st"
      refine b_I (cmul (by omega) (by omega) (by omega) (by omega)) ?_
      repeat walk_at "st"
      refine e_lst fun p H1 np hp s1 => ?_
      exact q p H1 np s1 ⟨mb, _, 0, hp, c0, by omega, Int.emod_nonneg _ (by decide), Int.lt_trans (Int.emod_lt_of_pos _ (by decide)) (by decide), by decide, by decide⟩
    · repeat walk_at "st"
      refine b_I (cmul (by omega) (by omega) (by omega) (by omega)) ?_
      repeat walk_at "st"
      generalize 47 * (j : Int) + 17 = cell
      repeat walk_at "st"
      refine b_I (cpow 4 (by decide) (by decide) (by decide) (by decide)) ?_
      repeat walk_at "st"
      refine b_I (cpow 200 (by decide) (by decide +kernel) (by decide +kernel) (by decide)) ?_
      refine b_I (show (0 : Int) < (10 ^ Int.toNat 60) ^ Int.toNat 5 by decide +kernel) ?_
      repeat walk_at "st"
      refine b_I (cpow 4 (by decide) (by decide) (by decide) (by decide)) ?_
      repeat walk_at "st"
      have a0 : 0 ≤ (if cell < 0 then -cell else cell) % (10 ^ Int.toNat 60) ^ Int.toNat 5 := Int.emod_nonneg _ (by decide +kernel)
      have a1 : (if cell < 0 then -cell else cell) % (10 ^ Int.toNat 60) ^ Int.toNat 5 < (10 ^ Int.toNat 60) ^ Int.toNat 5 := Int.emod_lt_of_pos _ (by decide +kernel)
      have a2 : ((10 : Int) ^ Int.toNat 60) ^ Int.toNat 5 < 2 ^ 1000 := by decide +kernel
      generalize (if cell < 0 then -cell else cell) % (10 ^ Int.toNat 60) ^ Int.toNat 5 = m at a0 a1 ⊢
      have a3 : m < 2 ^ 1000 := Int.lt_trans a1 a2
      have b0 : ∀ b : Bool, (0 : Int) ≤ (if b = true then 1 else 0) ∧ (if b = true then (1 : Int) else 0) ≤ 1 := fun b => by cases b <;> decide
      obtain ⟨b1, b2⟩ := b0 (decide ((10 : Int) ^ Int.toNat 18 ≤ if cell < 0 then -cell else cell))
      generalize (if decide ((10 : Int) ^ Int.toNat 18 ≤ if cell < 0 then -cell else cell) = true then (1 : Int) else 0) = b at b1 b2 ⊢
      refine b_I (cmul (by omega) (by omega) (by omega) (by omega)) ?_
      obtain ⟨c0, c1⟩ := mul_bd (a := 2 ^ 1000 - 1) (b := 1) a0 (by omega) b1 b2
      generalize m * b = mb at c0 c1 ⊢
      repeat walk_at "st"
      have d0 : 0 ≤ cell % 2305843009213693951 := Int.emod_nonneg _ (by decide)
      have d1 : cell % 2305843009213693951 < 2305843009213693951 := Int.emod_lt_of_pos _ (by decide)
      generalize cell % 2305843009213693951 = e at d0 d1 ⊢
      refine b_I (cmul (by omega) (by omega) (by omega) (by omega)) ?_
      repeat walk_at "st"
      refine b_I (cmul (by omega) (by omega) (by omega) (by omega)) ?_
      repeat walk_at "st"
      refine b_I (cmul (by omega) (by omega) (by omega) (by omega)) ?_
      repeat walk_at "st"
      refine e_lst fun p H1 np hp s1 => ?_
      exact q p H1 np s1 ⟨mb, _, 0, hp, c0, by omega, Int.emod_nonneg _ (by decide), Int.lt_trans (Int.emod_lt_of_pos _ (by decide)) (by decide), by decide, by decide⟩
end
end K09

namespace K09
open PySem PySem.Spec PyProof.Rows L2 FG
local macro_rules | `(tactic| walk_at "sq") => `(tactic| first
  | assumption
  | exact SqL.of (by assumption)
  | exact SqT.of (by assumption)
  | exact SqLm.l (by assumption)
  | exact SqTm.t (by assumption))
local macro_rules | `(tactic| walk_at "cond") => `(tactic| first
  | assumption
  | (show (0 : Int) < _; omega)
  | (show (0 : Int) < _ ∧ _ < 1073741824; omega))
local macro_rules | `(tactic| walk_at "st") => `(tactic| first
  | with_reducible refine b_seq ?_
  | with_reducible refine b_asg ?_
  | with_reducible refine b_op ?_
  | ((with_reducible refine' b_var ?hv ?_); (case hv => exact rfl))
  | with_reducible refine b_c ?_
  | with_reducible refine b_name ?_
  | with_reducible refine b_I0 ?_
  | with_reducible refine b_cons ?_
  | with_reducible refine b_nil ?_
  | with_reducible refine b_cb ?_
  | with_reducible refine b_call ?_
  | with_reducible refine b_ret ?_
  | with_reducible refine b_ifS ?_
  | with_reducible refine b_test ?_
  | with_reducible refine b_tb ?_
  | with_reducible refine b_bl ?_
  | with_reducible refine b_blP ?_
  | with_reducible refine b_next ?_
  | with_reducible refine b_drop ?_
  | with_reducible refine b_dget ?_
  | with_reducible refine b_makeN ?_
  | with_reducible refine b_pairs ?_
  | with_reducible refine b_pairs0 ?_
  | with_reducible refine b_sub ?_
  | with_reducible refine b_chain ?_
  | with_reducible refine b_and ?_
  | with_reducible refine b_or ?_
  | with_reducible refine b_not ?_
  | with_reducible refine b_andV ?_
  | with_reducible refine b_orV ?_
  | with_reducible refine b_notV ?_
  | with_reducible refine b_if ?_
  | with_reducible refine b_par ?_
  | with_reducible refine b_parE ?_
  | ((with_reducible refine' b_aug ?hv ?_); (case hv => exact rfl))
  | with_reducible refine b_ip ?_
  | with_reducible refine b_retN ?_
  | with_reducible refine b_tup ?_
  | with_reducible refine b_lst ?_
  | with_reducible refine b_sl ?_
  | with_reducible refine b_part ?_
  | with_reducible refine b_partP ?_
  | with_reducible refine b_nopart ?_
  | with_reducible refine b_bm ?_
  | with_reducible refine b_m1 ?_
  | with_reducible refine b_m0 ?_
  | with_reducible refine b_yes ?_
  | with_reducible refine b_un ?_
  | with_reducible refine b_neg ?_
  | with_reducible refine b_isN ?_
  | with_reducible refine b_notN ?_
  | with_reducible refine b_inS ?_
  | with_reducible refine b_int ?_
  | with_reducible refine b_intB ?_
  | with_reducible refine b_abs ?_
  | with_reducible refine b_max ?_
  | with_reducible refine b_min ?_
  | ((with_reducible refine b_eq ?hv ?_); (case hv => exact rfl))
  | ((with_reducible refine b_ne ?hv ?_); (case hv => exact rfl))
  | ((with_reducible refine' b_lenL ?hv ?_); (case hv => walk_at "sq"))
  | ((with_reducible refine' b_lenT ?hv ?_); (case hv => walk_at "sq"))
  | ((with_reducible refine' b_ixL ?hv ?hw ?_); (case hv => walk_at "sq"); (case hw => first | exact rfl | exact at0 | exact at1 | exact at2))
  | ((with_reducible refine' b_ixT ?hv ?hw ?_); (case hv => walk_at "sq"); (case hw => first | exact rfl | exact at0 | exact at1 | exact at2))
  | ((with_reducible refine b_I ?hv ?_); (case hv => walk_at "cond"))
  | with_reducible refine b_lcS ?_
  | with_reducible refine b_lcR ?_
  | with_reducible refine b_lcT ?_
  | with_reducible refine b_lcL ?_
  | with_reducible refine b_forT ?_
  | with_reducible refine b_forL ?_
  | with_reducible refine b_forR ?_
  | with_reducible refine b_turn ?_
  | ((with_reducible refine And.intro (a := wipe _ _ = wipe _ _) ?hv ?_); (case hv => exact rfl))
  | ((with_reducible refine And.intro (a := tyV _ "list" _ _) ?hv ?_); (case hv => exact ty_list (by assumption)))
  | with_reducible refine And.intro (a := ∃ a, V.str _ = V.str a) ⟨_, rfl⟩ ?_
  | (with_reducible refine iteT ?_)
  | (with_reducible refine iteNF ?_)
  | (with_reducible refine iteNT ?_)
  | (with_reducible refine iteVT ?_)
  | (with_reducible refine iteNVT ?_)
  | ((with_reducible refine iteVF ?hv ?_); (case hv => exact rfl))
  | ((with_reducible refine iteNVF ?hv ?_); (case hv => exact rfl))
  | with_reducible refine b_callS ?_
  | with_reducible refine b_xq ?_
  | with_reducible refine b_fld ?_
  | with_reducible refine b_sfld ?_
  | with_reducible refine b_meth ?_
  | with_reducible refine b_make ?_
  | with_reducible refine b_callK ?_
  | with_reducible refine b_sfa ?_
  | with_reducible refine b_lcEnT ?_
  | with_reducible refine b_lcEnL ?_
  | with_reducible refine b_forEnT ?_
  | with_reducible refine b_forEnL ?_
  | with_reducible refine b_lcZ ?_
  | with_reducible refine b_lcZX ?_
  | with_reducible refine b_prop ?_
  | with_reducible refine b_dput ?_
  | with_reducible refine b_din ?_
  | with_reducible refine b_inB ?_
  | with_reducible refine e_revT ?_
  | ((with_reducible refine' e_fld ?hv ?hc ?hn ?hl ?_); (case hv => assumption); (case hc => assumption); (case hn => assumption); (case hl => exact rfl))
  | ((with_reducible refine' e_meth ?hv ?hl ?_); (case hv => assumption); (case hl => exact rfl))
  | (with_reducible refine iteF ?_))

section
variable {P : Program} {w : World} {K : PySem.W.Frag} {mg : Str → Option Value} {base : Heap} {D : Ad}
theorem map_erase : ∀ (l : List Str) (j : Nat), (l.map V.str).eraseIdx j = (l.eraseIdx j).map V.str
  | [], _ => rfl
  | _ :: _, 0 => rfl
  | x :: l, j + 1 => by simp [map_erase l j]
theorem pop_perm : ∀ {l : List Str} {d : Nat} (h : d < l.length), l.Perm (l[d] :: l.eraseIdx d)
  | x :: l, 0, _ => List.Perm.refl _
  | x :: l, d + 1, h => by
    have := pop_perm (l := l) (d := d) (by simpa using h)
    simp only [List.getElem_cons_succ, List.eraseIdx_cons_succ]
    exact (List.Perm.cons x this).trans (List.Perm.swap _ _ _)
theorem _root_.FG.PotAt.other {H H' : Hp} {p q : Addr} {n : Nat} (h : PotAt H p n) (s : SameM (· = q) H H') (ne : p ≠ q) : PotAt H' p n := by
  obtain ⟨a, b, c, e, r⟩ := h
  exact ⟨a, b, c, s _ _ ne e, r⟩
theorem _root_.FG.SameM.trans2 {M : Addr → Prop} {H H1 H2 : Hp} {q : Addr} (a : SameM M H H1) (b : SameM (· = q) H1 H2) (n : H q = none) : SameM M H H2 := fun c o nc h => b c o (fun z => by rw [z, n] at h; cases h) (a c o nc h)
/-- the lore at lo: the dict, its lists -/
structure LoreAt (K : PySem.W.Frag) (p lo : Addr) (sy : Str) (left : Nat) (cells : List (Str × Nat)) (parts : List Str) (H : Hp) : Prop where
  ex : ∃ cl pl cs, H lo = some (.dK [(.inr "symbols", .str sy), (.inr "left", .int (left : Nat)), (.inr "cells", .ref cl), (.inr "parts", .ref pl)]) ∧ H cl = some (.lst cs) ∧ cl ≠ p ∧ DqAll K (fun a => a = p ∨ a = lo) H cs (cells.map cellD) ∧ H pl = some (.lst (parts.map V.str)) ∧ pl ≠ p
/-- what a drawn lore is -/
structure LoreOk (sy : Str) (cells : List (Str × Nat)) (parts : List Str) : Prop where
  sy : sy ∈ PR.sixSy
  most : ∀ c ∈ cells, c.2 = 1 ∨ c.2 = 2
  cl : cells.length ≤ 2
  pl : parts.length ≤ 2
  nd : (cells.map (·.1) ++ parts).Nodup
  nm : ∀ n ∈ cells.map (·.1) ++ parts, n ∈ PR.eight
def sp_lore (K : PySem.W.Frag) : Sp := fun vs H Q _ => ∃ (p : Addr) (n : Nat), vs = [.ref p] ∧ PotAt H p n ∧ n ≤ 100000000 ∧
  ∀ lo sy cells parts H', LoreOk sy cells parts → LoreAt K p lo sy 0 cells parts H' → H lo = none → PotAt H' p (n + 20) → SameM (· = p) H H' → Q (.ref lo) H'
theorem ok__law_wide_lore (T : Txt K mg D) {k : Nat} : FnOk P w K mg base CX0 (k + 3) D.f__law_wide_lore D.d__law_wide_lore P__law_wide_lore (sp_lore K) := by
  have G__law_take : FnOk P w K mg base CX0 (k + 2) D.f__law_take D.d__law_take P__law_take spTake := ok__law_take T
  have G__law_of : FnOk P w K mg base CX0 (k + 2) D.f__law_of D.d__law_of P__law_of (spOf K) := ok__law_of T
  refine T.f__law_wide_lore.ok sc__law_wide_lore (fun vs H Q E h => ?_) (fun cdv A outer s H vs Q E hr h => ?_)
  · obtain ⟨p, n, rfl, _⟩ := h
    rfl
  · obtain ⟨p, n, rfl, hp, hn, q⟩ := h
    refine ⟨_, (pss_cons (ps_par (i := 1) (j := 2) (by rfl) sc__law_wide_lore.nd rfl rfl (by decide) rfl rfl (pa_cons (pe_lst (pa_cons pe_str (pa_cons pe_str (pa_cons pe_str (pa_cons pe_str (pa_cons pe_str (pa_cons pe_str (pa_cons pe_str (pa_cons pe_str pa_nil))))))))) (pa_cons (pe_lst pa_nil) pa_nil)) (by rfl))
      (pss_cons (ps_for PassesOwn.never rfl (pi_range1 (by rfl) T.z_range (pa_cons pe_int pa_nil)) (pg_name (i := 3) sc__law_wide_lore.nd rfl (by first | exact .inl rfl | exact .inr rfl)) (pss_one (ps_expr (pe_bm PySem.F.plainAttrs_list PySem.F.slot_list_append PySem.F.type_list_append mt_append (pv 2) (pa_cons (pe_bm PySem.F.plainAttrs_list PySem.F.slot_list_pop PySem.F.type_list_pop mt_popAt (pv 1) (pa_cons (pe_call G__law_take hr (by rfl) T.g__law_take T.f__law_take.kp T.b__law_take .nil pass0 (pa_cons (pv 0) (pa_cons (pe_callB (callK (K := K) (r := qLen) (by rfl) q_len) (by rfl) T.z_len (by decide +kernel) (pa_cons (pv 1) pa_nil)) pa_nil))) pa_nil)) pa_nil)))))
      (pss_cons (ps_set (i := 4) sc__law_wide_lore.nd rfl (by first | exact .inl rfl | exact .inr rfl) (pe_disp (pps_cons pe_str (pe_call G__law_of hr (by rfl) T.g__law_of T.f__law_of.kp T.b__law_of .nil pass0 (pa_cons (pv 0) (pa_cons (pe_lst (pa_cons pe_str (pa_cons pe_str (pa_cons pe_str (pa_cons pe_str (pa_cons pe_str (pa_cons pe_str pa_nil))))))) pa_nil))) (pps_cons pe_str pe_int pps_nil)) (by rfl) (by rfl) (by simp) (by decide)))
      (pss_cons (ps_dput (unit1 hr) (pv 4) pe_str (pe_lc (own := [("_law_name", 5)]) (g := gName 5) (tt := tYes) (by rfl) sc__law_wide_lore.nd (pi_listK (K := K) (by rfl) (pe_slice (slK (K := K) (r := rSlL) (by rfl) sl_list) (pv 2) po_none (po_some (pe_call G__law_take hr (by rfl) T.g__law_take T.f__law_take.kp T.b__law_take .nil pass0 (pa_cons (pv 0) (pa_cons pe_int pa_nil)))))) (blkOk_by (own := [("_law_name", 5)]) (N := N__law_wide_lore) (sc := defScope s__law_wide_lore) (by decide +kernel)) (fun _ _ _ _ _ => (pg_name (i := 5) sc__law_wide_lore.nd rfl (by first | exact .inl rfl | exact .inr rfl))) (fun _ _ _ _ _ => pts_nil) (fun _ _ _ _ _ => (pe_tup (pa_cons (pv 5) (pa_cons (pe_op op_add pe_int (pe_call G__law_take hr (by rfl) T.g__law_take T.f__law_take.kp T.b__law_take .nil pass0 (pa_cons (pv 0) (pa_cons pe_int pa_nil)))) pa_nil))))) rfl)
      (pss_cons (ps_dput (unit1 hr) (pv 4) pe_str (pe_slice (slK (K := K) (r := rSlL) (by rfl) sl_list) (pv 2) (po_some pe_int) (po_some (pe_op op_add pe_int (pe_call G__law_take hr (by rfl) T.g__law_take T.f__law_take.kp T.b__law_take .nil pass0 (pa_cons (pv 0) (pa_cons pe_int pa_nil)))))) rfl)
      (pss_one (ps_ret (pv 4)))))))), ?_⟩
    repeat walk_at "st"
    refine e_lst fun So H1 nSo hSo s1 => ?_
    repeat walk_at "st"
    refine e_lst fun Na H2 nNa hNa s2 => ?_
    have hSo2 := s2 _ _ hSo
    have hSN : So ≠ Na := fun z => by rw [z, nNa] at hSo; cases hSo
    obtain ⟨_, _, _, hp0, _⟩ := id hp
    have hpS : p ≠ So := fun z => by rw [z, nSo] at hp0; cases hp0
    have hpN : p ≠ Na := fun z => by rw [z] at hp0; rw [s1 _ _ hp0] at nNa; cases nNa
    have nNaH : H Na = none := none_back s1 nNa
    have sM2 : SameM (· = p) H H2 := SameM.of (Same.trans s1 s2)
    repeat walk_at "st"
    refine e_forR (fun i σ H' => ∃ (R N : List Str) (x3 x4 x5 : Option V), σ = [some (.ref p), some (.ref So), some (.ref Na), x3, x4, x5] ∧ H' So = some (.lst (R.map V.str)) ∧ H' Na = some (.lst (N.map V.str)) ∧ (N ++ R).Perm PR.eight ∧ N.length = i ∧ PotAt H' p (n + i) ∧ SameM (· = p) H H') (by decide) (by decide) ?_ ?_ ?_
    · exact ⟨PR.eight, [], _, _, _, rfl, hSo2, hNa, List.Perm.refl _, rfl, hp.keep (Same.trans s1 s2), sM2⟩
    · rintro i σ H' hi ⟨R, N, x3, x4, x5, rfl, hR, hN, pm, hl, hp', s'⟩
      have lR : R.length = 8 - i := by
        have := pm.length_eq
        rw [List.length_append, hl] at this
        have e8 : PR.eight.length = 8 := rfl
        omega
      have hi4 : i < 4 := hi
      repeat walk_at "st"
      refine e_take hp' (by omega) (by rw [List.length_map]; omega) (by rw [List.length_map]; omega) fun d H3 hd hp3 s3 => ?_
      rw [List.length_map] at hd
      have hd' : d < R.length := by omega
      have hR3 := s3 _ _ (Ne.symm hpS) hR
      repeat walk_at "st"
      refine e_popAt hR3 (by rw [List.length_map]; omega) (y := .str R[d]) (by rw [List.getElem?_map, List.getElem?_eq_getElem hd']; rfl) fun H4 hR4 s4 => ?_
      have hN4 := s4 _ _ (Ne.symm hSN) (s3 _ _ (Ne.symm hpN) hN)
      repeat walk_at "st"
      refine e_append hN4 (by rw [List.length_map]; omega) fun H5 hN5 s5 => ?_
      repeat walk_at "st"
      refine ⟨R.eraseIdx d, N ++ [R[d]], _, _, _, rfl, ?_, ?_, ?_, by rw [List.length_append, hl]; rfl, ?_, ?_⟩
      · rw [← map_erase]
        exact s5 _ _ hSN hR4
      · rw [List.map_append]; exact hN5
      · rw [List.append_assoc]
        exact ((pop_perm hd').symm.append_left N).trans pm
      · exact ((hp3.other s4 hpS).other s5 hpN).mono (by omega)
      · exact (s'.trans s3).trans2 s4 nSo |>.trans2 s5 nNaH
    · rintro σ H' ⟨R, N, x3, x4, x5, rfl, hR, hN, pm, hl, hp', s'⟩
      have hl4 : N.length = 4 := hl
      have hp4 : PotAt H' p (n + 4) := hp'
      repeat walk_at "st"
      refine b_disp fun lo H3 nlo hlo s3 => ?_
      repeat walk_at "st"
      refine e_lst fun ls H4 nls hls s4 => ?_
      have hp0' := (s4 _ _ (s3 _ _ (show H' p = some _ from hp4.choose_spec.choose_spec.choose_spec.1)))
      have hlsp : ls ≠ p := fun z => by
        have := s3 _ _ (show H' p = some _ from hp4.choose_spec.choose_spec.choose_spec.1)
        rw [z, this] at nls
        cases nls
      have hpl4 : PotAt H4 p (n + 4) := (hp4.keep s3).keep s4
      have hlop : lo ≠ p := fun z => by
        have := (show H' p = some _ from hp4.choose_spec.choose_spec.choose_spec.1)
        rw [z, this] at nlo
        cases nlo
      refine ⟨p, n + 4, hpl4, by omega, .inl ⟨ls, PR.sixSy.map V.str, rfl, hlsp, SqL.of hls, by decide +kernel, by decide +kernel, fun v H5 hv hp5 s5 => ?_⟩⟩
      obtain ⟨sy, hsy, rfl⟩ := List.mem_map.mp hv
      have hlo5 := s5 _ _ hlop (s4 _ _ hlo)
      repeat walk_at "st"
      refine ⟨hlo5, [(.inr "symbols", .str sy), (.inr "left", .int 0)], rfl, by simp, ?_⟩
      generalize hH6 : upd H5 lo (HO.dK (mergeK [] [(.inr "symbols", .str sy), (.inr "left", .int 0)])) = H6
      have hlo6 : H6 lo = some (.dK [(.inr "symbols", .str sy), (.inr "left", .int 0)]) := by rw [← hH6]; exact upd_same
      have s6 : SameM (· = lo) H5 H6 := by rw [← hH6]; exact SameM.upd rfl
      clear hH6
      have hp6 : PotAt H6 p (n + 5) := hp5.other s6 (Ne.symm hlop)
      have nloH : H lo = none := none_backM s' hlop nlo
      have hloN : Na ≠ lo := fun z => by rw [← z, hN] at nlo; cases nlo
      have hN6 := s6 _ _ hloN (s5 _ _ (Ne.symm hpN) (s4 _ _ (s3 _ _ hN)))
      have sH6 : SameM (· = p) H H6 := (((s'.trans (SameM.of s3)).trans (SameM.of s4)).trans s5).trans2 s6 nloH
      repeat walk_at "st"
      refine e_take hp6 (by omega) (by decide) (by decide) fun d H7 hd hp7 s7 => ?_
      have hN7 := s7 _ _ (Ne.symm hpN) hN6
      have hlo7 := s7 _ _ hlop hlo6
      repeat walk_at "st"
      refine e_slL (SqL.of hN7) fun sl H8 nsl hsl s8 => ?_
      rw [cut_to, ← List.map_take] at hsl
      have hslp : sl ≠ p := hp7.ne nsl
      have hlo8 := s8 _ _ hlo7
      have hp8 := hp7.keep s8
      have hd3 : d < 3 := by omega
      repeat walk_at "st"
      refine e_lcL (SqL.of hsl) (fun S i H' => ∃ (zs : List V) (cs : List (Str × Nat)), H' S = some (.lst zs) ∧ DqAll K (fun a => a = p ∨ a = lo) H' zs (cs.map cellD) ∧ cs.map (·.1) = (N.take d).take i ∧ (∀ c ∈ cs, c.2 = 1 ∨ c.2 = 2) ∧ PotAt H' p (n + 6 + i) ∧ SameM (· = p) H8 H') ?_ ?_ ?_ ?_
      · intro S H' nS hS sS
        exact ⟨[], [], hS, .nil, by simp, by simp, hp8.keep sS, SameM.of sS⟩
      · rintro S i H' nS ⟨zs, cs, h1, h2, h3, h4, h5, h6⟩
        exact SqL.of (h6 _ _ hslp hsl)
      · rintro S i x H' nS hx ⟨zs, cs, h1, h2, h3, h4, h5, h6⟩
        have hSp : S ≠ p := hp8.ne nS
        rw [List.getElem?_map] at hx
        cases ey : (N.take d)[i]? with
        | none => rw [ey] at hx; cases hx
        | some y =>
        rw [ey] at hx
        cases hx
        have hi2 : i < (N.take d).length := (List.getElem?_eq_some_iff.mp ey).1
        rw [List.length_take] at hi2
        have lcs : cs.length ≤ i := by
          have := congrArg List.length h3
          rw [List.length_map, List.length_take] at this
          omega
        have hloS : lo ≠ S := fun z => by rw [z, nS] at hlo8; cases hlo8
        repeat walk_at "st"
        refine e_take h5 (by omega) (by decide) (by decide) fun e H9 he hp9 s9 => ?_
        have hlo9 := s9 _ _ hlop (h6 _ _ hlop hlo8)
        have dq9 := h2.pot (p := p) (.inl rfl) s9
        repeat walk_at "st"
        have trk : Trk (fun a => a = p ∨ a = lo) H9 := by
          rintro a (rfl | rfl) z
          · exact hp9.trk _ rfl z
          · rw [z] at hlo9; cases hlo9
        refine e_tupM (K := K) (ds := [.str y, .int (1 + e : Nat)]) trk (.cons (.str _) (.cons (by rw [show (1 : Int) + (e : Int) = ((1 + e : Nat) : Int) by omega]; exact .int _) .nil)) fun c H10 hc s10 => ?_
        have hS10 := s10 _ _ (s9 _ _ hSp h1)
        have hp10 := hp9.keep s10
        have lzs : zs.length = cs.length := by rw [h2.length, List.length_map]
        repeat walk_at "st"
        refine e_app hS10 (by omega) fun H11 h11 s11 => ?_
        refine ⟨_, cs ++ [(y, 1 + e)], h11, ?_, ?_, ?_, ?_, ?_⟩
        · rw [List.map_append]
          have kn := SameN.lst hS10 s11
          exact DqAll.append ((dq9.same s10).keepN kn (cells_noLD _)) (.cons (hc.keepN kn rfl) .nil)
        · rw [List.map_append, h3, List.take_add_one, ey]
          rfl
        · intro c hc
          rcases List.mem_append.mp hc with z | z
          · exact h4 c z
          · rw [List.mem_singleton.mp z]
            show 1 + e = 1 ∨ 1 + e = 2
            omega
        · exact (hp10.other s11 (Ne.symm hSp)).mono (by omega)
        · exact ((h6.trans s9).trans (SameM.of s10)).trans2 s11 nS
      · rintro S H' nS ⟨zs, cs, h1, h2, h3, h4, h5, h6⟩
        have hSp : S ≠ p := hp8.ne nS
        have hSlo : S ≠ lo := fun z => by rw [← z, nS] at hlo8; cases hlo8
        rw [List.length_map, List.take_length] at h3
        have hl2 : (N.take d).length ≤ 2 := by rw [List.length_take]; omega
        rw [List.length_map] at h5
        have h5 := h5.mono (m := n + 8) (by omega)
        have hlo9 := h6 _ _ hlop hlo8
        have hN9 := h6 _ _ (Ne.symm hpN) (s8 _ _ hN7)
        repeat walk_at "st"
        refine e_dput (k := .inr "cells") hlo9 (show 2 < 100000 by decide) fun H10 hlo10 s10 => ?_
        have hlo10 : H10 lo = some (.dK [(.inr "symbols", .str sy), (.inr "left", .int 0), (.inr "cells", .ref S)]) := hlo10
        have hp10 := h5.other s10 (Ne.symm hlop)
        have hS10 := s10 _ _ hSlo h1
        have hN10 := s10 _ _ hloN hN9
        have dq10 : DqAll K (fun a => a = p ∨ a = lo) H10 zs (cs.map cellD) := h2.mono (s10.sub fun a z => .inr z)
        repeat walk_at "st"
        refine e_take hp10 (by omega) (by decide) (by decide) fun e H11 he hp11 s11 => ?_
        have hN11 := s11 _ _ (Ne.symm hpN) hN10
        have hlo11 := s11 _ _ hlop hlo10
        repeat walk_at "st"
        refine e_slL (SqL.of hN11) fun pl H12 npl hpl s12 => ?_
        rw [show ((2 : Int) + (e : Int)) = ((2 + e : Nat) : Int) by omega] at hpl
        rw [show cutV (N.map V.str) (some 2) (some ((2 + e : Nat) : Int)) = ((N.drop 2).take e).map V.str by
          unfold cutV
          rw [HT.sIx_nat, show (some (2 : Int)) = some ((2 : Nat) : Int) from rfl, HT.sIx_nat, List.length_map, hl4, List.map_take, List.map_drop]
          congr 1
          omega] at hpl
        have hplp : pl ≠ p := hp11.ne npl
        have hplo : pl ≠ lo := fun z => by rw [← z, npl] at hlo11; cases hlo11
        have hlo12 := s12 _ _ hlo11
        repeat walk_at "st"
        refine e_dput (k := .inr "parts") hlo12 (show 3 < 100000 by decide) fun H13 hlo13 s13 => ?_
        have hlo13 : H13 lo = some (.dK [(.inr "symbols", .str sy), (.inr "left", .int 0), (.inr "cells", .ref S), (.inr "parts", .ref pl)]) := hlo13
        repeat walk_at "st"
        have sub : (N.take d ++ (N.drop 2).take e).Sublist N := by
          have a1 : (N.take d).Sublist (N.take 2) := by
            rw [show N.take d = (N.take 2).take d by rw [List.take_take]; congr 1; omega]
            exact List.take_sublist _ _
          have := a1.append (List.take_sublist e (N.drop 2))
          rwa [List.take_append_drop] at this
        have nd8 : (N ++ R).Nodup := pm.nodup_iff.mpr (by decide +kernel)
        refine q lo sy cs ((N.drop 2).take e) H13 ⟨hsy, h4, ?_, ?_, ?_, ?_⟩ ⟨S, pl, zs, hlo13, ?_, hSp, ?_, ?_, hplp⟩ nloH ?_ ?_
        · have := congrArg List.length h3
          rw [List.length_map] at this
          omega
        · rw [List.length_take, List.length_drop]; omega
        · rw [h3]
          exact ((List.nodup_append.mp nd8).1).sublist sub
        · intro x hx
          rw [h3] at hx
          exact pm.mem_iff.mp (List.mem_append_left _ (sub.subset hx))
        · exact s13 _ _ hSlo (s12 _ _ (s11 _ _ hSp hS10))
        · exact (((dq10.pot (p := p) (.inl rfl) s11).same s12)).mono (s13.sub fun a z => .inr z)
        · exact s13 _ _ hplo hpl
        · exact ((hp11.keep s12).other s13 (Ne.symm hlop)).mono (by omega)
        · exact ((((((sH6.trans s7).trans (SameM.of s8)).trans h6).trans2 s10 nloH).trans s11).trans (SameM.of s12)).trans2 s13 nloH
end
end K09

namespace K09
open PySem PySem.Spec PyProof.Rows L2 FG
local macro_rules | `(tactic| walk_at "sq") => `(tactic| first
  | assumption
  | exact SqL.of (by assumption)
  | exact SqT.of (by assumption)
  | exact SqLm.l (by assumption)
  | exact SqTm.t (by assumption))
local macro_rules | `(tactic| walk_at "cond") => `(tactic| first
  | assumption
  | (show (0 : Int) < _; omega)
  | (show (0 : Int) < _ ∧ _ < 1073741824; omega))
local macro_rules | `(tactic| walk_at "st") => `(tactic| first
  | with_reducible refine b_seq ?_
  | with_reducible refine b_asg ?_
  | with_reducible refine b_op ?_
  | ((with_reducible refine' b_var ?hv ?_); (case hv => exact rfl))
  | with_reducible refine b_c ?_
  | with_reducible refine b_name ?_
  | with_reducible refine b_I0 ?_
  | with_reducible refine b_cons ?_
  | with_reducible refine b_nil ?_
  | with_reducible refine b_cb ?_
  | with_reducible refine b_call ?_
  | with_reducible refine b_ret ?_
  | with_reducible refine b_ifS ?_
  | with_reducible refine b_test ?_
  | with_reducible refine b_tb ?_
  | with_reducible refine b_bl ?_
  | with_reducible refine b_blP ?_
  | with_reducible refine b_next ?_
  | with_reducible refine b_drop ?_
  | with_reducible refine b_dget ?_
  | with_reducible refine b_makeN ?_
  | with_reducible refine b_pairs ?_
  | with_reducible refine b_pairs0 ?_
  | with_reducible refine b_sub ?_
  | with_reducible refine b_chain ?_
  | with_reducible refine b_and ?_
  | with_reducible refine b_or ?_
  | with_reducible refine b_not ?_
  | with_reducible refine b_andV ?_
  | with_reducible refine b_orV ?_
  | with_reducible refine b_notV ?_
  | with_reducible refine b_if ?_
  | with_reducible refine b_par ?_
  | with_reducible refine b_parE ?_
  | ((with_reducible refine' b_aug ?hv ?_); (case hv => exact rfl))
  | with_reducible refine b_ip ?_
  | with_reducible refine b_retN ?_
  | with_reducible refine b_tup ?_
  | with_reducible refine b_lst ?_
  | with_reducible refine b_sl ?_
  | with_reducible refine b_part ?_
  | with_reducible refine b_partP ?_
  | with_reducible refine b_nopart ?_
  | with_reducible refine b_bm ?_
  | with_reducible refine b_m1 ?_
  | with_reducible refine b_m0 ?_
  | with_reducible refine b_yes ?_
  | with_reducible refine b_un ?_
  | with_reducible refine b_neg ?_
  | with_reducible refine b_isN ?_
  | with_reducible refine b_notN ?_
  | with_reducible refine b_inS ?_
  | with_reducible refine b_int ?_
  | with_reducible refine b_intB ?_
  | with_reducible refine b_abs ?_
  | with_reducible refine b_max ?_
  | with_reducible refine b_min ?_
  | ((with_reducible refine b_eq ?hv ?_); (case hv => exact rfl))
  | ((with_reducible refine b_ne ?hv ?_); (case hv => exact rfl))
  | ((with_reducible refine' b_lenL ?hv ?_); (case hv => walk_at "sq"))
  | ((with_reducible refine' b_lenT ?hv ?_); (case hv => walk_at "sq"))
  | ((with_reducible refine' b_ixL ?hv ?hw ?_); (case hv => walk_at "sq"); (case hw => first | exact rfl | exact at0 | exact at1 | exact at2))
  | ((with_reducible refine' b_ixT ?hv ?hw ?_); (case hv => walk_at "sq"); (case hw => first | exact rfl | exact at0 | exact at1 | exact at2))
  | ((with_reducible refine b_I ?hv ?_); (case hv => walk_at "cond"))
  | with_reducible refine b_lcS ?_
  | with_reducible refine b_lcR ?_
  | with_reducible refine b_lcT ?_
  | with_reducible refine b_lcL ?_
  | with_reducible refine b_forT ?_
  | with_reducible refine b_forL ?_
  | with_reducible refine b_forR ?_
  | with_reducible refine b_turn ?_
  | ((with_reducible refine And.intro (a := wipe _ _ = wipe _ _) ?hv ?_); (case hv => exact rfl))
  | ((with_reducible refine And.intro (a := tyV _ "list" _ _) ?hv ?_); (case hv => exact ty_list (by assumption)))
  | with_reducible refine And.intro (a := ∃ a, V.str _ = V.str a) ⟨_, rfl⟩ ?_
  | (with_reducible refine iteT ?_)
  | (with_reducible refine iteNF ?_)
  | (with_reducible refine iteNT ?_)
  | (with_reducible refine iteVT ?_)
  | (with_reducible refine iteNVT ?_)
  | ((with_reducible refine iteVF ?hv ?_); (case hv => exact rfl))
  | ((with_reducible refine iteNVF ?hv ?_); (case hv => exact rfl))
  | with_reducible refine b_callS ?_
  | with_reducible refine b_xq ?_
  | with_reducible refine b_fld ?_
  | with_reducible refine b_sfld ?_
  | with_reducible refine b_meth ?_
  | with_reducible refine b_make ?_
  | with_reducible refine b_callK ?_
  | with_reducible refine b_sfa ?_
  | with_reducible refine b_lcEnT ?_
  | with_reducible refine b_lcEnL ?_
  | with_reducible refine b_forEnT ?_
  | with_reducible refine b_forEnL ?_
  | with_reducible refine b_lcZ ?_
  | with_reducible refine b_lcZX ?_
  | with_reducible refine b_prop ?_
  | with_reducible refine b_dput ?_
  | with_reducible refine b_din ?_
  | with_reducible refine b_inB ?_
  | with_reducible refine e_revT ?_
  | ((with_reducible refine' e_fld ?hv ?hc ?hn ?hl ?_); (case hv => assumption); (case hc => assumption); (case hn => assumption); (case hl => exact rfl))
  | ((with_reducible refine' e_meth ?hv ?hl ?_); (case hv => assumption); (case hl => exact rfl))
  | (with_reducible refine iteF ?_))

section
variable {P : Program} {w : World} {K : PySem.W.Frag} {mg : Str → Option Value} {base : Heap} {D : Ad}
theorem LoreAt.mono {p lo : Addr} {sy : Str} {left : Nat} {cells : List (Str × Nat)} {parts : List Str} {H H' : Hp} (h : LoreAt K p lo sy left cells parts H) (hlp : lo ≠ p) (s : SameM (· = p) H H') : LoreAt K p lo sy left cells parts H' := by
  obtain ⟨cl, pl, cs, h1, h2, h3, h4, h5, h6⟩ := h.ex
  exact ⟨cl, pl, cs, s _ _ hlp h1, s _ _ h3 h2, h3, h4.pot (p := p) (.inl rfl) s, s _ _ h6 h5, h6⟩
theorem cells_shaped {cells : List (Str × Nat)} (h : ∀ c ∈ cells, PyData.canLay0 (.str c.1) = true) : SeqAt.shaped (.list (cells.map cellD)) = true := by
  refine shaped_of ?_ ?_
  · show PyData.canLayAll0 _ = true
    refine canLayAll_of fun d hd => ?_
    obtain ⟨x, hx, rfl⟩ := List.mem_map.mp hd
    show PyData.canLayAll0 [PyData.str x.1, .int _] = true
    refine canLayAll_of fun d hd => ?_
    rcases List.mem_cons.mp hd with rfl | hd
    · exact h x hx
    · rw [List.mem_singleton.mp hd]; rfl
  · have : PyData.depthAll (cells.map cellD) ≤ 1 := depthAll_of fun d hd => by
      obtain ⟨x, hx, rfl⟩ := List.mem_map.mp hd
      exact Nat.le_refl 1
    show PyData.depthAll (cells.map cellD) + 1 ≤ 64
    omega
theorem LoreOk.cells_ok {sy : Str} {cells : List (Str × Nat)} {parts : List Str} (h : LoreOk sy cells parts) {c : Str × Nat} (hc : c ∈ cells) : PR.NameOk c.1 ∧ PR.goodW c.1 = true := by
  obtain ⟨a, b, d⟩ := PR.eight_ok c.1 (h.nm _ (List.mem_append_left _ (List.mem_map.mpr ⟨c, hc, rfl⟩)))
  exact ⟨⟨a, b⟩, d⟩
theorem LoreOk.ndc {sy : Str} {cells : List (Str × Nat)} {parts : List Str} (h : LoreOk sy cells parts) : (cells.map (·.1)).Nodup := (List.nodup_append.mp h.nd).1
theorem good_val : ∀ v : Nat, PR.goodW (PR.valT v) = true := fun v => by
  unfold PR.valT
  split
  · decide +kernel
  · split <;> decide +kernel
def sp_asked (K : PySem.W.Frag) : Sp := fun vs H Q _ => ∃ (p lo : Addr) (n left : Nat) (sy : Str) (cells : List (Str × Nat)) (parts : List Str), vs = [.ref p, .ref lo] ∧ PotAt H p n ∧ n ≤ 100000000 ∧ lo ≠ p ∧ LoreOk sy cells parts ∧ LoreAt K p lo sy left cells parts H ∧
  ∀ (ws : List Str) (H' : Hp), (∀ kn, PR.AskOk ⟨sy, cells, kn⟩ ws) → (∀ x ∈ ws, PR.goodW x = true) → ws.length ≤ 4 → PotAt H' p (n + 12) → SameM (· = p) H H' → Q (.str (PR.wordsText ws)) H'
theorem ok__law_wide_asked (T : Txt K mg D) {k : Nat} : FnOk P w K mg base CX0 (k + 3) D.f__law_wide_asked D.d__law_wide_asked P__law_wide_asked (sp_asked K) := by
  have G__law_take : FnOk P w K mg base CX0 (k + 2) D.f__law_take D.d__law_take P__law_take spTake := ok__law_take T
  have G__law_of : FnOk P w K mg base CX0 (k + 2) D.f__law_of D.d__law_of P__law_of (spOf K) := ok__law_of T
  refine T.f__law_wide_asked.ok sc__law_wide_asked (fun vs H Q E h => ?_) (fun cdv A outer s H vs Q E hr h => ?_)
  · obtain ⟨p, lo, n, left, sy, cells, parts, rfl, _⟩ := h
    rfl
  · obtain ⟨p, lo, n, left, sy, cells, parts, rfl, hp, hn, hlp, ok, hL, q⟩ := h
    obtain ⟨sy1, sy2, sy3⟩ := PR.six_sym sy ok.sy
    obtain ⟨cl, pl, cs, hlo, hcl, hclp, hcd, hpl, hplp⟩ := hL.ex
    refine ⟨_, (pss_cons (ps_set (i := 2) sc__law_wide_asked.nd rfl (by first | exact .inl rfl | exact .inr rfl) (pe_callTy (call_list_str rfl) (by rfl) T.z_list (by decide +kernel) (pa_cons (pe_op o_addS (pe_op o_addS pe_str (pe_dget (unit1 hr) (pv 1) pe_str (fun _ _ => rfl))) pe_str) pa_nil)))
      (pss_cons (ps_setLc (i := 3) (own := [("_law_sign", 7)]) (g := gName 7)  (by rfl) sc__law_wide_asked.nd rfl rfl (sw_true rfl rfl rfl (by decide +kernel)) (pi_listK (K := K) (by rfl) (pv 2)) (blkOk_by (own := [("_law_sign", 7)]) (N := N__law_wide_asked) (sc := defScope s__law_wide_asked) (by decide +kernel)) (fun _ _ _ _ _ => (pg_name (i := 7) sc__law_wide_asked.nd rfl (by first | exact .inl rfl | exact .inr rfl))) (fun _ _ _ _ _ => (pts_one (pt_cmpR op_eq (pe_call G__law_take hr (by rfl) T.g__law_take T.f__law_take.kp T.b__law_take .nil pass0 (pa_cons (pv 0) (pa_cons pe_int pa_nil))) pe_int (nomark _)))) (fun _ _ _ _ _ => (pv 7)))
      (pss_cons (ps_w (ps_set (i := 4) sc__law_wide_asked.nd rfl (by first | exact .inl rfl | exact .inr rfl) (pe_op o_addS pe_str (p_join pe_str (pe_ifExp (pt_cmpR (opK (K := K) (r := rNeQ) (by rfl) (op_neQ hr.units)) (pv 3) (pe_lst pa_nil) (nomark _)) (pv 3) (pe_lst (pa_cons (pe_call G__law_of hr (by rfl) T.g__law_of T.f__law_of.kp T.b__law_of .nil pass0 (pa_cons (pv 0) (pa_cons (pv 2) pa_nil))) pa_nil)))))))
      (pss_cons (ps_w (ps_if (PW.pt (pw_and (pt_cmpR (opK (K := K) (r := rNeQ) (by rfl) (op_neQ hr.units)) (pe_dget (unit1 hr) (pv 1) pe_str (fun _ _ => rfl)) (pe_lst pa_nil) (nomark _)) (pw_and1 (pt_cmpR op_eq (pe_call G__law_take hr (by rfl) T.g__law_take T.f__law_take.kp T.b__law_take .nil pass0 (pa_cons (pv 0) (pa_cons pe_int pa_nil))) pe_int (nomark _))))) (pss_cons (ps_asg (pe_call G__law_of hr (by rfl) T.g__law_of T.f__law_of.kp T.b__law_of .nil pass0 (pa_cons (pv 0) (pa_cons (pe_dget (unit1 hr) (pv 1) pe_str (fun _ _ => rfl)) pa_nil))) (pg_tup (by rfl) (pgs_cons (pg_name (i := 5) sc__law_wide_asked.nd rfl (by first | exact .inl rfl | exact .inr rfl)) (pgs_cons (pg_name (i := 6) sc__law_wide_asked.nd rfl (by first | exact .inl rfl | exact .inr rfl)) pgs_nil))))
      (pss_one (ps_set (i := 4) sc__law_wide_asked.nd rfl (by first | exact .inl rfl | exact .inr rfl) (pe_op o_addS (pe_op o_addS (pv 5) pe_str) (pe_callTy q_strI (by rfl) T.z_str (by decide +kernel) (pa_cons (pe_call G__law_take hr (by rfl) T.g__law_take T.f__law_take.kp T.b__law_take .nil pass0 (pa_cons (pv 0) (pa_cons (pe_op op_add (pv 6) pe_int) pa_nil))) pa_nil)))))) pss_nil))
      (pss_one (ps_ret (pe_op o_addS (pe_ifExp (pt_cmpR op_eq (pe_call G__law_take hr (by rfl) T.g__law_take T.f__law_take.kp T.b__law_take .nil pass0 (pa_cons (pv 0) (pa_cons pe_int pa_nil))) pe_int (nomark _)) pe_str pe_str) (pv 4)))))))), ?_⟩
    repeat walk_at "st"
    refine e_dgetS hlo rfl ?_
    repeat walk_at "st"
    refine b_addS (by show 1 + sy.length ≤ _; exact Nat.le_trans (by omega : 1 + sy.length ≤ 5) (by decide)) ?_
    repeat walk_at "st"
    refine b_addS (by rw [Str.length_append]; show 1 + sy.length + 1 ≤ _; exact Nat.le_trans (by omega : 1 + sy.length + 1 ≤ 6) (by decide)) ?_
    repeat walk_at "st"
    refine e_listS (by rw [Str.length_append, Str.length_append]; show 1 + sy.length + 1 ≤ _; omega) fun sg H1 nsg hsg s1 => ?_
    have hsgp : sg ≠ p := hp.ne nsg
    have lsg : (PR.signsOf sy).length ≤ 6 := by
      unfold PR.signsOf
      rw [Array.length_toList]
      show (Str.ofString "<" ++ sy ++ Str.ofString ">").length ≤ 6
      rw [Str.length_append, Str.length_append]
      show 1 + sy.length + 1 ≤ 6
      omega
    have hsg : H1 sg = some (.lst ((PR.signsOf sy).map fun c => V.str ⟨#[c]⟩)) := hsg
    have hp1 := hp.keep s1
    repeat walk_at "st"
    refine e_lcL (SqL.of hsg) (fun S i H' => ∃ l : List Nat, H' S = some (.lst (l.map fun c => V.str ⟨#[c]⟩)) ∧ l.Sublist ((PR.signsOf sy).take i) ∧ PotAt H' p (n + i) ∧ SameM (· = p) H1 H') ?_ ?_ ?_ ?_
    · intro S H' nS hS sS
      exact ⟨[], hS, List.nil_sublist _, hp1.keep sS, SameM.of sS⟩
    · rintro S i H' nS ⟨l, h1, h2, h3, h4⟩
      exact SqL.of (h4 _ _ hsgp hsg)
    · rintro S i x H' nS hx ⟨l, h1, h2, h3, h4⟩
      have hSp : S ≠ p := hp1.ne nS
      rw [List.getElem?_map] at hx
      cases ey : (PR.signsOf sy)[i]? with
      | none => rw [ey] at hx; cases hx
      | some y =>
      rw [ey] at hx
      cases hx
      have hi6 : i < (PR.signsOf sy).length := (List.getElem?_eq_some_iff.mp ey).1
      have ll : l.length ≤ 6 := by
        have := h2.length_le
        rw [List.length_take] at this
        omega
      repeat walk_at "st"
      refine e_take h3 (by omega) (by decide) (by decide) fun e H9 he hp9 s9 => ?_
      repeat walk_at "st"
      have h1' := s9 _ _ hSp h1
      refine ite2 (fun hh => ?_) (fun hh => ?_)
      · repeat walk_at "st"
        refine e_app h1' (by rw [List.length_map]; omega) fun H10 h10 s10 => ?_
        refine ⟨l ++ [y], by rw [List.map_append]; exact h10, ?_, (hp9.other s10 (Ne.symm hSp)).mono (by omega), (h4.trans s9).trans2 s10 nS⟩
        rw [List.take_add_one, ey]
        exact h2.append (List.Sublist.refl _)
      · refine ⟨l, h1', ?_, hp9.mono (by omega), h4.trans s9⟩
        exact h2.trans ((List.take_sublist_take_left (Nat.le_succ i)))
    · rintro S H2 nS ⟨l, h1, h2, h3, h4⟩
      have hSp : S ≠ p := hp1.ne nS
      rw [List.length_map] at h2 h3
      rw [List.take_length] at h2
      have h3 := h3.mono (m := n + 6) (by omega)
      have hsg2 := h4 _ _ hsgp hsg
      have sH2 : SameM (· = p) H H2 := (SameM.of s1).trans h4
      have ll : l.length ≤ 6 := Nat.le_trans h2.length_le lsg
      repeat walk_at "st"
      refine b_ws (fun σ' H' => ∃ (m : List Nat) (x5 x6 x7 : Option V), σ' = [some (.ref p), some (.ref lo), some (.ref sg), some (.ref S), some (.str (PR.wordsText [Str.ofString "at", ⟨m.toArray⟩])), x5, x6, x7] ∧ m ≠ [] ∧ m.Sublist (PR.signsOf sy) ∧ PotAt H' p (n + 7) ∧ SameM (· = p) H H') ?_ ?_
      · repeat walk_at "st"
        refine e_lst fun e0 H3 ne0 he0 s3 => ?_
        rw [PR.chrs_map] at h1
        have h1' := s3 _ _ h1
        repeat walk_at "st"
        refine e_neNil h1' (strs_dq _) (strs_shaped (PR.chrs_lay ok.sy h2)) he0 ?_
        repeat walk_at "st"
        refine ite2 (fun hh => ?_) (fun hh => ?_)
        · have ne : l ≠ [] := fun z => by
            rw [z] at hh
            exact absurd hh (by decide)
          repeat walk_at "st"
          refine e_joinL (SqL.of h1') (by rw [PR.chrs_len]; show l.length + _ * 0 ≤ _; omega) ?_
          rw [PR.join_chars]
          repeat walk_at "st"
          have gl := PR.sign_good ok.sy h2 ne
          refine b_addS (Nat.le_trans (Nat.add_le_add_left (PR.goodW_ok gl.2).2 _) (by decide)) ?_
          repeat walk_at "st"
          exact ⟨l, _, _, _, by rw [← PR.w_at]; rfl, ne, h2, (h3.keep s3).mono (by omega), sH2.trans (SameM.of s3)⟩
        · repeat walk_at "st"
          have hp3 := h3.keep s3
          refine ⟨p, n + 6, hp3, by omega, .inl ⟨sg, _, rfl, hsgp, SqL.of (s3 _ _ hsg2), ?_, by rw [List.length_map]; omega, fun v H4 hv hp4 s4 => ?_⟩⟩
          · intro z
            have := List.map_eq_nil_iff.mp z
            exact absurd this (by unfold PR.signsOf; rw [PR.toL_append, PR.toL_append]; exact fun z => absurd (List.append_eq_nil_iff.mp z).2 (by decide +kernel))
          obtain ⟨c, hc, rfl⟩ := List.mem_map.mp hv
          have hcs : [c].Sublist (PR.signsOf sy) := List.singleton_sublist.mpr hc
          repeat walk_at "st"
          refine e_lst fun e1 H5 ne1 he1 s5 => ?_
          have he1 : H5 e1 = some (.lst ((PR.chrs [c]).map V.str)) := he1
          repeat walk_at "st"
          refine e_joinL (SqL.of he1) (by rw [PR.chrs_len]; exact (by decide : 1 + 1 * 0 ≤ 16777216)) ?_
          rw [PR.join_chars]
          repeat walk_at "st"
          have gl := PR.sign_good ok.sy hcs (by simp)
          refine b_addS (Nat.le_trans (Nat.add_le_add_left (PR.goodW_ok gl.2).2 _) (by decide)) ?_
          repeat walk_at "st"
          exact ⟨[c], _, _, _, by rw [← PR.w_at]; rfl, by simp, hcs, (hp4.keep s5).mono (by omega), ((sH2.trans (SameM.of s3)).trans s4).trans (SameM.of s5)⟩
      · rintro σ' H3 ⟨m, x5, x6, x7, rfl, mne, msub, hp3, s3⟩
        obtain ⟨g1, g2⟩ := PR.sign_good ok.sy msub mne
        have hlo3 := s3 _ _ hlp hlo
        have hcl3 := s3 _ _ hclp hcl
        have hcd3 : DqAll K (fun a => a = p ∨ a = lo) H3 cs (cells.map cellD) := hcd.pot (p := p) (.inl rfl) s3
        have goodAt : ∀ x ∈ [Str.ofString "at", (⟨m.toArray⟩ : Str)], PR.goodW x = true := fun x hx => by
          rcases List.mem_cons.mp hx with rfl | hx
          · decide +kernel
          · rw [List.mem_singleton.mp hx]; exact g2
        have askAt : ∀ kn, PR.AskOk ⟨sy, cells, kn⟩ [Str.ofString "at", (⟨m.toArray⟩ : Str)] := fun kn => PR.AskOk.at_ (G := ⟨sy, cells, kn⟩) g1
        have askNot : ∀ kn, PR.AskOk ⟨sy, cells, kn⟩ (Str.ofString "not" :: [Str.ofString "at", (⟨m.toArray⟩ : Str)]) := fun kn => PR.AskOk.notAt (G := ⟨sy, cells, kn⟩) g1
        repeat walk_at "st"
        refine b_ws (fun σ' H' => ∃ (a : Str) (r : List Str) (x5 x6 x7 : Option V), σ' = [some (.ref p), some (.ref lo), some (.ref sg), some (.ref S), some (.str (PR.wordsText (a :: r))), x5, x6, x7] ∧ (∀ kn, PR.AskOk ⟨sy, cells, kn⟩ (a :: r)) ∧ (∀ kn, PR.AskOk ⟨sy, cells, kn⟩ (Str.ofString "not" :: a :: r)) ∧ (∀ x ∈ a :: r, PR.goodW x = true) ∧ r.length ≤ 2 ∧ (PR.wordsText (a :: r)).length ≤ 1000 ∧ PotAt H' p (n + 11) ∧ SameM (· = p) H H') ?_ ?_
        · repeat walk_at "st"
          refine e_dgetS hlo3 rfl ?_
          repeat walk_at "st"
          refine e_lst fun e0 H4 ne0 he0 s4 => ?_
          repeat walk_at "st"
          have hcl4 := s4 _ _ hcl3
          have hcd4 := hcd3.same s4
          refine e_neNil hcl4 (hcd4.avoid fun _ z => z.elim) (cells_shaped fun c hc => PR.goodW_lay (ok.cells_ok hc).2) he0 ?_
          have hp4 := hp3.keep s4
          have dflt : ∀ H', PotAt H' p (n + 11) → SameM (· = p) H H' → ∃ (a : Str) (r : List Str) (y5 y6 y7 : Option V), [some (V.ref p), some (.ref lo), some (.ref sg), some (.ref S), some (.str (PR.wordsText [Str.ofString "at", ⟨m.toArray⟩])), x5, x6, x7] = [some (.ref p), some (.ref lo), some (.ref sg), some (.ref S), some (.str (PR.wordsText (a :: r))), y5, y6, y7] ∧ (∀ kn, PR.AskOk ⟨sy, cells, kn⟩ (a :: r)) ∧ (∀ kn, PR.AskOk ⟨sy, cells, kn⟩ (Str.ofString "not" :: a :: r)) ∧ (∀ x ∈ a :: r, PR.goodW x = true) ∧ r.length ≤ 2 ∧ (PR.wordsText (a :: r)).length ≤ 1000 ∧ PotAt H' p (n + 11) ∧ SameM (· = p) H H' :=
            fun H' a b => ⟨_, _, _, _, _, rfl, askAt, askNot, goodAt, (by decide : 1 ≤ 2), by
              rw [← PR.w_at, Str.length_append]
              have := (PR.goodW_ok g2).2
              show 3 + _ ≤ 1000
              omega, a, b⟩
          repeat walk_at "st"
          refine ite2 (fun hh => ?_) (fun hh => ?_)
          · have cne : cs ≠ [] := fun z => by
              rw [z] at hh
              exact absurd hh (by decide)
            have lcs : cs.length ≤ 2 := by rw [hcd.length, List.length_map]; exact ok.cl
            repeat walk_at "st"
            refine e_take hp4 (by omega) (by decide) (by decide) fun e H5 he hp5 s5 => ?_
            repeat walk_at "st"
            refine ite2 (fun hh => ?_) (fun hh => ?_)
            · repeat walk_at "st"
              have hlo5 := s5 _ _ hlp (s4 _ _ hlo3)
              refine e_dgetS hlo5 rfl ?_
              repeat walk_at "st"
              have hcl5 := s5 _ _ hclp hcl4
              have hcd5 : DqAll K (· = p) H5 cs (cells.map cellD) := DqAll.avoid (M := fun a => a = p ∨ a = lo) (fun a z => .inl (.inl z)) (hcd4.pot (p := p) (.inl rfl) s5)
              refine e_of hp5 (by omega) hclp hcl5 hcd5 cne (by omega) fun v d H6 hd hv hp6 s6 => ?_
              obtain ⟨c, hc, rfl⟩ := List.mem_map.mp hd
              obtain ⟨ta, xs, rfl, ht, hta⟩ := hv.tupE
              obtain ⟨x, y, rfl, hx, hy⟩ := hta.two
              cases hx
              cases hy
              have cm := ok.most c hc
              obtain ⟨cn, cg⟩ := ok.cells_ok hc
              repeat walk_at "st"
              refine e_gtup2 (ht.t) ?_
              repeat walk_at "st"
              have l1 := (PR.goodW_ok cg).2
              refine b_addS (Nat.le_trans (Nat.add_le_add_right l1 _) (by decide)) ?_
              repeat walk_at "st"
              refine e_take hp6 (by omega) (by omega) (by omega) fun f H7 hf hp7 s7 => ?_
              have hf2 : f ≤ c.2 := by omega
              repeat walk_at "st"
              refine b_strI (by omega) ?_
              rw [PR.valT_str f (by omega)]
              repeat walk_at "st"
              have l2 := (PR.goodW_ok (good_val f)).2
              have l3 : (c.1 ++ Str.ofString " = ").length ≤ 103 := by rw [Str.length_append]; exact Nat.add_le_add_right l1 _
              refine b_addS (Nat.le_trans (Nat.add_le_add l3 l2) (by decide)) ?_
              repeat walk_at "st"
              refine ⟨c.1, [Str.ofString "=", PR.valT f], _, _, _, by rw [← PR.w_eq]; rfl, fun kn => PR.AskOk.cell (G := ⟨sy, cells, kn⟩) ok.ndc hc cn cm hf2, fun kn => PR.AskOk.notCell (G := ⟨sy, cells, kn⟩) ok.ndc hc cm hf2, ?_, (by decide : 2 ≤ 2), ?_, hp7.mono (by omega), (((s3.trans (SameM.of s4)).trans s5).trans s6).trans s7⟩
              · intro x hx
                rcases List.mem_cons.mp hx with rfl | hx
                · exact cg
                · rcases List.mem_cons.mp hx with rfl | hx
                  · decide +kernel
                  · rw [List.mem_singleton.mp hx]; exact good_val f
              · rw [← PR.w_eq, Str.length_append]
                omega
            · repeat walk_at "st"
              exact dflt H5 (hp5.mono (by omega)) ((s3.trans (SameM.of s4)).trans s5)
          · repeat walk_at "st"
            exact dflt H4 (hp4.mono (by omega)) (s3.trans (SameM.of s4))
        · rintro σ' H4 ⟨a, r, x5, x6, x7, rfl, k1, k2, k3, k4, k5, hp4, s4⟩
          repeat walk_at "st"
          refine e_take hp4 (by omega) (by decide) (by decide) fun e H5 he hp5 s5 => ?_
          repeat walk_at "st"
          refine ite2 (fun hh => ?_) (fun hh => ?_)
          · repeat walk_at "st"
            refine b_addS (Nat.le_trans (Nat.add_le_add_left k5 _) (by decide)) ?_
            rw [PR.w_not]
            refine q _ H5 k2 (fun x hx => ?_) (by rw [List.length_cons, List.length_cons]; omega) hp5 (s4.trans s5)
            rcases List.mem_cons.mp hx with rfl | hx
            · decide +kernel
            · exact k3 x hx
          · repeat walk_at "st"
            refine b_addS (Nat.le_trans (Nat.add_le_add_left k5 _) (by decide)) ?_
            rw [show Str.ofString "" = Str.empty from rfl, Str.empty_append]
            exact q _ H5 k1 k3 (by rw [List.length_cons]; omega) hp5 (s4.trans s5)
end
end K09

namespace K09
open PySem PySem.Spec PyProof.Rows L2 FG
local macro_rules | `(tactic| walk_at "sq") => `(tactic| first
  | assumption
  | exact SqL.of (by assumption)
  | exact SqT.of (by assumption)
  | exact SqLm.l (by assumption)
  | exact SqTm.t (by assumption))
local macro_rules | `(tactic| walk_at "cond") => `(tactic| first
  | assumption
  | (show (0 : Int) < _; omega)
  | (show (0 : Int) < _ ∧ _ < 1073741824; omega))
local macro_rules | `(tactic| walk_at "st") => `(tactic| first
  | with_reducible refine b_seq ?_
  | with_reducible refine b_asg ?_
  | with_reducible refine b_op ?_
  | ((with_reducible refine' b_var ?hv ?_); (case hv => exact rfl))
  | with_reducible refine b_c ?_
  | with_reducible refine b_name ?_
  | with_reducible refine b_I0 ?_
  | with_reducible refine b_cons ?_
  | with_reducible refine b_nil ?_
  | with_reducible refine b_cb ?_
  | with_reducible refine b_call ?_
  | with_reducible refine b_ret ?_
  | with_reducible refine b_ifS ?_
  | with_reducible refine b_test ?_
  | with_reducible refine b_tb ?_
  | with_reducible refine b_bl ?_
  | with_reducible refine b_blP ?_
  | with_reducible refine b_next ?_
  | with_reducible refine b_drop ?_
  | with_reducible refine b_dget ?_
  | with_reducible refine b_makeN ?_
  | with_reducible refine b_pairs ?_
  | with_reducible refine b_pairs0 ?_
  | with_reducible refine b_sub ?_
  | with_reducible refine b_chain ?_
  | with_reducible refine b_and ?_
  | with_reducible refine b_or ?_
  | with_reducible refine b_not ?_
  | with_reducible refine b_andV ?_
  | with_reducible refine b_orV ?_
  | with_reducible refine b_notV ?_
  | with_reducible refine b_if ?_
  | with_reducible refine b_par ?_
  | with_reducible refine b_parE ?_
  | ((with_reducible refine' b_aug ?hv ?_); (case hv => exact rfl))
  | with_reducible refine b_ip ?_
  | with_reducible refine b_retN ?_
  | with_reducible refine b_tup ?_
  | with_reducible refine b_lst ?_
  | with_reducible refine b_sl ?_
  | with_reducible refine b_part ?_
  | with_reducible refine b_partP ?_
  | with_reducible refine b_nopart ?_
  | with_reducible refine b_bm ?_
  | with_reducible refine b_m1 ?_
  | with_reducible refine b_m0 ?_
  | with_reducible refine b_yes ?_
  | with_reducible refine b_un ?_
  | with_reducible refine b_neg ?_
  | with_reducible refine b_isN ?_
  | with_reducible refine b_notN ?_
  | with_reducible refine b_inS ?_
  | with_reducible refine b_int ?_
  | with_reducible refine b_intB ?_
  | with_reducible refine b_abs ?_
  | with_reducible refine b_max ?_
  | with_reducible refine b_min ?_
  | ((with_reducible refine b_eq ?hv ?_); (case hv => exact rfl))
  | ((with_reducible refine b_ne ?hv ?_); (case hv => exact rfl))
  | ((with_reducible refine' b_lenL ?hv ?_); (case hv => walk_at "sq"))
  | ((with_reducible refine' b_lenT ?hv ?_); (case hv => walk_at "sq"))
  | ((with_reducible refine' b_ixL ?hv ?hw ?_); (case hv => walk_at "sq"); (case hw => first | exact rfl | exact at0 | exact at1 | exact at2))
  | ((with_reducible refine' b_ixT ?hv ?hw ?_); (case hv => walk_at "sq"); (case hw => first | exact rfl | exact at0 | exact at1 | exact at2))
  | ((with_reducible refine b_I ?hv ?_); (case hv => walk_at "cond"))
  | with_reducible refine b_lcS ?_
  | with_reducible refine b_lcR ?_
  | with_reducible refine b_lcT ?_
  | with_reducible refine b_lcL ?_
  | with_reducible refine b_forT ?_
  | with_reducible refine b_forL ?_
  | with_reducible refine b_forR ?_
  | with_reducible refine b_turn ?_
  | ((with_reducible refine And.intro (a := wipe _ _ = wipe _ _) ?hv ?_); (case hv => exact rfl))
  | ((with_reducible refine And.intro (a := tyV _ "list" _ _) ?hv ?_); (case hv => exact ty_list (by assumption)))
  | with_reducible refine And.intro (a := ∃ a, V.str _ = V.str a) ⟨_, rfl⟩ ?_
  | (with_reducible refine iteT ?_)
  | (with_reducible refine iteNF ?_)
  | (with_reducible refine iteNT ?_)
  | (with_reducible refine iteVT ?_)
  | (with_reducible refine iteNVT ?_)
  | ((with_reducible refine iteVF ?hv ?_); (case hv => exact rfl))
  | ((with_reducible refine iteNVF ?hv ?_); (case hv => exact rfl))
  | with_reducible refine b_callS ?_
  | with_reducible refine b_xq ?_
  | with_reducible refine b_fld ?_
  | with_reducible refine b_sfld ?_
  | with_reducible refine b_meth ?_
  | with_reducible refine b_make ?_
  | with_reducible refine b_callK ?_
  | with_reducible refine b_sfa ?_
  | with_reducible refine b_lcEnT ?_
  | with_reducible refine b_lcEnL ?_
  | with_reducible refine b_forEnT ?_
  | with_reducible refine b_forEnL ?_
  | with_reducible refine b_lcZ ?_
  | with_reducible refine b_lcZX ?_
  | with_reducible refine b_prop ?_
  | with_reducible refine b_dput ?_
  | with_reducible refine b_din ?_
  | with_reducible refine b_inB ?_
  | with_reducible refine e_revT ?_
  | ((with_reducible refine' e_fld ?hv ?hc ?hn ?hl ?_); (case hv => assumption); (case hc => assumption); (case hn => assumption); (case hl => exact rfl))
  | ((with_reducible refine' e_meth ?hv ?hl ?_); (case hv => assumption); (case hl => exact rfl))
  | (with_reducible refine iteF ?_))

section
variable {P : Program} {w : World} {K : PySem.W.Frag} {mg : Str → Option Value} {base : Heap} {D : Ad}
theorem first_ok : ∀ sy ∈ PR.sixSy, PR.letterW ⟨#[sy.cps.toList.headD 0]⟩ = true ∧ PR.goodW ⟨#[sy.cps.toList.headD 0]⟩ = true ∧ sy.cps.toList ≠ [] := by decide +kernel
theorem first_at {sy : Str} (h : sy ∈ PR.sixSy) : ∃ c, atI sy.cps.toList 0 = some c ∧ PR.letterW ⟨#[c]⟩ = true ∧ PR.goodW ⟨#[c]⟩ = true := by
  obtain ⟨h1, h2, h3⟩ := first_ok sy h
  cases e : sy.cps.toList with
  | nil => exact absurd e h3
  | cons a l =>
    rw [e] at h1 h2
    exact ⟨a, at0, h1, h2⟩
def sp_wplain (K : PySem.W.Frag) : Sp := fun vs H Q _ => ∃ (p lo ka : Addr) (n left : Nat) (sy : Str) (cells : List (Str × Nat)) (parts kn : List Str), vs = [.ref p, .ref lo, .ref ka] ∧ PotAt H p n ∧ n ≤ 100000000 ∧ lo ≠ p ∧ LoreOk sy cells parts ∧ LoreAt K p lo sy left cells parts H ∧
  H ka = some (.lst (kn.map V.str)) ∧ ka ≠ p ∧ kn.length ≤ 2 ∧ (∀ x ∈ kn, PR.goodW x = true) ∧
  ∀ (ws : List Str) (H' : Hp), PR.PlainOk ⟨sy, cells, kn⟩ ws → (∀ x ∈ ws, PR.goodW x = true) → ws.length ≤ 3 → PotAt H' p (n + 4) → SameM (· = p) H H' → Q (.str (PR.wordsText ws)) H'
theorem two_good {a b : Str} (h1 : PR.goodW a = true) (h2 : PR.goodW b = true) : ∀ x ∈ [a, b], PR.goodW x = true := fun x hx => by
  rcases List.mem_cons.mp hx with rfl | hx
  · exact h1
  · rw [List.mem_singleton.mp hx]; exact h2
theorem three_good {a b c : Str} (h1 : PR.goodW a = true) (h2 : PR.goodW b = true) (h3 : PR.goodW c = true) : ∀ x ∈ [a, b, c], PR.goodW x = true := fun x hx => by
  rcases List.mem_cons.mp hx with rfl | hx
  · exact h1
  · exact two_good h2 h3 x hx
theorem ok__law_wide_plain (T : Txt K mg D) {k : Nat} : FnOk P w K mg base CX0 (k + 3) D.f__law_wide_plain D.d__law_wide_plain P__law_wide_plain (sp_wplain K) := by
  have G__law_take : FnOk P w K mg base CX0 (k + 2) D.f__law_take D.d__law_take P__law_take spTake := ok__law_take T
  have G__law_of : FnOk P w K mg base CX0 (k + 2) D.f__law_of D.d__law_of P__law_of (spOf K) := ok__law_of T
  refine T.f__law_wide_plain.ok sc__law_wide_plain (fun vs H Q E h => ?_) (fun cdv A outer s H vs Q E hr h => ?_)
  · obtain ⟨p, lo, ka, n, left, sy, cells, parts, kn, rfl, _⟩ := h
    rfl
  · obtain ⟨p, lo, ka, n, left, sy, cells, parts, kn, rfl, hp, hn, hlp, ok, hL, hka, hkap, hkl, hkg, q⟩ := h
    obtain ⟨sy1, sy2, sy3⟩ := PR.six_sym sy ok.sy
    obtain ⟨cl, pl, cs, hlo, hcl, hclp, hcd, hpl, hplp⟩ := hL.ex
    refine ⟨_, (pss_cons (ps_set (i := 3) sc__law_wide_plain.nd rfl (by first | exact .inl rfl | exact .inr rfl) (pe_call G__law_take hr (by rfl) T.g__law_take T.f__law_take.kp T.b__law_take .nil pass0 (pa_cons (pv 0) (pa_cons pe_int pa_nil))))
      (pss_cons (ps_w (ps_if (PW.pt (pw_and (pt_cmpR op_eq (pv 3) pe_int (nomark _)) (pw_and1 (pt_cmpR (opK (K := K) (r := rNeQ) (by rfl) (op_neQ hr.units)) (pv 2) (pe_lst pa_nil) (nomark _))))) (pss_one (ps_ret (pe_op o_addS pe_str (pe_call G__law_of hr (by rfl) T.g__law_of T.f__law_of.kp T.b__law_of .nil pass0 (pa_cons (pv 0) (pa_cons (pv 2) pa_nil)))))) pss_nil))
      (pss_cons (ps_w (ps_if (PW.pt (pw_and (pt_cmpR op_lt (pv 3) pe_int (nomark _)) (pw_and1 (pt_cmpR (opK (K := K) (r := rNeQ) (by rfl) (op_neQ hr.units)) (pe_dget (unit1 hr) (pv 1) pe_str (fun _ _ => rfl)) (pe_lst pa_nil) (nomark _))))) (pss_cons (ps_asg (pe_call G__law_of hr (by rfl) T.g__law_of T.f__law_of.kp T.b__law_of .nil pass0 (pa_cons (pv 0) (pa_cons (pe_dget (unit1 hr) (pv 1) pe_str (fun _ _ => rfl)) pa_nil))) (pg_tup (by rfl) (pgs_cons (pg_name (i := 4) sc__law_wide_plain.nd rfl (by first | exact .inl rfl | exact .inr rfl)) (pgs_cons (pg_name (i := 5) sc__law_wide_plain.nd rfl (by first | exact .inl rfl | exact .inr rfl)) pgs_nil))))
      (pss_cons (ps_set (i := 6) sc__law_wide_plain.nd rfl (by first | exact .inl rfl | exact .inr rfl) (pe_ifExp (pt_cmpR op_eq (pv 3) pe_int (nomark _)) (pe_call G__law_take hr (by rfl) T.g__law_take T.f__law_take.kp T.b__law_take .nil pass0 (pa_cons (pv 0) (pa_cons (pe_op op_add (pv 5) pe_int) pa_nil))) (pe_op op_add pe_int (pe_call G__law_take hr (by rfl) T.g__law_take T.f__law_take.kp T.b__law_take .nil pass0 (pa_cons (pv 0) (pa_cons pe_int pa_nil))))))
      (pss_one (ps_ret (pe_op o_addS (pe_op o_addS (pe_op o_addS (pe_ifExp (pt_cmpR op_eq (pv 3) pe_int (nomark _)) pe_str pe_str) (pv 4)) pe_str) (pe_callTy q_strI (by rfl) T.z_str (by decide +kernel) (pa_cons (pv 6) pa_nil))))))) pss_nil))
      (pss_one (ps_ret (pe_call G__law_of hr (by rfl) T.g__law_of T.f__law_of.kp T.b__law_of .nil pass0 (pa_cons (pv 0) (pa_cons (pe_lst (pa_cons pe_str (pa_cons pe_str (pa_cons pe_str (pa_cons pe_str (pa_cons pe_str (pa_cons (pe_op o_addS pe_str (pe_ix ix_str (pe_dget (unit1 hr) (pv 1) pe_str (fun _ _ => rfl)) pe_int (fun _ _ => rfl))) (pa_cons pe_str pa_nil)))))))) pa_nil)))))))), ?_⟩
    repeat walk_at "st"
    refine e_take hp (by omega) (by decide) (by decide) fun d H1 hd hp1 s1 => ?_
    have hka1 := s1 _ _ hkap hka
    repeat walk_at "st"
    refine b_ws (fun σ' H' => σ' = [some (.ref p), some (.ref lo), some (.ref ka), some (.int d), none, none, none] ∧ PotAt H' p (n + 1) ∧ SameM (· = p) H H') ?_ ?_
    · repeat walk_at "st"
      refine ite2 (fun hh => ?_) (fun hh => ?_)
      · repeat walk_at "st"
        refine e_lst fun e0 H2 ne0 he0 s2 => ?_
        repeat walk_at "st"
        have hka2 := s2 _ _ hka1
        refine e_neNil hka2 (strs_dq _) (strs_shaped fun x hx => PR.goodW_lay (hkg x hx)) he0 ?_
        repeat walk_at "st"
        refine ite2 (fun hh => ?_) (fun hh => ?_)
        · have kne : kn ≠ [] := fun z => by
            rw [z] at hh
            exact absurd hh (by decide)
          repeat walk_at "st"
          refine ⟨p, n + 1, hp1.keep s2, by omega, .inl ⟨ka, _, rfl, hkap, SqL.of hka2, by simpa using kne, by rw [List.length_map]; omega, fun v H4 hv hp4 s4 => ?_⟩⟩
          obtain ⟨x, hx, rfl⟩ := List.mem_map.mp hv
          have gx := hkg x hx
          repeat walk_at "st"
          refine b_addS (Nat.le_trans (Nat.add_le_add_left (PR.goodW_ok gx).2 _) (by decide)) ?_
          rw [PR.w_do]
          exact q _ H4 (PR.PlainOk.do_ (G := ⟨sy, cells, kn⟩) hx) (two_good (by decide +kernel) gx) (by decide : 2 ≤ 3) (hp4.mono (by omega)) ((s1.trans (SameM.of s2)).trans s4)
        · repeat walk_at "st"
          exact ⟨rfl, hp1.keep s2, s1.trans (SameM.of s2)⟩
      · repeat walk_at "st"
        exact ⟨rfl, hp1, s1⟩
    · rintro σ' H2 ⟨rfl, hp2, s2⟩
      have hlo2 := s2 _ _ hlp hlo
      have hcl2 := s2 _ _ hclp hcl
      have hcd2 : DqAll K (fun a => a = p ∨ a = lo) H2 cs (cells.map cellD) := hcd.pot (p := p) (.inl rfl) s2
      repeat walk_at "st"
      refine b_ws (fun σ' H' => σ' = [some (.ref p), some (.ref lo), some (.ref ka), some (.int d), none, none, none] ∧ PotAt H' p (n + 1) ∧ SameM (· = p) H H') ?_ ?_
      · repeat walk_at "st"
        refine ite2 (fun hh => ?_) (fun hh => ?_)
        · repeat walk_at "st"
          refine e_dgetS hlo2 rfl ?_
          repeat walk_at "st"
          refine e_lst fun e0 H3 ne0 he0 s3 => ?_
          repeat walk_at "st"
          have hcl3 := s3 _ _ hcl2
          have hcd3 := hcd2.same s3
          refine e_neNil hcl3 (hcd3.avoid fun _ z => z.elim) (cells_shaped fun c hc => PR.goodW_lay (ok.cells_ok hc).2) he0 ?_
          repeat walk_at "st"
          refine ite2 (fun hh => ?_) (fun hh => ?_)
          · have cne : cs ≠ [] := fun z => by
              rw [z] at hh
              exact absurd hh (by decide)
            have lcs : cs.length ≤ 2 := by rw [hcd.length, List.length_map]; exact ok.cl
            repeat walk_at "st"
            refine e_dgetS (s3 _ _ hlo2) rfl ?_
            repeat walk_at "st"
            have hcd3' : DqAll K (· = p) H3 cs (cells.map cellD) := DqAll.avoid (M := fun a => a = p ∨ a = lo) (fun a z => .inl (.inl z)) hcd3
            refine e_of (hp2.keep s3) (by omega) hclp hcl3 hcd3' cne (by omega) fun v dd H4 hdd hv hp4 s4 => ?_
            obtain ⟨c, hc, rfl⟩ := List.mem_map.mp hdd
            obtain ⟨ta, xs, rfl, ht, hta⟩ := hv.tupE
            obtain ⟨x, y, rfl, hx, hy⟩ := hta.two
            cases hx
            cases hy
            have cm := ok.most c hc
            obtain ⟨cn, cg⟩ := ok.cells_ok hc
            have l1 := (PR.goodW_ok cg).2
            have s24 : SameM (· = p) H H4 := (s2.trans (SameM.of s3)).trans s4
            repeat walk_at "st"
            refine e_gtup2 (ht.t) ?_
            repeat walk_at "st"
            refine ite2 (fun h1 => ?_) (fun h1 => ?_)
            · repeat walk_at "st"
              refine e_take hp4 (by omega) (by omega) (by omega) fun f H5 hf hp5 s5 => ?_
              have l2 := (PR.goodW_ok (good_val f)).2
              repeat walk_at "st"
              refine ite2 (fun h2 => ?_) (fun h2 => absurd h1 h2)
              repeat walk_at "st"
              have l3 : (Str.ofString "set " ++ c.1).length ≤ 104 := by rw [Str.length_append]; exact Nat.add_le_add_left l1 4
              have l4 : (Str.ofString "set " ++ c.1 ++ Str.ofString " ").length ≤ 105 := by rw [Str.length_append]; exact Nat.add_le_add_right l3 1
              refine b_addS (Nat.le_trans (Nat.add_le_add_left l1 _) (by decide)) ?_
              repeat walk_at "st"
              refine b_addS (Nat.le_trans (Nat.add_le_add_right l3 _) (by decide)) ?_
              repeat walk_at "st"
              refine b_strI (by omega) ?_
              rw [PR.valT_str f (by omega)]
              repeat walk_at "st"
              refine b_addS (Nat.le_trans (Nat.add_le_add l4 l2) (by decide)) ?_
              rw [PR.w_set]
              exact q _ H5 (PR.PlainOk.set_ (G := ⟨sy, cells, kn⟩) ok.ndc hc cm (by show f ≤ c.2; omega)) (three_good (by decide +kernel) cg (good_val f)) (by decide : 3 ≤ 3) (hp5.mono (by omega)) (s24.trans s5)
            · repeat walk_at "st"
              refine e_take hp4 (by omega) (by decide) (by decide) fun f H5 hf hp5 s5 => ?_
              have l2 := (PR.goodW_ok (good_val (1 + f))).2
              repeat walk_at "st"
              refine ite2 (fun h2 => absurd h2 h1) (fun h2 => ?_)
              repeat walk_at "st"
              have l3 : (Str.ofString "add " ++ c.1).length ≤ 104 := by rw [Str.length_append]; exact Nat.add_le_add_left l1 4
              have l4 : (Str.ofString "add " ++ c.1 ++ Str.ofString " ").length ≤ 105 := by rw [Str.length_append]; exact Nat.add_le_add_right l3 1
              refine b_addS (Nat.le_trans (Nat.add_le_add_left l1 _) (by decide)) ?_
              repeat walk_at "st"
              refine b_addS (Nat.le_trans (Nat.add_le_add_right l3 _) (by decide)) ?_
              repeat walk_at "st"
              refine b_strI (by omega) ?_
              rw [show (1 : Int) + (f : Int) = ((1 + f : Nat) : Int) by omega, PR.valT_str (1 + f) (by omega)]
              repeat walk_at "st"
              refine b_addS (Nat.le_trans (Nat.add_le_add l4 l2) (by decide)) ?_
              rw [PR.w_add]
              exact q _ H5 (PR.PlainOk.add (G := ⟨sy, cells, kn⟩) ok.ndc hc (by omega)) (three_good (by decide +kernel) cg (good_val _)) (by decide : 3 ≤ 3) (hp5.mono (by omega)) (s24.trans s5)
          · repeat walk_at "st"
            exact ⟨rfl, hp2.keep s3, s2.trans (SameM.of s3)⟩
        · repeat walk_at "st"
          exact ⟨rfl, hp2, s2⟩
      · rintro σ' H3 ⟨rfl, hp3, s3⟩
        have hlo3 := s3 _ _ hlp hlo
        obtain ⟨c, hc0, hcl, hcg⟩ := first_at ok.sy
        repeat walk_at "st"
        refine e_dgetS hlo3 rfl ?_
        repeat walk_at "st"
        refine ⟨sy, 0, c, rfl, rfl, Nat.le_trans (by omega : sy.length ≤ 4) (by decide), hc0, ?_⟩
        refine b_addS (by show 6 + 1 ≤ _; decide) ?_
        repeat walk_at "st"
        refine e_lst fun la H4 nla hla s4 => ?_
        have hlap : la ≠ p := hp3.ne nla
        repeat walk_at "st"
        refine ⟨p, n + 1, hp3.keep s4, by omega, .inl ⟨la, _, rfl, hlap, SqL.of hla, by simp, by simp, fun v H5 hv hp5 s5 => ?_⟩⟩
        have hp5 := hp5.mono (m := n + 4) (by omega)
        have s35 : SameM (· = p) H H5 := (s3.trans (SameM.of s4)).trans s5
        have one : ∀ x : Str, PR.inS x PR.bare = true → PR.goodW x = true → Q (.str x) H5 := fun x h1 h2 => by
          have := q [x] H5 (PR.PlainOk.bare (G := ⟨sy, cells, kn⟩) h1) (fun y hy => by rw [List.mem_singleton.mp hy]; exact h2) (by decide : 1 ≤ 3) hp5 s35
          rwa [PR.words_one] at this
        have wr : ∀ c : Nat, PR.letterW ⟨#[c]⟩ = true → PR.goodW ⟨#[c]⟩ = true → Q (.str (Str.ofString "write " ++ ⟨#[c]⟩)) H5 := fun c h1 h2 => by
          rw [PR.w_write]
          exact q _ H5 (PR.PlainOk.write (G := ⟨sy, cells, kn⟩) h1) (two_good (by decide +kernel) h2) (by decide : 2 ≤ 3) hp5 s35
        simp only [List.mem_cons, List.not_mem_nil, or_false] at hv
        rcases hv with rfl | rfl | rfl | rfl | rfl | rfl | rfl
        · exact one _ (by decide +kernel) (by decide +kernel)
        · exact one _ (by decide +kernel) (by decide +kernel)
        · exact one _ (by decide +kernel) (by decide +kernel)
        · exact one _ (by decide +kernel) (by decide +kernel)
        · exact wr 120 (by decide +kernel) (by decide +kernel)
        · exact wr c hcl hcg
        · exact one _ (by decide +kernel) (by decide +kernel)
end
end K09

namespace K09
open PySem PySem.Spec PyProof.Rows L2 FG
local macro_rules | `(tactic| walk_at "sq") => `(tactic| first
  | assumption
  | exact SqL.of (by assumption)
  | exact SqT.of (by assumption)
  | exact SqLm.l (by assumption)
  | exact SqTm.t (by assumption))
local macro_rules | `(tactic| walk_at "cond") => `(tactic| first
  | assumption
  | (show (0 : Int) < _; omega)
  | (show (0 : Int) < _ ∧ _ < 1073741824; omega))
local macro_rules | `(tactic| walk_at "st") => `(tactic| first
  | with_reducible refine b_seq ?_
  | with_reducible refine b_asg ?_
  | with_reducible refine b_op ?_
  | ((with_reducible refine' b_var ?hv ?_); (case hv => exact rfl))
  | with_reducible refine b_c ?_
  | with_reducible refine b_name ?_
  | with_reducible refine b_I0 ?_
  | with_reducible refine b_cons ?_
  | with_reducible refine b_nil ?_
  | with_reducible refine b_cb ?_
  | with_reducible refine b_call ?_
  | with_reducible refine b_ret ?_
  | with_reducible refine b_ifS ?_
  | with_reducible refine b_test ?_
  | with_reducible refine b_tb ?_
  | with_reducible refine b_bl ?_
  | with_reducible refine b_blP ?_
  | with_reducible refine b_next ?_
  | with_reducible refine b_drop ?_
  | with_reducible refine b_dget ?_
  | with_reducible refine b_makeN ?_
  | with_reducible refine b_pairs ?_
  | with_reducible refine b_pairs0 ?_
  | with_reducible refine b_sub ?_
  | with_reducible refine b_chain ?_
  | with_reducible refine b_and ?_
  | with_reducible refine b_or ?_
  | with_reducible refine b_not ?_
  | with_reducible refine b_andV ?_
  | with_reducible refine b_orV ?_
  | with_reducible refine b_notV ?_
  | with_reducible refine b_if ?_
  | with_reducible refine b_par ?_
  | with_reducible refine b_parE ?_
  | ((with_reducible refine' b_aug ?hv ?_); (case hv => exact rfl))
  | with_reducible refine b_ip ?_
  | with_reducible refine b_retN ?_
  | with_reducible refine b_tup ?_
  | with_reducible refine b_lst ?_
  | with_reducible refine b_sl ?_
  | with_reducible refine b_part ?_
  | with_reducible refine b_partP ?_
  | with_reducible refine b_nopart ?_
  | with_reducible refine b_bm ?_
  | with_reducible refine b_m1 ?_
  | with_reducible refine b_m0 ?_
  | with_reducible refine b_yes ?_
  | with_reducible refine b_un ?_
  | with_reducible refine b_neg ?_
  | with_reducible refine b_isN ?_
  | with_reducible refine b_notN ?_
  | with_reducible refine b_inS ?_
  | with_reducible refine b_int ?_
  | with_reducible refine b_intB ?_
  | with_reducible refine b_abs ?_
  | with_reducible refine b_max ?_
  | with_reducible refine b_min ?_
  | ((with_reducible refine b_eq ?hv ?_); (case hv => exact rfl))
  | ((with_reducible refine b_ne ?hv ?_); (case hv => exact rfl))
  | ((with_reducible refine' b_lenL ?hv ?_); (case hv => walk_at "sq"))
  | ((with_reducible refine' b_lenT ?hv ?_); (case hv => walk_at "sq"))
  | ((with_reducible refine' b_ixL ?hv ?hw ?_); (case hv => walk_at "sq"); (case hw => first | exact rfl | exact at0 | exact at1 | exact at2))
  | ((with_reducible refine' b_ixT ?hv ?hw ?_); (case hv => walk_at "sq"); (case hw => first | exact rfl | exact at0 | exact at1 | exact at2))
  | ((with_reducible refine b_I ?hv ?_); (case hv => walk_at "cond"))
  | with_reducible refine b_lcS ?_
  | with_reducible refine b_lcR ?_
  | with_reducible refine b_lcT ?_
  | with_reducible refine b_lcL ?_
  | with_reducible refine b_forT ?_
  | with_reducible refine b_forL ?_
  | with_reducible refine b_forR ?_
  | with_reducible refine b_turn ?_
  | ((with_reducible refine And.intro (a := wipe _ _ = wipe _ _) ?hv ?_); (case hv => exact rfl))
  | ((with_reducible refine And.intro (a := tyV _ "list" _ _) ?hv ?_); (case hv => exact ty_list (by assumption)))
  | with_reducible refine And.intro (a := ∃ a, V.str _ = V.str a) ⟨_, rfl⟩ ?_
  | (with_reducible refine iteT ?_)
  | (with_reducible refine iteNF ?_)
  | (with_reducible refine iteNT ?_)
  | (with_reducible refine iteVT ?_)
  | (with_reducible refine iteNVT ?_)
  | ((with_reducible refine iteVF ?hv ?_); (case hv => exact rfl))
  | ((with_reducible refine iteNVF ?hv ?_); (case hv => exact rfl))
  | with_reducible refine b_callS ?_
  | with_reducible refine b_xq ?_
  | with_reducible refine b_fld ?_
  | with_reducible refine b_sfld ?_
  | with_reducible refine b_meth ?_
  | with_reducible refine b_make ?_
  | with_reducible refine b_callK ?_
  | with_reducible refine b_sfa ?_
  | with_reducible refine b_lcEnT ?_
  | with_reducible refine b_lcEnL ?_
  | with_reducible refine b_forEnT ?_
  | with_reducible refine b_forEnL ?_
  | with_reducible refine b_lcZ ?_
  | with_reducible refine b_lcZX ?_
  | with_reducible refine b_prop ?_
  | with_reducible refine b_dput ?_
  | with_reducible refine b_din ?_
  | with_reducible refine b_inB ?_
  | with_reducible refine e_revT ?_
  | ((with_reducible refine' e_fld ?hv ?hc ?hn ?hl ?_); (case hv => assumption); (case hc => assumption); (case hn => assumption); (case hl => exact rfl))
  | ((with_reducible refine' e_meth ?hv ?hl ?_); (case hv => assumption); (case hl => exact rfl))
  | (with_reducible refine iteF ?_))

section
variable {P : Program} {w : World} {K : PySem.W.Frag} {mg : Str → Option Value} {base : Heap} {D : Ad}
def loreD (sy : Str) (left : Nat) (cl pl : Addr) : List (Key × V) := [(.inr "symbols", .str sy), (.inr "left", .int (left : Nat)), (.inr "cells", .ref cl), (.inr "parts", .ref pl)]
/-- the lore with its places -/
structure LoreX (K : PySem.W.Frag) (p lo cl pl : Addr) (cs : List V) (sy : Str) (left : Nat) (cells : List (Str × Nat)) (parts : List Str) (H : Hp) : Prop where
  hlo : H lo = some (.dK (loreD sy left cl pl))
  hcl : H cl = some (.lst cs)
  clp : cl ≠ p
  cd : DqAll K (fun a => a = p ∨ a = lo) H cs (cells.map cellD)
  hpl : H pl = some (.lst (parts.map V.str))
  plp : pl ≠ p
abbrev PL (p lo : Addr) : Addr → Prop := fun a => a = p ∨ a = lo
theorem LoreX.at {p lo cl pl : Addr} {cs : List V} {sy : Str} {left : Nat} {cells : List (Str × Nat)} {parts : List Str} {H : Hp} (h : LoreX K p lo cl pl cs sy left cells parts H) : LoreAt K p lo sy left cells parts H := ⟨cl, pl, cs, h.hlo, h.hcl, h.clp, h.cd, h.hpl, h.plp⟩
theorem LoreX.next {p lo cl pl : Addr} {cs : List V} {sy : Str} {left left' : Nat} {cells : List (Str × Nat)} {parts : List Str} {H H' : Hp} (h : LoreX K p lo cl pl cs sy left cells parts H) (s : SameM (PL p lo) H H') (hlo : H' lo = some (.dK (loreD sy left' cl pl))) : LoreX K p lo cl pl cs sy left' cells parts H' := by
  have ne1 : cl ≠ lo := fun z => by have := h.hcl; rw [z, h.hlo] at this; cases this
  have ne2 : pl ≠ lo := fun z => by have := h.hpl; rw [z, h.hlo] at this; cases this
  exact ⟨hlo, s _ _ (fun z => z.elim h.clp ne1) h.hcl, h.clp, h.cd.mono s, s _ _ (fun z => z.elim h.plp ne2) h.hpl, h.plp⟩
theorem SameM.pl {p lo : Addr} {H H' : Hp} (s : SameM (· = p) H H') : SameM (PL p lo) H H' := s.sub fun a z => .inl z
theorem SameM.lol {p lo : Addr} {H H' : Hp} (s : SameM (· = lo) H H') : SameM (PL p lo) H H' := s.sub fun a z => .inr z
structure LineGood (l : PR.Line) : Prop where
  ind : l.ind ≤ 8
  ne : l.ws ≠ []
  len : l.ws.length ≤ 6
  good : ∀ x ∈ l.ws, PR.goodW x = true
def rows (B : List PR.Line) : List V := (B.map PR.rowText).map V.str
theorem rows_append (A B : List PR.Line) : rows (A ++ B) = rows A ++ rows B := by unfold rows; rw [List.map_append, List.map_append]
theorem rows_len (B : List PR.Line) : (rows B).length = B.length := by unfold rows; rw [List.length_map, List.length_map]
/-- what a drawn body is: m statements at the depth d -/
structure Body (sy : Str) (cells : List (Str × Nat)) (kn : List Str) (d m : Nat) (B : List PR.Line) : Prop where
  sts : PR.Sts ⟨sy, cells, kn⟩ d m B
  good : ∀ l ∈ B, LineGood l
  len : B.length ≤ 2 * m
theorem words_len {ws : List Str} (h : ∀ x ∈ ws, PR.goodW x = true) : (PR.wordsText ws).length ≤ 101 * ws.length := by
  induction ws with
  | nil => exact Nat.le_of_eq (by rfl)
  | cons a ws ih =>
    have ha := (PR.goodW_ok (h a List.mem_cons_self)).2
    have ih := ih fun x hx => h x (List.mem_cons_of_mem _ hx)
    cases ws with
    | nil => rw [PR.words_one]; simp; omega
    | cons b r =>
      rw [PR.words_cons, Str.length_append, Str.length_append, List.length_cons]
      have : (Str.ofString " ").length = 1 := rfl
      omega
theorem Body.plain {sy : Str} {cells : List (Str × Nat)} {kn : List Str} {d m : Nat} {B : List PR.Line} {ws : List Str} (h : Body sy cells kn d m B) (hd : d ≤ 4) (hp : PR.PlainOk ⟨sy, cells, kn⟩ ws) (hg : ∀ x ∈ ws, PR.goodW x = true) (hl : ws.length ≤ 3) : Body sy cells kn d (m + 1) (B ++ [⟨2 * d, ws⟩]) := by
  refine ⟨h.sts.append (.plain hp .nil), fun l hm => ?_, ?_⟩
  · rcases List.mem_append.mp hm with z | z
    · exact h.good l z
    · rw [List.mem_singleton.mp z]
      exact ⟨by show 2 * d ≤ 8; omega, hp.ne, by show ws.length ≤ 6; omega, hg⟩
  · have := h.len
    rw [List.length_append]
    show B.length + 1 ≤ _
    omega
theorem Body.block {sy : Str} {cells : List (Str × Nat)} {kn : List Str} {d m m2 : Nat} {B B2 : List PR.Line} {kd : Str} {ws : List Str} (h : Body sy cells kn d m B) (hd : d < 4) (hk : PR.inS kd PR.blocks = true) (kg : PR.goodW kd = true) (ha : PR.AskOk ⟨sy, cells, kn⟩ ws) (hg : ∀ x ∈ ws, PR.goodW x = true) (hl : ws.length ≤ 4) (h2 : Body sy cells kn (d + 1) m2 B2) (ne2 : B2 ≠ []) :
    Body sy cells kn d (m + 1 + m2) (B ++ ⟨2 * d, kd :: ws⟩ :: B2) := by
  refine ⟨?_, fun l hm => ?_, ?_⟩
  · have := h.sts.append (.block hk ha hd ne2 h2.sts .nil)
    rw [List.append_nil] at this
    exact this.cast (by omega)
  · rcases List.mem_append.mp hm with z | z
    · exact h.good l z
    · rcases List.mem_cons.mp z with rfl | z
      · refine ⟨by show 2 * d ≤ 8; omega, by simp, by show (kd :: ws).length ≤ 6; rw [List.length_cons]; omega, fun x hx => ?_⟩
        rcases List.mem_cons.mp hx with rfl | hx
        · exact kg
        · exact hg x hx
      · exact h2.good l z
  · have := h.len
    have := h2.len
    rw [List.length_append, List.length_cons]
    omega
theorem Body.both {sy : Str} {cells : List (Str × Nat)} {kn : List Str} {d m m2 m3 : Nat} {B B2 B3 : List PR.Line} {ws : List Str} (h : Body sy cells kn d m B) (hd : d < 4) (ha : PR.AskOk ⟨sy, cells, kn⟩ ws) (hg : ∀ x ∈ ws, PR.goodW x = true) (hl : ws.length ≤ 4) (h2 : Body sy cells kn (d + 1) m2 B2) (ne2 : B2 ≠ []) (h3 : Body sy cells kn (d + 1) m3 B3) (ne3 : B3 ≠ []) :
    Body sy cells kn d (m + 1 + m2 + m3) (B ++ ⟨2 * d, Str.ofString "if" :: ws⟩ :: (B2 ++ ⟨2 * d, [Str.ofString "else"]⟩ :: B3)) := by
  refine ⟨?_, fun l hm => ?_, ?_⟩
  · have := h.sts.append (.both ha hd ne2 ne3 h2.sts h3.sts .nil)
    rw [List.append_nil] at this
    exact this.cast (by omega)
  · rcases List.mem_append.mp hm with z | z
    · exact h.good l z
    · rcases List.mem_cons.mp z with rfl | z
      · refine ⟨by show 2 * d ≤ 8; omega, by simp, by show (_ :: ws).length ≤ 6; rw [List.length_cons]; omega, fun x hx => ?_⟩
        rcases List.mem_cons.mp hx with rfl | hx
        · decide +kernel
        · exact hg x hx
      · rcases List.mem_append.mp z with z | z
        · exact h2.good l z
        · rcases List.mem_cons.mp z with rfl | z
          · exact ⟨by show 2 * d ≤ 8; omega, by simp, by show 1 ≤ 6; decide, fun x hx => by rw [List.mem_singleton.mp hx]; decide +kernel⟩
          · exact h3.good l z
  · have := h.len
    have := h2.len
    have := h3.len
    rw [List.length_append, List.length_cons, List.length_append, List.length_cons]
    omega
theorem Body.none {sy : Str} {cells : List (Str × Nat)} {kn : List Str} {d m : Nat} (h : Body sy cells kn d m []) : m = 0 := by
  cases h.sts
  rfl
theorem row_block (d : Nat) (kd a : Str) (r : List Str) : PR.blanks (2 * d) ++ kd ++ Str.ofString " " ++ PR.wordsText (a :: r) = PR.rowText ⟨2 * d, kd :: a :: r⟩ := by
  unfold PR.rowText
  rw [PR.words_cons, Str.append_assoc, Str.append_assoc]
theorem row_one (d : Nat) (a : Str) : PR.blanks (2 * d) ++ a = PR.rowText ⟨2 * d, [a]⟩ := by
  unfold PR.rowText
  rw [PR.words_one]
theorem blanks_len (n : Nat) : (PR.blanks n).length = n := by
  show (List.replicate n 32).toArray.size = n
  simp
theorem fresh_back {p lo a : Addr} {H H' : Hp} {n : Nat} {o : HO} (s : SameM (PL p lo) H H') (hp : PotAt H' p n) (hlo : H' lo = some o) (h : H' a = none) : H a = none :=
  none_backM s (fun z => by
    rcases z with rfl | rfl
    · exact hp.ne h rfl
    · rw [h] at hlo; cases hlo) h
def sp_wbody (K : PySem.W.Frag) (e : Nat) : Sp := fun vs H Q _ => ∃ (p lo ka cl pl : Addr) (n left d : Nat) (cs : List V) (sy : Str) (cells : List (Str × Nat)) (parts kn : List Str), vs = [.ref p, .ref lo, .ref ka, .int (d : Nat)] ∧ d + e = 5 ∧ 1 ≤ d ∧ PotAt H p n ∧ n + 30 * left ≤ 90000000 ∧ left ≤ 20 ∧ lo ≠ p ∧ LoreOk sy cells parts ∧
  LoreX K p lo cl pl cs sy left cells parts H ∧ H ka = some (.lst (kn.map V.str)) ∧ ka ≠ p ∧ kn.length ≤ 2 ∧ (∀ x ∈ kn, PR.goodW x = true) ∧ e ≠ 0 ∧
  ∀ (l : Addr) (B : List PR.Line) (m : Nat) (H' : Hp), H l = none → H' l = some (.lst (rows B)) → Body sy cells kn d m B → m ≤ left → (0 < left → B ≠ []) → H' lo = some (.dK (loreD sy (left - m) cl pl)) → PotAt H' p (n + 1 + 30 * m) → SameM (PL p lo) H H' → Q (.ref l) H'
theorem ok__law_wide_body (T : Txt K mg D) {k : Nat} : ∀ e : Nat, FnOk P w K mg base CX0 (k + 4 + e) D.f__law_wide_body D.d__law_wide_body P__law_wide_body (sp_wbody K e)
  | 0 => by
    refine ⟨fun vs H Q E h => ?_, fun A outer s H args us vs Q E hr e0 hb r h => ?_⟩
    · obtain ⟨p, lo, ka, cl, pl, n, left, d, cs, sy, cells, parts, kn, rfl, _⟩ := h
      rfl
    · obtain ⟨p, lo, ka, cl, pl, n, left, d, cs, sy, cells, parts, kn, rfl, _, _, _, _, _, _, _, _, _, _, _, _, z, _⟩ := h
      exact absurd rfl z
  | e + 1 => by
    have G__law_take : FnOk P w K mg base CX0 (k + 4 + e) D.f__law_take D.d__law_take P__law_take spTake := (ok__law_take T (k := k)).mono (by omega)
    have G__law_of : FnOk P w K mg base CX0 (k + 4 + e) D.f__law_of D.d__law_of P__law_of (spOf K) := (ok__law_of T (k := k)).mono (by omega)
    have G__law_wide_asked : FnOk P w K mg base CX0 (k + 4 + e) D.f__law_wide_asked D.d__law_wide_asked P__law_wide_asked (sp_asked K) := (ok__law_wide_asked T (k := k)).mono (by omega)
    have G__law_wide_plain : FnOk P w K mg base CX0 (k + 4 + e) D.f__law_wide_plain D.d__law_wide_plain P__law_wide_plain (sp_wplain K) := (ok__law_wide_plain T (k := k)).mono (by omega)
    have G__law_wide_body : FnOk P w K mg base CX0 (k + 4 + e) D.f__law_wide_body D.d__law_wide_body P__law_wide_body (sp_wbody K e) := ok__law_wide_body T e
    refine T.f__law_wide_body.ok sc__law_wide_body (fun vs H Q E h => ?_) (fun cdv A outer s H vs Q E hr h => ?_)
    · obtain ⟨p, lo, ka, cl, pl, n, left, d, cs, sy, cells, parts, kn, rfl, _⟩ := h
      rfl
    · obtain ⟨p, lo, ka, cl, pl, n, left, d, cs, sy, cells, parts, kn, rfl, hde, hd1, hp, hn, hleft, hlp, ok, hL, hka, hkap, hkl, hkg, _, q⟩ := h
      have hkalo : ka ≠ lo := fun z => by rw [z, hL.hlo] at hka; cases hka
      refine ⟨_, (pss_cons (ps_par (i := 4) (j := 5) (by rfl) sc__law_wide_body.nd rfl rfl (by decide) rfl rfl (pa_cons (pe_lst pa_nil) (pa_cons (pe_op o_repN pe_str (pv 3)) pa_nil)) (by rfl))
      (pss_cons (ps_for PassesOwn.never rfl (pi_range1 (by rfl) T.z_range (pa_cons (pe_op op_add pe_int (pe_call G__law_take hr (by rfl) T.g__law_take T.f__law_take.kp T.b__law_take .nil pass0 (pa_cons (pv 0) (pa_cons pe_int pa_nil)))) pa_nil)) (pg_name (i := 6) sc__law_wide_body.nd rfl (by first | exact .inl rfl | exact .inr rfl)) (pss_one (ps_if (pt_cmpR op_gt (pe_dget (unit1 hr) (pv 1) pe_str (fun _ _ => rfl)) pe_int (nomark _)) (pss_cons (ps_dput (unit1 hr) (pv 1) pe_str (pe_op op_sub (pe_dget (unit1 hr) (pv 1) pe_str (fun _ _ => rfl)) pe_int) rfl)
      (pss_one (ps_if (pt_w (PW.pt (pw_and (pt_cmpR op_lt (pv 3) pe_int (nomark _)) (pw_and (pt_cmpR op_gt (pe_dget (unit1 hr) (pv 1) pe_str (fun _ _ => rfl)) pe_int (nomark _)) (pw_and1 (pt_cmpR op_eq (pe_call G__law_take hr (by rfl) T.g__law_take T.f__law_take.kp T.b__law_take .nil pass0 (pa_cons (pv 0) (pa_cons pe_int pa_nil))) pe_int (nomark _))))))) (pss_cons (ps_set (i := 7) sc__law_wide_body.nd rfl (by first | exact .inl rfl | exact .inr rfl) (pe_call G__law_of hr (by rfl) T.g__law_of T.f__law_of.kp T.b__law_of .nil pass0 (pa_cons (pv 0) (pa_cons (pe_lst (pa_cons pe_str (pa_cons pe_str (pa_cons pe_str pa_nil)))) pa_nil))))
      (pss_cons (ps_set (i := 4) sc__law_wide_body.nd rfl (by first | exact .inl rfl | exact .inr rfl) (pe_op op_cat (pv 4) (pe_lst (pa_cons (pe_op o_addS (pe_op o_addS (pe_op o_addS (pv 5) (pv 7)) pe_str) (pe_call G__law_wide_asked hr (by rfl) T.g__law_wide_asked T.f__law_wide_asked.kp T.b__law_wide_asked .nil pass0 (pa_cons (pv 0) (pa_cons (pv 1) pa_nil)))) pa_nil))))
      (pss_cons (ps_set (i := 4) sc__law_wide_body.nd rfl (by first | exact .inl rfl | exact .inr rfl) (pe_op op_cat (pv 4) (pe_call G__law_wide_body hr (by rfl) T.g__law_wide_body T.f__law_wide_body.kp T.b__law_wide_body .nil pass0 (pa_cons (pv 0) (pa_cons (pv 1) (pa_cons (pv 2) (pa_cons (pe_op op_add (pv 3) pe_int) pa_nil)))))))
      (pss_one (ps_if (pt_w (PW.pt (pw_and (pt_cmpR op_eq (pv 7) pe_str (nomark _)) (pw_and (pt_cmpR op_gt (pe_dget (unit1 hr) (pv 1) pe_str (fun _ _ => rfl)) pe_int (nomark _)) (pw_and1 (pt_cmpR op_eq (pe_call G__law_take hr (by rfl) T.g__law_take T.f__law_take.kp T.b__law_take .nil pass0 (pa_cons (pv 0) (pa_cons pe_int pa_nil))) pe_int (nomark _))))))) (pss_one (ps_set (i := 4) sc__law_wide_body.nd rfl (by first | exact .inl rfl | exact .inr rfl) (pe_op op_cat (pe_op op_cat (pv 4) (pe_lst (pa_cons (pe_op o_addS (pv 5) pe_str) pa_nil))) (pe_call G__law_wide_body hr (by rfl) T.g__law_wide_body T.f__law_wide_body.kp T.b__law_wide_body .nil pass0 (pa_cons (pv 0) (pa_cons (pv 1) (pa_cons (pv 2) (pa_cons (pe_op op_add (pv 3) pe_int) pa_nil)))))))) pss_nil))))) (pss_one (ps_expr (pe_bm PySem.F.plainAttrs_list PySem.F.slot_list_append PySem.F.type_list_append mt_append (pv 4) (pa_cons (pe_op o_addS (pv 5) (pe_call G__law_wide_plain hr (by rfl) T.g__law_wide_plain T.f__law_wide_plain.kp T.b__law_wide_plain .nil pass0 (pa_cons (pv 0) (pa_cons (pv 1) (pa_cons (pv 2) pa_nil))))) pa_nil))))))) pss_nil)))
      (pss_one (ps_ret (pv 4))))), ?_⟩
      repeat walk_at "st"
      refine e_lst fun fa0 H1 nfa0 hfa0 s1 => ?_
      repeat walk_at "st"
      refine b_repN (n := d) rfl hd1 (by omega) (by decide) (by decide) ?_
      rw [PR.blanks_two d hd1 (by omega)]
      repeat walk_at "st"
      refine e_take (hp.keep s1) (by omega) (by decide) (by decide) fun t H2 ht hp2 s2 => ?_
      repeat walk_at "st"
      have ht4 : t < 4 := by omega
      have fp0 : fa0 ≠ p := hp.ne nfa0
      refine e_forR (fun i σ H' => ∃ (fa : Addr) (B : List PR.Line) (m : Nat) (x6 x7 : Option V), σ = [some (.ref p), some (.ref lo), some (.ref ka), some (.int (d : Nat)), some (.ref fa), some (.str (PR.blanks (2 * d))), x6, x7] ∧ H fa = none ∧ H' fa = some (.lst (rows B)) ∧ Body sy cells kn d m B ∧ m ≤ left ∧ (0 < i → 0 < left → B ≠ []) ∧ H' lo = some (.dK (loreD sy (left - m) cl pl)) ∧ PotAt H' p (n + 1 + 30 * m) ∧ SameM (PL p lo) H H') (by omega) (by omega) ?_ ?_ ?_
      · refine ⟨fa0, [], 0, _, _, rfl, nfa0, s2 _ _ fp0 hfa0, ⟨.nil, by simp, Nat.le_refl _⟩, Nat.zero_le _, fun z => absurd z (by decide), ?_, hp2, ?_⟩
        · exact s2 _ _ hlp (s1 _ _ hL.hlo)
        · exact SameM.pl ((SameM.of s1).trans s2)
      · rintro i σ H' hi ⟨fa, B, m, x6, x7, rfl, nfa, hfa, hB, hm, hne, hlo', hp', s'⟩
        have fp : fa ≠ p := hp.ne nfa
        have flo : fa ≠ lo := fun z => by rw [z, hL.hlo] at nfa; cases nfa
        have fka : ka ≠ fa := fun z => by rw [z, nfa] at hka; cases hka
        have lB := hB.len
        repeat walk_at "st"
        refine e_dgetS hlo' rfl ?_
        repeat walk_at "st"
        refine ite2 (fun hh => ?_) (fun hh => ?_)
        · have hm' : m < left := by
            have : (0 : Int) < ((left - m : Nat) : Int) := of_decide_eq_true hh
            omega
          repeat walk_at "st"
          refine e_dgetS hlo' rfl ?_
          repeat walk_at "st"
          refine e_dput (k := .inr "left") hlo' (show 4 < 100000 by decide) fun H3 hlo3 s3 => ?_
          have hlo3 : H3 lo = some (.dK (loreD sy (left - m - 1) cl pl)) := by
            rw [hlo3]
            show some (HO.dK [_, (_, V.int (((left - m : Nat) : Int) - 1)), _, _]) = _
            rw [show (((left - m : Nat) : Int) - 1) = ((left - m - 1 : Nat) : Int) by omega]
            rfl
          have hp3 := hp'.other s3 (Ne.symm hlp)
          have hfa3 := s3 _ _ flo hfa
          have sH3 : SameM (PL p lo) H H3 := s'.trans (SameM.lol s3)
          repeat walk_at "st"
          refine b_wt (fun b H' => (b = true → d < 4 ∧ 0 < left - m - 1) ∧ PotAt H' p (n + 1 + 30 * m + 1) ∧ SameM (· = p) H3 H') ?_ ?_
          · repeat walk_at "st"
            refine ite2 (fun h1 => ?_) (fun h1 => ?_)
            · have hd4 : d < 4 := by
                have := of_decide_eq_true h1
                omega
              repeat walk_at "st"
              refine e_dgetS hlo3 rfl ?_
              repeat walk_at "st"
              refine ite2 (fun h2 => ?_) (fun h2 => ?_)
              · have hl0 : 0 < left - m - 1 := by
                  have : (0 : Int) < ((left - m - 1 : Nat) : Int) := of_decide_eq_true h2
                  omega
                repeat walk_at "st"
                refine e_take hp3 (by omega) (by decide) (by decide) fun f H4 hf hp4 s4 => ?_
                repeat walk_at "st"
                exact ⟨fun _ => ⟨hd4, hl0⟩, hp4, s4⟩
              · exact ⟨fun z => absurd z (by decide), hp3.mono (by omega), SameM.refl _ _⟩
            · exact ⟨fun z => absurd z (by decide), hp3.mono (by omega), SameM.refl _ _⟩
          · rintro b H4 ⟨hb, hp4, s4⟩
            have hlo4 := s4 _ _ hlp hlo3
            have hfa4 := s4 _ _ fp hfa3
            have sH4 : SameM (PL p lo) H H4 := sH3.trans (SameM.pl s4)
            have hka4 := sH4 _ _ (fun z => z.elim hkap hkalo) hka
            refine ite2 (fun hh2 => ?_) (fun hh2 => ?_)
            · obtain ⟨hd4, hl0⟩ := hb hh2
              repeat walk_at "st"
              refine e_lst fun la H5 nla hla s5 => ?_
              have hlap : la ≠ p := hp4.ne nla
              repeat walk_at "st"
              refine ⟨p, n + 1 + 30 * m + 1, hp4.keep s5, by omega, .inl ⟨la, _, rfl, hlap, SqL.of hla, by simp, by simp, fun v H6 hv hp6 s6 => ?_⟩⟩
              obtain ⟨kd, rfl, hkd⟩ : ∃ kd : Str, v = .str kd ∧ (kd = Str.ofString "if" ∨ kd = Str.ofString "while") := by
                simp only [List.mem_cons, List.not_mem_nil, or_false] at hv
                rcases hv with rfl | rfl | rfl
                · exact ⟨_, rfl, .inl rfl⟩
                · exact ⟨_, rfl, .inl rfl⟩
                · exact ⟨_, rfl, .inr rfl⟩
              have hkB : PR.inS kd PR.blocks = true ∧ PR.goodW kd = true ∧ kd.length ≤ 5 := by rcases hkd with rfl | rfl <;> decide +kernel
              have lk := hkB.2.2
              have lb := blanks_len (2 * d)
              have sH6 : SameM (PL p lo) H H6 := (sH4.trans (SameM.of s5)).trans (SameM.pl s6)
              have hlo6 := s6 _ _ hlp (s5 _ _ hlo4)
              have hfa6 := s6 _ _ fp (s5 _ _ hfa4)
              repeat walk_at "st"
              refine b_addS (by rw [lb]; exact Nat.le_trans (by omega : 2 * d + kd.length ≤ 100) (by decide)) ?_
              repeat walk_at "st"
              have l1 : (PR.blanks (2 * d) ++ kd).length ≤ 13 := by rw [Str.length_append, lb]; omega
              refine b_addS (Nat.le_trans (Nat.add_le_add_right l1 _) (by decide)) ?_
              repeat walk_at "st"
              refine ⟨p, lo, _, left - m - 1, sy, cells, parts, rfl, hp6, by omega, hlp, ok, (hL.next sH6 hlo6).at, fun ws H7 hask hgood hlen hp7 s7 => ?_⟩
              have l2 : (PR.blanks (2 * d) ++ kd ++ Str.ofString " ").length ≤ 14 := by rw [Str.length_append]; exact Nat.add_le_add_right l1 1
              have l3 : (PR.wordsText ws).length ≤ 404 := Nat.le_trans (words_len hgood) (by omega)
              refine b_addS (Nat.le_trans (Nat.add_le_add l2 l3) (by decide)) ?_
              rw [show PR.blanks (2 * d) ++ kd ++ Str.ofString " " ++ PR.wordsText ws = PR.rowText ⟨2 * d, kd :: ws⟩ by
                cases ws with
                | nil => exact absurd rfl (hask kn).ne
                | cons a r => exact row_block d kd a r]
              have hlo7 := s7 _ _ hlp hlo6
              have hfa7 := s7 _ _ fp hfa6
              have sH7 : SameM (PL p lo) H H7 := sH6.trans (SameM.pl s7)
              repeat walk_at "st"
              refine e_lst fun nl H8 nnl hnl s8 => ?_
              repeat walk_at "st"
              refine e_catL (s8 _ _ hfa7) hnl (by rw [rows_len]; simp; omega) fun f1 H9 nf1 hf1 s9 => ?_
              have hf1 : H9 f1 = some (.lst (rows (B ++ [⟨2 * d, kd :: ws⟩]))) := by rw [rows_append]; exact hf1
              have hp9 := (hp7.keep s8).keep s9
              have hlo9 := s9 _ _ (s8 _ _ hlo7)
              have sH9 : SameM (PL p lo) H H9 := (sH7.trans (SameM.of s8)).trans (SameM.of s9)
              have hka9 := sH9 _ _ (fun z => z.elim hkap hkalo) hka
              have f1p : f1 ≠ p := (hp7.keep s8).ne nf1
              have f1lo : f1 ≠ lo := fun z => by rw [z, s8 _ _ hlo7] at nf1; cases nf1
              repeat walk_at "st"
              refine ⟨p, lo, ka, cl, pl, _, left - m - 1, d + 1, cs, sy, cells, parts, kn, rfl, by omega, by omega, hp9, by omega, by omega, hlp, ok, hL.next sH9 hlo9, hka9, hkap, hkl, hkg, by omega, fun l2 B2 m2 H10 nl2 hl2 hB2 hm2 ne2 hlo10 hp10 s10 => ?_⟩
              have ne2 := ne2 hl0
              have lB2 := hB2.len
              have sH10 : SameM (PL p lo) H H10 := sH9.trans s10
              have hf10 := s10 _ _ (fun z => z.elim f1p f1lo) hf1
              repeat walk_at "st"
              refine e_catL hf10 hl2 (by rw [rows_len, rows_len, List.length_append]; simp; omega) fun f2 H11 nf2 hf2 s11 => ?_
              have hf2 : H11 f2 = some (.lst (rows (B ++ ⟨2 * d, kd :: ws⟩ :: B2))) := by
                rw [← rows_append, List.append_assoc] at hf2
                exact hf2
              have hp11 := hp10.keep s11
              have hlo11 := s11 _ _ hlo10
              have sH11 : SameM (PL p lo) H H11 := sH10.trans (SameM.of s11)
              have nf2H : H f2 = none := fresh_back sH10 hp10 hlo10 nf2
              have f2p : f2 ≠ p := hp10.ne nf2
              have f2lo : f2 ≠ lo := fun z => by rw [z, hlo10] at nf2; cases nf2
              repeat walk_at "st"
              refine b_wt (fun b H' => (b = true → kd = Str.ofString "if" ∧ 0 < left - m - 1 - m2) ∧ PotAt H' p (n + 1 + 30 * m + 1 + 1 + 12 + 1 + 30 * m2 + 1) ∧ SameM (· = p) H11 H') ?_ ?_
              · repeat walk_at "st"
                refine ite2 (fun h1 => ?_) (fun h1 => ?_)
                · have hk1 : kd = Str.ofString "if" := V.str.inj (of_decide_eq_true h1)
                  repeat walk_at "st"
                  refine e_dgetS hlo11 rfl ?_
                  repeat walk_at "st"
                  refine ite2 (fun h2 => ?_) (fun h2 => ?_)
                  · have hl2' : 0 < left - m - 1 - m2 := by
                      have : (0 : Int) < ((left - m - 1 - m2 : Nat) : Int) := of_decide_eq_true h2
                      omega
                    repeat walk_at "st"
                    refine e_take hp11 (by omega) (by decide) (by decide) fun f H12 hf hp12 s12 => ?_
                    repeat walk_at "st"
                    exact ⟨fun _ => ⟨hk1, hl2'⟩, hp12.mono (by omega), s12⟩
                  · exact ⟨fun z => absurd z (by decide), hp11.mono (by omega), SameM.refl _ _⟩
                · exact ⟨fun z => absurd z (by decide), hp11.mono (by omega), SameM.refl _ _⟩
              · rintro b2 H12 ⟨hb2, hp12, s12⟩
                have hlo12 := s12 _ _ hlp hlo11
                have hf12 := s12 _ _ f2p hf2
                have sH12 : SameM (PL p lo) H H12 := sH11.trans (SameM.pl s12)
                refine ite2 (fun hh3 => ?_) (fun hh3 => ?_)
                · obtain ⟨hk1, hl2'⟩ := hb2 hh3
                  subst hk1
                  repeat walk_at "st"
                  refine b_addS (by rw [lb]; exact Nat.le_trans (show 2 * d + 4 ≤ 100 by omega) (by decide)) ?_
                  rw [row_one]
                  repeat walk_at "st"
                  refine e_lst fun nl3 H13 nnl3 hnl3 s13 => ?_
                  repeat walk_at "st"
                  refine e_catL (s13 _ _ hf12) hnl3 (by rw [rows_len, List.length_append, List.length_cons]; simp; omega) fun f3 H14 nf3 hf3 s14 => ?_
                  have hp14 := (hp12.keep s13).keep s14
                  have hlo14 := s14 _ _ (s13 _ _ hlo12)
                  have sH14 : SameM (PL p lo) H H14 := (sH12.trans (SameM.of s13)).trans (SameM.of s14)
                  have hka14 := sH14 _ _ (fun z => z.elim hkap hkalo) hka
                  have f3p : f3 ≠ p := (hp12.keep s13).ne nf3
                  have f3lo : f3 ≠ lo := fun z => by rw [z, s13 _ _ hlo12] at nf3; cases nf3
                  have hf3 : H14 f3 = some (.lst (rows (B ++ ⟨2 * d, Str.ofString "if" :: ws⟩ :: (B2 ++ [⟨2 * d, [Str.ofString "else"]⟩])))) := by
                    rw [hf3, show B ++ (⟨2 * d, Str.ofString "if" :: ws⟩ : PR.Line) :: (B2 ++ [⟨2 * d, [Str.ofString "else"]⟩]) = (B ++ ⟨2 * d, Str.ofString "if" :: ws⟩ :: B2) ++ [⟨2 * d, [Str.ofString "else"]⟩] by simp, rows_append (B ++ ⟨2 * d, Str.ofString "if" :: ws⟩ :: B2) [⟨2 * d, [Str.ofString "else"]⟩]]
                    rfl
                  repeat walk_at "st"
                  refine ⟨p, lo, ka, cl, pl, _, left - m - 1 - m2, d + 1, cs, sy, cells, parts, kn, rfl, by omega, by omega, hp14, by omega, by omega, hlp, ok, hL.next sH14 hlo14, hka14, hkap, hkl, hkg, by omega, fun l3 B3 m3 H15 nl3 hl3 hB3 hm3 ne3 hlo15 hp15 s15 => ?_⟩
                  have ne3 := ne3 hl2'
                  have lB3 := hB3.len
                  have sH15 : SameM (PL p lo) H H15 := sH14.trans s15
                  have hf15 := s15 _ _ (fun z => z.elim f3p f3lo) hf3
                  repeat walk_at "st"
                  refine e_catL hf15 hl3 (by rw [rows_len, rows_len, List.length_append, List.length_cons, List.length_append]; simp; omega) fun f4 H16 nf4 hf4 s16 => ?_
                  have hf4 : H16 f4 = some (.lst (rows (B ++ ⟨2 * d, Str.ofString "if" :: ws⟩ :: (B2 ++ ⟨2 * d, [Str.ofString "else"]⟩ :: B3)))) := by
                    rw [hf4, ← rows_append]
                    simp
                  repeat walk_at "st"
                  refine ⟨f4, _, m + 1 + m2 + m3, _, _, rfl, fresh_back sH15 hp15 hlo15 nf4, hf4, hB.both hd4 (hask kn) hgood hlen hB2 ne2 hB3 ne3, by omega, fun _ _ => by simp, ?_, (hp15.keep s16).mono (by omega), sH15.trans (SameM.of s16)⟩
                  rw [s16 _ _ hlo15, show left - m - 1 - m2 - m3 = left - (m + 1 + m2 + m3) by omega]
                · repeat walk_at "st"
                  refine ⟨f2, _, m + 1 + m2, _, _, rfl, nf2H, hf12, hB.block hd4 hkB.1 hkB.2.1 (hask kn) hgood hlen hB2 ne2, by omega, fun _ _ => by simp, ?_, hp12.mono (by omega), sH12⟩
                  rw [hlo12, show left - m - 1 - m2 = left - (m + 1 + m2) by omega]
            · repeat walk_at "st"
              refine ⟨p, lo, ka, _, left - m - 1, sy, cells, parts, kn, rfl, hp4, by omega, hlp, ok, (hL.next sH4 hlo4).at, hka4, hkap, hkl, hkg, fun ws H5 hpl hgood hlen hp5 s5 => ?_⟩
              have l3 : (PR.wordsText ws).length ≤ 303 := Nat.le_trans (words_len hgood) (by omega)
              refine b_addS (by rw [blanks_len]; exact Nat.le_trans (Nat.add_le_add_left l3 _) (Nat.le_trans (show 2 * d + 303 ≤ 400 by omega) (by decide))) ?_
              repeat walk_at "st"
              have hfa5 := s5 _ _ fp hfa4
              refine e_append hfa5 (by rw [rows_len]; omega) fun H6 hfa6 s6 => ?_
              have hlo5 := s5 _ _ hlp hlo4
              have sH5 : SameM (PL p lo) H H5 := sH4.trans (SameM.pl s5)
              repeat walk_at "st"
              refine ⟨fa, B ++ [⟨2 * d, ws⟩], m + 1, _, _, rfl, nfa, by rw [rows_append]; exact hfa6, hB.plain (by omega) hpl hgood hlen, by omega, fun _ _ => by simp, ?_, (hp5.other s6 (Ne.symm fp)).mono (by omega), sH5.trans2 s6 nfa⟩
              rw [s6 _ _ (Ne.symm flo) hlo5, show left - m - 1 = left - (m + 1) by omega]
        · repeat walk_at "st"
          refine ⟨fa, B, m, _, _, rfl, nfa, hfa, hB, hm, fun _ hl z => ?_, hlo', hp', s'⟩
          rw [z] at hB
          have m0 := hB.none
          exact hh (decide_eq_true (show (0 : Int) < ((left - m : Nat) : Int) by omega))
      · rintro σ H' ⟨fa, B, m, x6, x7, rfl, nfa, hfa, hB, hm, hne, hlo', hp', s'⟩
        repeat walk_at "st"
        exact q fa B m H' nfa hfa hB hm (fun hl => hne (by omega) hl) hlo' hp' s'
end
end K09

namespace K09
open PySem PySem.Spec PyProof.Rows L2 FG
local macro_rules | `(tactic| walk_at "sq") => `(tactic| first
  | assumption
  | exact SqL.of (by assumption)
  | exact SqT.of (by assumption)
  | exact SqLm.l (by assumption)
  | exact SqTm.t (by assumption))
local macro_rules | `(tactic| walk_at "cond") => `(tactic| first
  | assumption
  | (show (0 : Int) < _; omega)
  | (show (0 : Int) < _ ∧ _ < 1073741824; omega))
local macro_rules | `(tactic| walk_at "st") => `(tactic| first
  | with_reducible refine b_seq ?_
  | with_reducible refine b_asg ?_
  | with_reducible refine b_op ?_
  | ((with_reducible refine' b_var ?hv ?_); (case hv => exact rfl))
  | with_reducible refine b_c ?_
  | with_reducible refine b_name ?_
  | with_reducible refine b_I0 ?_
  | with_reducible refine b_cons ?_
  | with_reducible refine b_nil ?_
  | with_reducible refine b_cb ?_
  | with_reducible refine b_call ?_
  | with_reducible refine b_ret ?_
  | with_reducible refine b_ifS ?_
  | with_reducible refine b_test ?_
  | with_reducible refine b_tb ?_
  | with_reducible refine b_bl ?_
  | with_reducible refine b_blP ?_
  | with_reducible refine b_next ?_
  | with_reducible refine b_drop ?_
  | with_reducible refine b_dget ?_
  | with_reducible refine b_makeN ?_
  | with_reducible refine b_pairs ?_
  | with_reducible refine b_pairs0 ?_
  | with_reducible refine b_sub ?_
  | with_reducible refine b_chain ?_
  | with_reducible refine b_and ?_
  | with_reducible refine b_or ?_
  | with_reducible refine b_not ?_
  | with_reducible refine b_andV ?_
  | with_reducible refine b_orV ?_
  | with_reducible refine b_notV ?_
  | with_reducible refine b_if ?_
  | with_reducible refine b_par ?_
  | with_reducible refine b_parE ?_
  | ((with_reducible refine' b_aug ?hv ?_); (case hv => exact rfl))
  | with_reducible refine b_ip ?_
  | with_reducible refine b_retN ?_
  | with_reducible refine b_tup ?_
  | with_reducible refine b_lst ?_
  | with_reducible refine b_sl ?_
  | with_reducible refine b_part ?_
  | with_reducible refine b_partP ?_
  | with_reducible refine b_nopart ?_
  | with_reducible refine b_bm ?_
  | with_reducible refine b_m1 ?_
  | with_reducible refine b_m0 ?_
  | with_reducible refine b_yes ?_
  | with_reducible refine b_un ?_
  | with_reducible refine b_neg ?_
  | with_reducible refine b_isN ?_
  | with_reducible refine b_notN ?_
  | with_reducible refine b_inS ?_
  | with_reducible refine b_int ?_
  | with_reducible refine b_intB ?_
  | with_reducible refine b_abs ?_
  | with_reducible refine b_max ?_
  | with_reducible refine b_min ?_
  | ((with_reducible refine b_eq ?hv ?_); (case hv => exact rfl))
  | ((with_reducible refine b_ne ?hv ?_); (case hv => exact rfl))
  | ((with_reducible refine' b_lenL ?hv ?_); (case hv => walk_at "sq"))
  | ((with_reducible refine' b_lenT ?hv ?_); (case hv => walk_at "sq"))
  | ((with_reducible refine' b_ixL ?hv ?hw ?_); (case hv => walk_at "sq"); (case hw => first | exact rfl | exact at0 | exact at1 | exact at2))
  | ((with_reducible refine' b_ixT ?hv ?hw ?_); (case hv => walk_at "sq"); (case hw => first | exact rfl | exact at0 | exact at1 | exact at2))
  | ((with_reducible refine b_I ?hv ?_); (case hv => walk_at "cond"))
  | with_reducible refine b_lcS ?_
  | with_reducible refine b_lcR ?_
  | with_reducible refine b_lcT ?_
  | with_reducible refine b_lcL ?_
  | with_reducible refine b_forT ?_
  | with_reducible refine b_forL ?_
  | with_reducible refine b_forR ?_
  | with_reducible refine b_turn ?_
  | ((with_reducible refine And.intro (a := wipe _ _ = wipe _ _) ?hv ?_); (case hv => exact rfl))
  | ((with_reducible refine And.intro (a := tyV _ "list" _ _) ?hv ?_); (case hv => exact ty_list (by assumption)))
  | with_reducible refine And.intro (a := ∃ a, V.str _ = V.str a) ⟨_, rfl⟩ ?_
  | (with_reducible refine iteT ?_)
  | (with_reducible refine iteNF ?_)
  | (with_reducible refine iteNT ?_)
  | (with_reducible refine iteVT ?_)
  | (with_reducible refine iteNVT ?_)
  | ((with_reducible refine iteVF ?hv ?_); (case hv => exact rfl))
  | ((with_reducible refine iteNVF ?hv ?_); (case hv => exact rfl))
  | with_reducible refine b_callS ?_
  | with_reducible refine b_xq ?_
  | with_reducible refine b_fld ?_
  | with_reducible refine b_sfld ?_
  | with_reducible refine b_meth ?_
  | with_reducible refine b_make ?_
  | with_reducible refine b_callK ?_
  | with_reducible refine b_sfa ?_
  | with_reducible refine b_lcEnT ?_
  | with_reducible refine b_lcEnL ?_
  | with_reducible refine b_forEnT ?_
  | with_reducible refine b_forEnL ?_
  | with_reducible refine b_lcZ ?_
  | with_reducible refine b_lcZX ?_
  | with_reducible refine b_prop ?_
  | with_reducible refine b_dput ?_
  | with_reducible refine b_din ?_
  | with_reducible refine b_inB ?_
  | with_reducible refine e_revT ?_
  | ((with_reducible refine' e_fld ?hv ?hc ?hn ?hl ?_); (case hv => assumption); (case hc => assumption); (case hn => assumption); (case hl => exact rfl))
  | ((with_reducible refine' e_meth ?hv ?hl ?_); (case hv => assumption); (case hl => exact rfl))
  | (with_reducible refine iteF ?_))

section
variable {P : Program} {w : World} {K : PySem.W.Frag} {mg : Str → Option Value} {base : Heap} {D : Ad}
theorem parts_snoc {sy : Str} {cells : List (Str × Nat)} {B : List PR.Line} {x : Str} {n1 : Nat} : ∀ {ps : List (Str × List PR.Line)} {known : List Str} {n : Nat}, PR.PartsOk sy cells known n ps → PR.Sts ⟨sy, cells, known ++ ps.map (·.1)⟩ 1 n1 B → B ≠ [] → PR.NameOk x → PR.PartsOk sy cells known (n + n1) (ps ++ [(x, B)])
  | [], known, n, h, hS, hne, hx => by
    have : n = 0 := h
    rw [List.map_nil, List.append_nil] at hS
    exact ⟨n1, 0, by omega, hS, hne, hx, rfl⟩
  | p :: ps, known, n, h, hS, hne, hx => by
    obtain ⟨a, b, rfl, h1, h2, h3, h4⟩ := h
    refine ⟨a, b + n1, by omega, h1, h2, h3, ?_⟩
    refine parts_snoc h4 ?_ hne hx
    rw [List.append_assoc]
    exact hS
theorem row_zero (ws : List Str) : PR.rowText ⟨0, ws⟩ = PR.wordsText ws := by
  unfold PR.rowText
  rw [show PR.blanks 0 = Str.empty from rfl, Str.empty_append]
theorem dig_val {m : Nat} (h : m = 1 ∨ m = 2) : PR.valT m = PR.digT m := by rcases h with rfl | rfl <;> decide +kernel
theorem w_symbols (a : Str) : Str.ofString "symbols " ++ a = PR.rowText ⟨0, [Str.ofString "symbols", a]⟩ := by
  rw [row_zero, PR.words_cons, PR.words_one, ← Str.append_assoc]
  rfl
theorem w_part (a : Str) : Str.ofString "part " ++ a = PR.rowText ⟨0, [Str.ofString "part", a]⟩ := by
  rw [row_zero, PR.words_cons, PR.words_one, ← Str.append_assoc]
  rfl
theorem w_cell {c : Str × Nat} (h : c.2 = 1 ∨ c.2 = 2) : Str.ofString "cell " ++ c.1 ++ Str.ofString " " ++ PR.valT c.2 = PR.rowText (PR.cellLine c) := by
  unfold PR.cellLine
  rw [row_zero, dig_val h, PR.words_cons, PR.words_cons, PR.words_one, ← Str.append_assoc (Str.ofString "cell"), ← Str.append_assoc c.1, ← Str.append_assoc _ (c.1 ++ _), ← Str.append_assoc _ c.1]
  rfl
/-- the lines ahead of main -/
def ahead (sy : Str) (cells : List (Str × Nat)) (ps : List (Str × List PR.Line)) : List PR.Line := ⟨0, [Str.ofString "symbols", sy]⟩ :: (cells.map PR.cellLine ++ ps.flatMap PR.partLines)
theorem prog_ahead (sy : Str) (cells : List (Str × Nat)) (ps : List (Str × List PR.Line)) (main : List PR.Line) : PR.progLines sy cells ps main = ahead sy cells ps ++ ⟨0, [Str.ofString "main"]⟩ :: main := by
  unfold PR.progLines ahead
  rw [List.cons_append, List.append_assoc]
theorem ahead_snoc (sy : Str) (cells : List (Str × Nat)) (ps : List (Str × List PR.Line)) (x : Str) (B : List PR.Line) : ahead sy cells (ps ++ [(x, B)]) = ahead sy cells ps ++ ⟨0, [Str.ofString "part", x]⟩ :: B := by
  unfold ahead PR.partLines
  simp
theorem LineGood.top {ws : List Str} (h : ws ≠ []) (hl : ws.length ≤ 6) (hg : ∀ x ∈ ws, PR.goodW x = true) : LineGood ⟨0, ws⟩ := ⟨Nat.zero_le _, h, hl, hg⟩
theorem LoreOk.parts_ok {sy : Str} {cells : List (Str × Nat)} {parts : List Str} (h : LoreOk sy cells parts) {c : Str} (hc : c ∈ parts) : PR.NameOk c ∧ PR.goodW c = true := by
  obtain ⟨a, b, d⟩ := PR.eight_ok c (h.nm _ (List.mem_append_right _ hc))
  exact ⟨⟨a, b⟩, d⟩
/-- what a drawn program is -/
structure Prog (sy : Str) (cells : List (Str × Nat)) (parts : List Str) (L : List PR.Line) : Prop where
  ex : ∃ (ps : List (Str × List PR.Line)) (main : List PR.Line) (n m : Nat), L = PR.progLines sy cells ps main ∧ ps.map (·.1) = parts ∧ PR.PartsOk sy cells [] n ps ∧ PR.Sts ⟨sy, cells, parts⟩ 1 m main ∧ main ≠ [] ∧ n + m ≤ 20
  good : ∀ l ∈ L, LineGood l
  len : L.length ≤ 100
def sp_grown (K : PySem.W.Frag) : Sp := fun vs H Q _ => ∃ (p lo cl pl : Addr) (n left : Nat) (cs : List V) (sy : Str) (cells : List (Str × Nat)) (parts : List Str), vs = [.ref p, .ref lo] ∧ PotAt H p n ∧ n ≤ 80000000 ∧ lo ≠ p ∧ LoreOk sy cells parts ∧ LoreX K p lo cl pl cs sy left cells parts H ∧
  ∀ (l : Addr) (L : List PR.Line) (left' : Nat) (H' : Hp), H l = none → H' l = some (.lst (rows L)) → Prog sy cells parts L → H' lo = some (.dK (loreD sy left' cl pl)) → PotAt H' p (n + 1000) → SameM (PL p lo) H H' → Q (.ref l) H'
theorem ok__law_grown (T : Txt K mg D) {k : Nat} : FnOk P w K mg base CX0 (k + 9) D.f__law_grown D.d__law_grown P__law_grown (sp_grown K) := by
  have G__law_wide_body : FnOk P w K mg base CX0 (k + 8) D.f__law_wide_body D.d__law_wide_body P__law_wide_body (sp_wbody K 4) := ok__law_wide_body T 4
  refine T.f__law_grown.ok sc__law_grown (fun vs H Q E h => ?_) (fun cdv A outer s H vs Q E hr h => ?_)
  · obtain ⟨p, lo, cl, pl, n, left, cs, sy, cells, parts, rfl, _⟩ := h
    rfl
  · obtain ⟨p, lo, cl, pl, n, left, cs, sy, cells, parts, rfl, hp, hn, hlp, ok, hL, q⟩ := h
    obtain ⟨sy1, sy2, sy3⟩ := PR.six_sym sy ok.sy
    have lcs : cs.length = cells.length := by rw [hL.cd.length, List.length_map]
    have lc := ok.cl
    have lp := ok.pl
    have plo : pl ≠ lo := fun z => by have := hL.hpl; rw [z, hL.hlo] at this; cases this
    have clo : cl ≠ lo := fun z => by have := hL.hcl; rw [z, hL.hlo] at this; cases this
    refine ⟨_, (pss_cons (ps_set (i := 2) sc__law_grown.nd rfl (by first | exact .inl rfl | exact .inr rfl) (pe_op op_cat (pe_lst (pa_cons (pe_op o_addS pe_str (pe_dget (unit1 hr) (pv 1) pe_str (fun _ _ => rfl))) pa_nil)) (pe_lc (own := [("_law_name", 4), ("_law_most", 5)]) (g := gTup K 2 (gCons (gName 4) (gCons (gName 5) gNil))) (tt := tYes) (by rfl) sc__law_grown.nd (pi_listK (K := K) (by rfl) (pe_dget (unit1 hr) (pv 1) pe_str (fun _ _ => rfl))) (blkOk_by (own := [("_law_name", 4), ("_law_most", 5)]) (N := N__law_grown) (sc := defScope s__law_grown) (by decide +kernel)) (fun _ _ _ _ _ => (pg_tup (by rfl) (pgs_cons (pg_name (i := 4) sc__law_grown.nd rfl (by first | exact .inl rfl | exact .inr rfl)) (pgs_cons (pg_name (i := 5) sc__law_grown.nd rfl (by first | exact .inl rfl | exact .inr rfl)) pgs_nil)))) (fun _ _ _ _ _ => pts_nil) (fun _ _ _ _ _ => (pe_op o_addS (pe_op o_addS (pe_op o_addS pe_str (pv 4)) pe_str) (pe_callTy q_strI (by rfl) T.z_str (by decide +kernel) (pa_cons (pv 5) pa_nil)))))))
      (pss_cons (ps_for PassesOwn.never rfl (pi_enumLK (K := K) (by rfl) (by rfl) T.z_enumerate (pa_cons (pe_dget (unit1 hr) (pv 1) pe_str (fun _ _ => rfl)) pa_nil)) (pg_tup (by rfl) (pgs_cons (pg_name (i := 3) sc__law_grown.nd rfl (by first | exact .inl rfl | exact .inr rfl)) (pgs_cons (pg_name (i := 4) sc__law_grown.nd rfl (by first | exact .inl rfl | exact .inr rfl)) pgs_nil))) (pss_cons (ps_dput (unit1 hr) (pv 1) pe_str pe_int rfl)
      (pss_one (ps_set (i := 2) sc__law_grown.nd rfl (by first | exact .inl rfl | exact .inr rfl) (pe_op op_cat (pe_op op_cat (pv 2) (pe_lst (pa_cons (pe_op o_addS pe_str (pv 4)) pa_nil))) (pe_call G__law_wide_body hr (by rfl) T.g__law_wide_body T.f__law_wide_body.kp T.b__law_wide_body .nil pass0 (pa_cons (pv 0) (pa_cons (pv 1) (pa_cons (pe_slice (slK (K := K) (r := rSlL) (by rfl) sl_list) (pe_dget (unit1 hr) (pv 1) pe_str (fun _ _ => rfl)) po_none (po_some (pv 3))) (pa_cons pe_int pa_nil))))))))))
      (pss_cons (ps_dput (unit1 hr) (pv 1) pe_str (pe_op op_sub pe_int (pe_op op_mulW pe_int (pe_callB (callK (K := K) (r := qLen) (by rfl) q_len) (by rfl) T.z_len (by decide +kernel) (pa_cons (pe_dget (unit1 hr) (pv 1) pe_str (fun _ _ => rfl)) pa_nil)))) rfl)
      (pss_one (ps_ret (pe_op op_cat (pe_op op_cat (pv 2) (pe_lst (pa_cons pe_str pa_nil))) (pe_call G__law_wide_body hr (by rfl) T.g__law_wide_body T.f__law_wide_body.kp T.b__law_wide_body .nil pass0 (pa_cons (pv 0) (pa_cons (pv 1) (pa_cons (pe_dget (unit1 hr) (pv 1) pe_str (fun _ _ => rfl)) (pa_cons pe_int pa_nil))))))))))), ?_⟩
    repeat walk_at "st"
    refine e_dgetS hL.hlo rfl ?_
    repeat walk_at "st"
    refine b_addS (by show 8 + sy.length ≤ _; exact Nat.le_trans (by omega : 8 + sy.length ≤ 100) (by decide)) ?_
    rw [w_symbols]
    repeat walk_at "st"
    refine e_lst fun fl H1 nfl hfl s1 => ?_
    have flp : fl ≠ p := hp.ne nfl
    repeat walk_at "st"
    refine e_dgetS (s1 _ _ hL.hlo) rfl ?_
    repeat walk_at "st"
    refine e_lcL (SqL.of (s1 _ _ hL.hcl)) (fun S i H' => H' S = some (.lst (rows ((cells.take i).map PR.cellLine))) ∧ Same H1 H') ?_ ?_ ?_ ?_
    · intro S H' nS hS sS
      exact ⟨hS, sS⟩
    · rintro S i H' nS ⟨h1, h2⟩
      exact SqL.of (h2 _ _ (s1 _ _ hL.hcl))
    · rintro S i x H' nS hx ⟨h1, h2⟩
      obtain ⟨d, hd, hv⟩ := hL.cd.get hx
      rw [List.getElem?_map] at hd
      cases ey : cells[i]? with
      | none => rw [ey] at hd; cases hd
      | some c =>
      rw [ey] at hd
      cases hd
      have hc : c ∈ cells := List.mem_of_getElem? ey
      have cm := ok.most c hc
      obtain ⟨cn, cg⟩ := ok.cells_ok hc
      have hv' := (hv.same s1).same h2
      obtain ⟨ta, xs, rfl, ht, hta⟩ := hv'.tupE
      obtain ⟨x, y, rfl, hx', hy⟩ := hta.two
      cases hx'
      cases hy
      have l1 := (PR.goodW_ok cg).2
      have l2 := (PR.goodW_ok (good_val c.2)).2
      repeat walk_at "st"
      refine e_gtup2 (ht.t) ?_
      repeat walk_at "st"
      have l3 : (Str.ofString "cell " ++ c.1).length ≤ 105 := by rw [Str.length_append]; exact Nat.add_le_add_left l1 5
      have l4 : (Str.ofString "cell " ++ c.1 ++ Str.ofString " ").length ≤ 106 := by rw [Str.length_append]; exact Nat.add_le_add_right l3 1
      refine b_addS (Nat.le_trans (Nat.add_le_add_left l1 _) (by decide)) ?_
      repeat walk_at "st"
      refine b_addS (Nat.le_trans (Nat.add_le_add_right l3 _) (by decide)) ?_
      repeat walk_at "st"
      refine b_strI (by omega) ?_
      rw [PR.valT_str c.2 (by omega)]
      repeat walk_at "st"
      refine b_addS (Nat.le_trans (Nat.add_le_add l4 l2) (by decide)) ?_
      rw [w_cell cm]
      repeat walk_at "st"
      refine e_app h1 (by rw [rows_len, List.length_map, List.length_take]; omega) fun H3 h3 s3 => ⟨?_, Same.new h2 s3 fun _ z => z ▸ nS⟩
      rw [List.take_add_one, ey, List.map_append, rows_append]
      exact h3
    · rintro S H2 nS ⟨h1, h2⟩
      rw [lcs, List.take_length] at h1
      repeat walk_at "st"
      refine e_catL (h2 _ _ hfl) h1 (by rw [rows_len, List.length_map]; simp; omega) fun f0 H3 nf0 hf0 s3 => ?_
      have hf0 : H3 f0 = some (.lst (rows (ahead sy cells []))) := by
        rw [hf0]
        unfold ahead
        rw [List.flatMap_nil, List.append_nil]
        rfl
      have sH3 : Same H H3 := Same.trans (Same.trans s1 h2) s3
      have nf0H : H f0 = none := none_back (Same.trans s1 h2) nf0
      have hlo3 := sH3 _ _ hL.hlo
      have hpl3 := sH3 _ _ hL.hpl
      repeat walk_at "st"
      refine e_dgetS hlo3 rfl ?_
      repeat walk_at "st"
      refine e_forEnL (SqL.of hpl3) (fun i σ H' => ∃ (fa : Addr) (ps : List (Str × List PR.Line)) (nn left' : Nat) (x3 x4 x5 : Option V), σ = [some (.ref p), some (.ref lo), some (.ref fa), x3, x4, x5] ∧ H fa = none ∧ H' fa = some (.lst (rows (ahead sy cells ps))) ∧ ps.map (·.1) = parts.take i ∧ PR.PartsOk sy cells [] nn ps ∧ nn ≤ 5 * i ∧ (∀ l ∈ ahead sy cells ps, LineGood l) ∧ (ahead sy cells ps).length ≤ 3 + 11 * i ∧ H' lo = some (.dK (loreD sy left' cl pl)) ∧ PotAt H' p (n + 151 * i) ∧ SameM (PL p lo) H H') ?_ ?_ ?_ ?_
      · refine ⟨f0, [], 0, left, _, _, _, rfl, nf0H, hf0, by simp, rfl, Nat.zero_le _, ?_, ?_, hlo3, hp.keep sH3, SameM.of sH3⟩
        · intro l hl
          unfold ahead at hl
          rcases List.mem_cons.mp hl with rfl | hl
          · exact LineGood.top (by simp) (by show 2 ≤ 6; decide) (two_good (by decide +kernel) sy2)
          · rw [List.flatMap_nil, List.append_nil] at hl
            obtain ⟨c, hc, rfl⟩ := List.mem_map.mp hl
            have cm := ok.most c hc
            refine LineGood.top (by simp) (by show 3 ≤ 6; decide) (three_good (by decide +kernel) (ok.cells_ok hc).2 ?_)
            rw [← dig_val cm]
            exact good_val _
        · unfold ahead
          rw [List.flatMap_nil, List.append_nil, List.length_cons, List.length_map]
          omega
      · rintro i σ H' ⟨fa, ps, nn, left', x3, x4, x5, rfl, nfa, hfa, hps, hpo, hnn, hg, hlen, hlo', hp', s'⟩
        exact SqL.of (s' _ _ (fun z => z.elim hL.plp plo) hL.hpl)
      · rintro i x Tt σ H' H4 hx ⟨fa, ps, nn, left', x3, x4, x5, rfl, nfa, hfa, hps, hpo, hnn, hg, hlen, hlo', hp', s'⟩ nTt hTt s4
        rw [List.getElem?_map] at hx
        cases ey : parts[i]? with
        | none => rw [ey] at hx; cases hx
        | some nm =>
        rw [ey] at hx
        cases hx
        have hnm : nm ∈ parts := List.mem_of_getElem? ey
        obtain ⟨pn, pg⟩ := ok.parts_ok hnm
        have hi2 : i < parts.length := (List.getElem?_eq_some_iff.mp ey).1
        have l1 := (PR.goodW_ok pg).2
        have fp : fa ≠ p := hp.ne nfa
        have flo : fa ≠ lo := fun z => by rw [z, hL.hlo] at nfa; cases nfa
        refine e_gtup2 (SqT.of hTt) ?_
        repeat walk_at "st"
        refine e_dput (k := .inr "left") (s4 _ _ hlo') (show 4 < 100000 by decide) fun H5 hlo5 s5 => ?_
        have hlo5 : H5 lo = some (.dK (loreD sy 5 cl pl)) := hlo5
        have hp5 := (hp'.keep s4).other s5 (Ne.symm hlp)
        have hfa5 := s5 _ _ flo (s4 _ _ hfa)
        have sH5 : SameM (PL p lo) H H5 := (s'.trans (SameM.of s4)).trans (SameM.lol s5)
        repeat walk_at "st"
        refine b_addS (Nat.le_trans (Nat.add_le_add_left l1 _) (by decide)) ?_
        rw [w_part]
        repeat walk_at "st"
        refine e_lst fun nl H6 nnl hnl s6 => ?_
        repeat walk_at "st"
        refine e_catL (s6 _ _ hfa5) hnl (by rw [rows_len]; simp; omega) fun f1 H7 nf1 hf1 s7 => ?_
        have hp7 := (hp5.keep s6).keep s7
        have hlo7 := s7 _ _ (s6 _ _ hlo5)
        have sH7 : SameM (PL p lo) H H7 := (sH5.trans (SameM.of s6)).trans (SameM.of s7)
        have f1p : f1 ≠ p := (hp5.keep s6).ne nf1
        have f1lo : f1 ≠ lo := fun z => by rw [z, s6 _ _ hlo5] at nf1; cases nf1
        have hf1 : H7 f1 = some (.lst (rows (ahead sy cells ps ++ [⟨0, [Str.ofString "part", nm]⟩]))) := by rw [rows_append]; exact hf1
        repeat walk_at "st"
        refine e_dgetS hlo7 rfl ?_
        repeat walk_at "st"
        have hpl7 := sH7 _ _ (fun z => z.elim hL.plp plo) hL.hpl
        refine e_slL (SqL.of hpl7) fun ka H8 nka hka s8 => ?_
        rw [cut_to, ← List.map_take] at hka
        have hlo8 := s8 _ _ hlo7
        have sH8 : SameM (PL p lo) H H8 := sH7.trans (SameM.of s8)
        have hp8 := hp7.keep s8
        repeat walk_at "st"
        refine ⟨p, lo, ka, cl, pl, n + 151 * i, 5, 1, cs, sy, cells, parts, parts.take i, rfl, by decide, by decide, hp8, by omega, by decide, hlp, ok, hL.next sH8 hlo8, hka, hp7.ne nka, by rw [List.length_take]; omega, fun x hx => (ok.parts_ok (List.mem_of_mem_take hx)).2, by decide, fun l2 B2 m2 H9 nl2 hl2 hB2 hm2 ne2 hlo9 hp9 s9 => ?_⟩
        have ne2 := ne2 (by decide)
        have lB2 := hB2.len
        have sH9 : SameM (PL p lo) H H9 := sH8.trans s9
        have hf9 := s9 _ _ (fun z => z.elim f1p f1lo) (s8 _ _ hf1)
        repeat walk_at "st"
        refine e_catL hf9 hl2 (by rw [rows_len, rows_len, List.length_append]; simp; omega) fun f2 H10 nf2 hf2 s10 => ?_
        have hf2 : H10 f2 = some (.lst (rows (ahead sy cells (ps ++ [(nm, B2)])))) := by
          rw [hf2, ← rows_append, ahead_snoc, List.append_assoc]
          rfl
        repeat walk_at "st"
        refine ⟨f2, ps ++ [(nm, B2)], nn + m2, 5 - m2, _, _, _, rfl, fresh_back sH9 hp9 hlo9 nf2, hf2, ?_, parts_snoc hpo ?_ ne2 pn, by omega, ?_, ?_, s10 _ _ hlo9, (hp9.keep s10).mono (by omega), sH9.trans (SameM.of s10)⟩
        · rw [List.map_append, hps, List.take_add_one, ey]
          rfl
        · rw [List.nil_append, hps]
          exact hB2.sts
        · intro l hl
          rw [ahead_snoc] at hl
          rcases List.mem_append.mp hl with z | z
          · exact hg l z
          · rcases List.mem_cons.mp z with rfl | z
            · exact LineGood.top (by simp) (by show 2 ≤ 6; decide) (two_good (by decide +kernel) pg)
            · exact hB2.good l z
        · rw [ahead_snoc, List.length_append, List.length_cons]
          omega
      · rintro σ H' ⟨fa, ps, nn, left', x3, x4, x5, rfl, nfa, hfa, hps, hpo, hnn, hg, hlen, hlo', hp', s'⟩
        rw [List.length_map] at hps hnn hlen hp'
        rw [List.take_length] at hps
        have fp : fa ≠ p := hp.ne nfa
        have flo : fa ≠ lo := fun z => by rw [z, hL.hlo] at nfa; cases nfa
        have hpl' := s' _ _ (fun z => z.elim hL.plp plo) hL.hpl
        repeat walk_at "st"
        refine e_dgetS hlo' rfl ?_
        repeat walk_at "st"
        refine b_I (cmul (by decide) (by decide) (by rw [List.length_map]; omega) (by rw [List.length_map]; omega)) ?_
        repeat walk_at "st"
        refine e_dput (k := .inr "left") hlo' (show 4 < 100000 by decide) fun H5 hlo5 s5 => ?_
        have hlo5 : H5 lo = some (.dK (loreD sy (20 - 5 * parts.length) cl pl)) := by
          rw [hlo5]
          show some (HO.dK [_, (_, V.int (20 - 5 * (((parts.map V.str).length : Nat) : Int))), _, _]) = _
          rw [List.length_map, show (20 - 5 * ((parts.length : Nat) : Int)) = ((20 - 5 * parts.length : Nat) : Int) by omega]
          rfl
        have hp5 := hp'.other s5 (Ne.symm hlp)
        have hfa5 := s5 _ _ flo hfa
        have sH5 : SameM (PL p lo) H H5 := s'.trans (SameM.lol s5)
        repeat walk_at "st"
        refine e_lst fun nl H6 nnl hnl s6 => ?_
        repeat walk_at "st"
        refine e_catL (s6 _ _ hfa5) hnl (by rw [rows_len]; simp; omega) fun f1 H7 nf1 hf1 s7 => ?_
        have hp7 := (hp5.keep s6).keep s7
        have hlo7 := s7 _ _ (s6 _ _ hlo5)
        have sH7 : SameM (PL p lo) H H7 := (sH5.trans (SameM.of s6)).trans (SameM.of s7)
        have f1p : f1 ≠ p := (hp5.keep s6).ne nf1
        have f1lo : f1 ≠ lo := fun z => by rw [z, s6 _ _ hlo5] at nf1; cases nf1
        have hf1 : H7 f1 = some (.lst (rows (ahead sy cells ps ++ [⟨0, [Str.ofString "main"]⟩]))) := by
          rw [rows_append, hf1]
          show _ = some (HO.lst (_ ++ [V.str (PR.rowText ⟨0, [Str.ofString "main"]⟩)]))
          rw [row_zero, PR.words_one]
        repeat walk_at "st"
        refine e_dgetS hlo7 rfl ?_
        repeat walk_at "st"
        have hpl7 := sH7 _ _ (fun z => z.elim hL.plp plo) hL.hpl
        refine ⟨p, lo, pl, cl, pl, _, 20 - 5 * parts.length, 1, cs, sy, cells, parts, parts, rfl, by decide, by decide, hp7, by omega, by omega, hlp, ok, hL.next sH7 hlo7, hpl7, hL.plp, lp, fun x hx => (ok.parts_ok hx).2, by decide, fun l2 B2 m2 H9 nl2 hl2 hB2 hm2 ne2 hlo9 hp9 s9 => ?_⟩
        have ne2 := ne2 (by omega)
        have lB2 := hB2.len
        have sH9 : SameM (PL p lo) H H9 := sH7.trans s9
        have hf9 := s9 _ _ (fun z => z.elim f1p f1lo) hf1
        repeat walk_at "st"
        refine e_catL hf9 hl2 (by rw [rows_len, rows_len, List.length_append]; simp; omega) fun f2 H10 nf2 hf2 s10 => ?_
        have hf2 : H10 f2 = some (.lst (rows (PR.progLines sy cells ps B2))) := by
          rw [hf2, ← rows_append, prog_ahead, List.append_assoc]
          rfl
        repeat walk_at "st"
        refine q f2 _ _ H10 (fresh_back sH9 hp9 hlo9 nf2) hf2 ⟨⟨ps, B2, nn, m2, rfl, hps, hpo, hB2.sts, ne2, by omega⟩, ?_, ?_⟩ (s10 _ _ hlo9) ((hp9.keep s10).mono (by omega)) (sH9.trans (SameM.of s10))
        · intro l hl
          rw [prog_ahead] at hl
          rcases List.mem_append.mp hl with z | z
          · exact hg l z
          · rcases List.mem_cons.mp z with rfl | z
            · exact LineGood.top (by simp) (by show 1 ≤ 6; decide) (fun x hx => by rw [List.mem_singleton.mp hx]; decide +kernel)
            · exact hB2.good l z
        · rw [prog_ahead, List.length_append, List.length_cons]
          omega
end
end K09

namespace K09
open PySem PySem.Spec PyProof.Rows L2 FG
local macro_rules | `(tactic| walk_at "sq") => `(tactic| first
  | assumption
  | exact SqL.of (by assumption)
  | exact SqT.of (by assumption)
  | exact SqLm.l (by assumption)
  | exact SqTm.t (by assumption))
local macro_rules | `(tactic| walk_at "cond") => `(tactic| first
  | assumption
  | (show (0 : Int) < _; omega)
  | (show (0 : Int) < _ ∧ _ < 1073741824; omega))
local macro_rules | `(tactic| walk_at "st") => `(tactic| first
  | with_reducible refine b_seq ?_
  | with_reducible refine b_asg ?_
  | with_reducible refine b_op ?_
  | ((with_reducible refine' b_var ?hv ?_); (case hv => exact rfl))
  | with_reducible refine b_c ?_
  | with_reducible refine b_name ?_
  | with_reducible refine b_I0 ?_
  | with_reducible refine b_cons ?_
  | with_reducible refine b_nil ?_
  | with_reducible refine b_cb ?_
  | with_reducible refine b_call ?_
  | with_reducible refine b_ret ?_
  | with_reducible refine b_ifS ?_
  | with_reducible refine b_test ?_
  | with_reducible refine b_tb ?_
  | with_reducible refine b_bl ?_
  | with_reducible refine b_blP ?_
  | with_reducible refine b_next ?_
  | with_reducible refine b_drop ?_
  | with_reducible refine b_dget ?_
  | with_reducible refine b_makeN ?_
  | with_reducible refine b_pairs ?_
  | with_reducible refine b_pairs0 ?_
  | with_reducible refine b_sub ?_
  | with_reducible refine b_chain ?_
  | with_reducible refine b_and ?_
  | with_reducible refine b_or ?_
  | with_reducible refine b_not ?_
  | with_reducible refine b_andV ?_
  | with_reducible refine b_orV ?_
  | with_reducible refine b_notV ?_
  | with_reducible refine b_if ?_
  | with_reducible refine b_par ?_
  | with_reducible refine b_parE ?_
  | ((with_reducible refine' b_aug ?hv ?_); (case hv => exact rfl))
  | with_reducible refine b_ip ?_
  | with_reducible refine b_retN ?_
  | with_reducible refine b_tup ?_
  | with_reducible refine b_lst ?_
  | with_reducible refine b_sl ?_
  | with_reducible refine b_part ?_
  | with_reducible refine b_partP ?_
  | with_reducible refine b_nopart ?_
  | with_reducible refine b_bm ?_
  | with_reducible refine b_m1 ?_
  | with_reducible refine b_m0 ?_
  | with_reducible refine b_yes ?_
  | with_reducible refine b_un ?_
  | with_reducible refine b_neg ?_
  | with_reducible refine b_isN ?_
  | with_reducible refine b_notN ?_
  | with_reducible refine b_inS ?_
  | with_reducible refine b_int ?_
  | with_reducible refine b_intB ?_
  | with_reducible refine b_abs ?_
  | with_reducible refine b_max ?_
  | with_reducible refine b_min ?_
  | ((with_reducible refine b_eq ?hv ?_); (case hv => exact rfl))
  | ((with_reducible refine b_ne ?hv ?_); (case hv => exact rfl))
  | ((with_reducible refine' b_lenL ?hv ?_); (case hv => walk_at "sq"))
  | ((with_reducible refine' b_lenT ?hv ?_); (case hv => walk_at "sq"))
  | ((with_reducible refine' b_ixL ?hv ?hw ?_); (case hv => walk_at "sq"); (case hw => first | exact rfl | exact at0 | exact at1 | exact at2))
  | ((with_reducible refine' b_ixT ?hv ?hw ?_); (case hv => walk_at "sq"); (case hw => first | exact rfl | exact at0 | exact at1 | exact at2))
  | ((with_reducible refine b_I ?hv ?_); (case hv => walk_at "cond"))
  | with_reducible refine b_lcS ?_
  | with_reducible refine b_lcR ?_
  | with_reducible refine b_lcT ?_
  | with_reducible refine b_lcL ?_
  | with_reducible refine b_forT ?_
  | with_reducible refine b_forL ?_
  | with_reducible refine b_forR ?_
  | with_reducible refine b_turn ?_
  | ((with_reducible refine And.intro (a := wipe _ _ = wipe _ _) ?hv ?_); (case hv => exact rfl))
  | ((with_reducible refine And.intro (a := tyV _ "list" _ _) ?hv ?_); (case hv => exact ty_list (by assumption)))
  | with_reducible refine And.intro (a := ∃ a, V.str _ = V.str a) ⟨_, rfl⟩ ?_
  | (with_reducible refine iteT ?_)
  | (with_reducible refine iteNF ?_)
  | (with_reducible refine iteNT ?_)
  | (with_reducible refine iteVT ?_)
  | (with_reducible refine iteNVT ?_)
  | ((with_reducible refine iteVF ?hv ?_); (case hv => exact rfl))
  | ((with_reducible refine iteNVF ?hv ?_); (case hv => exact rfl))
  | with_reducible refine b_callS ?_
  | with_reducible refine b_xq ?_
  | with_reducible refine b_fld ?_
  | with_reducible refine b_sfld ?_
  | with_reducible refine b_meth ?_
  | with_reducible refine b_make ?_
  | with_reducible refine b_callK ?_
  | with_reducible refine b_sfa ?_
  | with_reducible refine b_lcEnT ?_
  | with_reducible refine b_lcEnL ?_
  | with_reducible refine b_forEnT ?_
  | with_reducible refine b_forEnL ?_
  | with_reducible refine b_lcZ ?_
  | with_reducible refine b_lcZX ?_
  | with_reducible refine b_prop ?_
  | with_reducible refine b_dput ?_
  | with_reducible refine b_din ?_
  | with_reducible refine b_inB ?_
  | with_reducible refine e_revT ?_
  | ((with_reducible refine' e_fld ?hv ?hc ?hn ?hl ?_); (case hv => assumption); (case hc => assumption); (case hn => assumption); (case hl => exact rfl))
  | ((with_reducible refine' e_meth ?hv ?hl ?_); (case hv => assumption); (case hl => exact rfl))
  | (with_reducible refine iteF ?_))

section
variable {P : Program} {w : World} {K : PySem.W.Frag} {mg : Str → Option Value} {base : Heap} {D : Ad}
theorem join_len (y : Str) (c : Nat) : ∀ (ps : List Str), (∀ x ∈ ps, x.length ≤ c) → (Txt.join y ps).length ≤ (c + y.length) * ps.length
  | [], _ => by
    rw [TL.join_eq]
    exact Nat.zero_le _
  | [a], h => by
    rw [TL.join_eq]
    have := h a List.mem_cons_self
    show a.length ≤ (c + y.length) * 1
    omega
  | a :: b :: r, h => by
    have ih := join_len y c (b :: r) fun x hx => h x (List.mem_cons_of_mem _ hx)
    have ha := h a List.mem_cons_self
    rw [TL.join_eq] at ih ⊢
    show (a ++ y ++ Str.join y (b :: r)).length ≤ _
    rw [Str.length_append, Str.length_append, List.length_cons, Nat.mul_succ]
    omega
theorem LineGood.ok {l : PR.Line} (h : LineGood l) : PR.okLine l := ⟨h.ne, fun x hx => (PR.goodW_ok (h.good x hx)).1⟩
theorem LineGood.row {l : PR.Line} (h : LineGood l) : (PR.rowText l).length ≤ 614 := by
  have h1 := words_len h.good
  have h2 := h.len
  have h3 := h.ind
  unfold PR.rowText
  rw [Str.length_append, blanks_len]
  omega
theorem good_sign {x : Str} (h : PR.goodW x = true) {c : Nat} (hc : c ∈ x.cps.toList) : c < 16 ^ 8 := by
  unfold PR.goodW at h
  rw [Bool.and_eq_true, Bool.and_eq_true] at h
  have := List.all_eq_true.mp h.2.2 c hc
  rw [Bool.and_eq_true, decide_eq_true_eq, decide_eq_true_eq] at this
  omega
theorem LineGood.sign {l : PR.Line} (h : LineGood l) {c : Nat} (hc : c ∈ (PR.rowText l).cps.toList) : c < 16 ^ 8 := by
  unfold PR.rowText at hc
  rw [PR.toL_append] at hc
  rcases List.mem_append.mp hc with z | z
  · have := List.eq_of_mem_replicate (show c ∈ List.replicate l.ind 32 from z)
    omega
  · unfold PR.wordsText at z
    rcases join_mem z with z | ⟨x, hx, z⟩
    · have : c ∈ [32] := z
      rw [List.mem_singleton.mp this]
      decide
    · exact good_sign (h.good x hx) z
theorem rows_sum : ∀ {M : List PR.Line}, (∀ x ∈ M, LineGood x) → ((M.map PR.rowText).map (·.length)).sum ≤ 614 * M.length
  | [], _ => Nat.le_refl _
  | a :: M, hM => by
    have h1 := (hM a List.mem_cons_self).row
    have h2 := rows_sum (M := M) fun x hx => hM x (List.mem_cons_of_mem _ hx)
    rw [List.map_cons, List.map_cons, List.sum_cons, List.length_cons]
    omega
theorem Prog.lok {sy : Str} {cells : List (Str × Nat)} {parts : List Str} {L : List PR.Line} (h : Prog sy cells parts L) : LOk L := ⟨fun l hl => (h.good l hl).ok, Nat.le_trans h.len (by decide), fun l hl => Nat.le_trans (h.good l hl).row (by decide), fun l hl x hx => PR.goodW_lay ((h.good l hl).good x hx)⟩
def pageOf (L : List PR.Line) : Str := Txt.join (Str.ofString "\n") (L.map PR.rowText)
theorem Prog.page_len {sy : Str} {cells : List (Str × Nat)} {parts : List Str} {L : List PR.Line} (h : Prog sy cells parts L) : (pageOf L).length ≤ 90000 := by
  have h1 := join_len (Str.ofString "\n") 614 (L.map PR.rowText) fun x hx => by
    obtain ⟨l, hl, rfl⟩ := List.mem_map.mp hx
    exact (h.good l hl).row
  have h2 := h.len
  rw [List.length_map] at h1
  have h3 : (Str.ofString "\n").length = 1 := rfl
  rw [h3] at h1
  show (Txt.join (Str.ofString "\n") (L.map PR.rowText)).length ≤ 90000
  omega
theorem Prog.page_sign {sy : Str} {cells : List (Str × Nat)} {parts : List Str} {L : List PR.Line} (h : Prog sy cells parts L) : ∀ c ∈ (pageOf L).cps.toList, c < 16 ^ 8 := by
  intro c hc
  rcases join_mem hc with z | ⟨x, hx, z⟩
  · have : c ∈ [10] := z
    rw [List.mem_singleton.mp this]
    decide
  · obtain ⟨l, hl, rfl⟩ := List.mem_map.mp hx
    exact (h.good l hl).sign z
theorem Prog.ne {sy : Str} {cells : List (Str × Nat)} {parts : List Str} {L : List PR.Line} (h : Prog sy cells parts L) : L ≠ [] := by
  obtain ⟨ps, main, n, m, rfl, _⟩ := h.ex
  unfold PR.progLines
  simp
theorem Prog.split {sy : Str} {cells : List (Str × Nat)} {parts : List Str} {L : List PR.Line} (h : Prog sy cells parts L) : Txt.split (pageOf L) "\n" = L.map PR.rowText := PR.lines_text h.ne h.lok.ok
theorem Prog.read {sy : Str} {cells : List (Str × Nat)} {parts : List Str} {L : List PR.Line} (h : Prog sy cells parts L) (ok : LoreOk sy cells parts) : ∃ s, PR.readAll L = some s ∧ s.sy = sy ∧ s.cells = cells ∧ s.bodies.map (·.1) = parts := by
  obtain ⟨ps, main, n, m, rfl, rfl, hpo, hst, hne, h20⟩ := h.ex
  obtain ⟨s, h1, h2, h3, h4⟩ := PR.read_all (PR.six_sym sy ok.sy).1 ok.cl (fun c hc => ⟨ok.most c hc, (ok.cells_ok hc).1⟩) (by have := ok.pl; rwa [List.length_map] at this) ok.nd hpo hst hne h20
  exact ⟨s, h1, h2, h3, h4⟩
theorem Bodies.keysV {M : Addr → Prop} {H : Hp} : ∀ {kvs : List (Key × V)} {bs : List (Str × List PR.St)}, Bodies D M H kvs bs → kvs.map (fun p => kV p.1) = (bs.map (·.1)).map V.str
  | _, _, .nil => rfl
  | _, _, .cons n h t r => by
    rw [List.map_cons, List.map_cons, List.map_cons, Bodies.keysV r]
    rfl
end
end K09

namespace K09
open PySem PySem.Spec PyProof.Rows L2 FG
local macro_rules | `(tactic| walk_at "sq") => `(tactic| first
  | assumption
  | exact SqL.of (by assumption)
  | exact SqT.of (by assumption)
  | exact SqLm.l (by assumption)
  | exact SqTm.t (by assumption))
local macro_rules | `(tactic| walk_at "cond") => `(tactic| first
  | assumption
  | (show (0 : Int) < _; omega)
  | (show (0 : Int) < _ ∧ _ < 1073741824; omega))
local macro_rules | `(tactic| walk_at "st") => `(tactic| first
  | with_reducible refine b_seq ?_
  | with_reducible refine b_asg ?_
  | with_reducible refine b_op ?_
  | ((with_reducible refine' b_var ?hv ?_); (case hv => exact rfl))
  | with_reducible refine b_c ?_
  | with_reducible refine b_name ?_
  | with_reducible refine b_I0 ?_
  | with_reducible refine b_cons ?_
  | with_reducible refine b_nil ?_
  | with_reducible refine b_cb ?_
  | with_reducible refine b_call ?_
  | with_reducible refine b_ret ?_
  | with_reducible refine b_ifS ?_
  | with_reducible refine b_test ?_
  | with_reducible refine b_tb ?_
  | with_reducible refine b_bl ?_
  | with_reducible refine b_blP ?_
  | with_reducible refine b_next ?_
  | with_reducible refine b_drop ?_
  | with_reducible refine b_dget ?_
  | with_reducible refine b_makeN ?_
  | with_reducible refine b_pairs ?_
  | with_reducible refine b_pairs0 ?_
  | with_reducible refine b_sub ?_
  | with_reducible refine b_chain ?_
  | with_reducible refine b_and ?_
  | with_reducible refine b_or ?_
  | with_reducible refine b_not ?_
  | with_reducible refine b_andV ?_
  | with_reducible refine b_orV ?_
  | with_reducible refine b_notV ?_
  | with_reducible refine b_if ?_
  | with_reducible refine b_par ?_
  | with_reducible refine b_parE ?_
  | ((with_reducible refine' b_aug ?hv ?_); (case hv => exact rfl))
  | with_reducible refine b_ip ?_
  | with_reducible refine b_retN ?_
  | with_reducible refine b_tup ?_
  | with_reducible refine b_lst ?_
  | with_reducible refine b_sl ?_
  | with_reducible refine b_part ?_
  | with_reducible refine b_partP ?_
  | with_reducible refine b_nopart ?_
  | with_reducible refine b_bm ?_
  | with_reducible refine b_m1 ?_
  | with_reducible refine b_m0 ?_
  | with_reducible refine b_yes ?_
  | with_reducible refine b_un ?_
  | with_reducible refine b_neg ?_
  | with_reducible refine b_isN ?_
  | with_reducible refine b_notN ?_
  | with_reducible refine b_inS ?_
  | with_reducible refine b_int ?_
  | with_reducible refine b_intB ?_
  | with_reducible refine b_abs ?_
  | with_reducible refine b_max ?_
  | with_reducible refine b_min ?_
  | ((with_reducible refine b_eq ?hv ?_); (case hv => exact rfl))
  | ((with_reducible refine b_ne ?hv ?_); (case hv => exact rfl))
  | ((with_reducible refine' b_lenL ?hv ?_); (case hv => walk_at "sq"))
  | ((with_reducible refine' b_lenT ?hv ?_); (case hv => walk_at "sq"))
  | ((with_reducible refine' b_ixL ?hv ?hw ?_); (case hv => walk_at "sq"); (case hw => first | exact rfl | exact at0 | exact at1 | exact at2))
  | ((with_reducible refine' b_ixT ?hv ?hw ?_); (case hv => walk_at "sq"); (case hw => first | exact rfl | exact at0 | exact at1 | exact at2))
  | ((with_reducible refine b_I ?hv ?_); (case hv => walk_at "cond"))
  | with_reducible refine b_lcS ?_
  | with_reducible refine b_lcR ?_
  | with_reducible refine b_lcT ?_
  | with_reducible refine b_lcL ?_
  | with_reducible refine b_forT ?_
  | with_reducible refine b_forL ?_
  | with_reducible refine b_forR ?_
  | with_reducible refine b_turn ?_
  | ((with_reducible refine And.intro (a := wipe _ _ = wipe _ _) ?hv ?_); (case hv => exact rfl))
  | ((with_reducible refine And.intro (a := tyV _ "list" _ _) ?hv ?_); (case hv => exact ty_list (by assumption)))
  | with_reducible refine And.intro (a := ∃ a, V.str _ = V.str a) ⟨_, rfl⟩ ?_
  | (with_reducible refine iteT ?_)
  | (with_reducible refine iteNF ?_)
  | (with_reducible refine iteNT ?_)
  | (with_reducible refine iteVT ?_)
  | (with_reducible refine iteNVT ?_)
  | ((with_reducible refine iteVF ?hv ?_); (case hv => exact rfl))
  | ((with_reducible refine iteNVF ?hv ?_); (case hv => exact rfl))
  | with_reducible refine b_callS ?_
  | with_reducible refine b_xq ?_
  | with_reducible refine b_fld ?_
  | with_reducible refine b_sfld ?_
  | with_reducible refine b_meth ?_
  | with_reducible refine b_make ?_
  | with_reducible refine b_callK ?_
  | with_reducible refine b_sfa ?_
  | with_reducible refine b_lcEnT ?_
  | with_reducible refine b_lcEnL ?_
  | with_reducible refine b_forEnT ?_
  | with_reducible refine b_forEnL ?_
  | with_reducible refine b_lcZ ?_
  | with_reducible refine b_lcZX ?_
  | with_reducible refine b_prop ?_
  | with_reducible refine b_dput ?_
  | with_reducible refine b_din ?_
  | with_reducible refine b_inB ?_
  | with_reducible refine e_revT ?_
  | ((with_reducible refine' e_fld ?hv ?hc ?hn ?hl ?_); (case hv => assumption); (case hc => assumption); (case hn => assumption); (case hl => exact rfl))
  | ((with_reducible refine' e_meth ?hv ?hl ?_); (case hv => assumption); (case hl => exact rfl))
  | (with_reducible refine iteF ?_))

section
variable {P : Program} {w : World} {K : PySem.W.Frag} {mg : Str → Option Value} {base : Heap} {D : Ad}
def rowD (l : PR.Line) : PyData := .list (l.ws.map PyData.str)
theorem strs_inv {M : Addr → Prop} {H : Hp} : ∀ {l : List Str} {xs : List V}, DqAll K M H xs (l.map PyData.str) → xs = l.map V.str
  | [], _, .nil => rfl
  | _ :: _, _, .cons (.str _) t => by rw [strs_inv t]; rfl
theorem eqvA_strs : ∀ (a b : List Str), PyData.eqvAll (a.map PyData.str) (b.map PyData.str) = decide (a = b)
  | [], [] => rfl
  | [], _ :: _ => rfl
  | _ :: _, [] => rfl
  | x :: a, y :: b => by
    show (PyData.eqv (.str x) (.str y) && PyData.eqvAll (a.map PyData.str) (b.map PyData.str)) = _
    rw [eqvA_strs a b]
    have : PyData.eqv (.str x) (.str y) = decide (x = y) := by
      simp only [PyData.eqv]
      by_cases h : x = y
      · simp [h]
      · simp [h]
    rw [this]
    by_cases h : x = y
    · by_cases h2 : a = b
      · simp [h, h2]
      · simp [h, h2]
    · simp [h]
theorem eqvL_strs (a b : List Str) : PyData.eqv (.list (a.map PyData.str)) (.list (b.map PyData.str)) = decide (a = b) := by
  simp only [PyData.eqv]
  exact eqvA_strs a b
theorem rowD_at {M : Addr → Prop} {H : Hp} {v : V} {l : PR.Line} (h : Dq K M H v (rowD l)) : ∃ a, v = .ref a ∧ SqLm K M H a (l.ws.map V.str) := by
  cases h with
  | lst hs ha => rw [strs_inv ha] at hs; exact ⟨_, rfl, hs⟩
theorem writes_take {L : List PR.Line} {i : Nat} {l : PR.Line} (h : L[i]? = some l) : PR.writesOf (L.take (i + 1)) = PR.writesOf (L.take i) ++ PR.wrOf l.ws := by
  unfold PR.writesOf
  rw [List.take_add_one, h, List.flatMap_append]
  simp
theorem copies_take {sy : Str} {L : List PR.Line} {i : Nat} {l : PR.Line} (h : L[i]? = some l) : PR.copiesOf sy (L.take (i + 1)) = PR.copiesOf sy (L.take i) ++ (if l.ws = [Str.ofString "copy"] then sy.cps.toList.map PR.sing else []) := by
  unfold PR.copiesOf
  rw [List.take_add_one, h, List.flatMap_append]
  simp
theorem writes_len (L : List PR.Line) : (PR.writesOf L).length ≤ L.length := by
  unfold PR.writesOf
  induction L with
  | nil => exact Nat.le_refl _
  | cons l L ih =>
    rw [List.flatMap_cons, List.length_append, List.length_cons]
    have : (PR.wrOf l.ws).length ≤ 1 := by
      unfold PR.wrOf
      split
      · split
        · exact Nat.le_refl _
        · exact Nat.zero_le _
      · exact Nat.zero_le _
    omega
theorem copies_len {sy : Str} (hs : sy.length ≤ 4) (L : List PR.Line) : (PR.copiesOf sy L).length ≤ 4 * L.length := by
  have hz : sy.cps.toList.length ≤ 4 := by simpa [Str.length] using hs
  unfold PR.copiesOf
  induction L with
  | nil => exact Nat.le_refl _
  | cons l L ih =>
    rw [List.flatMap_cons, List.length_append, List.length_cons]
    have : (if l.ws = [Str.ofString "copy"] then sy.cps.toList.map PR.sing else []).length ≤ 4 := by
      split
      · rw [List.length_map]; exact hz
      · exact Nat.zero_le _
    omega
theorem page_len' {L : List PR.Line} (h : ∀ l ∈ L, LineGood l) (hl : L.length ≤ 100) : (pageOf L).length ≤ 90000 := by
  have h1 := join_len (Str.ofString "\n") 614 (L.map PR.rowText) fun x hx => by
    obtain ⟨l, hl, rfl⟩ := List.mem_map.mp hx
    exact (h l hl).row
  rw [List.length_map] at h1
  have h3 : (Str.ofString "\n").length = 1 := rfl
  rw [h3] at h1
  show (Txt.join (Str.ofString "\n") (L.map PR.rowText)).length ≤ 90000
  omega
/-- lines that a law looks at -/
structure Lines (sy : Str) (L : List PR.Line) : Prop where
  hd : ∃ r, L = ⟨0, [Str.ofString "symbols", sy]⟩ :: r
  good : ∀ l ∈ L, LineGood l
  wr : ∀ l ∈ L, PR.WritesOk l
  len : L.length ≤ 100
  wd : PR.wordB sy = true
  sl : sy.length ≤ 4
theorem Lines.split {sy : Str} {L : List PR.Line} (h : Lines sy L) : Txt.split (pageOf L) "\n" = L.map PR.rowText := by
  obtain ⟨r, e⟩ := h.hd
  exact PR.lines_text (by rw [e]; simp) fun l hl => (h.good l hl).ok
def sp_lawLetters : Sp := fun vs H Q _ => ∃ (L : List PR.Line) (sy : Str), vs = [.str (pageOf L)] ∧ Lines sy L ∧
  ∀ p ls H', H' p = some (.tup (ls.map V.str)) → sortedS ls = true → ls.Nodup → (∀ x, x ∈ ls ↔ PR.LetIn sy L 0 L.length x) → Same H H' → Q (.ref p) H'
theorem ok__law_letters (T : Txt K mg D) {k : Nat} : FnOk P w K mg base CX0 (k + 1) D.f__law_letters D.d__law_letters P__law_letters sp_lawLetters := by
  refine T.f__law_letters.ok sc__law_letters (fun vs H Q E h => ?_) (fun cdv A outer s H vs Q E hr h => ?_)
  · obtain ⟨L, sy, rfl, _⟩ := h
    rfl
  · obtain ⟨L, sy, rfl, hL, q⟩ := h
    have plen := page_len' hL.good hL.len
    have hsp := hL.split
    have hlen := hL.len
    generalize pageOf L = page at plen hsp
    refine ⟨_, (pss_cons (ps_setLc (i := 1) (own := [("_law_row", 4)]) (g := gName 4) (tt := tYes) (by rfl) sc__law_letters.nd rfl rfl (sw_true rfl rfl rfl (by decide +kernel)) (pi_listK (K := K) (by rfl) (pe_split (pv 0) pe_str)) (blkOk_by (own := [("_law_row", 4)]) (N := N__law_letters) (sc := defScope s__law_letters) (by decide +kernel)) (fun _ _ _ _ _ => (pg_name (i := 4) sc__law_letters.nd rfl (by first | exact .inl rfl | exact .inr rfl))) (fun _ _ _ _ _ => pts_nil) (fun _ _ _ _ _ => (pe_m0 PySem.F.slot_str_split PySem.F.type_str_split m_words (pv 4))))
      (pss_cons (ps_setLc (i := 2) (own := [("_law_words", 3)]) (g := gName 3)  (by rfl) sc__law_letters.nd rfl rfl (sw_true rfl rfl rfl (by decide +kernel)) (pi_listK (K := K) (by rfl) (pv 1)) (blkOk_by (own := [("_law_words", 3)]) (N := N__law_letters) (sc := defScope s__law_letters) (by decide +kernel)) (fun _ _ _ _ _ => (pg_name (i := 3) sc__law_letters.nd rfl (by first | exact .inl rfl | exact .inr rfl))) (fun _ _ _ _ _ => (pts_one (pt_cmpR op_eq (pe_ix (ixK (K := K) (r := rIxL) (by rfl) ix_list) (pv 3) pe_int (fun _ _ => rfl)) pe_str (nomark _)))) (fun _ _ _ _ _ => (pe_ix (ixK (K := K) (r := rIxL) (by rfl) ix_list) (pv 3) pe_int (fun _ _ => rfl))))
      (pss_cons (ps_for PassesOwn.never rfl (pi_listK (K := K) (by rfl) (pv 1)) (pg_name (i := 3) sc__law_letters.nd rfl (by first | exact .inl rfl | exact .inr rfl)) (pss_one (ps_expr (pe_bm PySem.F.plainAttrs_list PySem.F.slot_list_extend PySem.F.type_list_extend mt_extend (pv 2) (pa_cons (pe_ifExp (pt_cmpR (opK (K := K) (r := rEqQ) (by rfl) (op_eqQ hr.units)) (pv 3) (pe_lst (pa_cons pe_str pa_nil)) (nomark _)) (pe_callTy (call_list_str rfl) (by rfl) T.z_list (by decide +kernel) (pa_cons (pe_ix (ixK (K := K) (r := rIxL) (by rfl) ix_list) (pe_ix (ixK (K := K) (r := rIxL) (by rfl) ix_list) (pv 1) pe_int (fun _ _ => rfl)) pe_int (fun _ _ => rfl)) pa_nil)) (pe_lst pa_nil)) pa_nil)))))
      (pss_one (ps_ret (pe_callTy (callK (K := K) (r := qTupOf) (by rfl) q_tupOf) (by rfl) T.z_tuple (by decide +kernel) (pa_cons (pe_callB (callK (K := K) (r := (fun _ => rSortX P w)) (by rfl) (cr_sortX rfl)) (by rfl) T.z_sorted (by decide +kernel) (pa_cons (pe_callTy (callK (K := K) (r := (fun K => rSetX K P w)) (by rfl) (cr_setX rfl)) (by rfl) T.z_set (by decide +kernel) (pa_cons (pv 2) pa_nil)) pa_nil)) pa_nil))))))), ?_⟩
    repeat walk_at "st"
    refine e_split rfl (by omega) hsp fun rl H1 nrl hrl s1 => ?_
    repeat walk_at "st"
    refine e_lcL (SqL.of hrl) (fun S i H' => ∃ vs, H' S = some (.lst vs) ∧ DqAll K (· = S) H' vs ((L.take i).map rowD) ∧ Same H1 H') ?_ ?_ ?_ ?_
    · intro S H' nS hS sS
      exact ⟨[], hS, .nil, sS⟩
    · rintro S i H' nS ⟨vs, h1, h2, h3⟩
      exact SqL.of (h3 _ _ hrl)
    · rintro S i x H' nS hx ⟨vs, h1, h2, h3⟩
      rw [List.getElem?_map, List.getElem?_map] at hx
      cases el : L[i]? with
      | none => rw [el] at hx; cases hx
      | some l =>
      rw [el] at hx
      cases hx
      have hl : l ∈ L := List.mem_of_getElem? el
      have gl := hL.good l hl
      have hi : i < L.length := (List.getElem?_eq_some_iff.mp el).1
      have vl : vs.length = i := by rw [h2.length, List.length_map, List.length_take]; omega
      repeat walk_at "st"
      refine e_words (Nat.le_trans gl.row (by decide)) (PR.words_row gl.ne gl.good) fun wl H2 nwl hwl s2 => ?_
      repeat walk_at "st"
      have ne : wl ≠ S := fun z => by rw [z, h1] at nwl; cases nwl
      refine e_app (s2 _ _ h1) (by omega) fun H3 h4 s4 => ⟨_, h4, ?_, Same.new (Same.trans h3 s2) s4 fun b z => by rw [z]; exact nS⟩
      rw [List.take_add_one, el, List.map_append]
      exact ((h2.same s2).mono s4).append (.cons ((Dq.newL (M := (· = S)) ne hwl (strs_dq _)).mono s4) .nil)
    · rintro S H2 nS ⟨vs, h1, h2, h3⟩
      rw [List.length_map, List.length_map, List.take_length] at h2
      have vl : vs.length = L.length := by rw [h2.length, List.length_map]
      have h2 : DqAll K M0 H2 vs (L.map rowD) := h2.avoid fun _ z => z.elim
      repeat walk_at "st"
      refine e_lcL (SqL.of h1) (fun F i H' => H' F = some (.lst ((PR.writesOf (L.take i)).map V.str)) ∧ Same H2 H') ?_ ?_ ?_ ?_
      · intro F H' nF hF sF
        exact ⟨hF, sF⟩
      · rintro F i H' nF ⟨h4, h5⟩
        exact SqL.of (h5 _ _ h1)
      · rintro F i x H' nF hx ⟨h4, h5⟩
        obtain ⟨d, hd, hv⟩ := h2.get hx
        rw [List.getElem?_map] at hd
        cases el : L[i]? with
        | none => rw [el] at hd; cases hd
        | some l =>
        rw [el] at hd
        cases hd
        have hl : l ∈ L := List.mem_of_getElem? el
        have gl := hL.good l hl
        have wl := hL.wr l hl
        have hi : i < L.length := (List.getElem?_eq_some_iff.mp el).1
        obtain ⟨wa, rfl, hwa⟩ := rowD_at (hv.same h5)
        have hwa := hwa.l
        obtain ⟨k0, r0, ew⟩ : ∃ k0 r0, l.ws = k0 :: r0 := by
          cases q0 : l.ws with
          | nil => exact absurd q0 gl.ne
          | cons a b => exact ⟨a, b, rfl⟩
        rw [ew] at hwa
        have wlen := writes_len (L.take i)
        rw [List.length_take] at wlen
        repeat walk_at "st"
        by_cases e0 : k0 = Str.ofString "write"
        · rw [e0, if_pos (decide_eq_true rfl)]
          obtain ⟨a0, er, _⟩ := wl r0 (by rw [ew, e0])
          rw [er] at hwa
          repeat walk_at "st"
          refine e_app h4 (by rw [List.length_map]; omega) fun H3 h6 s6 => ⟨?_, Same.new h5 s6 fun b z => by rw [z]; exact nF⟩
          rw [h6, writes_take el, ew, er]
          unfold PR.wrOf
          dsimp only
          rw [if_pos e0, List.map_append]
          rfl
        · rw [if_neg (by rw [decide_eq_true_eq]; intro z; exact e0 (V.str.inj z))]
          refine ⟨?_, h5⟩
          rw [h4, writes_take el, ew]
          unfold PR.wrOf
          cases r0 with
          | nil => rw [List.append_nil]
          | cons b r0 => dsimp only; rw [if_neg e0, List.append_nil]
      · rintro F H3 nF ⟨h4, h5⟩
        rw [vl, List.take_length] at h4
        have FS : F ≠ S := fun z => by rw [z, h1] at nF; cases nF
        have h2' := h2.same h5
        have h1' := h5 _ _ h1
        have wlen := writes_len L
        repeat walk_at "st"
        refine e_forL (SqL.of h1') (fun i σ H' => ∃ x y, σ = [some (.str page), some (.ref S), some (.ref F), x, y] ∧ H' F = some (.lst ((PR.writesOf L ++ PR.copiesOf sy (L.take i)).map V.str)) ∧ SameM (· = F) H3 H') ?_ ?_ ?_ ?_
        · exact ⟨_, _, rfl, by rw [h4]; simp [PR.copiesOf], SameM.refl _ _⟩
        · rintro i σ H' ⟨x, y, rfl, h6, h7⟩
          exact SqL.of (h7 _ _ (Ne.symm FS) h1')
        · rintro i v σ H' hv ⟨x, y, rfl, h6, h7⟩
          have nFr : ∀ {b : Addr} {xs : List V}, SqLm K M0 H3 b xs → True := fun _ => trivial
          obtain ⟨d, hd, hvd⟩ := h2'.get hv
          rw [List.getElem?_map] at hd
          cases el : L[i]? with
          | none => rw [el] at hd; cases hd
          | some l =>
          rw [el] at hd
          cases hd
          have hl : l ∈ L := List.mem_of_getElem? el
          have gl := hL.good l hl
          have hi : i < L.length := (List.getElem?_eq_some_iff.mp el).1
          have clen := copies_len hL.sl (L.take i)
          rw [List.length_take] at clen
          have hvF : Dq K (· = F) H' v (rowD l) := by
            refine Dq.mono h7 ?_
            have hv2 : Dq K M0 H2 v (rowD l) := by
              obtain ⟨d', hd', hv'⟩ := h2.get hv
              rw [List.getElem?_map, el] at hd'
              cases hd'
              exact hv'
            exact (hv2.avoid (N := (· = F)) fun a z => .inr (by rw [z]; exact nF)).same h5
          repeat walk_at "st"
          refine e_lst fun cp H4 ncp hcp s4 => ?_
          repeat walk_at "st"
          refine ⟨(· = F), M0, rowD l, .list ([Str.ofString "copy"].map PyData.str), hvF.same s4, Dq.newL (fun z => z) hcp (strs_dq [Str.ofString "copy"]), strs_shaped fun x hx => PR.goodW_lay (gl.good x hx), strs_shaped (by decide +kernel), ?_⟩
          rw [show PyData.eqv (rowD l) (.list ([Str.ofString "copy"].map PyData.str)) = decide (l.ws = [Str.ofString "copy"]) from eqvL_strs _ _]
          have h6' := s4 _ _ h6
          have h7' : SameM (· = F) H3 H4 := h7.trans (SameM.of s4)
          repeat walk_at "st"
          by_cases e0 : l.ws = [Str.ofString "copy"]
          · rw [decide_eq_true e0]
            obtain ⟨r, eL⟩ := hL.hd
            have e00 : L[0]? = some ⟨0, [Str.ofString "symbols", sy]⟩ := by rw [eL]; rfl
            have hS4 := h7' _ _ (Ne.symm FS) h1'
            obtain ⟨v0, hv0⟩ : ∃ v0, vs[0]? = some v0 := by
              have : 0 < vs.length := by omega
              exact ⟨vs[0], List.getElem?_eq_getElem this⟩
            have hv0F : Dq K (· = F) H4 v0 (rowD ⟨0, [Str.ofString "symbols", sy]⟩) := by
              refine Dq.mono h7' ?_
              obtain ⟨d', hd', hv'⟩ := h2.get hv0
              rw [List.getElem?_map, e00] at hd'
              cases hd'
              exact (hv'.avoid (N := (· = F)) fun a z => .inr (by rw [z]; exact nF)).same h5
            obtain ⟨va, rfl, hva⟩ := rowD_at hv0F
            have hva := hva.l
            repeat walk_at "st"
            refine b_ixL (SqL.of hS4) (atI_nat (j := 0) hv0) ?_
            repeat walk_at "st"
            refine e_listS (Nat.le_trans hL.sl (by decide)) fun ll H5 nll hll s5 => ?_
            repeat walk_at "st"
            refine e_extend (s5 _ _ h6') hll ?_ fun H6 h8 s8 => ?_
            · have := hL.sl
              have wl2 := writes_len L
              have e9 : sy.cps.toList.length = sy.length := by simp [Str.length]
              rw [List.length_map, List.length_map, List.length_append]
              omega
            repeat walk_at "st"
            refine ⟨_, _, rfl, ?_, (h7'.trans (SameM.of s5)).trans s8⟩
            rw [h8, copies_take el, if_pos e0, ← List.append_assoc, List.map_append (f := V.str) (l₂ := sy.cps.toList.map PR.sing), List.map_map (g := V.str)]
            rfl
          · rw [decide_eq_false e0]
            repeat walk_at "st"
            refine e_lst fun ll H5 nll hll s5 => ?_
            repeat walk_at "st"
            refine e_extend (s5 _ _ h6') hll ?_ fun H6 h8 s8 => ?_
            · rw [List.length_map, List.length_append, List.length_nil]
              omega
            repeat walk_at "st"
            refine ⟨_, _, rfl, ?_, (h7'.trans (SameM.of s5)).trans s8⟩
            rw [h8, copies_take el, if_neg e0, List.append_nil, List.append_nil]
        · rintro σ H4 ⟨x, y, rfl, h6, h7⟩
          rw [vl, List.take_length] at h6
          have clen := copies_len hL.sl L
          repeat walk_at "st"
          refine e_setX (SqL.of h6) (by show _ < 4096; rw [List.length_append]; omega) fun sa m H5 nsa hsa hm nd s5 => ?_
          have few : m.length ≤ 26 := PR.letters_few nd fun x hx => PR.found_letters hL.wd hL.wr x ((hm x).mp hx)
          repeat walk_at "st"
          refine e_sortX hsa (by omega) fun ys p H6 pm srt np hp s6 => ?_
          repeat walk_at "st"
          refine e_tupL (SqL.of hp) fun tp H7 ntp htp s7 => ?_
          refine q tp ys H7 htp srt (pm.nodup_iff.mpr nd) (fun x => ?_) ?_
          · rw [pm.mem_iff, hm x]
            exact PR.found_iff hL.wr x
          · have s03 : Same H H3 := Same.trans (Same.trans s1 h3) h5
            exact Same.trans (Same.trans (Same.trans (Same.new s03 h7 fun b z => by rw [z]; exact none_back (Same.trans s1 h3) nF) s5) s6) s7
end
end K09

namespace K09
open PySem PySem.Spec PyProof.Rows L2 FG
local macro_rules | `(tactic| walk_at "sq") => `(tactic| first
  | assumption
  | exact SqL.of (by assumption)
  | exact SqT.of (by assumption)
  | exact SqLm.l (by assumption)
  | exact SqTm.t (by assumption))
local macro_rules | `(tactic| walk_at "cond") => `(tactic| first
  | assumption
  | (show (0 : Int) < _; omega)
  | (show (0 : Int) < _ ∧ _ < 1073741824; omega))
local macro_rules | `(tactic| walk_at "st") => `(tactic| first
  | with_reducible refine b_seq ?_
  | with_reducible refine b_asg ?_
  | with_reducible refine b_op ?_
  | ((with_reducible refine' b_var ?hv ?_); (case hv => exact rfl))
  | with_reducible refine b_c ?_
  | with_reducible refine b_name ?_
  | with_reducible refine b_I0 ?_
  | with_reducible refine b_cons ?_
  | with_reducible refine b_nil ?_
  | with_reducible refine b_cb ?_
  | with_reducible refine b_call ?_
  | with_reducible refine b_ret ?_
  | with_reducible refine b_ifS ?_
  | with_reducible refine b_test ?_
  | with_reducible refine b_tb ?_
  | with_reducible refine b_bl ?_
  | with_reducible refine b_blP ?_
  | with_reducible refine b_next ?_
  | with_reducible refine b_drop ?_
  | with_reducible refine b_dget ?_
  | with_reducible refine b_makeN ?_
  | with_reducible refine b_pairs ?_
  | with_reducible refine b_pairs0 ?_
  | with_reducible refine b_sub ?_
  | with_reducible refine b_chain ?_
  | with_reducible refine b_and ?_
  | with_reducible refine b_or ?_
  | with_reducible refine b_not ?_
  | with_reducible refine b_andV ?_
  | with_reducible refine b_orV ?_
  | with_reducible refine b_notV ?_
  | with_reducible refine b_if ?_
  | with_reducible refine b_par ?_
  | with_reducible refine b_parE ?_
  | ((with_reducible refine' b_aug ?hv ?_); (case hv => exact rfl))
  | with_reducible refine b_ip ?_
  | with_reducible refine b_retN ?_
  | with_reducible refine b_tup ?_
  | with_reducible refine b_lst ?_
  | with_reducible refine b_sl ?_
  | with_reducible refine b_part ?_
  | with_reducible refine b_partP ?_
  | with_reducible refine b_nopart ?_
  | with_reducible refine b_bm ?_
  | with_reducible refine b_m1 ?_
  | with_reducible refine b_m0 ?_
  | with_reducible refine b_yes ?_
  | with_reducible refine b_un ?_
  | with_reducible refine b_neg ?_
  | with_reducible refine b_isN ?_
  | with_reducible refine b_notN ?_
  | with_reducible refine b_inS ?_
  | with_reducible refine b_int ?_
  | with_reducible refine b_intB ?_
  | with_reducible refine b_abs ?_
  | with_reducible refine b_max ?_
  | with_reducible refine b_min ?_
  | ((with_reducible refine b_eq ?hv ?_); (case hv => exact rfl))
  | ((with_reducible refine b_ne ?hv ?_); (case hv => exact rfl))
  | ((with_reducible refine' b_lenL ?hv ?_); (case hv => walk_at "sq"))
  | ((with_reducible refine' b_lenT ?hv ?_); (case hv => walk_at "sq"))
  | ((with_reducible refine' b_ixL ?hv ?hw ?_); (case hv => walk_at "sq"); (case hw => first | exact rfl | exact at0 | exact at1 | exact at2))
  | ((with_reducible refine' b_ixT ?hv ?hw ?_); (case hv => walk_at "sq"); (case hw => first | exact rfl | exact at0 | exact at1 | exact at2))
  | ((with_reducible refine b_I ?hv ?_); (case hv => walk_at "cond"))
  | with_reducible refine b_lcS ?_
  | with_reducible refine b_lcR ?_
  | with_reducible refine b_lcT ?_
  | with_reducible refine b_lcL ?_
  | with_reducible refine b_forT ?_
  | with_reducible refine b_forL ?_
  | with_reducible refine b_forR ?_
  | with_reducible refine b_turn ?_
  | ((with_reducible refine And.intro (a := wipe _ _ = wipe _ _) ?hv ?_); (case hv => exact rfl))
  | ((with_reducible refine And.intro (a := tyV _ "list" _ _) ?hv ?_); (case hv => exact ty_list (by assumption)))
  | with_reducible refine And.intro (a := ∃ a, V.str _ = V.str a) ⟨_, rfl⟩ ?_
  | (with_reducible refine iteT ?_)
  | (with_reducible refine iteNF ?_)
  | (with_reducible refine iteNT ?_)
  | (with_reducible refine iteVT ?_)
  | (with_reducible refine iteNVT ?_)
  | ((with_reducible refine iteVF ?hv ?_); (case hv => exact rfl))
  | ((with_reducible refine iteNVF ?hv ?_); (case hv => exact rfl))
  | with_reducible refine b_callS ?_
  | with_reducible refine b_xq ?_
  | with_reducible refine b_fld ?_
  | with_reducible refine b_sfld ?_
  | with_reducible refine b_meth ?_
  | with_reducible refine b_make ?_
  | with_reducible refine b_callK ?_
  | with_reducible refine b_sfa ?_
  | with_reducible refine b_lcEnT ?_
  | with_reducible refine b_lcEnL ?_
  | with_reducible refine b_forEnT ?_
  | with_reducible refine b_forEnL ?_
  | with_reducible refine b_lcZ ?_
  | with_reducible refine b_lcZX ?_
  | with_reducible refine b_prop ?_
  | with_reducible refine b_dput ?_
  | with_reducible refine b_din ?_
  | with_reducible refine b_inB ?_
  | with_reducible refine e_revT ?_
  | ((with_reducible refine' e_fld ?hv ?hc ?hn ?hl ?_); (case hv => assumption); (case hc => assumption); (case hn => assumption); (case hl => exact rfl))
  | ((with_reducible refine' e_meth ?hv ?hl ?_); (case hv => assumption); (case hl => exact rfl))
  | (with_reducible refine iteF ?_))

section
variable {P : Program} {w : World} {K : PySem.W.Frag} {mg : Str → Option Value} {base : Heap} {D : Ad}
theorem Prog.lines {sy : Str} {cells : List (Str × Nat)} {parts : List Str} {L : List PR.Line} (h : Prog sy cells parts L) (ok : LoreOk sy cells parts) : Lines sy L := by
  obtain ⟨s1, s2, s3⟩ := PR.six_sym sy ok.sy
  have hw : PR.wordB sy = true := by
    unfold PR.symB at s1
    rw [Bool.and_eq_true, Bool.and_eq_true] at s1
    exact s1.1.1
  obtain ⟨ps, main, n, m, e, ep, hpo, hst, hne, h20⟩ := h.ex
  refine ⟨⟨_, by rw [e]; rfl⟩, h.good, ?_, h.len, hw, s3⟩
  rw [e]
  exact PR.prog_writes hpo (by rw [ep]; exact hst)
theorem Prog.repl {sy : Str} {cells : List (Str × Nat)} {parts : List Str} {L pre post : List PR.Line} {l : PR.Line} {ws : List Str} (h : Prog sy cells parts L) (e : L = pre ++ l :: post) (hl : PR.isWC l ∨ post = []) (hw : ∀ kn, PR.PlainOk ⟨sy, cells, kn⟩ ws) (hg : ∀ x ∈ ws, PR.goodW x = true) (h6 : ws.length ≤ 6) : Prog sy cells parts (pre ++ ⟨l.ind, ws⟩ :: post) := by
  obtain ⟨ps, main, n, m, e0, ep, hpo, hst, hne, h20⟩ := h.ex
  obtain ⟨ps', main', q1, q2, q3, q4, q5⟩ := PR.prog_repl hpo (by rw [ep]; exact hst) hne (e0.symm.trans e) hl hw
  refine ⟨⟨ps', main', n, m, q1.symm, q2.trans ep, q3, by rw [ep] at q4; exact q4, q5, h20⟩, fun x hx => ?_, ?_⟩
  · rcases List.mem_append.mp hx with hx | hx
    · exact h.good x (by rw [e]; exact List.mem_append_left _ hx)
    · rcases List.mem_cons.mp hx with rfl | hx
      · have := h.good l (by rw [e]; simp)
        exact ⟨this.ind, (hw []).ne, h6, hg⟩
      · exact h.good x (by rw [e]; simp [hx])
  · have := h.len
    rw [e] at this
    simpa using this
theorem cut_blanks {l : PR.Line} {n : Int} (h : n = (l.ind : Nat)) : cutS (PR.rowText l) none (some n) = PR.blanks l.ind := by
  subst h
  unfold cutS
  have hlen : (PR.rowText l).length = l.ind + (PR.wordsText l.ws).length := PR.row_len l
  have e1 : HT.sIx (PR.rowText l).length 0 none = 0 := rfl
  have e2 : HT.sIx (PR.rowText l).length (PR.rowText l).length (some ((l.ind : Nat) : Int)) = l.ind := by
    show (if ((l.ind : Nat) : Int) < 0 then (((l.ind : Nat) : Int) + ((PR.rowText l).length : Int)).toNat else min ((l.ind : Nat) : Int).toNat (PR.rowText l).length) = _
    rw [if_neg (by omega), Int.toNat_natCast, hlen]
    omega
  rw [e1, e2, List.drop_zero, Nat.sub_zero]
  unfold PR.rowText
  rw [PR.toL_append]
  have e3 : (PR.blanks l.ind).cps.toList = List.replicate l.ind 32 := rfl
  rw [e3, List.take_append_of_le_length (by simp), List.take_of_length_le (by simp)]
  rfl
def fourW : List (List Str) := [["write", "q"], ["write", "a"], ["copy"], ["write", "x"]]
theorem four_ok : ∀ ws ∈ fourW, ws.length ≤ 6 ∧ (∀ x ∈ ws, PR.goodW x = true) ∧ (PR.wordsText ws).length ≤ 7 := by decide +kernel
theorem four_plain {G : PR.Ctx} : ∀ ws ∈ fourW, PR.PlainOk G ws := by
  intro ws h
  simp only [fourW, List.mem_cons, List.not_mem_nil, or_false] at h
  rcases h with rfl | rfl | rfl | rfl
  · exact PR.PlainOk.write (by decide +kernel)
  · exact PR.PlainOk.write (by decide +kernel)
  · exact PR.PlainOk.bare (by decide +kernel)
  · exact PR.PlainOk.write (by decide +kernel)
theorem four_text : fourW.map PR.wordsText = [Str.ofString "write q", Str.ofString "write a", Str.ofString "copy", Str.ofString "write x"] := by decide +kernel
def intV (j : Nat) : V := .int (j : Int)
def intP (j : Nat) : PyData := .int (j : Int)
theorem ints_dq {M : Addr → Prop} {H : Hp} : ∀ (l : List Nat), DqAll K M H (l.map intV) (l.map intP)
  | [] => .nil
  | x :: l => .cons (.int _) (ints_dq l)
theorem ints_shaped (l : List Nat) : SeqAt.shaped (.list (l.map intP)) = true := by
  refine shaped_of ?_ ?_
  · show PyData.canLayAll0 _ = true
    refine canLayAll_of fun d hd => ?_
    obtain ⟨x, hx, rfl⟩ := List.mem_map.mp hd
    rfl
  · have : PyData.depthAll (l.map intP) ≤ 0 := depthAll_of fun d hd => by
      obtain ⟨x, hx, rfl⟩ := List.mem_map.mp hd
      exact Nat.le_refl _
    show PyData.depthAll (l.map intP) + 1 ≤ 64
    omega
/-- a place where a statement can be put -/
def Spot (L : List PR.Line) (j : Nat) : Prop := ∃ l, L[j]? = some l ∧ (PR.isWC l ∨ j + 1 = L.length)
def sp_other : Sp := fun vs H Q _ => ∃ (p : Addr) (n : Nat) (L : List PR.Line) (sy : Str) (cells : List (Str × Nat)) (parts : List Str), vs = [.ref p, .str (pageOf L)] ∧ PotAt H p n ∧ n ≤ 80000000 ∧ Prog sy cells parts L ∧ LoreOk sy cells parts ∧
  ∀ L' H', Prog sy cells parts L' → PotAt H' p (n + 2) → SameM (· = p) H H' → Q (.str (pageOf L')) H'
theorem ok__law_other (T : Txt K mg D) {k : Nat} : FnOk P w K mg base CX0 (k + 3) D.f__law_other D.d__law_other P__law_other sp_other := by
  have G__law_of : FnOk P w K mg base CX0 (k + 2) D.f__law_of D.d__law_of P__law_of (spOf K) := ok__law_of T
  refine T.f__law_other.ok sc__law_other (fun vs H Q E h => ?_) (fun cdv A outer s H vs Q E hr h => ?_)
  · obtain ⟨p, n, L, sy, cells, parts, rfl, _⟩ := h
    rfl
  · obtain ⟨p, n, L, sy, cells, parts, rfl, hp, hn, hpg, ok, q⟩ := h
    have hL := hpg.lines ok
    have plen := page_len' hL.good hL.len
    have hsp := hL.split
    have hlen := hL.len
    have hpos : 0 < L.length := by
      obtain ⟨r, e⟩ := hL.hd
      rw [e]; simp
    generalize pageOf L = page at plen hsp
    refine ⟨_, (pss_cons (ps_set (i := 2) sc__law_other.nd rfl (by first | exact .inl rfl | exact .inr rfl) (pe_split (pv 1) pe_str))
      (pss_cons (ps_setLc (i := 3) (own := [("_law_at", 4), ("_law_row", 7)]) (g := gTup K 2 (gCons (gName 4) (gCons (gName 7) gNil)))  (by rfl) sc__law_other.nd rfl rfl (sw_true rfl rfl rfl (by decide +kernel)) (pi_enumLK (K := K) (by rfl) (by rfl) T.z_enumerate (pa_cons (pv 2) pa_nil)) (blkOk_by (own := [("_law_at", 4), ("_law_row", 7)]) (N := N__law_other) (sc := defScope s__law_other) (by decide +kernel)) (fun _ _ _ _ _ => (pg_tup (by rfl) (pgs_cons (pg_name (i := 4) sc__law_other.nd rfl (by first | exact .inl rfl | exact .inr rfl)) (pgs_cons (pg_name (i := 7) sc__law_other.nd rfl (by first | exact .inl rfl | exact .inr rfl)) pgs_nil)))) (fun _ _ _ _ _ => (pts_one (pt_cmpR (opK (K := K) (r := fun K => rIn K false) (by rfl) op_in_seq) (pe_ix (ixK (K := K) (r := rIxL) (by rfl) ix_list) (pe_m0 PySem.F.slot_str_split PySem.F.type_str_split m_words (pv 7)) pe_int (fun _ _ => rfl)) (pe_tup (pa_cons pe_str (pa_cons pe_str pa_nil))) (by rfl)))) (fun _ _ _ _ _ => (pv 4)))
      (pss_cons (ps_w (ps_if (pt_cmpR (opK (K := K) (r := rEqQ) (by rfl) (op_eqQ hr.units)) (pv 3) (pe_lst pa_nil) (nomark _)) (pss_one (ps_set (i := 3) sc__law_other.nd rfl (by first | exact .inl rfl | exact .inr rfl) (pe_lst (pa_cons (pe_op op_sub (pe_callB (callK (K := K) (r := qLen) (by rfl) q_len) (by rfl) T.z_len (by decide +kernel) (pa_cons (pv 2) pa_nil)) pe_int) pa_nil)))) pss_nil))
      (pss_cons (ps_set (i := 4) sc__law_other.nd rfl (by first | exact .inl rfl | exact .inr rfl) (pe_call G__law_of hr (by rfl) T.g__law_of T.f__law_of.kp T.b__law_of .nil pass0 (pa_cons (pv 0) (pa_cons (pv 3) pa_nil))))
      (pss_cons (ps_set (i := 5) sc__law_other.nd rfl (by first | exact .inl rfl | exact .inr rfl) (pe_slice sl_str (pe_ix (ixK (K := K) (r := rIxL) (by rfl) ix_list) (pv 2) (pv 4) (fun _ _ => rfl)) po_none (po_some (pe_op op_sub (pe_callB (callK (K := K) (r := qLen) (by rfl) q_len) (by rfl) T.z_len (by decide +kernel) (pa_cons (pe_ix (ixK (K := K) (r := rIxL) (by rfl) ix_list) (pv 2) (pv 4) (fun _ _ => rfl)) pa_nil)) (pe_callB (callK (K := K) (r := qLen) (by rfl) q_len) (by rfl) T.z_len (by decide +kernel) (pa_cons (pe_m0 PySem.F.slot_str_lstrip PySem.F.type_str_lstrip m_lstrip (pe_ix (ixK (K := K) (r := rIxL) (by rfl) ix_list) (pv 2) (pv 4) (fun _ _ => rfl))) pa_nil))))))
      (pss_cons (ps_set (i := 6) sc__law_other.nd rfl (by first | exact .inl rfl | exact .inr rfl) (pe_call G__law_of hr (by rfl) T.g__law_of T.f__law_of.kp T.b__law_of .nil pass0 (pa_cons (pv 0) (pa_cons (pe_lst (pa_cons pe_str (pa_cons pe_str (pa_cons pe_str (pa_cons pe_str pa_nil))))) pa_nil))))
      (pss_one (ps_ret (p_join pe_str (pe_op op_cat (pe_op op_cat (pe_slice (slK (K := K) (r := rSlL) (by rfl) sl_list) (pv 2) po_none (po_some (pv 4))) (pe_lst (pa_cons (pe_op o_addS (pv 5) (pv 6)) pa_nil))) (pe_slice (slK (K := K) (r := rSlL) (by rfl) sl_list) (pv 2) (po_some (pe_op op_add (pv 4) pe_int)) po_none))))))))))), ?_⟩
    repeat walk_at "st"
    refine e_split rfl (by omega) hsp fun rl H1 nrl hrl s1 => ?_
    have rlp : rl ≠ p := hp.ne nrl
    repeat walk_at "st"
    refine e_lcEnL (SqL.of hrl) (fun F i H' => ∃ is : List Nat, H' F = some (.lst (is.map intV)) ∧ (∀ j ∈ is, Spot L j) ∧ is.length ≤ i ∧ Same H1 H') ?_ ?_ ?_ ?_
    · intro F H' nF hF sF
      exact ⟨[], hF, (by simp), Nat.le_refl _, sF⟩
    · rintro F i H' nF ⟨is, h1, h2, h3, h4⟩
      exact SqL.of (h4 _ _ hrl)
    · rintro F i x Tt H' H2 nF hx ⟨is, h1, h2, h3, h4⟩ nT hT sT
      rw [List.getElem?_map, List.getElem?_map] at hx
      cases el : L[i]? with
      | none => rw [el] at hx; cases hx
      | some l =>
      rw [el] at hx
      cases hx
      have hl : l ∈ L := List.mem_of_getElem? el
      have gl := hL.good l hl
      have hi : i < L.length := (List.getElem?_eq_some_iff.mp el).1
      obtain ⟨k0, r0, ew⟩ : ∃ k0 r0, l.ws = k0 :: r0 := by
        cases q0 : l.ws with
        | nil => exact absurd q0 gl.ne
        | cons a b => exact ⟨a, b, rfl⟩
      repeat walk_at "st"
      refine e_gtup2 (SqT.of hT) ?_
      repeat walk_at "st"
      refine e_words (Nat.le_trans gl.row (by decide)) (PR.words_row gl.ne gl.good) fun wl H3 nwl hwl s3 => ?_
      rw [ew] at hwl
      repeat walk_at "st"
      refine e_tup fun wc H4 nwc hwc s4 => ?_
      refine b_inT (SqT.of hwc) rfl rfl ?_
      have s24 : Same H' H4 := Same.trans (Same.trans sT s3) s4
      repeat walk_at "st"
      by_cases e0 : k0 = Str.ofString "write" ∨ k0 = Str.ofString "copy"
      · rw [if_neg Bool.false_ne_true, show inV (.str k0) [V.str (Str.ofString "write"), V.str (Str.ofString "copy")] = true by
          rcases e0 with e0 | e0
          · rw [e0]; decide +kernel
          · rw [e0]; decide +kernel]
        repeat walk_at "st"
        refine e_app (s24 _ _ h1) (by rw [List.length_map]; omega) fun H5 h5 s5 => ⟨is ++ [i], ?_, ?_, ?_, ?_⟩
        · rw [h5, List.map_append]; rfl
        · intro j hj
          rcases List.mem_append.mp hj with hj | hj
          · exact h2 j hj
          · rw [List.mem_singleton.mp hj]
            exact ⟨l, el, .inl ⟨k0, r0, ew, e0⟩⟩
        · rw [List.length_append, List.length_singleton]; omega
        · exact Same.new (Same.trans h4 s24) s5 fun b z => by rw [z]; exact nF
      · rw [if_neg Bool.false_ne_true, show inV (.str k0) [V.str (Str.ofString "write"), V.str (Str.ofString "copy")] = false by
          have n1 : k0 ≠ Str.ofString "write" := fun z => e0 (.inl z)
          have n2 : k0 ≠ Str.ofString "copy" := fun z => e0 (.inr z)
          simp [inV, eqV, Ne.symm n1, Ne.symm n2, n1, n2]]
        repeat walk_at "st"
        exact ⟨is, s24 _ _ h1, h2, by omega, Same.trans h4 s24⟩
    · rintro F H2 nF ⟨is, h1, h2, h3, h4⟩
      rw [List.length_map, List.length_map] at h3
      repeat walk_at "st"
      refine b_ws (fun σ' H' => ∃ (sp : Addr) (is : List Nat) (x : Option V), σ' = [some (.ref p), some (.str page), some (.ref rl), some (.ref sp), none, none, none, x] ∧ H' sp = some (.lst (is.map intV)) ∧ is ≠ [] ∧ is.length ≤ 100 ∧ (∀ j ∈ is, Spot L j) ∧ H sp = none ∧ Same H2 H') ?_ ?_
      · repeat walk_at "st"
        refine e_lst fun nl H3 nnl hnl s3 => ?_
        repeat walk_at "st"
        refine ⟨M0, M0, .list (is.map intP), .list [], Dq.newL (fun z => z) (s3 _ _ h1) (ints_dq _), Dq.newL (fun z => z) hnl .nil, ints_shaped _, shaped_nil, ?_⟩
        rw [eqv_nil]
        repeat walk_at "st"
        have nFH : H F = none := none_back s1 nF
        cases is with
        | nil =>
          rw [show ((List.map intP []).isEmpty) = true from rfl]
          repeat walk_at "st"
          refine b_lenL (SqL.of (s3 _ _ (h4 _ _ hrl))) ?_
          repeat walk_at "st"
          refine e_lst fun nn H4 nnn hnn s4 => ?_
          repeat walk_at "st"
          refine ⟨nn, [L.length - 1], _, rfl, ?_, by simp, by simp, ?_, none_back (Same.trans (Same.trans (Same.trans s1 h4) s3) (Same.refl _)) nnn, Same.trans s3 s4⟩
          · rw [hnn, List.length_map, List.length_map]
            show some (HO.lst [V.int ((L.length : Int) - 1)]) = some (HO.lst [V.int ((L.length - 1 : Nat) : Int)])
            rw [Int.natCast_sub (by omega)]
            rfl
          · intro j hj
            rw [List.mem_singleton.mp hj]
            exact ⟨L[L.length - 1], List.getElem?_eq_getElem (by omega), .inr (by omega)⟩
        | cons i0 is =>
          rw [show ((List.map intP (i0 :: is)).isEmpty) = false from rfl]
          repeat walk_at "st"
          exact ⟨F, i0 :: is, _, rfl, s3 _ _ h1, by simp, by omega, h2, nFH, s3⟩
      · rintro σ' H3 ⟨sp, is, x, rfl, h5, h6, h7, h8, nsp, s3⟩
        have s03 : Same H H3 := Same.trans (Same.trans s1 h4) s3
        have hp3 := hp.keep s03
        have hrl3 := s3 _ _ (h4 _ _ hrl)
        have spp : sp ≠ p := hp.ne nsp
        repeat walk_at "st"
        refine e_of hp3 (by omega) spp h5 (ints_dq _) (by simpa using h6) (by rw [List.length_map]; omega) fun v d H4 hd hv hp4 s4 => ?_
        obtain ⟨j, hj, rfl⟩ := List.mem_map.mp hd
        cases hv
        obtain ⟨l, el, hspot⟩ := h8 j hj
        have hl : l ∈ L := List.mem_of_getElem? el
        have gl := hL.good l hl
        have hjl : j < L.length := (List.getElem?_eq_some_iff.mp el).1
        have hrl4 := s4 _ _ rlp hrl3
        have hat : atI (((L.map PR.rowText)).map V.str) (j : Int) = some (.str (PR.rowText l)) := atI_nat (j := j) (by rw [List.getElem?_map, List.getElem?_map, el]; rfl)
        have rlen : (PR.rowText l).length ≤ sizeLine := Nat.le_trans gl.row (by decide)
        have hwl : (PR.wordsText l.ws).length ≤ sizeLine := by
          have := PR.row_len l
          omega
        repeat walk_at "st"
        refine b_ixL (SqL.of hrl4) hat ?_
        repeat walk_at "st"
        refine b_ixL (SqL.of hrl4) hat ?_
        repeat walk_at "st"
        refine b_lenS rlen ?_
        repeat walk_at "st"
        refine b_ixL (SqL.of hrl4) hat ?_
        repeat walk_at "st"
        refine e_lstrip (Nat.le_trans gl.row (by decide)) (PR.lstrip_row' gl.ne gl.good) ?_
        repeat walk_at "st"
        refine b_lenS hwl ?_
        repeat walk_at "st"
        refine ⟨_, rfl, rlen, ?_⟩
        rw [cut_blanks (by rw [PR.row_len l]; omega)]
        repeat walk_at "st"
        refine e_lst fun fl H5 nfl hfl s5 => ?_
        have flp : fl ≠ p := hp4.ne nfl
        repeat walk_at "st"
        refine e_of (hp4.keep s5) (by omega) flp hfl (strs_dq [Str.ofString "write q", Str.ofString "write a", Str.ofString "copy", Str.ofString "write x"]) (by simp) (by simp) fun v d H6 hd hv hp6 s6 => ?_
        obtain ⟨tx, htx, rfl⟩ := List.mem_map.mp hd
        cases hv
        rw [← four_text] at htx
        obtain ⟨ws, hws, rfl⟩ := List.mem_map.mp htx
        obtain ⟨w6, wg, wl7⟩ := four_ok ws hws
        have hrl6 := s6 _ _ rlp (s5 _ _ hrl4)
        repeat walk_at "st"
        refine e_slL (SqL.of hrl6) fun c1 H7 nc1 hc1 s7 => ?_
        rw [cut_to] at hc1
        repeat walk_at "st"
        have bl : (PR.blanks l.ind).length ≤ 8 := by rw [blanks_len]; exact gl.ind
        refine b_addS (Nat.le_trans (Nat.add_le_add bl wl7) (by decide)) ?_
        rw [show PR.blanks l.ind ++ PR.wordsText ws = PR.rowText ⟨l.ind, ws⟩ from rfl]
        repeat walk_at "st"
        refine e_lst fun c2 H8 nc2 hc2 s8 => ?_
        repeat walk_at "st"
        refine e_catL (s8 _ _ hc1) hc2 (by rw [List.length_take, List.length_map, List.length_map]; simp; omega) fun c3 H9 nc3 hc3 s9 => ?_
        repeat walk_at "st"
        have hrl9 := s9 _ _ (s8 _ _ (s7 _ _ hrl6))
        refine e_slL (SqL.of hrl9) fun c4 H10 nc4 hc4 s10 => ?_
        rw [show ((j : Int) + 1) = ((j + 1 : Nat) : Int) by omega, cut_from] at hc4
        repeat walk_at "st"
        refine e_catL (s10 _ _ hc3) hc4 (by simp; omega) fun c5 H11 nc5 hc5 s11 => ?_
        repeat walk_at "st"
        have eL : L = L.take j ++ l :: L.drop (j + 1) := by
          have h1 : L.drop j = l :: L.drop (j + 1) := by
            rw [List.drop_eq_getElem_cons hjl]
            congr 1
            exact (List.getElem?_eq_some_iff.mp el).2
          rw [← h1, List.take_append_drop]
        have hpg' : Prog sy cells parts (L.take j ++ ⟨l.ind, ws⟩ :: L.drop (j + 1)) := hpg.repl eL (hspot.imp id fun z => by rw [z]; exact List.drop_length) (fun kn => four_plain ws hws) wg w6
        have hc5' : H11 c5 = some (.lst (((L.take j ++ ⟨l.ind, ws⟩ :: L.drop (j + 1)).map PR.rowText).map V.str)) := by
          rw [hc5]
          simp [List.map_take, List.map_drop]
        have hsum : ((((L.take j ++ ⟨l.ind, ws⟩ :: L.drop (j + 1)).map PR.rowText)).map (·.length)).sum ≤ 614 * (L.take j ++ ⟨l.ind, ws⟩ :: L.drop (j + 1)).length := rows_sum hpg'.good
        have hlen' := hpg'.len
        refine e_joinL (SqL.of hc5') (by rw [List.length_map]; show _ + _ * 1 ≤ _; omega) ?_
        refine q _ H11 hpg' ?_ ?_
        · exact (((((hp6.keep s7).keep s8).keep s9).keep s10).keep s11).mono (by omega)
        · exact (SameM.of s03).trans (s4.trans ((SameM.of s5).trans (s6.trans (SameM.of (Same.trans (Same.trans (Same.trans (Same.trans s7 s8) s9) s10) s11)))))
end
end K09

namespace K09
open PySem PySem.Spec PyProof.Rows L2 FG
local macro_rules | `(tactic| walk_at "sq") => `(tactic| first
  | assumption
  | exact SqL.of (by assumption)
  | exact SqT.of (by assumption)
  | exact SqLm.l (by assumption)
  | exact SqTm.t (by assumption))
local macro_rules | `(tactic| walk_at "cond") => `(tactic| first
  | assumption
  | (show (0 : Int) < _; omega)
  | (show (0 : Int) < _ ∧ _ < 1073741824; omega))
local macro_rules | `(tactic| walk_at "st") => `(tactic| first
  | with_reducible refine b_seq ?_
  | with_reducible refine b_asg ?_
  | with_reducible refine b_op ?_
  | ((with_reducible refine' b_var ?hv ?_); (case hv => exact rfl))
  | with_reducible refine b_c ?_
  | with_reducible refine b_name ?_
  | with_reducible refine b_I0 ?_
  | with_reducible refine b_cons ?_
  | with_reducible refine b_nil ?_
  | with_reducible refine b_cb ?_
  | with_reducible refine b_call ?_
  | with_reducible refine b_ret ?_
  | with_reducible refine b_ifS ?_
  | with_reducible refine b_test ?_
  | with_reducible refine b_tb ?_
  | with_reducible refine b_bl ?_
  | with_reducible refine b_blP ?_
  | with_reducible refine b_next ?_
  | with_reducible refine b_drop ?_
  | with_reducible refine b_dget ?_
  | with_reducible refine b_makeN ?_
  | with_reducible refine b_pairs ?_
  | with_reducible refine b_pairs0 ?_
  | with_reducible refine b_sub ?_
  | with_reducible refine b_chain ?_
  | with_reducible refine b_and ?_
  | with_reducible refine b_or ?_
  | with_reducible refine b_not ?_
  | with_reducible refine b_andV ?_
  | with_reducible refine b_orV ?_
  | with_reducible refine b_notV ?_
  | with_reducible refine b_if ?_
  | with_reducible refine b_par ?_
  | with_reducible refine b_parE ?_
  | ((with_reducible refine' b_aug ?hv ?_); (case hv => exact rfl))
  | with_reducible refine b_ip ?_
  | with_reducible refine b_retN ?_
  | with_reducible refine b_tup ?_
  | with_reducible refine b_lst ?_
  | with_reducible refine b_sl ?_
  | with_reducible refine b_part ?_
  | with_reducible refine b_partP ?_
  | with_reducible refine b_nopart ?_
  | with_reducible refine b_bm ?_
  | with_reducible refine b_m1 ?_
  | with_reducible refine b_m0 ?_
  | with_reducible refine b_yes ?_
  | with_reducible refine b_un ?_
  | with_reducible refine b_neg ?_
  | with_reducible refine b_isN ?_
  | with_reducible refine b_notN ?_
  | with_reducible refine b_inS ?_
  | with_reducible refine b_int ?_
  | with_reducible refine b_intB ?_
  | with_reducible refine b_abs ?_
  | with_reducible refine b_max ?_
  | with_reducible refine b_min ?_
  | ((with_reducible refine b_eq ?hv ?_); (case hv => exact rfl))
  | ((with_reducible refine b_ne ?hv ?_); (case hv => exact rfl))
  | ((with_reducible refine' b_lenL ?hv ?_); (case hv => walk_at "sq"))
  | ((with_reducible refine' b_lenT ?hv ?_); (case hv => walk_at "sq"))
  | ((with_reducible refine' b_ixL ?hv ?hw ?_); (case hv => walk_at "sq"); (case hw => first | exact rfl | exact at0 | exact at1 | exact at2))
  | ((with_reducible refine' b_ixT ?hv ?hw ?_); (case hv => walk_at "sq"); (case hw => first | exact rfl | exact at0 | exact at1 | exact at2))
  | ((with_reducible refine b_I ?hv ?_); (case hv => walk_at "cond"))
  | with_reducible refine b_lcS ?_
  | with_reducible refine b_lcR ?_
  | with_reducible refine b_lcT ?_
  | with_reducible refine b_lcL ?_
  | with_reducible refine b_forT ?_
  | with_reducible refine b_forL ?_
  | with_reducible refine b_forR ?_
  | with_reducible refine b_turn ?_
  | ((with_reducible refine And.intro (a := wipe _ _ = wipe _ _) ?hv ?_); (case hv => exact rfl))
  | ((with_reducible refine And.intro (a := tyV _ "list" _ _) ?hv ?_); (case hv => exact ty_list (by assumption)))
  | with_reducible refine And.intro (a := ∃ a, V.str _ = V.str a) ⟨_, rfl⟩ ?_
  | (with_reducible refine iteT ?_)
  | (with_reducible refine iteNF ?_)
  | (with_reducible refine iteNT ?_)
  | (with_reducible refine iteVT ?_)
  | (with_reducible refine iteNVT ?_)
  | ((with_reducible refine iteVF ?hv ?_); (case hv => exact rfl))
  | ((with_reducible refine iteNVF ?hv ?_); (case hv => exact rfl))
  | with_reducible refine b_callS ?_
  | with_reducible refine b_xq ?_
  | with_reducible refine b_fld ?_
  | with_reducible refine b_sfld ?_
  | with_reducible refine b_meth ?_
  | with_reducible refine b_make ?_
  | with_reducible refine b_callK ?_
  | with_reducible refine b_sfa ?_
  | with_reducible refine b_lcEnT ?_
  | with_reducible refine b_lcEnL ?_
  | with_reducible refine b_forEnT ?_
  | with_reducible refine b_forEnL ?_
  | with_reducible refine b_lcZ ?_
  | with_reducible refine b_lcZX ?_
  | with_reducible refine b_prop ?_
  | with_reducible refine b_dput ?_
  | with_reducible refine b_din ?_
  | with_reducible refine b_inB ?_
  | with_reducible refine e_revT ?_
  | ((with_reducible refine' e_fld ?hv ?hc ?hn ?hl ?_); (case hv => assumption); (case hc => assumption); (case hn => assumption); (case hl => exact rfl))
  | ((with_reducible refine' e_meth ?hv ?hl ?_); (case hv => assumption); (case hl => exact rfl))
  | (with_reducible refine iteF ?_))

section
variable {P : Program} {w : World} {K : PySem.W.Frag} {mg : Str → Option Value} {base : Heap} {D : Ad}
def sp_peqD (K : PySem.W.Frag) : Sp := fun vs H Q _ => ∃ (a : Addr) (y : V) (M : Addr → Prop) (d : PyData), vs = [.ref a, y] ∧ Dq K M H y d ∧ Q (.bl false) H
theorem ok_Program_eqD (T : Txt K mg D) {k : Nat} : FnOk P w K mg base CX0 (k + 1) D.f_Program_eq D.d_Program_eq P_Program_eq (sp_peqD K) := by
  have cp := T.cl_Program
  refine T.f_Program_eq.ok sc_Program_eq (fun vs H Q E h => ?_) (fun cdv A outer s H vs Q E hr h => ?_)
  · obtain ⟨a, y, M, d, rfl, _⟩ := h
    rfl
  · obtain ⟨a, y, M, d, rfl, hd, q⟩ := h
    refine ⟨_, (pss_one (ps_ret (pe_and (pe_callB (callK (K := K) (r := rIsi) (by rfl) call_isi) (by rfl) T.z_isinstance (by decide +kernel) (pa_cons (pv 1) (pa_cons (pe_glob (v := .ref D.c_Program) (by rfl) T.g_Program rfl) pa_nil))) (pe_one (pe_cmpR op_eq (pe_fldK (K := K) (by rfl) (pv 0) (by rfl)) (pe_fldK (K := K) (by rfl) (pv 1) (by rfl)) (nomark _)))))), ?_⟩
    repeat walk_at "st"
    refine e_isNot T.ki_Program hd ?_
    repeat walk_at "st"
    exact q
theorem letters_show {sy : Str} {L : List PR.Line} (hL : Lines sy L) {ls : List Str} (nd : ls.Nodup) (h : ∀ x, x ∈ ls ↔ PR.LetIn sy L 0 L.length x) : Show (.tuple (ls.map PyData.str)) := by
  have hw : ∀ x ∈ ls, PR.letterW x = true := fun x hx => PR.found_letters hL.wd hL.wr x ((PR.found_iff hL.wr x).mpr ((h x).mp hx))
  have few := PR.letters_few nd hw
  refine (Small.tup (h := 0) (n := 12) (m := 26) (fun d hd => ?_) (by rw [List.length_map]; exact few)).show (by decide) (by decide)
  obtain ⟨x, hx, rfl⟩ := List.mem_map.mp hd
  have := hw x hx
  unfold PR.letterW PR.wordB at this
  rw [Bool.and_eq_true, decide_eq_true_eq] at this
  refine Small.str (m := 1) (fun c hc => ?_) (by omega)
  have := List.all_eq_true.mp this.2 c hc
  have hm : c ∈ (Str.ofString "abcdefghijklmnopqrstuvwxyz").cps.toList := of_decide_eq_true this
  have : ∀ c ∈ (Str.ofString "abcdefghijklmnopqrstuvwxyz").cps.toList, c < 16 ^ 8 := by decide +kernel
  exact this c hm
theorem read_told {L : List PR.Line} {s : PR.RS} {sy : Str} {ls : List Str} (hr : PR.readAll L = some s) (es : s.sy = sy) (h : ∀ x, x ∈ ls ↔ x ∈ bodyLetters s.sy (allBodies s)) : ∀ x, x ∈ ls ↔ PR.LetIn sy L 0 L.length x := by
  intro x
  rw [h x, ← es, ← PR.readAll_letters hr x]
  unfold bodyLetters allBodies PR.bodyLetters
  rw [List.flatMap_append, List.flatMap_map]
  simp
theorem Same.M {M : Addr → Prop} {H H' : Hp} (s : Same H H') : SameM M H H' := SameM.of s
def sp_right : Sp := fun vs H Q _ => ∃ (p : Addr) (n : Nat), vs = [.ref p] ∧ PotAt H p n ∧ n ≤ 70000000 ∧ ∀ H', PotAt H' p (n + 2000) → SameM (· = p) H H' → Q (.bl true) H'
theorem ok__law_right (T : Txt K mg D) (hB_TAKEN : BaseTup base D.k_TAKEN PR.taken) {k : Nat} : FnOkG P w K mg base CX0 (k + 22) D.f__law_right D.d__law_right P__law_right sp_right := by
  have G__law_wide_lore : FnOk P w K mg base CX0 (k + 21) D.f__law_wide_lore D.d__law_wide_lore P__law_wide_lore (sp_lore K) := (ok__law_wide_lore T (k := k)).mono (by omega)
  have G__law_grown : FnOk P w K mg base CX0 (k + 21) D.f__law_grown D.d__law_grown P__law_grown (sp_grown K) := (ok__law_grown T (k := k)).mono (by omega)
  have G__law_other : FnOk P w K mg base CX0 (k + 21) D.f__law_other D.d__law_other P__law_other sp_other := (ok__law_other T (k := k)).mono (by omega)
  have G__law_letters : FnOk P w K mg base CX0 (k + 21) D.f__law_letters D.d__law_letters P__law_letters sp_lawLetters := (ok__law_letters T (k := k)).mono (by omega)
  have G_Program_init : FnOk P w K mg base CX0 (k + 20) D.f_Program_init D.d_Program_init P_Program_init (sp_pinit K D) := ok_Program_init T hB_TAKEN (k := k + 2)
  have G_Program_letters : FnOk P w K mg base CX0 (k + 20) D.f_Program_letters D.d_Program_letters P_Program_letters (sp_pfld D "own_letters") := ok_Program_letters T (k := k + 19)
  have G_Program_eq : FnOk P w K mg base CX0 (k + 20) D.f_Program_eq D.d_Program_eq P_Program_eq (sp_peq D) := ok_Program_eq T (k := k + 19)
  have G_Program_eqD : FnOk P w K mg base CX0 (k + 20) D.f_Program_eq D.d_Program_eq P_Program_eq (sp_peqD K) := ok_Program_eqD T (k := k + 19)
  refine okG T.f__law_right sc__law_right (fun vs H Q E h => ?_) (fun cdv A outer s H vs Q E hgu hr h => ?_)
  · obtain ⟨p, n, rfl, _⟩ := h
    rfl
  · obtain ⟨p, n, rfl, hp, hn, q⟩ := h
    refine ⟨_, (pss_cons (ps_set (i := 1) sc__law_right.nd rfl (by first | exact .inl rfl | exact .inr rfl) (p_join pe_str (pe_call G__law_grown hr (by rfl) T.g__law_grown T.f__law_grown.kp T.b__law_grown .nil pass0 (pa_cons (pv 0) (pa_cons (pe_call G__law_wide_lore hr (by rfl) T.g__law_wide_lore T.f__law_wide_lore.kp T.b__law_wide_lore .nil pass0 (pa_cons (pv 0) pa_nil)) pa_nil)))))
      (pss_cons (ps_set (i := 2) sc__law_right.nd rfl (by first | exact .inl rfl | exact .inr rfl) (pe_call G__law_other hr (by rfl) T.g__law_other T.f__law_other.kp T.b__law_other .nil pass0 (pa_cons (pv 0) (pa_cons (pv 1) pa_nil))))
      (pss_cons (ps_asg (pe_tup (pa_cons (pe_make T.mk_Program G_Program_init hr (by rfl) T.g_Program T.b_Program_init .nil pass0 (pa_cons (pv 1) pa_nil)) (pa_cons (pe_make T.mk_Program G_Program_init hr (by rfl) T.g_Program T.b_Program_init .nil pass0 (pa_cons (pv 2) pa_nil)) pa_nil))) (pg_tup (by rfl) (pgs_cons (pg_name (i := 3) sc__law_right.nd rfl (by first | exact .inl rfl | exact .inr rfl)) (pgs_cons (pg_name (i := 4) sc__law_right.nd rfl (by first | exact .inl rfl | exact .inr rfl)) pgs_nil))))
      (pss_cons (ps_if (PW.pt (pw_or (pt_cmpR op_ne (pe_callB (callK (K := K) (r := rRepr) (by rfl) (call_reprG hgu hr)) (by rfl) T.z_repr (by decide +kernel) (pa_cons (pe_prop (pv 3) T.cl_Program T.p_Program_letters G_Program_letters hr T.b_Program_letters .nil pass0 (by rfl)) pa_nil)) (pe_callB (callK (K := K) (r := rRepr) (by rfl) (call_reprG hgu hr)) (by rfl) T.z_repr (by decide +kernel) (pa_cons (pe_call G__law_letters hr (by rfl) T.g__law_letters T.f__law_letters.kp T.b__law_letters .nil pass0 (pa_cons (pv 1) pa_nil)) pa_nil)) (nomark _)) (pw_or1 (pt_cmpR op_ne (pe_callB (callK (K := K) (r := rRepr) (by rfl) (call_reprG hgu hr)) (by rfl) T.z_repr (by decide +kernel) (pa_cons (pe_prop (pv 4) T.cl_Program T.p_Program_letters G_Program_letters hr T.b_Program_letters .nil pass0 (by rfl)) pa_nil)) (pe_callB (callK (K := K) (r := rRepr) (by rfl) (call_reprG hgu hr)) (by rfl) T.z_repr (by decide +kernel) (pa_cons (pe_call G__law_letters hr (by rfl) T.g__law_letters T.f__law_letters.kp T.b__law_letters .nil pass0 (pa_cons (pv 2) pa_nil)) pa_nil)) (nomark _))))) (pss_one (ps_ret pe_bl)) pss_nil)
      (pss_cons (ps_if (PW.pt (pw_or (pt_cmpR op_ne (pe_cmpR (op_ownEq G_Program_eq T.m_Program_eq T.b_Program_eq pass0 (hr.mono (Nat.le_succ _))) (pv 3) (pv 4) (nomark _)) (pe_cmpR op_eq (pv 1) (pv 2) (nomark _)) (nomark _)) (pw_or1 (pt_cmpR op_ne (pe_cmpR (op_ownNe G_Program_eq T.m_Program_eq T.ow_Program.ne T.ow_Program.hm T.b_Program_eq pass0 hr) (pv 3) (pv 4) (nomark _)) (pe_cmpR op_ne (pv 1) (pv 2) (nomark _)) (nomark _))))) (pss_one (ps_ret pe_bl)) pss_nil)
      (pss_one (ps_ret (pe_and (pe_cmpR (op_ownEq G_Program_eq T.m_Program_eq T.b_Program_eq pass0 (hr.mono (Nat.le_succ _))) (pv 3) (pe_make T.mk_Program G_Program_init hr (by rfl) T.g_Program T.b_Program_init .nil pass0 (pa_cons (pv 1) pa_nil)) (nomark _)) (pe_one (pe_not (pe_callB (callK (K := K) (r := rAny) (by rfl) (cr_any rfl)) (by rfl) T.z_any (by decide +kernel) (pa_cons (pe_lc (own := [("_law_thing", 5)]) (g := gName 5) (tt := tYes) (by rfl) sc__law_right.nd (pi_tupK (K := K) (by rfl) (pe_tup (pa_cons (pv 1) (pa_cons pe_non (pa_cons pe_int (pa_cons (pe_tup pa_nil) (pa_cons (pe_lst (pa_cons (pv 1) pa_nil)) (pa_cons pe_dnewK pa_nil)))))))) (blkOk_by (own := [("_law_thing", 5)]) (N := N__law_right) (sc := defScope s__law_right) (by decide +kernel)) (fun _ _ _ _ _ => (pg_name (i := 5) sc__law_right.nd rfl (by first | exact .inl rfl | exact .inr rfl))) (fun _ _ _ _ _ => pts_nil) (fun _ _ _ _ _ => (pe_cmpR (opK (K := K) (r := fun K => rOwnEqD K D.c_Program (sp_peqD K) _) (by rfl) (op_ownEqD G_Program_eqD T.m_Program_eq T.b_Program_eq pass0 (hr.mono (Nat.le_succ _)))) (pv 3) (pv 5) (nomark _)))) pa_nil)))))))))))), ?_⟩
    repeat walk_at "st"
    refine ⟨p, n, rfl, hp, by omega, fun lo sy cells parts H1 ok hL nlo hp1 s1 => ?_⟩
    obtain ⟨cl, pl, cs, hlo, hcl, hclp, hcd, hpl, hplp⟩ := hL.ex
    have hlp : lo ≠ p := hp.ne nlo
    have hX : LoreX K p lo cl pl cs sy 0 cells parts H1 := ⟨hlo, hcl, hclp, hcd, hpl, hplp⟩
    repeat walk_at "st"
    refine ⟨p, lo, cl, pl, n + 20, 0, cs, sy, cells, parts, rfl, hp1, by omega, hlp, ok, hX, fun l L left' H2 nl hl hpg hlo2 hp2 s2 => ?_⟩
    have lL := hpg.len
    have hrs := rows_sum hpg.good
    repeat walk_at "st"
    refine e_joinL (SqL.of hl) (by rw [List.length_map]; show _ + L.length * 1 ≤ _; omega) ?_
    change gName _ (.str (pageOf L)) _ _ _
    have s02 : SameM (· = p) H H2 := fun b o nb e => s2 b o (fun z => by
      rcases z with z | z
      · exact nb z
      · rw [z, nlo] at e; cases e) (s1 b o nb e)
    repeat walk_at "st"
    refine ⟨p, _, L, sy, cells, parts, rfl, hp2, by omega, hpg, ok, fun L' H3 hpg' hp3 s3 => ?_⟩
    have s03 : SameM (· = p) H H3 := s02.trans s3
    have hLn := hpg.lines ok
    have hLn' := hpg'.lines ok
    obtain ⟨rs, hrd, rsy, _, _⟩ := hpg.read ok
    obtain ⟨rs', hrd', rsy', _, _⟩ := hpg'.read ok
    repeat walk_at "st"
    refine e_make fun a dx H4 na ha s4 => ?_
    refine ⟨L, a, dx, pageOf L, rs, rfl, ha, hpg.page_len, hpg.split, hpg.lok, hrd, fun H5 hP5 s5 => ⟨rfl, ?_⟩⟩
    have s35 : Same H3 H5 := Same.new s4 s5 fun b z => z ▸ na
    obtain ⟨dx1, ct1, bd1, mn1, lt1, ha5, _, _, _, _, _, ls1, hlt1, srt1, nd1, mem1⟩ := hP5.ex
    repeat walk_at "st"
    refine e_make fun b dy H6 nb hb s6 => ?_
    refine ⟨L', b, dy, pageOf L', rs', rfl, hb, hpg'.page_len, hpg'.split, hpg'.lok, hrd', fun H7 hP7 s7 => ⟨rfl, ?_⟩⟩
    have s57 : Same H5 H7 := Same.new s6 s7 fun b z => z ▸ nb
    obtain ⟨dx2, ct2, bd2, mn2, lt2, hb7, _, _, _, _, _, ls2, hlt2, srt2, nd2, mem2⟩ := hP7.ex
    have t1 := read_told hrd rsy mem1
    have t2 := read_told hrd' rsy' mem2
    have ha7 := s57 _ _ ha5
    have hl7 := s57 _ _ hlt1
    repeat walk_at "st"
    refine e_tup fun tp H8 ntp htp s8 => ?_
    repeat walk_at "st"
    refine e_gtup2 (SqT.of htp) ?_
    have ha8 := s8 _ _ ha7
    have hb8 := s8 _ _ hb7
    have d1 : Dq K M0 H8 (.ref lt1) (.tuple (ls1.map PyData.str)) := Dq.newT (fun z => z) (s8 _ _ hl7) (strs_dq _)
    have d2 : Dq K M0 H8 (.ref lt2) (.tuple (ls2.map PyData.str)) := Dq.newT (fun z => z) (s8 _ _ hlt2) (strs_dq _)
    repeat walk_at "st"
    refine ⟨a, _, _, rfl, ha8, a, _, _, _, rfl, ha8, rfl, ?_⟩
    repeat walk_at "st"
    refine b_repr d1 (letters_show hLn nd1 t1) ?_
    repeat walk_at "st"
    refine ⟨L, sy, rfl, hLn, fun q1 m1 H9 hq1 sr1 no1 me1 s9 => ?_⟩
    have e1 : m1 = ls1 := PR.sorted_eq sr1 srt1 no1 nd1 fun x => (me1 x).trans (t1 x).symm
    subst e1
    repeat walk_at "st"
    refine b_repr (Dq.newT (M := M0) (fun z => z) hq1 (strs_dq _)) (letters_show hLn nd1 t1) ?_
    repeat walk_at "st"
    refine ⟨b, _, _, rfl, s9 _ _ hb8, b, _, _, _, rfl, s9 _ _ hb8, rfl, ?_⟩
    repeat walk_at "st"
    refine b_repr (d2.same s9) (letters_show hLn' nd2 t2) ?_
    repeat walk_at "st"
    refine ⟨L', sy, rfl, hLn', fun q2 m2 H10 hq2 sr2 no2 me2 s10 => ?_⟩
    have e2 : m2 = ls2 := PR.sorted_eq sr2 srt2 no2 nd2 fun x => (me2 x).trans (t2 x).symm
    subst e2
    repeat walk_at "st"
    refine b_repr (Dq.newT (M := M0) (fun z => z) hq2 (strs_dq _)) (letters_show hLn' nd2 t2) ?_
    have ha10 := s10 _ _ (s9 _ _ ha8)
    have hb10 := s10 _ _ (s9 _ _ hb8)
    have sA : Same H3 H10 := Same.trans (Same.trans (Same.trans (Same.trans s35 s57) s8) s9) s10
    repeat walk_at "st"
    refine ⟨a, b, _, _, _, _, rfl, rfl, ha10, hb10, a, b, _, _, _, _, pageOf L, pageOf L', rfl, ha10, hb10, rfl, rfl, ?_⟩
    repeat walk_at "st"
    have eb : decide (V.str (pageOf L) = V.str (pageOf L')) = decide (pageOf L = pageOf L') := decide_eq_decide.mpr ⟨fun z => V.str.inj z, fun z => z ▸ rfl⟩
    rw [show (!decide (V.bl (if false = true then !decide (pageOf L = pageOf L') else decide (pageOf L = pageOf L')) = V.bl (decide (V.str (pageOf L) = V.str (pageOf L'))))) = false by rw [eb]; simp]
    repeat walk_at "st"
    refine ⟨a, b, _, _, _, _, rfl, rfl, ha10, hb10, a, b, _, _, _, _, pageOf L, pageOf L', rfl, ha10, hb10, rfl, rfl, ?_⟩
    repeat walk_at "st"
    rw [show (!decide (V.bl (if true = true then !decide (pageOf L = pageOf L') else decide (pageOf L = pageOf L')) = V.bl (!decide (V.str (pageOf L) = V.str (pageOf L'))))) = false by rw [eb]; simp]
    repeat walk_at "st"
    refine e_make fun c dz H11 nc hc s11 => ?_
    refine ⟨L, c, dz, pageOf L, rs, rfl, hc, hpg.page_len, hpg.split, hpg.lok, hrd, fun H12 hP12 s12 => ⟨rfl, ?_⟩⟩
    have sB : Same H10 H12 := Same.new s11 s12 fun b z => z ▸ nc
    obtain ⟨dx3, ct3, bd3, mn3, lt3, hc12, _⟩ := hP12.ex
    have ha12 := sB _ _ ha10
    repeat walk_at "st"
    refine ⟨a, c, _, _, _, _, rfl, rfl, ha12, hc12, a, c, _, _, _, _, pageOf L, pageOf L, rfl, ha12, hc12, rfl, rfl, ?_⟩
    rw [decide_eq_true (rfl : pageOf L = pageOf L)]
    repeat walk_at "st"
    rw [if_pos (show (if false = true then !true else true) = true from rfl)]
    repeat walk_at "st"
    refine e_tup (fun t0 H13 nt0 ht0 s13 => ?_)
    repeat walk_at "st"
    refine e_lst fun l0 H14 nl0 hl0 s14 => ?_
    repeat walk_at "st"
    refine e_dnew fun d0 H15 nd0 hd0 s15 => ?_
    repeat walk_at "st"
    refine e_tup (fun tt H16 ntt htt s16 => ?_) (show 6 ≤ 100000 by decide)
    have hall : DqAll K M0 H16 [.str (pageOf L), .non, .int 0, .ref t0, .ref l0, .ref d0] [.str (pageOf L), .none, .int 0, .tuple [], .list [.str (pageOf L)], .dict []] :=
      .cons (.str _) (.cons .non (.cons (.int 0) (.cons (Dq.newT (fun z => z) (s16 _ _ (s15 _ _ (s14 _ _ ht0))) .nil) (.cons (Dq.newL (fun z => z) (s16 _ _ (s15 _ _ hl0)) (.cons (.str _) .nil)) (.cons (Dq.dct (kvs := []) (fun z => z) (s16 _ _ hd0) .nil) .nil)))))
    have sC : Same H12 H16 := Same.trans (Same.trans (Same.trans s13 s14) s15) s16
    have ha16 := sC _ _ ha12
    refine e_lcT (SqT.of htt) (fun S i H' => H' S = some (.lst ((List.replicate i false).map V.bl)) ∧ Same H16 H') ?_ ?_ ?_ ?_
    · intro S H' nS hS sS
      exact ⟨hS, sS⟩
    · rintro S i H' nS ⟨h1, h2⟩
      exact SqT.of (h2 _ _ htt)
    · rintro S i x H' nS hx ⟨h1, h2⟩
      obtain ⟨d, _, hd⟩ := hall.get hx
      have hi : i < 6 := (List.getElem?_eq_some_iff.mp hx).1
      repeat walk_at "st"
      refine ⟨a, _, _, M0, d, rfl, h2 _ _ ha16, hd.same h2, a, x, M0, d, rfl, hd.same h2, false, rfl, ?_⟩
      refine e_app h1 (by simp; omega) fun H17 h3 s3 => ⟨?_, Same.new h2 s3 fun b z => z ▸ nS⟩
      rw [h3, List.replicate_succ', List.map_append]
      rfl
    · rintro S H17 nS ⟨h1, h2⟩
      repeat walk_at "st"
      refine ⟨S, List.replicate 6 false, rfl, SqL.of h1, ?_⟩
      rw [show (List.replicate 6 false).any id = false from rfl]
      repeat walk_at "st"
      have sD : Same H3 H17 := Same.trans (Same.trans (Same.trans sA sB) sC) h2
      exact q H17 ((hp3.keep sD).mono (by omega)) (s03.trans (SameM.of sD))
end
end K09

namespace K09
open PySem PySem.Spec PyProof.Rows L2 FG
local macro_rules | `(tactic| walk_at "sq") => `(tactic| first
  | assumption
  | exact SqL.of (by assumption)
  | exact SqT.of (by assumption)
  | exact SqLm.l (by assumption)
  | exact SqTm.t (by assumption))
local macro_rules | `(tactic| walk_at "cond") => `(tactic| first
  | assumption
  | (show (0 : Int) < _; omega)
  | (show (0 : Int) < _ ∧ _ < 1073741824; omega))
local macro_rules | `(tactic| walk_at "st") => `(tactic| first
  | with_reducible refine b_seq ?_
  | with_reducible refine b_asg ?_
  | with_reducible refine b_op ?_
  | ((with_reducible refine' b_var ?hv ?_); (case hv => exact rfl))
  | with_reducible refine b_c ?_
  | with_reducible refine b_name ?_
  | with_reducible refine b_I0 ?_
  | with_reducible refine b_cons ?_
  | with_reducible refine b_nil ?_
  | with_reducible refine b_cb ?_
  | with_reducible refine b_call ?_
  | with_reducible refine b_ret ?_
  | with_reducible refine b_ifS ?_
  | with_reducible refine b_test ?_
  | with_reducible refine b_tb ?_
  | with_reducible refine b_bl ?_
  | with_reducible refine b_blP ?_
  | with_reducible refine b_next ?_
  | with_reducible refine b_drop ?_
  | with_reducible refine b_dget ?_
  | with_reducible refine b_makeN ?_
  | with_reducible refine b_pairs ?_
  | with_reducible refine b_pairs0 ?_
  | with_reducible refine b_sub ?_
  | with_reducible refine b_chain ?_
  | with_reducible refine b_and ?_
  | with_reducible refine b_or ?_
  | with_reducible refine b_not ?_
  | with_reducible refine b_andV ?_
  | with_reducible refine b_orV ?_
  | with_reducible refine b_notV ?_
  | with_reducible refine b_if ?_
  | with_reducible refine b_par ?_
  | with_reducible refine b_parE ?_
  | ((with_reducible refine' b_aug ?hv ?_); (case hv => exact rfl))
  | with_reducible refine b_ip ?_
  | with_reducible refine b_retN ?_
  | with_reducible refine b_tup ?_
  | with_reducible refine b_lst ?_
  | with_reducible refine b_sl ?_
  | with_reducible refine b_part ?_
  | with_reducible refine b_partP ?_
  | with_reducible refine b_nopart ?_
  | with_reducible refine b_bm ?_
  | with_reducible refine b_m1 ?_
  | with_reducible refine b_m0 ?_
  | with_reducible refine b_yes ?_
  | with_reducible refine b_un ?_
  | with_reducible refine b_neg ?_
  | with_reducible refine b_isN ?_
  | with_reducible refine b_notN ?_
  | with_reducible refine b_inS ?_
  | with_reducible refine b_int ?_
  | with_reducible refine b_intB ?_
  | with_reducible refine b_abs ?_
  | with_reducible refine b_max ?_
  | with_reducible refine b_min ?_
  | ((with_reducible refine b_eq ?hv ?_); (case hv => exact rfl))
  | ((with_reducible refine b_ne ?hv ?_); (case hv => exact rfl))
  | ((with_reducible refine' b_lenL ?hv ?_); (case hv => walk_at "sq"))
  | ((with_reducible refine' b_lenT ?hv ?_); (case hv => walk_at "sq"))
  | ((with_reducible refine' b_ixL ?hv ?hw ?_); (case hv => walk_at "sq"); (case hw => first | exact rfl | exact at0 | exact at1 | exact at2))
  | ((with_reducible refine' b_ixT ?hv ?hw ?_); (case hv => walk_at "sq"); (case hw => first | exact rfl | exact at0 | exact at1 | exact at2))
  | ((with_reducible refine b_I ?hv ?_); (case hv => walk_at "cond"))
  | with_reducible refine b_lcS ?_
  | with_reducible refine b_lcR ?_
  | with_reducible refine b_lcT ?_
  | with_reducible refine b_lcL ?_
  | with_reducible refine b_forT ?_
  | with_reducible refine b_forL ?_
  | with_reducible refine b_forR ?_
  | with_reducible refine b_turn ?_
  | ((with_reducible refine And.intro (a := wipe _ _ = wipe _ _) ?hv ?_); (case hv => exact rfl))
  | ((with_reducible refine And.intro (a := tyV _ "list" _ _) ?hv ?_); (case hv => exact ty_list (by assumption)))
  | with_reducible refine And.intro (a := ∃ a, V.str _ = V.str a) ⟨_, rfl⟩ ?_
  | (with_reducible refine iteT ?_)
  | (with_reducible refine iteNF ?_)
  | (with_reducible refine iteNT ?_)
  | (with_reducible refine iteVT ?_)
  | (with_reducible refine iteNVT ?_)
  | ((with_reducible refine iteVF ?hv ?_); (case hv => exact rfl))
  | ((with_reducible refine iteNVF ?hv ?_); (case hv => exact rfl))
  | with_reducible refine b_callS ?_
  | with_reducible refine b_xq ?_
  | with_reducible refine b_fld ?_
  | with_reducible refine b_sfld ?_
  | with_reducible refine b_meth ?_
  | with_reducible refine b_make ?_
  | with_reducible refine b_callK ?_
  | with_reducible refine b_sfa ?_
  | with_reducible refine b_lcEnT ?_
  | with_reducible refine b_lcEnL ?_
  | with_reducible refine b_forEnT ?_
  | with_reducible refine b_forEnL ?_
  | with_reducible refine b_lcZ ?_
  | with_reducible refine b_lcZX ?_
  | with_reducible refine b_prop ?_
  | with_reducible refine b_dput ?_
  | with_reducible refine b_din ?_
  | with_reducible refine b_inB ?_
  | with_reducible refine e_revT ?_
  | ((with_reducible refine' e_fld ?hv ?hc ?hn ?hl ?_); (case hv => assumption); (case hc => assumption); (case hn => assumption); (case hl => exact rfl))
  | ((with_reducible refine' e_meth ?hv ?hl ?_); (case hv => assumption); (case hl => exact rfl))
  | (with_reducible refine iteF ?_))

section
variable {P : Program} {w : World} {K : PySem.W.Frag} {mg : Str → Option Value} {base : Heap} {D : Ad}
def sp_law (K : PySem.W.Frag) : Sp := fun vs H Q _ => ∃ (a : Addr) (ns : List Int), vs = [.ref a] ∧ SqL K H a (ns.map V.int) ∧ ns.length ≤ 63 ∧ ∀ H', Q (.bl true) H'
theorem ok_law (T : Txt K mg D) (hB_TAKEN : BaseTup base D.k_TAKEN PR.taken) {k : Nat} : FnOkG P w K mg base CX0 (k + 23) D.f_law D.d_law P_law (sp_law K) := by
  have G__law_right : FnOkG P w K mg base CX0 (k + 22) D.f__law_right D.d__law_right P__law_right sp_right := ok__law_right T hB_TAKEN
  have G__law_pot_of : FnOk P w K mg base CX0 (k + 22) D.f__law_pot_of D.d__law_pot_of P__law_pot_of (spPotOf K) := (ok__law_pot_of T (k := k)).mono (by omega)
  refine okG T.f_law sc_law (fun vs H Q E h => ?_) (fun cdv A outer s H vs Q E hgu hr h => ?_)
  · obtain ⟨a, ns, rfl, _⟩ := h
    rfl
  · obtain ⟨a, ns, rfl, hS, hn, q⟩ := h
    refine ⟨_, (pss_cons (ps_for PassesOwn.never rfl (pi_range1 (by rfl) T.z_range (pa_cons (pe_callB (q_max rfl) (by rfl) T.z_max (by decide +kernel) (pa_cons pe_int (pa_cons (pe_callB (q_min rfl) (by rfl) T.z_min (by decide +kernel) (pa_cons pe_int (pa_cons (pe_callB (callK (K := K) (r := qLen) (by rfl) q_len) (by rfl) T.z_len (by decide +kernel) (pa_cons (pv 0) pa_nil)) pa_nil))) pa_nil))) pa_nil)) (pg_name (i := 1) sc_law.nd rfl (by first | exact .inl rfl | exact .inr rfl)) (pss_cons (ps_set (i := 2) sc_law.nd rfl (by first | exact .inl rfl | exact .inr rfl) (pe_call G__law_pot_of hr (by rfl) T.g__law_pot_of T.f__law_pot_of.kp T.b__law_pot_of .nil pass0 (pa_cons (pv 0) (pa_cons (pv 1) pa_nil))))
      (pss_one (ps_if (pt_not (pt_val (pe_callB (callK (K := K) (r := rAll) (by rfl) (cr_all rfl)) (by rfl) T.z_all (by decide +kernel) (pa_cons (pe_lc (own := [("_law_turn", 3)]) (g := gName 3) (tt := tYes) (by rfl) sc_law.nd (pi_range1 (by rfl) T.z_range (pa_cons pe_int pa_nil)) (blkOk_by (own := [("_law_turn", 3)]) (N := N_law) (sc := defScope s_law) (by decide +kernel)) (fun _ _ _ _ _ => (pg_name (i := 3) sc_law.nd rfl (by first | exact .inl rfl | exact .inr rfl))) (fun _ _ _ _ _ => pts_nil) (fun _ _ _ _ _ => (pe_callG G__law_right hgu hr (by rfl) T.g__law_right T.f__law_right.kp T.b__law_right .nil pass0 (pa_cons (pv 2) pa_nil)))) pa_nil)))) (pss_one (ps_ret pe_bl)) pss_nil))))
      (pss_one (ps_ret pe_bl))), ?_⟩
    repeat walk_at "st"
    have hj : ∀ x : Int, 1 ≤ (if (if x < 4 then x else 4) > 1 then (if x < 4 then x else 4) else 1) ∧ (if (if x < 4 then x else 4) > 1 then (if x < 4 then x else 4) else 1) ≤ 4 := by
      intro x
      split <;> split <;> omega
    obtain ⟨hj1, hj2⟩ := hj ((ns.map V.int).length : Int)
    generalize (if (if (((ns.map V.int).length : Nat) : Int) < 4 then (((ns.map V.int).length : Nat) : Int) else 4) > 1 then (if (((ns.map V.int).length : Nat) : Int) < 4 then (((ns.map V.int).length : Nat) : Int) else 4) else 1) = jj at hj1 hj2 ⊢
    refine e_forR (fun i σ H' => ∃ x1 x2, σ = [some (.ref a), x1, x2, none] ∧ Same H H') (by omega) (by omega) ?_ ?_ ?_
    · exact ⟨none, none, rfl, Same.refl H⟩
    · rintro i σ Ha hi ⟨x1, x2, rfl, sa⟩
      repeat walk_at "st"
      refine ⟨a, ns, i, by rw [Int.zero_add]; rfl, ?_, hn, by omega, fun p Hb np sb hPb => ?_⟩
      · rcases hS with (h | ⟨o, h⟩) | h
        · exact .inl (.inl (sa _ _ h))
        · exact .inl (.inr ⟨o, sa _ _ h⟩)
        · exact .inr h
      have npH : H p = none := none_back sa np
      repeat walk_at "st"
      refine e_lcR (fun S j H' => H' S = some (.lst ((List.replicate j true).map V.bl)) ∧ PotAt H' p (2000 * j) ∧ SameM (fun b => b = p ∨ b = S) Hb H') (by decide) (by decide) ?_ ?_ ?_
      · intro S H' nS hS' sS
        exact ⟨hS', hPb.keep sS, SameM.of sS⟩
      · rintro S j H' nS hj ⟨hS', hp', s'⟩
        have hj8 : j < 4 := hj
        have hSp : S ≠ p := hPb.ne nS
        repeat walk_at "st"
        refine ⟨p, _, rfl, hp', by omega, fun Hc hpc sc => ?_⟩
        repeat walk_at "st"
        refine e_app (sc _ _ hSp hS') (by simp; omega) fun Hd hd sd => ⟨?_, ?_, ?_⟩
        · rw [hd, List.replicate_succ', List.map_append]; rfl
        · have e2 : Hd p = Hc p := by
            obtain ⟨_, _, _, z, _⟩ := hpc
            rw [z]
            exact sd _ _ (Ne.symm hSp) z
          exact (hpc.same e2).mono (by omega)
        · exact (s'.trans (sc.sub fun b z => .inl z)).trans (sd.sub fun b z => .inr z)
      · rintro S H' nS ⟨hS', hp', s'⟩
        repeat walk_at "st"
        refine b_all (SqL.of hS') ?_
        rw [show (List.replicate (4 : Int).toNat true).all id = true from rfl]
        repeat walk_at "st"
        refine ⟨_, _, rfl, fun b o e => ?_⟩
        have e2 := sb _ _ (sa _ _ e)
        exact s' _ _ (fun z => by
          rcases z with rfl | rfl
          · rw [npH] at e; cases e
          · rw [nS] at e2; cases e2) e2
    · rintro σ Ha ⟨x1, x2, rfl, sa⟩
      repeat walk_at "st"
      exact q Ha
end
end K09

namespace K09
open PySem PySem.Spec PyProof.Rows L2 FG
theorem all_mk {K : PySem.W.Frag} {h : Heap} {mg : Str → Option Value} {f__wall f_is_letter f_is_word f_is_name f_are_ascending f_Condition_init f_Condition_holds f_Statement_init f_ProgramReader_init f_ProgramReader_fail f_ProgramReader_is_over f_ProgramReader_words f_ProgramReader_indent f_ProgramReader_begins f_ProgramReader_read f_ProgramReader_read_symbols f_ProgramReader_new_name f_ProgramReader_read_cell f_ProgramReader_read_part f_ProgramReader_read_body f_ProgramReader_read_statement f_ProgramReader_plain f_ProgramReader_block f_ProgramReader_asked_in f_ProgramReader_check_signs f_ProgramReader_cell_of f_ProgramReader_values_of f_ProgramReader_number_of f_letters_of f_Program_init f_Program_text p_Program_text f_Program_symbols p_Program_symbols f_Program_cells p_Program_cells f_Program_parts p_Program_parts f_Program_letters p_Program_letters f_Program_eq f__law_pot_of f__law_take f__law_of f__law_wide_lore f__law_wide_asked f__law_wide_plain f__law_wide_body f__law_grown f__law_letters f__law_other f__law_right f_law c_PassError c_BadProgram c_Condition c_Statement c_ProgramReader c_Program k_BARE k_BLOCKS k_MOSTS k_TAKEN k_VALUES : Addr} (X : K.In h) (G : h.Ns mainGlobals mg)
    {oc0 kV0 dc0 pm0 cd0 ct0 : Value} {od0 an0 : Option Addr} {sl0 : Array (Option Value)}
    (a0 : PySem.W.nsIn K mainGlobals "_wall" = some (some (.ref f__wall)))
    (l0 : K.lookup f__wall = some ⟨oc0, od0, .func (PySem.W.fnOf "_wall" "_wall" (defArgs s__wall) (defBody s__wall) (defScope s__wall) .none kV0 dc0 pm0 an0 cd0 ct0), sl0⟩)
    (k0 : PySem.W.codeIn K cd0 "_wall" = true) (e0 : PySem.W.keepIn K (.ref f__wall) = true)
    {oc1 kV1 dc1 pm1 cd1 ct1 : Value} {od1 an1 : Option Addr} {sl1 : Array (Option Value)}
    (a1 : PySem.W.nsIn K mainGlobals "is_letter" = some (some (.ref f_is_letter)))
    (l1 : K.lookup f_is_letter = some ⟨oc1, od1, .func (PySem.W.fnOf "is_letter" "is_letter" (defArgs s_is_letter) (defBody s_is_letter) (defScope s_is_letter) .none kV1 dc1 pm1 an1 cd1 ct1), sl1⟩)
    (k1 : PySem.W.codeIn K cd1 "is_letter" = true) (e1 : PySem.W.keepIn K (.ref f_is_letter) = true)
    {oc2 kV2 dc2 pm2 cd2 ct2 : Value} {od2 an2 : Option Addr} {sl2 : Array (Option Value)}
    (a2 : PySem.W.nsIn K mainGlobals "is_word" = some (some (.ref f_is_word)))
    (l2 : K.lookup f_is_word = some ⟨oc2, od2, .func (PySem.W.fnOf "is_word" "is_word" (defArgs s_is_word) (defBody s_is_word) (defScope s_is_word) .none kV2 dc2 pm2 an2 cd2 ct2), sl2⟩)
    (k2 : PySem.W.codeIn K cd2 "is_word" = true) (e2 : PySem.W.keepIn K (.ref f_is_word) = true)
    {oc3 kV3 dc3 pm3 cd3 ct3 : Value} {od3 an3 : Option Addr} {sl3 : Array (Option Value)}
    (a3 : PySem.W.nsIn K mainGlobals "is_name" = some (some (.ref f_is_name)))
    (l3 : K.lookup f_is_name = some ⟨oc3, od3, .func (PySem.W.fnOf "is_name" "is_name" (defArgs s_is_name) (defBody s_is_name) (defScope s_is_name) .none kV3 dc3 pm3 an3 cd3 ct3), sl3⟩)
    (k3 : PySem.W.codeIn K cd3 "is_name" = true) (e3 : PySem.W.keepIn K (.ref f_is_name) = true)
    {oc4 kV4 dc4 pm4 cd4 ct4 : Value} {od4 an4 : Option Addr} {sl4 : Array (Option Value)}
    (a4 : PySem.W.nsIn K mainGlobals "are_ascending" = some (some (.ref f_are_ascending)))
    (l4 : K.lookup f_are_ascending = some ⟨oc4, od4, .func (PySem.W.fnOf "are_ascending" "are_ascending" (defArgs s_are_ascending) (defBody s_are_ascending) (defScope s_are_ascending) .none kV4 dc4 pm4 an4 cd4 ct4), sl4⟩)
    (k4 : PySem.W.codeIn K cd4 "are_ascending" = true) (e4 : PySem.W.keepIn K (.ref f_are_ascending) = true)
    {oc5 kV5 dc5 pm5 cd5 ct5 : Value} {od5 an5 : Option Addr} {sl5 : Array (Option Value)}
    (a5 : PySem.W.findIn K (.ref c_Condition) "__init__" = some (some (.ref f_Condition_init))) (i5 : PySem.W.isFn K (.ref f_Condition_init) = true)
    (l5 : K.lookup f_Condition_init = some ⟨oc5, od5, .func (PySem.W.fnOf "__init__" "Condition.__init__" (defArgs s_Condition_init) (defBody s_Condition_init) (defScope s_Condition_init) .none kV5 dc5 pm5 an5 cd5 ct5), sl5⟩)
    (k5 : PySem.W.codeIn K cd5 "Condition.__init__" = true) (e5 : PySem.W.keepIn K (.ref f_Condition_init) = true)
    {oc6 kV6 dc6 pm6 cd6 ct6 : Value} {od6 an6 : Option Addr} {sl6 : Array (Option Value)}
    (a6 : PySem.W.findIn K (.ref c_Condition) "holds" = some (some (.ref f_Condition_holds))) (i6 : PySem.W.isFn K (.ref f_Condition_holds) = true)
    (l6 : K.lookup f_Condition_holds = some ⟨oc6, od6, .func (PySem.W.fnOf "holds" "Condition.holds" (defArgs s_Condition_holds) (defBody s_Condition_holds) (defScope s_Condition_holds) .none kV6 dc6 pm6 an6 cd6 ct6), sl6⟩)
    (k6 : PySem.W.codeIn K cd6 "Condition.holds" = true) (e6 : PySem.W.keepIn K (.ref f_Condition_holds) = true)
    {oc7 kV7 dc7 pm7 cd7 ct7 : Value} {od7 an7 : Option Addr} {sl7 : Array (Option Value)}
    (a7 : PySem.W.findIn K (.ref c_Statement) "__init__" = some (some (.ref f_Statement_init))) (i7 : PySem.W.isFn K (.ref f_Statement_init) = true)
    (l7 : K.lookup f_Statement_init = some ⟨oc7, od7, .func (PySem.W.fnOf "__init__" "Statement.__init__" (defArgs s_Statement_init) (defBody s_Statement_init) (defScope s_Statement_init) .none kV7 dc7 pm7 an7 cd7 ct7), sl7⟩)
    (k7 : PySem.W.codeIn K cd7 "Statement.__init__" = true) (e7 : PySem.W.keepIn K (.ref f_Statement_init) = true)
    {oc8 kV8 dc8 pm8 cd8 ct8 : Value} {od8 an8 : Option Addr} {sl8 : Array (Option Value)}
    (a8 : PySem.W.findIn K (.ref c_ProgramReader) "__init__" = some (some (.ref f_ProgramReader_init))) (i8 : PySem.W.isFn K (.ref f_ProgramReader_init) = true)
    (l8 : K.lookup f_ProgramReader_init = some ⟨oc8, od8, .func (PySem.W.fnOf "__init__" "ProgramReader.__init__" (defArgs s_ProgramReader_init) (defBody s_ProgramReader_init) (defScope s_ProgramReader_init) .none kV8 dc8 pm8 an8 cd8 ct8), sl8⟩)
    (k8 : PySem.W.codeIn K cd8 "ProgramReader.__init__" = true) (e8 : PySem.W.keepIn K (.ref f_ProgramReader_init) = true)
    {oc9 kV9 dc9 pm9 cd9 ct9 : Value} {od9 an9 : Option Addr} {sl9 : Array (Option Value)}
    (a9 : PySem.W.findIn K (.ref c_ProgramReader) "fail" = some (some (.ref f_ProgramReader_fail))) (i9 : PySem.W.isFn K (.ref f_ProgramReader_fail) = true)
    (l9 : K.lookup f_ProgramReader_fail = some ⟨oc9, od9, .func (PySem.W.fnOf "fail" "ProgramReader.fail" (defArgs s_ProgramReader_fail) (defBody s_ProgramReader_fail) (defScope s_ProgramReader_fail) .none kV9 dc9 pm9 an9 cd9 ct9), sl9⟩)
    (k9 : PySem.W.codeIn K cd9 "ProgramReader.fail" = true) (e9 : PySem.W.keepIn K (.ref f_ProgramReader_fail) = true)
    {oc10 kV10 dc10 pm10 cd10 ct10 : Value} {od10 an10 : Option Addr} {sl10 : Array (Option Value)}
    (a10 : PySem.W.findIn K (.ref c_ProgramReader) "is_over" = some (some (.ref f_ProgramReader_is_over))) (i10 : PySem.W.isFn K (.ref f_ProgramReader_is_over) = true)
    (l10 : K.lookup f_ProgramReader_is_over = some ⟨oc10, od10, .func (PySem.W.fnOf "is_over" "ProgramReader.is_over" (defArgs s_ProgramReader_is_over) (defBody s_ProgramReader_is_over) (defScope s_ProgramReader_is_over) .none kV10 dc10 pm10 an10 cd10 ct10), sl10⟩)
    (k10 : PySem.W.codeIn K cd10 "ProgramReader.is_over" = true) (e10 : PySem.W.keepIn K (.ref f_ProgramReader_is_over) = true)
    {oc11 kV11 dc11 pm11 cd11 ct11 : Value} {od11 an11 : Option Addr} {sl11 : Array (Option Value)}
    (a11 : PySem.W.findIn K (.ref c_ProgramReader) "words" = some (some (.ref f_ProgramReader_words))) (i11 : PySem.W.isFn K (.ref f_ProgramReader_words) = true)
    (l11 : K.lookup f_ProgramReader_words = some ⟨oc11, od11, .func (PySem.W.fnOf "words" "ProgramReader.words" (defArgs s_ProgramReader_words) (defBody s_ProgramReader_words) (defScope s_ProgramReader_words) .none kV11 dc11 pm11 an11 cd11 ct11), sl11⟩)
    (k11 : PySem.W.codeIn K cd11 "ProgramReader.words" = true) (e11 : PySem.W.keepIn K (.ref f_ProgramReader_words) = true)
    {oc12 kV12 dc12 pm12 cd12 ct12 : Value} {od12 an12 : Option Addr} {sl12 : Array (Option Value)}
    (a12 : PySem.W.findIn K (.ref c_ProgramReader) "indent" = some (some (.ref f_ProgramReader_indent))) (i12 : PySem.W.isFn K (.ref f_ProgramReader_indent) = true)
    (l12 : K.lookup f_ProgramReader_indent = some ⟨oc12, od12, .func (PySem.W.fnOf "indent" "ProgramReader.indent" (defArgs s_ProgramReader_indent) (defBody s_ProgramReader_indent) (defScope s_ProgramReader_indent) .none kV12 dc12 pm12 an12 cd12 ct12), sl12⟩)
    (k12 : PySem.W.codeIn K cd12 "ProgramReader.indent" = true) (e12 : PySem.W.keepIn K (.ref f_ProgramReader_indent) = true)
    {oc13 kV13 dc13 pm13 cd13 ct13 : Value} {od13 an13 : Option Addr} {sl13 : Array (Option Value)}
    (a13 : PySem.W.findIn K (.ref c_ProgramReader) "begins" = some (some (.ref f_ProgramReader_begins))) (i13 : PySem.W.isFn K (.ref f_ProgramReader_begins) = true)
    (l13 : K.lookup f_ProgramReader_begins = some ⟨oc13, od13, .func (PySem.W.fnOf "begins" "ProgramReader.begins" (defArgs s_ProgramReader_begins) (defBody s_ProgramReader_begins) (defScope s_ProgramReader_begins) .none kV13 dc13 pm13 an13 cd13 ct13), sl13⟩)
    (k13 : PySem.W.codeIn K cd13 "ProgramReader.begins" = true) (e13 : PySem.W.keepIn K (.ref f_ProgramReader_begins) = true)
    {oc14 kV14 dc14 pm14 cd14 ct14 : Value} {od14 an14 : Option Addr} {sl14 : Array (Option Value)}
    (a14 : PySem.W.findIn K (.ref c_ProgramReader) "read" = some (some (.ref f_ProgramReader_read))) (i14 : PySem.W.isFn K (.ref f_ProgramReader_read) = true)
    (l14 : K.lookup f_ProgramReader_read = some ⟨oc14, od14, .func (PySem.W.fnOf "read" "ProgramReader.read" (defArgs s_ProgramReader_read) (defBody s_ProgramReader_read) (defScope s_ProgramReader_read) .none kV14 dc14 pm14 an14 cd14 ct14), sl14⟩)
    (k14 : PySem.W.codeIn K cd14 "ProgramReader.read" = true) (e14 : PySem.W.keepIn K (.ref f_ProgramReader_read) = true)
    {oc15 kV15 dc15 pm15 cd15 ct15 : Value} {od15 an15 : Option Addr} {sl15 : Array (Option Value)}
    (a15 : PySem.W.findIn K (.ref c_ProgramReader) "read_symbols" = some (some (.ref f_ProgramReader_read_symbols))) (i15 : PySem.W.isFn K (.ref f_ProgramReader_read_symbols) = true)
    (l15 : K.lookup f_ProgramReader_read_symbols = some ⟨oc15, od15, .func (PySem.W.fnOf "read_symbols" "ProgramReader.read_symbols" (defArgs s_ProgramReader_read_symbols) (defBody s_ProgramReader_read_symbols) (defScope s_ProgramReader_read_symbols) .none kV15 dc15 pm15 an15 cd15 ct15), sl15⟩)
    (k15 : PySem.W.codeIn K cd15 "ProgramReader.read_symbols" = true) (e15 : PySem.W.keepIn K (.ref f_ProgramReader_read_symbols) = true)
    {oc16 kV16 dc16 pm16 cd16 ct16 : Value} {od16 an16 : Option Addr} {sl16 : Array (Option Value)}
    (a16 : PySem.W.findIn K (.ref c_ProgramReader) "new_name" = some (some (.ref f_ProgramReader_new_name))) (i16 : PySem.W.isFn K (.ref f_ProgramReader_new_name) = true)
    (l16 : K.lookup f_ProgramReader_new_name = some ⟨oc16, od16, .func (PySem.W.fnOf "new_name" "ProgramReader.new_name" (defArgs s_ProgramReader_new_name) (defBody s_ProgramReader_new_name) (defScope s_ProgramReader_new_name) .none kV16 dc16 pm16 an16 cd16 ct16), sl16⟩)
    (k16 : PySem.W.codeIn K cd16 "ProgramReader.new_name" = true) (e16 : PySem.W.keepIn K (.ref f_ProgramReader_new_name) = true)
    {oc17 kV17 dc17 pm17 cd17 ct17 : Value} {od17 an17 : Option Addr} {sl17 : Array (Option Value)}
    (a17 : PySem.W.findIn K (.ref c_ProgramReader) "read_cell" = some (some (.ref f_ProgramReader_read_cell))) (i17 : PySem.W.isFn K (.ref f_ProgramReader_read_cell) = true)
    (l17 : K.lookup f_ProgramReader_read_cell = some ⟨oc17, od17, .func (PySem.W.fnOf "read_cell" "ProgramReader.read_cell" (defArgs s_ProgramReader_read_cell) (defBody s_ProgramReader_read_cell) (defScope s_ProgramReader_read_cell) .none kV17 dc17 pm17 an17 cd17 ct17), sl17⟩)
    (k17 : PySem.W.codeIn K cd17 "ProgramReader.read_cell" = true) (e17 : PySem.W.keepIn K (.ref f_ProgramReader_read_cell) = true)
    {oc18 kV18 dc18 pm18 cd18 ct18 : Value} {od18 an18 : Option Addr} {sl18 : Array (Option Value)}
    (a18 : PySem.W.findIn K (.ref c_ProgramReader) "read_part" = some (some (.ref f_ProgramReader_read_part))) (i18 : PySem.W.isFn K (.ref f_ProgramReader_read_part) = true)
    (l18 : K.lookup f_ProgramReader_read_part = some ⟨oc18, od18, .func (PySem.W.fnOf "read_part" "ProgramReader.read_part" (defArgs s_ProgramReader_read_part) (defBody s_ProgramReader_read_part) (defScope s_ProgramReader_read_part) .none kV18 dc18 pm18 an18 cd18 ct18), sl18⟩)
    (k18 : PySem.W.codeIn K cd18 "ProgramReader.read_part" = true) (e18 : PySem.W.keepIn K (.ref f_ProgramReader_read_part) = true)
    {oc19 kV19 dc19 pm19 cd19 ct19 : Value} {od19 an19 : Option Addr} {sl19 : Array (Option Value)}
    (a19 : PySem.W.findIn K (.ref c_ProgramReader) "read_body" = some (some (.ref f_ProgramReader_read_body))) (i19 : PySem.W.isFn K (.ref f_ProgramReader_read_body) = true)
    (l19 : K.lookup f_ProgramReader_read_body = some ⟨oc19, od19, .func (PySem.W.fnOf "read_body" "ProgramReader.read_body" (defArgs s_ProgramReader_read_body) (defBody s_ProgramReader_read_body) (defScope s_ProgramReader_read_body) .none kV19 dc19 pm19 an19 cd19 ct19), sl19⟩)
    (k19 : PySem.W.codeIn K cd19 "ProgramReader.read_body" = true) (e19 : PySem.W.keepIn K (.ref f_ProgramReader_read_body) = true)
    {oc20 kV20 dc20 pm20 cd20 ct20 : Value} {od20 an20 : Option Addr} {sl20 : Array (Option Value)}
    (a20 : PySem.W.findIn K (.ref c_ProgramReader) "read_statement" = some (some (.ref f_ProgramReader_read_statement))) (i20 : PySem.W.isFn K (.ref f_ProgramReader_read_statement) = true)
    (l20 : K.lookup f_ProgramReader_read_statement = some ⟨oc20, od20, .func (PySem.W.fnOf "read_statement" "ProgramReader.read_statement" (defArgs s_ProgramReader_read_statement) (defBody s_ProgramReader_read_statement) (defScope s_ProgramReader_read_statement) .none kV20 dc20 pm20 an20 cd20 ct20), sl20⟩)
    (k20 : PySem.W.codeIn K cd20 "ProgramReader.read_statement" = true) (e20 : PySem.W.keepIn K (.ref f_ProgramReader_read_statement) = true)
    {oc21 kV21 dc21 pm21 cd21 ct21 : Value} {od21 an21 : Option Addr} {sl21 : Array (Option Value)}
    (a21 : PySem.W.findIn K (.ref c_ProgramReader) "plain" = some (some (.ref f_ProgramReader_plain))) (i21 : PySem.W.isFn K (.ref f_ProgramReader_plain) = true)
    (l21 : K.lookup f_ProgramReader_plain = some ⟨oc21, od21, .func (PySem.W.fnOf "plain" "ProgramReader.plain" (defArgs s_ProgramReader_plain) (defBody s_ProgramReader_plain) (defScope s_ProgramReader_plain) .none kV21 dc21 pm21 an21 cd21 ct21), sl21⟩)
    (k21 : PySem.W.codeIn K cd21 "ProgramReader.plain" = true) (e21 : PySem.W.keepIn K (.ref f_ProgramReader_plain) = true)
    {oc22 kV22 dc22 pm22 cd22 ct22 : Value} {od22 an22 : Option Addr} {sl22 : Array (Option Value)}
    (a22 : PySem.W.findIn K (.ref c_ProgramReader) "block" = some (some (.ref f_ProgramReader_block))) (i22 : PySem.W.isFn K (.ref f_ProgramReader_block) = true)
    (l22 : K.lookup f_ProgramReader_block = some ⟨oc22, od22, .func (PySem.W.fnOf "block" "ProgramReader.block" (defArgs s_ProgramReader_block) (defBody s_ProgramReader_block) (defScope s_ProgramReader_block) .none kV22 dc22 pm22 an22 cd22 ct22), sl22⟩)
    (k22 : PySem.W.codeIn K cd22 "ProgramReader.block" = true) (e22 : PySem.W.keepIn K (.ref f_ProgramReader_block) = true)
    {oc23 kV23 dc23 pm23 cd23 ct23 : Value} {od23 an23 : Option Addr} {sl23 : Array (Option Value)}
    (a23 : PySem.W.findIn K (.ref c_ProgramReader) "asked_in" = some (some (.ref f_ProgramReader_asked_in))) (i23 : PySem.W.isFn K (.ref f_ProgramReader_asked_in) = true)
    (l23 : K.lookup f_ProgramReader_asked_in = some ⟨oc23, od23, .func (PySem.W.fnOf "asked_in" "ProgramReader.asked_in" (defArgs s_ProgramReader_asked_in) (defBody s_ProgramReader_asked_in) (defScope s_ProgramReader_asked_in) .none kV23 dc23 pm23 an23 cd23 ct23), sl23⟩)
    (k23 : PySem.W.codeIn K cd23 "ProgramReader.asked_in" = true) (e23 : PySem.W.keepIn K (.ref f_ProgramReader_asked_in) = true)
    {oc24 kV24 dc24 pm24 cd24 ct24 : Value} {od24 an24 : Option Addr} {sl24 : Array (Option Value)}
    (a24 : PySem.W.findIn K (.ref c_ProgramReader) "check_signs" = some (some (.ref f_ProgramReader_check_signs))) (i24 : PySem.W.isFn K (.ref f_ProgramReader_check_signs) = true)
    (l24 : K.lookup f_ProgramReader_check_signs = some ⟨oc24, od24, .func (PySem.W.fnOf "check_signs" "ProgramReader.check_signs" (defArgs s_ProgramReader_check_signs) (defBody s_ProgramReader_check_signs) (defScope s_ProgramReader_check_signs) .none kV24 dc24 pm24 an24 cd24 ct24), sl24⟩)
    (k24 : PySem.W.codeIn K cd24 "ProgramReader.check_signs" = true) (e24 : PySem.W.keepIn K (.ref f_ProgramReader_check_signs) = true)
    {oc25 kV25 dc25 pm25 cd25 ct25 : Value} {od25 an25 : Option Addr} {sl25 : Array (Option Value)}
    (a25 : PySem.W.findIn K (.ref c_ProgramReader) "cell_of" = some (some (.ref f_ProgramReader_cell_of))) (i25 : PySem.W.isFn K (.ref f_ProgramReader_cell_of) = true)
    (l25 : K.lookup f_ProgramReader_cell_of = some ⟨oc25, od25, .func (PySem.W.fnOf "cell_of" "ProgramReader.cell_of" (defArgs s_ProgramReader_cell_of) (defBody s_ProgramReader_cell_of) (defScope s_ProgramReader_cell_of) .none kV25 dc25 pm25 an25 cd25 ct25), sl25⟩)
    (k25 : PySem.W.codeIn K cd25 "ProgramReader.cell_of" = true) (e25 : PySem.W.keepIn K (.ref f_ProgramReader_cell_of) = true)
    {oc26 kV26 dc26 pm26 cd26 ct26 : Value} {od26 an26 : Option Addr} {sl26 : Array (Option Value)}
    (a26 : PySem.W.findIn K (.ref c_ProgramReader) "values_of" = some (some (.ref f_ProgramReader_values_of))) (i26 : PySem.W.isFn K (.ref f_ProgramReader_values_of) = true)
    (l26 : K.lookup f_ProgramReader_values_of = some ⟨oc26, od26, .func (PySem.W.fnOf "values_of" "ProgramReader.values_of" (defArgs s_ProgramReader_values_of) (defBody s_ProgramReader_values_of) (defScope s_ProgramReader_values_of) .none kV26 dc26 pm26 an26 cd26 ct26), sl26⟩)
    (k26 : PySem.W.codeIn K cd26 "ProgramReader.values_of" = true) (e26 : PySem.W.keepIn K (.ref f_ProgramReader_values_of) = true)
    {oc27 kV27 dc27 pm27 cd27 ct27 : Value} {od27 an27 : Option Addr} {sl27 : Array (Option Value)}
    (a27 : PySem.W.findIn K (.ref c_ProgramReader) "number_of" = some (some (.ref f_ProgramReader_number_of))) (i27 : PySem.W.isFn K (.ref f_ProgramReader_number_of) = true)
    (l27 : K.lookup f_ProgramReader_number_of = some ⟨oc27, od27, .func (PySem.W.fnOf "number_of" "ProgramReader.number_of" (defArgs s_ProgramReader_number_of) (defBody s_ProgramReader_number_of) (defScope s_ProgramReader_number_of) .none kV27 dc27 pm27 an27 cd27 ct27), sl27⟩)
    (k27 : PySem.W.codeIn K cd27 "ProgramReader.number_of" = true) (e27 : PySem.W.keepIn K (.ref f_ProgramReader_number_of) = true)
    {oc28 kV28 dc28 pm28 cd28 ct28 : Value} {od28 an28 : Option Addr} {sl28 : Array (Option Value)}
    (a28 : PySem.W.nsIn K mainGlobals "letters_of" = some (some (.ref f_letters_of)))
    (l28 : K.lookup f_letters_of = some ⟨oc28, od28, .func (PySem.W.fnOf "letters_of" "letters_of" (defArgs s_letters_of) (defBody s_letters_of) (defScope s_letters_of) .none kV28 dc28 pm28 an28 cd28 ct28), sl28⟩)
    (k28 : PySem.W.codeIn K cd28 "letters_of" = true) (e28 : PySem.W.keepIn K (.ref f_letters_of) = true)
    {oc29 kV29 dc29 pm29 cd29 ct29 : Value} {od29 an29 : Option Addr} {sl29 : Array (Option Value)}
    (a29 : PySem.W.findIn K (.ref c_Program) "__init__" = some (some (.ref f_Program_init))) (i29 : PySem.W.isFn K (.ref f_Program_init) = true)
    (l29 : K.lookup f_Program_init = some ⟨oc29, od29, .func (PySem.W.fnOf "__init__" "Program.__init__" (defArgs s_Program_init) (defBody s_Program_init) (defScope s_Program_init) .none kV29 dc29 pm29 an29 cd29 ct29), sl29⟩)
    (k29 : PySem.W.codeIn K cd29 "Program.__init__" = true) (e29 : PySem.W.keepIn K (.ref f_Program_init) = true)
    {oc30 kV30 dc30 pm30 cd30 ct30 : Value} {od30 an30 : Option Addr} {sl30 : Array (Option Value)}
    {rs30 : List Value} (a30 : PySem.W.findIn K (.ref c_Program) "text" = some (some (.ref p_Program_text))) (pg30 : PySem.W.specialIn K (.ref p_Program_text) "__get__" = some (some (.builtin "property.__get__"))) (pt30 : PySem.W.takesIn K (.ref p_Program_text) = some true) (pr30 : PySem.W.recIn K p_Program_text "property" = some (.ref f_Program_text :: rs30))
    (l30 : K.lookup f_Program_text = some ⟨oc30, od30, .func (PySem.W.fnOf "text" "Program.text" (defArgs s_Program_text) (defBody s_Program_text) (defScope s_Program_text) .none kV30 dc30 pm30 an30 cd30 ct30), sl30⟩)
    (k30 : PySem.W.codeIn K cd30 "Program.text" = true) (e30 : PySem.W.keepIn K (.ref f_Program_text) = true)
    {oc31 kV31 dc31 pm31 cd31 ct31 : Value} {od31 an31 : Option Addr} {sl31 : Array (Option Value)}
    {rs31 : List Value} (a31 : PySem.W.findIn K (.ref c_Program) "symbols" = some (some (.ref p_Program_symbols))) (pg31 : PySem.W.specialIn K (.ref p_Program_symbols) "__get__" = some (some (.builtin "property.__get__"))) (pt31 : PySem.W.takesIn K (.ref p_Program_symbols) = some true) (pr31 : PySem.W.recIn K p_Program_symbols "property" = some (.ref f_Program_symbols :: rs31))
    (l31 : K.lookup f_Program_symbols = some ⟨oc31, od31, .func (PySem.W.fnOf "symbols" "Program.symbols" (defArgs s_Program_symbols) (defBody s_Program_symbols) (defScope s_Program_symbols) .none kV31 dc31 pm31 an31 cd31 ct31), sl31⟩)
    (k31 : PySem.W.codeIn K cd31 "Program.symbols" = true) (e31 : PySem.W.keepIn K (.ref f_Program_symbols) = true)
    {oc32 kV32 dc32 pm32 cd32 ct32 : Value} {od32 an32 : Option Addr} {sl32 : Array (Option Value)}
    {rs32 : List Value} (a32 : PySem.W.findIn K (.ref c_Program) "cells" = some (some (.ref p_Program_cells))) (pg32 : PySem.W.specialIn K (.ref p_Program_cells) "__get__" = some (some (.builtin "property.__get__"))) (pt32 : PySem.W.takesIn K (.ref p_Program_cells) = some true) (pr32 : PySem.W.recIn K p_Program_cells "property" = some (.ref f_Program_cells :: rs32))
    (l32 : K.lookup f_Program_cells = some ⟨oc32, od32, .func (PySem.W.fnOf "cells" "Program.cells" (defArgs s_Program_cells) (defBody s_Program_cells) (defScope s_Program_cells) .none kV32 dc32 pm32 an32 cd32 ct32), sl32⟩)
    (k32 : PySem.W.codeIn K cd32 "Program.cells" = true) (e32 : PySem.W.keepIn K (.ref f_Program_cells) = true)
    {oc33 kV33 dc33 pm33 cd33 ct33 : Value} {od33 an33 : Option Addr} {sl33 : Array (Option Value)}
    {rs33 : List Value} (a33 : PySem.W.findIn K (.ref c_Program) "parts" = some (some (.ref p_Program_parts))) (pg33 : PySem.W.specialIn K (.ref p_Program_parts) "__get__" = some (some (.builtin "property.__get__"))) (pt33 : PySem.W.takesIn K (.ref p_Program_parts) = some true) (pr33 : PySem.W.recIn K p_Program_parts "property" = some (.ref f_Program_parts :: rs33))
    (l33 : K.lookup f_Program_parts = some ⟨oc33, od33, .func (PySem.W.fnOf "parts" "Program.parts" (defArgs s_Program_parts) (defBody s_Program_parts) (defScope s_Program_parts) .none kV33 dc33 pm33 an33 cd33 ct33), sl33⟩)
    (k33 : PySem.W.codeIn K cd33 "Program.parts" = true) (e33 : PySem.W.keepIn K (.ref f_Program_parts) = true)
    {oc34 kV34 dc34 pm34 cd34 ct34 : Value} {od34 an34 : Option Addr} {sl34 : Array (Option Value)}
    {rs34 : List Value} (a34 : PySem.W.findIn K (.ref c_Program) "letters" = some (some (.ref p_Program_letters))) (pg34 : PySem.W.specialIn K (.ref p_Program_letters) "__get__" = some (some (.builtin "property.__get__"))) (pt34 : PySem.W.takesIn K (.ref p_Program_letters) = some true) (pr34 : PySem.W.recIn K p_Program_letters "property" = some (.ref f_Program_letters :: rs34))
    (l34 : K.lookup f_Program_letters = some ⟨oc34, od34, .func (PySem.W.fnOf "letters" "Program.letters" (defArgs s_Program_letters) (defBody s_Program_letters) (defScope s_Program_letters) .none kV34 dc34 pm34 an34 cd34 ct34), sl34⟩)
    (k34 : PySem.W.codeIn K cd34 "Program.letters" = true) (e34 : PySem.W.keepIn K (.ref f_Program_letters) = true)
    {oc35 kV35 dc35 pm35 cd35 ct35 : Value} {od35 an35 : Option Addr} {sl35 : Array (Option Value)}
    (a35 : PySem.W.findIn K (.ref c_Program) "__eq__" = some (some (.ref f_Program_eq))) (i35 : PySem.W.isFn K (.ref f_Program_eq) = true)
    (l35 : K.lookup f_Program_eq = some ⟨oc35, od35, .func (PySem.W.fnOf "__eq__" "Program.__eq__" (defArgs s_Program_eq) (defBody s_Program_eq) (defScope s_Program_eq) .none kV35 dc35 pm35 an35 cd35 ct35), sl35⟩)
    (k35 : PySem.W.codeIn K cd35 "Program.__eq__" = true) (e35 : PySem.W.keepIn K (.ref f_Program_eq) = true)
    {oc36 kV36 dc36 pm36 cd36 ct36 : Value} {od36 an36 : Option Addr} {sl36 : Array (Option Value)}
    (a36 : PySem.W.nsIn K mainGlobals "_law_pot_of" = some (some (.ref f__law_pot_of)))
    (l36 : K.lookup f__law_pot_of = some ⟨oc36, od36, .func (PySem.W.fnOf "_law_pot_of" "_law_pot_of" (defArgs s__law_pot_of) (defBody s__law_pot_of) (defScope s__law_pot_of) .none kV36 dc36 pm36 an36 cd36 ct36), sl36⟩)
    (k36 : PySem.W.codeIn K cd36 "_law_pot_of" = true) (e36 : PySem.W.keepIn K (.ref f__law_pot_of) = true)
    {oc37 kV37 dc37 pm37 cd37 ct37 : Value} {od37 an37 : Option Addr} {sl37 : Array (Option Value)}
    (a37 : PySem.W.nsIn K mainGlobals "_law_take" = some (some (.ref f__law_take)))
    (l37 : K.lookup f__law_take = some ⟨oc37, od37, .func (PySem.W.fnOf "_law_take" "_law_take" (defArgs s__law_take) (defBody s__law_take) (defScope s__law_take) .none kV37 dc37 pm37 an37 cd37 ct37), sl37⟩)
    (k37 : PySem.W.codeIn K cd37 "_law_take" = true) (e37 : PySem.W.keepIn K (.ref f__law_take) = true)
    {oc38 kV38 dc38 pm38 cd38 ct38 : Value} {od38 an38 : Option Addr} {sl38 : Array (Option Value)}
    (a38 : PySem.W.nsIn K mainGlobals "_law_of" = some (some (.ref f__law_of)))
    (l38 : K.lookup f__law_of = some ⟨oc38, od38, .func (PySem.W.fnOf "_law_of" "_law_of" (defArgs s__law_of) (defBody s__law_of) (defScope s__law_of) .none kV38 dc38 pm38 an38 cd38 ct38), sl38⟩)
    (k38 : PySem.W.codeIn K cd38 "_law_of" = true) (e38 : PySem.W.keepIn K (.ref f__law_of) = true)
    {oc39 kV39 dc39 pm39 cd39 ct39 : Value} {od39 an39 : Option Addr} {sl39 : Array (Option Value)}
    (a39 : PySem.W.nsIn K mainGlobals "_law_wide_lore" = some (some (.ref f__law_wide_lore)))
    (l39 : K.lookup f__law_wide_lore = some ⟨oc39, od39, .func (PySem.W.fnOf "_law_wide_lore" "_law_wide_lore" (defArgs s__law_wide_lore) (defBody s__law_wide_lore) (defScope s__law_wide_lore) .none kV39 dc39 pm39 an39 cd39 ct39), sl39⟩)
    (k39 : PySem.W.codeIn K cd39 "_law_wide_lore" = true) (e39 : PySem.W.keepIn K (.ref f__law_wide_lore) = true)
    {oc40 kV40 dc40 pm40 cd40 ct40 : Value} {od40 an40 : Option Addr} {sl40 : Array (Option Value)}
    (a40 : PySem.W.nsIn K mainGlobals "_law_wide_asked" = some (some (.ref f__law_wide_asked)))
    (l40 : K.lookup f__law_wide_asked = some ⟨oc40, od40, .func (PySem.W.fnOf "_law_wide_asked" "_law_wide_asked" (defArgs s__law_wide_asked) (defBody s__law_wide_asked) (defScope s__law_wide_asked) .none kV40 dc40 pm40 an40 cd40 ct40), sl40⟩)
    (k40 : PySem.W.codeIn K cd40 "_law_wide_asked" = true) (e40 : PySem.W.keepIn K (.ref f__law_wide_asked) = true)
    {oc41 kV41 dc41 pm41 cd41 ct41 : Value} {od41 an41 : Option Addr} {sl41 : Array (Option Value)}
    (a41 : PySem.W.nsIn K mainGlobals "_law_wide_plain" = some (some (.ref f__law_wide_plain)))
    (l41 : K.lookup f__law_wide_plain = some ⟨oc41, od41, .func (PySem.W.fnOf "_law_wide_plain" "_law_wide_plain" (defArgs s__law_wide_plain) (defBody s__law_wide_plain) (defScope s__law_wide_plain) .none kV41 dc41 pm41 an41 cd41 ct41), sl41⟩)
    (k41 : PySem.W.codeIn K cd41 "_law_wide_plain" = true) (e41 : PySem.W.keepIn K (.ref f__law_wide_plain) = true)
    {oc42 kV42 dc42 pm42 cd42 ct42 : Value} {od42 an42 : Option Addr} {sl42 : Array (Option Value)}
    (a42 : PySem.W.nsIn K mainGlobals "_law_wide_body" = some (some (.ref f__law_wide_body)))
    (l42 : K.lookup f__law_wide_body = some ⟨oc42, od42, .func (PySem.W.fnOf "_law_wide_body" "_law_wide_body" (defArgs s__law_wide_body) (defBody s__law_wide_body) (defScope s__law_wide_body) .none kV42 dc42 pm42 an42 cd42 ct42), sl42⟩)
    (k42 : PySem.W.codeIn K cd42 "_law_wide_body" = true) (e42 : PySem.W.keepIn K (.ref f__law_wide_body) = true)
    {oc43 kV43 dc43 pm43 cd43 ct43 : Value} {od43 an43 : Option Addr} {sl43 : Array (Option Value)}
    (a43 : PySem.W.nsIn K mainGlobals "_law_grown" = some (some (.ref f__law_grown)))
    (l43 : K.lookup f__law_grown = some ⟨oc43, od43, .func (PySem.W.fnOf "_law_grown" "_law_grown" (defArgs s__law_grown) (defBody s__law_grown) (defScope s__law_grown) .none kV43 dc43 pm43 an43 cd43 ct43), sl43⟩)
    (k43 : PySem.W.codeIn K cd43 "_law_grown" = true) (e43 : PySem.W.keepIn K (.ref f__law_grown) = true)
    {oc44 kV44 dc44 pm44 cd44 ct44 : Value} {od44 an44 : Option Addr} {sl44 : Array (Option Value)}
    (a44 : PySem.W.nsIn K mainGlobals "_law_letters" = some (some (.ref f__law_letters)))
    (l44 : K.lookup f__law_letters = some ⟨oc44, od44, .func (PySem.W.fnOf "_law_letters" "_law_letters" (defArgs s__law_letters) (defBody s__law_letters) (defScope s__law_letters) .none kV44 dc44 pm44 an44 cd44 ct44), sl44⟩)
    (k44 : PySem.W.codeIn K cd44 "_law_letters" = true) (e44 : PySem.W.keepIn K (.ref f__law_letters) = true)
    {oc45 kV45 dc45 pm45 cd45 ct45 : Value} {od45 an45 : Option Addr} {sl45 : Array (Option Value)}
    (a45 : PySem.W.nsIn K mainGlobals "_law_other" = some (some (.ref f__law_other)))
    (l45 : K.lookup f__law_other = some ⟨oc45, od45, .func (PySem.W.fnOf "_law_other" "_law_other" (defArgs s__law_other) (defBody s__law_other) (defScope s__law_other) .none kV45 dc45 pm45 an45 cd45 ct45), sl45⟩)
    (k45 : PySem.W.codeIn K cd45 "_law_other" = true) (e45 : PySem.W.keepIn K (.ref f__law_other) = true)
    {oc46 kV46 dc46 pm46 cd46 ct46 : Value} {od46 an46 : Option Addr} {sl46 : Array (Option Value)}
    (a46 : PySem.W.nsIn K mainGlobals "_law_right" = some (some (.ref f__law_right)))
    (l46 : K.lookup f__law_right = some ⟨oc46, od46, .func (PySem.W.fnOf "_law_right" "_law_right" (defArgs s__law_right) (defBody s__law_right) (defScope s__law_right) .none kV46 dc46 pm46 an46 cd46 ct46), sl46⟩)
    (k46 : PySem.W.codeIn K cd46 "_law_right" = true) (e46 : PySem.W.keepIn K (.ref f__law_right) = true)
    {oc47 kV47 dc47 pm47 cd47 ct47 : Value} {od47 an47 : Option Addr} {sl47 : Array (Option Value)}
    (a47 : PySem.W.nsIn K mainGlobals "law" = some (some (.ref f_law)))
    (l47 : K.lookup f_law = some ⟨oc47, od47, .func (PySem.W.fnOf "law" "law" (defArgs s_law) (defBody s_law) (defScope s_law) .none kV47 dc47 pm47 an47 cd47 ct47), sl47⟩)
    (k47 : PySem.W.codeIn K cd47 "law" = true) (e47 : PySem.W.keepIn K (.ref f_law) = true)
    (g_PassError : PySem.W.nsIn K mainGlobals "PassError" = some (some (.ref c_PassError)))
    (g_BadProgram : PySem.W.nsIn K mainGlobals "BadProgram" = some (some (.ref c_BadProgram)))
    (g_Condition : PySem.W.nsIn K mainGlobals "Condition" = some (some (.ref c_Condition)))
    (pg_Condition : PySem.W.plainGet K c_Condition Str.empty = true) (hd_Condition : PySem.W.hasDictIn K c_Condition = true) (po_Condition : PySem.W.plainOver K c_Condition = true) (sa_Condition : PySem.W.findIn K (.ref c_Condition) "__setattr__" = some (some (.builtin "object.__setattr__"))) (mk_Condition : PySem.W.makesIn K c_Condition = true) (kc_Condition : PySem.W.keepIn K (.ref c_Condition) = true)
    (nf_Condition_signs : PySem.W.findIn K (.ref c_Condition) "signs" = some none)
    (nf_Condition_cell : PySem.W.findIn K (.ref c_Condition) "cell" = some none)
    (nf_Condition_number : PySem.W.findIn K (.ref c_Condition) "number" = some none)
    (nf_Condition_is_turned : PySem.W.findIn K (.ref c_Condition) "is_turned" = some none)
    (g_Statement : PySem.W.nsIn K mainGlobals "Statement" = some (some (.ref c_Statement)))
    (pg_Statement : PySem.W.plainGet K c_Statement Str.empty = true) (hd_Statement : PySem.W.hasDictIn K c_Statement = true) (po_Statement : PySem.W.plainOver K c_Statement = true) (sa_Statement : PySem.W.findIn K (.ref c_Statement) "__setattr__" = some (some (.builtin "object.__setattr__"))) (mk_Statement : PySem.W.makesIn K c_Statement = true) (kc_Statement : PySem.W.keepIn K (.ref c_Statement) = true)
    (nf_Statement_line : PySem.W.findIn K (.ref c_Statement) "line" = some none)
    (nf_Statement_kind : PySem.W.findIn K (.ref c_Statement) "kind" = some none)
    (nf_Statement_own_word : PySem.W.findIn K (.ref c_Statement) "own_word" = some none)
    (nf_Statement_cell : PySem.W.findIn K (.ref c_Statement) "cell" = some none)
    (nf_Statement_number : PySem.W.findIn K (.ref c_Statement) "number" = some none)
    (nf_Statement_asked : PySem.W.findIn K (.ref c_Statement) "asked" = some none)
    (nf_Statement_body : PySem.W.findIn K (.ref c_Statement) "body" = some none)
    (nf_Statement_else_body : PySem.W.findIn K (.ref c_Statement) "else_body" = some none)
    (g_ProgramReader : PySem.W.nsIn K mainGlobals "ProgramReader" = some (some (.ref c_ProgramReader)))
    (pg_ProgramReader : PySem.W.plainGet K c_ProgramReader Str.empty = true) (hd_ProgramReader : PySem.W.hasDictIn K c_ProgramReader = true) (po_ProgramReader : PySem.W.plainOver K c_ProgramReader = true) (sa_ProgramReader : PySem.W.findIn K (.ref c_ProgramReader) "__setattr__" = some (some (.builtin "object.__setattr__"))) (mk_ProgramReader : PySem.W.makesIn K c_ProgramReader = true) (kc_ProgramReader : PySem.W.keepIn K (.ref c_ProgramReader) = true)
    (nf_ProgramReader_rows : PySem.W.findIn K (.ref c_ProgramReader) "rows" = some none)
    (nf_ProgramReader_now : PySem.W.findIn K (.ref c_ProgramReader) "now" = some none)
    (nf_ProgramReader_own_symbols : PySem.W.findIn K (.ref c_ProgramReader) "own_symbols" = some none)
    (nf_ProgramReader_own_cells : PySem.W.findIn K (.ref c_ProgramReader) "own_cells" = some none)
    (nf_ProgramReader_names : PySem.W.findIn K (.ref c_ProgramReader) "names" = some none)
    (nf_ProgramReader_bodies : PySem.W.findIn K (.ref c_ProgramReader) "bodies" = some none)
    (nf_ProgramReader_main : PySem.W.findIn K (.ref c_ProgramReader) "main" = some none)
    (nf_ProgramReader_own_many : PySem.W.findIn K (.ref c_ProgramReader) "own_many" = some none)
    (g_Program : PySem.W.nsIn K mainGlobals "Program" = some (some (.ref c_Program)))
    (pg_Program : PySem.W.plainGet K c_Program Str.empty = true) (hd_Program : PySem.W.hasDictIn K c_Program = true) (po_Program : PySem.W.plainOver K c_Program = true) (sa_Program : PySem.W.findIn K (.ref c_Program) "__setattr__" = some (some (.builtin "object.__setattr__"))) (mk_Program : PySem.W.makesIn K c_Program = true) (kc_Program : PySem.W.keepIn K (.ref c_Program) = true)
    (oa_Program : PySem.W.findIn K (.ref c_Program) "__class__" = some (some (.builtin "object.__class__"))) (on_Program : PySem.W.specialIn K (.builtin "object.__class__") "__get__" = some (some (.builtin "getset_descriptor.__get__"))) (ot_Program : PySem.W.takesIn K (.builtin "object.__class__") = some true) (om_Program : PySem.W.mroIn K c_Program (.type "object") = some true) (oe_Program : PySem.W.findIn K (.ref c_Program) "__ne__" = some (some (.builtin "object.__ne__")))
    (nf_Program_own_text : PySem.W.findIn K (.ref c_Program) "own_text" = some none)
    (nf_Program_own_symbols : PySem.W.findIn K (.ref c_Program) "own_symbols" = some none)
    (nf_Program_own_cells : PySem.W.findIn K (.ref c_Program) "own_cells" = some none)
    (nf_Program_own_bodies : PySem.W.findIn K (.ref c_Program) "own_bodies" = some none)
    (nf_Program_own_main : PySem.W.findIn K (.ref c_Program) "own_main" = some none)
    (nf_Program_own_letters : PySem.W.findIn K (.ref c_Program) "own_letters" = some none)
    (nf_Program_own_plan : PySem.W.findIn K (.ref c_Program) "own_plan" = some none)
    (z_abs : PySem.W.nsIn K mainGlobals "abs" = some none)
    (z_all : PySem.W.nsIn K mainGlobals "all" = some none)
    (z_any : PySem.W.nsIn K mainGlobals "any" = some none)
    (z_enumerate : PySem.W.nsIn K mainGlobals "enumerate" = some none)
    (z_int : PySem.W.nsIn K mainGlobals "int" = some none)
    (z_isinstance : PySem.W.nsIn K mainGlobals "isinstance" = some none)
    (z_len : PySem.W.nsIn K mainGlobals "len" = some none)
    (z_list : PySem.W.nsIn K mainGlobals "list" = some none)
    (z_max : PySem.W.nsIn K mainGlobals "max" = some none)
    (z_min : PySem.W.nsIn K mainGlobals "min" = some none)
    (z_range : PySem.W.nsIn K mainGlobals "range" = some none)
    (z_repr : PySem.W.nsIn K mainGlobals "repr" = some none)
    (z_set : PySem.W.nsIn K mainGlobals "set" = some none)
    (z_sorted : PySem.W.nsIn K mainGlobals "sorted" = some none)
    (z_str : PySem.W.nsIn K mainGlobals "str" = some none)
    (z_tuple : PySem.W.nsIn K mainGlobals "tuple" = some none)
    (z_zip : PySem.W.nsIn K mainGlobals "zip" = some none)
    (q_BARE : PySem.W.nsIn K mainGlobals "BARE" = some (some (.ref k_BARE)))
    {tk_BARE0 tk_BARE1 tk_BARE2 tk_BARE3 : Tok} {ods_BARE : Option Addr} {nn_BARE : Nat} {osl_BARE : Array (Option Value)} (u_BARE : K.lookup k_BARE = some ⟨.type "tuple", ods_BARE, .seq #[.str "right" tk_BARE0, .str "left" tk_BARE1, .str "copy" tk_BARE2, .str "stop" tk_BARE3] nn_BARE, osl_BARE⟩)
    {t_BLANK : Tok} (c_BLANK : PySem.W.nsIn K mainGlobals "BLANK" = some (some (.str " " t_BLANK)))
    (q_BLOCKS : PySem.W.nsIn K mainGlobals "BLOCKS" = some (some (.ref k_BLOCKS)))
    {tk_BLOCKS0 tk_BLOCKS1 : Tok} {ods_BLOCKS : Option Addr} {nn_BLOCKS : Nat} {osl_BLOCKS : Array (Option Value)} (u_BLOCKS : K.lookup k_BLOCKS = some ⟨.type "tuple", ods_BLOCKS, .seq #[.str "if" tk_BLOCKS0, .str "while" tk_BLOCKS1] nn_BLOCKS, osl_BLOCKS⟩)
    {t_FEED : Tok} (c_FEED : PySem.W.nsIn K mainGlobals "FEED" = some (some (.str "\n" t_FEED)))
    {t_LEAST_SYMBOLS : Tok} (c_LEAST_SYMBOLS : PySem.W.nsIn K mainGlobals "LEAST_SYMBOLS" = some (some (.int 2 t_LEAST_SYMBOLS)))
    {t_LEFT_MARK : Tok} (c_LEFT_MARK : PySem.W.nsIn K mainGlobals "LEFT_MARK" = some (some (.str "<" t_LEFT_MARK)))
    {t_LETTERS : Tok} (c_LETTERS : PySem.W.nsIn K mainGlobals "LETTERS" = some (some (.str "abcdefghijklmnopqrstuvwxyz" t_LETTERS)))
    (q_MOSTS : PySem.W.nsIn K mainGlobals "MOSTS" = some (some (.ref k_MOSTS)))
    {tk_MOSTS0 tk_MOSTS1 : Tok} {ods_MOSTS : Option Addr} {nn_MOSTS : Nat} {osl_MOSTS : Array (Option Value)} (u_MOSTS : K.lookup k_MOSTS = some ⟨.type "tuple", ods_MOSTS, .seq #[.str "1" tk_MOSTS0, .str "2" tk_MOSTS1] nn_MOSTS, osl_MOSTS⟩)
    {t_MOST_CELLS : Tok} (c_MOST_CELLS : PySem.W.nsIn K mainGlobals "MOST_CELLS" = some (some (.int 2 t_MOST_CELLS)))
    {t_MOST_DEPTH : Tok} (c_MOST_DEPTH : PySem.W.nsIn K mainGlobals "MOST_DEPTH" = some (some (.int 4 t_MOST_DEPTH)))
    {t_MOST_NAME : Tok} (c_MOST_NAME : PySem.W.nsIn K mainGlobals "MOST_NAME" = some (some (.int 8 t_MOST_NAME)))
    {t_MOST_PARTS : Tok} (c_MOST_PARTS : PySem.W.nsIn K mainGlobals "MOST_PARTS" = some (some (.int 2 t_MOST_PARTS)))
    {t_MOST_STATEMENTS : Tok} (c_MOST_STATEMENTS : PySem.W.nsIn K mainGlobals "MOST_STATEMENTS" = some (some (.int 20 t_MOST_STATEMENTS)))
    {t_MOST_SYMBOLS : Tok} (c_MOST_SYMBOLS : PySem.W.nsIn K mainGlobals "MOST_SYMBOLS" = some (some (.int 4 t_MOST_SYMBOLS)))
    {t_RIGHT_MARK : Tok} (c_RIGHT_MARK : PySem.W.nsIn K mainGlobals "RIGHT_MARK" = some (some (.str ">" t_RIGHT_MARK)))
    {t_STEP : Tok} (c_STEP : PySem.W.nsIn K mainGlobals "STEP" = some (some (.int 2 t_STEP)))
    (g_TAKEN : mg "TAKEN" = some (.ref k_TAKEN))
    (q_VALUES : PySem.W.nsIn K mainGlobals "VALUES" = some (some (.ref k_VALUES)))
    {tk_VALUES0 tk_VALUES1 tk_VALUES2 : Tok} {ods_VALUES : Option Addr} {nn_VALUES : Nat} {osl_VALUES : Array (Option Value)} (u_VALUES : K.lookup k_VALUES = some ⟨.type "tuple", ods_VALUES, .seq #[.str "0" tk_VALUES0, .str "1" tk_VALUES1, .str "2" tk_VALUES2] nn_VALUES, osl_VALUES⟩)
    {cdP : ClassData} (kc1_Program : PySem.W.clsIn K c_Program = some cdP) (kt_Program : PySem.W.typeIn K (.ref c_Program) = some (.type "type")) :
    ∃ D : Ad, Txt K mg D ∧ D.f_law = f_law ∧ D.d_law = PySem.W.fnOf "law" "law" (defArgs s_law) (defBody s_law) (defScope s_law) .none kV47 dc47 pm47 an47 cd47 ct47 ∧ D.c_PassError = c_PassError ∧ D.c_BadProgram = c_BadProgram ∧ D.c_Condition = c_Condition ∧ D.c_Statement = c_Statement ∧ D.c_ProgramReader = c_ProgramReader ∧ D.c_Program = c_Program :=
  ⟨{
    f__wall := f__wall, d__wall := PySem.W.fnOf "_wall" "_wall" (defArgs s__wall) (defBody s__wall) (defScope s__wall) .none kV0 dc0 pm0 an0 cd0 ct0,
    f_is_letter := f_is_letter, d_is_letter := PySem.W.fnOf "is_letter" "is_letter" (defArgs s_is_letter) (defBody s_is_letter) (defScope s_is_letter) .none kV1 dc1 pm1 an1 cd1 ct1,
    f_is_word := f_is_word, d_is_word := PySem.W.fnOf "is_word" "is_word" (defArgs s_is_word) (defBody s_is_word) (defScope s_is_word) .none kV2 dc2 pm2 an2 cd2 ct2,
    f_is_name := f_is_name, d_is_name := PySem.W.fnOf "is_name" "is_name" (defArgs s_is_name) (defBody s_is_name) (defScope s_is_name) .none kV3 dc3 pm3 an3 cd3 ct3,
    f_are_ascending := f_are_ascending, d_are_ascending := PySem.W.fnOf "are_ascending" "are_ascending" (defArgs s_are_ascending) (defBody s_are_ascending) (defScope s_are_ascending) .none kV4 dc4 pm4 an4 cd4 ct4,
    f_Condition_init := f_Condition_init, d_Condition_init := PySem.W.fnOf "__init__" "Condition.__init__" (defArgs s_Condition_init) (defBody s_Condition_init) (defScope s_Condition_init) .none kV5 dc5 pm5 an5 cd5 ct5,
    f_Condition_holds := f_Condition_holds, d_Condition_holds := PySem.W.fnOf "holds" "Condition.holds" (defArgs s_Condition_holds) (defBody s_Condition_holds) (defScope s_Condition_holds) .none kV6 dc6 pm6 an6 cd6 ct6,
    f_Statement_init := f_Statement_init, d_Statement_init := PySem.W.fnOf "__init__" "Statement.__init__" (defArgs s_Statement_init) (defBody s_Statement_init) (defScope s_Statement_init) .none kV7 dc7 pm7 an7 cd7 ct7,
    f_ProgramReader_init := f_ProgramReader_init, d_ProgramReader_init := PySem.W.fnOf "__init__" "ProgramReader.__init__" (defArgs s_ProgramReader_init) (defBody s_ProgramReader_init) (defScope s_ProgramReader_init) .none kV8 dc8 pm8 an8 cd8 ct8,
    f_ProgramReader_fail := f_ProgramReader_fail, d_ProgramReader_fail := PySem.W.fnOf "fail" "ProgramReader.fail" (defArgs s_ProgramReader_fail) (defBody s_ProgramReader_fail) (defScope s_ProgramReader_fail) .none kV9 dc9 pm9 an9 cd9 ct9,
    f_ProgramReader_is_over := f_ProgramReader_is_over, d_ProgramReader_is_over := PySem.W.fnOf "is_over" "ProgramReader.is_over" (defArgs s_ProgramReader_is_over) (defBody s_ProgramReader_is_over) (defScope s_ProgramReader_is_over) .none kV10 dc10 pm10 an10 cd10 ct10,
    f_ProgramReader_words := f_ProgramReader_words, d_ProgramReader_words := PySem.W.fnOf "words" "ProgramReader.words" (defArgs s_ProgramReader_words) (defBody s_ProgramReader_words) (defScope s_ProgramReader_words) .none kV11 dc11 pm11 an11 cd11 ct11,
    f_ProgramReader_indent := f_ProgramReader_indent, d_ProgramReader_indent := PySem.W.fnOf "indent" "ProgramReader.indent" (defArgs s_ProgramReader_indent) (defBody s_ProgramReader_indent) (defScope s_ProgramReader_indent) .none kV12 dc12 pm12 an12 cd12 ct12,
    f_ProgramReader_begins := f_ProgramReader_begins, d_ProgramReader_begins := PySem.W.fnOf "begins" "ProgramReader.begins" (defArgs s_ProgramReader_begins) (defBody s_ProgramReader_begins) (defScope s_ProgramReader_begins) .none kV13 dc13 pm13 an13 cd13 ct13,
    f_ProgramReader_read := f_ProgramReader_read, d_ProgramReader_read := PySem.W.fnOf "read" "ProgramReader.read" (defArgs s_ProgramReader_read) (defBody s_ProgramReader_read) (defScope s_ProgramReader_read) .none kV14 dc14 pm14 an14 cd14 ct14,
    f_ProgramReader_read_symbols := f_ProgramReader_read_symbols, d_ProgramReader_read_symbols := PySem.W.fnOf "read_symbols" "ProgramReader.read_symbols" (defArgs s_ProgramReader_read_symbols) (defBody s_ProgramReader_read_symbols) (defScope s_ProgramReader_read_symbols) .none kV15 dc15 pm15 an15 cd15 ct15,
    f_ProgramReader_new_name := f_ProgramReader_new_name, d_ProgramReader_new_name := PySem.W.fnOf "new_name" "ProgramReader.new_name" (defArgs s_ProgramReader_new_name) (defBody s_ProgramReader_new_name) (defScope s_ProgramReader_new_name) .none kV16 dc16 pm16 an16 cd16 ct16,
    f_ProgramReader_read_cell := f_ProgramReader_read_cell, d_ProgramReader_read_cell := PySem.W.fnOf "read_cell" "ProgramReader.read_cell" (defArgs s_ProgramReader_read_cell) (defBody s_ProgramReader_read_cell) (defScope s_ProgramReader_read_cell) .none kV17 dc17 pm17 an17 cd17 ct17,
    f_ProgramReader_read_part := f_ProgramReader_read_part, d_ProgramReader_read_part := PySem.W.fnOf "read_part" "ProgramReader.read_part" (defArgs s_ProgramReader_read_part) (defBody s_ProgramReader_read_part) (defScope s_ProgramReader_read_part) .none kV18 dc18 pm18 an18 cd18 ct18,
    f_ProgramReader_read_body := f_ProgramReader_read_body, d_ProgramReader_read_body := PySem.W.fnOf "read_body" "ProgramReader.read_body" (defArgs s_ProgramReader_read_body) (defBody s_ProgramReader_read_body) (defScope s_ProgramReader_read_body) .none kV19 dc19 pm19 an19 cd19 ct19,
    f_ProgramReader_read_statement := f_ProgramReader_read_statement, d_ProgramReader_read_statement := PySem.W.fnOf "read_statement" "ProgramReader.read_statement" (defArgs s_ProgramReader_read_statement) (defBody s_ProgramReader_read_statement) (defScope s_ProgramReader_read_statement) .none kV20 dc20 pm20 an20 cd20 ct20,
    f_ProgramReader_plain := f_ProgramReader_plain, d_ProgramReader_plain := PySem.W.fnOf "plain" "ProgramReader.plain" (defArgs s_ProgramReader_plain) (defBody s_ProgramReader_plain) (defScope s_ProgramReader_plain) .none kV21 dc21 pm21 an21 cd21 ct21,
    f_ProgramReader_block := f_ProgramReader_block, d_ProgramReader_block := PySem.W.fnOf "block" "ProgramReader.block" (defArgs s_ProgramReader_block) (defBody s_ProgramReader_block) (defScope s_ProgramReader_block) .none kV22 dc22 pm22 an22 cd22 ct22,
    f_ProgramReader_asked_in := f_ProgramReader_asked_in, d_ProgramReader_asked_in := PySem.W.fnOf "asked_in" "ProgramReader.asked_in" (defArgs s_ProgramReader_asked_in) (defBody s_ProgramReader_asked_in) (defScope s_ProgramReader_asked_in) .none kV23 dc23 pm23 an23 cd23 ct23,
    f_ProgramReader_check_signs := f_ProgramReader_check_signs, d_ProgramReader_check_signs := PySem.W.fnOf "check_signs" "ProgramReader.check_signs" (defArgs s_ProgramReader_check_signs) (defBody s_ProgramReader_check_signs) (defScope s_ProgramReader_check_signs) .none kV24 dc24 pm24 an24 cd24 ct24,
    f_ProgramReader_cell_of := f_ProgramReader_cell_of, d_ProgramReader_cell_of := PySem.W.fnOf "cell_of" "ProgramReader.cell_of" (defArgs s_ProgramReader_cell_of) (defBody s_ProgramReader_cell_of) (defScope s_ProgramReader_cell_of) .none kV25 dc25 pm25 an25 cd25 ct25,
    f_ProgramReader_values_of := f_ProgramReader_values_of, d_ProgramReader_values_of := PySem.W.fnOf "values_of" "ProgramReader.values_of" (defArgs s_ProgramReader_values_of) (defBody s_ProgramReader_values_of) (defScope s_ProgramReader_values_of) .none kV26 dc26 pm26 an26 cd26 ct26,
    f_ProgramReader_number_of := f_ProgramReader_number_of, d_ProgramReader_number_of := PySem.W.fnOf "number_of" "ProgramReader.number_of" (defArgs s_ProgramReader_number_of) (defBody s_ProgramReader_number_of) (defScope s_ProgramReader_number_of) .none kV27 dc27 pm27 an27 cd27 ct27,
    f_letters_of := f_letters_of, d_letters_of := PySem.W.fnOf "letters_of" "letters_of" (defArgs s_letters_of) (defBody s_letters_of) (defScope s_letters_of) .none kV28 dc28 pm28 an28 cd28 ct28,
    f_Program_init := f_Program_init, d_Program_init := PySem.W.fnOf "__init__" "Program.__init__" (defArgs s_Program_init) (defBody s_Program_init) (defScope s_Program_init) .none kV29 dc29 pm29 an29 cd29 ct29,
    p_Program_text := p_Program_text,
    f_Program_text := f_Program_text, d_Program_text := PySem.W.fnOf "text" "Program.text" (defArgs s_Program_text) (defBody s_Program_text) (defScope s_Program_text) .none kV30 dc30 pm30 an30 cd30 ct30,
    p_Program_symbols := p_Program_symbols,
    f_Program_symbols := f_Program_symbols, d_Program_symbols := PySem.W.fnOf "symbols" "Program.symbols" (defArgs s_Program_symbols) (defBody s_Program_symbols) (defScope s_Program_symbols) .none kV31 dc31 pm31 an31 cd31 ct31,
    p_Program_cells := p_Program_cells,
    f_Program_cells := f_Program_cells, d_Program_cells := PySem.W.fnOf "cells" "Program.cells" (defArgs s_Program_cells) (defBody s_Program_cells) (defScope s_Program_cells) .none kV32 dc32 pm32 an32 cd32 ct32,
    p_Program_parts := p_Program_parts,
    f_Program_parts := f_Program_parts, d_Program_parts := PySem.W.fnOf "parts" "Program.parts" (defArgs s_Program_parts) (defBody s_Program_parts) (defScope s_Program_parts) .none kV33 dc33 pm33 an33 cd33 ct33,
    p_Program_letters := p_Program_letters,
    f_Program_letters := f_Program_letters, d_Program_letters := PySem.W.fnOf "letters" "Program.letters" (defArgs s_Program_letters) (defBody s_Program_letters) (defScope s_Program_letters) .none kV34 dc34 pm34 an34 cd34 ct34,
    f_Program_eq := f_Program_eq, d_Program_eq := PySem.W.fnOf "__eq__" "Program.__eq__" (defArgs s_Program_eq) (defBody s_Program_eq) (defScope s_Program_eq) .none kV35 dc35 pm35 an35 cd35 ct35,
    f__law_pot_of := f__law_pot_of, d__law_pot_of := PySem.W.fnOf "_law_pot_of" "_law_pot_of" (defArgs s__law_pot_of) (defBody s__law_pot_of) (defScope s__law_pot_of) .none kV36 dc36 pm36 an36 cd36 ct36,
    f__law_take := f__law_take, d__law_take := PySem.W.fnOf "_law_take" "_law_take" (defArgs s__law_take) (defBody s__law_take) (defScope s__law_take) .none kV37 dc37 pm37 an37 cd37 ct37,
    f__law_of := f__law_of, d__law_of := PySem.W.fnOf "_law_of" "_law_of" (defArgs s__law_of) (defBody s__law_of) (defScope s__law_of) .none kV38 dc38 pm38 an38 cd38 ct38,
    f__law_wide_lore := f__law_wide_lore, d__law_wide_lore := PySem.W.fnOf "_law_wide_lore" "_law_wide_lore" (defArgs s__law_wide_lore) (defBody s__law_wide_lore) (defScope s__law_wide_lore) .none kV39 dc39 pm39 an39 cd39 ct39,
    f__law_wide_asked := f__law_wide_asked, d__law_wide_asked := PySem.W.fnOf "_law_wide_asked" "_law_wide_asked" (defArgs s__law_wide_asked) (defBody s__law_wide_asked) (defScope s__law_wide_asked) .none kV40 dc40 pm40 an40 cd40 ct40,
    f__law_wide_plain := f__law_wide_plain, d__law_wide_plain := PySem.W.fnOf "_law_wide_plain" "_law_wide_plain" (defArgs s__law_wide_plain) (defBody s__law_wide_plain) (defScope s__law_wide_plain) .none kV41 dc41 pm41 an41 cd41 ct41,
    f__law_wide_body := f__law_wide_body, d__law_wide_body := PySem.W.fnOf "_law_wide_body" "_law_wide_body" (defArgs s__law_wide_body) (defBody s__law_wide_body) (defScope s__law_wide_body) .none kV42 dc42 pm42 an42 cd42 ct42,
    f__law_grown := f__law_grown, d__law_grown := PySem.W.fnOf "_law_grown" "_law_grown" (defArgs s__law_grown) (defBody s__law_grown) (defScope s__law_grown) .none kV43 dc43 pm43 an43 cd43 ct43,
    f__law_letters := f__law_letters, d__law_letters := PySem.W.fnOf "_law_letters" "_law_letters" (defArgs s__law_letters) (defBody s__law_letters) (defScope s__law_letters) .none kV44 dc44 pm44 an44 cd44 ct44,
    f__law_other := f__law_other, d__law_other := PySem.W.fnOf "_law_other" "_law_other" (defArgs s__law_other) (defBody s__law_other) (defScope s__law_other) .none kV45 dc45 pm45 an45 cd45 ct45,
    f__law_right := f__law_right, d__law_right := PySem.W.fnOf "_law_right" "_law_right" (defArgs s__law_right) (defBody s__law_right) (defScope s__law_right) .none kV46 dc46 pm46 an46 cd46 ct46,
    f_law := f_law, d_law := PySem.W.fnOf "law" "law" (defArgs s_law) (defBody s_law) (defScope s_law) .none kV47 dc47 pm47 an47 cd47 ct47,
    c_PassError := c_PassError,
    c_BadProgram := c_BadProgram,
    c_Condition := c_Condition,
    c_Statement := c_Statement,
    c_ProgramReader := c_ProgramReader,
    c_Program := c_Program,
    k_BARE := k_BARE,
    k_BLOCKS := k_BLOCKS,
    k_MOSTS := k_MOSTS,
    k_TAKEN := k_TAKEN,
    k_VALUES := k_VALUES },
   { f__wall := fun_mk (st := s__wall) l0 k0 e0,
     b__wall := (fun_mk (st := s__wall) l0 k0 e0).binds (ps := P__wall) fun _ _ _ _ _ _ us hl => match us, hl with | [_], _ => rfl,
     g__wall := PySem.W.mg_of X G a0,
     f_is_letter := fun_mk (st := s_is_letter) l1 k1 e1,
     b_is_letter := (fun_mk (st := s_is_letter) l1 k1 e1).binds (ps := P_is_letter) fun _ _ _ _ _ _ us hl => match us, hl with | [_], _ => rfl,
     g_is_letter := PySem.W.mg_of X G a1,
     f_is_word := fun_mk (st := s_is_word) l2 k2 e2,
     b_is_word := (fun_mk (st := s_is_word) l2 k2 e2).binds (ps := P_is_word) fun _ _ _ _ _ _ us hl => match us, hl with | [_], _ => rfl,
     g_is_word := PySem.W.mg_of X G a2,
     f_is_name := fun_mk (st := s_is_name) l3 k3 e3,
     b_is_name := (fun_mk (st := s_is_name) l3 k3 e3).binds (ps := P_is_name) fun _ _ _ _ _ _ us hl => match us, hl with | [_], _ => rfl,
     g_is_name := PySem.W.mg_of X G a3,
     f_are_ascending := fun_mk (st := s_are_ascending) l4 k4 e4,
     b_are_ascending := (fun_mk (st := s_are_ascending) l4 k4 e4).binds (ps := P_are_ascending) fun _ _ _ _ _ _ us hl => match us, hl with | [_], _ => rfl,
     g_are_ascending := PySem.W.mg_of X G a4,
     f_Condition_init := fun_mk (st := s_Condition_init) l5 k5 e5,
     b_Condition_init := (fun_mk (st := s_Condition_init) l5 k5 e5).binds (ps := P_Condition_init) fun _ _ _ _ _ _ us hl => match us, hl with | [_, _, _, _], _ => rfl,
     mk_Condition := ⟨mk_Condition, a5, i5, kc_Condition⟩,
     f_Condition_holds := fun_mk (st := s_Condition_holds) l6 k6 e6,
     b_Condition_holds := (fun_mk (st := s_Condition_holds) l6 k6 e6).binds (ps := P_Condition_holds) fun _ _ _ _ _ _ us hl => match us, hl with | [_, _, _], _ => rfl,
     m_Condition_holds := ⟨a6, i6, e6⟩,
     f_Statement_init := fun_mk (st := s_Statement_init) l7 k7 e7,
     b_Statement_init := (fun_mk (st := s_Statement_init) l7 k7 e7).binds (ps := P_Statement_init) fun _ _ _ _ _ _ us hl => match us, hl with | [_, _, _], _ => rfl,
     mk_Statement := ⟨mk_Statement, a7, i7, kc_Statement⟩,
     f_ProgramReader_init := fun_mk (st := s_ProgramReader_init) l8 k8 e8,
     b_ProgramReader_init := (fun_mk (st := s_ProgramReader_init) l8 k8 e8).binds (ps := P_ProgramReader_init) fun _ _ _ _ _ _ us hl => match us, hl with | [_, _], _ => rfl,
     mk_ProgramReader := ⟨mk_ProgramReader, a8, i8, kc_ProgramReader⟩,
     f_ProgramReader_fail := fun_mk (st := s_ProgramReader_fail) l9 k9 e9,
     b_ProgramReader_fail := (fun_mk (st := s_ProgramReader_fail) l9 k9 e9).binds (ps := P_ProgramReader_fail) fun _ _ _ _ _ _ us hl => match us, hl with | [_], _ => rfl,
     m_ProgramReader_fail := ⟨a9, i9, e9⟩,
     f_ProgramReader_is_over := fun_mk (st := s_ProgramReader_is_over) l10 k10 e10,
     b_ProgramReader_is_over := (fun_mk (st := s_ProgramReader_is_over) l10 k10 e10).binds (ps := P_ProgramReader_is_over) fun _ _ _ _ _ _ us hl => match us, hl with | [_], _ => rfl,
     m_ProgramReader_is_over := ⟨a10, i10, e10⟩,
     f_ProgramReader_words := fun_mk (st := s_ProgramReader_words) l11 k11 e11,
     b_ProgramReader_words := (fun_mk (st := s_ProgramReader_words) l11 k11 e11).binds (ps := P_ProgramReader_words) fun _ _ _ _ _ _ us hl => match us, hl with | [_], _ => rfl,
     m_ProgramReader_words := ⟨a11, i11, e11⟩,
     f_ProgramReader_indent := fun_mk (st := s_ProgramReader_indent) l12 k12 e12,
     b_ProgramReader_indent := (fun_mk (st := s_ProgramReader_indent) l12 k12 e12).binds (ps := P_ProgramReader_indent) fun _ _ _ _ _ _ us hl => match us, hl with | [_], _ => rfl,
     m_ProgramReader_indent := ⟨a12, i12, e12⟩,
     f_ProgramReader_begins := fun_mk (st := s_ProgramReader_begins) l13 k13 e13,
     b_ProgramReader_begins := (fun_mk (st := s_ProgramReader_begins) l13 k13 e13).binds (ps := P_ProgramReader_begins) fun _ _ _ _ _ _ us hl => match us, hl with | [_, _], _ => rfl,
     m_ProgramReader_begins := ⟨a13, i13, e13⟩,
     f_ProgramReader_read := fun_mk (st := s_ProgramReader_read) l14 k14 e14,
     b_ProgramReader_read := (fun_mk (st := s_ProgramReader_read) l14 k14 e14).binds (ps := P_ProgramReader_read) fun _ _ _ _ _ _ us hl => match us, hl with | [_], _ => rfl,
     m_ProgramReader_read := ⟨a14, i14, e14⟩,
     f_ProgramReader_read_symbols := fun_mk (st := s_ProgramReader_read_symbols) l15 k15 e15,
     b_ProgramReader_read_symbols := (fun_mk (st := s_ProgramReader_read_symbols) l15 k15 e15).binds (ps := P_ProgramReader_read_symbols) fun _ _ _ _ _ _ us hl => match us, hl with | [_], _ => rfl,
     m_ProgramReader_read_symbols := ⟨a15, i15, e15⟩,
     f_ProgramReader_new_name := fun_mk (st := s_ProgramReader_new_name) l16 k16 e16,
     b_ProgramReader_new_name := (fun_mk (st := s_ProgramReader_new_name) l16 k16 e16).binds (ps := P_ProgramReader_new_name) fun _ _ _ _ _ _ us hl => match us, hl with | [_, _], _ => rfl,
     m_ProgramReader_new_name := ⟨a16, i16, e16⟩,
     f_ProgramReader_read_cell := fun_mk (st := s_ProgramReader_read_cell) l17 k17 e17,
     b_ProgramReader_read_cell := (fun_mk (st := s_ProgramReader_read_cell) l17 k17 e17).binds (ps := P_ProgramReader_read_cell) fun _ _ _ _ _ _ us hl => match us, hl with | [_], _ => rfl,
     m_ProgramReader_read_cell := ⟨a17, i17, e17⟩,
     f_ProgramReader_read_part := fun_mk (st := s_ProgramReader_read_part) l18 k18 e18,
     b_ProgramReader_read_part := (fun_mk (st := s_ProgramReader_read_part) l18 k18 e18).binds (ps := P_ProgramReader_read_part) fun _ _ _ _ _ _ us hl => match us, hl with | [_], _ => rfl,
     m_ProgramReader_read_part := ⟨a18, i18, e18⟩,
     f_ProgramReader_read_body := fun_mk (st := s_ProgramReader_read_body) l19 k19 e19,
     b_ProgramReader_read_body := (fun_mk (st := s_ProgramReader_read_body) l19 k19 e19).binds (ps := P_ProgramReader_read_body) fun _ _ _ _ _ _ us hl => match us, hl with | [_, _], _ => rfl,
     m_ProgramReader_read_body := ⟨a19, i19, e19⟩,
     f_ProgramReader_read_statement := fun_mk (st := s_ProgramReader_read_statement) l20 k20 e20,
     b_ProgramReader_read_statement := (fun_mk (st := s_ProgramReader_read_statement) l20 k20 e20).binds (ps := P_ProgramReader_read_statement) fun _ _ _ _ _ _ us hl => match us, hl with | [_, _], _ => rfl,
     m_ProgramReader_read_statement := ⟨a20, i20, e20⟩,
     f_ProgramReader_plain := fun_mk (st := s_ProgramReader_plain) l21 k21 e21,
     b_ProgramReader_plain := (fun_mk (st := s_ProgramReader_plain) l21 k21 e21).binds (ps := P_ProgramReader_plain) fun _ _ _ _ _ _ us hl => match us, hl with | [_, _], _ => rfl,
     m_ProgramReader_plain := ⟨a21, i21, e21⟩,
     f_ProgramReader_block := fun_mk (st := s_ProgramReader_block) l22 k22 e22,
     b_ProgramReader_block := (fun_mk (st := s_ProgramReader_block) l22 k22 e22).binds (ps := P_ProgramReader_block) fun _ _ _ _ _ _ us hl => match us, hl with | [_, _], _ => rfl,
     m_ProgramReader_block := ⟨a22, i22, e22⟩,
     f_ProgramReader_asked_in := fun_mk (st := s_ProgramReader_asked_in) l23 k23 e23,
     b_ProgramReader_asked_in := (fun_mk (st := s_ProgramReader_asked_in) l23 k23 e23).binds (ps := P_ProgramReader_asked_in) fun _ _ _ _ _ _ us hl => match us, hl with | [_, _], _ => rfl,
     m_ProgramReader_asked_in := ⟨a23, i23, e23⟩,
     f_ProgramReader_check_signs := fun_mk (st := s_ProgramReader_check_signs) l24 k24 e24,
     b_ProgramReader_check_signs := (fun_mk (st := s_ProgramReader_check_signs) l24 k24 e24).binds (ps := P_ProgramReader_check_signs) fun _ _ _ _ _ _ us hl => match us, hl with | [_, _], _ => rfl,
     m_ProgramReader_check_signs := ⟨a24, i24, e24⟩,
     f_ProgramReader_cell_of := fun_mk (st := s_ProgramReader_cell_of) l25 k25 e25,
     b_ProgramReader_cell_of := (fun_mk (st := s_ProgramReader_cell_of) l25 k25 e25).binds (ps := P_ProgramReader_cell_of) fun _ _ _ _ _ _ us hl => match us, hl with | [_, _], _ => rfl,
     m_ProgramReader_cell_of := ⟨a25, i25, e25⟩,
     f_ProgramReader_values_of := fun_mk (st := s_ProgramReader_values_of) l26 k26 e26,
     b_ProgramReader_values_of := (fun_mk (st := s_ProgramReader_values_of) l26 k26 e26).binds (ps := P_ProgramReader_values_of) fun _ _ _ _ _ _ us hl => match us, hl with | [_, _], _ => rfl,
     m_ProgramReader_values_of := ⟨a26, i26, e26⟩,
     f_ProgramReader_number_of := fun_mk (st := s_ProgramReader_number_of) l27 k27 e27,
     b_ProgramReader_number_of := (fun_mk (st := s_ProgramReader_number_of) l27 k27 e27).binds (ps := P_ProgramReader_number_of) fun _ _ _ _ _ _ us hl => match us, hl with | [_, _, _], _ => rfl,
     m_ProgramReader_number_of := ⟨a27, i27, e27⟩,
     f_letters_of := fun_mk (st := s_letters_of) l28 k28 e28,
     b_letters_of := (fun_mk (st := s_letters_of) l28 k28 e28).binds (ps := P_letters_of) fun _ _ _ _ _ _ us hl => match us, hl with | [_, _], _ => rfl,
     g_letters_of := PySem.W.mg_of X G a28,
     f_Program_init := fun_mk (st := s_Program_init) l29 k29 e29,
     b_Program_init := (fun_mk (st := s_Program_init) l29 k29 e29).binds (ps := P_Program_init) fun _ _ _ _ _ _ us hl => match us, hl with | [_, _], _ => rfl,
     mk_Program := ⟨mk_Program, a29, i29, kc_Program⟩,
     f_Program_text := fun_mk (st := s_Program_text) l30 k30 e30,
     b_Program_text := (fun_mk (st := s_Program_text) l30 k30 e30).binds (ps := P_Program_text) fun _ _ _ _ _ _ us hl => match us, hl with | [_], _ => rfl,
     p_Program_text := ⟨a30, pg30, pt30, ⟨_, pr30⟩⟩,
     f_Program_symbols := fun_mk (st := s_Program_symbols) l31 k31 e31,
     b_Program_symbols := (fun_mk (st := s_Program_symbols) l31 k31 e31).binds (ps := P_Program_symbols) fun _ _ _ _ _ _ us hl => match us, hl with | [_], _ => rfl,
     p_Program_symbols := ⟨a31, pg31, pt31, ⟨_, pr31⟩⟩,
     f_Program_cells := fun_mk (st := s_Program_cells) l32 k32 e32,
     b_Program_cells := (fun_mk (st := s_Program_cells) l32 k32 e32).binds (ps := P_Program_cells) fun _ _ _ _ _ _ us hl => match us, hl with | [_], _ => rfl,
     p_Program_cells := ⟨a32, pg32, pt32, ⟨_, pr32⟩⟩,
     f_Program_parts := fun_mk (st := s_Program_parts) l33 k33 e33,
     b_Program_parts := (fun_mk (st := s_Program_parts) l33 k33 e33).binds (ps := P_Program_parts) fun _ _ _ _ _ _ us hl => match us, hl with | [_], _ => rfl,
     p_Program_parts := ⟨a33, pg33, pt33, ⟨_, pr33⟩⟩,
     f_Program_letters := fun_mk (st := s_Program_letters) l34 k34 e34,
     b_Program_letters := (fun_mk (st := s_Program_letters) l34 k34 e34).binds (ps := P_Program_letters) fun _ _ _ _ _ _ us hl => match us, hl with | [_], _ => rfl,
     p_Program_letters := ⟨a34, pg34, pt34, ⟨_, pr34⟩⟩,
     f_Program_eq := fun_mk (st := s_Program_eq) l35 k35 e35,
     b_Program_eq := (fun_mk (st := s_Program_eq) l35 k35 e35).binds (ps := P_Program_eq) fun _ _ _ _ _ _ us hl => match us, hl with | [_, _], _ => rfl,
     m_Program_eq := ⟨a35, i35, e35⟩,
     f__law_pot_of := fun_mk (st := s__law_pot_of) l36 k36 e36,
     b__law_pot_of := (fun_mk (st := s__law_pot_of) l36 k36 e36).binds (ps := P__law_pot_of) fun _ _ _ _ _ _ us hl => match us, hl with | [_, _], _ => rfl,
     g__law_pot_of := PySem.W.mg_of X G a36,
     f__law_take := fun_mk (st := s__law_take) l37 k37 e37,
     b__law_take := (fun_mk (st := s__law_take) l37 k37 e37).binds (ps := P__law_take) fun _ _ _ _ _ _ us hl => match us, hl with | [_, _], _ => rfl,
     g__law_take := PySem.W.mg_of X G a37,
     f__law_of := fun_mk (st := s__law_of) l38 k38 e38,
     b__law_of := (fun_mk (st := s__law_of) l38 k38 e38).binds (ps := P__law_of) fun _ _ _ _ _ _ us hl => match us, hl with | [_, _], _ => rfl,
     g__law_of := PySem.W.mg_of X G a38,
     f__law_wide_lore := fun_mk (st := s__law_wide_lore) l39 k39 e39,
     b__law_wide_lore := (fun_mk (st := s__law_wide_lore) l39 k39 e39).binds (ps := P__law_wide_lore) fun _ _ _ _ _ _ us hl => match us, hl with | [_], _ => rfl,
     g__law_wide_lore := PySem.W.mg_of X G a39,
     f__law_wide_asked := fun_mk (st := s__law_wide_asked) l40 k40 e40,
     b__law_wide_asked := (fun_mk (st := s__law_wide_asked) l40 k40 e40).binds (ps := P__law_wide_asked) fun _ _ _ _ _ _ us hl => match us, hl with | [_, _], _ => rfl,
     g__law_wide_asked := PySem.W.mg_of X G a40,
     f__law_wide_plain := fun_mk (st := s__law_wide_plain) l41 k41 e41,
     b__law_wide_plain := (fun_mk (st := s__law_wide_plain) l41 k41 e41).binds (ps := P__law_wide_plain) fun _ _ _ _ _ _ us hl => match us, hl with | [_, _, _], _ => rfl,
     g__law_wide_plain := PySem.W.mg_of X G a41,
     f__law_wide_body := fun_mk (st := s__law_wide_body) l42 k42 e42,
     b__law_wide_body := (fun_mk (st := s__law_wide_body) l42 k42 e42).binds (ps := P__law_wide_body) fun _ _ _ _ _ _ us hl => match us, hl with | [_, _, _, _], _ => rfl,
     g__law_wide_body := PySem.W.mg_of X G a42,
     f__law_grown := fun_mk (st := s__law_grown) l43 k43 e43,
     b__law_grown := (fun_mk (st := s__law_grown) l43 k43 e43).binds (ps := P__law_grown) fun _ _ _ _ _ _ us hl => match us, hl with | [_, _], _ => rfl,
     g__law_grown := PySem.W.mg_of X G a43,
     f__law_letters := fun_mk (st := s__law_letters) l44 k44 e44,
     b__law_letters := (fun_mk (st := s__law_letters) l44 k44 e44).binds (ps := P__law_letters) fun _ _ _ _ _ _ us hl => match us, hl with | [_], _ => rfl,
     g__law_letters := PySem.W.mg_of X G a44,
     f__law_other := fun_mk (st := s__law_other) l45 k45 e45,
     b__law_other := (fun_mk (st := s__law_other) l45 k45 e45).binds (ps := P__law_other) fun _ _ _ _ _ _ us hl => match us, hl with | [_, _], _ => rfl,
     g__law_other := PySem.W.mg_of X G a45,
     f__law_right := fun_mk (st := s__law_right) l46 k46 e46,
     b__law_right := (fun_mk (st := s__law_right) l46 k46 e46).binds (ps := P__law_right) fun _ _ _ _ _ _ us hl => match us, hl with | [_], _ => rfl,
     g__law_right := PySem.W.mg_of X G a46,
     f_law := fun_mk (st := s_law) l47 k47 e47,
     b_law := (fun_mk (st := s_law) l47 k47 e47).binds (ps := P_law) fun _ _ _ _ _ _ us hl => match us, hl with | [_], _ => rfl,
     g_law := PySem.W.mg_of X G a47,
     g_PassError := PySem.W.mg_of X G g_PassError,
     g_BadProgram := PySem.W.mg_of X G g_BadProgram,
     g_Condition := PySem.W.mg_of X G g_Condition,
     cl_Condition := ⟨pg_Condition, hd_Condition, po_Condition, sa_Condition⟩,
     n_Condition_signs := nf_Condition_signs,
     n_Condition_cell := nf_Condition_cell,
     n_Condition_number := nf_Condition_number,
     n_Condition_is_turned := nf_Condition_is_turned,
     g_Statement := PySem.W.mg_of X G g_Statement,
     cl_Statement := ⟨pg_Statement, hd_Statement, po_Statement, sa_Statement⟩,
     n_Statement_line := nf_Statement_line,
     n_Statement_kind := nf_Statement_kind,
     n_Statement_own_word := nf_Statement_own_word,
     n_Statement_cell := nf_Statement_cell,
     n_Statement_number := nf_Statement_number,
     n_Statement_asked := nf_Statement_asked,
     n_Statement_body := nf_Statement_body,
     n_Statement_else_body := nf_Statement_else_body,
     g_ProgramReader := PySem.W.mg_of X G g_ProgramReader,
     cl_ProgramReader := ⟨pg_ProgramReader, hd_ProgramReader, po_ProgramReader, sa_ProgramReader⟩,
     n_ProgramReader_rows := nf_ProgramReader_rows,
     n_ProgramReader_now := nf_ProgramReader_now,
     n_ProgramReader_own_symbols := nf_ProgramReader_own_symbols,
     n_ProgramReader_own_cells := nf_ProgramReader_own_cells,
     n_ProgramReader_names := nf_ProgramReader_names,
     n_ProgramReader_bodies := nf_ProgramReader_bodies,
     n_ProgramReader_main := nf_ProgramReader_main,
     n_ProgramReader_own_many := nf_ProgramReader_own_many,
     g_Program := PySem.W.mg_of X G g_Program,
     cl_Program := ⟨pg_Program, hd_Program, po_Program, sa_Program⟩,
     ow_Program := ⟨⟨pg_Program, hd_Program, po_Program, sa_Program⟩, oa_Program, on_Program, ot_Program, om_Program, oe_Program⟩,
     n_Program_own_text := nf_Program_own_text,
     n_Program_own_symbols := nf_Program_own_symbols,
     n_Program_own_cells := nf_Program_own_cells,
     n_Program_own_bodies := nf_Program_own_bodies,
     n_Program_own_main := nf_Program_own_main,
     n_Program_own_letters := nf_Program_own_letters,
     n_Program_own_plan := nf_Program_own_plan,
     z_abs := PySem.W.mg_none_of X G z_abs,
     z_all := PySem.W.mg_none_of X G z_all,
     z_any := PySem.W.mg_none_of X G z_any,
     z_enumerate := PySem.W.mg_none_of X G z_enumerate,
     z_int := PySem.W.mg_none_of X G z_int,
     z_isinstance := PySem.W.mg_none_of X G z_isinstance,
     z_len := PySem.W.mg_none_of X G z_len,
     z_list := PySem.W.mg_none_of X G z_list,
     z_max := PySem.W.mg_none_of X G z_max,
     z_min := PySem.W.mg_none_of X G z_min,
     z_range := PySem.W.mg_none_of X G z_range,
     z_repr := PySem.W.mg_none_of X G z_repr,
     z_set := PySem.W.mg_none_of X G z_set,
     z_sorted := PySem.W.mg_none_of X G z_sorted,
     z_str := PySem.W.mg_none_of X G z_str,
     z_tuple := PySem.W.mg_none_of X G z_tuple,
     z_zip := PySem.W.mg_none_of X G z_zip,
     g_BARE := PySem.W.mg_of X G q_BARE,
     t_BARE := .inr ⟨_, _, _, u_BARE, rfl, rfl, (show 4 ≤ sizeLine by decide), .cons ⟨_, rfl⟩ (.cons ⟨_, rfl⟩ (.cons ⟨_, rfl⟩ (.cons ⟨_, rfl⟩ (.nil))))⟩,
     c_BLANK := ⟨t_BLANK, PySem.W.mg_of X G c_BLANK⟩,
     g_BLOCKS := PySem.W.mg_of X G q_BLOCKS,
     t_BLOCKS := .inr ⟨_, _, _, u_BLOCKS, rfl, rfl, (show 2 ≤ sizeLine by decide), .cons ⟨_, rfl⟩ (.cons ⟨_, rfl⟩ (.nil))⟩,
     c_FEED := ⟨t_FEED, PySem.W.mg_of X G c_FEED⟩,
     c_LEAST_SYMBOLS := ⟨t_LEAST_SYMBOLS, PySem.W.mg_of X G c_LEAST_SYMBOLS⟩,
     c_LEFT_MARK := ⟨t_LEFT_MARK, PySem.W.mg_of X G c_LEFT_MARK⟩,
     c_LETTERS := ⟨t_LETTERS, PySem.W.mg_of X G c_LETTERS⟩,
     g_MOSTS := PySem.W.mg_of X G q_MOSTS,
     t_MOSTS := .inr ⟨_, _, _, u_MOSTS, rfl, rfl, (show 2 ≤ sizeLine by decide), .cons ⟨_, rfl⟩ (.cons ⟨_, rfl⟩ (.nil))⟩,
     c_MOST_CELLS := ⟨t_MOST_CELLS, PySem.W.mg_of X G c_MOST_CELLS⟩,
     c_MOST_DEPTH := ⟨t_MOST_DEPTH, PySem.W.mg_of X G c_MOST_DEPTH⟩,
     c_MOST_NAME := ⟨t_MOST_NAME, PySem.W.mg_of X G c_MOST_NAME⟩,
     c_MOST_PARTS := ⟨t_MOST_PARTS, PySem.W.mg_of X G c_MOST_PARTS⟩,
     c_MOST_STATEMENTS := ⟨t_MOST_STATEMENTS, PySem.W.mg_of X G c_MOST_STATEMENTS⟩,
     c_MOST_SYMBOLS := ⟨t_MOST_SYMBOLS, PySem.W.mg_of X G c_MOST_SYMBOLS⟩,
     c_RIGHT_MARK := ⟨t_RIGHT_MARK, PySem.W.mg_of X G c_RIGHT_MARK⟩,
     c_STEP := ⟨t_STEP, PySem.W.mg_of X G c_STEP⟩,
     g_TAKEN := g_TAKEN,
     g_VALUES := PySem.W.mg_of X G q_VALUES,
     t_VALUES := .inr ⟨_, _, _, u_VALUES, rfl, rfl, (show 3 ≤ sizeLine by decide), .cons ⟨_, rfl⟩ (.cons ⟨_, rfl⟩ (.cons ⟨_, rfl⟩ (.nil)))⟩,
     ki_Program := ⟨by rw [kc1_Program]; rfl, kt_Program⟩ }, rfl, rfl, rfl, rfl, rfl, rfl, rfl, rfl⟩
theorem fin_of {P : Program} {w : World} {K : PySem.W.Frag} {h : Heap} {mg : Str → Option Value} {fa f_law : Addr} {fdl : FuncData} {Z : Ad → Prop} (X : K.In h) (G : h.Ns mainGlobals mg) (hfa : mg "law" = some (.ref fa))
    (L : LooseTup mg h "TAKEN" PR.taken)
    (A : ∃ D : Ad, Txt K mg D ∧ D.f_law = f_law ∧ D.d_law = fdl ∧ Z D)
    (hb : ∀ (s : Shared) (u : Value), BindsTo s fdl ⟨[u], []⟩ [("_law_script", u)]) :
    ∃ fd : FuncData, (∀ (s : Shared) (u : Value), BindsTo s fd ⟨[u], []⟩ [("_law_script", u)]) ∧ ∀ base : Heap, K.In base → base.Ns mainGlobals mg → TupKeep h base → FnOkG P w K mg base CX0 23 fa fd ["_law_script"] (sp_law K) := by
  obtain ⟨D, T, e1, e2, _⟩ := A
  have e := hfa.symm.trans T.g_law
  cases e
  subst e1 e2
  obtain ⟨p, hp, hB⟩ := L
  have e := hp.symm.trans T.g_TAKEN
  cases e
  exact ⟨D.d_law, hb, fun base _ _ hT => ok_law T (hB base hT) (k := 0)⟩
end K09
open PySem PySem.W PyProof.Rows
set_option maxRecDepth 100000 in
set_option maxHeartbeats 0 in
theorem PySem.Challenge.cw_fewgoings_k09_what_a_program_tells_holds : PySem.Challenge.rw_fewgoings_k09_what_a_program_tells.Holds := by
  w_on; o_law; k_head; (case hw => w_witness2)
  k_fill
  refine FG.walkGT (n := 63) (k := 23) (x := "_law_script") (sp := K09.sp_law) rfl (by decide) rfl ⟨rfl, by decide, by decide⟩ (fun w h Y => PySem.W.kIn_of Y) ?F ?S
  case F =>
    intro w mg fa h KX G XP hmg
    have L : FG.LooseTup mg h "TAKEN" PR.taken := FG.loose_tup XP (by decide +kernel)
    obtain ⟨k_TAKEN, hp, hB⟩ := L
    refine' K09.fin_of KX G hmg ⟨k_TAKEN, hp, hB⟩ (K09.all_mk KX G ?a0 ?l0 ?k0 ?e0 ?a1 ?l1 ?k1 ?e1 ?a2 ?l2 ?k2 ?e2 ?a3 ?l3 ?k3 ?e3 ?a4 ?l4 ?k4 ?e4 ?a5 ?i5 ?l5 ?k5 ?e5 ?a6 ?i6 ?l6 ?k6 ?e6 ?a7 ?i7 ?l7 ?k7 ?e7 ?a8 ?i8 ?l8 ?k8 ?e8 ?a9 ?i9 ?l9 ?k9 ?e9 ?a10 ?i10 ?l10 ?k10 ?e10 ?a11 ?i11 ?l11 ?k11 ?e11 ?a12 ?i12 ?l12 ?k12 ?e12 ?a13 ?i13 ?l13 ?k13 ?e13 ?a14 ?i14 ?l14 ?k14 ?e14 ?a15 ?i15 ?l15 ?k15 ?e15 ?a16 ?i16 ?l16 ?k16 ?e16 ?a17 ?i17 ?l17 ?k17 ?e17 ?a18 ?i18 ?l18 ?k18 ?e18 ?a19 ?i19 ?l19 ?k19 ?e19 ?a20 ?i20 ?l20 ?k20 ?e20 ?a21 ?i21 ?l21 ?k21 ?e21 ?a22 ?i22 ?l22 ?k22 ?e22 ?a23 ?i23 ?l23 ?k23 ?e23 ?a24 ?i24 ?l24 ?k24 ?e24 ?a25 ?i25 ?l25 ?k25 ?e25 ?a26 ?i26 ?l26 ?k26 ?e26 ?a27 ?i27 ?l27 ?k27 ?e27 ?a28 ?l28 ?k28 ?e28 ?a29 ?i29 ?l29 ?k29 ?e29 ?a30 ?pg30 ?pt30 ?pr30 ?l30 ?k30 ?e30 ?a31 ?pg31 ?pt31 ?pr31 ?l31 ?k31 ?e31 ?a32 ?pg32 ?pt32 ?pr32 ?l32 ?k32 ?e32 ?a33 ?pg33 ?pt33 ?pr33 ?l33 ?k33 ?e33 ?a34 ?pg34 ?pt34 ?pr34 ?l34 ?k34 ?e34 ?a35 ?i35 ?l35 ?k35 ?e35 ?a36 ?l36 ?k36 ?e36 ?a37 ?l37 ?k37 ?e37 ?a38 ?l38 ?k38 ?e38 ?a39 ?l39 ?k39 ?e39 ?a40 ?l40 ?k40 ?e40 ?a41 ?l41 ?k41 ?e41 ?a42 ?l42 ?k42 ?e42 ?a43 ?l43 ?k43 ?e43 ?a44 ?l44 ?k44 ?e44 ?a45 ?l45 ?k45 ?e45 ?a46 ?l46 ?k46 ?e46 ?a47 ?l47 ?k47 ?e47 ?g_PassError ?g_BadProgram ?g_Condition ?pg_Condition ?hd_Condition ?po_Condition ?sa_Condition ?mk_Condition ?kc_Condition ?nf_Condition_signs ?nf_Condition_cell ?nf_Condition_number ?nf_Condition_is_turned ?g_Statement ?pg_Statement ?hd_Statement ?po_Statement ?sa_Statement ?mk_Statement ?kc_Statement ?nf_Statement_line ?nf_Statement_kind ?nf_Statement_own_word ?nf_Statement_cell ?nf_Statement_number ?nf_Statement_asked ?nf_Statement_body ?nf_Statement_else_body ?g_ProgramReader ?pg_ProgramReader ?hd_ProgramReader ?po_ProgramReader ?sa_ProgramReader ?mk_ProgramReader ?kc_ProgramReader ?nf_ProgramReader_rows ?nf_ProgramReader_now ?nf_ProgramReader_own_symbols ?nf_ProgramReader_own_cells ?nf_ProgramReader_names ?nf_ProgramReader_bodies ?nf_ProgramReader_main ?nf_ProgramReader_own_many ?g_Program ?pg_Program ?hd_Program ?po_Program ?sa_Program ?mk_Program ?kc_Program ?oa_Program ?on_Program ?ot_Program ?om_Program ?oe_Program ?nf_Program_own_text ?nf_Program_own_symbols ?nf_Program_own_cells ?nf_Program_own_bodies ?nf_Program_own_main ?nf_Program_own_letters ?nf_Program_own_plan ?z_abs ?z_all ?z_any ?z_enumerate ?z_int ?z_isinstance ?z_len ?z_list ?z_max ?z_min ?z_range ?z_repr ?z_set ?z_sorted ?z_str ?z_tuple ?z_zip ?q_BARE ?u_BARE ?c_BLANK ?q_BLOCKS ?u_BLOCKS ?c_FEED ?c_LEAST_SYMBOLS ?c_LEFT_MARK ?c_LETTERS ?q_MOSTS ?u_MOSTS ?c_MOST_CELLS ?c_MOST_DEPTH ?c_MOST_NAME ?c_MOST_PARTS ?c_MOST_STATEMENTS ?c_MOST_SYMBOLS ?c_RIGHT_MARK ?c_STEP ?g_TAKEN ?q_VALUES ?u_VALUES ?kc1_Program ?kt_Program) ?hb
    (case g_TAKEN => exact hp)
    (case g_PassError => k_is); (case g_BadProgram => k_is); (case g_Condition => k_is); (case g_Statement => k_is); (case g_ProgramReader => k_is); (case g_Program => k_is); (case a0 => k_is); (case l0 => k_is); (case k0 => k_is); (case e0 => k_is); (case a1 => k_is); (case l1 => k_is); (case k1 => k_is); (case e1 => k_is); (case a2 => k_is); (case l2 => k_is); (case k2 => k_is); (case e2 => k_is); (case a3 => k_is); (case l3 => k_is); (case k3 => k_is); (case e3 => k_is); (case a4 => k_is); (case l4 => k_is); (case k4 => k_is); (case e4 => k_is); (case a5 => k_is); (case i5 => k_is); (case l5 => k_is); (case k5 => k_is); (case e5 => k_is); (case a6 => k_is); (case i6 => k_is); (case l6 => k_is); (case k6 => k_is); (case e6 => k_is); (case a7 => k_is); (case i7 => k_is); (case l7 => k_is); (case k7 => k_is); (case e7 => k_is); (case a8 => k_is); (case i8 => k_is); (case l8 => k_is); (case k8 => k_is); (case e8 => k_is); (case a9 => k_is); (case i9 => k_is); (case l9 => k_is); (case k9 => k_is); (case e9 => k_is); (case a10 => k_is); (case i10 => k_is); (case l10 => k_is); (case k10 => k_is); (case e10 => k_is); (case a11 => k_is); (case i11 => k_is); (case l11 => k_is); (case k11 => k_is); (case e11 => k_is); (case a12 => k_is); (case i12 => k_is); (case l12 => k_is); (case k12 => k_is); (case e12 => k_is); (case a13 => k_is); (case i13 => k_is); (case l13 => k_is); (case k13 => k_is); (case e13 => k_is); (case a14 => k_is); (case i14 => k_is); (case l14 => k_is); (case k14 => k_is); (case e14 => k_is); (case a15 => k_is); (case i15 => k_is); (case l15 => k_is); (case k15 => k_is); (case e15 => k_is); (case a16 => k_is); (case i16 => k_is); (case l16 => k_is); (case k16 => k_is); (case e16 => k_is); (case a17 => k_is); (case i17 => k_is); (case l17 => k_is); (case k17 => k_is); (case e17 => k_is); (case a18 => k_is); (case i18 => k_is); (case l18 => k_is); (case k18 => k_is); (case e18 => k_is); (case a19 => k_is); (case i19 => k_is); (case l19 => k_is); (case k19 => k_is); (case e19 => k_is); (case a20 => k_is); (case i20 => k_is); (case l20 => k_is); (case k20 => k_is); (case e20 => k_is); (case a21 => k_is); (case i21 => k_is); (case l21 => k_is); (case k21 => k_is); (case e21 => k_is); (case a22 => k_is); (case i22 => k_is); (case l22 => k_is); (case k22 => k_is); (case e22 => k_is); (case a23 => k_is); (case i23 => k_is); (case l23 => k_is); (case k23 => k_is); (case e23 => k_is); (case a24 => k_is); (case i24 => k_is); (case l24 => k_is); (case k24 => k_is); (case e24 => k_is); (case a25 => k_is); (case i25 => k_is); (case l25 => k_is); (case k25 => k_is); (case e25 => k_is); (case a26 => k_is); (case i26 => k_is); (case l26 => k_is); (case k26 => k_is); (case e26 => k_is); (case a27 => k_is); (case i27 => k_is); (case l27 => k_is); (case k27 => k_is); (case e27 => k_is); (case a28 => k_is); (case l28 => k_is); (case k28 => k_is); (case e28 => k_is); (case a29 => k_is); (case i29 => k_is); (case l29 => k_is); (case k29 => k_is); (case e29 => k_is); (case a30 => k_is); (case pg30 => k_is); (case pt30 => k_is); (case pr30 => k_is); (case l30 => k_is); (case k30 => k_is); (case e30 => k_is); (case a31 => k_is); (case pg31 => k_is); (case pt31 => k_is); (case pr31 => k_is); (case l31 => k_is); (case k31 => k_is); (case e31 => k_is); (case a32 => k_is); (case pg32 => k_is); (case pt32 => k_is); (case pr32 => k_is); (case l32 => k_is); (case k32 => k_is); (case e32 => k_is); (case a33 => k_is); (case pg33 => k_is); (case pt33 => k_is); (case pr33 => k_is); (case l33 => k_is); (case k33 => k_is); (case e33 => k_is); (case a34 => k_is); (case pg34 => k_is); (case pt34 => k_is); (case pr34 => k_is); (case l34 => k_is); (case k34 => k_is); (case e34 => k_is); (case a35 => k_is); (case i35 => k_is); (case l35 => k_is); (case k35 => k_is); (case e35 => k_is); (case a36 => k_is); (case l36 => k_is); (case k36 => k_is); (case e36 => k_is); (case a37 => k_is); (case l37 => k_is); (case k37 => k_is); (case e37 => k_is); (case a38 => k_is); (case l38 => k_is); (case k38 => k_is); (case e38 => k_is); (case a39 => k_is); (case l39 => k_is); (case k39 => k_is); (case e39 => k_is); (case a40 => k_is); (case l40 => k_is); (case k40 => k_is); (case e40 => k_is); (case a41 => k_is); (case l41 => k_is); (case k41 => k_is); (case e41 => k_is); (case a42 => k_is); (case l42 => k_is); (case k42 => k_is); (case e42 => k_is); (case a43 => k_is); (case l43 => k_is); (case k43 => k_is); (case e43 => k_is); (case a44 => k_is); (case l44 => k_is); (case k44 => k_is); (case e44 => k_is); (case a45 => k_is); (case l45 => k_is); (case k45 => k_is); (case e45 => k_is); (case a46 => k_is); (case l46 => k_is); (case k46 => k_is); (case e46 => k_is); (case a47 => k_is); (case l47 => k_is); (case k47 => k_is); (case e47 => k_is); (case pg_Condition => k_is); (case hd_Condition => k_is); (case po_Condition => k_is); (case sa_Condition => k_is); (case mk_Condition => k_is); (case kc_Condition => k_is); (case nf_Condition_signs => k_is); (case nf_Condition_cell => k_is); (case nf_Condition_number => k_is); (case nf_Condition_is_turned => k_is); (case pg_Statement => k_is); (case hd_Statement => k_is); (case po_Statement => k_is); (case sa_Statement => k_is); (case mk_Statement => k_is); (case kc_Statement => k_is); (case nf_Statement_line => k_is); (case nf_Statement_kind => k_is); (case nf_Statement_own_word => k_is); (case nf_Statement_cell => k_is); (case nf_Statement_number => k_is); (case nf_Statement_asked => k_is); (case nf_Statement_body => k_is); (case nf_Statement_else_body => k_is); (case pg_ProgramReader => k_is); (case hd_ProgramReader => k_is); (case po_ProgramReader => k_is); (case sa_ProgramReader => k_is); (case mk_ProgramReader => k_is); (case kc_ProgramReader => k_is); (case nf_ProgramReader_rows => k_is); (case nf_ProgramReader_now => k_is); (case nf_ProgramReader_own_symbols => k_is); (case nf_ProgramReader_own_cells => k_is); (case nf_ProgramReader_names => k_is); (case nf_ProgramReader_bodies => k_is); (case nf_ProgramReader_main => k_is); (case nf_ProgramReader_own_many => k_is); (case pg_Program => k_is); (case hd_Program => k_is); (case po_Program => k_is); (case sa_Program => k_is); (case mk_Program => k_is); (case kc_Program => k_is); (case oa_Program => k_is); (case on_Program => k_is); (case ot_Program => k_is); (case om_Program => k_is); (case oe_Program => k_is); (case nf_Program_own_text => k_is); (case nf_Program_own_symbols => k_is); (case nf_Program_own_cells => k_is); (case nf_Program_own_bodies => k_is); (case nf_Program_own_main => k_is); (case nf_Program_own_letters => k_is); (case nf_Program_own_plan => k_is); (case z_abs => k_is); (case z_all => k_is); (case z_any => k_is); (case z_enumerate => k_is); (case z_int => k_is); (case z_isinstance => k_is); (case z_len => k_is); (case z_list => k_is); (case z_max => k_is); (case z_min => k_is); (case z_range => k_is); (case z_repr => k_is); (case z_set => k_is); (case z_sorted => k_is); (case z_str => k_is); (case z_tuple => k_is); (case z_zip => k_is); (case q_BARE => k_is); (case u_BARE => k_is); (case c_BLANK => k_is); (case q_BLOCKS => k_is); (case u_BLOCKS => k_is); (case c_FEED => k_is); (case c_LEAST_SYMBOLS => k_is); (case c_LEFT_MARK => k_is); (case c_LETTERS => k_is); (case q_MOSTS => k_is); (case u_MOSTS => k_is); (case c_MOST_CELLS => k_is); (case c_MOST_DEPTH => k_is); (case c_MOST_NAME => k_is); (case c_MOST_PARTS => k_is); (case c_MOST_STATEMENTS => k_is); (case c_MOST_SYMBOLS => k_is); (case c_RIGHT_MARK => k_is); (case c_STEP => k_is); (case q_VALUES => k_is); (case u_VALUES => k_is); (case kc1_Program => k_is); (case kt_Program => k_is)
    case hb => exact fun s u => .of_eq rfl
  case S =>
    intro w H a ns hl hO hS
    exact ⟨a, ns, rfl, hS, hl, fun _ => rfl⟩
