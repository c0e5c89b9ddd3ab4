import PyProof.Rows.All
import Wide.All
import OpenK.AllK
import Wide.FinOn
import PyProof.ReprRoads
import HandS.ForMost
import HandS.IsInst
import HandS.TupAny
import HandS.DictComp
import HandS.Evl
import HandS.Style
import KE.KUnpackStar
import KE.DataMinMax
import HandS.SortKw
import HandS.Text
import PySem.Challenge.RW_handledeeds_k10_what_kinds_are
import HandS.Walk
import PyProof.StrLawsLast
import PyProof.StrLawsChain
import HandS.Zip
import PyProof.ReprLen
set_option Elab.async false
set_option maxRecDepth 100000
set_option maxHeartbeats 4000000
set_option linter.all false
/-! A def's promise where no repr is under way around the call (guards empty): needed by repr of lists, tuples, dicts. -/
namespace Grd
open PySem L2 PyProof.Rows

/-- as FnOk, the call standing where no repr goes on -/
structure Fn (P : Program) (w : World) (K : PySem.W.Frag) (mg : Str → Option Value) (base : Heap) (CX : CXT)
    (k : Nat) (f : Addr) (fd : FuncData) (ps : List Str) (sp : Sp) : Prop where
  len : ∀ vs H Q E, sp vs H Q E → vs.length = ps.length
  run : ∀ (A : Around) (outer : List Env) (s : Shared) (H : Hp) (args : Args) (us : List Value) (vs : List V)
    (Q : VK) (E : XK), A.guards = some [] → Room k A → Env0 P w K mg base A outer s H →
    BindsTo s fd args (ps.zip us) → Vals vs us → sp vs H Q E →
    codeAny (model P w) A (.call (.ref f) args) (CR CX outer P w H s Q E) s

section
variable {P : Program} {w : World} {K : PySem.W.Frag} {mg : Str → Option Value} {base : Heap} {CX : CXT} {k j : Nat}
  {f : Addr} {fd : FuncData} {ps : List Str} {sp sp' : Sp}

theorem Fn.ofOk (G : FnOk P w K mg base CX k f fd ps sp) : Fn P w K mg base CX k f fd ps sp :=
  ⟨G.len, fun A outer s H args us vs Q E _ => G.run A outer s H args us vs Q E⟩

theorem Fn.up (G : Fn P w K mg base CX j f fd ps sp) (h : j ≤ k) : Fn P w K mg base CX k f fd ps sp :=
  ⟨G.len, fun A outer s H args us vs Q E hg hr => G.run A outer s H args us vs Q E hg (hr.mono h)⟩

/-- the body's walk gives the promise -/
theorem mk {x qual : Str} {st : Stmt} {N : List Str} (F : Fun K x qual st f fd) (S : FnScope N ps (defScope st))
    (len : ∀ vs H Q E, sp vs H Q E → vs.length = ps.length)
    (body : ∀ (cdv : Value) (A : Around) (outer : List Env) (s : Shared) (H : Hp) (vs : List V) (Q : VK) (E : XK),
      (A.deeper (envOfC qual (defScope st) s.heap.objs.size f cdv)).guards = some [] →
      Room k (A.deeper (envOfC qual (defScope st) s.heap.objs.size f cdv)) → sp vs H Q E →
      ∃ t, PSs (cxOf CX0 P w K mg base N qual (defScope st) f cdv A outer s H E).nox (defBody st) t ∧
        t { nx := fun _ H' => Q .non H', rt := Q } (start N vs) H) :
    Fn P w K mg base CX0 (k + 1) f fd ps sp := by
  obtain ⟨oc, od, kV, doc, pm, an, cdv, ct, osl, rfl, lk, hcd⟩ := F.ex
  constructor
  · exact len
  intro A outer s H args us vs Q E hg hr e0 hb r hsp
  have hlen := len _ _ _ _ hsp
  have inK : K.In s.heap := e0.mod.kin.keeps fun b o z => (e0.bs b o z).1
  have noLim : s.heap.NoLimit := e0.mod.nolimit.keeps fun b o z => (e0.bs b o z).1
  obtain ⟨t, ht, hq⟩ := body cdv A outer s H vs Q E (by exact hg) (hr.deeper _) hsp
  have kinds : ∀ y ∈ ps.zip us, (defScope st).names.lookup y.1 = some .local ∨
      ((defScope st).names.lookup y.1 = some .cell ∧
        ((cellsFrom (s.heap.objs.size + 1) (defScope st).names []).lookup y.1).isSome = true) := by
    rintro ⟨n, v⟩ hy
    cases S.par n (List.of_mem_zip hy).1 with
    | inl q => exact .inl q
    | inr q => exact .inr ⟨q, PySem.W.cellsFrom_some _ _ _ (.inl q)⟩
  refine codeAny_call_function hr.depth (inK _ _ lk) rfl S.co S.gen rfl
    (PySem.W.codeRec_of inK hcd) (hb _ _ _ _ ?_)
  refine wpAny_newFunctionEnv_cells S.kind kinds fun env he s1 x => ?_
  subst he
  refine ⟨noLim.keeps x.toInCall.keep, codeAny_func ?_⟩
  have I := inv_start (CX := CX0) (E := E) S hr.hd e0 hlen r x
  refine wpAny_mono (ht.nox.run [] s1 (start N vs) H _ I hq) ?_ (fun e s' hs => hs)
  intro fl s' hs
  cases fl with
  | ret u =>
    obtain ⟨v, σ', H', J, rv, q⟩ := hs
    exact ⟨v, H', J.os, J.bare, J.base, J.hok, rv, q⟩
  | next =>
    obtain ⟨σ', H', J, q⟩ := hs
    exact ⟨V.non, H', J.os, J.bare, J.base, J.hok, rfl, q⟩
  | brk =>
    obtain ⟨_, _, _, q⟩ := hs
    exact q.elim
  | cont =>
    obtain ⟨_, _, _, q⟩ := hs
    exact q.elim
end

section
variable {X : Cx} {CX : CXT} {k : Nat} {f : Addr} {fd : FuncData} {ps : List Str} {sp : Sp} {dvs : List V} {ds : List Value}
  {E : XK} {x : Str} {p pos : Pos} {e : Expr} {es : List Expr} {t : TA}

theorem run_it {pins : List (Addr × Obj)} {σ : L2.St} {H : Hp} {s : Shared} {Q : VK} {us : List Value} {vs : List V}
    (F : Fn X.prog X.w X.K X.mg X.base CX k f fd ps sp) (gd : X.A.guards = some []) (hr : Room k X.A)
    (hb : Binds X.K fd ps ds) (hd : Vals dvs ds) (hx : Passes CX X E)
    (I : Inv X pins σ H s) (r : Vals vs us) (h : sp (vs ++ dvs) H Q E) :
    wpAny (model X.prog X.w) X.A (call (.ref f) us) (EP X pins σ Q) X.xe s := by
  have rr := r.append hd
  have ll : (us ++ ds).length = ps.length := rr.length.symm.trans (F.len _ _ _ _ h)
  have z := F.run X.A X.stack s H ⟨us, []⟩ (us ++ ds) (vs ++ dvs) Q E gd hr I.env0 (hb s us I.kIn ll) rr h
  refine wpAny_call (codeAny_mono z ?_)
  intro r s' hq
  match r, hq with
  | .error e, hq => exact hx pins σ H s e s' I hq
  | .ok (.ret u), hq => exact I.after hq
  | .ok .next, hq => exact hq.elim
  | .ok .brk, hq => exact hq.elim
  | .ok .cont, hq => exact hq.elim

/-- f(e, ..) -/
theorem pe_callG (F : Fn X.prog X.w X.K X.mg X.base CX k f fd ps sp) (gd : X.A.guards = some []) (hr : Room k X.A)
    (hg : Gl X x) (hm : X.mg x = some (.ref f)) (hk : PySem.W.keepIn X.K (.ref f) = true) (hb : Binds X.K fd ps ds)
    (hd : Vals dvs ds) (hx : Passes CX X E) (ha : PA X (e :: es) t)
    (hdb : (x == ("__debug__" : Str)) = false := by decide)
    (he : starEach (e :: es) X.env = (false, eval e X.env) :: starEach es X.env := by rfl)
    (hpl : (backTo pos (starEach es X.env)).any (·.1) = false := by rfl) :
    PE X (.Call (.Name x p) (e :: es) [] pos) (tCall sp dvs E t) := by
  constructor
  intro pins s σ H Q I h
  refine wpAny_Call_Name_kw (ld_glob I hg hm ?_ hdb)
  have z := thn (Q' := fun us s1 => X.K.In s1.heap ∧ wpAny (model X.prog X.w) X.A (call (.ref f) us) (EP X pins σ Q) X.xe s1)
    (ha.run pos pins s σ H _ I h) (by
      rintro us s1 ⟨vs, H1, I1, r, q⟩
      exact ⟨I1.kIn, run_it F gd hr hb hd hx I1 r q⟩)
  exact PySem.W.callWith_K (h₀ := X.base) I.ok.mod.kin hk z he hpl

/-- f() -/
theorem pe_callG0 (F : Fn X.prog X.w X.K X.mg X.base CX k f fd ps sp) (gd : X.A.guards = some []) (hr : Room k X.A)
    (hg : Gl X x) (hm : X.mg x = some (.ref f)) (hk : PySem.W.keepIn X.K (.ref f) = true) (hb : Binds X.K fd ps ds)
    (hd : Vals dvs ds) (hx : Passes CX X E) (hdb : (x == ("__debug__" : Str)) = false := by decide) :
    PE X (.Call (.Name x p) [] [] pos) (tCall sp dvs E tNil) := by
  constructor
  intro pins s σ H Q I h
  refine wpAny_Call_Name_kw (ld_glob I hg hm ?_ hdb)
  exact PySem.W.callWith_K0 I.kIn hk (run_it (us := []) F gd hr hb hd hx I .nil h)
end

/-! ### the end of a law: as the library's own, from a promise where no repr goes on -/
theorem law_run {P : Program} {w : World} {K : PySem.W.Frag} {mg mb : Str → Option Value} {CX : CXT} {k : Nat} {fa a : Addr}
    {fd : FuncData} {x : Str} {sp : Sp} {s₁ : Shared} {vs : List Value} {ns : List Int}
    (KX : K.In s₁.heap) (hns : s₁.heap.Ns mainGlobals mg) (hb : s₁.heap.Ns builtinsNs mb)
    (hbb : ∀ x : Str, x ≠ "__name__" → mb x = bootBuiltins x) (hlim : s₁.heap.NoLimit) (hg : s₁.gens = #[])
    (ha : s₁.heap.get? a = some { cls := .type "list", data := .seq vs.toArray }) (hi : IntsAre vs ns)
    (hl : ns.length ≤ sizeLine) (hr : Room k callerA)
    (F : ∀ base : Heap, K.In base → base.Ns mainGlobals mg → Fn P w K mg base CX k fa fd [x] sp)
    (hbind : ∀ (s : Shared) (u : Value), BindsTo s fd ⟨[u], []⟩ [(x, u)])
    (hsp : ∀ H : Hp, Only H → SqL K H a (ns.map V.int) → sp [.ref a] H (fun v _ => v = .bl true) fun _ _ _ => False)
    (hCX : ∀ H e s', CX [] H s₁ (fun _ _ _ => False) e s' → False) :
    codeAny (model P w) callerA (.call (.ref fa) ⟨[.ref a], []⟩)
      (fun r s' => r = .ok (.ret (.bool true)) ∧ OldK s₁.heap s'.heap ∧ s'.os = s₁.os ∧ AllBare s'.gens) s₁ := by
  have rv := vals_ints hi
  have lv := hi.length
  have main : ∀ H : Hp, Only H → SqL K H a (ns.map V.int) → HOk P w H s₁.heap → (∀ b, H b ≠ none → b = a) →
      (H a ≠ none → K.lookup a = none) → codeAny (model P w) callerA (.call (.ref fa) ⟨[.ref a], []⟩)
      (fun r s' => r = .ok (.ret (.bool true)) ∧ OldK s₁.heap s'.heap ∧ s'.os = s₁.os ∧ AllBare s'.gens) s₁ := by
    intro H only hS hok hA hK
    have free : ∀ {b : Addr}, ¬ b = a → H b = none := by
      intro b nb
      cases q : H b with
      | none => rfl
      | some u => exact absurd (hA b (by rw [q]; simp)) nb
    have dictFree : ∀ {b : Addr} {o : Obj} {es : Array DictEntry} {ep : Nat}, s₁.heap.get? b = some o →
        o.data = .dict es ep → H b = none := by
      intro b o es ep e d
      by_cases nb : b = a
      · rw [nb, ha] at e
        rw [← Option.some.inj e] at d
        exact nomatch d
      · exact free nb
    have nsOf : ∀ {b : Addr} {m : Str → Option Value}, s₁.heap.Ns b m → (hidT s₁.heap H).Ns b m := by
      rintro b m ⟨o, es, ep, e, d, r⟩
      exact ⟨o, es, ep, hidT_get e (dictFree e d), d, r⟩
    have inB : K.In (hidT s₁.heap H) := by
      intro b o e
      refine hidT_get (KX b o e) ?_
      cases q : H b with
      | none => rfl
      | some u =>
        have e' : b = a := hA b (by rw [q]; simp)
        have n := hK (by rw [← e', q]; simp)
        rw [e', n] at e
        exact nomatch e
    have mod : Mod K mg (hidT s₁.heap H) := by
      obtain ⟨mc, h1, h2⟩ := hlim
      exact ⟨inB, nsOf hns, ⟨mb, nsOf hb, hbb⟩, ⟨mc, nsOf h1, h2⟩⟩
    have e0 : Env0 P w K mg (hidT s₁.heap H) callerA [] s₁ H :=
      { frames := rfl, mod := mod, bs := fun b o e => of_hidT e, bsz := Nat.le_of_eq (hidT_size _ _), funs := trivial,
        frf := fun b hb => absurd (show b ∈ ([] : List Addr) from hb) (by simp), hok := hok, bare := .of_eq hg }
    have go := (F _ inB (nsOf hns)).run callerA [] s₁ H ⟨[.ref a], []⟩ [.ref a] [.ref a] _ _ rfl hr e0
      (hbind s₁ (.ref a)) (.cons rfl .nil) (hsp H only hS)
    refine codeAny_mono go ?_
    intro r s' h
    match r, h with
    | .error e, h => exact (hCX H e s' h).elim
    | .ok .next, h => exact h.elim
    | .ok .brk, h => exact h.elim
    | .ok .cont, h => exact h.elim
    | .ok (.ret u), h =>
      obtain ⟨v, H', os, bare, un, hok', r', q⟩ := h
      have q' : v = .bl true := q
      subst q'
      have eu : u = Value.bool true := r'
      subst eu
      refine ⟨rfl, OldK.of_keep ?_, os, bare⟩
      intro b o e
      rcases only b with z | ⟨ob, xs, z⟩
      · exact un.keep b o e z (fun y => absurd (show b ∈ ([] : List Addr) from y) (by simp)) (by simp)
      · have y1 := (hok b _ z).1
        have y2 := (hok' b _ (un.frzs b ob _ z)).1
        rw [e] at y1
        rw [Option.some.inj y1]
        exact y2
  cases hk : K.lookup a with
  | some o =>
    have e := KX a o hk
    rw [ha] at e
    have eo := Option.some.inj e
    subst eo
    refine main (fun _ => none) (fun _ => .inl rfl) ?_ (fun b u z => nomatch (show (none : Option HO) = some u from z))
      (fun b z => absurd rfl z) (fun z => absurd rfl z)
    exact .inr ⟨_, vs.toArray, _, hk, rfl, rfl, rfl, by rw [List.size_toArray, lv]; exact hl, by simpa using rv⟩
  | none =>
    let ob : Obj := { cls := .type "list", data := .seq vs.toArray }
    let HS : Hp := fun b => if b = a then some (.frz ob (.lst (ns.map V.int))) else none
    have at_ : HS a = some (.frz ob (.lst (ns.map V.int))) := if_pos rfl
    have off : ∀ {b : Addr}, ¬ b = a → HS b = none := fun nb => if_neg nb
    refine main HS ?_ (.inl (.inr ⟨ob, at_⟩)) ?_ ?_ (fun _ => hk)
    · intro b
      by_cases nb : b = a
      · rw [nb]; exact .inr ⟨_, _, at_⟩
      · exact .inl (off nb)
    · intro b u z
      by_cases nb : b = a
      · subst nb
        rw [at_] at z
        have zu := Option.some.inj z
        subst zu
        exact ⟨ha, by rw [List.length_map]; exact hl, vs, _, rv, ha⟩
      · rw [off nb] at z
        exact nomatch z
    · intro b z
      by_cases nb : b = a
      · exact nb
      · exact absurd (off nb) z

theorem walkG {l : PySem.W.OpenLaw} {n k : Nat} {q : Program} {loose : List Str} {XP : (Str → Option Value) → Heap → Prop}
    {YP : World → Heap → Prop} {d : DefRec} {K : Params → PySem.W.Frag} {CX : World → CXT} {sp : World → Sp} {x : Str}
    (hn : l.most = some n) (hn2 : n ≤ sizeLine) (hdf : d.params.defaults = []) (hr : Room k callerA)
    (hY : ∀ (w : World) (h : Heap), YP w h → (K w.params).In h)
    (F : ∀ (w : World) (mg : Str → Option Value) (fa : Addr) (h : Heap), (K w.params).In h → h.Ns mainGlobals mg →
      mg d.name = some (.ref fa) → ∃ fd : FuncData, (∀ (s : Shared) (u : Value), BindsTo s fd ⟨[u], []⟩ [(x, u)]) ∧
        ∀ base : Heap, (K w.params).In base → base.Ns mainGlobals mg → Fn l.prog w (K w.params) mg base (CX w) k fa fd [x] (sp w))
    (hsp : ∀ (w : World) (H : Hp) (a : Addr) (ns : List Int), ns.length ≤ n → Only H → SqL (K w.params) H a (ns.map V.int) →
      sp w [.ref a] H (fun v _ => v = .bl true) fun _ _ _ => False)
    (hCX : ∀ (w : World) (H : Hp) (s : Shared) (e : Value) (s' : Shared), CX w [] H s (fun _ _ _ => False) e s' → False) :
    PySem.W.WalkO q loose XP YP l.row.toRowW d [] (fun f vs => PySem.call f vs) := by
  refine Att.attach_call hn hdf ?_
  intro w s₀ s₁ mg mb fa o pm cd doc a vs ns G Y ho hd hcd hmg hobj hints hlen hg
  have KX := hY w _ Y
  obtain ⟨fd, hb, hF⟩ := F w mg fa _ KX G.T.g hmg
  exact law_run KX G.T.g G.T.b G.T.builtins G.T.nolimit hg hobj hints (Nat.le_trans hlen hn2) hr hF hb
    (fun H only hS => hsp w H a ns hlen only hS) (fun H e s' => hCX w H s₁ e s')

end Grd

namespace Grd
open PySem L2
open Evl (Ex ex_t ex_l)

/-! ### data: what stands still, what is without lists -/
mutual
def tupOnly : PyData → Bool
  | .list _ => false
  | .dict _ => false
  | .tuple ds => tupOnlyAll ds
  | _ => true
def tupOnlyAll : List PyData → Bool
  | [] => true
  | d :: ds => tupOnly d && tupOnlyAll ds
end

/-- tuples stay as they are -/
def Ts (K : PySem.W.Frag) (H H' : Hp) : Prop := ∀ a xs, SqT K H a xs → SqT K H' a xs
theorem Ts.of_ex {K : PySem.W.Frag} {H H' : Hp} (e : Ex H H') : Ts K H H' := fun _ _ h => ex_t e h
theorem Ts.refl {K : PySem.W.Frag} {H : Hp} : Ts K H H := fun _ _ h => h
theorem Ts.trans {K : PySem.W.Frag} {H H1 H2 : Hp} (a : Ts K H H1) (b : Ts K H1 H2) : Ts K H H2 := fun x xs h => b x xs (a x xs h)

section
variable {K : PySem.W.Frag} {H H' : Hp}
mutual
theorem Dp.tst (t : Ts K H H') : ∀ (d : PyData) (v : V), tupOnly d = true → Dp K H v d → Dp K H' v d
  | .none, _, _, h => by cases h; exact .non
  | .bool b, _, _, h => by cases h; exact .bl b
  | .int i, _, _, h => by cases h; exact .int i
  | .str x, _, _, h => by cases h; exact .str x
  | .tuple ds, _, k, h => by
    cases h with
    | tup hs ha => exact .tup (t _ _ hs) (DpAll.tst t ds _ (by simpa only [tupOnly] using k) ha)
  | .list ds, _, k, h => by simp only [tupOnly] at k; exact absurd k (by decide)
  | .dict ds, _, k, h => by simp only [tupOnly] at k; exact absurd k (by decide)
theorem DpAll.tst (t : Ts K H H') : ∀ (ds : List PyData) (vs : List V), tupOnlyAll ds = true → DpAll K H vs ds → DpAll K H' vs ds
  | [], _, _, h => by cases h; exact .nil
  | d :: ds, _, k, h => by
    simp only [tupOnlyAll, Bool.and_eq_true] at k
    cases h with
    | cons h1 h2 => exact .cons (Dp.tst t d _ k.1 h1) (DpAll.tst t ds _ k.2 h2)
end
mutual
theorem Dp.ex (t : Ex H H') : ∀ (d : PyData) (v : V), Dp K H v d → Dp K H' v d
  | .none, _, h => by cases h; exact .non
  | .bool b, _, h => by cases h; exact .bl b
  | .int i, _, h => by cases h; exact .int i
  | .str x, _, h => by cases h; exact .str x
  | .tuple ds, _, h => by
    cases h with
    | tup hs ha => exact .tup (ex_t t hs) (DpAll.ex t ds _ ha)
  | .list ds, _, h => by
    cases h with
    | lst hs ha => exact .lst (ex_l t hs) (DpAll.ex t ds _ ha)
  | .dict ds, _, h => nomatch h
theorem DpAll.ex (t : Ex H H') : ∀ (ds : List PyData) (vs : List V), DpAll K H vs ds → DpAll K H' vs ds
  | [], _, h => by cases h; exact .nil
  | d :: ds, _, h => by
    cases h with
    | cons h1 h2 => exact .cons (Dp.ex t d _ h1) (DpAll.ex t ds _ h2)
end
theorem DpAll.len : ∀ {vs : List V} {ds : List PyData}, DpAll K H vs ds → vs.length = ds.length
  | _, _, .nil => rfl
  | _, _, .cons _ h => congrArg (· + 1) (DpAll.len h)
theorem DpAll.at {vs : List V} {ds : List PyData} (h : DpAll K H vs ds) (i : Nat) {d : PyData} (e : ds[i]? = some d) : ∃ v, vs[i]? = some v ∧ Dp K H v d := by
  induction i generalizing vs ds with
  | zero =>
    cases h with
    | nil => simp at e
    | cons h1 _ => simp at e; subst e; exact ⟨_, rfl, h1⟩
  | succ i ih =>
    cases h with
    | nil => simp at e
    | cons _ h2 => simp at e; obtain ⟨v, q⟩ := ih h2 e; exact ⟨v, by simpa using q.1, q.2⟩
theorem DpAll.append : ∀ {vs ws : List V} {ds es : List PyData}, DpAll K H vs ds → DpAll K H ws es → DpAll K H (vs ++ ws) (ds ++ es)
  | _, _, _, _, .nil, h => h
  | _, _, _, _, .cons a b, h => .cons a (DpAll.append b h)
end

section
variable {X : Cx} {pins : List (Addr × Obj)} {σ : L2.St} {H : Hp} {s : Shared}
mutual
/-- data without lists is read without an address -/
theorem readsT (I : Inv X pins σ H s) : ∀ (d : PyData) (v : V) (u : Value), tupOnly d = true → Dp X.K H v d → RelV v u → Reads s.heap u d []
  | .none, _, _, _, h, r => by cases h; cases r; exact Reads.none
  | .bool b, _, _, _, h, r => by cases h; cases r; exact Reads.bool b
  | .int i, _, _, _, h, r => by cases h; obtain ⟨t, rfl⟩ := r; exact Reads.int i t
  | .str x, _, _, _, h, r => by cases h; obtain ⟨t, rfl⟩ := r; exact Reads.str x t
  | .tuple ds, _, _, k, h, r => by
    cases h with
    | tup hs ha =>
      cases r
      obtain ⟨its, rv, ⟨o, ho, hc, n, hd⟩, _⟩ := I.tuple hs
      have hr := readsTs I ds _ its (by simpa only [tupOnly] using k) ha rv
      exact Reads.tuple ho hc hd hr
  | .list ds, _, _, k, h, r => by simp only [tupOnly] at k; exact absurd k (by decide)
  | .dict ds, _, _, k, h, r => by simp only [tupOnly] at k; exact absurd k (by decide)
theorem readsTs (I : Inv X pins σ H s) : ∀ (ds : List PyData) (vs : List V) (us : List Value), tupOnlyAll ds = true → DpAll X.K H vs ds → Vals vs us → ReadsAll s.heap us ds []
  | [], _, _, _, h, r => by cases h; cases r; exact ReadsAll.nil
  | d :: ds, _, _, k, h, r => by
    simp only [tupOnlyAll, Bool.and_eq_true] at k
    cases h with
    | cons h1 h2 =>
      cases r with
      | cons r1 r2 => exact ReadsAll.cons (as := []) (bs := []) (readsT I d _ _ k.1 h1 r1) (readsTs I ds _ _ k.2 h2 r2)
end

/-- a datum without lists, or a dict from ints to such -/
inductive Dr (K : PySem.W.Frag) (H : Hp) : V → PyData → Prop
  | dat {v : V} {d : PyData} : tupOnly d = true → Dp K H v d → Dr K H v d
  | dct {a : Addr} {kvs : List (Key × V)} {ds : List (Int × PyData)} : H a = some (.dK kvs) →
      Paired (fun (p : Key × V) (q : Int × PyData) => p.1 = Sum.inl q.1 ∧ tupOnly q.2 = true ∧ Dp K H p.2 q.2) kvs ds →
      Dr K H (.ref a) (.dict (ds.map fun q => (PyData.int q.1, q.2)))
theorem reads_pairs (I : Inv X pins σ H s) : ∀ {kvs : List (Key × V)} {ds : List (Int × PyData)} {vs : List (Key × Value)} {es : List DictEntry},
    Paired (fun (p : Key × V) (q : Int × PyData) => p.1 = Sum.inl q.1 ∧ tupOnly q.2 = true ∧ Dp X.K H p.2 q.2) kvs ds → KV kvs vs → Pairs (mixKind X.prog X.w) es vs →
    ReadsAll s.heap (es.map (·.key)) (ds.map fun q => PyData.int q.1) [] ∧ ReadsAll s.heap (es.map (·.val)) (ds.map (·.2)) []
  | _, _, _, _, .nil, k, p => by
    cases k
    cases p
    exact ⟨.nil, .nil⟩
  | _, _, _, _, .cons a b, k, p => by
    cases k with
    | cons k1 k2 =>
      cases p with
      | cons p1 p2 p3 =>
        obtain ⟨r1, r2⟩ := reads_pairs I b k2 p3
        refine ⟨ReadsAll.cons (as := []) (bs := []) ?_ r1, ReadsAll.cons (as := []) (bs := []) ?_ r2⟩
        · rw [← k1.1, a.1, mixKind_is] at p1
          rcases keyIs_shape p1 with ⟨i, t, e1, e2⟩ | ⟨x, t, e1, e2⟩
          · dsimp only
            rw [e2, Sum.inl.inj e1]
            exact Reads.int _ _
          · exact nomatch e1
        · exact readsT I _ _ _ a.2.1 a.2.2 (by have e := k1.2; rw [← p2] at e; exact e)
theorem Dr.reads (I : Inv X pins σ H s) {v : V} {d : PyData} {u : Value} (h : Dr X.K H v d) (r : RelV v u) : ∃ as, sysModules ∉ as ∧ Reads s.heap u d as := by
  cases h with
  | dat k h => exact ⟨[], by simp, readsT I d v u k h r⟩
  | @dct a kvs ds e p =>
    cases r
    obtain ⟨_, hne, vs, rel, o, es, ep, ho, hx, hd, hk, hp, _⟩ := dk_of I.hok e
    obtain ⟨r1, r2⟩ := reads_pairs I p rel hp
    refine ⟨[a], ?_, ?_⟩
    · intro z
      rw [List.mem_singleton] at z
      rw [z] at hne
      simp at hne
    · have q := Reads.dict (as := []) (bs := []) (kvs := ds.map fun q => (PyData.int q.1, q.2)) ho hx.1 hd
        (by rw [List.map_map]; exact r1) (by rw [List.map_map]; exact r2)
      exact q
theorem reads_row (I : Inv X pins σ H s) : ∀ {vs : List V} {ds : List PyData} {us : List Value}, Paired (Dr X.K H) vs ds → Vals vs us → ∃ as, sysModules ∉ as ∧ ReadsAll s.heap us ds as
  | _, _, _, .nil, r => by
    cases r
    exact ⟨[], by simp, .nil⟩
  | _, _, _, .cons h1 h2, r => by
    cases r with
    | cons r1 r2 =>
      obtain ⟨as, n1, q1⟩ := h1.reads I r1
      obtain ⟨bs, n2, q2⟩ := reads_row I h2 r2
      exact ⟨as ++ bs, by simp [n1, n2], .cons q1 q2⟩
end

/-- a list written out, its place not that of the table of modules -/
def tLstB (t : TA) : TE := fun σ H Q => t σ H fun xs H1 => xs.length ≤ sizeLine ∧ ∀ p, H1 p = none → p ≠ sysModules → Q (.ref p) (upd H1 p (.lst xs))
theorem pe_lstB {X : Cx} {es : List Expr} {t : TA} {pos : Pos} (h : PA X es t) : PE X (.List es pos) (tLstB t) := by
  constructor
  intro pins s σ H Q I hq
  refine wpAny_List_spliced (thn (h.run pos pins s σ H _ I hq) ?_)
  rintro us s1 ⟨xs, H1, I1, r, z, q⟩
  refine ⟨by rw [← r.length]; exact z, ?_⟩
  have hf : H1 s1.heap.objs.size = none := I1.hok.fresh (Nat.le_refl _)
  have hb := I1.big
  refine ⟨.ref s1.heap.objs.size, upd H1 s1.heap.objs.size (.lst xs), ?_, rfl, q _ hf (fun z => absurd hb (by rw [z]; exact Nat.lt_irrefl _))⟩
  exact I1.laid (t' := s1.toks) (fun b u e => Heap.get?_push_of_some _ e) (Nat.le_refl _) ⟨z, us, 0, r, Heap.get?_push_size _ rfl⟩

/-- repr of a list of such things -/
def rReprL (K : PySem.W.Frag) : List V → Hp → VK → Prop := fun vs H Q => ∃ (a : Addr) (xs : List V) (ds : List PyData), vs = [.ref a] ∧ a ≠ sysModules ∧ H a = some (.lst xs) ∧ Paired (Dr K H) xs ds ∧
  (PyData.list ds).showable = true ∧ (PyData.list ds).depth ≤ 60 ∧ (PyData.list ds).shown.length ≤ sizeLine ∧ Q (.str (PyData.list ds).shown) H
theorem call_reprL {X : Cx} (gd : X.A.guards = some []) (hu : X.A.units + 64 < cLine) : CallR X (.builtin "repr") (rReprL X.K) := by
  intro pins s σ H vs us Q I r h
  obtain ⟨a, xs, ds, rfl, na, ha, hp, hs, hd, hz, q⟩ := h
  rw [Vals.ref1 r]
  obtain ⟨its, n, rv, ho, _⟩ := I.lst ha
  obtain ⟨as, nas, hr⟩ := reads_row I hp rv
  have R : Reads s.heap (.ref a) (.list ds) (a :: as) := Reads.list ho rfl rfl (by simpa using hr)
  refine repr_of_reads' R hs (fun _ => by simp [nas, na.symm]) gd (by omega) (fun _ _ z => z) (fun h' u tk hk => ?_) hz
  exact ⟨.str _, H, I.kept hk, ⟨_, rfl⟩, q⟩
end Grd

/-! a star in targets: a, .., *r = a tuple or a list -/
namespace Grd
open PySem L2
section
open PyProof.Rows
variable {prog : Program} {w : World} {A : Around} {E : Value → Shared → Prop} {s : Shared}
theorem star_tup {t : Addr} {vs : List Value} {n : Nat} {Q : List Value → Shared → Prop} (ht : IsTup s.heap t vs.toArray) (hh : A.handled = none) (hn : n ≤ vs.length) (hz : vs.length ≤ sizeLine)
    (h : ∀ (h' : Heap) (tk : Nat), (∀ b o, s.heap.get? b = some o → h'.get? b = some o) → Q (vs.take n ++ [.ref h'.objs.size]) { s with heap := h'.push (seqObj "list" (vs.drop n).toArray 0), toks := tk }) :
    wpAny (model prog w) A (unpackItems (.ref t) (n + 1) (some n)) Q E s := by
  have ne0 : t ≠ s.heap.objs.size := by obtain ⟨o, ho, _⟩ := ht; exact Nat.ne_of_lt (Heap.lt_size ho)
  have sz0 : vs.toArray.size = vs.length := by simp
  unfold unpackItems
  refine wpAny_bind ?_
  unfold notIterableAtAll
  refine wpAny_bind (wpAny_specialOf ht.typeIs slot_tuple_iter.lookup (wpAny_pure ?_))
  rw [if_neg (by decide)]
  refine wpAny_bind (wpAny_holding (iter_tuple ht ?_))
  refine wpAny_bind (wpAny_holding (draw_tuple ne0 n 0 _ _ ⟨_, Heap.get?_push_size _ rfl, rfl, rfl⟩ (ht.push _) (by omega) fun h1 it1 sb1 => ?_))
  have ht1 : IsTup h1 t vs.toArray := (ht.push _).extBut sb1.extBut ne0
  rw [Nat.zero_add] at it1
  have it1' := it1
  obtain ⟨oi, hoi, _⟩ := it1'
  have ht1' := ht1
  obtain ⟨ol, hol, _⟩ := ht1'
  have fl : (vs.take n).length = n := by rw [List.length_take]; omega
  have e0 : (vs.toArray.toList.drop 0).take n = vs.take n := by simp
  rw [e0, if_neg (show ¬ ((vs.take n).length < n) by rw [fl]; omega)]
  refine wpAny_bind (wpAny_holding (PySem.W.kun_collect (s := { s with heap := h1 }) (T := "tuple_iterator") (.inr (.inr (.inr rfl))) (Walks.tuple (A := A.in1) hh s.heap.objs.size t ne0 vs.toArray) (fun j u st => st.1.typeIs) (k := n) (by omega) ⟨it1, ht1⟩ (Heap.lt_size hoi) (Heap.lt_size hol) (fun h2 tk kp => ?_) (by omega)))
  have e1 : vs.toArray.toList.drop n = vs.drop n := by simp
  rw [e1]
  show wpAny _ _ (if (vs.drop n).length < n + 1 - 1 - n then _ else _) _ _ _
  rw [if_neg (by omega)]
  have e2 : (vs.drop n).length - (n + 1 - 1 - n) = (vs.drop n).length := by omega
  show wpAny _ _ (newList ((vs.drop n).take ((vs.drop n).length - (n + 1 - 1 - n))) >>= fun d => pure (vs.take n ++ [d] ++ (vs.drop n).drop ((vs.drop n).length - (n + 1 - 1 - n)))) _ _ _
  rw [e2, List.take_length, List.drop_length]
  refine wpAny_bind (wpAny_newList (wpAny_pure ?_))
  rw [List.append_nil]
  exact h h2 tk fun b o e => kp b o (Nat.ne_of_lt (Heap.lt_size e)) (sb1.extBut b o (Nat.ne_of_lt (Heap.lt_size e)) (Heap.get?_push_of_some _ e))
end
/-- a, .., *r = a tuple: r a new list -/
def gStar (K : PySem.W.Frag) (n : Nat) (t : TGs) : TG := fun v σ H Q => ∃ a xs, v = .ref a ∧ SqT K H a xs ∧ n ≤ xs.length ∧ ∀ p, H p = none → t (xs.take n ++ [.ref p]) σ (upd H p (.lst (xs.drop n))) Q
section
variable {X : Cx}
theorem pgs_star {e : Expr} {p : Pos} {t : TG} (h1 : PG X e t) (hs : (assignEach [.Starred e p] X.env).map (·.2) = [assign e X.env] := by rfl) : PGs X [.Starred e p] (gCons t gNil) := by
  refine ⟨fun pins s σ H vs us Q I r h => ?_⟩
  obtain ⟨v, vr, e1, h⟩ := h
  subst e1
  cases r with
  | cons r rr =>
    rw [hs]
    refine PyProof.Rows.assignInOrder_cons (thn (h1.run pins s σ H _ _ _ I r h) fun _ s1 ⟨σ1, H1, I1, q1⟩ => ?_)
    exact PyProof.Rows.assignInOrder_nil ⟨σ1, H1, I1, q1.2⟩
theorem pg_star {es : List Expr} {k : Nat} {t : TGs} {n : Nat} {pos : Pos} (hc : X.calm = true) (h : PGs X es t) (hn : (assignEach es X.env).length = n + 1 := by rfl) (hst : (assignEach es X.env).findIdx? (·.1) = some n := by rfl) : PG X (.Tuple es k pos) (gStar X.K n t) := by
  refine ⟨fun pins s σ H v u Q I r hw => ?_⟩
  obtain ⟨a, xs, e1, hq, hl, hw⟩ := hw
  subst e1
  cases r
  obtain ⟨its, rv, ht, hz⟩ := I.tuple hq
  rw [PyProof.Rows.assign_Tuple]
  refine wpAny_bind (wpAny_standAt ?_)
  unfold unpack
  rw [hn, hst]
  have ln := rv.length
  refine wpAny_bind (wpAny_holding (star_tup ht (I.ok.hd hc) (by omega) (by omega) fun h' tk kp => ?_))
  have I1 : Inv X pins σ H { s with heap := h', toks := tk } := I.kept (t' := tk) kp
  have rd : Vals (xs.drop n) (its.drop n) := rv.drop n
  have hf : H h'.objs.size = none := I1.hok.fresh (Nat.le_refl _)
  have I2 := I1.laid (t' := tk) (h' := h'.push (PyProof.Rows.seqObj "list" (its.drop n).toArray 0)) (a := h'.objs.size) (o := .lst (xs.drop n)) (fun b u e => Heap.get?_push_of_some _ e) (Nat.le_refl _) ⟨by rw [List.length_drop]; omega, its.drop n, 0, rd, Heap.get?_push_size _ rfl⟩
  exact h.run pins _ σ _ _ _ Q I2 ((rv.take n).append (.cons (a := V.ref h'.objs.size) (b := Value.ref h'.objs.size) rfl .nil)) (hw _ hf)
end
end Grd

/-! max(xs, default=d), sum(xs, start=c) -/
namespace Grd
open PySem L2 PyProof.Rows
section
variable {prog : Program} {w : World} {A : Around} {E : Value → Shared → Prop} {s : Shared} {l : Addr} {its : List Value} {ns : List Int} {Q : Value → Shared → Prop}
theorem maxD_raw {d : Value} (hh : A.handled = none) (hl : s.heap.IsList l its.toArray) (hi : IntsAre its ns)
    (h0 : ns = [] → ∀ (h' : Heap) (tk : Nat), (∀ b o, s.heap.get? b = some o → h'.get? b = some o) → Q d { s with heap := h', toks := tk })
    (h : ∀ (h' : Heap) (tk : Nat) (M : Int) (t' : Tok), (∀ b o, s.heap.get? b = some o → h'.get? b = some o) → M ∈ ns → (∀ a, a ∈ ns → a ≤ M) → Q (.int M t') { s with heap := h', toks := tk }) :
    wpAny (model prog w) A (call (.builtin "max") [.ref l] [(Str.ofString "default", d)]) Q E s := by
  obtain ⟨xs, e⟩ := hi.allInts.items
  have hn : numsOf (intItems xs).toList = ns := by rw [← e]; exact hi.numsOf
  rw [nums_intItems] at hn
  subst hn
  rw [e] at hl
  refine call_max_walkD (iter_intList hl fun s2 es st hfp hlI => ?_)
  subst es
  have fin : ∀ {s' : Shared} {R : Shared → Prop}, Moved [s.heap.objs.size] (fun a b => b = a) { s with heap := s.heap.push { cls := .type "list_iterator", data := .fields #[.ref l, .int 0 0] } } s' →
      (∀ (h' : Heap) (tk : Nat), (∀ b o, s.heap.get? b = some o → h'.get? b = some o) → R { s with heap := h', toks := tk }) → R s' := by
    intro s' R hm hR
    obtain ⟨h', g', d', t', o'⟩ := s'
    obtain ⟨m1, m2, m3, m4, _⟩ := hm
    have m2 : g' = s.gens := m2
    have m3 : d' = s.drawn := m3
    have m4 : o' = s.os := m4
    subst m2 m3 m4
    exact hR h' t' (old_kept fun b o hb eb => m1 b o hb eb)
  refine ⟨_, _, _, _, _, _, _, s.heap, fun i j => decide (numAt xs i > numAt xs j), rfl, (Walks.list (A := A.in1) hh _ l hlI (intItems xs)).toS, st, hfp, fun b o eb hb => ?_, fun b o eb => Heap.get?_push_of_some _ eb, fun hn s' hm => ?_, fun hn => ⟨?_, fun v s' hv hm => ?_⟩⟩
  · rw [List.mem_singleton] at hb
    rw [hb] at eb
    exact absurd (Heap.lt_size eb) (Nat.lt_irrefl _)
  · refine fin (R := Q d) hm (h0 ?_)
    have z : xs.size = 0 := by simpa [intItems] using hn
    have z2 : xs = #[] := Array.eq_empty_of_size_eq_zero z
    rw [z2]
    rfl
  · intro i j vi vj s1 Q1 E1 _ hi hj hq
    exact CmpOf.ints_gt (numAt xs) (fun _ _ => intItems_at) i j vi vj s1 Q1 E1 hi hj hq
  · obtain ⟨t, rfl⟩ := intItems_at hv
    have sz : (intItems xs).size = xs.size := by simp [intItems]
    rw [sz] at hn ⊢
    obtain ⟨h1, h2⟩ := argBest_gt (numAt xs) (xs.size - 1)
    refine fin (R := fun s' => Q _ s') hm fun h' tk kp => h h' tk _ t kp ?_ fun a ha => ?_
    · rw [numAt_eq]; exact PySem.getD_mem (by rw [List.length_map, Array.length_toList]; omega)
    · obtain ⟨j, hj, rfl⟩ := mem_getD ha
      rw [List.length_map, Array.length_toList] at hj
      rw [← numAt_eq]; exact h2 j (by omega)

/-! sum from c on: the walk with one more ahead -/
def upP (c : Int) (P : Nat → Value → Prop) : Nat → Value → Prop
  | 0, v => ∃ t, v = .int c t
  | i + 1, v => P i v
def upS (St : Nat → Heap → Prop) : Nat → Heap → Prop
  | 0, _ => False
  | i + 1, h => St i h
def upV (c : Int) (val : Nat → Int) : Nat → Int
  | 0 => c
  | i + 1 => val i
theorem up_sum (c : Int) (val : Nat → Int) : ∀ n, preSum (upV c val) (n + 1) = c + preSum val n
  | 0 => by simp [preSum, upV]
  | n + 1 => by
    rw [preSum, up_sum c val n]
    show c + preSum val n + val n = c + (preSum val n + val n)
    omega
theorem up_walk {I : Addr} {fp wr : List Addr} {n : Nat} {P : Nat → Value → Prop} {St : Nat → Heap → Prop} (c : Int) (W : Walks prog w A I fp wr n P St) : Walks prog w A I fp wr (n + 1) (upP c P) (upS St) where
  sub := W.sub
  frame := fun i h h' st e => match i, st with
    | i + 1, st => W.frame i h h' st e
  item := fun i s Q E hi st hQ => match i, hi, st, hQ with
    | i + 1, hi, st, hQ => W.item i s Q E (by omega) st fun v h' tk hp hst hb => hQ v h' tk hp hst hb
  done := fun s Q E st hQ => W.done s Q E st hQ
  self := fun i s Q E st hQ => match i, st with
    | i + 1, st => W.self i s Q E st hQ
theorem args_sum_start (a c : Value) : argsOk "sum" ⟨[a], [(Str.ofString "start", c)]⟩ := by unfold argsOk; kernel_rfl
theorem sumS_raw {c : Int} {t0 : Tok} (hh : A.handled = none) (hl : s.heap.IsList l its.toArray) (hi : IntsAre its ns)
    (h : ∀ (h' : Heap) (tk : Nat) (t' : Tok), (∀ b o, s.heap.get? b = some o → h'.get? b = some o) → Q (.int (c + ns.sum) t') { s with heap := h', toks := tk }) :
    wpAny (model prog w) A (call (.builtin "sum") [.ref l] [(Str.ofString "start", .int c t0)]) Q E s := by
  obtain ⟨xs, e⟩ := hi.allInts.items
  have hn : numsOf (intItems xs).toList = ns := by rw [← e]; exact hi.numsOf
  rw [nums_intItems] at hn
  rw [e] at hl
  refine kmk_tree F.kind_sum F.plain_sum F.entry_sum (args_sum_start _ _) ?_
  unfold Builtin.«sum»
  rw [if_neg (by show ¬ (1 + 1 > 2); decide)]
  refine wpAny_bind (wpAny_of_eq (show Builtin.Builtins.bindParams "sum" ["start"] 0 ⟨[], [(Str.ofString "start", .int c t0)]⟩ = pure [some (.int c t0)] from rfl) ?_)
  refine wpAny_bind (iter_intList hl fun s2 es st hfp hlI => ?_)
  have rest : ∀ (t : Tok) (stage : Int) (tk : Nat), (stage = 0 ∨ stage = 2) → wpAny (model prog w) A.in1 (do
      for (ty, what, hint) in [("str", "strings", "''"), ("bytes", "bytes", "b''"), ("bytearray", "bytearray", "b''")] do
        if ← isInstance (Value.int c t) (.type ty) then
          rule "sum.start-refused"; raiseError "TypeError" s!"sum() can't sum {what} [use {hint}.join(seq) instead]"
      again (.builtin "sum.loop" ⟨[.ref s.heap.objs.size, ← newList [.int c t], rawInt stage, rawInt 0], []⟩) : Sem PySem.Fin) (fun fin s' => match fin with
      | .done f => (match (Except.ok f : Result) with | .ok (.ret v) => Q v s' | .ok _ => False | .error e => E e s')
      | .again c' => c'.quiet = true ∧ codeAny (model prog w) A c' (fun r s' => match r with | .ok (.ret v) => Q v s' | .ok _ => False | .error e => E e s') s') E { s2 with toks := tk } := by
    intro t stage tk hst
    simp only [List.forIn_cons, List.forIn_nil]
    refine wpAny_bind (wpAny_bind (wpAny_bind (wpAny_isInstance (T := "int") (b := false) (typeIs_int _ _ _) PySem.sub_int_str ?_))); rw [if_neg (by decide)]
    refine wpAny_pure (wpAny_bind (wpAny_bind (wpAny_isInstance (T := "int") (b := false) (typeIs_int _ _ _) PySem.sub_int_bytes ?_))); rw [if_neg (by decide)]
    refine wpAny_pure (wpAny_bind (wpAny_bind (wpAny_isInstance (T := "int") (b := false) (typeIs_int _ _ _) PySem.sub_int_bytearray ?_))); rw [if_neg (by decide)]
    refine wpAny_pure (wpAny_pure (wpAny_bind (wpAny_newObj_type ?_)))
    have W := up_walk c (Walks.list (prog := prog) (w := w) (A := A.in1) hh s.heap.objs.size l hlI (intItems xs))
    have hSf : s2.heap.objs.size ∉ [s.heap.objs.size, l] := fun hm => Nat.lt_irrefl _ (hfp _ hm)
    refine wpAny_pure ⟨plainId_quiet F.plain_sum_loop _, codeAny_sum_loopG W (upV c (numAt xs)) (fun i v hv => ?_) s2.heap.objs.size hSf _ 1 _ t 0 stage hst rfl (by omega) (W.frame 1 _ _ st fun b _ o eb => Heap.get?_push_of_some _ eb) ?_ fun h' tk' t' hk => ?_⟩
    · match i, hv with
      | 0, hv => exact hv
      | i + 1, hv => exact intItems_at hv
    · have q : preSum (upV c (numAt xs)) 1 = c := by simp [preSum, upV]
      rw [q]
      exact Heap.get?_push_size _ rfl
    · have sz : (intItems xs).size = xs.size := by simp [intItems]
      rw [up_sum, sz, preSum_eq, List.take_of_length_le (by simp), hn]
      subst es
      exact h h' tk' t' (old_kept fun b o hb eb => hk b o hb (fun z => by rw [z] at eb; exact absurd (Heap.lt_size eb) (Nat.lt_irrefl _)) (Heap.get?_push_of_some _ eb))
  have e1 : s2.toks = s2.toks := rfl
  dsimp only
  split
  · refine wpAny_bind (wpAny_rule (wpAny_bind (wpAny_mkInt (wpAny_bind (wpAny_pure ?_)))))
    exact rest _ 0 _ (.inl rfl)
  · refine wpAny_bind (wpAny_pure ?_)
    exact rest _ 2 _ (.inr rfl)
end
end Grd

/-! keywords; s.rpartition(t); max(xs, default=d), sum(xs, start=c) as hand rules -/
namespace Grd
open PySem L2 PyProof.Rows
section
variable {X : Cx}
/-- max(xs, default=d) -/
theorem crK_max (hc : X.calm = true) : CallRK X (.builtin "max") [Str.ofString "default"] (fun vs zs H Q => ∃ (a : Addr) (ns : List Int) (d : Int), vs = [V.ref a] ∧ zs = [V.int d] ∧ SqL X.K H a (ns.map V.int) ∧
    (ns = [] → Q (.int d) H) ∧ ∀ m, m ∈ ns → (∀ y, y ∈ ns → y ≤ m) → Q (.int m) H) := by
  intro pins s σ H vs zs us ws Q I r rz h
  obtain ⟨a, ns, d, rfl, rfl, hs, q0, q⟩ := h
  obtain ⟨its, rv, hl, _⟩ := I.list hs
  obtain rfl := Vals.ref1 r
  obtain ⟨w1, rfl, t1, e1⟩ := vals1 rz
  subst e1
  exact maxD_raw (I.ok.hd hc) hl.isList rv.ints (fun e h' tk kp => ⟨.int d, H, I.kept kp, ⟨_, rfl⟩, q0 e⟩) fun h' tk m t' kp h1 h2 => ⟨.int m, H, I.kept kp, ⟨_, rfl⟩, q m h1 h2⟩
/-- sum(xs, start=c) -/
theorem crK_sum (hc : X.calm = true) : CallRK X (.builtin "sum") [Str.ofString "start"] (fun vs zs H Q => ∃ (a : Addr) (ns : List Int) (c : Int), vs = [V.ref a] ∧ zs = [V.int c] ∧ SqL X.K H a (ns.map V.int) ∧ Q (.int (c + ns.sum)) H) := by
  intro pins s σ H vs zs us ws Q I r rz h
  obtain ⟨a, ns, d, rfl, rfl, hs, q⟩ := h
  obtain ⟨its, rv, hl, _⟩ := I.list hs
  obtain rfl := Vals.ref1 r
  obtain ⟨w1, rfl, t1, e1⟩ := vals1 rz
  subst e1
  exact sumS_raw (I.ok.hd hc) hl.isList rv.ints fun h' tk t' kp => ⟨.int _, H, I.kept kp, ⟨_, rfl⟩, q⟩
/-- x.rpartition(sep) -/
def rpart (a b : Str) : Str × Str × Str := match Builtin.Str.lastOccurrence a b 0 a.length with
  | some i => (Builtin.Str.strSub a 0 i, b, Builtin.Str.strSub a (i + b.length) a.length)
  | none => (Str.empty, Str.empty, a)
def rRpart : V → List V → Hp → VK → Prop := fun x xs H Q => ∃ a b, x = .str a ∧ xs = [.str b] ∧ (b.length == 0) = false ∧ a.length ≤ sizeLine ∧
    ∀ p, H p = none → Q (.ref p) (upd H p (.tup [.str (rpart a b).1, .str (rpart a b).2.1, .str (rpart a b).2.2]))
theorem mt_rpart : MtR X "str.rpartition" rRpart := by
  intro pins s σ H x xs v us Q I rx rs h
  obtain ⟨a, b, rfl, rfl, hb, hz, h⟩ := h
  obtain ⟨t, rfl⟩ := rx
  cases rs with
  | cons r1 rs =>
    cases rs
    obtain ⟨u, rfl⟩ := r1
    refine call_meets PySem.F.slot_str_rpartition (typeIs_str _ _ _) PySem.F.entry_str_rpartition (PySem.F.args_str_rpartition_2 _ _) (meets_str_rpartition a b t u hb hz) ?_
    unfold rpart at h
    revert h
    cases Builtin.Str.lastOccurrence a b 0 a.length with
    | none => intro h; exact laid_parts I h
    | some i => intro h; exact laid_parts I h
theorem pe_rpart {o e : Expr} {to te : TE} {apos pos : Pos} (ho : PE X o to) (he : PE X e te) (hs : starEach [e] X.env = [(false, eval e X.env)] := by rfl) (hbase : attributeBase o "rpartition" X.env (eval o X.env) = eval o X.env := by rfl) (hline : (apos.endLine == pos.line) = true := by rfl) :
    PE X (.Call (.Attribute o "rpartition" apos) [e] [] pos) (tM1 rRpart to te) := pe_m1 PySem.F.slot_str_rpartition PySem.F.type_str_rpartition mt_rpart ho he hs hbase hline
end
section
variable {X : Cx} {CX : CXT} {k : Nat} {f : Addr} {fd : FuncData} {ps ks : List Str} {sp : Sp} {E : XK} {x : Str} {p pos : Pos} {e : Expr} {es : List Expr} {kws : List Keyword} {t tk : TA}
  {g : List Value → List Value → List Value} {gV : List V → List V → List V}
/-- f(e, .., k = v, ..), where no repr goes on -/
theorem pe_callGK (F : Fn X.prog X.w X.K X.mg X.base CX k f fd ps sp) (gd : X.A.guards = some []) (hr : Room k X.A) (hg : Gl X x) (hm : X.mg x = some (.ref f)) (hk : PySem.W.keepIn X.K (.ref f) = true) (hb : KBinds X.K fd ps ks g gV) (hx : Passes CX X E)
    (ha : PA X (e :: es) t) (hkw : PK X kws tk) (hall : (backToKw pos (keywordEach kws X.env)).all (·.1.isSome) = true := by rfl) (hks : (backToKw pos (keywordEach kws X.env)).filterMap (·.1) = ks := by rfl)
    (hdb : (x == ("__debug__" : Str)) = false := by decide) (he : starEach (e :: es) X.env = (false, eval e X.env) :: starEach es X.env := by rfl)
    (hpl : ((backTo pos (starEach (e :: es) X.env)).any (·.1) || (backToKw pos (keywordEach kws X.env)).any (·.1.isNone)) = false := by rfl) :
    PE X (.Call (.Name x p) (e :: es) kws pos) (tCallK sp gV E t tk) := by
  constructor
  intro pins s σ H Q I h
  refine wpAny_Call_Name_kw (ld_glob I hg hm ?_ hdb)
  have z := thn (Q' := fun us s1 => wpAny (model X.prog X.w) X.A (evalAll ((backToKw pos (keywordEach kws X.env)).map (·.2))) (fun ws s2 => X.K.In s2.heap ∧ wpAny (model X.prog X.w) X.A (call (.ref f) us (ks.zip ws)) (EP X pins σ Q) X.xe s2) X.xe s1)
    (ha.run pos pins s σ H _ I h) (by
      rintro us s1 ⟨vs, H1, I1, r, q⟩
      refine thn (hkw.run pos pins s1 σ H1 _ I1 q) ?_
      rintro ws s2 ⟨zs, H2, I2, rz, q2⟩
      refine ⟨I2.kIn, ?_⟩
      have r2 := hb.rel r rz
      have ll : (g us ws).length = ps.length := r2.length.symm.trans (F.len _ _ _ _ q2)
      refine wpAny_call (codeAny_mono (F.run X.A X.stack s2 H2 ⟨us, ks.zip ws⟩ (g us ws) (gV vs zs) Q E gd hr I2.env0 (hb.to s2 us ws I2.kIn ll) r2 q2) ?_)
      intro rr s' hq
      match rr, hq with
      | .error e, hq => exact hx pins σ H2 s2 e s' I2 hq
      | .ok (.ret u), hq => exact I2.after hq
      | .ok .next, hq => exact hq.elim
      | .ok .brk, hq => exact hq.elim
      | .ok .cont, hq => exact hq.elim)
  refine PySem.W.callWith_KW (h₀ := X.base) I.ok.mod.kin hk hall ?_ hpl he
  rw [hks]
  exact z
end
/-! xs[::2] of three -/
def tStep2 (K : PySem.W.Frag) (te : TE) : TE := fun σ H Q => te σ H fun x H1 => ∃ a x0 x1 x2, x = .ref a ∧ SqL K H1 a [x0, x1, x2] ∧ ∀ p, H1 p = none → Q (.ref p) (upd H1 p (.lst [x0, x2]))
theorem pe_step2 {X : Cx} {e : Expr} {te : TE} {k : Nat} {p1 p3 pos : Pos} (he : PE X e te) : PE X (.Subscript e (.Slice none none (some (.Constant (.int 2) k p1)) p3) pos) (tStep2 X.K te) := by
  constructor
  intro pins s σ H Q I h
  refine Subscript_ (thn (he.run pins s σ H _ I h) ?_)
  rintro v s1 ⟨x, H1, I1, r1, a, x0, x1, x2, rfl, hx, q⟩
  cases r1
  have hst : PO X (some (.Constant (.int 2) k p1)) (tPart (tC (.int 2))) := po_some pe_int
  refine wpAny_Slice (thn (po_none.run pins s1 σ H1 (fun o G => o = none ∧ G = H1) I1 ⟨rfl, rfl⟩) ?_)
  rintro vl s2 ⟨l, G2, I2, pl, rfl, rfl⟩
  refine thn (po_none.run pins s2 σ G2 (fun o G => o = none ∧ G = G2) I2 ⟨rfl, rfl⟩) ?_
  rintro vu s3 ⟨u, G3, I3, pu, rfl, rfl⟩
  refine thn (hst.run pins s3 σ G3 (fun o G => o = some 2 ∧ G = G3) I3 ⟨2, rfl, rfl, rfl⟩) ?_
  rintro vs s4 ⟨o, G4, I4, ps, rfl, rfl⟩
  have I5 : Inv X pins σ G4 { s4 with heap := s4.heap.push { cls := .type "slice", data := .fields #[vl, vu, vs] } } := I4.kept (t' := s4.toks) fun b ob z => Heap.get?_push_of_some _ z
  obtain ⟨its, r, ht, hz⟩ := I5.list hx
  refine tail_any (ops := [.ref a, .ref s4.heap.objs.size]) ht.isList.typeIs (PySem.slot_list_getitem.lookup) ?_ (by with_unfolding_all rfl)
  have ln := r.length
  refine wpAny_getItem_list_slice ht.isList (Heap.IsSliceOf.new _ vl vu vs) pl pu ps (by decide) ?_ (by rw [List.size_toArray, ← ln]; exact hz)
  cases r with
  | @cons _ u0 _ _ r0 r =>
    cases r with
    | @cons _ u1 _ _ r1 r =>
      cases r with
      | @cons _ u2 _ _ r2 r =>
        cases r
        have e0 : sliceRange (sliceBounds none none (some 2) 3).1 (sliceBounds none none (some 2) 3).2.1 (sliceBounds none none (some 2) 3).2.2 = [0, 2] := by decide +kernel
        have e : slicePick (List.toArray [u0, u1, u2]) none none (some 2) = #[u0, u2] := by
          unfold slicePick
          rw [show (List.toArray [u0, u1, u2]).size = 3 from rfl, e0]
          rfl
        rw [e]
        refine ⟨.ref _, _, I5.laid (t' := s4.toks) (o := .lst [x0, x2]) (fun b ob z => Heap.get?_push_of_some _ z) (Nat.le_refl _) ?_, rfl, q _ (I5.hok.fresh (Nat.le_refl _))⟩
        exact ⟨by show 2 ≤ sizeLine; decide, [u0, u2], 0, .cons r0 (.cons r2 .nil), Heap.get?_push_size _ rfl⟩
end Grd

/-! sorted of a tuple of texts -/
namespace Grd
open PySem L2
open PyProof.Rows (sortedS)
section
open PyProof.Rows
variable {prog : Program} {w : World} {A : Around} {E : Value → Shared → Prop} {s : Shared}
theorem collectT {t : Addr} {vs : List Value} {Q : List Value → Shared → Prop} (ht : IsTup s.heap t vs.toArray) (hz : vs.length ≤ sizeLine)
    (h : Q vs { s with heap := (s.heap.push (seqObj "list" #[] 0)).update s.heap.objs.size (Obj.mapSeq (· ++ vs.toArray)) }) :
    wpAny (model prog w) A (collect (.ref t)) Q E s := by
  obtain ⟨o, ho, hc, n, hd⟩ := id ht
  have new : (s.heap.push (seqObj "list" #[] 0)).get? s.heap.objs.size = some (seqObj "list" #[] 0) := Heap.get?_push_size _ rfl
  have old : (s.heap.push (seqObj "list" #[] 0)).get? t = some o := Heap.get?_push_of_some _ ho
  have e0 : ((#[] : Array Value) ++ vs.toArray).toList = vs := by simp
  unfold collect
  refine wpAny_bind (wpAny_runValue (codeAny_builtin entry_proto_collect' ?_))
  show wpAny _ _ (do again (.builtin "list.__iadd__" ⟨[← newList [], .ref t], []⟩)) _ _ s
  refine wpAny_bind (wpAny_newList (wpAny_pure ⟨Code.quiet_builtin _ (by decide +kernel), ?_⟩))
  refine codeAny_builtin entry_list_iadd' ?_
  show wpAny _ _ (Builtin.List.listExtendWith (.ref s.heap.objs.size) (.ref t) (.ref s.heap.objs.size)) _ _
    { s with heap := s.heap.push (seqObj "list" #[] 0) }
  unfold Builtin.List.listExtendWith
  refine wpAny_bind (wpAny_typeOf (T := "tuple") ⟨o, old, hc⟩ ?_)
  have tt : (Value.type "tuple" == Value.type "tuple") = true := by rfl
  rw [if_pos (by rw [tt]; simp)]
  refine wpAny_bind (listItems_at old hd ?_)
  refine wpAny_bind (listItems_at (xs := #[]) (n := 0) new rfl ?_)
  rw [if_neg (by simp)]
  have room : (#[] ++ vs.toArray : Array Value).size ≤ sizeLine + 1 := by
    simp only [Array.size_append, List.size_toArray, List.length_nil]
    omega
  refine wpAny_bind (listUpdate_at (xs := #[]) (n := 0) new rfl ?_ (Nat.zero_le _) room)
  refine wpAny_pure ?_
  refine wpAny_bind (wpAny_load (get?_update_seq new _) ?_)
  show wpAny _ _ (pure ((#[] : Array Value) ++ vs.toArray).toList) Q E _
  rw [e0]
  exact wpAny_pure h
theorem sortT {t : Addr} {vs : List Value} {ss : List Str} {Q : Value → Shared → Prop} (ht : IsTup s.heap t vs.toArray) (hS : StrsAre vs ss) (h64 : vs.length < 64)
    (h : ∀ (out : Array Value) (ss' : List Str), StrsAre out.toList ss' → ss'.Perm ss → sortedS ss' = true →
      Q (.ref (s.heap.objs.size + 1)) { s with heap := sortedAll s.heap vs out }) :
    wpAny (model prog w) A (call (.builtin "sorted") [.ref t]) Q E s := by
  have hz : vs.length ≤ sizeLine := small64 h64
  refine Calls.call_function_entry kind_sorted plain_sorted entry_sorted (args_sorted1 _) ?_
  unfold Builtin.«sorted»
  refine wpAny_bind (m := checkCount "sorted" 1 1 _) (wpAny_pure (wpAny_bind (collectT ht hz ?_)))
  refine wpAny_bind (wpAny_newList ?_)
  generalize eh : (s.heap.push (seqObj "list" #[] 0)).update s.heap.objs.size (Obj.mapSeq (· ++ vs.toArray)) = h1
  have sz : h1.objs.size = s.heap.objs.size + 1 := by rw [← eh, Heap.size_update, size_push']
  have at1 : (h1.push (seqObj "list" vs.toArray 0)).get? (s.heap.objs.size + 1) = some (seqObj "list" vs.toArray 0) := by
    rw [← sz]
    exact Heap.get?_push_size _ rfl
  show wpAny _ _ _ _ _ { s with heap := h1.push (seqObj "list" vs.toArray 0) }
  rw [sz]
  refine wpAny_bind (wpAny_holding (wpAny_call_entry slot_list_sort ⟨_, at1, rfl⟩ entry_list_sort (list_sort_treeK strKind_oneLt at1 hS.keysOf
    (fun v₁ v₂ rest e => keyKind_strs (by rw [← e]; exact hS)) h64 fun st' a1 a2 => ⟨_, rfl, ?_⟩) (args_list_sort _)))
  obtain ⟨ss', q1, q2, q3⟩ := sorted_out_str hS a1 a2
  have fin := h _ ss' q1 q2 q3
  unfold sortedAll at fin
  rw [eh] at fin
  exact wpAny_pure ⟨_, rfl, fin⟩
end
/-- sorted(t), t a tuple of texts, or a list of such -/
def rSortedTS (K : PySem.W.Frag) : List V → Hp → VK → Prop := fun vs H Q => ∃ (a : Addr) (xs : List Str), vs = [V.ref a] ∧ SqT K H a (xs.map V.str) ∧ xs.length < 64 ∧
  ∀ (ys : List Str) (p : Addr), ys.Perm xs → sortedS ys = true → H p = none → Q (.ref p) (upd H p (.lst (ys.map V.str)))
theorem cr_sortedTS {X : Cx} : CallR X (.builtin "sorted") (rSortedTS X.K) := by
  intro pins s σ H vs us Q I r h
  obtain ⟨a, xs, rfl, hs, h64, q⟩ := h
  obtain ⟨its, rv, hl, _⟩ := I.tuple hs
  rw [Vals.ref1 r]
  have n0 : xs.length = its.length := by have z := rv.length; rw [List.length_map] at z; exact z
  refine sortT hl rv.strs (by rw [← n0]; exact h64) ?_
  intro out ys h1 h2 h3
  obtain ⟨ep, he⟩ := PyProof.Rows.sortedAll_at s.heap its out
  have lz : (ys.map V.str).length ≤ sizeLine := by
    rw [List.length_map, h2.length_eq]
    exact small64 h64
  have new : H (s.heap.objs.size + 1) = none := I.hok.fresh (Nat.le_succ _)
  refine ⟨.ref (s.heap.objs.size + 1), upd H (s.heap.objs.size + 1) (.lst (ys.map V.str)), ?_, rfl, q ys _ h2 h3 new⟩
  exact I.laid (t' := s.toks) (fun _ _ => PyProof.Rows.sortedAll_old) (Nat.le_succ _) ⟨lz, out.toList, ep, vals_of_strs h1, he⟩
end Grd

/-! name = {k: v for ..} on one line, the name a local -/
namespace Grd
open PySem L2
section
variable {X : Cx}
theorem ps_setDc {i : Nat} {y : Str} {py : Pos} {kx vx tg iter : Expr} {ifs : List Expr} {scope : Scope} {own : List (Str × Nat)} {pos spos : Pos} {wi : TI} {g : TG} {tt : TT} {tk tv : TE}
    (hc : X.calm = true) (hN : X.N.Nodup) (hy : X.N[i]? = some y) (hyl : X.env.scope.names.lookup y = some .local)
    (hsw : swapsWith (.DictComp kx vx [⟨tg, iter, ifs, 0⟩] scope pos) (some (.Name y py)) spos.line X.env = pure true)
    (hi : PI X tg iter wi) (ok : BlkOk X.N X.env.scope scope own)
    (hg : ∀ (s : Shared) (H : Hp) (C : Addr) (cl : List (Str × Addr)) (fp : List Addr), PG (X.blk s H scope (compEnvC scope cl C X.env) fp) tg g)
    (ht : ∀ (s : Shared) (H : Hp) (C : Addr) (cl : List (Str × Addr)) (fp : List Addr), PTs (X.blk s H scope (compEnvC scope cl C X.env) fp) ifs tt)
    (hk : ∀ (s : Shared) (H : Hp) (C : Addr) (cl : List (Str × Addr)) (fp : List Addr), PE (X.blk s H scope (compEnvC scope cl C X.env) fp) kx tk)
    (he : ∀ (s : Shared) (H : Hp) (C : Addr) (cl : List (Str × Addr)) (fp : List Addr), PE (X.blk s H scope (compEnvC scope cl C X.env) fp) vx tv)
    (hs : ∀ x, foldedSetIterable iter X.env x = pure x := by intro _; rfl) :
    PS X (.Assign [.Name y py] (.DictComp kx vx [⟨tg, iter, ifs, 0⟩] scope pos) spos) (tAsg (tDc wi g tt tk tv (own.map (·.2))) (gName i)) := by
  constructor
  intro pins s σ H D I h
  have hh : tDc wi g tt tk tv (own.map (·.2)) σ H (fun x H1 => gName i x σ H1 D.nx) := h
  rw [exec_Assign_Name_used _ _ _ _ hsw]
  refine wpAny_bind (wpAny_standAt (wpAny_bind ?_))
  show wpAny _ X.A (do
    let _ ← comprehension (.DictComp kx vx [⟨tg, iter, ifs, 0⟩] scope pos) scope X.env (firstIterPos [⟨tg, iter, ifs, 0⟩] pos) newDict false (eval iter X.env) (some (assign (.Name y py) X.env))) _ _ s
  refine wpAny_bind (thn (Q := fun _ s' => SP X pins D .next s') ?_ fun _ s' hq => wpAny_pure (wpAny_pure hq))
  refine dc_core hc hN I hi ok hg ht hk he hs hh ?_
  intro L C s' m H' I' q hn f
  show wpAny _ _ (assign (.Name y py) X.env (.ref L)) _ _ _
  refine wpAny_assign_Name (store_ok2 (v := V.ref L) I' hN hy (.inl hyl) rfl ?_ (.inr hyl))
  rintro s2 I2 ⟨a, sb, ha⟩
  obtain ⟨f0, f1, f2, f3, f4, f5⟩ := f
  have nCa : C ≠ a := by
    cases ha with
    | inl z => rw [z]; exact f1
    | inr z => exact fun e => f4 y a z e.symm
  refine ⟨m, hn.sameBut sb nCa, ?_⟩
  intro h3 sb3
  have J := I2.turned (h' := h3) (t' := s2.toks) (fun b o hb e => (sb3.2 b hb).trans e) f0 f1 f3 f4 f5
  exact ⟨_, H', J, q⟩
theorem sw_trueD {kx vx : Expr} {gs : List Comprehension} {scope : Scope} {pos py : Pos} {y : Str} {l : Nat} {env : Env}
    (hk : env.scope.kind = .function) (hy : env.scope.names.lookup y = some .local) (hl : (py.line == pos.line) = true)
    (ha : (scope.names.any fun (n, k) => n == y && (k == .local || k == .cell)) = false) :
    swapsWith (.DictComp kx vx gs scope pos) (some (.Name y py)) l env = pure true := by
  have k1 : env.kindOf y = some .local := hy
  have k2 : env.blockKind = .function := by
    unfold Env.blockKind
    rw [hk]
    rfl
  unfold swapsWith
  simp only [k2, k1, ha, Expr.pos, hl]
  rfl
end
end Grd

/-! K10, the mathematics: kinds, what is open in them, what is put in -/
namespace K10
open PySem
open PySem.Spec (ltCps)
open PyProof.Rows (sortedS risingS)

/-! ### texts in order -/
def le (a b : Str) : Bool := !ltCps b.cps.toList a.cps.toList
theorem lt_irr : ∀ a : List Nat, ltCps a a = false
  | [] => rfl
  | x :: r => by simp [ltCps, lt_irr r]
theorem lt_asym : ∀ a b : List Nat, ltCps a b = true → ltCps b a = false
  | [], [], h => by simp [ltCps] at h
  | [], _ :: _, _ => rfl
  | _ :: _, [], h => by simp [ltCps] at h
  | x :: r, y :: t, h => by
    simp only [ltCps, Bool.or_eq_true, Bool.and_eq_true, decide_eq_true_eq, beq_iff_eq] at h
    simp only [ltCps, Bool.or_eq_false_iff, Bool.and_eq_false_iff, decide_eq_false_iff_not, beq_eq_false_iff_ne]
    rcases h with h | ⟨h, k⟩
    · exact ⟨by omega, .inl (by omega)⟩
    · exact ⟨by omega, .inr (lt_asym r t k)⟩
theorem lt_tri : ∀ a b : List Nat, ltCps a b = false → ltCps b a = false → a = b
  | [], [], _, _ => rfl
  | [], _ :: _, h, _ => by simp [ltCps] at h
  | _ :: _, [], _, h => by simp [ltCps] at h
  | x :: r, y :: t, h, k => by
    simp only [ltCps, Bool.or_eq_false_iff, Bool.and_eq_false_iff, decide_eq_false_iff_not, beq_eq_false_iff_ne] at h k
    have e : x = y := by omega
    subst e
    rw [lt_tri r t (by simpa using h.2) (by simpa using k.2)]
theorem lt_trans : ∀ a b c : List Nat, ltCps a b = true → ltCps b c = true → ltCps a c = true
  | [], _, [], _, k => by cases ‹List Nat› <;> simp [ltCps] at k
  | [], _, _ :: _, _, _ => rfl
  | _ :: _, [], _, h, _ => by simp [ltCps] at h
  | _ :: _, _ :: _, [], _, k => by simp [ltCps] at k
  | x :: r, y :: t, z :: u, h, k => by
    simp only [ltCps, Bool.or_eq_true, Bool.and_eq_true, decide_eq_true_eq, beq_iff_eq] at h k ⊢
    rcases h with h | ⟨h, h'⟩
    · rcases k with k | ⟨k, k'⟩
      · exact .inl (by omega)
      · exact .inl (by omega)
    · rcases k with k | ⟨k, k'⟩
      · exact .inl (by omega)
      · exact .inr ⟨by omega, lt_trans r t u h' k'⟩
theorem le_total (a b : Str) : (le a b || le b a) = true := by
  unfold le
  cases h : ltCps b.cps.toList a.cps.toList with
  | false => rfl
  | true => rw [lt_asym _ _ h]; rfl
theorem le_trans (a b c : Str) (h : le a b = true) (k : le b c = true) : le a c = true := by
  unfold le at *
  simp only [Bool.not_eq_true'] at *
  cases q : ltCps c.cps.toList a.cps.toList with
  | false => rfl
  | true =>
    cases e : ltCps a.cps.toList b.cps.toList with
    | true =>
      have := lt_trans _ _ _ q e
      rw [this] at k; exact absurd k (by decide)
    | false =>
      have ab := lt_tri _ _ e h
      rw [ab] at q
      rw [q] at k; exact absurd k (by decide)
theorem le_anti (a b : Str) (h : le a b = true) (k : le b a = true) : a = b := by
  unfold le at *
  simp only [Bool.not_eq_true'] at *
  have e := lt_tri _ _ k h
  cases a; cases b
  simp only [Str.mk.injEq]
  exact Array.toList_inj.mp e
theorem rising_pw : ∀ (r : List Str) (p : Str), risingS p r = true → (p :: r).Pairwise (fun a b => le a b = true)
  | [], p, _ => by simp
  | x :: r, p, h => by
    simp only [risingS, Bool.and_eq_true] at h
    have ih := rising_pw r x h.2
    have px : le p x = true := h.1
    refine List.pairwise_cons.mpr ⟨?_, ih⟩
    intro y hy
    rcases List.mem_cons.mp hy with e | e
    · rw [e]; exact px
    · exact le_trans _ _ _ px ((List.pairwise_cons.mp ih).1 y e)
theorem sorted_pw (l : List Str) (h : sortedS l = true) : l.Pairwise (fun a b => le a b = true) := by
  cases l with
  | nil => exact List.Pairwise.nil
  | cons x r => exact rising_pw r x h
def srt (l : List Str) : List Str := l.mergeSort le
theorem srt_perm (l : List Str) : (srt l).Perm l := List.mergeSort_perm l le
theorem srt_pw (l : List Str) : (srt l).Pairwise (fun a b => le a b = true) := List.pairwise_mergeSort le_trans le_total l
theorem srt_eq {ys xs : List Str} (p : ys.Perm xs) (s : sortedS ys = true) : ys = srt xs :=
  List.Perm.eq_of_pairwise (fun a b _ _ h k => le_anti a b h k) (sorted_pw ys s) (srt_pw xs) (p.trans (srt_perm xs).symm)
theorem pw_rising : ∀ (r : List Str) (p : Str), (p :: r).Pairwise (fun a b => le a b = true) → risingS p r = true
  | [], _, _ => rfl
  | x :: r, p, h => by
    have h' := List.pairwise_cons.mp h
    simp only [risingS, Bool.and_eq_true]
    exact ⟨h'.1 x (List.mem_cons_self ..), pw_rising r x h'.2⟩
theorem srt_sorted (l : List Str) : sortedS (srt l) = true := by
  have h := srt_pw l
  cases e : srt l with
  | nil => rfl
  | cons x r => rw [e] at h; exact pw_rising r x h
theorem srt_len (l : List Str) : (srt l).length = l.length := (srt_perm l).length_eq
theorem srt_of_sorted {l : List Str} (h : sortedS l = true) : srt l = l := (srt_eq (List.Perm.refl l) h).symm

/-! ### kinds -/
abbrev Ro := List Str × Option Int
inductive Kd where
  | num
  | any (n : Int)
  | pair (a b : Kd)
  | fn (a : Kd) (r : Ro) (b : Kd)
def add (l : List Int) (n : Int) : List Int := if n ∈ l then l else l ++ [n]
def tailO (l : List Int) : Option Int → List Int
  | none => l
  | some n => add l n
def ops : Kd → List Int × List Int → List Int × List Int
  | .num, s => s
  | .any n, s => (add s.1 n, s.2)
  | .pair a b, s => ops b (ops a s)
  | .fn a r b, s => ops b ((ops a s).1, tailO (ops a s).2 r.2)
def look {α : Type} (n : Int) (m : List (Int × α)) : Option α := (m.find? fun p => decide (p.1 = n)).map (·.2)
def putR (r : Ro) (t : List (Int × Ro)) : Ro := match r.2 with
  | none => r
  | some n => match look n t with
    | none => r
    | some m => (srt (r.1 ++ m.1), m.2)
def put : Kd → List (Int × Kd) → List (Int × Ro) → Kd
  | .num, _, _ => .num
  | .any n, k, _ => (look n k).getD (.any n)
  | .pair a b, k, t => .pair (put a k t) (put b k t)
  | .fn a r b, k, t => .fn (put a k t) (putR r t) (put b k t)
def mkK (l : List Int) (i : Nat) : List (Int × Kd) := (l.zipIdx i).map fun p => (p.1, Kd.any (p.2 : Int))
def mkR (l : List Int) (i : Nat) : List (Int × Ro) := (l.zipIdx i).map fun p => (p.1, (([], some (p.2 : Int)) : Ro))
def opsR (k : Kd) (r : Ro) : List Int × List Int := ((ops k ([], [])).1, tailO (ops k ([], [])).2 r.2)
def settle (k : Kd) (r : Ro) : Kd × Ro :=
  (put k (mkK (opsR k r).1 0) (mkR (opsR k r).2 0), putR r (mkR (opsR k r).2 0))

/-! ### settled once is settled -/
def RoS (r : Ro) : Prop := sortedS r.1 = true
def KdS : Kd → Prop
  | .num => True
  | .any _ => True
  | .pair a b => KdS a ∧ KdS b
  | .fn a r b => KdS a ∧ RoS r ∧ KdS b
/-- what is open is called by f, g -/
def renR (g : Int → Int) (r : Ro) : Ro := (r.1, r.2.map g)
def ren (f g : Int → Int) : Kd → Kd
  | .num => .num
  | .any n => .any (f n)
  | .pair a b => .pair (ren f g a) (ren f g b)
  | .fn a r b => .fn (ren f g a) (renR g r) (ren f g b)
theorem add_mem (l : List Int) (n m : Int) : m ∈ add l n ↔ m ∈ l ∨ m = n := by
  unfold add
  split
  · constructor
    · exact .inl
    · rintro (h | h)
      · exact h
      · rw [h]; assumption
  · simp
theorem add_nodup {l : List Int} {n : Int} (h : l.Nodup) : (add l n).Nodup := by
  unfold add
  split
  · exact h
  · rename_i hn
    exact List.nodup_append.mpr ⟨h, by simp, by
      intro a ha b hb
      rw [List.mem_singleton] at hb
      rw [hb]
      intro e
      exact hn (e ▸ ha)⟩
theorem tailO_mem (l : List Int) (t : Option Int) (m : Int) : m ∈ tailO l t ↔ m ∈ l ∨ t = some m := by
  cases t with
  | none => simp [tailO]
  | some n => simp [tailO, add_mem, eq_comm]
theorem tailO_nodup {l : List Int} {t : Option Int} (h : l.Nodup) : (tailO l t).Nodup := by
  cases t with
  | none => exact h
  | some n => exact add_nodup h
/-- what is open in a kind, a tail -/
def inK : Kd → Int → Prop
  | .num, _ => False
  | .any n, m => m = n
  | .pair a b, m => inK a m ∨ inK b m
  | .fn a _ b, m => inK a m ∨ inK b m
def inT : Kd → Int → Prop
  | .num, _ => False
  | .any _, _ => False
  | .pair a b, m => inT a m ∨ inT b m
  | .fn a r b, m => inT a m ∨ r.2 = some m ∨ inT b m
theorem ops_mem : ∀ (k : Kd) (s : List Int × List Int) (m : Int), (m ∈ (ops k s).1 ↔ m ∈ s.1 ∨ inK k m) ∧ (m ∈ (ops k s).2 ↔ m ∈ s.2 ∨ inT k m)
  | .num, s, m => by simp [ops, inK, inT]
  | .any n, s, m => by simp [ops, inK, inT, add_mem]
  | .pair a b, s, m => by
    have h1 := ops_mem a s m
    have h2 := ops_mem b (ops a s) m
    constructor
    · show m ∈ (ops b (ops a s)).1 ↔ _
      rw [h2.1, h1.1]; simp [inK, or_assoc]
    · show m ∈ (ops b (ops a s)).2 ↔ _
      rw [h2.2, h1.2]; simp [inT, or_assoc]
  | .fn a r b, s, m => by
    have h1 := ops_mem a s m
    have h2 := ops_mem b ((ops a s).1, tailO (ops a s).2 r.2) m
    constructor
    · show m ∈ (ops b ((ops a s).1, tailO (ops a s).2 r.2)).1 ↔ _
      rw [h2.1, h1.1]; simp [inK, or_assoc]
    · show m ∈ (ops b ((ops a s).1, tailO (ops a s).2 r.2)).2 ↔ _
      rw [h2.2, tailO_mem, h1.2]; simp [inT, or_assoc]
theorem ops_nodup : ∀ (k : Kd) (s : List Int × List Int), s.1.Nodup → s.2.Nodup → (ops k s).1.Nodup ∧ (ops k s).2.Nodup
  | .num, s, h1, h2 => ⟨h1, h2⟩
  | .any n, s, h1, h2 => ⟨add_nodup h1, h2⟩
  | .pair a b, s, h1, h2 => by
    have h := ops_nodup a s h1 h2
    exact ops_nodup b _ h.1 h.2
  | .fn a r b, s, h1, h2 => by
    have h := ops_nodup a s h1 h2
    exact ops_nodup b ((ops a s).1, tailO (ops a s).2 r.2) h.1 (tailO_nodup h.2)
theorem add_map {f : Int → Int} {l : List Int} {n : Int} (inj : ∀ a, a ∈ l → f a = f n → a = n) : add (l.map f) (f n) = (add l n).map f := by
  unfold add
  by_cases h : n ∈ l
  · rw [if_pos h, if_pos (List.mem_map_of_mem h)]
  · rw [if_neg h, if_neg, List.map_append]
    · rfl
    · intro q
      obtain ⟨a, ha, e⟩ := List.mem_map.mp q
      exact h (inj a ha e ▸ ha)
theorem ops_ren (f g : Int → Int) : ∀ (k : Kd) (s : List Int × List Int),
    (∀ a b, (a ∈ s.1 ∨ inK k a) → (b ∈ s.1 ∨ inK k b) → f a = f b → a = b) → (∀ a b, (a ∈ s.2 ∨ inT k a) → (b ∈ s.2 ∨ inT k b) → g a = g b → a = b) →
    ops (ren f g k) (s.1.map f, s.2.map g) = ((ops k s).1.map f, (ops k s).2.map g)
  | .num, s, _, _ => rfl
  | .any n, s, hf, _ => by
    show (add (s.1.map f) (f n), s.2.map g) = ((add s.1 n).map f, s.2.map g)
    rw [add_map fun a ha e => hf a n (.inl ha) (.inr rfl) e]
  | .pair a b, s, hf, hg => by
    have i1 := ops_ren f g a s (fun x y hx hy => hf x y (hx.imp id .inl) (hy.imp id .inl)) (fun x y hx hy => hg x y (hx.imp id .inl) (hy.imp id .inl))
    show ops (ren f g b) (ops (ren f g a) (s.1.map f, s.2.map g)) = _
    rw [i1]
    refine ops_ren f g b (ops a s) (fun x y hx hy => hf x y ?_ ?_) (fun x y hx hy => hg x y ?_ ?_)
    · rw [(ops_mem a s x).1] at hx; simp only [inK]; rcases hx with (h | h) | h <;> simp [h]
    · rw [(ops_mem a s y).1] at hy; simp only [inK]; rcases hy with (h | h) | h <;> simp [h]
    · rw [(ops_mem a s x).2] at hx; simp only [inT]; rcases hx with (h | h) | h <;> simp [h]
    · rw [(ops_mem a s y).2] at hy; simp only [inT]; rcases hy with (h | h) | h <;> simp [h]
  | .fn a r b, s, hf, hg => by
    have i1 := ops_ren f g a s (fun x y hx hy => hf x y (hx.imp id .inl) (hy.imp id .inl)) (fun x y hx hy => hg x y (hx.imp id .inl) (hy.imp id .inl))
    show ops (ren f g b) ((ops (ren f g a) (s.1.map f, s.2.map g)).1, tailO (ops (ren f g a) (s.1.map f, s.2.map g)).2 (renR g r).2) = _
    rw [i1]
    have t1 : tailO ((ops a s).2.map g) (renR g r).2 = (tailO (ops a s).2 r.2).map g := by
      show tailO _ (r.2.map g) = _
      cases e : r.2 with
      | none => rfl
      | some n =>
        show add _ (g n) = (add _ n).map g
        refine add_map fun x hx eq => hg x n ?_ (.inr (by simp [inT, e])) eq
        rw [(ops_mem a s x).2] at hx
        simp only [inT]; rcases hx with h | h <;> simp [h]
    show ops (ren f g b) ((ops a s).1.map f, tailO ((ops a s).2.map g) (renR g r).2) = _
    rw [t1]
    refine ops_ren f g b ((ops a s).1, tailO (ops a s).2 r.2) (fun x y hx hy => hf x y ?_ ?_) (fun x y hx hy => hg x y ?_ ?_)
    · rw [(ops_mem a s x).1] at hx; simp only [inK]; rcases hx with (h | h) | h <;> simp [h]
    · rw [(ops_mem a s y).1] at hy; simp only [inK]; rcases hy with (h | h) | h <;> simp [h]
    · rw [tailO_mem, (ops_mem a s x).2] at hx; simp only [inT]; rcases hx with ((h | h) | h) | h <;> simp [h]
    · rw [tailO_mem, (ops_mem a s y).2] at hy; simp only [inT]; rcases hy with ((h | h) | h) | h <;> simp [h]

/-- the place of n -/
def pl (l : List Int) (n : Int) : Int := (l.idxOf n : Int)
theorem look_zip {α : Type} (F : Nat → α) (n : Int) : ∀ (l : List Int) (i : Nat), look n ((l.zipIdx i).map fun p => (p.1, F p.2)) = if n ∈ l then some (F (i + l.idxOf n)) else none
  | [], i => rfl
  | x :: r, i => by
    have ih := look_zip F n r (i + 1)
    by_cases e : x = n
    · subst e
      simp [look, List.zipIdx_cons, List.idxOf_cons]
    · have e' : ¬ n = x := fun q => e q.symm
      simp only [look, List.zipIdx_cons, List.map_cons, List.find?_cons, e, decide_false, List.mem_cons, e', false_or, List.idxOf_cons] at ih ⊢
      rw [ih]
      have b : (x == n) = false := by simpa using e
      rw [b]
      by_cases h : n ∈ r
      · rw [if_pos h, if_pos h]
        simp only [cond_false]
        congr 2
        omega
      · rw [if_neg h, if_neg h]
theorem look_mkK (l : List Int) (n : Int) (h : n ∈ l) : look n (mkK l 0) = some (Kd.any (pl l n)) := by
  have q := look_zip (fun i => Kd.any (i : Int)) n l 0
  rw [if_pos h] at q
  simpa [mkK, pl] using q
theorem look_mkR (l : List Int) (n : Int) (h : n ∈ l) : look n (mkR l 0) = some (([], some (pl l n)) : Ro) := by
  have q := look_zip (fun i => (([], some (i : Int)) : Ro)) n l 0
  rw [if_pos h] at q
  simpa [mkR, pl] using q
theorem putR_ren {r : Ro} {l : List Int} (hs : RoS r) (h : ∀ n, r.2 = some n → n ∈ l) : putR r (mkR l 0) = renR (pl l) r := by
  unfold putR renR
  obtain ⟨ls, t⟩ := r
  cases t with
  | none => rfl
  | some n =>
    simp only [look_mkR l n (h n rfl), List.append_nil, Option.map_some]
    rw [srt_of_sorted hs]
theorem put_ren {l m : List Int} : ∀ (k : Kd), KdS k → (∀ n, inK k n → n ∈ l) → (∀ n, inT k n → n ∈ m) → put k (mkK l 0) (mkR m 0) = ren (pl l) (pl m) k
  | .num, _, _, _ => rfl
  | .any n, _, h, _ => by simp [put, ren, look_mkK l n (h n rfl)]
  | .pair a b, hs, h, h' => by
    simp only [put, ren]
    rw [put_ren a hs.1 (fun n q => h n (.inl q)) (fun n q => h' n (.inl q)), put_ren b hs.2 (fun n q => h n (.inr q)) (fun n q => h' n (.inr q))]
  | .fn a r b, hs, h, h' => by
    simp only [put, ren]
    rw [put_ren a hs.1 (fun n q => h n (.inl q)) (fun n q => h' n (.inl q)), put_ren b hs.2.2 (fun n q => h n (.inr q)) (fun n q => h' n (.inr (.inr q))),
      putR_ren hs.2.1 (fun n q => h' n (.inr (.inl q)))]
theorem pl_inj {l : List Int} {a b : Int} (ha : a ∈ l) (hb : b ∈ l) (e : pl l a = pl l b) : a = b := by
  have e' : l.idxOf a = l.idxOf b := by unfold pl at e; omega
  have h1 := List.idxOf_lt_length_iff.mpr ha
  have h2 := List.idxOf_lt_length_iff.mpr hb
  have g1 := List.getElem_idxOf h1
  have g2 := List.getElem_idxOf h2
  rw [← g1, ← g2]
  simp only [e']
def rng (n : Nat) : List Int := (List.range n).map Int.ofNat
theorem rng_nodup (n : Nat) : (rng n).Nodup := by
  unfold rng
  refine List.pairwise_map.mpr (List.Pairwise.imp ?_ List.nodup_range)
  intro a b h e
  exact h (Int.ofNat.inj e)
theorem pl_self (l : List Int) (h : l.Nodup) : l.map (pl l) = rng l.length := by
  apply List.ext_getElem
  · simp [rng]
  · intro i h1 h2
    simp only [List.length_map] at h1
    simp only [List.getElem_map, List.getElem_range, pl, rng]
    rw [h.idxOf_getElem i h1]
    rfl
theorem pl_range (n : Nat) (i : Int) (h : i ∈ rng n) : pl (rng n) i = i := by
  obtain ⟨j, hj, rfl⟩ := List.mem_map.mp h
  have hj' := List.mem_range.mp hj
  have q := (rng_nodup n).idxOf_getElem j (by simpa [rng] using hj')
  have e : (rng n)[j]'(by simpa [rng] using hj') = Int.ofNat j := by simp [rng]
  rw [e] at q
  unfold pl
  rw [q]
  rfl
theorem renR_id {g : Int → Int} {r : Ro} (h : ∀ n, r.2 = some n → g n = n) : renR g r = r := by
  obtain ⟨ls, t⟩ := r
  cases t with
  | none => rfl
  | some n => simp [renR, h n rfl]
theorem ren_id {f g : Int → Int} : ∀ (k : Kd), (∀ n, inK k n → f n = n) → (∀ n, inT k n → g n = n) → ren f g k = k
  | .num, _, _ => rfl
  | .any n, h, _ => by simp [ren, h n rfl]
  | .pair a b, h, h' => by
    simp only [ren]
    rw [ren_id a (fun n q => h n (.inl q)) (fun n q => h' n (.inl q)), ren_id b (fun n q => h n (.inr q)) (fun n q => h' n (.inr q))]
  | .fn a r b, h, h' => by
    simp only [ren]
    rw [ren_id a (fun n q => h n (.inl q)) (fun n q => h' n (.inl q)), ren_id b (fun n q => h n (.inr q)) (fun n q => h' n (.inr (.inr q))),
      renR_id (fun n q => h' n (.inr (.inl q)))]
theorem KdS_ren (f g : Int → Int) : ∀ k : Kd, KdS k → KdS (ren f g k)
  | .num, _ => trivial
  | .any _, _ => trivial
  | .pair a b, h => ⟨KdS_ren f g a h.1, KdS_ren f g b h.2⟩
  | .fn a r b, h => ⟨KdS_ren f g a h.1, h.2.1, KdS_ren f g b h.2.2⟩
theorem opsR_nodup (k : Kd) (r : Ro) : (opsR k r).1.Nodup ∧ (opsR k r).2.Nodup := by
  have h := ops_nodup k ([], []) List.nodup_nil List.nodup_nil
  exact ⟨h.1, tailO_nodup h.2⟩
theorem opsR_mem (k : Kd) (r : Ro) (m : Int) : (m ∈ (opsR k r).1 ↔ inK k m) ∧ (m ∈ (opsR k r).2 ↔ inT k m ∨ r.2 = some m) := by
  have h := ops_mem k ([], []) m
  constructor
  · show m ∈ (ops k ([], [])).1 ↔ _
    rw [h.1]; simp
  · show m ∈ tailO (ops k ([], [])).2 r.2 ↔ _
    rw [tailO_mem, h.2]; simp
theorem settle_ren (k : Kd) (r : Ro) (hk : KdS k) (hr : RoS r) : settle k r = (ren (pl (opsR k r).1) (pl (opsR k r).2) k, renR (pl (opsR k r).2) r) := by
  unfold settle
  rw [put_ren k hk (fun n q => (opsR_mem k r n).1.mpr q) (fun n q => (opsR_mem k r n).2.mpr (.inl q)), putR_ren hr (fun n q => (opsR_mem k r n).2.mpr (.inr q))]
theorem opsR_ren (k : Kd) (r : Ro) : opsR (ren (pl (opsR k r).1) (pl (opsR k r).2) k) (renR (pl (opsR k r).2) r) = ((opsR k r).1.map (pl (opsR k r).1), (opsR k r).2.map (pl (opsR k r).2)) := by
  have mk : ∀ a, inK k a → a ∈ (opsR k r).1 := fun a h => (opsR_mem k r a).1.mpr h
  have mt : ∀ a, inT k a → a ∈ (opsR k r).2 := fun a h => (opsR_mem k r a).2.mpr (.inl h)
  have q := ops_ren (pl (opsR k r).1) (pl (opsR k r).2) k ([], []) (fun a b ha hb e => pl_inj (mk a (by simpa using ha)) (mk b (by simpa using hb)) e)
    (fun a b ha hb e => pl_inj (mt a (by simpa using ha)) (mt b (by simpa using hb)) e)
  generalize ef : pl (opsR k r).1 = f at q ⊢
  generalize eg : pl (opsR k r).2 = g at q ⊢
  have q' : ops (ren f g k) ([], []) = ((ops k ([], [])).1.map f, (ops k ([], [])).2.map g) := q
  show ((ops (ren f g k) ([], [])).1, tailO (ops (ren f g k) ([], [])).2 (r.2.map g)) = _
  rw [q']
  show ((ops k ([], [])).1.map f, tailO ((ops k ([], [])).2.map g) (r.2.map g)) = ((ops k ([], [])).1.map f, (tailO (ops k ([], [])).2 r.2).map g)
  congr 1
  cases e : r.2 with
  | none => rfl
  | some n =>
    show add _ (g n) = (add _ n).map g
    refine add_map fun x hx eq => ?_
    rw [← eg] at eq
    exact pl_inj ((opsR_mem k r x).2.mpr (.inl ((by simpa using (ops_mem k ([], []) x).2.mp hx)))) ((opsR_mem k r n).2.mpr (.inr e)) eq
/-- settled once more it's the same -/
theorem settle_twice (k : Kd) (r : Ro) (hk : KdS k) (hr : RoS r) : settle (settle k r).1 (settle k r).2 = settle k r := by
  have e1 := settle_ren k r hk hr
  rw [e1]
  have nd := opsR_nodup k r
  have e2 := opsR_ren k r
  rw [pl_self _ nd.1, pl_self _ nd.2] at e2
  generalize ef : pl (opsR k r).1 = f at *
  generalize eg : pl (opsR k r).2 = g at *
  show settle (ren f g k) (renR g r) = _
  rw [settle_ren (ren f g k) (renR g r) (KdS_ren f g k hk) hr]
  refine Prod.ext ?_ ?_
  · refine ren_id _ (fun n h => ?_) (fun n h => ?_)
    · have m := (opsR_mem (ren f g k) (renR g r) n).1.mpr h
      rw [e2] at m ⊢
      exact pl_range _ n m
    · have m := (opsR_mem (ren f g k) (renR g r) n).2.mpr (.inl h)
      rw [e2] at m ⊢
      exact pl_range _ n m
  · refine renR_id fun n h => ?_
    have m := (opsR_mem (ren f g k) (renR g r) n).2.mpr (.inr h)
    rw [e2] at m ⊢
    exact pl_range _ n m
end K10

/-! K10: the text by places -/
namespace K10
open PySem L2 Grd
/-- one plain value and one by keyword -/
def kwG (us ws : List Value) : List Value := match us, ws with
  | [x], [y] => [x, y]
  | _, _ => []
def kwV (vs zs : List V) : List V := match vs, zs with
  | [x], [y] => [x, y]
  | _, _ => []
theorem kw_rel {vs : List V} {us : List Value} {zs : List V} {ws : List Value} (r : Vals vs us) (rz : Vals zs ws) : Vals (kwV vs zs) (kwG us ws) := by
  cases r with
  | nil => exact .nil
  | cons a r =>
    cases r with
    | cons b r => exact .nil
    | nil =>
      cases rz with
      | nil => exact .nil
      | cons c rz =>
        cases rz with
        | nil => exact .cons a (.cons c .nil)
        | cons d rz => exact .nil
theorem kw_binds {K : PySem.W.Frag} {fd : FuncData} {p k : Str} (h : ∀ x y : Value, bindArgs fd ⟨[x], [(k, y)]⟩ = pure [(p, x), (k, y)]) : KBinds K fd [p, k] [k] kwG kwV where
  to := fun s us ws _ hl => by
    unfold kwG at hl ⊢
    split at hl
    · exact .of_eq (h _ _)
    · simp at hl
  rel := fun r rz => kw_rel r rz
def top (i : Nat) : Stmt := PySem.Challenge.pw_handledeeds_k10_what_kinds_are.main.body.getD i (.Pass ⟨0, 0, 0, 0⟩)
abbrev s_p_is_name : Stmt := top 4
abbrev s_p_is_from_nought : Stmt := top 12
abbrev s_p_are_plain_figures : Stmt := top 13
abbrev s_p_is_label : Stmt := top 14
abbrev s_p_are_labels : Stmt := top 15
abbrev s_p_is_roster_form : Stmt := top 16
abbrev s_p_is_roster : Stmt := top 17
abbrev s_p_is_kind_form : Stmt := top 18
abbrev s_p_kinds_within : Stmt := top 19
abbrev s_p_kind_parts : Stmt := top 20
abbrev s_p_kind_deep : Stmt := top 21
abbrev s_p_is_kind : Stmt := top 22
abbrev s_p_is_plain_kind : Stmt := top 23
abbrev s_p_is_sheet_row : Stmt := top 24
abbrev s_p_is_sheet : Stmt := top 25
abbrev s_dip : Stmt := top 27
abbrev s_take : Stmt := top 28
abbrev s_folded : Stmt := top 29
abbrev s_one_of : Stmt := top 30
abbrev s_keywords : Stmt := top 31
abbrev s_named : Stmt := top 32
abbrev s_label : Stmt := top 33
abbrev s_roster : Stmt := top 34
abbrev s_kind : Stmt := top 35
abbrev s_is_name : Stmt := top 36
abbrev s_is_figures : Stmt := top 37
abbrev s_is_label : Stmt := top 38
abbrev s_is_ros : Stmt := top 39
abbrev s_size : Stmt := top 40
abbrev s_is_it : Stmt := top 41
abbrev s_is_plain : Stmt := top 42
abbrev s_is_sheet : Stmt := top 43
abbrev s_plain : Stmt := top 44
abbrev s_odd : Stmt := top 45
abbrev s_bent : Stmt := top 46
abbrev s_deep_one : Stmt := top 47
abbrev s_right : Stmt := top 48
abbrev s_law : Stmt := top 49
theorem scp_is_name : FnScope ["thing", "sign"] ["thing"] (defScope s_p_is_name) := ⟨rfl, rfl, rfl, by decide +kernel, rfl, by decide +kernel, by decide +kernel⟩
theorem scp_is_from_nought : FnScope ["thing"] ["thing"] (defScope s_p_is_from_nought) := ⟨rfl, rfl, rfl, by decide +kernel, rfl, by decide +kernel, by decide +kernel⟩
theorem scp_are_plain_figures : FnScope ["text", "sign"] ["text"] (defScope s_p_are_plain_figures) := ⟨rfl, rfl, rfl, by decide +kernel, rfl, by decide +kernel, by decide +kernel⟩
theorem scp_is_label : FnScope ["thing", "ahead", "colon", "deed", "word"] ["thing"] (defScope s_p_is_label) := ⟨rfl, rfl, rfl, by decide +kernel, rfl, by decide +kernel, by decide +kernel⟩
theorem scp_are_labels : FnScope ["thing", "one", "other"] ["thing"] (defScope s_p_are_labels) := ⟨rfl, rfl, rfl, by decide +kernel, rfl, by decide +kernel, by decide +kernel⟩
theorem scp_is_roster_form : FnScope ["thing"] ["thing"] (defScope s_p_is_roster_form) := ⟨rfl, rfl, rfl, by decide +kernel, rfl, by decide +kernel, by decide +kernel⟩
theorem scp_is_roster : FnScope ["thing"] ["thing"] (defScope s_p_is_roster) := ⟨rfl, rfl, rfl, by decide +kernel, rfl, by decide +kernel, by decide +kernel⟩
theorem scp_is_kind_form : FnScope ["thing", "bounded", "word", "rest", "one"] ["thing", "bounded"] (defScope s_p_is_kind_form) := ⟨rfl, rfl, rfl, by decide +kernel, rfl, by decide +kernel, by decide +kernel⟩
theorem scp_kinds_within : FnScope ["kind"] ["kind"] (defScope s_p_kinds_within) := ⟨rfl, rfl, rfl, by decide +kernel, rfl, by decide +kernel, by decide +kernel⟩
theorem scp_kind_parts : FnScope ["kind", "one"] ["kind"] (defScope s_p_kind_parts) := ⟨rfl, rfl, rfl, by decide +kernel, rfl, by decide +kernel, by decide +kernel⟩
theorem scp_kind_deep : FnScope ["kind", "one"] ["kind"] (defScope s_p_kind_deep) := ⟨rfl, rfl, rfl, by decide +kernel, rfl, by decide +kernel, by decide +kernel⟩
theorem scp_is_kind : FnScope ["thing"] ["thing"] (defScope s_p_is_kind) := ⟨rfl, rfl, rfl, by decide +kernel, rfl, by decide +kernel, by decide +kernel⟩
theorem scp_is_plain_kind : FnScope ["thing"] ["thing"] (defScope s_p_is_plain_kind) := ⟨rfl, rfl, rfl, by decide +kernel, rfl, by decide +kernel, by decide +kernel⟩
theorem scp_is_sheet_row : FnScope ["thing", "one"] ["thing"] (defScope s_p_is_sheet_row) := ⟨rfl, rfl, rfl, by decide +kernel, rfl, by decide +kernel, by decide +kernel⟩
theorem scp_is_sheet : FnScope ["thing", "row", "one", "other"] ["thing"] (defScope s_p_is_sheet) := ⟨rfl, rfl, rfl, by decide +kernel, rfl, by decide +kernel, by decide +kernel⟩
theorem scdip : FnScope ["_law_script", "_law_k", "_law_cell"] ["_law_script", "_law_k"] (defScope s_dip) := ⟨rfl, rfl, rfl, by decide +kernel, rfl, by decide +kernel, by decide +kernel⟩
theorem sctake : FnScope ["_law_box", "_law_many", "_law_found", "_law_once", "_law_twice"] ["_law_box", "_law_many"] (defScope s_take) := ⟨rfl, rfl, rfl, by decide +kernel, rfl, by decide +kernel, by decide +kernel⟩
theorem scfolded : FnScope ["_law_script", "_law_size_here", "_law_cells", "_law_k", "_law_cell"] ["_law_script", "_law_size_here"] (defScope s_folded) := ⟨rfl, rfl, rfl, by decide +kernel, rfl, by decide +kernel, by decide +kernel⟩
theorem scone_of : FnScope ["_law_box", "_law_some"] ["_law_box", "_law_some"] (defScope s_one_of) := ⟨rfl, rfl, rfl, by decide +kernel, rfl, by decide +kernel, by decide +kernel⟩
theorem sckeywords : FnScope ["_law_some"] [] (defScope s_keywords) := ⟨rfl, rfl, rfl, by decide +kernel, rfl, by decide +kernel, by decide +kernel⟩
theorem scnamed : FnScope ["_law_box", "_law_many", "_law_letters", "_law_found", "_law_k", "_law_one", "_law_turn"] ["_law_box", "_law_many"] (defScope s_named) := ⟨rfl, rfl, rfl, by decide +kernel, rfl, by decide +kernel, by decide +kernel⟩
theorem sclabel : FnScope ["_law_box", "_law_deeds", "_law_deed", "_law_way"] ["_law_box", "_law_deeds"] (defScope s_label) := ⟨rfl, rfl, rfl, by decide +kernel, rfl, by decide +kernel, by decide +kernel⟩
theorem scroster : FnScope ["_law_box", "_law_deeds", "_law_labels", "_law_turn"] ["_law_box", "_law_deeds"] (defScope s_roster) := ⟨rfl, rfl, rfl, by decide +kernel, rfl, by decide +kernel, by decide +kernel⟩
theorem sckind : FnScope ["_law_box", "_law_deeds", "_law_room", "_law_deep", "_law_way", "_law_part", "_law_first", "_law_last"] ["_law_box", "_law_deeds", "_law_room", "_law_deep"] (defScope s_kind) := ⟨rfl, rfl, rfl, by decide +kernel, rfl, by decide +kernel, by decide +kernel⟩
theorem scis_name : FnScope ["_law_odd_here", "_law_sign"] ["_law_odd_here"] (defScope s_is_name) := ⟨rfl, rfl, rfl, by decide +kernel, rfl, by decide +kernel, by decide +kernel⟩
theorem scis_figures : FnScope ["_law_word", "_law_sign"] ["_law_word"] (defScope s_is_figures) := ⟨rfl, rfl, rfl, by decide +kernel, rfl, by decide +kernel, by decide +kernel⟩
theorem scis_label : FnScope ["_law_odd_here", "_law_words", "_law_word"] ["_law_odd_here"] (defScope s_is_label) := ⟨rfl, rfl, rfl, by decide +kernel, rfl, by decide +kernel, by decide +kernel⟩
theorem scis_ros : FnScope ["_law_odd_here", "_law_one"] ["_law_odd_here"] (defScope s_is_ros) := ⟨rfl, rfl, rfl, by decide +kernel, rfl, by decide +kernel, by decide +kernel⟩
theorem scsize : FnScope ["_law_odd_here", "_law_fine", "_law_one", "_law_two"] ["_law_odd_here"] (defScope s_size) := ⟨rfl, rfl, rfl, by decide +kernel, rfl, by decide +kernel, by decide +kernel⟩
theorem scis_it : FnScope ["_law_odd_here", "_law_size_here"] ["_law_odd_here"] (defScope s_is_it) := ⟨rfl, rfl, rfl, by decide +kernel, rfl, by decide +kernel, by decide +kernel⟩
theorem scis_plain : FnScope ["_law_odd_here", "_law_deep"] ["_law_odd_here", "_law_deep"] (defScope s_is_plain) := ⟨rfl, rfl, rfl, by decide +kernel, rfl, by decide +kernel, by decide +kernel⟩
theorem scis_sheet : FnScope ["_law_odd_here", "_law_row", "_law_one", "_law_other"] ["_law_odd_here"] (defScope s_is_sheet) := ⟨rfl, rfl, rfl, by decide +kernel, rfl, by decide +kernel, by decide +kernel⟩
theorem scplain : FnScope ["_law_box", "_law_deep"] ["_law_box", "_law_deep"] (defScope s_plain) := ⟨rfl, rfl, rfl, by decide +kernel, rfl, by decide +kernel, by decide +kernel⟩
theorem scodd : FnScope ["_law_box", "_law_some", "_law_odd_here"] ["_law_box", "_law_some"] (defScope s_odd) := ⟨rfl, rfl, rfl, by decide +kernel, rfl, by decide +kernel, by decide +kernel⟩
theorem scbent : FnScope ["_law_box", "_law_some", "_law_at", "_law_way", "_law_row"] ["_law_box", "_law_some"] (defScope s_bent) := ⟨rfl, rfl, rfl, by decide +kernel, rfl, by decide +kernel, by decide +kernel⟩
theorem scdeep_one : FnScope ["_law_count", "_law_wide", "_law_found", "_law_turn"] ["_law_count", "_law_wide"] (defScope s_deep_one) := ⟨rfl, rfl, rfl, by decide +kernel, rfl, by decide +kernel, by decide +kernel⟩
theorem scright : FnScope ["_law_box", "_law_deeds", "_law_sheet_now", "_law_some", "_law_one", "_law_kept", "_law_due", "_law_deed", "_law_turn"] ["_law_box"] (defScope s_right) := ⟨rfl, rfl, rfl, by decide +kernel, rfl, by decide +kernel, by decide +kernel⟩
theorem sclaw : FnScope ["_law_script", "_law_cells", "_law_count", "_law_wide", "_law_one", "_law_turn", "_law_rows", "_law_row", "_law_k"] ["_law_script"] (defScope s_law) := ⟨rfl, rfl, rfl, by decide +kernel, rfl, by decide +kernel, by decide +kernel⟩
structure Txt (K : PySem.W.Frag) (mg : Str → Option Value) where
  a_p_is_name : Addr
  d_p_is_name : FuncData
  F_p_is_name : Fun K "is_name" "is_name" s_p_is_name a_p_is_name d_p_is_name
  b_p_is_name : Binds K d_p_is_name ["thing"] []
  g_p_is_name : mg "is_name" = some (.ref a_p_is_name)
  a_p_is_from_nought : Addr
  d_p_is_from_nought : FuncData
  F_p_is_from_nought : Fun K "is_from_nought" "is_from_nought" s_p_is_from_nought a_p_is_from_nought d_p_is_from_nought
  b_p_is_from_nought : Binds K d_p_is_from_nought ["thing"] []
  g_p_is_from_nought : mg "is_from_nought" = some (.ref a_p_is_from_nought)
  a_p_are_plain_figures : Addr
  d_p_are_plain_figures : FuncData
  F_p_are_plain_figures : Fun K "are_plain_figures" "are_plain_figures" s_p_are_plain_figures a_p_are_plain_figures d_p_are_plain_figures
  b_p_are_plain_figures : Binds K d_p_are_plain_figures ["text"] []
  g_p_are_plain_figures : mg "are_plain_figures" = some (.ref a_p_are_plain_figures)
  a_p_is_label : Addr
  d_p_is_label : FuncData
  F_p_is_label : Fun K "is_label" "is_label" s_p_is_label a_p_is_label d_p_is_label
  b_p_is_label : Binds K d_p_is_label ["thing"] []
  g_p_is_label : mg "is_label" = some (.ref a_p_is_label)
  a_p_are_labels : Addr
  d_p_are_labels : FuncData
  F_p_are_labels : Fun K "are_labels" "are_labels" s_p_are_labels a_p_are_labels d_p_are_labels
  b_p_are_labels : Binds K d_p_are_labels ["thing"] []
  g_p_are_labels : mg "are_labels" = some (.ref a_p_are_labels)
  a_p_is_roster_form : Addr
  d_p_is_roster_form : FuncData
  F_p_is_roster_form : Fun K "is_roster_form" "is_roster_form" s_p_is_roster_form a_p_is_roster_form d_p_is_roster_form
  b_p_is_roster_form : Binds K d_p_is_roster_form ["thing"] []
  g_p_is_roster_form : mg "is_roster_form" = some (.ref a_p_is_roster_form)
  a_p_is_roster : Addr
  d_p_is_roster : FuncData
  F_p_is_roster : Fun K "is_roster" "is_roster" s_p_is_roster a_p_is_roster d_p_is_roster
  b_p_is_roster : Binds K d_p_is_roster ["thing"] []
  g_p_is_roster : mg "is_roster" = some (.ref a_p_is_roster)
  a_p_is_kind_form : Addr
  d_p_is_kind_form : FuncData
  F_p_is_kind_form : Fun K "is_kind_form" "is_kind_form" s_p_is_kind_form a_p_is_kind_form d_p_is_kind_form
  kb_p_is_kind_form : KBinds K d_p_is_kind_form ["thing", "bounded"] ["bounded"] kwG kwV
  g_p_is_kind_form : mg "is_kind_form" = some (.ref a_p_is_kind_form)
  a_p_kinds_within : Addr
  d_p_kinds_within : FuncData
  F_p_kinds_within : Fun K "kinds_within" "kinds_within" s_p_kinds_within a_p_kinds_within d_p_kinds_within
  b_p_kinds_within : Binds K d_p_kinds_within ["kind"] []
  g_p_kinds_within : mg "kinds_within" = some (.ref a_p_kinds_within)
  a_p_kind_parts : Addr
  d_p_kind_parts : FuncData
  F_p_kind_parts : Fun K "kind_parts" "kind_parts" s_p_kind_parts a_p_kind_parts d_p_kind_parts
  b_p_kind_parts : Binds K d_p_kind_parts ["kind"] []
  g_p_kind_parts : mg "kind_parts" = some (.ref a_p_kind_parts)
  a_p_kind_deep : Addr
  d_p_kind_deep : FuncData
  F_p_kind_deep : Fun K "kind_deep" "kind_deep" s_p_kind_deep a_p_kind_deep d_p_kind_deep
  b_p_kind_deep : Binds K d_p_kind_deep ["kind"] []
  g_p_kind_deep : mg "kind_deep" = some (.ref a_p_kind_deep)
  a_p_is_kind : Addr
  d_p_is_kind : FuncData
  F_p_is_kind : Fun K "is_kind" "is_kind" s_p_is_kind a_p_is_kind d_p_is_kind
  b_p_is_kind : Binds K d_p_is_kind ["thing"] []
  g_p_is_kind : mg "is_kind" = some (.ref a_p_is_kind)
  a_p_is_plain_kind : Addr
  d_p_is_plain_kind : FuncData
  F_p_is_plain_kind : Fun K "is_plain_kind" "is_plain_kind" s_p_is_plain_kind a_p_is_plain_kind d_p_is_plain_kind
  b_p_is_plain_kind : Binds K d_p_is_plain_kind ["thing"] []
  g_p_is_plain_kind : mg "is_plain_kind" = some (.ref a_p_is_plain_kind)
  a_p_is_sheet_row : Addr
  d_p_is_sheet_row : FuncData
  F_p_is_sheet_row : Fun K "is_sheet_row" "is_sheet_row" s_p_is_sheet_row a_p_is_sheet_row d_p_is_sheet_row
  b_p_is_sheet_row : Binds K d_p_is_sheet_row ["thing"] []
  g_p_is_sheet_row : mg "is_sheet_row" = some (.ref a_p_is_sheet_row)
  a_p_is_sheet : Addr
  d_p_is_sheet : FuncData
  F_p_is_sheet : Fun K "is_sheet" "is_sheet" s_p_is_sheet a_p_is_sheet d_p_is_sheet
  b_p_is_sheet : Binds K d_p_is_sheet ["thing"] []
  g_p_is_sheet : mg "is_sheet" = some (.ref a_p_is_sheet)
  a_dip : Addr
  d_dip : FuncData
  F_dip : Fun K "_law_dip" "_law_dip" s_dip a_dip d_dip
  b_dip : Binds K d_dip ["_law_script", "_law_k"] []
  g_dip : mg "_law_dip" = some (.ref a_dip)
  a_take : Addr
  d_take : FuncData
  F_take : Fun K "_law_take" "_law_take" s_take a_take d_take
  b_take : Binds K d_take ["_law_box", "_law_many"] []
  g_take : mg "_law_take" = some (.ref a_take)
  a_folded : Addr
  d_folded : FuncData
  F_folded : Fun K "_law_folded" "_law_folded" s_folded a_folded d_folded
  b_folded : Binds K d_folded ["_law_script", "_law_size_here"] []
  g_folded : mg "_law_folded" = some (.ref a_folded)
  a_one_of : Addr
  d_one_of : FuncData
  F_one_of : Fun K "_law_one_of" "_law_one_of" s_one_of a_one_of d_one_of
  b_one_of : Binds K d_one_of ["_law_box", "_law_some"] []
  g_one_of : mg "_law_one_of" = some (.ref a_one_of)
  a_keywords : Addr
  d_keywords : FuncData
  F_keywords : Fun K "_law_keywords" "_law_keywords" s_keywords a_keywords d_keywords
  b_keywords : Binds K d_keywords [] []
  g_keywords : mg "_law_keywords" = some (.ref a_keywords)
  a_named : Addr
  d_named : FuncData
  F_named : Fun K "_law_named" "_law_named" s_named a_named d_named
  b_named : Binds K d_named ["_law_box", "_law_many"] []
  g_named : mg "_law_named" = some (.ref a_named)
  a_label : Addr
  d_label : FuncData
  F_label : Fun K "_law_label" "_law_label" s_label a_label d_label
  b_label : Binds K d_label ["_law_box", "_law_deeds"] []
  g_label : mg "_law_label" = some (.ref a_label)
  a_roster : Addr
  d_roster : FuncData
  F_roster : Fun K "_law_roster" "_law_roster" s_roster a_roster d_roster
  b_roster : Binds K d_roster ["_law_box", "_law_deeds"] []
  g_roster : mg "_law_roster" = some (.ref a_roster)
  a_kind : Addr
  d_kind : FuncData
  F_kind : Fun K "_law_kind" "_law_kind" s_kind a_kind d_kind
  b_kind : Binds K d_kind ["_law_box", "_law_deeds", "_law_room", "_law_deep"] []
  g_kind : mg "_law_kind" = some (.ref a_kind)
  a_is_name : Addr
  d_is_name : FuncData
  F_is_name : Fun K "_law_is_name" "_law_is_name" s_is_name a_is_name d_is_name
  b_is_name : Binds K d_is_name ["_law_odd_here"] []
  g_is_name : mg "_law_is_name" = some (.ref a_is_name)
  a_is_figures : Addr
  d_is_figures : FuncData
  F_is_figures : Fun K "_law_is_figures" "_law_is_figures" s_is_figures a_is_figures d_is_figures
  b_is_figures : Binds K d_is_figures ["_law_word"] []
  g_is_figures : mg "_law_is_figures" = some (.ref a_is_figures)
  a_is_label : Addr
  d_is_label : FuncData
  F_is_label : Fun K "_law_is_label" "_law_is_label" s_is_label a_is_label d_is_label
  b_is_label : Binds K d_is_label ["_law_odd_here"] []
  g_is_label : mg "_law_is_label" = some (.ref a_is_label)
  a_is_ros : Addr
  d_is_ros : FuncData
  F_is_ros : Fun K "_law_is_ros" "_law_is_ros" s_is_ros a_is_ros d_is_ros
  b_is_ros : Binds K d_is_ros ["_law_odd_here"] []
  g_is_ros : mg "_law_is_ros" = some (.ref a_is_ros)
  a_size : Addr
  d_size : FuncData
  F_size : Fun K "_law_size" "_law_size" s_size a_size d_size
  b_size : Binds K d_size ["_law_odd_here"] []
  g_size : mg "_law_size" = some (.ref a_size)
  a_is_it : Addr
  d_is_it : FuncData
  F_is_it : Fun K "_law_is_it" "_law_is_it" s_is_it a_is_it d_is_it
  b_is_it : Binds K d_is_it ["_law_odd_here"] []
  g_is_it : mg "_law_is_it" = some (.ref a_is_it)
  a_is_plain : Addr
  d_is_plain : FuncData
  F_is_plain : Fun K "_law_is_plain" "_law_is_plain" s_is_plain a_is_plain d_is_plain
  b_is_plain : Binds K d_is_plain ["_law_odd_here", "_law_deep"] []
  g_is_plain : mg "_law_is_plain" = some (.ref a_is_plain)
  a_is_sheet : Addr
  d_is_sheet : FuncData
  F_is_sheet : Fun K "_law_is_sheet" "_law_is_sheet" s_is_sheet a_is_sheet d_is_sheet
  b_is_sheet : Binds K d_is_sheet ["_law_odd_here"] []
  g_is_sheet : mg "_law_is_sheet" = some (.ref a_is_sheet)
  a_plain : Addr
  d_plain : FuncData
  F_plain : Fun K "_law_plain" "_law_plain" s_plain a_plain d_plain
  b_plain : Binds K d_plain ["_law_box", "_law_deep"] []
  g_plain : mg "_law_plain" = some (.ref a_plain)
  a_odd : Addr
  d_odd : FuncData
  F_odd : Fun K "_law_odd" "_law_odd" s_odd a_odd d_odd
  b_odd : Binds K d_odd ["_law_box", "_law_some"] []
  g_odd : mg "_law_odd" = some (.ref a_odd)
  a_bent : Addr
  d_bent : FuncData
  F_bent : Fun K "_law_bent" "_law_bent" s_bent a_bent d_bent
  b_bent : Binds K d_bent ["_law_box", "_law_some"] []
  g_bent : mg "_law_bent" = some (.ref a_bent)
  a_deep_one : Addr
  d_deep_one : FuncData
  F_deep_one : Fun K "_law_deep_one" "_law_deep_one" s_deep_one a_deep_one d_deep_one
  b_deep_one : Binds K d_deep_one ["_law_count", "_law_wide"] []
  g_deep_one : mg "_law_deep_one" = some (.ref a_deep_one)
  a_right : Addr
  d_right : FuncData
  F_right : Fun K "_law_right" "_law_right" s_right a_right d_right
  b_right : Binds K d_right ["_law_box"] []
  g_right : mg "_law_right" = some (.ref a_right)
  a_law : Addr
  d_law : FuncData
  F_law : Fun K "law" "law" s_law a_law d_law
  b_law : Binds K d_law ["_law_script"] []
  g_law : mg "law" = some (.ref a_law)
  n_abs : mg "abs" = none
  n_all : mg "all" = none
  n_bool : mg "bool" = none
  n_enumerate : mg "enumerate" = none
  n_int : mg "int" = none
  n_isinstance : mg "isinstance" = none
  n_len : mg "len" = none
  n_list : mg "list" = none
  n_max : mg "max" = none
  n_range : mg "range" = none
  n_repr : mg "repr" = none
  n_sorted : mg "sorted" = none
  n_str : mg "str" = none
  n_sum : mg "sum" = none
  n_tuple : mg "tuple" = none
  n_zip : mg "zip" = none
  a_KEYWORDS : Addr
  g_KEYWORDS : mg "KEYWORDS" = some (.ref a_KEYWORDS)
  s_KEYWORDS : ∀ H : Hp, SqT K H a_KEYWORDS ((["fun", "rec", "call", "let", "plus", "less", "times", "below", "if", "two", "first", "second", "ask", "askof", "past", "pastof", "deep", "shallow", "under", "many", "quick", "end", "ward", "number", "pair"] : List Str).map V.str)
  u_LETTERS : Value
  g_LETTERS : mg "LETTERS" = some u_LETTERS
  r_LETTERS : RelV (.str "abcdefghijklmnopqrstuvwxyz") u_LETTERS
  u_MOST_LETTERS : Value
  g_MOST_LETTERS : mg "MOST_LETTERS" = some u_MOST_LETTERS
  r_MOST_LETTERS : RelV (.int 6) u_MOST_LETTERS
  u_FIGURES : Value
  g_FIGURES : mg "FIGURES" = some u_FIGURES
  r_FIGURES : RelV (.str "0123456789") u_FIGURES
  u_MOST_KIND_PARTS : Value
  g_MOST_KIND_PARTS : mg "MOST_KIND_PARTS" = some u_MOST_KIND_PARTS
  r_MOST_KIND_PARTS : RelV (.int 40) u_MOST_KIND_PARTS
  u_MOST_KIND_DEEP : Value
  g_MOST_KIND_DEEP : mg "MOST_KIND_DEEP" = some u_MOST_KIND_DEEP
  r_MOST_KIND_DEEP : RelV (.int 8) u_MOST_KIND_DEEP
  u_MOST_LABELS : Value
  g_MOST_LABELS : mg "MOST_LABELS" = some u_MOST_LABELS
  r_MOST_LABELS : RelV (.int 8) u_MOST_LABELS
  u_MOST_DEEDS : Value
  g_MOST_DEEDS : mg "MOST_DEEDS" = some u_MOST_DEEDS
  r_MOST_DEEDS : RelV (.int 6) u_MOST_DEEDS
  u_MOST_SHEET_DEEP : Value
  g_MOST_SHEET_DEEP : mg "MOST_SHEET_DEEP" = some u_MOST_SHEET_DEEP
  r_MOST_SHEET_DEEP : RelV (.int 4) u_MOST_SHEET_DEEP
end K10

/-! K10: what is drawn -/
namespace K10
open PySem L2 Grd
open Evl (Ex ex_t ex_l ex_rd)

/-- the box of draws: c bounds how often it was mixed -/
def Bx (H : Hp) (b : Addr) (c : Nat) : Prop := ∃ x y z : Int, H b = some (.lst [.int x, .int y, .int z]) ∧ 0 ≤ y ∧ y < 2305843010000000000 ∧ 0 ≤ z ∧ z ≤ (c : Int)
def But (b : Addr) (H H' : Hp) : Prop := ∀ a o, a ≠ b → H a = some o → H' a = some o
theorem But.refl (b : Addr) (H : Hp) : But b H H := fun _ _ _ e => e
theorem But.trans {b : Addr} {H H1 H2 : Hp} (x : But b H H1) (y : But b H1 H2) : But b H H2 := fun a o n e => y a o n (x a o n e)
theorem But.of_ex {b : Addr} {H H' : Hp} (x : Ex H H') : But b H H' := fun a o _ e => x a o e
theorem But.upd {b : Addr} {H : Hp} {o : HO} : But b H (upd H b o) := fun a u n e => by rw [upd_ne n]; exact e
theorem Bx.mono {H : Hp} {b : Addr} {c d : Nat} (h : Bx H b c) (le : c ≤ d) : Bx H b d := by
  obtain ⟨x, y, z, e, h1, h2, h3, h4⟩ := h
  exact ⟨x, y, z, e, h1, h2, h3, by omega⟩
theorem Bx.ex {H H' : Hp} {b : Addr} {c : Nat} (h : Bx H b c) (e : Ex H H') : Bx H' b c := by
  obtain ⟨x, y, z, q, r⟩ := h
  exact ⟨x, y, z, e _ _ q, r⟩
theorem Bx.ne {H : Hp} {b a : Addr} {c : Nat} (h : Bx H b c) {o : HO} (e : H a = some o) (n : ∀ xs, o ≠ .lst xs) : a ≠ b := by
  obtain ⟨x, y, z, q, r⟩ := h
  exact ne_of e q (n _)
theorem But.ts {K : PySem.W.Frag} {b : Addr} {H H' : Hp} {c : Nat} (h : But b H H') (k : Bx H b c) : Ts K H H' := by
  rintro a xs ((q | ⟨o, q⟩) | q)
  · exact .inl (.inl (h _ _ (k.ne q (fun _ z => by cases z)) q))
  · exact .inl (.inr ⟨o, h _ _ (k.ne q (fun _ z => by cases z)) q⟩)
  · exact .inr q
theorem But.sq {K : PySem.W.Frag} {b a : Addr} {H H' : Hp} {xs : List V} (h : But b H H') (n : a ≠ b) (q : SqL K H a xs) : SqL K H' a xs := by
  rcases q with (q | ⟨o, q⟩) | q
  · exact .inl (.inl (h _ _ n q))
  · exact .inl (.inr ⟨o, h _ _ n q⟩)
  · exact .inr q

def sp_take : Sp := fun vs H Q _ => ∃ (b : Addr) (m : Int) (c : Nat), vs = [.ref b, .int m] ∧ Bx H b c ∧ c < 1000000 ∧ 0 < m ∧ m < 1073741824 ∧
  ∀ r H', 0 ≤ r → r < m → But b H H' → Bx H' b (c + 1) → Q (.int r) H'
section
variable {P : Program} {w : World} {K : PySem.W.Frag} {mg : Str → Option Value} {base : Heap}
theorem ok_take (T : Txt K mg) : Fn P w K mg base CX0 1 T.a_take T.d_take ["_law_box", "_law_many"] sp_take := by
  refine Grd.mk T.F_take sctake (fun vs H Q E h => ?_) (fun cdv A outer s H vs Q E gd hr h => ?_)
  · obtain ⟨b, m, c, rfl, _⟩ := h
    rfl
  obtain ⟨b, m, c, rfl, ⟨x, y, z, hb, y0, y1, z0, z1⟩, hc, m0, m1, q⟩ := h
  refine ⟨_, (pss_cons (ps_if (pt_cmpR op_gt (pe_ix ix_list (pv 0) pe_int (fun _ _ => rfl)) pe_int (nomark _)) (pss_cons (ps_set (i := 2) sctake.nd rfl (Or.inl rfl) (pe_op op_mod (pe_ix ix_list (pv 0) pe_int (fun _ _ => rfl)) (pv 1)))
      (pss_cons (ps_asg (pe_op op_fdiv (pe_ix ix_list (pv 0) pe_int (fun _ _ => rfl)) (pv 1)) (pg_sub (pv 0) pe_int set_list))
      (pss_one (ps_ret (pv 2))))) pss_nil)
      (pss_cons (ps_asg (pe_op op_add (pe_ix ix_list (pv 0) pe_int (fun _ _ => rfl)) pe_int) (pg_sub (pv 0) pe_int set_list))
      (pss_cons (ps_set (i := 3) sctake.nd rfl (Or.inl rfl) (pe_op op_mod (pe_op op_pow (pe_op op_add (pe_ix ix_list (pv 0) pe_int (fun _ _ => rfl)) (pe_op op_mul pe_int (pe_ix ix_list (pv 0) pe_int (fun _ _ => rfl)))) pe_int) pe_int))
      (pss_cons (ps_set (i := 4) sctake.nd rfl (Or.inl rfl) (pe_op op_mod (pe_op op_mul (pe_op op_add (pe_op op_add (pv 3) (pe_ix ix_list (pv 0) pe_int (fun _ _ => rfl))) (pe_op op_fdiv (pe_ix ix_list (pv 0) pe_int (fun _ _ => rfl)) pe_int)) (pe_op op_add (pe_op op_add (pe_op op_mod (pv 3) pe_int) pe_int) (pe_ix ix_list (pv 0) pe_int (fun _ _ => rfl)))) pe_int))
      (pss_one (ps_ret (pe_op op_mod (pe_op op_fdiv (pe_op op_mod (pe_op op_add (pe_op op_mul (pv 4) pe_int) (pv 3)) pe_int) pe_int) (pv 1)))))))), ?_⟩
  refine ⟨_, rfl, b, _, _, _, rfl, rfl, SqL.of hb, rfl, _, _, rfl, rfl, _, rfl, ?_⟩
  refine ite2 (fun t => ?_) (fun t => ?_)
  · refine ⟨_, rfl, b, _, _, _, rfl, rfl, SqL.of hb, rfl, _, rfl, _, _, rfl, rfl, m0, ?_⟩
    refine ⟨_, rfl, b, _, _, _, rfl, rfl, SqL.of hb, rfl, _, rfl, _, _, rfl, rfl, ⟨m0, m1⟩, _, rfl, b, _, _, _, rfl, rfl, hb, rfl, ?_⟩
    refine ⟨_, rfl, q _ _ (Int.emod_nonneg _ (by omega)) (Int.emod_lt_of_pos _ m0) But.upd ⟨_, y, z, upd_same, y0, y1, z0, by omega⟩⟩
  · refine ⟨_, rfl, b, _, _, _, rfl, rfl, SqL.of hb, rfl, _, _, rfl, rfl, _, rfl, b, _, _, _, rfl, rfl, hb, rfl, ?_⟩
    generalize eH : upd H b _ = H1
    have h1 : H1 b = some (.lst [.int x, .int y, .int (z + 1)]) := by rw [← eH]; exact upd_same
    have bu : But b H H1 := by rw [← eH]; exact But.upd
    refine ⟨_, rfl, b, _, _, _, rfl, rfl, SqL.of h1, rfl, _, rfl, b, _, _, _, rfl, rfl, SqL.of h1, rfl, _, _, rfl, rfl, .inl ⟨by decide, by decide⟩, _, _, rfl, rfl, _, _, rfl, rfl, ⟨by decide, by decide, by omega⟩, _, _, rfl, rfl, (by show (0 : Int) < 2147483647; decide), ?_⟩
    generalize eo : (y + 39373 * (z + 1)) ^ (5 : Int).toNat % 2147483647 = o
    have o0 : 0 ≤ o := by rw [← eo]; exact Int.emod_nonneg _ (by decide)
    have o1 : o < 2147483647 := by rw [← eo]; exact Int.emod_lt_of_pos _ (by decide)
    have yd : 0 ≤ y / 1000003 := Int.ediv_nonneg y0 (by decide)
    have yd2 : y / 1000003 ≤ y := Int.ediv_le_self _ y0
    refine ⟨_, rfl, _, rfl, b, _, _, _, rfl, rfl, SqL.of h1, rfl, _, _, rfl, rfl, _, rfl, b, _, _, _, rfl, rfl, SqL.of h1, rfl, _, _, rfl, rfl, ⟨by decide, by decide⟩, _, _, rfl, rfl,
      _, rfl, _, _, rfl, rfl, (by show (0 : Int) < 40009; decide), _, _, rfl, rfl, _, rfl, b, _, _, _, rfl, rfl, SqL.of h1, rfl, _, _, rfl, rfl, _, _, rfl, rfl, .inl ⟨by omega, by omega⟩, _, _, rfl, rfl, (by show (0 : Int) < 2147483629; decide), ?_⟩
    refine ⟨_, rfl, _, _, rfl, rfl, .inr ⟨by decide, by decide⟩, _, rfl, _, _, rfl, rfl, _, _, rfl, rfl, (by show (0 : Int) < 2147483587; decide), _, _, rfl, rfl, ⟨by decide, by decide⟩, _, rfl, _, _, rfl, rfl, m0, ?_⟩
    exact q _ _ (Int.emod_nonneg _ (by omega)) (Int.emod_lt_of_pos _ m0) bu ⟨x, y, z + 1, h1, y0, y1, by omega, by omega⟩
end
end K10

/-! K10: boxes, folded cells, one of some -/
namespace K10
open PySem L2 Grd
open Evl (Ex ex_t ex_l ex_rd)
section
variable {P : Program} {w : World} {K : PySem.W.Frag} {mg : Str → Option Value} {base : Heap}
def sp_dip (K : PySem.W.Frag) : Sp := fun vs H Q _ => ∃ (a : Addr) (ns : List Int) (k : Int), vs = [.ref a, .int k] ∧ SqL K H a (ns.map V.int) ∧ 0 ≤ k ∧ k ≤ 100 ∧
  ∀ p H', H p = none → Ex H H' → Bx H' p 0 → Q (.ref p) H'
theorem dip_end {Q : VK} {H : Hp} {c k : Int} (k0 : 0 ≤ k) (k1 : k ≤ 100) (q : ∀ p H', H p = none → Ex H H' → Bx H' p 0 → Q (.ref p) H') (p : Addr) (hp : H p = none) (x : Int) :
    Q (.ref p) (upd H p (.lst [.int x, .int (c % 2305843009213693951 + 39373 * k + 17), .int 0])) := by
  have h0 : 0 ≤ c % 2305843009213693951 := Int.emod_nonneg _ (by decide)
  have h1 : c % 2305843009213693951 < 2305843009213693951 := Int.emod_lt_of_pos _ (by decide)
  exact q p _ hp (Ex.new hp) ⟨_, _, _, upd_same, by omega, by omega, by decide, by decide⟩
theorem b01 (b : Bool) : -(2 ^ 64) < (if b = true then 1 else 0 : Int) ∧ (if b = true then 1 else 0 : Int) < 2 ^ 64 := by cases b <;> decide
theorem ok_dip (T : Txt K mg) : Fn P w K mg base CX0 1 T.a_dip T.d_dip ["_law_script", "_law_k"] (sp_dip K) := by
  refine Grd.mk T.F_dip scdip (fun vs H Q E h => ?_) (fun cdv A outer s H vs Q E gd hr h => ?_)
  · obtain ⟨a, ns, k, rfl, _⟩ := h
    rfl
  obtain ⟨a, ns, k, rfl, hS, k0, k1, q⟩ := h
  refine ⟨_, (pss_cons (ps_set (i := 2) scdip.nd rfl (Or.inl rfl) (pe_ifExp (pt_cmpR op_lt (pv 1) (pe_callB call_len_seq (by rfl) T.n_len PySem.boot_len (pa_cons (pv 0) pa_nil)) (nomark _)) (pe_ix ix_list (pv 0) (pv 1) (fun _ _ => rfl)) pe_int))
      (pss_one (ps_ret (pe_lst (pa_cons (pe_op op_mul (pe_callB call_abs (by rfl) T.n_abs (by decide +kernel) (pa_cons (pv 2) pa_nil)) (pe_callTy call_int1 (by rfl) T.n_int (by decide +kernel) (pa_cons (pe_cmpR op_ge (pe_callB call_abs (by rfl) T.n_abs (by decide +kernel) (pa_cons (pv 2) pa_nil)) (pe_op op_pow pe_int pe_int) (nomark _)) pa_nil))) (pa_cons (pe_op op_add (pe_op op_add (pe_op op_mod (pv 2) pe_int) (pe_op op_mul pe_int (pv 1))) pe_int) (pa_cons pe_int pa_nil))))))), ?_⟩
  have rest : ∀ c : Int, tRet (tLst (tCons (tOp (rI CMul fun i j => .int (i * j)) (tCB (fun xs H Q => ∃ i, xs = [.int i] ∧ Q (.int (if i < 0 then -i else i)) H) (tCons (tVar 2) tNil))
      (tCB (fun xs H Q => (∃ i, xs = [.int i] ∧ Q (.int i) H) ∨ ∃ k, xs = [.bl k] ∧ Q (.int (if k then 1 else 0)) H)
        (tCons (tOp (rI0 fun i j => .bl (decide (j ≤ i))) (tCB (fun xs H Q => ∃ i, xs = [.int i] ∧ Q (.int (if i < 0 then -i else i)) H) (tCons (tVar 2) tNil)) (tOp (rI CPow fun i j => .int (i ^ j.toNat)) (tC (.int 10)) (tC (.int 18)))) tNil)))
      (tCons (tOp (rI0 fun i j => .int (i + j)) (tOp (rI0 fun i j => .int (i + j)) (tOp (rI (fun _ j => 0 < j) fun i j => .int (i % j)) (tVar 2) (tC (.int 2305843009213693951)))
        (tOp (rI CMul fun i j => .int (i * j)) (tC (.int 39373)) (tVar 1))) (tC (.int 17))) (tCons (tC (.int 0)) tNil)))) { nx := fun _ H' => Q .non H', rt := Q }
      [some (.ref a), some (.int k), some (.int c)] H := by
    intro c
    refine ⟨_, rfl, _, rfl, _, rfl, _, rfl, _, _, rfl, rfl, ⟨by decide, by decide, by decide⟩, _, _, rfl, rfl, .inr ⟨_, rfl, _, _, rfl, rfl, .inr ?_, _, rfl, _, _, rfl, rfl, (by show (0 : Int) < 2305843009213693951; decide), _, rfl, _, _, rfl, rfl, .inl ⟨by decide, by decide⟩, _, _, rfl, rfl, _, _, rfl, rfl, (by show 3 ≤ sizeLine; decide), fun p hp => ?_⟩⟩
    · exact b01 _
    · exact dip_end k0 k1 q p hp _
  refine ⟨_, rfl, _, rfl, a, _, rfl, .inl hS, _, _, rfl, rfl, _, rfl, ?_⟩
  refine ite2 (fun t => ?_) (fun t => ?_)
  · have t' : k < ((ns.map V.int).length : Int) := of_decide_eq_true t
    rw [List.length_map] at t'
    have hk : k.toNat < ns.length := by omega
    have at_ : atI (ns.map V.int) k = some (.int ns[k.toNat]) := at_of (j := k.toNat) (by omega) (by rw [List.getElem?_map, List.getElem?_eq_getElem hk]; rfl)
    exact ⟨_, rfl, _, rfl, a, _, _, _, rfl, rfl, hS, at_, rest _⟩
  · exact rest 0

/-- the first numbers, the rest added on -/
def sp_folded (K : PySem.W.Frag) : Sp := fun vs H Q _ => ∃ (a : Addr) (ns : List Int) (n : Nat), vs = [.ref a, .int (n : Int)] ∧ SqL K H a (ns.map V.int) ∧ ns.length ≤ 63 ∧ 0 < n ∧ n ≤ 62 ∧
  ∀ p H' (ms : List Int), H p = none → Ex H H' → ms.length ≤ n → H' p = some (.lst (ms.map V.int)) → Q (.ref p) H'
theorem cut_pre (ns : List Int) (n : Nat) : cutV (ns.map V.int) none (some (n : Int)) = (ns.take n).map V.int := by
  unfold cutV
  rw [HT.sIx_none, HT.sIx_nat, List.length_map, List.drop_zero, ← List.map_take]
  congr 1
  rw [Nat.sub_zero]
  rcases Nat.le_total n ns.length with h | h
  · rw [Nat.min_eq_left h]
  · rw [Nat.min_eq_right h, List.take_of_length_le (Nat.le_refl _), List.take_of_length_le h]
theorem cut_ints (ns : List Int) (lo hi : Option Int) : ∃ ms : List Int, cutV (ns.map V.int) lo hi = ms.map V.int ∧ ms.length ≤ ns.length := by
  have h := cutV_length (ns.map V.int) lo hi
  unfold cutV at *
  rw [← List.map_drop, ← List.map_take] at *
  exact ⟨_, rfl, by simpa using h⟩
theorem cut_mid (ns : List Int) (n : Nat) (h : ns.length ≤ n) : cutV (ns.map V.int) (some (n : Int)) (some 63) = [] := by
  unfold cutV
  rw [HT.sIx_nat, List.length_map, Nat.min_eq_right h, List.drop_of_length_le (by simp), List.take_nil]
theorem getI {ns : List Int} {i : Nat} {x : V} (h : (ns.map V.int)[i]? = some x) : ∃ m, ns[i]? = some m ∧ x = .int m := by
  rw [List.getElem?_map] at h
  cases e : ns[i]? with
  | none => rw [e] at h; cases h
  | some m => rw [e] at h; cases h; exact ⟨m, rfl, rfl⟩
theorem ok_folded (T : Txt K mg) : Fn P w K mg base CX0 1 T.a_folded T.d_folded ["_law_script", "_law_size_here"] (sp_folded K) := by
  refine Grd.mk T.F_folded scfolded (fun vs H Q E h => ?_) (fun cdv A outer s H vs Q E gd hr h => ?_)
  · obtain ⟨a, ns, n, rfl, _⟩ := h
    rfl
  obtain ⟨a, ns, n, rfl, hS, h63, n0, n1, q⟩ := h
  refine ⟨_, (pss_cons (ps_set (i := 2) scfolded.nd rfl (Or.inl rfl) (pe_callTy call_list_of (by rfl) T.n_list (by decide +kernel) (pa_cons (pe_slice sl_list (pv 0) po_none (po_some (pv 1))) pa_nil)))
      (pss_cons (ps_for PassesOwn.never rfl (pi_enum (by rfl) T.n_enumerate (pa_cons (pe_slice sl_list (pv 0) (po_some (pv 1)) (po_some pe_int)) pa_nil)) (pg_tup rfl (pgs_cons (pg_name (i := 3) scfolded.nd rfl (Or.inl rfl)) (pgs_cons (pg_name (i := 4) scfolded.nd rfl (Or.inl rfl)) pgs_nil))) (pss_one (ps_asg (pe_op op_add (pe_ix ix_list (pv 2) (pe_op op_mod (pv 3) (pv 1)) (fun _ _ => rfl)) (pe_op op_mul (pv 4) (pe_op op_add (pv 3) pe_int))) (pg_sub (pv 2) (pe_op op_mod (pv 3) (pv 1)) set_list))))
      (pss_one (ps_ret (pv 2))))), ?_⟩
  refine ⟨_, rfl, _, rfl, _, rfl, a, _, rfl, hS, fun p hp => ?_⟩
  refine ⟨p, _, rfl, .inl (SqL.of upd_same), fun c hc => ?_⟩
  have e1 : Ex H (upd (upd H p (.lst (cutV (ns.map V.int) none (some (n : Int))))) c (.lst (cutV (ns.map V.int) none (some (n : Int))))) := (Ex.new hp).trans (Ex.new hc)
  have hc0 : H c = none := Evl.fresh_back (Ex.new hp) hc
  have hcv : (upd (upd H p (.lst (cutV (ns.map V.int) none (some (n : Int))))) c (.lst (cutV (ns.map V.int) none (some (n : Int))))) c = some (.lst ((ns.take n).map V.int)) := by rw [upd_same, cut_pre]
  generalize upd (upd H p (.lst (cutV (ns.map V.int) none (some (n : Int))))) c (.lst (cutV (ns.map V.int) none (some (n : Int)))) = H1 at e1 hcv ⊢
  refine ⟨_, rfl, _, rfl, _, rfl, _, rfl, a, _, rfl, ex_l e1 hS, fun d hd => ?_⟩
  obtain ⟨ms, em, lm⟩ := cut_ints ns (some (n : Int)) (some 63)
  have ed : (upd H1 d (.lst (cutV (ns.map V.int) (some (n : Int)) (some 63)))) d = some (.lst (ms.map V.int)) := by rw [upd_same, em]
  have ncd : c ≠ d := ne_of_none hcv hd
  have hcv2 : (upd H1 d (.lst (cutV (ns.map V.int) (some (n : Int)) (some 63)))) c = some (.lst ((ns.take n).map V.int)) := by rw [upd_ne ncd]; exact hcv
  have e2 : Ex H (upd H1 d (.lst (cutV (ns.map V.int) (some (n : Int)) (some 63)))) := e1.trans (Ex.new hd)
  have hd0 : H d = none := Evl.fresh_back e1 hd
  generalize upd H1 d (.lst (cutV (ns.map V.int) (some (n : Int)) (some 63))) = H2 at ed hcv2 e2 ⊢
  refine ⟨d, _, rfl, SqL.of ed, for_it (walk_enum (xs := ms.map V.int)) (fun i σ H' => ∃ (u v : Option V) (cs : List Int), σ = [some (.ref a), some (.int (n : Int)), some (.ref c), u, v] ∧ Ex H H' ∧ H' d = some (.lst (ms.map V.int)) ∧ H' c = some (.lst (cs.map V.int)) ∧ cs.length = (ns.take n).length)
    ⟨none, none, _, rfl, e2, ed, hcv2, rfl⟩ (fun i σ H' _ ⟨_, _, _, _, _, h, _⟩ => SqL.of h) ?_ ?_⟩
  · rintro i x σ H3 H4 hi ⟨u, v, cs, rfl, e3, hd3, hc3, lc⟩ ⟨t, y, z, rfl, ht, rfl, ey, ez⟩
    cases ey
    obtain ⟨m, em2, rfl⟩ := getI (show (ms.map V.int)[i]? = some z from ez)
    · have full : n ≤ ns.length := by
        rcases Nat.lt_or_ge ns.length n with h | h
        · have z := cut_mid ns n (Nat.le_of_lt h)
          rw [em] at z
          rw [List.map_eq_nil_iff] at z
          rw [z] at hi
          simp at hi
        · exact h
      have lcs : cs.length = n := by rw [lc, List.length_take]; omega
      have hlt : i % n < cs.length := by rw [lcs]; exact Nat.mod_lt _ n0
      have im : ((i : Nat) : Int) % (n : Int) = ((i % n : Nat) : Int) := by simp
      have nct : c ≠ t := ne_of_none hc3 ht
      have ndt : d ≠ t := ne_of_none hd3 ht
      have hc4 : (upd H3 t (.tup [.int ((i : Nat) : Int), .int m])) c = some (.lst (cs.map V.int)) := by rw [upd_ne nct]; exact hc3
      have hd4 : (upd H3 t (.tup [.int ((i : Nat) : Int), .int m])) d = some (.lst (ms.map V.int)) := by rw [upd_ne ndt]; exact hd3
      have e4 : Ex H (upd H3 t (.tup [.int ((i : Nat) : Int), .int m])) := e3.trans (Ex.new ht)
      have at_ : atI (cs.map V.int) (((i : Nat) : Int) % (n : Int)) = some (.int cs[i % n]) := at_of (j := i % n) im (by rw [List.getElem?_map, List.getElem?_eq_getElem hlt]; rfl)
      have ix_ : ixN (cs.map V.int).length (((i : Nat) : Int) % (n : Int)) = some (i % n) := by
        rw [im, List.length_map]
        exact Evl.ixN_nat hlt
      have i63 : i < 63 := by
        have : ms.length ≤ 63 := by omega
        rw [List.length_map] at hi
        omega
      refine ⟨t, _, rfl, SqT.of upd_same, rfl, _, _, rfl, _, _, rfl, rfl, ?_⟩
      refine ⟨_, rfl, _, rfl, _, rfl, _, _, rfl, rfl, (by show (0 : Int) < (n : Int); omega), c, _, _, _, rfl, rfl, SqL.of hc4, at_, _, rfl, _, rfl, _, _, rfl, rfl, _, _, rfl, rfl, .inr ⟨by omega, by omega⟩, _, _, rfl, rfl,
        _, rfl, _, rfl, _, rfl, _, _, rfl, rfl, (by show (0 : Int) < (n : Int); omega), c, _, _, _, rfl, rfl, hc4, ix_, ?_⟩
      refine ⟨_, _, cs.set (i % n) (cs[i % n] + m * (((i : Nat) : Int) + 2)), rfl, e4.mut hc0, ?_, ?_, by rw [List.length_set]; exact lc⟩
      · rw [upd_ne ncd.symm]
        exact hd4
      · rw [upd_same, List.map_set]
  · rintro σ H3 ⟨u, v, cs, rfl, e3, hd3, hc3, lc⟩
    exact ⟨_, rfl, q c H3 cs hc0 e3 (by rw [lc, List.length_take]; omega) hc3⟩
end
end K10

/-! K10: names, labels, rosters, kinds as they are drawn -/
namespace K10
open PySem L2 Grd
open PyProof.Rows (sortedS)
open Evl (Ex ex_t ex_l ex_rd)

/-- a text of at most n signs -/
def Sg (n : Nat) (s : Str) : Prop := s.length ≤ n ∧ ∀ c ∈ s.cps.toList, c < 0x110000
theorem Sg.mono {n m : Nat} {s : Str} (h : Sg n s) (le : n ≤ m) : Sg m s := ⟨Nat.le_trans h.1 le, h.2⟩
theorem len_eq (s : Str) : s.length = s.cps.toList.length := by simp [Str.length]
theorem Sg.app {n m : Nat} {s t : Str} (h : Sg n s) (k : Sg m t) : Sg (n + m) (s ++ t) := by
  have e : (s ++ t).cps.toList = s.cps.toList ++ t.cps.toList := Array.toList_append
  refine ⟨?_, ?_⟩
  · rw [len_eq, e, List.length_append, ← len_eq, ← len_eq]
    exact Nat.add_le_add h.1 k.1
  · intro c hc
    rw [e] at hc
    exact (List.mem_append.mp hc).elim (h.2 c) (k.2 c)
theorem Sg.join0 : ∀ {ss : List Str}, (∀ s ∈ ss, Sg 1 s) → Sg ss.length (Str.join Str.empty ss)
  | [], _ => ⟨Nat.le_refl _, fun c hc => by simp [Str.join, Str.empty] at hc⟩
  | [x], h => h x (List.mem_cons_self ..)
  | x :: y :: r, h => by
    have ih := Sg.join0 (ss := y :: r) fun s hs => h s (List.mem_cons_of_mem _ hs)
    have e : Str.join Str.empty (x :: y :: r) = x ++ Str.empty ++ Str.join Str.empty (y :: r) := rfl
    rw [e]
    have z : Sg 0 Str.empty := ⟨Nat.le_refl _, fun c hc => by simp [Str.empty] at hc⟩
    have q := ((h x (List.mem_cons_self ..)).app z).app ih
    exact q.mono (by simp only [List.length_cons]; omega)
theorem Sg.cut {n : Nat} {s : Str} (h : Sg n s) (k : Nat) : Sg k (cutS s none (some (k : Int))) := by
  unfold cutS
  refine ⟨?_, ?_⟩
  · rw [len_eq]
    show List.length (List.toArray _).toList ≤ k
    rw [List.toList_toArray, HT.sIx_none, HT.sIx_nat, List.length_take]
    omega
  · intro c hc
    rw [List.toList_toArray] at hc
    exact h.2 c (List.mem_of_mem_drop (List.mem_of_mem_take hc))
abbrev abc : Str := "abcdefghijklmnopqrstuvwxyz"
theorem abc_at (i : Int) (h0 : 0 ≤ i) (h1 : i < 26) : ∃ c, atI abc.cps.toList i = some c ∧ Sg 1 ⟨#[c]⟩ := by
  have hl : abc.cps.toList.length = 26 := by decide +kernel
  have hk : i.toNat < abc.cps.toList.length := by omega
  refine ⟨abc.cps.toList[i.toNat], ?_, ?_⟩
  · have q := atI_nat (List.getElem?_eq_getElem hk)
    rw [show ((i.toNat : Nat) : Int) = i by omega] at q
    exact q
  · have al : ∀ c ∈ abc.cps.toList, c < 0x110000 := by decide +kernel
    refine ⟨Nat.le_refl _, ?_⟩
    intro c hc
    have hc' : c = abc.cps.toList[i.toNat] := by simpa using hc
    rw [hc']
    exact al _ (List.getElem_mem hk)
theorem abc_len : abc.length ≤ sizeLine := by decide +kernel
theorem flatS (ss : List Str) : (ss.map V.str).all flatV = true := by
  rw [List.all_map]
  exact List.all_eq_true.mpr fun s _ => rfl
theorem getS {ns : List Str} {i : Nat} {x : V} (h : (ns.map V.str)[i]? = some x) : ∃ m, ns[i]? = some m ∧ x = .str m := by
  rw [List.getElem?_map] at h
  cases e : ns[i]? with
  | none => rw [e] at h; cases h
  | some m => rw [e] at h; cases h; exact ⟨m, rfl, rfl⟩
/-- a place of a list of known length -/
theorem at_some {xs : List V} {r : Int} (h0 : 0 ≤ r) (h1 : r < (xs.length : Int)) : ∃ x, atI xs r = some x ∧ xs[r.toNat]? = some x := by
  have hk : r.toNat < xs.length := by omega
  have e : xs[r.toNat]? = some xs[r.toNat] := List.getElem?_eq_getElem hk
  exact ⟨_, at_of (j := r.toNat) (by omega) e, e⟩

section
variable {P : Program} {w : World} {K : PySem.W.Frag} {mg : Str → Option Value} {base : Heap}
/-! ### one of some -/
def sp_one_of (K : PySem.W.Frag) : Sp := fun vs H Q _ => ∃ (b l : Addr) (xs : List V) (c : Nat), vs = [.ref b, .ref l] ∧ Bx H b c ∧ c < 1000000 ∧ l ≠ b ∧ SqL K H l xs ∧ 0 < xs.length ∧ xs.length < 10000 ∧
  ∀ (i : Nat) (x : V) (H' : Hp), xs[i]? = some x → But b H H' → Bx H' b (c + 1) → Q x H'
theorem ok_one_of (T : Txt K mg) : Fn P w K mg base CX0 2 T.a_one_of T.d_one_of ["_law_box", "_law_some"] (sp_one_of K) := by
  have G_take := ok_take (P := P) (w := w) (base := base) T
  refine Grd.mk T.F_one_of scone_of (fun vs H Q E h => ?_) (fun cdv A outer s H vs Q E gd hr h => ?_)
  · obtain ⟨b, l, xs, c, rfl, _⟩ := h
    rfl
  obtain ⟨b, l, xs, c, rfl, hB, hc, nl, hS, l0, l1, q⟩ := h
  refine ⟨_, (pss_one (ps_ret (pe_ix ix_list (pv 1) (pe_callG G_take gd (hr.mono (by first | decide | omega)) rfl T.g_take T.F_take.kp T.b_take .nil pass0 (pa_cons (pv 0) (pa_cons (pe_callB call_len_seq (by rfl) T.n_len PySem.boot_len (pa_cons (pv 1) pa_nil)) pa_nil))) (fun _ _ => rfl)))), ?_⟩
  refine ⟨_, rfl, _, rfl, _, rfl, l, _, rfl, .inl hS, b, _, c, rfl, hB, hc, by omega, by omega, fun r H' r0 r1 bu bx => ?_⟩
  obtain ⟨x, a1, a2⟩ := at_some r0 r1
  exact ⟨l, _, _, _, rfl, rfl, bu.sq nl hS, a1, q _ x H' a2 bu bx⟩
/-! ### the words that are no names -/
def sp_keywords : Sp := fun vs H Q _ => vs = [] ∧ ∀ p H' (ss : List Str), H p = none → Ex H H' → ss.length ≤ 100 → H' p = some (.lst (ss.map V.str)) → Q (.ref p) H'
theorem ok_keywords (T : Txt K mg) : Fn P w K mg base CX0 1 T.a_keywords T.d_keywords [] sp_keywords := by
  refine Grd.mk T.F_keywords sckeywords (fun vs H Q E h => ?_) (fun cdv A outer s H vs Q E gd hr h => ?_)
  · rw [h.1]
    rfl
  obtain ⟨rfl, q⟩ := h
  refine ⟨_, (pss_cons (ps_set (i := 0) sckeywords.nd rfl (Or.inl rfl) pe_str)
      (pss_one (ps_ret (pe_split (pe_op op_add_str (pv 0) pe_str) pe_str)))), ?_⟩
  refine ⟨_, rfl, _, _, rfl, rfl, (by decide +kernel), ⟨_, rfl⟩, _, _, rfl, rfl, (by decide +kernel), (by decide +kernel), fun p hp => ?_⟩
  exact q p _ _ hp (Ex.new hp) (by decide +kernel) upd_same
/-! ### names -/
def sp_named (K : PySem.W.Frag) : Sp := fun vs H Q _ => ∃ (b : Addr) (m c : Nat), vs = [.ref b, .int (m : Int)] ∧ Bx H b c ∧ m ≤ 10 ∧ c < 900000 ∧
  ∀ p H' (ss : List Str), H p = none → But b H H' → Bx H' b (c + 7 * m) → ss.length = m → (∀ s ∈ ss, Sg 6 s) → H' p = some (.lst (ss.map V.str)) → Q (.ref p) H'
theorem four_at {r : Int} (h0 : 0 ≤ r) (h1 : r < 4) : ∃ v : Nat, atI [V.int 1, V.int 2, V.int 3, V.int 6] r = some (.int (v : Int)) ∧ v ≤ 6 := by
  have h : r = 0 ∨ r = 1 ∨ r = 2 ∨ r = 3 := by omega
  rcases h with rfl | rfl | rfl | rfl
  · exact ⟨1, rfl, by decide⟩
  · exact ⟨2, rfl, by decide⟩
  · exact ⟨3, rfl, by decide⟩
  · exact ⟨6, rfl, by decide⟩
theorem ok_named (T : Txt K mg) : Fn P w K mg base CX0 2 T.a_named T.d_named ["_law_box", "_law_many"] (sp_named K) := by
  have G_take := ok_take (P := P) (w := w) (base := base) T
  have G_keywords := ok_keywords (P := P) (w := w) (base := base) T
  refine Grd.mk T.F_named scnamed (fun vs H Q E h => ?_) (fun cdv A outer s H vs Q E gd hr h => ?_)
  · obtain ⟨b, m, c, rfl, _⟩ := h
    rfl
  obtain ⟨b, m, c, rfl, hB, m1, hc, q⟩ := h
  refine ⟨_, (pss_cons (ps_asg (pe_tup (pa_cons pe_str (pa_cons (pe_lst pa_nil) pa_nil))) (pg_tup rfl (pgs_cons (pg_name (i := 2) scnamed.nd rfl (Or.inr rfl)) (pgs_cons (pg_name (i := 3) scnamed.nd rfl (Or.inl rfl)) pgs_nil))))
      (pss_cons (ps_for PassesOwn.never rfl (pi_range1 (by rfl) T.n_range (pa_cons (pv 1) pa_nil)) (pg_name (i := 4) scnamed.nd rfl (Or.inl rfl)) (pss_cons (ps_set (i := 5) scnamed.nd rfl (Or.inl rfl) (pe_join pe_str (pe_lc (own := [("_law_turn", 6)]) (by rfl) scnamed.nd (pi_range1 (by rfl) T.n_range (pa_cons (pe_ix ix_list (pe_lst (pa_cons pe_int (pa_cons pe_int (pa_cons pe_int (pa_cons pe_int pa_nil))))) (pe_callG G_take gd (hr.mono (by first | decide | omega)) rfl T.g_take T.F_take.kp T.b_take .nil pass0 (pa_cons (pv 0) (pa_cons pe_int pa_nil))) (fun _ _ => rfl)) pa_nil)) (blkOk_by (own := [("_law_turn", 6)]) (N := ["_law_box", "_law_many", "_law_letters", "_law_found", "_law_k", "_law_one", "_law_turn"]) (sc := defScope s_named) (by decide +kernel)) (fun _ _ _ _ _ => (pg_name (i := 6) scnamed.nd rfl (Or.inl rfl))) (fun _ _ _ _ _ => pts_nil) (fun _ _ _ _ _ => (pe_ix ix_str (pv 2) (pe_callG G_take gd (hr.mono (by first | decide | omega)) rfl T.g_take T.F_take.kp T.b_take .nil pass0 (pa_cons (pv 0) (pa_cons pe_int pa_nil))) (fun _ _ => rfl))))))
      (pss_cons (ps_for PassesOwn.never rfl (pi_range1 (by rfl) T.n_range (pa_cons (pe_op op_add (pe_callB call_len_seq (by rfl) T.n_len PySem.boot_len (pa_cons (pv 3) pa_nil)) pe_int) pa_nil)) (pg_name (i := 6) scnamed.nd rfl (Or.inl rfl)) (pss_one (ps_if (pt_cmpR op_in_seq (pv 5) (pe_op op_cat (pv 3) (pe_callG0 G_keywords gd (hr.mono (by first | decide | omega)) rfl T.g_keywords T.F_keywords.kp T.b_keywords .nil pass0)) (by rfl)) (pss_one (ps_set (i := 5) scnamed.nd rfl (Or.inl rfl) (pe_op op_add_str (pe_op op_add_str (pe_slice sl_str (pv 5) po_none (po_some pe_int)) (pe_ix ix_str (pv 2) (pe_op op_fdiv (pv 6) pe_int) (fun _ _ => rfl))) (pe_ix ix_str (pv 2) (pe_op op_mod (pv 6) pe_int) (fun _ _ => rfl))))) pss_nil)))
      (pss_one (ps_expr (pe_bm PySem.F.plainAttrs_list PySem.F.slot_list_append PySem.F.type_list_append mt_append (pv 3) (pa_cons (pv 5) pa_nil)))))))
      (pss_one (ps_ret (pv 3))))), ?_⟩
  refine ⟨Nat.zero_le _, fun f hf => ⟨(by show 2 ≤ sizeLine; decide), fun t ht => ?_⟩⟩
  refine ⟨t, _, rfl, SqT.of upd_same, rfl, _, _, rfl, _, _, rfl, rfl, ?_⟩
  have hf0 : H f = none := hf
  have nft : f ≠ t := fun z => by rw [z, upd_same] at ht; cases ht
  have hfv : (upd (upd H f (.lst [])) t (.tup [.str abc, .ref f])) f = some (.lst (([] : List Str).map V.str)) := by rw [upd_ne nft, upd_same]; rfl
  have e1 : Ex H (upd (upd H f (.lst [])) t (.tup [.str abc, .ref f])) := (Ex.new hf).trans (Ex.new ht)
  have B1 : Bx (upd (upd H f (.lst [])) t (.tup [.str abc, .ref f])) b c := hB.ex e1
  generalize upd (upd H f (.lst [])) t (.tup [.str abc, .ref f]) = H1 at hfv e1 B1 ⊢
  have nbf : b ≠ f := by
    obtain ⟨x, y, z, hb, _⟩ := hB
    exact ne_of_none hb hf0
  refine ⟨_, rfl, (m : Int), rfl, by omega, by omega, for_range (fun i σ H' => ∃ (ss : List Str) (u4 u5 u6 : Option V), σ = [some (.ref b), some (.int (m : Int)), some (.str abc), some (.ref f), u4, u5, u6] ∧ But b H H' ∧ Bx H' b (c + 7 * i) ∧ ss.length = i ∧ (∀ s ∈ ss, Sg 6 s) ∧ H' f = some (.lst (ss.map V.str)))
    ⟨[], none, none, none, rfl, But.of_ex e1, B1, rfl, by simp, hfv⟩ ?_ ?_⟩
  · rintro i σ H2 hi ⟨ss, u4, u5, u6, rfl, bu, bx, ls, hss, hf2⟩
    have him : i < m := by omega
    have cb : c + 7 * i < 990000 := by omega
    -- ''.join([..])
    refine ⟨⟨_, rfl⟩, (by show 4 ≤ sizeLine; decide), fun l hl => ?_⟩
    have el : Ex H2 (upd H2 l (.lst [.int 1, .int 2, .int 3, .int 6])) := Ex.new hl
    have nlb : l ≠ b := by
      obtain ⟨x, y, z, hb, _⟩ := bx
      exact fun z => by rw [z, hb] at hl; cases hl
    refine ⟨_, rfl, b, 4, c + 7 * i, rfl, bx.ex el, by omega, by decide, by decide, fun r H3 r0 r1 bu3 bx3 => ?_⟩
    obtain ⟨v, av, v6⟩ := four_at r0 r1
    have hl3 : H3 l = some (.lst [.int 1, .int 2, .int 3, .int 6]) := bu3 _ _ nlb upd_same
    refine ⟨l, _, _, _, rfl, rfl, SqL.of hl3, av, (v : Int), rfl, by omega, by omega, fun D hD => ?_⟩
    have nDb : D ≠ b := by
      obtain ⟨x, y, z, hb, _⟩ := bx3
      exact fun z => by rw [z, hb] at hD; cases hD
    have bu23 : But b H2 H3 := (But.of_ex el).trans bu3
    have hf3 : H3 f = some (.lst (ss.map V.str)) := bu23 _ _ nbf.symm hf2
    refine lc_range (fun j H' => ∃ ts : List Str, H' D = some (.lst (ts.map V.str)) ∧ ts.length = j ∧ (∀ s ∈ ts, Sg 1 s) ∧ But b H3 H' ∧ Bx H' b (c + 7 * i + 1 + j)) ?_ ?_ ?_
    · exact ⟨[], upd_same, rfl, by simp, But.of_ex (Ex.new hD), bx3.ex (Ex.new hD)⟩
    · rintro j H4 hj ⟨ts, hD4, lt, hts, bu4, bx4⟩
      have hj6 : j < v := by omega
      refine ⟨rfl, ?_⟩
      refine ⟨_, rfl, _, rfl, b, 26, _, rfl, bx4, by omega, by decide, by decide, fun r' H5 r0' r1' bu5 bx5 => ?_⟩
      obtain ⟨ch, ac, sg⟩ := abc_at r' r0' r1'
      refine ⟨abc, _, ch, rfl, rfl, abc_len, ac, ts.map V.str, bu5 _ _ nDb hD4, ?_, ts ++ [⟨#[ch]⟩], ?_, ?_, ?_, ?_, ?_⟩
      · rw [List.length_map, lt]; exact small1000 (by omega)
      · rw [upd_same, List.map_append]; rfl
      · rw [List.length_append, lt]; rfl
      · intro s hs
        rcases List.mem_append.mp hs with h | h
        · exact hts s h
        · rw [List.mem_singleton.mp h]; exact sg
      · intro a o na e
        have nD : a ≠ D := fun z => by rw [z, hD] at e; cases e
        rw [upd_ne nD]
        exact bu5 _ _ na (bu4 _ _ na e)
      · obtain ⟨x, y, z, hb, q1⟩ := bx5
        exact ⟨x, y, z, by rw [upd_ne nDb.symm]; exact hb, by omega⟩
    · rintro H4 ⟨ts, hD4, lt, hts, bu4, bx4⟩
      have lv : ts.length ≤ 6 := by omega
      have sgj : Sg 6 (Txt.join "" ts) := by
        have e0 : ("" : Str) = Str.empty := by decide +kernel
        rw [TL.join_eq, e0]
        exact (Sg.join0 hts).mono lv
      have hsum : (ts.map (·.length)).sum + ts.length * ("" : Str).length ≤ 16777216 := by
        have hs : ∀ (l : List Str), (∀ s ∈ l, Sg 1 s) → (l.map (·.length)).sum ≤ l.length := by
          intro l
          induction l with
          | nil => intro _; exact Nat.le_refl _
          | cons a r ih =>
            intro h
            have h1 := (h a (List.mem_cons_self ..)).1
            have h2 := ih fun s hs => h s (List.mem_cons_of_mem _ hs)
            simp only [List.map_cons, List.sum_cons, List.length_cons]
            omega
        have h1 := hs ts hts
        have h2 : ("" : Str).length = 0 := by decide +kernel
        rw [h2]
        omega
      refine ⟨_, D, ts, rfl, rfl, .inl (SqL.of hD4), hsum, ?_⟩
      generalize Txt.join "" ts = one at sgj
      have hf4 : H4 f = some (.lst (ss.map V.str)) := bu4 _ _ nbf.symm hf3
      have bu24 : But b H H4 := (bu.trans bu23).trans bu4
      have bx44 : Bx H4 b (c + 7 * (i + 1)) := bx4.mono (by omega)
      have lsl : ((ss.map V.str).length : Int) = (i : Int) := by rw [List.length_map, ls]
      refine ⟨_, rfl, f, _, rfl, .inl (SqL.of hf4), _, _, rfl, rfl, _, rfl, by omega, by omega, for_range (fun j σ H' => ∃ (o : Str) (u6 : Option V), σ = [some (.ref b), some (.int (m : Int)), some (.str abc), some (.ref f), some (.int (0 + (i : Int))), some (.str o), u6] ∧ Sg 6 o ∧ Ex H4 H')
        ⟨one, _, rfl, sgj, Ex.refl _⟩ ?_ ?_⟩
      · rintro j σ H5 hj ⟨o, u7, rfl, sgo, e5⟩
        have hj' : (j : Int) < (i : Int) + 26 := by
          rw [lsl] at hj
          omega
        refine ⟨_, rfl, _, rfl, rfl, fun p H6 ks hp e6 lk hk => ?_⟩
        have hf6 : H6 f = some (.lst (ss.map V.str)) := e6 _ _ (e5 _ _ hf4)
        have sz : (ss.map V.str).length + (ks.map V.str).length ≤ sizeLine := by
          rw [List.length_map, List.length_map, ls]
          exact Nat.le_of_lt (small1000 (by omega))
        refine ⟨f, p, _, _, rfl, rfl, hf6, hk, sz, fun p2 hp2 => ?_⟩
        have e7 : Ex H4 (upd H6 p2 (.lst (ss.map V.str ++ ks.map V.str))) := (e5.trans e6).trans (Ex.new hp2)
        refine ⟨p2, _, rfl, .inl (SqL.of upd_same), rfl, ?_, _, rfl, ?_⟩
        · rw [← List.map_append]; exact flatS _
        refine ite2 (fun _ => ?_) (fun _ => ?_)
        · obtain ⟨c1, ac1, sg1⟩ := abc_at ((0 + (j : Int)) / 26) (by omega) (by omega)
          obtain ⟨c2, ac2, sg2⟩ := abc_at ((0 + (j : Int)) % 26) (by omega) (by omega)
          have sgc : Sg 4 (cutS o none (some 4)) := sgo.cut 4
          have l1 := (sgc.app sg1).1
          refine ⟨_, rfl, _, rfl, o, rfl, Nat.le_trans sgo.1 (by decide), _, rfl, _, rfl, _, _, rfl, rfl, ⟨by decide, by decide⟩, abc, _, c1, rfl, rfl, abc_len, ac1, _, _, rfl, rfl, Nat.le_trans (Nat.add_le_add sgc.1 sg1.1) (by decide),
            _, rfl, _, rfl, _, _, rfl, rfl, (by show (0 : Int) < 26; decide), abc, _, c2, rfl, rfl, abc_len, ac2, _, _, rfl, rfl, Nat.le_trans (Nat.add_le_add l1 sg2.1) (by decide), ?_⟩
          exact ⟨_, _, rfl, ((sgc.app sg1).app sg2), e7⟩
        · exact ⟨o, _, rfl, sgo, e7⟩
      · rintro σ H5 ⟨o, u7, rfl, sgo, e5⟩
        have hf5 : H5 f = some (.lst (ss.map V.str)) := e5 _ _ hf4
        refine ⟨_, rfl, .inl ⟨rfl, _, SqL.of hf5⟩, _, rfl, f, _, _, rfl, rfl, hf5, by rw [List.length_map, ls]; exact small1000 (by omega), ?_⟩
        refine ⟨ss ++ [o], _, _, _, rfl, ?_, ?_, by rw [List.length_append, ls]; rfl, ?_, by rw [upd_same, List.map_append]; rfl⟩
        · intro a o' na e
          have nf : a ≠ f := fun z => by rw [z, hf0] at e; cases e
          rw [upd_ne nf]
          exact e5 _ _ (bu24 _ _ na e)
        · obtain ⟨x, y, z, hb, q1⟩ := bx44
          exact ⟨x, y, z, by rw [upd_ne nbf]; exact e5 _ _ hb, q1⟩
        · intro s hs
          rcases List.mem_append.mp hs with h | h
          · exact hss s h
          · rw [List.mem_singleton.mp h]; exact sgo
  · rintro σ H2 ⟨ss, u4, u5, u6, rfl, bu, bx, ls, hss, hf2⟩
    exact ⟨_, rfl, q f H2 ss hf0 bu (by simpa using bx) (by simpa using ls) hss hf2⟩
end
end K10

/-! K10: labels, rosters, kinds as they are drawn -/
namespace K10
open PySem L2 Grd
open PyProof.Rows (sortedS)
open Evl (Ex ex_t ex_l ex_rd)

/-! ### kinds as data -/
def optD : Option Int → PyData
  | none => .none
  | some n => .int n
def optV : Option Int → V
  | none => .non
  | some n => .int n
def roD (r : Ro) : PyData := .tuple [.tuple (r.1.map PyData.str), optD r.2]
def kdD : Kd → PyData
  | .num => .str "number"
  | .any n => .tuple [.str "any", .int n]
  | .pair a b => .tuple [.str "pair", kdD a, kdD b]
  | .fn a r b => .tuple [.str "fun", kdD a, roD r, kdD b]
def dep : Kd → Nat
  | .num => 1
  | .any _ => 1
  | .pair a b => 1 + max (dep a) (dep b)
  | .fn a _ b => 1 + max (dep a) (dep b)
structure RoOk (r : Ro) : Prop where
  s : sortedS r.1 = true
  l : r.1.length ≤ 8
  t : ∀ x ∈ r.1, Sg 13 x
  n : ∀ n, r.2 = some n → 0 ≤ n ∧ n ≤ 1000
def KdOk : Kd → Prop
  | .num => True
  | .any n => 0 ≤ n ∧ n ≤ 1000
  | .pair a b => KdOk a ∧ KdOk b
  | .fn a r b => KdOk a ∧ RoOk r ∧ KdOk b
theorem dp_opt {K : PySem.W.Frag} {H : Hp} (o : Option Int) : Dp K H (optV o) (optD o) := by
  cases o with
  | none => exact .non
  | some n => exact .int n
theorem dp_strs {K : PySem.W.Frag} {H : Hp} : ∀ ss : List Str, DpAll K H (ss.map V.str) (ss.map PyData.str)
  | [] => .nil
  | s :: r => .cons (.str s) (dp_strs r)
theorem dp_ro {K : PySem.W.Frag} {H : Hp} {p t : Addr} {r : Ro} (hp : SqT K H p [.ref t, optV r.2]) (ht : SqT K H t (r.1.map V.str)) : Dp K H (.ref p) (roD r) :=
  .tup hp (.cons (.tup ht (dp_strs _)) (.cons (dp_opt _) .nil))
theorem dp_any {K : PySem.W.Frag} {H : Hp} {p : Addr} {n : Int} (hp : SqT K H p [.str "any", .int n]) : Dp K H (.ref p) (kdD (.any n)) :=
  .tup hp (.cons (.str _) (.cons (.int _) .nil))
theorem to_strs : ∀ ss : List Str, tupOnlyAll (ss.map PyData.str) = true
  | [] => by simp only [List.map_nil, tupOnlyAll]
  | s :: r => by simp only [List.map_cons, tupOnlyAll, tupOnly, to_strs r, Bool.and_self]
theorem to_opt (o : Option Int) : tupOnly (optD o) = true := by
  cases o <;> simp only [optD, tupOnly]
theorem to_ro (r : Ro) : tupOnly (roD r) = true := by
  simp only [roD, tupOnly, tupOnlyAll, to_strs, to_opt, Bool.and_self]
theorem to_kd : ∀ k : Kd, tupOnly (kdD k) = true
  | .num => by simp only [kdD, tupOnly]
  | .any n => by simp only [kdD, tupOnly, tupOnlyAll, Bool.and_self]
  | .pair a b => by simp only [kdD, tupOnly, tupOnlyAll, to_kd a, to_kd b, Bool.and_self]
  | .fn a r b => by simp only [kdD, tupOnly, tupOnlyAll, to_kd a, to_kd b, to_ro r, Bool.and_self]

section
variable {P : Program} {w : World} {K : PySem.W.Frag} {mg : Str → Option Value} {base : Heap}
/-! ### labels -/
def fv : List Str := ["", "0", "0.2", "0.10", "12.0.3"]
theorem fv_sg : ∀ s ∈ fv, Sg 6 s := by
  have h : ∀ s ∈ fv, s.length ≤ 6 ∧ ∀ c ∈ s.cps.toList, c < 0x110000 := by decide +kernel
  exact h
theorem colon : Sg 1 (":" : Str) := by
  have h : (":" : Str).length ≤ 1 ∧ ∀ c ∈ (":" : Str).cps.toList, c < 0x110000 := by decide +kernel
  exact h
def sp_label (K : PySem.W.Frag) : Sp := fun vs H Q _ => ∃ (b l : Addr) (ds : List Str) (c : Nat), vs = [.ref b, .ref l] ∧ Bx H b c ∧ c < 990000 ∧ l ≠ b ∧ SqL K H l (ds.map V.str) ∧ 0 < ds.length ∧ ds.length < 1000 ∧ (∀ d ∈ ds, Sg 6 d) ∧
  ∀ s H', Sg 13 s → But b H H' → Bx H' b (c + 3) → Q (.str s) H'
theorem ok_label (T : Txt K mg) : Fn P w K mg base CX0 3 T.a_label T.d_label ["_law_box", "_law_deeds"] (sp_label K) := by
  have G_take := ok_take (P := P) (w := w) (base := base) T
  have G_one_of := ok_one_of (P := P) (w := w) (base := base) T
  refine Grd.mk T.F_label sclabel (fun vs H Q E h => ?_) (fun cdv A outer s H vs Q E gd hr h => ?_)
  · obtain ⟨b, l, ds, c, rfl, _⟩ := h
    rfl
  obtain ⟨b, l, ds, c, rfl, hB, hc, nl, hS, l0, l1, hd, q⟩ := h
  refine ⟨_, (pss_cons (ps_par (i := 2) (j := 3) (by rfl) sclabel.nd rfl rfl (by decide) rfl rfl (pa_cons (pe_callG G_one_of gd (hr.mono (by first | decide | omega)) rfl T.g_one_of T.F_one_of.kp T.b_one_of .nil pass0 (pa_cons (pv 0) (pa_cons (pv 1) pa_nil))) (pa_cons (pe_callG G_take gd (hr.mono (by first | decide | omega)) rfl T.g_take T.F_take.kp T.b_take .nil pass0 (pa_cons (pv 0) (pa_cons pe_int pa_nil))) pa_nil)) (by rfl))
      (pss_one (ps_ret (pe_ifExp (pt_cmpR op_gt (pv 3) pe_int (nomark _)) (pv 2) (pe_op op_add_str (pe_op op_add_str (pe_callG G_one_of gd (hr.mono (by first | decide | omega)) rfl T.g_one_of T.F_one_of.kp T.b_one_of .nil pass0 (pa_cons (pv 0) (pa_cons (pe_lst (pa_cons pe_str (pa_cons pe_str (pa_cons pe_str (pa_cons pe_str (pa_cons pe_str pa_nil)))))) pa_nil))) pe_str) (pv 2)))))), ?_⟩
  refine ⟨_, rfl, _, rfl, b, l, _, c, rfl, hB, by omega, nl, hS, by rw [List.length_map]; exact l0, by rw [List.length_map]; omega, fun i x H1 hx bu1 bx1 => ?_⟩
  obtain ⟨d, hdi, rfl⟩ := getS hx
  have sgd := hd d (List.mem_of_getElem? hdi)
  refine ⟨_, rfl, b, 4, c + 1, rfl, bx1, by omega, by decide, by decide, fun r H2 r0 r1 bu2 bx2 => ?_⟩
  refine ⟨_, _, rfl, _, rfl, _, _, rfl, rfl, _, rfl, ite2 (fun _ => ?_) (fun _ => ?_)⟩
  · exact ⟨_, rfl, q d H2 (sgd.mono (by decide)) (bu1.trans bu2) (bx2.mono (by omega))⟩
  · refine ⟨_, rfl, (by show 5 ≤ sizeLine; decide), fun l2 hl2 => ?_⟩
    have el : Ex H2 (upd H2 l2 (.lst (fv.map V.str))) := Ex.new hl2
    have nl2 : l2 ≠ b := by
      obtain ⟨x, y, z, hb, _⟩ := bx2
      exact fun z => by rw [z, hb] at hl2; cases hl2
    refine ⟨b, l2, fv.map V.str, c + 2, rfl, bx2.ex el, by omega, nl2, SqL.of upd_same, by decide, by decide, fun i x H3 hx bu3 bx3 => ?_⟩
    obtain ⟨f, hfi, rfl⟩ := getS hx
    have sgf := fv_sg f (List.mem_of_getElem? hfi)
    have sgfc := sgf.app colon
    refine ⟨_, _, rfl, rfl, Nat.le_trans (Nat.add_le_add sgf.1 colon.1) (by decide), _, rfl, _, _, rfl, rfl, Nat.le_trans (Nat.add_le_add sgfc.1 sgd.1) (by decide), ?_⟩
    exact q _ H3 (sgfc.app sgd) (((bu1.trans bu2).trans (But.of_ex el)).trans bu3) bx3
/-! ### rosters -/
def sp_roster (K : PySem.W.Frag) : Sp := fun vs H Q _ => ∃ (b l : Addr) (ds : List Str) (c : Nat), vs = [.ref b, .ref l] ∧ Bx H b c ∧ c < 950000 ∧ l ≠ b ∧ SqL K H l (ds.map V.str) ∧ 0 < ds.length ∧ ds.length < 1000 ∧ (∀ d ∈ ds, Sg 6 d) ∧
  ∀ (r : Ro) (v : V) H', RoOk r → Dp K H' v (roD r) → But b H H' → Bx H' b (c + 20) → Q v H'
theorem five_at {r : Int} (h0 : 0 ≤ r) (h1 : r < 5) : ∃ o : Option Int, atI [V.non, V.int 0, V.int 1, V.int 2, V.int 7] r = some (optV o) ∧ ∀ n, o = some n → 0 ≤ n ∧ n ≤ 1000 := by
  have h : r = 0 ∨ r = 1 ∨ r = 2 ∨ r = 3 ∨ r = 4 := by omega
  rcases h with rfl | rfl | rfl | rfl | rfl
  · exact ⟨none, rfl, by simp⟩
  · exact ⟨some 0, rfl, by simp⟩
  · exact ⟨some 1, rfl, by simp⟩
  · exact ⟨some 2, rfl, by simp⟩
  · exact ⟨some 7, rfl, by simp⟩
theorem ok_roster (T : Txt K mg) : Fn P w K mg base CX0 4 T.a_roster T.d_roster ["_law_box", "_law_deeds"] (sp_roster K) := by
  have G_take := ok_take (P := P) (w := w) (base := base) T
  have G_label := ok_label (P := P) (w := w) (base := base) T
  refine Grd.mk T.F_roster scroster (fun vs H Q E h => ?_) (fun cdv A outer s H vs Q E gd hr h => ?_)
  · obtain ⟨b, l, ds, c, rfl, _⟩ := h
    rfl
  obtain ⟨b, l, ds, c, rfl, hB, hc, nl, hS, l0, l1, hd, q⟩ := h
  refine ⟨_, (pss_cons (ps_set (i := 2) scroster.nd rfl (Or.inl rfl) (pe_callB cr_sortedS (by rfl) T.n_sorted (by decide +kernel) (pa_cons (pe_lc (own := [("_law_turn", 3)]) (by rfl) scroster.nd (pi_range1 (by rfl) T.n_range (pa_cons (pe_callG G_take gd (hr.mono (by first | decide | omega)) rfl T.g_take T.F_take.kp T.b_take .nil pass0 (pa_cons (pv 0) (pa_cons pe_int pa_nil))) pa_nil)) (blkOk_by (own := [("_law_turn", 3)]) (N := ["_law_box", "_law_deeds", "_law_labels", "_law_turn"]) (sc := defScope s_roster) (by decide +kernel)) (fun _ _ _ _ _ => (pg_name (i := 3) scroster.nd rfl (Or.inl rfl))) (fun _ _ _ _ _ => pts_nil) (fun _ _ _ _ _ => (pe_callG G_label gd (hr.mono (by first | decide | omega)) rfl T.g_label T.F_label.kp T.b_label .nil pass0 (pa_cons (pv 0) (pa_cons (pv 1) pa_nil))))) pa_nil)))
      (pss_one (ps_ret (pe_tup (pa_cons (pe_callTy call_tuple_of (by rfl) T.n_tuple (by decide +kernel) (pa_cons (pv 2) pa_nil)) (pa_cons (pe_ix ix_list (pe_lst (pa_cons pe_non (pa_cons pe_int (pa_cons pe_int (pa_cons pe_int (pa_cons pe_int pa_nil)))))) (pe_callG G_take gd (hr.mono (by first | decide | omega)) rfl T.g_take T.F_take.kp T.b_take .nil pass0 (pa_cons (pv 0) (pa_cons pe_int pa_nil))) (fun _ _ => rfl)) pa_nil)))))), ?_⟩
  refine ⟨_, rfl, b, 5, c, rfl, hB, by omega, by decide, by decide, fun r H1 r0 r1 bu1 bx1 => ⟨r, rfl, by omega, by omega, fun D hD => ?_⟩⟩
  have nDb : D ≠ b := by
    obtain ⟨x, y, z, hb, _⟩ := bx1
    exact fun z => by rw [z, hb] at hD; cases hD
  refine lc_range (fun j H' => ∃ ts : List Str, H' D = some (.lst (ts.map V.str)) ∧ ts.length = j ∧ (∀ s ∈ ts, Sg 13 s) ∧ But b H1 H' ∧ Bx H' b (c + 1 + 3 * j)) ?_ ?_ ?_
  · exact ⟨[], upd_same, rfl, by simp, But.of_ex (Ex.new hD), bx1.ex (Ex.new hD)⟩
  · rintro j H2 hj ⟨ts, hD2, lt, hts, bu2, bx2⟩
    refine ⟨rfl, ?_⟩
    refine ⟨_, rfl, _, rfl, b, l, ds, _, rfl, bx2, by omega, nl, (bu1.trans bu2).sq nl hS, l0, l1, hd, fun s H3 sg bu3 bx3 => ?_⟩
    refine ⟨ts.map V.str, bu3 _ _ nDb hD2, by rw [List.length_map, lt]; exact small1000 (by omega), ts ++ [s], ?_, ?_, ?_, ?_, ?_⟩
    · rw [upd_same, List.map_append]; rfl
    · rw [List.length_append, lt]; rfl
    · intro x hx
      rcases List.mem_append.mp hx with h | h
      · exact hts x h
      · rw [List.mem_singleton.mp h]; exact sg
    · intro a o na e
      have nD : a ≠ D := fun z => by rw [z, hD] at e; cases e
      rw [upd_ne nD]
      exact bu3 _ _ na (bu2 _ _ na e)
    · obtain ⟨x, y, z, hb, q1⟩ := bx3
      exact ⟨x, y, z, by rw [upd_ne nDb.symm]; exact hb, by omega⟩
  · rintro H2 ⟨ts, hD2, lt, hts, bu2, bx2⟩
    have lt4 : ts.length ≤ 4 := by omega
    refine ⟨D, ts, rfl, SqL.of hD2, by omega, fun ys p perm so hp => ?_⟩
    have ep : Ex H2 (upd H2 p (.lst (ys.map V.str))) := Ex.new hp
    have hpv : (upd H2 p (.lst (ys.map V.str))) p = some (.lst (ys.map V.str)) := upd_same
    generalize upd H2 p (.lst (ys.map V.str)) = H3 at ep hpv
    refine ⟨_, rfl, p, _, rfl, .inl ⟨SqL.of hpv, fun t ht => ⟨(by show 5 ≤ sizeLine; decide), fun l2 hl2 => ?_⟩⟩⟩
    have et : Ex H3 (upd H3 t (.tup (ys.map V.str))) := Ex.new ht
    have htv : (upd H3 t (.tup (ys.map V.str))) t = some (.tup (ys.map V.str)) := upd_same
    generalize upd H3 t (.tup (ys.map V.str)) = H4 at et htv hl2
    have el : Ex H4 (upd H4 l2 (.lst [.non, .int 0, .int 1, .int 2, .int 7])) := Ex.new hl2
    have hlv : (upd H4 l2 (.lst [.non, .int 0, .int 1, .int 2, .int 7])) l2 = some (.lst [.non, .int 0, .int 1, .int 2, .int 7]) := upd_same
    generalize upd H4 l2 (.lst [.non, .int 0, .int 1, .int 2, .int 7]) = H5 at el hlv
    have e25 := (ep.trans et).trans el
    have bx5 : Bx H5 b (c + 13) := (bx2.ex e25).mono (by omega)
    have nl2 : l2 ≠ b := by
      obtain ⟨x, y, z, hb, _⟩ := bx2
      exact fun z => by rw [z, et _ _ (ep _ _ hb)] at hl2; cases hl2
    refine ⟨_, rfl, b, 5, _, rfl, bx5, by omega, by decide, by decide, fun r2 H6 r20 r21 bu6 bx6 => ?_⟩
    obtain ⟨o, ao, ho⟩ := five_at r20 r21
    refine ⟨l2, _, _, _, rfl, rfl, SqL.of (bu6 _ _ nl2 hlv), ao, (by show 2 ≤ sizeLine; decide), fun u hu => ?_⟩
    have ht6 : H6 t = some (.tup (ys.map V.str)) := (bu6 _ _ (bx5.ne (el _ _ htv) (fun _ z => by cases z)) (el _ _ htv))
    have eu : Ex H6 (upd H6 u (.tup [.ref t, optV o])) := Ex.new hu
    have ly : ys.length = ts.length := perm.length_eq
    refine q (ys, o) (.ref u) _ ⟨so, by show ys.length ≤ 8; omega, fun x hx => hts x (perm.mem_iff.mp hx), ho⟩ (dp_ro (SqT.of upd_same) (SqT.of (eu _ _ ht6))) ?_ ((bx6.ex eu).mono (by omega))
    exact (((bu1.trans bu2).trans (But.of_ex e25)).trans bu6).trans (But.of_ex eu)
/-! ### kinds -/
def cs : Nat → Nat
  | 0 => 10
  | d + 1 => 2 * cs d + 25
theorem cs_ge (d : Nat) : 10 ≤ cs d := by
  cases d with
  | zero => exact Nat.le_refl _
  | succ d => simp only [cs]; omega
def sp_kind (K : PySem.W.Frag) (n : Nat) : Sp := fun vs H Q _ => ∃ (b l : Addr) (ds : List Str) (c d : Nat) (room : Int), vs = [.ref b, .ref l, .int room, .int (d : Int)] ∧ 1 ≤ d ∧ d ≤ n ∧ Bx H b c ∧ c + cs d < 900000 ∧ l ≠ b ∧ SqL K H l (ds.map V.str) ∧ 0 < ds.length ∧ ds.length < 1000 ∧ (∀ d ∈ ds, Sg 6 d) ∧
  ∀ (k : Kd) (v : V) H', KdOk k → dep k ≤ d → Dp K H' v (kdD k) → But b H H' → Bx H' b (c + cs d) → Q v H'
theorem three_at {r : Int} (h0 : 0 ≤ r) (h1 : r < 3) : ∃ o : Int, atI [V.int 0, V.int 1, V.int 12] r = some (.int o) ∧ 0 ≤ o ∧ o ≤ 1000 := by
  have h : r = 0 ∨ r = 1 ∨ r = 2 := by omega
  rcases h with rfl | rfl | rfl
  · exact ⟨0, rfl, by simp⟩
  · exact ⟨1, rfl, by simp⟩
  · exact ⟨12, rfl, by simp⟩
theorem leaf_at {H : Hp} {t1 t2 : Addr} {n1 n2 r : Int} (h0 : 0 ≤ r) (h1 : r < 3) (a1 : 0 ≤ n1 ∧ n1 ≤ 1000) (a2 : 0 ≤ n2 ∧ n2 ≤ 1000) (q1 : H t1 = some (.tup [.str "any", .int n1])) (q2 : H t2 = some (.tup [.str "any", .int n2])) :
    ∃ (k : Kd) (v : V), atI [V.str "number", V.ref t1, V.ref t2] r = some v ∧ KdOk k ∧ dep k ≤ 1 ∧ Dp K H v (kdD k) := by
  have h : r = 0 ∨ r = 1 ∨ r = 2 := by omega
  rcases h with rfl | rfl | rfl
  · exact ⟨.num, _, rfl, trivial, Nat.le_refl _, .str _⟩
  · exact ⟨.any n1, _, rfl, a1, Nat.le_refl _, dp_any (SqT.of q1)⟩
  · exact ⟨.any n2, _, rfl, a2, Nat.le_refl _, dp_any (SqT.of q2)⟩
theorem ok_kind0 (T : Txt K mg) : Fn P w K mg base CX0 0 T.a_kind T.d_kind ["_law_box", "_law_deeds", "_law_room", "_law_deep"] (sp_kind K 0) := by
  refine ⟨fun vs H Q E h => ?_, fun A outer s H args us vs Q E _ _ _ _ _ h => ?_⟩
  · obtain ⟨b, l, ds, c, d, room, rfl, _⟩ := h
    rfl
  · obtain ⟨b, l, ds, c, d, room, _, h1, h2, _⟩ := h
    omega
theorem ok_kindS (T : Txt K mg) (n k : Nat) (hk : 4 ≤ k) (G_kind : Fn P w K mg base CX0 k T.a_kind T.d_kind ["_law_box", "_law_deeds", "_law_room", "_law_deep"] (sp_kind K n)) :
    Fn P w K mg base CX0 (k + 1) T.a_kind T.d_kind ["_law_box", "_law_deeds", "_law_room", "_law_deep"] (sp_kind K (n + 1)) := by
  have G_take := ok_take (P := P) (w := w) (base := base) T
  have G_roster := ok_roster (P := P) (w := w) (base := base) T
  refine Grd.mk T.F_kind sckind (fun vs H Q E h => ?_) (fun cdv A outer s H vs Q E gd hr h => ?_)
  · obtain ⟨b, l, ds, c, d, room, rfl, _⟩ := h
    rfl
  obtain ⟨b, l, ds, c, d, room, rfl, d1, dn, hB, hc, nl, hS, l0, l1, hd, q⟩ := h
  have c10 := cs_ge d
  refine ⟨_, (pss_cons (ps_par (i := 4) (j := 5) (by rfl) sckind.nd rfl rfl (by decide) rfl rfl (pa_cons (pe_callG G_take gd (hr.mono (by first | decide | omega)) rfl T.g_take T.F_take.kp T.b_take .nil pass0 (pa_cons (pv 0) (pa_cons pe_int pa_nil))) (pa_cons (pe_op op_fdiv (pe_op op_sub (pv 2) pe_int) pe_int) pa_nil)) (by rfl))
      (pss_cons (ps_if (PW.pt (pw_or (pt_cmpR op_lt (pv 2) pe_int (nomark _)) (pw_or (pt_cmpR op_eq (pv 3) pe_int (nomark _)) (pw_or1 (pt_cmpR op_eq (pv 4) pe_int (nomark _)))))) (pss_one (ps_ret (pe_ix ix_list (pe_lst (pa_cons pe_str (pa_cons (pe_tup (pa_cons pe_str (pa_cons (pe_callG G_take gd (hr.mono (by first | decide | omega)) rfl T.g_take T.F_take.kp T.b_take .nil pass0 (pa_cons (pv 0) (pa_cons pe_int pa_nil))) pa_nil))) (pa_cons (pe_tup (pa_cons pe_str (pa_cons (pe_ix ix_list (pe_lst (pa_cons pe_int (pa_cons pe_int (pa_cons pe_int pa_nil)))) (pe_callG G_take gd (hr.mono (by first | decide | omega)) rfl T.g_take T.F_take.kp T.b_take .nil pass0 (pa_cons (pv 0) (pa_cons pe_int pa_nil))) (fun _ _ => rfl)) pa_nil))) pa_nil)))) (pe_callG G_take gd (hr.mono (by first | decide | omega)) rfl T.g_take T.F_take.kp T.b_take .nil pass0 (pa_cons (pv 0) (pa_cons pe_int pa_nil))) (fun _ _ => rfl)))) pss_nil)
      (pss_cons (ps_par (i := 6) (j := 7) (by rfl) sckind.nd rfl rfl (by decide) rfl rfl (pa_cons (pe_callG G_kind gd (hr.mono (by first | decide | omega)) rfl T.g_kind T.F_kind.kp T.b_kind .nil pass0 (pa_cons (pv 0) (pa_cons (pv 1) (pa_cons (pv 5) (pa_cons (pe_op op_sub (pv 3) pe_int) pa_nil))))) (pa_cons (pe_callG G_kind gd (hr.mono (by first | decide | omega)) rfl T.g_kind T.F_kind.kp T.b_kind .nil pass0 (pa_cons (pv 0) (pa_cons (pv 1) (pa_cons (pv 5) (pa_cons (pe_op op_sub (pv 3) pe_int) pa_nil))))) pa_nil)) (by rfl))
      (pss_one (ps_ret (pe_ifExp (pt_cmpR op_lt (pv 4) pe_int (nomark _)) (pe_tup (pa_cons pe_str (pa_cons (pv 6) (pa_cons (pv 7) pa_nil)))) (pe_tup (pa_cons pe_str (pa_cons (pv 6) (pa_cons (pe_callG G_roster gd (hr.mono (by first | decide | omega)) rfl T.g_roster T.F_roster.kp T.b_roster .nil pass0 (pa_cons (pv 0) (pa_cons (pv 1) pa_nil))) (pa_cons (pv 7) pa_nil))))))))))), ?_⟩
  refine ⟨_, rfl, b, 7, c, rfl, hB, by omega, by decide, by decide, fun r H1 r0 r1 bu1 bx1 => ?_⟩
  refine ⟨_, rfl, _, _, rfl, rfl, _, _, rfl, rfl, ⟨by decide, by decide⟩, _, _, rfl, ?_⟩
  refine ⟨_, rfl, _, _, rfl, rfl, _, rfl, ite2 (fun _ => ?l1) (fun _ => ⟨_, rfl, rfl, _, rfl, ite2 (fun _ => ?l2) (fun t2 => ⟨_, rfl, rfl, _, rfl, ite2 (fun _ => ?l3) (fun _ => ?nd)⟩)⟩)⟩
  case nd =>
    have d2 : d ≠ 1 := by
      intro z
      rw [z] at t2
      exact t2 (by decide)
    have ed : (d : Int) - 1 = ((d - 1 : Nat) : Int) := by omega
    have ecs : cs d = 2 * cs (d - 1) + 25 := by
      obtain ⟨e, he⟩ : ∃ e, d = e + 1 := ⟨d - 1, by omega⟩
      rw [he]
      rfl
    refine ⟨_, rfl, _, rfl, _, rfl, _, rfl, _, _, rfl, rfl, b, l, ds, c + 1, d - 1, (room - 1) / 2, (by show [V.ref b, V.ref l, V.int ((room - 1) / 2), V.int ((d : Int) - 1)] = _; rw [ed]), by omega, by omega, bx1, by omega, nl, bu1.sq nl hS, l0, l1, hd, fun k1 v1 H2 ok1 dp1 rp1 bu2 bx2 => ?_⟩
    refine ⟨_, rfl, _, rfl, _, rfl, _, rfl, _, _, rfl, rfl, b, l, ds, _, d - 1, (room - 1) / 2, (by show [V.ref b, V.ref l, V.int ((room - 1) / 2), V.int ((d : Int) - 1)] = _; rw [ed]), by omega, by omega, bx2, by omega, nl, (bu1.trans bu2).sq nl hS, l0, l1, hd, fun k2 v2 H3 ok2 dp2 rp2 bu3 bx3 => ?_⟩
    have rp1' : Dp K H3 v1 (kdD k1) := Dp.tst (bu3.ts bx2) _ _ (to_kd k1) rp1
    refine ⟨_, _, rfl, _, rfl, _, _, rfl, rfl, _, rfl, ite2 (fun _ => ?_) (fun _ => ?_)⟩
    · refine ⟨_, rfl, _, rfl, (by show 3 ≤ sizeLine; decide), fun p hp => ?_⟩
      have ep : Ex H3 (upd H3 p (.tup [.str "pair", v1, v2])) := Ex.new hp
      refine q (.pair k1 k2) (.ref p) _ ⟨ok1, ok2⟩ ?_ ?_ (((bu1.trans bu2).trans bu3).trans (But.of_ex ep)) ((bx3.ex ep).mono (by omega))
      · simp only [dep]; omega
      · exact .tup (SqT.of upd_same) (.cons (.str _) (.cons (Dp.ex ep _ _ rp1') (.cons (Dp.ex ep _ _ rp2) .nil)))
    · refine ⟨_, rfl, _, rfl, _, rfl, b, l, ds, _, rfl, bx3, by omega, nl, ((bu1.trans bu2).trans bu3).sq nl hS, l0, l1, hd, fun ro v3 H4 okr rpr bu4 bx4 => ?_⟩
      refine ⟨_, rfl, (by show 4 ≤ sizeLine; decide), fun p hp => ?_⟩
      have ep : Ex H4 (upd H4 p (.tup [.str "fun", v1, v3, v2])) := Ex.new hp
      refine q (.fn k1 ro k2) (.ref p) _ ⟨ok1, okr, ok2⟩ ?_ ?_ ((((bu1.trans bu2).trans bu3).trans bu4).trans (But.of_ex ep)) ((bx4.ex ep).mono (by omega))
      · simp only [dep]; omega
      · have t4 := bu4.ts (K := K) bx3
        exact .tup (SqT.of upd_same) (.cons (.str _) (.cons (Dp.ex ep _ _ (Dp.tst t4 _ _ (to_kd k1) rp1')) (.cons (Dp.ex ep _ _ rpr) (.cons (Dp.ex ep _ _ (Dp.tst t4 _ _ (to_kd k2) rp2)) .nil))))
  all_goals
    refine ⟨_, rfl, b, 4, c + 1, rfl, bx1, by omega, by decide, by decide, fun r1 H2 r10 r11 bu2 bx2 => ⟨(by show 2 ≤ sizeLine; decide), fun t1 ht1 => ⟨(by show 3 ≤ sizeLine; decide), fun l2 hl2 => ?_⟩⟩⟩
    have e1 : Ex H2 (upd H2 t1 (.tup [.str "any", .int r1])) := Ex.new ht1
    have ht1v : (upd H2 t1 (.tup [.str "any", .int r1])) t1 = some (.tup [.str "any", .int r1]) := upd_same
    generalize upd H2 t1 (.tup [.str "any", .int r1]) = H3 at e1 ht1v hl2
    have e2 : Ex H3 (upd H3 l2 (.lst [.int 0, .int 1, .int 12])) := Ex.new hl2
    have hl2v : (upd H3 l2 (.lst [.int 0, .int 1, .int 12])) l2 = some (.lst [.int 0, .int 1, .int 12]) := upd_same
    generalize upd H3 l2 (.lst [.int 0, .int 1, .int 12]) = H4 at e2 hl2v
    have bx4 : Bx H4 b (c + 1 + 1) := bx2.ex (e1.trans e2)
    have nl2 : l2 ≠ b := by
      obtain ⟨x, y, z, hb, _⟩ := bx2
      exact fun z => by rw [z, e1 _ _ hb] at hl2; cases hl2
    refine ⟨_, rfl, b, 3, _, rfl, bx4, by omega, by decide, by decide, fun r2 H5 r20 r21 bu5 bx5 => ?_⟩
    obtain ⟨o, ao, ho⟩ := three_at r20 r21
    refine ⟨l2, _, _, _, rfl, rfl, SqL.of (bu5 _ _ nl2 hl2v), ao, (by show 2 ≤ sizeLine; decide), fun t2 ht2 => ⟨(by show 3 ≤ sizeLine; decide), fun L hL => ?_⟩⟩
    have e5 : Ex H5 (upd H5 t2 (.tup [.str "any", .int o])) := Ex.new ht2
    have ht2v : (upd H5 t2 (.tup [.str "any", .int o])) t2 = some (.tup [.str "any", .int o]) := upd_same
    have h15 : H5 t1 = some (.tup [.str "any", .int r1]) := bu5 _ _ (bx4.ne (e2 _ _ ht1v) (fun _ z => by cases z)) (e2 _ _ ht1v)
    generalize upd H5 t2 (.tup [.str "any", .int o]) = H6 at e5 ht2v hL
    have e6 : Ex H6 (upd H6 L (.lst [.str "number", .ref t1, .ref t2])) := Ex.new hL
    have hLv : (upd H6 L (.lst [.str "number", .ref t1, .ref t2])) L = some (.lst [.str "number", .ref t1, .ref t2]) := upd_same
    generalize upd H6 L (.lst [.str "number", .ref t1, .ref t2]) = H7 at e6 hLv
    have bx7 : Bx H7 b (c + 1 + 1 + 1) := bx5.ex (e5.trans e6)
    have nL : L ≠ b := by
      obtain ⟨x, y, z, hb, _⟩ := bx5
      exact fun z => by rw [z, e5 _ _ hb] at hL; cases hL
    refine ⟨_, rfl, b, 3, _, rfl, bx7, by omega, by decide, by decide, fun r3 H8 r30 r31 bu8 bx8 => ?_⟩
    have k1 : H8 t1 = some (.tup [.str "any", .int r1]) := bu8 _ _ (bx7.ne (e6 _ _ (e5 _ _ h15)) (fun _ z => by cases z)) (e6 _ _ (e5 _ _ h15))
    have k2 : H8 t2 = some (.tup [.str "any", .int o]) := bu8 _ _ (bx7.ne (e6 _ _ ht2v) (fun _ z => by cases z)) (e6 _ _ ht2v)
    obtain ⟨k, v, av, okk, dk, rp⟩ := leaf_at (K := K) r30 r31 (show 0 ≤ r1 ∧ r1 ≤ 1000 by omega) ho k1 k2
    refine ⟨L, _, _, _, rfl, rfl, SqL.of (bu8 _ _ nL hLv), av, q k v H8 okk (by omega) rp ?_ (bx8.mono (by omega))⟩
    exact ((((bu1.trans bu2).trans (But.of_ex (e1.trans e2))).trans bu5).trans (But.of_ex (e5.trans e6))).trans bu8
theorem ok_kind (T : Txt K mg) : ∀ n : Nat, Fn P w K mg base CX0 (4 + n) T.a_kind T.d_kind ["_law_box", "_law_deeds", "_law_room", "_law_deep"] (sp_kind K n)
  | 0 => (ok_kind0 T).up (by decide)
  | n + 1 => ok_kindS T n (4 + n) (by omega) (ok_kind T n)
end
end K10

/-! K10: things of any form; names, figures -/
namespace K10
open PySem L2 Grd
open Evl (Ex ex_t ex_l ex_rd)
/-! ### what class a datum is of -/
def tyD : PyData → String
  | .none => "NoneType"
  | .bool _ => "bool"
  | .int _ => "int"
  | .str _ => "str"
  | .list _ => "list"
  | .tuple _ => "tuple"
  | .dict _ => "dict"
def isStr : PyData → Bool
  | .str _ => true
  | _ => false
def isTup : PyData → Bool
  | .tuple _ => true
  | _ => false
def isInt : PyData → Bool
  | .int _ => true
  | .bool _ => true
  | _ => false
def isBool : PyData → Bool
  | .bool _ => true
  | _ => false
section
variable {K : PySem.W.Frag} {H : Hp}
theorem ty_l {a : Addr} {xs : List V} (h : SqL K H a xs) : TyX K H (.ref a) (.type "list") := by
  rcases h with (q | ⟨o, q⟩) | ⟨o, its, n, q, c, _⟩
  · exact .base (.lst q)
  · exact .base (.frz q)
  · exact .kList q c
theorem ty_t {a : Addr} {xs : List V} (h : SqT K H a xs) : TyX K H (.ref a) (.type "tuple") := by
  rcases h with (q | ⟨o, q⟩) | ⟨o, its, n, q, c, _⟩
  · exact .base (.tup q)
  · exact .fTuple q
  · exact .kTuple q c
theorem dp_ty {v : V} {d : PyData} (h : Dp K H v d) : TyX K H v (.type (tyD d)) := by
  cases h with
  | non => exact .base .non
  | bl b => exact .base (.bl b)
  | int i => exact .base (.int i)
  | str x => exact .base (.str x)
  | lst hs ha => exact ty_l hs
  | tup hs ha => exact ty_t hs
theorem isi_str (d : PyData) : PySem.W.kitOne K (.type (tyD d)) (.type "str") = some (isStr d) := by
  cases d with
  | none => exact kit_ty (show kitB "NoneType" "str" = some false by decide +kernel)
  | bool _ => exact kit_ty (show kitB "bool" "str" = some false by decide +kernel)
  | int _ => exact kit_ty (show kitB "int" "str" = some false by decide +kernel)
  | str _ => exact kit_ty (show kitB "str" "str" = some true by decide +kernel)
  | list _ => exact kit_ty (show kitB "list" "str" = some false by decide +kernel)
  | tuple _ => exact kit_ty (show kitB "tuple" "str" = some false by decide +kernel)
  | dict _ => exact kit_ty (show kitB "dict" "str" = some false by decide +kernel)
theorem isi_tup (d : PyData) : PySem.W.kitOne K (.type (tyD d)) (.type "tuple") = some (isTup d) := by
  cases d with
  | none => exact kit_ty (show kitB "NoneType" "tuple" = some false by decide +kernel)
  | bool _ => exact kit_ty (show kitB "bool" "tuple" = some false by decide +kernel)
  | int _ => exact kit_ty (show kitB "int" "tuple" = some false by decide +kernel)
  | str _ => exact kit_ty (show kitB "str" "tuple" = some false by decide +kernel)
  | list _ => exact kit_ty (show kitB "list" "tuple" = some false by decide +kernel)
  | tuple _ => exact kit_ty (show kitB "tuple" "tuple" = some true by decide +kernel)
  | dict _ => exact kit_ty (show kitB "dict" "tuple" = some false by decide +kernel)
theorem isi_int (d : PyData) : PySem.W.kitOne K (.type (tyD d)) (.type "int") = some (isInt d) := by
  cases d with
  | none => exact kit_ty (show kitB "NoneType" "int" = some false by decide +kernel)
  | bool _ => exact kit_ty (show kitB "bool" "int" = some true by decide +kernel)
  | int _ => exact kit_ty (show kitB "int" "int" = some true by decide +kernel)
  | str _ => exact kit_ty (show kitB "str" "int" = some false by decide +kernel)
  | list _ => exact kit_ty (show kitB "list" "int" = some false by decide +kernel)
  | tuple _ => exact kit_ty (show kitB "tuple" "int" = some false by decide +kernel)
  | dict _ => exact kit_ty (show kitB "dict" "int" = some false by decide +kernel)
theorem isi_bool (d : PyData) : PySem.W.kitOne K (.type (tyD d)) (.type "bool") = some (isBool d) := by
  cases d with
  | none => exact kit_ty (show kitB "NoneType" "bool" = some false by decide +kernel)
  | bool _ => exact kit_ty (show kitB "bool" "bool" = some true by decide +kernel)
  | int _ => exact kit_ty (show kitB "int" "bool" = some false by decide +kernel)
  | str _ => exact kit_ty (show kitB "str" "bool" = some false by decide +kernel)
  | list _ => exact kit_ty (show kitB "list" "bool" = some false by decide +kernel)
  | tuple _ => exact kit_ty (show kitB "tuple" "bool" = some false by decide +kernel)
  | dict _ => exact kit_ty (show kitB "dict" "bool" = some false by decide +kernel)
theorem str_of {d : PyData} (h : isStr d = true) : ∃ s, d = .str s := by
  cases d <;> first | exact ⟨_, rfl⟩ | cases h
theorem tup_of {d : PyData} (h : isTup d = true) : ∃ ds, d = .tuple ds := by
  cases d <;> first | exact ⟨_, rfl⟩ | cases h
end
/-! ### data of some width -/
mutual
def wd : PyData → Bool
  | .str s => decide (s.length ≤ 1000) && PyData.strOk s
  | .list ds => decide (ds.length ≤ 1000) && wdAll ds
  | .tuple ds => decide (ds.length ≤ 1000) && wdAll ds
  | .dict _ => false
  | _ => true
def wdAll : List PyData → Bool
  | [] => true
  | d :: ds => wd d && wdAll ds
end
theorem wd_str {s : Str} (h : wd (.str s) = true) : s.length ≤ 1000 ∧ PyData.strOk s = true := by
  simpa only [wd, Bool.and_eq_true, decide_eq_true_eq] using h
theorem wd_tup {ds : List PyData} (h : wd (.tuple ds) = true) : ds.length ≤ 1000 ∧ wdAll ds = true := by
  simpa only [wd, Bool.and_eq_true, decide_eq_true_eq] using h
theorem wd_lst {ds : List PyData} (h : wd (.list ds) = true) : ds.length ≤ 1000 ∧ wdAll ds = true := by
  simpa only [wd, Bool.and_eq_true, decide_eq_true_eq] using h
theorem wd_at {ds : List PyData} {i : Nat} {d : PyData} (w : wdAll ds = true) (h : ds[i]? = some d) : wd d = true := by
  induction ds generalizing i with
  | nil => simp at h
  | cons x r ih =>
    simp only [wdAll, Bool.and_eq_true] at w
    cases i with
    | zero => simp at h; rw [← h]; exact w.1
    | succ i => simp at h; exact ih w.2 h
/-! ### names -/
def kws : List Str := ["fun", "rec", "call", "let", "plus", "less", "times", "below", "if", "two", "first", "second", "ask", "askof", "past", "pastof", "deep", "shallow", "under", "many", "quick", "end", "ward", "number", "pair"]
def nameS (s : Str) : Bool := decide (1 ≤ s.length ∧ s.length ≤ 6) && !decide (s ∈ kws) && s.cps.toList.all fun c => decide (97 ≤ c ∧ c ≤ 122)
def nameD : PyData → Bool
  | .str s => nameS s
  | _ => false
def figS (s : Str) : Bool := decide (s ≠ "") && s.cps.toList.all (fun c => decide (48 ≤ c ∧ c ≤ 57)) && (decide (s = "0") || decide (s.cps.toList[0]? ≠ some 48))
/-- a test of one thing of any form -/
def spD (K : PySem.W.Frag) (n : Nat) (f : PyData → Bool) : Sp := fun vs H Q _ => ∃ (v : V) (d : PyData), vs = [v] ∧ Dp K H v d ∧ wd d = true ∧ d.depth ≤ n ∧ ∀ H', Ex H H' → Q (.bl (f d)) H'
theorem Ex.refl (H : Hp) : Ex H H := fun _ _ e => e
theorem inV_str (s : Str) : ∀ o : List Str, inV (.str s) (o.map V.str) = decide (s ∈ o)
  | [] => by simp [inV]
  | x :: r => by
    have ih := inV_str s r
    have e : inV (.str s) ((x :: r).map V.str) = ((x == s) || inV (.str s) (r.map V.str)) := rfl
    rw [e, ih]
    by_cases h : x = s
    · subst h; simp
    · have h' : ¬ s = x := fun e => h e.symm
      simp [h, h']
/-! ### all([test for x in xs]) -/
theorem lc_bools {J : It} {n : Nat} {G : Hp → Prop} {Y : Nat → Hp → V → Hp → Prop} (w : L2.Walk J n G Y) {g : TG} {te : TE} {vs : List Nat} {σ : L2.St} {H H1 : Hp} {D : Addr} {Qd : Hp → Prop} (b : Nat → Bool) (hn : n ≤ 10000) (e1 : Ex H H1) (hD : H1 D = none) (hG : ∀ H', Ex H H' → G H')
    (hs : ∀ i x H2 H3, i < n → Ex H H2 → Y i H2 x H3 → ∀ Kc : VK, (∀ H4, Ex H2 H4 → Kc (.bl (b i)) H4) → g x (wipe σ vs) H3 fun σ2 H5 => wipe σ2 vs = wipe σ vs ∧ te σ2 H5 Kc)
    (hd : ∀ H', Ex H H' → H' D = some (.lst (((List.range n).map b).map V.bl)) → Qd H') :
    ∃ W : Nat → Nat → Hp → Prop, (∃ m, W 0 m (upd H1 D (.lst []))) ∧ ∀ i m H, W i m H → (J.stop i H ∧ Qd H) ∨ (J.go i H ∧ ∃ Nx : Hp → Prop, (∀ H', Nx H' → ∃ m', m' < m ∧ W (i + 1) m' H') ∧
      ∀ x H', J.yld i H x H' → g x (wipe σ vs) H' fun σ2 H2 => wipe σ2 vs = wipe σ vs ∧ tYes σ2 H2 fun c H3 => if c = true then te σ2 H3 fun y H4 => ∃ acc, H4 D = some (.lst acc) ∧ acc.length < sizeLine ∧ Nx (upd H4 D (.lst (acc ++ [y]))) else Nx H3) := by
  have hD0 := Evl.fresh_back e1 hD
  refine lc_it w (fun i H' => Ex H H' ∧ H' D = some (.lst (((List.range i).map b).map V.bl))) ⟨e1.trans (Ex.new hD), upd_same⟩ (fun i H' _ h => hG H' h.1) ?_ (fun H' h => hd H' h.1 h.2)
  rintro i x H2 H3 hi ⟨e2, hD2⟩ hy
  refine hs i x H2 H3 hi e2 hy _ fun H4 e4 => ⟨_, e4 _ _ hD2, ?_, (e2.trans e4).mut hD0, ?_⟩
  · rw [List.length_map, List.length_map, List.length_range]
    exact Evl.sz_lt (by omega)
  · rw [upd_same, List.range_succ, List.map_append, List.map_append]
    rfl
theorem all_get {α : Type} (f : α → Bool) (cs : List α) : ((List.range cs.length).map fun i => ((cs[i]?).map f).getD true).all id = cs.all f := by
  rw [Bool.eq_iff_iff, List.all_eq_true, List.all_eq_true]
  constructor
  · intro h c hc
    obtain ⟨i, hi, e⟩ := List.getElem_of_mem hc
    have z := h _ (List.mem_map.mpr ⟨i, List.mem_range.mpr hi, rfl⟩)
    rw [List.getElem?_eq_getElem hi, e] at z
    exact z
  · intro h x hx
    obtain ⟨i, hi, rfl⟩ := List.mem_map.mp hx
    rw [List.getElem?_eq_getElem (List.mem_range.mp hi)]
    exact h _ (List.getElem_mem _)
def letters : Str := "abcdefghijklmnopqrstuvwxyz"
theorem letters_at (c : Nat) : decide (c ∈ (Str.ofString "abcdefghijklmnopqrstuvwxyz").cps.toList) = decide (97 ≤ c ∧ c ≤ 122) := by
  have e : (Str.ofString "abcdefghijklmnopqrstuvwxyz").cps.toList = List.range' 97 26 := by decide +kernel
  rw [e]
  simp only [List.mem_range'_1]
  congr 1
  rw [eq_iff_iff]
  omega
theorem figures_at (c : Nat) : decide (c ∈ (Str.ofString "0123456789").cps.toList) = decide (48 ≤ c ∧ c ≤ 57) := by
  have e : (Str.ofString "0123456789").cps.toList = List.range' 48 10 := by decide +kernel
  rw [e]
  simp only [List.mem_range'_1]
  congr 1
  rw [eq_iff_iff]
  omega
theorem sz1000 {n : Nat} (h : n ≤ 1000) : n ≤ sizeLine := Evl.sz_of (by omega)
section
variable {P : Program} {w : World} {K : PySem.W.Frag} {mg : Str → Option Value} {base : Heap}
theorem ok_p_is_name (T : Txt K mg) : Fn P w K mg base CX0 1 T.a_p_is_name T.d_p_is_name ["thing"] (spD K 1000 nameD) := by
  refine Grd.mk T.F_p_is_name scp_is_name (fun vs H Q E h => ?_) (fun cdv A outer st H vs Q E gd hr h => ?_)
  · obtain ⟨v, d, rfl, _⟩ := h
    rfl
  obtain ⟨v, d, rfl, hv, hw, hd, q⟩ := h
  refine ⟨_, (pss_cons (ps_if (PW.pt (pw_or (pt_not (pt_val (pe_callB call_isi (by rfl) T.n_isinstance (by decide +kernel) (pa_cons (pv 0) (pa_cons (pe_bltn (v := .ty "str") (by rfl) T.n_str (by decide +kernel) rfl) pa_nil))))) (pw_or (pt_not (pt_chain op_le op_le pe_int (pe_callB call_len_str (by rfl) T.n_len PySem.boot_len (pa_cons (pv 0) pa_nil)) (pe_glob rfl T.g_MOST_LETTERS T.r_MOST_LETTERS))) (pw_or1 (pt_cmpR op_in_seq (pv 0) (pe_glob (v := .ref T.a_KEYWORDS) rfl T.g_KEYWORDS rfl) (by rfl)))))) (pss_one (ps_ret pe_bl)) pss_nil)
      (pss_one (ps_ret (pe_callB (cr_all rfl) (by rfl) T.n_all (by decide +kernel) (pa_cons (pe_lc (own := [("sign", 1)]) (by rfl) scp_is_name.nd (pi_str (pv 0)) (blkOk_by (own := [("sign", 1)]) (N := ["thing", "sign"]) (sc := defScope s_p_is_name) (by decide +kernel)) (fun _ _ _ _ _ => (pg_name (i := 1) scp_is_name.nd rfl (Or.inl rfl))) (fun _ _ _ _ _ => pts_nil) (fun _ _ _ _ _ => (pe_cmpR op_in_sign (pv 1) (pe_glob rfl T.g_LETTERS T.r_LETTERS) (by rfl)))) pa_nil))))), ?_⟩
  refine ⟨_, rfl, _, _, _, _, _, rfl, .ty _, dp_ty hv, isi_str d, _, rfl, ?_⟩
  by_cases hs : isStr d = true
  · obtain ⟨s, rfl⟩ := str_of hs
    cases hv
    rw [hs]
    have lz := (wd_str hw).1
    refine ⟨_, rfl, s, rfl, sz1000 lz, _, _, rfl, rfl, _, rfl, ?_⟩
    have no : ¬ (1 ≤ s.length ∧ s.length ≤ 6) → Q (.bl false) H := fun z => by
      have e : nameD (.str s) = false := by
        simp only [nameD, nameS, decide_eq_false z, Bool.false_and]
      rw [e] at q
      exact q _ (Ex.refl _)
    refine ite2 (fun t1 => ?_) (fun t1 => ⟨_, rfl, no (fun z => t1 (decide_eq_true (by omega)))⟩)
    have h1 : (1 : Int) ≤ s.length := of_decide_eq_true t1
    refine ⟨_, _, rfl, rfl, _, rfl, ?_⟩
    by_cases h2 : (s.length : Int) ≤ 6
    · rw [decide_eq_true h2]
      refine ⟨_, rfl, T.a_KEYWORDS, _, rfl, .inr (T.s_KEYWORDS _), rfl, flatS _, _, rfl, ?_⟩
      show if inV (.str s) (kws.map V.str) = true then _ else _
      rw [inV_str]
      by_cases h3 : s ∈ kws
      · have e : nameD (.str s) = false := by
          simp only [nameD, nameS, decide_eq_true h3, Bool.not_true, Bool.and_false, Bool.false_and]
        rw [decide_eq_true h3]
        rw [e] at q
        exact q _ (Ex.refl _)
      · rw [decide_eq_false h3]
        refine ⟨_, rfl, s, rfl, fun D hD => ?_⟩
        refine lc_bools (walk_str (z := s)) (fun i => ((s.cps.toList[i]?).map fun c => decide (97 ≤ c ∧ c ≤ 122)).getD true) (by have : s.cps.size = s.length := rfl; omega) (Ex.refl H) hD (fun _ _ => trivial) ?_ ?_
        · rintro i x H2 H3 hi e2 ⟨rfl, c, hc, rfl⟩ Kc hk
          refine ⟨rfl, _, rfl, c, _, rfl, rfl, ?_⟩
          have := hk H3 (Ex.refl _)
          rw [Array.getElem?_toList, hc] at this
          rw [letters_at]
          exact this
        · intro H' e' hD'
          refine ⟨D, _, rfl, SqL.of hD', ?_⟩
          have e : nameD (.str s) = s.cps.toList.all fun c => decide (97 ≤ c ∧ c ≤ 122) := by
            simp only [nameD, nameS, decide_eq_false h3, decide_eq_true (show 1 ≤ s.length ∧ s.length ≤ 6 by omega), Bool.not_false, Bool.and_true, Bool.true_and]
          rw [← Array.length_toList, all_get, ← e]
          exact q _ e'
    · rw [decide_eq_false h2]
      exact no (fun z => h2 (by omega))
  · rw [Bool.not_eq_true] at hs
    rw [hs]
    have e : nameD d = false := by cases d <;> first | rfl | cases hs
    rw [e] at q
    exact q _ (Ex.refl _)
end
end K10

/-! K10: figures; names and figures by the law -/
namespace K10
open PySem L2 Grd
open Evl (Ex ex_t ex_l ex_rd)
def natD : PyData → Bool
  | .int i => decide (0 ≤ i)
  | _ => false
def sp_kw (K : PySem.W.Frag) : Sp := fun vs H Q _ => vs = [] ∧ ∀ p H', H p = none → Ex H H' → H' p = some (.lst (kws.map V.str)) → Q (.ref p) H'
def spS (K : PySem.W.Frag) (f : Str → Bool) : Sp := fun vs H Q _ => ∃ s : Str, vs = [.str s] ∧ s.length ≤ 1000 ∧ ∀ H', Ex H H' → Q (.bl (f s)) H'
theorem lt_one (c a : Nat) : decide ([c] < [a]) = decide (c < a) := by
  congr 1
  rw [eq_iff_iff, List.cons_lt_cons_iff]
  simp
theorem le_lo (c : Nat) : (!decide ((⟨#[c]⟩ : Str).cps.toList < (Str.ofString "a").cps.toList)) = decide (97 ≤ c) := by
  have e : (Str.ofString "a").cps.toList = [97] := by decide +kernel
  rw [e]
  show (!decide ([c] < [97])) = _
  rw [lt_one, Bool.eq_iff_iff]
  simp
theorem le_hi (c : Nat) : (!decide ((Str.ofString "z").cps.toList < (⟨#[c]⟩ : Str).cps.toList)) = decide (c ≤ 122) := by
  have e : (Str.ofString "z").cps.toList = [122] := by decide +kernel
  rw [e]
  show (!decide ([122] < [c])) = _
  rw [lt_one, Bool.eq_iff_iff]
  simp
theorem le_lo0 (c : Nat) : (!decide ((⟨#[c]⟩ : Str).cps.toList < (Str.ofString "0").cps.toList)) = decide (48 ≤ c) := by
  have e : (Str.ofString "0").cps.toList = [48] := by decide +kernel
  rw [e]
  show (!decide ([c] < [48])) = _
  rw [lt_one, Bool.eq_iff_iff]
  simp
theorem le_hi9 (c : Nat) : (!decide ((Str.ofString "9").cps.toList < (⟨#[c]⟩ : Str).cps.toList)) = decide (c ≤ 57) := by
  have e : (Str.ofString "9").cps.toList = [57] := by decide +kernel
  rw [e]
  show (!decide ([57] < [c])) = _
  rw [lt_one, Bool.eq_iff_iff]
  simp
section
variable {P : Program} {w : World} {K : PySem.W.Frag} {mg : Str → Option Value} {base : Heap}
theorem ok_kw (T : Txt K mg) : Fn P w K mg base CX0 1 T.a_keywords T.d_keywords [] (sp_kw K) := by
  refine Grd.mk T.F_keywords sckeywords (fun vs H Q E h => ?_) (fun cdv A outer s H vs Q E gd hr h => ?_)
  · rw [h.1]
    rfl
  obtain ⟨rfl, q⟩ := h
  refine ⟨_, (pss_cons (ps_set (i := 0) sckeywords.nd rfl (Or.inl rfl) pe_str)
      (pss_one (ps_ret (pe_split (pe_op op_add_str (pv 0) pe_str) pe_str)))), ?_⟩
  refine ⟨_, rfl, _, _, rfl, rfl, (by decide +kernel), ⟨_, rfl⟩, _, _, rfl, rfl, (by decide +kernel), (by decide +kernel), fun p hp => ?_⟩
  refine q p _ hp (Ex.new hp) ?_
  rw [upd_same]
  exact congrArg (fun l => some (HO.lst (List.map V.str l))) (by decide +kernel)
theorem ok_p_is_from_nought (T : Txt K mg) : Fn P w K mg base CX0 1 T.a_p_is_from_nought T.d_p_is_from_nought ["thing"] (spD K 1000 natD) := by
  refine Grd.mk T.F_p_is_from_nought scp_is_from_nought (fun vs H Q E h => ?_) (fun cdv A outer st H vs Q E gd hr h => ?_)
  · obtain ⟨v, d, rfl, _⟩ := h
    rfl
  obtain ⟨v, d, rfl, hv, hw, hd, q⟩ := h
  refine ⟨_, (pss_one (ps_ret (pe_and (pe_callB call_isi (by rfl) T.n_isinstance (by decide +kernel) (pa_cons (pv 0) (pa_cons (pe_bltn (v := .ty "int") (by rfl) T.n_int (by decide +kernel) rfl) pa_nil))) (pe_and (pe_not (pe_callB call_isi (by rfl) T.n_isinstance (by decide +kernel) (pa_cons (pv 0) (pa_cons (pe_bltn (v := .ty "bool") (by rfl) T.n_bool (by decide +kernel) rfl) pa_nil)))) (pe_one (pe_cmpR op_ge (pv 0) pe_int (nomark _))))))), ?_⟩
  refine ⟨_, rfl, _, _, _, _, _, rfl, .ty _, dp_ty hv, isi_int d, _, rfl, ?_⟩
  have no : isInt d = false ∨ isBool d = true → Q (.bl false) H := fun z => by
    have e : natD d = false := by cases d <;> first | rfl | (rcases z with z | z <;> cases z)
    rw [e] at q
    exact q _ (Ex.refl _)
  cases hi : isInt d with
  | false => exact no (.inl hi)
  | true =>
    refine ⟨_, rfl, _, _, _, _, _, rfl, .ty _, dp_ty hv, isi_bool d, _, rfl, _, rfl, ?_⟩
    cases hb : isBool d with
    | true => exact no (.inr hb)
    | false =>
      cases d with
      | int i =>
        cases hv
        exact ⟨_, rfl, _, _, rfl, rfl, q _ (Ex.refl _)⟩
      | bool b => cases hb
      | _ => cases hi
theorem ok_p_are_plain_figures (T : Txt K mg) : Fn P w K mg base CX0 1 T.a_p_are_plain_figures T.d_p_are_plain_figures ["text"] (spS K figS) := by
  refine Grd.mk T.F_p_are_plain_figures scp_are_plain_figures (fun vs H Q E h => ?_) (fun cdv A outer st H vs Q E gd hr h => ?_)
  · obtain ⟨s, rfl, _⟩ := h
    rfl
  obtain ⟨s, rfl, lz, q⟩ := h
  refine ⟨_, (pss_one (ps_ret (pe_and (pe_cmpR op_ne (pv 0) pe_str (nomark _)) (pe_and (pe_callB (cr_all rfl) (by rfl) T.n_all (by decide +kernel) (pa_cons (pe_lc (own := [("sign", 1)]) (by rfl) scp_are_plain_figures.nd (pi_str (pv 0)) (blkOk_by (own := [("sign", 1)]) (N := ["text", "sign"]) (sc := defScope s_p_are_plain_figures) (by decide +kernel)) (fun _ _ _ _ _ => (pg_name (i := 1) scp_are_plain_figures.nd rfl (Or.inl rfl))) (fun _ _ _ _ _ => pts_nil) (fun _ _ _ _ _ => (pe_cmpR op_in_sign (pv 1) (pe_glob rfl T.g_FIGURES T.r_FIGURES) (by rfl)))) pa_nil)) (pe_one (pe_or (pe_cmpR op_eq (pv 0) pe_str (nomark _)) (pe_one (pe_cmpR op_ne (pe_ix ix_str (pv 0) pe_int (fun _ _ => rfl)) pe_str (nomark _))))))))), ?_⟩
  refine ⟨_, rfl, rfl, _, rfl, ?_⟩
  have no : figS s = false → ∀ H', Ex H H' → Q (.bl false) H' := fun z H' e => by
    rw [← z]
    exact q _ e
  by_cases h0 : s = ""
  · have e : (!decide (V.str s = V.str "")) = false := by rw [decide_eq_true (by rw [h0])]; rfl
    rw [e]
    exact no (by rw [figS, decide_eq_false (fun z => z h0), Bool.false_and, Bool.false_and]) _ (Ex.refl _)
  have e : (!decide (V.str s = V.str "")) = true := by rw [decide_eq_false (fun z => h0 (by cases z; rfl))]; rfl
  rw [e]
  refine ⟨_, rfl, s, rfl, fun D hD => ?_⟩
  refine lc_bools (walk_str (z := s)) (fun i => ((s.cps.toList[i]?).map fun c => decide (48 ≤ c ∧ c ≤ 57)).getD true) (by have : s.cps.size = s.length := rfl; omega) (Ex.refl H) hD (fun _ _ => trivial) ?_ ?_
  · rintro i x H2 H3 hi e2 ⟨rfl, c, hc, rfl⟩ Kc hk
    refine ⟨rfl, _, rfl, c, _, rfl, rfl, ?_⟩
    have := hk H3 (Ex.refl _)
    rw [Array.getElem?_toList, hc] at this
    rw [figures_at]
    exact this
  intro H' e' hD'
  refine ⟨D, _, rfl, SqL.of hD', ?_⟩
  rw [← Array.length_toList, all_get]
  refine ⟨_, rfl, ?_⟩
  cases ha : s.cps.toList.all fun c => decide (48 ≤ c ∧ c ≤ 57) with
  | false => exact no (by rw [figS, ha, Bool.and_false, Bool.false_and]) _ e'
  | true =>
    refine ⟨_, rfl, rfl, _, rfl, ?_⟩
    by_cases h1 : s = "0"
    · rw [decide_eq_true (show V.str s = V.str (Str.ofString "0") by rw [h1])]
      have : figS s = true := by rw [figS, ha, decide_eq_true h0, decide_eq_true h1]; rfl
      have q' := q _ e'
      rw [this] at q'
      exact q'
    · rw [decide_eq_false (show ¬ V.str s = V.str (Str.ofString "0") from fun z => h1 (by cases z; rfl))]
      have hne : s.cps.toList ≠ [] := fun z => h0 (by
        cases s with
        | mk cps =>
          have : cps = #[] := by simpa using z
          rw [this]
          rfl)
      obtain ⟨c, r, hc⟩ : ∃ c r, s.cps.toList = c :: r := by
        cases hh : s.cps.toList with
        | nil => exact absurd hh hne
        | cons c r => exact ⟨c, r, rfl⟩
      have h00 : s.cps.toList[0]? = some c := by rw [hc]; rfl
      refine ⟨_, rfl, s, _, c, rfl, rfl, sz1000 lz, atI_nat (j := 0) h00, rfl, ?_⟩
      have : figS s = !decide (V.str ⟨#[c]⟩ = V.str (Str.ofString "0")) := by
        rw [figS, ha, decide_eq_true h0, decide_eq_false h1, h00]
        by_cases hz : c = 48
        · subst hz
          decide +kernel
        · rw [decide_eq_true (show some c ≠ some 48 from fun z => hz (Option.some.inj z)), decide_eq_false (show ¬ V.str ⟨#[c]⟩ = V.str (Str.ofString "0") from fun z => hz (by
            have z1 : (⟨#[c]⟩ : Str) = Str.ofString "0" := by cases z; rfl
            have z2 : (⟨#[c]⟩ : Str).cps.toList = (Str.ofString "0").cps.toList := by rw [z1]
            have z3 : (Str.ofString "0").cps.toList = [48] := by decide +kernel
            rw [z3] at z2
            simpa using z2))]
          rfl
      have q' := q _ e'
      rw [this] at q'
      exact q'
theorem first_sign {s : Str} (h0 : ¬ s = "") : ∃ c, s.cps.toList[0]? = some c := by
  cases hh : s.cps.toList with
  | cons c r => exact ⟨c, rfl⟩
  | nil =>
    refine absurd ?_ h0
    cases s with
    | mk cps =>
      have : cps = #[] := by simpa using hh
      rw [this]
      rfl
theorem not_nought (c : Nat) : (!decide (V.str ⟨#[c]⟩ = V.str (Str.ofString "0"))) = decide (some c ≠ some 48) := by
  by_cases hz : c = 48
  · subst hz
    decide +kernel
  · rw [decide_eq_true (show some c ≠ some 48 from fun z => hz (Option.some.inj z)), decide_eq_false (show ¬ V.str ⟨#[c]⟩ = V.str (Str.ofString "0") from fun z => hz (by
      have z1 : (⟨#[c]⟩ : Str) = Str.ofString "0" := by cases z; rfl
      have z2 : (⟨#[c]⟩ : Str).cps.toList = (Str.ofString "0").cps.toList := by rw [z1]
      have z3 : (Str.ofString "0").cps.toList = [48] := by decide +kernel
      rw [z3] at z2
      simpa using z2))]
    rfl
theorem ok_is_figures (T : Txt K mg) : Fn P w K mg base CX0 1 T.a_is_figures T.d_is_figures ["_law_word"] (spS K figS) := by
  refine Grd.mk T.F_is_figures scis_figures (fun vs H Q E h => ?_) (fun cdv A outer st H vs Q E gd hr h => ?_)
  · obtain ⟨s, rfl, _⟩ := h
    rfl
  obtain ⟨s, rfl, lz, q⟩ := h
  refine ⟨_, (pss_one (ps_ret (pe_or (pe_cmpR op_eq (pv 0) pe_str (nomark _)) (pe_one (pe_and (pe_cmpR op_ne (pv 0) pe_str (nomark _)) (pe_and (pe_callB (cr_all rfl) (by rfl) T.n_all (by decide +kernel) (pa_cons (pe_lc (own := [("_law_sign", 1)]) (by rfl) scis_figures.nd (pi_str (pv 0)) (blkOk_by (own := [("_law_sign", 1)]) (N := ["_law_word", "_law_sign"]) (sc := defScope s_is_figures) (by decide +kernel)) (fun _ _ _ _ _ => (pg_name (i := 1) scis_figures.nd rfl (Or.inl rfl))) (fun _ _ _ _ _ => pts_nil) (fun _ _ _ _ _ => (pe_chain op_le_str op_le_str pe_str (pv 1) pe_str))) pa_nil)) (pe_one (pe_cmpR op_ne (pe_ix ix_str (pv 0) pe_int (fun _ _ => rfl)) pe_str (nomark _))))))))), ?_⟩
  refine ⟨_, rfl, rfl, _, rfl, ?_⟩
  have to : ∀ {b : Bool} {H' : Hp}, figS s = b → Ex H H' → Q (.bl b) H' := fun z e => by
    have := q _ e
    rw [z] at this
    exact this
  by_cases h1 : s = "0"
  · rw [decide_eq_true (show V.str s = V.str (Str.ofString "0") by rw [h1])]
    refine to ?_ (Ex.refl _)
    rw [h1]
    decide +kernel
  rw [decide_eq_false (show ¬ V.str s = V.str (Str.ofString "0") from fun z => h1 (by cases z; rfl))]
  refine ⟨_, rfl, rfl, _, rfl, ?_⟩
  by_cases h0 : s = ""
  · have e : (!decide (V.str s = V.str "")) = false := by rw [decide_eq_true (by rw [h0])]; rfl
    rw [e]
    exact to (by rw [figS, decide_eq_false (fun z => z h0), Bool.false_and, Bool.false_and]) (Ex.refl _)
  have e : (!decide (V.str s = V.str "")) = true := by rw [decide_eq_false (fun z => h0 (by cases z; rfl))]; rfl
  rw [e]
  refine ⟨_, rfl, s, rfl, fun D hD => ?_⟩
  refine lc_bools (walk_str (z := s)) (fun i => ((s.cps.toList[i]?).map fun c => decide (48 ≤ c ∧ c ≤ 57)).getD true) (by have : s.cps.size = s.length := rfl; omega) (Ex.refl H) hD (fun _ _ => trivial) ?_ ?_
  · rintro i x H2 H3 hi e2 ⟨rfl, c, hc, rfl⟩ Kc hk
    have := hk H3 (Ex.refl _)
    rw [Array.getElem?_toList, hc] at this
    have this : Kc (.bl (decide (48 ≤ c ∧ c ≤ 57))) H3 := this
    refine ⟨rfl, _, rfl, _, _, rfl, rfl, _, rfl, ?_⟩
    rw [le_lo0]
    by_cases l : 48 ≤ c
    · rw [decide_eq_true l]
      refine ⟨_, _, rfl, rfl, ?_⟩
      rw [le_hi9]
      have e3 : decide (48 ≤ c ∧ c ≤ 57) = decide (c ≤ 57) := by congr 1; rw [eq_iff_iff]; exact ⟨fun z => z.2, fun z => ⟨l, z⟩⟩
      rw [e3] at this
      exact this
    · rw [decide_eq_false l]
      have e3 : decide (48 ≤ c ∧ c ≤ 57) = false := decide_eq_false fun z => l z.1
      rw [e3] at this
      exact this
  intro H' e' hD'
  refine ⟨D, _, rfl, SqL.of hD', ?_⟩
  rw [← Array.length_toList, all_get]
  refine ⟨_, rfl, ?_⟩
  cases ha : s.cps.toList.all fun c => decide (48 ≤ c ∧ c ≤ 57) with
  | false => exact to (by rw [figS, ha, Bool.and_false, Bool.false_and]) e'
  | true =>
    obtain ⟨c, hc⟩ := first_sign h0
    refine ⟨_, rfl, s, _, c, rfl, rfl, sz1000 lz, atI_nat (j := 0) hc, rfl, ?_⟩
    refine to ?_ e'
    rw [not_nought, figS, ha, decide_eq_true h0, decide_eq_false h1, hc]
    rfl
theorem ok_is_name (T : Txt K mg) : Fn P w K mg base CX0 2 T.a_is_name T.d_is_name ["_law_odd_here"] (spD K 1000 nameD) := by
  have G_keywords := ok_kw (P := P) (w := w) (base := base) T
  refine Grd.mk T.F_is_name scis_name (fun vs H Q E h => ?_) (fun cdv A outer st H vs Q E gd hr h => ?_)
  · obtain ⟨v, d, rfl, _⟩ := h
    rfl
  obtain ⟨v, d, rfl, hv, hw, hd, q⟩ := h
  refine ⟨_, (pss_cons (ps_if (PW.pt (pw_or (pt_not (pt_val (pe_callB call_isi (by rfl) T.n_isinstance (by decide +kernel) (pa_cons (pv 0) (pa_cons (pe_bltn (v := .ty "str") (by rfl) T.n_str (by decide +kernel) rfl) pa_nil))))) (pw_or (pt_not (pt_chain op_lt op_lt pe_int (pe_callB call_len_str (by rfl) T.n_len PySem.boot_len (pa_cons (pv 0) pa_nil)) pe_int)) (pw_or1 (pt_cmpR op_in_seq (pv 0) (pe_callG0 G_keywords gd (hr.mono (by first | decide | omega)) rfl T.g_keywords T.F_keywords.kp T.b_keywords .nil pass0) (by rfl)))))) (pss_one (ps_ret pe_bl)) pss_nil)
      (pss_one (ps_ret (pe_callB (cr_all rfl) (by rfl) T.n_all (by decide +kernel) (pa_cons (pe_lc (own := [("_law_sign", 1)]) (by rfl) scis_name.nd (pi_str (pv 0)) (blkOk_by (own := [("_law_sign", 1)]) (N := ["_law_odd_here", "_law_sign"]) (sc := defScope s_is_name) (by decide +kernel)) (fun _ _ _ _ _ => (pg_name (i := 1) scis_name.nd rfl (Or.inl rfl))) (fun _ _ _ _ _ => pts_nil) (fun _ _ _ _ _ => (pe_chain op_le_str op_le_str pe_str (pv 1) pe_str))) pa_nil))))), ?_⟩
  refine ⟨_, rfl, _, _, _, _, _, rfl, .ty _, dp_ty hv, isi_str d, _, rfl, ?_⟩
  have to : ∀ {b : Bool} {H' : Hp}, nameD d = b → Ex H H' → Q (.bl b) H' := fun z e => by
    have := q _ e
    rw [z] at this
    exact this
  by_cases hs : isStr d = true
  · obtain ⟨s, rfl⟩ := str_of hs
    cases hv
    rw [hs]
    have lz := (wd_str hw).1
    refine ⟨_, rfl, s, rfl, sz1000 lz, _, _, rfl, rfl, _, rfl, ?_⟩
    have no : ¬ (1 ≤ s.length ∧ s.length ≤ 6) → nameD (.str s) = false := fun z => by
      simp only [nameD, nameS, decide_eq_false z, Bool.false_and]
    refine ite2 (fun t1 => ?_) (fun t1 => ⟨_, rfl, to (no (fun z => t1 (decide_eq_true (by omega)))) (Ex.refl _)⟩)
    have h1 : (0 : Int) < s.length := of_decide_eq_true t1
    refine ⟨_, _, rfl, rfl, _, rfl, ?_⟩
    by_cases h2 : (s.length : Int) < 7
    · rw [decide_eq_true h2]
      refine ⟨_, rfl, rfl, fun p Hk hp ek hpk => ?_⟩
      refine ⟨p, _, rfl, .inl (SqL.of hpk), rfl, flatS _, _, rfl, ?_⟩
      show if inV (.str s) (kws.map V.str) = true then _ else _
      rw [inV_str]
      by_cases h3 : s ∈ kws
      · rw [decide_eq_true h3]
        exact to (by simp only [nameD, nameS, decide_eq_true h3, Bool.not_true, Bool.and_false, Bool.false_and]) ek
      · rw [decide_eq_false h3]
        refine ⟨_, rfl, s, rfl, fun D hD => ?_⟩
        refine lc_bools (walk_str (z := s)) (fun i => ((s.cps.toList[i]?).map fun c => decide (97 ≤ c ∧ c ≤ 122)).getD true) (by have : s.cps.size = s.length := rfl; omega) ek hD (fun _ _ => trivial) ?_ ?_
        · rintro i x H2 H3 hi e2 ⟨rfl, c, hc, rfl⟩ Kc hk
          have := hk H3 (Ex.refl _)
          rw [Array.getElem?_toList, hc] at this
          have this : Kc (.bl (decide (97 ≤ c ∧ c ≤ 122))) H3 := this
          refine ⟨rfl, _, rfl, _, _, rfl, rfl, _, rfl, ?_⟩
          rw [le_lo]
          by_cases l : 97 ≤ c
          · rw [decide_eq_true l]
            refine ⟨_, _, rfl, rfl, ?_⟩
            rw [le_hi]
            have e3 : decide (97 ≤ c ∧ c ≤ 122) = decide (c ≤ 122) := by congr 1; rw [eq_iff_iff]; exact ⟨fun z => z.2, fun z => ⟨l, z⟩⟩
            rw [e3] at this
            exact this
          · rw [decide_eq_false l]
            have e3 : decide (97 ≤ c ∧ c ≤ 122) = false := decide_eq_false fun z => l z.1
            rw [e3] at this
            exact this
        · intro H' e' hD'
          refine ⟨D, _, rfl, SqL.of hD', ?_⟩
          have e : nameD (.str s) = s.cps.toList.all fun c => decide (97 ≤ c ∧ c ≤ 122) := by
            simp only [nameD, nameS, decide_eq_false h3, decide_eq_true (show 1 ≤ s.length ∧ s.length ≤ 6 by omega), Bool.not_false, Bool.and_true, Bool.true_and]
          rw [← Array.length_toList, all_get]
          exact to e e'
    · rw [decide_eq_false h2]
      exact to (no (fun z => h2 (by omega))) (Ex.refl _)
  · rw [Bool.not_eq_true] at hs
    rw [hs]
    exact to (by cases d <;> first | rfl | cases hs) (Ex.refl _)
end
end K10

/-! K10: labels, two ways -/
namespace K10
open PySem L2 Grd
open TL (tl spl joinL)
abbrev co : Str := ":"
abbrev dot : Str := "."
theorem tl_co : tl co = [58] := by decide +kernel
theorem tl_dot : tl dot = [46] := by decide +kernel
def Sx (l : List Nat) : Str := ⟨l.toArray⟩
theorem tl_Sx (l : List Nat) : tl (Sx l) = l := by simp [tl, Sx]
theorem Sx_tl (s : Str) : Sx (tl s) = s := TL.ext_tl (tl_Sx _)
theorem sub_one (s : Str) (i : Nat) : Builtin.Str.subAt s co i = true ↔ (tl s)[i]? = some 58 := by
  have e : co.cps = #[58] := Array.toList_inj.mp tl_co
  have l1 : co.length = 1 := by decide +kernel
  unfold Builtin.Str.subAt
  rw [e, l1, beq_iff_eq, ← Array.toList_inj]
  have : (s.cps.extract i (i + 1)).toList = ((tl s).drop i).take 1 := by simp [tl]
  rw [this]
  cases h : (tl s).drop i with
  | nil =>
    have : (tl s)[i]? = none := by
      rw [List.getElem?_eq_none]
      exact List.drop_eq_nil_iff.mp h
    rw [this]
    simp
  | cons c r =>
    have : (tl s)[i]? = some c := by
      have z : ((tl s).drop i)[0]? = some c := by rw [h]; rfl
      rw [List.getElem?_drop, Nat.add_zero] at z
      exact z
    rw [this]
    simp
theorem at_co (s : Str) (i : Nat) : PySem.StrLaws.At s co s.length i ↔ (tl s)[i]? = some 58 := by
  have l1 : co.length = 1 := by decide +kernel
  unfold PySem.StrLaws.At
  rw [l1, sub_one]
  constructor
  · exact fun h => h.2
  · intro h
    refine ⟨?_, h⟩
    have := (List.getElem?_eq_some_iff.mp h).1
    rw [TL.len_tl]
    omega
theorem rpart_none {s : Str} (h : 58 ∉ tl s) : rpart s co = (Str.empty, Str.empty, s) := by
  unfold rpart
  rcases PySem.StrLaws.last_spec s co with ⟨e, _⟩ | ⟨i, e, ha, _⟩
  · rw [e]
  · exact absurd (List.mem_of_getElem? ((at_co s i).mp ha)) h
theorem rpart_some {s : Str} {a b : List Nat} (hs : tl s = a ++ 58 :: b) (hb : 58 ∉ b) : rpart s co = (Sx a, co, Sx b) := by
  have l1 : co.length = 1 := by decide +kernel
  have at0 : (tl s)[a.length]? = some 58 := by rw [hs]; simp
  unfold rpart
  rcases PySem.StrLaws.last_spec s co with ⟨_, no⟩ | ⟨i, e, ha, hl⟩
  · exact absurd ((at_co s _).mpr at0) (no _)
  · have hi := (at_co s i).mp ha
    have ei : i = a.length := by
      rcases Nat.lt_trichotomy i a.length with h | h | h
      · exact absurd ((at_co s _).mpr at0) (hl _ h)
      · exact h
      · refine absurd ?_ hb
        rw [hs, List.getElem?_append_right (by omega)] at hi
        have e2 : i - a.length = (i - a.length - 1) + 1 := by omega
        rw [e2, List.getElem?_cons_succ] at hi
        exact List.mem_of_getElem? hi
    rw [e]
    subst ei
    have h1 : Builtin.Str.strSub s 0 a.length = Sx a := TL.ext_tl (by
      show (Builtin.Str.strSub s 0 a.length).cps.toList = _
      rw [PySem.StrLaws.strSub_toList, tl_Sx, show s.cps.toList = a ++ 58 :: b from hs]
      simp)
    have h2 : Builtin.Str.strSub s (a.length + co.length) s.length = Sx b := TL.ext_tl (by
      show (Builtin.Str.strSub s (a.length + co.length) s.length).cps.toList = _
      rw [PySem.StrLaws.strSub_toList, tl_Sx, TL.len_tl, l1, show s.cps.toList = a ++ 58 :: b from hs]
      have : (a ++ 58 :: b).drop (a.length + 1) = b := by
        rw [List.drop_append]
        simp
      rw [this, show tl s = a ++ 58 :: b from hs]
      rw [List.length_append, List.length_cons]
      exact List.take_of_length_le (by omega))
    simp only [h1, h2]
theorem spl_two {a b : List Nat} {c : Nat} (ha : c ∉ a) (hb : c ∉ b) : spl [c] 0 [] (a ++ c :: b) = [a, b] := by
  have z := TL.spl_part1 (s := c) (S := []) (p := a) (rest := b) (acc := []) ha
  have e : a ++ ([c] ++ b) = a ++ c :: b := rfl
  rw [e] at z
  rw [z, TL.spl_last1 hb]
  rfl
theorem first_of {c : Nat} {l : List Nat} (h : c ∈ l) : ∃ a b, l = a ++ c :: b ∧ c ∉ a := List.eq_append_cons_of_mem h
theorem spl_more {a : List Nat} {c : Nat} (h : c ∈ a) : 2 ≤ (spl [c] 0 [] a).length := by
  obtain ⟨p, q, rfl, hp⟩ := first_of h
  have z := TL.spl_part1 (s := c) (S := []) (p := p) (rest := q) (acc := []) hp
  have e : p ++ ([c] ++ q) = p ++ c :: q := rfl
  rw [e] at z
  rw [z, List.length_cons]
  have : 1 ≤ (spl [c] 0 [] q).length := by
    by_cases hq : c ∈ q
    · obtain ⟨p2, q2, rfl, hp2⟩ := first_of hq
      have z2 := TL.spl_part1 (s := c) (S := []) (p := p2) (rest := q2) (acc := []) hp2
      have e2 : p2 ++ ([c] ++ q2) = p2 ++ c :: q2 := rfl
      rw [e2] at z2
      rw [z2, List.length_cons]
      omega
    · rw [TL.spl_last1 hq]
      exact Nat.le_refl _
  omega
theorem spl_three {a b : List Nat} {c : Nat} (h : c ∈ a) : 3 ≤ (spl [c] 0 [] (a ++ c :: b)).length := by
  obtain ⟨p, q, rfl, hp⟩ := first_of h
  have z := TL.spl_part1 (s := c) (S := []) (p := p) (rest := q ++ c :: b) (acc := []) hp
  have e : p ++ ([c] ++ (q ++ c :: b)) = (p ++ c :: q) ++ c :: b := by simp
  rw [e] at z
  rw [z, List.length_cons]
  have := spl_more (c := c) (a := q ++ c :: b) (by simp)
  omega
theorem split_co (s : Str) : (Txt.split s co).map tl = spl [58] 0 [] (tl s) := by
  have z := TL.split_spl s co (by rw [tl_co]; simp) (TL.kind_ok (by decide +kernel))
  rw [tl_co] at z
  exact z
theorem mem_joinL {c e : Nat} (hc : c ≠ e) : ∀ {ps : List (List Nat)}, c ∈ joinL [e] ps → ∃ p ∈ ps, c ∈ p
  | [], h => by simp [joinL] at h
  | [p], h => ⟨p, List.mem_cons_self .., h⟩
  | p :: q :: r, h => by
    simp only [joinL, List.mem_append, List.mem_singleton] at h
    rcases h with h | h | h
    · exact ⟨p, List.mem_cons_self .., h⟩
    · exact absurd h hc
    · obtain ⟨x, hx, h2⟩ := mem_joinL hc h
      exact ⟨x, List.mem_cons_of_mem _ hx, h2⟩
theorem colon_in {a : Str} (h : 58 ∈ tl a) : (Txt.split a dot).all figS = false := by
  have j := PySem.StrLaws.join_split a dot
  have z := TL.tl_join dot (Txt.split a dot)
  rw [j, tl_dot] at z
  rw [z] at h
  obtain ⟨p, hp, hc⟩ := mem_joinL (by decide) h
  obtain ⟨s, hs, rfl⟩ := List.mem_map.mp hp
  rw [List.all_eq_false]
  refine ⟨s, hs, ?_⟩
  have : (s.cps.toList.all fun c => decide (48 ≤ c ∧ c ≤ 57)) = false := by
    rw [List.all_eq_false]
    exact ⟨58, hc, by decide⟩
  rw [figS, this, Bool.and_false, Bool.false_and]
  decide
/-! ### the two ways agree -/
def labS (s : Str) : Bool := nameS (rpart s co).2.2 && (decide ((rpart s co).2.1 = "") || (decide ((rpart s co).1 = "") || (Txt.split (rpart s co).1 dot).all figS))
def labL (s : Str) : Bool := if 58 ∈ tl s then decide ((Txt.split s co).length = 2) && (nameS ((Txt.split s co).getD 1 "") && (decide ((Txt.split s co).getD 0 "" = "") || (Txt.split ((Txt.split s co).getD 0 "") dot).all figS)) else nameS s
theorem last_of {c : Nat} {l : List Nat} (h : c ∈ l) : ∃ a b, l = a ++ c :: b ∧ c ∉ b := by
  obtain ⟨a, b, e, hn⟩ := first_of (c := c) (l := l.reverse) (by simpa using h)
  refine ⟨b.reverse, a.reverse, ?_, by simpa using hn⟩
  have := congrArg List.reverse e
  simpa using this
theorem co_ne : ¬ co = "" := by decide +kernel
theorem lab_eq (s : Str) : labL s = labS s := by
  by_cases h : 58 ∈ tl s
  · obtain ⟨a, b, hs, hb⟩ := last_of h
    unfold labL labS
    rw [if_pos h, rpart_some hs hb]
    have sc := split_co s
    rw [hs] at sc
    by_cases ha : 58 ∈ a
    · have l3 := spl_three (b := b) ha
      rw [← sc, List.length_map] at l3
      rw [decide_eq_false (by omega), Bool.false_and]
      have ne : ¬ Sx a = "" := fun z => by
        have z2 := tl_Sx a
        rw [z] at z2
        have z3 : tl ("" : Str) = [] := by decide +kernel
        rw [z3] at z2
        rw [← z2] at ha
        cases ha
      have f := colon_in (a := Sx a) (by rw [tl_Sx]; exact ha)
      show false = (nameS (Sx b) && (decide (co = "") || (decide (Sx a = "") || (Txt.split (Sx a) dot).all figS)))
      rw [decide_eq_false ne, decide_eq_false co_ne, f]
      simp
    · rw [spl_two ha hb] at sc
      have e : Txt.split s co = [Sx a, Sx b] := TL.map_tl_inj (by rw [sc]; simp [tl_Sx])
      rw [e]
      show (true && (nameS (Sx b) && (decide (Sx a = "") || (Txt.split (Sx a) dot).all figS))) = (nameS (Sx b) && (decide (co = "") || (decide (Sx a = "") || (Txt.split (Sx a) dot).all figS)))
      rw [decide_eq_false co_ne, Bool.true_and, Bool.false_or]
  · unfold labL labS
    rw [if_neg h, rpart_none h]
    have : decide ((Str.empty : Str) = "") = true := by decide +kernel
    show nameS s = (nameS s && (decide (Str.empty = "") || _))
    rw [this, Bool.true_or, Bool.and_true]
def labD : PyData → Bool
  | .str s => labS s
  | _ => false
end K10

/-! K10: labels, walked -/
namespace K10
open PySem L2 Grd
open Evl (Ex ex_t ex_l ex_rd)
open TL (tl spl joinL)
theorem wd_sub {s p : Str} (h : (tl p).Sublist (tl s)) (hw : wd (.str s) = true) : wd (.str p) = true := by
  obtain ⟨l, k⟩ := wd_str hw
  simp only [wd, Bool.and_eq_true, decide_eq_true_eq]
  have hl := h.length_le
  rw [TL.len_tl] at l ⊢
  refine ⟨by omega, ?_⟩
  have k0 : s.cps.all (· < 0x110000) = true := k
  show p.cps.all (· < 0x110000) = true
  rw [Array.all_eq_true_iff_forall_mem] at k0 ⊢
  intro c hc
  exact k0 c (Array.mem_toList_iff.mp (h.subset (Array.mem_toList_iff.mpr hc)))
theorem part_joinL {S p : List Nat} : ∀ {ps : List (List Nat)}, p ∈ ps → p.Sublist (joinL S ps)
  | [q], h => by rw [List.mem_singleton.mp h]; exact List.Sublist.refl _
  | q :: r :: t, h => by
    simp only [joinL]
    rcases List.mem_cons.mp h with rfl | h
    · exact List.sublist_append_left _ _
    · exact ((part_joinL h).trans (List.sublist_append_right _ _)).trans (List.sublist_append_right _ _)
theorem part_in {s y p : Str} (h : p ∈ Txt.split s y) : (tl p).Sublist (tl s) := by
  have j := PySem.StrLaws.join_split s y
  have z := TL.tl_join y (Txt.split s y)
  rw [j] at z
  rw [z]
  exact part_joinL (List.mem_map_of_mem h)
theorem sub_sub (s : Str) (i j : Nat) : (tl (Builtin.Str.strSub s i j)).Sublist (tl s) := by
  show (Builtin.Str.strSub s i j).cps.toList.Sublist _
  rw [PySem.StrLaws.strSub_toList]
  exact (List.take_sublist _ _).trans (List.drop_sublist _ _)
theorem rpart_sub (s : Str) : (tl (rpart s co).1).Sublist (tl s) ∧ (tl (rpart s co).2.2).Sublist (tl s) := by
  unfold rpart
  split
  · exact ⟨sub_sub _ _ _, sub_sub _ _ _⟩
  · exact ⟨by show (tl Str.empty).Sublist _; exact List.nil_sublist _, List.Sublist.refl _⟩
theorem len_joinL (e : Nat) : ∀ ps : List (List Nat), ps.length ≤ (joinL [e] ps).length + 1
  | [] => Nat.zero_le _
  | [p] => by simp only [List.length_cons, List.length_nil]; omega
  | p :: q :: r => by
    have ih := len_joinL e (q :: r)
    simp only [joinL, List.length_append, List.length_cons, List.length_nil] at ih ⊢
    omega
theorem split_len {s y : Str} {e : Nat} (hy : tl y = [e]) (h : s.length ≤ 1000) : (Txt.split s y).length ≤ 1001 := by
  have j := PySem.StrLaws.join_split s y
  have z := TL.tl_join y (Txt.split s y)
  have l := len_joinL e ((Txt.split s y).map tl)
  rw [j, hy] at z
  rw [← z, List.length_map, ← TL.len_tl] at l
  omega
section
variable {P : Program} {w : World} {K : PySem.W.Frag} {mg : Str → Option Value} {base : Heap}
theorem ok_p_is_label (T : Txt K mg) : Fn P w K mg base CX0 2 T.a_p_is_label T.d_p_is_label ["thing"] (spD K 1000 labD) := by
  have G_p_is_name := ok_p_is_name (P := P) (w := w) (base := base) T
  have G_p_are_plain_figures := ok_p_are_plain_figures (P := P) (w := w) (base := base) T
  refine Grd.mk T.F_p_is_label scp_is_label (fun vs H Q E h => ?_) (fun cdv A outer st H vs Q E gd hr h => ?_)
  · obtain ⟨v, d, rfl, _⟩ := h
    rfl
  obtain ⟨v, d, rfl, hv, hw, hd, q⟩ := h
  refine ⟨_, (pss_cons (ps_if (pt_not (pt_val (pe_callB call_isi (by rfl) T.n_isinstance (by decide +kernel) (pa_cons (pv 0) (pa_cons (pe_bltn (v := .ty "str") (by rfl) T.n_str (by decide +kernel) rfl) pa_nil))))) (pss_one (ps_ret pe_bl)) pss_nil)
      (pss_cons (ps_asg (pe_rpart (pv 0) pe_str) (pg_tup rfl (pgs_cons (pg_name (i := 1) scp_is_label.nd rfl (Or.inl rfl)) (pgs_cons (pg_name (i := 2) scp_is_label.nd rfl (Or.inl rfl)) (pgs_cons (pg_name (i := 3) scp_is_label.nd rfl (Or.inl rfl)) pgs_nil)))))
      (pss_cons (ps_if (pt_not (pt_val (pe_callG G_p_is_name gd (hr.mono (by first | decide | omega)) rfl T.g_p_is_name T.F_p_is_name.kp T.b_p_is_name .nil pass0 (pa_cons (pv 3) pa_nil)))) (pss_one (ps_ret pe_bl)) pss_nil)
      (pss_one (ps_ret (pe_or (pe_cmpR op_eq (pv 2) pe_str (nomark _)) (pe_or (pe_cmpR op_eq (pv 1) pe_str (nomark _)) (pe_one (pe_callB (cr_all rfl) (by rfl) T.n_all (by decide +kernel) (pa_cons (pe_lc (own := [("word", 4)]) (by rfl) scp_is_label.nd (pi_list (pe_split (pv 1) pe_str)) (blkOk_by (own := [("word", 4)]) (N := ["thing", "ahead", "colon", "deed", "word"]) (sc := defScope s_p_is_label) (by decide +kernel)) (fun _ _ _ _ _ => (pg_name (i := 4) scp_is_label.nd rfl (Or.inl rfl))) (fun _ _ _ _ _ => pts_nil) (fun _ _ _ _ _ => (pe_callG G_p_are_plain_figures gd (hr.mono (by first | decide | omega)) rfl T.g_p_are_plain_figures T.F_p_are_plain_figures.kp T.b_p_are_plain_figures .nil pass0 (pa_cons (pv 4) pa_nil)))) pa_nil)))))))))), ?_⟩
  refine ⟨_, rfl, _, _, _, _, _, rfl, .ty _, dp_ty hv, isi_str d, _, rfl, ?_⟩
  have to : ∀ {b : Bool} {H' : Hp}, labD d = b → Ex H H' → Q (.bl b) H' := fun z e => by
    have := q _ e
    rw [z] at this
    exact this
  by_cases hs : isStr d = true
  · obtain ⟨s, rfl⟩ := str_of hs
    cases hv
    rw [hs]
    have lz := (wd_str hw).1
    refine ⟨_, rfl, ⟨_, rfl⟩, s, _, rfl, rfl, (by decide +kernel), sz1000 lz, fun t ht => ?_⟩
    have et : Ex H (upd H t (.tup [.str (rpart s co).1, .str (rpart s co).2.1, .str (rpart s co).2.2])) := Ex.new ht
    refine ⟨t, _, rfl, SqT.of upd_same, rfl, _, _, rfl, _, _, rfl, _, _, rfl, rfl, ?_⟩
    generalize upd H t (.tup [.str (rpart s co).1, .str (rpart s co).2.1, .str (rpart s co).2.2]) = H1 at et
    obtain ⟨su1, su2⟩ := rpart_sub s
    refine ⟨_, rfl, _, _, rfl, .str _, wd_sub su2 hw, Nat.zero_le _, fun H2 e2 => ?_⟩
    refine ⟨_, rfl, ?_⟩
    have e02 := et.trans e2
    show if (!nameS (rpart s co).2.2) = true then _ else _
    cases hn : nameS (rpart s co).2.2 with
    | false => exact to (by show labS s = _; rw [labS, hn, Bool.false_and]) e02
    | true =>
      refine ⟨_, rfl, rfl, _, rfl, ?_⟩
      by_cases h1 : (rpart s co).2.1 = ""
      · rw [decide_eq_true (show V.str (rpart s co).2.1 = V.str (Str.ofString "") by rw [h1])]
        exact to (by show labS s = _; rw [labS, hn, decide_eq_true h1, Bool.true_or, Bool.and_true]) e02
      rw [decide_eq_false (show ¬ V.str (rpart s co).2.1 = V.str (Str.ofString "") from fun z => h1 (V.str.inj z))]
      refine ⟨_, rfl, rfl, _, rfl, ?_⟩
      by_cases h2 : (rpart s co).1 = ""
      · rw [decide_eq_true (show V.str (rpart s co).1 = V.str (Str.ofString "") by rw [h2])]
        exact to (by show labS s = _; rw [labS, hn, decide_eq_true h2, Bool.true_or, Bool.or_true, Bool.and_true]) e02
      rw [decide_eq_false (show ¬ V.str (rpart s co).1 = V.str (Str.ofString "") from fun z => h2 (V.str.inj z))]
      have l1 := (wd_str (wd_sub su1 hw)).1
      refine ⟨_, rfl, ⟨_, rfl⟩, _, _, rfl, rfl, (by decide +kernel), Evl.sz_of (by show (rpart s co).1.length + 2 ≤ 100000; omega), fun l hl => ?_⟩
      have el : Ex H2 (upd H2 l (.lst ((Txt.split (rpart s co).1 dot).map V.str))) := Ex.new hl
      have hlv : (upd H2 l (.lst ((Txt.split (rpart s co).1 dot).map V.str))) l = some (.lst ((Txt.split (rpart s co).1 dot).map V.str)) := upd_same
      refine ⟨l, rfl, ⟨_, SqL.of upd_same⟩, fun D hD => ?_⟩
      generalize upd H2 l (.lst ((Txt.split (rpart s co).1 dot).map V.str)) = H3 at el hlv hD
      have sl := split_len (s := (rpart s co).1) tl_dot l1
      refine lc_bools (walk_list (xs := (Txt.split (rpart s co).1 dot).map V.str)) (fun i => (((Txt.split (rpart s co).1 dot)[i]?).map figS).getD true) (by rw [List.length_map]; omega) (Ex.refl H3) hD (fun H' e' => SqL.of (e' _ _ hlv)) ?_ ?_
      · rintro i x H4 H5 hi e4 ⟨rfl, hx⟩ Kc hk
        obtain ⟨m, hm, rfl⟩ := getS hx
        have su := part_in (List.mem_of_getElem? hm)
        refine ⟨rfl, _, rfl, m, rfl, (wd_str (wd_sub (su.trans su1) hw)).1, fun H6 e6 => ?_⟩
        have := hk H6 e6
        rw [hm] at this
        exact this
      · intro H' e' hD'
        refine ⟨D, _, rfl, SqL.of hD', ?_⟩
        rw [List.length_map, all_get]
        refine to ?_ ((e02.trans el).trans e')
        show labS s = _
        rw [labS, hn, decide_eq_false h1, decide_eq_false h2, Bool.true_and, Bool.false_or, Bool.false_or]
  · rw [Bool.not_eq_true] at hs
    rw [hs]
    exact to (by cases d <;> first | rfl | cases hs) (Ex.refl _)
theorem ok_is_label (T : Txt K mg) : Fn P w K mg base CX0 3 T.a_is_label T.d_is_label ["_law_odd_here"] (spD K 1000 labD) := by
  have G_is_name := ok_is_name (P := P) (w := w) (base := base) T
  have G_is_figures := ok_is_figures (P := P) (w := w) (base := base) T
  refine Grd.mk T.F_is_label scis_label (fun vs H Q E h => ?_) (fun cdv A outer st H vs Q E gd hr h => ?_)
  · obtain ⟨v, d, rfl, _⟩ := h
    rfl
  obtain ⟨v, d, rfl, hv, hw, hd, q⟩ := h
  refine ⟨_, (pss_cons (ps_if (PW.pt (pw_or (pt_not (pt_val (pe_callB call_isi (by rfl) T.n_isinstance (by decide +kernel) (pa_cons (pv 0) (pa_cons (pe_bltn (v := .ty "str") (by rfl) T.n_str (by decide +kernel) rfl) pa_nil))))) (pw_or1 (pt_cmpR op_notIn_sign pe_str (pv 0) (by rfl))))) (pss_one (ps_ret (pe_callG G_is_name gd (hr.mono (by first | decide | omega)) rfl T.g_is_name T.F_is_name.kp T.b_is_name .nil pass0 (pa_cons (pv 0) pa_nil)))) pss_nil)
      (pss_cons (ps_set (i := 1) scis_label.nd rfl (Or.inl rfl) (pe_split (pv 0) pe_str))
      (pss_cons (ps_if (PW.pt (pw_or (pt_cmpR op_ne (pe_callB call_len_seq (by rfl) T.n_len PySem.boot_len (pa_cons (pv 1) pa_nil)) pe_int (nomark _)) (pw_or1 (pt_not (pt_val (pe_callG G_is_name gd (hr.mono (by first | decide | omega)) rfl T.g_is_name T.F_is_name.kp T.b_is_name .nil pass0 (pa_cons (pe_ix ix_list (pv 1) pe_int (fun _ _ => rfl)) pa_nil))))))) (pss_one (ps_ret pe_bl)) pss_nil)
      (pss_one (ps_ret (pe_or (pe_cmpR op_eq (pe_ix ix_list (pv 1) pe_int (fun _ _ => rfl)) pe_str (nomark _)) (pe_one (pe_callB (cr_all rfl) (by rfl) T.n_all (by decide +kernel) (pa_cons (pe_lc (own := [("_law_word", 2)]) (by rfl) scis_label.nd (pi_list (pe_split (pe_ix ix_list (pv 1) pe_int (fun _ _ => rfl)) pe_str)) (blkOk_by (own := [("_law_word", 2)]) (N := ["_law_odd_here", "_law_words", "_law_word"]) (sc := defScope s_is_label) (by decide +kernel)) (fun _ _ _ _ _ => (pg_name (i := 2) scis_label.nd rfl (Or.inl rfl))) (fun _ _ _ _ _ => pts_nil) (fun _ _ _ _ _ => (pe_callG G_is_figures gd (hr.mono (by first | decide | omega)) rfl T.g_is_figures T.F_is_figures.kp T.b_is_figures .nil pass0 (pa_cons (pv 2) pa_nil)))) pa_nil))))))))), ?_⟩
  refine ⟨_, rfl, _, _, _, _, _, rfl, .ty _, dp_ty hv, isi_str d, _, rfl, ?_⟩
  have to : ∀ {b : Bool} {H' : Hp}, labD d = b → Ex H H' → Q (.bl b) H' := fun z e => by
    have := q _ e
    rw [z] at this
    exact this
  by_cases hs : isStr d = true
  · obtain ⟨s, rfl⟩ := str_of hs
    cases hv
    rw [hs]
    have lz := (wd_str hw).1
    have to2 : ∀ {b : Bool} {H' : Hp}, labL s = b → Ex H H' → Q (.bl b) H' := fun z e => to (by show labS s = _; rw [← lab_eq]; exact z) e
    refine ⟨_, rfl, 58, s, (congrArg V.str (show Str.ofString ":" = ⟨#[58]⟩ by decide +kernel)), rfl, _, rfl, ?_⟩
    by_cases hc : 58 ∈ tl s
    · have e0 : (!decide (58 ∈ s.cps.toList)) = false := by rw [decide_eq_true hc]; rfl
      rw [e0]
      refine ⟨_, rfl, ⟨_, rfl⟩, _, _, rfl, rfl, (by decide +kernel), Evl.sz_of (by show s.length + 2 ≤ 100000; omega), fun l hl => ?_⟩
      have el : Ex H (upd H l (.lst ((Txt.split s co).map V.str))) := Ex.new hl
      have hlv : (upd H l (.lst ((Txt.split s co).map V.str))) l = some (.lst ((Txt.split s co).map V.str)) := upd_same
      generalize upd H l (.lst ((Txt.split s co).map V.str)) = H1 at el hlv
      refine ⟨_, rfl, l, _, rfl, .inl (SqL.of hlv), rfl, _, rfl, ?_⟩
      by_cases h2 : (Txt.split s co).length = 2
      · obtain ⟨a, b, eab⟩ : ∃ a b, Txt.split s co = [a, b] := by
          cases h : Txt.split s co with
          | nil => rw [h] at h2; cases h2
          | cons a r =>
            cases r with
            | nil => rw [h] at h2; cases h2
            | cons b t =>
              cases t with
              | nil => exact ⟨a, b, rfl⟩
              | cons c u => rw [h] at h2; simp at h2
        have sa := part_in (s := s) (y := co) (p := a) (by rw [eab]; simp)
        have sb := part_in (s := s) (y := co) (p := b) (by rw [eab]; simp)
        have lab : labL s = (nameS b && (decide (a = "") || (Txt.split a dot).all figS)) := by
          rw [labL, if_pos hc, eab]
          rfl
        rw [eab] at hlv ⊢
        refine ⟨_, rfl, l, _, _, _, rfl, rfl, SqL.of hlv, rfl, _, _, rfl, .str _, wd_sub sb hw, Nat.zero_le _, fun H2 e2 => ⟨_, rfl, ?_⟩⟩
        have e02 := el.trans e2
        have hl2 := e2 _ _ hlv
        show if (!nameS b) = true then _ else _
        cases hn : nameS b with
        | false => exact to2 (by rw [lab, hn, Bool.false_and]) e02
        | true =>
          refine ⟨_, rfl, l, _, _, _, rfl, rfl, SqL.of hl2, rfl, rfl, _, rfl, ?_⟩
          by_cases h1 : a = ""
          · rw [decide_eq_true (show V.str a = V.str (Str.ofString "") by rw [h1])]
            exact to2 (by rw [lab, hn, decide_eq_true h1, Bool.true_or, Bool.and_true]) e02
          rw [decide_eq_false (show ¬ V.str a = V.str (Str.ofString "") from fun z => h1 (V.str.inj z))]
          have l1 := (wd_str (wd_sub sa hw)).1
          refine ⟨_, rfl, l, _, _, _, rfl, rfl, SqL.of hl2, rfl, ⟨_, rfl⟩, _, _, rfl, rfl, (by decide +kernel), Evl.sz_of (by show a.length + 2 ≤ 100000; omega), fun m hm => ?_⟩
          have em : Ex H2 (upd H2 m (.lst ((Txt.split a dot).map V.str))) := Ex.new hm
          have hmv : (upd H2 m (.lst ((Txt.split a dot).map V.str))) m = some (.lst ((Txt.split a dot).map V.str)) := upd_same
          refine ⟨m, rfl, ⟨_, SqL.of upd_same⟩, fun D hD => ?_⟩
          generalize upd H2 m (.lst ((Txt.split a dot).map V.str)) = H3 at em hmv hD
          have sl := split_len (s := a) tl_dot l1
          refine lc_bools (walk_list (xs := (Txt.split a dot).map V.str)) (fun i => (((Txt.split a dot)[i]?).map figS).getD true) (by rw [List.length_map]; omega) (Ex.refl H3) hD (fun H' e' => SqL.of (e' _ _ hmv)) ?_ ?_
          · rintro i x H4 H5 hi e4 ⟨rfl, hx⟩ Kc hk
            obtain ⟨z, hz, rfl⟩ := getS hx
            have su := part_in (List.mem_of_getElem? hz)
            refine ⟨rfl, _, rfl, z, rfl, (wd_str (wd_sub (su.trans sa) hw)).1, fun H6 e6 => ?_⟩
            have := hk H6 e6
            rw [hz] at this
            exact this
          · intro H' e' hD'
            refine ⟨D, _, rfl, SqL.of hD', ?_⟩
            rw [List.length_map, all_get]
            refine to2 ?_ ((e02.trans em).trans e')
            rw [lab, hn, decide_eq_false h1, Bool.true_and, Bool.false_or]
      · have e2 : (!decide (V.int ((((Txt.split s co).map V.str).length : Nat) : Int) = V.int 2)) = true := by
          rw [decide_eq_false (fun z => h2 (by
            have := V.int.inj z
            rw [List.length_map] at this
            omega))]
          rfl
        rw [e2]
        exact to2 (by rw [labL, if_pos hc, decide_eq_false h2, Bool.false_and]) el
    · have e0 : (!decide (58 ∈ s.cps.toList)) = true := by rw [decide_eq_false hc]; rfl
      rw [e0]
      refine ⟨_, rfl, _, _, rfl, .str _, hw, Nat.zero_le _, fun H2 e2 => ?_⟩
      exact to2 (by rw [labL, if_neg hc]; rfl) e2
  · rw [Bool.not_eq_true] at hs
    rw [hs]
    have hx : nameD d = false := by cases d <;> first | rfl | cases hs
    refine ⟨_, rfl, _, _, rfl, hv, hw, hd, fun H2 e2 => ?_⟩
    rw [hx]
    exact to (by cases d <;> first | rfl | cases hs) e2
end
end K10

/-! K10: labels in order, rosters -/
namespace K10
open PySem L2 Grd RZ
open PyProof.Rows (sortedS risingS)
open Evl (Ex ex_t ex_l ex_rd)
theorem walk_zipT {K : PySem.W.Frag} {a b : Addr} {xs ys : List V} {n : Nat} (hn : n = min xs.length ys.length) : L2.Walk (ItzT K a b) n (fun H => SqT K H a xs ∧ SqT K H b ys) (YPair (fun i => xs[i]?) (fun i => ys[i]?)) :=
  ⟨fun i H' hi e => ⟨xs, ys, xs[i]'(by omega), ys[i]'(by omega), e.1, e.2, by simp, by simp⟩, fun H' e => ⟨xs, ys, e.1, e.2, by rcases Nat.le_total xs.length ys.length with h | h; exact .inl (by omega); exact .inr (by omega)⟩,
    fun i H' x H2 hi e ⟨t, y, z, ev, ht, eh, f1, f2⟩ => ⟨t, y, z, ev, ht, eh, f1 xs e.1, f2 ys e.2⟩⟩
theorem slice1 {K : PySem.W.Frag} {H : Hp} {a : Addr} {xs : List V} {Q : VK} (h : SqT K H a xs) (hz : xs.length ≤ 1000) (q : ∀ p H', Ex H H' → SqT K H' p (xs.drop 1) → Q (.ref p) H') : rSlA K (.ref a) (some 1) none H Q := by
  refine ⟨a, xs, rfl, h, fun e => ?_, fun e p hp => ?_⟩
  · have e1 : HT.sIx xs.length 0 (some ((1 : Nat) : Int)) = 0 := e.1
    rw [HT.sIx_nat] at e1
    have : xs = [] := List.eq_nil_of_length_eq_zero (by omega)
    subst this
    exact q a H (Ex.refl _) h
  · refine q p _ (Ex.new hp) (SqT.of ?_)
    rw [upd_same]
    have : cutV xs (some ((1 : Nat) : Int)) none = xs.drop 1 := by
      unfold cutV
      rw [HT.sIx_nat, HT.sIx_none]
      rcases Nat.lt_or_ge 1 xs.length with h1 | h1
      · rw [Nat.min_eq_left (by omega)]
        exact List.take_of_length_le (by rw [List.length_drop]; omega)
      · rw [List.drop_of_length_le (by omega), List.drop_of_length_le (by omega)]
        simp
    exact congrArg (fun l => some (HO.tup l)) this
/-! ### in order -/
def toS : PyData → Str
  | .str s => s
  | _ => ""
def labelsD : PyData → Bool
  | .tuple ds => ds.all labD && sortedS (ds.map toS)
  | _ => false
theorem lab_str {d : PyData} (h : labD d = true) : d = .str (toS d) := by
  cases d <;> first | rfl | cases h
theorem labs_strs {ds : List PyData} (h : ds.all labD = true) : ds = (ds.map toS).map PyData.str := by
  rw [List.map_map]
  have : ds.map (PyData.str ∘ toS) = ds.map id := List.map_congr_left fun d hd => (lab_str (List.all_eq_true.mp h d hd)).symm
  rw [this, List.map_id]
theorem adj_sorted : ∀ ss : List Str, ((List.range (ss.length - 1)).map fun i => le (ss.getD i "") (ss.getD (i + 1) "")).all id = sortedS ss
  | [] => rfl
  | [x] => rfl
  | x :: y :: r => by
    have ih := adj_sorted (y :: r)
    have e : (x :: y :: r).length - 1 = ((y :: r).length - 1) + 1 := by simp
    rw [e, List.range_succ_eq_map, List.map_cons, List.map_map, List.all_cons]
    have e2 : ((List.range ((y :: r).length - 1)).map ((fun i => le ((x :: y :: r).getD i "") ((x :: y :: r).getD (i + 1) "")) ∘ Nat.succ)).all id = sortedS (y :: r) := by
      rw [← ih]
      rfl
    rw [e2]
    rfl
theorem le_is (a b : Str) : (!decide (b.cps.toList < a.cps.toList)) = le a b := by
  unfold le
  rw [PyProof.Rows.ltCps_eq]
theorem inv_strD {K : PySem.W.Frag} {H : Hp} : ∀ {ss : List Str} {xs : List V}, DpAll K H xs (ss.map PyData.str) → xs = ss.map V.str
  | [], xs, h => by cases h; rfl
  | s :: r, xs, h => by
    cases h with
    | cons h1 h2 =>
      cases h1
      rw [inv_strD h2]
      rfl
theorem dp_pick {K : PySem.W.Frag} {H : Hp} {vs : List V} {ds : List PyData} (h : DpAll K H vs ds) {i : Nat} {v : V} (e : vs[i]? = some v) : ∃ d, ds[i]? = some d ∧ Dp K H v d := by
  induction i generalizing vs ds with
  | zero =>
    cases h with
    | nil => simp at e
    | cons h1 _ => simp at e; subst e; exact ⟨_, rfl, h1⟩
  | succ i ih =>
    cases h with
    | nil => simp at e
    | cons _ h2 => simp at e; obtain ⟨d, q⟩ := ih h2 e; exact ⟨d, by simpa using q.1, q.2⟩
theorem depth_in {ds : List PyData} {i : Nat} {d : PyData} (h : ds[i]? = some d) : d.depth ≤ PyData.depthAll ds := by
  induction ds generalizing i with
  | nil => simp at h
  | cons x r ih =>
    simp only [PyData.depthAll]
    cases i with
    | zero =>
      simp at h
      rw [h]
      exact Nat.le_max_left _ _
    | succ i =>
      simp at h
      exact Nat.le_trans (ih h) (Nat.le_max_right _ _)
section
variable {P : Program} {w : World} {K : PySem.W.Frag} {mg : Str → Option Value} {base : Heap}
theorem ok_p_are_labels (T : Txt K mg) : Fn P w K mg base CX0 3 T.a_p_are_labels T.d_p_are_labels ["thing"] (spD K 1000 labelsD) := by
  have G_p_is_label := ok_p_is_label (P := P) (w := w) (base := base) T
  refine Grd.mk T.F_p_are_labels scp_are_labels (fun vs H Q E h => ?_) (fun cdv A outer st H vs Q E gd hr h => ?_)
  · obtain ⟨v, d, rfl, _⟩ := h
    rfl
  obtain ⟨v, d, rfl, hv, hw, hd, q⟩ := h
  refine ⟨_, (pss_cons (ps_if (PW.pt (pw_or (pt_not (pt_val (pe_callB call_isi (by rfl) T.n_isinstance (by decide +kernel) (pa_cons (pv 0) (pa_cons (pe_bltn (v := .ty "tuple") (by rfl) T.n_tuple (by decide +kernel) rfl) pa_nil))))) (pw_or1 (pt_not (pt_val (pe_callB (cr_all rfl) (by rfl) T.n_all (by decide +kernel) (pa_cons (pe_lc (own := [("one", 1)]) (by rfl) scp_are_labels.nd (pi_tup (pv 0)) (blkOk_by (own := [("one", 1)]) (N := ["thing", "one", "other"]) (sc := defScope s_p_are_labels) (by decide +kernel)) (fun _ _ _ _ _ => (pg_name (i := 1) scp_are_labels.nd rfl (Or.inl rfl))) (fun _ _ _ _ _ => pts_nil) (fun _ _ _ _ _ => (pe_callG G_p_is_label gd (hr.mono (by first | decide | omega)) rfl T.g_p_is_label T.F_p_is_label.kp T.b_p_is_label .nil pass0 (pa_cons (pv 1) pa_nil)))) pa_nil))))))) (pss_one (ps_ret pe_bl)) pss_nil)
      (pss_one (ps_ret (pe_callB (cr_all rfl) (by rfl) T.n_all (by decide +kernel) (pa_cons (pe_lc (own := [("one", 1), ("other", 2)]) (g := (gTup K 2 (gCons (gName 1) (gCons (gName 2) gNil)))) (by rfl) scp_are_labels.nd (RZ.pi_zipA (by rfl) T.n_zip (pa_cons (pv 0) (pa_cons (pe_slice sl_tupA (pv 0) (po_some pe_int) po_none) pa_nil))) (blkOk_by (own := [("one", 1), ("other", 2)]) (N := ["thing", "one", "other"]) (sc := defScope s_p_are_labels) (by decide +kernel)) (fun _ _ _ _ _ => (pg_tup rfl (pgs_cons (pg_name (i := 1) scp_are_labels.nd rfl (Or.inl rfl)) (pgs_cons (pg_name (i := 2) scp_are_labels.nd rfl (Or.inl rfl)) pgs_nil)))) (fun _ _ _ _ _ => pts_nil) (fun _ _ _ _ _ => (pe_cmpR op_le_str (pv 1) (pv 2) (nomark _)))) pa_nil))))), ?_⟩
  refine ⟨_, rfl, _, _, _, _, _, rfl, .ty _, dp_ty hv, isi_tup d, _, rfl, ?_⟩
  have to : ∀ {b : Bool} {H' : Hp}, labelsD d = b → Ex H H' → Q (.bl b) H' := fun z e => by
    have := q _ e
    rw [z] at this
    exact this
  by_cases hs : isTup d = true
  · obtain ⟨ds, rfl⟩ := tup_of hs
    rw [hs]
    cases hv with
    | @tup a xs _ sx hx =>
      obtain ⟨wl, wa⟩ := wd_tup hw
      have lx := DpAll.len hx
      have dd : PyData.depthAll ds ≤ 1000 := by simp only [PyData.depth] at hd; omega
      refine ⟨_, rfl, a, rfl, ⟨_, sx⟩, fun D hD => ?_⟩
      refine lc_bools (walk_tup (xs := xs)) (fun i => ((ds[i]?).map labD).getD true) (by omega) (Ex.refl H) hD (fun H' e' => ex_t e' sx) ?_ ?_
      · rintro i x H4 H5 hi e4 ⟨rfl, hx2⟩ Kc hk
        obtain ⟨d1, h1, r1⟩ := dp_pick hx hx2
        refine ⟨rfl, _, rfl, x, d1, rfl, Dp.ex e4 _ _ r1, wd_at wa h1, Nat.le_trans (depth_in h1) dd, fun H6 e6 => ?_⟩
        have := hk H6 e6
        rw [h1] at this
        exact this
      · intro H1 e1 hD1
        refine ⟨D, _, rfl, SqL.of hD1, ?_⟩
        rw [lx, all_get]
        refine ⟨_, rfl, ?_⟩
        cases ha : ds.all labD with
        | false => exact to (by rw [labelsD, ha, Bool.false_and]) e1
        | true =>
          have eds := labs_strs ha
          generalize ess : ds.map toS = ss at eds
          have exs : xs = ss.map V.str := inv_strD (by rw [← eds]; exact hx)
          subst exs
          have ls : ss.length = ds.length := by rw [← ess, List.length_map]
          refine ⟨_, rfl, _, rfl, 1, rfl, ?_⟩
          dsimp only [tNoPart]
          refine slice1 (ex_t e1 sx) (by rw [List.length_map]; omega) fun p H2 e2 sp => ?_
          have e12 := e1.trans e2
          refine ⟨a, p, _, _, rfl, .inr ⟨ex_t e12 sx, sp, fun D2 hD2 => ?_⟩⟩
          refine lc_bools (walk_zipT (n := ss.length - 1) (by rw [List.length_drop, List.length_map]; omega)) (fun i => le (ss.getD i "") (ss.getD (i + 1) "")) (by omega) (Ex.refl H2) hD2 (fun H' e' => ⟨ex_t (e12.trans e') sx, ex_t e' sp⟩) ?_ ?_
          · rintro i x H4 H5 hi e4 ⟨t, y, z, rfl, ht, rfl, hy, hz⟩ Kc hk
            have hz : ((ss.map V.str).drop 1)[i]? = some z := hz
            rw [List.getElem?_drop, Nat.add_comm] at hz
            obtain ⟨ya, hya, rfl⟩ := getS hy
            obtain ⟨za, hza, rfl⟩ := getS hz
            refine ⟨t, _, rfl, SqT.of upd_same, rfl, _, _, rfl, _, _, rfl, rfl, rfl, ?_⟩
            refine ⟨_, rfl, _, rfl, _, _, rfl, rfl, ?_⟩
            rw [le_is]
            have := hk _ (Ex.new (o := .tup [.str ya, .str za]) ht)
            rw [List.getD_eq_getElem?_getD, List.getD_eq_getElem?_getD, hya, hza] at this
            exact this
          · intro H3 e3 hD3
            refine ⟨D2, _, rfl, SqL.of hD3, ?_⟩
            rw [adj_sorted]
            exact to (by rw [labelsD, ha, ess, Bool.true_and]) (e12.trans e3)
  · rw [Bool.not_eq_true] at hs
    rw [hs]
    exact to (by cases d <;> first | rfl | cases hs) (Ex.refl _)
/-! ### rosters -/
def isNon : PyData → Bool
  | .none => true
  | _ => false
def tailOkD : PyData → Bool
  | .none => true
  | .int i => decide (0 ≤ i)
  | _ => false
def rfD : PyData → Bool
  | .tuple [a, b] => labelsD a && tailOkD b
  | _ => false
def few : PyData → Bool
  | .tuple ds => decide (ds.length ≤ 8)
  | _ => false
def rosD : PyData → Bool
  | .tuple [a, b] => labelsD a && tailOkD b && few a
  | _ => false
theorem lab_tup {d : PyData} (h : labelsD d = true) : ∃ ds, d = .tuple ds := by
  cases d <;> first | exact ⟨_, rfl⟩ | cases h
theorem rf_not2 {ds : List PyData} (h : ds.length ≠ 2) : rfD (.tuple ds) = false ∧ rosD (.tuple ds) = false := by
  cases ds with
  | nil => exact ⟨rfl, rfl⟩
  | cons a r =>
    cases r with
    | nil => exact ⟨rfl, rfl⟩
    | cons b t =>
      cases t with
      | nil => exact absurd rfl h
      | cons c u => exact ⟨rfl, rfl⟩
theorem two_of {ds : List PyData} (h : ds.length = 2) : ∃ a b, ds = [a, b] := by
  cases ds with
  | nil => cases h
  | cons a r =>
    cases r with
    | nil => cases h
    | cons b t =>
      cases t with
      | nil => exact ⟨a, b, rfl⟩
      | cons c u => simp at h
theorem inv2 {xs : List V} {a b : PyData} {H : Hp} (h : DpAll K H xs [a, b]) : ∃ x y, xs = [x, y] ∧ Dp K H x a ∧ Dp K H y b := by
  cases h with
  | cons h1 h =>
    cases h with
    | cons h2 h =>
      cases h
      exact ⟨_, _, rfl, h1, h2⟩
theorem depth2 {a b : PyData} {n : Nat} (h : (PyData.tuple [a, b]).depth ≤ n) : a.depth ≤ n ∧ b.depth ≤ n := by
  simp only [PyData.depth, PyData.depthAll] at h
  omega
theorem wd2 {a b : PyData} (h : wd (.tuple [a, b]) = true) : wd a = true ∧ wd b = true := by
  have := (wd_tup h).2
  simp only [wdAll, Bool.and_eq_true] at this
  exact ⟨this.1, this.2.1⟩
theorem tail_eq (b : PyData) : tailOkD b = (isNon b || natD b) := by
  cases b <;> simp [tailOkD, natD, isNon]
theorem non_is {y : V} {b : PyData} {H : Hp} (h : Dp K H y b) : decide (y = V.non) = isNon b := by
  cases h <;> simp [isNon]
theorem ok_p_is_roster_form (T : Txt K mg) : Fn P w K mg base CX0 4 T.a_p_is_roster_form T.d_p_is_roster_form ["thing"] (spD K 1000 rfD) := by
  have G_p_are_labels := ok_p_are_labels (P := P) (w := w) (base := base) T
  have G_p_is_from_nought := ok_p_is_from_nought (P := P) (w := w) (base := base) T
  refine Grd.mk T.F_p_is_roster_form scp_is_roster_form (fun vs H Q E h => ?_) (fun cdv A outer st H vs Q E gd hr h => ?_)
  · obtain ⟨v, d, rfl, _⟩ := h
    rfl
  obtain ⟨v, d, rfl, hv, hw, hd, q⟩ := h
  refine ⟨_, (pss_cons (ps_if (PW.pt (pw_or (pt_not (pt_val (pe_callB call_isi (by rfl) T.n_isinstance (by decide +kernel) (pa_cons (pv 0) (pa_cons (pe_bltn (v := .ty "tuple") (by rfl) T.n_tuple (by decide +kernel) rfl) pa_nil))))) (pw_or (pt_cmpR op_ne (pe_callB call_len_seq (by rfl) T.n_len PySem.boot_len (pa_cons (pv 0) pa_nil)) pe_int (nomark _)) (pw_or1 (pt_not (pt_val (pe_callG G_p_are_labels gd (hr.mono (by first | decide | omega)) rfl T.g_p_are_labels T.F_p_are_labels.kp T.b_p_are_labels .nil pass0 (pa_cons (pe_ix ix_tup (pv 0) pe_int (fun _ _ => rfl)) pa_nil)))))))) (pss_one (ps_ret pe_bl)) pss_nil)
      (pss_one (ps_ret (pe_or (pe_cmpR op_isN (pe_ix ix_tup (pv 0) pe_int (fun _ _ => rfl)) pe_non (nomark _)) (pe_one (pe_callG G_p_is_from_nought gd (hr.mono (by first | decide | omega)) rfl T.g_p_is_from_nought T.F_p_is_from_nought.kp T.b_p_is_from_nought .nil pass0 (pa_cons (pe_ix ix_tup (pv 0) pe_int (fun _ _ => rfl)) pa_nil))))))), ?_⟩
  refine ⟨_, rfl, _, _, _, _, _, rfl, .ty _, dp_ty hv, isi_tup d, _, rfl, ?_⟩
  have to : ∀ {b : Bool} {H' : Hp}, rfD d = b → Ex H H' → Q (.bl b) H' := fun z e => by
    have := q _ e
    rw [z] at this
    exact this
  by_cases hs : isTup d = true
  · obtain ⟨ds, rfl⟩ := tup_of hs
    rw [hs]
    cases hv with
    | @tup a xs _ sx hx =>
      have lx := DpAll.len hx
      refine ⟨_, rfl, a, _, rfl, .inr sx, rfl, _, rfl, ?_⟩
      by_cases h2 : ds.length = 2
      · obtain ⟨d1, d2, rfl⟩ := two_of h2
        obtain ⟨x, y, rfl, h1, hy⟩ := inv2 hx
        obtain ⟨w1, w2⟩ := wd2 hw
        obtain ⟨p1, p2⟩ := depth2 hd
        refine ⟨_, rfl, a, _, _, _, rfl, rfl, sx, rfl, x, d1, rfl, h1, w1, p1, fun H1 e1 => ⟨_, rfl, ?_⟩⟩
        show if (!labelsD d1) = true then _ else _
        cases hl : labelsD d1 with
        | false => exact to (by rw [rfD, hl, Bool.false_and]) e1
        | true =>
          refine ⟨_, rfl, a, _, _, _, rfl, rfl, ex_t e1 sx, rfl, rfl, _, rfl, ?_⟩
          have en : rfD (.tuple [d1, d2]) = (isNon d2 || natD d2) := by rw [rfD, hl, Bool.true_and, tail_eq]
          show if decide (y = V.non) = true then _ else _
          rw [non_is hy]
          cases hn : isNon d2 with
          | true => exact to (by rw [en, hn, Bool.true_or]) e1
          | false =>
            refine ⟨_, rfl, a, _, _, _, rfl, rfl, ex_t e1 sx, rfl, y, d2, rfl, Dp.ex e1 _ _ hy, w2, p2, fun H2 e2 => ?_⟩
            exact to (by rw [en, hn, Bool.false_or]) (e1.trans e2)
      · have e2 : (!decide (V.int ((xs.length : Nat) : Int) = V.int 2)) = true := by
          rw [decide_eq_false (fun z => h2 (by
            have := V.int.inj z
            omega))]
          rfl
        rw [e2]
        exact to (rf_not2 h2).1 (Ex.refl _)
  · rw [Bool.not_eq_true] at hs
    rw [hs]
    exact to (by cases d <;> first | rfl | cases hs) (Ex.refl _)
theorem rf_false {d : PyData} (h : rfD d = false) : rosD d = false := by
  cases d with
  | tuple ds =>
    by_cases h2 : ds.length = 2
    · obtain ⟨a, b, rfl⟩ := two_of h2
      have e : rosD (.tuple [a, b]) = (rfD (.tuple [a, b]) && few a) := rfl
      rw [e, h, Bool.false_and]
    · exact (rf_not2 h2).2
  | _ => rfl
theorem ok_p_is_roster (T : Txt K mg) : Fn P w K mg base CX0 5 T.a_p_is_roster T.d_p_is_roster ["thing"] (spD K 1000 rosD) := by
  have G_p_is_roster_form := ok_p_is_roster_form (P := P) (w := w) (base := base) T
  refine Grd.mk T.F_p_is_roster scp_is_roster (fun vs H Q E h => ?_) (fun cdv A outer st H vs Q E gd hr h => ?_)
  · obtain ⟨v, d, rfl, _⟩ := h
    rfl
  obtain ⟨v, d, rfl, hv, hw, hd, q⟩ := h
  refine ⟨_, (pss_one (ps_ret (pe_and (pe_callG G_p_is_roster_form gd (hr.mono (by first | decide | omega)) rfl T.g_p_is_roster_form T.F_p_is_roster_form.kp T.b_p_is_roster_form .nil pass0 (pa_cons (pv 0) pa_nil)) (pe_one (pe_cmpR op_le (pe_callB call_len_seq (by rfl) T.n_len PySem.boot_len (pa_cons (pe_ix ix_tup (pv 0) pe_int (fun _ _ => rfl)) pa_nil)) (pe_glob rfl T.g_MOST_LABELS T.r_MOST_LABELS) (nomark _)))))), ?_⟩
  have to : ∀ {b : Bool} {H' : Hp}, rosD d = b → Ex H H' → Q (.bl b) H' := fun z e => by
    have := q _ e
    rw [z] at this
    exact this
  refine ⟨_, rfl, _, d, rfl, hv, hw, hd, fun H1 e1 => ⟨_, rfl, ?_⟩⟩
  cases hf : rfD d with
  | false => exact to (rf_false hf) e1
  | true =>
    obtain ⟨d1, d2, rfl⟩ : ∃ d1 d2, d = .tuple [d1, d2] := by
      unfold rfD at hf
      split at hf
      · exact ⟨_, _, rfl⟩
      · cases hf
    have hl : labelsD d1 = true := by
      rw [rfD, Bool.and_eq_true] at hf
      exact hf.1
    obtain ⟨es, rfl⟩ := lab_tup hl
    cases hv with
    | @tup a xs _ sx hx =>
      obtain ⟨x, y, rfl, h1, hy⟩ := inv2 hx
      cases h1 with
      | @tup b zs _ sz hz =>
        have lz := DpAll.len hz
        refine ⟨_, rfl, a, _, _, _, rfl, rfl, ex_t e1 sx, rfl, b, _, rfl, .inr (ex_t e1 sz), _, _, rfl, rfl, ?_⟩
        refine to ?_ e1
        have er : rosD (.tuple [.tuple es, d2]) = (rfD (.tuple [.tuple es, d2]) && few (.tuple es)) := rfl
        rw [er, hf, Bool.true_and, few, lz]
        congr 1
        rw [eq_iff_iff]
        omega
theorem eqvA_strs : ∀ ys ss : List Str, PyData.eqvAll (ys.map PyData.str) (ss.map PyData.str) = decide (ys = ss)
  | [], [] => by simp [PyData.eqvAll]
  | [], _ :: _ => by simp [PyData.eqvAll]
  | _ :: _, [] => by simp [PyData.eqvAll]
  | y :: r, s :: t => by
    have ih := eqvA_strs r t
    simp only [List.map_cons, PyData.eqvAll, PyData.eqv, ih]
    by_cases h : y = s
    · subst h; simp
    · simp [h]
end
end K10

/-! K10: rosters by the law -/
namespace K10
open PySem L2 Grd RZ
open PyProof.Rows (sortedS risingS)
open Evl (Ex ex_t ex_l ex_rd)
mutual
theorem wd_lay : ∀ d : PyData, wd d = true → PyData.canLay0 d = true
  | .none, _ => by simp only [PyData.canLay0]
  | .bool _, _ => by simp only [PyData.canLay0]
  | .int _, _ => by simp only [PyData.canLay0]
  | .str s, h => by simp only [PyData.canLay0]; exact (wd_str h).2
  | .list ds, h => by simp only [PyData.canLay0]; exact wd_lays ds (wd_lst h).2
  | .tuple ds, h => by simp only [PyData.canLay0]; exact wd_lays ds (wd_tup h).2
  | .dict _, h => by simp only [wd] at h; cases h
theorem wd_lays : ∀ ds : List PyData, wdAll ds = true → PyData.canLayAll0 ds = true
  | [], _ => by simp only [PyData.canLayAll0]
  | d :: r, h => by
    simp only [wdAll, Bool.and_eq_true] at h
    simp only [PyData.canLayAll0, wd_lay d h.1, wd_lays r h.2, Bool.and_self]
end
theorem wd_shp {d : PyData} (h : wd d = true) (k : d.depth ≤ 64) : SeqAt.shaped d = true := by
  unfold SeqAt.shaped
  rw [wd_lay d h, decide_eq_true k]
  rfl
theorem wdAll_strs {ds : List PyData} : ∀ {ys ss : List Str}, ys.Perm ss → wdAll (ss.map PyData.str) = true → wdAll (ys.map PyData.str) = true := by
  intro ys ss p
  induction p with
  | nil => exact id
  | cons x _ ih =>
    intro h
    simp only [List.map_cons, wdAll, Bool.and_eq_true] at h ⊢
    exact ⟨h.1, ih h.2⟩
  | swap x y l =>
    intro h
    simp only [List.map_cons, wdAll, Bool.and_eq_true] at h ⊢
    exact ⟨h.2.1, h.1, h.2.2⟩
  | trans _ _ i1 i2 => exact fun h => i1 (i2 h)
theorem dep_strsD : ∀ ss : List Str, PyData.depthAll (ss.map PyData.str) = 0
  | [] => by simp only [List.map_nil, PyData.depthAll]
  | s :: r => by simp only [List.map_cons, PyData.depthAll, PyData.depth, dep_strsD r]; rfl
section
variable {P : Program} {w : World} {K : PySem.W.Frag} {mg : Str → Option Value} {base : Heap}
theorem ok_is_ros (T : Txt K mg) : Fn P w K mg base CX0 4 T.a_is_ros T.d_is_ros ["_law_odd_here"] (spD K 1000 rosD) := by
  have G_is_label := ok_is_label (P := P) (w := w) (base := base) T
  refine Grd.mk T.F_is_ros scis_ros (fun vs H Q E h => ?_) (fun cdv A outer st H vs Q E gd hr h => ?_)
  · obtain ⟨v, d, rfl, _⟩ := h
    rfl
  obtain ⟨v, d, rfl, hv, hw, hd, q⟩ := h
  refine ⟨_, (pss_cons (ps_if (PW.pt (pw_or (pt_not (pt_val (pe_callB call_isi (by rfl) T.n_isinstance (by decide +kernel) (pa_cons (pv 0) (pa_cons (pe_bltn (v := .ty "tuple") (by rfl) T.n_tuple (by decide +kernel) rfl) pa_nil))))) (pw_or (pt_cmpR op_ne (pe_callB call_len_seq (by rfl) T.n_len PySem.boot_len (pa_cons (pv 0) pa_nil)) pe_int (nomark _)) (pw_or (pt_not (pt_val (pe_callB call_isi (by rfl) T.n_isinstance (by decide +kernel) (pa_cons (pe_ix ix_tup (pv 0) pe_int (fun _ _ => rfl)) (pa_cons (pe_bltn (v := .ty "tuple") (by rfl) T.n_tuple (by decide +kernel) rfl) pa_nil))))) (pw_or1 (pt_cmpR op_gt (pe_callB call_len_seq (by rfl) T.n_len PySem.boot_len (pa_cons (pe_ix ix_tup (pv 0) pe_int (fun _ _ => rfl)) pa_nil)) pe_int (nomark _))))))) (pss_one (ps_ret pe_bl)) pss_nil)
      (pss_cons (ps_if (PW.pt (pw_or (pt_not (pt_val (pe_callB (cr_all rfl) (by rfl) T.n_all (by decide +kernel) (pa_cons (pe_lc (own := [("_law_one", 1)]) (by rfl) scis_ros.nd (pi_tup (pe_ix ix_tup (pv 0) pe_int (fun _ _ => rfl))) (blkOk_by (own := [("_law_one", 1)]) (N := ["_law_odd_here", "_law_one"]) (sc := defScope s_is_ros) (by decide +kernel)) (fun _ _ _ _ _ => (pg_name (i := 1) scis_ros.nd rfl (Or.inl rfl))) (fun _ _ _ _ _ => pts_nil) (fun _ _ _ _ _ => (pe_callG G_is_label gd (hr.mono (by first | decide | omega)) rfl T.g_is_label T.F_is_label.kp T.b_is_label .nil pass0 (pa_cons (pv 1) pa_nil)))) pa_nil)))) (pw_or1 (pt_cmpR (op_neD hr.units) (pe_callB cr_sortedTS (by rfl) T.n_sorted (by decide +kernel) (pa_cons (pe_ix ix_tup (pv 0) pe_int (fun _ _ => rfl)) pa_nil)) (pe_callTy call_list_of (by rfl) T.n_list (by decide +kernel) (pa_cons (pe_ix ix_tup (pv 0) pe_int (fun _ _ => rfl)) pa_nil)) (nomark _))))) (pss_one (ps_ret pe_bl)) pss_nil)
      (pss_one (ps_ret (pe_or (pe_cmpR op_isN (pe_ix ix_tup (pv 0) pe_int (fun _ _ => rfl)) pe_non (nomark _)) (pe_one (pe_and (pe_callB call_isi (by rfl) T.n_isinstance (by decide +kernel) (pa_cons (pe_ix ix_tup (pv 0) pe_int (fun _ _ => rfl)) (pa_cons (pe_bltn (v := .ty "int") (by rfl) T.n_int (by decide +kernel) rfl) pa_nil))) (pe_and (pe_not (pe_callB call_isi (by rfl) T.n_isinstance (by decide +kernel) (pa_cons (pe_ix ix_tup (pv 0) pe_int (fun _ _ => rfl)) (pa_cons (pe_bltn (v := .ty "bool") (by rfl) T.n_bool (by decide +kernel) rfl) pa_nil)))) (pe_one (pe_cmpR op_ge (pe_ix ix_tup (pv 0) pe_int (fun _ _ => rfl)) pe_int (nomark _))))))))))), ?_⟩
  refine ⟨_, rfl, _, _, _, _, _, rfl, .ty _, dp_ty hv, isi_tup d, _, rfl, ?_⟩
  have to : ∀ {b : Bool} {H' : Hp}, rosD d = b → Ex H H' → Q (.bl b) H' := fun z e => by
    have := q _ e
    rw [z] at this
    exact this
  by_cases hs : isTup d = true
  · obtain ⟨ds, rfl⟩ := tup_of hs
    rw [hs]
    cases hv with
    | @tup a xs _ sx hx =>
      have lx := DpAll.len hx
      refine ⟨_, rfl, a, _, rfl, .inr sx, rfl, _, rfl, ?_⟩
      by_cases h2 : ds.length = 2
      · obtain ⟨d1, d2, rfl⟩ := two_of h2
        obtain ⟨x, y, rfl, h1, hy⟩ := inv2 hx
        obtain ⟨w1, w2⟩ := wd2 hw
        obtain ⟨p1, p2⟩ := depth2 hd
        have er : rosD (.tuple [d1, d2]) = (labelsD d1 && tailOkD d2 && few d1) := rfl
        refine ⟨_, rfl, a, _, _, _, rfl, rfl, sx, rfl, _, _, _, _, _, rfl, .ty _, dp_ty h1, isi_tup d1, _, rfl, ?_⟩
        by_cases ht : isTup d1 = true
        · obtain ⟨es, rfl⟩ := tup_of ht
          rw [ht]
          cases h1 with
          | @tup b zs _ sz hz =>
            have lz := DpAll.len hz
            have wz := wd_tup w1
            have dz : PyData.depthAll es ≤ 1000 := by simp only [PyData.depth] at p1; omega
            refine ⟨_, rfl, a, _, _, _, rfl, rfl, sx, rfl, b, _, rfl, .inr sz, _, _, rfl, rfl, _, rfl, ?_⟩
            by_cases h8 : es.length ≤ 8
            · rw [decide_eq_false (by rw [lz]; omega)]
              refine ⟨_, rfl, a, _, _, _, rfl, rfl, sx, rfl, b, rfl, ⟨_, sz⟩, fun D hD => ?_⟩
              refine lc_bools (walk_tup (xs := zs)) (fun i => ((es[i]?).map labD).getD true) (by omega) (Ex.refl H) hD (fun H' e' => ex_t e' sz) ?_ ?_
              · rintro i x H4 H5 hi e4 ⟨rfl, hx2⟩ Kc hk
                obtain ⟨d3, h3, r3⟩ := dp_pick hz hx2
                refine ⟨rfl, _, rfl, x, d3, rfl, Dp.ex e4 _ _ r3, wd_at wz.2 h3, Nat.le_trans (depth_in h3) dz, fun H6 e6 => ?_⟩
                have := hk H6 e6
                rw [h3] at this
                exact this
              · intro H1 e1 hD1
                refine ⟨D, _, rfl, SqL.of hD1, ?_⟩
                rw [lz, all_get]
                refine ⟨_, rfl, ?_⟩
                cases ha : es.all labD with
                | false => exact to (by rw [er, labelsD, ha, Bool.false_and, Bool.false_and, Bool.false_and]) e1
                | true =>
                  have eds := labs_strs ha
                  generalize ess : es.map toS = ss at eds
                  have exs : zs = ss.map V.str := inv_strD (by rw [← eds]; exact hz)
                  subst exs
                  have ls : ss.length = es.length := by rw [← ess, List.length_map]
                  refine ⟨_, rfl, a, _, _, _, rfl, rfl, ex_t e1 sx, rfl, b, ss, rfl, ex_t e1 sz, by omega, fun ys p pm so hp => ?_⟩
                  have ep : Ex H1 (upd H1 p (.lst (ys.map V.str))) := Ex.new hp
                  have hpv : (upd H1 p (.lst (ys.map V.str))) p = some (.lst (ys.map V.str)) := upd_same
                  generalize upd H1 p (.lst (ys.map V.str)) = H2 at ep hpv
                  have e12 := e1.trans ep
                  refine ⟨_, rfl, a, _, _, _, rfl, rfl, ex_t e12 sx, rfl, b, _, rfl, .inr (ex_t e12 sz), fun l hl => ?_⟩
                  have el : Ex H2 (upd H2 l (.lst (ss.map V.str))) := Ex.new hl
                  have hlv : (upd H2 l (.lst (ss.map V.str))) l = some (.lst (ss.map V.str)) := upd_same
                  generalize upd H2 l (.lst (ss.map V.str)) = H3 at el hlv
                  have e13 := e12.trans el
                  have ws : wdAll (ss.map PyData.str) = true := by rw [← eds]; exact wz.2
                  have wy := wdAll_strs (ds := es) pm ws
                  have shs : SeqAt.shaped (.list (ss.map PyData.str)) = true := by
                    unfold SeqAt.shaped
                    simp only [PyData.canLay0, wd_lays _ ws, PyData.depth, dep_strsD]
                    rfl
                  have shy : SeqAt.shaped (.list (ys.map PyData.str)) = true := by
                    unfold SeqAt.shaped
                    simp only [PyData.canLay0, wd_lays _ wy, PyData.depth, dep_strsD]
                    rfl
                  refine ⟨.list (ys.map PyData.str), .list (ss.map PyData.str), .lst (SqL.of (el _ _ hpv)) (dp_strs _), .lst (SqL.of hlv) (dp_strs _), shy, shs, _, rfl, ?_⟩
                  have eq : (!PyData.eqv (.list (ys.map PyData.str)) (.list (ss.map PyData.str))) = !sortedS ss := by
                    have e0 : PyData.eqv (.list (ys.map PyData.str)) (.list (ss.map PyData.str)) = PyData.eqvAll (ys.map PyData.str) (ss.map PyData.str) := by simp only [PyData.eqv]
                    rw [e0, eqvA_strs]
                    congr 1
                    have ey := srt_eq pm so
                    cases hso : sortedS ss with
                    | true =>
                      rw [srt_of_sorted hso] at ey
                      exact decide_eq_true ey
                    | false =>
                      refine decide_eq_false fun z => ?_
                      rw [z] at so
                      rw [so] at hso
                      cases hso
                  rw [eq]
                  cases hso : sortedS ss with
                  | false => exact to (by rw [er, labelsD, ha, ess, hso, Bool.and_false, Bool.false_and, Bool.false_and]) e13
                  | true =>
                    have er2 : rosD (.tuple [.tuple es, d2]) = tailOkD d2 := by
                      rw [er, labelsD, ha, ess, hso, few, decide_eq_true h8, Bool.and_true, Bool.true_and, Bool.true_and]
                    refine ⟨_, rfl, a, _, _, _, rfl, rfl, ex_t e13 sx, rfl, rfl, _, rfl, ?_⟩
                    show if decide (y = V.non) = true then _ else _
                    rw [non_is hy]
                    cases hn : isNon d2 with
                    | true => exact to (by rw [er2, tail_eq, hn, Bool.true_or]) e13
                    | false =>
                      have er3 : rosD (.tuple [.tuple es, d2]) = natD d2 := by rw [er2, tail_eq, hn, Bool.false_or]
                      have hy3 := Dp.ex e13 _ _ hy
                      refine ⟨_, rfl, a, _, _, _, rfl, rfl, ex_t e13 sx, rfl, _, _, _, _, _, rfl, .ty _, dp_ty hy3, isi_int d2, _, rfl, ?_⟩
                      cases hi : isInt d2 with
                      | false => exact to (by rw [er3]; cases d2 <;> first | rfl | cases hi) e13
                      | true =>
                        refine ⟨_, rfl, a, _, _, _, rfl, rfl, ex_t e13 sx, rfl, _, _, _, _, _, rfl, .ty _, dp_ty hy3, isi_bool d2, _, rfl, _, rfl, ?_⟩
                        cases hb : isBool d2 with
                        | true => exact to (by rw [er3]; cases d2 <;> first | rfl | cases hb) e13
                        | false =>
                          cases d2 with
                          | int i =>
                            cases hy
                            refine ⟨_, rfl, a, _, _, _, rfl, rfl, ex_t e13 sx, rfl, _, _, rfl, rfl, to ?_ e13⟩
                            rw [er3]
                            rfl
                          | bool b => cases hb
                          | _ => cases hi
            · rw [decide_eq_true (by rw [lz]; omega)]
              exact to (by rw [er, few, decide_eq_false h8, Bool.and_false]) (Ex.refl _)
        · rw [Bool.not_eq_true] at ht
          rw [ht]
          have : labelsD d1 = false := by cases d1 <;> first | rfl | cases ht
          exact to (by rw [er, this, Bool.false_and, Bool.false_and]) (Ex.refl _)
      · have e2 : (!decide (V.int ((xs.length : Nat) : Int) = V.int 2)) = true := by
          rw [decide_eq_false (fun z => h2 (by
            have := V.int.inj z
            omega))]
          rfl
        rw [e2]
        exact to (rf_not2 h2).2 (Ex.refl _)
  · rw [Bool.not_eq_true] at hs
    rw [hs]
    exact to (by cases d <;> first | rfl | cases hs) (Ex.refl _)
end
end K10

/-! K10: forms of kinds -/
namespace K10
open PySem L2 Grd RZ
open Evl (Ex ex_t ex_l ex_rd)
/-- a if c else b, as a test -/
def tIfT (t u v : TT) : TT := fun σ H Q => t σ H fun d H1 => if d = true then u σ H1 Q else v σ H1 Q
theorem pt_ifExp {X : Cx} {c a b : Expr} {pos : Pos} {t u v : TT} (hc : PT X c t) (ha : PT X a u) (hb : PT X b v) : PT X (.IfExp c a b pos) (tIfT t u v) := by
  constructor
  intro pins s σ H Q I h
  refine PyProof.Rows.isTrue_IfExp (thn (hc.run pins s σ H _ I h) ?_)
  rintro d s1 ⟨H1, I1, q1⟩
  cases d with
  | true => exact ha.run pins s1 σ H1 Q I1 q1
  | false => exact hb.run pins s1 σ H1 Q I1 q1
/-! ### by how deep one looks -/
def kf3 (k : PyData → Bool) : List PyData → Bool
  | [x, r, y] => rosD r && (k x && k y)
  | _ => false
def kfn : Nat → PyData → Bool
  | 0, _ => false
  | n + 1, d => match d with
    | .str s => decide (s = "number")
    | .tuple (.str w :: es) => if w = "any" then decide (es.length = 1) && es.all natD else if w = "pair" then decide (es.length = 2) && es.all (kfn n) else decide (w = "fun") && kf3 (kfn n) es
    | _ => false
def spKF (K : PySem.W.Frag) (n : Nat) : Sp := fun vs H Q _ => ∃ (v : V) (d : PyData), vs = [v, .bl true] ∧ Dp K H v d ∧ wd d = true ∧ d.depth ≤ n ∧ d.depth ≤ 60 ∧ ∀ H', Ex H H' → Q (.bl (kfn (n + 1) d)) H'
theorem inv_tup {K : PySem.W.Frag} {H : Hp} {v : V} {ds : List PyData} (h : Dp K H v (.tuple ds)) : ∃ a xs, v = .ref a ∧ SqT K H a xs ∧ DpAll K H xs ds := by
  cases h with
  | tup hs ha => exact ⟨_, _, rfl, hs, ha⟩
theorem inv_cons {K : PySem.W.Frag} {H : Hp} {xs : List V} {d : PyData} {ds : List PyData} (h : DpAll K H xs (d :: ds)) : ∃ x r, xs = x :: r ∧ Dp K H x d ∧ DpAll K H r ds := by
  cases h with
  | cons h1 h2 => exact ⟨_, _, rfl, h1, h2⟩
theorem all_get2 {α : Type} (f : α → Bool) (cs : List α) (n : Nat) (h : n = cs.length) : ((List.range n).map fun i => ((cs[i]?).map f).getD true).all id = cs.all f := by
  rw [h, all_get]
theorem w_ne {a b : Str} (h : a ≠ b) : decide (V.str a = V.str b) = false := decide_eq_false fun z => h (V.str.inj z)
theorem w_eq (a : Str) : decide (V.str a = V.str a) = true := decide_eq_true rfl
theorem s_pa : ¬ ("pair" : Str) = "any" := by decide +kernel
theorem s_fa : ¬ ("fun" : Str) = "any" := by decide +kernel
theorem s_fp : ¬ ("fun" : Str) = "pair" := by decide +kernel
theorem len_dec (n m : Nat) : decide (V.int (n : Int) = V.int (m : Int)) = decide (n = m) := by
  by_cases h : n = m
  · subst h
    rw [decide_eq_true rfl, decide_eq_true rfl]
  · rw [decide_eq_false h, decide_eq_false (fun z => h (by have := V.int.inj z; omega))]
theorem kfn_w {n : Nat} {w : Str} {es : List PyData} : kfn (n + 1) (.tuple (.str w :: es)) = (if w = "any" then decide (es.length = 1) && es.all natD else if w = "pair" then decide (es.length = 2) && es.all (kfn n) else decide (w = "fun") && kf3 (kfn n) es) := rfl
theorem one_of1 {es : List PyData} (h : es.length = 1) : ∃ a, es = [a] := by
  cases es with
  | nil => cases h
  | cons a r =>
    cases r with
    | nil => exact ⟨a, rfl⟩
    | cons b t => simp at h
theorem three_of {es : List PyData} (h : es.length = 3) : ∃ a b c, es = [a, b, c] := by
  cases es with
  | nil => cases h
  | cons a r =>
    cases r with
    | nil => cases h
    | cons b t =>
      cases t with
      | nil => cases h
      | cons c u =>
        cases u with
        | nil => exact ⟨a, b, c, rfl⟩
        | cons d v => simp at h
theorem kfn_not3 {k : PyData → Bool} {es : List PyData} (h : es.length ≠ 3) : kf3 k es = false := by
  cases es with
  | nil => rfl
  | cons a r =>
    cases r with
    | nil => rfl
    | cons b t =>
      cases t with
      | nil => rfl
      | cons c u =>
        cases u with
        | nil => exact absurd rfl h
        | cons d v => rfl
section
variable {P : Program} {w : World} {K : PySem.W.Frag} {mg : Str → Option Value} {base : Heap}
theorem ok_kf_step (T : Txt K mg) (n j : Nat) (hj : 5 ≤ j) (G_p_is_kind_form : Fn P w K mg base CX0 j T.a_p_is_kind_form T.d_p_is_kind_form ["thing", "bounded"] (fun vs H Q E => ∃ m, m + 1 = n ∧ spKF K m vs H Q E)) :
    Fn P w K mg base CX0 (j + 1) T.a_p_is_kind_form T.d_p_is_kind_form ["thing", "bounded"] (spKF K n) := by
  have G_p_is_from_nought := ok_p_is_from_nought (P := P) (w := w) (base := base) T
  have G_p_is_roster := ok_p_is_roster (P := P) (w := w) (base := base) T
  have G_p_is_roster_form := ok_p_is_roster_form (P := P) (w := w) (base := base) T
  refine Grd.mk T.F_p_is_kind_form scp_is_kind_form (fun vs H Q E h => ?_) (fun cdv A outer st H vs Q E gd hr h => ?_)
  · obtain ⟨v, d, rfl, _⟩ := h
    rfl
  obtain ⟨v, d, rfl, hv, hw, hd, hd6, q⟩ := h
  refine ⟨_, (pss_cons (ps_if (pt_val (pe_callB call_isi (by rfl) T.n_isinstance (by decide +kernel) (pa_cons (pv 0) (pa_cons (pe_bltn (v := .ty "str") (by rfl) T.n_str (by decide +kernel) rfl) pa_nil)))) (pss_one (ps_ret (pe_cmpR op_eq (pv 0) pe_str (nomark _)))) pss_nil)
      (pss_cons (ps_if (PW.pt (pw_or (pt_not (pt_val (pe_callB call_isi (by rfl) T.n_isinstance (by decide +kernel) (pa_cons (pv 0) (pa_cons (pe_bltn (v := .ty "tuple") (by rfl) T.n_tuple (by decide +kernel) rfl) pa_nil))))) (pw_or (pt_cmpR op_lt (pe_callB call_len_seq (by rfl) T.n_len PySem.boot_len (pa_cons (pv 0) pa_nil)) pe_int (nomark _)) (pw_or1 (pt_not (pt_val (pe_callB call_isi (by rfl) T.n_isinstance (by decide +kernel) (pa_cons (pe_ix ix_tup (pv 0) pe_int (fun _ _ => rfl)) (pa_cons (pe_bltn (v := .ty "str") (by rfl) T.n_str (by decide +kernel) rfl) pa_nil))))))))) (pss_one (ps_ret pe_bl)) pss_nil)
      (pss_cons (ps_asg (pv 0) (pg_star (n := 1) rfl (pgs_cons (pg_name (i := 2) scp_is_kind_form.nd rfl (Or.inl rfl)) (pgs_star (pg_name (i := 3) scp_is_kind_form.nd rfl (Or.inl rfl))))))
      (pss_cons (ps_if (pt_cmpR op_eq (pv 2) pe_str (nomark _)) (pss_one (ps_ret (pe_and (pe_cmpR op_eq (pe_callB call_len_seq (by rfl) T.n_len PySem.boot_len (pa_cons (pv 3) pa_nil)) pe_int (nomark _)) (pe_one (pe_callG G_p_is_from_nought gd (hr.mono (by first | decide | omega)) rfl T.g_p_is_from_nought T.F_p_is_from_nought.kp T.b_p_is_from_nought .nil pass0 (pa_cons (pe_ix ix_list (pv 3) pe_int (fun _ _ => rfl)) pa_nil)))))) pss_nil)
      (pss_cons (ps_if (pt_cmpR op_eq (pv 2) pe_str (nomark _)) (pss_one (ps_ret (pe_and (pe_cmpR op_eq (pe_callB call_len_seq (by rfl) T.n_len PySem.boot_len (pa_cons (pv 3) pa_nil)) pe_int (nomark _)) (pe_one (pe_callB (cr_all rfl) (by rfl) T.n_all (by decide +kernel) (pa_cons (pe_lc (own := [("one", 4)]) (by rfl) scp_is_kind_form.nd (pi_list (pv 3)) (blkOk_by (own := [("one", 4)]) (N := ["thing", "bounded", "word", "rest", "one"]) (sc := defScope s_p_is_kind_form) (by decide +kernel)) (fun _ _ _ _ _ => (pg_name (i := 4) scp_is_kind_form.nd rfl (Or.inl rfl))) (fun _ _ _ _ _ => pts_nil) (fun _ _ _ _ _ => (pe_callGK G_p_is_kind_form gd (hr.mono (by first | decide | omega)) rfl T.g_p_is_kind_form T.F_p_is_kind_form.kp T.kb_p_is_kind_form pass0 (pa_cons (pv 4) pa_nil) (pk_cons (pv 1) pk_nil)))) pa_nil)))))) pss_nil)
      (pss_cons (ps_if (PW.pt (pw_or (pt_cmpR op_ne (pv 2) pe_str (nomark _)) (pw_or (pt_cmpR op_ne (pe_callB call_len_seq (by rfl) T.n_len PySem.boot_len (pa_cons (pv 3) pa_nil)) pe_int (nomark _)) (pw_or1 (pt_not (pt_ifExp (pt_val (pv 1)) (pt_val (pe_callG G_p_is_roster gd (hr.mono (by first | decide | omega)) rfl T.g_p_is_roster T.F_p_is_roster.kp T.b_p_is_roster .nil pass0 (pa_cons (pe_ix ix_list (pv 3) pe_int (fun _ _ => rfl)) pa_nil))) (pt_val (pe_callG G_p_is_roster_form gd (hr.mono (by first | decide | omega)) rfl T.g_p_is_roster_form T.F_p_is_roster_form.kp T.b_p_is_roster_form .nil pass0 (pa_cons (pe_ix ix_list (pv 3) pe_int (fun _ _ => rfl)) pa_nil))))))))) (pss_one (ps_ret pe_bl)) pss_nil)
      (pss_one (ps_ret (pe_callB (cr_all rfl) (by rfl) T.n_all (by decide +kernel) (pa_cons (pe_lc (own := [("one", 4)]) (by rfl) scp_is_kind_form.nd (pi_list (pe_step2 (pv 3))) (blkOk_by (own := [("one", 4)]) (N := ["thing", "bounded", "word", "rest", "one"]) (sc := defScope s_p_is_kind_form) (by decide +kernel)) (fun _ _ _ _ _ => (pg_name (i := 4) scp_is_kind_form.nd rfl (Or.inl rfl))) (fun _ _ _ _ _ => pts_nil) (fun _ _ _ _ _ => (pe_callGK G_p_is_kind_form gd (hr.mono (by first | decide | omega)) rfl T.g_p_is_kind_form T.F_p_is_kind_form.kp T.kb_p_is_kind_form pass0 (pa_cons (pv 4) pa_nil) (pk_cons (pv 1) pk_nil)))) pa_nil)))))))))), ?_⟩
  have to : ∀ {b : Bool} {H' : Hp}, kfn (n + 1) d = b → Ex H H' → Q (.bl b) H' := fun z e => by
    have := q _ e
    rw [z] at this
    exact this
  refine ⟨_, rfl, _, _, _, _, _, rfl, .ty _, dp_ty hv, isi_str d, _, rfl, ?_⟩
  by_cases hs : isStr d = true
  · obtain ⟨s, rfl⟩ := str_of hs
    cases hv
    rw [hs]
    refine ⟨_, rfl, rfl, to ?_ (Ex.refl _)⟩
    show decide (s = "number") = decide (V.str s = V.str (Str.ofString "number"))
    by_cases h : s = "number"
    · subst h; rw [w_eq]; exact decide_eq_true rfl
    · rw [w_ne h, decide_eq_false h]
  rw [Bool.not_eq_true] at hs
  rw [hs]
  refine ⟨_, rfl, _, _, _, _, _, rfl, .ty _, dp_ty hv, isi_tup d, _, rfl, ?_⟩
  by_cases ht : isTup d = true
  rotate_left
  · rw [Bool.not_eq_true] at ht
    rw [ht]
    exact to (by cases d <;> first | rfl | (simp [isStr] at hs; done) | (simp [isTup] at ht; done)) (Ex.refl _)
  obtain ⟨ds, rfl⟩ := tup_of ht
  rw [ht]
  obtain ⟨a, xs, rfl, sx, hx⟩ := inv_tup hv
  have lx := DpAll.len hx
  have wl := wd_tup hw
  have dd : PyData.depthAll ds + 1 ≤ n := by simp only [PyData.depth] at hd; omega
  have dd6 : PyData.depthAll ds + 1 ≤ 60 := by simp only [PyData.depth] at hd6; omega
  refine ⟨_, rfl, a, _, rfl, .inr sx, _, _, rfl, rfl, _, rfl, ?_⟩
  cases ds with
  | nil =>
    rw [decide_eq_true (by rw [lx]; decide)]
    exact to rfl (Ex.refl _)
  | cons d0 es =>
    obtain ⟨x0, rs, rfl, h0, hr0⟩ := inv_cons hx
    have lr := DpAll.len hr0
    have w0 := wl.2
    simp only [wdAll, Bool.and_eq_true] at w0
    cases es with
    | nil =>
      rw [decide_eq_true (by rw [lx]; show ((1 : Nat) : Int) < 2; decide)]
      exact to (by
        cases d0 with
        | str w =>
          show (if w = "any" then _ else if w = "pair" then _ else _) = _
          split
          · rfl
          · split
            · rfl
            · rw [kfn_not3 (es := []) (by decide), Bool.and_false]
        | _ => rfl) (Ex.refl _)
    | cons d1 es' =>
      generalize ees : d1 :: es' = es at hr0 lr w0 hw hd hd6 q to dd dd6 lx wl hx hv
      have les : 1 ≤ es.length := by rw [← ees]; simp
      rw [decide_eq_false (by rw [lx, List.length_cons]; omega)]
      refine ⟨_, rfl, a, _, _, _, rfl, rfl, sx, atI_nat (j := 0) rfl, _, _, _, _, _, rfl, .ty _, dp_ty h0, isi_str d0, _, rfl, ?_⟩
      by_cases hs0 : isStr d0 = true
      rotate_left
      · rw [Bool.not_eq_true] at hs0
        rw [hs0]
        exact to (by cases d0 <;> first | rfl | cases hs0) (Ex.refl _)
      obtain ⟨w, rfl⟩ := str_of hs0
      rw [hs0]
      cases h0
      refine ⟨_, rfl, a, _, rfl, sx, by simp, fun l hl => ?_⟩
      refine ⟨_, _, rfl, _, _, rfl, rfl, ?_⟩
      generalize eG : upd H l (.lst ((V.str w :: rs).drop 1)) = H1
      have el : Ex H H1 := by rw [← eG]; exact Ex.new hl
      have hlv : H1 l = some (.lst rs) := by rw [← eG]; exact upd_same
      have ll : rs.length = es.length := lr
      refine ⟨_, rfl, rfl, _, rfl, ?_⟩
      by_cases ha : w = "any"
      · subst ha
        rw [w_eq]
        refine ⟨_, rfl, l, _, rfl, .inl (SqL.of hlv), rfl, _, rfl, ?_⟩
        have lk : decide (V.int ((rs.length : Nat) : Int) = V.int 1) = decide (es.length = 1) := by rw [← ll]; exact len_dec rs.length 1
        rw [lk]
        have kk : kfn (n + 1) (.tuple (.str "any" :: es)) = (decide (es.length = 1) && es.all natD) := by rw [kfn_w, if_pos rfl]
        by_cases h1 : es.length = 1
        · rw [decide_eq_true h1]
          obtain ⟨e1, rfl⟩ := one_of1 h1
          obtain ⟨x1, r1, rfl, hx1, hr1⟩ := inv_cons hr0
          refine ⟨_, rfl, l, _, _, _, rfl, rfl, SqL.of hlv, atI_nat (j := 0) rfl, x1, e1, rfl, Dp.ex el _ _ hx1, wd_at w0.2 (i := 0) rfl, ?_, fun H2 e2 => to ?_ (el.trans e2)⟩
          · simp only [PyData.depthAll] at dd6
            omega
          · rw [kk]
            simp
        · rw [decide_eq_false h1]
          exact to (by rw [kk, decide_eq_false h1, Bool.false_and]) el
      rw [w_ne ha]
      refine ⟨_, rfl, rfl, _, rfl, ?_⟩
      by_cases hp : w = "pair"
      · subst hp
        rw [w_eq]
        refine ⟨_, rfl, l, _, rfl, .inl (SqL.of hlv), rfl, _, rfl, ?_⟩
        have lk : decide (V.int ((rs.length : Nat) : Int) = V.int 2) = decide (es.length = 2) := by rw [← ll]; exact len_dec rs.length 2
        rw [lk]
        have kk : kfn (n + 1) (.tuple (.str "pair" :: es)) = (decide (es.length = 2) && es.all (kfn n)) := by rw [kfn_w, if_neg s_pa, if_pos rfl]
        by_cases h2 : es.length = 2
        · rw [decide_eq_true h2]
          refine ⟨_, rfl, l, rfl, ⟨_, SqL.of hlv⟩, fun D hD => ?_⟩
          refine lc_bools (walk_list (xs := rs)) (fun i => ((es[i]?).map (kfn n)).getD true) (by omega) (Ex.refl H1) hD (fun H' e' => SqL.of (e' _ _ hlv)) ?_ ?_
          · rintro i x H4 H5 hi e4 ⟨rfl, hx2⟩ Kc hk
            obtain ⟨d3, h3, r3⟩ := dp_pick hr0 hx2
            have dp3 : d3.depth ≤ PyData.depthAll es := depth_in h3
            have dpe : PyData.depthAll es ≤ PyData.depthAll (PyData.str "pair" :: es) := by simp only [PyData.depthAll]; omega
            refine ⟨rfl, _, rfl, _, rfl, n - 1, by omega, x, d3, rfl, Dp.ex (el.trans e4) _ _ r3, wd_at w0.2 h3, by omega, by omega, fun H6 e6 => ?_⟩
            have := hk H6 e6
            rw [h3] at this
            have en : n - 1 + 1 = n := by omega
            rw [en]
            exact this
          · intro H4 e4 hD4
            refine ⟨D, _, rfl, SqL.of hD4, ?_⟩
            rw [all_get2 _ _ _ ll]
            exact to (by rw [kk, decide_eq_true h2, Bool.true_and]) (el.trans e4)
        · rw [decide_eq_false h2]
          exact to (by rw [kk, decide_eq_false h2, Bool.false_and]) el
      rw [w_ne hp]
      refine ⟨_, rfl, rfl, _, rfl, ?_⟩
      have kk : kfn (n + 1) (.tuple (.str w :: es)) = (decide (w = "fun") && kf3 (kfn n) es) := by rw [kfn_w, if_neg ha, if_neg hp]
      by_cases hf : w = "fun"
      rotate_left
      · rw [w_ne hf]
        exact to (by rw [kk, decide_eq_false hf, Bool.false_and]) el
      subst hf
      rw [w_eq]
      refine ⟨_, rfl, l, _, rfl, .inl (SqL.of hlv), rfl, _, rfl, ?_⟩
      have lk : decide (V.int ((rs.length : Nat) : Int) = V.int 3) = decide (es.length = 3) := by rw [← ll]; exact len_dec rs.length 3
      rw [lk]
      by_cases h3 : es.length = 3
      rotate_left
      · rw [decide_eq_false h3]
        exact to (by rw [kk, kfn_not3 h3, Bool.and_false]) el
      rw [decide_eq_true h3]
      obtain ⟨dx, dr, dy, rfl⟩ := three_of h3
      obtain ⟨x1, r1, rfl, hx1, hr1⟩ := inv_cons hr0
      obtain ⟨x2, r2, rfl, hx2, hr2⟩ := inv_cons hr1
      obtain ⟨x3, r3, rfl, hx3, hr3⟩ := inv_cons hr2
      cases hr3
      have w3 := w0.2
      simp only [wdAll, Bool.and_eq_true] at w3
      simp only [PyData.depthAll] at dd dd6
      have kk3 : kfn (n + 1) (.tuple [.str "fun", dx, dr, dy]) = (rosD dr && (kfn n dx && kfn n dy)) := by rw [kk, decide_eq_true rfl, Bool.true_and, kf3]
      refine ⟨_, rfl, _, rfl, ?_⟩
      refine ⟨_, rfl, l, _, _, _, rfl, rfl, SqL.of hlv, atI_nat (j := 1) rfl, x2, dr, rfl, Dp.ex el _ _ hx2, w3.2.1, by omega, fun H2 e2 => ⟨_, rfl, ?_⟩⟩
      have e02 := el.trans e2
      have hl2 := e2 _ _ hlv
      show if (!rosD dr) = true then _ else _
      cases hros : rosD dr with
      | false => exact to (by rw [kk3, hros, Bool.false_and]) e02
      | true =>
        refine ⟨_, rfl, l, x1, x2, x3, rfl, SqL.of hl2, fun m hm => ?_⟩
        have em : Ex H2 (upd H2 m (.lst [x1, x3])) := Ex.new hm
        have hmv : (upd H2 m (.lst [x1, x3])) m = some (.lst [x1, x3]) := upd_same
        refine ⟨m, rfl, ⟨_, SqL.of upd_same⟩, fun D hD => ?_⟩
        generalize upd H2 m (.lst [x1, x3]) = H3 at em hmv hD
        have e03 := e02.trans em
        refine lc_bools (walk_list (xs := [x1, x3])) (fun i => (([dx, dy][i]?).map (kfn n)).getD true) (by show 2 ≤ 10000; decide) (Ex.refl H3) hD (fun H' e' => SqL.of (e' _ _ hmv)) ?_ ?_
        · rintro i x H4 H5 hi e4 ⟨rfl, hx4⟩ Kc hk
          have pr : DpAll K H [x1, x3] [dx, dy] := .cons hx1 (.cons hx3 .nil)
          obtain ⟨d4, h4, r4⟩ := dp_pick pr hx4
          have dp4 : d4.depth ≤ PyData.depthAll [dx, dy] := depth_in h4
          have w4 : wd d4 = true := wd_at (ds := [dx, dy]) (by simp only [wdAll, w3.1, w3.2.2.1, Bool.and_self]) h4
          simp only [PyData.depthAll] at dp4
          refine ⟨rfl, _, rfl, _, rfl, n - 1, by omega, x, d4, rfl, Dp.ex (e03.trans e4) _ _ r4, w4, by omega, by omega, fun H6 e6 => ?_⟩
          have := hk H6 e6
          rw [h4] at this
          have en : n - 1 + 1 = n := by omega
          rw [en]
          exact this
        · intro H4 e4 hD4
          refine ⟨D, _, rfl, SqL.of hD4, ?_⟩
          rw [all_get2 (kfn n) [dx, dy] [x1, x3].length rfl]
          refine to ?_ (e03.trans e4)
          rw [kk3, hros, Bool.true_and]
          simp
theorem ok_kf (T : Txt K mg) : ∀ n : Nat, Fn P w K mg base CX0 (6 + n) T.a_p_is_kind_form T.d_p_is_kind_form ["thing", "bounded"] (spKF K n)
  | 0 => ok_kf_step T 0 5 (by omega) ⟨fun vs H Q E h => by obtain ⟨m, hm, _⟩ := h; omega, fun A outer s H args us vs Q E _ _ _ _ _ h => by obtain ⟨m, hm, _⟩ := h; omega⟩
  | n + 1 => by
    have G := ok_kf T n
    refine ok_kf_step T (n + 1) (6 + n) (by omega) ⟨fun vs H Q E h => ?_, fun A outer s H args us vs Q E h1 h2 h3 h4 h5 h => ?_⟩
    · obtain ⟨m, hm, h⟩ := h
      have : m = n := by omega
      subst this
      exact G.len vs H Q E h
    · obtain ⟨m, hm, h⟩ := h
      have : m = n := by omega
      subst this
      exact G.run A outer s H args us vs Q E h1 h2 h3 h4 h5 h
end
end K10

/-! K10: how many parts, how deep -/
namespace K10
open PySem L2 Grd RZ
open Evl (Ex ex_t ex_l ex_rd)
def kids : PyData → List PyData
  | .tuple [.str _, x, y] => [x, y]
  | .tuple [.str _, x, _, y] => [x, y]
  | _ => []
def partsN : Nat → PyData → Nat
  | 0, _ => 1
  | n + 1, d => 1 + ((kids d).map (partsN n)).sum
def deepN : Nat → PyData → Nat
  | 0, _ => 1
  | n + 1, d => 1 + ((kids d).map (deepN n)).foldr max 0
inductive KfS (n : Nat) : PyData → Prop
  | num : KfS n (.str "number")
  | any (x : PyData) : natD x = true → KfS n (.tuple [.str "any", x])
  | pair (x y : PyData) : kfn n x = true → kfn n y = true → KfS n (.tuple [.str "pair", x, y])
  | fn (x r y : PyData) : rosD r = true → kfn n x = true → kfn n y = true → KfS n (.tuple [.str "fun", x, r, y])
theorem kfn_inv {n : Nat} {d : PyData} (h : kfn (n + 1) d = true) : KfS n d := by
  cases d with
  | str s =>
    have : s = "number" := of_decide_eq_true h
    subst this
    exact .num
  | tuple ds =>
    cases ds with
    | nil => cases h
    | cons d0 es =>
      cases d0 with
      | str w =>
        rw [kfn_w] at h
        by_cases ha : w = "any"
        · subst ha
          rw [if_pos rfl, Bool.and_eq_true] at h
          obtain ⟨x, rfl⟩ := one_of1 (of_decide_eq_true h.1)
          exact .any x (by simpa using h.2)
        · rw [if_neg ha] at h
          by_cases hp : w = "pair"
          · subst hp
            rw [if_pos rfl, Bool.and_eq_true] at h
            obtain ⟨x, y, rfl⟩ := two_of (of_decide_eq_true h.1)
            have h2 := h.2
            simp only [List.all_cons, List.all_nil, Bool.and_true, Bool.and_eq_true] at h2
            exact .pair x y h2.1 h2.2
          · rw [if_neg hp, Bool.and_eq_true] at h
            have hf := of_decide_eq_true h.1
            subst hf
            by_cases h3 : es.length = 3
            · obtain ⟨x, r, y, rfl⟩ := three_of h3
              have h2 := h.2
              rw [kf3, Bool.and_eq_true, Bool.and_eq_true] at h2
              exact .fn x r y h2.1 h2.2.1 h2.2.2
            · rw [kfn_not3 h3] at h
              cases h.2
      | _ => cases h
  | _ => cases h
theorem kid_ok {n : Nat} {d c : PyData} (h : kfn (n + 1) d = true) (hw : wd d = true) (hc : c ∈ kids d) : kfn n c = true ∧ wd c = true ∧ c.depth + 1 ≤ d.depth := by
  cases kfn_inv h with
  | num => cases hc
  | any x _ => cases hc
  | pair x y hx hy =>
    have w := (wd_tup hw).2
    simp only [wdAll, Bool.and_eq_true] at w
    have hc : c ∈ [x, y] := hc
    simp only [PyData.depth, PyData.depthAll]
    rcases List.mem_cons.mp hc with rfl | hc
    · exact ⟨hx, w.2.1, by omega⟩
    · rw [List.mem_singleton] at hc
      subst hc
      exact ⟨hy, w.2.2.1, by omega⟩
  | fn x r y _ hx hy =>
    have w := (wd_tup hw).2
    simp only [wdAll, Bool.and_eq_true] at w
    have hc : c ∈ [x, y] := hc
    simp only [PyData.depth, PyData.depthAll]
    rcases List.mem_cons.mp hc with rfl | hc
    · exact ⟨hx, w.2.1, by omega⟩
    · rw [List.mem_singleton] at hc
      subst hc
      exact ⟨hy, w.2.2.2.1, by omega⟩
theorem kids_le (d : PyData) : (kids d).length ≤ 2 := by
  unfold kids
  split <;> simp
/-! ### a list of what is told of each -/
theorem lc_vals {J : It} {n : Nat} {G : Hp → Prop} {Y : Nat → Hp → V → Hp → Prop} (w : L2.Walk J n G Y) {g : TG} {te : TE} {vs : List Nat} {σ : L2.St} {H H1 : Hp} {D : Addr} {Qd : Hp → Prop} (b : Nat → V) (hn : n ≤ 10000) (e1 : Ex H H1) (hD : H1 D = none) (hG : ∀ H', Ex H H' → G H')
    (hs : ∀ i x H2 H3, i < n → Ex H H2 → Y i H2 x H3 → ∀ Kc : VK, (∀ H4, Ex H2 H4 → Kc (b i) H4) → g x (wipe σ vs) H3 fun σ2 H5 => wipe σ2 vs = wipe σ vs ∧ te σ2 H5 Kc)
    (hd : ∀ H', Ex H H' → H' D = some (.lst ((List.range n).map b)) → Qd H') :
    ∃ W : Nat → Nat → Hp → Prop, (∃ m, W 0 m (upd H1 D (.lst []))) ∧ ∀ i m H, W i m H → (J.stop i H ∧ Qd H) ∨ (J.go i H ∧ ∃ Nx : Hp → Prop, (∀ H', Nx H' → ∃ m', m' < m ∧ W (i + 1) m' H') ∧
      ∀ x H', J.yld i H x H' → g x (wipe σ vs) H' fun σ2 H2 => wipe σ2 vs = wipe σ vs ∧ tYes σ2 H2 fun c H3 => if c = true then te σ2 H3 fun y H4 => ∃ acc, H4 D = some (.lst acc) ∧ acc.length < sizeLine ∧ Nx (upd H4 D (.lst (acc ++ [y]))) else Nx H3) := by
  have hD0 := Evl.fresh_back e1 hD
  refine lc_it w (fun i H' => Ex H H' ∧ H' D = some (.lst ((List.range i).map b))) ⟨e1.trans (Ex.new hD), upd_same⟩ (fun i H' _ h => hG H' h.1) ?_ (fun H' h => hd H' h.1 h.2)
  rintro i x H2 H3 hi ⟨e2, hD2⟩ hy
  refine hs i x H2 H3 hi e2 hy _ fun H4 e4 => ⟨_, e4 _ _ hD2, ?_, (e2.trans e4).mut hD0, ?_⟩
  · rw [List.length_map, List.length_range]
    exact Evl.sz_lt (by omega)
  · rw [upd_same, List.range_succ, List.map_append]
    rfl
theorem range_get {α β : Type} (f : α → β) (z : β) (cs : List α) : ((List.range cs.length).map fun i => ((cs[i]?).map f).getD z) = cs.map f := by
  apply List.ext_getElem?
  intro i
  rw [List.getElem?_map, List.getElem?_map]
  rcases Nat.lt_or_ge i cs.length with h | h
  · rw [List.getElem?_range h, List.getElem?_eq_getElem h]
    simp [List.getElem?_eq_getElem h]
  · rw [List.getElem?_eq_none (by rw [List.length_range]; exact h), List.getElem?_eq_none h]
    rfl
def spKW (K : PySem.W.Frag) (n : Nat) : Sp := fun vs H Q _ => ∃ (v : V) (d : PyData), vs = [v] ∧ Dp K H v d ∧ wd d = true ∧ d.depth ≤ 60 ∧ kfn (n + 1) d = true ∧ ∀ p H' us, H p = none → Ex H H' → H' p = some (.lst us) → DpAll K H' us (kids d) → Q (.ref p) H'
def spNum (K : PySem.W.Frag) (n : Nat) (f : PyData → Nat) : Sp := fun vs H Q _ => ∃ (v : V) (d : PyData), vs = [v] ∧ Dp K H v d ∧ wd d = true ∧ d.depth ≤ n ∧ d.depth ≤ 60 ∧ kfn (n + 1) d = true ∧ ∀ H', Ex H H' → Q (.int ((f d : Nat) : Int)) H'
theorem shp_num : SeqAt.shaped (.str "number") = true := by
  unfold SeqAt.shaped
  simp only [PyData.canLay0, PyData.depth]
  decide +kernel
theorem shp_any : SeqAt.shaped (.str "any") = true := by
  unfold SeqAt.shaped
  simp only [PyData.canLay0, PyData.depth]
  decide +kernel
section
variable {P : Program} {w : World} {K : PySem.W.Frag} {mg : Str → Option Value} {base : Heap}
theorem ok_p_kinds_within (T : Txt K mg) (n : Nat) : Fn P w K mg base CX0 1 T.a_p_kinds_within T.d_p_kinds_within ["kind"] (spKW K n) := by
  refine Grd.mk T.F_p_kinds_within scp_kinds_within (fun vs H Q E h => ?_) (fun cdv A outer st H vs Q E gd hr h => ?_)
  · obtain ⟨v, d, rfl, _⟩ := h
    rfl
  obtain ⟨v, d, rfl, hv, hw, hd, hk, q⟩ := h
  refine ⟨_, (pss_cons (ps_if (PW.pt (pw_or (pt_cmpR (op_eqD hr.units) (pv 0) pe_str (nomark _)) (pw_or1 (pt_cmpR op_eq (pe_ix ix_tup (pv 0) pe_int (fun _ _ => rfl)) pe_str (nomark _))))) (pss_one (ps_ret (pe_lst pa_nil))) pss_nil)
      (pss_one (ps_ret (pe_lst (pa_cons (pe_ix ix_tup (pv 0) pe_int (fun _ _ => rfl)) (pa_cons (pe_ix ix_tup (pv 0) (pe_un un_neg pe_int) (fun _ _ => rfl)) pa_nil)))))), ?_⟩
  refine ⟨_, rfl, d, .str "number", hv, .str _, wd_shp hw (by omega), shp_num, _, rfl, ?_⟩
  have em : ∀ p, H p = none → kids d = [] → Q (.ref p) (upd H p (.lst [])) := fun p hp z => q p _ [] hp (Ex.new hp) upd_same (by rw [z]; exact .nil)
  cases kfn_inv hk with
  | num =>
    have e : PyData.eqv (.str "number") (.str "number") = true := by simp only [PyData.eqv]; decide +kernel
    rw [e]
    exact ⟨Nat.zero_le _, fun p hp => em p hp rfl⟩
  | any x _ =>
    obtain ⟨a, xs, rfl, sx, hx⟩ := inv_tup hv
    obtain ⟨x0, r0, rfl, h0, hr0⟩ := inv_cons hx
    cases h0
    have e : PyData.eqv (.tuple [.str "any", x]) (.str "number") = false := by simp only [PyData.eqv]
    rw [e]
    refine ⟨_, rfl, a, _, _, _, rfl, rfl, sx, atI_nat (j := 0) rfl, rfl, _, rfl, ?_⟩
    rw [w_eq]
    exact ⟨Nat.zero_le _, fun p hp => em p hp rfl⟩
  | pair x y _ _ =>
    obtain ⟨a, xs, rfl, sx, hx⟩ := inv_tup hv
    obtain ⟨x0, r0, rfl, h0, hr0⟩ := inv_cons hx
    obtain ⟨x1, r1, rfl, h1, hr1⟩ := inv_cons hr0
    obtain ⟨x2, r2, rfl, h2, hr2⟩ := inv_cons hr1
    cases hr2
    cases h0
    have e : PyData.eqv (.tuple [.str "pair", x, y]) (.str "number") = false := by simp only [PyData.eqv]
    rw [e]
    refine ⟨_, rfl, a, _, _, _, rfl, rfl, sx, atI_nat (j := 0) rfl, rfl, _, rfl, ?_⟩
    rw [w_ne s_pa]
    refine ⟨_, rfl, a, _, _, _, rfl, rfl, sx, atI_nat (j := 1) rfl, _, rfl, _, rfl, a, _, _, _, rfl, rfl, sx, (show atI [V.str "pair", x1, x2] (-1) = some x2 from rfl), (by show 2 ≤ sizeLine; decide), fun p hp => ?_⟩
    exact q p _ [x1, x2] hp (Ex.new hp) upd_same (.cons (Dp.ex (Ex.new hp) _ _ h1) (.cons (Dp.ex (Ex.new hp) _ _ h2) .nil))
  | fn x r y _ _ _ =>
    obtain ⟨a, xs, rfl, sx, hx⟩ := inv_tup hv
    obtain ⟨x0, r0, rfl, h0, hr0⟩ := inv_cons hx
    obtain ⟨x1, r1, rfl, h1, hr1⟩ := inv_cons hr0
    obtain ⟨x2, r2, rfl, h2, hr2⟩ := inv_cons hr1
    obtain ⟨x3, r3, rfl, h3, hr3⟩ := inv_cons hr2
    cases hr3
    cases h0
    have e : PyData.eqv (.tuple [.str "fun", x, r, y]) (.str "number") = false := by simp only [PyData.eqv]
    rw [e]
    refine ⟨_, rfl, a, _, _, _, rfl, rfl, sx, atI_nat (j := 0) rfl, rfl, _, rfl, ?_⟩
    rw [w_ne s_fa]
    refine ⟨_, rfl, a, _, _, _, rfl, rfl, sx, atI_nat (j := 1) rfl, _, rfl, _, rfl, a, _, _, _, rfl, rfl, sx, (show atI [V.str "fun", x1, x2, x3] (-1) = some x3 from rfl), (by show 2 ≤ sizeLine; decide), fun p hp => ?_⟩
    exact q p _ [x1, x3] hp (Ex.new hp) upd_same (.cons (Dp.ex (Ex.new hp) _ _ h1) (.cons (Dp.ex (Ex.new hp) _ _ h3) .nil))
theorem sum_cast {α : Type} (f : α → Nat) : ∀ l : List α, (l.map fun c => ((f c : Nat) : Int)).sum = (((l.map f).sum : Nat) : Int)
  | [] => rfl
  | x :: r => by
    have ih := sum_cast f r
    simp only [List.map_cons, List.sum_cons, ih, Int.natCast_add]
theorem max_cast {α : Type} (f : α → Nat) : ∀ (l : List α) (m : Int), (m ∈ l.map fun c => ((f c : Nat) : Int)) → (∀ y, (y ∈ l.map fun c => ((f c : Nat) : Int)) → y ≤ m) → m = (((l.map f).foldr max 0 : Nat) : Int) := by
  intro l m hm hb
  have up : ∀ l : List α, (∀ y, (y ∈ l.map fun c => ((f c : Nat) : Int)) → y ≤ m) → 0 ≤ m → (((l.map f).foldr max 0 : Nat) : Int) ≤ m := by
    intro l
    induction l with
    | nil => intro _ h0; exact h0
    | cons x r ih =>
      intro h h0
      have h1 := ih (fun y hy => h y (List.mem_cons_of_mem _ hy)) h0
      have h2 : ((f x : Nat) : Int) ≤ m := h _ (List.mem_cons_self ..)
      simp only [List.map_cons, List.foldr_cons]
      omega
  have lo : ∀ l : List α, (m ∈ l.map fun c => ((f c : Nat) : Int)) → m ≤ (((l.map f).foldr max 0 : Nat) : Int) := by
    intro l
    induction l with
    | nil => intro h; cases h
    | cons x r ih =>
      intro h
      simp only [List.map_cons, List.foldr_cons]
      rcases List.mem_cons.mp h with h | h
      · have h : m = ((f x : Nat) : Int) := h
        omega
      · have := ih h
        omega
  have m0 : 0 ≤ m := by
    obtain ⟨x, _, rfl⟩ := List.mem_map.mp hm
    omega
  have := up l hb m0
  have := lo l hm
  omega
theorem ok_parts_step (T : Txt K mg) (n j : Nat) (hj : 1 ≤ j) (G_p_kind_parts : Fn P w K mg base CX0 j T.a_p_kind_parts T.d_p_kind_parts ["kind"] (fun vs H Q E => ∃ m, m + 1 = n ∧ spNum K m (partsN (m + 1)) vs H Q E)) :
    Fn P w K mg base CX0 (j + 1) T.a_p_kind_parts T.d_p_kind_parts ["kind"] (spNum K n (partsN (n + 1))) := by
  have G_p_kinds_within := ok_p_kinds_within (P := P) (w := w) (base := base) T n
  refine Grd.mk T.F_p_kind_parts scp_kind_parts (fun vs H Q E h => ?_) (fun cdv A outer st H vs Q E gd hr h => ?_)
  · obtain ⟨v, d, rfl, _⟩ := h
    rfl
  obtain ⟨v, d, rfl, hv, hw, hd, hd6, hk, q⟩ := h
  refine ⟨_, (pss_one (ps_ret (pe_callBK (crK_sum rfl) (by rfl) T.n_sum (by decide +kernel) (pa_cons (pe_lc (own := [("one", 1)]) (by rfl) scp_kind_parts.nd (pi_list (pe_callG G_p_kinds_within gd (hr.mono (by first | decide | omega)) rfl T.g_p_kinds_within T.F_p_kinds_within.kp T.b_p_kinds_within .nil pass0 (pa_cons (pv 0) pa_nil))) (blkOk_by (own := [("one", 1)]) (N := ["kind", "one"]) (sc := defScope s_p_kind_parts) (by decide +kernel)) (fun _ _ _ _ _ => (pg_name (i := 1) scp_kind_parts.nd rfl (Or.inl rfl))) (fun _ _ _ _ _ => pts_nil) (fun _ _ _ _ _ => (pe_callG G_p_kind_parts gd (hr.mono (by first | decide | omega)) rfl T.g_p_kind_parts T.F_p_kind_parts.kp T.b_p_kind_parts .nil pass0 (pa_cons (pv 1) pa_nil)))) pa_nil) (pk_cons pe_int pk_nil)))), ?_⟩
  refine ⟨_, rfl, v, d, rfl, hv, hw, hd6, hk, fun p H1 us hp e1 hpv ha => ?_⟩
  have lu := DpAll.len ha
  have l2 := kids_le d
  refine ⟨p, rfl, ⟨_, SqL.of hpv⟩, fun D hD => ?_⟩
  refine lc_vals (walk_list (xs := us)) (fun i => (((kids d)[i]?).map fun c => V.int ((partsN n c : Nat) : Int)).getD .non) (by omega) (Ex.refl H1) hD (fun H' e' => SqL.of (e' _ _ hpv)) ?_ ?_
  · rintro i x H4 H5 hi e4 ⟨rfl, hx2⟩ Kc hkc
    obtain ⟨c, hc, rc⟩ := dp_pick ha hx2
    obtain ⟨k1, k2, k3⟩ := kid_ok hk hw (List.mem_of_getElem? hc)
    refine ⟨rfl, _, rfl, n - 1, by omega, x, c, rfl, Dp.ex e4 _ _ rc, k2, by omega, by omega, ?_, fun H6 e6 => ?_⟩
    · rw [show n - 1 + 1 = n by omega]; exact k1
    · have := hkc H6 e6
      rw [hc] at this
      rw [show n - 1 + 1 = n by omega]
      exact this
  · intro H4 e4 hD4
    rw [lu, range_get] at hD4
    have e : (kids d).map (fun c => V.int ((partsN n c : Nat) : Int)) = ((kids d).map fun c => ((partsN n c : Nat) : Int)).map V.int := by rw [List.map_map]; rfl
    rw [e] at hD4
    refine ⟨D, _, _, rfl, rfl, SqL.of hD4, ?_⟩
    rw [sum_cast]
    have z := q H4 (e1.trans e4)
    have e2 : ((partsN (n + 1) d : Nat) : Int) = 1 + ((((kids d).map (partsN n)).sum : Nat) : Int) := by
      rw [partsN, Int.natCast_add]
      rfl
    rw [e2] at z
    exact z
theorem ok_deep_step (T : Txt K mg) (n j : Nat) (hj : 1 ≤ j) (G_p_kind_deep : Fn P w K mg base CX0 j T.a_p_kind_deep T.d_p_kind_deep ["kind"] (fun vs H Q E => ∃ m, m + 1 = n ∧ spNum K m (deepN (m + 1)) vs H Q E)) :
    Fn P w K mg base CX0 (j + 1) T.a_p_kind_deep T.d_p_kind_deep ["kind"] (spNum K n (deepN (n + 1))) := by
  have G_p_kinds_within := ok_p_kinds_within (P := P) (w := w) (base := base) T n
  refine Grd.mk T.F_p_kind_deep scp_kind_deep (fun vs H Q E h => ?_) (fun cdv A outer st H vs Q E gd hr h => ?_)
  · obtain ⟨v, d, rfl, _⟩ := h
    rfl
  obtain ⟨v, d, rfl, hv, hw, hd, hd6, hk, q⟩ := h
  refine ⟨_, (pss_one (ps_ret (pe_op op_add pe_int (pe_callBK (crK_max rfl) (by rfl) T.n_max (by decide +kernel) (pa_cons (pe_lc (own := [("one", 1)]) (by rfl) scp_kind_deep.nd (pi_list (pe_callG G_p_kinds_within gd (hr.mono (by first | decide | omega)) rfl T.g_p_kinds_within T.F_p_kinds_within.kp T.b_p_kinds_within .nil pass0 (pa_cons (pv 0) pa_nil))) (blkOk_by (own := [("one", 1)]) (N := ["kind", "one"]) (sc := defScope s_p_kind_deep) (by decide +kernel)) (fun _ _ _ _ _ => (pg_name (i := 1) scp_kind_deep.nd rfl (Or.inl rfl))) (fun _ _ _ _ _ => pts_nil) (fun _ _ _ _ _ => (pe_callG G_p_kind_deep gd (hr.mono (by first | decide | omega)) rfl T.g_p_kind_deep T.F_p_kind_deep.kp T.b_p_kind_deep .nil pass0 (pa_cons (pv 1) pa_nil)))) pa_nil) (pk_cons pe_int pk_nil))))), ?_⟩
  refine ⟨_, rfl, v, d, rfl, hv, hw, hd6, hk, fun p H1 us hp e1 hpv ha => ?_⟩
  have lu := DpAll.len ha
  have l2 := kids_le d
  refine ⟨p, rfl, ⟨_, SqL.of hpv⟩, fun D hD => ?_⟩
  refine lc_vals (walk_list (xs := us)) (fun i => (((kids d)[i]?).map fun c => V.int ((deepN n c : Nat) : Int)).getD .non) (by omega) (Ex.refl H1) hD (fun H' e' => SqL.of (e' _ _ hpv)) ?_ ?_
  · rintro i x H4 H5 hi e4 ⟨rfl, hx2⟩ Kc hkc
    obtain ⟨c, hc, rc⟩ := dp_pick ha hx2
    obtain ⟨k1, k2, k3⟩ := kid_ok hk hw (List.mem_of_getElem? hc)
    refine ⟨rfl, _, rfl, n - 1, by omega, x, c, rfl, Dp.ex e4 _ _ rc, k2, by omega, by omega, ?_, fun H6 e6 => ?_⟩
    · rw [show n - 1 + 1 = n by omega]; exact k1
    · have := hkc H6 e6
      rw [hc] at this
      rw [show n - 1 + 1 = n by omega]
      exact this
  · intro H4 e4 hD4
    rw [lu, range_get] at hD4
    have e : (kids d).map (fun c => V.int ((deepN n c : Nat) : Int)) = ((kids d).map fun c => ((deepN n c : Nat) : Int)).map V.int := by rw [List.map_map]; rfl
    rw [e] at hD4
    have z := q H4 (e1.trans e4)
    have e2 : ((deepN (n + 1) d : Nat) : Int) = 1 + ((((kids d).map (deepN n)).foldr max 0 : Nat) : Int) := by
      rw [deepN, Int.natCast_add]
      rfl
    rw [e2] at z
    refine ⟨D, _, _, rfl, rfl, SqL.of hD4, fun h0 => ⟨_, _, rfl, rfl, ?_⟩, fun m hm hb => ⟨_, _, rfl, rfl, ?_⟩⟩
    · have hn : kids d = [] := List.map_eq_nil_iff.mp h0
      rw [hn] at z
      exact z
    · rw [max_cast (deepN n) (kids d) m hm hb]
      exact z
theorem ok_parts (T : Txt K mg) : ∀ n : Nat, Fn P w K mg base CX0 (2 + n) T.a_p_kind_parts T.d_p_kind_parts ["kind"] (spNum K n (partsN (n + 1)))
  | 0 => ok_parts_step T 0 1 (by omega) ⟨fun vs H Q E h => by obtain ⟨m, hm, _⟩ := h; omega, fun A outer s H args us vs Q E _ _ _ _ _ h => by obtain ⟨m, hm, _⟩ := h; omega⟩
  | n + 1 => by
    have G := ok_parts T n
    refine ok_parts_step T (n + 1) (2 + n) (by omega) ⟨fun vs H Q E h => ?_, fun A outer s H args us vs Q E h1 h2 h3 h4 h5 h => ?_⟩
    · obtain ⟨m, hm, h⟩ := h
      have : m = n := by omega
      subst this
      exact G.len vs H Q E h
    · obtain ⟨m, hm, h⟩ := h
      have : m = n := by omega
      subst this
      exact G.run A outer s H args us vs Q E h1 h2 h3 h4 h5 h
theorem ok_deep (T : Txt K mg) : ∀ n : Nat, Fn P w K mg base CX0 (2 + n) T.a_p_kind_deep T.d_p_kind_deep ["kind"] (spNum K n (deepN (n + 1)))
  | 0 => ok_deep_step T 0 1 (by omega) ⟨fun vs H Q E h => by obtain ⟨m, hm, _⟩ := h; omega, fun A outer s H args us vs Q E _ _ _ _ _ h => by obtain ⟨m, hm, _⟩ := h; omega⟩
  | n + 1 => by
    have G := ok_deep T n
    refine ok_deep_step T (n + 1) (2 + n) (by omega) ⟨fun vs H Q E h => ?_, fun A outer s H args us vs Q E h1 h2 h3 h4 h5 h => ?_⟩
    · obtain ⟨m, hm, h⟩ := h
      have : m = n := by omega
      subst this
      exact G.len vs H Q E h
    · obtain ⟨m, hm, h⟩ := h
      have : m = n := by omega
      subst this
      exact G.run A outer s H args us vs Q E h1 h2 h3 h4 h5 h
/-- is_kind -/
def isKindD (n : Nat) (d : PyData) : Bool := kfn n d && (decide (partsN n d ≤ 40) && decide (deepN n d ≤ 8))
def spE (K : PySem.W.Frag) (n : Nat) (f : PyData → Bool) : Sp := fun vs H Q _ => ∃ (v : V) (d : PyData), vs = [v] ∧ Dp K H v d ∧ wd d = true ∧ d.depth ≤ n ∧ d.depth ≤ 60 ∧ ∀ H', Ex H H' → Q (.bl (f d)) H'
theorem ok_p_is_kind (T : Txt K mg) (n : Nat) : Fn P w K mg base CX0 (7 + n) T.a_p_is_kind T.d_p_is_kind ["thing"] (spE K n (isKindD (n + 1))) := by
  have G_p_is_kind_form := ok_kf (P := P) (w := w) (base := base) T n
  have G_p_kind_parts := ok_parts (P := P) (w := w) (base := base) T n
  have G_p_kind_deep := ok_deep (P := P) (w := w) (base := base) T n
  rw [show 7 + n = (6 + n) + 1 by omega]
  refine Grd.mk T.F_p_is_kind scp_is_kind (fun vs H Q E h => ?_) (fun cdv A outer st H vs Q E gd hr h => ?_)
  · obtain ⟨v, d, rfl, _⟩ := h
    rfl
  obtain ⟨v, d, rfl, hv, hw, hd, hd6, q⟩ := h
  refine ⟨_, (pss_cons (ps_if (pt_not (pt_val (pe_callGK G_p_is_kind_form gd (hr.mono (by first | decide | omega)) rfl T.g_p_is_kind_form T.F_p_is_kind_form.kp T.kb_p_is_kind_form pass0 (pa_cons (pv 0) pa_nil) (pk_cons pe_bl pk_nil)))) (pss_one (ps_ret pe_bl)) pss_nil)
      (pss_one (ps_ret (pe_and (pe_cmpR op_le (pe_callG G_p_kind_parts gd (hr.mono (by first | decide | omega)) rfl T.g_p_kind_parts T.F_p_kind_parts.kp T.b_p_kind_parts .nil pass0 (pa_cons (pv 0) pa_nil)) (pe_glob rfl T.g_MOST_KIND_PARTS T.r_MOST_KIND_PARTS) (nomark _)) (pe_one (pe_cmpR op_le (pe_callG G_p_kind_deep gd (hr.mono (by first | decide | omega)) rfl T.g_p_kind_deep T.F_p_kind_deep.kp T.b_p_kind_deep .nil pass0 (pa_cons (pv 0) pa_nil)) (pe_glob rfl T.g_MOST_KIND_DEEP T.r_MOST_KIND_DEEP) (nomark _))))))), ?_⟩
  have to : ∀ {b : Bool} {H' : Hp}, isKindD (n + 1) d = b → Ex H H' → Q (.bl b) H' := fun z e => by
    have := q _ e
    rw [z] at this
    exact this
  refine ⟨_, rfl, v, d, rfl, hv, hw, hd, hd6, fun H1 e1 => ⟨_, rfl, ?_⟩⟩
  show if (!kfn (n + 1) d) = true then _ else _
  cases hk : kfn (n + 1) d with
  | false => exact to (by rw [isKindD, hk, Bool.false_and]) e1
  | true =>
    refine ⟨_, rfl, v, d, rfl, Dp.ex e1 _ _ hv, hw, hd, hd6, hk, fun H2 e2 => ⟨_, _, rfl, rfl, _, rfl, ?_⟩⟩
    have e12 := e1.trans e2
    have dc : ∀ a b : Nat, decide (((a : Nat) : Int) ≤ ((b : Nat) : Int)) = decide (a ≤ b) := fun a b => by
      congr 1
      rw [eq_iff_iff]
      omega
    show if decide (((partsN (n + 1) d : Nat) : Int) ≤ ((40 : Nat) : Int)) = true then _ else _
    rw [dc]
    by_cases hp : partsN (n + 1) d ≤ 40
    · rw [decide_eq_true hp]
      refine ⟨_, rfl, v, d, rfl, Dp.ex e12 _ _ hv, hw, hd, hd6, hk, fun H3 e3 => ⟨_, _, rfl, rfl, to ?_ (e12.trans e3)⟩⟩
      rw [isKindD, hk, decide_eq_true hp, Bool.true_and, Bool.true_and]
      exact (dc _ 8).symm
    · rw [decide_eq_false hp]
      exact to (by rw [isKindD, hk, decide_eq_false hp, Bool.false_and, Bool.and_false]) e12
end
end K10

/-! K10: sizes by the law -/
namespace K10
open PySem L2 Grd RZ
open Evl (Ex ex_t ex_l ex_rd)
def SzR (K : PySem.W.Frag) (H : Hp) (u : V) (n : Nat) (d : PyData) : Prop :=
  (kfn n d = false ∧ u = .non) ∨ (kfn n d = true ∧ ∃ p, u = .ref p ∧ SqT K H p [.int ((partsN n d : Nat) : Int), .int ((deepN n d : Nat) : Int)])
def sp_size (K : PySem.W.Frag) (n : Nat) : Sp := fun vs H Q _ => ∃ (v : V) (d : PyData), vs = [v] ∧ Dp K H v d ∧ wd d = true ∧ d.depth ≤ n ∧ d.depth ≤ 60 ∧ ∀ u H', Ex H H' → SzR K H' u (n + 1) d → Q u H'
theorem kfn_len {n : Nat} {ds : List PyData} (h : kfn (n + 1) (.tuple ds) = true) : 2 ≤ ds.length ∧ ds.length ≤ 4 := by
  cases kfn_inv h with
  | any x _ => exact ⟨Nat.le_refl _, by show 2 ≤ 4; decide⟩
  | pair x y _ _ => exact ⟨by show 2 ≤ 3; decide, by show 3 ≤ 4; decide⟩
  | fn x r y _ _ _ => exact ⟨by show 2 ≤ 4; decide, by show 4 ≤ 4; decide⟩
theorem sz_non {K : PySem.W.Frag} {H : Hp} {u : V} {n : Nat} {d : PyData} (h : SzR K H u n d) : decide (u = V.non) = !kfn n d := by
  rcases h with ⟨k, rfl⟩ | ⟨k, p, rfl, _⟩
  · rw [k]; exact decide_eq_true rfl
  · rw [k]; exact decide_eq_false (fun z => by cases z)
theorem sz_get {K : PySem.W.Frag} {H : Hp} {u : V} {n : Nat} {d : PyData} (h : SzR K H u n d) (k : kfn n d = true) : ∃ p, u = .ref p ∧ SqT K H p [.int ((partsN n d : Nat) : Int), .int ((deepN n d : Nat) : Int)] := by
  rcases h with ⟨z, _⟩ | ⟨_, p⟩
  · rw [k] at z; cases z
  · exact p
theorem SzR.ex {K : PySem.W.Frag} {H H' : Hp} {u : V} {n : Nat} {d : PyData} (h : SzR K H u n d) (e : Ex H H') : SzR K H' u n d := by
  rcases h with h | ⟨k, p, r, s⟩
  · exact .inl h
  · exact .inr ⟨k, p, r, ex_t e s⟩
theorem max_if (a b : Nat) : (if ((b : Nat) : Int) > ((a : Nat) : Int) then ((b : Nat) : Int) else ((a : Nat) : Int)) = ((max a b : Nat) : Int) := by
  split <;> omega
theorem kfn_false {n : Nat} {d : PyData} (h : kfn (n + 1) d = true → False) : kfn (n + 1) d = false := by
  cases e : kfn (n + 1) d with
  | false => rfl
  | true => exact (h e).elim
section
variable {P : Program} {w : World} {K : PySem.W.Frag} {mg : Str → Option Value} {base : Heap}
theorem ok_size_step (T : Txt K mg) (n j : Nat) (hj : 4 ≤ j) (G_size : Fn P w K mg base CX0 j T.a_size T.d_size ["_law_odd_here"] (fun vs H Q E => ∃ m, m + 1 = n ∧ sp_size K m vs H Q E)) :
    Fn P w K mg base CX0 (j + 1) T.a_size T.d_size ["_law_odd_here"] (sp_size K n) := by
  have G_is_ros := ok_is_ros (P := P) (w := w) (base := base) T
  refine Grd.mk T.F_size scsize (fun vs H Q E h => ?_) (fun cdv A outer st H vs Q E gd hr h => ?_)
  · obtain ⟨v, d, rfl, _⟩ := h
    rfl
  obtain ⟨v, d, rfl, hv, hw, hd, hd6, q⟩ := h
  refine ⟨_, (pss_cons (ps_if (pt_val (pe_callB call_isi (by rfl) T.n_isinstance (by decide +kernel) (pa_cons (pv 0) (pa_cons (pe_bltn (v := .ty "str") (by rfl) T.n_str (by decide +kernel) rfl) pa_nil)))) (pss_one (ps_ret (pe_ifExp (pt_cmpR op_eq (pv 0) pe_str (nomark _)) (pe_tup (pa_cons pe_int (pa_cons pe_int pa_nil))) pe_non))) pss_nil)
      (pss_cons (ps_if (PW.pt (pw_or (pt_not (pt_val (pe_callB call_isi (by rfl) T.n_isinstance (by decide +kernel) (pa_cons (pv 0) (pa_cons (pe_bltn (v := .ty "tuple") (by rfl) T.n_tuple (by decide +kernel) rfl) pa_nil))))) (pw_or (pt_not (pt_chain op_lt op_lt pe_int (pe_callB call_len_seq (by rfl) T.n_len PySem.boot_len (pa_cons (pv 0) pa_nil)) pe_int)) (pw_or1 (pt_not (pt_val (pe_callB call_isi (by rfl) T.n_isinstance (by decide +kernel) (pa_cons (pe_ix ix_tup (pv 0) pe_int (fun _ _ => rfl)) (pa_cons (pe_bltn (v := .ty "str") (by rfl) T.n_str (by decide +kernel) rfl) pa_nil))))))))) (pss_one (ps_ret pe_non)) pss_nil)
      (pss_cons (ps_if (pt_cmpR op_eq (pe_ix ix_tup (pv 0) pe_int (fun _ _ => rfl)) pe_str (nomark _)) (pss_cons (ps_set (i := 1) scsize.nd rfl (Or.inl rfl) (pe_and (pe_cmpR op_eq (pe_callB call_len_seq (by rfl) T.n_len PySem.boot_len (pa_cons (pv 0) pa_nil)) pe_int (nomark _)) (pe_and (pe_callB call_isi (by rfl) T.n_isinstance (by decide +kernel) (pa_cons (pe_ix ix_tup (pv 0) pe_int (fun _ _ => rfl)) (pa_cons (pe_bltn (v := .ty "int") (by rfl) T.n_int (by decide +kernel) rfl) pa_nil))) (pe_and (pe_not (pe_callB call_isi (by rfl) T.n_isinstance (by decide +kernel) (pa_cons (pe_ix ix_tup (pv 0) pe_int (fun _ _ => rfl)) (pa_cons (pe_bltn (v := .ty "bool") (by rfl) T.n_bool (by decide +kernel) rfl) pa_nil)))) (pe_one (pe_cmpR op_ge (pe_ix ix_tup (pv 0) pe_int (fun _ _ => rfl)) pe_int (nomark _)))))))
      (pss_one (ps_ret (pe_ifExp (pt_val (pv 1)) (pe_tup (pa_cons pe_int (pa_cons pe_int pa_nil))) pe_non)))) pss_nil)
      (pss_cons (ps_if (PW.pt (pw_or (pt_cmpR op_notIn_seq (pe_ix ix_tup (pv 0) pe_int (fun _ _ => rfl)) (pe_tup (pa_cons pe_str (pa_cons pe_str pa_nil))) (by rfl)) (pw_or1 (pt_cmpR op_ne (pe_callB call_len_seq (by rfl) T.n_len PySem.boot_len (pa_cons (pv 0) pa_nil)) (pe_op op_add pe_int (pe_callTy call_int1 (by rfl) T.n_int (by decide +kernel) (pa_cons (pe_cmpR op_eq (pe_ix ix_tup (pv 0) pe_int (fun _ _ => rfl)) pe_str (nomark _)) pa_nil))) (nomark _))))) (pss_one (ps_ret pe_non)) pss_nil)
      (pss_cons (ps_par (i := 2) (j := 3) (by rfl) scsize.nd rfl rfl (by decide) rfl rfl (pa_cons (pe_callG G_size gd (hr.mono (by first | decide | omega)) rfl T.g_size T.F_size.kp T.b_size .nil pass0 (pa_cons (pe_ix ix_tup (pv 0) pe_int (fun _ _ => rfl)) pa_nil)) (pa_cons (pe_callG G_size gd (hr.mono (by first | decide | omega)) rfl T.g_size T.F_size.kp T.b_size .nil pass0 (pa_cons (pe_ix ix_tup (pv 0) (pe_un un_neg pe_int) (fun _ _ => rfl)) pa_nil)) pa_nil)) (by rfl))
      (pss_cons (ps_if (PW.pt (pw_or (pt_cmpR op_isN (pv 2) pe_non (nomark _)) (pw_or (pt_cmpR op_isN (pv 3) pe_non (nomark _)) (pw_or1 (PW.pt (pw_and (pt_cmpR op_eq (pe_ix ix_tup (pv 0) pe_int (fun _ _ => rfl)) pe_str (nomark _)) (pw_and1 (pt_not (pt_val (pe_callG G_is_ros gd (hr.mono (by first | decide | omega)) rfl T.g_is_ros T.F_is_ros.kp T.b_is_ros .nil pass0 (pa_cons (pe_ix ix_tup (pv 0) pe_int (fun _ _ => rfl)) pa_nil))))))))))) (pss_one (ps_ret pe_non)) pss_nil)
      (pss_one (ps_ret (pe_tup (pa_cons (pe_op op_add (pe_op op_add pe_int (pe_ix ix_tup (pv 2) pe_int (fun _ _ => rfl))) (pe_ix ix_tup (pv 3) pe_int (fun _ _ => rfl))) (pa_cons (pe_op op_add pe_int (pe_callB (call_max2 rfl) (by rfl) T.n_max (by decide +kernel) (pa_cons (pe_ix ix_tup (pv 2) pe_int (fun _ _ => rfl)) (pa_cons (pe_ix ix_tup (pv 3) pe_int (fun _ _ => rfl)) pa_nil)))) pa_nil))))))))))), ?_⟩
  have no : ∀ {H' : Hp}, kfn (n + 1) d = false → Ex H H' → Q .non H' := fun z e => q _ _ e (.inl ⟨z, rfl⟩)
  refine ⟨_, rfl, _, _, _, _, _, rfl, .ty _, dp_ty hv, isi_str d, _, rfl, ?_⟩
  by_cases hs : isStr d = true
  · obtain ⟨s, rfl⟩ := str_of hs
    cases hv
    rw [hs]
    refine ⟨_, rfl, rfl, _, rfl, ?_⟩
    by_cases h : s = "number"
    · subst h
      rw [w_eq]
      refine ⟨(by show 2 ≤ sizeLine; decide), fun p hp => q _ _ (Ex.new hp) (.inr ⟨show decide (("number" : Str) = "number") = true from decide_eq_true rfl, p, rfl, SqT.of upd_same⟩)⟩
    · rw [w_ne h]
      exact no (decide_eq_false h) (Ex.refl _)
  rw [Bool.not_eq_true] at hs
  rw [hs]
  refine ⟨_, rfl, _, _, _, _, _, rfl, .ty _, dp_ty hv, isi_tup d, _, rfl, ?_⟩
  by_cases ht : isTup d = true
  rotate_left
  · rw [Bool.not_eq_true] at ht
    rw [ht]
    exact no (by cases d <;> first | rfl | (simp [isStr] at hs; done) | (simp [isTup] at ht; done)) (Ex.refl _)
  obtain ⟨ds, rfl⟩ := tup_of ht
  rw [ht]
  obtain ⟨a, xs, rfl, sx, hx⟩ := inv_tup hv
  have lx := DpAll.len hx
  have wl := wd_tup hw
  refine ⟨_, rfl, a, _, rfl, .inr sx, _, _, rfl, rfl, _, rfl, ?_⟩
  have bad : ¬ (2 ≤ ds.length ∧ ds.length ≤ 4) → kfn (n + 1) (.tuple ds) = false := fun z => kfn_false fun h => z (kfn_len h)
  refine ite2 (fun t1 => ?_) (fun t1 => ⟨_, rfl, no (bad (fun z => t1 (decide_eq_true (by rw [lx]; omega)))) (Ex.refl _)⟩)
  have g1 : (1 : Int) < xs.length := of_decide_eq_true t1
  refine ⟨_, _, rfl, rfl, _, rfl, ?_⟩
  by_cases g2 : (xs.length : Int) < 5
  rotate_left
  · rw [decide_eq_false g2]
    exact no (bad (fun z => g2 (by rw [lx]; omega))) (Ex.refl _)
  rw [decide_eq_true g2]
  cases ds with
  | nil => rw [lx] at g1; simp at g1
  | cons d0 es =>
    obtain ⟨x0, rs, rfl, h0, hr0⟩ := inv_cons hx
    have lr := DpAll.len hr0
    have w0 := wl.2
    simp only [wdAll, Bool.and_eq_true] at w0
    refine ⟨_, rfl, a, _, _, _, rfl, rfl, sx, atI_nat (j := 0) rfl, _, _, _, _, _, rfl, .ty _, dp_ty h0, isi_str d0, _, rfl, ?_⟩
    by_cases hs0 : isStr d0 = true
    rotate_left
    · rw [Bool.not_eq_true] at hs0
      rw [hs0]
      exact no (by cases d0 <;> first | rfl | cases hs0) (Ex.refl _)
    obtain ⟨w, rfl⟩ := str_of hs0
    rw [hs0]
    cases h0
    have les : 1 ≤ es.length ∧ es.length ≤ 3 := by
      simp only [List.length_cons] at g1 g2
      omega
    have dd : PyData.depthAll es + 1 ≤ n := by simp only [PyData.depth, PyData.depthAll] at hd; omega
    have dd6 : PyData.depthAll es + 1 ≤ 60 := by simp only [PyData.depth, PyData.depthAll] at hd6; omega
    have lk : ∀ m : Nat, decide (V.int (((V.str w :: rs).length : Nat) : Int) = V.int ((m + 1 : Nat) : Int)) = decide (es.length = m) := fun m => by
      rw [len_dec]
      congr 1
      rw [eq_iff_iff, List.length_cons]
      omega
    refine ⟨_, rfl, a, _, _, _, rfl, rfl, sx, atI_nat (j := 0) rfl, rfl, _, rfl, ?_⟩
    by_cases ha : w = "any"
    · subst ha
      rw [w_eq]
      have kk : kfn (n + 1) (.tuple (.str "any" :: es)) = (decide (es.length = 1) && es.all natD) := by rw [kfn_w, if_pos rfl]
      refine ⟨_, rfl, a, _, rfl, .inr sx, rfl, _, rfl, ?_⟩
      have l1 := lk 1
      have l1 : decide (V.int (((V.str "any" :: rs).length : Nat) : Int) = V.int 2) = decide (es.length = 1) := l1
      rw [l1]
      by_cases h1 : es.length = 1
      rotate_left
      · rw [decide_eq_false h1]
        refine ⟨_, rfl, _, rfl, ?_⟩
        exact no (by rw [kk, decide_eq_false h1, Bool.false_and]) (Ex.refl _)
      rw [decide_eq_true h1]
      obtain ⟨e1, rfl⟩ := one_of1 h1
      obtain ⟨x1, r1, rfl, hx1, hr1⟩ := inv_cons hr0
      cases hr1
      have kk1 : kfn (n + 1) (.tuple [.str "any", e1]) = natD e1 := by rw [kk]; simp
      refine ⟨_, rfl, a, _, _, _, rfl, rfl, sx, atI_nat (j := 1) rfl, _, _, _, _, _, rfl, .ty _, dp_ty hx1, isi_int e1, _, rfl, ?_⟩
      cases hi : isInt e1 with
      | false =>
        refine ⟨_, rfl, _, rfl, ?_⟩
        exact no (by rw [kk1]; cases e1 <;> first | rfl | cases hi) (Ex.refl _)
      | true =>
        refine ⟨_, rfl, a, _, _, _, rfl, rfl, sx, atI_nat (j := 1) rfl, _, _, _, _, _, rfl, .ty _, dp_ty hx1, isi_bool e1, _, rfl, _, rfl, ?_⟩
        cases hb : isBool e1 with
        | true =>
          refine ⟨_, rfl, _, rfl, ?_⟩
          exact no (by rw [kk1]; cases e1 <;> first | rfl | cases hb) (Ex.refl _)
        | false =>
          cases e1 with
          | int i =>
            cases hx1
            refine ⟨_, rfl, a, _, _, _, rfl, rfl, sx, atI_nat (j := 1) rfl, _, _, rfl, rfl, ?_⟩
            refine ⟨_, rfl, _, rfl, ?_⟩
            by_cases h0 : i ≥ 0
            · rw [decide_eq_true h0]
              exact ⟨(by show 2 ≤ sizeLine; decide), fun p hp => q _ _ (Ex.new hp) (.inr ⟨by rw [kk1]; exact decide_eq_true h0, p, rfl, SqT.of upd_same⟩)⟩
            · rw [decide_eq_false h0]
              exact no (by rw [kk1]; exact decide_eq_false h0) (Ex.refl _)
          | bool b => cases hb
          | _ => cases hi
    rw [w_ne ha]
    refine ⟨_, rfl, a, _, _, _, rfl, rfl, sx, atI_nat (j := 0) rfl, (by show 2 ≤ sizeLine; decide), fun t ht2 => ?_⟩
    have et : Ex H (upd H t (.tup [.str "pair", .str "fun"])) := Ex.new ht2
    have htv : SqT K (upd H t (.tup [.str "pair", .str "fun"])) t ((["pair", "fun"] : List Str).map V.str) := SqT.of upd_same
    generalize upd H t (.tup [.str "pair", .str "fun"]) = H1 at et htv
    refine ⟨t, _, rfl, .inr htv, rfl, flatS _, _, rfl, ?_⟩
    show if (!inV (.str w) ((["pair", "fun"] : List Str).map V.str)) = true then _ else _
    rw [inV_str]
    have sx1 := ex_t et sx
    by_cases hin : w ∈ (["pair", "fun"] : List Str)
    rotate_left
    · rw [decide_eq_false hin]
      simp only [List.mem_cons, List.mem_nil_iff, or_false, not_or] at hin
      exact no (by rw [kfn_w, if_neg ha, if_neg hin.1, decide_eq_false hin.2, Bool.false_and]) et
    rw [decide_eq_true hin]
    refine ⟨_, rfl, a, _, rfl, .inr sx1, _, rfl, a, _, _, _, rfl, rfl, sx1, atI_nat (j := 0) rfl, rfl, ?_⟩
    by_cases hp : w = "pair"
    · subst hp
      rw [w_ne (show ¬ ("pair" : Str) = "fun" from fun z => s_fp z.symm)]
      refine .inr ⟨_, rfl, _, _, rfl, rfl, rfl, _, rfl, ?_⟩
      have l2 : decide (V.int (((V.str "pair" :: rs).length : Nat) : Int) = V.int (3 + (if false = true then 1 else 0))) = decide (es.length = 2) := lk 2
      rw [l2]
      by_cases h2 : es.length = 2
      rotate_left
      · rw [decide_eq_false h2]
        exact no (by rw [kfn_w, if_neg s_pa, if_pos rfl, decide_eq_false h2, Bool.false_and]) et
      rw [decide_eq_true h2]
      obtain ⟨dx, dy, rfl⟩ := two_of h2
      obtain ⟨x1, r1, rfl, hx1, hr1⟩ := inv_cons hr0
      obtain ⟨x2, r2, rfl, hx2, hr2⟩ := inv_cons hr1
      cases hr2
      have w3 := w0.2
      simp only [wdAll, Bool.and_eq_true] at w3
      simp only [PyData.depthAll] at dd dd6
      have en : n - 1 + 1 = n := by omega
      have kk : kfn (n + 1) (.tuple [.str "pair", dx, dy]) = (kfn n dx && kfn n dy) := by
        rw [kfn_w, if_neg s_pa, if_pos rfl]
        simp
      refine ⟨_, rfl, a, _, _, _, rfl, rfl, sx1, atI_nat (j := 1) rfl, n - 1, by omega, x1, dx, rfl, Dp.ex et _ _ hx1, w3.1, by omega, by omega, fun u1 H2 e2 z1 => ?_⟩
      have sx2 := ex_t (K := K) e2 sx1
      have et2 := et.trans e2
      refine ⟨_, rfl, _, rfl, a, _, _, _, rfl, rfl, sx2, (show atI [V.str "pair", x1, x2] (-1) = some x2 from rfl), n - 1, by omega, x2, dy, rfl, Dp.ex et2 _ _ hx2, w3.2.1, by omega, by omega, fun u2 H3 e3 z2 => ⟨_, _, rfl, ?_⟩⟩
      rw [en] at z1 z2
      have z1 := z1.ex e3
      have sx3 := ex_t (K := K) e3 sx2
      have et3 := et2.trans e3
      refine ⟨_, rfl, rfl, _, rfl, ?_⟩
      rw [sz_non z1]
      cases k1 : kfn n dx with
      | false => exact no (by rw [kk, k1, Bool.false_and]) et3
      | true =>
        refine ⟨_, rfl, rfl, _, rfl, ?_⟩
        rw [sz_non z2]
        cases k2 : kfn n dy with
        | false => exact no (by rw [kk, k2, Bool.and_false]) et3
        | true =>
          refine ⟨_, rfl, a, _, _, _, rfl, rfl, sx3, atI_nat (j := 0) rfl, rfl, _, rfl, ?_⟩
          rw [w_ne (show ¬ ("pair" : Str) = "fun" from fun z => s_fp z.symm)]
          obtain ⟨p1, rfl, s1⟩ := sz_get z1 k1
          obtain ⟨p2, rfl, s2⟩ := sz_get z2 k2
          refine ⟨_, rfl, p1, _, _, _, rfl, rfl, s1, atI_nat (j := 0) rfl, _, _, rfl, rfl, _, rfl, p2, _, _, _, rfl, rfl, s2, atI_nat (j := 0) rfl, _, _, rfl, rfl, _, rfl, p1, _, _, _, rfl, rfl, s1, atI_nat (j := 1) rfl, _, rfl, p2, _, _, _, rfl, rfl, s2, atI_nat (j := 1) rfl, _, _, rfl, _, _, rfl, rfl, (by show 2 ≤ sizeLine; decide), fun p hp => ?_⟩
          refine q _ _ (et3.trans (Ex.new hp)) (.inr ⟨by rw [kk, k1, k2]; rfl, p, rfl, SqT.of ?_⟩)
          rw [upd_same]
          have ep : ((partsN (n + 1) (.tuple [.str "pair", dx, dy]) : Nat) : Int) = 1 + ((partsN n dx : Nat) : Int) + ((partsN n dy : Nat) : Int) := by
            show ((1 + (partsN n dx + (partsN n dy + 0)) : Nat) : Int) = _
            omega
          have ed : ((deepN (n + 1) (.tuple [.str "pair", dx, dy]) : Nat) : Int) = 1 + ((max (deepN n dx) (deepN n dy) : Nat) : Int) := by
            show ((1 + (max (deepN n dx) (max (deepN n dy) 0)) : Nat) : Int) = _
            omega
          rw [ep, ed, ← max_if]
    · have hf : w = "fun" := by
        simp only [List.mem_cons, List.mem_nil_iff, or_false] at hin
        exact hin.resolve_left hp
      subst hf
      rw [w_eq]
      refine .inr ⟨_, rfl, _, _, rfl, rfl, rfl, _, rfl, ?_⟩
      have l2 : decide (V.int (((V.str "fun" :: rs).length : Nat) : Int) = V.int (3 + (if true = true then 1 else 0))) = decide (es.length = 3) := lk 3
      rw [l2]
      by_cases h2 : es.length = 3
      rotate_left
      · rw [decide_eq_false h2]
        exact no (by rw [kfn_w, if_neg s_fa, if_neg s_fp, kfn_not3 h2, Bool.and_false]) et
      rw [decide_eq_true h2]
      obtain ⟨dx, dr, dy, rfl⟩ := three_of h2
      obtain ⟨x1, r1, rfl, hx1, hr1⟩ := inv_cons hr0
      obtain ⟨x2, r2, rfl, hx2, hr2⟩ := inv_cons hr1
      obtain ⟨x3, r3, rfl, hx3, hr3⟩ := inv_cons hr2
      cases hr3
      have w3 := w0.2
      simp only [wdAll, Bool.and_eq_true] at w3
      simp only [PyData.depthAll] at dd dd6
      have en : n - 1 + 1 = n := by omega
      have kk : kfn (n + 1) (.tuple [.str "fun", dx, dr, dy]) = (rosD dr && (kfn n dx && kfn n dy)) := by
        rw [kfn_w, if_neg s_fa, if_neg s_fp, decide_eq_true rfl, Bool.true_and, kf3]
      refine ⟨_, rfl, a, _, _, _, rfl, rfl, sx1, atI_nat (j := 1) rfl, n - 1, by omega, x1, dx, rfl, Dp.ex et _ _ hx1, w3.1, by omega, by omega, fun u1 H2 e2 z1 => ?_⟩
      have sx2 := ex_t (K := K) e2 sx1
      have et2 := et.trans e2
      refine ⟨_, rfl, _, rfl, a, _, _, _, rfl, rfl, sx2, (show atI [V.str "fun", x1, x2, x3] (-1) = some x3 from rfl), n - 1, by omega, x3, dy, rfl, Dp.ex et2 _ _ hx3, w3.2.2.1, by omega, by omega, fun u2 H3 e3 z2 => ⟨_, _, rfl, ?_⟩⟩
      rw [en] at z1 z2
      have z1 := z1.ex e3
      have sx3 := ex_t (K := K) e3 sx2
      have et3 := et2.trans e3
      refine ⟨_, rfl, rfl, _, rfl, ?_⟩
      rw [sz_non z1]
      cases k1 : kfn n dx with
      | false => exact no (by rw [kk, k1, Bool.false_and, Bool.and_false]) et3
      | true =>
        refine ⟨_, rfl, rfl, _, rfl, ?_⟩
        rw [sz_non z2]
        cases k2 : kfn n dy with
        | false => exact no (by rw [kk, k2, Bool.and_false, Bool.and_false]) et3
        | true =>
          refine ⟨_, rfl, a, _, _, _, rfl, rfl, sx3, atI_nat (j := 0) rfl, rfl, _, rfl, ?_⟩
          rw [w_eq]
          refine ⟨_, rfl, a, _, _, _, rfl, rfl, sx3, atI_nat (j := 2) rfl, x2, dr, rfl, Dp.ex et3 _ _ hx2, w3.2.1, by omega, fun H4 e4 => ⟨_, rfl, ?_⟩⟩
          have et4 := et3.trans e4
          show if (!rosD dr) = true then _ else _
          cases k3 : rosD dr with
          | false => exact no (by rw [kk, k3, Bool.false_and]) et4
          | true =>
            obtain ⟨p1, rfl, s1⟩ := sz_get (z1.ex e4) k1
            obtain ⟨p2, rfl, s2⟩ := sz_get (z2.ex e4) k2
            refine ⟨_, rfl, p1, _, _, _, rfl, rfl, s1, atI_nat (j := 0) rfl, _, _, rfl, rfl, _, rfl, p2, _, _, _, rfl, rfl, s2, atI_nat (j := 0) rfl, _, _, rfl, rfl, _, rfl, p1, _, _, _, rfl, rfl, s1, atI_nat (j := 1) rfl, _, rfl, p2, _, _, _, rfl, rfl, s2, atI_nat (j := 1) rfl, _, _, rfl, _, _, rfl, rfl, (by show 2 ≤ sizeLine; decide), fun p hp => ?_⟩
            refine q _ _ (et4.trans (Ex.new hp)) (.inr ⟨by rw [kk, k1, k2, k3]; rfl, p, rfl, SqT.of ?_⟩)
            rw [upd_same]
            have ep : ((partsN (n + 1) (.tuple [.str "fun", dx, dr, dy]) : Nat) : Int) = 1 + ((partsN n dx : Nat) : Int) + ((partsN n dy : Nat) : Int) := by
              show ((1 + (partsN n dx + (partsN n dy + 0)) : Nat) : Int) = _
              omega
            have ed : ((deepN (n + 1) (.tuple [.str "fun", dx, dr, dy]) : Nat) : Int) = 1 + ((max (deepN n dx) (deepN n dy) : Nat) : Int) := by
              show ((1 + (max (deepN n dx) (max (deepN n dy) 0)) : Nat) : Int) = _
              omega
            rw [ep, ed, ← max_if]
theorem ok_size (T : Txt K mg) : ∀ n : Nat, Fn P w K mg base CX0 (5 + n) T.a_size T.d_size ["_law_odd_here"] (sp_size K n)
  | 0 => ok_size_step T 0 4 (by omega) ⟨fun vs H Q E h => by obtain ⟨m, hm, _⟩ := h; omega, fun A outer s H args us vs Q E _ _ _ _ _ h => by obtain ⟨m, hm, _⟩ := h; omega⟩
  | n + 1 => by
    have G := ok_size T n
    refine ok_size_step T (n + 1) (5 + n) (by omega) ⟨fun vs H Q E h => ?_, fun A outer s H args us vs Q E h1 h2 h3 h4 h5 h => ?_⟩
    · obtain ⟨m, hm, h⟩ := h
      have : m = n := by omega
      subst this
      exact G.len vs H Q E h
    · obtain ⟨m, hm, h⟩ := h
      have : m = n := by omega
      subst this
      exact G.run A outer s H args us vs Q E h1 h2 h3 h4 h5 h
theorem ok_is_it (T : Txt K mg) (n : Nat) : Fn P w K mg base CX0 (6 + n) T.a_is_it T.d_is_it ["_law_odd_here"] (spE K n (isKindD (n + 1))) := by
  have G_size := ok_size (P := P) (w := w) (base := base) T n
  rw [show 6 + n = (5 + n) + 1 by omega]
  refine Grd.mk T.F_is_it scis_it (fun vs H Q E h => ?_) (fun cdv A outer st H vs Q E gd hr h => ?_)
  · obtain ⟨v, d, rfl, _⟩ := h
    rfl
  obtain ⟨v, d, rfl, hv, hw, hd, hd6, q⟩ := h
  refine ⟨_, (pss_cons (ps_set (i := 1) scis_it.nd rfl (Or.inl rfl) (pe_callG G_size gd (hr.mono (by first | decide | omega)) rfl T.g_size T.F_size.kp T.b_size .nil pass0 (pa_cons (pv 0) pa_nil)))
      (pss_one (ps_ret (pe_and (pe_cmpR op_notN (pv 1) pe_non (nomark _)) (pe_and (pe_cmpR op_le (pe_ix ix_tup (pv 1) pe_int (fun _ _ => rfl)) pe_int (nomark _)) (pe_one (pe_cmpR op_le (pe_ix ix_tup (pv 1) pe_int (fun _ _ => rfl)) pe_int (nomark _)))))))), ?_⟩
  have to : ∀ {b : Bool} {H' : Hp}, isKindD (n + 1) d = b → Ex H H' → Q (.bl b) H' := fun z e => by
    have := q _ e
    rw [z] at this
    exact this
  refine ⟨_, rfl, v, d, rfl, hv, hw, hd, hd6, fun u H1 e1 z => ?_⟩
  refine ⟨_, rfl, rfl, _, rfl, ?_⟩
  have zn := sz_non z
  cases hk : kfn (n + 1) d with
  | false =>
    rw [hk] at zn
    have e : (!decide (u = V.non)) = false := by rw [zn]; rfl
    rw [e]
    exact to (by rw [isKindD, hk, Bool.false_and]) e1
  | true =>
    rw [hk] at zn
    have e : (!decide (u = V.non)) = true := by rw [zn]; rfl
    rw [e]
    obtain ⟨p, rfl, sp⟩ := sz_get z hk
    have dc : ∀ a b : Nat, decide (((a : Nat) : Int) ≤ ((b : Nat) : Int)) = decide (a ≤ b) := fun a b => by
      congr 1
      rw [eq_iff_iff]
      omega
    refine ⟨_, rfl, p, _, _, _, rfl, rfl, sp, atI_nat (j := 0) rfl, _, _, rfl, rfl, _, rfl, ?_⟩
    show if decide (((partsN (n + 1) d : Nat) : Int) ≤ ((40 : Nat) : Int)) = true then _ else _
    rw [dc]
    by_cases hp : partsN (n + 1) d ≤ 40
    · rw [decide_eq_true hp]
      refine ⟨_, rfl, p, _, _, _, rfl, rfl, sp, atI_nat (j := 1) rfl, _, _, rfl, rfl, to ?_ e1⟩
      rw [isKindD, hk, decide_eq_true hp, Bool.true_and, Bool.true_and]
      exact (dc _ 8).symm
    · rw [decide_eq_false hp]
      exact to (by rw [isKindD, hk, decide_eq_false hp, Bool.false_and, Bool.and_false]) e1
end
end K10

/-! K10: plain kinds, sheets -/
namespace K10
open PySem L2 Grd RZ
open Evl (Ex ex_t ex_l ex_rd)
def isPairD : PyData → Bool
  | .str s => decide (s = "pair")
  | _ => false
def plainN : Nat → PyData → Bool
  | 0, _ => false
  | n + 1, d => match d with
    | .str s => decide (s = "number")
    | .tuple [w, x, y] => isPairD w && (plainN n x && plainN n y)
    | _ => false
theorem eqv_pair (d : PyData) : PyData.eqv d (.str "pair") = isPairD d := by
  cases d <;> simp only [PyData.eqv, isPairD]
  rename_i s
  by_cases h : s = "pair"
  · subst h; decide +kernel
  · rw [decide_eq_false h]
    simpa using h
theorem plain_not3 {n : Nat} {ds : List PyData} (h : ds.length ≠ 3) : plainN n (.tuple ds) = false := by
  cases n with
  | zero => rfl
  | succ n =>
    cases ds with
    | nil => rfl
    | cons a r =>
      cases r with
      | nil => rfl
      | cons b t =>
        cases t with
        | nil => rfl
        | cons c u =>
          cases u with
          | nil => exact absurd rfl h
          | cons d v => rfl
theorem eqv_number (d : PyData) : PyData.eqv d (.str "number") = plainN 1 d := by
  cases d with
  | str s =>
    show PyData.eqv (.str s) (.str "number") = decide (s = "number")
    simp only [PyData.eqv]
    by_cases h : s = "number"
    · subst h; decide +kernel
    · rw [decide_eq_false h]
      simpa using h
  | tuple ds =>
    have : plainN 1 (.tuple ds) = false := by
      by_cases h3 : ds.length = 3
      · obtain ⟨w, x, y, rfl⟩ := three_of h3
        show (isPairD w && (false && false)) = false
        simp
      · exact plain_not3 h3
    rw [this]
    simp only [PyData.eqv]
  | _ => simp only [PyData.eqv]; rfl
theorem plain_kf : ∀ (n : Nat) (d : PyData), plainN n d = true → kfn n d = true
  | 0, _, h => by cases h
  | n + 1, d, h => by
    cases d with
    | str s => exact h
    | tuple ds =>
      by_cases h3 : ds.length = 3
      · obtain ⟨w, x, y, rfl⟩ := three_of h3
        have h : (isPairD w && (plainN n x && plainN n y)) = true := h
        simp only [Bool.and_eq_true] at h
        cases w with
        | str s =>
          have : s = "pair" := of_decide_eq_true h.1
          subst this
          rw [kfn_w, if_neg s_pa, if_pos rfl]
          simp [plain_kf n x h.2.1, plain_kf n y h.2.2]
        | _ => cases h.1
      · rw [plain_not3 h3] at h; cases h
    | _ => cases h
theorem plain_deep : ∀ (n k : Nat) (d : PyData), d.depth < n → (plainN n d && decide (deepN n d ≤ k)) = plainN k d
  | 0, _, _, h => by omega
  | n + 1, k, d, h => by
    cases d with
    | str s =>
      have e : deepN (n + 1) (.str s) = 1 := rfl
      rw [e]
      cases k with
      | zero => simp [plainN]
      | succ k => simp [plainN]
    | tuple ds =>
      by_cases h3 : ds.length = 3
      · obtain ⟨w, x, y, rfl⟩ := three_of h3
        simp only [PyData.depth, PyData.depthAll] at h
        have ihx := fun k => plain_deep n k x (by omega)
        have ihy := fun k => plain_deep n k y (by omega)
        cases k with
        | zero =>
          have e : 1 ≤ deepN (n + 1) (.tuple [w, x, y]) := by rw [deepN]; omega
          rw [decide_eq_false (by omega), Bool.and_false]
          rfl
        | succ k =>
          show ((isPairD w && (plainN n x && plainN n y)) && _) = (isPairD w && (plainN k x && plainN k y))
          rw [← ihx k, ← ihy k]
          cases hw : isPairD w with
          | false => simp
          | true =>
            cases w with
            | str s =>
              have e : deepN (n + 1) (.tuple [.str s, x, y]) = 1 + max (deepN n x) (max (deepN n y) 0) := rfl
              rw [e]
              have e2 : decide (1 + max (deepN n x) (max (deepN n y) 0) ≤ k + 1) = (decide (deepN n x ≤ k) && decide (deepN n y ≤ k)) := by
                rw [Bool.eq_iff_iff, Bool.and_eq_true, decide_eq_true_iff, decide_eq_true_iff, decide_eq_true_iff]
                omega
              rw [e2]
              cases plainN n x <;> cases plainN n y <;> cases decide (deepN n x ≤ k) <;> cases decide (deepN n y ≤ k) <;> rfl
            | _ => cases hw
      · rw [plain_not3 h3, plain_not3 h3, Bool.false_and]
    | none => cases k <;> rfl
    | bool b => cases k <;> rfl
    | int i => cases k <;> rfl
    | list ds => cases k <;> rfl
    | dict kv => cases k <;> rfl
theorem shp_pair : SeqAt.shaped (.str "pair") = true := by
  unfold SeqAt.shaped
  simp only [PyData.canLay0, PyData.depth]
  decide +kernel
section
variable {P : Program} {w : World} {K : PySem.W.Frag} {mg : Str → Option Value} {base : Heap}
theorem ok_plain_step (T : Txt K mg) (n j : Nat) (G_p_is_plain_kind : Fn P w K mg base CX0 j T.a_p_is_plain_kind T.d_p_is_plain_kind ["thing"] (fun vs H Q E => ∃ m, m + 1 = n ∧ spE K m (plainN (m + 1)) vs H Q E)) :
    Fn P w K mg base CX0 (j + 1) T.a_p_is_plain_kind T.d_p_is_plain_kind ["thing"] (spE K n (plainN (n + 1))) := by
  refine Grd.mk T.F_p_is_plain_kind scp_is_plain_kind (fun vs H Q E h => ?_) (fun cdv A outer st H vs Q E gd hr h => ?_)
  · obtain ⟨v, d, rfl, _⟩ := h
    rfl
  obtain ⟨v, d, rfl, hv, hw, hd, hd6, q⟩ := h
  refine ⟨_, (pss_cons (ps_if (pt_val (pe_callB call_isi (by rfl) T.n_isinstance (by decide +kernel) (pa_cons (pv 0) (pa_cons (pe_bltn (v := .ty "str") (by rfl) T.n_str (by decide +kernel) rfl) pa_nil)))) (pss_one (ps_ret (pe_cmpR op_eq (pv 0) pe_str (nomark _)))) pss_nil)
      (pss_cons (ps_if (PW.pt (pw_or (pt_not (pt_val (pe_callB call_isi (by rfl) T.n_isinstance (by decide +kernel) (pa_cons (pv 0) (pa_cons (pe_bltn (v := .ty "tuple") (by rfl) T.n_tuple (by decide +kernel) rfl) pa_nil))))) (pw_or (pt_cmpR op_ne (pe_callB call_len_seq (by rfl) T.n_len PySem.boot_len (pa_cons (pv 0) pa_nil)) pe_int (nomark _)) (pw_or1 (pt_cmpR (op_neD hr.units) (pe_ix ix_tup (pv 0) pe_int (fun _ _ => rfl)) pe_str (nomark _)))))) (pss_one (ps_ret pe_bl)) pss_nil)
      (pss_one (ps_ret (pe_and (pe_callG G_p_is_plain_kind gd (hr.mono (by first | decide | omega)) rfl T.g_p_is_plain_kind T.F_p_is_plain_kind.kp T.b_p_is_plain_kind .nil pass0 (pa_cons (pe_ix ix_tup (pv 0) pe_int (fun _ _ => rfl)) pa_nil)) (pe_one (pe_callG G_p_is_plain_kind gd (hr.mono (by first | decide | omega)) rfl T.g_p_is_plain_kind T.F_p_is_plain_kind.kp T.b_p_is_plain_kind .nil pass0 (pa_cons (pe_ix ix_tup (pv 0) pe_int (fun _ _ => rfl)) pa_nil)))))))), ?_⟩
  have to : ∀ {b : Bool} {H' : Hp}, plainN (n + 1) d = b → Ex H H' → Q (.bl b) H' := fun z e => by
    have := q _ e
    rw [z] at this
    exact this
  refine ⟨_, rfl, _, _, _, _, _, rfl, .ty _, dp_ty hv, isi_str d, _, rfl, ?_⟩
  by_cases hs : isStr d = true
  · obtain ⟨s, rfl⟩ := str_of hs
    cases hv
    rw [hs]
    refine ⟨_, rfl, rfl, to ?_ (Ex.refl _)⟩
    show decide (s = "number") = decide (V.str s = V.str (Str.ofString "number"))
    by_cases h : s = "number"
    · subst h; rw [w_eq]; exact decide_eq_true rfl
    · rw [w_ne h, decide_eq_false h]
  rw [Bool.not_eq_true] at hs
  rw [hs]
  refine ⟨_, rfl, _, _, _, _, _, rfl, .ty _, dp_ty hv, isi_tup d, _, rfl, ?_⟩
  by_cases ht : isTup d = true
  rotate_left
  · rw [Bool.not_eq_true] at ht
    rw [ht]
    exact to (by cases d <;> first | rfl | (simp [isStr] at hs; done) | (simp [isTup] at ht; done)) (Ex.refl _)
  obtain ⟨ds, rfl⟩ := tup_of ht
  rw [ht]
  obtain ⟨a, xs, rfl, sx, hx⟩ := inv_tup hv
  have lx := DpAll.len hx
  have wl := wd_tup hw
  refine ⟨_, rfl, a, _, rfl, .inr sx, rfl, _, rfl, ?_⟩
  have lk : decide (V.int ((xs.length : Nat) : Int) = V.int 3) = decide (ds.length = 3) := by rw [← lx]; exact len_dec xs.length 3
  rw [lk]
  by_cases h3 : ds.length = 3
  rotate_left
  · rw [decide_eq_false h3]
    exact to (plain_not3 h3) (Ex.refl _)
  rw [decide_eq_true h3]
  obtain ⟨dw, dx, dy, rfl⟩ := three_of h3
  obtain ⟨x0, r0, rfl, hx0, hr0⟩ := inv_cons hx
  obtain ⟨x1, r1, rfl, hx1, hr1⟩ := inv_cons hr0
  obtain ⟨x2, r2, rfl, hx2, hr2⟩ := inv_cons hr1
  cases hr2
  have w3 := wl.2
  simp only [wdAll, Bool.and_eq_true] at w3
  simp only [PyData.depth, PyData.depthAll] at hd hd6
  have en : n - 1 + 1 = n := by omega
  have kk : plainN (n + 1) (.tuple [dw, dx, dy]) = (isPairD dw && (plainN n dx && plainN n dy)) := rfl
  refine ⟨_, rfl, a, _, _, _, rfl, rfl, sx, atI_nat (j := 0) rfl, dw, .str "pair", hx0, .str _, wd_shp w3.1 (by omega), shp_pair, _, rfl, ?_⟩
  rw [eqv_pair]
  cases hp : isPairD dw with
  | false => exact to (by rw [kk, hp, Bool.false_and]) (Ex.refl _)
  | true =>
    refine ⟨_, rfl, a, _, _, _, rfl, rfl, sx, atI_nat (j := 1) rfl, n - 1, by omega, x1, dx, rfl, hx1, w3.2.1, by omega, by omega, fun H1 e1 => ⟨_, rfl, ?_⟩⟩
    rw [en]
    cases k1 : plainN n dx with
    | false => exact to (by rw [kk, k1, Bool.false_and, Bool.and_false]) e1
    | true =>
      refine ⟨_, rfl, a, _, _, _, rfl, rfl, ex_t e1 sx, atI_nat (j := 2) rfl, n - 1, by omega, x2, dy, rfl, Dp.ex e1 _ _ hx2, w3.2.2.1, by omega, by omega, fun H2 e2 => ?_⟩
      rw [en]
      exact to (by rw [kk, hp, k1, Bool.true_and, Bool.true_and]) (e1.trans e2)
theorem ok_p_is_plain_kind (T : Txt K mg) : ∀ n : Nat, Fn P w K mg base CX0 (1 + n) T.a_p_is_plain_kind T.d_p_is_plain_kind ["thing"] (spE K n (plainN (n + 1)))
  | 0 => ok_plain_step T 0 0 ⟨fun vs H Q E h => by obtain ⟨m, hm, _⟩ := h; omega, fun A outer s H args us vs Q E _ _ _ _ _ h => by obtain ⟨m, hm, _⟩ := h; omega⟩
  | n + 1 => by
    have G := ok_p_is_plain_kind T n
    refine ok_plain_step T (n + 1) (1 + n) ⟨fun vs H Q E h => ?_, fun A outer s H args us vs Q E h1 h2 h3 h4 h5 h => ?_⟩
    · obtain ⟨m, hm, h⟩ := h
      have : m = n := by omega
      subst this
      exact G.len vs H Q E h
    · obtain ⟨m, hm, h⟩ := h
      have : m = n := by omega
      subst this
      exact G.run A outer s H args us vs Q E h1 h2 h3 h4 h5 h
end
end K10

/-! K10: plain kinds by the law; sheets -/
namespace K10
open PySem L2 Grd RZ
open Evl (Ex ex_t ex_l ex_rd)
def sp_plainL (K : PySem.W.Frag) (n : Nat) : Sp := fun vs H Q _ => ∃ (v : V) (d : PyData) (k : Nat), vs = [v, .int ((k : Nat) : Int)] ∧ 1 ≤ k ∧ k ≤ n ∧ Dp K H v d ∧ wd d = true ∧ d.depth ≤ 60 ∧ ∀ H', Ex H H' → Q (.bl (plainN k d)) H'
def rowD : PyData → Bool
  | .tuple [a, x, y] => nameD a && (plainN 4 x && plainN 4 y)
  | _ => false
theorem row_not3 {ds : List PyData} (h : ds.length ≠ 3) : rowD (.tuple ds) = false := by
  cases ds with
  | nil => rfl
  | cons a r =>
    cases r with
    | nil => rfl
    | cons b t =>
      cases t with
      | nil => rfl
      | cons c u =>
        cases u with
        | nil => exact absurd rfl h
        | cons d v => rfl
def nmD : PyData → Str
  | .tuple (a :: _) => toS a
  | _ => ""
def ltS (a b : Str) : Bool := decide (a.cps.toList < b.cps.toList)
def risD (ds : List PyData) : Bool := ((List.range (ds.length - 1)).map fun i => ltS (nmD (ds.getD i .none)) (nmD (ds.getD (i + 1) .none))).all id
def sheetD : PyData → Bool
  | .tuple ds => decide (ds.length ≤ 6) && (ds.all rowD && risD ds)
  | _ => false
section
variable {P : Program} {w : World} {K : PySem.W.Frag} {mg : Str → Option Value} {base : Heap}
theorem ok_isplain_step (T : Txt K mg) (n j : Nat) (G_is_plain : Fn P w K mg base CX0 j T.a_is_plain T.d_is_plain ["_law_odd_here", "_law_deep"] (sp_plainL K n)) :
    Fn P w K mg base CX0 (j + 1) T.a_is_plain T.d_is_plain ["_law_odd_here", "_law_deep"] (sp_plainL K (n + 1)) := by
  refine Grd.mk T.F_is_plain scis_plain (fun vs H Q E h => ?_) (fun cdv A outer st H vs Q E gd hr h => ?_)
  · obtain ⟨v, d, k, rfl, _⟩ := h
    rfl
  obtain ⟨v, d, k, rfl, k1, kn, hv, hw, hd6, q⟩ := h
  refine ⟨_, (pss_cons (ps_if (PW.pt (pw_or (pt_val (pe_callB call_isi (by rfl) T.n_isinstance (by decide +kernel) (pa_cons (pv 0) (pa_cons (pe_bltn (v := .ty "str") (by rfl) T.n_str (by decide +kernel) rfl) pa_nil)))) (pw_or1 (pt_cmpR op_eq (pv 1) pe_int (nomark _))))) (pss_one (ps_ret (pe_cmpR (op_eqD hr.units) (pv 0) pe_str (nomark _)))) pss_nil)
      (pss_cons (ps_if (PW.pt (pw_or (pt_not (pt_val (pe_callB call_isi (by rfl) T.n_isinstance (by decide +kernel) (pa_cons (pv 0) (pa_cons (pe_bltn (v := .ty "tuple") (by rfl) T.n_tuple (by decide +kernel) rfl) pa_nil))))) (pw_or (pt_cmpR op_ne (pe_callB call_len_seq (by rfl) T.n_len PySem.boot_len (pa_cons (pv 0) pa_nil)) pe_int (nomark _)) (pw_or1 (pt_cmpR (op_neD hr.units) (pe_ix ix_tup (pv 0) pe_int (fun _ _ => rfl)) pe_str (nomark _)))))) (pss_one (ps_ret pe_bl)) pss_nil)
      (pss_one (ps_ret (pe_and (pe_callG G_is_plain gd (hr.mono (by first | decide | omega)) rfl T.g_is_plain T.F_is_plain.kp T.b_is_plain .nil pass0 (pa_cons (pe_ix ix_tup (pv 0) pe_int (fun _ _ => rfl)) (pa_cons (pe_op op_sub (pv 1) pe_int) pa_nil))) (pe_one (pe_callG G_is_plain gd (hr.mono (by first | decide | omega)) rfl T.g_is_plain T.F_is_plain.kp T.b_is_plain .nil pass0 (pa_cons (pe_ix ix_tup (pv 0) pe_int (fun _ _ => rfl)) (pa_cons (pe_op op_sub (pv 1) pe_int) pa_nil))))))))), ?_⟩
  have to : ∀ {b : Bool} {H' : Hp}, plainN k d = b → Ex H H' → Q (.bl b) H' := fun z e => by
    have := q _ e
    rw [z] at this
    exact this
  refine ⟨_, rfl, _, _, _, _, _, rfl, .ty _, dp_ty hv, isi_str d, _, rfl, ?_⟩
  by_cases hs : isStr d = true
  · rw [hs]
    refine ⟨_, rfl, d, .str "number", hv, .str _, wd_shp hw (by omega), shp_num, to ?_ (Ex.refl _)⟩
    obtain ⟨s, rfl⟩ := str_of hs
    rw [eqv_number]
    obtain ⟨m, rfl⟩ : ∃ m, k = m + 1 := ⟨k - 1, by omega⟩
    rfl
  rw [Bool.not_eq_true] at hs
  rw [hs]
  refine ⟨_, rfl, rfl, _, rfl, ?_⟩
  by_cases hk1 : k = 1
  · subst hk1
    rw [show decide (V.int (((1 : Nat) : Nat) : Int) = V.int 1) = true from decide_eq_true rfl]
    exact ⟨_, rfl, d, .str "number", hv, .str _, wd_shp hw (by omega), shp_num, to (eqv_number d).symm (Ex.refl _)⟩
  have kd : decide (V.int ((k : Nat) : Int) = V.int 1) = false := by
    have := len_dec k 1
    rw [decide_eq_false hk1] at this
    exact this
  rw [kd]
  obtain ⟨m, rfl⟩ : ∃ m, k = m + 1 := ⟨k - 1, by omega⟩
  refine ⟨_, rfl, _, _, _, _, _, rfl, .ty _, dp_ty hv, isi_tup d, _, rfl, ?_⟩
  by_cases ht : isTup d = true
  rotate_left
  · rw [Bool.not_eq_true] at ht
    rw [ht]
    exact to (by cases d <;> first | rfl | (simp [isStr] at hs; done) | (simp [isTup] at ht; done)) (Ex.refl _)
  obtain ⟨ds, rfl⟩ := tup_of ht
  rw [ht]
  obtain ⟨a, xs, rfl, sx, hx⟩ := inv_tup hv
  have lx := DpAll.len hx
  have wl := wd_tup hw
  refine ⟨_, rfl, a, _, rfl, .inr sx, rfl, _, rfl, ?_⟩
  have lk : decide (V.int ((xs.length : Nat) : Int) = V.int 3) = decide (ds.length = 3) := by rw [← lx]; exact len_dec xs.length 3
  rw [lk]
  by_cases h3 : ds.length = 3
  rotate_left
  · rw [decide_eq_false h3]
    exact to (plain_not3 h3) (Ex.refl _)
  rw [decide_eq_true h3]
  obtain ⟨dw, dx, dy, rfl⟩ := three_of h3
  obtain ⟨x0, r0, rfl, hx0, hr0⟩ := inv_cons hx
  obtain ⟨x1, r1, rfl, hx1, hr1⟩ := inv_cons hr0
  obtain ⟨x2, r2, rfl, hx2, hr2⟩ := inv_cons hr1
  cases hr2
  have w3 := wl.2
  simp only [wdAll, Bool.and_eq_true] at w3
  simp only [PyData.depth, PyData.depthAll] at hd6
  have kk : plainN (m + 1) (.tuple [dw, dx, dy]) = (isPairD dw && (plainN m dx && plainN m dy)) := rfl
  have em : ((m + 1 : Nat) : Int) - 1 = ((m : Nat) : Int) := by omega
  refine ⟨_, rfl, a, _, _, _, rfl, rfl, sx, atI_nat (j := 0) rfl, dw, .str "pair", hx0, .str _, wd_shp w3.1 (by omega), shp_pair, _, rfl, ?_⟩
  rw [eqv_pair]
  cases hp : isPairD dw with
  | false => exact to (by rw [kk, hp, Bool.false_and]) (Ex.refl _)
  | true =>
    refine ⟨_, rfl, a, _, _, _, rfl, rfl, sx, atI_nat (j := 1) rfl, _, rfl, _, _, rfl, rfl, x1, dx, m, (by show [x1, V.int (((m + 1 : Nat) : Int) - 1)] = _; rw [em]), by omega, by omega, hx1, w3.2.1, by omega, fun H1 e1 => ⟨_, rfl, ?_⟩⟩
    cases k1 : plainN m dx with
    | false => exact to (by rw [kk, k1, Bool.false_and, Bool.and_false]) e1
    | true =>
      refine ⟨_, rfl, a, _, _, _, rfl, rfl, ex_t e1 sx, atI_nat (j := 2) rfl, _, rfl, _, _, rfl, rfl, x2, dy, m, (by show [x2, V.int (((m + 1 : Nat) : Int) - 1)] = _; rw [em]), by omega, by omega, Dp.ex e1 _ _ hx2, w3.2.2.1, by omega, fun H2 e2 => ?_⟩
      exact to (by rw [kk, hp, k1, Bool.true_and, Bool.true_and]) (e1.trans e2)
theorem ok_is_plain (T : Txt K mg) : ∀ n : Nat, Fn P w K mg base CX0 n T.a_is_plain T.d_is_plain ["_law_odd_here", "_law_deep"] (sp_plainL K n)
  | 0 => ⟨fun vs H Q E h => by obtain ⟨v, d, k, _, h1, h2, _⟩ := h; omega, fun A outer s H args us vs Q E _ _ _ _ _ h => by obtain ⟨v, d, k, _, h1, h2, _⟩ := h; omega⟩
  | n + 1 => ok_isplain_step T n n (ok_is_plain T n)
theorem ok_p_is_sheet_row (T : Txt K mg) (n : Nat) : Fn P w K mg base CX0 (3 + n) T.a_p_is_sheet_row T.d_p_is_sheet_row ["thing"] (spE K n rowD) := by
  have G_p_is_name := ok_p_is_name (P := P) (w := w) (base := base) T
  have G_p_is_plain_kind := ok_p_is_plain_kind (P := P) (w := w) (base := base) T n
  have G_p_kind_deep := ok_deep (P := P) (w := w) (base := base) T n
  rw [show 3 + n = (2 + n) + 1 by omega]
  refine Grd.mk T.F_p_is_sheet_row scp_is_sheet_row (fun vs H Q E h => ?_) (fun cdv A outer st H vs Q E gd hr h => ?_)
  · obtain ⟨v, d, rfl, _⟩ := h
    rfl
  obtain ⟨v, d, rfl, hv, hw, hd, hd6, q⟩ := h
  refine ⟨_, (pss_cons (ps_if (PW.pt (pw_or (pt_not (pt_val (pe_callB call_isi (by rfl) T.n_isinstance (by decide +kernel) (pa_cons (pv 0) (pa_cons (pe_bltn (v := .ty "tuple") (by rfl) T.n_tuple (by decide +kernel) rfl) pa_nil))))) (pw_or (pt_cmpR op_ne (pe_callB call_len_seq (by rfl) T.n_len PySem.boot_len (pa_cons (pv 0) pa_nil)) pe_int (nomark _)) (pw_or1 (pt_not (pt_val (pe_callG G_p_is_name gd (hr.mono (by first | decide | omega)) rfl T.g_p_is_name T.F_p_is_name.kp T.b_p_is_name .nil pass0 (pa_cons (pe_ix ix_tup (pv 0) pe_int (fun _ _ => rfl)) pa_nil)))))))) (pss_one (ps_ret pe_bl)) pss_nil)
      (pss_one (ps_ret (pe_callB (cr_all rfl) (by rfl) T.n_all (by decide +kernel) (pa_cons (pe_lc (own := [("one", 1)]) (by rfl) scp_is_sheet_row.nd (pi_tup (pe_slice sl_tupA (pv 0) (po_some pe_int) po_none)) (blkOk_by (own := [("one", 1)]) (N := ["thing", "one"]) (sc := defScope s_p_is_sheet_row) (by decide +kernel)) (fun _ _ _ _ _ => (pg_name (i := 1) scp_is_sheet_row.nd rfl (Or.inl rfl))) (fun _ _ _ _ _ => pts_nil) (fun _ _ _ _ _ => (pe_and (pe_callG G_p_is_plain_kind gd (hr.mono (by first | decide | omega)) rfl T.g_p_is_plain_kind T.F_p_is_plain_kind.kp T.b_p_is_plain_kind .nil pass0 (pa_cons (pv 1) pa_nil)) (pe_one (pe_cmpR op_le (pe_callG G_p_kind_deep gd (hr.mono (by first | decide | omega)) rfl T.g_p_kind_deep T.F_p_kind_deep.kp T.b_p_kind_deep .nil pass0 (pa_cons (pv 1) pa_nil)) (pe_glob rfl T.g_MOST_SHEET_DEEP T.r_MOST_SHEET_DEEP) (nomark _)))))) pa_nil))))), ?_⟩
  have to : ∀ {b : Bool} {H' : Hp}, rowD d = b → Ex H H' → Q (.bl b) H' := fun z e => by
    have := q _ e
    rw [z] at this
    exact this
  refine ⟨_, rfl, _, _, _, _, _, rfl, .ty _, dp_ty hv, isi_tup d, _, rfl, ?_⟩
  by_cases ht : isTup d = true
  rotate_left
  · rw [Bool.not_eq_true] at ht
    rw [ht]
    exact to (by cases d <;> first | rfl | cases ht) (Ex.refl _)
  obtain ⟨ds, rfl⟩ := tup_of ht
  rw [ht]
  obtain ⟨a, xs, rfl, sx, hx⟩ := inv_tup hv
  have lx := DpAll.len hx
  have wl := wd_tup hw
  refine ⟨_, rfl, a, _, rfl, .inr sx, rfl, _, rfl, ?_⟩
  have lk : decide (V.int ((xs.length : Nat) : Int) = V.int 3) = decide (ds.length = 3) := by rw [← lx]; exact len_dec xs.length 3
  rw [lk]
  by_cases h3 : ds.length = 3
  rotate_left
  · rw [decide_eq_false h3]
    exact to (row_not3 h3) (Ex.refl _)
  rw [decide_eq_true h3]
  obtain ⟨dw, dx, dy, rfl⟩ := three_of h3
  obtain ⟨x0, r0, rfl, hx0, hr0⟩ := inv_cons hx
  obtain ⟨x1, r1, rfl, hx1, hr1⟩ := inv_cons hr0
  obtain ⟨x2, r2, rfl, hx2, hr2⟩ := inv_cons hr1
  cases hr2
  have w3 := wl.2
  simp only [wdAll, Bool.and_eq_true] at w3
  simp only [PyData.depth, PyData.depthAll] at hd hd6
  have kk : rowD (.tuple [dw, dx, dy]) = (nameD dw && (plainN 4 dx && plainN 4 dy)) := rfl
  refine ⟨_, rfl, a, _, _, _, rfl, rfl, sx, atI_nat (j := 0) rfl, x0, dw, rfl, hx0, w3.1, by omega, fun H1 e1 => ⟨_, rfl, ?_⟩⟩
  show if (!nameD dw) = true then _ else _
  cases hn : nameD dw with
  | false => exact to (by rw [kk, hn, Bool.false_and]) e1
  | true =>
    refine ⟨_, rfl, 1, rfl, ?_⟩
    dsimp only [tNoPart]
    refine slice1 (ex_t e1 sx) (by show 3 ≤ 1000; decide) fun p H2 e2 sp => ?_
    have e12 := e1.trans e2
    have sp : SqT K H2 p [x1, x2] := sp
    refine ⟨p, rfl, ⟨_, sp⟩, fun D hD => ?_⟩
    refine lc_bools (walk_tup (xs := [x1, x2])) (fun i => (([dx, dy][i]?).map (plainN 4)).getD true) (by show 2 ≤ 10000; decide) (Ex.refl H2) hD (fun H' e' => ex_t e' sp) ?_ ?_
    · rintro i x H4 H5 hi e4 ⟨rfl, hx4⟩ Kc hk
      have pr : DpAll K H [x1, x2] [dx, dy] := .cons hx1 (.cons hx2 .nil)
      obtain ⟨d4, h4, r4⟩ := dp_pick pr hx4
      have dp4 : d4.depth ≤ PyData.depthAll [dx, dy] := depth_in h4
      have w4 : wd d4 = true := wd_at (ds := [dx, dy]) (by simp only [wdAll, w3.2.1, w3.2.2.1, Bool.and_self]) h4
      simp only [PyData.depthAll] at dp4
      have pd := plain_deep (n + 1) 4 d4 (by omega)
      have kc : ∀ {b : Bool} {H6 : Hp}, plainN 4 d4 = b → Ex H5 H6 → Kc (.bl b) H6 := fun z e => by
        have := hk _ e
        rw [h4] at this
        have this : Kc (.bl (plainN 4 d4)) _ := this
        rw [z] at this
        exact this
      refine ⟨rfl, _, rfl, x, d4, rfl, Dp.ex (e12.trans e4) _ _ r4, w4, by omega, by omega, fun H6 e6 => ⟨_, rfl, ?_⟩⟩
      cases hp : plainN (n + 1) d4 with
      | false => exact kc (by rw [← pd, hp, Bool.false_and]) e6
      | true =>
        refine ⟨_, rfl, x, d4, rfl, Dp.ex ((e12.trans e4).trans e6) _ _ r4, w4, by omega, by omega, plain_kf _ _ hp, fun H7 e7 => ⟨_, _, rfl, rfl, kc ?_ (e6.trans e7)⟩⟩
        rw [← pd, hp, Bool.true_and]
        show decide (deepN (n + 1) d4 ≤ 4) = decide (((deepN (n + 1) d4 : Nat) : Int) ≤ ((4 : Nat) : Int))
        congr 1
        rw [eq_iff_iff]
        omega
    · intro H4 e4 hD4
      refine ⟨D, _, rfl, SqL.of hD4, ?_⟩
      rw [all_get2 (plainN 4) [dx, dy] [x1, x2].length rfl]
      refine to ?_ (e12.trans e4)
      rw [kk, hn, Bool.true_and]
      simp
end
end K10

/-! K10: sheets -/
namespace K10
open PySem L2 Grd RZ
open Evl (Ex ex_t ex_l ex_rd)
theorem row_inv {K : PySem.W.Frag} {H : Hp} {v : V} {d : PyData} (h : Dp K H v d) (k : rowD d = true) : ∃ a x y, v = .ref a ∧ SqT K H a [.str (nmD d), x, y] := by
  cases d with
  | tuple ds =>
    by_cases h3 : ds.length = 3
    · obtain ⟨dw, dx, dy, rfl⟩ := three_of h3
      obtain ⟨a, xs, rfl, sx, hx⟩ := inv_tup h
      obtain ⟨x0, r0, rfl, hx0, hr0⟩ := inv_cons hx
      obtain ⟨x1, r1, rfl, hx1, hr1⟩ := inv_cons hr0
      obtain ⟨x2, r2, rfl, hx2, hr2⟩ := inv_cons hr1
      cases hr2
      have k : (nameD dw && (plainN 4 dx && plainN 4 dy)) = true := k
      rw [Bool.and_eq_true] at k
      cases dw with
      | str s =>
        cases hx0
        exact ⟨a, x1, x2, rfl, sx⟩
      | _ => cases k.1
    · rw [row_not3 h3] at k; cases k
  | _ => cases k
section
variable {P : Program} {w : World} {K : PySem.W.Frag} {mg : Str → Option Value} {base : Heap}
theorem ok_p_is_sheet (T : Txt K mg) (n : Nat) : Fn P w K mg base CX0 (4 + n) T.a_p_is_sheet T.d_p_is_sheet ["thing"] (spE K n sheetD) := by
  have G_p_is_sheet_row := ok_p_is_sheet_row (P := P) (w := w) (base := base) T n
  rw [show 4 + n = (3 + n) + 1 by omega]
  refine Grd.mk T.F_p_is_sheet scp_is_sheet (fun vs H Q E h => ?_) (fun cdv A outer st H vs Q E gd hr h => ?_)
  · obtain ⟨v, d, rfl, _⟩ := h
    rfl
  obtain ⟨v, d, rfl, hv, hw, hd, hd6, q⟩ := h
  refine ⟨_, (pss_cons (ps_if (PW.pt (pw_or (pt_not (pt_val (pe_callB call_isi (by rfl) T.n_isinstance (by decide +kernel) (pa_cons (pv 0) (pa_cons (pe_bltn (v := .ty "tuple") (by rfl) T.n_tuple (by decide +kernel) rfl) pa_nil))))) (pw_or (pt_cmpR op_gt (pe_callB call_len_seq (by rfl) T.n_len PySem.boot_len (pa_cons (pv 0) pa_nil)) (pe_glob rfl T.g_MOST_DEEDS T.r_MOST_DEEDS) (nomark _)) (pw_or1 (pt_not (pt_val (pe_callB (cr_all rfl) (by rfl) T.n_all (by decide +kernel) (pa_cons (pe_lc (own := [("row", 1)]) (by rfl) scp_is_sheet.nd (pi_tup (pv 0)) (blkOk_by (own := [("row", 1)]) (N := ["thing", "row", "one", "other"]) (sc := defScope s_p_is_sheet) (by decide +kernel)) (fun _ _ _ _ _ => (pg_name (i := 1) scp_is_sheet.nd rfl (Or.inl rfl))) (fun _ _ _ _ _ => pts_nil) (fun _ _ _ _ _ => (pe_callG G_p_is_sheet_row gd (hr.mono (by first | decide | omega)) rfl T.g_p_is_sheet_row T.F_p_is_sheet_row.kp T.b_p_is_sheet_row .nil pass0 (pa_cons (pv 1) pa_nil)))) pa_nil)))))))) (pss_one (ps_ret pe_bl)) pss_nil)
      (pss_one (ps_ret (pe_callB (cr_all rfl) (by rfl) T.n_all (by decide +kernel) (pa_cons (pe_lc (own := [("one", 2), ("other", 3)]) (g := (gTup K 2 (gCons (gName 2) (gCons (gName 3) gNil)))) (te := tOp (fun x y H Q => ∃ i j, x = V.str i ∧ y = V.str j ∧ Q (V.bl (decide (i.cps.toList < j.cps.toList))) H) (tOp (rIxT K) (tVar 2) (tC (.int 0))) (tOp (rIxT K) (tVar 3) (tC (.int 0)))) (by rfl) scp_is_sheet.nd (RZ.pi_zipA (by rfl) T.n_zip (pa_cons (pv 0) (pa_cons (pe_slice sl_tupA (pv 0) (po_some pe_int) po_none) pa_nil))) (blkOk_by (own := [("one", 2), ("other", 3)]) (N := ["thing", "row", "one", "other"]) (sc := defScope s_p_is_sheet) (by decide +kernel)) (fun _ _ _ _ _ => (pg_tup rfl (pgs_cons (pg_name (i := 2) scp_is_sheet.nd rfl (Or.inl rfl)) (pgs_cons (pg_name (i := 3) scp_is_sheet.nd rfl (Or.inl rfl)) pgs_nil)))) (fun _ _ _ _ _ => pts_nil) (fun _ _ _ _ _ => (pe_cmpR op_lt_str (pe_ix ix_tup (pv 2) pe_int (fun _ _ => rfl)) (pe_ix ix_tup (pv 3) pe_int (fun _ _ => rfl)) (nomark _)))) pa_nil))))), ?_⟩
  have to : ∀ {b : Bool} {H' : Hp}, sheetD d = b → Ex H H' → Q (.bl b) H' := fun z e => by
    have := q _ e
    rw [z] at this
    exact this
  refine ⟨_, rfl, _, _, _, _, _, rfl, .ty _, dp_ty hv, isi_tup d, _, rfl, ?_⟩
  by_cases ht : isTup d = true
  rotate_left
  · rw [Bool.not_eq_true] at ht
    rw [ht]
    exact to (by cases d <;> first | rfl | cases ht) (Ex.refl _)
  obtain ⟨ds, rfl⟩ := tup_of ht
  rw [ht]
  obtain ⟨a, xs, rfl, sx, hx⟩ := inv_tup hv
  have lx := DpAll.len hx
  have wl := wd_tup hw
  simp only [PyData.depth] at hd hd6
  refine ⟨_, rfl, a, _, rfl, .inr sx, _, _, rfl, rfl, _, rfl, ?_⟩
  by_cases h6 : ds.length ≤ 6
  rotate_left
  · rw [decide_eq_true (show ((xs.length : Nat) : Int) > 6 by omega)]
    exact to (by rw [sheetD, decide_eq_false h6, Bool.false_and]) (Ex.refl _)
  rw [decide_eq_false (show ¬ ((xs.length : Nat) : Int) > 6 by omega)]
  refine ⟨_, rfl, a, rfl, ⟨_, sx⟩, fun D hD => ?_⟩
  refine lc_bools (walk_tup (xs := xs)) (fun i => ((ds[i]?).map rowD).getD true) (by omega) (Ex.refl H) hD (fun H' e' => ex_t e' sx) ?_ ?_
  · rintro i x H4 H5 hi e4 ⟨rfl, hx2⟩ Kc hk
    obtain ⟨d1, h1, r1⟩ := dp_pick hx hx2
    have dp1 := depth_in h1
    refine ⟨rfl, _, rfl, x, d1, rfl, Dp.ex e4 _ _ r1, wd_at wl.2 h1, by omega, by omega, fun H6 e6 => ?_⟩
    have := hk H6 e6
    rw [h1] at this
    exact this
  · intro H1 e1 hD1
    refine ⟨D, _, rfl, SqL.of hD1, ?_⟩
    rw [lx, all_get]
    refine ⟨_, rfl, ?_⟩
    cases ha : ds.all rowD with
    | false => exact to (by rw [sheetD, ha, Bool.false_and, Bool.and_false]) e1
    | true =>
      refine ⟨_, rfl, _, rfl, 1, rfl, ?_⟩
      dsimp only [tNoPart]
      refine slice1 (ex_t e1 sx) (by omega) fun p H2 e2 sp => ?_
      have e12 := e1.trans e2
      refine ⟨a, p, _, _, rfl, .inr ⟨ex_t e12 sx, sp, fun D2 hD2 => ?_⟩⟩
      refine lc_bools (walk_zipT (n := ds.length - 1) (by rw [List.length_drop]; omega)) (fun i => ltS (nmD (ds.getD i .none)) (nmD (ds.getD (i + 1) .none))) (by omega) (Ex.refl H2) hD2 (fun H' e' => ⟨ex_t (e12.trans e') sx, ex_t e' sp⟩) ?_ ?_
      · rintro i x H4 H5 hi e4 ⟨t, y, z, rfl, ht, rfl, hy, hz⟩ Kc hk
        have hy : xs[i]? = some y := hy
        have hz : (xs.drop 1)[i]? = some z := hz
        rw [List.getElem?_drop, Nat.add_comm] at hz
        obtain ⟨da, hda, ra⟩ := dp_pick hx hy
        obtain ⟨db, hdb, rb⟩ := dp_pick hx hz
        have en := Ex.new (o := .tup [y, z]) ht
        obtain ⟨pa, ya, za, rfl, sa⟩ := row_inv (Dp.ex ((e12.trans e4).trans en) _ _ ra) (List.all_eq_true.mp ha da (List.mem_of_getElem? hda))
        obtain ⟨pb, yb, zb, rfl, sb⟩ := row_inv (Dp.ex ((e12.trans e4).trans en) _ _ rb) (List.all_eq_true.mp ha db (List.mem_of_getElem? hdb))
        refine ⟨t, _, rfl, SqT.of upd_same, rfl, _, _, rfl, _, _, rfl, rfl, rfl, ?_⟩
        refine ⟨_, rfl, pa, _, _, _, rfl, rfl, sa, atI_nat (j := 0) rfl, _, rfl, pb, _, _, _, rfl, rfl, sb, atI_nat (j := 0) rfl, _, _, rfl, rfl, ?_⟩
        have := hk _ en
        rw [List.getD_eq_getElem?_getD, List.getD_eq_getElem?_getD, hda, hdb] at this
        exact this
      · intro H3 e3 hD3
        refine ⟨D2, _, rfl, SqL.of hD3, ?_⟩
        exact to (by rw [sheetD, decide_eq_true h6, ha, Bool.true_and, Bool.true_and]; rfl) (e12.trans e3)
theorem ok_is_sheet (T : Txt K mg) : Fn P w K mg base CX0 5 T.a_is_sheet T.d_is_sheet ["_law_odd_here"] (spE K 60 sheetD) := by
  have G_is_name := ok_is_name (P := P) (w := w) (base := base) T
  have G_is_plain := ok_is_plain (P := P) (w := w) (base := base) T 4
  refine Grd.mk T.F_is_sheet scis_sheet (fun vs H Q E h => ?_) (fun cdv A outer st H vs Q E gd hr h => ?_)
  · obtain ⟨v, d, rfl, _⟩ := h
    rfl
  obtain ⟨v, d, rfl, hv, hw, hd, hd6, q⟩ := h
  refine ⟨_, (pss_cons (ps_if (PW.pt (pw_or (pt_not (pt_val (pe_callB call_isi (by rfl) T.n_isinstance (by decide +kernel) (pa_cons (pv 0) (pa_cons (pe_bltn (v := .ty "tuple") (by rfl) T.n_tuple (by decide +kernel) rfl) pa_nil))))) (pw_or1 (pt_cmpR op_gt (pe_callB call_len_seq (by rfl) T.n_len PySem.boot_len (pa_cons (pv 0) pa_nil)) pe_int (nomark _))))) (pss_one (ps_ret pe_bl)) pss_nil)
      (pss_cons (ps_for PassesOwn.never rfl (pi_tup (pv 0)) (pg_name (i := 1) scis_sheet.nd rfl (Or.inl rfl)) (pss_cons (ps_if (PW.pt (pw_or (pt_not (pt_val (pe_callB call_isi (by rfl) T.n_isinstance (by decide +kernel) (pa_cons (pv 1) (pa_cons (pe_bltn (v := .ty "tuple") (by rfl) T.n_tuple (by decide +kernel) rfl) pa_nil))))) (pw_or (pt_cmpR op_ne (pe_callB call_len_seq (by rfl) T.n_len PySem.boot_len (pa_cons (pv 1) pa_nil)) pe_int (nomark _)) (pw_or1 (pt_not (pt_val (pe_callG G_is_name gd (hr.mono (by first | decide | omega)) rfl T.g_is_name T.F_is_name.kp T.b_is_name .nil pass0 (pa_cons (pe_ix ix_tup (pv 1) pe_int (fun _ _ => rfl)) pa_nil)))))))) (pss_one (ps_ret pe_bl)) pss_nil)
      (pss_one (ps_if (PW.pt (pw_or (pt_not (pt_val (pe_callG G_is_plain gd (hr.mono (by first | decide | omega)) rfl T.g_is_plain T.F_is_plain.kp T.b_is_plain .nil pass0 (pa_cons (pe_ix ix_tup (pv 1) pe_int (fun _ _ => rfl)) (pa_cons pe_int pa_nil))))) (pw_or1 (pt_not (pt_val (pe_callG G_is_plain gd (hr.mono (by first | decide | omega)) rfl T.g_is_plain T.F_is_plain.kp T.b_is_plain .nil pass0 (pa_cons (pe_ix ix_tup (pv 1) pe_int (fun _ _ => rfl)) (pa_cons pe_int pa_nil)))))))) (pss_one (ps_ret pe_bl)) pss_nil))))
      (pss_one (ps_ret (pe_callB (cr_all rfl) (by rfl) T.n_all (by decide +kernel) (pa_cons (pe_lc (own := [("_law_one", 2), ("_law_other", 3)]) (g := (gTup K 2 (gCons (gName 2) (gCons (gName 3) gNil)))) (te := tOp (fun x y H Q => ∃ i j, x = V.str i ∧ y = V.str j ∧ Q (V.bl (decide (i.cps.toList < j.cps.toList))) H) (tOp (rIxT K) (tVar 2) (tC (.int 0))) (tOp (rIxT K) (tVar 3) (tC (.int 0)))) (by rfl) scis_sheet.nd (RZ.pi_zipA (by rfl) T.n_zip (pa_cons (pv 0) (pa_cons (pe_slice sl_tupA (pv 0) (po_some pe_int) po_none) pa_nil))) (blkOk_by (own := [("_law_one", 2), ("_law_other", 3)]) (N := ["_law_odd_here", "_law_row", "_law_one", "_law_other"]) (sc := defScope s_is_sheet) (by decide +kernel)) (fun _ _ _ _ _ => (pg_tup rfl (pgs_cons (pg_name (i := 2) scis_sheet.nd rfl (Or.inl rfl)) (pgs_cons (pg_name (i := 3) scis_sheet.nd rfl (Or.inl rfl)) pgs_nil)))) (fun _ _ _ _ _ => pts_nil) (fun _ _ _ _ _ => (pe_cmpR op_lt_str (pe_ix ix_tup (pv 2) pe_int (fun _ _ => rfl)) (pe_ix ix_tup (pv 3) pe_int (fun _ _ => rfl)) (nomark _)))) pa_nil)))))), ?_⟩
  have to : ∀ {b : Bool} {H' : Hp}, sheetD d = b → Ex H H' → Q (.bl b) H' := fun z e => by
    have := q _ e
    rw [z] at this
    exact this
  refine ⟨_, rfl, _, _, _, _, _, rfl, .ty _, dp_ty hv, isi_tup d, _, rfl, ?_⟩
  by_cases ht : isTup d = true
  rotate_left
  · rw [Bool.not_eq_true] at ht
    rw [ht]
    exact to (by cases d <;> first | rfl | cases ht) (Ex.refl _)
  obtain ⟨ds, rfl⟩ := tup_of ht
  rw [ht]
  obtain ⟨a, xs, rfl, sx, hx⟩ := inv_tup hv
  have lx := DpAll.len hx
  have wl := wd_tup hw
  simp only [PyData.depth] at hd hd6
  refine ⟨_, rfl, a, _, rfl, .inr sx, _, _, rfl, rfl, _, rfl, ?_⟩
  by_cases h6 : ds.length ≤ 6
  rotate_left
  · rw [decide_eq_true (show ((xs.length : Nat) : Int) > 6 by omega)]
    exact to (by rw [sheetD, decide_eq_false h6, Bool.false_and]) (Ex.refl _)
  rw [decide_eq_false (show ¬ ((xs.length : Nat) : Int) > 6 by omega)]
  refine ⟨_, rfl, a, rfl, ⟨_, sx⟩, ?_⟩
  refine for_it (walk_tup (xs := xs)) (fun i σ H' => (∃ u1 u2 u3 : Option V, σ = [some (.ref a), u1, u2, u3]) ∧ Ex H H' ∧ ∀ j d1, j < i → ds[j]? = some d1 → rowD d1 = true) ⟨⟨none, none, none, rfl⟩, Ex.refl _, fun j d1 hj _ => absurd hj (Nat.not_lt_zero _)⟩ (fun i σ H' _ h => ex_t h.2.1 sx) ?_ ?_
  · rintro i x σ H4 H5 hi ⟨⟨u1, u2, u3, rfl⟩, e4, al⟩ ⟨rfl, hx2⟩
    obtain ⟨d1, h1, r1⟩ := dp_pick hx hx2
    have dp1 := depth_in h1
    have w1 := wd_at wl.2 h1
    have r1 := Dp.ex e4 _ _ r1
    have bad : rowD d1 = false → ∀ {H' : Hp}, Ex H H' → Q (.bl false) H' := fun z H' e => to (by
      have : ds.all rowD = false := List.all_eq_false.mpr ⟨d1, List.mem_of_getElem? h1, by rw [z]; decide⟩
      rw [sheetD, this, Bool.false_and, Bool.and_false]) e
    refine ⟨_, rfl, _, _, _, _, _, rfl, .ty _, dp_ty r1, isi_tup d1, _, rfl, ?_⟩
    by_cases ht1 : isTup d1 = true
    rotate_left
    · rw [Bool.not_eq_true] at ht1
      rw [ht1]
      exact bad (by cases d1 <;> first | rfl | cases ht1) e4
    obtain ⟨es, rfl⟩ := tup_of ht1
    rw [ht1]
    obtain ⟨b, ys, rfl, sy, hy⟩ := inv_tup r1
    have ly := DpAll.len hy
    have wly := wd_tup w1
    refine ⟨_, rfl, b, _, rfl, .inr sy, rfl, _, rfl, ?_⟩
    have lk : decide (V.int ((ys.length : Nat) : Int) = V.int 3) = decide (es.length = 3) := by rw [← ly]; exact len_dec ys.length 3
    rw [lk]
    by_cases h3 : es.length = 3
    rotate_left
    · rw [decide_eq_false h3]
      exact bad (row_not3 h3) e4
    rw [decide_eq_true h3]
    obtain ⟨dw, dx, dy, rfl⟩ := three_of h3
    obtain ⟨x0, r0, rfl, hx0, hr0⟩ := inv_cons hy
    obtain ⟨x1, r1, rfl, hx1, hr1⟩ := inv_cons hr0
    obtain ⟨x2, r2, rfl, hx2', hr2⟩ := inv_cons hr1
    cases hr2
    have w3 := wly.2
    simp only [wdAll, Bool.and_eq_true] at w3
    simp only [PyData.depth, PyData.depthAll] at dp1
    have kk : rowD (.tuple [dw, dx, dy]) = (nameD dw && (plainN 4 dx && plainN 4 dy)) := rfl
    refine ⟨_, rfl, b, _, _, _, rfl, rfl, sy, atI_nat (j := 0) rfl, x0, dw, rfl, hx0, w3.1, by omega, fun H1 e1 => ⟨_, rfl, ?_⟩⟩
    show if (!nameD dw) = true then _ else _
    cases hn : nameD dw with
    | false => exact bad (by rw [kk, hn, Bool.false_and]) (e4.trans e1)
    | true =>
      refine ⟨_, rfl, b, _, _, _, rfl, rfl, ex_t e1 sy, atI_nat (j := 1) rfl, x1, dx, 4, rfl, by decide, by decide, Dp.ex e1 _ _ hx1, w3.2.1, by omega, fun H2 e2 => ⟨_, rfl, ?_⟩⟩
      have e12 := e1.trans e2
      show if (!plainN 4 dx) = true then _ else _
      cases k1 : plainN 4 dx with
      | false => exact bad (by rw [kk, k1, Bool.false_and, Bool.and_false]) (e4.trans e12)
      | true =>
        refine ⟨_, rfl, b, _, _, _, rfl, rfl, ex_t e12 sy, atI_nat (j := 2) rfl, x2, dy, 4, rfl, by decide, by decide, Dp.ex e12 _ _ hx2', w3.2.2.1, by omega, fun H3 e3 => ⟨_, rfl, ?_⟩⟩
        show if (!plainN 4 dy) = true then _ else _
        cases k2 : plainN 4 dy with
        | false => exact bad (by rw [kk, k2, Bool.and_false, Bool.and_false]) (e4.trans (e12.trans e3))
        | true =>
          refine ⟨⟨_, u2, u3, rfl⟩, e4.trans (e12.trans e3), fun j d2 hj hd2 => ?_⟩
          rcases Nat.lt_or_ge j i with hl | hl
          · exact al j d2 hl hd2
          · have : j = i := by omega
            subst this
            rw [h1] at hd2
            cases hd2
            rw [kk, hn, k1, k2]
            rfl
  · rintro σ H1 ⟨⟨u1, u2, u3, rfl⟩, e1, al⟩
    have ha : ds.all rowD = true := List.all_eq_true.mpr fun d1 hd1 => by
      obtain ⟨i, hi, e⟩ := List.getElem_of_mem hd1
      exact al i d1 (by omega) (by rw [List.getElem?_eq_getElem hi, e])
    refine ⟨_, rfl, _, rfl, 1, rfl, ?_⟩
    dsimp only [tNoPart]
    refine slice1 (ex_t e1 sx) (by omega) fun p H2 e2 sp => ?_
    have e12 := e1.trans e2
    refine ⟨a, p, _, _, rfl, .inr ⟨ex_t e12 sx, sp, fun D2 hD2 => ?_⟩⟩
    refine lc_bools (walk_zipT (n := ds.length - 1) (by rw [List.length_drop]; omega)) (fun i => ltS (nmD (ds.getD i .none)) (nmD (ds.getD (i + 1) .none))) (by omega) (Ex.refl H2) hD2 (fun H' e' => ⟨ex_t (e12.trans e') sx, ex_t e' sp⟩) ?_ ?_
    · rintro i x H4 H5 hi e4 ⟨t, y, z, rfl, ht, rfl, hy, hz⟩ Kc hk
      have hy : xs[i]? = some y := hy
      have hz : (xs.drop 1)[i]? = some z := hz
      rw [List.getElem?_drop, Nat.add_comm] at hz
      obtain ⟨da, hda, ra⟩ := dp_pick hx hy
      obtain ⟨db, hdb, rb⟩ := dp_pick hx hz
      have en := Ex.new (o := .tup [y, z]) ht
      obtain ⟨pa, ya, za, rfl, sa⟩ := row_inv (Dp.ex ((e12.trans e4).trans en) _ _ ra) (List.all_eq_true.mp ha da (List.mem_of_getElem? hda))
      obtain ⟨pb, yb, zb, rfl, sb⟩ := row_inv (Dp.ex ((e12.trans e4).trans en) _ _ rb) (List.all_eq_true.mp ha db (List.mem_of_getElem? hdb))
      refine ⟨t, _, rfl, SqT.of upd_same, rfl, _, _, rfl, _, _, rfl, rfl, rfl, ?_⟩
      refine ⟨_, rfl, pa, _, _, _, rfl, rfl, sa, atI_nat (j := 0) rfl, _, rfl, pb, _, _, _, rfl, rfl, sb, atI_nat (j := 0) rfl, _, _, rfl, rfl, ?_⟩
      have := hk _ en
      rw [List.getD_eq_getElem?_getD, List.getD_eq_getElem?_getD, hda, hdb] at this
      exact this
    · intro H3 e3 hD3
      refine ⟨D2, _, rfl, SqL.of hD3, ?_⟩
      exact to (by rw [sheetD, decide_eq_true h6, ha, Bool.true_and, Bool.true_and]; rfl) (e12.trans e3)
end
end K10

/-! K10: what is drawn: how long, where it stands -/
namespace K10
open PySem L2 Grd RZ
open Evl (Ex ex_t ex_l ex_rd)
/-- shown in few signs -/
structure Fine (d : PyData) (w n : Nat) : Prop where
  sh : d.showable = true
  le : d.leavesShort 13 = true
  we : d.weight ≤ w
  de : d.depth ≤ n
theorem Fine.mono {d : PyData} {w n v m : Nat} (h : Fine d w n) (a : w ≤ v) (b : n ≤ m) : Fine d v m := ⟨h.sh, h.le, Nat.le_trans h.we a, Nat.le_trans h.de b⟩
theorem fine_int {i : Int} (h : 0 ≤ i ∧ i ≤ 1000) : Fine (.int i) 12 0 := by
  have al : ∀ n : Fin 1001, n.val.log2 < 11 := by decide +kernel
  have g := al ⟨i.natAbs, by omega⟩
  have g' : i.natAbs.log2 < 11 := g
  refine ⟨?_, ?_, ?_, ?_⟩
  · simp only [PyData.showable, decide_eq_true_eq]; omega
  · simp only [PyData.leavesShort, decide_eq_true_eq]
    exact PyData.shown_int_le (by have : (10 : Nat) ^ 12 = 1000000000000 := by decide
                                  omega)
  · simp only [PyData.weight]
    split
    · omega
    · omega
  · simp only [PyData.depth]; omega
theorem fine_str {s : Str} {n : Nat} (h : Sg n s) : Fine (.str s) n 0 := by
  refine ⟨by simp only [PyData.showable], ?_, ?_, by simp only [PyData.depth]; omega⟩
  · simp only [PyData.leavesShort, List.all_eq_true, decide_eq_true_eq]
    intro c hc
    have h1 := h.2 c hc
    have e : (16 : Nat) ^ 8 = 4294967296 := by decide
    omega
  · simp only [PyData.weight]
    exact h.1
structure FineA (ds : List PyData) (w n : Nat) : Prop where
  sh : PyData.showableAll ds = true
  le : PyData.leavesShortAll 13 ds = true
  we : PyData.weightAll ds ≤ w
  de : PyData.depthAll ds ≤ n
theorem fine_nil {n : Nat} : FineA [] 0 n := ⟨by simp only [PyData.showableAll], by simp only [PyData.leavesShortAll], by simp only [PyData.weightAll]; omega, by simp only [PyData.depthAll]; omega⟩
theorem fine_cons {d : PyData} {ds : List PyData} {w v n : Nat} (h : Fine d w n) (k : FineA ds v n) : FineA (d :: ds) (w + 1 + v) n := by
  have a := h.we
  have b := k.we
  have a' := h.de
  have b' := k.de
  refine ⟨by simp only [PyData.showableAll, h.sh, k.sh, Bool.and_self], by simp only [PyData.leavesShortAll, h.le, k.le, Bool.and_self], by simp only [PyData.weightAll]; omega, by simp only [PyData.depthAll]; omega⟩
theorem fine_tup {ds : List PyData} {w n : Nat} (k : FineA ds w n) : Fine (.tuple ds) w (n + 1) :=
  ⟨by simp only [PyData.showable]; exact k.sh, by simp only [PyData.leavesShort]; exact k.le, by simp only [PyData.weight]; exact k.we, by simp only [PyData.depth]; have := k.de; omega⟩
theorem fine_lst {ds : List PyData} {w n : Nat} (k : FineA ds w n) : Fine (.list ds) w (n + 1) :=
  ⟨by simp only [PyData.showable]; exact k.sh, by simp only [PyData.leavesShort]; exact k.le, by simp only [PyData.weight]; exact k.we, by simp only [PyData.depth]; have := k.de; omega⟩
theorem fine_strs {n : Nat} : ∀ {ss : List Str}, (∀ s ∈ ss, Sg n s) → FineA (ss.map PyData.str) (ss.length * (n + 1)) 0
  | [], _ => by
    have := @fine_nil 0
    exact ⟨this.sh, this.le, by simp only [List.map_nil, PyData.weightAll]; omega, this.de⟩
  | s :: r, h => by
    have q := fine_cons (fine_str (h s (List.mem_cons_self ..))) (fine_strs fun x hx => h x (List.mem_cons_of_mem _ hx))
    refine ⟨q.sh, q.le, Nat.le_trans q.we ?_, q.de⟩
    rw [List.length_cons, Nat.succ_mul]
    omega
theorem FineA.mono {d : List PyData} {w n v m : Nat} (h : FineA d w n) (a : w ≤ v) (b : n ≤ m) : FineA d v m := ⟨h.sh, h.le, Nat.le_trans h.we a, Nat.le_trans h.de b⟩
/-! ### kinds and rosters -/
theorem fine_opt {r : Ro} (h : RoOk r) : Fine (optD r.2) 12 0 := by
  cases e : r.2 with
  | none => exact ⟨by simp only [optD, PyData.showable], by simp only [optD, PyData.leavesShort], by simp only [optD, PyData.weight]; omega, by simp only [optD, PyData.depth]; omega⟩
  | some n => exact fine_int (h.n n e)
theorem fine_ro {r : Ro} (h : RoOk r) : Fine (roD r) 126 2 := by
  have l := h.l
  have s : Fine (.tuple (r.1.map PyData.str)) 112 1 := fine_tup ((fine_strs h.t).mono (by omega) (by omega))
  exact (fine_tup (fine_cons s (fine_cons ((fine_opt h).mono (Nat.le_refl _) (by omega)) fine_nil))).mono (by omega) (by omega)
theorem sgw (s : Str) (n : Nat) (h : (decide (s.length ≤ n) && s.cps.toList.all fun c => decide (c < 0x110000)) = true) : Sg n s := by
  simp only [Bool.and_eq_true, decide_eq_true_eq, List.all_eq_true] at h
  exact h
theorem fine_kd : ∀ {k : Kd}, KdOk k → ∃ w, w + 200 ≤ 200 * 2 ^ dep k ∧ Fine (kdD k) w (2 + dep k)
  | .num, _ => ⟨6, by simp only [dep]; decide, (fine_str (sgw "number" 6 (by decide +kernel))).mono (Nat.le_refl _) (by omega)⟩
  | .any n, h => ⟨17, by simp only [dep]; decide, (fine_tup (fine_cons (fine_str (sgw "any" 3 (by decide +kernel))) (fine_cons (fine_int h) fine_nil))).mono (by omega) (by omega)⟩
  | .pair a b, h => by
    obtain ⟨wa, la, fa⟩ := fine_kd h.1
    obtain ⟨wb, lb, fb⟩ := fine_kd h.2
    have g1 : 2 ^ dep a ≤ 2 ^ max (dep a) (dep b) := Nat.pow_le_pow_right (by decide) (Nat.le_max_left _ _)
    have g2 : 2 ^ dep b ≤ 2 ^ max (dep a) (dep b) := Nat.pow_le_pow_right (by decide) (Nat.le_max_right _ _)
    refine ⟨7 + wa + wb, ?_, ?_⟩
    · simp only [dep, Nat.pow_add]; omega
    · have w := fine_str (sgw "pair" 4 (by decide +kernel))
      have q := fine_tup (fine_cons (w.mono (Nat.le_refl _) (Nat.zero_le (2 + max (dep a) (dep b)))) (fine_cons (fa.mono (Nat.le_refl _) (by omega)) (fine_cons (fb.mono (Nat.le_refl _) (by omega)) fine_nil)))
      exact q.mono (by omega) (by simp only [dep]; omega)
  | .fn a r b, h => by
    obtain ⟨wa, la, fa⟩ := fine_kd h.1
    obtain ⟨wb, lb, fb⟩ := fine_kd h.2.2
    have g1 : 2 ^ dep a ≤ 2 ^ max (dep a) (dep b) := Nat.pow_le_pow_right (by decide) (Nat.le_max_left _ _)
    have g2 : 2 ^ dep b ≤ 2 ^ max (dep a) (dep b) := Nat.pow_le_pow_right (by decide) (Nat.le_max_right _ _)
    refine ⟨133 + wa + wb, ?_, ?_⟩
    · simp only [dep, Nat.pow_add]; omega
    · have w := fine_str (sgw "fun" 3 (by decide +kernel))
      have q := fine_tup (fine_cons (w.mono (Nat.le_refl _) (Nat.zero_le (2 + max (dep a) (dep b)))) (fine_cons (fa.mono (Nat.le_refl _) (by omega)) (fine_cons ((fine_ro h.2.1).mono (Nat.le_refl _) (by omega)) (fine_cons (fb.mono (Nat.le_refl _) (by omega)) fine_nil))))
      exact q.mono (by omega) (by simp only [dep]; omega)
theorem fine_kdN {k : Kd} (h : KdOk k) {n : Nat} (d : dep k ≤ n) : Fine (kdD k) (200 * 2 ^ n) (2 + n) := by
  obtain ⟨w, l, f⟩ := fine_kd h
  have g : 2 ^ dep k ≤ 2 ^ n := Nat.pow_le_pow_right (by decide) d
  exact f.mono (by omega) (by omega)
/-! ### the heap without the box and some more -/
abbrev ASet := Addr → Bool
def off (H : Hp) (S : ASet) : Hp := fun a => if S a = true then none else H a
theorem off_ne {H : Hp} {a : Addr} {S : ASet} (h : S a = false) : off H S a = H a := if_neg (by rw [h]; decide)
theorem off_le (H : Hp) (S : ASet) : Ex (off H S) H := fun a o e => by
  cases h : S a with
  | true => rw [off, if_pos h] at e; cases e
  | false => rw [off_ne h] at e; exact e
theorem But.off {b : Addr} {H H' : Hp} {S : ASet} (h : But b H H') (hb : S b = true) : Ex (off H S) (off H' S) := fun a o e => by
  cases z : S a with
  | true => rw [K10.off, if_pos z] at e; cases e
  | false =>
    rw [off_ne z] at e ⊢
    exact h a o (fun y => by rw [y, hb] at z; cases z) e
theorem ts_off {K : PySem.W.Frag} {H : Hp} {S : ASet} (k : ∀ a, S a = true → ∃ xs, H a = some (.lst xs)) : Ts K H (off H S) := by
  have ne : ∀ {a : Addr} {o : HO}, H a = some o → (∀ xs, o ≠ .lst xs) → S a = false := fun {a o} e n => by
    cases z : S a with
    | false => rfl
    | true =>
      obtain ⟨xs, q⟩ := k a z
      rw [q] at e
      exact absurd (Option.some.inj e).symm (n xs)
  rintro a xs ((q | ⟨o, q⟩) | q)
  · exact .inl (.inl (by rw [off_ne (ne q (fun _ z => by cases z))]; exact q))
  · exact .inl (.inr ⟨o, by rw [off_ne (ne q (fun _ z => by cases z))]; exact q⟩)
  · exact .inr q
/-- drawn data: what it is, how long it shows -/
structure Gd (d : PyData) (wt n : Nat) : Prop where
  w : wd d = true
  f : Fine d wt n
theorem Gd.mono {d : PyData} {w n v m : Nat} (h : Gd d w n) (a : w ≤ v) (b : n ≤ m) : Gd d v m := ⟨h.w, h.f.mono a b⟩
theorem wd_of_sg {s : Str} {n : Nat} (h : Sg n s) (hn : n ≤ 1000) : wd (.str s) = true := by
  simp only [wd, Bool.and_eq_true, decide_eq_true_eq]
  refine ⟨Nat.le_trans h.1 hn, ?_⟩
  show s.cps.all (· < 0x110000) = true
  rw [Array.all_eq_true_iff_forall_mem]
  intro c hc
  exact decide_eq_true (h.2 c (Array.mem_toList_iff.mpr hc))
theorem gd_str {s : Str} {n : Nat} (h : Sg n s) (hn : n ≤ 1000) : Gd (.str s) n 0 := ⟨wd_of_sg h hn, fine_str h⟩
theorem gd_pair {x y : PyData} {w n : Nat} (hx : Gd x w n) (hy : Gd y w n) : Gd (.tuple [.str "pair", x, y]) (2 * w + 7) (n + 1) := by
  have sp : Gd (.str "pair") 4 0 := gd_str (sgw "pair" 4 (by decide +kernel)) (by decide)
  refine ⟨?_, ?_⟩
  · simp only [wd, wdAll, hx.w, hy.w, List.length_cons, List.length_nil]
    have := sp.w
    simp only [wd] at this
    rw [this]
    rfl
  · exact (fine_tup (fine_cons (sp.f.mono (Nat.le_refl _) (Nat.zero_le _)) (fine_cons hx.f (fine_cons hy.f fine_nil)))).mono (by omega) (Nat.le_refl _)
def sp_plain (K : PySem.W.Frag) (n : Nat) : Sp := fun vs H Q _ => ∃ (b : Addr) (c k : Nat), vs = [.ref b, .int ((k : Nat) : Int)] ∧ 1 ≤ k ∧ k ≤ n ∧ Bx H b c ∧ c + 2 ^ k < 900000 ∧
  ∀ (v : V) (d : PyData) H', tupOnly d = true → Gd d (16 * 2 ^ k - 8) k → Dp K H' v d → But b H H' → Bx H' b (c + (2 ^ k - 1)) → Q v H'
section
variable {P : Program} {w : World} {K : PySem.W.Frag} {mg : Str → Option Value} {base : Heap}
theorem ok_plainD_step (T : Txt K mg) (n j : Nat) (hj : 1 ≤ j) (G_plain : Fn P w K mg base CX0 j T.a_plain T.d_plain ["_law_box", "_law_deep"] (sp_plain K n)) :
    Fn P w K mg base CX0 (j + 1) T.a_plain T.d_plain ["_law_box", "_law_deep"] (sp_plain K (n + 1)) := by
  have G_take := ok_take (P := P) (w := w) (base := base) T
  refine Grd.mk T.F_plain scplain (fun vs H Q E h => ?_) (fun cdv A outer st H vs Q E gd hr h => ?_)
  · obtain ⟨b, c, k, rfl, _⟩ := h
    rfl
  obtain ⟨b, c, k, rfl, k1, kn, hB, hc, q⟩ := h
  refine ⟨_, (pss_cons (ps_if (PW.pt (pw_or (pt_cmpR op_eq (pv 1) pe_int (nomark _)) (pw_or1 (pt_cmpR op_eq (pe_callG G_take gd (hr.mono (by first | decide | omega)) rfl T.g_take T.F_take.kp T.b_take .nil pass0 (pa_cons (pv 0) (pa_cons pe_int pa_nil))) pe_int (nomark _))))) (pss_one (ps_ret pe_str)) pss_nil)
      (pss_one (ps_ret (pe_tup (pa_cons pe_str (pa_cons (pe_callG G_plain gd (hr.mono (by first | decide | omega)) rfl T.g_plain T.F_plain.kp T.b_plain .nil pass0 (pa_cons (pv 0) (pa_cons (pe_op op_sub (pv 1) pe_int) pa_nil))) (pa_cons (pe_callG G_plain gd (hr.mono (by first | decide | omega)) rfl T.g_plain T.F_plain.kp T.b_plain .nil pass0 (pa_cons (pv 0) (pa_cons (pe_op op_sub (pv 1) pe_int) pa_nil))) pa_nil))))))), ?_⟩
  have gn : Gd (.str "number") (16 * 2 ^ k - 8) k := (gd_str (sgw "number" 6 (by decide +kernel)) (by decide)).mono (by have : 1 ≤ 2 ^ k := Nat.one_le_two_pow; omega) (Nat.zero_le _)
  refine ⟨_, rfl, rfl, _, rfl, ?_⟩
  have kd : decide (V.int ((k : Nat) : Int) = V.int 1) = decide (k = 1) := len_dec k 1
  rw [kd]
  by_cases hk : k = 1
  · rw [decide_eq_true hk]
    exact q _ _ _ (by simp only [tupOnly]) gn (.str _) (But.refl _ _) (hB.mono (Nat.le_add_right _ _))
  rw [decide_eq_false hk]
  obtain ⟨m, rfl⟩ : ∃ m, k = m + 1 := ⟨k - 1, by omega⟩
  have p2 : 2 ^ (m + 1) = 2 * 2 ^ m := by rw [Nat.pow_succ]; omega
  have p1 : 1 ≤ 2 ^ m := Nat.one_le_two_pow
  have em : ((m + 1 : Nat) : Int) - 1 = ((m : Nat) : Int) := by omega
  refine ⟨_, rfl, b, 3, c, rfl, hB, by omega, by decide, by decide, fun r H1 r0 r1 bu1 bx1 => ⟨rfl, _, rfl, ite2 (fun _ => ?_) (fun _ => ?_)⟩⟩
  · exact q _ _ _ (by simp only [tupOnly]) gn (.str _) bu1 (bx1.mono (by omega))
  · refine ⟨_, rfl, _, rfl, _, _, rfl, rfl, b, c + 1, m, (by show [V.ref b, V.int (((m + 1 : Nat) : Int) - 1)] = _; rw [em]), by omega, by omega, bx1, by omega, fun v1 d1 H2 t1 g1 rp1 bu2 bx2 => ?_⟩
    refine ⟨_, rfl, _, rfl, _, _, rfl, rfl, b, c + 1 + (2 ^ m - 1), m, (by show [V.ref b, V.int (((m + 1 : Nat) : Int) - 1)] = _; rw [em]), by omega, by omega, bx2, by omega, fun v2 d2 H3 t2 g2 rp2 bu3 bx3 => ?_⟩
    refine ⟨(by show 3 ≤ sizeLine; decide), fun p hp => ?_⟩
    have ep : Ex H3 (upd H3 p (.tup [.str "pair", v1, v2])) := Ex.new hp
    refine q (.ref p) (.tuple [.str "pair", d1, d2]) _ (by simp only [tupOnly, tupOnlyAll, t1, t2, Bool.and_self]) ((gd_pair g1 g2).mono (by omega) (Nat.le_refl _)) ?_ (((bu1.trans bu2).trans bu3).trans (But.of_ex ep)) ((bx3.ex ep).mono (by omega))
    exact .tup (SqT.of upd_same) (.cons (.str _) (.cons (Dp.ex ep _ _ (Dp.tst (bu3.ts bx2) _ _ t1 rp1)) (.cons (Dp.ex ep _ _ rp2) .nil)))
theorem ok_plain (T : Txt K mg) : ∀ n : Nat, Fn P w K mg base CX0 (1 + n) T.a_plain T.d_plain ["_law_box", "_law_deep"] (sp_plain K n)
  | 0 => ⟨fun vs H Q E h => by obtain ⟨b, c, k, _, h1, h2, _⟩ := h; omega, fun A outer s H args us vs Q E _ _ _ _ _ h => by obtain ⟨b, c, k, _, h1, h2, _⟩ := h; omega⟩
  | n + 1 => ok_plainD_step T n (1 + n) (by omega) (ok_plain T n)
end
end K10

/-! K10: odd things -/
namespace K10
open PySem L2 Grd RZ
open Evl (Ex ex_t ex_l ex_rd)
theorem alloc_off {H : Hp} {b p : Addr} {c : Nat} {o : HO} {S : ASet} (hS : S b = true ∧ ∀ a, S a = true → H a ≠ none) (bx : Bx H b c) (hp : H p = none) : S p = false ∧ Ex (off H S) (off (upd H p o) S) ∧ off (upd H p o) S p = some o ∧ Bx (upd H p o) b c ∧ But b H (upd H p o) ∧ (S b = true ∧ ∀ a, S a = true → (upd H p o) a ≠ none) := by
  have n : S p = false := by
    cases z : S p with
    | false => rfl
    | true => exact absurd hp (hS.2 p z)
  have bu : But b H (upd H p o) := But.of_ex (Ex.new hp)
  refine ⟨n, bu.off hS.1, by rw [off_ne n]; exact upd_same, bx.ex (Ex.new hp), bu, hS.1, fun a ha => ?_⟩
  rw [upd_ne (fun z => by rw [z, n] at ha; cases ha)]
  exact hS.2 a ha
def goodB (d : PyData) : Bool := wd d && (d.showable && (d.leavesShort 13 && (decide (d.weight ≤ 60) && decide (d.depth ≤ 3))))
theorem good_gd {d : PyData} (h : goodB d = true) : Gd d 60 3 := by
  simp only [goodB, Bool.and_eq_true, decide_eq_true_eq] at h
  exact ⟨h.1, h.2.1, h.2.2.1, h.2.2.2.1, h.2.2.2.2⟩
def oddL (d : PyData) : List PyData := [.none, .bool true, .bool false, .int 0, .int (-1), .int 1, .int 7, .str "", .str "number", .str "pair", .str "any", .str "fun", .str "many", .str "ab", .str "A", .str "abcdefg", .tuple [], .list [], .tuple [.str "any", .int 0], .tuple [.str "any", .int (-1)], .tuple [.str "any", .bool true], .tuple [.tuple [], .none], .tuple [.tuple [.str "a"], .int 0], .tuple [.tuple [.str "b", .str "a"], .int 0], .str "0.1:a", .str "01:a", .str ":", .str "a:b", .str "0.:a", .str ".0:a", .str "0:1:a", .str ":fun", .list [d], .tuple [d], .tuple [.str "pair", .str "number", .str "number"], .tuple [.int 1], .tuple [.str "any"], .tuple [.str "any", .int 0, .int 0]]
def odd1 : List PyData := [.none, .bool true, .bool false, .int 0, .int (-1), .int 1, .int 7, .str "", .str "number", .str "pair", .str "any", .str "fun", .str "many", .str "ab", .str "A", .str "abcdefg", .tuple [], .list [], .tuple [.str "any", .int 0], .tuple [.str "any", .int (-1)], .tuple [.str "any", .bool true], .tuple [.tuple [], .none], .tuple [.tuple [.str "a"], .int 0], .tuple [.tuple [.str "b", .str "a"], .int 0], .str "0.1:a", .str "01:a", .str ":", .str "a:b", .str "0.:a", .str ".0:a", .str "0:1:a", .str ":fun"]
def odd2 : List PyData := [.tuple [.str "pair", .str "number", .str "number"], .tuple [.int 1], .tuple [.str "any"], .tuple [.str "any", .int 0, .int 0]]
theorem odd1_ok : odd1.all goodB = true := by decide +kernel
theorem odd2_ok : odd2.all goodB = true := by decide +kernel
theorem odd_ok {d e : PyData} {wt n : Nat} (hg : Gd d wt n) (h : e ∈ oddL d) : Gd e (wt + 60) (n + 3) := by
  have el : oddL d = odd1 ++ ([.list [d], .tuple [d]] ++ odd2) := rfl
  rw [el] at h
  rcases List.mem_append.mp h with h | h
  · exact (good_gd (List.all_eq_true.mp odd1_ok e h)).mono (by omega) (by omega)
  · rcases List.mem_append.mp h with h | h
    · have hw : wdAll [d] = true := by simp only [wdAll, hg.w, Bool.and_self]
      rcases List.mem_cons.mp h with rfl | h
      · refine ⟨by simp only [wd, hw, List.length_cons, List.length_nil]; rfl, ?_⟩
        exact (fine_lst (fine_cons hg.f fine_nil)).mono (by omega) (by omega)
      · rw [List.mem_singleton] at h
        subst h
        refine ⟨by simp only [wd, hw, List.length_cons, List.length_nil]; rfl, ?_⟩
        exact (fine_tup (fine_cons hg.f fine_nil)).mono (by omega) (by omega)
    · exact (good_gd (List.all_eq_true.mp odd2_ok e h)).mono (by omega) (by omega)
def sp_odd (K : PySem.W.Frag) : Sp := fun vs H Q _ => ∃ (b : Addr) (c : Nat) (v : V) (d : PyData) (wt n : Nat) (S : ASet), vs = [.ref b, v] ∧ (S b = true ∧ ∀ a, S a = true → H a ≠ none) ∧ Bx H b c ∧ c < 900000 ∧ Dp K (off H S) v d ∧ Gd d wt n ∧
  ∀ u e H', Gd e (wt + 60) (n + 3) → Dp K (off H' S) u e → But b H H' → Bx H' b (c + 1) → Q u H'
section
variable {P : Program} {w : World} {K : PySem.W.Frag} {mg : Str → Option Value} {base : Heap}
theorem ok_odd (T : Txt K mg) : Fn P w K mg base CX0 3 T.a_odd T.d_odd ["_law_box", "_law_some"] (sp_odd K) := by
  have G_one_of := ok_one_of (P := P) (w := w) (base := base) T
  refine Grd.mk T.F_odd scodd (fun vs H Q E h => ?_) (fun cdv A outer st H vs Q E gd hr h => ?_)
  · obtain ⟨b, c, v, d, wt, n, S, rfl, _⟩ := h
    rfl
  obtain ⟨b, c, v, d, wt, n, S, rfl, hS0, bx0, hc, hv, hg, q0⟩ := h
  have hb := hS0.1
  have q := fun u e H' g r bu bx => q0 u e H' g r bu bx
  refine ⟨_, (pss_cons (ps_set (i := 2) scodd.nd rfl (Or.inl rfl) (pe_lst (pa_cons pe_non (pa_cons pe_bl (pa_cons pe_bl (pa_cons pe_int (pa_cons (pe_un un_neg pe_int) (pa_cons pe_int (pa_cons pe_int (pa_cons pe_str (pa_cons pe_str (pa_cons pe_str (pa_cons pe_str (pa_cons pe_str (pa_cons pe_str (pa_cons pe_str (pa_cons pe_str (pa_cons pe_str (pa_cons (pe_tup pa_nil) (pa_cons (pe_lst pa_nil) pa_nil))))))))))))))))))))
      (pss_cons (ps_set (i := 2) scodd.nd rfl (Or.inl rfl) (pe_op op_cat (pv 2) (pe_lst (pa_cons (pe_tup (pa_cons pe_str (pa_cons pe_int pa_nil))) (pa_cons (pe_tup (pa_cons pe_str (pa_cons (pe_un un_neg pe_int) pa_nil))) (pa_cons (pe_tup (pa_cons pe_str (pa_cons pe_bl pa_nil))) (pa_cons (pe_tup (pa_cons (pe_tup pa_nil) (pa_cons pe_non pa_nil))) (pa_cons (pe_tup (pa_cons (pe_tup (pa_cons pe_str pa_nil)) (pa_cons pe_int pa_nil))) (pa_cons (pe_tup (pa_cons (pe_tup (pa_cons pe_str (pa_cons pe_str pa_nil))) (pa_cons pe_int pa_nil))) (pa_cons pe_str (pa_cons pe_str pa_nil)))))))))))
      (pss_cons (ps_set (i := 2) scodd.nd rfl (Or.inl rfl) (pe_op op_cat (pv 2) (pe_lst (pa_cons pe_str (pa_cons pe_str (pa_cons pe_str (pa_cons pe_str (pa_cons pe_str (pa_cons pe_str (pa_cons (pe_lst (pa_cons (pv 1) pa_nil)) (pa_cons (pe_tup (pa_cons (pv 1) pa_nil)) (pa_cons (pe_tup (pa_cons pe_str (pa_cons pe_str (pa_cons pe_str pa_nil)))) (pa_cons (pe_tup (pa_cons pe_int pa_nil)) pa_nil)))))))))))))
      (pss_cons (ps_set (i := 2) scodd.nd rfl (Or.inl rfl) (pe_op op_cat (pv 2) (pe_lst (pa_cons (pe_tup (pa_cons pe_str pa_nil)) (pa_cons (pe_tup (pa_cons pe_str (pa_cons pe_int (pa_cons pe_int pa_nil)))) pa_nil)))))
      (pss_one (ps_ret (pe_callG G_one_of gd (hr.mono (by first | decide | omega)) rfl T.g_one_of T.F_one_of.kp T.b_one_of .nil pass0 (pa_cons (pv 0) (pa_cons (pv 2) pa_nil))))))))), ?_⟩
  refine ⟨_, rfl, (by show 0 ≤ sizeLine; decide), fun t0 ht0 => ?_⟩
  obtain ⟨nt0, et0, kt0, bx1, bu1, hS1⟩ := alloc_off (o := .tup []) hS0 bx0 ht0
  generalize upd H t0 (.tup []) = A1 at et0 kt0 bx1 bu1 hS1
  refine ⟨(by show 0 ≤ sizeLine; decide), fun l0 hl0 => ?_⟩
  obtain ⟨nl0, el0, kl0, bx2, bu2, hS2⟩ := alloc_off (o := .lst []) hS1 bx1 hl0
  generalize upd A1 l0 (.lst []) = A2 at el0 kl0 bx2 bu2 hS2
  refine ⟨(by show 18 ≤ sizeLine; decide), fun m1 hm1 => ?_⟩
  obtain ⟨nm1, em1, km1, bx3, bu3, hS3⟩ := alloc_off (o := .lst [.non, .bl true, .bl false, .int 0, .int (-1), .int 1, .int 7, .str "", .str "number", .str "pair", .str "any", .str "fun", .str "many", .str "ab", .str "A", .str "abcdefg", .ref t0, .ref l0]) hS2 bx2 hm1
  generalize upd A2 m1 (.lst [.non, .bl true, .bl false, .int 0, .int (-1), .int 1, .int 7, .str "", .str "number", .str "pair", .str "any", .str "fun", .str "many", .str "ab", .str "A", .str "abcdefg", .ref t0, .ref l0]) = A3 at em1 km1 bx3 bu3 hS3
  refine ⟨_, rfl, (by show 2 ≤ sizeLine; decide), fun t1 ht1 => ?_⟩
  obtain ⟨nt1, et1, kt1, bx4, bu4, hS4⟩ := alloc_off (o := .tup [.str "any", .int 0]) hS3 bx3 ht1
  generalize upd A3 t1 (.tup [.str "any", .int 0]) = A4 at et1 kt1 bx4 bu4 hS4
  refine ⟨_, rfl, (by show 2 ≤ sizeLine; decide), fun t2 ht2 => ?_⟩
  obtain ⟨nt2, et2, kt2, bx5, bu5, hS5⟩ := alloc_off (o := .tup [.str "any", .int (-1)]) hS4 bx4 ht2
  generalize upd A4 t2 (.tup [.str "any", .int (-1)]) = A5 at et2 kt2 bx5 bu5 hS5
  refine ⟨(by show 2 ≤ sizeLine; decide), fun t3 ht3 => ?_⟩
  obtain ⟨nt3, et3, kt3, bx6, bu6, hS6⟩ := alloc_off (o := .tup [.str "any", .bl true]) hS5 bx5 ht3
  generalize upd A5 t3 (.tup [.str "any", .bl true]) = A6 at et3 kt3 bx6 bu6 hS6
  refine ⟨(by show 0 ≤ sizeLine; decide), fun t4 ht4 => ?_⟩
  obtain ⟨nt4, et4, kt4, bx7, bu7, hS7⟩ := alloc_off (o := .tup []) hS6 bx6 ht4
  generalize upd A6 t4 (.tup []) = A7 at et4 kt4 bx7 bu7 hS7
  refine ⟨(by show 2 ≤ sizeLine; decide), fun t5 ht5 => ?_⟩
  obtain ⟨nt5, et5, kt5, bx8, bu8, hS8⟩ := alloc_off (o := .tup [.ref t4, .non]) hS7 bx7 ht5
  generalize upd A7 t5 (.tup [.ref t4, .non]) = A8 at et5 kt5 bx8 bu8 hS8
  refine ⟨(by show 1 ≤ sizeLine; decide), fun t6 ht6 => ?_⟩
  obtain ⟨nt6, et6, kt6, bx9, bu9, hS9⟩ := alloc_off (o := .tup [.str "a"]) hS8 bx8 ht6
  generalize upd A8 t6 (.tup [.str "a"]) = A9 at et6 kt6 bx9 bu9 hS9
  refine ⟨(by show 2 ≤ sizeLine; decide), fun t7 ht7 => ?_⟩
  obtain ⟨nt7, et7, kt7, bx10, bu10, hS10⟩ := alloc_off (o := .tup [.ref t6, .int 0]) hS9 bx9 ht7
  generalize upd A9 t7 (.tup [.ref t6, .int 0]) = A10 at et7 kt7 bx10 bu10 hS10
  refine ⟨(by show 2 ≤ sizeLine; decide), fun t8 ht8 => ?_⟩
  obtain ⟨nt8, et8, kt8, bx11, bu11, hS11⟩ := alloc_off (o := .tup [.str "b", .str "a"]) hS10 bx10 ht8
  generalize upd A10 t8 (.tup [.str "b", .str "a"]) = A11 at et8 kt8 bx11 bu11 hS11
  refine ⟨(by show 2 ≤ sizeLine; decide), fun t9 ht9 => ?_⟩
  obtain ⟨nt9, et9, kt9, bx12, bu12, hS12⟩ := alloc_off (o := .tup [.ref t8, .int 0]) hS11 bx11 ht9
  generalize upd A11 t9 (.tup [.ref t8, .int 0]) = A12 at et9 kt9 bx12 bu12 hS12
  refine ⟨(by show 8 ≤ sizeLine; decide), fun m2 hm2 => ?_⟩
  obtain ⟨nm2, em2, km2, bx13, bu13, hS13⟩ := alloc_off (o := .lst [.ref t1, .ref t2, .ref t3, .ref t5, .ref t7, .ref t9, .str "0.1:a", .str "01:a"]) hS12 bx12 hm2
  generalize upd A12 m2 (.lst [.ref t1, .ref t2, .ref t3, .ref t5, .ref t7, .ref t9, .str "0.1:a", .str "01:a"]) = A13 at em2 km2 bx13 bu13 hS13
  refine ⟨m1, m2, _, _, rfl, rfl, off_le _ _ _ _ ((((((((((et1.trans et2).trans et3).trans et4).trans et5).trans et6).trans et7).trans et8).trans et9).trans em2) _ _ km1), off_le _ _ _ _ (km2), (by show 26 ≤ sizeLine; decide), fun c1 hc1 => ?_⟩
  obtain ⟨nc1, ec1, kc1, bx14, bu14, hS14⟩ := alloc_off (o := .lst ([.non, .bl true, .bl false, .int 0, .int (-1), .int 1, .int 7, .str "", .str "number", .str "pair", .str "any", .str "fun", .str "many", .str "ab", .str "A", .str "abcdefg", .ref t0, .ref l0] ++ [.ref t1, .ref t2, .ref t3, .ref t5, .ref t7, .ref t9, .str "0.1:a", .str "01:a"])) hS13 bx13 hc1
  generalize upd A13 c1 (.lst ([.non, .bl true, .bl false, .int 0, .int (-1), .int 1, .int 7, .str "", .str "number", .str "pair", .str "any", .str "fun", .str "many", .str "ab", .str "A", .str "abcdefg", .ref t0, .ref l0] ++ [.ref t1, .ref t2, .ref t3, .ref t5, .ref t7, .ref t9, .str "0.1:a", .str "01:a"])) = A14 at ec1 kc1 bx14 bu14 hS14
  have kc1 : off A14 S c1 = some (.lst [.non, .bl true, .bl false, .int 0, .int (-1), .int 1, .int 7, .str "", .str "number", .str "pair", .str "any", .str "fun", .str "many", .str "ab", .str "A", .str "abcdefg", .ref t0, .ref l0, .ref t1, .ref t2, .ref t3, .ref t5, .ref t7, .ref t9, .str "0.1:a", .str "01:a"]) := kc1
  refine ⟨_, rfl, _, rfl, (by show 1 ≤ sizeLine; decide), fun l1 hl1 => ?_⟩
  obtain ⟨nl1, el1, kl1, bx15, bu15, hS15⟩ := alloc_off (o := .lst [v]) hS14 bx14 hl1
  generalize upd A14 l1 (.lst [v]) = A15 at el1 kl1 bx15 bu15 hS15
  refine ⟨_, rfl, (by show 1 ≤ sizeLine; decide), fun t10 ht10 => ?_⟩
  obtain ⟨nt10, et10, kt10, bx16, bu16, hS16⟩ := alloc_off (o := .tup [v]) hS15 bx15 ht10
  generalize upd A15 t10 (.tup [v]) = A16 at et10 kt10 bx16 bu16 hS16
  refine ⟨(by show 3 ≤ sizeLine; decide), fun t11 ht11 => ?_⟩
  obtain ⟨nt11, et11, kt11, bx17, bu17, hS17⟩ := alloc_off (o := .tup [.str "pair", .str "number", .str "number"]) hS16 bx16 ht11
  generalize upd A16 t11 (.tup [.str "pair", .str "number", .str "number"]) = A17 at et11 kt11 bx17 bu17 hS17
  refine ⟨(by show 1 ≤ sizeLine; decide), fun t12 ht12 => ?_⟩
  obtain ⟨nt12, et12, kt12, bx18, bu18, hS18⟩ := alloc_off (o := .tup [.int 1]) hS17 bx17 ht12
  generalize upd A17 t12 (.tup [.int 1]) = A18 at et12 kt12 bx18 bu18 hS18
  refine ⟨(by show 10 ≤ sizeLine; decide), fun m3 hm3 => ?_⟩
  obtain ⟨nm3, em3, km3, bx19, bu19, hS19⟩ := alloc_off (o := .lst [.str ":", .str "a:b", .str "0.:a", .str ".0:a", .str "0:1:a", .str ":fun", .ref l1, .ref t10, .ref t11, .ref t12]) hS18 bx18 hm3
  generalize upd A18 m3 (.lst [.str ":", .str "a:b", .str "0.:a", .str ".0:a", .str "0:1:a", .str ":fun", .ref l1, .ref t10, .ref t11, .ref t12]) = A19 at em3 km3 bx19 bu19 hS19
  refine ⟨c1, m3, _, _, rfl, rfl, off_le _ _ _ _ (((((el1.trans et10).trans et11).trans et12).trans em3) _ _ kc1), off_le _ _ _ _ (km3), (by show 36 ≤ sizeLine; decide), fun c2 hc2 => ?_⟩
  obtain ⟨nc2, ec2, kc2, bx20, bu20, hS20⟩ := alloc_off (o := .lst ([.non, .bl true, .bl false, .int 0, .int (-1), .int 1, .int 7, .str "", .str "number", .str "pair", .str "any", .str "fun", .str "many", .str "ab", .str "A", .str "abcdefg", .ref t0, .ref l0, .ref t1, .ref t2, .ref t3, .ref t5, .ref t7, .ref t9, .str "0.1:a", .str "01:a"] ++ [.str ":", .str "a:b", .str "0.:a", .str ".0:a", .str "0:1:a", .str ":fun", .ref l1, .ref t10, .ref t11, .ref t12])) hS19 bx19 hc2
  generalize upd A19 c2 (.lst ([.non, .bl true, .bl false, .int 0, .int (-1), .int 1, .int 7, .str "", .str "number", .str "pair", .str "any", .str "fun", .str "many", .str "ab", .str "A", .str "abcdefg", .ref t0, .ref l0, .ref t1, .ref t2, .ref t3, .ref t5, .ref t7, .ref t9, .str "0.1:a", .str "01:a"] ++ [.str ":", .str "a:b", .str "0.:a", .str ".0:a", .str "0:1:a", .str ":fun", .ref l1, .ref t10, .ref t11, .ref t12])) = A20 at ec2 kc2 bx20 bu20 hS20
  have kc2 : off A20 S c2 = some (.lst [.non, .bl true, .bl false, .int 0, .int (-1), .int 1, .int 7, .str "", .str "number", .str "pair", .str "any", .str "fun", .str "many", .str "ab", .str "A", .str "abcdefg", .ref t0, .ref l0, .ref t1, .ref t2, .ref t3, .ref t5, .ref t7, .ref t9, .str "0.1:a", .str "01:a", .str ":", .str "a:b", .str "0.:a", .str ".0:a", .str "0:1:a", .str ":fun", .ref l1, .ref t10, .ref t11, .ref t12]) := kc2
  refine ⟨_, rfl, (by show 1 ≤ sizeLine; decide), fun t13 ht13 => ?_⟩
  obtain ⟨nt13, et13, kt13, bx21, bu21, hS21⟩ := alloc_off (o := .tup [.str "any"]) hS20 bx20 ht13
  generalize upd A20 t13 (.tup [.str "any"]) = A21 at et13 kt13 bx21 bu21 hS21
  refine ⟨(by show 3 ≤ sizeLine; decide), fun t14 ht14 => ?_⟩
  obtain ⟨nt14, et14, kt14, bx22, bu22, hS22⟩ := alloc_off (o := .tup [.str "any", .int 0, .int 0]) hS21 bx21 ht14
  generalize upd A21 t14 (.tup [.str "any", .int 0, .int 0]) = A22 at et14 kt14 bx22 bu22 hS22
  refine ⟨(by show 2 ≤ sizeLine; decide), fun m4 hm4 => ?_⟩
  obtain ⟨nm4, em4, km4, bx23, bu23, hS23⟩ := alloc_off (o := .lst [.ref t13, .ref t14]) hS22 bx22 hm4
  generalize upd A22 m4 (.lst [.ref t13, .ref t14]) = A23 at em4 km4 bx23 bu23 hS23
  refine ⟨c2, m4, _, _, rfl, rfl, off_le _ _ _ _ (((et13.trans et14).trans em4) _ _ kc2), off_le _ _ _ _ (km4), (by show 38 ≤ sizeLine; decide), fun c3 hc3 => ?_⟩
  obtain ⟨nc3, ec3, kc3, bx24, bu24, hS24⟩ := alloc_off (o := .lst ([.non, .bl true, .bl false, .int 0, .int (-1), .int 1, .int 7, .str "", .str "number", .str "pair", .str "any", .str "fun", .str "many", .str "ab", .str "A", .str "abcdefg", .ref t0, .ref l0, .ref t1, .ref t2, .ref t3, .ref t5, .ref t7, .ref t9, .str "0.1:a", .str "01:a", .str ":", .str "a:b", .str "0.:a", .str ".0:a", .str "0:1:a", .str ":fun", .ref l1, .ref t10, .ref t11, .ref t12] ++ [.ref t13, .ref t14])) hS23 bx23 hc3
  generalize upd A23 c3 (.lst ([.non, .bl true, .bl false, .int 0, .int (-1), .int 1, .int 7, .str "", .str "number", .str "pair", .str "any", .str "fun", .str "many", .str "ab", .str "A", .str "abcdefg", .ref t0, .ref l0, .ref t1, .ref t2, .ref t3, .ref t5, .ref t7, .ref t9, .str "0.1:a", .str "01:a", .str ":", .str "a:b", .str "0.:a", .str ".0:a", .str "0:1:a", .str ":fun", .ref l1, .ref t10, .ref t11, .ref t12] ++ [.ref t13, .ref t14])) = A24 at ec3 kc3 bx24 bu24 hS24
  have kc3 : off A24 S c3 = some (.lst [.non, .bl true, .bl false, .int 0, .int (-1), .int 1, .int 7, .str "", .str "number", .str "pair", .str "any", .str "fun", .str "many", .str "ab", .str "A", .str "abcdefg", .ref t0, .ref l0, .ref t1, .ref t2, .ref t3, .ref t5, .ref t7, .ref t9, .str "0.1:a", .str "01:a", .str ":", .str "a:b", .str "0.:a", .str ".0:a", .str "0:1:a", .str ":fun", .ref l1, .ref t10, .ref t11, .ref t12, .ref t13, .ref t14]) := kc3
  have eA : Ex (off H S) (off A24 S) := (((((((((((((((((((((((et0.trans el0).trans em1).trans et1).trans et2).trans et3).trans et4).trans et5).trans et6).trans et7).trans et8).trans et9).trans em2).trans ec1).trans el1).trans et10).trans et11).trans et12).trans em3).trans ec2).trans et13).trans et14).trans em4).trans ec3)
  have hvE : Dp K (off A24 S) v d := Dp.ex eA _ _ hv
  have al : DpAll K (off A24 S) [.non, .bl true, .bl false, .int 0, .int (-1), .int 1, .int 7, .str "", .str "number", .str "pair", .str "any", .str "fun", .str "many", .str "ab", .str "A", .str "abcdefg", .ref t0, .ref l0, .ref t1, .ref t2, .ref t3, .ref t5, .ref t7, .ref t9, .str "0.1:a", .str "01:a", .str ":", .str "a:b", .str "0.:a", .str ".0:a", .str "0:1:a", .str ":fun", .ref l1, .ref t10, .ref t11, .ref t12, .ref t13, .ref t14] (oddL d) := .cons (.non) (.cons (.bl _) (.cons (.bl _) (.cons (.int _) (.cons (.int _) (.cons (.int _) (.cons (.int _) (.cons (.str _) (.cons (.str _) (.cons (.str _) (.cons (.str _) (.cons (.str _) (.cons (.str _) (.cons (.str _) (.cons (.str _) (.cons (.str _) (.cons (.tup (SqT.of (((((((((((((((((((((((el0.trans em1).trans et1).trans et2).trans et3).trans et4).trans et5).trans et6).trans et7).trans et8).trans et9).trans em2).trans ec1).trans el1).trans et10).trans et11).trans et12).trans em3).trans ec2).trans et13).trans et14).trans em4).trans ec3) _ _ kt0)) (.nil)) (.cons (.lst (SqL.of ((((((((((((((((((((((em1.trans et1).trans et2).trans et3).trans et4).trans et5).trans et6).trans et7).trans et8).trans et9).trans em2).trans ec1).trans el1).trans et10).trans et11).trans et12).trans em3).trans ec2).trans et13).trans et14).trans em4).trans ec3) _ _ kl0)) (.nil)) (.cons (.tup (SqT.of ((((((((((((((((((((et2.trans et3).trans et4).trans et5).trans et6).trans et7).trans et8).trans et9).trans em2).trans ec1).trans el1).trans et10).trans et11).trans et12).trans em3).trans ec2).trans et13).trans et14).trans em4).trans ec3) _ _ kt1)) (.cons (.str _) (.cons (.int _) .nil))) (.cons (.tup (SqT.of (((((((((((((((((((et3.trans et4).trans et5).trans et6).trans et7).trans et8).trans et9).trans em2).trans ec1).trans el1).trans et10).trans et11).trans et12).trans em3).trans ec2).trans et13).trans et14).trans em4).trans ec3) _ _ kt2)) (.cons (.str _) (.cons (.int _) .nil))) (.cons (.tup (SqT.of ((((((((((((((((((et4.trans et5).trans et6).trans et7).trans et8).trans et9).trans em2).trans ec1).trans el1).trans et10).trans et11).trans et12).trans em3).trans ec2).trans et13).trans et14).trans em4).trans ec3) _ _ kt3)) (.cons (.str _) (.cons (.bl _) .nil))) (.cons (.tup (SqT.of ((((((((((((((((et6.trans et7).trans et8).trans et9).trans em2).trans ec1).trans el1).trans et10).trans et11).trans et12).trans em3).trans ec2).trans et13).trans et14).trans em4).trans ec3) _ _ kt5)) (.cons (.tup (SqT.of (((((((((((((((((et5.trans et6).trans et7).trans et8).trans et9).trans em2).trans ec1).trans el1).trans et10).trans et11).trans et12).trans em3).trans ec2).trans et13).trans et14).trans em4).trans ec3) _ _ kt4)) .nil) (.cons .non .nil))) (.cons (.tup (SqT.of ((((((((((((((et8.trans et9).trans em2).trans ec1).trans el1).trans et10).trans et11).trans et12).trans em3).trans ec2).trans et13).trans et14).trans em4).trans ec3) _ _ kt7)) (.cons (.tup (SqT.of (((((((((((((((et7.trans et8).trans et9).trans em2).trans ec1).trans el1).trans et10).trans et11).trans et12).trans em3).trans ec2).trans et13).trans et14).trans em4).trans ec3) _ _ kt6)) (.cons (.str _) .nil)) (.cons (.int _) .nil))) (.cons (.tup (SqT.of ((((((((((((em2.trans ec1).trans el1).trans et10).trans et11).trans et12).trans em3).trans ec2).trans et13).trans et14).trans em4).trans ec3) _ _ kt9)) (.cons (.tup (SqT.of (((((((((((((et9.trans em2).trans ec1).trans el1).trans et10).trans et11).trans et12).trans em3).trans ec2).trans et13).trans et14).trans em4).trans ec3) _ _ kt8)) (.cons (.str _) (.cons (.str _) .nil))) (.cons (.int _) .nil))) (.cons (.str _) (.cons (.str _) (.cons (.str _) (.cons (.str _) (.cons (.str _) (.cons (.str _) (.cons (.str _) (.cons (.str _) (.cons (.lst (SqL.of (((((((((et10.trans et11).trans et12).trans em3).trans ec2).trans et13).trans et14).trans em4).trans ec3) _ _ kl1)) (.cons hvE .nil)) (.cons (.tup (SqT.of ((((((((et11.trans et12).trans em3).trans ec2).trans et13).trans et14).trans em4).trans ec3) _ _ kt10)) (.cons hvE .nil)) (.cons (.tup (SqT.of (((((((et12.trans em3).trans ec2).trans et13).trans et14).trans em4).trans ec3) _ _ kt11)) (.cons (.str _) (.cons (.str _) (.cons (.str _) .nil)))) (.cons (.tup (SqT.of ((((((em3.trans ec2).trans et13).trans et14).trans em4).trans ec3) _ _ kt12)) (.cons (.int _) .nil)) (.cons (.tup (SqT.of (((et14.trans em4).trans ec3) _ _ kt13)) (.cons (.str _) .nil)) (.cons (.tup (SqT.of ((em4.trans ec3) _ _ kt14)) (.cons (.str _) (.cons (.int _) (.cons (.int _) .nil)))) (.nil))))))))))))))))))))))))))))))))))))))
  have buA : But b H A24 := (((((((((((((((((((((((bu1.trans bu2).trans bu3).trans bu4).trans bu5).trans bu6).trans bu7).trans bu8).trans bu9).trans bu10).trans bu11).trans bu12).trans bu13).trans bu14).trans bu15).trans bu16).trans bu17).trans bu18).trans bu19).trans bu20).trans bu21).trans bu22).trans bu23).trans bu24)
  refine ⟨_, rfl, _, rfl, b, c3, _, c, rfl, bx24, by omega, (fun z => by rw [z, hb] at nc3; cases nc3), SqL.of (off_le _ _ _ _ kc3), (by show 0 < 38; decide), (by show 38 < 10000; decide), fun i x H' hx bu bx => ?_⟩
  obtain ⟨e, he, re⟩ := dp_pick al hx
  exact q x e H' (odd_ok hg (List.mem_of_getElem? he)) (Dp.ex (bu.off hb) _ _ re) (buA.trans bu) bx
end
end K10

/-! K10: deep ones -/
namespace K10
open PySem L2 Grd RZ
open Evl (Ex ex_t ex_l ex_rd)
def nn : PyData := .tuple [.str "pair", .str "number", .str "number"]
def doD (wide : Nat) : Nat → PyData
  | 0 => .str "number"
  | t + 1 => .tuple [.str "pair", doD wide t, if t < wide then nn else .str "number"]
def sp_deep (K : PySem.W.Frag) : Sp := fun vs H Q _ => ∃ n m : Nat, vs = [.int ((n : Nat) : Int), .int ((m : Nat) : Int)] ∧ n ≤ 100 ∧ ∀ v H', Ex H H' → Dp K H' v (doD m n) → Q v H'
section
variable {P : Program} {w : World} {K : PySem.W.Frag} {mg : Str → Option Value} {base : Heap}
theorem ok_deep_one (T : Txt K mg) : Fn P w K mg base CX0 1 T.a_deep_one T.d_deep_one ["_law_count", "_law_wide"] (sp_deep K) := by
  refine Grd.mk T.F_deep_one scdeep_one (fun vs H Q E h => ?_) (fun cdv A outer st H vs Q E gd hr h => ?_)
  · obtain ⟨n, m, rfl, _⟩ := h
    rfl
  obtain ⟨n, m, rfl, hn, q⟩ := h
  refine ⟨_, (pss_cons (ps_set (i := 2) scdeep_one.nd rfl (Or.inl rfl) pe_str)
      (pss_cons (ps_for PassesOwn.never rfl (pi_range1 (by rfl) T.n_range (pa_cons (pv 0) pa_nil)) (pg_name (i := 3) scdeep_one.nd rfl (Or.inl rfl)) (pss_one (ps_set (i := 2) scdeep_one.nd rfl (Or.inl rfl) (pe_tup (pa_cons pe_str (pa_cons (pv 2) (pa_cons (pe_ifExp (pt_cmpR op_lt (pv 3) (pv 1) (nomark _)) (pe_tup (pa_cons pe_str (pa_cons pe_str (pa_cons pe_str pa_nil)))) pe_str) pa_nil)))))))
      (pss_one (ps_ret (pv 2))))), ?_⟩
  refine ⟨_, rfl, ((n : Nat) : Int), rfl, by omega, by omega, for_range (fun i σ H' => ∃ (v : V) (u3 : Option V), σ = [some (.int ((n : Nat) : Int)), some (.int ((m : Nat) : Int)), some v, u3] ∧ Ex H H' ∧ Dp K H' v (doD m i)) ⟨_, none, rfl, Ex.refl _, .str _⟩ ?_ ?_⟩
  · rintro i σ H1 hi ⟨v, u3, rfl, e1, hv⟩
    refine ⟨_, rfl, _, rfl, _, rfl, _, _, rfl, rfl, _, rfl, ?_⟩
    have dc : decide ((0 : Int) + (i : Int) < ((m : Nat) : Int)) = decide (i < m) := by
      congr 1
      rw [eq_iff_iff]
      omega
    rw [dc]
    by_cases h : i < m
    · rw [decide_eq_true h]
      refine ⟨(by show 3 ≤ sizeLine; decide), fun p hp => ⟨(by show 3 ≤ sizeLine; decide), fun p2 hp2 => ?_⟩⟩
      have ep : Ex H1 (upd H1 p (.tup [.str "pair", .str "number", .str "number"])) := Ex.new hp
      have kp : (upd H1 p (.tup [.str "pair", .str "number", .str "number"])) p = some (.tup [.str "pair", .str "number", .str "number"]) := upd_same
      generalize upd H1 p (.tup [.str "pair", .str "number", .str "number"]) = H2 at ep kp hp2
      have ep2 : Ex H2 (upd H2 p2 (.tup [.str "pair", v, .ref p])) := Ex.new hp2
      refine ⟨.ref p2, _, rfl, (e1.trans ep).trans ep2, ?_⟩
      rw [doD, if_pos h]
      exact .tup (SqT.of upd_same) (.cons (.str _) (.cons (Dp.ex (ep.trans ep2) _ _ hv) (.cons (.tup (SqT.of (ep2 _ _ kp)) (.cons (.str _) (.cons (.str _) (.cons (.str _) .nil)))) .nil)))
    · rw [decide_eq_false h]
      refine ⟨(by show 3 ≤ sizeLine; decide), fun p2 hp2 => ?_⟩
      have ep2 : Ex H1 (upd H1 p2 (.tup [.str "pair", v, .str "number"])) := Ex.new hp2
      refine ⟨.ref p2, _, rfl, e1.trans ep2, ?_⟩
      rw [doD, if_neg h]
      exact .tup (SqT.of upd_same) (.cons (.str _) (.cons (Dp.ex ep2 _ _ hv) (.cons (.str _) .nil)))
  · rintro σ H1 ⟨v, u3, rfl, e1, hv⟩
    exact ⟨_, rfl, q v H1 e1 hv⟩
end
end K10

/-! K10: bent things: the rows -/
namespace K10
open PySem L2 Grd RZ
open Evl (Ex ex_t ex_l ex_rd)
/-! ### rows of data -/
section
variable {K : PySem.W.Frag} {H : Hp}
theorem dpa_set : ∀ {vs : List V} {ds : List PyData} (i : Nat) {v : V} {d : PyData}, DpAll K H vs ds → Dp K H v d → DpAll K H (vs.set i v) (ds.set i d)
  | _, _, _, _, _, .nil, _ => .nil
  | _, _, 0, _, _, .cons _ t, h => .cons h t
  | _, _, i + 1, _, _, .cons a t, h => .cons a (dpa_set i t h)
theorem dpa_erase : ∀ {vs : List V} {ds : List PyData} (i : Nat), DpAll K H vs ds → DpAll K H (vs.eraseIdx i) (ds.eraseIdx i)
  | _, _, _, .nil => .nil
  | _, _, 0, .cons _ t => t
  | _, _, i + 1, .cons a t => .cons a (dpa_erase i t)
theorem dpa_take : ∀ {vs : List V} {ds : List PyData} (i : Nat), DpAll K H vs ds → DpAll K H (vs.take i) (ds.take i)
  | _, _, i, .nil => by rw [List.take_nil, List.take_nil]; exact .nil
  | _, _, 0, .cons _ _ => .nil
  | _, _, i + 1, .cons a t => .cons a (dpa_take i t)
theorem dpa_drop : ∀ {vs : List V} {ds : List PyData} (i : Nat), DpAll K H vs ds → DpAll K H (vs.drop i) (ds.drop i)
  | _, _, i, .nil => by rw [List.drop_nil, List.drop_nil]; exact .nil
  | _, _, 0, .cons a t => .cons a t
  | _, _, i + 1, .cons a t => dpa_drop i t
theorem dpa_rev {vs : List V} {ds : List PyData} (h : DpAll K H vs ds) : DpAll K H vs.reverse ds.reverse := by
  induction vs generalizing ds with
  | nil => cases h; exact .nil
  | cons v r ih =>
    cases h with
    | cons a t =>
      rw [List.reverse_cons, List.reverse_cons]
      exact DpAll.append (ih t) (.cons a .nil)
end
/-! ### good data, item by item -/
def ok1 (d : PyData) : Bool := wd d && (d.showable && d.leavesShort 13)
theorem showA : ∀ ds : List PyData, PyData.showableAll ds = ds.all PyData.showable
  | [] => by simp only [PyData.showableAll, List.all_nil]
  | d :: r => by simp only [PyData.showableAll, List.all_cons, showA r]
theorem leavA : ∀ ds : List PyData, PyData.leavesShortAll 13 ds = ds.all (PyData.leavesShort 13)
  | [] => by simp only [PyData.leavesShortAll, List.all_nil]
  | d :: r => by simp only [PyData.leavesShortAll, List.all_cons, leavA r]
theorem wdA : ∀ ds : List PyData, wdAll ds = ds.all wd
  | [] => by simp only [wdAll, List.all_nil]
  | d :: r => by simp only [wdAll, List.all_cons, wdA r]
theorem weiA : ∀ ds : List PyData, PyData.weightAll ds = (ds.map fun d => d.weight + 1).sum
  | [] => by simp only [PyData.weightAll, List.map_nil, List.sum_nil]
  | d :: r => by simp only [PyData.weightAll, List.map_cons, List.sum_cons, weiA r]
theorem depA_le {ds : List PyData} {n : Nat} (h : ∀ d ∈ ds, d.depth ≤ n) : PyData.depthAll ds ≤ n := by
  induction ds with
  | nil => simp only [PyData.depthAll]; omega
  | cons x r ih =>
    have := ih fun d hd => h d (List.mem_cons_of_mem _ hd)
    have := h x (List.mem_cons_self ..)
    simp only [PyData.depthAll]
    omega
theorem ok1_seq {ds : List PyData} (h : ∀ d ∈ ds, ok1 d = true) (l : ds.length ≤ 1000) : ok1 (.list ds) = true ∧ ok1 (.tuple ds) = true := by
  have a1 : ds.all wd = true := List.all_eq_true.mpr fun d hd => by have := h d hd; simp only [ok1, Bool.and_eq_true] at this; exact this.1
  have a2 : ds.all PyData.showable = true := List.all_eq_true.mpr fun d hd => by have := h d hd; simp only [ok1, Bool.and_eq_true] at this; exact this.2.1
  have a3 : ds.all (PyData.leavesShort 13) = true := List.all_eq_true.mpr fun d hd => by have := h d hd; simp only [ok1, Bool.and_eq_true] at this; exact this.2.2
  constructor <;> simp only [ok1, wd, PyData.showable, PyData.leavesShort, showA, leavA, wdA, a1, a2, a3, decide_eq_true l, Bool.and_self]
theorem sum_set {α : Type} (f : α → Nat) : ∀ (l : List α) (i : Nat) (x y : α), l[i]? = some x → ((l.set i y).map f).sum + f x = (l.map f).sum + f y
  | [], i, x, y, h => by simp at h
  | a :: r, 0, x, y, h => by
    simp at h
    subst h
    simp only [List.set_cons_zero, List.map_cons, List.sum_cons]
    omega
  | a :: r, i + 1, x, y, h => by
    simp at h
    have := sum_set f r i x y h
    simp only [List.set_cons_succ, List.map_cons, List.sum_cons]
    omega
theorem sum_erase {α : Type} (f : α → Nat) : ∀ (l : List α) (i : Nat), ((l.eraseIdx i).map f).sum ≤ (l.map f).sum
  | [], _ => by simp
  | a :: r, 0 => by simp only [List.eraseIdx_cons_zero, List.map_cons, List.sum_cons]; omega
  | a :: r, i + 1 => by
    have := sum_erase f r i
    simp only [List.eraseIdx_cons_succ, List.map_cons, List.sum_cons]
    omega
theorem sum_at {α : Type} (f : α → Nat) : ∀ (l : List α) (i : Nat) (x : α), l[i]? = some x → f x ≤ (l.map f).sum
  | [], i, x, h => by simp at h
  | a :: r, 0, x, h => by simp at h; subst h; simp only [List.map_cons, List.sum_cons]; omega
  | a :: r, i + 1, x, h => by
    simp at h
    have := sum_at f r i x h
    simp only [List.map_cons, List.sum_cons]
    omega
end K10

/-! K10: bent things -/
namespace K10
open PySem L2 Grd RZ
open Evl (Ex ex_t ex_l ex_rd)
mutual
def lb : PyData → Bool
  | .list ds => decide (ds.length ≤ 900) && lbAll ds
  | .tuple ds => decide (ds.length ≤ 900) && lbAll ds
  | _ => true
def lbAll : List PyData → Bool
  | [] => true
  | d :: ds => lb d && lbAll ds
end
theorem lb_at {ds : List PyData} {i : Nat} {d : PyData} (w : lbAll ds = true) (h : ds[i]? = some d) : lb d = true := by
  induction ds generalizing i with
  | nil => simp at h
  | cons x r ih =>
    simp only [lbAll, Bool.and_eq_true] at w
    cases i with
    | zero => simp at h; rw [← h]; exact w.1
    | succ i => simp at h; exact ih w.2 h
def isSeq : PyData → Bool
  | .tuple _ => true
  | .list _ => true
  | _ => false
theorem kTL {K : PySem.W.Frag} {t : String} {x y : Bool} (h1 : kitB t "tuple" = some x) (h2 : kitB t "list" = some y) : PySem.W.kitAny K (.type t) [.type "tuple", .type "list"] = some (x || y) :=
  kitAny_cons (kit_ty h1) (fun e => kitAny_cons (kit_ty h2) (fun e2 => by rw [e, e2]; exact kitAny_nil) (fun e2 => by rw [e, e2]; rfl)) (fun e => by rw [e]; rfl)
theorem isi_seq {K : PySem.W.Frag} (d : PyData) : PySem.W.kitAny K (.type (tyD d)) [.type "tuple", .type "list"] = some (isSeq d) := by
  cases d with
  | none => exact kTL (show kitB "NoneType" "tuple" = some false by decide +kernel) (show kitB "NoneType" "list" = some false by decide +kernel)
  | bool _ => exact kTL (show kitB "bool" "tuple" = some false by decide +kernel) (show kitB "bool" "list" = some false by decide +kernel)
  | int _ => exact kTL (show kitB "int" "tuple" = some false by decide +kernel) (show kitB "int" "list" = some false by decide +kernel)
  | str _ => exact kTL (show kitB "str" "tuple" = some false by decide +kernel) (show kitB "str" "list" = some false by decide +kernel)
  | list _ => exact kTL (show kitB "list" "tuple" = some false by decide +kernel) (show kitB "list" "list" = some true by decide +kernel)
  | tuple _ => exact kTL (show kitB "tuple" "tuple" = some true by decide +kernel) (show kitB "tuple" "list" = some false by decide +kernel)
  | dict _ => exact kTL (show kitB "dict" "tuple" = some false by decide +kernel) (show kitB "dict" "list" = some false by decide +kernel)
theorem seq_of {K : PySem.W.Frag} {H : Hp} {v : V} {d : PyData} (h : Dp K H v d) (k : isSeq d = true) : ∃ a xs ds, v = .ref a ∧ (SqL K H a xs ∨ SqT K H a xs) ∧ DpAll K H xs ds ∧ (d = .list ds ∨ d = .tuple ds) := by
  cases h with
  | lst hs ha => exact ⟨_, _, _, rfl, .inl hs, ha, .inl rfl⟩
  | tup hs ha => exact ⟨_, _, _, rfl, .inr hs, ha, .inr rfl⟩
  | _ => cases k
def sp_bent (K : PySem.W.Frag) (n : Nat) : Sp := fun vs H Q _ => ∃ (b : Addr) (c : Nat) (v : V) (d : PyData) (S : ASet), vs = [.ref b, v] ∧ (S b = true ∧ ∀ a, S a = true → H a ≠ none) ∧ Bx H b c ∧ c + 4 * (n + 1) < 900000 ∧ Dp K (off H S) v d ∧ ok1 d = true ∧ lb d = true ∧ d.depth ≤ n ∧
  ∀ u e H', ok1 e = true → e.weight ≤ 2 * d.weight + 60 → e.depth ≤ d.depth + 3 → Dp K (off H' S) u e → But b H H' → Bx H' b (c + 4 * (n + 1)) → Q u H'
theorem hSb {b : Addr} {c : Nat} {S : ASet} {H H' : Hp} (bu : But b H H') (bx : Bx H' b c) (h : S b = true ∧ ∀ a, S a = true → H a ≠ none) : S b = true ∧ ∀ a, S a = true → H' a ≠ none := by
  refine ⟨h.1, fun a ha z => ?_⟩
  by_cases e : a = b
  · subst e
    obtain ⟨x, y, w, q, _⟩ := bx
    rw [q] at z
    cases z
  · cases q : H a with
    | none => exact h.2 a ha q
    | some o => rw [bu a o e q] at z; cases z
theorem off_upd {H : Hp} {l : Addr} {o : HO} {S : ASet} (h : S l = false) : off (upd H l o) S = upd (off H S) l o := by
  funext a
  by_cases e : a = l
  · subst e
    rw [off_ne h, upd_same, upd_same]
  · rw [upd_ne e]
    unfold off
    rw [upd_ne e]
theorem ok1_gd {d : PyData} (h : ok1 d = true) : Gd d d.weight d.depth := by
  simp only [ok1, Bool.and_eq_true] at h
  exact ⟨h.1, h.2.1, h.2.2, Nat.le_refl _, Nat.le_refl _⟩
theorem gd_ok1 {d : PyData} {a b : Nat} (h : Gd d a b) : ok1 d = true ∧ d.weight ≤ a ∧ d.depth ≤ b := by
  refine ⟨?_, h.f.we, h.f.de⟩
  simp only [ok1, h.w, h.f.sh, h.f.le, Bool.and_self]
section
variable {P : Program} {w : World} {K : PySem.W.Frag} {mg : Str → Option Value} {base : Heap}
theorem ok_bent_step (T : Txt K mg) (n j : Nat) (hj : 3 ≤ j) (G_bent : Fn P w K mg base CX0 j T.a_bent T.d_bent ["_law_box", "_law_some"] (fun vs H Q E => ∃ m, m + 1 = n ∧ sp_bent K m vs H Q E)) :
    Fn P w K mg base CX0 (j + 1) T.a_bent T.d_bent ["_law_box", "_law_some"] (sp_bent K n) := by
  have G_take := ok_take (P := P) (w := w) (base := base) T
  have G_odd := ok_odd (P := P) (w := w) (base := base) T
  refine Grd.mk T.F_bent scbent (fun vs H Q E h => ?_) (fun cdv A outer st H vs Q E gd hr h => ?_)
  · obtain ⟨b, c, v, d, S, rfl, _⟩ := h
    rfl
  obtain ⟨b, c, v, d, S, rfl, hS0, bx0, hc, hv, hok, hlb, hd, q⟩ := h
  have hb := hS0.1
  refine ⟨_, (pss_cons (ps_if (PW.pt (pw_or (pt_not (pt_val (pe_callB call_isiT (by rfl) T.n_isinstance (by decide +kernel) (pa_cons (pv 1) (pa_cons (pe_tup (pa_cons (pe_bltn (v := .ty "tuple") (by rfl) T.n_tuple (by decide +kernel) rfl) (pa_cons (pe_bltn (v := .ty "list") (by rfl) T.n_list (by decide +kernel) rfl) pa_nil))) pa_nil))))) (pw_or (pt_cmpR op_eq (pe_callB call_len_seq (by rfl) T.n_len PySem.boot_len (pa_cons (pv 1) pa_nil)) pe_int (nomark _)) (pw_or1 (pt_cmpR op_eq (pe_callG G_take gd (hr.mono (by first | decide | omega)) rfl T.g_take T.F_take.kp T.b_take .nil pass0 (pa_cons (pv 0) (pa_cons pe_int pa_nil))) pe_int (nomark _)))))) (pss_one (ps_ret (pe_callG G_odd gd (hr.mono (by first | decide | omega)) rfl T.g_odd T.F_odd.kp T.b_odd .nil pass0 (pa_cons (pv 0) (pa_cons (pv 1) pa_nil))))) pss_nil)
      (pss_cons (ps_par3 (i := 2) (j := 3) (l := 4) (by rfl) scbent.nd rfl rfl rfl (by decide) (by decide) (by decide) rfl rfl rfl (pa_cons (pe_callG G_take gd (hr.mono (by first | decide | omega)) rfl T.g_take T.F_take.kp T.b_take .nil pass0 (pa_cons (pv 0) (pa_cons (pe_callB call_len_seq (by rfl) T.n_len PySem.boot_len (pa_cons (pv 1) pa_nil)) pa_nil))) (pa_cons (pe_callG G_take gd (hr.mono (by first | decide | omega)) rfl T.g_take T.F_take.kp T.b_take .nil pass0 (pa_cons (pv 0) (pa_cons pe_int pa_nil))) (pa_cons (pe_callTy call_list_of (by rfl) T.n_list (by decide +kernel) (pa_cons (pv 1) pa_nil)) pa_nil))) (by rfl))
      (Evl.pss_cut (ps_if (pt_cmpR op_lt (pv 3) pe_int (nomark _)) (pss_one (ps_asg (pe_callG G_bent gd (hr.mono (by first | decide | omega)) rfl T.g_bent T.F_bent.kp T.b_bent .nil pass0 (pa_cons (pv 0) (pa_cons (pe_ix ix_list (pv 4) (pv 2) (fun _ _ => rfl)) pa_nil))) (pg_sub (pv 4) (pv 2) set_list))) (pss_one (ps_if (pt_cmpR op_eq (pv 3) pe_int (nomark _)) (pss_one (ps_expr (pe_bm PySem.F.plainAttrs_list PySem.F.slot_list_pop PySem.F.type_list_pop mt_popAt (pv 4) (pa_cons (pv 2) pa_nil)))) (pss_one (ps_if (pt_cmpR op_eq (pv 3) pe_int (nomark _)) (pss_one (ps_expr (pe_bm PySem.F.plainAttrs_list PySem.F.slot_list_insert PySem.F.type_list_insert mt_insert (pv 4) (pa_cons (pv 2) (pa_cons (pe_ix ix_list (pv 4) (pv 2) (fun _ _ => rfl)) pa_nil))))) (pss_one (ps_if (pt_cmpR op_eq (pv 3) pe_int (nomark _)) (pss_one (ps_set (i := 4) scbent.nd rfl (Or.inl rfl) (pe_revL (pv 4)))) pss_nil)))))))
      (pss_one (ps_ret (pe_ifExp (pt_cmpR op_eq (pv 3) pe_int (nomark _)) (pv 4) (pe_callTy call_tuple_of (by rfl) T.n_tuple (by decide +kernel) (pa_cons (pv 4) pa_nil)))))))), ?_⟩
  refine ⟨_, rfl, (by show 2 ≤ sizeLine; decide), fun tp htp => ?_⟩
  obtain ⟨ntp, e1, k1, bx1, bu1, hS1⟩ := alloc_off (o := .tup [.ty "tuple", .ty "list"]) hS0 bx0 htp
  have kt : (upd H tp (.tup [.ty "tuple", .ty "list"])) tp = some (.tup [.ty "tuple", .ty "list"]) := upd_same
  generalize upd H tp (.tup [.ty "tuple", .ty "list"]) = H1 at e1 k1 bx1 bu1 kt hS1
  have hv1 : Dp K (off H1 S) v d := Dp.ex e1 _ _ hv
  refine ⟨_, tp, _, _, _, _, rfl, kt, .cons (.ty _) (.cons (.ty _) .nil), dp_ty (Dp.ex (off_le _ _) _ _ hv1), isi_seq d, _, rfl, ?_⟩
  have fin : ∀ {cx : Nat} {Hx H' : Hp} {u : V} {e : PyData}, cx ≤ c + 1 → But b H Hx → Gd e (d.weight + 60) (d.depth + 3) → Dp K (off H' S) u e → But b Hx H' → Bx H' b (cx + 1) → Q u H' := fun hcx bux g r bu bx => by
    obtain ⟨o1, o2, o3⟩ := gd_ok1 g
    exact q _ _ _ o1 (by omega) o3 r (bux.trans bu) (bx.mono (by omega))
  cases hs : isSeq d with
  | false => exact ⟨_, rfl, _, rfl, b, c, v, d, d.weight, d.depth, S, rfl, hS1, bx1, by omega, hv1, ok1_gd hok, fun u e H' g r bu bx => fin (Nat.le_succ c) bu1 g r bu bx⟩
  | true =>
    obtain ⟨a, xs, ds, rfl, sq, hx, hds⟩ := seq_of hv hs
    have lx := DpAll.len hx
    have sq1 : SqL K H1 a xs ∨ SqT K H1 a xs := sq.imp (fun z => ex_l (e1.trans (off_le _ _)) z) (fun z => ex_t (e1.trans (off_le _ _)) z)
    refine ⟨_, rfl, a, _, rfl, sq1, rfl, _, rfl, ?_⟩
    have l0 : decide (V.int ((xs.length : Nat) : Int) = V.int 0) = decide (xs.length = 0) := len_dec xs.length 0
    rw [l0]
    by_cases hz : xs.length = 0
    · rw [decide_eq_true hz]
      exact ⟨_, rfl, _, rfl, b, c, .ref a, d, d.weight, d.depth, S, rfl, hS1, bx1, by omega, hv1, ok1_gd hok, fun u e H' g r bu bx => fin (Nat.le_succ c) bu1 g r bu bx⟩
    rw [decide_eq_false hz]
    refine ⟨_, rfl, b, 6, c, rfl, bx1, by omega, by decide, by decide, fun r H2 r0 r1 bu2 bx2 => ⟨rfl, _, rfl, ite2 (fun _ => ?_) (fun _ => ?_)⟩⟩
    · exact ⟨_, rfl, _, rfl, b, c + 1, .ref a, d, d.weight, d.depth, S, rfl, hSb bu2 bx2 hS1, bx2, by omega, Dp.ex (bu2.off hb) _ _ hv1, ok1_gd hok, fun u e H' g r bu bx => fin (Nat.le_refl _) (bu1.trans bu2) g r bu bx⟩
    have e02 := e1.trans (bu2.off hb)
    have wlen : xs.length ≤ 900 := by
      rcases hds with rfl | rfl <;> (simp only [lb, Bool.and_eq_true, decide_eq_true_eq] at hlb; omega)
    have sq2 : SqL K H2 a xs ∨ SqT K H2 a xs := sq.imp (fun z => ex_l (e02.trans (off_le _ _)) z) (fun z => ex_t (e02.trans (off_le _ _)) z)
    refine ⟨_, rfl, _, rfl, a, _, rfl, sq2, b, _, c + 1, rfl, bx2, by omega, by omega, by omega, fun at_ H3 at0 at1 bu3 bx3 => ?_⟩
    have e03 := e02.trans (bu3.off hb)
    refine ⟨_, rfl, b, 8, c + 1 + 1, rfl, bx3, by omega, by decide, by decide, fun wy H4 wy0 wy1 bu4 bx4 => ?_⟩
    have e04 := e03.trans (bu4.off hb)
    have sq4 : SqL K H4 a xs ∨ SqT K H4 a xs := sq.imp (fun z => ex_l (e04.trans (off_le _ _)) z) (fun z => ex_t (e04.trans (off_le _ _)) z)
    refine ⟨_, rfl, a, _, rfl, sq4, fun l hl => ⟨_, _, _, rfl, ?_⟩⟩
    obtain ⟨nl, e5, k5, bx5, bu5, hS5⟩ := alloc_off (o := .lst xs) (hSb bu4 bx4 (hSb bu3 bx3 (hSb bu2 bx2 hS1))) bx4 hl
    generalize upd H4 l (.lst xs) = H5 at e5 k5 bx5 bu5 hS5
    have e05 := e04.trans e5
    have bu05 := (((bu1.trans bu2).trans bu3).trans bu4).trans bu5
    have hx5 : DpAll K (off H5 S) xs ds := DpAll.ex e05 _ _ hx
    have dw : d.weight = PyData.weightAll ds := by rcases hds with rfl | rfl <;> simp only [PyData.weight]
    have dde : d.depth = PyData.depthAll ds + 1 := by rcases hds with rfl | rfl <;> simp only [PyData.depth]
    have dlb : lbAll ds = true := by rcases hds with rfl | rfl <;> (simp only [lb, Bool.and_eq_true] at hlb; exact hlb.2)
    have dok : ∀ e ∈ ds, ok1 e = true := by
      have z : wdAll ds = true ∧ PyData.showableAll ds = true ∧ PyData.leavesShortAll 13 ds = true := by
        rcases hds with rfl | rfl <;> (simp only [ok1, wd, PyData.showable, PyData.leavesShort, Bool.and_eq_true] at hok; exact ⟨hok.1.2, hok.2⟩)
      rw [wdA, showA, leavA] at z
      intro e he
      simp only [ok1, List.all_eq_true.mp z.1 e he, List.all_eq_true.mp z.2.1 e he, List.all_eq_true.mp z.2.2 e he, Bool.and_self]
    have dde2 : ∀ e ∈ ds, e.depth ≤ d.depth + 2 := fun e he => by
      obtain ⟨i, hi, rfl⟩ := List.getElem_of_mem he
      have := depth_in (List.getElem?_eq_getElem hi)
      omega
    obtain ⟨i, rfl⟩ : ∃ i : Nat, at_ = (i : Int) := ⟨at_.toNat, by omega⟩
    have hi : i < xs.length := by omega
    obtain ⟨x, hxi⟩ : ∃ x, xs[i]? = some x := ⟨_, List.getElem?_eq_getElem hi⟩
    obtain ⟨dx, hdi, rx⟩ := dp_pick hx5 hxi
    have hl5 : H5 l = some (.lst xs) := off_le _ _ _ _ k5
    refine ⟨fun σ' H' => ∃ (l' : Addr) (xs' : List V) (ds' : List PyData), σ' = [some (.ref b), some (.ref a), some (.int ((i : Nat) : Int)), some (.int wy), some (.ref l')] ∧ off H' S l' = some (.lst xs') ∧ DpAll K (off H' S) xs' ds' ∧ (∀ e ∈ ds', ok1 e = true) ∧ ds'.length ≤ 901 ∧ PyData.weightAll ds' ≤ 2 * PyData.weightAll ds + 60 ∧ (∀ e ∈ ds', e.depth ≤ d.depth + 2) ∧ But b H H' ∧ Bx H' b (c + 4 * (n + 1)) ∧ (S b = true ∧ ∀ a, S a = true → H' a ≠ none), ?_, ?_⟩
    · refine ⟨_, rfl, _, _, rfl, rfl, _, rfl, ite2 (fun _ => ?wayA) (fun _ => ⟨_, rfl, rfl, _, rfl, ite2 (fun _ => ?wayB) (fun _ => ⟨_, rfl, rfl, _, rfl, ite2 (fun _ => ?wayC) (fun _ => ⟨_, rfl, rfl, _, rfl, ite2 (fun _ => ?wayD) (fun _ => ?wayE)⟩)⟩)⟩)⟩
      case wayE => exact ⟨l, xs, ds, rfl, k5, hx5, dok, by omega, by omega, dde2, bu05, bx5.mono (by omega), hS5⟩
      case wayA =>
        have lb2 : b ≠ l := fun z => by rw [← z, hb] at nl; cases nl
        have hS2 : (fun a => S a || decide (a = l)) b = true ∧ ∀ a, (fun a => S a || decide (a = l)) a = true → H5 a ≠ none := by
          refine ⟨by simp only [hb, Bool.true_or], fun a ha => ?_⟩
          simp only [Bool.or_eq_true, decide_eq_true_eq] at ha
          rcases ha with ha | rfl
          · exact hS5.2 a ha
          · rw [hl5]; exact fun z => by cases z
        have eL : Ex (off H4 S) (off H5 (fun a => S a || decide (a = l))) := fun a o e => by
          have na : a ≠ l := fun z => by rw [z, off_ne nl, hl] at e; cases e
          cases sa : S a with
          | true => rw [off, if_pos sa] at e; cases e
          | false =>
            rw [off_ne (by simp only [sa, Bool.false_or, decide_eq_false na])]
            exact off_le _ _ _ _ (e5 a o e)
        have hxL := DpAll.ex (e04.trans eL) _ _ hx
        obtain ⟨dx2, hdi2, rx2⟩ := dp_pick hxL hxi
        have dpx := depth_in hdi2
        refine ⟨_, rfl, _, rfl, _, rfl, l, _, _, _, rfl, rfl, SqL.of hl5, atI_nat hxi, n - 1, by omega, b, _, x, dx2, _, rfl, hS2, bx5, by omega, rx2, dok dx2 (List.mem_of_getElem? hdi2), lb_at dlb hdi2, by omega, fun u e H6 o1 o2 o3 r bu6 bx6 => ?_⟩
        have hl6 : H6 l = some (.lst xs) := bu6 _ _ lb2.symm hl5
        refine ⟨_, rfl, _, rfl, l, _, _, i, rfl, rfl, hl6, Evl.ixN_nat hi, ?_⟩
        have e6 : Ex (off H5 (fun a => S a || decide (a = l))) (off H6 (fun a => S a || decide (a = l))) := bu6.off (S := fun a => S a || decide (a = l)) hS2.1
        have eU : Ex (off H6 (fun a => S a || decide (a = l))) (off (upd H6 l (.lst (xs.set i u))) S) := fun a o h => by
          by_cases z : (S a || decide (a = l)) = true
          · rw [off, if_pos z] at h; cases h
          · rw [off, if_neg z] at h
            have z1 : S a = false := by cases q : S a <;> simp_all
            have z2 : a ≠ l := fun q => z (by rw [q]; simp)
            rw [off_ne z1, upd_ne z2]; exact h
        refine ⟨l, xs.set i u, ds.set i e, rfl, by rw [off_upd nl]; exact upd_same, dpa_set i (DpAll.ex (e6.trans eU) _ _ hxL) (Dp.ex eU _ _ r), ?_, by rw [List.length_set]; omega, ?_, ?_, ?_, ?_, ?_⟩
        · intro g hg
          rcases List.mem_or_eq_of_mem_set hg with h | rfl
          · exact dok g h
          · exact o1
        · rw [weiA, weiA]
          have h1 := sum_set (fun d : PyData => d.weight + 1) ds i dx2 e hdi2
          have h2 := sum_at (fun d : PyData => d.weight + 1) ds i dx2 hdi2
          omega
        · intro g hg
          rcases List.mem_or_eq_of_mem_set hg with h | rfl
          · exact dde2 g h
          · omega
        · exact fun a o na h => by
            rw [upd_ne (fun z => by rw [z] at h; have := ((((bu1.trans bu2).trans bu3).trans bu4)) l o (by rw [← z]; exact na) h; rw [hl] at this; cases this)]
            exact (bu05.trans bu6) a o na h
        · obtain ⟨x, y, z, q1, q2⟩ := bx6.mono (show c + 1 + 1 + 1 + 4 * (n - 1 + 1) ≤ c + 4 * (n + 1) by omega)
          exact ⟨x, y, z, by rw [upd_ne lb2]; exact q1, q2⟩
        · refine ⟨hb, fun a ha => ?_⟩
          rw [upd_ne (fun z => by rw [z, nl] at ha; cases ha)]
          exact (hSb bu6 bx6 hS5).2 a ha
      case wayB =>
        have e6 : Ex (off H4 S) (off (upd H5 l (.lst (xs.eraseIdx i))) S) := by rw [off_upd nl]; exact e5.mut (by rw [off_ne nl]; exact hl)
        refine ⟨_, rfl, .inl ⟨rfl, _, SqL.of hl5⟩, _, rfl, l, xs, _, i, x, rfl, rfl, hl5, by omega, by omega, (ixN_seq (Evl.ixN_nat hi)).1, hxi, ?_⟩
        have lb2 : b ≠ l := fun z => by rw [← z, hb] at nl; cases nl
        refine ⟨l, xs.eraseIdx i, ds.eraseIdx i, rfl, by rw [off_upd nl, upd_same], dpa_erase i (DpAll.ex (e04.trans e6) _ _ hx), fun e he => dok e (List.mem_of_mem_eraseIdx he), ?_, ?_, fun e he => dde2 e (List.mem_of_mem_eraseIdx he), ?_, ?_, ?_⟩
        · have := List.length_eraseIdx_le ds i
          omega
        · rw [weiA, weiA]
          have := sum_erase (fun d : PyData => d.weight + 1) ds i
          omega
        · exact fun a o na e => by
            rw [upd_ne (fun z => by rw [z] at e; have := ((((bu1.trans bu2).trans bu3).trans bu4)) l o (by rw [← z]; exact na) e; rw [hl] at this; cases this)]
            exact bu05 a o na e
        · obtain ⟨x, y, z, q1, q2⟩ := bx5.mono (show c + 1 + 1 + 1 ≤ c + 4 * (n + 1) by omega)
          exact ⟨x, y, z, by rw [upd_ne lb2]; exact q1, q2⟩
        · refine ⟨hb, fun a ha => ?_⟩
          rw [upd_ne (fun z => by rw [z, nl] at ha; cases ha)]
          exact hS5.2 a ha
      case wayC =>
        have e6 : Ex (off H4 S) (off (upd H5 l (.lst (xs.take i ++ [x] ++ xs.drop i))) S) := by rw [off_upd nl]; exact e5.mut (by rw [off_ne nl]; exact hl)
        refine ⟨_, rfl, .inl ⟨rfl, _, SqL.of hl5⟩, _, rfl, _, rfl, _, rfl, l, _, _, _, rfl, rfl, SqL.of hl5, atI_nat hxi, l, xs, _, x, rfl, rfl, hl5, Evl.sz_lt (by omega), by omega, by omega, ?_⟩
        have lb2 : b ≠ l := fun z => by rw [← z, hb] at nl; cases nl
        have hx4 := DpAll.ex (e04.trans e6) _ _ hx
        obtain ⟨dx2, hdi2, rx2⟩ := dp_pick hx4 hxi
        have mem : ∀ e, e ∈ ds.take i ++ [dx2] ++ ds.drop i → e ∈ ds := fun e he => by
          rcases List.mem_append.mp he with he | he
          · rcases List.mem_append.mp he with he | he
            · exact List.mem_of_mem_take he
            · rw [List.mem_singleton.mp he]; exact List.mem_of_getElem? hdi2
          · exact List.mem_of_mem_drop he
        refine ⟨l, xs.take i ++ [x] ++ xs.drop i, ds.take i ++ [dx2] ++ ds.drop i, rfl, by rw [off_upd nl]; exact upd_same, DpAll.append (DpAll.append (dpa_take i hx4) (.cons rx2 .nil)) (dpa_drop i hx4), fun e he => dok e (mem e he), ?_, ?_, fun e he => dde2 e (mem e he), ?_, ?_, ?_⟩
        · simp only [List.length_append, List.length_take, List.length_drop, List.length_cons, List.length_nil]
          omega
        · rw [weiA, weiA]
          have h1 := sum_at (fun d : PyData => d.weight + 1) ds i dx2 hdi2
          have h2 : ((ds.take i).map fun d : PyData => d.weight + 1).sum + ((ds.drop i).map fun d : PyData => d.weight + 1).sum = (ds.map fun d : PyData => d.weight + 1).sum := by
            rw [← List.sum_append, ← List.map_append, List.take_append_drop]
          simp only [List.map_append, List.sum_append, List.map_cons, List.map_nil, List.sum_cons, List.sum_nil]
          omega
        · exact fun a o na e => by
            rw [upd_ne (fun z => by rw [z] at e; have := ((((bu1.trans bu2).trans bu3).trans bu4)) l o (by rw [← z]; exact na) e; rw [hl] at this; cases this)]
            exact bu05 a o na e
        · obtain ⟨x, y, z, q1, q2⟩ := bx5.mono (show c + 1 + 1 + 1 ≤ c + 4 * (n + 1) by omega)
          exact ⟨x, y, z, by rw [upd_ne lb2]; exact q1, q2⟩
        · refine ⟨hb, fun a ha => ?_⟩
          rw [upd_ne (fun z => by rw [z, nl] at ha; cases ha)]
          exact hS5.2 a ha
      case wayD =>
        refine ⟨_, rfl, l, xs, rfl, SqL.of hl5, fun p hp => ?_⟩
        obtain ⟨np, ep, kp, bxp, bup, hSp⟩ := alloc_off (o := .lst xs.reverse) hS5 bx5 hp
        refine ⟨p, xs.reverse, ds.reverse, rfl, kp, dpa_rev (DpAll.ex ep _ _ hx5), fun e he => dok e (List.mem_reverse.mp he), by rw [List.length_reverse]; omega, ?_, fun e he => dde2 e (List.mem_reverse.mp he), bu05.trans bup, bxp.mono (by omega), hSp⟩
        rw [weiA, weiA, List.map_reverse, List.sum_reverse]
        omega
    rintro σ' H6 ⟨l', xs', ds', rfl, hl', hx', o', n', w', p', bu', bx', hS'⟩
    obtain ⟨sl, st⟩ := ok1_seq o' (by omega)
    have pd := depA_le p'
    refine ⟨_, rfl, rfl, _, rfl, ?_⟩
    by_cases h7 : wy = 7
    · rw [decide_eq_true (show V.int wy = V.int 7 by rw [h7])]
      refine ⟨_, rfl, q _ (.list ds') _ sl (by simp only [PyData.weight]; omega) (by simp only [PyData.depth]; omega) (.lst (SqL.of hl') hx') bu' bx'⟩
    · rw [decide_eq_false (show ¬ V.int wy = V.int 7 from fun z => h7 (V.int.inj z))]
      refine ⟨_, rfl, l', _, rfl, .inl ⟨SqL.of (off_le _ _ _ _ hl'), fun t ht => ?_⟩⟩
      obtain ⟨nt, et, kt2, bxt, but, _⟩ := alloc_off (o := .tup xs') hS' bx' ht
      exact q _ (.tuple ds') _ st (by simp only [PyData.weight]; omega) (by simp only [PyData.depth]; omega) (.tup (SqT.of kt2) (DpAll.ex et _ _ hx')) (bu'.trans but) bxt
theorem ok_bent (T : Txt K mg) : ∀ n : Nat, Fn P w K mg base CX0 (4 + n) T.a_bent T.d_bent ["_law_box", "_law_some"] (sp_bent K n)
  | 0 => ok_bent_step T 0 3 (by omega) ⟨fun vs H Q E h => by obtain ⟨m, hm, _⟩ := h; omega, fun A outer s H args us vs Q E _ _ _ _ _ h => by obtain ⟨m, hm, _⟩ := h; omega⟩
  | n + 1 => by
    have G := ok_bent T n
    refine ok_bent_step T (n + 1) (4 + n) (by omega) ⟨fun vs H Q E h => ?_, fun A outer s H args us vs Q E g r e b v h => ?_⟩
    · obtain ⟨m, hm, h⟩ := h
      have : m = n := by omega
      subst this
      exact G.len _ _ _ _ h
    · obtain ⟨m, hm, h⟩ := h
      have : m = n := by omega
      subst this
      exact G.run A outer s H args us vs Q E g r e b v h
end
end K10

/-! repr of any datum without dicts -/
namespace Grd
open PySem L2
open Evl (Ex ex_t ex_l)
section
variable {X : Cx} {pins : List (Addr × Obj)} {σ : L2.St} {H : Hp} {s : Shared}
mutual
theorem readsD (I : Inv X pins σ H s) : ∀ (d : PyData) (v : V) (u : Value), Dp X.K H v d → RelV v u → ∃ as, Reads s.heap u d as
  | .none, _, _, h, r => by cases h; cases r; exact ⟨_, Reads.none⟩
  | .bool b, _, _, h, r => by cases h; cases r; exact ⟨_, Reads.bool b⟩
  | .int i, _, _, h, r => by cases h; obtain ⟨t, rfl⟩ := r; exact ⟨_, Reads.int i t⟩
  | .str x, _, _, h, r => by cases h; obtain ⟨t, rfl⟩ := r; exact ⟨_, Reads.str x t⟩
  | .tuple ds, _, _, h, r => by
    cases h with
    | tup hs ha =>
      cases r
      obtain ⟨its, rv, ⟨o, ho, hc, n, hd⟩, _⟩ := I.tuple hs
      obtain ⟨as, hr⟩ := readsDs I ds _ its ha rv
      exact ⟨_, Reads.tuple ho hc hd hr⟩
  | .list ds, _, _, h, r => by
    cases h with
    | lst hs ha =>
      cases r
      obtain ⟨its, rv, ⟨o, n, ho, hc, _, hd⟩, _⟩ := I.list hs
      obtain ⟨as, hr⟩ := readsDs I ds _ its ha rv
      exact ⟨_, Reads.list ho hc hd hr⟩
  | .dict ds, _, _, h, r => nomatch h
theorem readsDs (I : Inv X pins σ H s) : ∀ (ds : List PyData) (vs : List V) (us : List Value), DpAll X.K H vs ds → Vals vs us → ∃ as, ReadsAll s.heap us ds as
  | [], _, _, h, r => by cases h; cases r; exact ⟨_, ReadsAll.nil⟩
  | d :: ds, _, _, h, r => by
    cases h with
    | cons h1 h2 =>
      cases r with
      | cons r1 r2 =>
        obtain ⟨as, q1⟩ := readsD I d _ _ h1 r1
        obtain ⟨bs, q2⟩ := readsDs I ds _ _ h2 r2
        exact ⟨_, ReadsAll.cons q1 q2⟩
end
end
mutual
theorem noDict {K : PySem.W.Frag} {H : Hp} : ∀ (d : PyData) (v : V), Dp K H v d → d.hasDict = false
  | .none, _, h => by simp only [PyData.hasDict]
  | .bool b, _, h => by simp only [PyData.hasDict]
  | .int i, _, h => by simp only [PyData.hasDict]
  | .str x, _, h => by simp only [PyData.hasDict]
  | .tuple ds, _, h => by
    cases h with
    | tup hs ha => simp only [PyData.hasDict]; exact noDicts ds _ ha
  | .list ds, _, h => by
    cases h with
    | lst hs ha => simp only [PyData.hasDict]; exact noDicts ds _ ha
  | .dict ds, _, h => nomatch h
theorem noDicts {K : PySem.W.Frag} {H : Hp} : ∀ (ds : List PyData) (vs : List V), DpAll K H vs ds → PyData.hasDictAll ds = false
  | [], _, h => by simp only [PyData.hasDictAll]
  | d :: ds, _, h => by
    cases h with
    | cons h1 h2 => simp only [PyData.hasDictAll, noDict d _ h1, noDicts ds _ h2, Bool.or_self]
end
def rReprD (K : PySem.W.Frag) : List V → Hp → VK → Prop := fun vs H Q => ∃ (v : V) (d : PyData), vs = [v] ∧ Dp K H v d ∧
  d.showable = true ∧ d.depth ≤ 60 ∧ d.shown.length ≤ sizeLine ∧ Q (.str d.shown) H
theorem call_reprD {X : Cx} (gd : X.A.guards = some []) (hu : X.A.units + 64 < cLine) : CallR X (.builtin "repr") (rReprD X.K) := by
  intro pins s σ H vs us Q I r h
  obtain ⟨v, d, rfl, hv, hs, hd, hz, q⟩ := h
  have nd := noDict d v hv
  obtain ⟨u, rfl, ru⟩ := vals1 r
  obtain ⟨as, hr⟩ := readsD I d v u hv ru
  cases hr with
  | none => exact PySem.P.repr_of_none ⟨.str _, H, I.tok _, ⟨_, rfl⟩, q⟩
  | bool b => exact PySem.P.repr_of_bool ⟨.str _, H, I.tok _, ⟨_, by cases b <;> rfl⟩, q⟩
  | int i t => exact PySem.P.repr_of_int (by simpa only [PyData.showable, decide_eq_true_eq] using hs) ⟨.str _, H, I.tok _, ⟨_, rfl⟩, q⟩
  | str x t => exact PySem.P.repr_of_str ⟨.str _, H, I.tok _, ⟨_, rfl⟩, q⟩ hz
  | list a b c d => exact repr_of_reads' (Reads.list a b c d) hs (PyData.noDict_hsm nd) gd (by omega) (fun _ _ z => z) (fun h' u tk hk => ⟨.str _, H, I.kept hk, ⟨_, rfl⟩, q⟩) hz
  | tuple a b c d => exact repr_of_reads' (Reads.tuple a b c d) hs (PyData.noDict_hsm nd) gd (by omega) (fun _ _ z => z) (fun h' u tk hk => ⟨.str _, H, I.kept hk, ⟨_, rfl⟩, q⟩) hz
  | dict => simp only [PyData.hasDict] at nd; cases nd
end Grd

/-! K10: the things that are bent -/
namespace K10
open PySem L2 Grd RZ
open Evl (Ex ex_t ex_l ex_rd)
theorem len_wei : ∀ ds : List PyData, ds.length ≤ PyData.weightAll ds
  | [] => by simp only [PyData.weightAll, List.length_nil]; omega
  | d :: r => by have := len_wei r; simp only [PyData.weightAll, List.length_cons]; omega
mutual
theorem lb_w : ∀ d : PyData, d.weight ≤ 900 → lb d = true
  | .none, _ => by simp only [lb]
  | .bool _, _ => by simp only [lb]
  | .int _, _ => by simp only [lb]
  | .str _, _ => by simp only [lb]
  | .dict _, _ => by simp only [lb]
  | .list ds, h => by
    simp only [PyData.weight] at h
    have := len_wei ds
    simp only [lb, lb_wA ds h, Bool.and_true, decide_eq_true_eq]; omega
  | .tuple ds, h => by
    simp only [PyData.weight] at h
    have := len_wei ds
    simp only [lb, lb_wA ds h, Bool.and_true, decide_eq_true_eq]; omega
theorem lb_wA : ∀ ds : List PyData, PyData.weightAll ds ≤ 900 → lbAll ds = true
  | [], _ => by simp only [lbAll]
  | d :: r, h => by
    simp only [PyData.weightAll] at h
    simp only [lbAll, lb_w d (by omega), lb_wA r (by omega), Bool.and_self]
end
structure Ini (d : PyData) : Prop where
  t : tupOnly d = true
  o : ok1 d = true
  l : lb d = true
  w : d.weight ≤ 60000
  n : d.depth ≤ 10
theorem ok1_gdx {d : PyData} {a b : Nat} (h : Gd d a b) : ok1 d = true := (gd_ok1 h).1
theorem gd_int {i : Int} (h : 0 ≤ i ∧ i ≤ 1000) : Gd (.int i) 12 0 := ⟨by simp only [wd], fine_int h⟩
theorem gd_non : Gd .none 12 0 := ⟨by simp only [wd], ⟨by simp only [PyData.showable], by simp only [PyData.leavesShort], by simp only [PyData.weight]; omega, by simp only [PyData.depth]; omega⟩⟩
theorem gd_opt {o : Option Int} (h : ∀ n, o = some n → 0 ≤ n ∧ n ≤ 1000) : Gd (optD o) 12 0 := by
  cases o with
  | none => exact gd_non
  | some n => exact gd_int (h n rfl)
theorem ok1_strs {ss : List Str} {n : Nat} (h : ∀ s ∈ ss, Sg n s) (hn : n ≤ 1000) : ∀ d ∈ ss.map PyData.str, ok1 d = true := by
  intro d hd
  obtain ⟨s, hs, rfl⟩ := List.mem_map.mp hd
  exact ok1_gdx (gd_str (h s hs) hn)
theorem ini_ro {r : Ro} (h : RoOk r) : Ini (roD r) := by
  have f := fine_ro h
  have l := h.l
  have we := f.we
  have de := f.de
  refine ⟨to_ro r, ?_, lb_w _ (by omega), by omega, by omega⟩
  refine (ok1_seq ?_ (by show 2 ≤ 1000; decide)).2
  intro d hd
  rcases List.mem_cons.mp hd with rfl | hd
  · exact (ok1_seq (ok1_strs h.t (by decide)) (by rw [List.length_map]; omega)).2
  · rw [List.mem_singleton.mp hd]
    exact ok1_gdx (gd_opt h.n)
theorem ok1_word (s : Str) (h : (decide (s.length ≤ 6) && s.cps.toList.all fun c => decide (c < 0x110000)) = true) : ok1 (.str s) = true := ok1_gdx (gd_str (sgw s 6 h) (by decide))
theorem kd_ol : ∀ {k : Kd}, KdOk k → ok1 (kdD k) = true ∧ lb (kdD k) = true
  | .num, _ => ⟨ok1_word "number" (by decide +kernel), by simp only [kdD, lb]⟩
  | .any n, h => by
    refine ⟨(ok1_seq ?_ (by show 2 ≤ 1000; decide)).2, by simp only [kdD, lb, lbAll]; rfl⟩
    intro d hd
    simp only [List.mem_cons, List.not_mem_nil, or_false] at hd
    rcases hd with rfl | rfl
    · exact ok1_word "any" (by decide +kernel)
    · exact ok1_gdx (gd_int h)
  | .pair a b, h => by
    have ha := kd_ol h.1
    have hb := kd_ol h.2
    refine ⟨(ok1_seq ?_ (by show 3 ≤ 1000; decide)).2, by simp only [kdD, lb, lbAll, ha.2, hb.2]; rfl⟩
    intro d hd
    simp only [List.mem_cons, List.not_mem_nil, or_false] at hd
    rcases hd with rfl | rfl | rfl
    · exact ok1_word "pair" (by decide +kernel)
    · exact ha.1
    · exact hb.1
  | .fn a r b, h => by
    have ha := kd_ol h.1
    have hb := kd_ol h.2.2
    have hr := ini_ro h.2.1
    refine ⟨(ok1_seq ?_ (by show 4 ≤ 1000; decide)).2, by simp only [kdD, lb, lbAll, ha.2, hb.2, hr.l]; rfl⟩
    intro d hd
    simp only [List.mem_cons, List.not_mem_nil, or_false] at hd
    rcases hd with rfl | rfl | rfl | rfl
    · exact ok1_word "fun" (by decide +kernel)
    · exact ha.1
    · exact hr.o
    · exact hb.1
theorem ini_kd {k : Kd} (h : KdOk k) (n : dep k ≤ 8) : Ini (kdD k) := by
  have f := fine_kdN h n
  have we := f.we
  have de := f.de
  exact ⟨to_kd k, (kd_ol h).1, (kd_ol h).2, by omega, by omega⟩
theorem fine_ok1A {ds : List PyData} (h : ∀ d ∈ ds, ok1 d = true) : True := trivial
/-- a deed said eight times -/
theorem ini_rep {s : Str} (h : Sg 6 s) (m : Nat) (hm : m ≤ 9) : Ini (.tuple [.tuple ((List.replicate m s).map PyData.str), .none]) := by
  have hh : ∀ x ∈ List.replicate m s, Sg 6 x := fun x hx => by rw [List.eq_of_mem_replicate hx]; exact h
  have f : Fine (.tuple ((List.replicate m s).map PyData.str)) 63 1 := fine_tup ((fine_strs hh).mono (by rw [List.length_replicate]; omega) (Nat.le_refl _))
  have g := fine_tup (fine_cons f (fine_cons (gd_non.f.mono (Nat.le_refl _) (by omega)) fine_nil))
  have we := g.we
  have de := g.de
  refine ⟨by simp only [tupOnly, tupOnlyAll, to_strs, Bool.and_self], ?_, lb_w _ (by omega), by omega, by omega⟩
  refine (ok1_seq ?_ (by show 2 ≤ 1000; decide)).2
  intro d hd
  simp only [List.mem_cons, List.not_mem_nil, or_false] at hd
  rcases hd with rfl | rfl
  · exact (ok1_seq (ok1_strs hh (by decide)) (by rw [List.length_map, List.length_replicate]; omega)).2
  · exact ok1_gdx gd_non
/-- a row of a sheet -/
structure RowOk (d : PyData) : Prop where
  t : tupOnly d = true
  o : ok1 d = true
  l : lb d = true
  w : d.weight ≤ 600
  n : d.depth ≤ 5
theorem row_ok {s : Str} {x y : PyData} (h : Sg 6 s) (tx : tupOnly x = true) (ty : tupOnly y = true) (gx : Gd x 248 4) (gy : Gd y 248 4) : RowOk (.tuple [.str s, x, y]) := by
  have g := fine_tup (fine_cons ((fine_str h).mono (Nat.le_refl _) (by omega)) (fine_cons gx.f (fine_cons gy.f fine_nil)))
  have we := g.we
  have de := g.de
  refine ⟨by simp only [tupOnly, tupOnlyAll, tx, ty, Bool.and_self], ?_, lb_w _ (by omega), by omega, by omega⟩
  refine (ok1_seq ?_ (by show 3 ≤ 1000; decide)).2
  intro d hd
  simp only [List.mem_cons, List.not_mem_nil, or_false] at hd
  rcases hd with rfl | rfl | rfl
  · exact ok1_gdx (gd_str h (by decide))
  · exact ok1_gdx gx
  · exact ok1_gdx gy
theorem toA : ∀ ds : List PyData, tupOnlyAll ds = ds.all tupOnly
  | [] => by simp only [tupOnlyAll, List.all_nil]
  | d :: r => by simp only [tupOnlyAll, List.all_cons, toA r]
theorem lbA : ∀ ds : List PyData, lbAll ds = ds.all lb
  | [] => by simp only [lbAll, List.all_nil]
  | d :: r => by simp only [lbAll, List.all_cons, lbA r]
theorem wei_le {ds : List PyData} {m : Nat} (h : ∀ d ∈ ds, d.weight ≤ m) : PyData.weightAll ds ≤ ds.length * (m + 1) := by
  induction ds with
  | nil => simp only [PyData.weightAll]; omega
  | cons x r ih =>
    have h1 := ih fun d hd => h d (List.mem_cons_of_mem _ hd)
    have h2 := h x (List.mem_cons_self ..)
    simp only [PyData.weightAll, List.length_cons, Nat.succ_mul]
    omega
theorem ini_sheet {ds : List PyData} (h : ∀ d ∈ ds, RowOk d) (l : ds.length ≤ 6) : Ini (.tuple ds) := by
  have w := wei_le (m := 600) fun d hd => (h d hd).w
  have n := depA_le (n := 5) fun d hd => (h d hd).n
  refine ⟨by simp only [tupOnly, toA]; exact List.all_eq_true.mpr fun d hd => (h d hd).t, (ok1_seq (fun d hd => (h d hd).o) (by omega)).2, ?_, ?_, ?_⟩
  · simp only [lb, lbA, Bool.and_eq_true, decide_eq_true_eq]
    exact ⟨by omega, List.all_eq_true.mpr fun d hd => (h d hd).l⟩
  · simp only [PyData.weight]
    have : ds.length * 601 ≤ 6 * 601 := Nat.mul_le_mul_right _ l
    omega
  · simp only [PyData.depth]; omega
theorem toAll {ds : List PyData} (h : ∀ d ∈ ds, Ini d) : tupOnlyAll ds = true := by rw [toA]; exact List.all_eq_true.mpr fun d hd => (h d hd).t
end K10

/-! K10: right -/
namespace K10
open PySem L2 Grd RZ
open Evl (Ex ex_t ex_l ex_rd)
theorem cut_strs (ys : List Str) (lo hi : Option Int) : ∃ zs : List Str, cutV (ys.map V.str) lo hi = zs.map V.str ∧ zs.length ≤ ys.length ∧ ∀ s ∈ zs, s ∈ ys := by
  have h := cutV_length (ys.map V.str) lo hi
  unfold cutV at *
  rw [← List.map_drop, ← List.map_take] at *
  exact ⟨_, rfl, by simpa using h, fun s hs => List.mem_of_mem_drop (List.mem_of_mem_take hs)⟩
theorem ts_set {K : PySem.W.Frag} {H : Hp} {D : Addr} {xs ys : List V} (h : H D = some (.lst xs)) : Ts K H (upd H D (.lst ys)) := by
  rintro a zs ((q | ⟨o, q⟩) | q)
  · exact .inl (.inl (by rw [upd_ne (fun z => by rw [z, h] at q; cases q)]; exact q))
  · exact .inl (.inr ⟨o, by rw [upd_ne (fun z => by rw [z, h] at q; cases q)]; exact q⟩)
  · exact .inr q
theorem but_set {b D : Addr} {H H' : Hp} {o : HO} (hD : H D = none) (bu : But b H H') : But b H (upd H' D o) := fun a u na e => by
  rw [upd_ne (fun z => by rw [z, hD] at e; cases e)]
  exact bu a u na e
theorem bx_set {b D : Addr} {H : Hp} {c : Nat} {o : HO} (n : D ≠ b) (h : Bx H b c) : Bx (upd H D o) b c := by
  obtain ⟨x, y, z, q1, q2⟩ := h
  exact ⟨x, y, z, by rw [upd_ne n.symm]; exact q1, q2⟩
theorem bx_new {b D : Addr} {H : Hp} {c : Nat} (h : Bx H b c) (hD : H D = none) : D ≠ b := by
  obtain ⟨x, y, z, q1, q2⟩ := h
  exact fun z => by rw [z, q1] at hD; cases hD
theorem rowA {ds : List PyData} (h : ∀ d ∈ ds, RowOk d) : tupOnlyAll ds = true := by rw [toA]; exact List.all_eq_true.mpr fun d hd => (h d hd).t
theorem mem_snoc {α : Type} {P : α → Prop} {l : List α} {x : α} (h : ∀ d ∈ l, P d) (hx : P x) : ∀ d ∈ l ++ [x], P d := fun d hd => by
  rcases List.mem_append.mp hd with h1 | h1
  · exact h d h1
  · rw [List.mem_singleton.mp h1]; exact hx
theorem cut_one (s : Str) (r : List V) : cutV (V.str s :: r) none (some 1) = [V.str s] := by
  show cutV (V.str s :: r) none (some ((1 : Nat) : Int)) = [V.str s]
  unfold cutV
  rw [HT.sIx_none, HT.sIx_nat, List.drop_zero, List.length_cons, Nat.min_eq_left (by omega)]
  rfl
theorem iniA {ds : List PyData} (h : ∀ d ∈ ds, Ini d) : tupOnlyAll ds = true := toAll h
theorem off_in {H : Hp} {D : Addr} {o : HO} {S : ASet} (h : S D = true) : off (upd H D o) S = off H S := by
  funext a
  by_cases e : S a = true
  · unfold off; rw [if_pos e, if_pos e]
  · have n : a ≠ D := fun z => e (by rw [z]; exact h)
    unfold off
    rw [if_neg e, if_neg e, upd_ne n]
theorem off_sub {H : Hp} {S S2 : ASet} (h : ∀ a, S a = true → S2 a = true) : Ex (off H S2) (off H S) := fun a o e => by
  cases z : S2 a with
  | true => rw [off, if_pos z] at e; cases e
  | false =>
    rw [off_ne z] at e
    have : S a = false := by
      cases y : S a with
      | false => rfl
      | true => rw [h a y] at z; cases z
    rw [off_ne this]
    exact e
structure Fin2 (d : PyData) : Prop where
  o : ok1 d = true
  w : d.weight ≤ 130000
  n : d.depth ≤ 13
theorem Ini.fin {d : PyData} (h : Ini d) : Fin2 d := ⟨h.o, Nat.le_trans h.w (by decide), Nat.le_trans h.n (by decide)⟩
abbrev S1 (b : Addr) : ASet := fun a => decide (a = b)
abbrev S2 (b D : Addr) : ASet := fun a => decide (a = b) || decide (a = D)
theorem s1_b (b : Addr) : S1 b b = true := decide_eq_true rfl
theorem s2_b (b D : Addr) : S2 b D b = true := by simp
theorem s2_D (b D : Addr) : S2 b D D = true := by simp
theorem s1_s2 (b D a : Addr) (h : S1 b a = true) : S2 b D a = true := by simp_all
theorem s1_l {H : Hp} {b : Addr} {c : Nat} (bx : Bx H b c) : ∀ a, S1 b a = true → ∃ xs, H a = some (.lst xs) := fun a ha => by
  obtain ⟨x, y, z, q, _⟩ := bx
  rw [of_decide_eq_true ha]
  exact ⟨_, q⟩
theorem s2_l {H : Hp} {b D : Addr} {c : Nat} {us : List V} (bx : Bx H b c) (k : H D = some (.lst us)) : ∀ a, S2 b D a = true → ∃ xs, H a = some (.lst xs) := fun a ha => by
  obtain ⟨x, y, z, q, _⟩ := bx
  simp only [S2, Bool.or_eq_true, decide_eq_true_eq] at ha
  rcases ha with rfl | rfl
  · exact ⟨_, q⟩
  · exact ⟨_, k⟩
theorem rep3 (a b c : Bool) : (PyData.list [.bool a, .bool b, .bool c]).showable = true ∧ (PyData.list [.bool a, .bool b, .bool c]).depth ≤ 60 ∧ (PyData.list [.bool a, .bool b, .bool c]).shown.length ≤ sizeLine := by
  cases a <;> cases b <;> cases c <;> decide +kernel
def sp_right (K : PySem.W.Frag) : Sp := fun vs H Q _ => ∃ b : Addr, vs = [.ref b] ∧ Bx H b 0 ∧ ∀ H', But b H H' → Q (.bl true) H'
section
variable {P : Program} {w : World} {K : PySem.W.Frag} {mg : Str → Option Value} {base : Heap}
theorem ok_right (T : Txt K mg) : Fn P w K mg base CX0 21 T.a_right T.d_right ["_law_box"] (sp_right K) := by
  have G_take := ok_take (P := P) (w := w) (base := base) T
  have G_named := ok_named (P := P) (w := w) (base := base) T
  have G_plain := ok_plain (P := P) (w := w) (base := base) T 4
  have G_kind := ok_kind (P := P) (w := w) (base := base) T 8
  have G_roster := ok_roster (P := P) (w := w) (base := base) T
  have G_bent := ok_bent (P := P) (w := w) (base := base) T 10
  have G_is_it := ok_is_it (P := P) (w := w) (base := base) T 13
  have G_is_ros := ok_is_ros (P := P) (w := w) (base := base) T
  have G_is_sheet := ok_is_sheet (P := P) (w := w) (base := base) T
  have G_p_is_kind := ok_p_is_kind (P := P) (w := w) (base := base) T 13
  have G_p_is_roster := ok_p_is_roster (P := P) (w := w) (base := base) T
  have G_p_is_sheet := ok_p_is_sheet (P := P) (w := w) (base := base) T 13
  refine Grd.mk T.F_right scright (fun vs H Q E h => ?_) (fun cdv A outer st H vs Q E gd hr h => ?_)
  · obtain ⟨b, rfl, _⟩ := h
    rfl
  obtain ⟨b, rfl, bx0, q⟩ := h
  refine ⟨_, (pss_cons (ps_set (i := 1) scright.nd rfl (Or.inr rfl) (pe_callB cr_sortedS (by rfl) T.n_sorted (by decide +kernel) (pa_cons (pe_callG G_named gd (hr.mono (by first | decide | omega)) rfl T.g_named T.F_named.kp T.b_named .nil pass0 (pa_cons (pv 0) (pa_cons pe_int pa_nil))) pa_nil)))
      (Evl.pss_cut (ps_set (i := 2) scright.nd rfl (Or.inl rfl) (pe_callTy call_tuple_of (by rfl) T.n_tuple (by decide +kernel) (pa_cons (pe_lc (own := [("_law_deed", 7)]) (by rfl) scright.nd (pi_list (pe_slice sl_list (pv 1) po_none (po_some (pe_callG G_take gd (hr.mono (by first | decide | omega)) rfl T.g_take T.F_take.kp T.b_take .nil pass0 (pa_cons (pv 0) (pa_cons pe_int pa_nil)))))) (blkOk_by (own := [("_law_deed", 7)]) (N := ["_law_box", "_law_deeds", "_law_sheet_now", "_law_some", "_law_one", "_law_kept", "_law_due", "_law_deed", "_law_turn"]) (sc := defScope s_right) (by decide +kernel)) (fun _ _ _ _ _ => (pg_name (i := 7) scright.nd rfl (Or.inl rfl))) (fun _ _ _ _ _ => pts_nil) (fun _ _ _ _ _ => (pe_tup (pa_cons (pv 7) (pa_cons (pe_callG G_plain gd (hr.mono (by first | decide | omega)) rfl T.g_plain T.F_plain.kp T.b_plain .nil pass0 (pa_cons (pv 0) (pa_cons pe_int pa_nil))) (pa_cons (pe_callG G_plain gd (hr.mono (by first | decide | omega)) rfl T.g_plain T.F_plain.kp T.b_plain .nil pass0 (pa_cons (pv 0) (pa_cons pe_int pa_nil))) pa_nil)))))) pa_nil)))
      (Evl.pss_cut (ps_setLc (i := 3) (own := [("_law_turn", 8)]) (by rfl) scright.nd rfl rfl (sw_true rfl rfl rfl (by decide +kernel)) (pi_range1 (by rfl) T.n_range (pa_cons pe_int pa_nil)) (blkOk_by (own := [("_law_turn", 8)]) (N := ["_law_box", "_law_deeds", "_law_sheet_now", "_law_some", "_law_one", "_law_kept", "_law_due", "_law_deed", "_law_turn"]) (sc := defScope s_right) (by decide +kernel)) (fun _ _ _ _ _ => (pg_name (i := 8) scright.nd rfl (Or.inl rfl))) (fun _ _ _ _ _ => pts_nil) (fun _ _ _ _ _ => (pe_callG G_kind gd (hr.mono (by first | decide | omega)) rfl T.g_kind T.F_kind.kp T.b_kind .nil pass0 (pa_cons (pv 0) (pa_cons (pv 1) (pa_cons (pe_op op_add pe_int (pe_callG G_take gd (hr.mono (by first | decide | omega)) rfl T.g_take T.F_take.kp T.b_take .nil pass0 (pa_cons (pv 0) (pa_cons pe_int pa_nil)))) (pa_cons pe_int pa_nil)))))))
      (pss_cons (ps_set (i := 3) scright.nd rfl (Or.inl rfl) (pe_op op_cat (pv 3) (pe_lst (pa_cons (pe_callG G_roster gd (hr.mono (by first | decide | omega)) rfl T.g_roster T.F_roster.kp T.b_roster .nil pass0 (pa_cons (pv 0) (pa_cons (pv 1) pa_nil))) (pa_cons (pe_callG G_roster gd (hr.mono (by first | decide | omega)) rfl T.g_roster T.F_roster.kp T.b_roster .nil pass0 (pa_cons (pv 0) (pa_cons (pv 1) pa_nil))) (pa_cons (pv 2) (pa_cons (pe_tup (pa_cons (pe_callTy call_tuple_of (by rfl) T.n_tuple (by decide +kernel) (pa_cons (pe_op op_rep (pe_slice sl_list (pv 1) po_none (po_some pe_int)) pe_int) pa_nil)) (pa_cons pe_non pa_nil))) pa_nil)))))))
      (Evl.pss_cut (ps_expr (pe_bm PySem.F.plainAttrs_list PySem.F.slot_list_append PySem.F.type_list_append mt_append (pv 3) (pa_cons (pe_tup (pa_cons (pe_callTy call_tuple_of (by rfl) T.n_tuple (by decide +kernel) (pa_cons (pe_op op_rep (pe_slice sl_list (pv 1) po_none (po_some pe_int)) pe_int) pa_nil)) (pa_cons pe_non pa_nil))) pa_nil)))
      (Evl.pss_cut (ps_for PassesOwn.never rfl (pi_list (pe_callTy call_list_of (by rfl) T.n_list (by decide +kernel) (pa_cons (pv 3) pa_nil))) (pg_name (i := 4) scright.nd rfl (Or.inr rfl)) (pss_one (ps_set (i := 3) scright.nd rfl (Or.inl rfl) (pe_op op_cat (pv 3) (pe_lc (own := [("_law_turn", 8)]) (by rfl) scright.nd (pi_range1 (by rfl) T.n_range (pa_cons pe_int pa_nil)) (blkOk_by (own := [("_law_turn", 8)]) (N := ["_law_box", "_law_deeds", "_law_sheet_now", "_law_some", "_law_one", "_law_kept", "_law_due", "_law_deed", "_law_turn"]) (sc := defScope s_right) (by decide +kernel)) (fun _ _ _ _ _ => (pg_name (i := 8) scright.nd rfl (Or.inl rfl))) (fun _ _ _ _ _ => pts_nil) (fun _ _ _ _ _ => (pe_callG G_bent gd (hr.mono (by first | decide | omega)) rfl T.g_bent T.F_bent.kp T.b_bent .nil pass0 (pa_cons (pv 0) (pa_cons (pv 4) pa_nil)))))))))
      (pss_cons (ps_for PassesOwn.never rfl (pi_list (pv 3)) (pg_name (i := 4) scright.nd rfl (Or.inr rfl)) (pss_cons (ps_set (i := 5) scright.nd rfl (Or.inl rfl) (pe_callB (call_reprD gd hr.units) (by rfl) T.n_repr (by decide +kernel) (pa_cons (pv 4) pa_nil)))
      (pss_cons (ps_set (i := 6) scright.nd rfl (Or.inl rfl) (pe_lst (pa_cons (pe_callG G_is_it gd (hr.mono (by first | decide | omega)) rfl T.g_is_it T.F_is_it.kp T.b_is_it .nil pass0 (pa_cons (pv 4) pa_nil)) (pa_cons (pe_callG G_is_ros gd (hr.mono (by first | decide | omega)) rfl T.g_is_ros T.F_is_ros.kp T.b_is_ros .nil pass0 (pa_cons (pv 4) pa_nil)) (pa_cons (pe_callG G_is_sheet gd (hr.mono (by first | decide | omega)) rfl T.g_is_sheet T.F_is_sheet.kp T.b_is_sheet .nil pass0 (pa_cons (pv 4) pa_nil)) pa_nil)))))
      (pss_one (ps_if (PW.pt (pw_or (pt_cmpR op_ne (pe_callB (call_reprD gd hr.units) (by rfl) T.n_repr (by decide +kernel) (pa_cons (pe_lst (pa_cons (pe_callG G_p_is_kind gd (hr.mono (by first | decide | omega)) rfl T.g_p_is_kind T.F_p_is_kind.kp T.b_p_is_kind .nil pass0 (pa_cons (pv 4) pa_nil)) (pa_cons (pe_callG G_p_is_roster gd (hr.mono (by first | decide | omega)) rfl T.g_p_is_roster T.F_p_is_roster.kp T.b_p_is_roster .nil pass0 (pa_cons (pv 4) pa_nil)) (pa_cons (pe_callG G_p_is_sheet gd (hr.mono (by first | decide | omega)) rfl T.g_p_is_sheet T.F_p_is_sheet.kp T.b_p_is_sheet .nil pass0 (pa_cons (pv 4) pa_nil)) pa_nil)))) pa_nil)) (pe_callB (call_reprD gd hr.units) (by rfl) T.n_repr (by decide +kernel) (pa_cons (pv 6) pa_nil)) (nomark _)) (pw_or1 (pt_cmpR op_ne (pe_callB (call_reprD gd hr.units) (by rfl) T.n_repr (by decide +kernel) (pa_cons (pv 4) pa_nil)) (pv 5) (nomark _))))) (pss_one (ps_ret pe_bl)) pss_nil)))))
      (pss_one (ps_ret pe_bl))))))))), ?_⟩
  refine ⟨_, rfl, b, 6, 0, rfl, bx0, by decide, by decide, fun p H1 ss hp bu1 bx1 ls hss hpv => ⟨p, ss, rfl, SqL.of hpv, by omega, fun ys dl perm so hdl => ?_⟩⟩
  have ndb : dl ≠ b := by
    obtain ⟨x, y, z, hb, _⟩ := bx1
    exact fun z => by rw [z, hb] at hdl; cases hdl
  have e2 : Ex H1 (upd H1 dl (.lst (ys.map V.str))) := Ex.new hdl
  have k2 : (upd H1 dl (.lst (ys.map V.str))) dl = some (.lst (ys.map V.str)) := upd_same
  have bu2 : But b H (upd H1 dl (.lst (ys.map V.str))) := bu1.trans (But.of_ex e2)
  have bx2 := bx1.ex e2
  generalize upd H1 dl (.lst (ys.map V.str)) = H2 at e2 k2 bu2 bx2
  have ly : ys.length = 6 := by rw [perm.length_eq]; exact ls
  have hys : ∀ s ∈ ys, Sg 6 s := fun x hx => hss x (perm.mem_iff.mp hx)
  refine ⟨fun σ' H' => ∃ v2 dS, σ' = [some (.ref b), some (.ref dl), some v2, none, none, none, none, none, none] ∧ H' dl = some (.lst (ys.map V.str)) ∧ Dp K H' v2 dS ∧ Ini dS ∧ But b H H' ∧ Bx H' b 300, ?sheet, ?rest⟩
  case sheet =>
    refine ⟨_, rfl, _, rfl, b, 7, _, rfl, bx2, by decide, by decide, by decide, fun r H3 r0 r1 bu3 bx3 => ?_⟩
    have k3 : H3 dl = some (.lst (ys.map V.str)) := bu3 _ _ ndb k2
    refine ⟨r, rfl, dl, _, rfl, SqL.of k3, fun p4 hp4 => ?_⟩
    obtain ⟨zs, ez, lz, hz⟩ := cut_strs ys none (some r)
    rw [ez]
    have np4 := bx_new bx3 hp4
    have e4 : Ex H3 (upd H3 p4 (.lst (zs.map V.str))) := Ex.new hp4
    have k4 : (upd H3 p4 (.lst (zs.map V.str))) p4 = some (.lst (zs.map V.str)) := upd_same
    have bx4 : Bx (upd H3 p4 (.lst (zs.map V.str))) b 43 := bx3.ex e4
    have bu4 : But b H (upd H3 p4 (.lst (zs.map V.str))) := (bu2.trans bu3).trans (But.of_ex e4)
    have kd4 := e4 _ _ k3
    generalize upd H3 p4 (.lst (zs.map V.str)) = H4 at e4 k4 bx4 bu4 kd4
    refine ⟨p4, rfl, ⟨_, SqL.of k4⟩, fun D hD => ?_⟩
    have nD := bx_new bx4 hD
    refine lc_list (xs := zs.map V.str) (fun j H' => ∃ us ds, H' D = some (.lst us) ∧ us.length = j ∧ DpAll K H' us ds ∧ (∀ d ∈ ds, RowOk d) ∧ But b H4 H' ∧ Bx H' b (43 + 30 * j)) ?_ ?_ ?_ ?_
    · exact ⟨[], [], upd_same, rfl, .nil, by simp, But.of_ex (Ex.new hD), bx4.ex (Ex.new hD)⟩
    · rintro j H5 hj ⟨us, ds, _, _, _, _, bu5, _⟩
      exact bu5.sq np4 (SqL.of k4)
    · rintro j x H5 hx ⟨us, ds, hD5, lu, hp5, ok5, bu5, bx5⟩
      obtain ⟨s, hs, rfl⟩ := getS hx
      have hj : j < zs.length := (List.getElem?_eq_some_iff.mp hs).1
      have sg := hys s (hz s (List.mem_of_getElem? hs))
      refine ⟨rfl, _, rfl, _, rfl, b, _, 4, rfl, by decide, by decide, bx5, by omega, fun v1 d1 H6 t1 g1 p1 bu6 bx6 => ⟨_, rfl, b, _, 4, rfl, by decide, by decide, bx6, by omega, fun v2 d2 H7 t2 g2 p2 bu7 bx7 => ⟨(by show 3 ≤ sizeLine; decide), fun t ht => ?_⟩⟩⟩
      have e8 : Ex H7 (upd H7 t (.tup [.str s, v1, v2])) := Ex.new ht
      have k8 : (upd H7 t (.tup [.str s, v1, v2])) t = some (.tup [.str s, v1, v2]) := upd_same
      generalize upd H7 t (.tup [.str s, v1, v2]) = H8 at e8 k8
      have hD8 : H8 D = some (.lst us) := e8 _ _ (bu7 _ _ nD (bu6 _ _ nD hD5))
      have tsD : Ts K H8 (upd H8 D (.lst (us ++ [.ref t]))) := ts_set hD8
      have ts6 : Ts K H6 (upd H8 D (.lst (us ++ [.ref t]))) := ((bu7.ts bx6).trans (.of_ex e8)).trans tsD
      have ro := row_ok sg t1 t2 g1 g2
      refine ⟨us, hD8, small1000 (by omega), us ++ [.ref t], ds ++ [.tuple [.str s, d1, d2]], upd_same, by rw [List.length_append, lu]; rfl, DpAll.append (DpAll.tst ((bu6.ts bx5).trans ts6) _ _ (rowA ok5) hp5) (.cons (.tup (tsD _ _ (SqT.of k8)) (.cons (.str s) (.cons (Dp.tst ts6 _ _ t1 p1) (.cons (Dp.tst ((Ts.of_ex e8).trans tsD) _ _ t2 p2) .nil)))) .nil), mem_snoc ok5 ro, but_set hD (((bu5.trans bu6).trans bu7).trans (But.of_ex e8)), bx_set nD ((bx7.ex e8).mono (by omega))⟩
    · rintro H5 ⟨us, ds, hD5, lu, hp5, ok5, bu5, bx5⟩
      rw [List.length_map] at lu bx5
      refine ⟨D, _, rfl, .inl ⟨SqL.of hD5, fun t ht => ?_⟩⟩
      have e6 : Ex H5 (upd H5 t (.tup us)) := Ex.new ht
      have dl := DpAll.len hp5
      exact ⟨.ref t, .tuple ds, rfl, e6 _ _ (bu5 _ _ ndb kd4), .tup (SqT.of upd_same) (DpAll.ex e6 _ _ hp5), ini_sheet ok5 (by omega), (bu4.trans bu5).trans (But.of_ex e6), (bx5.ex e6).mono (by omega)⟩
  case rest =>
    rintro σ1 H3 ⟨v2, dS, rfl, kd3, dp3, iS, bu3, bx3⟩
    have c8 : cs 8 = 8935 := by decide
    refine ⟨fun σ' H' => ∃ l xs ds, σ' = [some (.ref b), some (.ref dl), some v2, some (.ref l), none, none, none, none, none] ∧ H' dl = some (.lst (ys.map V.str)) ∧ Dp K H' v2 dS ∧ H' l = some (.lst xs) ∧ xs.length = 6 ∧ DpAll K H' xs ds ∧ (∀ d ∈ ds, Ini d) ∧ But b H H' ∧ Bx H' b 60000, ?kinds, ?rest2⟩
    case kinds =>
      refine ⟨6, rfl, by decide, by decide, fun D hD => ?_⟩
      have nD := bx_new bx3 hD
      refine lc_range (fun j H' => ∃ us ds, H' D = some (.lst us) ∧ us.length = j ∧ DpAll K H' us ds ∧ (∀ d ∈ ds, Ini d) ∧ But b H3 H' ∧ Bx H' b (300 + 9000 * j)) ?_ ?_ ?_
      · exact ⟨[], [], upd_same, rfl, .nil, by simp, But.of_ex (Ex.new hD), bx3.ex (Ex.new hD)⟩
      · rintro j H5 hj ⟨us, ds, hD5, lu, hp5, ok5, bu5, bx5⟩
        have hj' : j < 6 := hj
        refine ⟨rfl, _, rfl, _, rfl, _, rfl, b, 40, _, rfl, bx5, by omega, by decide, by decide, fun r H6 r0 r1 bu6 bx6 => ⟨_, _, rfl, rfl, b, dl, ys, _, 8, _, rfl, by decide, by decide, bx6, by omega, ndb, SqL.of (bu6 _ _ ndb (bu5 _ _ ndb kd3)), by omega, by omega, hys, fun k v H7 kok kdp p7 bu7 bx7 => ?_⟩⟩
        have hD7 : H7 D = some (.lst us) := bu7 _ _ nD (bu6 _ _ nD hD5)
        have tsD : Ts K H7 (upd H7 D (.lst (us ++ [v]))) := ts_set hD7
        have ts5 := ((bu6.ts (K := K) bx5).trans (bu7.ts bx6)).trans tsD
        refine ⟨us, hD7, small1000 (by omega), us ++ [v], ds ++ [kdD k], upd_same, by rw [List.length_append, lu]; rfl, DpAll.append (DpAll.tst ts5 _ _ (iniA ok5) hp5) (.cons (Dp.tst tsD _ _ (to_kd k) p7) .nil), mem_snoc ok5 (ini_kd kok kdp), but_set hD ((bu5.trans bu6).trans bu7), bx_set nD (bx7.mono (by omega))⟩
      · rintro H5 ⟨us, ds, hD5, lu, hp5, ok5, bu5, bx5⟩
        exact ⟨D, us, ds, rfl, bu5 _ _ ndb kd3, Dp.tst (bu5.ts bx3) _ _ iS.t dp3, hD5, lu, hp5, ok5, bu3.trans bu5, bx5.mono (by decide)⟩
    case rest2 =>
      rintro σ2 H4 ⟨l, xs, ds, rfl, kd4, dp4, kl4, lx, hp4, ok4, bu4, bx4⟩
      obtain ⟨s0, yr, rfl⟩ : ∃ s0 yr, ys = s0 :: yr := by
        cases ys with
        | nil => cases ly
        | cons s0 yr => exact ⟨_, _, rfl⟩
      have sg0 : Sg 6 s0 := hys s0 (List.mem_cons_self ..)
      have nlb : l ≠ b := by
        obtain ⟨x, y, z, hb, _⟩ := bx4
        rintro rfl
        rw [hb] at kl4
        cases kl4
        cases lx
      refine ⟨_, rfl, _, rfl, _, rfl, b, dl, _, _, rfl, bx4, by omega, ndb, SqL.of kd4, by omega, by omega, hys, fun r1 w1 H5 ro1 p5 bu5 bx5 => ⟨_, rfl, _, rfl, b, dl, _, _, rfl, bx5, by omega, ndb, SqL.of (bu5 _ _ ndb kd4), by omega, by omega, hys, fun r2 w2 H6 ro2 p6 bu6 bx6 => ?_⟩⟩
      have kd6 := bu6 _ _ ndb (bu5 _ _ ndb kd4)
      refine ⟨_, rfl, _, rfl, 1, rfl, dl, _, rfl, SqL.of kd6, fun p7 hp7 => ?_⟩
      rw [show (s0 :: yr).map V.str = V.str s0 :: yr.map V.str from rfl, cut_one]
      have e7 : Ex H6 (upd H6 p7 (.lst [.str s0])) := Ex.new hp7
      have k7 : (upd H6 p7 (.lst [.str s0])) p7 = some (.lst [.str s0]) := upd_same
      generalize upd H6 p7 (.lst [.str s0]) = H7 at e7 k7
      refine ⟨p7, 8, _, rfl, rfl, k7, by decide, by decide, by show 8 ≤ sizeLine; decide, fun p8 hp8 => ?_⟩
      have e8 : Ex H7 (upd H7 p8 (.lst (List.replicate (8 : Int).toNat [V.str s0]).flatten)) := Ex.new hp8
      have k8 : (upd H7 p8 (.lst (List.replicate (8 : Int).toNat [V.str s0]).flatten)) p8 = some (.lst ((List.replicate 8 s0).map V.str)) := upd_same
      generalize upd H7 p8 (.lst (List.replicate (8 : Int).toNat [V.str s0]).flatten) = H8 at e8 k8
      refine ⟨p8, _, rfl, .inl ⟨SqL.of k8, fun t9 ht9 => ?_⟩⟩
      have e9 : Ex H8 (upd H8 t9 (.tup ((List.replicate 8 s0).map V.str))) := Ex.new ht9
      have k9 : (upd H8 t9 (.tup ((List.replicate 8 s0).map V.str))) t9 = some (.tup ((List.replicate 8 s0).map V.str)) := upd_same
      generalize upd H8 t9 (.tup ((List.replicate 8 s0).map V.str)) = H9 at e9 k9
      refine ⟨(by show 2 ≤ sizeLine; decide), fun t10 ht10 => ?_⟩
      have e10 : Ex H9 (upd H9 t10 (.tup [.ref t9, .non])) := Ex.new ht10
      have k10 : (upd H9 t10 (.tup [.ref t9, .non])) t10 = some (.tup [.ref t9, .non]) := upd_same
      generalize upd H9 t10 (.tup [.ref t9, .non]) = H10 at e10 k10
      refine ⟨(by show 4 ≤ sizeLine; decide), fun l11 hl11 => ?_⟩
      have e11 : Ex H10 (upd H10 l11 (.lst [w1, w2, v2, .ref t10])) := Ex.new hl11
      have k11 : (upd H10 l11 (.lst [w1, w2, v2, .ref t10])) l11 = some (.lst [w1, w2, v2, .ref t10]) := upd_same
      generalize upd H10 l11 (.lst [w1, w2, v2, .ref t10]) = H11 at e11 k11
      have e611 := (((e7.trans e8).trans e9).trans e10).trans e11
      have ts411 : Ts K H4 H11 := ((bu5.ts bx4).trans (bu6.ts bx5)).trans (.of_ex e611)
      have hd8 : Dp K H11 (.ref t10) (.tuple [.tuple ((List.replicate 8 s0).map PyData.str), .none]) := .tup (SqT.of (e11 _ _ k10)) (.cons (.tup (SqT.of (e11 _ _ (e10 _ _ k9))) (dp_strs _)) (.cons .non .nil))
      have dp11 : DpAll K H11 (xs ++ [w1, w2, v2, .ref t10]) (ds ++ [roD r1, roD r2, dS, .tuple [.tuple ((List.replicate 8 s0).map PyData.str), .none]]) :=
        DpAll.append (DpAll.tst ts411 _ _ (iniA ok4) hp4) (.cons (Dp.tst ((bu6.ts bx5).trans (.of_ex e611)) _ _ (to_ro r1) p5) (.cons (Dp.ex e611 _ _ p6) (.cons (Dp.tst ts411 _ _ iS.t dp4) (.cons hd8 .nil))))
      have ok11 : ∀ d ∈ ds ++ [roD r1, roD r2, dS, .tuple [.tuple ((List.replicate 8 s0).map PyData.str), .none]], Ini d := fun d hd => by
        rcases List.mem_append.mp hd with h | h
        · exact ok4 d h
        · simp only [List.mem_cons, List.not_mem_nil, or_false] at h
          rcases h with rfl | rfl | rfl | rfl
          · exact ini_ro ro1
          · exact ini_ro ro2
          · exact iS
          · exact ini_rep sg0 8 (by decide)
      have bu11 : But b H H11 := ((bu4.trans bu5).trans bu6).trans (But.of_ex e611)
      have bx11 := bx6.ex e611
      refine ⟨l, l11, xs, _, rfl, rfl, e611 _ _ (bu6 _ _ nlb (bu5 _ _ nlb kl4)), k11, Evl.sz_of (by rw [lx]; show 6 + 4 ≤ 100000; decide), fun p12 hp12 => ?_⟩
      have e12 : Ex H11 (upd H11 p12 (.lst (xs ++ [w1, w2, v2, .ref t10]))) := Ex.new hp12
      have k12 : (upd H11 p12 (.lst (xs ++ [w1, w2, v2, .ref t10]))) p12 = some (.lst (xs ++ [w1, w2, v2, .ref t10])) := upd_same
      have n12 := bx_new bx11 hp12
      have nn12 : H p12 = none := by
        cases z : H p12 with
        | none => rfl
        | some o => exact absurd (bu11 _ _ n12 z) (by rw [hp12]; exact fun z => by cases z)
      generalize upd H11 p12 (.lst (xs ++ [w1, w2, v2, .ref t10])) = H12 at e12 k12
      have kd12 := e12 _ _ (e611 _ _ kd6)
      refine ⟨fun σ' H' => ∃ l xs ds, σ' = [some (.ref b), some (.ref dl), some v2, some (.ref l), none, none, none, none, none] ∧ H' l = some (.lst xs) ∧ xs.length = 11 ∧ DpAll K H' xs ds ∧ (∀ d ∈ ds, Ini d) ∧ But b H H' ∧ Bx H' b 60100, ?app, ?rest3⟩
      case app =>
        refine ⟨_, rfl, .inl ⟨rfl, _, SqL.of k12⟩, _, rfl, 1, rfl, dl, _, rfl, SqL.of kd12, fun p13 hp13 => ?_⟩
        rw [show (s0 :: yr).map V.str = V.str s0 :: yr.map V.str from rfl, cut_one]
        have e13 : Ex H12 (upd H12 p13 (.lst [.str s0])) := Ex.new hp13
        have k13 : (upd H12 p13 (.lst [.str s0])) p13 = some (.lst [.str s0]) := upd_same
        generalize upd H12 p13 (.lst [.str s0]) = H13 at e13 k13
        refine ⟨p13, 9, _, rfl, rfl, k13, by decide, by decide, by show 9 ≤ sizeLine; decide, fun p14 hp14 => ?_⟩
        have e14 : Ex H13 (upd H13 p14 (.lst (List.replicate (9 : Int).toNat [V.str s0]).flatten)) := Ex.new hp14
        have k14 : (upd H13 p14 (.lst (List.replicate (9 : Int).toNat [V.str s0]).flatten)) p14 = some (.lst ((List.replicate 9 s0).map V.str)) := upd_same
        generalize upd H13 p14 (.lst (List.replicate (9 : Int).toNat [V.str s0]).flatten) = H14 at e14 k14
        refine ⟨p14, _, rfl, .inl ⟨SqL.of k14, fun t15 ht15 => ?_⟩⟩
        have e15 : Ex H14 (upd H14 t15 (.tup ((List.replicate 9 s0).map V.str))) := Ex.new ht15
        have k15 : (upd H14 t15 (.tup ((List.replicate 9 s0).map V.str))) t15 = some (.tup ((List.replicate 9 s0).map V.str)) := upd_same
        generalize upd H14 t15 (.tup ((List.replicate 9 s0).map V.str)) = H15 at e15 k15
        refine ⟨(by show 2 ≤ sizeLine; decide), fun t16 ht16 => ?_⟩
        have e16 : Ex H15 (upd H15 t16 (.tup [.ref t15, .non])) := Ex.new ht16
        have k16 : (upd H15 t16 (.tup [.ref t15, .non])) t16 = some (.tup [.ref t15, .non]) := upd_same
        generalize upd H15 t16 (.tup [.ref t15, .non]) = H16 at e16 k16
        have e1216 := ((e13.trans e14).trans e15).trans e16
        have kk := e1216 _ _ k12
        refine ⟨p12, _, _, rfl, rfl, kk, ?_, ?_⟩
        · rw [List.length_append, lx]; exact small1000 (by show 6 + 4 ≤ 1000; decide)
        have hd9 : Dp K H16 (.ref t16) (.tuple [.tuple ((List.replicate 9 s0).map PyData.str), .none]) := .tup (SqT.of k16) (.cons (.tup (SqT.of (e16 _ _ k15)) (dp_strs _)) (.cons .non .nil))
        have i9 := ini_rep sg0 9 (by decide)
        have tsL : Ts K H16 (upd H16 p12 (.lst ((xs ++ [w1, w2, v2, .ref t10]) ++ [.ref t16]))) := ts_set kk
        refine ⟨p12, _, _, rfl, upd_same, ?_, DpAll.append (DpAll.tst tsL _ _ (iniA ok11) (DpAll.ex (e12.trans e1216) _ _ dp11)) (.cons (Dp.tst tsL _ _ i9.t hd9) .nil), mem_snoc ok11 i9, but_set nn12 (bu11.trans (But.of_ex (e12.trans e1216))), bx_set n12 ((bx11.ex (e12.trans e1216)).mono (by decide))⟩
        rw [List.length_append, List.length_append, lx]
        rfl
      case rest3 =>
        rintro σ3 H20 ⟨l3, xs0, ds0, rfl, kl20, lx0, hp20, ok20, bu20, bx20⟩
        have nl3 : l3 ≠ b := by
          obtain ⟨x, y, z, hb, _⟩ := bx20
          rintro rfl
          rw [hb] at kl20
          cases kl20
          cases lx0
        refine ⟨fun σ' H' => ∃ l zs es o4, σ' = [some (.ref b), some (.ref dl), some v2, some (.ref l), o4, none, none, none, none] ∧ H' l = some (.lst zs) ∧ zs.length ≤ 200 ∧ DpAll K H' zs es ∧ (∀ e ∈ es, Fin2 e) ∧ But b H H', ?bents, ?rest4⟩
        case bents =>
          refine ⟨_, rfl, l3, _, rfl, .inl (SqL.of kl20), fun lc hlc => ?_⟩
          have e21 : Ex H20 (upd H20 lc (.lst xs0)) := Ex.new hlc
          have k21 : (upd H20 lc (.lst xs0)) lc = some (.lst xs0) := upd_same
          have nlc := bx_new bx20 hlc
          have bx21 := bx20.ex e21
          generalize upd H20 lc (.lst xs0) = H21 at e21 k21 bx21
          have hp21 := DpAll.ex e21 _ _ hp20
          refine ⟨lc, rfl, ⟨_, SqL.of k21⟩, for_list (xs := xs0) (fun j σ' H' => ∃ l zs es o4, σ' = [some (.ref b), some (.ref dl), some v2, some (.ref l), o4, none, none, none, none] ∧ l ≠ b ∧ H' l = some (.lst zs) ∧ zs.length = 11 + 8 * j ∧ DpAll K (off H' (S1 b)) zs es ∧ (∀ e ∈ es, Fin2 e) ∧ But b H21 H' ∧ Bx H' b (60100 + 400 * j)) ?_ ?_ ?_ ?_⟩
          · exact ⟨l3, xs0, ds0, none, rfl, nl3, e21 _ _ kl20, by omega, DpAll.tst (ts_off (s1_l bx21)) _ _ (iniA ok20) hp21, fun e he => (ok20 e he).fin, But.refl _ _, bx21⟩
          · rintro j σ' H5 hj ⟨l, zs, es, o4, rfl, nl, kl, lz, hp, fin, bu, bx⟩
            exact bu.sq nlc (SqL.of k21)
          · rintro j x σ' H5 hx ⟨l, zs, es, o4, rfl, nl, kl, lz, hp, fin, bu, bx⟩
            have hj : j < 11 := by rw [← lx0]; exact (List.getElem?_eq_some_iff.mp hx).1
            obtain ⟨d, hd, rx⟩ := dp_pick hp21 hx
            have ini := ok20 d (List.mem_of_getElem? hd)
            refine ⟨_, rfl, 8, rfl, by decide, by decide, fun D hD => ?_⟩
            have nD := bx_new bx hD
            refine lc_range (fun i H' => ∃ us fs, H' D = some (.lst us) ∧ us.length = i ∧ DpAll K (off H' (S2 b D)) us fs ∧ (∀ e ∈ fs, Fin2 e) ∧ But b H5 H' ∧ Bx H' b (60100 + 400 * j + 44 * i)) ?_ ?_ ?_
            · exact ⟨[], [], upd_same, rfl, .nil, by simp, But.of_ex (Ex.new hD), bx.ex (Ex.new hD)⟩
            · rintro i H6 hi ⟨us, fs, hD6, lu, hpu, finu, bu6, bx6⟩
              have hi' : i < 8 := hi
              have ll := s2_l bx6 hD6
              refine ⟨rfl, _, rfl, _, rfl, b, _, x, d, S2 b D, rfl, ⟨s2_b b D, fun a ha z => ?_⟩, bx6, by omega, Dp.tst (((bu.ts bx21).trans (bu6.ts bx)).trans (ts_off ll)) _ _ ini.t rx, ini.o, ini.l, ini.n, fun u e H7 o1 o2 o3 r bu7 bx7 => ?_⟩
              · obtain ⟨ys, hy⟩ := ll a ha
                rw [hy] at z
                cases z
              have hD7 : H7 D = some (.lst us) := bu7 _ _ nD hD6
              have iw := ini.w
              have inn := ini.n
              refine ⟨us, hD7, small1000 (by omega), us ++ [u], fs ++ [e], upd_same, by rw [List.length_append, lu]; rfl, ?_, mem_snoc finu ⟨o1, by omega, by omega⟩, but_set hD (bu6.trans bu7), bx_set nD (bx7.mono (by omega))⟩
              rw [off_in (s2_D b D)]
              exact DpAll.append (DpAll.ex (bu7.off (s2_b b D)) _ _ hpu) (.cons r .nil)
            · rintro H6 ⟨us, fs, hD6, lu, hpu, finu, bu6, bx6⟩
              have lu' : us.length = 8 := lu
              refine ⟨l, D, zs, us, rfl, rfl, bu6 _ _ nl kl, hD6, Evl.sz_of (by omega), fun p9 hp9 => ?_⟩
              have e9 : Ex H6 (upd H6 p9 (.lst (zs ++ us))) := Ex.new hp9
              have o9 := (But.of_ex (b := b) e9).off (S := S1 b) (s1_b b)
              refine ⟨p9, zs ++ us, es ++ fs, some x, rfl, bx_new bx6 hp9, upd_same, by rw [List.length_append]; omega, DpAll.append (DpAll.ex ((bu6.off (s1_b b)).trans o9) _ _ hp) (DpAll.ex ((off_sub (s1_s2 b D)).trans o9) _ _ hpu), fun e he => ?_, (bu.trans bu6).trans (But.of_ex e9), (bx6.ex e9).mono (by omega)⟩
              rcases List.mem_append.mp he with h | h
              · exact fin e h
              · exact finu e h
          · rintro σ' H5 ⟨l, zs, es, o4, rfl, nl, kl, lz, hp, fin, bu, bx⟩
            exact ⟨l, zs, es, o4, rfl, kl, by omega, DpAll.ex (off_le _ _) _ _ hp, fin, (bu20.trans (But.of_ex e21)).trans bu⟩
        case rest4 =>
          rintro σ4 H30 ⟨l, zs, es, o4, rfl, kl, lz, hp, fin, bu⟩
          refine ⟨_, rfl, l, rfl, ⟨_, SqL.of kl⟩, for_list (xs := zs) (fun j σ' H' => ∃ o4 o5 o6, σ' = [some (.ref b), some (.ref dl), some v2, some (.ref l), o4, o5, o6, none, none] ∧ Ex H30 H') ⟨o4, none, none, rfl, Ex.refl _⟩ ?_ ?_ ?_⟩
          · rintro j σ' H5 hj ⟨p4, p5, p6, rfl, ex⟩
            exact SqL.of (ex _ _ kl)
          · rintro j x σ' H5 hx ⟨p4, p5, p6, rfl, ex⟩
            obtain ⟨d, hd, rx0⟩ := dp_pick hp hx
            have f := fin d (List.mem_of_getElem? hd)
            have rx := Dp.ex ex _ _ rx0
            have fo := f.o
            have fn := f.n
            simp only [ok1, Bool.and_eq_true] at fo
            have hz : d.shown.length ≤ sizeLine := PyData.shown_fits (B := 13) (by decide) (by decide) fo.2.2 (Nat.le_trans f.w (by decide))
            refine ⟨_, rfl, x, d, rfl, rx, fo.2.1, by omega, hz, ?_⟩
            refine ⟨_, rfl, x, d, rfl, rx, fo.1, fn, by omega, fun H6 e6 => ⟨_, rfl, x, d, rfl, Dp.ex e6 _ _ rx, fo.1, by omega, fun H7 e7 => ⟨_, rfl, x, d, rfl, Dp.ex (e6.trans e7) _ _ rx, fo.1, by omega, by omega, fun H8 e8 => ⟨(by show 3 ≤ sizeLine; decide), fun p hp => ?_⟩⟩⟩⟩
            have e9 : Ex H8 (upd H8 p (.lst [.bl (isKindD 14 d), .bl (rosD d), .bl (sheetD d)])) := Ex.new hp
            have k9 : (upd H8 p (.lst [.bl (isKindD 14 d), .bl (rosD d), .bl (sheetD d)])) p = some (.lst [.bl (isKindD 14 d), .bl (rosD d), .bl (sheetD d)]) := upd_same
            generalize upd H8 p (.lst [.bl (isKindD 14 d), .bl (rosD d), .bl (sheetD d)]) = H9 at e9 k9
            have e59 := ((e6.trans e7).trans e8).trans e9
            refine ⟨_, rfl, x, d, rfl, Dp.ex e59 _ _ rx, fo.1, fn, by omega, fun H10 e10 => ⟨_, rfl, x, d, rfl, Dp.ex (e59.trans e10) _ _ rx, fo.1, by omega, fun H11 e11 => ⟨_, rfl, x, d, rfl, Dp.ex ((e59.trans e10).trans e11) _ _ rx, fo.1, fn, by omega, fun H12 e12 => ⟨(by show 3 ≤ sizeLine; decide), fun p13 hp13 => ?_⟩⟩⟩⟩
            have e13 : Ex H12 (upd H12 p13 (.lst [.bl (isKindD 14 d), .bl (rosD d), .bl (sheetD d)])) := Ex.new hp13
            have k13 : (upd H12 p13 (.lst [.bl (isKindD 14 d), .bl (rosD d), .bl (sheetD d)])) p13 = some (.lst [.bl (isKindD 14 d), .bl (rosD d), .bl (sheetD d)]) := upd_same
            generalize upd H12 p13 (.lst [.bl (isKindD 14 d), .bl (rosD d), .bl (sheetD d)]) = H13 at e13 k13
            have e913 := ((e10.trans e11).trans e12).trans e13
            obtain ⟨r1, r2, r3⟩ := rep3 (isKindD 14 d) (rosD d) (sheetD d)
            have hl : ∀ {a : Addr}, H13 a = some (.lst [.bl (isKindD 14 d), .bl (rosD d), .bl (sheetD d)]) → Dp K H13 (.ref a) (.list [.bool (isKindD 14 d), .bool (rosD d), .bool (sheetD d)]) := fun h => .lst (SqL.of h) (.cons (.bl _) (.cons (.bl _) (.cons (.bl _) .nil)))
            refine ⟨.ref p13, _, rfl, hl k13, r1, r2, r3, _, rfl, .ref p, _, rfl, hl (e913 _ _ k9), r1, r2, r3, ?_⟩
            refine ⟨rfl, _, rfl, iteNS rfl ?_⟩
            refine ⟨_, rfl, x, d, rfl, Dp.ex (e59.trans e913) _ _ rx, fo.2.1, by omega, hz, _, rfl, rfl, _, rfl, iteNS rfl ?_⟩
            exact ⟨_, _, _, rfl, (ex.trans e59).trans e913⟩
          · rintro σ' H5 ⟨p4, p5, p6, rfl, ex⟩
            exact q _ (bu.trans (But.of_ex ex))
end
end K10

/-! K10: the law -/
namespace K10
open PySem L2 Grd RZ
open Evl (Ex ex_t ex_l ex_rd)
theorem all_true (n : Nat) : (List.replicate n true).all id = true := by
  rw [List.all_eq_true]
  intro x hx
  rw [(List.mem_replicate.mp hx).2]
  rfl
def sp_law (K : PySem.W.Frag) : Sp := fun vs H Q _ => ∃ (a : Addr) (ns : List Int), vs = [.ref a] ∧ SqL K H a (ns.map V.int) ∧ ns.length ≤ 63 ∧ ∀ H', Q (.bl true) H'
theorem do_ok : ∀ n m : Fin 9, wd (doD m n) = true ∧ (doD m n).depth ≤ 13 := by decide +kernel
def wideD : Nat → PyData
  | 0 => .str "number"
  | i + 1 => .tuple [.str "pair", wideD i, wideD i]
theorem wide5 : isKindD 14 (wideD 5) = false ∧ isKindD 14 (wideD 4) = true ∧ wd (wideD 5) = true ∧ (wideD 5).depth ≤ 13 ∧ wd (wideD 4) = true ∧ (wideD 4).depth ≤ 13 := by decide +kernel
def rw1 (n : Nat) : PyData := .tuple [.str "a", doD 0 n, .str "number"]
theorem sheets : sheetD (.tuple [rw1 3]) = true ∧ sheetD (.tuple [rw1 4]) = false ∧ wd (.tuple [rw1 3]) = true ∧ wd (.tuple [rw1 4]) = true ∧ (PyData.tuple [rw1 3]).depth ≤ 13 ∧ (PyData.tuple [rw1 4]).depth ≤ 13 := by decide +kernel
section
variable {P : Program} {w : World} {K : PySem.W.Frag} {mg : Str → Option Value} {base : Heap}
theorem ok_law (T : Txt K mg) : Fn P w K mg base CX0 22 T.a_law T.d_law ["_law_script"] (sp_law K) := by
  have G_folded := ok_folded (P := P) (w := w) (base := base) T
  have G_dip := ok_dip (P := P) (w := w) (base := base) T
  have G_right := ok_right (P := P) (w := w) (base := base) T
  have G_deep_one := ok_deep_one (P := P) (w := w) (base := base) T
  have G_is_it := ok_is_it (P := P) (w := w) (base := base) T 13
  have G_p_is_kind := ok_p_is_kind (P := P) (w := w) (base := base) T 13
  have G_p_is_sheet := ok_p_is_sheet (P := P) (w := w) (base := base) T 13
  refine Grd.mk T.F_law sclaw (fun vs H Q E h => ?_) (fun cdv A outer st H vs Q E gd hr h => ?_)
  · obtain ⟨a, ns, rfl, _⟩ := h
    rfl
  obtain ⟨a, ns, rfl, hS, ln, q⟩ := h
  refine ⟨_, (pss_cons (ps_set (i := 1) sclaw.nd rfl (Or.inr rfl) (pe_callG G_folded gd (hr.mono (by first | decide | omega)) rfl T.g_folded T.F_folded.kp T.b_folded .nil pass0 (pa_cons (pv 0) (pa_cons pe_int pa_nil))))
      (Evl.pss_cut (ps_for PassesOwn.never rfl (pi_tup (pe_tup (pa_cons (pe_tup (pa_cons pe_int (pa_cons pe_int pa_nil))) (pa_cons (pe_tup (pa_cons pe_int (pa_cons pe_int pa_nil))) (pa_cons (pe_tup (pa_cons pe_int (pa_cons pe_int pa_nil))) (pa_cons (pe_tup (pa_cons pe_int (pa_cons pe_int pa_nil))) (pa_cons (pe_tup (pa_cons pe_int (pa_cons pe_int pa_nil))) pa_nil))))))) (pg_tup rfl (pgs_cons (pg_name (i := 2) sclaw.nd rfl (Or.inl rfl)) (pgs_cons (pg_name (i := 3) sclaw.nd rfl (Or.inl rfl)) pgs_nil))) (pss_cons (ps_set (i := 4) sclaw.nd rfl (Or.inl rfl) (pe_callG G_deep_one gd (hr.mono (by first | decide | omega)) rfl T.g_deep_one T.F_deep_one.kp T.b_deep_one .nil pass0 (pa_cons (pv 2) (pa_cons (pv 3) pa_nil))))
      (pss_one (ps_if (pt_cmpR op_ne (pe_callG G_p_is_kind gd (hr.mono (by first | decide | omega)) rfl T.g_p_is_kind T.F_p_is_kind.kp T.b_p_is_kind .nil pass0 (pa_cons (pv 4) pa_nil)) (pe_callG G_is_it gd (hr.mono (by first | decide | omega)) rfl T.g_is_it T.F_is_it.kp T.b_is_it .nil pass0 (pa_cons (pv 4) pa_nil)) (nomark _)) (pss_one (ps_ret pe_bl)) pss_nil))))
      (pss_cons (ps_set (i := 3) sclaw.nd rfl (Or.inl rfl) pe_str)
      (Evl.pss_cut (ps_for PassesOwn.never rfl (pi_range1 (by rfl) T.n_range (pa_cons pe_int pa_nil)) (pg_name (i := 5) sclaw.nd rfl (Or.inl rfl)) (pss_one (ps_set (i := 3) sclaw.nd rfl (Or.inl rfl) (pe_tup (pa_cons pe_str (pa_cons (pv 3) (pa_cons (pv 3) pa_nil)))))))
      (Evl.pss_cut (ps_setLc (i := 6) (own := [("_law_count", 2)]) (by rfl) sclaw.nd rfl rfl (sw_true rfl rfl rfl (by decide +kernel)) (pi_tup (pe_tup (pa_cons pe_int (pa_cons pe_int pa_nil)))) (blkOk_by (own := [("_law_count", 2)]) (N := ["_law_script", "_law_cells", "_law_count", "_law_wide", "_law_one", "_law_turn", "_law_rows", "_law_row", "_law_k"]) (sc := defScope s_law) (by decide +kernel)) (fun _ _ _ _ _ => (pg_name (i := 2) sclaw.nd rfl (Or.inl rfl))) (fun _ _ _ _ _ => pts_nil) (fun _ _ _ _ _ => (pe_tup (pa_cons pe_str (pa_cons (pe_callG G_deep_one gd (hr.mono (by first | decide | omega)) rfl T.g_deep_one T.F_deep_one.kp T.b_deep_one .nil pass0 (pa_cons (pv 2) (pa_cons pe_int pa_nil))) (pa_cons pe_str pa_nil))))))
      (Evl.pss_cut (ps_if (PW.pt (pw_or (pt_cmpR (op_neD hr.units) (pe_lc (own := [("_law_row", 7)]) (by rfl) sclaw.nd (pi_list (pv 6)) (blkOk_by (own := [("_law_row", 7)]) (N := ["_law_script", "_law_cells", "_law_count", "_law_wide", "_law_one", "_law_turn", "_law_rows", "_law_row", "_law_k"]) (sc := defScope s_law) (by decide +kernel)) (fun _ _ _ _ _ => (pg_name (i := 7) sclaw.nd rfl (Or.inl rfl))) (fun _ _ _ _ _ => pts_nil) (fun _ _ _ _ _ => (pe_callG G_p_is_sheet gd (hr.mono (by first | decide | omega)) rfl T.g_p_is_sheet T.F_p_is_sheet.kp T.b_p_is_sheet .nil pass0 (pa_cons (pe_tup (pa_cons (pv 7) pa_nil)) pa_nil)))) (pe_lst (pa_cons pe_bl (pa_cons pe_bl pa_nil))) (nomark _)) (pw_or (pt_cmpR op_notBl (pe_callG G_p_is_kind gd (hr.mono (by first | decide | omega)) rfl T.g_p_is_kind T.F_p_is_kind.kp T.b_p_is_kind .nil pass0 (pa_cons (pv 3) pa_nil)) pe_bl (nomark _)) (pw_or1 (pt_not (pt_val (pe_callG G_p_is_kind gd (hr.mono (by first | decide | omega)) rfl T.g_p_is_kind T.F_p_is_kind.kp T.b_p_is_kind .nil pass0 (pa_cons (pe_ix ix_tup (pv 3) pe_int (fun _ _ => rfl)) pa_nil)))))))) (pss_one (ps_ret pe_bl)) pss_nil)
      (pss_one (ps_ret (pe_callB (cr_all rfl) (by rfl) T.n_all (by decide +kernel) (pa_cons (pe_lc (own := [("_law_k", 8)]) (by rfl) sclaw.nd (pi_range1 (by rfl) T.n_range (pa_cons (pe_op op_add pe_int (pe_callB call_len_seq (by rfl) T.n_len PySem.boot_len (pa_cons (pv 1) pa_nil))) pa_nil)) (blkOk_by (own := [("_law_k", 8)]) (N := ["_law_script", "_law_cells", "_law_count", "_law_wide", "_law_one", "_law_turn", "_law_rows", "_law_row", "_law_k"]) (sc := defScope s_law) (by decide +kernel)) (fun _ _ _ _ _ => (pg_name (i := 8) sclaw.nd rfl (Or.inl rfl))) (fun _ _ _ _ _ => pts_nil) (fun _ _ _ _ _ => (pe_callG G_right gd (hr.mono (by first | decide | omega)) rfl T.g_right T.F_right.kp T.b_right .nil pass0 (pa_cons (pe_callG G_dip gd (hr.mono (by first | decide | omega)) rfl T.g_dip T.F_dip.kp T.b_dip .nil pass0 (pa_cons (pv 1) (pa_cons (pv 8) pa_nil))) pa_nil)))) pa_nil)))))))))), ?_⟩
  refine ⟨_, rfl, a, ns, 3, rfl, hS, ln, by decide, by decide, fun p H1 ms hp e1 lm hpv => ?_⟩
  refine ⟨fun σ' H' => ∃ o2 o3 o4, σ' = [some (.ref a), some (.ref p), o2, o3, o4, none, none, none, none] ∧ H' p = some (.lst (ms.map V.int)), ?deeps, ?rest⟩
  case deeps =>
    refine ⟨(by show 2 ≤ sizeLine; decide), fun t1 h1 => ⟨(by show 2 ≤ sizeLine; decide), fun t2 h2 => ⟨(by show 2 ≤ sizeLine; decide), fun t3 h3 => ⟨(by show 2 ≤ sizeLine; decide), fun t4 h4 => ⟨(by show 2 ≤ sizeLine; decide), fun t5 h5 => ⟨(by show 5 ≤ sizeLine; decide), fun t6 h6 => ?_⟩⟩⟩⟩⟩⟩
    have e1 := Ex.new (o := .tup [.int 7, .int 0]) h1
    have e2 := Ex.new (o := .tup [.int 8, .int 0]) h2
    have e3 := Ex.new (o := .tup [.int 7, .int 7]) h3
    have e4 := Ex.new (o := .tup [.int 7, .int 6]) h4
    have e5 := Ex.new (o := .tup [.int 6, .int 6]) h5
    have e6 := Ex.new (o := .tup [.ref t1, .ref t2, .ref t3, .ref t4, .ref t5]) h6
    have k1 := e6 _ _ (e5 _ _ (e4 _ _ (e3 _ _ (e2 _ _ upd_same))))
    have k2 := e6 _ _ (e5 _ _ (e4 _ _ (e3 _ _ upd_same)))
    have k3 := e6 _ _ (e5 _ _ (e4 _ _ upd_same))
    have k4 := e6 _ _ (e5 _ _ upd_same)
    have k5 := e6 _ _ upd_same
    have kp := (((((e1.trans e2).trans e3).trans e4).trans e5).trans e6) _ _ hpv
    have k6 : (upd (upd (upd (upd (upd (upd H1 t1 (.tup [.int 7, .int 0])) t2 (.tup [.int 8, .int 0])) t3 (.tup [.int 7, .int 7])) t4 (.tup [.int 7, .int 6])) t5 (.tup [.int 6, .int 6])) t6 (.tup [.ref t1, .ref t2, .ref t3, .ref t4, .ref t5])) t6 = some (.tup [.ref t1, .ref t2, .ref t3, .ref t4, .ref t5]) := upd_same
    generalize upd (upd (upd (upd (upd (upd H1 t1 (.tup [.int 7, .int 0])) t2 (.tup [.int 8, .int 0])) t3 (.tup [.int 7, .int 7])) t4 (.tup [.int 7, .int 6])) t5 (.tup [.int 6, .int 6])) t6 (.tup [.ref t1, .ref t2, .ref t3, .ref t4, .ref t5]) = H7 at k1 k2 k3 k4 k5 k6 kp ⊢
    have pick : ∀ (i : Nat) (x : V), [V.ref t1, V.ref t2, V.ref t3, V.ref t4, V.ref t5][i]? = some x → ∃ (t : Addr) (n m : Fin 9), x = .ref t ∧ H7 t = some (.tup [.int ((n : Nat) : Int), .int ((m : Nat) : Int)]) := by
      intro i x h
      have hm := List.mem_of_getElem? h
      simp only [List.mem_cons, List.not_mem_nil, or_false] at hm
      rcases hm with rfl | rfl | rfl | rfl | rfl
      · exact ⟨t1, 7, 0, rfl, k1⟩
      · exact ⟨t2, 8, 0, rfl, k2⟩
      · exact ⟨t3, 7, 7, rfl, k3⟩
      · exact ⟨t4, 7, 6, rfl, k4⟩
      · exact ⟨t5, 6, 6, rfl, k5⟩
    refine ⟨t6, rfl, ⟨_, SqT.of k6⟩, for_tup (xs := [.ref t1, .ref t2, .ref t3, .ref t4, .ref t5]) (fun j σ' H' => ∃ o2 o3 o4, σ' = [some (.ref a), some (.ref p), o2, o3, o4, none, none, none, none] ∧ Ex H7 H') ⟨none, none, none, rfl, Ex.refl _⟩ ?_ ?_ ?_⟩
    · rintro j σ' H8 hj ⟨o2, o3, o4, rfl, ex⟩
      exact SqT.of (ex _ _ k6)
    · rintro j x σ' H8 hx ⟨o2, o3, o4, rfl, ex⟩
      obtain ⟨t, n, m, rfl, kt⟩ := pick j x hx
      obtain ⟨w1, w2⟩ := do_ok n m
      have hn := n.isLt
      refine ⟨t, _, rfl, SqT.of (ex _ _ kt), rfl, _, _, rfl, _, _, rfl, rfl, _, rfl, _, rfl, n, m, rfl, by omega, fun v H9 e9 r => ?_⟩
      refine ⟨_, rfl, v, _, rfl, r, w1, w2, by omega, fun H10 e10 => ⟨_, rfl, v, _, rfl, Dp.ex e10 _ _ r, w1, w2, by omega, fun H11 e11 => ⟨rfl, _, rfl, iteNS rfl ?_⟩⟩⟩
      exact ⟨_, _, _, rfl, ((ex.trans e9).trans e10).trans e11⟩
    · rintro σ' H8 ⟨o2, o3, o4, rfl, ex⟩
      exact ⟨o2, o3, o4, rfl, ex _ _ kp⟩
  case rest =>
    rintro σ1 H2 ⟨o2, o3, o4, rfl, hp2⟩
    refine ⟨fun σ' H' => ∃ o5 v, σ' = [some (.ref a), some (.ref p), o2, some v, o4, o5, none, none, none] ∧ H' p = some (.lst (ms.map V.int)) ∧ Dp K H' v (wideD 5), ?wide, ?rest2⟩
    case wide =>
      refine ⟨5, rfl, by decide, by decide, for_range (n := 5) (fun j σ' H' => ∃ o5 v, σ' = [some (.ref a), some (.ref p), o2, some v, o4, o5, none, none, none] ∧ Ex H2 H' ∧ Dp K H' v (wideD j)) ⟨none, _, rfl, Ex.refl _, .str _⟩ ?_ ?_⟩
      · rintro j σ' H3 hj ⟨o5, v, rfl, ex, dv⟩
        refine ⟨_, rfl, _, rfl, (by show 3 ≤ sizeLine; decide), fun t ht => ?_⟩
        have e := Ex.new (o := .tup [.str "pair", v, v]) ht
        exact ⟨_, .ref t, rfl, ex.trans e, .tup (SqT.of upd_same) (.cons (.str _) (.cons (Dp.ex e _ _ dv) (.cons (Dp.ex e _ _ dv) .nil)))⟩
      · rintro σ' H3 ⟨o5, v, rfl, ex, dv⟩
        exact ⟨o5, v, rfl, ex _ _ hp2, dv⟩
    case rest2 =>
      rintro σ2 H3 ⟨o5, v, rfl, hp3, dv3⟩
      refine ⟨fun σ' H' => ∃ l us, σ' = [some (.ref a), some (.ref p), o2, some v, o4, o5, some (.ref l), none, none] ∧ H' p = some (.lst (ms.map V.int)) ∧ Dp K H' v (wideD 5) ∧ H' l = some (.lst us) ∧ DpAll K H' us [rw1 3, rw1 4], ?rows, ?rest3⟩
      case rows =>
        refine ⟨(by show 2 ≤ sizeLine; decide), fun t ht => ?_⟩
        have e4 := Ex.new (o := .tup [.int 3, .int 4]) ht
        have k4 : (upd H3 t (.tup [.int 3, .int 4])) t = some (.tup [.int 3, .int 4]) := upd_same
        generalize upd H3 t (.tup [.int 3, .int 4]) = H4 at e4 k4
        refine ⟨t, rfl, ⟨_, SqT.of k4⟩, fun D hD => lc_tup (xs := [.int 3, .int 4]) (fun j H' => ∃ us, H' D = some (.lst us) ∧ us.length = j ∧ DpAll K H' us (([3, 4].take j).map rw1) ∧ Ex H4 H') ⟨[], upd_same, rfl, .nil, Ex.new hD⟩ ?_ ?_ ?_⟩
        · rintro j H5 hj ⟨us, kD, lu, hu, ex⟩
          exact SqT.of (ex _ _ k4)
        · rintro j x H5 hx ⟨us, kD, lu, hu, ex⟩
          obtain ⟨n, hn, rfl⟩ : ∃ n : Nat, ([3, 4] : List Nat)[j]? = some n ∧ x = .int (n : Int) := by
            rcases j with _ | _ | j
            · exact ⟨3, rfl, (Option.some.inj hx).symm⟩
            · exact ⟨4, rfl, (Option.some.inj hx).symm⟩
            · simp at hx
          have hj : j < 2 := (List.getElem?_eq_some_iff.mp hn).1
          have hn5 : n ≤ 4 := by
            have := List.mem_of_getElem? hn
            simp only [List.mem_cons, List.not_mem_nil, or_false] at this
            omega
          refine ⟨rfl, _, rfl, n, 0, rfl, by omega, fun v1 H6 e6 r => ⟨(by show 3 ≤ sizeLine; decide), fun t7 ht7 => ?_⟩⟩
          have e7 := Ex.new (o := .tup [.str "a", v1, .str "number"]) ht7
          have k7 : (upd H6 t7 (.tup [.str "a", v1, .str "number"])) t7 = some (.tup [.str "a", v1, .str "number"]) := upd_same
          generalize upd H6 t7 (.tup [.str "a", v1, .str "number"]) = H7 at e7 k7
          have kD7 := e7 _ _ (e6 _ _ kD)
          have tsD : Ts K H7 (upd H7 D (.lst (us ++ [.ref t7]))) := ts_set kD7
          have tu : ∀ j : Fin 3, tupOnlyAll (([3, 4].take j.val).map rw1) = true := by decide +kernel
          have tn : ∀ n : Fin 5, tupOnly (rw1 n) = true := by decide +kernel
          refine ⟨us, kD7, small1000 (by omega), us ++ [.ref t7], upd_same, by rw [List.length_append, lu]; rfl, ?_, (((ex.trans e6).trans e7).mut hD)⟩
          rw [List.take_add_one, hn]
          rw [List.map_append]
          exact DpAll.append (DpAll.tst tsD _ _ (tu ⟨j, by omega⟩) (DpAll.ex (e6.trans e7) _ _ hu)) (.cons (Dp.tst tsD _ _ (tn ⟨n, by omega⟩) (.tup (SqT.of k7) (.cons (.str _) (.cons (Dp.ex e7 _ _ r) (.cons (.str _) .nil))))) .nil)
        · rintro H5 ⟨us, kD, lu, hu, ex⟩
          exact ⟨D, us, rfl, ex _ _ (e4 _ _ hp3), Dp.ex (e4.trans ex) _ _ dv3, kD, hu⟩
      case rest3 =>
        rintro σ3 H4 ⟨l, us, rfl, hp4, dv4, kl4, hu4⟩
        refine ⟨fun σ' H' => σ' = [some (.ref a), some (.ref p), o2, some v, o4, o5, some (.ref l), none, none] ∧ H' p = some (.lst (ms.map V.int)), ?test, ?rest4⟩
        case test =>
          obtain ⟨s3, s4, w3, w4, n3, n4⟩ := sheets
          obtain ⟨i5, i4, w5, d5, w44, d44⟩ := wide5
          have lu := DpAll.len hu4
          refine ⟨_, rfl, l, rfl, ⟨_, SqL.of kl4⟩, fun D hD => lc_list (xs := us) (fun j H' => H' D = some (.lst ([V.bl true, V.bl false].take j)) ∧ Ex H4 H') ⟨upd_same, Ex.new hD⟩ ?_ ?_ ?_⟩
          · rintro j H5 hj ⟨kD, ex⟩
            exact SqL.of (ex _ _ kl4)
          · rintro j x H5 hx ⟨kD, ex⟩
            obtain ⟨d, hd, rx⟩ := dp_pick hu4 hx
            have ch : ∃ bo : Bool, sheetD (.tuple [d]) = bo ∧ wd (.tuple [d]) = true ∧ (PyData.tuple [d]).depth ≤ 13 ∧ [V.bl true, V.bl false].take (j + 1) = [V.bl true, V.bl false].take j ++ [.bl bo] := by
              rcases j with _ | _ | j
              · cases (Option.some.inj hd)
                exact ⟨true, s3, w3, n3, rfl⟩
              · cases (Option.some.inj hd)
                exact ⟨false, s4, w4, n4, rfl⟩
              · simp at hd
            obtain ⟨bo, c1, c2, c3, c4⟩ := ch
            refine ⟨rfl, _, rfl, (by show 1 ≤ sizeLine; decide), fun t6 ht6 => ?_⟩
            have e6 := Ex.new (o := .tup [x]) ht6
            refine ⟨.ref t6, .tuple [d], rfl, .tup (SqT.of upd_same) (.cons (Dp.ex (ex.trans e6) _ _ rx) .nil), c2, c3, by omega, fun H7 e7 => ?_⟩
            refine ⟨_, e7 _ _ (e6 _ _ kD), ?_, ?_, ((ex.trans e6).trans e7).mut hD⟩
            · have := List.length_take_le j [V.bl true, V.bl false]
              exact small1000 (by rw [List.length_take]; show min j 2 ≤ 1000; omega)
            · rw [upd_same, c1, c4]
          · rintro H5 ⟨kD, ex⟩
            have l2 : us.length = 2 := lu
            rw [l2] at kD
            refine ⟨(by show 2 ≤ sizeLine; decide), fun l6 hl6 => ?_⟩
            have e6 := Ex.new (o := .lst [.bl true, .bl false]) hl6
            have k6 : (upd H5 l6 (.lst [.bl true, .bl false])) l6 = some (.lst [.bl true, .bl false]) := upd_same
            generalize upd H5 l6 (.lst [.bl true, .bl false]) = H6 at e6 k6
            have ex6 := ex.trans e6
            have tf : DpAll K H6 [.bl true, .bl false] [.bool true, .bool false] := .cons (.bl _) (.cons (.bl _) .nil)
            refine ⟨.list [.bool true, .bool false], .list [.bool true, .bool false], .lst (SqL.of (e6 _ _ kD)) tf, .lst (SqL.of k6) tf, by decide +kernel, by decide +kernel, _, rfl, ?_⟩
            rw [show PyData.eqv (.list [.bool true, .bool false]) (.list [.bool true, .bool false]) = true by decide +kernel]
            refine iteF ?_
            refine ⟨_, rfl, v, _, rfl, Dp.ex ex6 _ _ dv4, w5, d5, by omega, fun H7 e7 => ?_⟩
            rw [show isKindD (13 + 1) (wideD 5) = false from i5]
            refine ⟨_, _, rfl, rfl, _, rfl, ?_⟩
            refine iteF ?_
            have dv7 : Dp K H7 v (.tuple [.str "pair", wideD 4, wideD 4]) := Dp.ex (ex6.trans e7) _ _ dv4
            cases dv7 with
            | @tup t7 xs7 _ hs7 ha7 =>
              cases ha7 with
              | cons b0 b1 =>
                cases b1 with
                | cons b2 b3 =>
                  refine ⟨_, rfl, t7, _, 1, _, rfl, rfl, hs7, atI_nat (j := 1) rfl, _, _, rfl, b2, w44, d44, by omega, fun H8 e8 => ?_⟩
                  rw [show isKindD (13 + 1) (wideD 4) = true from i4]
                  refine ⟨_, rfl, iteF ?_⟩
                  exact ⟨rfl, e8 _ _ (e7 _ _ (ex6 _ _ hp4))⟩
        case rest4 =>
          rintro σ4 H5 ⟨rfl, hp5⟩
          refine ⟨_, rfl, p, _, rfl, .inl (SqL.of hp5), _, _, rfl, rfl, _, rfl, ?_, ?_, fun D hD => ?_⟩
          · rw [List.length_map]; omega
          · rw [List.length_map]; omega
          have nD : p ≠ D := ne_of_none hp5 hD
          refine lc_range (fun j H' => H' D = some (.lst ((List.replicate j true).map V.bl)) ∧ H' p = some (.lst (ms.map V.int))) ⟨upd_same, by rw [upd_ne nD]; exact hp5⟩ ?_ ?_
          · rintro j H6 hj ⟨hD2, hp2⟩
            refine ⟨rfl, ?_⟩
            refine ⟨_, rfl, _, rfl, p, ms, _, rfl, SqL.of hp2, by omega, by rw [List.length_map] at hj; omega, fun b H7 hb e3 bx => ?_⟩
            refine ⟨b, rfl, bx, fun H8 bu => ?_⟩
            have nbD : D ≠ b := ne_of_none hD2 hb
            have nbp : p ≠ b := ne_of_none hp2 hb
            refine ⟨_, bu _ _ nbD (e3 _ _ hD2), by rw [List.length_map, List.length_replicate]; rw [List.length_map] at hj; exact Evl.sz_lt (by omega), ?_, ?_⟩
            · rw [upd_same, List.replicate_succ', List.map_append]; rfl
            · rw [upd_ne nD]; exact bu _ _ nbp (e3 _ _ hp2)
          rintro H6 ⟨hD2, hp2⟩
          exact ⟨D, _, rfl, SqL.of hD2, by rw [all_true]; exact q _⟩
end
end K10

/-! K10: the texts put together -/
namespace K10
open PySem L2 Grd RZ
open Evl (Ex ex_t ex_l ex_rd)
theorem all_mk {l : PySem.W.OpenLaw} {w : World} {K : PySem.W.Frag} {h : Heap} {mg : Str → Option Value} {fa f1 f2 f3 f4 f5 f6 f7 f8 f9 f10 f11 f12 f13 f14 f15 f16 f17 f18 f19 f20 f21 f22 f23 f24 f25 f26 f27 f28 f29 f30 f31 f32 f33 f34 f35 f36 f37 f38 : Addr} (X : K.In h) (G : h.Ns mainGlobals mg) (hfa : mg "law" = some (.ref fa))
    {od1 an1 od2 an2 od3 an3 od4 an4 od5 an5 od6 an6 od7 an7 od8 an8 od9 an9 od10 an10 od11 an11 od12 an12 od13 an13 od14 an14 od15 an15 od16 an16 od17 an17 od18 an18 od19 an19 od20 an20 od21 an21 od22 an22 od23 an23 od24 an24 od25 an25 od26 an26 od27 an27 od28 an28 od29 an29 od30 an30 od31 an31 od32 an32 od33 an33 od34 an34 od35 an35 od36 an36 od37 an37 od38 an38 : Option Addr} {sl1 sl2 sl3 sl4 sl5 sl6 sl7 sl8 sl9 sl10 sl11 sl12 sl13 sl14 sl15 sl16 sl17 sl18 sl19 sl20 sl21 sl22 sl23 sl24 sl25 sl26 sl27 sl28 sl29 sl30 sl31 sl32 sl33 sl34 sl35 sl36 sl37 sl38 : Array (Option Value)}
    {oc1 kV1 dc1 pm1 cd1 ct1 oc2 kV2 dc2 pm2 cd2 ct2 oc3 kV3 dc3 pm3 cd3 ct3 oc4 kV4 dc4 pm4 cd4 ct4 oc5 kV5 dc5 pm5 cd5 ct5 oc6 kV6 dc6 pm6 cd6 ct6 oc7 kV7 dc7 pm7 cd7 ct7 oc8 kV8 dc8 pm8 cd8 ct8 oc9 kV9 dc9 pm9 cd9 ct9 oc10 kV10 dc10 pm10 cd10 ct10 oc11 kV11 dc11 pm11 cd11 ct11 oc12 kV12 dc12 pm12 cd12 ct12 oc13 kV13 dc13 pm13 cd13 ct13 oc14 kV14 dc14 pm14 cd14 ct14 oc15 kV15 dc15 pm15 cd15 ct15 oc16 kV16 dc16 pm16 cd16 ct16 oc17 kV17 dc17 pm17 cd17 ct17 oc18 kV18 dc18 pm18 cd18 ct18 oc19 kV19 dc19 pm19 cd19 ct19 oc20 kV20 dc20 pm20 cd20 ct20 oc21 kV21 dc21 pm21 cd21 ct21 oc22 kV22 dc22 pm22 cd22 ct22 oc23 kV23 dc23 pm23 cd23 ct23 oc24 kV24 dc24 pm24 cd24 ct24 oc25 kV25 dc25 pm25 cd25 ct25 oc26 kV26 dc26 pm26 cd26 ct26 oc27 kV27 dc27 pm27 cd27 ct27 oc28 kV28 dc28 pm28 cd28 ct28 oc29 kV29 dc29 pm29 cd29 ct29 oc30 kV30 dc30 pm30 cd30 ct30 oc31 kV31 dc31 pm31 cd31 ct31 oc32 kV32 dc32 pm32 cd32 ct32 oc33 kV33 dc33 pm33 cd33 ct33 oc34 kV34 dc34 pm34 cd34 ct34 oc35 kV35 dc35 pm35 cd35 ct35 oc36 kV36 dc36 pm36 cd36 ct36 oc37 kV37 dc37 pm37 cd37 ct37 oc38 kV38 dc38 pm38 cd38 ct38 : Value}
    (a1 : PySem.W.nsIn K mainGlobals "is_name" = some (some (.ref f1))) (l1 : K.lookup f1 = some ⟨oc1, od1, .func (PySem.W.fnOf "is_name" "is_name" (defArgs s_p_is_name) (defBody s_p_is_name) (defScope s_p_is_name) .none kV1 dc1 pm1 an1 cd1 ct1), sl1⟩)
    (c1 : PySem.W.codeIn K cd1 "is_name" = true) (k1 : PySem.W.keepIn K (.ref f1) = true)
    (a2 : PySem.W.nsIn K mainGlobals "is_from_nought" = some (some (.ref f2))) (l2 : K.lookup f2 = some ⟨oc2, od2, .func (PySem.W.fnOf "is_from_nought" "is_from_nought" (defArgs s_p_is_from_nought) (defBody s_p_is_from_nought) (defScope s_p_is_from_nought) .none kV2 dc2 pm2 an2 cd2 ct2), sl2⟩)
    (c2 : PySem.W.codeIn K cd2 "is_from_nought" = true) (k2 : PySem.W.keepIn K (.ref f2) = true)
    (a3 : PySem.W.nsIn K mainGlobals "are_plain_figures" = some (some (.ref f3))) (l3 : K.lookup f3 = some ⟨oc3, od3, .func (PySem.W.fnOf "are_plain_figures" "are_plain_figures" (defArgs s_p_are_plain_figures) (defBody s_p_are_plain_figures) (defScope s_p_are_plain_figures) .none kV3 dc3 pm3 an3 cd3 ct3), sl3⟩)
    (c3 : PySem.W.codeIn K cd3 "are_plain_figures" = true) (k3 : PySem.W.keepIn K (.ref f3) = true)
    (a4 : PySem.W.nsIn K mainGlobals "is_label" = some (some (.ref f4))) (l4 : K.lookup f4 = some ⟨oc4, od4, .func (PySem.W.fnOf "is_label" "is_label" (defArgs s_p_is_label) (defBody s_p_is_label) (defScope s_p_is_label) .none kV4 dc4 pm4 an4 cd4 ct4), sl4⟩)
    (c4 : PySem.W.codeIn K cd4 "is_label" = true) (k4 : PySem.W.keepIn K (.ref f4) = true)
    (a5 : PySem.W.nsIn K mainGlobals "are_labels" = some (some (.ref f5))) (l5 : K.lookup f5 = some ⟨oc5, od5, .func (PySem.W.fnOf "are_labels" "are_labels" (defArgs s_p_are_labels) (defBody s_p_are_labels) (defScope s_p_are_labels) .none kV5 dc5 pm5 an5 cd5 ct5), sl5⟩)
    (c5 : PySem.W.codeIn K cd5 "are_labels" = true) (k5 : PySem.W.keepIn K (.ref f5) = true)
    (a6 : PySem.W.nsIn K mainGlobals "is_roster_form" = some (some (.ref f6))) (l6 : K.lookup f6 = some ⟨oc6, od6, .func (PySem.W.fnOf "is_roster_form" "is_roster_form" (defArgs s_p_is_roster_form) (defBody s_p_is_roster_form) (defScope s_p_is_roster_form) .none kV6 dc6 pm6 an6 cd6 ct6), sl6⟩)
    (c6 : PySem.W.codeIn K cd6 "is_roster_form" = true) (k6 : PySem.W.keepIn K (.ref f6) = true)
    (a7 : PySem.W.nsIn K mainGlobals "is_roster" = some (some (.ref f7))) (l7 : K.lookup f7 = some ⟨oc7, od7, .func (PySem.W.fnOf "is_roster" "is_roster" (defArgs s_p_is_roster) (defBody s_p_is_roster) (defScope s_p_is_roster) .none kV7 dc7 pm7 an7 cd7 ct7), sl7⟩)
    (c7 : PySem.W.codeIn K cd7 "is_roster" = true) (k7 : PySem.W.keepIn K (.ref f7) = true)
    (a8 : PySem.W.nsIn K mainGlobals "is_kind_form" = some (some (.ref f8))) (l8 : K.lookup f8 = some ⟨oc8, od8, .func (PySem.W.fnOf "is_kind_form" "is_kind_form" (defArgs s_p_is_kind_form) (defBody s_p_is_kind_form) (defScope s_p_is_kind_form) .none kV8 dc8 pm8 an8 cd8 ct8), sl8⟩)
    (c8 : PySem.W.codeIn K cd8 "is_kind_form" = true) (k8 : PySem.W.keepIn K (.ref f8) = true)
    (a9 : PySem.W.nsIn K mainGlobals "kinds_within" = some (some (.ref f9))) (l9 : K.lookup f9 = some ⟨oc9, od9, .func (PySem.W.fnOf "kinds_within" "kinds_within" (defArgs s_p_kinds_within) (defBody s_p_kinds_within) (defScope s_p_kinds_within) .none kV9 dc9 pm9 an9 cd9 ct9), sl9⟩)
    (c9 : PySem.W.codeIn K cd9 "kinds_within" = true) (k9 : PySem.W.keepIn K (.ref f9) = true)
    (a10 : PySem.W.nsIn K mainGlobals "kind_parts" = some (some (.ref f10))) (l10 : K.lookup f10 = some ⟨oc10, od10, .func (PySem.W.fnOf "kind_parts" "kind_parts" (defArgs s_p_kind_parts) (defBody s_p_kind_parts) (defScope s_p_kind_parts) .none kV10 dc10 pm10 an10 cd10 ct10), sl10⟩)
    (c10 : PySem.W.codeIn K cd10 "kind_parts" = true) (k10 : PySem.W.keepIn K (.ref f10) = true)
    (a11 : PySem.W.nsIn K mainGlobals "kind_deep" = some (some (.ref f11))) (l11 : K.lookup f11 = some ⟨oc11, od11, .func (PySem.W.fnOf "kind_deep" "kind_deep" (defArgs s_p_kind_deep) (defBody s_p_kind_deep) (defScope s_p_kind_deep) .none kV11 dc11 pm11 an11 cd11 ct11), sl11⟩)
    (c11 : PySem.W.codeIn K cd11 "kind_deep" = true) (k11 : PySem.W.keepIn K (.ref f11) = true)
    (a12 : PySem.W.nsIn K mainGlobals "is_kind" = some (some (.ref f12))) (l12 : K.lookup f12 = some ⟨oc12, od12, .func (PySem.W.fnOf "is_kind" "is_kind" (defArgs s_p_is_kind) (defBody s_p_is_kind) (defScope s_p_is_kind) .none kV12 dc12 pm12 an12 cd12 ct12), sl12⟩)
    (c12 : PySem.W.codeIn K cd12 "is_kind" = true) (k12 : PySem.W.keepIn K (.ref f12) = true)
    (a13 : PySem.W.nsIn K mainGlobals "is_plain_kind" = some (some (.ref f13))) (l13 : K.lookup f13 = some ⟨oc13, od13, .func (PySem.W.fnOf "is_plain_kind" "is_plain_kind" (defArgs s_p_is_plain_kind) (defBody s_p_is_plain_kind) (defScope s_p_is_plain_kind) .none kV13 dc13 pm13 an13 cd13 ct13), sl13⟩)
    (c13 : PySem.W.codeIn K cd13 "is_plain_kind" = true) (k13 : PySem.W.keepIn K (.ref f13) = true)
    (a14 : PySem.W.nsIn K mainGlobals "is_sheet_row" = some (some (.ref f14))) (l14 : K.lookup f14 = some ⟨oc14, od14, .func (PySem.W.fnOf "is_sheet_row" "is_sheet_row" (defArgs s_p_is_sheet_row) (defBody s_p_is_sheet_row) (defScope s_p_is_sheet_row) .none kV14 dc14 pm14 an14 cd14 ct14), sl14⟩)
    (c14 : PySem.W.codeIn K cd14 "is_sheet_row" = true) (k14 : PySem.W.keepIn K (.ref f14) = true)
    (a15 : PySem.W.nsIn K mainGlobals "is_sheet" = some (some (.ref f15))) (l15 : K.lookup f15 = some ⟨oc15, od15, .func (PySem.W.fnOf "is_sheet" "is_sheet" (defArgs s_p_is_sheet) (defBody s_p_is_sheet) (defScope s_p_is_sheet) .none kV15 dc15 pm15 an15 cd15 ct15), sl15⟩)
    (c15 : PySem.W.codeIn K cd15 "is_sheet" = true) (k15 : PySem.W.keepIn K (.ref f15) = true)
    (a16 : PySem.W.nsIn K mainGlobals "_law_dip" = some (some (.ref f16))) (l16 : K.lookup f16 = some ⟨oc16, od16, .func (PySem.W.fnOf "_law_dip" "_law_dip" (defArgs s_dip) (defBody s_dip) (defScope s_dip) .none kV16 dc16 pm16 an16 cd16 ct16), sl16⟩)
    (c16 : PySem.W.codeIn K cd16 "_law_dip" = true) (k16 : PySem.W.keepIn K (.ref f16) = true)
    (a17 : PySem.W.nsIn K mainGlobals "_law_take" = some (some (.ref f17))) (l17 : K.lookup f17 = some ⟨oc17, od17, .func (PySem.W.fnOf "_law_take" "_law_take" (defArgs s_take) (defBody s_take) (defScope s_take) .none kV17 dc17 pm17 an17 cd17 ct17), sl17⟩)
    (c17 : PySem.W.codeIn K cd17 "_law_take" = true) (k17 : PySem.W.keepIn K (.ref f17) = true)
    (a18 : PySem.W.nsIn K mainGlobals "_law_folded" = some (some (.ref f18))) (l18 : K.lookup f18 = some ⟨oc18, od18, .func (PySem.W.fnOf "_law_folded" "_law_folded" (defArgs s_folded) (defBody s_folded) (defScope s_folded) .none kV18 dc18 pm18 an18 cd18 ct18), sl18⟩)
    (c18 : PySem.W.codeIn K cd18 "_law_folded" = true) (k18 : PySem.W.keepIn K (.ref f18) = true)
    (a19 : PySem.W.nsIn K mainGlobals "_law_one_of" = some (some (.ref f19))) (l19 : K.lookup f19 = some ⟨oc19, od19, .func (PySem.W.fnOf "_law_one_of" "_law_one_of" (defArgs s_one_of) (defBody s_one_of) (defScope s_one_of) .none kV19 dc19 pm19 an19 cd19 ct19), sl19⟩)
    (c19 : PySem.W.codeIn K cd19 "_law_one_of" = true) (k19 : PySem.W.keepIn K (.ref f19) = true)
    (a20 : PySem.W.nsIn K mainGlobals "_law_keywords" = some (some (.ref f20))) (l20 : K.lookup f20 = some ⟨oc20, od20, .func (PySem.W.fnOf "_law_keywords" "_law_keywords" (defArgs s_keywords) (defBody s_keywords) (defScope s_keywords) .none kV20 dc20 pm20 an20 cd20 ct20), sl20⟩)
    (c20 : PySem.W.codeIn K cd20 "_law_keywords" = true) (k20 : PySem.W.keepIn K (.ref f20) = true)
    (a21 : PySem.W.nsIn K mainGlobals "_law_named" = some (some (.ref f21))) (l21 : K.lookup f21 = some ⟨oc21, od21, .func (PySem.W.fnOf "_law_named" "_law_named" (defArgs s_named) (defBody s_named) (defScope s_named) .none kV21 dc21 pm21 an21 cd21 ct21), sl21⟩)
    (c21 : PySem.W.codeIn K cd21 "_law_named" = true) (k21 : PySem.W.keepIn K (.ref f21) = true)
    (a22 : PySem.W.nsIn K mainGlobals "_law_label" = some (some (.ref f22))) (l22 : K.lookup f22 = some ⟨oc22, od22, .func (PySem.W.fnOf "_law_label" "_law_label" (defArgs s_label) (defBody s_label) (defScope s_label) .none kV22 dc22 pm22 an22 cd22 ct22), sl22⟩)
    (c22 : PySem.W.codeIn K cd22 "_law_label" = true) (k22 : PySem.W.keepIn K (.ref f22) = true)
    (a23 : PySem.W.nsIn K mainGlobals "_law_roster" = some (some (.ref f23))) (l23 : K.lookup f23 = some ⟨oc23, od23, .func (PySem.W.fnOf "_law_roster" "_law_roster" (defArgs s_roster) (defBody s_roster) (defScope s_roster) .none kV23 dc23 pm23 an23 cd23 ct23), sl23⟩)
    (c23 : PySem.W.codeIn K cd23 "_law_roster" = true) (k23 : PySem.W.keepIn K (.ref f23) = true)
    (a24 : PySem.W.nsIn K mainGlobals "_law_kind" = some (some (.ref f24))) (l24 : K.lookup f24 = some ⟨oc24, od24, .func (PySem.W.fnOf "_law_kind" "_law_kind" (defArgs s_kind) (defBody s_kind) (defScope s_kind) .none kV24 dc24 pm24 an24 cd24 ct24), sl24⟩)
    (c24 : PySem.W.codeIn K cd24 "_law_kind" = true) (k24 : PySem.W.keepIn K (.ref f24) = true)
    (a25 : PySem.W.nsIn K mainGlobals "_law_is_name" = some (some (.ref f25))) (l25 : K.lookup f25 = some ⟨oc25, od25, .func (PySem.W.fnOf "_law_is_name" "_law_is_name" (defArgs s_is_name) (defBody s_is_name) (defScope s_is_name) .none kV25 dc25 pm25 an25 cd25 ct25), sl25⟩)
    (c25 : PySem.W.codeIn K cd25 "_law_is_name" = true) (k25 : PySem.W.keepIn K (.ref f25) = true)
    (a26 : PySem.W.nsIn K mainGlobals "_law_is_figures" = some (some (.ref f26))) (l26 : K.lookup f26 = some ⟨oc26, od26, .func (PySem.W.fnOf "_law_is_figures" "_law_is_figures" (defArgs s_is_figures) (defBody s_is_figures) (defScope s_is_figures) .none kV26 dc26 pm26 an26 cd26 ct26), sl26⟩)
    (c26 : PySem.W.codeIn K cd26 "_law_is_figures" = true) (k26 : PySem.W.keepIn K (.ref f26) = true)
    (a27 : PySem.W.nsIn K mainGlobals "_law_is_label" = some (some (.ref f27))) (l27 : K.lookup f27 = some ⟨oc27, od27, .func (PySem.W.fnOf "_law_is_label" "_law_is_label" (defArgs s_is_label) (defBody s_is_label) (defScope s_is_label) .none kV27 dc27 pm27 an27 cd27 ct27), sl27⟩)
    (c27 : PySem.W.codeIn K cd27 "_law_is_label" = true) (k27 : PySem.W.keepIn K (.ref f27) = true)
    (a28 : PySem.W.nsIn K mainGlobals "_law_is_ros" = some (some (.ref f28))) (l28 : K.lookup f28 = some ⟨oc28, od28, .func (PySem.W.fnOf "_law_is_ros" "_law_is_ros" (defArgs s_is_ros) (defBody s_is_ros) (defScope s_is_ros) .none kV28 dc28 pm28 an28 cd28 ct28), sl28⟩)
    (c28 : PySem.W.codeIn K cd28 "_law_is_ros" = true) (k28 : PySem.W.keepIn K (.ref f28) = true)
    (a29 : PySem.W.nsIn K mainGlobals "_law_size" = some (some (.ref f29))) (l29 : K.lookup f29 = some ⟨oc29, od29, .func (PySem.W.fnOf "_law_size" "_law_size" (defArgs s_size) (defBody s_size) (defScope s_size) .none kV29 dc29 pm29 an29 cd29 ct29), sl29⟩)
    (c29 : PySem.W.codeIn K cd29 "_law_size" = true) (k29 : PySem.W.keepIn K (.ref f29) = true)
    (a30 : PySem.W.nsIn K mainGlobals "_law_is_it" = some (some (.ref f30))) (l30 : K.lookup f30 = some ⟨oc30, od30, .func (PySem.W.fnOf "_law_is_it" "_law_is_it" (defArgs s_is_it) (defBody s_is_it) (defScope s_is_it) .none kV30 dc30 pm30 an30 cd30 ct30), sl30⟩)
    (c30 : PySem.W.codeIn K cd30 "_law_is_it" = true) (k30 : PySem.W.keepIn K (.ref f30) = true)
    (a31 : PySem.W.nsIn K mainGlobals "_law_is_plain" = some (some (.ref f31))) (l31 : K.lookup f31 = some ⟨oc31, od31, .func (PySem.W.fnOf "_law_is_plain" "_law_is_plain" (defArgs s_is_plain) (defBody s_is_plain) (defScope s_is_plain) .none kV31 dc31 pm31 an31 cd31 ct31), sl31⟩)
    (c31 : PySem.W.codeIn K cd31 "_law_is_plain" = true) (k31 : PySem.W.keepIn K (.ref f31) = true)
    (a32 : PySem.W.nsIn K mainGlobals "_law_is_sheet" = some (some (.ref f32))) (l32 : K.lookup f32 = some ⟨oc32, od32, .func (PySem.W.fnOf "_law_is_sheet" "_law_is_sheet" (defArgs s_is_sheet) (defBody s_is_sheet) (defScope s_is_sheet) .none kV32 dc32 pm32 an32 cd32 ct32), sl32⟩)
    (c32 : PySem.W.codeIn K cd32 "_law_is_sheet" = true) (k32 : PySem.W.keepIn K (.ref f32) = true)
    (a33 : PySem.W.nsIn K mainGlobals "_law_plain" = some (some (.ref f33))) (l33 : K.lookup f33 = some ⟨oc33, od33, .func (PySem.W.fnOf "_law_plain" "_law_plain" (defArgs s_plain) (defBody s_plain) (defScope s_plain) .none kV33 dc33 pm33 an33 cd33 ct33), sl33⟩)
    (c33 : PySem.W.codeIn K cd33 "_law_plain" = true) (k33 : PySem.W.keepIn K (.ref f33) = true)
    (a34 : PySem.W.nsIn K mainGlobals "_law_odd" = some (some (.ref f34))) (l34 : K.lookup f34 = some ⟨oc34, od34, .func (PySem.W.fnOf "_law_odd" "_law_odd" (defArgs s_odd) (defBody s_odd) (defScope s_odd) .none kV34 dc34 pm34 an34 cd34 ct34), sl34⟩)
    (c34 : PySem.W.codeIn K cd34 "_law_odd" = true) (k34 : PySem.W.keepIn K (.ref f34) = true)
    (a35 : PySem.W.nsIn K mainGlobals "_law_bent" = some (some (.ref f35))) (l35 : K.lookup f35 = some ⟨oc35, od35, .func (PySem.W.fnOf "_law_bent" "_law_bent" (defArgs s_bent) (defBody s_bent) (defScope s_bent) .none kV35 dc35 pm35 an35 cd35 ct35), sl35⟩)
    (c35 : PySem.W.codeIn K cd35 "_law_bent" = true) (k35 : PySem.W.keepIn K (.ref f35) = true)
    (a36 : PySem.W.nsIn K mainGlobals "_law_deep_one" = some (some (.ref f36))) (l36 : K.lookup f36 = some ⟨oc36, od36, .func (PySem.W.fnOf "_law_deep_one" "_law_deep_one" (defArgs s_deep_one) (defBody s_deep_one) (defScope s_deep_one) .none kV36 dc36 pm36 an36 cd36 ct36), sl36⟩)
    (c36 : PySem.W.codeIn K cd36 "_law_deep_one" = true) (k36 : PySem.W.keepIn K (.ref f36) = true)
    (a37 : PySem.W.nsIn K mainGlobals "_law_right" = some (some (.ref f37))) (l37 : K.lookup f37 = some ⟨oc37, od37, .func (PySem.W.fnOf "_law_right" "_law_right" (defArgs s_right) (defBody s_right) (defScope s_right) .none kV37 dc37 pm37 an37 cd37 ct37), sl37⟩)
    (c37 : PySem.W.codeIn K cd37 "_law_right" = true) (k37 : PySem.W.keepIn K (.ref f37) = true)
    (a38 : PySem.W.nsIn K mainGlobals "law" = some (some (.ref f38))) (l38 : K.lookup f38 = some ⟨oc38, od38, .func (PySem.W.fnOf "law" "law" (defArgs s_law) (defBody s_law) (defScope s_law) .none kV38 dc38 pm38 an38 cd38 ct38), sl38⟩)
    (c38 : PySem.W.codeIn K cd38 "law" = true) (k38 : PySem.W.keepIn K (.ref f38) = true)
    (z1 : PySem.W.nsIn K mainGlobals "abs" = some none)
    (z2 : PySem.W.nsIn K mainGlobals "all" = some none)
    (z3 : PySem.W.nsIn K mainGlobals "bool" = some none)
    (z4 : PySem.W.nsIn K mainGlobals "enumerate" = some none)
    (z5 : PySem.W.nsIn K mainGlobals "int" = some none)
    (z6 : PySem.W.nsIn K mainGlobals "isinstance" = some none)
    (z7 : PySem.W.nsIn K mainGlobals "len" = some none)
    (z8 : PySem.W.nsIn K mainGlobals "list" = some none)
    (z9 : PySem.W.nsIn K mainGlobals "max" = some none)
    (z10 : PySem.W.nsIn K mainGlobals "range" = some none)
    (z11 : PySem.W.nsIn K mainGlobals "repr" = some none)
    (z12 : PySem.W.nsIn K mainGlobals "sorted" = some none)
    (z13 : PySem.W.nsIn K mainGlobals "str" = some none)
    (z14 : PySem.W.nsIn K mainGlobals "sum" = some none)
    (z15 : PySem.W.nsIn K mainGlobals "tuple" = some none)
    (z16 : PySem.W.nsIn K mainGlobals "zip" = some none)
    {ga0 : Addr} {god0 : Option Addr} {gi0 : Array Value} {gn0 : Nat} {gsl0 : Array (Option Value)} (ge0 : PySem.W.nsIn K mainGlobals "KEYWORDS" = some (some (.ref ga0))) (gl0 : K.lookup ga0 = some ⟨.type "tuple", god0, .seq gi0 gn0, gsl0⟩) (gv0 : Vals ((["fun", "rec", "call", "let", "plus", "less", "times", "below", "if", "two", "first", "second", "ask", "askof", "past", "pastof", "deep", "shallow", "under", "many", "quick", "end", "ward", "number", "pair"] : List Str).map V.str) gi0.toList)
    {gt1 : Tok} (ge1 : PySem.W.nsIn K mainGlobals "LETTERS" = some (some (.str "abcdefghijklmnopqrstuvwxyz" gt1)))
    {gt2 : Tok} (ge2 : PySem.W.nsIn K mainGlobals "MOST_LETTERS" = some (some (.int 6 gt2)))
    {gt3 : Tok} (ge3 : PySem.W.nsIn K mainGlobals "FIGURES" = some (some (.str "0123456789" gt3)))
    {gt4 : Tok} (ge4 : PySem.W.nsIn K mainGlobals "MOST_KIND_PARTS" = some (some (.int 40 gt4)))
    {gt5 : Tok} (ge5 : PySem.W.nsIn K mainGlobals "MOST_KIND_DEEP" = some (some (.int 8 gt5)))
    {gt6 : Tok} (ge6 : PySem.W.nsIn K mainGlobals "MOST_LABELS" = some (some (.int 8 gt6)))
    {gt7 : Tok} (ge7 : PySem.W.nsIn K mainGlobals "MOST_DEEDS" = some (some (.int 6 gt7)))
    {gt8 : Tok} (ge8 : PySem.W.nsIn K mainGlobals "MOST_SHEET_DEEP" = some (some (.int 4 gt8)))
    : ∃ fd : FuncData, (∀ (s : Shared) (v : Value), BindsTo s fd ⟨[v], []⟩ [("_law_script", v)]) ∧ ∀ base : Heap, K.In base → base.Ns mainGlobals mg → Grd.Fn l.prog w K mg base CX0 22 fa fd ["_law_script"] (sp_law K) := by
  have e := hfa.symm.trans (PySem.W.mg_of X G a38)
  cases e
  have F1 := fun_mk (st := s_p_is_name) l1 c1 k1
  have b1 := F1.binds (ps := ["thing"]) fun _ _ _ _ _ _ us hl => match us, hl with | [_], _ => rfl
  have F2 := fun_mk (st := s_p_is_from_nought) l2 c2 k2
  have b2 := F2.binds (ps := ["thing"]) fun _ _ _ _ _ _ us hl => match us, hl with | [_], _ => rfl
  have F3 := fun_mk (st := s_p_are_plain_figures) l3 c3 k3
  have b3 := F3.binds (ps := ["text"]) fun _ _ _ _ _ _ us hl => match us, hl with | [_], _ => rfl
  have F4 := fun_mk (st := s_p_is_label) l4 c4 k4
  have b4 := F4.binds (ps := ["thing"]) fun _ _ _ _ _ _ us hl => match us, hl with | [_], _ => rfl
  have F5 := fun_mk (st := s_p_are_labels) l5 c5 k5
  have b5 := F5.binds (ps := ["thing"]) fun _ _ _ _ _ _ us hl => match us, hl with | [_], _ => rfl
  have F6 := fun_mk (st := s_p_is_roster_form) l6 c6 k6
  have b6 := F6.binds (ps := ["thing"]) fun _ _ _ _ _ _ us hl => match us, hl with | [_], _ => rfl
  have F7 := fun_mk (st := s_p_is_roster) l7 c7 k7
  have b7 := F7.binds (ps := ["thing"]) fun _ _ _ _ _ _ us hl => match us, hl with | [_], _ => rfl
  have F8 := fun_mk (st := s_p_is_kind_form) l8 c8 k8
  have b8 : KBinds K _ ["thing", "bounded"] ["bounded"] kwG kwV := kw_binds (fd := PySem.W.fnOf "is_kind_form" "is_kind_form" (defArgs s_p_is_kind_form) (defBody s_p_is_kind_form) (defScope s_p_is_kind_form) .none kV8 dc8 pm8 an8 cd8 ct8) fun x y => rfl
  have F9 := fun_mk (st := s_p_kinds_within) l9 c9 k9
  have b9 := F9.binds (ps := ["kind"]) fun _ _ _ _ _ _ us hl => match us, hl with | [_], _ => rfl
  have F10 := fun_mk (st := s_p_kind_parts) l10 c10 k10
  have b10 := F10.binds (ps := ["kind"]) fun _ _ _ _ _ _ us hl => match us, hl with | [_], _ => rfl
  have F11 := fun_mk (st := s_p_kind_deep) l11 c11 k11
  have b11 := F11.binds (ps := ["kind"]) fun _ _ _ _ _ _ us hl => match us, hl with | [_], _ => rfl
  have F12 := fun_mk (st := s_p_is_kind) l12 c12 k12
  have b12 := F12.binds (ps := ["thing"]) fun _ _ _ _ _ _ us hl => match us, hl with | [_], _ => rfl
  have F13 := fun_mk (st := s_p_is_plain_kind) l13 c13 k13
  have b13 := F13.binds (ps := ["thing"]) fun _ _ _ _ _ _ us hl => match us, hl with | [_], _ => rfl
  have F14 := fun_mk (st := s_p_is_sheet_row) l14 c14 k14
  have b14 := F14.binds (ps := ["thing"]) fun _ _ _ _ _ _ us hl => match us, hl with | [_], _ => rfl
  have F15 := fun_mk (st := s_p_is_sheet) l15 c15 k15
  have b15 := F15.binds (ps := ["thing"]) fun _ _ _ _ _ _ us hl => match us, hl with | [_], _ => rfl
  have F16 := fun_mk (st := s_dip) l16 c16 k16
  have b16 := F16.binds (ps := ["_law_script", "_law_k"]) fun _ _ _ _ _ _ us hl => match us, hl with | [_, _], _ => rfl
  have F17 := fun_mk (st := s_take) l17 c17 k17
  have b17 := F17.binds (ps := ["_law_box", "_law_many"]) fun _ _ _ _ _ _ us hl => match us, hl with | [_, _], _ => rfl
  have F18 := fun_mk (st := s_folded) l18 c18 k18
  have b18 := F18.binds (ps := ["_law_script", "_law_size_here"]) fun _ _ _ _ _ _ us hl => match us, hl with | [_, _], _ => rfl
  have F19 := fun_mk (st := s_one_of) l19 c19 k19
  have b19 := F19.binds (ps := ["_law_box", "_law_some"]) fun _ _ _ _ _ _ us hl => match us, hl with | [_, _], _ => rfl
  have F20 := fun_mk (st := s_keywords) l20 c20 k20
  have b20 := F20.binds (ps := []) fun _ _ _ _ _ _ us hl => match us, hl with | [], _ => rfl
  have F21 := fun_mk (st := s_named) l21 c21 k21
  have b21 := F21.binds (ps := ["_law_box", "_law_many"]) fun _ _ _ _ _ _ us hl => match us, hl with | [_, _], _ => rfl
  have F22 := fun_mk (st := s_label) l22 c22 k22
  have b22 := F22.binds (ps := ["_law_box", "_law_deeds"]) fun _ _ _ _ _ _ us hl => match us, hl with | [_, _], _ => rfl
  have F23 := fun_mk (st := s_roster) l23 c23 k23
  have b23 := F23.binds (ps := ["_law_box", "_law_deeds"]) fun _ _ _ _ _ _ us hl => match us, hl with | [_, _], _ => rfl
  have F24 := fun_mk (st := s_kind) l24 c24 k24
  have b24 := F24.binds (ps := ["_law_box", "_law_deeds", "_law_room", "_law_deep"]) fun _ _ _ _ _ _ us hl => match us, hl with | [_, _, _, _], _ => rfl
  have F25 := fun_mk (st := s_is_name) l25 c25 k25
  have b25 := F25.binds (ps := ["_law_odd_here"]) fun _ _ _ _ _ _ us hl => match us, hl with | [_], _ => rfl
  have F26 := fun_mk (st := s_is_figures) l26 c26 k26
  have b26 := F26.binds (ps := ["_law_word"]) fun _ _ _ _ _ _ us hl => match us, hl with | [_], _ => rfl
  have F27 := fun_mk (st := s_is_label) l27 c27 k27
  have b27 := F27.binds (ps := ["_law_odd_here"]) fun _ _ _ _ _ _ us hl => match us, hl with | [_], _ => rfl
  have F28 := fun_mk (st := s_is_ros) l28 c28 k28
  have b28 := F28.binds (ps := ["_law_odd_here"]) fun _ _ _ _ _ _ us hl => match us, hl with | [_], _ => rfl
  have F29 := fun_mk (st := s_size) l29 c29 k29
  have b29 := F29.binds (ps := ["_law_odd_here"]) fun _ _ _ _ _ _ us hl => match us, hl with | [_], _ => rfl
  have F30 := fun_mk (st := s_is_it) l30 c30 k30
  have b30 := F30.binds (ps := ["_law_odd_here"]) fun _ _ _ _ _ _ us hl => match us, hl with | [_], _ => rfl
  have F31 := fun_mk (st := s_is_plain) l31 c31 k31
  have b31 := F31.binds (ps := ["_law_odd_here", "_law_deep"]) fun _ _ _ _ _ _ us hl => match us, hl with | [_, _], _ => rfl
  have F32 := fun_mk (st := s_is_sheet) l32 c32 k32
  have b32 := F32.binds (ps := ["_law_odd_here"]) fun _ _ _ _ _ _ us hl => match us, hl with | [_], _ => rfl
  have F33 := fun_mk (st := s_plain) l33 c33 k33
  have b33 := F33.binds (ps := ["_law_box", "_law_deep"]) fun _ _ _ _ _ _ us hl => match us, hl with | [_, _], _ => rfl
  have F34 := fun_mk (st := s_odd) l34 c34 k34
  have b34 := F34.binds (ps := ["_law_box", "_law_some"]) fun _ _ _ _ _ _ us hl => match us, hl with | [_, _], _ => rfl
  have F35 := fun_mk (st := s_bent) l35 c35 k35
  have b35 := F35.binds (ps := ["_law_box", "_law_some"]) fun _ _ _ _ _ _ us hl => match us, hl with | [_, _], _ => rfl
  have F36 := fun_mk (st := s_deep_one) l36 c36 k36
  have b36 := F36.binds (ps := ["_law_count", "_law_wide"]) fun _ _ _ _ _ _ us hl => match us, hl with | [_, _], _ => rfl
  have F37 := fun_mk (st := s_right) l37 c37 k37
  have b37 := F37.binds (ps := ["_law_box"]) fun _ _ _ _ _ _ us hl => match us, hl with | [_], _ => rfl
  have F38 := fun_mk (st := s_law) l38 c38 k38
  have b38 := F38.binds (ps := ["_law_script"]) fun _ _ _ _ _ _ us hl => match us, hl with | [_], _ => rfl
  let T : Txt K mg := {
    a_p_is_name := f1, d_p_is_name := _, F_p_is_name := F1, b_p_is_name := b1, g_p_is_name := PySem.W.mg_of X G a1,
    a_p_is_from_nought := f2, d_p_is_from_nought := _, F_p_is_from_nought := F2, b_p_is_from_nought := b2, g_p_is_from_nought := PySem.W.mg_of X G a2,
    a_p_are_plain_figures := f3, d_p_are_plain_figures := _, F_p_are_plain_figures := F3, b_p_are_plain_figures := b3, g_p_are_plain_figures := PySem.W.mg_of X G a3,
    a_p_is_label := f4, d_p_is_label := _, F_p_is_label := F4, b_p_is_label := b4, g_p_is_label := PySem.W.mg_of X G a4,
    a_p_are_labels := f5, d_p_are_labels := _, F_p_are_labels := F5, b_p_are_labels := b5, g_p_are_labels := PySem.W.mg_of X G a5,
    a_p_is_roster_form := f6, d_p_is_roster_form := _, F_p_is_roster_form := F6, b_p_is_roster_form := b6, g_p_is_roster_form := PySem.W.mg_of X G a6,
    a_p_is_roster := f7, d_p_is_roster := _, F_p_is_roster := F7, b_p_is_roster := b7, g_p_is_roster := PySem.W.mg_of X G a7,
    a_p_is_kind_form := f8, d_p_is_kind_form := _, F_p_is_kind_form := F8, kb_p_is_kind_form := b8, g_p_is_kind_form := PySem.W.mg_of X G a8,
    a_p_kinds_within := f9, d_p_kinds_within := _, F_p_kinds_within := F9, b_p_kinds_within := b9, g_p_kinds_within := PySem.W.mg_of X G a9,
    a_p_kind_parts := f10, d_p_kind_parts := _, F_p_kind_parts := F10, b_p_kind_parts := b10, g_p_kind_parts := PySem.W.mg_of X G a10,
    a_p_kind_deep := f11, d_p_kind_deep := _, F_p_kind_deep := F11, b_p_kind_deep := b11, g_p_kind_deep := PySem.W.mg_of X G a11,
    a_p_is_kind := f12, d_p_is_kind := _, F_p_is_kind := F12, b_p_is_kind := b12, g_p_is_kind := PySem.W.mg_of X G a12,
    a_p_is_plain_kind := f13, d_p_is_plain_kind := _, F_p_is_plain_kind := F13, b_p_is_plain_kind := b13, g_p_is_plain_kind := PySem.W.mg_of X G a13,
    a_p_is_sheet_row := f14, d_p_is_sheet_row := _, F_p_is_sheet_row := F14, b_p_is_sheet_row := b14, g_p_is_sheet_row := PySem.W.mg_of X G a14,
    a_p_is_sheet := f15, d_p_is_sheet := _, F_p_is_sheet := F15, b_p_is_sheet := b15, g_p_is_sheet := PySem.W.mg_of X G a15,
    a_dip := f16, d_dip := _, F_dip := F16, b_dip := b16, g_dip := PySem.W.mg_of X G a16,
    a_take := f17, d_take := _, F_take := F17, b_take := b17, g_take := PySem.W.mg_of X G a17,
    a_folded := f18, d_folded := _, F_folded := F18, b_folded := b18, g_folded := PySem.W.mg_of X G a18,
    a_one_of := f19, d_one_of := _, F_one_of := F19, b_one_of := b19, g_one_of := PySem.W.mg_of X G a19,
    a_keywords := f20, d_keywords := _, F_keywords := F20, b_keywords := b20, g_keywords := PySem.W.mg_of X G a20,
    a_named := f21, d_named := _, F_named := F21, b_named := b21, g_named := PySem.W.mg_of X G a21,
    a_label := f22, d_label := _, F_label := F22, b_label := b22, g_label := PySem.W.mg_of X G a22,
    a_roster := f23, d_roster := _, F_roster := F23, b_roster := b23, g_roster := PySem.W.mg_of X G a23,
    a_kind := f24, d_kind := _, F_kind := F24, b_kind := b24, g_kind := PySem.W.mg_of X G a24,
    a_is_name := f25, d_is_name := _, F_is_name := F25, b_is_name := b25, g_is_name := PySem.W.mg_of X G a25,
    a_is_figures := f26, d_is_figures := _, F_is_figures := F26, b_is_figures := b26, g_is_figures := PySem.W.mg_of X G a26,
    a_is_label := f27, d_is_label := _, F_is_label := F27, b_is_label := b27, g_is_label := PySem.W.mg_of X G a27,
    a_is_ros := f28, d_is_ros := _, F_is_ros := F28, b_is_ros := b28, g_is_ros := PySem.W.mg_of X G a28,
    a_size := f29, d_size := _, F_size := F29, b_size := b29, g_size := PySem.W.mg_of X G a29,
    a_is_it := f30, d_is_it := _, F_is_it := F30, b_is_it := b30, g_is_it := PySem.W.mg_of X G a30,
    a_is_plain := f31, d_is_plain := _, F_is_plain := F31, b_is_plain := b31, g_is_plain := PySem.W.mg_of X G a31,
    a_is_sheet := f32, d_is_sheet := _, F_is_sheet := F32, b_is_sheet := b32, g_is_sheet := PySem.W.mg_of X G a32,
    a_plain := f33, d_plain := _, F_plain := F33, b_plain := b33, g_plain := PySem.W.mg_of X G a33,
    a_odd := f34, d_odd := _, F_odd := F34, b_odd := b34, g_odd := PySem.W.mg_of X G a34,
    a_bent := f35, d_bent := _, F_bent := F35, b_bent := b35, g_bent := PySem.W.mg_of X G a35,
    a_deep_one := f36, d_deep_one := _, F_deep_one := F36, b_deep_one := b36, g_deep_one := PySem.W.mg_of X G a36,
    a_right := f37, d_right := _, F_right := F37, b_right := b37, g_right := PySem.W.mg_of X G a37,
    a_law := fa, d_law := _, F_law := F38, b_law := b38, g_law := PySem.W.mg_of X G a38,
    a_KEYWORDS := ga0, g_KEYWORDS := PySem.W.mg_of X G ge0, s_KEYWORDS := fun H => .inr ⟨_, gi0, gn0, gl0, rfl, rfl, by rw [← Array.length_toList, ← gv0.length]; decide +kernel, gv0⟩,
    u_LETTERS := _, g_LETTERS := PySem.W.mg_of X G ge1, r_LETTERS := ⟨_, rfl⟩,
    u_MOST_LETTERS := _, g_MOST_LETTERS := PySem.W.mg_of X G ge2, r_MOST_LETTERS := ⟨_, rfl⟩,
    u_FIGURES := _, g_FIGURES := PySem.W.mg_of X G ge3, r_FIGURES := ⟨_, rfl⟩,
    u_MOST_KIND_PARTS := _, g_MOST_KIND_PARTS := PySem.W.mg_of X G ge4, r_MOST_KIND_PARTS := ⟨_, rfl⟩,
    u_MOST_KIND_DEEP := _, g_MOST_KIND_DEEP := PySem.W.mg_of X G ge5, r_MOST_KIND_DEEP := ⟨_, rfl⟩,
    u_MOST_LABELS := _, g_MOST_LABELS := PySem.W.mg_of X G ge6, r_MOST_LABELS := ⟨_, rfl⟩,
    u_MOST_DEEDS := _, g_MOST_DEEDS := PySem.W.mg_of X G ge7, r_MOST_DEEDS := ⟨_, rfl⟩,
    u_MOST_SHEET_DEEP := _, g_MOST_SHEET_DEEP := PySem.W.mg_of X G ge8, r_MOST_SHEET_DEEP := ⟨_, rfl⟩,
    n_abs := PySem.W.mg_none_of X G z1,
    n_all := PySem.W.mg_none_of X G z2,
    n_bool := PySem.W.mg_none_of X G z3,
    n_enumerate := PySem.W.mg_none_of X G z4,
    n_int := PySem.W.mg_none_of X G z5,
    n_isinstance := PySem.W.mg_none_of X G z6,
    n_len := PySem.W.mg_none_of X G z7,
    n_list := PySem.W.mg_none_of X G z8,
    n_max := PySem.W.mg_none_of X G z9,
    n_range := PySem.W.mg_none_of X G z10,
    n_repr := PySem.W.mg_none_of X G z11,
    n_sorted := PySem.W.mg_none_of X G z12,
    n_str := PySem.W.mg_none_of X G z13,
    n_sum := PySem.W.mg_none_of X G z14,
    n_tuple := PySem.W.mg_none_of X G z15,
    n_zip := PySem.W.mg_none_of X G z16 }
  exact ⟨_, fun s v => .of_eq rfl, fun base _ _ => ok_law (P := l.prog) (w := w) (base := base) T⟩
end K10

open PySem PySem.W PyProof.Rows in
set_option maxRecDepth 100000 in
set_option maxHeartbeats 0 in
theorem PySem.Challenge.cw_handledeeds_k10_what_kinds_are_holds : PySem.Challenge.rw_handledeeds_k10_what_kinds_are.Holds := by
  w_on; o_law; k_head; (case hw => w_witness2)
  k_fill
  refine Grd.walkG (l := PySem.Challenge.rw_handledeeds_k10_what_kinds_are) (n := 63) (k := 22) (x := "_law_script") (CX := fun _ => L2.CX0) (sp := fun w => K10.sp_law _) rfl (by decide) rfl ⟨rfl, by decide, by decide⟩ (fun w h Y => PySem.W.kIn_of Y) ?F (fun _ _ a ns hl _ hS => ⟨a, ns, rfl, hS, hl, fun _ => rfl⟩) (fun _ _ _ _ _ z => z)
  case F =>
    intro w mg fa h KX G hmg
    refine' K10.all_mk KX G hmg ?a1 ?l1 ?c1 ?k1 ?a2 ?l2 ?c2 ?k2 ?a3 ?l3 ?c3 ?k3 ?a4 ?l4 ?c4 ?k4 ?a5 ?l5 ?c5 ?k5 ?a6 ?l6 ?c6 ?k6 ?a7 ?l7 ?c7 ?k7 ?a8 ?l8 ?c8 ?k8 ?a9 ?l9 ?c9 ?k9 ?a10 ?l10 ?c10 ?k10 ?a11 ?l11 ?c11 ?k11 ?a12 ?l12 ?c12 ?k12 ?a13 ?l13 ?c13 ?k13 ?a14 ?l14 ?c14 ?k14 ?a15 ?l15 ?c15 ?k15 ?a16 ?l16 ?c16 ?k16 ?a17 ?l17 ?c17 ?k17 ?a18 ?l18 ?c18 ?k18 ?a19 ?l19 ?c19 ?k19 ?a20 ?l20 ?c20 ?k20 ?a21 ?l21 ?c21 ?k21 ?a22 ?l22 ?c22 ?k22 ?a23 ?l23 ?c23 ?k23 ?a24 ?l24 ?c24 ?k24 ?a25 ?l25 ?c25 ?k25 ?a26 ?l26 ?c26 ?k26 ?a27 ?l27 ?c27 ?k27 ?a28 ?l28 ?c28 ?k28 ?a29 ?l29 ?c29 ?k29 ?a30 ?l30 ?c30 ?k30 ?a31 ?l31 ?c31 ?k31 ?a32 ?l32 ?c32 ?k32 ?a33 ?l33 ?c33 ?k33 ?a34 ?l34 ?c34 ?k34 ?a35 ?l35 ?c35 ?k35 ?a36 ?l36 ?c36 ?k36 ?a37 ?l37 ?c37 ?k37 ?a38 ?l38 ?c38 ?k38 ?z1 ?z2 ?z3 ?z4 ?z5 ?z6 ?z7 ?z8 ?z9 ?z10 ?z11 ?z12 ?z13 ?z14 ?z15 ?z16 ?ge0 ?gl0 ?gv0 ?ge1 ?ge2 ?ge3 ?ge4 ?ge5 ?ge6 ?ge7 ?ge8
    (case a1 => k_is)
    (case l1 => k_is)
    (case c1 => k_is)
    (case k1 => k_is)
    (case a2 => k_is)
    (case l2 => k_is)
    (case c2 => k_is)
    (case k2 => k_is)
    (case a3 => k_is)
    (case l3 => k_is)
    (case c3 => k_is)
    (case k3 => k_is)
    (case a4 => k_is)
    (case l4 => k_is)
    (case c4 => k_is)
    (case k4 => k_is)
    (case a5 => k_is)
    (case l5 => k_is)
    (case c5 => k_is)
    (case k5 => k_is)
    (case a6 => k_is)
    (case l6 => k_is)
    (case c6 => k_is)
    (case k6 => k_is)
    (case a7 => k_is)
    (case l7 => k_is)
    (case c7 => k_is)
    (case k7 => k_is)
    (case a8 => k_is)
    (case l8 => k_is)
    (case c8 => k_is)
    (case k8 => k_is)
    (case a9 => k_is)
    (case l9 => k_is)
    (case c9 => k_is)
    (case k9 => k_is)
    (case a10 => k_is)
    (case l10 => k_is)
    (case c10 => k_is)
    (case k10 => k_is)
    (case a11 => k_is)
    (case l11 => k_is)
    (case c11 => k_is)
    (case k11 => k_is)
    (case a12 => k_is)
    (case l12 => k_is)
    (case c12 => k_is)
    (case k12 => k_is)
    (case a13 => k_is)
    (case l13 => k_is)
    (case c13 => k_is)
    (case k13 => k_is)
    (case a14 => k_is)
    (case l14 => k_is)
    (case c14 => k_is)
    (case k14 => k_is)
    (case a15 => k_is)
    (case l15 => k_is)
    (case c15 => k_is)
    (case k15 => k_is)
    (case a16 => k_is)
    (case l16 => k_is)
    (case c16 => k_is)
    (case k16 => k_is)
    (case a17 => k_is)
    (case l17 => k_is)
    (case c17 => k_is)
    (case k17 => k_is)
    (case a18 => k_is)
    (case l18 => k_is)
    (case c18 => k_is)
    (case k18 => k_is)
    (case a19 => k_is)
    (case l19 => k_is)
    (case c19 => k_is)
    (case k19 => k_is)
    (case a20 => k_is)
    (case l20 => k_is)
    (case c20 => k_is)
    (case k20 => k_is)
    (case a21 => k_is)
    (case l21 => k_is)
    (case c21 => k_is)
    (case k21 => k_is)
    (case a22 => k_is)
    (case l22 => k_is)
    (case c22 => k_is)
    (case k22 => k_is)
    (case a23 => k_is)
    (case l23 => k_is)
    (case c23 => k_is)
    (case k23 => k_is)
    (case a24 => k_is)
    (case l24 => k_is)
    (case c24 => k_is)
    (case k24 => k_is)
    (case a25 => k_is)
    (case l25 => k_is)
    (case c25 => k_is)
    (case k25 => k_is)
    (case a26 => k_is)
    (case l26 => k_is)
    (case c26 => k_is)
    (case k26 => k_is)
    (case a27 => k_is)
    (case l27 => k_is)
    (case c27 => k_is)
    (case k27 => k_is)
    (case a28 => k_is)
    (case l28 => k_is)
    (case c28 => k_is)
    (case k28 => k_is)
    (case a29 => k_is)
    (case l29 => k_is)
    (case c29 => k_is)
    (case k29 => k_is)
    (case a30 => k_is)
    (case l30 => k_is)
    (case c30 => k_is)
    (case k30 => k_is)
    (case a31 => k_is)
    (case l31 => k_is)
    (case c31 => k_is)
    (case k31 => k_is)
    (case a32 => k_is)
    (case l32 => k_is)
    (case c32 => k_is)
    (case k32 => k_is)
    (case a33 => k_is)
    (case l33 => k_is)
    (case c33 => k_is)
    (case k33 => k_is)
    (case a34 => k_is)
    (case l34 => k_is)
    (case c34 => k_is)
    (case k34 => k_is)
    (case a35 => k_is)
    (case l35 => k_is)
    (case c35 => k_is)
    (case k35 => k_is)
    (case a36 => k_is)
    (case l36 => k_is)
    (case c36 => k_is)
    (case k36 => k_is)
    (case a37 => k_is)
    (case l37 => k_is)
    (case c37 => k_is)
    (case k37 => k_is)
    (case a38 => k_is)
    (case l38 => k_is)
    (case c38 => k_is)
    (case k38 => k_is)
    (case z1 => k_is)
    (case z2 => k_is)
    (case z3 => k_is)
    (case z4 => k_is)
    (case z5 => k_is)
    (case z6 => k_is)
    (case z7 => k_is)
    (case z8 => k_is)
    (case z9 => k_is)
    (case z10 => k_is)
    (case z11 => k_is)
    (case z12 => k_is)
    (case z13 => k_is)
    (case z14 => k_is)
    (case z15 => k_is)
    (case z16 => k_is)
    (case ge0 => k_is)
    (case gl0 => k_is)
    (case gv0 => repeat (first | exact Paired.nil | refine Paired.cons ⟨_, rfl⟩ ?_))
    (case ge1 => k_is)
    (case ge2 => k_is)
    (case ge3 => k_is)
    (case ge4 => k_is)
    (case ge5 => k_is)
    (case ge6 => k_is)
    (case ge7 => k_is)
    (case ge8 => k_is)
