import PyProof.Rows.All
import Wide.All
import OpenK.AllK
import Wide.FinOn
import PyProof.ReprRoads
import HandS.ForMost
import HandS.IsInst
import HandS.TupAny
import HandS.DictComp
import HandS.Evl
import HandS.Style
import PySem.Challenge.RW_handledeeds_k11_open_ones_put_in
import HandS.Walk
import HandS.Zip
import PyProof.ReprLen
set_option Elab.async false
set_option maxRecDepth 100000
set_option maxHeartbeats 4000000
set_option linter.all false
/-! A def's promise where no repr is under way around the call (guards empty): needed by repr of lists, tuples, dicts. -/
namespace Grd
open PySem L2 PyProof.Rows

/-- as FnOk, the call standing where no repr goes on -/
structure Fn (P : Program) (w : World) (K : PySem.W.Frag) (mg : Str → Option Value) (base : Heap) (CX : CXT)
    (k : Nat) (f : Addr) (fd : FuncData) (ps : List Str) (sp : Sp) : Prop where
  len : ∀ vs H Q E, sp vs H Q E → vs.length = ps.length
  run : ∀ (A : Around) (outer : List Env) (s : Shared) (H : Hp) (args : Args) (us : List Value) (vs : List V)
    (Q : VK) (E : XK), A.guards = some [] → Room k A → Env0 P w K mg base A outer s H →
    BindsTo s fd args (ps.zip us) → Vals vs us → sp vs H Q E →
    codeAny (model P w) A (.call (.ref f) args) (CR CX outer P w H s Q E) s

section
variable {P : Program} {w : World} {K : PySem.W.Frag} {mg : Str → Option Value} {base : Heap} {CX : CXT} {k j : Nat}
  {f : Addr} {fd : FuncData} {ps : List Str} {sp sp' : Sp}

theorem Fn.ofOk (G : FnOk P w K mg base CX k f fd ps sp) : Fn P w K mg base CX k f fd ps sp :=
  ⟨G.len, fun A outer s H args us vs Q E _ => G.run A outer s H args us vs Q E⟩

theorem Fn.up (G : Fn P w K mg base CX j f fd ps sp) (h : j ≤ k) : Fn P w K mg base CX k f fd ps sp :=
  ⟨G.len, fun A outer s H args us vs Q E hg hr => G.run A outer s H args us vs Q E hg (hr.mono h)⟩

/-- the body's walk gives the promise -/
theorem mk {x qual : Str} {st : Stmt} {N : List Str} (F : Fun K x qual st f fd) (S : FnScope N ps (defScope st))
    (len : ∀ vs H Q E, sp vs H Q E → vs.length = ps.length)
    (body : ∀ (cdv : Value) (A : Around) (outer : List Env) (s : Shared) (H : Hp) (vs : List V) (Q : VK) (E : XK),
      (A.deeper (envOfC qual (defScope st) s.heap.objs.size f cdv)).guards = some [] →
      Room k (A.deeper (envOfC qual (defScope st) s.heap.objs.size f cdv)) → sp vs H Q E →
      ∃ t, PSs (cxOf CX0 P w K mg base N qual (defScope st) f cdv A outer s H E).nox (defBody st) t ∧
        t { nx := fun _ H' => Q .non H', rt := Q } (start N vs) H) :
    Fn P w K mg base CX0 (k + 1) f fd ps sp := by
  obtain ⟨oc, od, kV, doc, pm, an, cdv, ct, osl, rfl, lk, hcd⟩ := F.ex
  constructor
  · exact len
  intro A outer s H args us vs Q E hg hr e0 hb r hsp
  have hlen := len _ _ _ _ hsp
  have inK : K.In s.heap := e0.mod.kin.keeps fun b o z => (e0.bs b o z).1
  have noLim : s.heap.NoLimit := e0.mod.nolimit.keeps fun b o z => (e0.bs b o z).1
  obtain ⟨t, ht, hq⟩ := body cdv A outer s H vs Q E (by exact hg) (hr.deeper _) hsp
  have kinds : ∀ y ∈ ps.zip us, (defScope st).names.lookup y.1 = some .local ∨
      ((defScope st).names.lookup y.1 = some .cell ∧
        ((cellsFrom (s.heap.objs.size + 1) (defScope st).names []).lookup y.1).isSome = true) := by
    rintro ⟨n, v⟩ hy
    cases S.par n (List.of_mem_zip hy).1 with
    | inl q => exact .inl q
    | inr q => exact .inr ⟨q, PySem.W.cellsFrom_some _ _ _ (.inl q)⟩
  refine codeAny_call_function hr.depth (inK _ _ lk) rfl S.co S.gen rfl
    (PySem.W.codeRec_of inK hcd) (hb _ _ _ _ ?_)
  refine wpAny_newFunctionEnv_cells S.kind kinds fun env he s1 x => ?_
  subst he
  refine ⟨noLim.keeps x.toInCall.keep, codeAny_func ?_⟩
  have I := inv_start (CX := CX0) (E := E) S hr.hd e0 hlen r x
  refine wpAny_mono (ht.nox.run [] s1 (start N vs) H _ I hq) ?_ (fun e s' hs => hs)
  intro fl s' hs
  cases fl with
  | ret u =>
    obtain ⟨v, σ', H', J, rv, q⟩ := hs
    exact ⟨v, H', J.os, J.bare, J.base, J.hok, rv, q⟩
  | next =>
    obtain ⟨σ', H', J, q⟩ := hs
    exact ⟨V.non, H', J.os, J.bare, J.base, J.hok, rfl, q⟩
  | brk =>
    obtain ⟨_, _, _, q⟩ := hs
    exact q.elim
  | cont =>
    obtain ⟨_, _, _, q⟩ := hs
    exact q.elim
end

section
variable {X : Cx} {CX : CXT} {k : Nat} {f : Addr} {fd : FuncData} {ps : List Str} {sp : Sp} {dvs : List V} {ds : List Value}
  {E : XK} {x : Str} {p pos : Pos} {e : Expr} {es : List Expr} {t : TA}

theorem run_it {pins : List (Addr × Obj)} {σ : L2.St} {H : Hp} {s : Shared} {Q : VK} {us : List Value} {vs : List V}
    (F : Fn X.prog X.w X.K X.mg X.base CX k f fd ps sp) (gd : X.A.guards = some []) (hr : Room k X.A)
    (hb : Binds X.K fd ps ds) (hd : Vals dvs ds) (hx : Passes CX X E)
    (I : Inv X pins σ H s) (r : Vals vs us) (h : sp (vs ++ dvs) H Q E) :
    wpAny (model X.prog X.w) X.A (call (.ref f) us) (EP X pins σ Q) X.xe s := by
  have rr := r.append hd
  have ll : (us ++ ds).length = ps.length := rr.length.symm.trans (F.len _ _ _ _ h)
  have z := F.run X.A X.stack s H ⟨us, []⟩ (us ++ ds) (vs ++ dvs) Q E gd hr I.env0 (hb s us I.kIn ll) rr h
  refine wpAny_call (codeAny_mono z ?_)
  intro r s' hq
  match r, hq with
  | .error e, hq => exact hx pins σ H s e s' I hq
  | .ok (.ret u), hq => exact I.after hq
  | .ok .next, hq => exact hq.elim
  | .ok .brk, hq => exact hq.elim
  | .ok .cont, hq => exact hq.elim

/-- f(e, ..) -/
theorem pe_callG (F : Fn X.prog X.w X.K X.mg X.base CX k f fd ps sp) (gd : X.A.guards = some []) (hr : Room k X.A)
    (hg : Gl X x) (hm : X.mg x = some (.ref f)) (hk : PySem.W.keepIn X.K (.ref f) = true) (hb : Binds X.K fd ps ds)
    (hd : Vals dvs ds) (hx : Passes CX X E) (ha : PA X (e :: es) t)
    (hdb : (x == ("__debug__" : Str)) = false := by decide)
    (he : starEach (e :: es) X.env = (false, eval e X.env) :: starEach es X.env := by rfl)
    (hpl : (backTo pos (starEach es X.env)).any (·.1) = false := by rfl) :
    PE X (.Call (.Name x p) (e :: es) [] pos) (tCall sp dvs E t) := by
  constructor
  intro pins s σ H Q I h
  refine wpAny_Call_Name_kw (ld_glob I hg hm ?_ hdb)
  have z := thn (Q' := fun us s1 => X.K.In s1.heap ∧ wpAny (model X.prog X.w) X.A (call (.ref f) us) (EP X pins σ Q) X.xe s1)
    (ha.run pos pins s σ H _ I h) (by
      rintro us s1 ⟨vs, H1, I1, r, q⟩
      exact ⟨I1.kIn, run_it F gd hr hb hd hx I1 r q⟩)
  exact PySem.W.callWith_K (h₀ := X.base) I.ok.mod.kin hk z he hpl

/-- f() -/
theorem pe_callG0 (F : Fn X.prog X.w X.K X.mg X.base CX k f fd ps sp) (gd : X.A.guards = some []) (hr : Room k X.A)
    (hg : Gl X x) (hm : X.mg x = some (.ref f)) (hk : PySem.W.keepIn X.K (.ref f) = true) (hb : Binds X.K fd ps ds)
    (hd : Vals dvs ds) (hx : Passes CX X E) (hdb : (x == ("__debug__" : Str)) = false := by decide) :
    PE X (.Call (.Name x p) [] [] pos) (tCall sp dvs E tNil) := by
  constructor
  intro pins s σ H Q I h
  refine wpAny_Call_Name_kw (ld_glob I hg hm ?_ hdb)
  exact PySem.W.callWith_K0 I.kIn hk (run_it (us := []) F gd hr hb hd hx I .nil h)
end

/-! ### the end of a law: as the library's own, from a promise where no repr goes on -/
theorem law_run {P : Program} {w : World} {K : PySem.W.Frag} {mg mb : Str → Option Value} {CX : CXT} {k : Nat} {fa a : Addr}
    {fd : FuncData} {x : Str} {sp : Sp} {s₁ : Shared} {vs : List Value} {ns : List Int}
    (KX : K.In s₁.heap) (hns : s₁.heap.Ns mainGlobals mg) (hb : s₁.heap.Ns builtinsNs mb)
    (hbb : ∀ x : Str, x ≠ "__name__" → mb x = bootBuiltins x) (hlim : s₁.heap.NoLimit) (hg : s₁.gens = #[])
    (ha : s₁.heap.get? a = some { cls := .type "list", data := .seq vs.toArray }) (hi : IntsAre vs ns)
    (hl : ns.length ≤ sizeLine) (hr : Room k callerA)
    (F : ∀ base : Heap, K.In base → base.Ns mainGlobals mg → Fn P w K mg base CX k fa fd [x] sp)
    (hbind : ∀ (s : Shared) (u : Value), BindsTo s fd ⟨[u], []⟩ [(x, u)])
    (hsp : ∀ H : Hp, Only H → SqL K H a (ns.map V.int) → sp [.ref a] H (fun v _ => v = .bl true) fun _ _ _ => False)
    (hCX : ∀ H e s', CX [] H s₁ (fun _ _ _ => False) e s' → False) :
    codeAny (model P w) callerA (.call (.ref fa) ⟨[.ref a], []⟩)
      (fun r s' => r = .ok (.ret (.bool true)) ∧ OldK s₁.heap s'.heap ∧ s'.os = s₁.os ∧ AllBare s'.gens) s₁ := by
  have rv := vals_ints hi
  have lv := hi.length
  have main : ∀ H : Hp, Only H → SqL K H a (ns.map V.int) → HOk P w H s₁.heap → (∀ b, H b ≠ none → b = a) →
      (H a ≠ none → K.lookup a = none) → codeAny (model P w) callerA (.call (.ref fa) ⟨[.ref a], []⟩)
      (fun r s' => r = .ok (.ret (.bool true)) ∧ OldK s₁.heap s'.heap ∧ s'.os = s₁.os ∧ AllBare s'.gens) s₁ := by
    intro H only hS hok hA hK
    have free : ∀ {b : Addr}, ¬ b = a → H b = none := by
      intro b nb
      cases q : H b with
      | none => rfl
      | some u => exact absurd (hA b (by rw [q]; simp)) nb
    have dictFree : ∀ {b : Addr} {o : Obj} {es : Array DictEntry} {ep : Nat}, s₁.heap.get? b = some o →
        o.data = .dict es ep → H b = none := by
      intro b o es ep e d
      by_cases nb : b = a
      · rw [nb, ha] at e
        rw [← Option.some.inj e] at d
        exact nomatch d
      · exact free nb
    have nsOf : ∀ {b : Addr} {m : Str → Option Value}, s₁.heap.Ns b m → (hidT s₁.heap H).Ns b m := by
      rintro b m ⟨o, es, ep, e, d, r⟩
      exact ⟨o, es, ep, hidT_get e (dictFree e d), d, r⟩
    have inB : K.In (hidT s₁.heap H) := by
      intro b o e
      refine hidT_get (KX b o e) ?_
      cases q : H b with
      | none => rfl
      | some u =>
        have e' : b = a := hA b (by rw [q]; simp)
        have n := hK (by rw [← e', q]; simp)
        rw [e', n] at e
        exact nomatch e
    have mod : Mod K mg (hidT s₁.heap H) := by
      obtain ⟨mc, h1, h2⟩ := hlim
      exact ⟨inB, nsOf hns, ⟨mb, nsOf hb, hbb⟩, ⟨mc, nsOf h1, h2⟩⟩
    have e0 : Env0 P w K mg (hidT s₁.heap H) callerA [] s₁ H :=
      { frames := rfl, mod := mod, bs := fun b o e => of_hidT e, bsz := Nat.le_of_eq (hidT_size _ _), funs := trivial,
        frf := fun b hb => absurd (show b ∈ ([] : List Addr) from hb) (by simp), hok := hok, bare := .of_eq hg }
    have go := (F _ inB (nsOf hns)).run callerA [] s₁ H ⟨[.ref a], []⟩ [.ref a] [.ref a] _ _ rfl hr e0
      (hbind s₁ (.ref a)) (.cons rfl .nil) (hsp H only hS)
    refine codeAny_mono go ?_
    intro r s' h
    match r, h with
    | .error e, h => exact (hCX H e s' h).elim
    | .ok .next, h => exact h.elim
    | .ok .brk, h => exact h.elim
    | .ok .cont, h => exact h.elim
    | .ok (.ret u), h =>
      obtain ⟨v, H', os, bare, un, hok', r', q⟩ := h
      have q' : v = .bl true := q
      subst q'
      have eu : u = Value.bool true := r'
      subst eu
      refine ⟨rfl, OldK.of_keep ?_, os, bare⟩
      intro b o e
      rcases only b with z | ⟨ob, xs, z⟩
      · exact un.keep b o e z (fun y => absurd (show b ∈ ([] : List Addr) from y) (by simp)) (by simp)
      · have y1 := (hok b _ z).1
        have y2 := (hok' b _ (un.frzs b ob _ z)).1
        rw [e] at y1
        rw [Option.some.inj y1]
        exact y2
  cases hk : K.lookup a with
  | some o =>
    have e := KX a o hk
    rw [ha] at e
    have eo := Option.some.inj e
    subst eo
    refine main (fun _ => none) (fun _ => .inl rfl) ?_ (fun b u z => nomatch (show (none : Option HO) = some u from z))
      (fun b z => absurd rfl z) (fun z => absurd rfl z)
    exact .inr ⟨_, vs.toArray, _, hk, rfl, rfl, rfl, by rw [List.size_toArray, lv]; exact hl, by simpa using rv⟩
  | none =>
    let ob : Obj := { cls := .type "list", data := .seq vs.toArray }
    let HS : Hp := fun b => if b = a then some (.frz ob (.lst (ns.map V.int))) else none
    have at_ : HS a = some (.frz ob (.lst (ns.map V.int))) := if_pos rfl
    have off : ∀ {b : Addr}, ¬ b = a → HS b = none := fun nb => if_neg nb
    refine main HS ?_ (.inl (.inr ⟨ob, at_⟩)) ?_ ?_ (fun _ => hk)
    · intro b
      by_cases nb : b = a
      · rw [nb]; exact .inr ⟨_, _, at_⟩
      · exact .inl (off nb)
    · intro b u z
      by_cases nb : b = a
      · subst nb
        rw [at_] at z
        have zu := Option.some.inj z
        subst zu
        exact ⟨ha, by rw [List.length_map]; exact hl, vs, _, rv, ha⟩
      · rw [off nb] at z
        exact nomatch z
    · intro b z
      by_cases nb : b = a
      · exact nb
      · exact absurd (off nb) z

theorem walkG {l : PySem.W.OpenLaw} {n k : Nat} {q : Program} {loose : List Str} {XP : (Str → Option Value) → Heap → Prop}
    {YP : World → Heap → Prop} {d : DefRec} {K : Params → PySem.W.Frag} {CX : World → CXT} {sp : World → Sp} {x : Str}
    (hn : l.most = some n) (hn2 : n ≤ sizeLine) (hdf : d.params.defaults = []) (hr : Room k callerA)
    (hY : ∀ (w : World) (h : Heap), YP w h → (K w.params).In h)
    (F : ∀ (w : World) (mg : Str → Option Value) (fa : Addr) (h : Heap), (K w.params).In h → h.Ns mainGlobals mg →
      mg d.name = some (.ref fa) → ∃ fd : FuncData, (∀ (s : Shared) (u : Value), BindsTo s fd ⟨[u], []⟩ [(x, u)]) ∧
        ∀ base : Heap, (K w.params).In base → base.Ns mainGlobals mg → Fn l.prog w (K w.params) mg base (CX w) k fa fd [x] (sp w))
    (hsp : ∀ (w : World) (H : Hp) (a : Addr) (ns : List Int), ns.length ≤ n → Only H → SqL (K w.params) H a (ns.map V.int) →
      sp w [.ref a] H (fun v _ => v = .bl true) fun _ _ _ => False)
    (hCX : ∀ (w : World) (H : Hp) (s : Shared) (e : Value) (s' : Shared), CX w [] H s (fun _ _ _ => False) e s' → False) :
    PySem.W.WalkO q loose XP YP l.row.toRowW d [] (fun f vs => PySem.call f vs) := by
  refine Att.attach_call hn hdf ?_
  intro w s₀ s₁ mg mb fa o pm cd doc a vs ns G Y ho hd hcd hmg hobj hints hlen hg
  have KX := hY w _ Y
  obtain ⟨fd, hb, hF⟩ := F w mg fa _ KX G.T.g hmg
  exact law_run KX G.T.g G.T.b G.T.builtins G.T.nolimit hg hobj hints (Nat.le_trans hlen hn2) hr hF hb
    (fun H only hS => hsp w H a ns hlen only hS) (fun H e s' => hCX w H s₁ e s')

end Grd

namespace Grd
open PySem L2
open Evl (Ex ex_t ex_l)

/-! ### data: what stands still, what is without lists -/
mutual
def tupOnly : PyData → Bool
  | .list _ => false
  | .dict _ => false
  | .tuple ds => tupOnlyAll ds
  | _ => true
def tupOnlyAll : List PyData → Bool
  | [] => true
  | d :: ds => tupOnly d && tupOnlyAll ds
end

/-- tuples stay as they are -/
def Ts (K : PySem.W.Frag) (H H' : Hp) : Prop := ∀ a xs, SqT K H a xs → SqT K H' a xs
theorem Ts.of_ex {K : PySem.W.Frag} {H H' : Hp} (e : Ex H H') : Ts K H H' := fun _ _ h => ex_t e h
theorem Ts.refl {K : PySem.W.Frag} {H : Hp} : Ts K H H := fun _ _ h => h
theorem Ts.trans {K : PySem.W.Frag} {H H1 H2 : Hp} (a : Ts K H H1) (b : Ts K H1 H2) : Ts K H H2 := fun x xs h => b x xs (a x xs h)

section
variable {K : PySem.W.Frag} {H H' : Hp}
mutual
theorem Dp.tst (t : Ts K H H') : ∀ (d : PyData) (v : V), tupOnly d = true → Dp K H v d → Dp K H' v d
  | .none, _, _, h => by cases h; exact .non
  | .bool b, _, _, h => by cases h; exact .bl b
  | .int i, _, _, h => by cases h; exact .int i
  | .str x, _, _, h => by cases h; exact .str x
  | .tuple ds, _, k, h => by
    cases h with
    | tup hs ha => exact .tup (t _ _ hs) (DpAll.tst t ds _ (by simpa only [tupOnly] using k) ha)
  | .list ds, _, k, h => by simp only [tupOnly] at k; exact absurd k (by decide)
  | .dict ds, _, k, h => by simp only [tupOnly] at k; exact absurd k (by decide)
theorem DpAll.tst (t : Ts K H H') : ∀ (ds : List PyData) (vs : List V), tupOnlyAll ds = true → DpAll K H vs ds → DpAll K H' vs ds
  | [], _, _, h => by cases h; exact .nil
  | d :: ds, _, k, h => by
    simp only [tupOnlyAll, Bool.and_eq_true] at k
    cases h with
    | cons h1 h2 => exact .cons (Dp.tst t d _ k.1 h1) (DpAll.tst t ds _ k.2 h2)
end
mutual
theorem Dp.ex (t : Ex H H') : ∀ (d : PyData) (v : V), Dp K H v d → Dp K H' v d
  | .none, _, h => by cases h; exact .non
  | .bool b, _, h => by cases h; exact .bl b
  | .int i, _, h => by cases h; exact .int i
  | .str x, _, h => by cases h; exact .str x
  | .tuple ds, _, h => by
    cases h with
    | tup hs ha => exact .tup (ex_t t hs) (DpAll.ex t ds _ ha)
  | .list ds, _, h => by
    cases h with
    | lst hs ha => exact .lst (ex_l t hs) (DpAll.ex t ds _ ha)
  | .dict ds, _, h => nomatch h
theorem DpAll.ex (t : Ex H H') : ∀ (ds : List PyData) (vs : List V), DpAll K H vs ds → DpAll K H' vs ds
  | [], _, h => by cases h; exact .nil
  | d :: ds, _, h => by
    cases h with
    | cons h1 h2 => exact .cons (Dp.ex t d _ h1) (DpAll.ex t ds _ h2)
end
theorem DpAll.len : ∀ {vs : List V} {ds : List PyData}, DpAll K H vs ds → vs.length = ds.length
  | _, _, .nil => rfl
  | _, _, .cons _ h => congrArg (· + 1) (DpAll.len h)
theorem DpAll.at {vs : List V} {ds : List PyData} (h : DpAll K H vs ds) (i : Nat) {d : PyData} (e : ds[i]? = some d) : ∃ v, vs[i]? = some v ∧ Dp K H v d := by
  induction i generalizing vs ds with
  | zero =>
    cases h with
    | nil => simp at e
    | cons h1 _ => simp at e; subst e; exact ⟨_, rfl, h1⟩
  | succ i ih =>
    cases h with
    | nil => simp at e
    | cons _ h2 => simp at e; obtain ⟨v, q⟩ := ih h2 e; exact ⟨v, by simpa using q.1, q.2⟩
theorem DpAll.append : ∀ {vs ws : List V} {ds es : List PyData}, DpAll K H vs ds → DpAll K H ws es → DpAll K H (vs ++ ws) (ds ++ es)
  | _, _, _, _, .nil, h => h
  | _, _, _, _, .cons a b, h => .cons a (DpAll.append b h)
end

section
variable {X : Cx} {pins : List (Addr × Obj)} {σ : L2.St} {H : Hp} {s : Shared}
mutual
/-- data without lists is read without an address -/
theorem readsT (I : Inv X pins σ H s) : ∀ (d : PyData) (v : V) (u : Value), tupOnly d = true → Dp X.K H v d → RelV v u → Reads s.heap u d []
  | .none, _, _, _, h, r => by cases h; cases r; exact Reads.none
  | .bool b, _, _, _, h, r => by cases h; cases r; exact Reads.bool b
  | .int i, _, _, _, h, r => by cases h; obtain ⟨t, rfl⟩ := r; exact Reads.int i t
  | .str x, _, _, _, h, r => by cases h; obtain ⟨t, rfl⟩ := r; exact Reads.str x t
  | .tuple ds, _, _, k, h, r => by
    cases h with
    | tup hs ha =>
      cases r
      obtain ⟨its, rv, ⟨o, ho, hc, n, hd⟩, _⟩ := I.tuple hs
      have hr := readsTs I ds _ its (by simpa only [tupOnly] using k) ha rv
      exact Reads.tuple ho hc hd hr
  | .list ds, _, _, k, h, r => by simp only [tupOnly] at k; exact absurd k (by decide)
  | .dict ds, _, _, k, h, r => by simp only [tupOnly] at k; exact absurd k (by decide)
theorem readsTs (I : Inv X pins σ H s) : ∀ (ds : List PyData) (vs : List V) (us : List Value), tupOnlyAll ds = true → DpAll X.K H vs ds → Vals vs us → ReadsAll s.heap us ds []
  | [], _, _, _, h, r => by cases h; cases r; exact ReadsAll.nil
  | d :: ds, _, _, k, h, r => by
    simp only [tupOnlyAll, Bool.and_eq_true] at k
    cases h with
    | cons h1 h2 =>
      cases r with
      | cons r1 r2 => exact ReadsAll.cons (as := []) (bs := []) (readsT I d _ _ k.1 h1 r1) (readsTs I ds _ _ k.2 h2 r2)
end

/-- a datum without lists, or a dict from ints to such -/
inductive Dr (K : PySem.W.Frag) (H : Hp) : V → PyData → Prop
  | dat {v : V} {d : PyData} : tupOnly d = true → Dp K H v d → Dr K H v d
  | dct {a : Addr} {kvs : List (Key × V)} {ds : List (Int × PyData)} : H a = some (.dK kvs) →
      Paired (fun (p : Key × V) (q : Int × PyData) => p.1 = Sum.inl q.1 ∧ tupOnly q.2 = true ∧ Dp K H p.2 q.2) kvs ds →
      Dr K H (.ref a) (.dict (ds.map fun q => (PyData.int q.1, q.2)))
theorem reads_pairs (I : Inv X pins σ H s) : ∀ {kvs : List (Key × V)} {ds : List (Int × PyData)} {vs : List (Key × Value)} {es : List DictEntry},
    Paired (fun (p : Key × V) (q : Int × PyData) => p.1 = Sum.inl q.1 ∧ tupOnly q.2 = true ∧ Dp X.K H p.2 q.2) kvs ds → KV kvs vs → Pairs (mixKind X.prog X.w) es vs →
    ReadsAll s.heap (es.map (·.key)) (ds.map fun q => PyData.int q.1) [] ∧ ReadsAll s.heap (es.map (·.val)) (ds.map (·.2)) []
  | _, _, _, _, .nil, k, p => by
    cases k
    cases p
    exact ⟨.nil, .nil⟩
  | _, _, _, _, .cons a b, k, p => by
    cases k with
    | cons k1 k2 =>
      cases p with
      | cons p1 p2 p3 =>
        obtain ⟨r1, r2⟩ := reads_pairs I b k2 p3
        refine ⟨ReadsAll.cons (as := []) (bs := []) ?_ r1, ReadsAll.cons (as := []) (bs := []) ?_ r2⟩
        · rw [← k1.1, a.1, mixKind_is] at p1
          rcases keyIs_shape p1 with ⟨i, t, e1, e2⟩ | ⟨x, t, e1, e2⟩
          · dsimp only
            rw [e2, Sum.inl.inj e1]
            exact Reads.int _ _
          · exact nomatch e1
        · exact readsT I _ _ _ a.2.1 a.2.2 (by have e := k1.2; rw [← p2] at e; exact e)
theorem Dr.reads (I : Inv X pins σ H s) {v : V} {d : PyData} {u : Value} (h : Dr X.K H v d) (r : RelV v u) : ∃ as, sysModules ∉ as ∧ Reads s.heap u d as := by
  cases h with
  | dat k h => exact ⟨[], by simp, readsT I d v u k h r⟩
  | @dct a kvs ds e p =>
    cases r
    obtain ⟨_, hne, vs, rel, o, es, ep, ho, hx, hd, hk, hp, _⟩ := dk_of I.hok e
    obtain ⟨r1, r2⟩ := reads_pairs I p rel hp
    refine ⟨[a], ?_, ?_⟩
    · intro z
      rw [List.mem_singleton] at z
      rw [z] at hne
      simp at hne
    · have q := Reads.dict (as := []) (bs := []) (kvs := ds.map fun q => (PyData.int q.1, q.2)) ho hx.1 hd
        (by rw [List.map_map]; exact r1) (by rw [List.map_map]; exact r2)
      exact q
theorem reads_row (I : Inv X pins σ H s) : ∀ {vs : List V} {ds : List PyData} {us : List Value}, Paired (Dr X.K H) vs ds → Vals vs us → ∃ as, sysModules ∉ as ∧ ReadsAll s.heap us ds as
  | _, _, _, .nil, r => by
    cases r
    exact ⟨[], by simp, .nil⟩
  | _, _, _, .cons h1 h2, r => by
    cases r with
    | cons r1 r2 =>
      obtain ⟨as, n1, q1⟩ := h1.reads I r1
      obtain ⟨bs, n2, q2⟩ := reads_row I h2 r2
      exact ⟨as ++ bs, by simp [n1, n2], .cons q1 q2⟩
end

/-- a list written out, its place not that of the table of modules -/
def tLstB (t : TA) : TE := fun σ H Q => t σ H fun xs H1 => xs.length ≤ sizeLine ∧ ∀ p, H1 p = none → p ≠ sysModules → Q (.ref p) (upd H1 p (.lst xs))
theorem pe_lstB {X : Cx} {es : List Expr} {t : TA} {pos : Pos} (h : PA X es t) : PE X (.List es pos) (tLstB t) := by
  constructor
  intro pins s σ H Q I hq
  refine wpAny_List_spliced (thn (h.run pos pins s σ H _ I hq) ?_)
  rintro us s1 ⟨xs, H1, I1, r, z, q⟩
  refine ⟨by rw [← r.length]; exact z, ?_⟩
  have hf : H1 s1.heap.objs.size = none := I1.hok.fresh (Nat.le_refl _)
  have hb := I1.big
  refine ⟨.ref s1.heap.objs.size, upd H1 s1.heap.objs.size (.lst xs), ?_, rfl, q _ hf (fun z => absurd hb (by rw [z]; exact Nat.lt_irrefl _))⟩
  exact I1.laid (t' := s1.toks) (fun b u e => Heap.get?_push_of_some _ e) (Nat.le_refl _) ⟨z, us, 0, r, Heap.get?_push_size _ rfl⟩

/-- repr of a list of such things -/
def rReprL (K : PySem.W.Frag) : List V → Hp → VK → Prop := fun vs H Q => ∃ (a : Addr) (xs : List V) (ds : List PyData), vs = [.ref a] ∧ a ≠ sysModules ∧ H a = some (.lst xs) ∧ Paired (Dr K H) xs ds ∧
  (PyData.list ds).showable = true ∧ (PyData.list ds).depth ≤ 60 ∧ (PyData.list ds).shown.length ≤ sizeLine ∧ Q (.str (PyData.list ds).shown) H
theorem call_reprL {X : Cx} (gd : X.A.guards = some []) (hu : X.A.units + 64 < cLine) : CallR X (.builtin "repr") (rReprL X.K) := by
  intro pins s σ H vs us Q I r h
  obtain ⟨a, xs, ds, rfl, na, ha, hp, hs, hd, hz, q⟩ := h
  rw [Vals.ref1 r]
  obtain ⟨its, n, rv, ho, _⟩ := I.lst ha
  obtain ⟨as, nas, hr⟩ := reads_row I hp rv
  have R : Reads s.heap (.ref a) (.list ds) (a :: as) := Reads.list ho rfl rfl (by simpa using hr)
  refine repr_of_reads' R hs (fun _ => by simp [nas, na.symm]) gd (by omega) (fun _ _ z => z) (fun h' u tk hk => ?_) hz
  exact ⟨.str _, H, I.kept hk, ⟨_, rfl⟩, q⟩
end Grd

/-! sorted of a tuple of texts -/
namespace Grd
open PySem L2
open PyProof.Rows (sortedS)
section
open PyProof.Rows
variable {prog : Program} {w : World} {A : Around} {E : Value → Shared → Prop} {s : Shared}
theorem collectT {t : Addr} {vs : List Value} {Q : List Value → Shared → Prop} (ht : IsTup s.heap t vs.toArray) (hz : vs.length ≤ sizeLine)
    (h : Q vs { s with heap := (s.heap.push (seqObj "list" #[] 0)).update s.heap.objs.size (Obj.mapSeq (· ++ vs.toArray)) }) :
    wpAny (model prog w) A (collect (.ref t)) Q E s := by
  obtain ⟨o, ho, hc, n, hd⟩ := id ht
  have new : (s.heap.push (seqObj "list" #[] 0)).get? s.heap.objs.size = some (seqObj "list" #[] 0) := Heap.get?_push_size _ rfl
  have old : (s.heap.push (seqObj "list" #[] 0)).get? t = some o := Heap.get?_push_of_some _ ho
  have e0 : ((#[] : Array Value) ++ vs.toArray).toList = vs := by simp
  unfold collect
  refine wpAny_bind (wpAny_runValue (codeAny_builtin entry_proto_collect' ?_))
  show wpAny _ _ (do again (.builtin "list.__iadd__" ⟨[← newList [], .ref t], []⟩)) _ _ s
  refine wpAny_bind (wpAny_newList (wpAny_pure ⟨Code.quiet_builtin _ (by decide +kernel), ?_⟩))
  refine codeAny_builtin entry_list_iadd' ?_
  show wpAny _ _ (Builtin.List.listExtendWith (.ref s.heap.objs.size) (.ref t) (.ref s.heap.objs.size)) _ _
    { s with heap := s.heap.push (seqObj "list" #[] 0) }
  unfold Builtin.List.listExtendWith
  refine wpAny_bind (wpAny_typeOf (T := "tuple") ⟨o, old, hc⟩ ?_)
  have tt : (Value.type "tuple" == Value.type "tuple") = true := by rfl
  rw [if_pos (by rw [tt]; simp)]
  refine wpAny_bind (listItems_at old hd ?_)
  refine wpAny_bind (listItems_at (xs := #[]) (n := 0) new rfl ?_)
  rw [if_neg (by simp)]
  have room : (#[] ++ vs.toArray : Array Value).size ≤ sizeLine + 1 := by
    simp only [Array.size_append, List.size_toArray, List.length_nil]
    omega
  refine wpAny_bind (listUpdate_at (xs := #[]) (n := 0) new rfl ?_ (Nat.zero_le _) room)
  refine wpAny_pure ?_
  refine wpAny_bind (wpAny_load (get?_update_seq new _) ?_)
  show wpAny _ _ (pure ((#[] : Array Value) ++ vs.toArray).toList) Q E _
  rw [e0]
  exact wpAny_pure h
theorem sortT {t : Addr} {vs : List Value} {ss : List Str} {Q : Value → Shared → Prop} (ht : IsTup s.heap t vs.toArray) (hS : StrsAre vs ss) (h64 : vs.length < 64)
    (h : ∀ (out : Array Value) (ss' : List Str), StrsAre out.toList ss' → ss'.Perm ss → sortedS ss' = true →
      Q (.ref (s.heap.objs.size + 1)) { s with heap := sortedAll s.heap vs out }) :
    wpAny (model prog w) A (call (.builtin "sorted") [.ref t]) Q E s := by
  have hz : vs.length ≤ sizeLine := small64 h64
  refine Calls.call_function_entry kind_sorted plain_sorted entry_sorted (args_sorted1 _) ?_
  unfold Builtin.«sorted»
  refine wpAny_bind (m := checkCount "sorted" 1 1 _) (wpAny_pure (wpAny_bind (collectT ht hz ?_)))
  refine wpAny_bind (wpAny_newList ?_)
  generalize eh : (s.heap.push (seqObj "list" #[] 0)).update s.heap.objs.size (Obj.mapSeq (· ++ vs.toArray)) = h1
  have sz : h1.objs.size = s.heap.objs.size + 1 := by rw [← eh, Heap.size_update, size_push']
  have at1 : (h1.push (seqObj "list" vs.toArray 0)).get? (s.heap.objs.size + 1) = some (seqObj "list" vs.toArray 0) := by
    rw [← sz]
    exact Heap.get?_push_size _ rfl
  show wpAny _ _ _ _ _ { s with heap := h1.push (seqObj "list" vs.toArray 0) }
  rw [sz]
  refine wpAny_bind (wpAny_holding (wpAny_call_entry slot_list_sort ⟨_, at1, rfl⟩ entry_list_sort (list_sort_treeK strKind_oneLt at1 hS.keysOf
    (fun v₁ v₂ rest e => keyKind_strs (by rw [← e]; exact hS)) h64 fun st' a1 a2 => ⟨_, rfl, ?_⟩) (args_list_sort _)))
  obtain ⟨ss', q1, q2, q3⟩ := sorted_out_str hS a1 a2
  have fin := h _ ss' q1 q2 q3
  unfold sortedAll at fin
  rw [eh] at fin
  exact wpAny_pure ⟨_, rfl, fin⟩
end
/-- sorted(t), t a tuple of texts, or a list of such -/
def rSortedTS (K : PySem.W.Frag) : List V → Hp → VK → Prop := fun vs H Q => ∃ (a : Addr) (xs : List Str), vs = [V.ref a] ∧ SqT K H a (xs.map V.str) ∧ xs.length < 64 ∧
  ∀ (ys : List Str) (p : Addr), ys.Perm xs → sortedS ys = true → H p = none → Q (.ref p) (upd H p (.lst (ys.map V.str)))
theorem cr_sortedTS {X : Cx} : CallR X (.builtin "sorted") (rSortedTS X.K) := by
  intro pins s σ H vs us Q I r h
  obtain ⟨a, xs, rfl, hs, h64, q⟩ := h
  obtain ⟨its, rv, hl, _⟩ := I.tuple hs
  rw [Vals.ref1 r]
  have n0 : xs.length = its.length := by have z := rv.length; rw [List.length_map] at z; exact z
  refine sortT hl rv.strs (by rw [← n0]; exact h64) ?_
  intro out ys h1 h2 h3
  obtain ⟨ep, he⟩ := PyProof.Rows.sortedAll_at s.heap its out
  have lz : (ys.map V.str).length ≤ sizeLine := by
    rw [List.length_map, h2.length_eq]
    exact small64 h64
  have new : H (s.heap.objs.size + 1) = none := I.hok.fresh (Nat.le_succ _)
  refine ⟨.ref (s.heap.objs.size + 1), upd H (s.heap.objs.size + 1) (.lst (ys.map V.str)), ?_, rfl, q ys _ h2 h3 new⟩
  exact I.laid (t' := s.toks) (fun _ _ => PyProof.Rows.sortedAll_old) (Nat.le_succ _) ⟨lz, out.toList, ep, vals_of_strs h1, he⟩
end Grd

/-! name = {k: v for ..} on one line, the name a local -/
namespace Grd
open PySem L2
section
variable {X : Cx}
theorem ps_setDc {i : Nat} {y : Str} {py : Pos} {kx vx tg iter : Expr} {ifs : List Expr} {scope : Scope} {own : List (Str × Nat)} {pos spos : Pos} {wi : TI} {g : TG} {tt : TT} {tk tv : TE}
    (hc : X.calm = true) (hN : X.N.Nodup) (hy : X.N[i]? = some y) (hyl : X.env.scope.names.lookup y = some .local)
    (hsw : swapsWith (.DictComp kx vx [⟨tg, iter, ifs, 0⟩] scope pos) (some (.Name y py)) spos.line X.env = pure true)
    (hi : PI X tg iter wi) (ok : BlkOk X.N X.env.scope scope own)
    (hg : ∀ (s : Shared) (H : Hp) (C : Addr) (cl : List (Str × Addr)) (fp : List Addr), PG (X.blk s H scope (compEnvC scope cl C X.env) fp) tg g)
    (ht : ∀ (s : Shared) (H : Hp) (C : Addr) (cl : List (Str × Addr)) (fp : List Addr), PTs (X.blk s H scope (compEnvC scope cl C X.env) fp) ifs tt)
    (hk : ∀ (s : Shared) (H : Hp) (C : Addr) (cl : List (Str × Addr)) (fp : List Addr), PE (X.blk s H scope (compEnvC scope cl C X.env) fp) kx tk)
    (he : ∀ (s : Shared) (H : Hp) (C : Addr) (cl : List (Str × Addr)) (fp : List Addr), PE (X.blk s H scope (compEnvC scope cl C X.env) fp) vx tv)
    (hs : ∀ x, foldedSetIterable iter X.env x = pure x := by intro _; rfl) :
    PS X (.Assign [.Name y py] (.DictComp kx vx [⟨tg, iter, ifs, 0⟩] scope pos) spos) (tAsg (tDc wi g tt tk tv (own.map (·.2))) (gName i)) := by
  constructor
  intro pins s σ H D I h
  have hh : tDc wi g tt tk tv (own.map (·.2)) σ H (fun x H1 => gName i x σ H1 D.nx) := h
  rw [exec_Assign_Name_used _ _ _ _ hsw]
  refine wpAny_bind (wpAny_standAt (wpAny_bind ?_))
  show wpAny _ X.A (do
    let _ ← comprehension (.DictComp kx vx [⟨tg, iter, ifs, 0⟩] scope pos) scope X.env (firstIterPos [⟨tg, iter, ifs, 0⟩] pos) newDict false (eval iter X.env) (some (assign (.Name y py) X.env))) _ _ s
  refine wpAny_bind (thn (Q := fun _ s' => SP X pins D .next s') ?_ fun _ s' hq => wpAny_pure (wpAny_pure hq))
  refine dc_core hc hN I hi ok hg ht hk he hs hh ?_
  intro L C s' m H' I' q hn f
  show wpAny _ _ (assign (.Name y py) X.env (.ref L)) _ _ _
  refine wpAny_assign_Name (store_ok2 (v := V.ref L) I' hN hy (.inl hyl) rfl ?_ (.inr hyl))
  rintro s2 I2 ⟨a, sb, ha⟩
  obtain ⟨f0, f1, f2, f3, f4, f5⟩ := f
  have nCa : C ≠ a := by
    cases ha with
    | inl z => rw [z]; exact f1
    | inr z => exact fun e => f4 y a z e.symm
  refine ⟨m, hn.sameBut sb nCa, ?_⟩
  intro h3 sb3
  have J := I2.turned (h' := h3) (t' := s2.toks) (fun b o hb e => (sb3.2 b hb).trans e) f0 f1 f3 f4 f5
  exact ⟨_, H', J, q⟩
theorem sw_trueD {kx vx : Expr} {gs : List Comprehension} {scope : Scope} {pos py : Pos} {y : Str} {l : Nat} {env : Env}
    (hk : env.scope.kind = .function) (hy : env.scope.names.lookup y = some .local) (hl : (py.line == pos.line) = true)
    (ha : (scope.names.any fun (n, k) => n == y && (k == .local || k == .cell)) = false) :
    swapsWith (.DictComp kx vx gs scope pos) (some (.Name y py)) l env = pure true := by
  have k1 : env.kindOf y = some .local := hy
  have k2 : env.blockKind = .function := by
    unfold Env.blockKind
    rw [hk]
    rfl
  unfold swapsWith
  simp only [k2, k1, ha, Expr.pos, hl]
  rfl
end
end Grd

/-! K11, the mathematics: kinds, what is open in them, what is put in -/
namespace K11
open PySem
open PySem.Spec (ltCps)
open PyProof.Rows (sortedS risingS)

/-! ### texts in order -/
def le (a b : Str) : Bool := !ltCps b.cps.toList a.cps.toList
theorem lt_irr : ∀ a : List Nat, ltCps a a = false
  | [] => rfl
  | x :: r => by simp [ltCps, lt_irr r]
theorem lt_asym : ∀ a b : List Nat, ltCps a b = true → ltCps b a = false
  | [], [], h => by simp [ltCps] at h
  | [], _ :: _, _ => rfl
  | _ :: _, [], h => by simp [ltCps] at h
  | x :: r, y :: t, h => by
    simp only [ltCps, Bool.or_eq_true, Bool.and_eq_true, decide_eq_true_eq, beq_iff_eq] at h
    simp only [ltCps, Bool.or_eq_false_iff, Bool.and_eq_false_iff, decide_eq_false_iff_not, beq_eq_false_iff_ne]
    rcases h with h | ⟨h, k⟩
    · exact ⟨by omega, .inl (by omega)⟩
    · exact ⟨by omega, .inr (lt_asym r t k)⟩
theorem lt_tri : ∀ a b : List Nat, ltCps a b = false → ltCps b a = false → a = b
  | [], [], _, _ => rfl
  | [], _ :: _, h, _ => by simp [ltCps] at h
  | _ :: _, [], _, h => by simp [ltCps] at h
  | x :: r, y :: t, h, k => by
    simp only [ltCps, Bool.or_eq_false_iff, Bool.and_eq_false_iff, decide_eq_false_iff_not, beq_eq_false_iff_ne] at h k
    have e : x = y := by omega
    subst e
    rw [lt_tri r t (by simpa using h.2) (by simpa using k.2)]
theorem lt_trans : ∀ a b c : List Nat, ltCps a b = true → ltCps b c = true → ltCps a c = true
  | [], _, [], _, k => by cases ‹List Nat› <;> simp [ltCps] at k
  | [], _, _ :: _, _, _ => rfl
  | _ :: _, [], _, h, _ => by simp [ltCps] at h
  | _ :: _, _ :: _, [], _, k => by simp [ltCps] at k
  | x :: r, y :: t, z :: u, h, k => by
    simp only [ltCps, Bool.or_eq_true, Bool.and_eq_true, decide_eq_true_eq, beq_iff_eq] at h k ⊢
    rcases h with h | ⟨h, h'⟩
    · rcases k with k | ⟨k, k'⟩
      · exact .inl (by omega)
      · exact .inl (by omega)
    · rcases k with k | ⟨k, k'⟩
      · exact .inl (by omega)
      · exact .inr ⟨by omega, lt_trans r t u h' k'⟩
theorem le_total (a b : Str) : (le a b || le b a) = true := by
  unfold le
  cases h : ltCps b.cps.toList a.cps.toList with
  | false => rfl
  | true => rw [lt_asym _ _ h]; rfl
theorem le_trans (a b c : Str) (h : le a b = true) (k : le b c = true) : le a c = true := by
  unfold le at *
  simp only [Bool.not_eq_true'] at *
  cases q : ltCps c.cps.toList a.cps.toList with
  | false => rfl
  | true =>
    cases e : ltCps a.cps.toList b.cps.toList with
    | true =>
      have := lt_trans _ _ _ q e
      rw [this] at k; exact absurd k (by decide)
    | false =>
      have ab := lt_tri _ _ e h
      rw [ab] at q
      rw [q] at k; exact absurd k (by decide)
theorem le_anti (a b : Str) (h : le a b = true) (k : le b a = true) : a = b := by
  unfold le at *
  simp only [Bool.not_eq_true'] at *
  have e := lt_tri _ _ k h
  cases a; cases b
  simp only [Str.mk.injEq]
  exact Array.toList_inj.mp e
theorem rising_pw : ∀ (r : List Str) (p : Str), risingS p r = true → (p :: r).Pairwise (fun a b => le a b = true)
  | [], p, _ => by simp
  | x :: r, p, h => by
    simp only [risingS, Bool.and_eq_true] at h
    have ih := rising_pw r x h.2
    have px : le p x = true := h.1
    refine List.pairwise_cons.mpr ⟨?_, ih⟩
    intro y hy
    rcases List.mem_cons.mp hy with e | e
    · rw [e]; exact px
    · exact le_trans _ _ _ px ((List.pairwise_cons.mp ih).1 y e)
theorem sorted_pw (l : List Str) (h : sortedS l = true) : l.Pairwise (fun a b => le a b = true) := by
  cases l with
  | nil => exact List.Pairwise.nil
  | cons x r => exact rising_pw r x h
def srt (l : List Str) : List Str := l.mergeSort le
theorem srt_perm (l : List Str) : (srt l).Perm l := List.mergeSort_perm l le
theorem srt_pw (l : List Str) : (srt l).Pairwise (fun a b => le a b = true) := List.pairwise_mergeSort le_trans le_total l
theorem srt_eq {ys xs : List Str} (p : ys.Perm xs) (s : sortedS ys = true) : ys = srt xs :=
  List.Perm.eq_of_pairwise (fun a b _ _ h k => le_anti a b h k) (sorted_pw ys s) (srt_pw xs) (p.trans (srt_perm xs).symm)
theorem pw_rising : ∀ (r : List Str) (p : Str), (p :: r).Pairwise (fun a b => le a b = true) → risingS p r = true
  | [], _, _ => rfl
  | x :: r, p, h => by
    have h' := List.pairwise_cons.mp h
    simp only [risingS, Bool.and_eq_true]
    exact ⟨h'.1 x (List.mem_cons_self ..), pw_rising r x h'.2⟩
theorem srt_sorted (l : List Str) : sortedS (srt l) = true := by
  have h := srt_pw l
  cases e : srt l with
  | nil => rfl
  | cons x r => rw [e] at h; exact pw_rising r x h
theorem srt_len (l : List Str) : (srt l).length = l.length := (srt_perm l).length_eq
theorem srt_of_sorted {l : List Str} (h : sortedS l = true) : srt l = l := (srt_eq (List.Perm.refl l) h).symm

/-! ### kinds -/
abbrev Ro := List Str × Option Int
inductive Kd where
  | num
  | any (n : Int)
  | pair (a b : Kd)
  | fn (a : Kd) (r : Ro) (b : Kd)
def add (l : List Int) (n : Int) : List Int := if n ∈ l then l else l ++ [n]
def tailO (l : List Int) : Option Int → List Int
  | none => l
  | some n => add l n
def ops : Kd → List Int × List Int → List Int × List Int
  | .num, s => s
  | .any n, s => (add s.1 n, s.2)
  | .pair a b, s => ops b (ops a s)
  | .fn a r b, s => ops b ((ops a s).1, tailO (ops a s).2 r.2)
def look {α : Type} (n : Int) (m : List (Int × α)) : Option α := (m.find? fun p => decide (p.1 = n)).map (·.2)
def putR (r : Ro) (t : List (Int × Ro)) : Ro := match r.2 with
  | none => r
  | some n => match look n t with
    | none => r
    | some m => (srt (r.1 ++ m.1), m.2)
def put : Kd → List (Int × Kd) → List (Int × Ro) → Kd
  | .num, _, _ => .num
  | .any n, k, _ => (look n k).getD (.any n)
  | .pair a b, k, t => .pair (put a k t) (put b k t)
  | .fn a r b, k, t => .fn (put a k t) (putR r t) (put b k t)
def mkK (l : List Int) (i : Nat) : List (Int × Kd) := (l.zipIdx i).map fun p => (p.1, Kd.any (p.2 : Int))
def mkR (l : List Int) (i : Nat) : List (Int × Ro) := (l.zipIdx i).map fun p => (p.1, (([], some (p.2 : Int)) : Ro))
def opsR (k : Kd) (r : Ro) : List Int × List Int := ((ops k ([], [])).1, tailO (ops k ([], [])).2 r.2)
def settle (k : Kd) (r : Ro) : Kd × Ro :=
  (put k (mkK (opsR k r).1 0) (mkR (opsR k r).2 0), putR r (mkR (opsR k r).2 0))

/-! ### settled once is settled -/
def RoS (r : Ro) : Prop := sortedS r.1 = true
def KdS : Kd → Prop
  | .num => True
  | .any _ => True
  | .pair a b => KdS a ∧ KdS b
  | .fn a r b => KdS a ∧ RoS r ∧ KdS b
/-- what is open is called by f, g -/
def renR (g : Int → Int) (r : Ro) : Ro := (r.1, r.2.map g)
def ren (f g : Int → Int) : Kd → Kd
  | .num => .num
  | .any n => .any (f n)
  | .pair a b => .pair (ren f g a) (ren f g b)
  | .fn a r b => .fn (ren f g a) (renR g r) (ren f g b)
theorem add_mem (l : List Int) (n m : Int) : m ∈ add l n ↔ m ∈ l ∨ m = n := by
  unfold add
  split
  · constructor
    · exact .inl
    · rintro (h | h)
      · exact h
      · rw [h]; assumption
  · simp
theorem add_nodup {l : List Int} {n : Int} (h : l.Nodup) : (add l n).Nodup := by
  unfold add
  split
  · exact h
  · rename_i hn
    exact List.nodup_append.mpr ⟨h, by simp, by
      intro a ha b hb
      rw [List.mem_singleton] at hb
      rw [hb]
      intro e
      exact hn (e ▸ ha)⟩
theorem tailO_mem (l : List Int) (t : Option Int) (m : Int) : m ∈ tailO l t ↔ m ∈ l ∨ t = some m := by
  cases t with
  | none => simp [tailO]
  | some n => simp [tailO, add_mem, eq_comm]
theorem tailO_nodup {l : List Int} {t : Option Int} (h : l.Nodup) : (tailO l t).Nodup := by
  cases t with
  | none => exact h
  | some n => exact add_nodup h
/-- what is open in a kind, a tail -/
def inK : Kd → Int → Prop
  | .num, _ => False
  | .any n, m => m = n
  | .pair a b, m => inK a m ∨ inK b m
  | .fn a _ b, m => inK a m ∨ inK b m
def inT : Kd → Int → Prop
  | .num, _ => False
  | .any _, _ => False
  | .pair a b, m => inT a m ∨ inT b m
  | .fn a r b, m => inT a m ∨ r.2 = some m ∨ inT b m
theorem ops_mem : ∀ (k : Kd) (s : List Int × List Int) (m : Int), (m ∈ (ops k s).1 ↔ m ∈ s.1 ∨ inK k m) ∧ (m ∈ (ops k s).2 ↔ m ∈ s.2 ∨ inT k m)
  | .num, s, m => by simp [ops, inK, inT]
  | .any n, s, m => by simp [ops, inK, inT, add_mem]
  | .pair a b, s, m => by
    have h1 := ops_mem a s m
    have h2 := ops_mem b (ops a s) m
    constructor
    · show m ∈ (ops b (ops a s)).1 ↔ _
      rw [h2.1, h1.1]; simp [inK, or_assoc]
    · show m ∈ (ops b (ops a s)).2 ↔ _
      rw [h2.2, h1.2]; simp [inT, or_assoc]
  | .fn a r b, s, m => by
    have h1 := ops_mem a s m
    have h2 := ops_mem b ((ops a s).1, tailO (ops a s).2 r.2) m
    constructor
    · show m ∈ (ops b ((ops a s).1, tailO (ops a s).2 r.2)).1 ↔ _
      rw [h2.1, h1.1]; simp [inK, or_assoc]
    · show m ∈ (ops b ((ops a s).1, tailO (ops a s).2 r.2)).2 ↔ _
      rw [h2.2, tailO_mem, h1.2]; simp [inT, or_assoc]
theorem ops_nodup : ∀ (k : Kd) (s : List Int × List Int), s.1.Nodup → s.2.Nodup → (ops k s).1.Nodup ∧ (ops k s).2.Nodup
  | .num, s, h1, h2 => ⟨h1, h2⟩
  | .any n, s, h1, h2 => ⟨add_nodup h1, h2⟩
  | .pair a b, s, h1, h2 => by
    have h := ops_nodup a s h1 h2
    exact ops_nodup b _ h.1 h.2
  | .fn a r b, s, h1, h2 => by
    have h := ops_nodup a s h1 h2
    exact ops_nodup b ((ops a s).1, tailO (ops a s).2 r.2) h.1 (tailO_nodup h.2)
theorem add_map {f : Int → Int} {l : List Int} {n : Int} (inj : ∀ a, a ∈ l → f a = f n → a = n) : add (l.map f) (f n) = (add l n).map f := by
  unfold add
  by_cases h : n ∈ l
  · rw [if_pos h, if_pos (List.mem_map_of_mem h)]
  · rw [if_neg h, if_neg, List.map_append]
    · rfl
    · intro q
      obtain ⟨a, ha, e⟩ := List.mem_map.mp q
      exact h (inj a ha e ▸ ha)
theorem ops_ren (f g : Int → Int) : ∀ (k : Kd) (s : List Int × List Int),
    (∀ a b, (a ∈ s.1 ∨ inK k a) → (b ∈ s.1 ∨ inK k b) → f a = f b → a = b) → (∀ a b, (a ∈ s.2 ∨ inT k a) → (b ∈ s.2 ∨ inT k b) → g a = g b → a = b) →
    ops (ren f g k) (s.1.map f, s.2.map g) = ((ops k s).1.map f, (ops k s).2.map g)
  | .num, s, _, _ => rfl
  | .any n, s, hf, _ => by
    show (add (s.1.map f) (f n), s.2.map g) = ((add s.1 n).map f, s.2.map g)
    rw [add_map fun a ha e => hf a n (.inl ha) (.inr rfl) e]
  | .pair a b, s, hf, hg => by
    have i1 := ops_ren f g a s (fun x y hx hy => hf x y (hx.imp id .inl) (hy.imp id .inl)) (fun x y hx hy => hg x y (hx.imp id .inl) (hy.imp id .inl))
    show ops (ren f g b) (ops (ren f g a) (s.1.map f, s.2.map g)) = _
    rw [i1]
    refine ops_ren f g b (ops a s) (fun x y hx hy => hf x y ?_ ?_) (fun x y hx hy => hg x y ?_ ?_)
    · rw [(ops_mem a s x).1] at hx; simp only [inK]; rcases hx with (h | h) | h <;> simp [h]
    · rw [(ops_mem a s y).1] at hy; simp only [inK]; rcases hy with (h | h) | h <;> simp [h]
    · rw [(ops_mem a s x).2] at hx; simp only [inT]; rcases hx with (h | h) | h <;> simp [h]
    · rw [(ops_mem a s y).2] at hy; simp only [inT]; rcases hy with (h | h) | h <;> simp [h]
  | .fn a r b, s, hf, hg => by
    have i1 := ops_ren f g a s (fun x y hx hy => hf x y (hx.imp id .inl) (hy.imp id .inl)) (fun x y hx hy => hg x y (hx.imp id .inl) (hy.imp id .inl))
    show ops (ren f g b) ((ops (ren f g a) (s.1.map f, s.2.map g)).1, tailO (ops (ren f g a) (s.1.map f, s.2.map g)).2 (renR g r).2) = _
    rw [i1]
    have t1 : tailO ((ops a s).2.map g) (renR g r).2 = (tailO (ops a s).2 r.2).map g := by
      show tailO _ (r.2.map g) = _
      cases e : r.2 with
      | none => rfl
      | some n =>
        show add _ (g n) = (add _ n).map g
        refine add_map fun x hx eq => hg x n ?_ (.inr (by simp [inT, e])) eq
        rw [(ops_mem a s x).2] at hx
        simp only [inT]; rcases hx with h | h <;> simp [h]
    show ops (ren f g b) ((ops a s).1.map f, tailO ((ops a s).2.map g) (renR g r).2) = _
    rw [t1]
    refine ops_ren f g b ((ops a s).1, tailO (ops a s).2 r.2) (fun x y hx hy => hf x y ?_ ?_) (fun x y hx hy => hg x y ?_ ?_)
    · rw [(ops_mem a s x).1] at hx; simp only [inK]; rcases hx with (h | h) | h <;> simp [h]
    · rw [(ops_mem a s y).1] at hy; simp only [inK]; rcases hy with (h | h) | h <;> simp [h]
    · rw [tailO_mem, (ops_mem a s x).2] at hx; simp only [inT]; rcases hx with ((h | h) | h) | h <;> simp [h]
    · rw [tailO_mem, (ops_mem a s y).2] at hy; simp only [inT]; rcases hy with ((h | h) | h) | h <;> simp [h]

/-- the place of n -/
def pl (l : List Int) (n : Int) : Int := (l.idxOf n : Int)
theorem look_zip {α : Type} (F : Nat → α) (n : Int) : ∀ (l : List Int) (i : Nat), look n ((l.zipIdx i).map fun p => (p.1, F p.2)) = if n ∈ l then some (F (i + l.idxOf n)) else none
  | [], i => rfl
  | x :: r, i => by
    have ih := look_zip F n r (i + 1)
    by_cases e : x = n
    · subst e
      simp [look, List.zipIdx_cons, List.idxOf_cons]
    · have e' : ¬ n = x := fun q => e q.symm
      simp only [look, List.zipIdx_cons, List.map_cons, List.find?_cons, e, decide_false, List.mem_cons, e', false_or, List.idxOf_cons] at ih ⊢
      rw [ih]
      have b : (x == n) = false := by simpa using e
      rw [b]
      by_cases h : n ∈ r
      · rw [if_pos h, if_pos h]
        simp only [cond_false]
        congr 2
        omega
      · rw [if_neg h, if_neg h]
theorem look_mkK (l : List Int) (n : Int) (h : n ∈ l) : look n (mkK l 0) = some (Kd.any (pl l n)) := by
  have q := look_zip (fun i => Kd.any (i : Int)) n l 0
  rw [if_pos h] at q
  simpa [mkK, pl] using q
theorem look_mkR (l : List Int) (n : Int) (h : n ∈ l) : look n (mkR l 0) = some (([], some (pl l n)) : Ro) := by
  have q := look_zip (fun i => (([], some (i : Int)) : Ro)) n l 0
  rw [if_pos h] at q
  simpa [mkR, pl] using q
theorem putR_ren {r : Ro} {l : List Int} (hs : RoS r) (h : ∀ n, r.2 = some n → n ∈ l) : putR r (mkR l 0) = renR (pl l) r := by
  unfold putR renR
  obtain ⟨ls, t⟩ := r
  cases t with
  | none => rfl
  | some n =>
    simp only [look_mkR l n (h n rfl), List.append_nil, Option.map_some]
    rw [srt_of_sorted hs]
theorem put_ren {l m : List Int} : ∀ (k : Kd), KdS k → (∀ n, inK k n → n ∈ l) → (∀ n, inT k n → n ∈ m) → put k (mkK l 0) (mkR m 0) = ren (pl l) (pl m) k
  | .num, _, _, _ => rfl
  | .any n, _, h, _ => by simp [put, ren, look_mkK l n (h n rfl)]
  | .pair a b, hs, h, h' => by
    simp only [put, ren]
    rw [put_ren a hs.1 (fun n q => h n (.inl q)) (fun n q => h' n (.inl q)), put_ren b hs.2 (fun n q => h n (.inr q)) (fun n q => h' n (.inr q))]
  | .fn a r b, hs, h, h' => by
    simp only [put, ren]
    rw [put_ren a hs.1 (fun n q => h n (.inl q)) (fun n q => h' n (.inl q)), put_ren b hs.2.2 (fun n q => h n (.inr q)) (fun n q => h' n (.inr (.inr q))),
      putR_ren hs.2.1 (fun n q => h' n (.inr (.inl q)))]
theorem pl_inj {l : List Int} {a b : Int} (ha : a ∈ l) (hb : b ∈ l) (e : pl l a = pl l b) : a = b := by
  have e' : l.idxOf a = l.idxOf b := by unfold pl at e; omega
  have h1 := List.idxOf_lt_length_iff.mpr ha
  have h2 := List.idxOf_lt_length_iff.mpr hb
  have g1 := List.getElem_idxOf h1
  have g2 := List.getElem_idxOf h2
  rw [← g1, ← g2]
  simp only [e']
def rng (n : Nat) : List Int := (List.range n).map Int.ofNat
theorem rng_nodup (n : Nat) : (rng n).Nodup := by
  unfold rng
  refine List.pairwise_map.mpr (List.Pairwise.imp ?_ List.nodup_range)
  intro a b h e
  exact h (Int.ofNat.inj e)
theorem pl_self (l : List Int) (h : l.Nodup) : l.map (pl l) = rng l.length := by
  apply List.ext_getElem
  · simp [rng]
  · intro i h1 h2
    simp only [List.length_map] at h1
    simp only [List.getElem_map, List.getElem_range, pl, rng]
    rw [h.idxOf_getElem i h1]
    rfl
theorem pl_range (n : Nat) (i : Int) (h : i ∈ rng n) : pl (rng n) i = i := by
  obtain ⟨j, hj, rfl⟩ := List.mem_map.mp h
  have hj' := List.mem_range.mp hj
  have q := (rng_nodup n).idxOf_getElem j (by simpa [rng] using hj')
  have e : (rng n)[j]'(by simpa [rng] using hj') = Int.ofNat j := by simp [rng]
  rw [e] at q
  unfold pl
  rw [q]
  rfl
theorem renR_id {g : Int → Int} {r : Ro} (h : ∀ n, r.2 = some n → g n = n) : renR g r = r := by
  obtain ⟨ls, t⟩ := r
  cases t with
  | none => rfl
  | some n => simp [renR, h n rfl]
theorem ren_id {f g : Int → Int} : ∀ (k : Kd), (∀ n, inK k n → f n = n) → (∀ n, inT k n → g n = n) → ren f g k = k
  | .num, _, _ => rfl
  | .any n, h, _ => by simp [ren, h n rfl]
  | .pair a b, h, h' => by
    simp only [ren]
    rw [ren_id a (fun n q => h n (.inl q)) (fun n q => h' n (.inl q)), ren_id b (fun n q => h n (.inr q)) (fun n q => h' n (.inr q))]
  | .fn a r b, h, h' => by
    simp only [ren]
    rw [ren_id a (fun n q => h n (.inl q)) (fun n q => h' n (.inl q)), ren_id b (fun n q => h n (.inr q)) (fun n q => h' n (.inr (.inr q))),
      renR_id (fun n q => h' n (.inr (.inl q)))]
theorem KdS_ren (f g : Int → Int) : ∀ k : Kd, KdS k → KdS (ren f g k)
  | .num, _ => trivial
  | .any _, _ => trivial
  | .pair a b, h => ⟨KdS_ren f g a h.1, KdS_ren f g b h.2⟩
  | .fn a r b, h => ⟨KdS_ren f g a h.1, h.2.1, KdS_ren f g b h.2.2⟩
theorem opsR_nodup (k : Kd) (r : Ro) : (opsR k r).1.Nodup ∧ (opsR k r).2.Nodup := by
  have h := ops_nodup k ([], []) List.nodup_nil List.nodup_nil
  exact ⟨h.1, tailO_nodup h.2⟩
theorem opsR_mem (k : Kd) (r : Ro) (m : Int) : (m ∈ (opsR k r).1 ↔ inK k m) ∧ (m ∈ (opsR k r).2 ↔ inT k m ∨ r.2 = some m) := by
  have h := ops_mem k ([], []) m
  constructor
  · show m ∈ (ops k ([], [])).1 ↔ _
    rw [h.1]; simp
  · show m ∈ tailO (ops k ([], [])).2 r.2 ↔ _
    rw [tailO_mem, h.2]; simp
theorem settle_ren (k : Kd) (r : Ro) (hk : KdS k) (hr : RoS r) : settle k r = (ren (pl (opsR k r).1) (pl (opsR k r).2) k, renR (pl (opsR k r).2) r) := by
  unfold settle
  rw [put_ren k hk (fun n q => (opsR_mem k r n).1.mpr q) (fun n q => (opsR_mem k r n).2.mpr (.inl q)), putR_ren hr (fun n q => (opsR_mem k r n).2.mpr (.inr q))]
theorem opsR_ren (k : Kd) (r : Ro) : opsR (ren (pl (opsR k r).1) (pl (opsR k r).2) k) (renR (pl (opsR k r).2) r) = ((opsR k r).1.map (pl (opsR k r).1), (opsR k r).2.map (pl (opsR k r).2)) := by
  have mk : ∀ a, inK k a → a ∈ (opsR k r).1 := fun a h => (opsR_mem k r a).1.mpr h
  have mt : ∀ a, inT k a → a ∈ (opsR k r).2 := fun a h => (opsR_mem k r a).2.mpr (.inl h)
  have q := ops_ren (pl (opsR k r).1) (pl (opsR k r).2) k ([], []) (fun a b ha hb e => pl_inj (mk a (by simpa using ha)) (mk b (by simpa using hb)) e)
    (fun a b ha hb e => pl_inj (mt a (by simpa using ha)) (mt b (by simpa using hb)) e)
  generalize ef : pl (opsR k r).1 = f at q ⊢
  generalize eg : pl (opsR k r).2 = g at q ⊢
  have q' : ops (ren f g k) ([], []) = ((ops k ([], [])).1.map f, (ops k ([], [])).2.map g) := q
  show ((ops (ren f g k) ([], [])).1, tailO (ops (ren f g k) ([], [])).2 (r.2.map g)) = _
  rw [q']
  show ((ops k ([], [])).1.map f, tailO ((ops k ([], [])).2.map g) (r.2.map g)) = ((ops k ([], [])).1.map f, (tailO (ops k ([], [])).2 r.2).map g)
  congr 1
  cases e : r.2 with
  | none => rfl
  | some n =>
    show add _ (g n) = (add _ n).map g
    refine add_map fun x hx eq => ?_
    rw [← eg] at eq
    exact pl_inj ((opsR_mem k r x).2.mpr (.inl ((by simpa using (ops_mem k ([], []) x).2.mp hx)))) ((opsR_mem k r n).2.mpr (.inr e)) eq
/-- settled once more it's the same -/
theorem settle_twice (k : Kd) (r : Ro) (hk : KdS k) (hr : RoS r) : settle (settle k r).1 (settle k r).2 = settle k r := by
  have e1 := settle_ren k r hk hr
  rw [e1]
  have nd := opsR_nodup k r
  have e2 := opsR_ren k r
  rw [pl_self _ nd.1, pl_self _ nd.2] at e2
  generalize ef : pl (opsR k r).1 = f at *
  generalize eg : pl (opsR k r).2 = g at *
  show settle (ren f g k) (renR g r) = _
  rw [settle_ren (ren f g k) (renR g r) (KdS_ren f g k hk) hr]
  refine Prod.ext ?_ ?_
  · refine ren_id _ (fun n h => ?_) (fun n h => ?_)
    · have m := (opsR_mem (ren f g k) (renR g r) n).1.mpr h
      rw [e2] at m ⊢
      exact pl_range _ n m
    · have m := (opsR_mem (ren f g k) (renR g r) n).2.mpr (.inl h)
      rw [e2] at m ⊢
      exact pl_range _ n m
  · refine renR_id fun n h => ?_
    have m := (opsR_mem (ren f g k) (renR g r) n).2.mpr (.inr h)
    rw [e2] at m ⊢
    exact pl_range _ n m
end K11

/-! K11: the text by places -/
namespace K11
open PySem L2 Grd
def top (i : Nat) : Stmt := PySem.Challenge.pw_handledeeds_k11_open_ones_put_in.main.body.getD i (.Pass ⟨0, 0, 0, 0⟩)
abbrev s_p_note_opens : Stmt := top 1
abbrev s_p_note_tail : Stmt := top 2
abbrev s_p_opens_of : Stmt := top 3
abbrev s_p_all_opens : Stmt := top 4
abbrev s_p_put_in_roster : Stmt := top 5
abbrev s_p_put_in : Stmt := top 6
abbrev s_p_settled : Stmt := top 7
abbrev s_dip : Stmt := top 9
abbrev s_take : Stmt := top 10
abbrev s_folded : Stmt := top 11
abbrev s_one_of : Stmt := top 12
abbrev s_keywords : Stmt := top 13
abbrev s_named : Stmt := top 14
abbrev s_label : Stmt := top 15
abbrev s_roster : Stmt := top 16
abbrev s_kind : Stmt := top 17
abbrev s_opens : Stmt := top 18
abbrev s_put_ends : Stmt := top 19
abbrev s_put : Stmt := top 20
abbrev s_settled : Stmt := top 21
abbrev s_same : Stmt := top 22
abbrev s_right : Stmt := top 23
abbrev s_law : Stmt := top 24
theorem scp_note_opens : FnScope ["kind", "found"] ["kind", "found"] (defScope s_p_note_opens) := ⟨rfl, rfl, rfl, by decide +kernel, rfl, by decide +kernel, by decide +kernel⟩
theorem scp_note_tail : FnScope ["roster", "found", "tail"] ["roster", "found"] (defScope s_p_note_tail) := ⟨rfl, rfl, rfl, by decide +kernel, rfl, by decide +kernel, by decide +kernel⟩
theorem scp_opens_of : FnScope ["kind", "found"] ["kind"] (defScope s_p_opens_of) := ⟨rfl, rfl, rfl, by decide +kernel, rfl, by decide +kernel, by decide +kernel⟩
theorem scp_all_opens : FnScope ["kind", "roster", "found"] ["kind", "roster"] (defScope s_p_all_opens) := ⟨rfl, rfl, rfl, by decide +kernel, rfl, by decide +kernel, by decide +kernel⟩
theorem scp_put_in_roster : FnScope ["roster", "kinds", "tails", "labels", "tail", "more", "last"] ["roster", "kinds", "tails"] (defScope s_p_put_in_roster) := ⟨rfl, rfl, rfl, by decide +kernel, rfl, by decide +kernel, by decide +kernel⟩
theorem scp_put_in : FnScope ["kind", "kinds", "tails", "first", "last"] ["kind", "kinds", "tails"] (defScope s_p_put_in) := ⟨rfl, rfl, rfl, by decide +kernel, rfl, by decide +kernel, by decide +kernel⟩
theorem scp_settled : FnScope ["kind", "roster", "own", "ends", "kinds", "tails", "at", "number"] ["kind", "roster"] (defScope s_p_settled) := ⟨rfl, rfl, rfl, by decide +kernel, rfl, by decide +kernel, by decide +kernel⟩
theorem scdip : FnScope ["_law_script", "_law_k", "_law_cell"] ["_law_script", "_law_k"] (defScope s_dip) := ⟨rfl, rfl, rfl, by decide +kernel, rfl, by decide +kernel, by decide +kernel⟩
theorem sctake : FnScope ["_law_box", "_law_many", "_law_found", "_law_once", "_law_twice"] ["_law_box", "_law_many"] (defScope s_take) := ⟨rfl, rfl, rfl, by decide +kernel, rfl, by decide +kernel, by decide +kernel⟩
theorem scfolded : FnScope ["_law_script", "_law_size", "_law_cells", "_law_k", "_law_cell"] ["_law_script", "_law_size"] (defScope s_folded) := ⟨rfl, rfl, rfl, by decide +kernel, rfl, by decide +kernel, by decide +kernel⟩
theorem scone_of : FnScope ["_law_box", "_law_some"] ["_law_box", "_law_some"] (defScope s_one_of) := ⟨rfl, rfl, rfl, by decide +kernel, rfl, by decide +kernel, by decide +kernel⟩
theorem sckeywords : FnScope ["_law_some"] [] (defScope s_keywords) := ⟨rfl, rfl, rfl, by decide +kernel, rfl, by decide +kernel, by decide +kernel⟩
theorem scnamed : FnScope ["_law_box", "_law_many", "_law_letters", "_law_found", "_law_k", "_law_one", "_law_turn"] ["_law_box", "_law_many"] (defScope s_named) := ⟨rfl, rfl, rfl, by decide +kernel, rfl, by decide +kernel, by decide +kernel⟩
theorem sclabel : FnScope ["_law_box", "_law_deeds", "_law_deed", "_law_way"] ["_law_box", "_law_deeds"] (defScope s_label) := ⟨rfl, rfl, rfl, by decide +kernel, rfl, by decide +kernel, by decide +kernel⟩
theorem scroster : FnScope ["_law_box", "_law_deeds", "_law_labels", "_law_turn"] ["_law_box", "_law_deeds"] (defScope s_roster) := ⟨rfl, rfl, rfl, by decide +kernel, rfl, by decide +kernel, by decide +kernel⟩
theorem sckind : FnScope ["_law_box", "_law_deeds", "_law_room", "_law_deep", "_law_way", "_law_part", "_law_first", "_law_last"] ["_law_box", "_law_deeds", "_law_room", "_law_deep"] (defScope s_kind) := ⟨rfl, rfl, rfl, by decide +kernel, rfl, by decide +kernel, by decide +kernel⟩
theorem scopens : FnScope ["_law_made", "_law_own", "_law_ends"] ["_law_made", "_law_own", "_law_ends"] (defScope s_opens) := ⟨rfl, rfl, rfl, by decide +kernel, rfl, by decide +kernel, by decide +kernel⟩
theorem scput_ends : FnScope ["_law_row", "_law_tails", "_law_more"] ["_law_row", "_law_tails"] (defScope s_put_ends) := ⟨rfl, rfl, rfl, by decide +kernel, rfl, by decide +kernel, by decide +kernel⟩
theorem scput : FnScope ["_law_made", "_law_own", "_law_tails", "_law_first", "_law_last"] ["_law_made", "_law_own", "_law_tails"] (defScope s_put) := ⟨rfl, rfl, rfl, by decide +kernel, rfl, by decide +kernel, by decide +kernel⟩
theorem scsettled : FnScope ["_law_made", "_law_row", "_law_own", "_law_ends", "_law_some", "_law_tails", "_law_k", "_law_number"] ["_law_made", "_law_row"] (defScope s_settled) := ⟨rfl, rfl, rfl, by decide +kernel, rfl, by decide +kernel, by decide +kernel⟩
theorem scsame : FnScope ["_law_found", "_law_due", "_law_one", "_law_other"] ["_law_found", "_law_due"] (defScope s_same) := ⟨rfl, rfl, rfl, by decide +kernel, rfl, by decide +kernel, by decide +kernel⟩
theorem scright : FnScope ["_law_box", "_law_deeds", "_law_turn", "_law_made", "_law_row", "_law_own", "_law_ends", "_law_again", "_law_found", "_law_numbers", "_law_spots", "_law_some", "_law_tails", "_law_kept", "_law_due", "_law_number"] ["_law_box"] (defScope s_right) := ⟨rfl, rfl, rfl, by decide +kernel, rfl, by decide +kernel, by decide +kernel⟩
theorem sclaw : FnScope ["_law_script", "_law_cells", "_law_k"] ["_law_script"] (defScope s_law) := ⟨rfl, rfl, rfl, by decide +kernel, rfl, by decide +kernel, by decide +kernel⟩
structure Txt (K : PySem.W.Frag) (mg : Str → Option Value) where
  a_p_note_opens : Addr
  d_p_note_opens : FuncData
  F_p_note_opens : Fun K "note_opens" "note_opens" s_p_note_opens a_p_note_opens d_p_note_opens
  b_p_note_opens : Binds K d_p_note_opens ["kind", "found"] []
  g_p_note_opens : mg "note_opens" = some (.ref a_p_note_opens)
  a_p_note_tail : Addr
  d_p_note_tail : FuncData
  F_p_note_tail : Fun K "note_tail" "note_tail" s_p_note_tail a_p_note_tail d_p_note_tail
  b_p_note_tail : Binds K d_p_note_tail ["roster", "found"] []
  g_p_note_tail : mg "note_tail" = some (.ref a_p_note_tail)
  a_p_opens_of : Addr
  d_p_opens_of : FuncData
  F_p_opens_of : Fun K "opens_of" "opens_of" s_p_opens_of a_p_opens_of d_p_opens_of
  b_p_opens_of : Binds K d_p_opens_of ["kind"] []
  g_p_opens_of : mg "opens_of" = some (.ref a_p_opens_of)
  a_p_all_opens : Addr
  d_p_all_opens : FuncData
  F_p_all_opens : Fun K "all_opens" "all_opens" s_p_all_opens a_p_all_opens d_p_all_opens
  b_p_all_opens : Binds K d_p_all_opens ["kind", "roster"] []
  g_p_all_opens : mg "all_opens" = some (.ref a_p_all_opens)
  a_p_put_in_roster : Addr
  d_p_put_in_roster : FuncData
  F_p_put_in_roster : Fun K "put_in_roster" "put_in_roster" s_p_put_in_roster a_p_put_in_roster d_p_put_in_roster
  b_p_put_in_roster : Binds K d_p_put_in_roster ["roster", "kinds", "tails"] []
  g_p_put_in_roster : mg "put_in_roster" = some (.ref a_p_put_in_roster)
  a_p_put_in : Addr
  d_p_put_in : FuncData
  F_p_put_in : Fun K "put_in" "put_in" s_p_put_in a_p_put_in d_p_put_in
  b_p_put_in : Binds K d_p_put_in ["kind", "kinds", "tails"] []
  g_p_put_in : mg "put_in" = some (.ref a_p_put_in)
  a_p_settled : Addr
  d_p_settled : FuncData
  F_p_settled : Fun K "settled" "settled" s_p_settled a_p_settled d_p_settled
  b_p_settled : Binds K d_p_settled ["kind", "roster"] []
  g_p_settled : mg "settled" = some (.ref a_p_settled)
  a_dip : Addr
  d_dip : FuncData
  F_dip : Fun K "_law_dip" "_law_dip" s_dip a_dip d_dip
  b_dip : Binds K d_dip ["_law_script", "_law_k"] []
  g_dip : mg "_law_dip" = some (.ref a_dip)
  a_take : Addr
  d_take : FuncData
  F_take : Fun K "_law_take" "_law_take" s_take a_take d_take
  b_take : Binds K d_take ["_law_box", "_law_many"] []
  g_take : mg "_law_take" = some (.ref a_take)
  a_folded : Addr
  d_folded : FuncData
  F_folded : Fun K "_law_folded" "_law_folded" s_folded a_folded d_folded
  b_folded : Binds K d_folded ["_law_script", "_law_size"] []
  g_folded : mg "_law_folded" = some (.ref a_folded)
  a_one_of : Addr
  d_one_of : FuncData
  F_one_of : Fun K "_law_one_of" "_law_one_of" s_one_of a_one_of d_one_of
  b_one_of : Binds K d_one_of ["_law_box", "_law_some"] []
  g_one_of : mg "_law_one_of" = some (.ref a_one_of)
  a_keywords : Addr
  d_keywords : FuncData
  F_keywords : Fun K "_law_keywords" "_law_keywords" s_keywords a_keywords d_keywords
  b_keywords : Binds K d_keywords [] []
  g_keywords : mg "_law_keywords" = some (.ref a_keywords)
  a_named : Addr
  d_named : FuncData
  F_named : Fun K "_law_named" "_law_named" s_named a_named d_named
  b_named : Binds K d_named ["_law_box", "_law_many"] []
  g_named : mg "_law_named" = some (.ref a_named)
  a_label : Addr
  d_label : FuncData
  F_label : Fun K "_law_label" "_law_label" s_label a_label d_label
  b_label : Binds K d_label ["_law_box", "_law_deeds"] []
  g_label : mg "_law_label" = some (.ref a_label)
  a_roster : Addr
  d_roster : FuncData
  F_roster : Fun K "_law_roster" "_law_roster" s_roster a_roster d_roster
  b_roster : Binds K d_roster ["_law_box", "_law_deeds"] []
  g_roster : mg "_law_roster" = some (.ref a_roster)
  a_kind : Addr
  d_kind : FuncData
  F_kind : Fun K "_law_kind" "_law_kind" s_kind a_kind d_kind
  b_kind : Binds K d_kind ["_law_box", "_law_deeds", "_law_room", "_law_deep"] []
  g_kind : mg "_law_kind" = some (.ref a_kind)
  a_opens : Addr
  d_opens : FuncData
  F_opens : Fun K "_law_opens" "_law_opens" s_opens a_opens d_opens
  b_opens : Binds K d_opens ["_law_made", "_law_own", "_law_ends"] []
  g_opens : mg "_law_opens" = some (.ref a_opens)
  a_put_ends : Addr
  d_put_ends : FuncData
  F_put_ends : Fun K "_law_put_ends" "_law_put_ends" s_put_ends a_put_ends d_put_ends
  b_put_ends : Binds K d_put_ends ["_law_row", "_law_tails"] []
  g_put_ends : mg "_law_put_ends" = some (.ref a_put_ends)
  a_put : Addr
  d_put : FuncData
  F_put : Fun K "_law_put" "_law_put" s_put a_put d_put
  b_put : Binds K d_put ["_law_made", "_law_own", "_law_tails"] []
  g_put : mg "_law_put" = some (.ref a_put)
  a_settled : Addr
  d_settled : FuncData
  F_settled : Fun K "_law_settled" "_law_settled" s_settled a_settled d_settled
  b_settled : Binds K d_settled ["_law_made", "_law_row"] []
  g_settled : mg "_law_settled" = some (.ref a_settled)
  a_same : Addr
  d_same : FuncData
  F_same : Fun K "_law_same" "_law_same" s_same a_same d_same
  b_same : Binds K d_same ["_law_found", "_law_due"] []
  g_same : mg "_law_same" = some (.ref a_same)
  a_right : Addr
  d_right : FuncData
  F_right : Fun K "_law_right" "_law_right" s_right a_right d_right
  b_right : Binds K d_right ["_law_box"] []
  g_right : mg "_law_right" = some (.ref a_right)
  a_law : Addr
  d_law : FuncData
  F_law : Fun K "law" "law" s_law a_law d_law
  b_law : Binds K d_law ["_law_script"] []
  g_law : mg "law" = some (.ref a_law)
  n_abs : mg "abs" = none
  n_all : mg "all" = none
  n_bool : mg "bool" = none
  n_dict : mg "dict" = none
  n_enumerate : mg "enumerate" = none
  n_int : mg "int" = none
  n_isinstance : mg "isinstance" = none
  n_len : mg "len" = none
  n_list : mg "list" = none
  n_range : mg "range" = none
  n_repr : mg "repr" = none
  n_sorted : mg "sorted" = none
  n_str : mg "str" = none
  n_tuple : mg "tuple" = none
  n_zip : mg "zip" = none
end K11

/-! K11: what is drawn -/
namespace K11
open PySem L2 Grd
open Evl (Ex ex_t ex_l ex_rd)

/-- the box of draws: c bounds how often it was mixed -/
def Bx (H : Hp) (b : Addr) (c : Nat) : Prop := ∃ x y z : Int, H b = some (.lst [.int x, .int y, .int z]) ∧ 0 ≤ y ∧ y < 2305843010000000000 ∧ 0 ≤ z ∧ z ≤ (c : Int)
def But (b : Addr) (H H' : Hp) : Prop := ∀ a o, a ≠ b → H a = some o → H' a = some o
theorem But.refl (b : Addr) (H : Hp) : But b H H := fun _ _ _ e => e
theorem But.trans {b : Addr} {H H1 H2 : Hp} (x : But b H H1) (y : But b H1 H2) : But b H H2 := fun a o n e => y a o n (x a o n e)
theorem But.of_ex {b : Addr} {H H' : Hp} (x : Ex H H') : But b H H' := fun a o _ e => x a o e
theorem But.upd {b : Addr} {H : Hp} {o : HO} : But b H (upd H b o) := fun a u n e => by rw [upd_ne n]; exact e
theorem Bx.mono {H : Hp} {b : Addr} {c d : Nat} (h : Bx H b c) (le : c ≤ d) : Bx H b d := by
  obtain ⟨x, y, z, e, h1, h2, h3, h4⟩ := h
  exact ⟨x, y, z, e, h1, h2, h3, by omega⟩
theorem Bx.ex {H H' : Hp} {b : Addr} {c : Nat} (h : Bx H b c) (e : Ex H H') : Bx H' b c := by
  obtain ⟨x, y, z, q, r⟩ := h
  exact ⟨x, y, z, e _ _ q, r⟩
theorem Bx.ne {H : Hp} {b a : Addr} {c : Nat} (h : Bx H b c) {o : HO} (e : H a = some o) (n : ∀ xs, o ≠ .lst xs) : a ≠ b := by
  obtain ⟨x, y, z, q, r⟩ := h
  exact ne_of e q (n _)
theorem But.ts {K : PySem.W.Frag} {b : Addr} {H H' : Hp} {c : Nat} (h : But b H H') (k : Bx H b c) : Ts K H H' := by
  rintro a xs ((q | ⟨o, q⟩) | q)
  · exact .inl (.inl (h _ _ (k.ne q (fun _ z => by cases z)) q))
  · exact .inl (.inr ⟨o, h _ _ (k.ne q (fun _ z => by cases z)) q⟩)
  · exact .inr q
theorem But.sq {K : PySem.W.Frag} {b a : Addr} {H H' : Hp} {xs : List V} (h : But b H H') (n : a ≠ b) (q : SqL K H a xs) : SqL K H' a xs := by
  rcases q with (q | ⟨o, q⟩) | q
  · exact .inl (.inl (h _ _ n q))
  · exact .inl (.inr ⟨o, h _ _ n q⟩)
  · exact .inr q

def sp_take : Sp := fun vs H Q _ => ∃ (b : Addr) (m : Int) (c : Nat), vs = [.ref b, .int m] ∧ Bx H b c ∧ c < 1000000 ∧ 0 < m ∧ m < 1073741824 ∧
  ∀ r H', 0 ≤ r → r < m → But b H H' → Bx H' b (c + 1) → Q (.int r) H'
section
variable {P : Program} {w : World} {K : PySem.W.Frag} {mg : Str → Option Value} {base : Heap}
theorem ok_take (T : Txt K mg) : Fn P w K mg base CX0 1 T.a_take T.d_take ["_law_box", "_law_many"] sp_take := by
  refine Grd.mk T.F_take sctake (fun vs H Q E h => ?_) (fun cdv A outer s H vs Q E gd hr h => ?_)
  · obtain ⟨b, m, c, rfl, _⟩ := h
    rfl
  obtain ⟨b, m, c, rfl, ⟨x, y, z, hb, y0, y1, z0, z1⟩, hc, m0, m1, q⟩ := h
  refine ⟨_, (pss_cons (ps_if (pt_cmpR op_gt (pe_ix ix_list (pv 0) pe_int (fun _ _ => rfl)) pe_int (nomark _)) (pss_cons (ps_set (i := 2) sctake.nd rfl (Or.inl rfl) (pe_op op_mod (pe_ix ix_list (pv 0) pe_int (fun _ _ => rfl)) (pv 1)))
      (pss_cons (ps_asg (pe_op op_fdiv (pe_ix ix_list (pv 0) pe_int (fun _ _ => rfl)) (pv 1)) (pg_sub (pv 0) pe_int set_list))
      (pss_one (ps_ret (pv 2))))) pss_nil)
      (pss_cons (ps_asg (pe_op op_add (pe_ix ix_list (pv 0) pe_int (fun _ _ => rfl)) pe_int) (pg_sub (pv 0) pe_int set_list))
      (pss_cons (ps_set (i := 3) sctake.nd rfl (Or.inl rfl) (pe_op op_mod (pe_op op_pow (pe_op op_add (pe_ix ix_list (pv 0) pe_int (fun _ _ => rfl)) (pe_op op_mul pe_int (pe_ix ix_list (pv 0) pe_int (fun _ _ => rfl)))) pe_int) pe_int))
      (pss_cons (ps_set (i := 4) sctake.nd rfl (Or.inl rfl) (pe_op op_mod (pe_op op_mul (pe_op op_add (pe_op op_add (pv 3) (pe_ix ix_list (pv 0) pe_int (fun _ _ => rfl))) (pe_op op_fdiv (pe_ix ix_list (pv 0) pe_int (fun _ _ => rfl)) pe_int)) (pe_op op_add (pe_op op_add (pe_op op_mod (pv 3) pe_int) pe_int) (pe_ix ix_list (pv 0) pe_int (fun _ _ => rfl)))) pe_int))
      (pss_one (ps_ret (pe_op op_mod (pe_op op_fdiv (pe_op op_mod (pe_op op_add (pe_op op_mul (pv 4) pe_int) (pv 3)) pe_int) pe_int) (pv 1)))))))), ?_⟩
  refine ⟨_, rfl, b, _, _, _, rfl, rfl, SqL.of hb, rfl, _, _, rfl, rfl, _, rfl, ?_⟩
  refine ite2 (fun t => ?_) (fun t => ?_)
  · refine ⟨_, rfl, b, _, _, _, rfl, rfl, SqL.of hb, rfl, _, rfl, _, _, rfl, rfl, m0, ?_⟩
    refine ⟨_, rfl, b, _, _, _, rfl, rfl, SqL.of hb, rfl, _, rfl, _, _, rfl, rfl, ⟨m0, m1⟩, _, rfl, b, _, _, _, rfl, rfl, hb, rfl, ?_⟩
    refine ⟨_, rfl, q _ _ (Int.emod_nonneg _ (by omega)) (Int.emod_lt_of_pos _ m0) But.upd ⟨_, y, z, upd_same, y0, y1, z0, by omega⟩⟩
  · refine ⟨_, rfl, b, _, _, _, rfl, rfl, SqL.of hb, rfl, _, _, rfl, rfl, _, rfl, b, _, _, _, rfl, rfl, hb, rfl, ?_⟩
    generalize eH : upd H b _ = H1
    have h1 : H1 b = some (.lst [.int x, .int y, .int (z + 1)]) := by rw [← eH]; exact upd_same
    have bu : But b H H1 := by rw [← eH]; exact But.upd
    refine ⟨_, rfl, b, _, _, _, rfl, rfl, SqL.of h1, rfl, _, rfl, b, _, _, _, rfl, rfl, SqL.of h1, rfl, _, _, rfl, rfl, .inl ⟨by decide, by decide⟩, _, _, rfl, rfl, _, _, rfl, rfl, ⟨by decide, by decide, by omega⟩, _, _, rfl, rfl, (by show (0 : Int) < 2147483647; decide), ?_⟩
    generalize eo : (y + 39373 * (z + 1)) ^ (5 : Int).toNat % 2147483647 = o
    have o0 : 0 ≤ o := by rw [← eo]; exact Int.emod_nonneg _ (by decide)
    have o1 : o < 2147483647 := by rw [← eo]; exact Int.emod_lt_of_pos _ (by decide)
    have yd : 0 ≤ y / 1000003 := Int.ediv_nonneg y0 (by decide)
    have yd2 : y / 1000003 ≤ y := Int.ediv_le_self _ y0
    refine ⟨_, rfl, _, rfl, b, _, _, _, rfl, rfl, SqL.of h1, rfl, _, _, rfl, rfl, _, rfl, b, _, _, _, rfl, rfl, SqL.of h1, rfl, _, _, rfl, rfl, ⟨by decide, by decide⟩, _, _, rfl, rfl,
      _, rfl, _, _, rfl, rfl, (by show (0 : Int) < 40009; decide), _, _, rfl, rfl, _, rfl, b, _, _, _, rfl, rfl, SqL.of h1, rfl, _, _, rfl, rfl, _, _, rfl, rfl, .inl ⟨by omega, by omega⟩, _, _, rfl, rfl, (by show (0 : Int) < 2147483629; decide), ?_⟩
    refine ⟨_, rfl, _, _, rfl, rfl, .inr ⟨by decide, by decide⟩, _, rfl, _, _, rfl, rfl, _, _, rfl, rfl, (by show (0 : Int) < 2147483587; decide), _, _, rfl, rfl, ⟨by decide, by decide⟩, _, rfl, _, _, rfl, rfl, m0, ?_⟩
    exact q _ _ (Int.emod_nonneg _ (by omega)) (Int.emod_lt_of_pos _ m0) bu ⟨x, y, z + 1, h1, y0, y1, by omega, by omega⟩
end
end K11

/-! K11: boxes, folded cells, one of some -/
namespace K11
open PySem L2 Grd
open Evl (Ex ex_t ex_l ex_rd)
section
variable {P : Program} {w : World} {K : PySem.W.Frag} {mg : Str → Option Value} {base : Heap}
def sp_dip (K : PySem.W.Frag) : Sp := fun vs H Q _ => ∃ (a : Addr) (ns : List Int) (k : Int), vs = [.ref a, .int k] ∧ SqL K H a (ns.map V.int) ∧ 0 ≤ k ∧ k ≤ 100 ∧
  ∀ p H', H p = none → Ex H H' → Bx H' p 0 → Q (.ref p) H'
theorem dip_end {Q : VK} {H : Hp} {c k : Int} (k0 : 0 ≤ k) (k1 : k ≤ 100) (q : ∀ p H', H p = none → Ex H H' → Bx H' p 0 → Q (.ref p) H') (p : Addr) (hp : H p = none) (x : Int) :
    Q (.ref p) (upd H p (.lst [.int x, .int (c % 2305843009213693951 + 39373 * k + 17), .int 0])) := by
  have h0 : 0 ≤ c % 2305843009213693951 := Int.emod_nonneg _ (by decide)
  have h1 : c % 2305843009213693951 < 2305843009213693951 := Int.emod_lt_of_pos _ (by decide)
  exact q p _ hp (Ex.new hp) ⟨_, _, _, upd_same, by omega, by omega, by decide, by decide⟩
theorem b01 (b : Bool) : -(2 ^ 64) < (if b = true then 1 else 0 : Int) ∧ (if b = true then 1 else 0 : Int) < 2 ^ 64 := by cases b <;> decide
theorem ok_dip (T : Txt K mg) : Fn P w K mg base CX0 1 T.a_dip T.d_dip ["_law_script", "_law_k"] (sp_dip K) := by
  refine Grd.mk T.F_dip scdip (fun vs H Q E h => ?_) (fun cdv A outer s H vs Q E gd hr h => ?_)
  · obtain ⟨a, ns, k, rfl, _⟩ := h
    rfl
  obtain ⟨a, ns, k, rfl, hS, k0, k1, q⟩ := h
  refine ⟨_, (pss_cons (ps_set (i := 2) scdip.nd rfl (Or.inl rfl) (pe_ifExp (pt_cmpR op_lt (pv 1) (pe_callB call_len_seq (by rfl) T.n_len PySem.boot_len (pa_cons (pv 0) pa_nil)) (nomark _)) (pe_ix ix_list (pv 0) (pv 1) (fun _ _ => rfl)) pe_int))
      (pss_one (ps_ret (pe_lst (pa_cons (pe_op op_mul (pe_callB call_abs (by rfl) T.n_abs (by decide +kernel) (pa_cons (pv 2) pa_nil)) (pe_callTy call_int1 (by rfl) T.n_int (by decide +kernel) (pa_cons (pe_cmpR op_ge (pe_callB call_abs (by rfl) T.n_abs (by decide +kernel) (pa_cons (pv 2) pa_nil)) (pe_op op_pow pe_int pe_int) (nomark _)) pa_nil))) (pa_cons (pe_op op_add (pe_op op_add (pe_op op_mod (pv 2) pe_int) (pe_op op_mul pe_int (pv 1))) pe_int) (pa_cons pe_int pa_nil))))))), ?_⟩
  have rest : ∀ c : Int, tRet (tLst (tCons (tOp (rI CMul fun i j => .int (i * j)) (tCB (fun xs H Q => ∃ i, xs = [.int i] ∧ Q (.int (if i < 0 then -i else i)) H) (tCons (tVar 2) tNil))
      (tCB (fun xs H Q => (∃ i, xs = [.int i] ∧ Q (.int i) H) ∨ ∃ k, xs = [.bl k] ∧ Q (.int (if k then 1 else 0)) H)
        (tCons (tOp (rI0 fun i j => .bl (decide (j ≤ i))) (tCB (fun xs H Q => ∃ i, xs = [.int i] ∧ Q (.int (if i < 0 then -i else i)) H) (tCons (tVar 2) tNil)) (tOp (rI CPow fun i j => .int (i ^ j.toNat)) (tC (.int 10)) (tC (.int 18)))) tNil)))
      (tCons (tOp (rI0 fun i j => .int (i + j)) (tOp (rI0 fun i j => .int (i + j)) (tOp (rI (fun _ j => 0 < j) fun i j => .int (i % j)) (tVar 2) (tC (.int 2305843009213693951)))
        (tOp (rI CMul fun i j => .int (i * j)) (tC (.int 39373)) (tVar 1))) (tC (.int 17))) (tCons (tC (.int 0)) tNil)))) { nx := fun _ H' => Q .non H', rt := Q }
      [some (.ref a), some (.int k), some (.int c)] H := by
    intro c
    refine ⟨_, rfl, _, rfl, _, rfl, _, rfl, _, _, rfl, rfl, ⟨by decide, by decide, by decide⟩, _, _, rfl, rfl, .inr ⟨_, rfl, _, _, rfl, rfl, .inr ?_, _, rfl, _, _, rfl, rfl, (by show (0 : Int) < 2305843009213693951; decide), _, rfl, _, _, rfl, rfl, .inl ⟨by decide, by decide⟩, _, _, rfl, rfl, _, _, rfl, rfl, (by show 3 ≤ sizeLine; decide), fun p hp => ?_⟩⟩
    · exact b01 _
    · exact dip_end k0 k1 q p hp _
  refine ⟨_, rfl, _, rfl, a, _, rfl, .inl hS, _, _, rfl, rfl, _, rfl, ?_⟩
  refine ite2 (fun t => ?_) (fun t => ?_)
  · have t' : k < ((ns.map V.int).length : Int) := of_decide_eq_true t
    rw [List.length_map] at t'
    have hk : k.toNat < ns.length := by omega
    have at_ : atI (ns.map V.int) k = some (.int ns[k.toNat]) := at_of (j := k.toNat) (by omega) (by rw [List.getElem?_map, List.getElem?_eq_getElem hk]; rfl)
    exact ⟨_, rfl, _, rfl, a, _, _, _, rfl, rfl, hS, at_, rest _⟩
  · exact rest 0

/-- the first numbers, the rest added on -/
def sp_folded (K : PySem.W.Frag) : Sp := fun vs H Q _ => ∃ (a : Addr) (ns : List Int) (n : Nat), vs = [.ref a, .int (n : Int)] ∧ SqL K H a (ns.map V.int) ∧ ns.length ≤ 63 ∧ 0 < n ∧ n ≤ 62 ∧
  ∀ p H' (ms : List Int), H p = none → Ex H H' → ms.length ≤ n → H' p = some (.lst (ms.map V.int)) → Q (.ref p) H'
theorem cut_pre (ns : List Int) (n : Nat) : cutV (ns.map V.int) none (some (n : Int)) = (ns.take n).map V.int := by
  unfold cutV
  rw [HT.sIx_none, HT.sIx_nat, List.length_map, List.drop_zero, ← List.map_take]
  congr 1
  rw [Nat.sub_zero]
  rcases Nat.le_total n ns.length with h | h
  · rw [Nat.min_eq_left h]
  · rw [Nat.min_eq_right h, List.take_of_length_le (Nat.le_refl _), List.take_of_length_le h]
theorem cut_ints (ns : List Int) (lo hi : Option Int) : ∃ ms : List Int, cutV (ns.map V.int) lo hi = ms.map V.int ∧ ms.length ≤ ns.length := by
  have h := cutV_length (ns.map V.int) lo hi
  unfold cutV at *
  rw [← List.map_drop, ← List.map_take] at *
  exact ⟨_, rfl, by simpa using h⟩
theorem cut_mid (ns : List Int) (n : Nat) (h : ns.length ≤ n) : cutV (ns.map V.int) (some (n : Int)) (some 63) = [] := by
  unfold cutV
  rw [HT.sIx_nat, List.length_map, Nat.min_eq_right h, List.drop_of_length_le (by simp), List.take_nil]
theorem getI {ns : List Int} {i : Nat} {x : V} (h : (ns.map V.int)[i]? = some x) : ∃ m, ns[i]? = some m ∧ x = .int m := by
  rw [List.getElem?_map] at h
  cases e : ns[i]? with
  | none => rw [e] at h; cases h
  | some m => rw [e] at h; cases h; exact ⟨m, rfl, rfl⟩
theorem ok_folded (T : Txt K mg) : Fn P w K mg base CX0 1 T.a_folded T.d_folded ["_law_script", "_law_size"] (sp_folded K) := by
  refine Grd.mk T.F_folded scfolded (fun vs H Q E h => ?_) (fun cdv A outer s H vs Q E gd hr h => ?_)
  · obtain ⟨a, ns, n, rfl, _⟩ := h
    rfl
  obtain ⟨a, ns, n, rfl, hS, h63, n0, n1, q⟩ := h
  refine ⟨_, (pss_cons (ps_set (i := 2) scfolded.nd rfl (Or.inl rfl) (pe_callTy call_list_of (by rfl) T.n_list (by decide +kernel) (pa_cons (pe_slice sl_list (pv 0) po_none (po_some (pv 1))) pa_nil)))
      (pss_cons (ps_for PassesOwn.never rfl (pi_enum (by rfl) T.n_enumerate (pa_cons (pe_slice sl_list (pv 0) (po_some (pv 1)) (po_some pe_int)) pa_nil)) (pg_tup rfl (pgs_cons (pg_name (i := 3) scfolded.nd rfl (Or.inl rfl)) (pgs_cons (pg_name (i := 4) scfolded.nd rfl (Or.inl rfl)) pgs_nil))) (pss_one (ps_asg (pe_op op_add (pe_ix ix_list (pv 2) (pe_op op_mod (pv 3) (pv 1)) (fun _ _ => rfl)) (pe_op op_mul (pv 4) (pe_op op_add (pv 3) pe_int))) (pg_sub (pv 2) (pe_op op_mod (pv 3) (pv 1)) set_list))))
      (pss_one (ps_ret (pv 2))))), ?_⟩
  refine ⟨_, rfl, _, rfl, _, rfl, a, _, rfl, hS, fun p hp => ?_⟩
  refine ⟨p, _, rfl, .inl (SqL.of upd_same), fun c hc => ?_⟩
  have e1 : Ex H (upd (upd H p (.lst (cutV (ns.map V.int) none (some (n : Int))))) c (.lst (cutV (ns.map V.int) none (some (n : Int))))) := (Ex.new hp).trans (Ex.new hc)
  have hc0 : H c = none := Evl.fresh_back (Ex.new hp) hc
  have hcv : (upd (upd H p (.lst (cutV (ns.map V.int) none (some (n : Int))))) c (.lst (cutV (ns.map V.int) none (some (n : Int))))) c = some (.lst ((ns.take n).map V.int)) := by rw [upd_same, cut_pre]
  generalize upd (upd H p (.lst (cutV (ns.map V.int) none (some (n : Int))))) c (.lst (cutV (ns.map V.int) none (some (n : Int)))) = H1 at e1 hcv ⊢
  refine ⟨_, rfl, _, rfl, _, rfl, _, rfl, a, _, rfl, ex_l e1 hS, fun d hd => ?_⟩
  obtain ⟨ms, em, lm⟩ := cut_ints ns (some (n : Int)) (some 63)
  have ed : (upd H1 d (.lst (cutV (ns.map V.int) (some (n : Int)) (some 63)))) d = some (.lst (ms.map V.int)) := by rw [upd_same, em]
  have ncd : c ≠ d := ne_of_none hcv hd
  have hcv2 : (upd H1 d (.lst (cutV (ns.map V.int) (some (n : Int)) (some 63)))) c = some (.lst ((ns.take n).map V.int)) := by rw [upd_ne ncd]; exact hcv
  have e2 : Ex H (upd H1 d (.lst (cutV (ns.map V.int) (some (n : Int)) (some 63)))) := e1.trans (Ex.new hd)
  have hd0 : H d = none := Evl.fresh_back e1 hd
  generalize upd H1 d (.lst (cutV (ns.map V.int) (some (n : Int)) (some 63))) = H2 at ed hcv2 e2 ⊢
  refine ⟨d, _, rfl, SqL.of ed, for_it (walk_enum (xs := ms.map V.int)) (fun i σ H' => ∃ (u v : Option V) (cs : List Int), σ = [some (.ref a), some (.int (n : Int)), some (.ref c), u, v] ∧ Ex H H' ∧ H' d = some (.lst (ms.map V.int)) ∧ H' c = some (.lst (cs.map V.int)) ∧ cs.length = (ns.take n).length)
    ⟨none, none, _, rfl, e2, ed, hcv2, rfl⟩ (fun i σ H' _ ⟨_, _, _, _, _, h, _⟩ => SqL.of h) ?_ ?_⟩
  · rintro i x σ H3 H4 hi ⟨u, v, cs, rfl, e3, hd3, hc3, lc⟩ ⟨t, y, z, rfl, ht, rfl, ey, ez⟩
    cases ey
    obtain ⟨m, em2, rfl⟩ := getI (show (ms.map V.int)[i]? = some z from ez)
    · have full : n ≤ ns.length := by
        rcases Nat.lt_or_ge ns.length n with h | h
        · have z := cut_mid ns n (Nat.le_of_lt h)
          rw [em] at z
          rw [List.map_eq_nil_iff] at z
          rw [z] at hi
          simp at hi
        · exact h
      have lcs : cs.length = n := by rw [lc, List.length_take]; omega
      have hlt : i % n < cs.length := by rw [lcs]; exact Nat.mod_lt _ n0
      have im : ((i : Nat) : Int) % (n : Int) = ((i % n : Nat) : Int) := by simp
      have nct : c ≠ t := ne_of_none hc3 ht
      have ndt : d ≠ t := ne_of_none hd3 ht
      have hc4 : (upd H3 t (.tup [.int ((i : Nat) : Int), .int m])) c = some (.lst (cs.map V.int)) := by rw [upd_ne nct]; exact hc3
      have hd4 : (upd H3 t (.tup [.int ((i : Nat) : Int), .int m])) d = some (.lst (ms.map V.int)) := by rw [upd_ne ndt]; exact hd3
      have e4 : Ex H (upd H3 t (.tup [.int ((i : Nat) : Int), .int m])) := e3.trans (Ex.new ht)
      have at_ : atI (cs.map V.int) (((i : Nat) : Int) % (n : Int)) = some (.int cs[i % n]) := at_of (j := i % n) im (by rw [List.getElem?_map, List.getElem?_eq_getElem hlt]; rfl)
      have ix_ : ixN (cs.map V.int).length (((i : Nat) : Int) % (n : Int)) = some (i % n) := by
        rw [im, List.length_map]
        exact Evl.ixN_nat hlt
      have i63 : i < 63 := by
        have : ms.length ≤ 63 := by omega
        rw [List.length_map] at hi
        omega
      refine ⟨t, _, rfl, SqT.of upd_same, rfl, _, _, rfl, _, _, rfl, rfl, ?_⟩
      refine ⟨_, rfl, _, rfl, _, rfl, _, _, rfl, rfl, (by show (0 : Int) < (n : Int); omega), c, _, _, _, rfl, rfl, SqL.of hc4, at_, _, rfl, _, rfl, _, _, rfl, rfl, _, _, rfl, rfl, .inr ⟨by omega, by omega⟩, _, _, rfl, rfl,
        _, rfl, _, rfl, _, rfl, _, _, rfl, rfl, (by show (0 : Int) < (n : Int); omega), c, _, _, _, rfl, rfl, hc4, ix_, ?_⟩
      refine ⟨_, _, cs.set (i % n) (cs[i % n] + m * (((i : Nat) : Int) + 2)), rfl, e4.mut hc0, ?_, ?_, by rw [List.length_set]; exact lc⟩
      · rw [upd_ne ncd.symm]
        exact hd4
      · rw [upd_same, List.map_set]
  · rintro σ H3 ⟨u, v, cs, rfl, e3, hd3, hc3, lc⟩
    exact ⟨_, rfl, q c H3 cs hc0 e3 (by rw [lc, List.length_take]; omega) hc3⟩
end
end K11

/-! K11: names, labels, rosters, kinds as they are drawn -/
namespace K11
open PySem L2 Grd
open PyProof.Rows (sortedS)
open Evl (Ex ex_t ex_l ex_rd)

/-- a text of at most n signs -/
def Sg (n : Nat) (s : Str) : Prop := s.length ≤ n ∧ ∀ c ∈ s.cps.toList, c < 0x110000
theorem Sg.mono {n m : Nat} {s : Str} (h : Sg n s) (le : n ≤ m) : Sg m s := ⟨Nat.le_trans h.1 le, h.2⟩
theorem len_eq (s : Str) : s.length = s.cps.toList.length := by simp [Str.length]
theorem Sg.app {n m : Nat} {s t : Str} (h : Sg n s) (k : Sg m t) : Sg (n + m) (s ++ t) := by
  have e : (s ++ t).cps.toList = s.cps.toList ++ t.cps.toList := Array.toList_append
  refine ⟨?_, ?_⟩
  · rw [len_eq, e, List.length_append, ← len_eq, ← len_eq]
    exact Nat.add_le_add h.1 k.1
  · intro c hc
    rw [e] at hc
    exact (List.mem_append.mp hc).elim (h.2 c) (k.2 c)
theorem Sg.join0 : ∀ {ss : List Str}, (∀ s ∈ ss, Sg 1 s) → Sg ss.length (Str.join Str.empty ss)
  | [], _ => ⟨Nat.le_refl _, fun c hc => by simp [Str.join, Str.empty] at hc⟩
  | [x], h => h x (List.mem_cons_self ..)
  | x :: y :: r, h => by
    have ih := Sg.join0 (ss := y :: r) fun s hs => h s (List.mem_cons_of_mem _ hs)
    have e : Str.join Str.empty (x :: y :: r) = x ++ Str.empty ++ Str.join Str.empty (y :: r) := rfl
    rw [e]
    have z : Sg 0 Str.empty := ⟨Nat.le_refl _, fun c hc => by simp [Str.empty] at hc⟩
    have q := ((h x (List.mem_cons_self ..)).app z).app ih
    exact q.mono (by simp only [List.length_cons]; omega)
theorem Sg.cut {n : Nat} {s : Str} (h : Sg n s) (k : Nat) : Sg k (cutS s none (some (k : Int))) := by
  unfold cutS
  refine ⟨?_, ?_⟩
  · rw [len_eq]
    show List.length (List.toArray _).toList ≤ k
    rw [List.toList_toArray, HT.sIx_none, HT.sIx_nat, List.length_take]
    omega
  · intro c hc
    rw [List.toList_toArray] at hc
    exact h.2 c (List.mem_of_mem_drop (List.mem_of_mem_take hc))
abbrev abc : Str := "abcdefghijklmnopqrstuvwxyz"
theorem abc_at (i : Int) (h0 : 0 ≤ i) (h1 : i < 26) : ∃ c, atI abc.cps.toList i = some c ∧ Sg 1 ⟨#[c]⟩ := by
  have hl : abc.cps.toList.length = 26 := by decide +kernel
  have hk : i.toNat < abc.cps.toList.length := by omega
  refine ⟨abc.cps.toList[i.toNat], ?_, ?_⟩
  · have q := atI_nat (List.getElem?_eq_getElem hk)
    rw [show ((i.toNat : Nat) : Int) = i by omega] at q
    exact q
  · have al : ∀ c ∈ abc.cps.toList, c < 0x110000 := by decide +kernel
    refine ⟨Nat.le_refl _, ?_⟩
    intro c hc
    have hc' : c = abc.cps.toList[i.toNat] := by simpa using hc
    rw [hc']
    exact al _ (List.getElem_mem hk)
theorem abc_len : abc.length ≤ sizeLine := by decide +kernel
theorem flatS (ss : List Str) : (ss.map V.str).all flatV = true := by
  rw [List.all_map]
  exact List.all_eq_true.mpr fun s _ => rfl
theorem getS {ns : List Str} {i : Nat} {x : V} (h : (ns.map V.str)[i]? = some x) : ∃ m, ns[i]? = some m ∧ x = .str m := by
  rw [List.getElem?_map] at h
  cases e : ns[i]? with
  | none => rw [e] at h; cases h
  | some m => rw [e] at h; cases h; exact ⟨m, rfl, rfl⟩
/-- a place of a list of known length -/
theorem at_some {xs : List V} {r : Int} (h0 : 0 ≤ r) (h1 : r < (xs.length : Int)) : ∃ x, atI xs r = some x ∧ xs[r.toNat]? = some x := by
  have hk : r.toNat < xs.length := by omega
  have e : xs[r.toNat]? = some xs[r.toNat] := List.getElem?_eq_getElem hk
  exact ⟨_, at_of (j := r.toNat) (by omega) e, e⟩

section
variable {P : Program} {w : World} {K : PySem.W.Frag} {mg : Str → Option Value} {base : Heap}
/-! ### one of some -/
def sp_one_of (K : PySem.W.Frag) : Sp := fun vs H Q _ => ∃ (b l : Addr) (xs : List V) (c : Nat), vs = [.ref b, .ref l] ∧ Bx H b c ∧ c < 1000000 ∧ l ≠ b ∧ SqL K H l xs ∧ 0 < xs.length ∧ xs.length < 10000 ∧
  ∀ (i : Nat) (x : V) (H' : Hp), xs[i]? = some x → But b H H' → Bx H' b (c + 1) → Q x H'
theorem ok_one_of (T : Txt K mg) : Fn P w K mg base CX0 2 T.a_one_of T.d_one_of ["_law_box", "_law_some"] (sp_one_of K) := by
  have G_take := ok_take (P := P) (w := w) (base := base) T
  refine Grd.mk T.F_one_of scone_of (fun vs H Q E h => ?_) (fun cdv A outer s H vs Q E gd hr h => ?_)
  · obtain ⟨b, l, xs, c, rfl, _⟩ := h
    rfl
  obtain ⟨b, l, xs, c, rfl, hB, hc, nl, hS, l0, l1, q⟩ := h
  refine ⟨_, (pss_one (ps_ret (pe_ix ix_list (pv 1) (pe_callG G_take gd (hr.mono (by first | decide | omega)) rfl T.g_take T.F_take.kp T.b_take .nil pass0 (pa_cons (pv 0) (pa_cons (pe_callB call_len_seq (by rfl) T.n_len PySem.boot_len (pa_cons (pv 1) pa_nil)) pa_nil))) (fun _ _ => rfl)))), ?_⟩
  refine ⟨_, rfl, _, rfl, _, rfl, l, _, rfl, .inl hS, b, _, c, rfl, hB, hc, by omega, by omega, fun r H' r0 r1 bu bx => ?_⟩
  obtain ⟨x, a1, a2⟩ := at_some r0 r1
  exact ⟨l, _, _, _, rfl, rfl, bu.sq nl hS, a1, q _ x H' a2 bu bx⟩
/-! ### the words that are no names -/
def sp_keywords : Sp := fun vs H Q _ => vs = [] ∧ ∀ p H' (ss : List Str), H p = none → Ex H H' → ss.length ≤ 100 → H' p = some (.lst (ss.map V.str)) → Q (.ref p) H'
theorem ok_keywords (T : Txt K mg) : Fn P w K mg base CX0 1 T.a_keywords T.d_keywords [] sp_keywords := by
  refine Grd.mk T.F_keywords sckeywords (fun vs H Q E h => ?_) (fun cdv A outer s H vs Q E gd hr h => ?_)
  · rw [h.1]
    rfl
  obtain ⟨rfl, q⟩ := h
  refine ⟨_, (pss_cons (ps_set (i := 0) sckeywords.nd rfl (Or.inl rfl) pe_str)
      (pss_one (ps_ret (pe_split (pe_op op_add_str (pv 0) pe_str) pe_str)))), ?_⟩
  refine ⟨_, rfl, _, _, rfl, rfl, (by decide +kernel), ⟨_, rfl⟩, _, _, rfl, rfl, (by decide +kernel), (by decide +kernel), fun p hp => ?_⟩
  exact q p _ _ hp (Ex.new hp) (by decide +kernel) upd_same
/-! ### names -/
def sp_named (K : PySem.W.Frag) : Sp := fun vs H Q _ => ∃ (b : Addr) (m c : Nat), vs = [.ref b, .int (m : Int)] ∧ Bx H b c ∧ m ≤ 10 ∧ c < 900000 ∧
  ∀ p H' (ss : List Str), H p = none → But b H H' → Bx H' b (c + 7 * m) → ss.length = m → (∀ s ∈ ss, Sg 6 s) → H' p = some (.lst (ss.map V.str)) → Q (.ref p) H'
theorem four_at {r : Int} (h0 : 0 ≤ r) (h1 : r < 4) : ∃ v : Nat, atI [V.int 1, V.int 2, V.int 3, V.int 6] r = some (.int (v : Int)) ∧ v ≤ 6 := by
  have h : r = 0 ∨ r = 1 ∨ r = 2 ∨ r = 3 := by omega
  rcases h with rfl | rfl | rfl | rfl
  · exact ⟨1, rfl, by decide⟩
  · exact ⟨2, rfl, by decide⟩
  · exact ⟨3, rfl, by decide⟩
  · exact ⟨6, rfl, by decide⟩
theorem ok_named (T : Txt K mg) : Fn P w K mg base CX0 2 T.a_named T.d_named ["_law_box", "_law_many"] (sp_named K) := by
  have G_take := ok_take (P := P) (w := w) (base := base) T
  have G_keywords := ok_keywords (P := P) (w := w) (base := base) T
  refine Grd.mk T.F_named scnamed (fun vs H Q E h => ?_) (fun cdv A outer s H vs Q E gd hr h => ?_)
  · obtain ⟨b, m, c, rfl, _⟩ := h
    rfl
  obtain ⟨b, m, c, rfl, hB, m1, hc, q⟩ := h
  refine ⟨_, (pss_cons (ps_asg (pe_tup (pa_cons pe_str (pa_cons (pe_lst pa_nil) pa_nil))) (pg_tup rfl (pgs_cons (pg_name (i := 2) scnamed.nd rfl (Or.inr rfl)) (pgs_cons (pg_name (i := 3) scnamed.nd rfl (Or.inl rfl)) pgs_nil))))
      (pss_cons (ps_for PassesOwn.never rfl (pi_range1 (by rfl) T.n_range (pa_cons (pv 1) pa_nil)) (pg_name (i := 4) scnamed.nd rfl (Or.inl rfl)) (pss_cons (ps_set (i := 5) scnamed.nd rfl (Or.inl rfl) (pe_join pe_str (pe_lc (own := [("_law_turn", 6)]) (by rfl) scnamed.nd (pi_range1 (by rfl) T.n_range (pa_cons (pe_ix ix_list (pe_lst (pa_cons pe_int (pa_cons pe_int (pa_cons pe_int (pa_cons pe_int pa_nil))))) (pe_callG G_take gd (hr.mono (by first | decide | omega)) rfl T.g_take T.F_take.kp T.b_take .nil pass0 (pa_cons (pv 0) (pa_cons pe_int pa_nil))) (fun _ _ => rfl)) pa_nil)) (blkOk_by (own := [("_law_turn", 6)]) (N := ["_law_box", "_law_many", "_law_letters", "_law_found", "_law_k", "_law_one", "_law_turn"]) (sc := defScope s_named) (by decide +kernel)) (fun _ _ _ _ _ => (pg_name (i := 6) scnamed.nd rfl (Or.inl rfl))) (fun _ _ _ _ _ => pts_nil) (fun _ _ _ _ _ => (pe_ix ix_str (pv 2) (pe_callG G_take gd (hr.mono (by first | decide | omega)) rfl T.g_take T.F_take.kp T.b_take .nil pass0 (pa_cons (pv 0) (pa_cons pe_int pa_nil))) (fun _ _ => rfl))))))
      (pss_cons (ps_for PassesOwn.never rfl (pi_range1 (by rfl) T.n_range (pa_cons (pe_op op_add (pe_callB call_len_seq (by rfl) T.n_len PySem.boot_len (pa_cons (pv 3) pa_nil)) pe_int) pa_nil)) (pg_name (i := 6) scnamed.nd rfl (Or.inl rfl)) (pss_one (ps_if (pt_cmpR op_in_seq (pv 5) (pe_op op_cat (pv 3) (pe_callG0 G_keywords gd (hr.mono (by first | decide | omega)) rfl T.g_keywords T.F_keywords.kp T.b_keywords .nil pass0)) (by rfl)) (pss_one (ps_set (i := 5) scnamed.nd rfl (Or.inl rfl) (pe_op op_add_str (pe_op op_add_str (pe_slice sl_str (pv 5) po_none (po_some pe_int)) (pe_ix ix_str (pv 2) (pe_op op_fdiv (pv 6) pe_int) (fun _ _ => rfl))) (pe_ix ix_str (pv 2) (pe_op op_mod (pv 6) pe_int) (fun _ _ => rfl))))) pss_nil)))
      (pss_one (ps_expr (pe_bm PySem.F.plainAttrs_list PySem.F.slot_list_append PySem.F.type_list_append mt_append (pv 3) (pa_cons (pv 5) pa_nil)))))))
      (pss_one (ps_ret (pv 3))))), ?_⟩
  refine ⟨Nat.zero_le _, fun f hf => ⟨(by show 2 ≤ sizeLine; decide), fun t ht => ?_⟩⟩
  refine ⟨t, _, rfl, SqT.of upd_same, rfl, _, _, rfl, _, _, rfl, rfl, ?_⟩
  have hf0 : H f = none := hf
  have nft : f ≠ t := fun z => by rw [z, upd_same] at ht; cases ht
  have hfv : (upd (upd H f (.lst [])) t (.tup [.str abc, .ref f])) f = some (.lst (([] : List Str).map V.str)) := by rw [upd_ne nft, upd_same]; rfl
  have e1 : Ex H (upd (upd H f (.lst [])) t (.tup [.str abc, .ref f])) := (Ex.new hf).trans (Ex.new ht)
  have B1 : Bx (upd (upd H f (.lst [])) t (.tup [.str abc, .ref f])) b c := hB.ex e1
  generalize upd (upd H f (.lst [])) t (.tup [.str abc, .ref f]) = H1 at hfv e1 B1 ⊢
  have nbf : b ≠ f := by
    obtain ⟨x, y, z, hb, _⟩ := hB
    exact ne_of_none hb hf0
  refine ⟨_, rfl, (m : Int), rfl, by omega, by omega, for_range (fun i σ H' => ∃ (ss : List Str) (u4 u5 u6 : Option V), σ = [some (.ref b), some (.int (m : Int)), some (.str abc), some (.ref f), u4, u5, u6] ∧ But b H H' ∧ Bx H' b (c + 7 * i) ∧ ss.length = i ∧ (∀ s ∈ ss, Sg 6 s) ∧ H' f = some (.lst (ss.map V.str)))
    ⟨[], none, none, none, rfl, But.of_ex e1, B1, rfl, by simp, hfv⟩ ?_ ?_⟩
  · rintro i σ H2 hi ⟨ss, u4, u5, u6, rfl, bu, bx, ls, hss, hf2⟩
    have him : i < m := by omega
    have cb : c + 7 * i < 990000 := by omega
    -- ''.join([..])
    refine ⟨⟨_, rfl⟩, (by show 4 ≤ sizeLine; decide), fun l hl => ?_⟩
    have el : Ex H2 (upd H2 l (.lst [.int 1, .int 2, .int 3, .int 6])) := Ex.new hl
    have nlb : l ≠ b := by
      obtain ⟨x, y, z, hb, _⟩ := bx
      exact fun z => by rw [z, hb] at hl; cases hl
    refine ⟨_, rfl, b, 4, c + 7 * i, rfl, bx.ex el, by omega, by decide, by decide, fun r H3 r0 r1 bu3 bx3 => ?_⟩
    obtain ⟨v, av, v6⟩ := four_at r0 r1
    have hl3 : H3 l = some (.lst [.int 1, .int 2, .int 3, .int 6]) := bu3 _ _ nlb upd_same
    refine ⟨l, _, _, _, rfl, rfl, SqL.of hl3, av, (v : Int), rfl, by omega, by omega, fun D hD => ?_⟩
    have nDb : D ≠ b := by
      obtain ⟨x, y, z, hb, _⟩ := bx3
      exact fun z => by rw [z, hb] at hD; cases hD
    have bu23 : But b H2 H3 := (But.of_ex el).trans bu3
    have hf3 : H3 f = some (.lst (ss.map V.str)) := bu23 _ _ nbf.symm hf2
    refine lc_range (fun j H' => ∃ ts : List Str, H' D = some (.lst (ts.map V.str)) ∧ ts.length = j ∧ (∀ s ∈ ts, Sg 1 s) ∧ But b H3 H' ∧ Bx H' b (c + 7 * i + 1 + j)) ?_ ?_ ?_
    · exact ⟨[], upd_same, rfl, by simp, But.of_ex (Ex.new hD), bx3.ex (Ex.new hD)⟩
    · rintro j H4 hj ⟨ts, hD4, lt, hts, bu4, bx4⟩
      have hj6 : j < v := by omega
      refine ⟨rfl, ?_⟩
      refine ⟨_, rfl, _, rfl, b, 26, _, rfl, bx4, by omega, by decide, by decide, fun r' H5 r0' r1' bu5 bx5 => ?_⟩
      obtain ⟨ch, ac, sg⟩ := abc_at r' r0' r1'
      refine ⟨abc, _, ch, rfl, rfl, abc_len, ac, ts.map V.str, bu5 _ _ nDb hD4, ?_, ts ++ [⟨#[ch]⟩], ?_, ?_, ?_, ?_, ?_⟩
      · rw [List.length_map, lt]; exact small1000 (by omega)
      · rw [upd_same, List.map_append]; rfl
      · rw [List.length_append, lt]; rfl
      · intro s hs
        rcases List.mem_append.mp hs with h | h
        · exact hts s h
        · rw [List.mem_singleton.mp h]; exact sg
      · intro a o na e
        have nD : a ≠ D := fun z => by rw [z, hD] at e; cases e
        rw [upd_ne nD]
        exact bu5 _ _ na (bu4 _ _ na e)
      · obtain ⟨x, y, z, hb, q1⟩ := bx5
        exact ⟨x, y, z, by rw [upd_ne nDb.symm]; exact hb, by omega⟩
    · rintro H4 ⟨ts, hD4, lt, hts, bu4, bx4⟩
      have lv : ts.length ≤ 6 := by omega
      have sgj : Sg 6 (Txt.join "" ts) := by
        have e0 : ("" : Str) = Str.empty := by decide +kernel
        rw [TL.join_eq, e0]
        exact (Sg.join0 hts).mono lv
      have hsum : (ts.map (·.length)).sum + ts.length * ("" : Str).length ≤ 16777216 := by
        have hs : ∀ (l : List Str), (∀ s ∈ l, Sg 1 s) → (l.map (·.length)).sum ≤ l.length := by
          intro l
          induction l with
          | nil => intro _; exact Nat.le_refl _
          | cons a r ih =>
            intro h
            have h1 := (h a (List.mem_cons_self ..)).1
            have h2 := ih fun s hs => h s (List.mem_cons_of_mem _ hs)
            simp only [List.map_cons, List.sum_cons, List.length_cons]
            omega
        have h1 := hs ts hts
        have h2 : ("" : Str).length = 0 := by decide +kernel
        rw [h2]
        omega
      refine ⟨_, D, ts, rfl, rfl, .inl (SqL.of hD4), hsum, ?_⟩
      generalize Txt.join "" ts = one at sgj
      have hf4 : H4 f = some (.lst (ss.map V.str)) := bu4 _ _ nbf.symm hf3
      have bu24 : But b H H4 := (bu.trans bu23).trans bu4
      have bx44 : Bx H4 b (c + 7 * (i + 1)) := bx4.mono (by omega)
      have lsl : ((ss.map V.str).length : Int) = (i : Int) := by rw [List.length_map, ls]
      refine ⟨_, rfl, f, _, rfl, .inl (SqL.of hf4), _, _, rfl, rfl, _, rfl, by omega, by omega, for_range (fun j σ H' => ∃ (o : Str) (u6 : Option V), σ = [some (.ref b), some (.int (m : Int)), some (.str abc), some (.ref f), some (.int (0 + (i : Int))), some (.str o), u6] ∧ Sg 6 o ∧ Ex H4 H')
        ⟨one, _, rfl, sgj, Ex.refl _⟩ ?_ ?_⟩
      · rintro j σ H5 hj ⟨o, u7, rfl, sgo, e5⟩
        have hj' : (j : Int) < (i : Int) + 26 := by
          rw [lsl] at hj
          omega
        refine ⟨_, rfl, _, rfl, rfl, fun p H6 ks hp e6 lk hk => ?_⟩
        have hf6 : H6 f = some (.lst (ss.map V.str)) := e6 _ _ (e5 _ _ hf4)
        have sz : (ss.map V.str).length + (ks.map V.str).length ≤ sizeLine := by
          rw [List.length_map, List.length_map, ls]
          exact Nat.le_of_lt (small1000 (by omega))
        refine ⟨f, p, _, _, rfl, rfl, hf6, hk, sz, fun p2 hp2 => ?_⟩
        have e7 : Ex H4 (upd H6 p2 (.lst (ss.map V.str ++ ks.map V.str))) := (e5.trans e6).trans (Ex.new hp2)
        refine ⟨p2, _, rfl, .inl (SqL.of upd_same), rfl, ?_, _, rfl, ?_⟩
        · rw [← List.map_append]; exact flatS _
        refine ite2 (fun _ => ?_) (fun _ => ?_)
        · obtain ⟨c1, ac1, sg1⟩ := abc_at ((0 + (j : Int)) / 26) (by omega) (by omega)
          obtain ⟨c2, ac2, sg2⟩ := abc_at ((0 + (j : Int)) % 26) (by omega) (by omega)
          have sgc : Sg 4 (cutS o none (some 4)) := sgo.cut 4
          have l1 := (sgc.app sg1).1
          refine ⟨_, rfl, _, rfl, o, rfl, Nat.le_trans sgo.1 (by decide), _, rfl, _, rfl, _, _, rfl, rfl, ⟨by decide, by decide⟩, abc, _, c1, rfl, rfl, abc_len, ac1, _, _, rfl, rfl, Nat.le_trans (Nat.add_le_add sgc.1 sg1.1) (by decide),
            _, rfl, _, rfl, _, _, rfl, rfl, (by show (0 : Int) < 26; decide), abc, _, c2, rfl, rfl, abc_len, ac2, _, _, rfl, rfl, Nat.le_trans (Nat.add_le_add l1 sg2.1) (by decide), ?_⟩
          exact ⟨_, _, rfl, ((sgc.app sg1).app sg2), e7⟩
        · exact ⟨o, _, rfl, sgo, e7⟩
      · rintro σ H5 ⟨o, u7, rfl, sgo, e5⟩
        have hf5 : H5 f = some (.lst (ss.map V.str)) := e5 _ _ hf4
        refine ⟨_, rfl, .inl ⟨rfl, _, SqL.of hf5⟩, _, rfl, f, _, _, rfl, rfl, hf5, by rw [List.length_map, ls]; exact small1000 (by omega), ?_⟩
        refine ⟨ss ++ [o], _, _, _, rfl, ?_, ?_, by rw [List.length_append, ls]; rfl, ?_, by rw [upd_same, List.map_append]; rfl⟩
        · intro a o' na e
          have nf : a ≠ f := fun z => by rw [z, hf0] at e; cases e
          rw [upd_ne nf]
          exact e5 _ _ (bu24 _ _ na e)
        · obtain ⟨x, y, z, hb, q1⟩ := bx44
          exact ⟨x, y, z, by rw [upd_ne nbf]; exact e5 _ _ hb, q1⟩
        · intro s hs
          rcases List.mem_append.mp hs with h | h
          · exact hss s h
          · rw [List.mem_singleton.mp h]; exact sgo
  · rintro σ H2 ⟨ss, u4, u5, u6, rfl, bu, bx, ls, hss, hf2⟩
    exact ⟨_, rfl, q f H2 ss hf0 bu (by simpa using bx) (by simpa using ls) hss hf2⟩
end
end K11

/-! K11: labels, rosters, kinds as they are drawn -/
namespace K11
open PySem L2 Grd
open PyProof.Rows (sortedS)
open Evl (Ex ex_t ex_l ex_rd)

/-! ### kinds as data -/
def optD : Option Int → PyData
  | none => .none
  | some n => .int n
def optV : Option Int → V
  | none => .non
  | some n => .int n
def roD (r : Ro) : PyData := .tuple [.tuple (r.1.map PyData.str), optD r.2]
def kdD : Kd → PyData
  | .num => .str "number"
  | .any n => .tuple [.str "any", .int n]
  | .pair a b => .tuple [.str "pair", kdD a, kdD b]
  | .fn a r b => .tuple [.str "fun", kdD a, roD r, kdD b]
def dep : Kd → Nat
  | .num => 1
  | .any _ => 1
  | .pair a b => 1 + max (dep a) (dep b)
  | .fn a _ b => 1 + max (dep a) (dep b)
structure RoOk (r : Ro) : Prop where
  s : sortedS r.1 = true
  l : r.1.length ≤ 8
  t : ∀ x ∈ r.1, Sg 13 x
  n : ∀ n, r.2 = some n → 0 ≤ n ∧ n ≤ 1000
def KdOk : Kd → Prop
  | .num => True
  | .any n => 0 ≤ n ∧ n ≤ 1000
  | .pair a b => KdOk a ∧ KdOk b
  | .fn a r b => KdOk a ∧ RoOk r ∧ KdOk b
theorem dp_opt {K : PySem.W.Frag} {H : Hp} (o : Option Int) : Dp K H (optV o) (optD o) := by
  cases o with
  | none => exact .non
  | some n => exact .int n
theorem dp_strs {K : PySem.W.Frag} {H : Hp} : ∀ ss : List Str, DpAll K H (ss.map V.str) (ss.map PyData.str)
  | [] => .nil
  | s :: r => .cons (.str s) (dp_strs r)
theorem dp_ro {K : PySem.W.Frag} {H : Hp} {p t : Addr} {r : Ro} (hp : SqT K H p [.ref t, optV r.2]) (ht : SqT K H t (r.1.map V.str)) : Dp K H (.ref p) (roD r) :=
  .tup hp (.cons (.tup ht (dp_strs _)) (.cons (dp_opt _) .nil))
theorem dp_any {K : PySem.W.Frag} {H : Hp} {p : Addr} {n : Int} (hp : SqT K H p [.str "any", .int n]) : Dp K H (.ref p) (kdD (.any n)) :=
  .tup hp (.cons (.str _) (.cons (.int _) .nil))
theorem to_strs : ∀ ss : List Str, tupOnlyAll (ss.map PyData.str) = true
  | [] => by simp only [List.map_nil, tupOnlyAll]
  | s :: r => by simp only [List.map_cons, tupOnlyAll, tupOnly, to_strs r, Bool.and_self]
theorem to_opt (o : Option Int) : tupOnly (optD o) = true := by
  cases o <;> simp only [optD, tupOnly]
theorem to_ro (r : Ro) : tupOnly (roD r) = true := by
  simp only [roD, tupOnly, tupOnlyAll, to_strs, to_opt, Bool.and_self]
theorem to_kd : ∀ k : Kd, tupOnly (kdD k) = true
  | .num => by simp only [kdD, tupOnly]
  | .any n => by simp only [kdD, tupOnly, tupOnlyAll, Bool.and_self]
  | .pair a b => by simp only [kdD, tupOnly, tupOnlyAll, to_kd a, to_kd b, Bool.and_self]
  | .fn a r b => by simp only [kdD, tupOnly, tupOnlyAll, to_kd a, to_kd b, to_ro r, Bool.and_self]

section
variable {P : Program} {w : World} {K : PySem.W.Frag} {mg : Str → Option Value} {base : Heap}
/-! ### labels -/
def fv : List Str := ["", "0", "0.2", "0.10", "12.0.3"]
theorem fv_sg : ∀ s ∈ fv, Sg 6 s := by
  have h : ∀ s ∈ fv, s.length ≤ 6 ∧ ∀ c ∈ s.cps.toList, c < 0x110000 := by decide +kernel
  exact h
theorem colon : Sg 1 (":" : Str) := by
  have h : (":" : Str).length ≤ 1 ∧ ∀ c ∈ (":" : Str).cps.toList, c < 0x110000 := by decide +kernel
  exact h
def sp_label (K : PySem.W.Frag) : Sp := fun vs H Q _ => ∃ (b l : Addr) (ds : List Str) (c : Nat), vs = [.ref b, .ref l] ∧ Bx H b c ∧ c < 990000 ∧ l ≠ b ∧ SqL K H l (ds.map V.str) ∧ 0 < ds.length ∧ ds.length < 1000 ∧ (∀ d ∈ ds, Sg 6 d) ∧
  ∀ s H', Sg 13 s → But b H H' → Bx H' b (c + 3) → Q (.str s) H'
theorem ok_label (T : Txt K mg) : Fn P w K mg base CX0 3 T.a_label T.d_label ["_law_box", "_law_deeds"] (sp_label K) := by
  have G_take := ok_take (P := P) (w := w) (base := base) T
  have G_one_of := ok_one_of (P := P) (w := w) (base := base) T
  refine Grd.mk T.F_label sclabel (fun vs H Q E h => ?_) (fun cdv A outer s H vs Q E gd hr h => ?_)
  · obtain ⟨b, l, ds, c, rfl, _⟩ := h
    rfl
  obtain ⟨b, l, ds, c, rfl, hB, hc, nl, hS, l0, l1, hd, q⟩ := h
  refine ⟨_, (pss_cons (ps_par (i := 2) (j := 3) (by rfl) sclabel.nd rfl rfl (by decide) rfl rfl (pa_cons (pe_callG G_one_of gd (hr.mono (by first | decide | omega)) rfl T.g_one_of T.F_one_of.kp T.b_one_of .nil pass0 (pa_cons (pv 0) (pa_cons (pv 1) pa_nil))) (pa_cons (pe_callG G_take gd (hr.mono (by first | decide | omega)) rfl T.g_take T.F_take.kp T.b_take .nil pass0 (pa_cons (pv 0) (pa_cons pe_int pa_nil))) pa_nil)) (by rfl))
      (pss_one (ps_ret (pe_ifExp (pt_cmpR op_gt (pv 3) pe_int (nomark _)) (pv 2) (pe_op op_add_str (pe_op op_add_str (pe_callG G_one_of gd (hr.mono (by first | decide | omega)) rfl T.g_one_of T.F_one_of.kp T.b_one_of .nil pass0 (pa_cons (pv 0) (pa_cons (pe_lst (pa_cons pe_str (pa_cons pe_str (pa_cons pe_str (pa_cons pe_str (pa_cons pe_str pa_nil)))))) pa_nil))) pe_str) (pv 2)))))), ?_⟩
  refine ⟨_, rfl, _, rfl, b, l, _, c, rfl, hB, by omega, nl, hS, by rw [List.length_map]; exact l0, by rw [List.length_map]; omega, fun i x H1 hx bu1 bx1 => ?_⟩
  obtain ⟨d, hdi, rfl⟩ := getS hx
  have sgd := hd d (List.mem_of_getElem? hdi)
  refine ⟨_, rfl, b, 4, c + 1, rfl, bx1, by omega, by decide, by decide, fun r H2 r0 r1 bu2 bx2 => ?_⟩
  refine ⟨_, _, rfl, _, rfl, _, _, rfl, rfl, _, rfl, ite2 (fun _ => ?_) (fun _ => ?_)⟩
  · exact ⟨_, rfl, q d H2 (sgd.mono (by decide)) (bu1.trans bu2) (bx2.mono (by omega))⟩
  · refine ⟨_, rfl, (by show 5 ≤ sizeLine; decide), fun l2 hl2 => ?_⟩
    have el : Ex H2 (upd H2 l2 (.lst (fv.map V.str))) := Ex.new hl2
    have nl2 : l2 ≠ b := by
      obtain ⟨x, y, z, hb, _⟩ := bx2
      exact fun z => by rw [z, hb] at hl2; cases hl2
    refine ⟨b, l2, fv.map V.str, c + 2, rfl, bx2.ex el, by omega, nl2, SqL.of upd_same, by decide, by decide, fun i x H3 hx bu3 bx3 => ?_⟩
    obtain ⟨f, hfi, rfl⟩ := getS hx
    have sgf := fv_sg f (List.mem_of_getElem? hfi)
    have sgfc := sgf.app colon
    refine ⟨_, _, rfl, rfl, Nat.le_trans (Nat.add_le_add sgf.1 colon.1) (by decide), _, rfl, _, _, rfl, rfl, Nat.le_trans (Nat.add_le_add sgfc.1 sgd.1) (by decide), ?_⟩
    exact q _ H3 (sgfc.app sgd) (((bu1.trans bu2).trans (But.of_ex el)).trans bu3) bx3
/-! ### rosters -/
def sp_roster (K : PySem.W.Frag) : Sp := fun vs H Q _ => ∃ (b l : Addr) (ds : List Str) (c : Nat), vs = [.ref b, .ref l] ∧ Bx H b c ∧ c < 950000 ∧ l ≠ b ∧ SqL K H l (ds.map V.str) ∧ 0 < ds.length ∧ ds.length < 1000 ∧ (∀ d ∈ ds, Sg 6 d) ∧
  ∀ (r : Ro) (v : V) H', RoOk r → Dp K H' v (roD r) → But b H H' → Bx H' b (c + 20) → Q v H'
theorem five_at {r : Int} (h0 : 0 ≤ r) (h1 : r < 5) : ∃ o : Option Int, atI [V.non, V.int 0, V.int 1, V.int 2, V.int 7] r = some (optV o) ∧ ∀ n, o = some n → 0 ≤ n ∧ n ≤ 1000 := by
  have h : r = 0 ∨ r = 1 ∨ r = 2 ∨ r = 3 ∨ r = 4 := by omega
  rcases h with rfl | rfl | rfl | rfl | rfl
  · exact ⟨none, rfl, by simp⟩
  · exact ⟨some 0, rfl, by simp⟩
  · exact ⟨some 1, rfl, by simp⟩
  · exact ⟨some 2, rfl, by simp⟩
  · exact ⟨some 7, rfl, by simp⟩
theorem ok_roster (T : Txt K mg) : Fn P w K mg base CX0 4 T.a_roster T.d_roster ["_law_box", "_law_deeds"] (sp_roster K) := by
  have G_take := ok_take (P := P) (w := w) (base := base) T
  have G_label := ok_label (P := P) (w := w) (base := base) T
  refine Grd.mk T.F_roster scroster (fun vs H Q E h => ?_) (fun cdv A outer s H vs Q E gd hr h => ?_)
  · obtain ⟨b, l, ds, c, rfl, _⟩ := h
    rfl
  obtain ⟨b, l, ds, c, rfl, hB, hc, nl, hS, l0, l1, hd, q⟩ := h
  refine ⟨_, (pss_cons (ps_set (i := 2) scroster.nd rfl (Or.inl rfl) (pe_callB cr_sortedS (by rfl) T.n_sorted (by decide +kernel) (pa_cons (pe_lc (own := [("_law_turn", 3)]) (by rfl) scroster.nd (pi_range1 (by rfl) T.n_range (pa_cons (pe_callG G_take gd (hr.mono (by first | decide | omega)) rfl T.g_take T.F_take.kp T.b_take .nil pass0 (pa_cons (pv 0) (pa_cons pe_int pa_nil))) pa_nil)) (blkOk_by (own := [("_law_turn", 3)]) (N := ["_law_box", "_law_deeds", "_law_labels", "_law_turn"]) (sc := defScope s_roster) (by decide +kernel)) (fun _ _ _ _ _ => (pg_name (i := 3) scroster.nd rfl (Or.inl rfl))) (fun _ _ _ _ _ => pts_nil) (fun _ _ _ _ _ => (pe_callG G_label gd (hr.mono (by first | decide | omega)) rfl T.g_label T.F_label.kp T.b_label .nil pass0 (pa_cons (pv 0) (pa_cons (pv 1) pa_nil))))) pa_nil)))
      (pss_one (ps_ret (pe_tup (pa_cons (pe_callTy call_tuple_of (by rfl) T.n_tuple (by decide +kernel) (pa_cons (pv 2) pa_nil)) (pa_cons (pe_ix ix_list (pe_lst (pa_cons pe_non (pa_cons pe_int (pa_cons pe_int (pa_cons pe_int (pa_cons pe_int pa_nil)))))) (pe_callG G_take gd (hr.mono (by first | decide | omega)) rfl T.g_take T.F_take.kp T.b_take .nil pass0 (pa_cons (pv 0) (pa_cons pe_int pa_nil))) (fun _ _ => rfl)) pa_nil)))))), ?_⟩
  refine ⟨_, rfl, b, 5, c, rfl, hB, by omega, by decide, by decide, fun r H1 r0 r1 bu1 bx1 => ⟨r, rfl, by omega, by omega, fun D hD => ?_⟩⟩
  have nDb : D ≠ b := by
    obtain ⟨x, y, z, hb, _⟩ := bx1
    exact fun z => by rw [z, hb] at hD; cases hD
  refine lc_range (fun j H' => ∃ ts : List Str, H' D = some (.lst (ts.map V.str)) ∧ ts.length = j ∧ (∀ s ∈ ts, Sg 13 s) ∧ But b H1 H' ∧ Bx H' b (c + 1 + 3 * j)) ?_ ?_ ?_
  · exact ⟨[], upd_same, rfl, by simp, But.of_ex (Ex.new hD), bx1.ex (Ex.new hD)⟩
  · rintro j H2 hj ⟨ts, hD2, lt, hts, bu2, bx2⟩
    refine ⟨rfl, ?_⟩
    refine ⟨_, rfl, _, rfl, b, l, ds, _, rfl, bx2, by omega, nl, (bu1.trans bu2).sq nl hS, l0, l1, hd, fun s H3 sg bu3 bx3 => ?_⟩
    refine ⟨ts.map V.str, bu3 _ _ nDb hD2, by rw [List.length_map, lt]; exact small1000 (by omega), ts ++ [s], ?_, ?_, ?_, ?_, ?_⟩
    · rw [upd_same, List.map_append]; rfl
    · rw [List.length_append, lt]; rfl
    · intro x hx
      rcases List.mem_append.mp hx with h | h
      · exact hts x h
      · rw [List.mem_singleton.mp h]; exact sg
    · intro a o na e
      have nD : a ≠ D := fun z => by rw [z, hD] at e; cases e
      rw [upd_ne nD]
      exact bu3 _ _ na (bu2 _ _ na e)
    · obtain ⟨x, y, z, hb, q1⟩ := bx3
      exact ⟨x, y, z, by rw [upd_ne nDb.symm]; exact hb, by omega⟩
  · rintro H2 ⟨ts, hD2, lt, hts, bu2, bx2⟩
    have lt4 : ts.length ≤ 4 := by omega
    refine ⟨D, ts, rfl, SqL.of hD2, by omega, fun ys p perm so hp => ?_⟩
    have ep : Ex H2 (upd H2 p (.lst (ys.map V.str))) := Ex.new hp
    have hpv : (upd H2 p (.lst (ys.map V.str))) p = some (.lst (ys.map V.str)) := upd_same
    generalize upd H2 p (.lst (ys.map V.str)) = H3 at ep hpv
    refine ⟨_, rfl, p, _, rfl, .inl ⟨SqL.of hpv, fun t ht => ⟨(by show 5 ≤ sizeLine; decide), fun l2 hl2 => ?_⟩⟩⟩
    have et : Ex H3 (upd H3 t (.tup (ys.map V.str))) := Ex.new ht
    have htv : (upd H3 t (.tup (ys.map V.str))) t = some (.tup (ys.map V.str)) := upd_same
    generalize upd H3 t (.tup (ys.map V.str)) = H4 at et htv hl2
    have el : Ex H4 (upd H4 l2 (.lst [.non, .int 0, .int 1, .int 2, .int 7])) := Ex.new hl2
    have hlv : (upd H4 l2 (.lst [.non, .int 0, .int 1, .int 2, .int 7])) l2 = some (.lst [.non, .int 0, .int 1, .int 2, .int 7]) := upd_same
    generalize upd H4 l2 (.lst [.non, .int 0, .int 1, .int 2, .int 7]) = H5 at el hlv
    have e25 := (ep.trans et).trans el
    have bx5 : Bx H5 b (c + 13) := (bx2.ex e25).mono (by omega)
    have nl2 : l2 ≠ b := by
      obtain ⟨x, y, z, hb, _⟩ := bx2
      exact fun z => by rw [z, et _ _ (ep _ _ hb)] at hl2; cases hl2
    refine ⟨_, rfl, b, 5, _, rfl, bx5, by omega, by decide, by decide, fun r2 H6 r20 r21 bu6 bx6 => ?_⟩
    obtain ⟨o, ao, ho⟩ := five_at r20 r21
    refine ⟨l2, _, _, _, rfl, rfl, SqL.of (bu6 _ _ nl2 hlv), ao, (by show 2 ≤ sizeLine; decide), fun u hu => ?_⟩
    have ht6 : H6 t = some (.tup (ys.map V.str)) := (bu6 _ _ (bx5.ne (el _ _ htv) (fun _ z => by cases z)) (el _ _ htv))
    have eu : Ex H6 (upd H6 u (.tup [.ref t, optV o])) := Ex.new hu
    have ly : ys.length = ts.length := perm.length_eq
    refine q (ys, o) (.ref u) _ ⟨so, by show ys.length ≤ 8; omega, fun x hx => hts x (perm.mem_iff.mp hx), ho⟩ (dp_ro (SqT.of upd_same) (SqT.of (eu _ _ ht6))) ?_ ((bx6.ex eu).mono (by omega))
    exact (((bu1.trans bu2).trans (But.of_ex e25)).trans bu6).trans (But.of_ex eu)
/-! ### kinds -/
def cs : Nat → Nat
  | 0 => 10
  | d + 1 => 2 * cs d + 25
theorem cs_ge (d : Nat) : 10 ≤ cs d := by
  cases d with
  | zero => exact Nat.le_refl _
  | succ d => simp only [cs]; omega
def sp_kind (K : PySem.W.Frag) (n : Nat) : Sp := fun vs H Q _ => ∃ (b l : Addr) (ds : List Str) (c d : Nat) (room : Int), vs = [.ref b, .ref l, .int room, .int (d : Int)] ∧ 1 ≤ d ∧ d ≤ n ∧ Bx H b c ∧ c + cs d < 900000 ∧ l ≠ b ∧ SqL K H l (ds.map V.str) ∧ 0 < ds.length ∧ ds.length < 1000 ∧ (∀ d ∈ ds, Sg 6 d) ∧
  ∀ (k : Kd) (v : V) H', KdOk k → dep k ≤ d → Dp K H' v (kdD k) → But b H H' → Bx H' b (c + cs d) → Q v H'
theorem three_at {r : Int} (h0 : 0 ≤ r) (h1 : r < 3) : ∃ o : Int, atI [V.int 0, V.int 1, V.int 12] r = some (.int o) ∧ 0 ≤ o ∧ o ≤ 1000 := by
  have h : r = 0 ∨ r = 1 ∨ r = 2 := by omega
  rcases h with rfl | rfl | rfl
  · exact ⟨0, rfl, by simp⟩
  · exact ⟨1, rfl, by simp⟩
  · exact ⟨12, rfl, by simp⟩
theorem leaf_at {H : Hp} {t1 t2 : Addr} {n1 n2 r : Int} (h0 : 0 ≤ r) (h1 : r < 3) (a1 : 0 ≤ n1 ∧ n1 ≤ 1000) (a2 : 0 ≤ n2 ∧ n2 ≤ 1000) (q1 : H t1 = some (.tup [.str "any", .int n1])) (q2 : H t2 = some (.tup [.str "any", .int n2])) :
    ∃ (k : Kd) (v : V), atI [V.str "number", V.ref t1, V.ref t2] r = some v ∧ KdOk k ∧ dep k ≤ 1 ∧ Dp K H v (kdD k) := by
  have h : r = 0 ∨ r = 1 ∨ r = 2 := by omega
  rcases h with rfl | rfl | rfl
  · exact ⟨.num, _, rfl, trivial, Nat.le_refl _, .str _⟩
  · exact ⟨.any n1, _, rfl, a1, Nat.le_refl _, dp_any (SqT.of q1)⟩
  · exact ⟨.any n2, _, rfl, a2, Nat.le_refl _, dp_any (SqT.of q2)⟩
theorem ok_kind0 (T : Txt K mg) : Fn P w K mg base CX0 0 T.a_kind T.d_kind ["_law_box", "_law_deeds", "_law_room", "_law_deep"] (sp_kind K 0) := by
  refine ⟨fun vs H Q E h => ?_, fun A outer s H args us vs Q E _ _ _ _ _ h => ?_⟩
  · obtain ⟨b, l, ds, c, d, room, rfl, _⟩ := h
    rfl
  · obtain ⟨b, l, ds, c, d, room, _, h1, h2, _⟩ := h
    omega
theorem ok_kindS (T : Txt K mg) (n k : Nat) (hk : 4 ≤ k) (G_kind : Fn P w K mg base CX0 k T.a_kind T.d_kind ["_law_box", "_law_deeds", "_law_room", "_law_deep"] (sp_kind K n)) :
    Fn P w K mg base CX0 (k + 1) T.a_kind T.d_kind ["_law_box", "_law_deeds", "_law_room", "_law_deep"] (sp_kind K (n + 1)) := by
  have G_take := ok_take (P := P) (w := w) (base := base) T
  have G_roster := ok_roster (P := P) (w := w) (base := base) T
  refine Grd.mk T.F_kind sckind (fun vs H Q E h => ?_) (fun cdv A outer s H vs Q E gd hr h => ?_)
  · obtain ⟨b, l, ds, c, d, room, rfl, _⟩ := h
    rfl
  obtain ⟨b, l, ds, c, d, room, rfl, d1, dn, hB, hc, nl, hS, l0, l1, hd, q⟩ := h
  have c10 := cs_ge d
  refine ⟨_, (pss_cons (ps_par (i := 4) (j := 5) (by rfl) sckind.nd rfl rfl (by decide) rfl rfl (pa_cons (pe_callG G_take gd (hr.mono (by first | decide | omega)) rfl T.g_take T.F_take.kp T.b_take .nil pass0 (pa_cons (pv 0) (pa_cons pe_int pa_nil))) (pa_cons (pe_op op_fdiv (pe_op op_sub (pv 2) pe_int) pe_int) pa_nil)) (by rfl))
      (pss_cons (ps_if (PW.pt (pw_or (pt_cmpR op_lt (pv 2) pe_int (nomark _)) (pw_or (pt_cmpR op_eq (pv 3) pe_int (nomark _)) (pw_or1 (pt_cmpR op_eq (pv 4) pe_int (nomark _)))))) (pss_one (ps_ret (pe_ix ix_list (pe_lst (pa_cons pe_str (pa_cons (pe_tup (pa_cons pe_str (pa_cons (pe_callG G_take gd (hr.mono (by first | decide | omega)) rfl T.g_take T.F_take.kp T.b_take .nil pass0 (pa_cons (pv 0) (pa_cons pe_int pa_nil))) pa_nil))) (pa_cons (pe_tup (pa_cons pe_str (pa_cons (pe_ix ix_list (pe_lst (pa_cons pe_int (pa_cons pe_int (pa_cons pe_int pa_nil)))) (pe_callG G_take gd (hr.mono (by first | decide | omega)) rfl T.g_take T.F_take.kp T.b_take .nil pass0 (pa_cons (pv 0) (pa_cons pe_int pa_nil))) (fun _ _ => rfl)) pa_nil))) pa_nil)))) (pe_callG G_take gd (hr.mono (by first | decide | omega)) rfl T.g_take T.F_take.kp T.b_take .nil pass0 (pa_cons (pv 0) (pa_cons pe_int pa_nil))) (fun _ _ => rfl)))) pss_nil)
      (pss_cons (ps_par (i := 6) (j := 7) (by rfl) sckind.nd rfl rfl (by decide) rfl rfl (pa_cons (pe_callG G_kind gd (hr.mono (by first | decide | omega)) rfl T.g_kind T.F_kind.kp T.b_kind .nil pass0 (pa_cons (pv 0) (pa_cons (pv 1) (pa_cons (pv 5) (pa_cons (pe_op op_sub (pv 3) pe_int) pa_nil))))) (pa_cons (pe_callG G_kind gd (hr.mono (by first | decide | omega)) rfl T.g_kind T.F_kind.kp T.b_kind .nil pass0 (pa_cons (pv 0) (pa_cons (pv 1) (pa_cons (pv 5) (pa_cons (pe_op op_sub (pv 3) pe_int) pa_nil))))) pa_nil)) (by rfl))
      (pss_one (ps_ret (pe_ifExp (pt_cmpR op_lt (pv 4) pe_int (nomark _)) (pe_tup (pa_cons pe_str (pa_cons (pv 6) (pa_cons (pv 7) pa_nil)))) (pe_tup (pa_cons pe_str (pa_cons (pv 6) (pa_cons (pe_callG G_roster gd (hr.mono (by first | decide | omega)) rfl T.g_roster T.F_roster.kp T.b_roster .nil pass0 (pa_cons (pv 0) (pa_cons (pv 1) pa_nil))) (pa_cons (pv 7) pa_nil))))))))))), ?_⟩
  refine ⟨_, rfl, b, 7, c, rfl, hB, by omega, by decide, by decide, fun r H1 r0 r1 bu1 bx1 => ?_⟩
  refine ⟨_, rfl, _, _, rfl, rfl, _, _, rfl, rfl, ⟨by decide, by decide⟩, _, _, rfl, ?_⟩
  refine ⟨_, rfl, _, _, rfl, rfl, _, rfl, ite2 (fun _ => ?l1) (fun _ => ⟨_, rfl, rfl, _, rfl, ite2 (fun _ => ?l2) (fun t2 => ⟨_, rfl, rfl, _, rfl, ite2 (fun _ => ?l3) (fun _ => ?nd)⟩)⟩)⟩
  case nd =>
    have d2 : d ≠ 1 := by
      intro z
      rw [z] at t2
      exact t2 (by decide)
    have ed : (d : Int) - 1 = ((d - 1 : Nat) : Int) := by omega
    have ecs : cs d = 2 * cs (d - 1) + 25 := by
      obtain ⟨e, he⟩ : ∃ e, d = e + 1 := ⟨d - 1, by omega⟩
      rw [he]
      rfl
    refine ⟨_, rfl, _, rfl, _, rfl, _, rfl, _, _, rfl, rfl, b, l, ds, c + 1, d - 1, (room - 1) / 2, (by show [V.ref b, V.ref l, V.int ((room - 1) / 2), V.int ((d : Int) - 1)] = _; rw [ed]), by omega, by omega, bx1, by omega, nl, bu1.sq nl hS, l0, l1, hd, fun k1 v1 H2 ok1 dp1 rp1 bu2 bx2 => ?_⟩
    refine ⟨_, rfl, _, rfl, _, rfl, _, rfl, _, _, rfl, rfl, b, l, ds, _, d - 1, (room - 1) / 2, (by show [V.ref b, V.ref l, V.int ((room - 1) / 2), V.int ((d : Int) - 1)] = _; rw [ed]), by omega, by omega, bx2, by omega, nl, (bu1.trans bu2).sq nl hS, l0, l1, hd, fun k2 v2 H3 ok2 dp2 rp2 bu3 bx3 => ?_⟩
    have rp1' : Dp K H3 v1 (kdD k1) := Dp.tst (bu3.ts bx2) _ _ (to_kd k1) rp1
    refine ⟨_, _, rfl, _, rfl, _, _, rfl, rfl, _, rfl, ite2 (fun _ => ?_) (fun _ => ?_)⟩
    · refine ⟨_, rfl, _, rfl, (by show 3 ≤ sizeLine; decide), fun p hp => ?_⟩
      have ep : Ex H3 (upd H3 p (.tup [.str "pair", v1, v2])) := Ex.new hp
      refine q (.pair k1 k2) (.ref p) _ ⟨ok1, ok2⟩ ?_ ?_ (((bu1.trans bu2).trans bu3).trans (But.of_ex ep)) ((bx3.ex ep).mono (by omega))
      · simp only [dep]; omega
      · exact .tup (SqT.of upd_same) (.cons (.str _) (.cons (Dp.ex ep _ _ rp1') (.cons (Dp.ex ep _ _ rp2) .nil)))
    · refine ⟨_, rfl, _, rfl, _, rfl, b, l, ds, _, rfl, bx3, by omega, nl, ((bu1.trans bu2).trans bu3).sq nl hS, l0, l1, hd, fun ro v3 H4 okr rpr bu4 bx4 => ?_⟩
      refine ⟨_, rfl, (by show 4 ≤ sizeLine; decide), fun p hp => ?_⟩
      have ep : Ex H4 (upd H4 p (.tup [.str "fun", v1, v3, v2])) := Ex.new hp
      refine q (.fn k1 ro k2) (.ref p) _ ⟨ok1, okr, ok2⟩ ?_ ?_ ((((bu1.trans bu2).trans bu3).trans bu4).trans (But.of_ex ep)) ((bx4.ex ep).mono (by omega))
      · simp only [dep]; omega
      · have t4 := bu4.ts (K := K) bx3
        exact .tup (SqT.of upd_same) (.cons (.str _) (.cons (Dp.ex ep _ _ (Dp.tst t4 _ _ (to_kd k1) rp1')) (.cons (Dp.ex ep _ _ rpr) (.cons (Dp.ex ep _ _ (Dp.tst t4 _ _ (to_kd k2) rp2)) .nil))))
  all_goals
    refine ⟨_, rfl, b, 4, c + 1, rfl, bx1, by omega, by decide, by decide, fun r1 H2 r10 r11 bu2 bx2 => ⟨(by show 2 ≤ sizeLine; decide), fun t1 ht1 => ⟨(by show 3 ≤ sizeLine; decide), fun l2 hl2 => ?_⟩⟩⟩
    have e1 : Ex H2 (upd H2 t1 (.tup [.str "any", .int r1])) := Ex.new ht1
    have ht1v : (upd H2 t1 (.tup [.str "any", .int r1])) t1 = some (.tup [.str "any", .int r1]) := upd_same
    generalize upd H2 t1 (.tup [.str "any", .int r1]) = H3 at e1 ht1v hl2
    have e2 : Ex H3 (upd H3 l2 (.lst [.int 0, .int 1, .int 12])) := Ex.new hl2
    have hl2v : (upd H3 l2 (.lst [.int 0, .int 1, .int 12])) l2 = some (.lst [.int 0, .int 1, .int 12]) := upd_same
    generalize upd H3 l2 (.lst [.int 0, .int 1, .int 12]) = H4 at e2 hl2v
    have bx4 : Bx H4 b (c + 1 + 1) := bx2.ex (e1.trans e2)
    have nl2 : l2 ≠ b := by
      obtain ⟨x, y, z, hb, _⟩ := bx2
      exact fun z => by rw [z, e1 _ _ hb] at hl2; cases hl2
    refine ⟨_, rfl, b, 3, _, rfl, bx4, by omega, by decide, by decide, fun r2 H5 r20 r21 bu5 bx5 => ?_⟩
    obtain ⟨o, ao, ho⟩ := three_at r20 r21
    refine ⟨l2, _, _, _, rfl, rfl, SqL.of (bu5 _ _ nl2 hl2v), ao, (by show 2 ≤ sizeLine; decide), fun t2 ht2 => ⟨(by show 3 ≤ sizeLine; decide), fun L hL => ?_⟩⟩
    have e5 : Ex H5 (upd H5 t2 (.tup [.str "any", .int o])) := Ex.new ht2
    have ht2v : (upd H5 t2 (.tup [.str "any", .int o])) t2 = some (.tup [.str "any", .int o]) := upd_same
    have h15 : H5 t1 = some (.tup [.str "any", .int r1]) := bu5 _ _ (bx4.ne (e2 _ _ ht1v) (fun _ z => by cases z)) (e2 _ _ ht1v)
    generalize upd H5 t2 (.tup [.str "any", .int o]) = H6 at e5 ht2v hL
    have e6 : Ex H6 (upd H6 L (.lst [.str "number", .ref t1, .ref t2])) := Ex.new hL
    have hLv : (upd H6 L (.lst [.str "number", .ref t1, .ref t2])) L = some (.lst [.str "number", .ref t1, .ref t2]) := upd_same
    generalize upd H6 L (.lst [.str "number", .ref t1, .ref t2]) = H7 at e6 hLv
    have bx7 : Bx H7 b (c + 1 + 1 + 1) := bx5.ex (e5.trans e6)
    have nL : L ≠ b := by
      obtain ⟨x, y, z, hb, _⟩ := bx5
      exact fun z => by rw [z, e5 _ _ hb] at hL; cases hL
    refine ⟨_, rfl, b, 3, _, rfl, bx7, by omega, by decide, by decide, fun r3 H8 r30 r31 bu8 bx8 => ?_⟩
    have k1 : H8 t1 = some (.tup [.str "any", .int r1]) := bu8 _ _ (bx7.ne (e6 _ _ (e5 _ _ h15)) (fun _ z => by cases z)) (e6 _ _ (e5 _ _ h15))
    have k2 : H8 t2 = some (.tup [.str "any", .int o]) := bu8 _ _ (bx7.ne (e6 _ _ ht2v) (fun _ z => by cases z)) (e6 _ _ ht2v)
    obtain ⟨k, v, av, okk, dk, rp⟩ := leaf_at (K := K) r30 r31 (show 0 ≤ r1 ∧ r1 ≤ 1000 by omega) ho k1 k2
    refine ⟨L, _, _, _, rfl, rfl, SqL.of (bu8 _ _ nL hLv), av, q k v H8 okk (by omega) rp ?_ (bx8.mono (by omega))⟩
    exact ((((bu1.trans bu2).trans (But.of_ex (e1.trans e2))).trans bu5).trans (But.of_ex (e5.trans e6))).trans bu8
theorem ok_kind (T : Txt K mg) : ∀ n : Nat, Fn P w K mg base CX0 (4 + n) T.a_kind T.d_kind ["_law_box", "_law_deeds", "_law_room", "_law_deep"] (sp_kind K n)
  | 0 => (ok_kind0 T).up (by decide)
  | n + 1 => ok_kindS T n (4 + n) (by omega) (ok_kind T n)
end
end K11

/-! K11: what is open in a kind, told by the program and by the law -/
namespace K11
open PySem L2 Grd
open PyProof.Rows (sortedS)
open Evl (Ex ex_t ex_l ex_rd)
open PySem.PyData (strOk)

section
variable {K : PySem.W.Frag} {H H' : Hp} {v : V}
theorem inv_any {n : Int} (h : Dp K H v (kdD (.any n))) : ∃ p, v = .ref p ∧ SqT K H p [.str "any", .int n] := by
  have h' : Dp K H v (.tuple [.str "any", .int n]) := h
  cases h' with
  | tup hs ha =>
    cases ha with
    | cons h1 h2 =>
      cases h2 with
      | cons h2 h3 =>
        cases h3
        cases h1
        cases h2
        exact ⟨_, rfl, hs⟩
theorem inv_pair {a b : Kd} (h : Dp K H v (kdD (.pair a b))) : ∃ p x y, v = .ref p ∧ SqT K H p [.str "pair", x, y] ∧ Dp K H x (kdD a) ∧ Dp K H y (kdD b) := by
  have h' : Dp K H v (.tuple [.str "pair", kdD a, kdD b]) := h
  cases h' with
  | tup hs ha =>
    cases ha with
    | cons h1 h2 =>
      cases h2 with
      | cons h2 h3 =>
        cases h3 with
        | cons h3 h4 =>
          cases h4
          cases h1
          exact ⟨_, _, _, rfl, hs, h2, h3⟩
theorem inv_fn {a b : Kd} {r : Ro} (h : Dp K H v (kdD (.fn a r b))) : ∃ p x z y, v = .ref p ∧ SqT K H p [.str "fun", x, z, y] ∧ Dp K H x (kdD a) ∧ Dp K H z (roD r) ∧ Dp K H y (kdD b) := by
  have h' : Dp K H v (.tuple [.str "fun", kdD a, roD r, kdD b]) := h
  cases h' with
  | tup hs ha =>
    cases ha with
    | cons h1 h2 =>
      cases h2 with
      | cons h2 h3 =>
        cases h3 with
        | cons h3 h4 =>
          cases h4 with
          | cons h4 h5 =>
            cases h5
            cases h1
            exact ⟨_, _, _, _, rfl, hs, h2, h3, h4⟩
theorem inv_num (h : Dp K H v (kdD .num)) : v = .str "number" := by
  have h' : Dp K H v (.str "number") := h
  cases h'
  rfl
theorem inv_strs : ∀ {ss : List Str} {xs : List V}, DpAll K H xs (ss.map PyData.str) → xs = ss.map V.str
  | [], _, h => by
    have h' : DpAll K H _ [] := h
    cases h'
    rfl
  | s :: r, _, h => by
    have h' : DpAll K H _ (.str s :: r.map PyData.str) := h
    cases h' with
    | cons h1 h2 =>
      cases h1
      rw [inv_strs h2]
      rfl
theorem inv_opt {o : Option Int} (h : Dp K H v (optD o)) : v = optV o := by
  cases o with
  | none =>
    have h' : Dp K H v .none := h
    cases h'
    rfl
  | some n =>
    have h' : Dp K H v (.int n) := h
    cases h'
    rfl
theorem inv_ro {r : Ro} (h : Dp K H v (roD r)) : ∃ p t, v = .ref p ∧ SqT K H p [.ref t, optV r.2] ∧ SqT K H t (r.1.map V.str) := by
  have h' : Dp K H v (.tuple [.tuple (r.1.map PyData.str), optD r.2]) := h
  cases h' with
  | tup hs ha =>
    cases ha with
    | cons h1 h2 =>
      cases h2 with
      | cons h2 h3 =>
        cases h3
        cases h1 with
        | tup ht hb =>
          rw [inv_strs hb] at ht
          rw [inv_opt h2] at hs
          exact ⟨_, _, rfl, hs, ht⟩
end
/-! ### == with a word -/
theorem sg_ok {n : Nat} {s : Str} (h : Sg n s) : strOk s = true := by
  unfold strOk
  rw [Array.all_eq_true']
  intro c hc
  exact decide_eq_true (h.2 c (by simpa using hc))
theorem lay_strs : ∀ {ss : List Str}, (∀ s ∈ ss, Sg 13 s) → PyData.canLayAll0 (ss.map PyData.str) = true
  | [], _ => by simp only [List.map_nil, PyData.canLayAll0]
  | s :: r, h => by
    simp only [List.map_cons, PyData.canLayAll0, PyData.canLay0, sg_ok (h s (List.mem_cons_self ..)), lay_strs fun x hx => h x (List.mem_cons_of_mem _ hx), Bool.and_self]
theorem lay_opt (o : Option Int) : PyData.canLay0 (optD o) = true := by
  cases o <;> simp only [optD, PyData.canLay0]
theorem lay_ro {r : Ro} (h : RoOk r) : PyData.canLay0 (roD r) = true := by
  simp only [roD, PyData.canLay0, PyData.canLayAll0, lay_strs h.t, lay_opt, Bool.and_self]
theorem ok_w (s : Str) (h : s.cps.all (· < 0x110000) = true) : strOk s = true := h
theorem lay_kd : ∀ {k : Kd}, KdOk k → PyData.canLay0 (kdD k) = true
  | .num, _ => by simp only [kdD, PyData.canLay0]; decide +kernel
  | .any n, _ => by
    have e : strOk "any" = true := by decide +kernel
    simp only [kdD, PyData.canLay0, PyData.canLayAll0, e, Bool.and_self]
  | .pair a b, h => by
    have e : strOk "pair" = true := by decide +kernel
    simp only [kdD, PyData.canLay0, PyData.canLayAll0, e, lay_kd h.1, lay_kd h.2, Bool.and_self]
  | .fn a r b, h => by
    have e : strOk "fun" = true := by decide +kernel
    simp only [kdD, PyData.canLay0, PyData.canLayAll0, e, lay_kd h.1, lay_ro h.2.1, lay_kd h.2.2, Bool.and_self]
theorem dep_strs : ∀ ss : List Str, PyData.depthAll (ss.map PyData.str) = 0
  | [] => by simp only [List.map_nil, PyData.depthAll]
  | s :: r => by simp only [List.map_cons, PyData.depthAll, PyData.depth, dep_strs r]; rfl
theorem dep_opt (o : Option Int) : PyData.depth (optD o) = 0 := by
  cases o <;> simp only [optD, PyData.depth]
theorem dep_ro (r : Ro) : PyData.depth (roD r) ≤ 2 := by
  simp only [roD, PyData.depth, PyData.depthAll, dep_strs, dep_opt]
  decide
theorem dep_kd : ∀ k : Kd, PyData.depth (kdD k) ≤ 2 + dep k
  | .num => by simp only [kdD, PyData.depth]; omega
  | .any n => by simp only [kdD, PyData.depth, PyData.depthAll, dep]; decide
  | .pair a b => by
    have h1 := dep_kd a
    have h2 := dep_kd b
    simp only [kdD, PyData.depth, PyData.depthAll, dep]
    omega
  | .fn a r b => by
    have h1 := dep_kd a
    have h2 := dep_kd b
    have h3 := dep_ro r
    simp only [kdD, PyData.depth, PyData.depthAll, dep]
    omega
theorem shp_kd {k : Kd} (h : KdOk k) (hd : dep k ≤ 60) : SeqAt.shaped (kdD k) = true := by
  have h1 := dep_kd k
  unfold SeqAt.shaped
  rw [lay_kd h, decide_eq_true (by omega : PyData.depth (kdD k) ≤ 64)]
  rfl
theorem shp_str (s : Str) (h : strOk s = true) : SeqAt.shaped (.str s) = true := by
  unfold SeqAt.shaped
  simp only [PyData.canLay0, h, PyData.depth]
  rfl
def isNum : Kd → Bool
  | .num => true
  | _ => false
theorem eqv_num (k : Kd) : PyData.eqv (kdD k) (.str "number") = isNum k := by
  cases k with
  | num => simp only [kdD, PyData.eqv, isNum]; decide +kernel
  | any n => simp only [kdD, PyData.eqv, isNum]
  | pair a b => simp only [kdD, PyData.eqv, isNum]
  | fn a r b => simp only [kdD, PyData.eqv, isNum]
/-! ### two lists that are noted in -/
def Two (H : Hp) (a b : Addr) (s : List Int × List Int) : Prop := a ≠ b ∧ H a = some (.lst (s.1.map V.int)) ∧ H b = some (.lst (s.2.map V.int))
def But2 (a b : Addr) (H H' : Hp) : Prop := ∀ c o, c ≠ a → c ≠ b → H c = some o → H' c = some o
theorem But2.refl (a b : Addr) (H : Hp) : But2 a b H H := fun _ _ _ _ e => e
theorem But2.trans {a b : Addr} {H H1 H2 : Hp} (x : But2 a b H H1) (y : But2 a b H1 H2) : But2 a b H H2 := fun c o n m e => y c o n m (x c o n m e)
theorem But2.of_ex {a b : Addr} {H H' : Hp} (x : Ex H H') : But2 a b H H' := fun c o _ _ e => x c o e
theorem But2.ts {K : PySem.W.Frag} {a b : Addr} {H H' : Hp} {s : List Int × List Int} (h : But2 a b H H') (k : Two H a b s) : Ts K H H' := by
  rintro c xs ((q | ⟨o, q⟩) | q)
  · exact .inl (.inl (h _ _ (ne_of q k.2.1 (fun z => by cases z)) (ne_of q k.2.2 (fun z => by cases z)) q))
  · exact .inl (.inr ⟨o, h _ _ (ne_of q k.2.1 (fun z => by cases z)) (ne_of q k.2.2 (fun z => by cases z)) q⟩)
  · exact .inr q
theorem Two.ex {a b : Addr} {H H' : Hp} {s : List Int × List Int} (k : Two H a b s) (e : Ex H H') : Two H' a b s := ⟨k.1, e _ _ k.2.1, e _ _ k.2.2⟩
theorem inV_int (n : Int) : ∀ o : List Int, inV (.int n) (o.map V.int) = decide (n ∈ o)
  | [] => by simp [inV]
  | x :: r => by
    have ih := inV_int n r
    have e : inV (.int n) ((x :: r).map V.int) = ((x == n) || inV (.int n) (r.map V.int)) := rfl
    rw [e, ih]
    by_cases h : x = n
    · subst h; simp
    · have h' : ¬ n = x := fun e => h e.symm
      simp [h, h']
theorem flatI (ns : List Int) : (ns.map V.int).all flatV = true := by
  rw [List.all_map]
  exact List.all_eq_true.mpr fun s _ => rfl
theorem rep_add (o : List Int) (n : Int) : o.map V.int ++ (List.replicate (if (!inV (.int n) (o.map V.int)) = true then (1 : Int) else 0).toNat [V.int n]).flatten = (add o n).map V.int := by
  rw [inV_int]
  unfold add
  by_cases h : n ∈ o
  · rw [if_pos h, decide_eq_true h]
    simp
  · rw [if_neg h, decide_eq_false h]
    simp
theorem add_len (o : List Int) (n : Int) : (add o n).length ≤ o.length + 1 := by
  unfold add
  split
  · omega
  · simp
theorem tailO_len (o : List Int) (t : Option Int) : (tailO o t).length ≤ o.length + 1 := by
  cases t with
  | none => exact Nat.le_succ _
  | some n => exact add_len o n
def sz : Kd → Nat
  | .num => 1
  | .any _ => 1
  | .pair a b => sz a + sz b
  | .fn a _ b => sz a + 1 + sz b
theorem ops_len : ∀ (k : Kd) (s : List Int × List Int), (ops k s).1.length ≤ s.1.length + sz k ∧ (ops k s).2.length ≤ s.2.length + sz k
  | .num, s => by simp only [ops, sz]; omega
  | .any n, s => by
    have h := add_len s.1 n
    simp only [ops, sz]; omega
  | .pair a b, s => by
    have h1 := ops_len a s
    have h2 := ops_len b (ops a s)
    simp only [ops, sz]; omega
  | .fn a r b, s => by
    have h1 := ops_len a s
    have h2 := ops_len b ((ops a s).1, tailO (ops a s).2 r.2)
    have h3 := tailO_len (ops a s).2 r.2
    simp only [ops, sz] at *; omega
theorem int01 (b : Bool) : -(2 ^ 63) ≤ (if b = true then 1 else 0 : Int) ∧ (if b = true then 1 else 0 : Int) < 2 ^ 63 ∧ (if b = true then 1 else 0 : Int).toNat ≤ 1 := by cases b <;> decide
theorem small_sz {n : Nat} (h : n ≤ 100000) : n ≤ sizeLine := Evl.sz_of h

section
variable {P : Program} {w : World} {K : PySem.W.Frag} {mg : Str → Option Value} {base : Heap}
def sp_note_tail (K : PySem.W.Frag) : Sp := fun vs H Q _ => ∃ (v : V) (f a b : Addr) (r : Ro) (s : List Int × List Int), vs = [v, .ref f] ∧ Dp K H v (roD r) ∧ SqT K H f [.ref a, .ref b] ∧ Two H a b s ∧ s.2.length < 10000 ∧
  ∀ H', But2 a b H H' → Two H' a b (s.1, tailO s.2 r.2) → Q .non H'
theorem ok_note_tail (T : Txt K mg) : Fn P w K mg base CX0 1 T.a_p_note_tail T.d_p_note_tail ["roster", "found"] (sp_note_tail K) := by
  refine Grd.mk T.F_p_note_tail scp_note_tail (fun vs H Q E h => ?_) (fun cdv A outer st H vs Q E gd hr h => ?_)
  · obtain ⟨v, f, a, b, r, s, rfl, _⟩ := h
    rfl
  obtain ⟨v, f, a, b, r, s, rfl, hv, hf, tw, hl, q⟩ := h
  obtain ⟨p, t, rfl, hp, ht⟩ := inv_ro hv
  refine ⟨_, (pss_cons (ps_set (i := 2) scp_note_tail.nd rfl (Or.inl rfl) (pe_ix ix_tup (pv 0) pe_int (fun _ _ => rfl)))
      (pss_one (ps_if (PW.pt (pw_and (pt_cmpR op_notN (pv 2) pe_non (nomark _)) (pw_and1 (pt_cmpR op_notIn_seq (pv 2) (pe_ix ix_tup (pv 1) pe_int (fun _ _ => rfl)) (by rfl))))) (pss_one (ps_expr (pe_bm PySem.F.plainAttrs_list PySem.F.slot_list_append PySem.F.type_list_append mt_append (pe_ix ix_tup (pv 1) pe_int (fun _ _ => rfl)) (pa_cons (pv 2) pa_nil)))) pss_nil))), ?_⟩
  refine ⟨_, rfl, p, _, _, _, rfl, rfl, hp, rfl, ?_⟩
  obtain ⟨ls, o⟩ := r
  cases o with
  | none =>
    refine ⟨_, rfl, rfl, _, rfl, ?_⟩
    exact q H (But2.refl _ _ _) tw
  | some n =>
    refine ⟨_, rfl, rfl, _, rfl, _, rfl, _, rfl, f, _, _, _, rfl, rfl, hf, rfl, b, _, rfl, .inl (SqL.of tw.2.2), rfl, flatI _, _, rfl, ?_⟩
    have e := inV_int n s.2
    show if (if true then !inV (V.int n) (s.2.map V.int) else inV (V.int n) (s.2.map V.int)) = true then _ else _
    by_cases hn : n ∈ s.2
    · rw [e, decide_eq_true hn]
      refine q H (But2.refl _ _ _) ?_
      show Two H a b (s.1, add s.2 n)
      unfold add
      rw [if_pos hn]
      exact tw
    · rw [e, decide_eq_false hn]
      refine ⟨_, rfl, f, _, _, _, rfl, rfl, hf, rfl, .inl ⟨rfl, _, SqL.of tw.2.2⟩, _, rfl, b, _, _, rfl, rfl, tw.2.2, by rw [List.length_map]; exact Nat.lt_of_lt_of_le hl (by decide), ?_⟩
      refine q _ (fun c ob _ nb ec => by rw [upd_ne nb]; exact ec) ⟨tw.1, by rw [upd_ne tw.1]; exact tw.2.1, ?_⟩
      show upd H b _ b = some (.lst ((add s.2 n).map V.int))
      unfold add
      rw [if_neg hn, upd_same, List.map_append]
      rfl
end
end K11

/-! K11: opens, by the program and by the law -/
namespace K11
open PySem L2 Grd
open PyProof.Rows (sortedS)
open Evl (Ex ex_t ex_l ex_rd)

theorem n_pa : ¬ V.str "pair" = V.str "any" := by decide +kernel
theorem n_fa : ¬ V.str "fun" = V.str "any" := by decide +kernel
theorem n_pf : ¬ V.str "pair" = V.str "fun" := by decide +kernel
theorem n_fp : ¬ V.str "fun" = V.str "pair" := by decide +kernel
theorem w_num : SeqAt.shaped (.str "number") = true := shp_str _ (by decide +kernel)
theorem rep_len (b : Bool) (x : V) : ((List.replicate (if b = true then (1 : Int) else 0).toNat [x]).flatten).length ≤ 1 := by cases b <;> simp
/-- one open one noted: xs.extend([n] * int(n not in xs)) -/
theorem two_add1 {H H2 : Hp} {a b l p : Addr} {s : List Int × List Int} {n : Int} (tw : Two H a b s) (hl : H l = none) (e : Ex H H2) : But2 a b H (upd H2 a (.lst (s.1.map V.int ++ (List.replicate (if (!inV (.int n) (s.1.map V.int)) = true then (1 : Int) else 0).toNat [V.int n]).flatten))) ∧
    Two (upd H2 a (.lst (s.1.map V.int ++ (List.replicate (if (!inV (.int n) (s.1.map V.int)) = true then (1 : Int) else 0).toNat [V.int n]).flatten))) a b (add s.1 n, s.2) := by
  refine ⟨fun c o na _ ec => by rw [upd_ne na]; exact e _ _ ec, tw.1, ?_, ?_⟩
  · rw [upd_same, rep_add]
  · rw [upd_ne tw.1.symm]
    exact e _ _ tw.2.2
section
variable {P : Program} {w : World} {K : PySem.W.Frag} {mg : Str → Option Value} {base : Heap}
def sp_note_opens (K : PySem.W.Frag) (n : Nat) : Sp := fun vs H Q _ => ∃ (v : V) (f a b : Addr) (k : Kd) (s : List Int × List Int), vs = [v, .ref f] ∧ Dp K H v (kdD k) ∧ KdOk k ∧ dep k ≤ n ∧ dep k ≤ 60 ∧ SqT K H f [.ref a, .ref b] ∧ Two H a b s ∧ s.1.length + sz k < 10000 ∧ s.2.length + sz k < 10000 ∧
  ∀ H', But2 a b H H' → Two H' a b (ops k s) → Q .non H'
theorem dep_pos (k : Kd) : 1 ≤ dep k := by cases k <;> simp only [dep] <;> omega
theorem ok_note_opens0 (T : Txt K mg) : Fn P w K mg base CX0 0 T.a_p_note_opens T.d_p_note_opens ["kind", "found"] (sp_note_opens K 0) := by
  refine ⟨fun vs H Q E h => ?_, fun A outer s H args us vs Q E _ _ _ _ _ h => ?_⟩
  · obtain ⟨v, f, a, b, k, s, rfl, _⟩ := h
    rfl
  · obtain ⟨v, f, a, b, k, s, _, _, _, h1, _⟩ := h
    have := dep_pos k
    omega
theorem ok_note_opensS (T : Txt K mg) (n j : Nat) (hj : 1 ≤ j) (G_p_note_opens : Fn P w K mg base CX0 j T.a_p_note_opens T.d_p_note_opens ["kind", "found"] (sp_note_opens K n)) :
    Fn P w K mg base CX0 (j + 1) T.a_p_note_opens T.d_p_note_opens ["kind", "found"] (sp_note_opens K (n + 1)) := by
  have G_p_note_tail := ok_note_tail (P := P) (w := w) (base := base) T
  refine Grd.mk T.F_p_note_opens scp_note_opens (fun vs H Q E h => ?_) (fun cdv A outer st H vs Q E gd hr h => ?_)
  · obtain ⟨v, f, a, b, k, s, rfl, _⟩ := h
    rfl
  obtain ⟨v, f, a, b, k, s, rfl, hv, ok, dn, d60, hf, tw, z1, z2, q⟩ := h
  refine ⟨_, (pss_cons (ps_if (pt_cmpR (op_eqD hr.units) (pv 0) pe_str (nomark _)) (pss_one ps_retN) pss_nil)
      (pss_cons (ps_if (pt_cmpR op_eq (pe_ix ix_tup (pv 0) pe_int (fun _ _ => rfl)) pe_str (nomark _)) (pss_cons (ps_expr (pe_bm PySem.F.plainAttrs_list PySem.F.slot_list_extend PySem.F.type_list_extend mt_extend (pe_ix ix_tup (pv 1) pe_int (fun _ _ => rfl)) (pa_cons (pe_op op_rep (pe_lst (pa_cons (pe_ix ix_tup (pv 0) pe_int (fun _ _ => rfl)) pa_nil)) (pe_callTy call_int1 (by rfl) T.n_int (by decide +kernel) (pa_cons (pe_cmpR op_notIn_seq (pe_ix ix_tup (pv 0) pe_int (fun _ _ => rfl)) (pe_ix ix_tup (pv 1) pe_int (fun _ _ => rfl)) (by rfl)) pa_nil))) pa_nil)))
      (pss_one ps_retN)) pss_nil)
      (pss_cons (ps_expr (pe_callG G_p_note_opens gd (hr.mono (by first | decide | omega)) rfl T.g_p_note_opens T.F_p_note_opens.kp T.b_p_note_opens .nil pass0 (pa_cons (pe_ix ix_tup (pv 0) pe_int (fun _ _ => rfl)) (pa_cons (pv 1) pa_nil))))
      (pss_cons (ps_if (pt_cmpR op_eq (pe_ix ix_tup (pv 0) pe_int (fun _ _ => rfl)) pe_str (nomark _)) (pss_one (ps_expr (pe_callG G_p_note_tail gd (hr.mono (by first | decide | omega)) rfl T.g_p_note_tail T.F_p_note_tail.kp T.b_p_note_tail .nil pass0 (pa_cons (pe_ix ix_tup (pv 0) pe_int (fun _ _ => rfl)) (pa_cons (pv 1) pa_nil))))) pss_nil)
      (pss_one (ps_expr (pe_callG G_p_note_opens gd (hr.mono (by first | decide | omega)) rfl T.g_p_note_opens T.F_p_note_opens.kp T.b_p_note_opens .nil pass0 (pa_cons (pe_ix ix_tup (pv 0) (pe_un un_neg pe_int) (fun _ _ => rfl)) (pa_cons (pv 1) pa_nil))))))))), ?_⟩
  refine ⟨_, rfl, kdD k, .str "number", hv, .str _, shp_kd ok d60, w_num, _, rfl, ?_⟩
  rw [eqv_num]
  cases k with
  | num => exact q H (But2.refl _ _ _) tw
  | any m =>
    obtain ⟨p, rfl, hp⟩ := inv_any hv
    refine ⟨_, rfl, p, _, _, _, rfl, rfl, hp, rfl, rfl, _, rfl, ite2 (fun _ => ?_) (fun t => absurd (decide_eq_true rfl) t)⟩
    refine ⟨_, rfl, f, _, _, _, rfl, rfl, hf, rfl, .inl ⟨rfl, _, SqL.of tw.2.1⟩, _, rfl, p, _, _, _, rfl, rfl, hp, rfl, (by show 1 ≤ sizeLine; decide), fun l hl => ?_⟩
    have el : Ex H (upd H l (.lst [.int m])) := Ex.new hl
    refine ⟨_, rfl, p, _, _, _, rfl, rfl, ex_t el hp, rfl, _, rfl, f, _, _, _, rfl, rfl, ex_t el hf, rfl, a, _, rfl, .inl (SqL.of (el _ _ tw.2.1)), rfl, flatI _, .inr ⟨_, rfl, ?_⟩⟩
    have i01 := int01 (!inV (.int m) (s.1.map V.int))
    refine ⟨l, _, _, rfl, rfl, upd_same, i01.1, i01.2.1, ?_, fun p2 hp2 => ?_⟩
    · show 1 * _ ≤ sizeLine
      rw [Nat.one_mul]
      exact Nat.le_trans i01.2.2 (by decide)
    have e2 : Ex H (upd (upd H l (.lst [.int m])) p2 (.lst (List.replicate (if (!inV (.int m) (s.1.map V.int)) = true then (1 : Int) else 0).toNat [V.int m]).flatten)) := el.trans (Ex.new hp2)
    have r := two_add1 (n := m) (p := p2) tw hl e2
    refine ⟨a, p2, _, _, rfl, rfl, e2 _ _ tw.2.1, upd_same, ?_, ?_⟩
    · exact small_sz (Nat.le_trans (Nat.add_le_add_left (rep_len _ _) _) (by rw [List.length_map]; omega))
    · exact q _ r.1 r.2
  | pair k1 k2 =>
    obtain ⟨p, x, y, rfl, hp, hx, hy⟩ := inv_pair hv
    simp only [dep] at dn d60
    simp only [sz] at z1 z2
    refine ⟨_, rfl, p, _, _, _, rfl, rfl, hp, rfl, rfl, _, rfl, ite2 (fun t => absurd (of_decide_eq_true t) n_pa) (fun _ => ?_)⟩
    refine ⟨_, rfl, p, _, _, _, rfl, rfl, hp, rfl, _, rfl, x, f, a, b, k1, s, rfl, hx, ok.1, by omega, by omega, hf, tw, by omega, by omega, fun H1 bu1 tw1 => ?_⟩
    have t1 := bu1.ts (K := K) tw
    have l1 := ops_len k1 s
    refine ⟨_, rfl, p, _, _, _, rfl, rfl, t1 _ _ hp, rfl, rfl, _, rfl, ite2 (fun t => absurd (of_decide_eq_true t) n_pf) (fun _ => ?_)⟩
    refine ⟨_, rfl, _, rfl, p, _, _, _, rfl, rfl, t1 _ _ hp, rfl, _, rfl, y, f, a, b, k2, _, rfl, Dp.tst t1 _ _ (to_kd k2) hy, ok.2, by omega, by omega, t1 _ _ hf, tw1, by omega, by omega, fun H2 bu2 tw2 => ?_⟩
    exact q H2 (bu1.trans bu2) tw2
  | fn k1 r k2 =>
    obtain ⟨p, x, z, y, rfl, hp, hx, hz, hy⟩ := inv_fn hv
    simp only [dep] at dn d60
    simp only [sz] at z1 z2
    refine ⟨_, rfl, p, _, _, _, rfl, rfl, hp, rfl, rfl, _, rfl, ite2 (fun t => absurd (of_decide_eq_true t) n_fa) (fun _ => ?_)⟩
    refine ⟨_, rfl, p, _, _, _, rfl, rfl, hp, rfl, _, rfl, x, f, a, b, k1, s, rfl, hx, ok.1, by omega, by omega, hf, tw, by omega, by omega, fun H1 bu1 tw1 => ?_⟩
    have t1 := bu1.ts (K := K) tw
    have l1 := ops_len k1 s
    have l2 := tailO_len (ops k1 s).2 r.2
    refine ⟨_, rfl, p, _, _, _, rfl, rfl, t1 _ _ hp, rfl, rfl, _, rfl, ite2 (fun _ => ?_) (fun t => absurd (decide_eq_true rfl) t)⟩
    refine ⟨_, rfl, p, _, _, _, rfl, rfl, t1 _ _ hp, rfl, _, rfl, z, f, a, b, r, _, rfl, Dp.tst t1 _ _ (to_ro r) hz, t1 _ _ hf, tw1, by omega, fun H2 bu2 tw2 => ?_⟩
    have t2 := t1.trans (bu2.ts (K := K) tw1)
    refine ⟨_, rfl, _, rfl, p, _, _, _, rfl, rfl, t2 _ _ hp, rfl, _, rfl, y, f, a, b, k2, _, rfl, Dp.tst t2 _ _ (to_kd k2) hy, ok.2.2, by omega, by omega, t2 _ _ hf, tw2, by show (ops k1 s).1.length + _ < _; omega, by show (tailO (ops k1 s).2 r.2).length + _ < _; omega, fun H3 bu3 tw3 => ?_⟩
    exact q H3 ((bu1.trans bu2).trans bu3) tw3
theorem ok_note_opens (T : Txt K mg) : ∀ n : Nat, Fn P w K mg base CX0 (1 + n) T.a_p_note_opens T.d_p_note_opens ["kind", "found"] (sp_note_opens K n)
  | 0 => (ok_note_opens0 T).up (by decide)
  | n + 1 => ok_note_opensS T n (1 + n) (by omega) (ok_note_opens T n)
/-! ### opens_of, all_opens -/
def sp_opens_of (K : PySem.W.Frag) (n : Nat) : Sp := fun vs H Q _ => ∃ (v : V) (k : Kd), vs = [v] ∧ Dp K H v (kdD k) ∧ KdOk k ∧ dep k ≤ n ∧ dep k ≤ 60 ∧ sz k < 9000 ∧
  ∀ (f a b : Addr) H', Ex H H' → H f = none → H a = none → H b = none → H' f = some (.tup [.ref a, .ref b]) → Two H' a b (ops k ([], [])) → Q (.ref f) H'
theorem ok_opens_of (T : Txt K mg) (n : Nat) : Fn P w K mg base CX0 (2 + n) T.a_p_opens_of T.d_p_opens_of ["kind"] (sp_opens_of K n) := by
  have G_p_note_opens := ok_note_opens (P := P) (w := w) (base := base) T n
  rw [show 2 + n = (1 + n) + 1 by omega]
  refine Grd.mk T.F_p_opens_of scp_opens_of (fun vs H Q E h => ?_) (fun cdv A outer st H vs Q E gd hr h => ?_)
  · obtain ⟨v, k, rfl, _⟩ := h
    rfl
  obtain ⟨v, k, rfl, hv, ok, dn, d60, hz, q⟩ := h
  refine ⟨_, (pss_cons (ps_set (i := 1) scp_opens_of.nd rfl (Or.inl rfl) (pe_tup (pa_cons (pe_lst pa_nil) (pa_cons (pe_lst pa_nil) pa_nil))))
      (pss_cons (ps_expr (pe_callG G_p_note_opens gd (hr.mono (by first | decide | omega)) rfl T.g_p_note_opens T.F_p_note_opens.kp T.b_p_note_opens .nil pass0 (pa_cons (pv 0) (pa_cons (pv 1) pa_nil))))
      (pss_one (ps_ret (pv 1))))), ?_⟩
  refine ⟨Nat.zero_le _, fun a ha => ⟨Nat.zero_le _, fun b hb => ⟨(by show 2 ≤ sizeLine; decide), fun f hf => ?_⟩⟩⟩
  have e1 : Ex H (upd H a (.lst [])) := Ex.new ha
  have e2 : Ex H (upd (upd H a (.lst [])) b (.lst [])) := e1.trans (Ex.new hb)
  have e3 : Ex H (upd (upd (upd H a (.lst [])) b (.lst [])) f (.tup [.ref a, .ref b])) := e2.trans (Ex.new hf)
  have nba : b ≠ a := fun z => by rw [z, upd_same] at hb; cases hb
  have nfb : f ≠ b := fun z => by rw [z, upd_same] at hf; cases hf
  have nfa : f ≠ a := fun z => by rw [z, upd_ne nba.symm, upd_same] at hf; cases hf
  have hb0 := Evl.fresh_back e1 hb
  have hf0 := Evl.fresh_back e2 hf
  have tw : Two (upd (upd (upd H a (.lst [])) b (.lst [])) f (.tup [.ref a, .ref b])) a b ([], []) := ⟨nba.symm, by rw [upd_ne nfa.symm, upd_ne nba.symm, upd_same]; rfl, by rw [upd_ne nfb.symm, upd_same]; rfl⟩
  have hfv : (upd (upd (upd H a (.lst [])) b (.lst [])) f (.tup [.ref a, .ref b])) f = some (.tup [.ref a, .ref b]) := upd_same
  generalize upd (upd (upd H a (.lst [])) b (.lst [])) f (.tup [.ref a, .ref b]) = H1 at e3 tw hfv
  refine ⟨_, rfl, _, rfl, v, f, a, b, k, ([], []), rfl, Dp.ex e3 _ _ hv, ok, dn, d60, SqT.of hfv, tw, by show 0 + _ < _; omega, by show 0 + _ < _; omega, fun H2 bu tw2 => ?_⟩
  refine ⟨_, rfl, q f a b H2 ?_ hf0 ha hb0 (bu _ _ nfa nfb hfv) tw2⟩
  intro c o hc
  exact bu _ _ (ne_of_none hc ha) (ne_of_none hc hb0) (e3 _ _ hc)
def sp_all_opens (K : PySem.W.Frag) (n : Nat) : Sp := fun vs H Q _ => ∃ (v u : V) (k : Kd) (r : Ro), vs = [v, u] ∧ Dp K H v (kdD k) ∧ Dp K H u (roD r) ∧ KdOk k ∧ dep k ≤ n ∧ dep k ≤ 60 ∧ sz k < 9000 ∧
  ∀ (f a b : Addr) H', Ex H H' → H f = none → H a = none → H b = none → H' f = some (.tup [.ref a, .ref b]) → Two H' a b (opsR k r) → Q (.ref f) H'
theorem ok_all_opens (T : Txt K mg) (n : Nat) : Fn P w K mg base CX0 (3 + n) T.a_p_all_opens T.d_p_all_opens ["kind", "roster"] (sp_all_opens K n) := by
  have G_p_opens_of := ok_opens_of (P := P) (w := w) (base := base) T n
  have G_p_note_tail := ok_note_tail (P := P) (w := w) (base := base) T
  rw [show 3 + n = (2 + n) + 1 by omega]
  refine Grd.mk T.F_p_all_opens scp_all_opens (fun vs H Q E h => ?_) (fun cdv A outer st H vs Q E gd hr h => ?_)
  · obtain ⟨v, u, k, r, rfl, _⟩ := h
    rfl
  obtain ⟨v, u, k, r, rfl, hv, hu, ok, dn, d60, hz, q⟩ := h
  refine ⟨_, (pss_cons (ps_set (i := 2) scp_all_opens.nd rfl (Or.inl rfl) (pe_callG G_p_opens_of gd (hr.mono (by first | decide | omega)) rfl T.g_p_opens_of T.F_p_opens_of.kp T.b_p_opens_of .nil pass0 (pa_cons (pv 0) pa_nil)))
      (pss_cons (ps_expr (pe_callG G_p_note_tail gd (hr.mono (by first | decide | omega)) rfl T.g_p_note_tail T.F_p_note_tail.kp T.b_p_note_tail .nil pass0 (pa_cons (pv 1) (pa_cons (pv 2) pa_nil))))
      (pss_one (ps_ret (pv 2))))), ?_⟩
  refine ⟨_, rfl, v, k, rfl, hv, ok, dn, d60, hz, fun f a b H1 e1 hf ha hb hfv tw => ?_⟩
  have l1 := ops_len k ([], [])
  have l1' : (ops k ([], [])).2.length ≤ 0 + sz k := l1.2
  refine ⟨_, rfl, _, rfl, u, f, a, b, r, _, rfl, Dp.ex e1 _ _ hu, SqT.of hfv, tw, by omega, fun H2 bu tw2 => ?_⟩
  refine ⟨_, rfl, q f a b H2 ?_ hf ha hb ?_ tw2⟩
  · intro c o hc
    exact bu _ _ (ne_of_none hc ha) (ne_of_none hc hb) (e1 _ _ hc)
  · exact bu _ _ (ne_of hfv tw.2.1 (fun z => by cases z)) (ne_of hfv tw.2.2 (fun z => by cases z)) hfv
end
end K11

/-! K11: opens by the law; _law_same of the same data -/
namespace K11
open PySem L2 Grd
open PyProof.Rows (sortedS)
open Evl (Ex ex_t ex_l ex_rd)
theorem two_add2 {H H2 : Hp} {a b : Addr} {s : List Int × List Int} {n : Int} (tw : Two H a b s) (e : Ex H H2) : But2 a b H (upd H2 b (.lst (s.2.map V.int ++ (List.replicate (if (!inV (.int n) (s.2.map V.int)) = true then (1 : Int) else 0).toNat [V.int n]).flatten))) ∧
    Two (upd H2 b (.lst (s.2.map V.int ++ (List.replicate (if (!inV (.int n) (s.2.map V.int)) = true then (1 : Int) else 0).toNat [V.int n]).flatten))) a b (s.1, add s.2 n) := by
  refine ⟨fun c o _ nb ec => by rw [upd_ne nb]; exact e _ _ ec, tw.1, ?_, ?_⟩
  · rw [upd_ne tw.1]
    exact e _ _ tw.2.1
  · rw [upd_same, rep_add]
section
variable {P : Program} {w : World} {K : PySem.W.Frag} {mg : Str → Option Value} {base : Heap}
def sp_opens (K : PySem.W.Frag) (n : Nat) : Sp := fun vs H Q _ => ∃ (v : V) (a b : Addr) (k : Kd) (s : List Int × List Int), vs = [v, .ref a, .ref b] ∧ Dp K H v (kdD k) ∧ KdOk k ∧ dep k ≤ n ∧ dep k ≤ 60 ∧ Two H a b s ∧ s.1.length + sz k < 10000 ∧ s.2.length + sz k < 10000 ∧
  ∀ H', But2 a b H H' → Two H' a b (ops k s) → Q .non H'
theorem ok_opens0 (T : Txt K mg) : Fn P w K mg base CX0 0 T.a_opens T.d_opens ["_law_made", "_law_own", "_law_ends"] (sp_opens K 0) := by
  refine ⟨fun vs H Q E h => ?_, fun A outer s H args us vs Q E _ _ _ _ _ h => ?_⟩
  · obtain ⟨v, a, b, k, s, rfl, _⟩ := h
    rfl
  · obtain ⟨v, a, b, k, s, _, _, _, h1, _⟩ := h
    have := dep_pos k
    omega
theorem ok_opensS (T : Txt K mg) (n j : Nat) (G_opens : Fn P w K mg base CX0 j T.a_opens T.d_opens ["_law_made", "_law_own", "_law_ends"] (sp_opens K n)) :
    Fn P w K mg base CX0 (j + 1) T.a_opens T.d_opens ["_law_made", "_law_own", "_law_ends"] (sp_opens K (n + 1)) := by
  refine Grd.mk T.F_opens scopens (fun vs H Q E h => ?_) (fun cdv A outer st H vs Q E gd hr h => ?_)
  · obtain ⟨v, a, b, k, s, rfl, _⟩ := h
    rfl
  obtain ⟨v, a, b, k, s, rfl, hv, ok, dn, d60, tw, z1, z2, q⟩ := h
  refine ⟨_, (pss_cons (ps_if (pt_cmpR (op_eqD hr.units) (pv 0) pe_str (nomark _)) (pss_one ps_retN) pss_nil)
      (pss_cons (ps_if (pt_cmpR op_eq (pe_ix ix_tup (pv 0) pe_int (fun _ _ => rfl)) pe_str (nomark _)) (pss_cons (ps_expr (pe_bm PySem.F.plainAttrs_list PySem.F.slot_list_extend PySem.F.type_list_extend mt_extend (pv 1) (pa_cons (pe_op op_rep (pe_lst (pa_cons (pe_ix ix_tup (pv 0) pe_int (fun _ _ => rfl)) pa_nil)) (pe_callTy call_int1 (by rfl) T.n_int (by decide +kernel) (pa_cons (pe_cmpR op_notIn_seq (pe_ix ix_tup (pv 0) pe_int (fun _ _ => rfl)) (pv 1) (by rfl)) pa_nil))) pa_nil)))
      (pss_one ps_retN)) pss_nil)
      (pss_cons (ps_expr (pe_callG G_opens gd (hr.mono (by first | decide | omega)) rfl T.g_opens T.F_opens.kp T.b_opens .nil pass0 (pa_cons (pe_ix ix_tup (pv 0) pe_int (fun _ _ => rfl)) (pa_cons (pv 1) (pa_cons (pv 2) pa_nil)))))
      (pss_cons (ps_if (pt_cmpR op_eq (pe_ix ix_tup (pv 0) pe_int (fun _ _ => rfl)) pe_str (nomark _)) (pss_one (ps_expr (pe_bm PySem.F.plainAttrs_list PySem.F.slot_list_extend PySem.F.type_list_extend mt_extend (pv 2) (pa_cons (pe_op op_rep (pe_lst (pa_cons (pe_ix ix_tup (pe_ix ix_tup (pv 0) pe_int (fun _ _ => rfl)) pe_int (fun _ _ => rfl)) pa_nil)) (pe_callTy call_int1 (by rfl) T.n_int (by decide +kernel) (pa_cons (pe_and (pe_cmpR op_notN (pe_ix ix_tup (pe_ix ix_tup (pv 0) pe_int (fun _ _ => rfl)) pe_int (fun _ _ => rfl)) pe_non (nomark _)) (pe_one (pe_cmpR op_notIn_seq (pe_ix ix_tup (pe_ix ix_tup (pv 0) pe_int (fun _ _ => rfl)) pe_int (fun _ _ => rfl)) (pv 2) (by rfl)))) pa_nil))) pa_nil)))) pss_nil)
      (pss_one (ps_expr (pe_callG G_opens gd (hr.mono (by first | decide | omega)) rfl T.g_opens T.F_opens.kp T.b_opens .nil pass0 (pa_cons (pe_ix ix_tup (pv 0) (pe_un un_neg pe_int) (fun _ _ => rfl)) (pa_cons (pv 1) (pa_cons (pv 2) pa_nil)))))))))), ?_⟩
  refine ⟨_, rfl, kdD k, .str "number", hv, .str _, shp_kd ok d60, w_num, _, rfl, ?_⟩
  rw [eqv_num]
  cases k with
  | num => exact q H (But2.refl _ _ _) tw
  | any m =>
    obtain ⟨p, rfl, hp⟩ := inv_any hv
    refine ⟨_, rfl, p, _, _, _, rfl, rfl, hp, rfl, rfl, _, rfl, ite2 (fun _ => ?_) (fun t => absurd (decide_eq_true rfl) t)⟩
    refine ⟨_, rfl, .inl ⟨rfl, _, SqL.of tw.2.1⟩, _, rfl, p, _, _, _, rfl, rfl, hp, rfl, (by show 1 ≤ sizeLine; decide), fun l hl => ?_⟩
    have el : Ex H (upd H l (.lst [.int m])) := Ex.new hl
    refine ⟨_, rfl, p, _, _, _, rfl, rfl, ex_t el hp, rfl, _, rfl, a, _, rfl, .inl (SqL.of (el _ _ tw.2.1)), rfl, flatI _, .inr ⟨_, rfl, ?_⟩⟩
    have i01 := int01 (!inV (.int m) (s.1.map V.int))
    refine ⟨l, _, _, rfl, rfl, upd_same, i01.1, i01.2.1, ?_, fun p2 hp2 => ?_⟩
    · show 1 * _ ≤ sizeLine
      rw [Nat.one_mul]
      exact Nat.le_trans i01.2.2 (by decide)
    have e2 : Ex H (upd (upd H l (.lst [.int m])) p2 (.lst (List.replicate (if (!inV (.int m) (s.1.map V.int)) = true then (1 : Int) else 0).toNat [V.int m]).flatten)) := el.trans (Ex.new hp2)
    have r := two_add1 (n := m) (p := p2) tw hl e2
    refine ⟨a, p2, _, _, rfl, rfl, e2 _ _ tw.2.1, upd_same, ?_, ?_⟩
    · exact small_sz (Nat.le_trans (Nat.add_le_add_left (rep_len _ _) _) (by rw [List.length_map]; omega))
    · exact q _ r.1 r.2
  | pair k1 k2 =>
    obtain ⟨p, x, y, rfl, hp, hx, hy⟩ := inv_pair hv
    simp only [dep] at dn d60
    simp only [sz] at z1 z2
    refine ⟨_, rfl, p, _, _, _, rfl, rfl, hp, rfl, rfl, _, rfl, ite2 (fun t => absurd (of_decide_eq_true t) n_pa) (fun _ => ?_)⟩
    refine ⟨_, rfl, p, _, _, _, rfl, rfl, hp, rfl, _, rfl, _, rfl, x, a, b, k1, s, rfl, hx, ok.1, by omega, by omega, tw, by omega, by omega, fun H1 bu1 tw1 => ?_⟩
    have t1 := bu1.ts (K := K) tw
    have l1 := ops_len k1 s
    refine ⟨_, rfl, p, _, _, _, rfl, rfl, t1 _ _ hp, rfl, rfl, _, rfl, ite2 (fun t => absurd (of_decide_eq_true t) n_pf) (fun _ => ?_)⟩
    refine ⟨_, rfl, _, rfl, p, _, _, _, rfl, rfl, t1 _ _ hp, rfl, _, rfl, _, rfl, y, a, b, k2, _, rfl, Dp.tst t1 _ _ (to_kd k2) hy, ok.2, by omega, by omega, tw1, by omega, by omega, fun H2 bu2 tw2 => ?_⟩
    exact q H2 (bu1.trans bu2) tw2
  | fn k1 r k2 =>
    obtain ⟨p, x, z, y, rfl, hp, hx, hz, hy⟩ := inv_fn hv
    simp only [dep] at dn d60
    simp only [sz] at z1 z2
    refine ⟨_, rfl, p, _, _, _, rfl, rfl, hp, rfl, rfl, _, rfl, ite2 (fun t => absurd (of_decide_eq_true t) n_fa) (fun _ => ?_)⟩
    refine ⟨_, rfl, p, _, _, _, rfl, rfl, hp, rfl, _, rfl, _, rfl, x, a, b, k1, s, rfl, hx, ok.1, by omega, by omega, tw, by omega, by omega, fun H1 bu1 tw1 => ?_⟩
    have t1 := bu1.ts (K := K) tw
    have l1 := ops_len k1 s
    have l2 := tailO_len (ops k1 s).2 r.2
    have hp1 := t1 _ _ hp
    obtain ⟨zp, zt, rfl, hzp, _⟩ := inv_ro (Dp.tst t1 _ _ (to_ro r) hz)
    refine ⟨_, rfl, p, _, _, _, rfl, rfl, hp1, rfl, rfl, _, rfl, ite2 (fun _ => ?_) (fun t => absurd (decide_eq_true rfl) t)⟩
    refine ⟨_, rfl, .inl ⟨rfl, _, SqL.of tw1.2.2⟩, _, rfl, p, _, _, _, rfl, rfl, hp1, rfl, zp, _, _, _, rfl, rfl, hzp, rfl, (by show 1 ≤ sizeLine; decide), fun l hl => ?_⟩
    have el : Ex H1 (upd H1 l (.lst [optV r.2])) := Ex.new hl
    refine ⟨_, rfl, p, _, _, _, rfl, rfl, ex_t el hp1, rfl, zp, _, _, _, rfl, rfl, ex_t el hzp, rfl, rfl, _, rfl, ?_⟩
    have fin : ∀ (H2 : Hp), But2 a b H1 H2 → Two H2 a b ((ops k1 s).1, tailO (ops k1 s).2 r.2) → tDrop (tCall (sp_opens K n) [] E0 (tCons (tOp (rIxT K) (tVar 0) (tUn (rU fun i => .int (-i)) (tC (.int 1)))) (tCons (tVar 1) (tCons (tVar 2) tNil))))
        { nx := fun _ H' => Q .non H', rt := Q } [some (.ref p), some (.ref a), some (.ref b)] H2 := by
      intro H2 bu2 tw2
      have t2 := t1.trans (bu2.ts (K := K) tw1)
      refine ⟨_, rfl, _, rfl, p, _, _, _, rfl, rfl, t2 _ _ hp, rfl, _, rfl, _, rfl, y, a, b, k2, _, rfl, Dp.tst t2 _ _ (to_kd k2) hy, ok.2.2, by omega, by omega, tw2, by show (ops k1 s).1.length + _ < _; omega, by show (tailO (ops k1 s).2 r.2).length + _ < _; omega, fun H3 bu3 tw3 => ?_⟩
      exact q H3 ((bu1.trans bu2).trans bu3) tw3
    obtain ⟨ls, o⟩ := r
    cases o with
    | none =>
      refine .inr ⟨_, rfl, l, _, _, rfl, rfl, upd_same, by decide, by decide, (by show 1 * 0 ≤ sizeLine; decide), fun p2 hp2 => ?_⟩
      have e2 : Ex H1 (upd (upd H1 l (.lst [V.non])) p2 (.lst [])) := el.trans (Ex.new hp2)
      refine ⟨b, p2, _, _, rfl, rfl, e2 _ _ tw1.2.2, upd_same, ?_, ?_⟩
      · exact small_sz (by rw [List.length_map]; show _ + 0 ≤ _; omega)
      · refine fin _ (fun c ob _ nb ec => by rw [upd_ne nb]; exact e2 _ _ ec) ⟨tw1.1, by rw [upd_ne tw1.1]; exact e2 _ _ tw1.2.1, ?_⟩
        rw [upd_same]
        show some (HO.lst (_ ++ [])) = _
        rw [List.append_nil]
        rfl
    | some m =>
      refine ⟨_, rfl, p, _, _, _, rfl, rfl, ex_t el hp1, rfl, zp, _, _, _, rfl, rfl, ex_t el hzp, rfl, _, rfl, b, _, rfl, .inl (SqL.of (el _ _ tw1.2.2)), rfl, flatI _, .inr ⟨_, rfl, ?_⟩⟩
      have i01 := int01 (!inV (.int m) ((ops k1 s).2.map V.int))
      refine ⟨l, _, _, rfl, rfl, upd_same, i01.1, i01.2.1, ?_, fun p2 hp2 => ?_⟩
      · show 1 * _ ≤ sizeLine
        rw [Nat.one_mul]
        exact Nat.le_trans i01.2.2 (by decide)
      have e2 : Ex H1 (upd (upd H1 l (.lst [V.int m])) p2 (.lst (List.replicate (if (!inV (.int m) ((ops k1 s).2.map V.int)) = true then (1 : Int) else 0).toNat [V.int m]).flatten)) := el.trans (Ex.new hp2)
      have r2 := two_add2 (n := m) tw1 e2
      refine ⟨b, p2, _, _, rfl, rfl, e2 _ _ tw1.2.2, upd_same, ?_, ?_⟩
      · exact small_sz (Nat.le_trans (Nat.add_le_add_left (rep_len _ _) _) (by rw [List.length_map]; omega))
      · exact fin _ r2.1 r2.2
theorem ok_opens (T : Txt K mg) : ∀ n : Nat, Fn P w K mg base CX0 n T.a_opens T.d_opens ["_law_made", "_law_own", "_law_ends"] (sp_opens K n)
  | 0 => ok_opens0 T
  | n + 1 => ok_opensS T n n (ok_opens T n)
end
end K11

/-! K11: _law_same of the same data is True -/
namespace K11
open PySem L2 Grd
open Evl (Ex ex_t ex_l ex_rd)
open RZ
/-! no list or tuple in it is longer than 10000 -/
mutual
def wid : PyData → Bool
  | .list ds => decide (ds.length ≤ 10000) && widAll ds
  | .tuple ds => decide (ds.length ≤ 10000) && widAll ds
  | _ => true
def widAll : List PyData → Bool
  | [] => true
  | d :: ds => wid d && widAll ds
end
theorem wid_at {ds : List PyData} {i : Nat} {d : PyData} (w : widAll ds = true) (h : ds[i]? = some d) : wid d = true := by
  induction ds generalizing i with
  | nil => simp at h
  | cons x r ih =>
    simp only [widAll, Bool.and_eq_true] at w
    cases i with
    | zero =>
      simp at h
      rw [← h]
      exact w.1
    | succ i =>
      simp at h
      exact ih w.2 h
section
variable {K : PySem.W.Frag} {H : Hp}
theorem ty_l {a : Addr} {xs : List V} (h : SqL K H a xs) : TyX K H (.ref a) (.type "list") := by
  rcases h with (q | ⟨o, q⟩) | ⟨o, its, n, q, c, _⟩
  · exact .base (.lst q)
  · exact .base (.frz q)
  · exact .kList q c
theorem ty_t {a : Addr} {xs : List V} (h : SqT K H a xs) : TyX K H (.ref a) (.type "tuple") := by
  rcases h with (q | ⟨o, q⟩) | ⟨o, its, n, q, c, _⟩
  · exact .base (.tup q)
  · exact .fTuple q
  · exact .kTuple q c
theorem kA {t : String} {x y : Bool} (h1 : kitB t "list" = some x) (h2 : kitB t "tuple" = some y) : PySem.W.kitAny K (.type t) [.type "list", .type "tuple"] = some (x || y) :=
  kitAny_cons (kit_ty h1) (fun e => kitAny_cons (kit_ty h2) (fun e2 => by rw [e, e2]; exact kitAny_nil) (fun e2 => by rw [e, e2]; rfl)) (fun e => by rw [e]; rfl)
end
section
variable {P : Program} {w : World} {K : PySem.W.Frag} {mg : Str → Option Value} {base : Heap}
def sp_same (K : PySem.W.Frag) (n : Nat) : Sp := fun vs H Q _ => ∃ (v u : V) (d : PyData), vs = [v, u] ∧ Dp K H v d ∧ Dp K H u d ∧ d.depth ≤ n ∧ wid d = true ∧ ∀ H', Ex H H' → Q (.bl true) H'
theorem all_true (n : Nat) : (List.replicate n true).all id = true := by
  rw [List.all_eq_true]
  intro x hx
  rw [(List.mem_replicate.mp hx).2]
  rfl
theorem depth_at {ds : List PyData} {i : Nat} {d : PyData} (h : ds[i]? = some d) : d.depth ≤ PyData.depthAll ds := by
  induction ds generalizing i with
  | nil => simp at h
  | cons x r ih =>
    simp only [PyData.depthAll]
    cases i with
    | zero =>
      simp at h
      rw [h]
      exact Nat.le_max_left _ _
    | succ i =>
      simp at h
      exact Nat.le_trans (ih h) (Nat.le_max_right _ _)
theorem DpAll.pick {H : Hp} {vs : List V} {ds : List PyData} (h : DpAll K H vs ds) {i : Nat} {v : V} (e : vs[i]? = some v) : ∃ d, ds[i]? = some d ∧ Dp K H v d := by
  induction i generalizing vs ds with
  | zero =>
    cases h with
    | nil => simp at e
    | cons h1 _ => simp at e; subst e; exact ⟨_, rfl, h1⟩
  | succ i ih =>
    cases h with
    | nil => simp at e
    | cons _ h2 => simp at e; obtain ⟨d, q⟩ := ih h2 e; exact ⟨d, by simpa using q.1, q.2⟩
theorem ok_sameS (T : Txt K mg) (n j : Nat) (G_same : Fn P w K mg base CX0 j T.a_same T.d_same ["_law_found", "_law_due"] (fun vs H Q E => ∃ m, m + 1 = n ∧ sp_same K m vs H Q E)) :
    Fn P w K mg base CX0 (j + 1) T.a_same T.d_same ["_law_found", "_law_due"] (sp_same K n) := by
  refine Grd.mk T.F_same scsame (fun vs H Q E h => ?_) (fun cdv A outer st H vs Q E gd hr h => ?_)
  · obtain ⟨v, u, d, rfl, _⟩ := h
    rfl
  obtain ⟨v, u, d, rfl, hv, hu, dn, wd, q⟩ := h
  refine ⟨_, (pss_cons (ps_if (pt_val (pe_callB call_isiT (by rfl) T.n_isinstance (by decide +kernel) (pa_cons (pv 1) (pa_cons (pe_tup (pa_cons (pe_bltn (v := .ty "list") (by rfl) T.n_list (by decide +kernel) rfl) (pa_cons (pe_bltn (v := .ty "tuple") (by rfl) T.n_tuple (by decide +kernel) rfl) pa_nil))) pa_nil)))) (pss_cons (ps_if (PW.pt (pw_or (pt_cmpR op_ne (pe_callB call_isi (by rfl) T.n_isinstance (by decide +kernel) (pa_cons (pv 0) (pa_cons (pe_bltn (v := .ty "list") (by rfl) T.n_list (by decide +kernel) rfl) pa_nil))) (pe_callB call_isi (by rfl) T.n_isinstance (by decide +kernel) (pa_cons (pv 1) (pa_cons (pe_bltn (v := .ty "list") (by rfl) T.n_list (by decide +kernel) rfl) pa_nil))) (nomark _)) (pw_or1 (pt_cmpR op_ne (pe_callB call_isi (by rfl) T.n_isinstance (by decide +kernel) (pa_cons (pv 0) (pa_cons (pe_bltn (v := .ty "tuple") (by rfl) T.n_tuple (by decide +kernel) rfl) pa_nil))) (pe_callB call_isi (by rfl) T.n_isinstance (by decide +kernel) (pa_cons (pv 1) (pa_cons (pe_bltn (v := .ty "tuple") (by rfl) T.n_tuple (by decide +kernel) rfl) pa_nil))) (nomark _))))) (pss_one (ps_ret pe_bl)) pss_nil)
      (pss_one (ps_ret (pe_and (pe_cmpR op_eq (pe_callB call_len_seq (by rfl) T.n_len PySem.boot_len (pa_cons (pv 0) pa_nil)) (pe_callB call_len_seq (by rfl) T.n_len PySem.boot_len (pa_cons (pv 1) pa_nil)) (nomark _)) (pe_one (pe_callB (cr_all rfl) (by rfl) T.n_all (by decide +kernel) (pa_cons (pe_lc (own := [("_law_one", 2), ("_law_other", 3)]) (g := gTup K 2 (gCons (gName 2) (gCons (gName 3) gNil))) (by rfl) scsame.nd (pi_zipA (by rfl) T.n_zip (pa_cons (pv 0) (pa_cons (pv 1) pa_nil))) (blkOk_by (own := [("_law_one", 2), ("_law_other", 3)]) (N := ["_law_found", "_law_due", "_law_one", "_law_other"]) (sc := defScope s_same) (by decide +kernel)) (fun _ _ _ _ _ => (pg_tup rfl (pgs_cons (pg_name (i := 2) scsame.nd rfl (Or.inl rfl)) (pgs_cons (pg_name (i := 3) scsame.nd rfl (Or.inl rfl)) pgs_nil)))) (fun _ _ _ _ _ => pts_nil) (fun _ _ _ _ _ => (pe_callG G_same gd (hr.mono (by first | decide | omega)) rfl T.g_same T.F_same.kp T.b_same .nil pass0 (pa_cons (pv 2) (pa_cons (pv 3) pa_nil))))) pa_nil))))))) pss_nil)
      (pss_cons (ps_if (PW.pt (pw_or (pt_cmpR op_isN (pv 1) pe_non (nomark _)) (pw_or1 (pt_cmpR op_isN (pv 0) pe_non (nomark _))))) (pss_one (ps_ret (pe_and (pe_cmpR op_isN (pv 1) pe_non (nomark _)) (pe_one (pe_cmpR op_isN (pv 0) pe_non (nomark _)))))) pss_nil)
      (pss_cons (ps_if (PW.pt (pw_or (pt_val (pe_callB call_isi (by rfl) T.n_isinstance (by decide +kernel) (pa_cons (pv 1) (pa_cons (pe_bltn (v := .ty "bool") (by rfl) T.n_bool (by decide +kernel) rfl) pa_nil)))) (pw_or1 (pt_val (pe_callB call_isi (by rfl) T.n_isinstance (by decide +kernel) (pa_cons (pv 1) (pa_cons (pe_bltn (v := .ty "str") (by rfl) T.n_str (by decide +kernel) rfl) pa_nil))))))) (pss_one (ps_ret (pe_and (pe_cmpR op_eq (pe_callB call_isi (by rfl) T.n_isinstance (by decide +kernel) (pa_cons (pv 0) (pa_cons (pe_bltn (v := .ty "bool") (by rfl) T.n_bool (by decide +kernel) rfl) pa_nil))) (pe_callB call_isi (by rfl) T.n_isinstance (by decide +kernel) (pa_cons (pv 1) (pa_cons (pe_bltn (v := .ty "bool") (by rfl) T.n_bool (by decide +kernel) rfl) pa_nil))) (nomark _)) (pe_one (pe_cmpR op_eq (pv 0) (pv 1) (nomark _)))))) pss_nil)
      (pss_one (ps_ret (pe_and (pe_callB call_isi (by rfl) T.n_isinstance (by decide +kernel) (pa_cons (pv 0) (pa_cons (pe_bltn (v := .ty "int") (by rfl) T.n_int (by decide +kernel) rfl) pa_nil))) (pe_and (pe_not (pe_callB call_isi (by rfl) T.n_isinstance (by decide +kernel) (pa_cons (pv 0) (pa_cons (pe_bltn (v := .ty "bool") (by rfl) T.n_bool (by decide +kernel) rfl) pa_nil)))) (pe_one (pe_cmpR op_eq (pv 0) (pv 1) (nomark _)))))))))), ?_⟩
  have row : ∀ (xs ys : List V) (ds : List PyData) (H1 : Hp) (D a b : Addr) (J : It), DpAll K H xs ds → DpAll K H ys ds → PyData.depthAll ds + 1 ≤ n → ds.length ≤ 10000 → widAll ds = true → Ex H H1 → H1 D = none →
      (L2.Walk J xs.length (fun H' => Ex H H') (YPair (fun i => xs[i]?) (fun i => ys[i]?))) →
      ∃ W : Nat → Nat → Hp → Prop, (∃ m, W 0 m (upd H1 D (.lst []))) ∧ ∀ i m H, W i m H →
      (J.stop i H ∧ (fun H' => ∃ (a : Addr) (bs : List Bool), [V.ref D] = [V.ref a] ∧ SqL K H' a (bs.map V.bl) ∧ Q (.bl (bs.all id)) H') H) ∨ (J.go i H ∧ ∃ Nx : Hp → Prop, (∀ H', Nx H' → ∃ m', m' < m ∧ W (i + 1) m' H') ∧ ∀ x H', J.yld i H x H' → gTup K 2 (gCons (gName 2) (gCons (gName 3) gNil)) x (wipe [some v, some u, none, none] [2, 3]) H' fun σ2 H2 => wipe σ2 [2, 3] = wipe [some v, some u, none, none] [2, 3] ∧ tYes σ2 H2 fun b H3 =>
        if b = true then tCall (fun vs H Q E => ∃ m, m + 1 = n ∧ sp_same K m vs H Q E) [] E0 (tCons (tVar 2) (tCons (tVar 3) tNil)) σ2 H3 fun y H4 => ∃ acc, H4 D = some (.lst acc) ∧ acc.length < sizeLine ∧ Nx (upd H4 D (.lst (acc ++ [y]))) else Nx H3) := by
    intro xs ys ds H1 D a b J hx hy hn hl hw e1 hD W
    have lx := DpAll.len hx
    have hD0 := Evl.fresh_back e1 hD
    refine lc_it W (fun i H' => Ex H H' ∧ i ≤ 10000 ∧ H' D = some (.lst ((List.replicate i true).map V.bl))) ⟨e1.trans (Ex.new hD), Nat.zero_le _, upd_same⟩ (fun i H' _ h => h.1) ?_ ?_
    · rintro i x H2 H3 hi ⟨e2, hi2, hD2⟩ ⟨t, y, z, rfl, ht, rfl, ey, ez⟩
      obtain ⟨d1, hd1, r1⟩ := DpAll.pick hx ey
      obtain ⟨d2, hd2, r2⟩ := DpAll.pick hy ez
      have ed : d1 = d2 := Option.some.inj (hd1.symm.trans hd2)
      subst ed
      have e3 : Ex H (upd H2 t (.tup [y, z])) := e2.trans (Ex.new ht)
      have ndt : D ≠ t := ne_of_none hD2 ht
      refine ⟨t, _, rfl, SqT.of upd_same, rfl, _, _, rfl, _, _, rfl, rfl, rfl, ?_⟩
      have := depth_at hd1
      refine ⟨_, rfl, _, rfl, n - 1, by omega, y, z, d1, rfl, Dp.ex e3 _ _ r1, Dp.ex e3 _ _ r2, by omega, wid_at hw hd1, fun H4 e4 => ?_⟩
      refine ⟨_, e4 _ _ (by rw [upd_ne ndt]; exact hD2), ?_, (e3.trans e4).mut hD0, ?_, ?_⟩
      · rw [List.length_map, List.length_replicate]
        exact Evl.sz_lt (by omega)
      · omega
      · rw [upd_same, List.replicate_succ', List.map_append]
        rfl
    · rintro H2 ⟨e2, _, hD2⟩
      exact ⟨D, _, rfl, SqL.of hD2, by rw [all_true]; exact q _ e2⟩
  cases d with
  | dict kvs => exact nomatch hv
  | none =>
    cases hv
    cases hu
    refine ⟨_, rfl, (by show 2 ≤ sizeLine; decide), fun tp htp => ⟨_, tp, _, _, _, _, rfl, upd_same, .cons (.ty _) (.cons (.ty _) .nil), .base .non, kA (t := "NoneType") (x := false) (y := false) (by decide +kernel) (by decide +kernel), _, rfl, ?_⟩⟩
    have e1 : Ex H (upd H tp (.tup [.ty "list", .ty "tuple"])) := Ex.new htp
    refine ⟨_, rfl, rfl, _, rfl, ?_⟩
    exact ⟨_, rfl, rfl, _, rfl, _, rfl, rfl, q _ e1⟩
  | bool b =>
    cases hv
    cases hu
    refine ⟨_, rfl, (by show 2 ≤ sizeLine; decide), fun tp htp => ⟨_, tp, _, _, _, _, rfl, upd_same, .cons (.ty _) (.cons (.ty _) .nil), .base (.bl b), kA (t := "bool") (x := false) (y := false) (by decide +kernel) (by decide +kernel), _, rfl, ?_⟩⟩
    have e1 : Ex H (upd H tp (.tup [.ty "list", .ty "tuple"])) := Ex.new htp
    refine ⟨_, rfl, rfl, _, rfl, _, rfl, rfl, _, rfl, ?_⟩
    refine ⟨_, rfl, _, _, _, _, _, rfl, .ty _, .base (.bl b), kit_ty (r := true) (by decide +kernel), _, rfl, ?_⟩
    refine ⟨_, rfl, _, _, _, _, _, rfl, .ty _, .base (.bl b), kit_ty (r := true) (by decide +kernel), _, rfl, _, _, _, _, _, rfl, .ty _, .base (.bl b), kit_ty (r := true) (by decide +kernel), rfl, _, rfl, ?_⟩
    refine ⟨_, rfl, _, rfl, rfl, ?_⟩
    rw [decide_eq_true rfl]
    exact q _ e1
  | str s =>
    cases hv
    cases hu
    refine ⟨_, rfl, (by show 2 ≤ sizeLine; decide), fun tp htp => ⟨_, tp, _, _, _, _, rfl, upd_same, .cons (.ty _) (.cons (.ty _) .nil), .base (.str s), kA (t := "str") (x := false) (y := false) (by decide +kernel) (by decide +kernel), _, rfl, ?_⟩⟩
    have e1 : Ex H (upd H tp (.tup [.ty "list", .ty "tuple"])) := Ex.new htp
    refine ⟨_, rfl, rfl, _, rfl, _, rfl, rfl, _, rfl, ?_⟩
    refine ⟨_, rfl, _, _, _, _, _, rfl, .ty _, .base (.str s), kit_ty (r := false) (by decide +kernel), _, rfl, _, rfl, _, _, _, _, _, rfl, .ty _, .base (.str s), kit_ty (r := true) (by decide +kernel), _, rfl, ?_⟩
    refine ⟨_, rfl, _, _, _, _, _, rfl, .ty _, .base (.str s), kit_ty (r := false) (by decide +kernel), _, rfl, _, _, _, _, _, rfl, .ty _, .base (.str s), kit_ty (r := false) (by decide +kernel), rfl, _, rfl, ?_⟩
    refine ⟨_, rfl, _, rfl, rfl, ?_⟩
    rw [decide_eq_true rfl]
    exact q _ e1
  | int i =>
    cases hv
    cases hu
    refine ⟨_, rfl, (by show 2 ≤ sizeLine; decide), fun tp htp => ⟨_, tp, _, _, _, _, rfl, upd_same, .cons (.ty _) (.cons (.ty _) .nil), .base (.int i), kA (t := "int") (x := false) (y := false) (by decide +kernel) (by decide +kernel), _, rfl, ?_⟩⟩
    have e1 : Ex H (upd H tp (.tup [.ty "list", .ty "tuple"])) := Ex.new htp
    refine ⟨_, rfl, rfl, _, rfl, _, rfl, rfl, _, rfl, ?_⟩
    refine ⟨_, rfl, _, _, _, _, _, rfl, .ty _, .base (.int i), kit_ty (r := false) (by decide +kernel), _, rfl, _, rfl, _, _, _, _, _, rfl, .ty _, .base (.int i), kit_ty (r := false) (by decide +kernel), _, rfl, ?_⟩
    refine ⟨_, rfl, _, _, _, _, _, rfl, .ty _, .base (.int i), kit_ty (r := true) (by decide +kernel), _, rfl, ?_⟩
    refine ⟨_, rfl, _, _, _, _, _, rfl, .ty _, .base (.int i), kit_ty (r := false) (by decide +kernel), _, rfl, _, rfl, ?_⟩
    refine ⟨_, rfl, _, rfl, rfl, ?_⟩
    rw [decide_eq_true rfl]
    exact q _ e1
  | list ds =>
    cases hv with
    | @lst a xs _ sx hx =>
      cases hu with
      | @lst b ys _ sy hy =>
        simp only [wid, Bool.and_eq_true, decide_eq_true_eq] at wd
        simp only [PyData.depth] at dn
        have lxy : xs.length = ys.length := (DpAll.len hx).trans (DpAll.len hy).symm
        refine ⟨_, rfl, (by show 2 ≤ sizeLine; decide), fun tp htp => ?_⟩
        have e1 : Ex H (upd H tp (.tup [.ty "list", .ty "tuple"])) := Ex.new htp
        have sx1 := ex_l (K := K) e1 sx
        have sy1 := ex_l (K := K) e1 sy
        refine ⟨_, tp, _, _, _, _, rfl, upd_same, .cons (.ty _) (.cons (.ty _) .nil), ty_l sy1, kA (t := "list") (x := true) (y := false) (by decide +kernel) (by decide +kernel), _, rfl, ?_⟩
        generalize upd H tp (.tup [.ty "list", .ty "tuple"]) = H1 at e1 sx1 sy1
        refine ⟨_, rfl, _, _, _, _, _, rfl, .ty _, ty_l sx1, kit_ty (r := true) (by decide +kernel), _, rfl, _, _, _, _, _, rfl, .ty _, ty_l sy1, kit_ty (r := true) (by decide +kernel), rfl, _, rfl,
          _, rfl, _, _, _, _, _, rfl, .ty _, ty_l sx1, kit_ty (r := false) (by decide +kernel), _, rfl, _, _, _, _, _, rfl, .ty _, ty_l sy1, kit_ty (r := false) (by decide +kernel), rfl, _, rfl, ?_⟩
        refine ⟨_, rfl, a, _, rfl, .inl sx1, _, rfl, b, _, rfl, .inl sy1, rfl, _, rfl, ?_⟩
        rw [lxy, decide_eq_true rfl]
        refine ⟨_, rfl, _, rfl, a, b, xs, ys, rfl, .inl ⟨sx1, sy1, fun D hD => ?_⟩⟩
        refine row xs ys ds H1 D a b _ hx hy (by omega) wd.1 wd.2 e1 hD ?_
        exact (walk_zip (by rw [lxy, Nat.min_self])).mono (fun H' e => ⟨ex_l e sx, ex_l e sy⟩) (fun i H x H' _ _ y => y)
  | tuple ds =>
    cases hv with
    | @tup a xs _ sx hx =>
      cases hu with
      | @tup b ys _ sy hy =>
        simp only [wid, Bool.and_eq_true, decide_eq_true_eq] at wd
        simp only [PyData.depth] at dn
        have lxy : xs.length = ys.length := (DpAll.len hx).trans (DpAll.len hy).symm
        refine ⟨_, rfl, (by show 2 ≤ sizeLine; decide), fun tp htp => ?_⟩
        have e1 : Ex H (upd H tp (.tup [.ty "list", .ty "tuple"])) := Ex.new htp
        have sx1 := ex_t (K := K) e1 sx
        have sy1 := ex_t (K := K) e1 sy
        refine ⟨_, tp, _, _, _, _, rfl, upd_same, .cons (.ty _) (.cons (.ty _) .nil), ty_t sy1, kA (t := "tuple") (x := false) (y := true) (by decide +kernel) (by decide +kernel), _, rfl, ?_⟩
        generalize upd H tp (.tup [.ty "list", .ty "tuple"]) = H1 at e1 sx1 sy1
        refine ⟨_, rfl, _, _, _, _, _, rfl, .ty _, ty_t sx1, kit_ty (r := false) (by decide +kernel), _, rfl, _, _, _, _, _, rfl, .ty _, ty_t sy1, kit_ty (r := false) (by decide +kernel), rfl, _, rfl,
          _, rfl, _, _, _, _, _, rfl, .ty _, ty_t sx1, kit_ty (r := true) (by decide +kernel), _, rfl, _, _, _, _, _, rfl, .ty _, ty_t sy1, kit_ty (r := true) (by decide +kernel), rfl, _, rfl, ?_⟩
        refine ⟨_, rfl, a, _, rfl, .inr sx1, _, rfl, b, _, rfl, .inr sy1, rfl, _, rfl, ?_⟩
        rw [lxy, decide_eq_true rfl]
        refine ⟨_, rfl, _, rfl, a, b, xs, ys, rfl, .inr ⟨sx1, sy1, fun D hD => ?_⟩⟩
        refine row xs ys ds H1 D a b _ hx hy (by omega) wd.1 wd.2 e1 hD ?_
        exact ⟨fun i H' hi e => ⟨xs, ys, xs[i], ys[i]'(by omega), ex_t e sx, ex_t e sy, by simp, by simp⟩, fun H' e => ⟨xs, ys, ex_t e sx, ex_t e sy, .inl (Nat.le_refl _)⟩,
          fun i H' x H2 hi e ⟨t, y, z, ev, ht, eh, f1, f2⟩ => ⟨t, y, z, ev, ht, eh, f1 xs (ex_t e sx), f2 ys (ex_t e sy)⟩⟩
theorem ok_same (T : Txt K mg) : ∀ n : Nat, Fn P w K mg base CX0 (n + 1) T.a_same T.d_same ["_law_found", "_law_due"] (sp_same K n)
  | 0 => ok_sameS T 0 0 ⟨fun vs H Q E h => by obtain ⟨m, e, _⟩ := h; omega, fun A outer s H args us vs Q E _ _ _ _ _ h => by obtain ⟨m, e, _⟩ := h; omega⟩
  | n + 1 => by
    have ih := ok_same T n
    refine ok_sameS T (n + 1) (n + 1) ⟨fun vs H Q E h => ?_, fun A outer s H args us vs Q E hg hr he hb hv h => ?_⟩
    · obtain ⟨m, e, h⟩ := h
      exact ih.len vs H Q E (by rw [show n = m by omega]; exact h)
    · obtain ⟨m, e, h⟩ := h
      exact ih.run A outer s H args us vs Q E hg hr he hb hv (by rw [show n = m by omega]; exact h)
end
end K11

/-! K11: what is put in, by the program and by the law -/
namespace K11
open PySem L2 Grd
open PyProof.Rows (sortedS)
open Evl (Ex ex_t ex_l ex_rd)

/-! ### dicts from numbers to kinds, to rosters -/
def DM {α : Type} (K : PySem.W.Frag) (H : Hp) (f : α → PyData) (p : Addr) (m : List (Int × α)) : Prop :=
  ∃ kvs : List (Key × V), H p = some (.dK kvs) ∧ Paired (fun (a : Key × V) (b : Int × α) => a.1 = Sum.inl b.1 ∧ Dp K H a.2 (f b.2)) kvs m
theorem DM.ex {α : Type} {K : PySem.W.Frag} {H H' : Hp} {f : α → PyData} {p : Addr} {m : List (Int × α)} (h : DM K H f p m) (e : Ex H H') : DM K H' f p m := by
  obtain ⟨kvs, hp, r⟩ := h
  exact ⟨kvs, e _ _ hp, Paired.mapP r fun a b q => ⟨q.1, Dp.ex e _ _ q.2⟩⟩
theorem dm_look {α : Type} {K : PySem.W.Frag} {H : Hp} {f : α → PyData} (n : Int) : ∀ {kvs : List (Key × V)} {m : List (Int × α)}, Paired (fun (a : Key × V) (b : Int × α) => a.1 = Sum.inl b.1 ∧ Dp K H a.2 (f b.2)) kvs m →
    (valV kvs (Sum.inl n) = none ∧ look n m = none) ∨ ∃ v a, valV kvs (Sum.inl n) = some v ∧ look n m = some a ∧ Dp K H v (f a) ∧ (n, a) ∈ m
  | _, _, .nil => .inl ⟨rfl, rfl⟩
  | _, _, @Paired.cons _ _ _ a b _ m r t => by
    by_cases e : b.1 = n
    · refine .inr ⟨a.2, b.2, valV_pos (by rw [r.1, e]), ?_, r.2, ?_⟩
      · simp [look, e]
      · rw [← e]
        exact List.mem_cons_self ..
    · have ea : ¬ a.1 = Sum.inl n := by
        rw [r.1]
        exact fun z => e (Sum.inl.inj z)
      have el : look n (b :: m) = look n m := by simp [look, e]
      rcases dm_look n t with ⟨h1, h2⟩ | ⟨v, x, h1, h2, h3, h4⟩
      · exact .inl ⟨by rw [valV_neg ea]; exact h1, by rw [el]; exact h2⟩
      · exact .inr ⟨v, x, by rw [valV_neg ea]; exact h1, by rw [el]; exact h2, h3, List.mem_cons_of_mem _ h4⟩
/-- what is put in: few labels -/
def RmOk (t : List (Int × Ro)) : Prop := ∀ e ∈ t, e.2.1.length ≤ 8
section
variable {P : Program} {w : World} {K : PySem.W.Frag} {mg : Str → Option Value} {base : Heap}
def sp_putR (K : PySem.W.Frag) (three : Bool) : Sp := fun vs H Q _ => ∃ (u kd : V) (tp : Addr) (r : Ro) (t : List (Int × Ro)), vs = (if three then [u, kd, .ref tp] else [u, .ref tp]) ∧ Dp K H u (roD r) ∧ r.1.length ≤ 20 ∧ DM K H roD tp t ∧ RmOk t ∧
  ∀ v H', Ex H H' → Dp K H' v (roD (putR r t)) → Q v H'
theorem putR_none {r : Ro} {t : List (Int × Ro)} (h : r.2 = none) : putR r t = r := by
  unfold putR
  rw [h]
theorem putR_no {r : Ro} {t : List (Int × Ro)} {n : Int} (h : r.2 = some n) (k : look n t = none) : putR r t = r := by
  unfold putR
  rw [h]
  simp only [k]
theorem putR_yes {r m : Ro} {t : List (Int × Ro)} {n : Int} (h : r.2 = some n) (k : look n t = some m) : putR r t = (srt (r.1 ++ m.1), m.2) := by
  unfold putR
  rw [h]
  simp only [k]
theorem ok_put_in_roster (T : Txt K mg) : Fn P w K mg base CX0 1 T.a_p_put_in_roster T.d_p_put_in_roster ["roster", "kinds", "tails"] (sp_putR K true) := by
  refine Grd.mk T.F_p_put_in_roster scp_put_in_roster (fun vs H Q E h => ?_) (fun cdv A outer st H vs Q E gd hr h => ?_)
  · obtain ⟨u, kd, tp, r, t, rfl, _⟩ := h
    rfl
  obtain ⟨u, kd, tp, r, t, rfl, hu, l8, ⟨kvs, hk, pr⟩, rm, q⟩ := h
  obtain ⟨p, tt, rfl, hp, ht⟩ := inv_ro hu
  refine ⟨_, (pss_cons (ps_asg (pv 0) (pg_tup rfl (pgs_cons (pg_name (i := 3) scp_put_in_roster.nd rfl (Or.inl rfl)) (pgs_cons (pg_name (i := 4) scp_put_in_roster.nd rfl (Or.inl rfl)) pgs_nil))))
      (pss_cons (ps_if (PW.pt (pw_or (pt_cmpR op_isN (pv 4) pe_non (nomark _)) (pw_or1 (pt_cmp (pc_dnotin (hu_of hr) (pv 4) (pv 2)))))) (pss_one (ps_ret (pv 0))) pss_nil)
      (pss_cons (ps_asg (pe_dget (hu_of hr) (pv 2) (pv 4) (fun _ _ => rfl)) (pg_tup rfl (pgs_cons (pg_name (i := 5) scp_put_in_roster.nd rfl (Or.inl rfl)) (pgs_cons (pg_name (i := 6) scp_put_in_roster.nd rfl (Or.inl rfl)) pgs_nil))))
      (pss_one (ps_ret (pe_tup (pa_cons (pe_callTy call_tuple_of (by rfl) T.n_tuple (by decide +kernel) (pa_cons (pe_callB cr_sortedTS (by rfl) T.n_sorted (by decide +kernel) (pa_cons (pe_op op_catA (pv 3) (pe_callTy call_tuple_of (by rfl) T.n_tuple (by decide +kernel) (pa_cons (pv 5) pa_nil))) pa_nil)) pa_nil)) (pa_cons (pv 6) pa_nil)))))))), ?_⟩
  refine ⟨_, rfl, p, _, rfl, hp, rfl, _, _, rfl, _, _, rfl, rfl, ?_⟩
  cases e2 : r.2 with
  | none =>
    refine ⟨_, rfl, rfl, _, rfl, ?_⟩
    exact ⟨_, rfl, q _ H (Ex.refl H) (by rw [putR_none e2]; exact hu)⟩
  | some n =>
    rcases dm_look n pr with ⟨h1, h2⟩ | ⟨v, m, h1, h2, h3, h4⟩
    · have g : DGet H tp (.int n) none := by
        have z := DGet.k (k := Sum.inl n) hk
        rw [h1] at z
        exact z
      refine ⟨_, rfl, rfl, _, rfl, _, rfl, _, rfl, tp, _, rfl, g, _, rfl, ?_⟩
      exact ⟨_, rfl, q _ H (Ex.refl H) (by rw [putR_no e2 h2]; exact hu)⟩
    · have g : DGet H tp (.int n) (some v) := by
        have z := DGet.k (k := Sum.inl n) hk
        rw [h1] at z
        exact z
      obtain ⟨mp, mt, rfl, hmp, hmt⟩ := inv_ro h3
      have lm : m.1.length ≤ 8 := rm _ h4
      refine ⟨_, rfl, rfl, _, rfl, _, rfl, _, rfl, tp, _, rfl, g, _, rfl, ?_⟩
      refine ⟨_, rfl, _, rfl, tp, _, rfl, g, mp, _, rfl, hmp, rfl, _, _, rfl, _, _, rfl, rfl, ?_⟩
      have len : (r.1.map V.str).length + (m.1.map V.str).length ≤ sizeLine := by
        rw [List.length_map, List.length_map]
        exact small_sz (by omega)
      refine ⟨_, rfl, _, rfl, mt, _, rfl, .inr ⟨hmt, tt, mt, _, _, rfl, rfl, ht, hmt, len, fun z => ?f1, fun z z2 => ?f2, fun z z2 nt hnt => ?f3⟩⟩
      case f1 =>
        have z' : r.1 = [] := List.map_eq_nil_iff.mp z
        refine ⟨mt, m.1, rfl, hmt, by omega, fun ys l perm so hl => ⟨l, _, rfl, .inl ⟨SqL.of upd_same, fun y hy => ?_⟩⟩⟩
        have e1 : Ex H (upd (upd H l (.lst (ys.map V.str))) y (.tup (ys.map V.str))) := (Ex.new hl).trans (Ex.new hy)
        refine ⟨_, rfl, (by show 2 ≤ sizeLine; decide), fun o ho => ?_⟩
        refine q _ _ (e1.trans (Ex.new ho)) ?_
        rw [putR_yes e2 h2, z', List.nil_append, ← srt_eq perm so]
        exact dp_ro (r := (ys, m.2)) (SqT.of upd_same) (ex_t (Ex.new ho) (SqT.of upd_same))
      case f2 =>
        have z' : m.1 = [] := List.map_eq_nil_iff.mp z2
        refine ⟨tt, r.1, rfl, ht, by omega, fun ys l perm so hl => ⟨l, _, rfl, .inl ⟨SqL.of upd_same, fun y hy => ?_⟩⟩⟩
        have e1 : Ex H (upd (upd H l (.lst (ys.map V.str))) y (.tup (ys.map V.str))) := (Ex.new hl).trans (Ex.new hy)
        refine ⟨_, rfl, (by show 2 ≤ sizeLine; decide), fun o ho => ?_⟩
        refine q _ _ (e1.trans (Ex.new ho)) ?_
        rw [putR_yes e2 h2, z', List.append_nil, ← srt_eq perm so]
        exact dp_ro (r := (ys, m.2)) (SqT.of upd_same) (ex_t (Ex.new ho) (SqT.of upd_same))
      case f3 =>
        have e0 : Ex H (upd H nt (.tup (r.1.map V.str ++ m.1.map V.str))) := Ex.new hnt
        refine ⟨nt, r.1 ++ m.1, rfl, by rw [List.map_append]; exact SqT.of upd_same, by rw [List.length_append]; omega, fun ys l perm so hl => ⟨l, _, rfl, .inl ⟨SqL.of upd_same, fun y hy => ?_⟩⟩⟩
        have e1 := (e0.trans (Ex.new (o := .lst (ys.map V.str)) hl)).trans (Ex.new (o := .tup (ys.map V.str)) hy)
        refine ⟨_, rfl, (by show 2 ≤ sizeLine; decide), fun o ho => ?_⟩
        refine q _ _ (e1.trans (Ex.new ho)) ?_
        rw [putR_yes e2 h2, ← srt_eq perm so]
        exact dp_ro (r := (ys, m.2)) (SqT.of upd_same) (ex_t (Ex.new ho) (SqT.of upd_same))
theorem ok_put_ends (T : Txt K mg) : Fn P w K mg base CX0 1 T.a_put_ends T.d_put_ends ["_law_row", "_law_tails"] (sp_putR K false) := by
  refine Grd.mk T.F_put_ends scput_ends (fun vs H Q E h => ?_) (fun cdv A outer st H vs Q E gd hr h => ?_)
  · obtain ⟨u, kd, tp, r, t, rfl, _⟩ := h
    rfl
  obtain ⟨u, kd, tp, r, t, rfl, hu, l8, ⟨kvs, hk, pr⟩, rm, q⟩ := h
  obtain ⟨p, tt, rfl, hp, ht⟩ := inv_ro hu
  refine ⟨_, (pss_cons (ps_if (PW.pt (pw_or (pt_cmpR op_isN (pe_ix ix_tup (pv 0) pe_int (fun _ _ => rfl)) pe_non (nomark _)) (pw_or1 (pt_cmp (pc_dnotin (hu_of hr) (pe_ix ix_tup (pv 0) pe_int (fun _ _ => rfl)) (pv 1)))))) (pss_one (ps_ret (pv 0))) pss_nil)
      (pss_cons (ps_set (i := 2) scput_ends.nd rfl (Or.inl rfl) (pe_dget (hu_of hr) (pv 1) (pe_ix ix_tup (pv 0) pe_int (fun _ _ => rfl)) (fun _ _ => rfl)))
      (pss_one (ps_ret (pe_tup (pa_cons (pe_callTy call_tuple_of (by rfl) T.n_tuple (by decide +kernel) (pa_cons (pe_callB cr_sortedS (by rfl) T.n_sorted (by decide +kernel) (pa_cons (pe_op op_cat (pe_callTy call_list_of (by rfl) T.n_list (by decide +kernel) (pa_cons (pe_ix ix_tup (pv 0) pe_int (fun _ _ => rfl)) pa_nil)) (pe_callTy call_list_of (by rfl) T.n_list (by decide +kernel) (pa_cons (pe_ix ix_tup (pv 2) pe_int (fun _ _ => rfl)) pa_nil))) pa_nil)) pa_nil)) (pa_cons (pe_ix ix_tup (pv 2) pe_int (fun _ _ => rfl)) pa_nil))))))), ?_⟩
  refine ⟨_, rfl, p, _, _, _, rfl, rfl, hp, rfl, ?_⟩
  cases e2 : r.2 with
  | none =>
    refine ⟨rfl, _, rfl, ?_⟩
    exact ⟨_, rfl, q _ H (Ex.refl H) (by rw [putR_none e2]; exact hu)⟩
  | some n =>
    rw [e2] at hp
    rcases dm_look n pr with ⟨h1, h2⟩ | ⟨v, m, h1, h2, h3, h4⟩
    · have g : DGet H tp (.int n) none := by
        have z := DGet.k (k := Sum.inl n) hk
        rw [h1] at z
        exact z
      refine ⟨rfl, _, rfl, _, rfl, p, _, _, _, rfl, rfl, hp, rfl, _, rfl, tp, _, rfl, g, _, rfl, ?_⟩
      exact ⟨_, rfl, q _ H (Ex.refl H) (by rw [putR_no e2 h2]; exact hu)⟩
    · have g : DGet H tp (.int n) (some v) := by
        have z := DGet.k (k := Sum.inl n) hk
        rw [h1] at z
        exact z
      obtain ⟨mp, mt, rfl, hmp, hmt⟩ := inv_ro h3
      have lm : m.1.length ≤ 8 := rm _ h4
      refine ⟨rfl, _, rfl, _, rfl, p, _, _, _, rfl, rfl, hp, rfl, _, rfl, tp, _, rfl, g, _, rfl, ?_⟩
      refine ⟨_, rfl, _, rfl, p, _, _, _, rfl, rfl, hp, rfl, tp, _, rfl, g, ?_⟩
      have len : (r.1.map V.str).length + (m.1.map V.str).length ≤ sizeLine := by
        rw [List.length_map, List.length_map]
        exact small_sz (by omega)
      refine ⟨_, rfl, p, _, _, _, rfl, rfl, hp, rfl, tt, _, rfl, .inr ht, fun l1 hl1 => ?_⟩
      have e1 : Ex H (upd H l1 (.lst (r.1.map V.str))) := Ex.new hl1
      refine ⟨_, rfl, mp, _, _, _, rfl, rfl, ex_t e1 hmp, rfl, mt, _, rfl, .inr (ex_t e1 hmt), fun l2 hl2 => ?_⟩
      have n12 : l1 ≠ l2 := fun z => by rw [← z, upd_same] at hl2; cases hl2
      have e2' := e1.trans (Ex.new (o := .lst (m.1.map V.str)) hl2)
      refine ⟨l1, l2, _, _, rfl, rfl, by rw [upd_ne n12]; exact upd_same, upd_same, len, fun l3 hl3 => ?_⟩
      have e3 := e2'.trans (Ex.new (o := .lst (r.1.map V.str ++ m.1.map V.str)) hl3)
      refine ⟨l3, r.1 ++ m.1, rfl, by rw [List.map_append]; exact SqL.of upd_same, by rw [List.length_append]; omega, fun ys l perm so hl => ⟨l, _, rfl, .inl ⟨SqL.of upd_same, fun y hy => ?_⟩⟩⟩
      have e4 := (e3.trans (Ex.new (o := .lst (ys.map V.str)) hl)).trans (Ex.new (o := .tup (ys.map V.str)) hy)
      refine ⟨_, rfl, mp, _, _, _, rfl, rfl, ex_t e4 hmp, rfl, (by show 2 ≤ sizeLine; decide), fun o ho => ?_⟩
      refine q _ _ (e4.trans (Ex.new ho)) ?_
      rw [putR_yes e2 h2, ← srt_eq perm so]
      exact dp_ro (r := (ys, m.2)) (SqT.of upd_same) (ex_t (Ex.new ho) (SqT.of upd_same))
end
end K11

/-! K11: kinds put in -/
namespace K11
open PySem L2 Grd
open PyProof.Rows (sortedS)
open Evl (Ex ex_t ex_l ex_rd)
section
variable {P : Program} {w : World} {K : PySem.W.Frag} {mg : Str → Option Value} {base : Heap}
def sp_put (K : PySem.W.Frag) (n : Nat) : Sp := fun vs H Q _ => ∃ (v : V) (kp tp : Addr) (k : Kd) (m : List (Int × Kd)) (t : List (Int × Ro)), vs = [v, .ref kp, .ref tp] ∧ Dp K H v (kdD k) ∧ KdOk k ∧ dep k ≤ n ∧ dep k ≤ 60 ∧ DM K H kdD kp m ∧ DM K H roD tp t ∧ RmOk t ∧
  ∀ v' H', Ex H H' → Dp K H' v' (kdD (put k m t)) → Q v' H'
theorem ok_put_in0 (T : Txt K mg) : Fn P w K mg base CX0 0 T.a_p_put_in T.d_p_put_in ["kind", "kinds", "tails"] (sp_put K 0) := by
  refine ⟨fun vs H Q E h => ?_, fun A outer s H args us vs Q E _ _ _ _ _ h => ?_⟩
  · obtain ⟨v, kp, tp, k, m, t, rfl, _⟩ := h
    rfl
  · obtain ⟨v, kp, tp, k, m, t, _, _, _, h1, _⟩ := h
    have := dep_pos k
    omega
theorem ok_put_inS (T : Txt K mg) (n j : Nat) (hj : 1 ≤ j) (G_p_put_in : Fn P w K mg base CX0 j T.a_p_put_in T.d_p_put_in ["kind", "kinds", "tails"] (sp_put K n)) :
    Fn P w K mg base CX0 (j + 1) T.a_p_put_in T.d_p_put_in ["kind", "kinds", "tails"] (sp_put K (n + 1)) := by
  have G_p_put_in_roster := ok_put_in_roster (P := P) (w := w) (base := base) T
  refine Grd.mk T.F_p_put_in scp_put_in (fun vs H Q E h => ?_) (fun cdv A outer st H vs Q E gd hr h => ?_)
  · obtain ⟨v, kp, tp, k, m, t, rfl, _⟩ := h
    rfl
  obtain ⟨v, kp, tp, k, m, t, rfl, hv, ok, dn, d60, dm, dt, rm, q⟩ := h
  refine ⟨_, (pss_cons (ps_if (pt_cmpR (op_eqD hr.units) (pv 0) pe_str (nomark _)) (pss_one (ps_ret (pv 0))) pss_nil)
      (pss_cons (ps_if (pt_cmpR op_eq (pe_ix ix_tup (pv 0) pe_int (fun _ _ => rfl)) pe_str (nomark _)) (pss_one (ps_ret (pe_dget2 (hu_of hr) (pv 1) (pe_ix ix_tup (pv 0) pe_int (fun _ _ => rfl)) (pv 0) ⟨rfl, rfl, rfl, rfl⟩))) pss_nil)
      (pss_cons (ps_par (i := 3) (j := 4) (by rfl) scp_put_in.nd rfl rfl (by decide) rfl rfl (pa_cons (pe_callG G_p_put_in gd (hr.mono (by first | decide | omega)) rfl T.g_p_put_in T.F_p_put_in.kp T.b_p_put_in .nil pass0 (pa_cons (pe_ix ix_tup (pv 0) pe_int (fun _ _ => rfl)) (pa_cons (pv 1) (pa_cons (pv 2) pa_nil)))) (pa_cons (pe_callG G_p_put_in gd (hr.mono (by first | decide | omega)) rfl T.g_p_put_in T.F_p_put_in.kp T.b_p_put_in .nil pass0 (pa_cons (pe_ix ix_tup (pv 0) (pe_un un_neg pe_int) (fun _ _ => rfl)) (pa_cons (pv 1) (pa_cons (pv 2) pa_nil)))) pa_nil)) (by rfl))
      (pss_cons (ps_if (pt_cmpR op_eq (pe_ix ix_tup (pv 0) pe_int (fun _ _ => rfl)) pe_str (nomark _)) (pss_one (ps_ret (pe_tup (pa_cons pe_str (pa_cons (pv 3) (pa_cons (pv 4) pa_nil)))))) pss_nil)
      (pss_one (ps_ret (pe_tup (pa_cons pe_str (pa_cons (pv 3) (pa_cons (pe_callG G_p_put_in_roster gd (hr.mono (by first | decide | omega)) rfl T.g_p_put_in_roster T.F_p_put_in_roster.kp T.b_p_put_in_roster .nil pass0 (pa_cons (pe_ix ix_tup (pv 0) pe_int (fun _ _ => rfl)) (pa_cons (pv 1) (pa_cons (pv 2) pa_nil)))) (pa_cons (pv 4) pa_nil))))))))))), ?_⟩
  refine ⟨_, rfl, kdD k, .str "number", hv, .str _, shp_kd ok d60, w_num, _, rfl, ?_⟩
  rw [eqv_num]
  cases k with
  | num => exact ⟨_, rfl, q v H (Ex.refl H) hv⟩
  | any x =>
    obtain ⟨p, rfl, hp⟩ := inv_any hv
    refine ⟨_, rfl, p, _, _, _, rfl, rfl, hp, rfl, rfl, _, rfl, ite2 (fun _ => ?_) (fun t => absurd (decide_eq_true rfl) t)⟩
    obtain ⟨kvs, hk, pr⟩ := dm
    have g := DGet.k (k := Sum.inl x) hk
    refine ⟨_, rfl, kp, rfl, .inl ⟨kvs, Rd.of hk⟩, _, rfl, p, _, _, _, rfl, rfl, hp, rfl, _, rfl, _, g, ?_⟩
    rcases dm_look x pr with ⟨h1, h2⟩ | ⟨y, a, h1, h2, h3, h4⟩
    · rw [h1]
      refine q _ H (Ex.refl H) ?_
      simp only [put, h2]
      exact hv
    · rw [h1]
      refine q _ H (Ex.refl H) ?_
      simp only [put, h2]
      exact h3
  | pair k1 k2 =>
    obtain ⟨p, x, y, rfl, hp, hx, hy⟩ := inv_pair hv
    simp only [dep] at dn d60
    refine ⟨_, rfl, p, _, _, _, rfl, rfl, hp, rfl, rfl, _, rfl, ite2 (fun t => absurd (of_decide_eq_true t) n_pa) (fun _ => ?_)⟩
    refine ⟨_, rfl, p, _, _, _, rfl, rfl, hp, rfl, _, rfl, _, rfl, x, kp, tp, k1, m, t, rfl, hx, ok.1, by omega, by omega, dm, dt, rm, fun v1 H1 e1 r1 => ?_⟩
    refine ⟨_, rfl, _, rfl, p, _, _, _, rfl, rfl, ex_t e1 hp, rfl, _, rfl, _, rfl, y, kp, tp, k2, m, t, rfl, Dp.ex e1 _ _ hy, ok.2, by omega, by omega, dm.ex e1, dt.ex e1, rm, fun v2 H2 e2 r2 => ?_⟩
    refine ⟨_, _, rfl, ?_⟩
    refine ⟨_, rfl, p, _, _, _, rfl, rfl, ex_t (e1.trans e2) hp, rfl, rfl, _, rfl, ite2 (fun _ => ?_) (fun t => absurd (decide_eq_true rfl) t)⟩
    refine ⟨_, rfl, _, rfl, (by show 3 ≤ sizeLine; decide), fun o ho => ?_⟩
    refine q _ _ ((e1.trans e2).trans (Ex.new ho)) ?_
    exact .tup (SqT.of upd_same) (.cons (.str _) (.cons (Dp.ex (e2.trans (Ex.new ho)) _ _ r1) (.cons (Dp.ex (Ex.new ho) _ _ r2) .nil)))
  | fn k1 r k2 =>
    obtain ⟨p, x, z, y, rfl, hp, hx, hz, hy⟩ := inv_fn hv
    simp only [dep] at dn d60
    refine ⟨_, rfl, p, _, _, _, rfl, rfl, hp, rfl, rfl, _, rfl, ite2 (fun t => absurd (of_decide_eq_true t) n_fa) (fun _ => ?_)⟩
    refine ⟨_, rfl, p, _, _, _, rfl, rfl, hp, rfl, _, rfl, _, rfl, x, kp, tp, k1, m, t, rfl, hx, ok.1, by omega, by omega, dm, dt, rm, fun v1 H1 e1 r1 => ?_⟩
    refine ⟨_, rfl, _, rfl, p, _, _, _, rfl, rfl, ex_t e1 hp, rfl, _, rfl, _, rfl, y, kp, tp, k2, m, t, rfl, Dp.ex e1 _ _ hy, ok.2.2, by omega, by omega, dm.ex e1, dt.ex e1, rm, fun v2 H2 e2 r2 => ?_⟩
    have e12 := e1.trans e2
    refine ⟨_, _, rfl, ?_⟩
    refine ⟨_, rfl, p, _, _, _, rfl, rfl, ex_t e12 hp, rfl, rfl, _, rfl, ite2 (fun t => absurd (of_decide_eq_true t) n_fp) (fun _ => ?_)⟩
    refine ⟨_, rfl, _, rfl, p, _, _, _, rfl, rfl, ex_t e12 hp, rfl, _, rfl, _, rfl, z, .ref kp, tp, r, t, rfl, Dp.ex e12 _ _ hz, Nat.le_trans ok.2.1.l (by decide), dt.ex e12, rm, fun v3 H3 e3 r3 => ?_⟩
    refine ⟨_, rfl, (by show 4 ≤ sizeLine; decide), fun o ho => ?_⟩
    refine q _ _ ((e12.trans e3).trans (Ex.new ho)) ?_
    exact .tup (SqT.of upd_same) (.cons (.str _) (.cons (Dp.ex ((e2.trans e3).trans (Ex.new ho)) _ _ r1) (.cons (Dp.ex (Ex.new ho) _ _ r3) (.cons (Dp.ex (e3.trans (Ex.new ho)) _ _ r2) .nil))))
theorem ok_put_in (T : Txt K mg) : ∀ n : Nat, Fn P w K mg base CX0 (1 + n) T.a_p_put_in T.d_p_put_in ["kind", "kinds", "tails"] (sp_put K n)
  | 0 => (ok_put_in0 T).up (by decide)
  | n + 1 => ok_put_inS T n (1 + n) (by omega) (ok_put_in T n)
theorem ok_put0 (T : Txt K mg) : Fn P w K mg base CX0 0 T.a_put T.d_put ["_law_made", "_law_own", "_law_tails"] (sp_put K 0) := by
  refine ⟨fun vs H Q E h => ?_, fun A outer s H args us vs Q E _ _ _ _ _ h => ?_⟩
  · obtain ⟨v, kp, tp, k, m, t, rfl, _⟩ := h
    rfl
  · obtain ⟨v, kp, tp, k, m, t, _, _, _, h1, _⟩ := h
    have := dep_pos k
    omega
theorem ok_putS (T : Txt K mg) (n j : Nat) (hj : 1 ≤ j) (G_put : Fn P w K mg base CX0 j T.a_put T.d_put ["_law_made", "_law_own", "_law_tails"] (sp_put K n)) :
    Fn P w K mg base CX0 (j + 1) T.a_put T.d_put ["_law_made", "_law_own", "_law_tails"] (sp_put K (n + 1)) := by
  have G_put_ends := ok_put_ends (P := P) (w := w) (base := base) T
  refine Grd.mk T.F_put scput (fun vs H Q E h => ?_) (fun cdv A outer st H vs Q E gd hr h => ?_)
  · obtain ⟨v, kp, tp, k, m, t, rfl, _⟩ := h
    rfl
  obtain ⟨v, kp, tp, k, m, t, rfl, hv, ok, dn, d60, dm, dt, rm, q⟩ := h
  refine ⟨_, (pss_cons (ps_if (pt_cmpR (op_eqD hr.units) (pv 0) pe_str (nomark _)) (pss_one (ps_ret (pv 0))) pss_nil)
      (pss_cons (ps_if (pt_cmpR op_eq (pe_ix ix_tup (pv 0) pe_int (fun _ _ => rfl)) pe_str (nomark _)) (pss_one (ps_ret (pe_ifExp (pt_cmp (pc_din (hu_of hr) (pe_ix ix_tup (pv 0) pe_int (fun _ _ => rfl)) (pv 1))) (pe_dget (hu_of hr) (pv 1) (pe_ix ix_tup (pv 0) pe_int (fun _ _ => rfl)) (fun _ _ => rfl)) (pv 0)))) pss_nil)
      (pss_cons (ps_par (i := 3) (j := 4) (by rfl) scput.nd rfl rfl (by decide) rfl rfl (pa_cons (pe_callG G_put gd (hr.mono (by first | decide | omega)) rfl T.g_put T.F_put.kp T.b_put .nil pass0 (pa_cons (pe_ix ix_tup (pv 0) pe_int (fun _ _ => rfl)) (pa_cons (pv 1) (pa_cons (pv 2) pa_nil)))) (pa_cons (pe_callG G_put gd (hr.mono (by first | decide | omega)) rfl T.g_put T.F_put.kp T.b_put .nil pass0 (pa_cons (pe_ix ix_tup (pv 0) (pe_un un_neg pe_int) (fun _ _ => rfl)) (pa_cons (pv 1) (pa_cons (pv 2) pa_nil)))) pa_nil)) (by rfl))
      (pss_one (ps_ret (pe_ifExp (pt_cmpR op_eq (pe_ix ix_tup (pv 0) pe_int (fun _ _ => rfl)) pe_str (nomark _)) (pe_tup (pa_cons pe_str (pa_cons (pv 3) (pa_cons (pv 4) pa_nil)))) (pe_tup (pa_cons pe_str (pa_cons (pv 3) (pa_cons (pe_callG G_put_ends gd (hr.mono (by first | decide | omega)) rfl T.g_put_ends T.F_put_ends.kp T.b_put_ends .nil pass0 (pa_cons (pe_ix ix_tup (pv 0) pe_int (fun _ _ => rfl)) (pa_cons (pv 2) pa_nil))) (pa_cons (pv 4) pa_nil))))))))))), ?_⟩
  refine ⟨_, rfl, kdD k, .str "number", hv, .str _, shp_kd ok d60, w_num, _, rfl, ?_⟩
  rw [eqv_num]
  cases k with
  | num => exact ⟨_, rfl, q v H (Ex.refl H) hv⟩
  | any x =>
    obtain ⟨p, rfl, hp⟩ := inv_any hv
    refine ⟨_, rfl, p, _, _, _, rfl, rfl, hp, rfl, rfl, _, rfl, ite2 (fun _ => ?_) (fun t => absurd (decide_eq_true rfl) t)⟩
    obtain ⟨kvs, hk, pr⟩ := dm
    rcases dm_look x pr with ⟨h1, h2⟩ | ⟨y, a, h1, h2, h3, h4⟩
    · have g : DGet H kp (.int x) none := by
        have z := DGet.k (k := Sum.inl x) hk
        rw [h1] at z
        exact z
      refine ⟨_, rfl, p, _, _, _, rfl, rfl, hp, rfl, _, rfl, kp, _, rfl, g, _, rfl, ?_⟩
      refine ⟨_, rfl, q _ H (Ex.refl H) ?_⟩
      simp only [put, h2]
      exact hv
    · have g : DGet H kp (.int x) (some y) := by
        have z := DGet.k (k := Sum.inl x) hk
        rw [h1] at z
        exact z
      refine ⟨_, rfl, p, _, _, _, rfl, rfl, hp, rfl, _, rfl, kp, _, rfl, g, _, rfl, ?_⟩
      refine ⟨_, rfl, _, rfl, p, _, _, _, rfl, rfl, hp, rfl, kp, _, rfl, g, q _ H (Ex.refl H) ?_⟩
      simp only [put, h2]
      exact h3
  | pair k1 k2 =>
    obtain ⟨p, x, y, rfl, hp, hx, hy⟩ := inv_pair hv
    simp only [dep] at dn d60
    refine ⟨_, rfl, p, _, _, _, rfl, rfl, hp, rfl, rfl, _, rfl, ite2 (fun t => absurd (of_decide_eq_true t) n_pa) (fun _ => ?_)⟩
    refine ⟨_, rfl, p, _, _, _, rfl, rfl, hp, rfl, _, rfl, _, rfl, x, kp, tp, k1, m, t, rfl, hx, ok.1, by omega, by omega, dm, dt, rm, fun v1 H1 e1 r1 => ?_⟩
    refine ⟨_, rfl, _, rfl, p, _, _, _, rfl, rfl, ex_t e1 hp, rfl, _, rfl, _, rfl, y, kp, tp, k2, m, t, rfl, Dp.ex e1 _ _ hy, ok.2, by omega, by omega, dm.ex e1, dt.ex e1, rm, fun v2 H2 e2 r2 => ?_⟩
    refine ⟨_, _, rfl, ?_⟩
    refine ⟨_, rfl, p, _, _, _, rfl, rfl, ex_t (e1.trans e2) hp, rfl, rfl, _, rfl, ite2 (fun _ => ?_) (fun t => absurd (decide_eq_true rfl) t)⟩
    refine ⟨_, rfl, _, rfl, (by show 3 ≤ sizeLine; decide), fun o ho => ?_⟩
    refine q _ _ ((e1.trans e2).trans (Ex.new ho)) ?_
    exact .tup (SqT.of upd_same) (.cons (.str _) (.cons (Dp.ex (e2.trans (Ex.new ho)) _ _ r1) (.cons (Dp.ex (Ex.new ho) _ _ r2) .nil)))
  | fn k1 r k2 =>
    obtain ⟨p, x, z, y, rfl, hp, hx, hz, hy⟩ := inv_fn hv
    simp only [dep] at dn d60
    refine ⟨_, rfl, p, _, _, _, rfl, rfl, hp, rfl, rfl, _, rfl, ite2 (fun t => absurd (of_decide_eq_true t) n_fa) (fun _ => ?_)⟩
    refine ⟨_, rfl, p, _, _, _, rfl, rfl, hp, rfl, _, rfl, _, rfl, x, kp, tp, k1, m, t, rfl, hx, ok.1, by omega, by omega, dm, dt, rm, fun v1 H1 e1 r1 => ?_⟩
    refine ⟨_, rfl, _, rfl, p, _, _, _, rfl, rfl, ex_t e1 hp, rfl, _, rfl, _, rfl, y, kp, tp, k2, m, t, rfl, Dp.ex e1 _ _ hy, ok.2.2, by omega, by omega, dm.ex e1, dt.ex e1, rm, fun v2 H2 e2 r2 => ?_⟩
    have e12 := e1.trans e2
    refine ⟨_, _, rfl, ?_⟩
    refine ⟨_, rfl, p, _, _, _, rfl, rfl, ex_t e12 hp, rfl, rfl, _, rfl, ite2 (fun t => absurd (of_decide_eq_true t) n_fp) (fun _ => ?_)⟩
    refine ⟨_, rfl, _, rfl, p, _, _, _, rfl, rfl, ex_t e12 hp, rfl, _, rfl, z, .non, tp, r, t, rfl, Dp.ex e12 _ _ hz, Nat.le_trans ok.2.1.l (by decide), dt.ex e12, rm, fun v3 H3 e3 r3 => ?_⟩
    refine ⟨_, rfl, (by show 4 ≤ sizeLine; decide), fun o ho => ?_⟩
    refine q _ _ ((e12.trans e3).trans (Ex.new ho)) ?_
    exact .tup (SqT.of upd_same) (.cons (.str _) (.cons (Dp.ex ((e2.trans e3).trans (Ex.new ho)) _ _ r1) (.cons (Dp.ex (Ex.new ho) _ _ r3) (.cons (Dp.ex (e3.trans (Ex.new ho)) _ _ r2) .nil))))
theorem ok_put (T : Txt K mg) : ∀ n : Nat, Fn P w K mg base CX0 (1 + n) T.a_put T.d_put ["_law_made", "_law_own", "_law_tails"] (sp_put K n)
  | 0 => (ok_put0 T).up (by decide)
  | n + 1 => ok_putS T n (1 + n) (by omega) (ok_put T n)
end
end K11

/-! K11: settled, by the program -/
namespace K11
open PySem L2 Grd
open PyProof.Rows (sortedS)
open Evl (Ex ex_t ex_l ex_rd)
/-- a dict comprehension over a walk -/
theorem dc_it {J : It} {n : Nat} {G : Hp → Prop} {Y : Nat → Hp → V → Hp → Prop} (w : Walk J n G Y) {g : TG} {tt : TT} {tk tv : TE} {vs : List Nat} {σ : L2.St} {H1 : Hp} {D : Addr} {Qd : Hp → Prop} (Pv : Nat → Hp → Prop) (h0 : Pv 0 (upd H1 D (.dK []))) (hG : ∀ i H, i ≤ n → Pv i H → G H)
    (hs : ∀ i x H H', i < n → Pv i H → Y i H x H' → g x (wipe σ vs) H' fun σ2 H2 => wipe σ2 vs = wipe σ vs ∧ tt σ2 H2 fun b H3 =>
      if b = true then tk σ2 H3 fun y H4 => tv σ2 H4 fun z H5 => ∃ kvs k, y = kV k ∧ H5 D = some (.dK kvs) ∧ kvs.length < sizeLine ∧ Pv (i + 1) (upd H5 D (.dK (putK kvs k z))) else Pv (i + 1) H3) (hd : ∀ H, Pv n H → Qd H) :
    ∃ W : Nat → Nat → Hp → Prop, (∃ m, W 0 m (upd H1 D (.dK []))) ∧ ∀ i m H, W i m H →
      (J.stop i H ∧ Qd H) ∨ (J.go i H ∧ ∃ Nx : Hp → Prop, (∀ H', Nx H' → ∃ m', m' < m ∧ W (i + 1) m' H') ∧ ∀ x H', J.yld i H x H' → g x (wipe σ vs) H' fun σ2 H2 => wipe σ2 vs = wipe σ vs ∧ tt σ2 H2 fun b H3 =>
        if b = true then tk σ2 H3 fun y H4 => tv σ2 H4 fun z H5 => ∃ kvs k, y = kV k ∧ H5 D = some (.dK kvs) ∧ kvs.length < sizeLine ∧ Nx (upd H5 D (.dK (putK kvs k z))) else Nx H3) := by
  refine ⟨fun i m H => m = n - i ∧ i ≤ n ∧ Pv i H, ⟨n, rfl, Nat.zero_le _, h0⟩, ?_⟩
  rintro i m H ⟨rfl, hi, p⟩
  by_cases lt : i < n
  · refine .inr ⟨w.goes i H lt (hG i H hi p), Pv (i + 1), fun H' p' => ⟨n - (i + 1), by omega, rfl, lt, p'⟩, fun x H' y => ?_⟩
    exact hs i x H H' lt p (w.yields i H x H' lt (hG i H hi p) y)
  · have e : i = n := by omega
    subst e
    exact .inl ⟨w.stops H (hG i H hi p), hd H p⟩
theorem Paired.app {α β : Type} {F : α → β → Prop} : ∀ {l₁ m₁ : List α} {l₂ m₂ : List β}, Paired F l₁ l₂ → Paired F m₁ m₂ → Paired F (l₁ ++ m₁) (l₂ ++ m₂)
  | _, _, _, _, .nil, h => h
  | _, _, _, _, .cons r t, h => .cons r (Paired.app t h)
/-- numbers called by their place -/
def mkG {α : Type} (F : Nat → α) (l : List Int) : List (Int × α) := (l.zipIdx 0).map fun p => (p.1, F p.2)
theorem mkG_snoc {α : Type} (F : Nat → α) {l : List Int} {i : Nat} {x : Int} (h : l[i]? = some x) : mkG F (l.take (i + 1)) = mkG F (l.take i) ++ [(x, F i)] := by
  have hi := (List.getElem?_eq_some_iff.mp h).1
  have e : l.take (i + 1) = l.take i ++ [x] := by
    rw [List.take_add_one, h]
    rfl
  unfold mkG
  rw [e, List.zipIdx_append, List.map_append, List.length_take, Nat.min_eq_left (Nat.le_of_lt hi)]
  simp
theorem mkG_keys {α : Type} (F : Nat → α) (l : List Int) : (mkG F l).map (·.1) = l := by
  unfold mkG
  rw [List.map_map]
  have : (fun x : Int × α => x.1) ∘ (fun p : Int × Nat => (p.1, F p.2)) = Prod.fst := rfl
  rw [this]
  exact List.zipIdx_map_fst 0 l
theorem not_look {α : Type} {n : Int} : ∀ {m : List (Int × α)}, n ∉ m.map (·.1) → look n m = none
  | [], _ => rfl
  | p :: r, h => by
    have h1 : ¬ p.1 = n := fun e => h (by rw [← e]; exact List.mem_cons_self ..)
    have h2 := not_look (m := r) fun e => h (List.mem_cons_of_mem _ e)
    simp only [look, List.find?_cons, h1, decide_false] at h2 ⊢
    exact h2
theorem nd_take {l : List Int} (h : l.Nodup) {i : Nat} {x : Int} (e : l[i]? = some x) : x ∉ l.take i := by
  intro m
  obtain ⟨j, hj⟩ := List.mem_iff_getElem?.mp m
  have hji : j < i := by
    rcases Nat.lt_or_ge j i with q | q
    · exact q
    · rw [List.getElem?_eq_none (by rw [List.length_take]; omega)] at hj
      cases hj
  rw [List.getElem?_take_of_lt hji] at hj
  exact absurd (nd_ix h hj e) (by omega)
/-- the dict so far -/
def Df {α : Type} (K : PySem.W.Frag) (H : Hp) (f : α → PyData) (kvs : List (Key × V)) (m : List (Int × α)) : Prop :=
  Paired (fun (a : Key × V) (b : Int × α) => a.1 = Sum.inl b.1 ∧ Dp K H a.2 (f b.2)) kvs m
theorem Df.ts {α : Type} {K : PySem.W.Frag} {H H' : Hp} {f : α → PyData} {kvs : List (Key × V)} {m : List (Int × α)} (h : Df K H f kvs m) (t : Ts K H H') (to : ∀ a, tupOnly (f a) = true) : Df K H' f kvs m :=
  Paired.mapP h fun a b q => ⟨q.1, Dp.tst t _ _ (to _) q.2⟩
/-- d[x] = y, x new -/
theorem Df.put {α : Type} {K : PySem.W.Frag} {H : Hp} {f : α → PyData} {kvs : List (Key × V)} {m : List (Int × α)} {x : Int} {v : V} {a : α} (h : Df K H f kvs m) (hx : x ∉ m.map (·.1)) (hv : Dp K H v (f a)) :
    putK kvs (Sum.inl x) v = kvs ++ [(Sum.inl x, v)] ∧ Df K H f (putK kvs (Sum.inl x) v) (m ++ [(x, a)]) := by
  have n : valV kvs (Sum.inl x) = none := by
    rcases dm_look x h with q | ⟨_, _, _, q, _⟩
    · exact q.1
    · rw [not_look hx] at q
      cases q
  have e := putK_new (k := Sum.inl x) v n
  refine ⟨e, ?_⟩
  rw [e]
  exact Paired.app h (.cons ⟨rfl, hv⟩ .nil)
theorem ts_upd {K : PySem.W.Frag} {H : Hp} {D : Addr} {o : HO} {kvs : List (Key × V)} (h : H D = some (.dK kvs)) : Ts K H (upd H D o) := by
  rintro a xs ((q | ⟨ob, q⟩) | q)
  · exact .inl (.inl (by rw [upd_ne (ne_of q h (fun z => by cases z))]; exact q))
  · exact .inl (.inr ⟨ob, by rw [upd_ne (ne_of q h (fun z => by cases z))]; exact q⟩)
  · exact .inr q
theorem ts_updL {K : PySem.W.Frag} {H : Hp} {D : Addr} {o : HO} {xs : List V} (h : H D = some (.lst xs)) : Ts K H (upd H D o) := by
  rintro a ys ((q | ⟨ob, q⟩) | q)
  · exact .inl (.inl (by rw [upd_ne (ne_of q h (fun z => by cases z))]; exact q))
  · exact .inl (.inr ⟨ob, by rw [upd_ne (ne_of q h (fun z => by cases z))]; exact q⟩)
  · exact .inr q
theorem Paired.len {α β : Type} {F : α → β → Prop} : ∀ {l : List α} {m : List β}, Paired F l m → l.length = m.length
  | _, _, .nil => rfl
  | _, _, .cons _ t => congrArg (· + 1) (Paired.len t)
theorem mkG_len {α : Type} (F : Nat → α) (l : List Int) : (mkG F l).length = l.length := by
  unfold mkG
  rw [List.length_map, List.length_zipIdx]
def stD (k : Kd) (r : Ro) : PyData := .tuple [kdD (settle k r).1, roD (settle k r).2]
section
variable {P : Program} {w : World} {K : PySem.W.Frag} {mg : Str → Option Value} {base : Heap}
def sp_settled (K : PySem.W.Frag) (n : Nat) : Sp := fun vs H Q _ => ∃ (v u : V) (k : Kd) (r : Ro), vs = [v, u] ∧ Dp K H v (kdD k) ∧ Dp K H u (roD r) ∧ KdOk k ∧ RoOk r ∧ dep k ≤ n ∧ dep k ≤ 60 ∧ sz k < 9000 ∧
  ∀ p H', Ex H H' → Dp K H' (.ref p) (stD k r) → Q (.ref p) H'
theorem rm_mkR (l : List Int) : RmOk (mkR l 0) := by
  intro e he
  obtain ⟨p, _, rfl⟩ := List.mem_map.mp he
  exact Nat.zero_le _
theorem ok_p_settled (T : Txt K mg) (n : Nat) : Fn P w K mg base CX0 (4 + n) T.a_p_settled T.d_p_settled ["kind", "roster"] (sp_settled K n) := by
  have G_p_all_opens := ok_all_opens (P := P) (w := w) (base := base) T n
  have G_p_put_in := ok_put_in (P := P) (w := w) (base := base) T n
  have G_p_put_in_roster := ok_put_in_roster (P := P) (w := w) (base := base) T
  rw [show 4 + n = (3 + n) + 1 by omega]
  refine Grd.mk T.F_p_settled scp_settled (fun vs H Q E h => ?_) (fun cdv A outer st H vs Q E gd hr h => ?_)
  · obtain ⟨v, u, k, r, rfl, _⟩ := h
    rfl
  obtain ⟨v, u, k, r, rfl, hv, hu, ok, okr, dn, d60, hz, q⟩ := h
  refine ⟨_, (pss_cons (ps_asg (pe_callG G_p_all_opens gd (hr.mono (by first | decide | omega)) rfl T.g_p_all_opens T.F_p_all_opens.kp T.b_p_all_opens .nil pass0 (pa_cons (pv 0) (pa_cons (pv 1) pa_nil))) (pg_tup rfl (pgs_cons (pg_name (i := 2) scp_settled.nd rfl (Or.inl rfl)) (pgs_cons (pg_name (i := 3) scp_settled.nd rfl (Or.inl rfl)) pgs_nil))))
      (pss_cons (ps_setDc (i := 4) (own := [("at", 6), ("number", 7)]) (g := (gTup K 2 (gCons (gName 6) (gCons (gName 7) gNil)))) (by rfl) scp_settled.nd rfl rfl (sw_trueD rfl rfl rfl (by decide +kernel)) (pi_enum (by rfl) T.n_enumerate (pa_cons (pv 2) pa_nil)) (blkOk_by (own := [("at", 6), ("number", 7)]) (N := ["kind", "roster", "own", "ends", "kinds", "tails", "at", "number"]) (sc := defScope s_p_settled) (by decide +kernel)) (fun _ _ _ _ _ => (pg_tup rfl (pgs_cons (pg_name (i := 6) scp_settled.nd rfl (Or.inl rfl)) (pgs_cons (pg_name (i := 7) scp_settled.nd rfl (Or.inl rfl)) pgs_nil)))) (fun _ _ _ _ _ => pts_nil) (fun _ _ _ _ _ => (pv 7)) (fun _ _ _ _ _ => (pe_tup (pa_cons pe_str (pa_cons (pv 6) pa_nil)))))
      (pss_cons (ps_setDc (i := 5) (own := [("at", 6), ("number", 7)]) (g := (gTup K 2 (gCons (gName 6) (gCons (gName 7) gNil)))) (by rfl) scp_settled.nd rfl rfl (sw_trueD rfl rfl rfl (by decide +kernel)) (pi_enum (by rfl) T.n_enumerate (pa_cons (pv 3) pa_nil)) (blkOk_by (own := [("at", 6), ("number", 7)]) (N := ["kind", "roster", "own", "ends", "kinds", "tails", "at", "number"]) (sc := defScope s_p_settled) (by decide +kernel)) (fun _ _ _ _ _ => (pg_tup rfl (pgs_cons (pg_name (i := 6) scp_settled.nd rfl (Or.inl rfl)) (pgs_cons (pg_name (i := 7) scp_settled.nd rfl (Or.inl rfl)) pgs_nil)))) (fun _ _ _ _ _ => pts_nil) (fun _ _ _ _ _ => (pv 7)) (fun _ _ _ _ _ => (pe_tup (pa_cons (pe_tup pa_nil) (pa_cons (pv 6) pa_nil)))))
      (pss_one (ps_ret (pe_tup (pa_cons (pe_callG G_p_put_in gd (hr.mono (by first | decide | omega)) rfl T.g_p_put_in T.F_p_put_in.kp T.b_p_put_in .nil pass0 (pa_cons (pv 0) (pa_cons (pv 4) (pa_cons (pv 5) pa_nil)))) (pa_cons (pe_callG G_p_put_in_roster gd (hr.mono (by first | decide | omega)) rfl T.g_p_put_in_roster T.F_p_put_in_roster.kp T.b_p_put_in_roster .nil pass0 (pa_cons (pv 1) (pa_cons (pv 4) (pa_cons (pv 5) pa_nil)))) pa_nil)))))))), ?_⟩
  refine ⟨_, rfl, _, rfl, v, u, k, r, rfl, hv, hu, ok, dn, d60, hz, fun f a b H1 e1 hf ha hb hfv tw => ?_⟩
  refine ⟨f, _, rfl, SqT.of hfv, rfl, _, _, rfl, _, _, rfl, rfl, ?_⟩
  have nd := opsR_nodup k r
  have l0 := ops_len k ([], [])
  have l1 : (opsR k r).1.length ≤ 9000 := by
    have z : (ops k ([], [])).1.length ≤ 0 + sz k := l0.1
    show (ops k ([], [])).1.length ≤ _
    omega
  have l2 : (opsR k r).2.length ≤ 9001 := by
    have z : (ops k ([], [])).2.length ≤ 0 + sz k := l0.2
    have z2 := tailO_len (ops k ([], [])).2 r.2
    show (tailO (ops k ([], [])).2 r.2).length ≤ _
    omega
  generalize eo : opsR k r = os at tw nd l1 l2
  -- kinds
  refine ⟨_, rfl, a, _, rfl, SqL.of tw.2.1, fun D hD => ?_⟩
  have naD : a ≠ D := ne_of_none tw.2.1 hD
  have nbD : b ≠ D := ne_of_none tw.2.2 hD
  have hD0 := Evl.fresh_back e1 hD
  refine dc_it (walk_enum (xs := os.1.map V.int)) (fun i H' => Ex H H' ∧ Two H' a b os ∧ ∃ kvs, H' D = some (.dK kvs) ∧ Df K H' kdD kvs (mkG (fun n => Kd.any n) (os.1.take i)))
    ⟨e1.trans (Ex.new hD), tw.ex (Ex.new hD), [], upd_same, .nil⟩ (fun i H' _ h => SqL.of h.2.1.2.1) ?_ ?_
  · rintro i x H2 H3 hi ⟨e2, tw2, kvs, hD2, df⟩ ⟨t, y, z, rfl, ht, rfl, ey, ez⟩
    cases ey
    obtain ⟨x, ex, rfl⟩ := getI (show (os.1.map V.int)[i]? = some z from ez)
    refine ⟨t, _, rfl, SqT.of upd_same, rfl, _, _, rfl, _, _, rfl, rfl, rfl, ?_⟩
    refine ⟨_, rfl, _, rfl, (by show 2 ≤ sizeLine; decide), fun o ho => ?_⟩
    have e3 : Ex H2 (upd (upd H2 t (.tup [.int ((i : Nat) : Int), .int x])) o (.tup [.str "any", .int ((i : Nat) : Int)])) := (Ex.new ht).trans (Ex.new ho)
    have hov : (upd (upd H2 t (.tup [.int ((i : Nat) : Int), .int x])) o (.tup [.str "any", .int ((i : Nat) : Int)])) o = some (.tup [.str "any", .int ((i : Nat) : Int)]) := upd_same
    generalize upd (upd H2 t (.tup [.int ((i : Nat) : Int), .int x])) o (.tup [.str "any", .int ((i : Nat) : Int)]) = H4 at e3 hov
    have df4 := df.ts (Ts.of_ex e3) (fun a => to_kd a)
    have pk := df4.put (x := x) (a := Kd.any ((i : Nat) : Int)) (by rw [mkG_keys]; exact nd_take nd.1 ex) (dp_any (SqT.of hov))
    have len : kvs.length = i := by
      have z := Paired.len df
      rw [mkG_len, List.length_take] at z
      rw [List.length_map] at hi
      omega
    refine ⟨kvs, Sum.inl x, rfl, e3 _ _ hD2, by rw [len]; rw [List.length_map] at hi; exact Evl.sz_lt (by omega), (e2.trans e3).mut hD0, ?_, _, upd_same, ?_⟩
    · have tw4 := tw2.ex e3
      exact ⟨tw4.1, by rw [upd_ne naD]; exact tw4.2.1, by rw [upd_ne nbD]; exact tw4.2.2⟩
    · rw [mkG_snoc (fun n => Kd.any n) ex]
      exact pk.2.ts (ts_upd (e3 _ _ hD2)) (fun a => to_kd a)
  rintro H2 ⟨e2, tw2, kvs, hD2, df⟩
  rw [List.length_map, List.take_length] at df
  have dmk : DM K H2 kdD D (mkK os.1 0) := ⟨kvs, hD2, df⟩
  -- tails
  refine ⟨_, rfl, b, _, rfl, SqL.of tw2.2.2, fun D2 hD2' => ?_⟩
  have naD2 : a ≠ D2 := ne_of_none tw2.2.1 hD2'
  have nbD2 : b ≠ D2 := ne_of_none tw2.2.2 hD2'
  have nDD : D ≠ D2 := ne_of_none hD2 hD2'
  have hD20 := Evl.fresh_back e2 hD2'
  refine dc_it (walk_enum (xs := os.2.map V.int)) (fun i H' => Ex H H' ∧ Two H' a b os ∧ DM K H' kdD D (mkK os.1 0) ∧ ∃ kvs, H' D2 = some (.dK kvs) ∧ Df K H' roD kvs (mkG (fun n => (([], some (n : Int)) : Ro)) (os.2.take i)))
    ⟨e2.trans (Ex.new hD2'), tw2.ex (Ex.new hD2'), dmk.ex (Ex.new hD2'), [], upd_same, .nil⟩ (fun i H' _ h => SqL.of h.2.1.2.2) ?_ ?_
  · rintro i x H3 H4 hi ⟨e3, tw3, dm3, kvs3, hD3, df3⟩ ⟨t, y, z, rfl, ht, rfl, ey, ez⟩
    cases ey
    obtain ⟨x, ex, rfl⟩ := getI (show (os.2.map V.int)[i]? = some z from ez)
    refine ⟨t, _, rfl, SqT.of upd_same, rfl, _, _, rfl, _, _, rfl, rfl, rfl, ?_⟩
    refine ⟨_, rfl, (by show 0 ≤ sizeLine; decide), fun o ho => ⟨_, rfl, (by show 2 ≤ sizeLine; decide), fun o2 ho2 => ?_⟩⟩
    have e4 : Ex H3 (upd (upd (upd H3 t (.tup [.int ((i : Nat) : Int), .int x])) o (.tup [])) o2 (.tup [.ref o, .int ((i : Nat) : Int)])) := ((Ex.new ht).trans (Ex.new ho)).trans (Ex.new ho2)
    have hov : (upd (upd (upd H3 t (.tup [.int ((i : Nat) : Int), .int x])) o (.tup [])) o2 (.tup [.ref o, .int ((i : Nat) : Int)])) o2 = some (.tup [.ref o, .int ((i : Nat) : Int)]) := upd_same
    have hov1 : (upd (upd (upd H3 t (.tup [.int ((i : Nat) : Int), .int x])) o (.tup [])) o2 (.tup [.ref o, .int ((i : Nat) : Int)])) o = some (.tup (([] : List Str).map V.str)) := by
      rw [upd_ne (ne_of_none upd_same ho2), upd_same]
      rfl
    generalize upd (upd (upd H3 t (.tup [.int ((i : Nat) : Int), .int x])) o (.tup [])) o2 (.tup [.ref o, .int ((i : Nat) : Int)]) = H5 at e4 hov hov1
    have df5 := df3.ts (Ts.of_ex e4) (fun a => to_ro a)
    have pk := df5.put (x := x) (a := (([], some ((i : Nat) : Int)) : Ro)) (by rw [mkG_keys]; exact nd_take nd.2 ex) (dp_ro (SqT.of hov) (SqT.of hov1))
    have len : kvs3.length = i := by
      have z := Paired.len df3
      rw [mkG_len, List.length_take] at z
      rw [List.length_map] at hi
      omega
    refine ⟨kvs3, Sum.inl x, rfl, e4 _ _ hD3, by rw [len]; rw [List.length_map] at hi; exact Evl.sz_lt (by omega), (e3.trans e4).mut hD20, ?_, ?_, _, upd_same, ?_⟩
    · have tw5 := tw3.ex e4
      exact ⟨tw5.1, by rw [upd_ne naD2]; exact tw5.2.1, by rw [upd_ne nbD2]; exact tw5.2.2⟩
    · obtain ⟨kv, hk, pr⟩ := dm3.ex e4
      exact ⟨kv, by rw [upd_ne nDD]; exact hk, Df.ts pr (ts_upd (e4 _ _ hD3)) (fun a => to_kd a)⟩
    · rw [mkG_snoc (fun n => (([], some (n : Int)) : Ro)) ex]
      exact pk.2.ts (ts_upd (e4 _ _ hD3)) (fun a => to_ro a)
  rintro H3 ⟨e3, tw3, dm3, kvs3, hD3, df3⟩
  rw [List.length_map, List.take_length] at df3
  have dmr : DM K H3 roD D2 (mkR os.2 0) := ⟨kvs3, hD3, df3⟩
  refine ⟨_, rfl, _, rfl, _, rfl, v, D, D2, k, _, _, rfl, Dp.ex e3 _ _ hv, ok, dn, d60, dm3, dmr, rm_mkR _, fun v1 H4 e4 r1 => ?_⟩
  refine ⟨_, rfl, _, rfl, _, rfl, u, .ref D, D2, r, _, rfl, Dp.ex (e3.trans e4) _ _ hu, Nat.le_trans okr.l (by decide), dmr.ex e4, rm_mkR _, fun v2 H5 e5 r2 => ?_⟩
  refine ⟨(by show 2 ≤ sizeLine; decide), fun p hp => ?_⟩
  refine q p _ (((e3.trans e4).trans e5).trans (Ex.new hp)) ?_
  unfold stD settle
  rw [eo]
  exact .tup (SqT.of upd_same) (.cons (Dp.ex (e5.trans (Ex.new hp)) _ _ r1) (.cons (Dp.ex (Ex.new hp) _ _ r2) .nil))
end
end K11

/-! K11: settled, by the law -/
namespace K11
open PySem L2 Grd
open PyProof.Rows (sortedS)
open Evl (Ex ex_t ex_l ex_rd)
theorem merge_nd : ∀ (more acc : List (Key × V)), (∀ p ∈ more, valV acc p.1 = none) → (more.map (·.1)).Nodup → mergeK acc more = acc ++ more
  | [], acc, _, _ => by simp [mergeK]
  | p :: r, acc, h, nd => by
    have n1 := h p (List.mem_cons_self ..)
    have e : mergeK acc (p :: r) = mergeK (acc ++ [(p.1, p.2)]) r := by
      rw [← putK_new p.2 n1]
      rfl
    rw [List.map_cons, List.nodup_cons] at nd
    rw [e, merge_nd r _ ?_ nd.2]
    · simp
    · intro x hx
      rw [valV_snoc p.1 x.1 p.2 acc n1, if_neg]
      · exact h x (List.mem_cons_of_mem _ hx)
      · intro z
        exact nd.1 (z ▸ List.mem_map_of_mem hx)
theorem Df.keys {α : Type} {K : PySem.W.Frag} {H : Hp} {f : α → PyData} : ∀ {kvs : List (Key × V)} {m : List (Int × α)}, Df K H f kvs m → kvs.map (·.1) = m.map (fun b => (Sum.inl b.1 : Key))
  | _, _, .nil => rfl
  | _, _, .cons r t => by
    simp only [List.map_cons]
    rw [r.1, Df.keys t]
theorem Df.merge {α : Type} {K : PySem.W.Frag} {H : Hp} {f : α → PyData} {F : Nat → α} {kvs : List (Key × V)} {l : List Int} (h : Df K H f kvs (mkG F l)) (nd : l.Nodup) : mergeK [] kvs = kvs := by
  have e := h.keys
  have e2 : (mkG F l).map (fun b => (Sum.inl b.1 : Key)) = l.map Sum.inl := by
    have z := mkG_keys F l
    have y : (mkG F l).map (fun b => (Sum.inl b.1 : Key)) = ((mkG F l).map (·.1)).map Sum.inl := by
      rw [List.map_map]
      rfl
    rw [y, z]
  rw [e2] at e
  have q := merge_nd kvs [] (fun _ _ => rfl) ?_
  · simpa using q
  · rw [e]
    refine List.pairwise_map.mpr (List.Pairwise.imp ?_ nd)
    intro a b hab z
    exact hab (Sum.inl.inj z)
section
variable {P : Program} {w : World} {K : PySem.W.Frag} {mg : Str → Option Value} {base : Heap}
theorem ok_settled (T : Txt K mg) (n : Nat) : Fn P w K mg base CX0 (2 + n) T.a_settled T.d_settled ["_law_made", "_law_row"] (sp_settled K n) := by
  have G_opens := ok_opens (P := P) (w := w) (base := base) T n
  have G_put := ok_put (P := P) (w := w) (base := base) T n
  have G_put_ends := ok_put_ends (P := P) (w := w) (base := base) T
  rw [show 2 + n = (1 + n) + 1 by omega]
  refine Grd.mk T.F_settled scsettled (fun vs H Q E h => ?_) (fun cdv A outer st H vs Q E gd hr h => ?_)
  · obtain ⟨v, u, k, r, rfl, _⟩ := h
    rfl
  obtain ⟨v, u, k, r, rfl, hv, hu, ok, okr, dn, d60, hz, q⟩ := h
  refine ⟨_, (pss_cons (ps_par (i := 2) (j := 3) (by rfl) scsettled.nd rfl rfl (by decide) rfl rfl (pa_cons (pe_lst pa_nil) (pa_cons (pe_lst pa_nil) pa_nil)) (by rfl))
      (pss_cons (ps_expr (pe_callG G_opens gd (hr.mono (by first | decide | omega)) rfl T.g_opens T.F_opens.kp T.b_opens .nil pass0 (pa_cons (pv 0) (pa_cons (pv 2) (pa_cons (pv 3) pa_nil)))))
      (Evl.pss_cut (ps_set (i := 3) scsettled.nd rfl (Or.inl rfl) (pe_op op_cat (pv 3) (pe_op op_rep (pe_lst (pa_cons (pe_ix ix_tup (pv 1) pe_int (fun _ _ => rfl)) pa_nil)) (pe_callTy call_int1 (by rfl) T.n_int (by decide +kernel) (pa_cons (pe_and (pe_cmpR op_notN (pe_ix ix_tup (pv 1) pe_int (fun _ _ => rfl)) pe_non (nomark _)) (pe_one (pe_cmpR op_notIn_seq (pe_ix ix_tup (pv 1) pe_int (fun _ _ => rfl)) (pv 3) (by rfl)))) pa_nil)))))
      (pss_cons (ps_set (i := 4) scsettled.nd rfl (Or.inl rfl) (pe_callTy (call_dictP rfl) (by rfl) T.n_dict (by decide +kernel) (pa_cons (pe_lc (own := [("_law_k", 6), ("_law_number", 7)]) (g := (gTup K 2 (gCons (gName 6) (gCons (gName 7) gNil)))) (by rfl) scsettled.nd (pi_enum (by rfl) T.n_enumerate (pa_cons (pv 2) pa_nil)) (blkOk_by (own := [("_law_k", 6), ("_law_number", 7)]) (N := ["_law_made", "_law_row", "_law_own", "_law_ends", "_law_some", "_law_tails", "_law_k", "_law_number"]) (sc := defScope s_settled) (by decide +kernel)) (fun _ _ _ _ _ => (pg_tup rfl (pgs_cons (pg_name (i := 6) scsettled.nd rfl (Or.inl rfl)) (pgs_cons (pg_name (i := 7) scsettled.nd rfl (Or.inl rfl)) pgs_nil)))) (fun _ _ _ _ _ => pts_nil) (fun _ _ _ _ _ => (pe_tup (pa_cons (pv 7) (pa_cons (pe_tup (pa_cons pe_str (pa_cons (pv 6) pa_nil))) pa_nil))))) pa_nil)))
      (pss_cons (ps_set (i := 5) scsettled.nd rfl (Or.inl rfl) (pe_callTy (call_dictP rfl) (by rfl) T.n_dict (by decide +kernel) (pa_cons (pe_lc (own := [("_law_k", 6), ("_law_number", 7)]) (g := (gTup K 2 (gCons (gName 6) (gCons (gName 7) gNil)))) (by rfl) scsettled.nd (pi_enum (by rfl) T.n_enumerate (pa_cons (pv 3) pa_nil)) (blkOk_by (own := [("_law_k", 6), ("_law_number", 7)]) (N := ["_law_made", "_law_row", "_law_own", "_law_ends", "_law_some", "_law_tails", "_law_k", "_law_number"]) (sc := defScope s_settled) (by decide +kernel)) (fun _ _ _ _ _ => (pg_tup rfl (pgs_cons (pg_name (i := 6) scsettled.nd rfl (Or.inl rfl)) (pgs_cons (pg_name (i := 7) scsettled.nd rfl (Or.inl rfl)) pgs_nil)))) (fun _ _ _ _ _ => pts_nil) (fun _ _ _ _ _ => (pe_tup (pa_cons (pv 7) (pa_cons (pe_tup (pa_cons (pe_tup pa_nil) (pa_cons (pv 6) pa_nil))) pa_nil))))) pa_nil)))
      (pss_one (ps_ret (pe_tup (pa_cons (pe_callG G_put gd (hr.mono (by first | decide | omega)) rfl T.g_put T.F_put.kp T.b_put .nil pass0 (pa_cons (pv 0) (pa_cons (pv 4) (pa_cons (pv 5) pa_nil)))) (pa_cons (pe_callG G_put_ends gd (hr.mono (by first | decide | omega)) rfl T.g_put_ends T.F_put_ends.kp T.b_put_ends .nil pass0 (pa_cons (pv 1) (pa_cons (pv 5) pa_nil))) pa_nil)))))))))), ?_⟩
  refine ⟨Nat.zero_le _, fun a ha => ⟨Nat.zero_le _, fun b hb => ⟨_, _, rfl, ?_⟩⟩⟩
  have e1 : Ex H (upd (upd H a (.lst [])) b (.lst [])) := (Ex.new ha).trans (Ex.new hb)
  have hb0 := Evl.fresh_back (Ex.new ha) hb
  have nba : b ≠ a := fun z => by rw [z, upd_same] at hb; cases hb
  have tw : Two (upd (upd H a (.lst [])) b (.lst [])) a b ([], []) := ⟨nba.symm, by rw [upd_ne nba.symm, upd_same]; rfl, by rw [upd_same]; rfl⟩
  generalize upd (upd H a (.lst [])) b (.lst []) = H1 at e1 tw
  refine ⟨_, rfl, _, rfl, _, rfl, v, a, b, k, ([], []), rfl, Dp.ex e1 _ _ hv, ok, dn, d60, tw, by show 0 + _ < _; omega, by show 0 + _ < _; omega, fun H2 bu tw2 => ?_⟩
  have e2 : Ex H H2 := fun c o hc => bu _ _ (ne_of_none hc ha) (ne_of_none hc hb0) (e1 _ _ hc)
  have l0 := ops_len k ([], [])
  have l0a : (ops k ([], [])).1.length ≤ 0 + sz k := l0.1
  have l0b : (ops k ([], [])).2.length ≤ 0 + sz k := l0.2
  obtain ⟨p, pt, rfl, hp0, _⟩ := inv_ro hu
  have hp := ex_t (K := K) e2 hp0
  have nd := opsR_nodup k r
  have l1 : (opsR k r).1.length ≤ 9000 := by
    show (ops k ([], [])).1.length ≤ _
    omega
  have l2 : (opsR k r).2.length ≤ 9001 := by
    have z2 := tailO_len (ops k ([], [])).2 r.2
    show (tailO (ops k ([], [])).2 r.2).length ≤ _
    omega
  refine ⟨fun σ' H' => ∃ c, σ' = [some v, some (.ref p), some (.ref a), some (.ref c), none, none, none, none] ∧ Ex H H' ∧ Two H' a c (opsR k r), ?_, ?_⟩
  · refine ⟨_, rfl, _, rfl, p, _, _, _, rfl, rfl, hp, rfl, (by show 1 ≤ sizeLine; decide), fun l hl => ?_⟩
    have el : Ex H2 (upd H2 l (.lst [optV r.2])) := Ex.new hl
    refine ⟨_, rfl, p, _, _, _, rfl, rfl, ex_t el hp, rfl, rfl, _, rfl, ?_⟩
    obtain ⟨ls, o⟩ := r
    cases o with
    | none =>
      refine .inr ⟨_, rfl, l, _, _, rfl, rfl, upd_same, by decide, by decide, (by show 1 * 0 ≤ sizeLine; decide), fun p2 hp2 => ?_⟩
      have e3 : Ex H2 (upd (upd H2 l (.lst [V.non])) p2 (.lst [])) := el.trans (Ex.new hp2)
      refine ⟨b, p2, _, _, rfl, rfl, e3 _ _ tw2.2.2, upd_same, ?_, fun c hc => ?_⟩
      · exact small_sz (by rw [List.length_map]; show _ + 0 ≤ _; omega)
      · have e4 := e3.trans (Ex.new (o := .lst ((ops k ([], [])).2.map V.int ++ [])) hc)
        refine ⟨c, rfl, e2.trans e4, ne_of_none (e3 _ _ tw2.2.1) hc, e4 _ _ tw2.2.1, ?_⟩
        rw [upd_same]
        show some (HO.lst ((ops k ([], [])).2.map V.int ++ [])) = _
        rw [List.append_nil]
        rfl
    | some m =>
      refine ⟨_, rfl, p, _, _, _, rfl, rfl, ex_t el hp, rfl, _, rfl, b, _, rfl, .inl (SqL.of (el _ _ tw2.2.2)), rfl, flatI _, .inr ⟨_, rfl, ?_⟩⟩
      have i01 := int01 (!inV (.int m) ((ops k ([], [])).2.map V.int))
      refine ⟨l, _, _, rfl, rfl, upd_same, i01.1, i01.2.1, ?_, fun p2 hp2 => ?_⟩
      · show 1 * _ ≤ sizeLine
        rw [Nat.one_mul]
        exact Nat.le_trans i01.2.2 (by decide)
      have e3 : Ex H2 (upd (upd H2 l (.lst [V.int m])) p2 (.lst (List.replicate (if (!inV (.int m) ((ops k ([], [])).2.map V.int)) = true then (1 : Int) else 0).toNat [V.int m]).flatten)) := el.trans (Ex.new hp2)
      refine ⟨b, p2, _, _, rfl, rfl, e3 _ _ tw2.2.2, upd_same, ?_, fun c hc => ?_⟩
      · exact small_sz (Nat.le_trans (Nat.add_le_add_left (rep_len _ _) _) (by rw [List.length_map]; omega))
      · have e4 := e3.trans (Ex.new (o := .lst ((ops k ([], [])).2.map V.int ++ (List.replicate (if (!inV (.int m) ((ops k ([], [])).2.map V.int)) = true then (1 : Int) else 0).toNat [V.int m]).flatten)) hc)
        refine ⟨c, rfl, e2.trans e4, ne_of_none (e3 _ _ tw2.2.1) hc, e4 _ _ tw2.2.1, ?_⟩
        rw [upd_same]
        show some (HO.lst ((ops k ([], [])).2.map V.int ++ (List.replicate (if (!inV (.int m) ((ops k ([], [])).2.map V.int)) = true then (1 : Int) else 0).toNat [V.int m]).flatten)) = _
        rw [rep_add]
        rfl
  rintro σ' H3 ⟨c, rfl, e3, tw3⟩
  generalize eo : opsR k r = os at tw3 nd l1 l2
  clear tw tw2 bu hp
  -- kinds
  refine ⟨_, rfl, a, _, rfl, SqL.of tw3.2.1, fun D hD => ?_⟩
  have naD : a ≠ D := ne_of_none tw3.2.1 hD
  have ncD : c ≠ D := ne_of_none tw3.2.2 hD
  have hD0 := Evl.fresh_back e3 hD
  refine lc_it (walk_enum (xs := os.1.map V.int)) (fun i H' => Ex H H' ∧ Two H' a c os ∧ ∃ ps kvs, H' D = some (.lst (ps.map V.ref)) ∧ Paired (fun p kv => SqT K H' p [kV kv.1, kv.2]) ps kvs ∧ Df K H' kdD kvs (mkG (fun n => Kd.any n) (os.1.take i)))
    ⟨e3.trans (Ex.new hD), tw3.ex (Ex.new hD), [], [], upd_same, .nil, .nil⟩ (fun i H' _ h => SqL.of h.2.1.2.1) ?_ ?_
  · rintro i x H4 H5 hi ⟨e4, tw4, ps, kvs, hD4, pp, df⟩ ⟨t, y, z, rfl, ht, rfl, ey, ez⟩
    cases ey
    obtain ⟨x, ex, rfl⟩ := getI (show (os.1.map V.int)[i]? = some z from ez)
    refine ⟨t, _, rfl, SqT.of upd_same, rfl, _, _, rfl, _, _, rfl, rfl, rfl, ?_⟩
    refine ⟨_, rfl, _, rfl, (by show 2 ≤ sizeLine; decide), fun o ho => ⟨(by show 2 ≤ sizeLine; decide), fun o2 ho2 => ?_⟩⟩
    have e5 : Ex H4 (upd (upd (upd H4 t (.tup [.int ((i : Nat) : Int), .int x])) o (.tup [.str "any", .int ((i : Nat) : Int)])) o2 (.tup [.int x, .ref o])) := ((Ex.new ht).trans (Ex.new ho)).trans (Ex.new ho2)
    have ho1 : (upd (upd (upd H4 t (.tup [.int ((i : Nat) : Int), .int x])) o (.tup [.str "any", .int ((i : Nat) : Int)])) o2 (.tup [.int x, .ref o])) o = some (.tup [.str "any", .int ((i : Nat) : Int)]) := by
      rw [upd_ne (ne_of_none upd_same ho2), upd_same]
    have ho3 : (upd (upd (upd H4 t (.tup [.int ((i : Nat) : Int), .int x])) o (.tup [.str "any", .int ((i : Nat) : Int)])) o2 (.tup [.int x, .ref o])) o2 = some (.tup [.int x, .ref o]) := upd_same
    generalize upd (upd (upd H4 t (.tup [.int ((i : Nat) : Int), .int x])) o (.tup [.str "any", .int ((i : Nat) : Int)])) o2 (.tup [.int x, .ref o]) = H6 at e5 ho1 ho3
    have len : ps.length = i := by
      have z1 := Paired.len pp
      have z := Paired.len df
      rw [mkG_len, List.length_take] at z
      rw [List.length_map] at hi
      omega
    have tsD := ts_updL (K := K) (o := .lst (ps.map V.ref ++ [.ref o2])) (e5 _ _ hD4)
    refine ⟨ps.map V.ref, e5 _ _ hD4, by rw [List.length_map, len]; rw [List.length_map] at hi; exact Evl.sz_lt (by omega), (e4.trans e5).mut hD0, ?_, ps ++ [o2], kvs ++ [(Sum.inl x, .ref o)], by rw [upd_same, List.map_append]; rfl, ?_, ?_⟩
    · have tw6 := tw4.ex e5
      exact ⟨tw6.1, by rw [upd_ne naD]; exact tw6.2.1, by rw [upd_ne ncD]; exact tw6.2.2⟩
    · exact Paired.app (Paired.mapP pp fun p kv q => tsD _ _ (ex_t e5 q)) (.cons (tsD _ _ (SqT.of ho3)) .nil)
    · rw [mkG_snoc (fun n => Kd.any n) ex]
      exact Paired.app ((df.ts (Ts.of_ex e5) (fun a => to_kd a)).ts tsD (fun a => to_kd a)) (.cons ⟨rfl, dp_any (tsD _ _ (SqT.of ho1))⟩ .nil)
  rintro H4 ⟨e4, tw4, ps, kvs, hD4, pp, df⟩
  rw [List.length_map, List.take_length] at df
  refine ⟨D, ps, kvs, rfl, SqL.of hD4, pp, fun d1 hd1 => ?_⟩
  rw [df.merge nd.1]
  have e5 : Ex H4 (upd H4 d1 (.dK kvs)) := Ex.new hd1
  have dmk : DM K (upd H4 d1 (.dK kvs)) kdD d1 (mkK os.1 0) := ⟨kvs, upd_same, df.ts (Ts.of_ex e5) (fun a => to_kd a)⟩
  have tw5 := tw4.ex e5
  have e45 := e4.trans e5
  generalize upd H4 d1 (.dK kvs) = H5 at e5 e45 dmk tw5
  clear hD4 pp df
  -- tails
  refine ⟨_, rfl, c, _, rfl, SqL.of tw5.2.2, fun D2 hD2 => ?_⟩
  have naD2 : a ≠ D2 := ne_of_none tw5.2.1 hD2
  have ncD2 : c ≠ D2 := ne_of_none tw5.2.2 hD2
  have hD20 := Evl.fresh_back e45 hD2
  have ndD2 : d1 ≠ D2 := by
    obtain ⟨kv, hk, _⟩ := dmk
    exact ne_of_none hk hD2
  refine lc_it (walk_enum (xs := os.2.map V.int)) (fun i H' => Ex H H' ∧ Two H' a c os ∧ DM K H' kdD d1 (mkK os.1 0) ∧ ∃ ps kvs, H' D2 = some (.lst (ps.map V.ref)) ∧ Paired (fun p kv => SqT K H' p [kV kv.1, kv.2]) ps kvs ∧ Df K H' roD kvs (mkG (fun n => (([], some (n : Int)) : Ro)) (os.2.take i)))
    ⟨e45.trans (Ex.new hD2), tw5.ex (Ex.new hD2), dmk.ex (Ex.new hD2), [], [], upd_same, .nil, .nil⟩ (fun i H' _ h => SqL.of h.2.1.2.2) ?_ ?_
  · rintro i x H6 H7 hi ⟨e6, tw6, dm6, ps, kvs, hD6, pp, df⟩ ⟨t, y, z, rfl, ht, rfl, ey, ez⟩
    cases ey
    obtain ⟨x, ex, rfl⟩ := getI (show (os.2.map V.int)[i]? = some z from ez)
    refine ⟨t, _, rfl, SqT.of upd_same, rfl, _, _, rfl, _, _, rfl, rfl, rfl, ?_⟩
    refine ⟨_, rfl, (by show 0 ≤ sizeLine; decide), fun o0 ho0 => ⟨_, rfl, (by show 2 ≤ sizeLine; decide), fun o ho => ⟨(by show 2 ≤ sizeLine; decide), fun o2 ho2 => ?_⟩⟩⟩
    have e7 : Ex H6 (upd (upd (upd (upd H6 t (.tup [.int ((i : Nat) : Int), .int x])) o0 (.tup [])) o (.tup [.ref o0, .int ((i : Nat) : Int)])) o2 (.tup [.int x, .ref o])) := (((Ex.new ht).trans (Ex.new ho0)).trans (Ex.new ho)).trans (Ex.new ho2)
    have h0 : (upd (upd (upd (upd H6 t (.tup [.int ((i : Nat) : Int), .int x])) o0 (.tup [])) o (.tup [.ref o0, .int ((i : Nat) : Int)])) o2 (.tup [.int x, .ref o])) o0 = some (.tup (([] : List Str).map V.str)) :=
      (Ex.new ho2) _ _ ((Ex.new ho) _ _ upd_same)
    have h1 : (upd (upd (upd (upd H6 t (.tup [.int ((i : Nat) : Int), .int x])) o0 (.tup [])) o (.tup [.ref o0, .int ((i : Nat) : Int)])) o2 (.tup [.int x, .ref o])) o = some (.tup [.ref o0, .int ((i : Nat) : Int)]) :=
      (Ex.new ho2) _ _ upd_same
    have h2 : (upd (upd (upd (upd H6 t (.tup [.int ((i : Nat) : Int), .int x])) o0 (.tup [])) o (.tup [.ref o0, .int ((i : Nat) : Int)])) o2 (.tup [.int x, .ref o])) o2 = some (.tup [.int x, .ref o]) := upd_same
    generalize upd (upd (upd (upd H6 t (.tup [.int ((i : Nat) : Int), .int x])) o0 (.tup [])) o (.tup [.ref o0, .int ((i : Nat) : Int)])) o2 (.tup [.int x, .ref o]) = H8 at e7 h0 h1 h2
    have len : ps.length = i := by
      have z1 := Paired.len pp
      have z := Paired.len df
      rw [mkG_len, List.length_take] at z
      rw [List.length_map] at hi
      omega
    have tsD := ts_updL (K := K) (o := .lst (ps.map V.ref ++ [.ref o2])) (e7 _ _ hD6)
    refine ⟨ps.map V.ref, e7 _ _ hD6, by rw [List.length_map, len]; rw [List.length_map] at hi; exact Evl.sz_lt (by omega), (e6.trans e7).mut hD20, ?_, ?_, ps ++ [o2], kvs ++ [(Sum.inl x, .ref o)], by rw [upd_same, List.map_append]; rfl, ?_, ?_⟩
    · have tw8 := tw6.ex e7
      exact ⟨tw8.1, by rw [upd_ne naD2]; exact tw8.2.1, by rw [upd_ne ncD2]; exact tw8.2.2⟩
    · obtain ⟨kv, hk, pr⟩ := dm6.ex e7
      exact ⟨kv, by rw [upd_ne ndD2]; exact hk, Df.ts pr tsD (fun a => to_kd a)⟩
    · exact Paired.app (Paired.mapP pp fun p kv q => tsD _ _ (ex_t e7 q)) (.cons (tsD _ _ (SqT.of h2)) .nil)
    · rw [mkG_snoc (fun n => (([], some (n : Int)) : Ro)) ex]
      exact Paired.app ((df.ts (Ts.of_ex e7) (fun a => to_ro a)).ts tsD (fun a => to_ro a)) (.cons ⟨rfl, dp_ro (r := (([], some ((i : Nat) : Int)) : Ro)) (tsD _ _ (SqT.of h1)) (tsD _ _ (SqT.of h0))⟩ .nil)
  rintro H6 ⟨e6, tw6, dm6, ps, kvs, hD6, pp, df⟩
  rw [List.length_map, List.take_length] at df
  refine ⟨D2, ps, kvs, rfl, SqL.of hD6, pp, fun d2 hd2 => ?_⟩
  rw [df.merge nd.2]
  have e7 : Ex H6 (upd H6 d2 (.dK kvs)) := Ex.new hd2
  have dmr : DM K (upd H6 d2 (.dK kvs)) roD d2 (mkR os.2 0) := ⟨kvs, upd_same, df.ts (Ts.of_ex e7) (fun a => to_ro a)⟩
  have dmk7 := dm6.ex e7
  have e67 := e6.trans e7
  generalize upd H6 d2 (.dK kvs) = H7 at e7 e67 dmr dmk7
  refine ⟨_, rfl, _, rfl, _, rfl, v, d1, d2, k, _, _, rfl, Dp.ex e67 _ _ hv, ok, dn, d60, dmk7, dmr, rm_mkR _, fun v1 H8 e8 r1 => ?_⟩
  refine ⟨_, rfl, _, rfl, .ref p, .non, d2, r, _, rfl, Dp.ex (e67.trans e8) _ _ hu, Nat.le_trans okr.l (by decide), dmr.ex e8, rm_mkR _, fun v2 H9 e9 r2 => ?_⟩
  refine ⟨(by show 2 ≤ sizeLine; decide), fun o ho => ?_⟩
  refine q o _ (((e67.trans e8).trans e9).trans (Ex.new ho)) ?_
  unfold stD settle
  rw [eo]
  exact .tup (SqT.of upd_same) (.cons (Dp.ex (e9.trans (Ex.new ho)) _ _ r1) (.cons (Dp.ex (Ex.new ho) _ _ r2) .nil))
end
end K11

/-! K11: sizes -/
namespace K11
open PySem L2 Grd
open PyProof.Rows (sortedS)
open PySem.PyData (strOk)
/-! ### rosters of few labels -/
def KdL (L : Nat) : Kd → Prop
  | .num => True
  | .any _ => True
  | .pair a b => KdL L a ∧ KdL L b
  | .fn a r b => KdL L a ∧ r.1.length ≤ L ∧ KdL L b
theorem KdL.mono {L M : Nat} (h : L ≤ M) : ∀ {k : Kd}, KdL L k → KdL M k
  | .num, _ => trivial
  | .any _, _ => trivial
  | .pair a b, k => ⟨KdL.mono h k.1, KdL.mono h k.2⟩
  | .fn a r b, k => ⟨KdL.mono h k.1, Nat.le_trans k.2.1 h, KdL.mono h k.2.2⟩
theorem kdl_ok : ∀ {k : Kd}, KdOk k → KdL 8 k
  | .num, _ => trivial
  | .any _, _ => trivial
  | .pair a b, k => ⟨kdl_ok k.1, kdl_ok k.2⟩
  | .fn a r b, k => ⟨kdl_ok k.1, k.2.1.l, kdl_ok k.2.2⟩
theorem look_mem {α : Type} {n : Int} {m : List (Int × α)} {a : α} (h : look n m = some a) : (n, a) ∈ m := by
  unfold look at h
  cases e : m.find? (fun p => decide (p.1 = n)) with
  | none => rw [e] at h; cases h
  | some p =>
    rw [e] at h
    have h1 := List.find?_some e
    have h2 := List.mem_of_find?_eq_some e
    have h3 : p.2 = a := Option.some.inj h
    have h4 : p.1 = n := of_decide_eq_true h1
    rw [← h3, ← h4]
    exact h2
theorem putR_len {r : Ro} {t : List (Int × Ro)} (hr : r.1.length ≤ 8) (ht : RmOk t) : (putR r t).1.length ≤ 16 := by
  unfold putR
  cases r.2 with
  | none => simp only; omega
  | some n =>
    simp only
    cases e : look n t with
    | none => simp only; omega
    | some m =>
      have := ht _ (look_mem e)
      simp only [srt_len, List.length_append]
      have h2 : m.1.length ≤ 8 := this
      omega
theorem kdl_put {m : List (Int × Kd)} {t : List (Int × Ro)} (hm : ∀ e ∈ m, KdL 8 e.2) (ht : RmOk t) : ∀ {k : Kd}, KdL 8 k → KdL 16 (put k m t)
  | .num, _ => trivial
  | .any n, _ => by
    simp only [put]
    cases e : look n m with
    | none => exact trivial
    | some a => exact KdL.mono (by decide) (hm _ (look_mem e))
  | .pair a b, k => ⟨kdl_put hm ht k.1, kdl_put hm ht k.2⟩
  | .fn a r b, k => ⟨kdl_put hm ht k.1, putR_len k.2.1 ht, kdl_put hm ht k.2.2⟩
theorem dep_put {m : List (Int × Kd)} {t : List (Int × Ro)} (hm : ∀ e ∈ m, dep e.2 ≤ 3) : ∀ (k : Kd), dep (put k m t) ≤ dep k + 3
  | .num => by simp only [put]; omega
  | .any n => by
    simp only [put]
    cases e : look n m with
    | none => simp only [Option.getD, dep]; omega
    | some a =>
      have h : dep a ≤ 3 := hm _ (look_mem e)
      simp only [Option.getD, dep]; omega
  | .pair a b => by
    have h1 := dep_put (t := t) hm a
    have h2 := dep_put (t := t) hm b
    simp only [put, dep]; omega
  | .fn a r b => by
    have h1 := dep_put (t := t) hm a
    have h2 := dep_put (t := t) hm b
    simp only [put, dep]; omega
theorem put_nil : ∀ k : Kd, put k [] [] = k
  | .num => rfl
  | .any n => rfl
  | .pair a b => by simp only [put, put_nil a, put_nil b]
  | .fn a r b => by
    have e : putR r [] = r := by
      unfold putR
      cases h : r.2 with
      | none => rfl
      | some n => rfl
    simp only [put, put_nil a, put_nil b, e]
theorem wid_strs : ∀ ss : List Str, widAll (ss.map PyData.str) = true
  | [] => by simp only [List.map_nil, widAll]
  | s :: r => by simp only [List.map_cons, widAll, wid, wid_strs r, Bool.and_self]
theorem wid_opt (o : Option Int) : wid (optD o) = true := by cases o <;> simp only [optD, wid]
theorem wid_ro {r : Ro} (h : r.1.length ≤ 16) : wid (roD r) = true := by
  have e : decide ((r.1.map PyData.str).length ≤ 10000) = true := by
    rw [List.length_map]
    exact decide_eq_true (by omega)
  simp only [roD, wid, widAll, wid_strs, wid_opt, e, List.length_cons, List.length_nil]
  rfl
theorem wid_kd : ∀ {k : Kd}, KdL 16 k → wid (kdD k) = true
  | .num, _ => by simp only [kdD, wid]
  | .any n, _ => by simp only [kdD, wid, widAll, List.length_cons, List.length_nil]; rfl
  | .pair a b, h => by simp only [kdD, wid, widAll, wid_kd h.1, wid_kd h.2, List.length_cons, List.length_nil]; rfl
  | .fn a r b, h => by simp only [kdD, wid, widAll, wid_kd h.1, wid_ro h.2.1, wid_kd h.2.2, List.length_cons, List.length_nil]; rfl
/-! ### how many parts -/
theorem sz_dep : ∀ k : Kd, sz k + 1 ≤ 2 ^ dep k
  | .num => by simp only [sz, dep]; decide
  | .any n => by simp only [sz, dep]; decide
  | .pair a b => by
    have h1 := sz_dep a
    have h2 := sz_dep b
    have g1 : 2 ^ dep a ≤ 2 ^ max (dep a) (dep b) := Nat.pow_le_pow_right (by decide) (Nat.le_max_left _ _)
    have g2 : 2 ^ dep b ≤ 2 ^ max (dep a) (dep b) := Nat.pow_le_pow_right (by decide) (Nat.le_max_right _ _)
    simp only [sz, dep, Nat.pow_add]
    omega
  | .fn a r b => by
    have h1 := sz_dep a
    have h2 := sz_dep b
    have g1 : 2 ^ dep a ≤ 2 ^ max (dep a) (dep b) := Nat.pow_le_pow_right (by decide) (Nat.le_max_left _ _)
    have g2 : 2 ^ dep b ≤ 2 ^ max (dep a) (dep b) := Nat.pow_le_pow_right (by decide) (Nat.le_max_right _ _)
    simp only [sz, dep, Nat.pow_add]
    omega
theorem sz_small {k : Kd} (h : dep k ≤ 6) : sz k ≤ 63 := by
  have h1 := sz_dep k
  have h2 : 2 ^ dep k ≤ 2 ^ 6 := Nat.pow_le_pow_right (by decide) h
  have e : 2 ^ 6 = 64 := by decide
  omega
/-! ### settled kinds are kinds -/
theorem dep_ren (f g : Int → Int) : ∀ k : Kd, dep (ren f g k) = dep k
  | .num => rfl
  | .any _ => rfl
  | .pair a b => by simp only [ren, dep, dep_ren f g a, dep_ren f g b]
  | .fn a r b => by simp only [ren, dep, dep_ren f g a, dep_ren f g b]
theorem ok_ren {f g : Int → Int} (hf : ∀ n, 0 ≤ f n ∧ f n ≤ 1000) (hg : ∀ n, 0 ≤ g n ∧ g n ≤ 1000) : ∀ {k : Kd}, KdOk k → KdOk (ren f g k)
  | .num, _ => trivial
  | .any n, _ => hf n
  | .pair a b, h => ⟨ok_ren hf hg h.1, ok_ren hf hg h.2⟩
  | .fn a r b, h => ⟨ok_ren hf hg h.1, ⟨h.2.1.s, h.2.1.l, h.2.1.t, fun n hn => by
      have hn' : r.2.map g = some n := hn
      cases e : r.2 with
      | none => rw [e] at hn'; cases hn'
      | some x => rw [e] at hn'; cases hn'; exact hg x⟩, ok_ren hf hg h.2.2⟩
theorem ok_renR {g : Int → Int} (hg : ∀ n, 0 ≤ g n ∧ g n ≤ 1000) {r : Ro} (h : RoOk r) : RoOk (renR g r) :=
  ⟨h.s, h.l, h.t, fun n hn => by
    have hn' : r.2.map g = some n := hn
    cases e : r.2 with
    | none => rw [e] at hn'; cases hn'
    | some x => rw [e] at hn'; cases hn'; exact hg x⟩
theorem kds_ok : ∀ {k : Kd}, KdOk k → KdS k
  | .num, _ => trivial
  | .any _, _ => trivial
  | .pair a b, h => ⟨kds_ok h.1, kds_ok h.2⟩
  | .fn a r b, h => ⟨kds_ok h.1, h.2.1.s, kds_ok h.2.2⟩
theorem pl_le {l : List Int} (h : l.length ≤ 1000) (n : Int) : 0 ≤ pl l n ∧ pl l n ≤ 1000 := by
  have := List.idxOf_le_length (l := l) (a := n)
  unfold pl
  omega
theorem opsR_len {k : Kd} (r : Ro) (h : dep k ≤ 6) : (opsR k r).1.length ≤ 63 ∧ (opsR k r).2.length ≤ 64 := by
  have hz := sz_small h
  have l0 := ops_len k ([], [])
  have l0a : (ops k ([], [])).1.length ≤ 0 + sz k := l0.1
  have l0b : (ops k ([], [])).2.length ≤ 0 + sz k := l0.2
  have z2 := tailO_len (ops k ([], [])).2 r.2
  constructor
  · show (ops k ([], [])).1.length ≤ _
    omega
  · show (tailO (ops k ([], [])).2 r.2).length ≤ _
    omega
theorem settle_ok {k : Kd} {r : Ro} (hk : KdOk k) (hr : RoOk r) (h : dep k ≤ 6) : KdOk (settle k r).1 ∧ RoOk (settle k r).2 ∧ dep (settle k r).1 ≤ 6 := by
  have hl := opsR_len r h
  rw [settle_ren k r (kds_ok hk) hr.s]
  have f := pl_le (l := (opsR k r).1) (by omega)
  have g := pl_le (l := (opsR k r).2) (by omega)
  exact ⟨ok_ren f g hk, ok_renR g hr, by simp only [dep_ren]; exact h⟩
theorem stD_twice {k : Kd} {r : Ro} (hk : KdOk k) (hr : RoOk r) : stD (settle k r).1 (settle k r).2 = stD k r := by
  unfold stD
  rw [settle_twice k r (kds_ok hk) hr.s]
end K11

/-! K11: how long a repr is -/
namespace K11
open PySem L2 Grd
/-- shown in few signs -/
structure Fine (d : PyData) (w n : Nat) : Prop where
  sh : d.showable = true
  le : d.leavesShort 13 = true
  we : d.weight ≤ w
  de : d.depth ≤ n
theorem Fine.mono {d : PyData} {w n v m : Nat} (h : Fine d w n) (a : w ≤ v) (b : n ≤ m) : Fine d v m := ⟨h.sh, h.le, Nat.le_trans h.we a, Nat.le_trans h.de b⟩
theorem fine_int {i : Int} (h : 0 ≤ i ∧ i ≤ 1000) : Fine (.int i) 12 0 := by
  have al : ∀ n : Fin 1001, n.val.log2 < 11 := by decide +kernel
  have g := al ⟨i.natAbs, by omega⟩
  have g' : i.natAbs.log2 < 11 := g
  refine ⟨?_, ?_, ?_, ?_⟩
  · simp only [PyData.showable, decide_eq_true_eq]; omega
  · simp only [PyData.leavesShort, decide_eq_true_eq]
    exact PyData.shown_int_le (by have : (10 : Nat) ^ 12 = 1000000000000 := by decide
                                  omega)
  · simp only [PyData.weight]
    split
    · omega
    · omega
  · simp only [PyData.depth]; omega
theorem fine_str {s : Str} {n : Nat} (h : Sg n s) : Fine (.str s) n 0 := by
  refine ⟨by simp only [PyData.showable], ?_, ?_, by simp only [PyData.depth]; omega⟩
  · simp only [PyData.leavesShort, List.all_eq_true, decide_eq_true_eq]
    intro c hc
    have h1 := h.2 c hc
    have e : (16 : Nat) ^ 8 = 4294967296 := by decide
    omega
  · simp only [PyData.weight]
    exact h.1
structure FineA (ds : List PyData) (w n : Nat) : Prop where
  sh : PyData.showableAll ds = true
  le : PyData.leavesShortAll 13 ds = true
  we : PyData.weightAll ds ≤ w
  de : PyData.depthAll ds ≤ n
theorem fine_nil {n : Nat} : FineA [] 0 n := ⟨by simp only [PyData.showableAll], by simp only [PyData.leavesShortAll], by simp only [PyData.weightAll]; omega, by simp only [PyData.depthAll]; omega⟩
theorem fine_cons {d : PyData} {ds : List PyData} {w v n : Nat} (h : Fine d w n) (k : FineA ds v n) : FineA (d :: ds) (w + 1 + v) n := by
  have a := h.we
  have b := k.we
  have a' := h.de
  have b' := k.de
  refine ⟨by simp only [PyData.showableAll, h.sh, k.sh, Bool.and_self], by simp only [PyData.leavesShortAll, h.le, k.le, Bool.and_self], by simp only [PyData.weightAll]; omega, by simp only [PyData.depthAll]; omega⟩
theorem fine_tup {ds : List PyData} {w n : Nat} (k : FineA ds w n) : Fine (.tuple ds) w (n + 1) :=
  ⟨by simp only [PyData.showable]; exact k.sh, by simp only [PyData.leavesShort]; exact k.le, by simp only [PyData.weight]; exact k.we, by simp only [PyData.depth]; have := k.de; omega⟩
theorem fine_lst {ds : List PyData} {w n : Nat} (k : FineA ds w n) : Fine (.list ds) w (n + 1) :=
  ⟨by simp only [PyData.showable]; exact k.sh, by simp only [PyData.leavesShort]; exact k.le, by simp only [PyData.weight]; exact k.we, by simp only [PyData.depth]; have := k.de; omega⟩
theorem fine_strs {n : Nat} : ∀ {ss : List Str}, (∀ s ∈ ss, Sg n s) → FineA (ss.map PyData.str) (ss.length * (n + 1)) 0
  | [], _ => by
    have := @fine_nil 0
    exact ⟨this.sh, this.le, by simp only [List.map_nil, PyData.weightAll]; omega, this.de⟩
  | s :: r, h => by
    have q := fine_cons (fine_str (h s (List.mem_cons_self ..))) (fine_strs fun x hx => h x (List.mem_cons_of_mem _ hx))
    refine ⟨q.sh, q.le, Nat.le_trans q.we ?_, q.de⟩
    rw [List.length_cons, Nat.succ_mul]
    omega
theorem FineA.mono {d : List PyData} {w n v m : Nat} (h : FineA d w n) (a : w ≤ v) (b : n ≤ m) : FineA d v m := ⟨h.sh, h.le, Nat.le_trans h.we a, Nat.le_trans h.de b⟩
theorem fine_kv {w n : Nat} : ∀ {ds : List (Int × PyData)}, (∀ q ∈ ds, (0 ≤ q.1 ∧ q.1 ≤ 1000) ∧ Fine q.2 w n) →
    PyData.showableKv (ds.map fun q => (PyData.int q.1, q.2)) = true ∧ PyData.leavesShortKv 13 (ds.map fun q => (PyData.int q.1, q.2)) = true ∧ PyData.weightKv (ds.map fun q => (PyData.int q.1, q.2)) ≤ ds.length * (w + 14) ∧ PyData.depthKv (ds.map fun q => (PyData.int q.1, q.2)) ≤ n
  | [], _ => by
    simp only [List.map_nil, PyData.showableKv, PyData.leavesShortKv, PyData.weightKv, PyData.depthKv]
    exact ⟨trivial, trivial, Nat.zero_le _, Nat.zero_le _⟩
  | q :: r, h => by
    obtain ⟨a, b, c, d⟩ := fine_kv (ds := r) fun x hx => h x (List.mem_cons_of_mem _ hx)
    have z := h q (List.mem_cons_self ..)
    have i := fine_int z.1
    have iw := i.we
    have idd := i.de
    have qw := z.2.we
    have qd := z.2.de
    simp only [List.map_cons, PyData.showableKv, PyData.leavesShortKv, PyData.weightKv, PyData.depthKv, a, b, i.sh, i.le, z.2.sh, z.2.le, Bool.and_self]
    refine ⟨trivial, trivial, ?_, ?_⟩
    · rw [List.length_cons, Nat.succ_mul]; omega
    · omega
theorem fine_dict {w n : Nat} {ds : List (Int × PyData)} (h : ∀ q ∈ ds, (0 ≤ q.1 ∧ q.1 ≤ 1000) ∧ Fine q.2 w n) : Fine (.dict (ds.map fun q => (PyData.int q.1, q.2))) (ds.length * (w + 14)) (n + 1) := by
  obtain ⟨a, b, c, d⟩ := fine_kv h
  exact ⟨by simp only [PyData.showable]; exact a, by simp only [PyData.leavesShort]; exact b, by simp only [PyData.weight]; exact c, by simp only [PyData.depth]; omega⟩
/-! ### kinds and rosters -/
theorem fine_opt {r : Ro} (h : RoOk r) : Fine (optD r.2) 12 0 := by
  cases e : r.2 with
  | none => exact ⟨by simp only [optD, PyData.showable], by simp only [optD, PyData.leavesShort], by simp only [optD, PyData.weight]; omega, by simp only [optD, PyData.depth]; omega⟩
  | some n => exact fine_int (h.n n e)
theorem fine_ro {r : Ro} (h : RoOk r) : Fine (roD r) 126 2 := by
  have l := h.l
  have s : Fine (.tuple (r.1.map PyData.str)) 112 1 := fine_tup ((fine_strs h.t).mono (by omega) (by omega))
  exact (fine_tup (fine_cons s (fine_cons ((fine_opt h).mono (Nat.le_refl _) (by omega)) fine_nil))).mono (by omega) (by omega)
theorem sgw (s : Str) (n : Nat) (h : (decide (s.length ≤ n) && s.cps.toList.all fun c => decide (c < 0x110000)) = true) : Sg n s := by
  simp only [Bool.and_eq_true, decide_eq_true_eq, List.all_eq_true] at h
  exact h
theorem fine_kd : ∀ {k : Kd}, KdOk k → ∃ w, w + 200 ≤ 200 * 2 ^ dep k ∧ Fine (kdD k) w (2 + dep k)
  | .num, _ => ⟨6, by simp only [dep]; decide, (fine_str (sgw "number" 6 (by decide +kernel))).mono (Nat.le_refl _) (by omega)⟩
  | .any n, h => ⟨17, by simp only [dep]; decide, (fine_tup (fine_cons (fine_str (sgw "any" 3 (by decide +kernel))) (fine_cons (fine_int h) fine_nil))).mono (by omega) (by omega)⟩
  | .pair a b, h => by
    obtain ⟨wa, la, fa⟩ := fine_kd h.1
    obtain ⟨wb, lb, fb⟩ := fine_kd h.2
    have g1 : 2 ^ dep a ≤ 2 ^ max (dep a) (dep b) := Nat.pow_le_pow_right (by decide) (Nat.le_max_left _ _)
    have g2 : 2 ^ dep b ≤ 2 ^ max (dep a) (dep b) := Nat.pow_le_pow_right (by decide) (Nat.le_max_right _ _)
    refine ⟨7 + wa + wb, ?_, ?_⟩
    · simp only [dep, Nat.pow_add]; omega
    · have w := fine_str (sgw "pair" 4 (by decide +kernel))
      have q := fine_tup (fine_cons (w.mono (Nat.le_refl _) (Nat.zero_le (2 + max (dep a) (dep b)))) (fine_cons (fa.mono (Nat.le_refl _) (by omega)) (fine_cons (fb.mono (Nat.le_refl _) (by omega)) fine_nil)))
      exact q.mono (by omega) (by simp only [dep]; omega)
  | .fn a r b, h => by
    obtain ⟨wa, la, fa⟩ := fine_kd h.1
    obtain ⟨wb, lb, fb⟩ := fine_kd h.2.2
    have g1 : 2 ^ dep a ≤ 2 ^ max (dep a) (dep b) := Nat.pow_le_pow_right (by decide) (Nat.le_max_left _ _)
    have g2 : 2 ^ dep b ≤ 2 ^ max (dep a) (dep b) := Nat.pow_le_pow_right (by decide) (Nat.le_max_right _ _)
    refine ⟨133 + wa + wb, ?_, ?_⟩
    · simp only [dep, Nat.pow_add]; omega
    · have w := fine_str (sgw "fun" 3 (by decide +kernel))
      have q := fine_tup (fine_cons (w.mono (Nat.le_refl _) (Nat.zero_le (2 + max (dep a) (dep b)))) (fine_cons (fa.mono (Nat.le_refl _) (by omega)) (fine_cons ((fine_ro h.2.1).mono (Nat.le_refl _) (by omega)) (fine_cons (fb.mono (Nat.le_refl _) (by omega)) fine_nil))))
      exact q.mono (by omega) (by simp only [dep]; omega)
theorem fine_kdN {k : Kd} (h : KdOk k) {n : Nat} (d : dep k ≤ n) : Fine (kdD k) (200 * 2 ^ n) (2 + n) := by
  obtain ⟨w, l, f⟩ := fine_kd h
  have g : 2 ^ dep k ≤ 2 ^ n := Nat.pow_le_pow_right (by decide) d
  exact f.mono (by omega) (by omega)
/-- the dicts that are put in -/
def MOk {α : Type} (R : α → Prop) (m : List (Int × α)) : Prop := m.length ≤ 3 ∧ ∀ e ∈ m, (0 ≤ e.1 ∧ e.1 ≤ 1000) ∧ R e.2
def mD {α : Type} (f : α → PyData) (m : List (Int × α)) : PyData := .dict ((m.map fun e => (e.1, f e.2)).map fun q => (PyData.int q.1, q.2))
theorem repr_ok {k : Kd} {r : Ro} {m : List (Int × Kd)} {t : List (Int × Ro)} (hk : KdOk k) (hd : dep k ≤ 6) (hr : RoOk r) (hm : MOk (fun a => KdOk a ∧ dep a ≤ 3) m) (ht : MOk RoOk t) :
    (PyData.list [kdD k, roD r, mD kdD m, mD roD t]).showable = true ∧ (PyData.list [kdD k, roD r, mD kdD m, mD roD t]).depth ≤ 60 ∧ (PyData.list [kdD k, roD r, mD kdD m, mD roD t]).shown.length ≤ sizeLine := by
  have f1 := (fine_kdN hk hd).mono (Nat.le_refl _) (show 2 + 6 ≤ 10 by decide)
  have f2 := (fine_ro hr).mono (Nat.le_refl _) (show 2 ≤ 10 by decide)
  have f3 : Fine (mD kdD m) 20000 10 := by
    have := fine_dict (w := 200 * 2 ^ 3) (n := 2 + 3) (ds := m.map fun e => (e.1, kdD e.2)) (by
      intro q hq
      obtain ⟨e, he, rfl⟩ := List.mem_map.mp hq
      have z := hm.2 e he
      exact ⟨z.1, fine_kdN z.2.1 z.2.2⟩)
    refine this.mono ?_ (by decide)
    rw [List.length_map]
    have l := hm.1
    have e : 200 * 2 ^ 3 = 1600 := by decide
    omega
  have f4 : Fine (mD roD t) 20000 10 := by
    have := fine_dict (w := 126) (n := 2) (ds := t.map fun e => (e.1, roD e.2)) (by
      intro q hq
      obtain ⟨e, he, rfl⟩ := List.mem_map.mp hq
      have z := ht.2 e he
      exact ⟨z.1, fine_ro z.2⟩)
    refine this.mono ?_ (by decide)
    rw [List.length_map]
    have l := ht.1
    omega
  have F := fine_lst (fine_cons f1 (fine_cons f2 (fine_cons f3 (fine_cons f4 fine_nil))))
  have fw := F.we
  have fd := F.de
  refine ⟨F.sh, by omega, PyData.shown_fits (B := 13) (by decide) (by decide) F.le (Nat.le_trans fw (by decide))⟩
end K11

/-! K11: one dip is right -/
namespace K11
open PySem L2 Grd
open PyProof.Rows (sortedS)
open Evl (Ex ex_t ex_l ex_rd)
/-- what holds while one dip is looked at -/
structure Sd (K : PySem.W.Frag) (H : Hp) (b l : Addr) (ds : List Str) (v u : V) (k : Kd) (r : Ro) (c : Nat) (H' : Hp) : Prop where
  bu : But b H H'
  bx : Bx H' b c
  hl : H' l = some (.lst (ds.map V.str))
  hv : Dp K H' v (kdD k)
  hu : Dp K H' u (roD r)
section
variable {K : PySem.W.Frag} {H H1 H2 : Hp} {b l : Addr} {ds : List Str} {v u : V} {k : Kd} {r : Ro} {c c2 : Nat}
theorem But.fresh {a : Addr} (h : But b H H1) (x : Bx H1 b c) (e : H1 a = none) : H a = none ∧ a ≠ b := by
  have n : a ≠ b := by
    obtain ⟨x, y, z, q, _⟩ := x
    exact fun z => by rw [z, q] at e; cases e
  refine ⟨?_, n⟩
  cases q : H a with
  | none => rfl
  | some o => rw [h _ _ n q] at e; cases e
theorem Sd.ex (h : Sd K H b l ds v u k r c H1) (e : Ex H1 H2) : Sd K H b l ds v u k r c H2 :=
  ⟨h.bu.trans (But.of_ex e), h.bx.ex e, e _ _ h.hl, Dp.ex e _ _ h.hv, Dp.ex e _ _ h.hu⟩
theorem Sd.mono (h : Sd K H b l ds v u k r c H1) (e : c ≤ c2) : Sd K H b l ds v u k r c2 H1 := ⟨h.bu, h.bx.mono e, h.hl, h.hv, h.hu⟩
theorem Sd.but (h : Sd K H b l ds v u k r c H1) (n : l ≠ b) (bu : But b H1 H2) (bx : Bx H2 b c2) : Sd K H b l ds v u k r c2 H2 :=
  ⟨h.bu.trans bu, bx, bu _ _ n h.hl, Dp.tst (bu.ts h.bx) _ _ (to_kd k) h.hv, Dp.tst (bu.ts h.bx) _ _ (to_ro r) h.hu⟩
theorem Sd.fresh (h : Sd K H b l ds v u k r c H1) {a : Addr} (e : H1 a = none) : H a = none ∧ a ≠ b ∧ a ≠ l := by
  have z := h.bu.fresh h.bx e
  exact ⟨z.1, z.2, fun y => by rw [y, h.hl] at e; cases e⟩
theorem Sd.mutG (h : Sd K H b l ds v u k r c H1) {a : Addr} {o : HO} (e : H a = none) (nb : a ≠ b) (nl : a ≠ l) (q : Ts K H1 (upd H1 a o)) : Sd K H b l ds v u k r c (upd H1 a o) := by
  refine ⟨fun x ob nx hx => ?_, ?_, ?_, Dp.tst q _ _ (to_kd k) h.hv, Dp.tst q _ _ (to_ro r) h.hu⟩
  · rw [upd_ne (fun z => by rw [z, e] at hx; cases hx)]
    exact h.bu _ _ nx hx
  · obtain ⟨x, y, z, hb, w⟩ := h.bx
    exact ⟨x, y, z, by rw [upd_ne nb.symm]; exact hb, w⟩
  · rw [upd_ne nl.symm]
    exact h.hl
theorem Sd.mut (h : Sd K H b l ds v u k r c H1) {a : Addr} {xs : List V} {o : HO} (e : H a = none) (nb : a ≠ b) (nl : a ≠ l) (q : H1 a = some (.lst xs)) : Sd K H b l ds v u k r c (upd H1 a o) := h.mutG e nb nl (ts_updL q)
theorem Sd.but2 (h : Sd K H b l ds v u k r c H1) {a e : Addr} {s : List Int × List Int} (tw : Two H1 a e s) (ha : H a = none ∧ a ≠ b ∧ a ≠ l) (he : H e = none ∧ e ≠ b ∧ e ≠ l) (bu : But2 a e H1 H2) : Sd K H b l ds v u k r c H2 := by
  refine ⟨fun x ob nx hx => ?_, ?_, bu _ _ ha.2.2.symm he.2.2.symm h.hl, Dp.tst (bu.ts tw) _ _ (to_kd k) h.hv, Dp.tst (bu.ts tw) _ _ (to_ro r) h.hu⟩
  · exact bu _ _ (fun z => by rw [z, ha.1] at hx; cases hx) (fun z => by rw [z, he.1] at hx; cases hx) (h.bu _ _ nx hx)
  · obtain ⟨x, y, z, hb, w⟩ := h.bx
    exact ⟨x, y, z, bu _ _ ha.2.1.symm he.2.1.symm hb, w⟩
theorem DM.ts {α : Type} {f : α → PyData} {p : Addr} {m : List (Int × α)} (h : DM K H1 f p m) (to : ∀ a, tupOnly (f a) = true) (t : Ts K H1 H2) (e : ∀ kvs, H1 p = some (.dK kvs) → H2 p = some (.dK kvs)) : DM K H2 f p m := by
  obtain ⟨kvs, hk, pr⟩ := h
  exact ⟨kvs, e _ hk, Df.ts pr t to⟩
theorem DM.but {α : Type} {f : α → PyData} {p : Addr} {m : List (Int × α)} (h : DM K H1 f p m) (to : ∀ a, tupOnly (f a) = true) (bx : Bx H1 b c) (bu : But b H1 H2) : DM K H2 f p m :=
  h.ts to (bu.ts bx) fun kvs hk => bu _ _ (bx.ne hk (fun _ z => by cases z)) hk
theorem DM.dr {α : Type} {f : α → PyData} {p : Addr} {m : List (Int × α)} (h : DM K H1 f p m) (to : ∀ a, tupOnly (f a) = true) : Dr K H1 (.ref p) (mD f m) := by
  obtain ⟨kvs, hk, pr⟩ := h
  refine Dr.dct hk ?_
  clear hk
  induction pr with
  | nil => exact .nil
  | cons a _ ih => exact .cons ⟨a.1, to _, a.2⟩ ih
theorem ints_dp : ∀ ns : List Int, DpAll K H1 (ns.map V.int) (ns.map PyData.int)
  | [] => .nil
  | n :: r => .cons (.int n) (ints_dp r)
theorem wid_ints : ∀ ns : List Int, widAll (ns.map PyData.int) = true
  | [] => by simp only [List.map_nil, widAll]
  | s :: r => by simp only [List.map_cons, widAll, wid, wid_ints r, Bool.and_self]
theorem dep_ints : ∀ ns : List Int, PyData.depthAll (ns.map PyData.int) = 0
  | [] => by simp only [List.map_nil, PyData.depthAll]
  | s :: r => by simp only [List.map_cons, PyData.depthAll, PyData.depth, dep_ints r, Nat.max_self]
def twD (s : List Int × List Int) : PyData := .tuple [.list (s.1.map PyData.int), .list (s.2.map PyData.int)]
theorem tw_dp {a e t : Addr} {s : List Int × List Int} (tw : Two H1 a e s) (ht : SqT K H1 t [.ref a, .ref e]) : Dp K H1 (.ref t) (twD s) :=
  .tup ht (.cons (.lst (SqL.of tw.2.1) (ints_dp _)) (.cons (.lst (SqL.of tw.2.2) (ints_dp _)) .nil))
theorem tw_wid {s : List Int × List Int} (h1 : s.1.length ≤ 1000) (h2 : s.2.length ≤ 1000) : wid (twD s) = true := by
  have e1 : decide ((s.1.map PyData.int).length ≤ 10000) = true := by
    rw [List.length_map]
    exact decide_eq_true (by omega)
  have e2 : decide ((s.2.map PyData.int).length ≤ 10000) = true := by
    rw [List.length_map]
    exact decide_eq_true (by omega)
  simp only [twD, wid, widAll, wid_ints, e1, e2, List.length_cons, List.length_nil]
  rfl
theorem tw_dep (s : List Int × List Int) : (twD s).depth ≤ 14 := by
  simp only [twD, PyData.depth, PyData.depthAll, dep_ints]
  decide
theorem cut3 {x y z r : Int} (h0 : 0 ≤ r) (h1 : r < 3) : ∃ ns : List Int, cutV [.int x, .int y, .int z] (some r) none = ns.map V.int ∧ ns.Sublist [x, y, z] := by
  have h : r = 0 ∨ r = 1 ∨ r = 2 := by omega
  rcases h with rfl | rfl | rfl
  · exact ⟨[x, y, z], rfl, List.Sublist.refl _⟩
  · exact ⟨[y, z], rfl, .cons _ (List.Sublist.refl _)⟩
  · exact ⟨[z], rfl, .cons _ (.cons _ (List.Sublist.refl _))⟩
theorem Df.mergeN {α : Type} {f : α → PyData} {kvs : List (Key × V)} {m : List (Int × α)} (h : Df K H1 f kvs m) (nd : (m.map (·.1)).Nodup) : mergeK [] kvs = kvs := by
  have e := h.keys
  have y : m.map (fun b => (Sum.inl b.1 : Key)) = (m.map (·.1)).map Sum.inl := by
    rw [List.map_map]
    rfl
  rw [y] at e
  have q := merge_nd kvs [] (fun _ _ => rfl) ?_
  · simpa using q
  · rw [e]
    refine List.pairwise_map.mpr (List.Pairwise.imp ?_ nd)
    intro a b hab z
    exact hab (Sum.inl.inj z)
theorem rm_of {t : List (Int × Ro)} (h : MOk RoOk t) : RmOk t := fun e he => (h.2 e he).2.l
theorem take_snoc {ns : List Int} {i : Nat} {x : Int} (h : ns[i]? = some x) : ns.take (i + 1) = ns.take i ++ [x] := by
  rw [List.take_add_one, h]
  rfl
end
def sp_right : Sp := fun vs H Q _ => ∃ b : Addr, vs = [.ref b] ∧ Bx H b 0 ∧ ∀ H', But b H H' → Q (.bl true) H'
section
variable {P : Program} {w : World} {K : PySem.W.Frag} {mg : Str → Option Value} {base : Heap}
theorem ok_right (T : Txt K mg) : Fn P w K mg base CX0 16 T.a_right T.d_right ["_law_box"] sp_right := by
  have G_take := ok_take (P := P) (w := w) (base := base) T
  have G_named := ok_named (P := P) (w := w) (base := base) T
  have G_kind := ok_kind (P := P) (w := w) (base := base) T 6
  have G_roster := ok_roster (P := P) (w := w) (base := base) T
  have G_opens := ok_opens (P := P) (w := w) (base := base) T 6
  have G_p_opens_of := ok_opens_of (P := P) (w := w) (base := base) T 6
  have G_same := ok_same (P := P) (w := w) (base := base) T 14
  have G_put := ok_put (P := P) (w := w) (base := base) T 6
  have G_p_put_in := ok_put_in (P := P) (w := w) (base := base) T 6
  have G_put_ends := ok_put_ends (P := P) (w := w) (base := base) T
  have G_p_put_in_roster := ok_put_in_roster (P := P) (w := w) (base := base) T
  have G_settled := ok_settled (P := P) (w := w) (base := base) T 6
  have G_p_settled := ok_p_settled (P := P) (w := w) (base := base) T 6
  refine Grd.mk T.F_right scright (fun vs H Q E h => ?_) (fun cdv A outer st H vs Q E gd hr h => ?_)
  · obtain ⟨b, rfl, _⟩ := h
    rfl
  obtain ⟨b, rfl, hB, q⟩ := h
  refine ⟨_, (pss_cons (ps_set (i := 1) scright.nd rfl (Or.inr rfl) (pe_callB cr_sortedS (by rfl) T.n_sorted (by decide +kernel) (pa_cons (pe_callG G_named gd (hr.mono (by first | decide | omega)) rfl T.g_named T.F_named.kp T.b_named .nil pass0 (pa_cons (pv 0) (pa_cons pe_int pa_nil))) pa_nil)))
      (pss_cons (ps_for PassesOwn.never rfl (pi_range1 (by rfl) T.n_range (pa_cons pe_int pa_nil)) (pg_name (i := 2) scright.nd rfl (Or.inl rfl)) (pss_cons (ps_par (i := 3) (j := 4) (by rfl) scright.nd rfl rfl (by decide) rfl rfl (pa_cons (pe_callG G_kind gd (hr.mono (by first | decide | omega)) rfl T.g_kind T.F_kind.kp T.b_kind .nil pass0 (pa_cons (pv 0) (pa_cons (pv 1) (pa_cons (pe_op op_add pe_int (pe_callG G_take gd (hr.mono (by first | decide | omega)) rfl T.g_take T.F_take.kp T.b_take .nil pass0 (pa_cons (pv 0) (pa_cons pe_int pa_nil)))) (pa_cons pe_int pa_nil))))) (pa_cons (pe_callG G_roster gd (hr.mono (by first | decide | omega)) rfl T.g_roster T.F_roster.kp T.b_roster .nil pass0 (pa_cons (pv 0) (pa_cons (pv 1) pa_nil))) pa_nil)) (by rfl))
      (pss_cons (ps_par (i := 5) (j := 6) (by rfl) scright.nd rfl rfl (by decide) rfl rfl (pa_cons (pe_lst pa_nil) (pa_cons (pe_lst pa_nil) pa_nil)) (by rfl))
      (Evl.pss_cut (ps_expr (pe_callG G_opens gd (hr.mono (by first | decide | omega)) rfl T.g_opens T.F_opens.kp T.b_opens .nil pass0 (pa_cons (pv 3) (pa_cons (pv 5) (pa_cons (pv 6) pa_nil)))))
      (Evl.pss_cut (ps_for PassesOwn.never rfl (pi_range1 (by rfl) T.n_range (pa_cons pe_int pa_nil)) (pg_name (i := 7) scright.nd rfl (Or.inl rfl)) (pss_cons (ps_set (i := 8) scright.nd rfl (Or.inl rfl) (pe_callG G_p_opens_of gd (hr.mono (by first | decide | omega)) rfl T.g_p_opens_of T.F_p_opens_of.kp T.b_p_opens_of .nil pass0 (pa_cons (pv 3) pa_nil)))
      (pss_cons (ps_if (pt_not (pt_val (pe_callG G_same gd (hr.mono (by first | decide | omega)) rfl T.g_same T.F_same.kp T.b_same .nil pass0 (pa_cons (pv 8) (pa_cons (pe_tup (pa_cons (pv 5) (pa_cons (pv 6) pa_nil))) pa_nil))))) (pss_one (ps_ret pe_bl)) pss_nil)
      (pss_cons (ps_expr (pe_bm PySem.F.plainAttrs_list PySem.F.slot_list_append PySem.F.type_list_append mt_append (pe_ix ix_tup (pv 8) pe_int (fun _ _ => rfl)) (pa_cons pe_int pa_nil)))
      (pss_one (ps_expr (pe_bm0 PySem.F.plainAttrs_list PySem.F.slot_list_clear PySem.F.type_list_clear mt_clear (pe_ix ix_tup (pv 8) pe_int (fun _ _ => rfl)))))))))
      (Evl.pss_cut (ps_par (i := 9) (j := 10) (by rfl) scright.nd rfl rfl (by decide) rfl rfl (pa_cons (pe_slice sl_list (pe_lst (pa_cons pe_int (pa_cons pe_int (pa_cons pe_int pa_nil)))) (po_some (pe_callG G_take gd (hr.mono (by first | decide | omega)) rfl T.g_take T.F_take.kp T.b_take .nil pass0 (pa_cons (pv 0) (pa_cons pe_int pa_nil)))) po_none) (pa_cons (pe_slice sl_list (pe_lst (pa_cons pe_int (pa_cons pe_int (pa_cons pe_int pa_nil)))) (po_some (pe_callG G_take gd (hr.mono (by first | decide | omega)) rfl T.g_take T.F_take.kp T.b_take .nil pass0 (pa_cons (pv 0) (pa_cons pe_int pa_nil)))) po_none) pa_nil)) (by rfl))
      (Evl.pss_cut (ps_set (i := 11) scright.nd rfl (Or.inl rfl) (pe_callTy (call_dictP rfl) (by rfl) T.n_dict (by decide +kernel) (pa_cons (pe_lc (own := [("_law_number", 15)]) (by rfl) scright.nd (pi_list (pv 9)) (blkOk_by (own := [("_law_number", 15)]) (N := ["_law_box", "_law_deeds", "_law_turn", "_law_made", "_law_row", "_law_own", "_law_ends", "_law_again", "_law_found", "_law_numbers", "_law_spots", "_law_some", "_law_tails", "_law_kept", "_law_due", "_law_number"]) (sc := defScope s_right) (by decide +kernel)) (fun _ _ _ _ _ => (pg_name (i := 15) scright.nd rfl (Or.inl rfl))) (fun _ _ _ _ _ => pts_nil) (fun _ _ _ _ _ => (pe_tup (pa_cons (pv 15) (pa_cons (pe_callG G_kind gd (hr.mono (by first | decide | omega)) rfl T.g_kind T.F_kind.kp T.b_kind .nil pass0 (pa_cons (pv 0) (pa_cons (pv 1) (pa_cons (pe_callG G_take gd (hr.mono (by first | decide | omega)) rfl T.g_take T.F_take.kp T.b_take .nil pass0 (pa_cons (pv 0) (pa_cons pe_int pa_nil))) (pa_cons pe_int pa_nil))))) pa_nil))))) pa_nil)))
      (Evl.pss_cut (ps_set (i := 12) scright.nd rfl (Or.inl rfl) (pe_callTy (call_dictP rfl) (by rfl) T.n_dict (by decide +kernel) (pa_cons (pe_lc (own := [("_law_number", 15)]) (by rfl) scright.nd (pi_list (pv 10)) (blkOk_by (own := [("_law_number", 15)]) (N := ["_law_box", "_law_deeds", "_law_turn", "_law_made", "_law_row", "_law_own", "_law_ends", "_law_again", "_law_found", "_law_numbers", "_law_spots", "_law_some", "_law_tails", "_law_kept", "_law_due", "_law_number"]) (sc := defScope s_right) (by decide +kernel)) (fun _ _ _ _ _ => (pg_name (i := 15) scright.nd rfl (Or.inl rfl))) (fun _ _ _ _ _ => pts_nil) (fun _ _ _ _ _ => (pe_tup (pa_cons (pv 15) (pa_cons (pe_callG G_roster gd (hr.mono (by first | decide | omega)) rfl T.g_roster T.F_roster.kp T.b_roster .nil pass0 (pa_cons (pv 0) (pa_cons (pv 1) pa_nil))) pa_nil))))) pa_nil)))
      (Evl.pss_cut (ps_if (pt_cmpR op_eq (pe_callG G_take gd (hr.mono (by first | decide | omega)) rfl T.g_take T.F_take.kp T.b_take .nil pass0 (pa_cons (pv 0) (pa_cons pe_int pa_nil))) pe_int (nomark _)) (pss_one (ps_par (i := 11) (j := 12) (by rfl) scright.nd rfl rfl (by decide) rfl rfl (pa_cons (pe_disp (pps_cons pe_int (pe_tup (pa_cons pe_str (pa_cons pe_int pa_nil))) (pps_cons pe_int (pe_tup (pa_cons pe_str (pa_cons pe_int pa_nil))) pps_nil)) (by rfl) (by rfl) (fun z => by cases z) (by decide)) (pa_cons (pe_disp (pps_cons pe_int (pe_tup (pa_cons (pe_tup pa_nil) (pa_cons pe_int pa_nil))) (pps_cons pe_int (pe_tup (pa_cons (pe_tup (pa_cons pe_str pa_nil)) (pa_cons pe_int pa_nil))) pps_nil)) (by rfl) (by rfl) (fun z => by cases z) (by decide)) pa_nil)) (by rfl))) pss_nil)
      (pss_cons (ps_set (i := 13) scright.nd rfl (Or.inl rfl) (pe_callB (call_reprL gd hr.units) (by rfl) T.n_repr (by decide +kernel) (pa_cons (pe_lstB (pa_cons (pv 3) (pa_cons (pv 4) (pa_cons (pv 11) (pa_cons (pv 12) pa_nil))))) pa_nil)))
      (pss_cons (ps_set (i := 8) scright.nd rfl (Or.inl rfl) (pe_lst (pa_cons (pe_callG G_p_put_in gd (hr.mono (by first | decide | omega)) rfl T.g_p_put_in T.F_p_put_in.kp T.b_p_put_in .nil pass0 (pa_cons (pv 3) (pa_cons (pv 11) (pa_cons (pv 12) pa_nil)))) (pa_cons (pe_callG G_p_put_in_roster gd (hr.mono (by first | decide | omega)) rfl T.g_p_put_in_roster T.F_p_put_in_roster.kp T.b_p_put_in_roster .nil pass0 (pa_cons (pv 4) (pa_cons (pv 11) (pa_cons (pv 12) pa_nil)))) (pa_cons (pe_callG G_p_put_in gd (hr.mono (by first | decide | omega)) rfl T.g_p_put_in T.F_p_put_in.kp T.b_p_put_in .nil pass0 (pa_cons (pv 3) (pa_cons pe_dnewK (pa_cons pe_dnewK pa_nil)))) pa_nil)))))
      (pss_cons (ps_if (pt_not (pt_val (pe_callG G_same gd (hr.mono (by first | decide | omega)) rfl T.g_same T.F_same.kp T.b_same .nil pass0 (pa_cons (pv 8) (pa_cons (pe_lst (pa_cons (pe_callG G_put gd (hr.mono (by first | decide | omega)) rfl T.g_put T.F_put.kp T.b_put .nil pass0 (pa_cons (pv 3) (pa_cons (pv 11) (pa_cons (pv 12) pa_nil)))) (pa_cons (pe_callG G_put_ends gd (hr.mono (by first | decide | omega)) rfl T.g_put_ends T.F_put_ends.kp T.b_put_ends .nil pass0 (pa_cons (pv 4) (pa_cons (pv 12) pa_nil))) (pa_cons (pv 3) pa_nil)))) pa_nil))))) (pss_one (ps_ret pe_bl)) pss_nil)
      (pss_cons (ps_set (i := 14) scright.nd rfl (Or.inl rfl) (pe_callG G_settled gd (hr.mono (by first | decide | omega)) rfl T.g_settled T.F_settled.kp T.b_settled .nil pass0 (pa_cons (pv 3) (pa_cons (pv 4) pa_nil))))
      (pss_cons (ps_if (pt_not (pt_val (pe_callG G_same gd (hr.mono (by first | decide | omega)) rfl T.g_same T.F_same.kp T.b_same .nil pass0 (pa_cons (pe_lst (pa_cons (pe_callG G_p_settled gd (hr.mono (by first | decide | omega)) rfl T.g_p_settled T.F_p_settled.kp T.b_p_settled .nil pass0 (pa_cons (pv 3) (pa_cons (pv 4) pa_nil))) (pa_cons (pe_callG G_p_settled gd (hr.mono (by first | decide | omega)) rfl T.g_p_settled T.F_p_settled.kp T.b_p_settled .nil pass0 (pa_cons (pe_ix ix_tup (pv 14) pe_int (fun _ _ => rfl)) (pa_cons (pe_ix ix_tup (pv 14) pe_int (fun _ _ => rfl)) pa_nil))) pa_nil))) (pa_cons (pe_lst (pa_cons (pv 14) (pa_cons (pv 14) pa_nil))) pa_nil))))) (pss_one (ps_ret pe_bl)) pss_nil)
      (pss_one (ps_if (pt_cmpR op_ne (pe_callB (call_reprL gd hr.units) (by rfl) T.n_repr (by decide +kernel) (pa_cons (pe_lstB (pa_cons (pv 3) (pa_cons (pv 4) (pa_cons (pv 11) (pa_cons (pv 12) pa_nil))))) pa_nil)) (pv 13) (nomark _)) (pss_one (ps_ret pe_bl)) pss_nil))))))))))))))))
      (pss_one (ps_ret pe_bl)))), ?_⟩
  refine ⟨_, rfl, b, 3, 0, rfl, hB, by decide, by decide, fun p0 H1 ss hp0 bu1 bx1 ls hss hp1 => ⟨p0, ss, rfl, SqL.of hp1, by omega, fun ds l perm so hl => ?_⟩⟩
  have hds : ∀ d ∈ ds, Sg 6 d := fun d hd => hss d (perm.mem_iff.mp hd)
  have ld : ds.length = 3 := perm.length_eq.trans ls
  have nl : l ≠ b := by
    obtain ⟨x, y, z, hb, _⟩ := bx1
    exact fun z => by rw [z, hb] at hl; cases hl
  have e2 : Ex H1 (upd H1 l (.lst (ds.map V.str))) := Ex.new hl
  have hlv : (upd H1 l (.lst (ds.map V.str))) l = some (.lst (ds.map V.str)) := upd_same
  generalize upd H1 l (.lst (ds.map V.str)) = H2 at e2 hlv
  refine ⟨8, rfl, by decide, by decide, for_range (fun i σ H' => ∃ u2 u3 u4 u5 u6 u7 u8 u9 u10 u11 u12 u13 u14 u15 : Option V, σ = [some (.ref b), some (.ref l), u2, u3, u4, u5, u6, u7, u8, u9, u10, u11, u12, u13, u14, u15] ∧ But b H H' ∧ Bx H' b (21 + 3500 * i) ∧ H' l = some (.lst (ds.map V.str)))
    ⟨none, none, none, none, none, none, none, none, none, none, none, none, none, none, rfl, bu1.trans (But.of_ex e2), bx1.ex e2, hlv⟩ ?_ ?_⟩
  rotate_left
  · rintro σ H3 ⟨u2, u3, u4, u5, u6, u7, u8, u9, u10, u11, u12, u13, u14, u15, rfl, bu3, _, _⟩
    exact q H3 bu3
  rintro i σ H3 hi ⟨u2, u3, u4, u5, u6, u7, u8, u9, u10, u11, u12, u13, u14, u15, rfl, bu3, bx3, hl3⟩
  have hi8 : i < 8 := hi
  have c6 : cs 6 = 2215 := rfl
  have c3 : cs 3 = 255 := rfl
  clear hlv e2 bx1 bu1 hp1 hB
  refine ⟨_, rfl, _, rfl, _, rfl, b, 15, _, rfl, bx3, by omega, by decide, by decide, fun x1 H4 x10 x11 bu4 bx4 => ⟨_, _, rfl, rfl, ?_⟩⟩
  refine ⟨b, l, ds, _, 6, _, rfl, by decide, by decide, bx4, by omega, nl, SqL.of (bu4 _ _ nl hl3), by omega, by omega, hds, fun k v H5 okk dk rpk bu5 bx5 => ?_⟩
  refine ⟨_, rfl, _, rfl, b, l, ds, _, rfl, bx5, by omega, nl, SqL.of (bu5 _ _ nl (bu4 _ _ nl hl3)), by omega, by omega, hds, fun r u H6 okr rpr bu6 bx6 => ⟨_, _, rfl, ?_⟩⟩
  have sd6 : Sd K H b l ds v u k r (21 + 3500 * i + 2300) H6 := ⟨((bu3.trans bu4).trans bu5).trans bu6, bx6.mono (by omega), bu6 _ _ nl (bu5 _ _ nl (bu4 _ _ nl hl3)), Dp.tst (bu6.ts bx5) _ _ (to_kd k) rpk, rpr⟩
  clear rpk rpr bx6 bu6 bx5 bu5 bx4 bu4 hl3 bx3 bu3
  have hsz := sz_small dk
  refine ⟨Nat.zero_le _, fun a ha => ⟨Nat.zero_le _, fun e he => ⟨_, _, rfl, ?_⟩⟩⟩
  have e7 : Ex H6 (upd (upd H6 a (.lst [])) e (.lst [])) := (Ex.new ha).trans (Ex.new he)
  have nea : e ≠ a := fun z => by rw [z, upd_same] at he; cases he
  have tw : Two (upd (upd H6 a (.lst [])) e (.lst [])) a e ([], []) := ⟨nea.symm, by rw [upd_ne nea.symm, upd_same]; rfl, by rw [upd_same]; rfl⟩
  have fa := sd6.fresh ha
  have fe := sd6.fresh (Evl.fresh_back (Ex.new ha) he)
  have sd7 := sd6.ex e7
  generalize upd (upd H6 a (.lst [])) e (.lst []) = H7 at e7 tw sd7
  clear sd6 e7 ha he
  refine ⟨fun σ' H' => σ' = [some (.ref b), some (.ref l), some (.int (0 + (i : Int))), some v, some u, some (.ref a), some (.ref e), u7, u8, u9, u10, u11, u12, u13, u14, u15] ∧ Sd K H b l ds v u k r (21 + 3500 * i + 2300) H' ∧ Two H' a e (ops k ([], [])), ?_, ?_⟩
  · refine ⟨_, rfl, _, rfl, _, rfl, v, a, e, k, ([], []), rfl, sd7.hv, okk, dk, by omega, tw, by show 0 + _ < _; omega, by show 0 + _ < _; omega, fun H8 bu tw8 => ⟨rfl, sd7.but2 tw fa fe bu, tw8⟩⟩
  clear tw sd7
  rintro σ7 H8 ⟨rfl, sd8, tw8⟩
  have l0 := ops_len k ([], [])
  have l0a : (ops k ([], [])).1.length ≤ 0 + sz k := l0.1
  have l0b : (ops k ([], [])).2.length ≤ 0 + sz k := l0.2
  -- twice
  refine ⟨fun σ' H' => ∃ u7 u8 : Option V, σ' = [some (.ref b), some (.ref l), some (.int (0 + (i : Int))), some v, some u, some (.ref a), some (.ref e), u7, u8, u9, u10, u11, u12, u13, u14, u15] ∧ Sd K H b l ds v u k r (21 + 3500 * i + 2300) H', ?_, ?_⟩
  · refine ⟨2, rfl, by decide, by decide, for_range (fun j σ' H' => ∃ u7 u8 : Option V, σ' = [some (.ref b), some (.ref l), some (.int (0 + (i : Int))), some v, some u, some (.ref a), some (.ref e), u7, u8, u9, u10, u11, u12, u13, u14, u15] ∧ Sd K H b l ds v u k r (21 + 3500 * i + 2300) H' ∧ Two H' a e (ops k ([], []))) ⟨u7, u8, rfl, sd8, tw8⟩ ?_ ?_⟩
    rotate_left
    · rintro σ' H' ⟨w7, w8, rfl, s1, _⟩
      exact ⟨w7, w8, rfl, s1⟩
    rintro j σ9 H9 hj ⟨w7, w8, rfl, sd9, tw9⟩
    refine ⟨_, rfl, v, k, rfl, sd9.hv, okk, dk, by omega, by omega, fun f a2 e2 H10 ex10 hf ha he hfv tw10 => ?_⟩
    have fa2 := sd9.fresh ha
    have fe2 := sd9.fresh he
    have sd10 := sd9.ex ex10
    have tw10' := tw9.ex ex10
    have na2 : a2 ≠ a := fun z => by rw [z, tw9.2.1] at ha; cases ha
    have nae : a2 ≠ e := fun z => by rw [z, tw9.2.2] at ha; cases ha
    have ne2 : e2 ≠ a := fun z => by rw [z, tw9.2.1] at he; cases he
    have nee : e2 ≠ e := fun z => by rw [z, tw9.2.2] at he; cases he
    refine ⟨_, rfl, _, rfl, _, rfl, (by show 2 ≤ sizeLine; decide), fun t ht => ?_⟩
    have et : Ex H10 (upd H10 t (.tup [.ref a, .ref e])) := Ex.new ht
    have htv : (upd H10 t (.tup [.ref a, .ref e])) t = some (.tup [.ref a, .ref e]) := upd_same
    generalize upd H10 t (.tup [.ref a, .ref e]) = H11 at et htv
    refine ⟨.ref f, .ref t, twD (ops k ([], [])), rfl, tw_dp (tw10.ex et) (SqT.of (et _ _ hfv)), tw_dp (tw10'.ex et) (SqT.of htv), tw_dep _, tw_wid (by omega) (by omega), fun H12 e12 => ?_⟩
    have ee := et.trans e12
    have sd12 := sd10.ex ee
    have twf := tw10.ex ee
    have twa := tw10'.ex ee
    have hf12 := ee _ _ hfv
    clear tw10 tw10' sd10 sd9 tw9
    refine ⟨_, rfl, ?_⟩
    refine ⟨_, rfl, f, _, _, _, rfl, rfl, SqT.of hf12, rfl, .inl ⟨rfl, _, SqL.of twf.2.1⟩, a2, _, _, rfl, rfl, twf.2.1, by rw [List.length_map]; exact Evl.sz_lt (by omega), ?_⟩
    have sd13 := sd12.mut (o := .lst ((ops k ([], [])).1.map V.int ++ [.int 99])) fa2.1 fa2.2.1 fa2.2.2 twf.2.1
    have hf13 := ts_updL (K := K) (o := .lst ((ops k ([], [])).1.map V.int ++ [.int 99])) twf.2.1 _ _ (SqT.of hf12)
    have he13 : (upd H12 a2 (.lst ((ops k ([], [])).1.map V.int ++ [.int 99]))) e2 = some (.lst ((ops k ([], [])).2.map V.int)) := by rw [upd_ne twf.1.symm]; exact twf.2.2
    have tw13 : Two (upd H12 a2 (.lst ((ops k ([], [])).1.map V.int ++ [.int 99]))) a e (ops k ([], [])) := ⟨twa.1, by rw [upd_ne na2.symm]; exact twa.2.1, by rw [upd_ne nae.symm]; exact twa.2.2⟩
    generalize upd H12 a2 (.lst ((ops k ([], [])).1.map V.int ++ [.int 99])) = H13 at sd13 hf13 he13 tw13
    refine ⟨_, rfl, f, _, _, _, rfl, rfl, hf13, rfl, .inl ⟨rfl, _, SqL.of he13⟩, e2, _, rfl, rfl, he13, ?_⟩
    exact ⟨_, _, rfl, sd13.mut fe2.1 fe2.2.1 fe2.2.2 he13, tw13.1, by rw [upd_ne ne2.symm]; exact tw13.2.1, by rw [upd_ne nee.symm]; exact tw13.2.2⟩
  clear sd8 tw8
  rintro σ8 H9 ⟨w7, w8, rfl, sd9⟩
  -- numbers, spots
  refine ⟨fun σ' H' => ∃ (n1 n2 : Addr) (ns ms : List Int), σ' = [some (.ref b), some (.ref l), some (.int (0 + (i : Int))), some v, some u, some (.ref a), some (.ref e), w7, w8, some (.ref n1), some (.ref n2), u11, u12, u13, u14, u15] ∧ Sd K H b l ds v u k r (21 + 3500 * i + 2302) H' ∧ n1 ≠ b ∧ n2 ≠ b ∧ H' n1 = some (.lst (ns.map V.int)) ∧ H' n2 = some (.lst (ms.map V.int)) ∧ ns.Sublist [0, 1, 12] ∧ ms.Sublist [0, 1, 7], ?_, ?_⟩
  · refine ⟨(by show 3 ≤ sizeLine; decide), fun q1 hq1 => ?_⟩
    have ex1 : Ex H9 (upd H9 q1 (.lst [.int 0, .int 1, .int 12])) := Ex.new hq1
    have hqv : (upd H9 q1 (.lst [.int 0, .int 1, .int 12])) q1 = some (.lst [.int 0, .int 1, .int 12]) := upd_same
    have fq1 := sd9.fresh hq1
    have sd10 := sd9.ex ex1
    generalize upd H9 q1 (.lst [.int 0, .int 1, .int 12]) = H10 at ex1 hqv sd10
    refine ⟨_, rfl, b, 3, _, rfl, sd10.bx, by omega, by decide, by decide, fun x1 H11 x10 x11 bu11 bx11 => ⟨_, rfl, ?_⟩⟩
    have sd11 := sd10.but nl bu11 bx11
    have hq11 := bu11 _ _ fq1.2.1 hqv
    obtain ⟨ns, ens, sns⟩ := cut3 (x := 0) (y := 1) (z := 12) x10 x11
    refine ⟨q1, _, rfl, SqL.of hq11, fun n1 hn1 => ?_⟩
    rw [ens]
    have ex2 : Ex H11 (upd H11 n1 (.lst (ns.map V.int))) := Ex.new hn1
    have hn1v : (upd H11 n1 (.lst (ns.map V.int))) n1 = some (.lst (ns.map V.int)) := upd_same
    have fn1 := sd11.fresh hn1
    have sd12 := sd11.ex ex2
    generalize upd H11 n1 (.lst (ns.map V.int)) = H12 at ex2 hn1v sd12
    clear sd9 sd10 sd11
    refine ⟨(by show 3 ≤ sizeLine; decide), fun q2 hq2 => ?_⟩
    have ex3 : Ex H12 (upd H12 q2 (.lst [.int 0, .int 1, .int 7])) := Ex.new hq2
    have hq2v : (upd H12 q2 (.lst [.int 0, .int 1, .int 7])) q2 = some (.lst [.int 0, .int 1, .int 7]) := upd_same
    have fq2 := sd12.fresh hq2
    have sd13 := sd12.ex ex3
    have hn13 := ex3 _ _ hn1v
    generalize upd H12 q2 (.lst [.int 0, .int 1, .int 7]) = H13 at ex3 hq2v sd13 hn13
    refine ⟨_, rfl, b, 3, _, rfl, sd13.bx, by omega, by decide, by decide, fun x2 H14 x20 x21 bu14 bx14 => ⟨_, rfl, ?_⟩⟩
    have sd14 := sd13.but nl bu14 bx14
    have hq14 := bu14 _ _ fq2.2.1 hq2v
    obtain ⟨ms, ems, sms⟩ := cut3 (x := 0) (y := 1) (z := 7) x20 x21
    refine ⟨q2, _, rfl, SqL.of hq14, fun n2 hn2 => ?_⟩
    rw [ems]
    have ex4 : Ex H14 (upd H14 n2 (.lst (ms.map V.int))) := Ex.new hn2
    have fn2 := sd14.fresh hn2
    exact ⟨_, _, rfl, n1, n2, ns, ms, rfl, (sd14.ex ex4).mono (by omega), fn1.2.1, fn2.2.1, ex4 _ _ (bu14 _ _ fn1.2.1 hn13), upd_same, sns, sms⟩
  clear sd9
  rintro σ9 H10 ⟨n1, n2, ns, ms, rfl, sd10, nb1, nb2, hn1, hn2, sns, sms⟩
  have lns : ns.length ≤ 3 := sns.length_le
  have lms : ms.length ≤ 3 := sms.length_le
  -- some
  refine ⟨fun σ' H' => ∃ (p1 : Addr) (m : List (Int × Kd)), σ' = [some (.ref b), some (.ref l), some (.int (0 + (i : Int))), some v, some u, some (.ref a), some (.ref e), w7, w8, some (.ref n1), some (.ref n2), some (.ref p1), u12, u13, u14, u15] ∧ Sd K H b l ds v u k r (21 + 3500 * i + 3080) H' ∧ H' n2 = some (.lst (ms.map V.int)) ∧ DM K H' kdD p1 m ∧ MOk (fun a => KdOk a ∧ dep a ≤ 3) m, ?_, ?_⟩
  · refine ⟨_, rfl, n1, rfl, ⟨_, SqL.of hn1⟩, fun D hD => ?_⟩
    have fD := sd10.fresh hD
    have eD : Ex H10 (upd H10 D (.lst [])) := Ex.new hD
    have nD1 : n1 ≠ D := ne_of_none hn1 hD
    have nD2 : n2 ≠ D := ne_of_none hn2 hD
    refine lc_it (walk_list (xs := ns.map V.int)) (fun j H' => Sd K H b l ds v u k r (21 + 3500 * i + 2302 + 256 * j) H' ∧ H' n1 = some (.lst (ns.map V.int)) ∧ H' n2 = some (.lst (ms.map V.int)) ∧ ∃ ps kvs m, H' D = some (.lst (ps.map V.ref)) ∧ Paired (fun p kv => SqT K H' p [kV kv.1, kv.2]) ps kvs ∧ Df K H' kdD kvs m ∧ m.map (·.1) = ns.take j ∧ ∀ y ∈ m, KdOk y.2 ∧ dep y.2 ≤ 3)
      ⟨sd10.ex eD, eD _ _ hn1, eD _ _ hn2, [], [], [], upd_same, .nil, .nil, rfl, by simp⟩ (fun j H' _ h => SqL.of h.2.1) ?_ ?_
    · rintro j x H11 H12 hj ⟨sd11, h1, h2, ps, kvs, m, hD11, pp, df, mk, mo⟩ ⟨rfl, ex⟩
      obtain ⟨x, exx, rfl⟩ := getI ex
      rw [List.length_map] at hj
      refine ⟨rfl, ?_⟩
      refine ⟨_, rfl, _, rfl, _, rfl, _, rfl, b, 6, _, rfl, sd11.bx, by omega, by decide, by decide, fun x1 H13 x10 x11 bu13 bx13 => ?_⟩
      refine ⟨b, l, ds, _, 3, _, rfl, by decide, by decide, bx13, by omega, nl, SqL.of (bu13 _ _ nl sd11.hl), by omega, by omega, hds, fun k2 v2 H14 okk2 dk2 rpk2 bu14 bx14 => ?_⟩
      have bu := bu13.trans bu14
      have sd14 := sd11.but nl bu bx14
      have ts := bu.ts (K := K) sd11.bx
      have hD14 := bu _ _ fD.2.1 hD11
      refine ⟨(by show 2 ≤ sizeLine; decide), fun o ho => ?_⟩
      have eo : Ex H14 (upd H14 o (.tup [.int x, v2])) := Ex.new ho
      have hov : (upd H14 o (.tup [.int x, v2])) o = some (.tup [.int x, v2]) := upd_same
      have sd15 := sd14.ex eo
      generalize upd H14 o (.tup [.int x, v2]) = H15 at eo hov sd15
      have len : ps.length = j := by
        have z1 := Paired.len pp
        have z := Paired.len df
        have z3 : (m.map (·.1)).length = (ns.take j).length := by rw [mk]
        rw [List.length_map, List.length_take] at z3
        omega
      have tsD := ts_updL (K := K) (o := .lst (ps.map V.ref ++ [.ref o])) (eo _ _ hD14)
      have tsA := (ts.trans (Ts.of_ex eo)).trans tsD
      refine ⟨ps.map V.ref, eo _ _ hD14, by rw [List.length_map, len]; exact Evl.sz_lt (by omega), (sd15.mut fD.1 fD.2.1 fD.2.2 (eo _ _ hD14)).mono (by omega), ?_, ?_, ps ++ [o], kvs ++ [(Sum.inl x, v2)], m ++ [(x, k2)], ?_, ?_, ?_, ?_, ?_⟩
      · rw [upd_ne nD1]; exact eo _ _ (bu _ _ nb1 h1)
      · rw [upd_ne nD2]; exact eo _ _ (bu _ _ nb2 h2)
      · rw [upd_same, List.map_append]; rfl
      · exact Paired.app (Paired.mapP pp fun p kv q => tsA _ _ q) (.cons (tsD _ _ (SqT.of hov)) .nil)
      · exact Paired.app (df.ts tsA (fun a => to_kd a)) (.cons ⟨rfl, Dp.tst ((Ts.of_ex eo).trans tsD) _ _ (to_kd k2) rpk2⟩ .nil)
      · rw [List.map_append, mk, take_snoc exx]; rfl
      · intro y hy
        rcases List.mem_append.mp hy with h | h
        · exact mo y h
        · rw [List.mem_singleton.mp h]; exact ⟨okk2, dk2⟩
    rintro H11 ⟨sd11, h1, h2, ps, kvs, m, hD11, pp, df, mk, mo⟩
    rw [List.length_map, List.take_length] at mk
    rw [List.length_map] at sd11
    refine ⟨D, ps, kvs, rfl, SqL.of hD11, pp, fun p1 hp1 => ?_⟩
    rw [df.mergeN (by rw [mk]; exact sns.nodup (by decide))]
    have e1 : Ex H11 (upd H11 p1 (.dK kvs)) := Ex.new hp1
    refine ⟨p1, m, rfl, (sd11.ex e1).mono (by omega), e1 _ _ h2, ⟨kvs, upd_same, df.ts (Ts.of_ex e1) (fun a => to_kd a)⟩, ?_, ?_⟩
    · have z3 : (m.map (·.1)).length = ns.length := by rw [mk]
      rw [List.length_map] at z3
      omega
    · intro y hy
      have hy1 : y.1 ∈ ns := by rw [← mk]; exact List.mem_map_of_mem hy
      have hy2 := sns.subset hy1
      refine ⟨?_, mo y hy⟩
      simp only [List.mem_cons, List.mem_nil_iff, or_false] at hy2
      omega
  clear sd10 hn1 hn2
  rintro σ10 H11 ⟨p1, m, rfl, sd11, hn2, dm1, mok⟩
  -- tails
  refine ⟨fun σ' H' => ∃ (p1 p2 : Addr) (m : List (Int × Kd)) (t : List (Int × Ro)), σ' = [some (.ref b), some (.ref l), some (.int (0 + (i : Int))), some v, some u, some (.ref a), some (.ref e), w7, w8, some (.ref n1), some (.ref n2), some (.ref p1), some (.ref p2), u13, u14, u15] ∧ Sd K H b l ds v u k r (21 + 3500 * i + 3200) H' ∧ DM K H' kdD p1 m ∧ DM K H' roD p2 t ∧ MOk (fun a => KdOk a ∧ dep a ≤ 3) m ∧ MOk RoOk t, ?_, ?_⟩
  · refine ⟨_, rfl, n2, rfl, ⟨_, SqL.of hn2⟩, fun D hD => ?_⟩
    have fD := sd11.fresh hD
    have eD : Ex H11 (upd H11 D (.lst [])) := Ex.new hD
    have nD2 : n2 ≠ D := ne_of_none hn2 hD
    have nDp : p1 ≠ D := by
      obtain ⟨kv, hk, _⟩ := dm1
      exact ne_of_none hk hD
    refine lc_it (walk_list (xs := ms.map V.int)) (fun j H' => Sd K H b l ds v u k r (21 + 3500 * i + 3080 + 20 * j) H' ∧ H' n2 = some (.lst (ms.map V.int)) ∧ DM K H' kdD p1 m ∧ ∃ ps kvs t, H' D = some (.lst (ps.map V.ref)) ∧ Paired (fun p kv => SqT K H' p [kV kv.1, kv.2]) ps kvs ∧ Df K H' roD kvs t ∧ t.map (·.1) = ms.take j ∧ ∀ y ∈ t, RoOk y.2)
      ⟨sd11.ex eD, eD _ _ hn2, dm1.ex eD, [], [], [], upd_same, .nil, .nil, rfl, by simp⟩ (fun j H' _ h => SqL.of h.2.1) ?_ ?_
    · rintro j x H12 H13 hj ⟨sd12, h2, dm12, ps, kvs, t, hD12, pp, df, mk, mo⟩ ⟨rfl, ex⟩
      obtain ⟨x, exx, rfl⟩ := getI ex
      rw [List.length_map] at hj
      refine ⟨rfl, ?_⟩
      refine ⟨_, rfl, _, rfl, _, rfl, b, l, ds, _, rfl, sd12.bx, by omega, nl, SqL.of sd12.hl, by omega, by omega, hds, fun r2 v2 H14 okr2 rpr2 bu bx14 => ?_⟩
      have sd14 := sd12.but nl bu bx14
      have ts := bu.ts (K := K) sd12.bx
      have hD14 := bu _ _ fD.2.1 hD12
      have dm14 := dm12.but (fun a => to_kd a) sd12.bx bu
      refine ⟨(by show 2 ≤ sizeLine; decide), fun o ho => ?_⟩
      have eo : Ex H14 (upd H14 o (.tup [.int x, v2])) := Ex.new ho
      have hov : (upd H14 o (.tup [.int x, v2])) o = some (.tup [.int x, v2]) := upd_same
      have sd15 := sd14.ex eo
      generalize upd H14 o (.tup [.int x, v2]) = H15 at eo hov sd15
      have len : ps.length = j := by
        have z1 := Paired.len pp
        have z := Paired.len df
        have z3 : (t.map (·.1)).length = (ms.take j).length := by rw [mk]
        rw [List.length_map, List.length_take] at z3
        omega
      have tsD := ts_updL (K := K) (o := .lst (ps.map V.ref ++ [.ref o])) (eo _ _ hD14)
      have tsA := (ts.trans (Ts.of_ex eo)).trans tsD
      refine ⟨ps.map V.ref, eo _ _ hD14, by rw [List.length_map, len]; exact Evl.sz_lt (by omega), (sd15.mut fD.1 fD.2.1 fD.2.2 (eo _ _ hD14)).mono (by omega), ?_, ?_, ps ++ [o], kvs ++ [(Sum.inl x, v2)], t ++ [(x, r2)], ?_, ?_, ?_, ?_, ?_⟩
      · rw [upd_ne nD2]; exact eo _ _ (bu _ _ nb2 h2)
      · exact (dm14.ex eo).ts (fun a => to_kd a) tsD fun kv hk => by rw [upd_ne nDp]; exact hk
      · rw [upd_same, List.map_append]; rfl
      · exact Paired.app (Paired.mapP pp fun p kv q => tsA _ _ q) (.cons (tsD _ _ (SqT.of hov)) .nil)
      · exact Paired.app (df.ts tsA (fun a => to_ro a)) (.cons ⟨rfl, Dp.tst ((Ts.of_ex eo).trans tsD) _ _ (to_ro r2) rpr2⟩ .nil)
      · rw [List.map_append, mk, take_snoc exx]; rfl
      · intro y hy
        rcases List.mem_append.mp hy with h | h
        · exact mo y h
        · rw [List.mem_singleton.mp h]; exact okr2
    rintro H12 ⟨sd12, h2, dm12, ps, kvs, t, hD12, pp, df, mk, mo⟩
    rw [List.length_map, List.take_length] at mk
    rw [List.length_map] at sd12
    refine ⟨D, ps, kvs, rfl, SqL.of hD12, pp, fun p2 hp2 => ?_⟩
    rw [df.mergeN (by rw [mk]; exact sms.nodup (by decide))]
    have e1 : Ex H12 (upd H12 p2 (.dK kvs)) := Ex.new hp2
    refine ⟨p1, p2, m, t, rfl, (sd12.ex e1).mono (by omega), dm12.ex e1, ⟨kvs, upd_same, df.ts (Ts.of_ex e1) (fun a => to_ro a)⟩, mok, ?_, ?_⟩
    · have z3 : (t.map (·.1)).length = ms.length := by rw [mk]
      rw [List.length_map] at z3
      omega
    · intro y hy
      have hy1 : y.1 ∈ ms := by rw [← mk]; exact List.mem_map_of_mem hy
      have hy2 := sms.subset hy1
      refine ⟨?_, mo y hy⟩
      simp only [List.mem_cons, List.mem_nil_iff, or_false] at hy2
      omega
  clear sd11 hn2 dm1 mok
  rintro σ11 H12 ⟨p1, p2, m, t, rfl, sd12, dm, dt, mok, tok⟩
  -- the two that turn round
  refine ⟨fun σ' H' => ∃ (p1 p2 : Addr) (m : List (Int × Kd)) (t : List (Int × Ro)), σ' = [some (.ref b), some (.ref l), some (.int (0 + (i : Int))), some v, some u, some (.ref a), some (.ref e), w7, w8, some (.ref n1), some (.ref n2), some (.ref p1), some (.ref p2), u13, u14, u15] ∧ Sd K H b l ds v u k r (21 + 3500 * i + 3201) H' ∧ DM K H' kdD p1 m ∧ DM K H' roD p2 t ∧ MOk (fun a => KdOk a ∧ dep a ≤ 3) m ∧ MOk RoOk t, ?_, ?_⟩
  · refine ⟨_, rfl, b, 4, _, rfl, sd12.bx, by omega, by decide, by decide, fun x1 H13 x10 x11 bu13 bx13 => ?_⟩
    have sd13 := sd12.but nl bu13 bx13
    have dm13 := dm.but (fun a => to_kd a) sd12.bx bu13
    have dt13 := dt.but (fun a => to_ro a) sd12.bx bu13
    refine ⟨rfl, _, rfl, ite2 (fun _ => ?_) (fun _ => ?_)⟩
    rotate_left
    · exact ⟨p1, p2, m, t, rfl, sd13.mono (by omega), dm13, dt13, mok, tok⟩
    refine fun d1 hd1 => ⟨(by show 2 ≤ sizeLine; decide), fun t1 ht1 => ⟨(by show 2 ≤ sizeLine; decide), fun t2 ht2 => ?_⟩⟩
    have fd1 := sd13.fresh hd1
    have x1 : Ex H13 (upd H13 d1 (.dK [])) := Ex.new hd1
    have k1 : (upd H13 d1 (.dK [])) d1 = some (.dK []) := upd_same
    have sd14 := sd13.ex x1
    generalize upd H13 d1 (.dK []) = H14 at x1 k1 sd14 ht1 ht2
    have x2 : Ex H14 (upd H14 t1 (.tup [.str "any", .int 1])) := Ex.new ht1
    have k2 : (upd H14 t1 (.tup [.str "any", .int 1])) t1 = some (.tup [.str "any", .int 1]) := upd_same
    generalize upd H14 t1 (.tup [.str "any", .int 1]) = H15 at x2 k2 ht2
    have x3 : Ex H15 (upd H15 t2 (.tup [.str "any", .int 0])) := Ex.new ht2
    have k3 : (upd H15 t2 (.tup [.str "any", .int 0])) t2 = some (.tup [.str "any", .int 0]) := upd_same
    generalize upd H15 t2 (.tup [.str "any", .int 0]) = H16 at x3 k3
    have sd16 := sd14.ex (x2.trans x3)
    have k1' := x3 _ _ (x2 _ _ k1)
    have k2' := x3 _ _ k2
    have df : Df K H16 kdD [(Sum.inl 0, .ref t1), (Sum.inl 1, .ref t2)] [(0, .any 1), (1, .any 0)] := .cons ⟨rfl, dp_any (SqT.of k2')⟩ (.cons ⟨rfl, dp_any (SqT.of k3)⟩ .nil)
    refine ⟨k1', [(Sum.inl 0, .ref t1), (Sum.inl 1, .ref t2)], rfl, (by show 2 ≤ 15; decide), ?_⟩
    rw [df.mergeN (by decide)]
    have ts1 := ts_upd (K := K) (o := .dK [(Sum.inl 0, .ref t1), (Sum.inl 1, .ref t2)]) k1'
    have sd17 := sd16.mutG fd1.1 fd1.2.1 fd1.2.2 ts1
    have dm17 : DM K (upd H16 d1 (.dK [(Sum.inl 0, .ref t1), (Sum.inl 1, .ref t2)])) kdD d1 [(0, .any 1), (1, .any 0)] := ⟨_, upd_same, df.ts ts1 (fun a => to_kd a)⟩
    generalize upd H16 d1 (.dK [(Sum.inl 0, .ref t1), (Sum.inl 1, .ref t2)]) = H17 at sd17 dm17
    clear df ts1 k1 k2 k3 k1' k2' sd14 sd16 x1 x2 x3 ht1 ht2 sd13 dm13 dt13 hd1 fd1
    -- tails
    refine fun d2 hd2 => ⟨(by show 0 ≤ sizeLine; decide), fun s0 hs0 => ⟨(by show 2 ≤ sizeLine; decide), fun s1 hs1 => ⟨(by show 1 ≤ sizeLine; decide), fun s2 hs2 => ⟨(by show 2 ≤ sizeLine; decide), fun s3 hs3 => ?_⟩⟩⟩⟩
    have fd2 := sd17.fresh hd2
    have nd21 : d1 ≠ d2 := by
      obtain ⟨kv, hk, _⟩ := dm17
      exact ne_of_none hk hd2
    have x1 : Ex H17 (upd H17 d2 (.dK [])) := Ex.new hd2
    have k1 : (upd H17 d2 (.dK [])) d2 = some (.dK []) := upd_same
    generalize upd H17 d2 (.dK []) = H18 at x1 k1 hs0 hs1 hs2 hs3
    have x2 : Ex H18 (upd H18 s0 (.tup [])) := Ex.new hs0
    have k2 : (upd H18 s0 (.tup [])) s0 = some (.tup (([] : List Str).map V.str)) := upd_same
    generalize upd H18 s0 (.tup []) = H19 at x2 k2 hs1 hs2 hs3
    have x3 : Ex H19 (upd H19 s1 (.tup [.ref s0, .int 1])) := Ex.new hs1
    have k3 : (upd H19 s1 (.tup [.ref s0, .int 1])) s1 = some (.tup [.ref s0, .int 1]) := upd_same
    generalize upd H19 s1 (.tup [.ref s0, .int 1]) = H20 at x3 k3 hs2 hs3
    have x4 : Ex H20 (upd H20 s2 (.tup [.str "b"])) := Ex.new hs2
    have k4 : (upd H20 s2 (.tup [.str "b"])) s2 = some (.tup ((["b"] : List Str).map V.str)) := upd_same
    generalize upd H20 s2 (.tup [.str "b"]) = H21 at x4 k4 hs3
    have x5 : Ex H21 (upd H21 s3 (.tup [.ref s2, .int 0])) := Ex.new hs3
    have k5 : (upd H21 s3 (.tup [.ref s2, .int 0])) s3 = some (.tup [.ref s2, .int 0]) := upd_same
    generalize upd H21 s3 (.tup [.ref s2, .int 0]) = H22 at x5 k5
    have y1 := x5 _ _ (x4 _ _ (x3 _ _ (x2 _ _ k1)))
    have y2 := x5 _ _ (x4 _ _ (x3 _ _ k2))
    have y3 := x5 _ _ (x4 _ _ k3)
    have y4 := x5 _ _ k4
    have xa := (((x1.trans x2).trans x3).trans x4).trans x5
    have sd22 := sd17.ex xa
    have dm22 := dm17.ex xa
    have df : Df K H22 roD [(Sum.inl 0, .ref s1), (Sum.inl 1, .ref s3)] [(0, (([], some 1) : Ro)), (1, ((["b"], some 0) : Ro))] := .cons ⟨rfl, dp_ro (r := (([], some 1) : Ro)) (SqT.of y3) (SqT.of y2)⟩ (.cons ⟨rfl, dp_ro (r := ((["b"], some 0) : Ro)) (SqT.of k5) (SqT.of y4)⟩ .nil)
    refine ⟨y1, [(Sum.inl 0, .ref s1), (Sum.inl 1, .ref s3)], rfl, (by show 2 ≤ 15; decide), ?_⟩
    rw [df.mergeN (by show ([0, 1] : List Int).Nodup; decide)]
    have ts1 := ts_upd (K := K) (o := .dK [(Sum.inl 0, .ref s1), (Sum.inl 1, .ref s3)]) y1
    have sd23 := sd22.mutG fd2.1 fd2.2.1 fd2.2.2 ts1
    have dm23 := dm22.ts (fun a => to_kd a) ts1 fun kv hk => by rw [upd_ne nd21]; exact hk
    refine ⟨_, _, rfl, d1, d2, _, _, rfl, sd23.mono (by omega), dm23, ⟨_, upd_same, df.ts ts1 (fun a => to_ro a)⟩, ⟨by decide, ?_⟩, ⟨by show 2 ≤ 3; decide, ?_⟩⟩
    · intro y hy
      simp only [List.mem_cons, List.mem_nil_iff, or_false] at hy
      rcases hy with rfl | rfl
      · exact ⟨by decide, by show (0 : Int) ≤ 1 ∧ (1 : Int) ≤ 1000; decide, by show 1 ≤ 3; decide⟩
      · exact ⟨by decide, by show (0 : Int) ≤ 0 ∧ (0 : Int) ≤ 1000; decide, by show 1 ≤ 3; decide⟩
    · intro y hy
      simp only [List.mem_cons, List.mem_nil_iff, or_false] at hy
      rcases hy with rfl | rfl
      · exact ⟨by decide, rfl, by show 0 ≤ 8; decide, fun x hx => absurd hx (by simp), fun n hn => by cases hn; decide⟩
      · exact ⟨by decide, rfl, by show 1 ≤ 8; decide, fun x hx => by
          have hx' : x = "b" := by simpa using hx
          rw [hx']
          exact sgw "b" 13 (by decide +kernel), fun n hn => by cases hn; decide⟩
  clear sd12 dm dt mok tok
  rintro σ12 H13 ⟨p1, p2, m, t, rfl, sd13, dm, dt, mok, tok⟩
  have rok := repr_ok okk dk okr mok tok
  have rmt := rm_of tok
  have lr : r.1.length ≤ 20 := Nat.le_trans okr.l (by decide)
  -- kept
  refine ⟨_, rfl, _, rfl, _, rfl, _, rfl, (by show 4 ≤ sizeLine; decide), fun p hp np => ?_⟩
  have x1 : Ex H13 (upd H13 p (.lst [v, u, .ref p1, .ref p2])) := Ex.new hp
  have k1 : (upd H13 p (.lst [v, u, .ref p1, .ref p2])) p = some (.lst [v, u, .ref p1, .ref p2]) := upd_same
  have sd14 := sd13.ex x1
  have dm14 := dm.ex x1
  have dt14 := dt.ex x1
  generalize upd H13 p (.lst [v, u, .ref p1, .ref p2]) = H14 at x1 k1 sd14 dm14 dt14
  clear sd13 dm dt x1
  refine ⟨p, _, [kdD k, roD r, mD kdD m, mD roD t], rfl, np, k1, .cons (.dat (to_kd k) sd14.hv) (.cons (.dat (to_ro r) sd14.hu) (.cons (dm14.dr (fun a => to_kd a)) (.cons (dt14.dr (fun a => to_ro a)) .nil))), rok.1, rok.2.1, rok.2.2, ?_⟩
  clear k1 np hp
  -- found
  refine ⟨_, rfl, _, rfl, _, rfl, v, p1, p2, k, m, t, rfl, sd14.hv, okk, dk, by omega, dm14, dt14, rmt, fun v1 H15 e15 r1 => ?_⟩
  refine ⟨_, rfl, _, rfl, _, rfl, u, .ref p1, p2, r, t, rfl, (sd14.ex e15).hu, lr, dt14.ex e15, rmt, fun v2 H16 e16 r2 => ?_⟩
  have e1416 := e15.trans e16
  refine ⟨_, rfl, fun d1 hd1 => fun d2 hd2 => ?_⟩
  have x2 : Ex H16 (upd H16 d1 (.dK [])) := Ex.new hd1
  have k2 : (upd H16 d1 (.dK [])) d1 = some (.dK []) := upd_same
  generalize upd H16 d1 (.dK []) = H17 at x2 k2 hd2
  have x3 : Ex H17 (upd H17 d2 (.dK [])) := Ex.new hd2
  have k3 : (upd H17 d2 (.dK [])) d2 = some (.dK []) := upd_same
  generalize upd H17 d2 (.dK []) = H18 at x3 k3
  have e1418 := (e1416.trans x2).trans x3
  refine ⟨v, d1, d2, k, [], [], rfl, (sd14.ex e1418).hv, okk, dk, by omega, ⟨_, x3 _ _ k2, .nil⟩, ⟨_, k3, .nil⟩, fun _ h => absurd h (by simp), fun v3 H19 e19 r3 => ?_⟩
  rw [put_nil] at r3
  refine ⟨(by show 3 ≤ sizeLine; decide), fun f hf => ?_⟩
  have x4 : Ex H19 (upd H19 f (.lst [v1, v2, v3])) := Ex.new hf
  have k4 : (upd H19 f (.lst [v1, v2, v3])) f = some (.lst [v1, v2, v3]) := upd_same
  generalize upd H19 f (.lst [v1, v2, v3]) = H20 at x4 k4
  have e1620 := ((x2.trans x3).trans e19).trans x4
  have e1420 := e1416.trans e1620
  have fnd : Dp K H20 (.ref f) (.list [kdD (put k m t), roD (putR r t), kdD k]) :=
    .lst (SqL.of k4) (.cons (Dp.ex (e16.trans e1620) _ _ r1) (.cons (Dp.ex e1620 _ _ r2) (.cons (Dp.ex x4 _ _ r3) .nil)))
  have sd20 := sd14.ex e1420
  have dm20 := dm14.ex e1420
  have dt20 := dt14.ex e1420
  clear sd14 dm14 dt14 r1 r2 r3 k4 k3 k2 x2 x3 x4 e1416 e1418 e1420 e1620 e15 e16 e19 hf hd1 hd2
  -- same
  refine ⟨_, rfl, _, rfl, _, rfl, _, rfl, v, p1, p2, k, m, t, rfl, sd20.hv, okk, dk, by omega, dm20, dt20, rmt, fun v1 H21 e21 r1 => ?_⟩
  refine ⟨_, rfl, _, rfl, u, .non, p2, r, t, rfl, (sd20.ex e21).hu, lr, dt20.ex e21, rmt, fun v2 H22 e22 r2 => ?_⟩
  refine ⟨_, rfl, (by show 3 ≤ sizeLine; decide), fun g hg => ?_⟩
  have x4 : Ex H22 (upd H22 g (.lst [v1, v2, v])) := Ex.new hg
  have k4 : (upd H22 g (.lst [v1, v2, v])) g = some (.lst [v1, v2, v]) := upd_same
  generalize upd H22 g (.lst [v1, v2, v]) = H23 at x4 k4
  have e2023 := (e21.trans e22).trans x4
  have sd23 := sd20.ex e2023
  have l16 : (putR r t).1.length ≤ 16 := putR_len okr.l rmt
  have kl := kdl_put (m := m) (fun e he => kdl_ok (mok.2 e he).2.1) rmt (kdl_ok okk)
  have kl0 := KdL.mono (show 8 ≤ 16 by decide) (kdl_ok okk)
  have dp1 := dep_put (t := t) (fun e he => (mok.2 e he).2.2) k
  have dq1 := dep_kd (put k m t)
  have dq2 := dep_kd k
  have dq3 := dep_ro (putR r t)
  refine ⟨.ref f, .ref g, _, rfl, Dp.ex e2023 _ _ fnd, .lst (SqL.of k4) (.cons (Dp.ex (e22.trans x4) _ _ r1) (.cons (Dp.ex x4 _ _ r2) (.cons sd23.hv .nil))), ?_, ?_, fun H24 e24 => ?_⟩
  · simp only [PyData.depth, PyData.depthAll]
    omega
  · simp only [wid, widAll, wid_kd kl, wid_ro l16, wid_kd kl0, List.length_cons, List.length_nil]
    rfl
  have sd24 := sd23.ex e24
  have dm24 := dm20.ex (e2023.trans e24)
  have dt24 := dt20.ex (e2023.trans e24)
  clear sd20 dm20 dt20 sd23 fnd r1 r2 k4 x4 e2023 e21 e22 hg
  refine ⟨_, rfl, ?_⟩
  -- due
  refine ⟨_, rfl, _, rfl, v, u, k, r, rfl, sd24.hv, sd24.hu, okk, okr, dk, by omega, by omega, fun p H25 e25 rp => ?_⟩
  have sd25 := sd24.ex e25
  have so := settle_ok okk okr dk
  have sz2 := sz_small so.2.2
  obtain ⟨y1, y2, hp, ry1, ry2⟩ : ∃ y1 y2, SqT K H25 p [y1, y2] ∧ Dp K H25 y1 (kdD (settle k r).1) ∧ Dp K H25 y2 (roD (settle k r).2) := by
    cases rp with
    | tup hs ha =>
      cases ha with
      | cons h1 h2 =>
        cases h2 with
        | cons h3 h4 =>
          cases h4
          exact ⟨_, _, hs, h1, h3⟩
  refine ⟨_, rfl, _, rfl, v, u, k, r, rfl, sd25.hv, sd25.hu, okk, okr, dk, by omega, by omega, fun s1 H26 e26 rs1 => ?_⟩
  refine ⟨_, rfl, p, _, _, _, rfl, rfl, ex_t e26 hp, rfl, _, rfl, p, _, _, _, rfl, rfl, ex_t e26 hp, rfl, ?_⟩
  refine ⟨y1, y2, (settle k r).1, (settle k r).2, rfl, Dp.ex e26 _ _ ry1, Dp.ex e26 _ _ ry2, so.1, so.2.1, so.2.2, by omega, by omega, fun s2 H27 e27 rs2 => ?_⟩
  rw [stD_twice okk okr] at rs2
  refine ⟨(by show 2 ≤ sizeLine; decide), fun g hg => ⟨_, rfl, _, rfl, (by show 2 ≤ sizeLine; decide), fun g2 hg2 => ?_⟩⟩
  have x4 : Ex H27 (upd H27 g (.lst [.ref s1, .ref s2])) := Ex.new hg
  have k4 : (upd H27 g (.lst [.ref s1, .ref s2])) g = some (.lst [.ref s1, .ref s2]) := upd_same
  generalize upd H27 g (.lst [.ref s1, .ref s2]) = H28 at x4 k4 hg2
  have x5 : Ex H28 (upd H28 g2 (.lst [.ref p, .ref p])) := Ex.new hg2
  have k5 : (upd H28 g2 (.lst [.ref p, .ref p])) g2 = some (.lst [.ref p, .ref p]) := upd_same
  generalize upd H28 g2 (.lst [.ref p, .ref p]) = H29 at x5 k5
  have e2529 := ((e26.trans e27).trans x4).trans x5
  have rpE := Dp.ex e2529 _ _ rp
  have dq4 := dep_kd (settle k r).1
  have dq5 := dep_ro (settle k r).2
  have kl2 := KdL.mono (show 8 ≤ 16 by decide) (kdl_ok so.1)
  have lr2 : (settle k r).2.1.length ≤ 16 := Nat.le_trans so.2.1.l (by decide)
  have so2 := so.2.2
  refine ⟨.ref g, .ref g2, .list [stD k r, stD k r], rfl, .lst (SqL.of (x5 _ _ k4)) (.cons (Dp.ex ((e27.trans x4).trans x5) _ _ rs1) (.cons (Dp.ex (x4.trans x5) _ _ rs2) .nil)), .lst (SqL.of k5) (.cons rpE (.cons rpE .nil)), ?_, ?_, fun H30 e30 => ?_⟩
  · simp only [stD, PyData.depth, PyData.depthAll]
    omega
  · simp only [stD, wid, widAll, wid_kd kl2, wid_ro lr2, List.length_cons, List.length_nil]
    rfl
  refine ⟨_, rfl, ?_⟩
  have e2530 := e2529.trans e30
  have sd30 := sd25.ex e2530
  have dm30 := dm24.ex (e25.trans e2530)
  have dt30 := dt24.ex (e25.trans e2530)
  clear sd24 sd25 dm24 dt24 rp hp ry1 ry2 rs1 rs2 k4 k5 x4 x5 e2529 rpE e2530 e30 e25 e26 e27 e24
  -- all is as it was
  refine ⟨_, rfl, _, rfl, _, rfl, _, rfl, (by show 4 ≤ sizeLine; decide), fun p hp np => ?_⟩
  have x1 : Ex H30 (upd H30 p (.lst [v, u, .ref p1, .ref p2])) := Ex.new hp
  have k1 : (upd H30 p (.lst [v, u, .ref p1, .ref p2])) p = some (.lst [v, u, .ref p1, .ref p2]) := upd_same
  have sd31 := sd30.ex x1
  have dm31 := dm30.ex x1
  have dt31 := dt30.ex x1
  generalize upd H30 p (.lst [v, u, .ref p1, .ref p2]) = H31 at x1 k1 sd31 dm31 dt31
  refine ⟨p, _, [kdD k, roD r, mD kdD m, mD roD t], rfl, np, k1, .cons (.dat (to_kd k) sd31.hv) (.cons (.dat (to_ro r) sd31.hu) (.cons (dm31.dr (fun a => to_kd a)) (.cons (dt31.dr (fun a => to_ro a)) .nil))), rok.1, rok.2.1, rok.2.2, ?_⟩
  refine ⟨_, rfl, rfl, _, rfl, ?_⟩
  refine ite2 (fun z => ?_) (fun _ => ?_)
  · rw [decide_eq_true rfl] at z
    cases z
  exact ⟨_, _, _, _, _, _, _, _, _, _, _, _, _, _, rfl, sd31.bu, sd31.bx.mono (by omega), sd31.hl⟩
end
end K11

/-! K11: the law -/
namespace K11
open PySem L2 Grd
open Evl (Ex ex_t ex_l ex_rd)
def sp_law (K : PySem.W.Frag) : Sp := fun vs H Q _ => ∃ (a : Addr) (ns : List Int), vs = [.ref a] ∧ SqL K H a (ns.map V.int) ∧ ns.length ≤ 63 ∧ ∀ H', Q (.bl true) H'
section
variable {P : Program} {w : World} {K : PySem.W.Frag} {mg : Str → Option Value} {base : Heap}
theorem ok_law (T : Txt K mg) : Fn P w K mg base CX0 17 T.a_law T.d_law ["_law_script"] (sp_law K) := by
  have G_folded := ok_folded (P := P) (w := w) (base := base) T
  have G_dip := ok_dip (P := P) (w := w) (base := base) T
  have G_right := ok_right (P := P) (w := w) (base := base) T
  refine Grd.mk T.F_law sclaw (fun vs H Q E h => ?_) (fun cdv A outer st H vs Q E gd hr h => ?_)
  · obtain ⟨a, ns, rfl, _⟩ := h
    rfl
  obtain ⟨a, ns, rfl, hS, ln, q⟩ := h
  refine ⟨_, (pss_cons (ps_set (i := 1) sclaw.nd rfl (Or.inr rfl) (pe_callG G_folded gd (hr.mono (by first | decide | omega)) rfl T.g_folded T.F_folded.kp T.b_folded .nil pass0 (pa_cons (pv 0) (pa_cons pe_int pa_nil))))
      (pss_one (ps_ret (pe_callB (cr_all rfl) (by rfl) T.n_all (by decide +kernel) (pa_cons (pe_lc (own := [("_law_k", 2)]) (by rfl) sclaw.nd (pi_range1 (by rfl) T.n_range (pa_cons (pe_op op_add pe_int (pe_callB call_len_seq (by rfl) T.n_len PySem.boot_len (pa_cons (pv 1) pa_nil))) pa_nil)) (blkOk_by (own := [("_law_k", 2)]) (N := ["_law_script", "_law_cells", "_law_k"]) (sc := defScope s_law) (by decide +kernel)) (fun _ _ _ _ _ => (pg_name (i := 2) sclaw.nd rfl (Or.inl rfl))) (fun _ _ _ _ _ => pts_nil) (fun _ _ _ _ _ => (pe_callG G_right gd (hr.mono (by first | decide | omega)) rfl T.g_right T.F_right.kp T.b_right .nil pass0 (pa_cons (pe_callG G_dip gd (hr.mono (by first | decide | omega)) rfl T.g_dip T.F_dip.kp T.b_dip .nil pass0 (pa_cons (pv 1) (pa_cons (pv 2) pa_nil))) pa_nil)))) pa_nil))))), ?_⟩
  refine ⟨_, rfl, a, ns, 4, rfl, hS, ln, by decide, by decide, fun p H1 ms hp e1 lm hpv => ?_⟩
  refine ⟨_, rfl, p, _, rfl, .inl (SqL.of hpv), _, _, rfl, rfl, _, rfl, ?_, ?_, fun D hD => ?_⟩
  · rw [List.length_map]; omega
  · rw [List.length_map]; omega
  have nD : p ≠ D := ne_of_none hpv hD
  refine lc_range (fun j H' => H' D = some (.lst ((List.replicate j true).map V.bl)) ∧ H' p = some (.lst (ms.map V.int))) ⟨upd_same, by rw [upd_ne nD]; exact hpv⟩ ?_ ?_
  · rintro j H2 hj ⟨hD2, hp2⟩
    refine ⟨rfl, ?_⟩
    refine ⟨_, rfl, _, rfl, p, ms, _, rfl, SqL.of hp2, by omega, by rw [List.length_map] at hj; omega, fun b H3 hb e3 bx => ?_⟩
    refine ⟨b, rfl, bx, fun H4 bu => ?_⟩
    have nbD : D ≠ b := ne_of_none hD2 hb
    have nbp : p ≠ b := ne_of_none hp2 hb
    refine ⟨_, bu _ _ nbD (e3 _ _ hD2), by rw [List.length_map, List.length_replicate]; rw [List.length_map] at hj; exact Evl.sz_lt (by omega), ?_, ?_⟩
    · rw [upd_same, List.replicate_succ', List.map_append]; rfl
    · rw [upd_ne nD]; exact bu _ _ nbp (e3 _ _ hp2)
  rintro H2 ⟨hD2, hp2⟩
  exact ⟨D, _, rfl, SqL.of hD2, by rw [all_true]; exact q _⟩
end
theorem all_mk {l : PySem.W.OpenLaw} {w : World} {K : PySem.W.Frag} {h : Heap} {mg : Str → Option Value} {fa f1 f2 f3 f4 f5 f6 f7 f8 f9 f10 f11 f12 f13 f14 f15 f16 f17 f18 f19 f20 f21 f22 f23 : Addr} (X : K.In h) (G : h.Ns mainGlobals mg) (hfa : mg "law" = some (.ref fa))
    {od1 an1 od2 an2 od3 an3 od4 an4 od5 an5 od6 an6 od7 an7 od8 an8 od9 an9 od10 an10 od11 an11 od12 an12 od13 an13 od14 an14 od15 an15 od16 an16 od17 an17 od18 an18 od19 an19 od20 an20 od21 an21 od22 an22 od23 an23 : Option Addr} {sl1 sl2 sl3 sl4 sl5 sl6 sl7 sl8 sl9 sl10 sl11 sl12 sl13 sl14 sl15 sl16 sl17 sl18 sl19 sl20 sl21 sl22 sl23 : Array (Option Value)}
    {oc1 kV1 dc1 pm1 cd1 ct1 oc2 kV2 dc2 pm2 cd2 ct2 oc3 kV3 dc3 pm3 cd3 ct3 oc4 kV4 dc4 pm4 cd4 ct4 oc5 kV5 dc5 pm5 cd5 ct5 oc6 kV6 dc6 pm6 cd6 ct6 oc7 kV7 dc7 pm7 cd7 ct7 oc8 kV8 dc8 pm8 cd8 ct8 oc9 kV9 dc9 pm9 cd9 ct9 oc10 kV10 dc10 pm10 cd10 ct10 oc11 kV11 dc11 pm11 cd11 ct11 oc12 kV12 dc12 pm12 cd12 ct12 oc13 kV13 dc13 pm13 cd13 ct13 oc14 kV14 dc14 pm14 cd14 ct14 oc15 kV15 dc15 pm15 cd15 ct15 oc16 kV16 dc16 pm16 cd16 ct16 oc17 kV17 dc17 pm17 cd17 ct17 oc18 kV18 dc18 pm18 cd18 ct18 oc19 kV19 dc19 pm19 cd19 ct19 oc20 kV20 dc20 pm20 cd20 ct20 oc21 kV21 dc21 pm21 cd21 ct21 oc22 kV22 dc22 pm22 cd22 ct22 oc23 kV23 dc23 pm23 cd23 ct23 : Value}
    (a1 : PySem.W.nsIn K mainGlobals "note_opens" = some (some (.ref f1))) (l1 : K.lookup f1 = some ⟨oc1, od1, .func (PySem.W.fnOf "note_opens" "note_opens" (defArgs s_p_note_opens) (defBody s_p_note_opens) (defScope s_p_note_opens) .none kV1 dc1 pm1 an1 cd1 ct1), sl1⟩)
    (c1 : PySem.W.codeIn K cd1 "note_opens" = true) (k1 : PySem.W.keepIn K (.ref f1) = true)
    (a2 : PySem.W.nsIn K mainGlobals "note_tail" = some (some (.ref f2))) (l2 : K.lookup f2 = some ⟨oc2, od2, .func (PySem.W.fnOf "note_tail" "note_tail" (defArgs s_p_note_tail) (defBody s_p_note_tail) (defScope s_p_note_tail) .none kV2 dc2 pm2 an2 cd2 ct2), sl2⟩)
    (c2 : PySem.W.codeIn K cd2 "note_tail" = true) (k2 : PySem.W.keepIn K (.ref f2) = true)
    (a3 : PySem.W.nsIn K mainGlobals "opens_of" = some (some (.ref f3))) (l3 : K.lookup f3 = some ⟨oc3, od3, .func (PySem.W.fnOf "opens_of" "opens_of" (defArgs s_p_opens_of) (defBody s_p_opens_of) (defScope s_p_opens_of) .none kV3 dc3 pm3 an3 cd3 ct3), sl3⟩)
    (c3 : PySem.W.codeIn K cd3 "opens_of" = true) (k3 : PySem.W.keepIn K (.ref f3) = true)
    (a4 : PySem.W.nsIn K mainGlobals "all_opens" = some (some (.ref f4))) (l4 : K.lookup f4 = some ⟨oc4, od4, .func (PySem.W.fnOf "all_opens" "all_opens" (defArgs s_p_all_opens) (defBody s_p_all_opens) (defScope s_p_all_opens) .none kV4 dc4 pm4 an4 cd4 ct4), sl4⟩)
    (c4 : PySem.W.codeIn K cd4 "all_opens" = true) (k4 : PySem.W.keepIn K (.ref f4) = true)
    (a5 : PySem.W.nsIn K mainGlobals "put_in_roster" = some (some (.ref f5))) (l5 : K.lookup f5 = some ⟨oc5, od5, .func (PySem.W.fnOf "put_in_roster" "put_in_roster" (defArgs s_p_put_in_roster) (defBody s_p_put_in_roster) (defScope s_p_put_in_roster) .none kV5 dc5 pm5 an5 cd5 ct5), sl5⟩)
    (c5 : PySem.W.codeIn K cd5 "put_in_roster" = true) (k5 : PySem.W.keepIn K (.ref f5) = true)
    (a6 : PySem.W.nsIn K mainGlobals "put_in" = some (some (.ref f6))) (l6 : K.lookup f6 = some ⟨oc6, od6, .func (PySem.W.fnOf "put_in" "put_in" (defArgs s_p_put_in) (defBody s_p_put_in) (defScope s_p_put_in) .none kV6 dc6 pm6 an6 cd6 ct6), sl6⟩)
    (c6 : PySem.W.codeIn K cd6 "put_in" = true) (k6 : PySem.W.keepIn K (.ref f6) = true)
    (a7 : PySem.W.nsIn K mainGlobals "settled" = some (some (.ref f7))) (l7 : K.lookup f7 = some ⟨oc7, od7, .func (PySem.W.fnOf "settled" "settled" (defArgs s_p_settled) (defBody s_p_settled) (defScope s_p_settled) .none kV7 dc7 pm7 an7 cd7 ct7), sl7⟩)
    (c7 : PySem.W.codeIn K cd7 "settled" = true) (k7 : PySem.W.keepIn K (.ref f7) = true)
    (a8 : PySem.W.nsIn K mainGlobals "_law_dip" = some (some (.ref f8))) (l8 : K.lookup f8 = some ⟨oc8, od8, .func (PySem.W.fnOf "_law_dip" "_law_dip" (defArgs s_dip) (defBody s_dip) (defScope s_dip) .none kV8 dc8 pm8 an8 cd8 ct8), sl8⟩)
    (c8 : PySem.W.codeIn K cd8 "_law_dip" = true) (k8 : PySem.W.keepIn K (.ref f8) = true)
    (a9 : PySem.W.nsIn K mainGlobals "_law_take" = some (some (.ref f9))) (l9 : K.lookup f9 = some ⟨oc9, od9, .func (PySem.W.fnOf "_law_take" "_law_take" (defArgs s_take) (defBody s_take) (defScope s_take) .none kV9 dc9 pm9 an9 cd9 ct9), sl9⟩)
    (c9 : PySem.W.codeIn K cd9 "_law_take" = true) (k9 : PySem.W.keepIn K (.ref f9) = true)
    (a10 : PySem.W.nsIn K mainGlobals "_law_folded" = some (some (.ref f10))) (l10 : K.lookup f10 = some ⟨oc10, od10, .func (PySem.W.fnOf "_law_folded" "_law_folded" (defArgs s_folded) (defBody s_folded) (defScope s_folded) .none kV10 dc10 pm10 an10 cd10 ct10), sl10⟩)
    (c10 : PySem.W.codeIn K cd10 "_law_folded" = true) (k10 : PySem.W.keepIn K (.ref f10) = true)
    (a11 : PySem.W.nsIn K mainGlobals "_law_one_of" = some (some (.ref f11))) (l11 : K.lookup f11 = some ⟨oc11, od11, .func (PySem.W.fnOf "_law_one_of" "_law_one_of" (defArgs s_one_of) (defBody s_one_of) (defScope s_one_of) .none kV11 dc11 pm11 an11 cd11 ct11), sl11⟩)
    (c11 : PySem.W.codeIn K cd11 "_law_one_of" = true) (k11 : PySem.W.keepIn K (.ref f11) = true)
    (a12 : PySem.W.nsIn K mainGlobals "_law_keywords" = some (some (.ref f12))) (l12 : K.lookup f12 = some ⟨oc12, od12, .func (PySem.W.fnOf "_law_keywords" "_law_keywords" (defArgs s_keywords) (defBody s_keywords) (defScope s_keywords) .none kV12 dc12 pm12 an12 cd12 ct12), sl12⟩)
    (c12 : PySem.W.codeIn K cd12 "_law_keywords" = true) (k12 : PySem.W.keepIn K (.ref f12) = true)
    (a13 : PySem.W.nsIn K mainGlobals "_law_named" = some (some (.ref f13))) (l13 : K.lookup f13 = some ⟨oc13, od13, .func (PySem.W.fnOf "_law_named" "_law_named" (defArgs s_named) (defBody s_named) (defScope s_named) .none kV13 dc13 pm13 an13 cd13 ct13), sl13⟩)
    (c13 : PySem.W.codeIn K cd13 "_law_named" = true) (k13 : PySem.W.keepIn K (.ref f13) = true)
    (a14 : PySem.W.nsIn K mainGlobals "_law_label" = some (some (.ref f14))) (l14 : K.lookup f14 = some ⟨oc14, od14, .func (PySem.W.fnOf "_law_label" "_law_label" (defArgs s_label) (defBody s_label) (defScope s_label) .none kV14 dc14 pm14 an14 cd14 ct14), sl14⟩)
    (c14 : PySem.W.codeIn K cd14 "_law_label" = true) (k14 : PySem.W.keepIn K (.ref f14) = true)
    (a15 : PySem.W.nsIn K mainGlobals "_law_roster" = some (some (.ref f15))) (l15 : K.lookup f15 = some ⟨oc15, od15, .func (PySem.W.fnOf "_law_roster" "_law_roster" (defArgs s_roster) (defBody s_roster) (defScope s_roster) .none kV15 dc15 pm15 an15 cd15 ct15), sl15⟩)
    (c15 : PySem.W.codeIn K cd15 "_law_roster" = true) (k15 : PySem.W.keepIn K (.ref f15) = true)
    (a16 : PySem.W.nsIn K mainGlobals "_law_kind" = some (some (.ref f16))) (l16 : K.lookup f16 = some ⟨oc16, od16, .func (PySem.W.fnOf "_law_kind" "_law_kind" (defArgs s_kind) (defBody s_kind) (defScope s_kind) .none kV16 dc16 pm16 an16 cd16 ct16), sl16⟩)
    (c16 : PySem.W.codeIn K cd16 "_law_kind" = true) (k16 : PySem.W.keepIn K (.ref f16) = true)
    (a17 : PySem.W.nsIn K mainGlobals "_law_opens" = some (some (.ref f17))) (l17 : K.lookup f17 = some ⟨oc17, od17, .func (PySem.W.fnOf "_law_opens" "_law_opens" (defArgs s_opens) (defBody s_opens) (defScope s_opens) .none kV17 dc17 pm17 an17 cd17 ct17), sl17⟩)
    (c17 : PySem.W.codeIn K cd17 "_law_opens" = true) (k17 : PySem.W.keepIn K (.ref f17) = true)
    (a18 : PySem.W.nsIn K mainGlobals "_law_put_ends" = some (some (.ref f18))) (l18 : K.lookup f18 = some ⟨oc18, od18, .func (PySem.W.fnOf "_law_put_ends" "_law_put_ends" (defArgs s_put_ends) (defBody s_put_ends) (defScope s_put_ends) .none kV18 dc18 pm18 an18 cd18 ct18), sl18⟩)
    (c18 : PySem.W.codeIn K cd18 "_law_put_ends" = true) (k18 : PySem.W.keepIn K (.ref f18) = true)
    (a19 : PySem.W.nsIn K mainGlobals "_law_put" = some (some (.ref f19))) (l19 : K.lookup f19 = some ⟨oc19, od19, .func (PySem.W.fnOf "_law_put" "_law_put" (defArgs s_put) (defBody s_put) (defScope s_put) .none kV19 dc19 pm19 an19 cd19 ct19), sl19⟩)
    (c19 : PySem.W.codeIn K cd19 "_law_put" = true) (k19 : PySem.W.keepIn K (.ref f19) = true)
    (a20 : PySem.W.nsIn K mainGlobals "_law_settled" = some (some (.ref f20))) (l20 : K.lookup f20 = some ⟨oc20, od20, .func (PySem.W.fnOf "_law_settled" "_law_settled" (defArgs s_settled) (defBody s_settled) (defScope s_settled) .none kV20 dc20 pm20 an20 cd20 ct20), sl20⟩)
    (c20 : PySem.W.codeIn K cd20 "_law_settled" = true) (k20 : PySem.W.keepIn K (.ref f20) = true)
    (a21 : PySem.W.nsIn K mainGlobals "_law_same" = some (some (.ref f21))) (l21 : K.lookup f21 = some ⟨oc21, od21, .func (PySem.W.fnOf "_law_same" "_law_same" (defArgs s_same) (defBody s_same) (defScope s_same) .none kV21 dc21 pm21 an21 cd21 ct21), sl21⟩)
    (c21 : PySem.W.codeIn K cd21 "_law_same" = true) (k21 : PySem.W.keepIn K (.ref f21) = true)
    (a22 : PySem.W.nsIn K mainGlobals "_law_right" = some (some (.ref f22))) (l22 : K.lookup f22 = some ⟨oc22, od22, .func (PySem.W.fnOf "_law_right" "_law_right" (defArgs s_right) (defBody s_right) (defScope s_right) .none kV22 dc22 pm22 an22 cd22 ct22), sl22⟩)
    (c22 : PySem.W.codeIn K cd22 "_law_right" = true) (k22 : PySem.W.keepIn K (.ref f22) = true)
    (a23 : PySem.W.nsIn K mainGlobals "law" = some (some (.ref f23))) (l23 : K.lookup f23 = some ⟨oc23, od23, .func (PySem.W.fnOf "law" "law" (defArgs s_law) (defBody s_law) (defScope s_law) .none kV23 dc23 pm23 an23 cd23 ct23), sl23⟩)
    (c23 : PySem.W.codeIn K cd23 "law" = true) (k23 : PySem.W.keepIn K (.ref f23) = true)
    (z1 : PySem.W.nsIn K mainGlobals "abs" = some none)
    (z2 : PySem.W.nsIn K mainGlobals "all" = some none)
    (z3 : PySem.W.nsIn K mainGlobals "bool" = some none)
    (z4 : PySem.W.nsIn K mainGlobals "dict" = some none)
    (z5 : PySem.W.nsIn K mainGlobals "enumerate" = some none)
    (z6 : PySem.W.nsIn K mainGlobals "int" = some none)
    (z7 : PySem.W.nsIn K mainGlobals "isinstance" = some none)
    (z8 : PySem.W.nsIn K mainGlobals "len" = some none)
    (z9 : PySem.W.nsIn K mainGlobals "list" = some none)
    (z10 : PySem.W.nsIn K mainGlobals "range" = some none)
    (z11 : PySem.W.nsIn K mainGlobals "repr" = some none)
    (z12 : PySem.W.nsIn K mainGlobals "sorted" = some none)
    (z13 : PySem.W.nsIn K mainGlobals "str" = some none)
    (z14 : PySem.W.nsIn K mainGlobals "tuple" = some none)
    (z15 : PySem.W.nsIn K mainGlobals "zip" = some none)
    : ∃ fd : FuncData, (∀ (s : Shared) (v : Value), BindsTo s fd ⟨[v], []⟩ [("_law_script", v)]) ∧ ∀ base : Heap, K.In base → base.Ns mainGlobals mg → Grd.Fn l.prog w K mg base CX0 17 fa fd ["_law_script"] (sp_law K) := by
  have e := hfa.symm.trans (PySem.W.mg_of X G a23)
  cases e
  have F1 := fun_mk (st := s_p_note_opens) l1 c1 k1
  have b1 := F1.binds (ps := ["kind", "found"]) fun _ _ _ _ _ _ us hl => match us, hl with | [_, _], _ => rfl
  have F2 := fun_mk (st := s_p_note_tail) l2 c2 k2
  have b2 := F2.binds (ps := ["roster", "found"]) fun _ _ _ _ _ _ us hl => match us, hl with | [_, _], _ => rfl
  have F3 := fun_mk (st := s_p_opens_of) l3 c3 k3
  have b3 := F3.binds (ps := ["kind"]) fun _ _ _ _ _ _ us hl => match us, hl with | [_], _ => rfl
  have F4 := fun_mk (st := s_p_all_opens) l4 c4 k4
  have b4 := F4.binds (ps := ["kind", "roster"]) fun _ _ _ _ _ _ us hl => match us, hl with | [_, _], _ => rfl
  have F5 := fun_mk (st := s_p_put_in_roster) l5 c5 k5
  have b5 := F5.binds (ps := ["roster", "kinds", "tails"]) fun _ _ _ _ _ _ us hl => match us, hl with | [_, _, _], _ => rfl
  have F6 := fun_mk (st := s_p_put_in) l6 c6 k6
  have b6 := F6.binds (ps := ["kind", "kinds", "tails"]) fun _ _ _ _ _ _ us hl => match us, hl with | [_, _, _], _ => rfl
  have F7 := fun_mk (st := s_p_settled) l7 c7 k7
  have b7 := F7.binds (ps := ["kind", "roster"]) fun _ _ _ _ _ _ us hl => match us, hl with | [_, _], _ => rfl
  have F8 := fun_mk (st := s_dip) l8 c8 k8
  have b8 := F8.binds (ps := ["_law_script", "_law_k"]) fun _ _ _ _ _ _ us hl => match us, hl with | [_, _], _ => rfl
  have F9 := fun_mk (st := s_take) l9 c9 k9
  have b9 := F9.binds (ps := ["_law_box", "_law_many"]) fun _ _ _ _ _ _ us hl => match us, hl with | [_, _], _ => rfl
  have F10 := fun_mk (st := s_folded) l10 c10 k10
  have b10 := F10.binds (ps := ["_law_script", "_law_size"]) fun _ _ _ _ _ _ us hl => match us, hl with | [_, _], _ => rfl
  have F11 := fun_mk (st := s_one_of) l11 c11 k11
  have b11 := F11.binds (ps := ["_law_box", "_law_some"]) fun _ _ _ _ _ _ us hl => match us, hl with | [_, _], _ => rfl
  have F12 := fun_mk (st := s_keywords) l12 c12 k12
  have b12 := F12.binds (ps := []) fun _ _ _ _ _ _ us hl => match us, hl with | [], _ => rfl
  have F13 := fun_mk (st := s_named) l13 c13 k13
  have b13 := F13.binds (ps := ["_law_box", "_law_many"]) fun _ _ _ _ _ _ us hl => match us, hl with | [_, _], _ => rfl
  have F14 := fun_mk (st := s_label) l14 c14 k14
  have b14 := F14.binds (ps := ["_law_box", "_law_deeds"]) fun _ _ _ _ _ _ us hl => match us, hl with | [_, _], _ => rfl
  have F15 := fun_mk (st := s_roster) l15 c15 k15
  have b15 := F15.binds (ps := ["_law_box", "_law_deeds"]) fun _ _ _ _ _ _ us hl => match us, hl with | [_, _], _ => rfl
  have F16 := fun_mk (st := s_kind) l16 c16 k16
  have b16 := F16.binds (ps := ["_law_box", "_law_deeds", "_law_room", "_law_deep"]) fun _ _ _ _ _ _ us hl => match us, hl with | [_, _, _, _], _ => rfl
  have F17 := fun_mk (st := s_opens) l17 c17 k17
  have b17 := F17.binds (ps := ["_law_made", "_law_own", "_law_ends"]) fun _ _ _ _ _ _ us hl => match us, hl with | [_, _, _], _ => rfl
  have F18 := fun_mk (st := s_put_ends) l18 c18 k18
  have b18 := F18.binds (ps := ["_law_row", "_law_tails"]) fun _ _ _ _ _ _ us hl => match us, hl with | [_, _], _ => rfl
  have F19 := fun_mk (st := s_put) l19 c19 k19
  have b19 := F19.binds (ps := ["_law_made", "_law_own", "_law_tails"]) fun _ _ _ _ _ _ us hl => match us, hl with | [_, _, _], _ => rfl
  have F20 := fun_mk (st := s_settled) l20 c20 k20
  have b20 := F20.binds (ps := ["_law_made", "_law_row"]) fun _ _ _ _ _ _ us hl => match us, hl with | [_, _], _ => rfl
  have F21 := fun_mk (st := s_same) l21 c21 k21
  have b21 := F21.binds (ps := ["_law_found", "_law_due"]) fun _ _ _ _ _ _ us hl => match us, hl with | [_, _], _ => rfl
  have F22 := fun_mk (st := s_right) l22 c22 k22
  have b22 := F22.binds (ps := ["_law_box"]) fun _ _ _ _ _ _ us hl => match us, hl with | [_], _ => rfl
  have F23 := fun_mk (st := s_law) l23 c23 k23
  have b23 := F23.binds (ps := ["_law_script"]) fun _ _ _ _ _ _ us hl => match us, hl with | [_], _ => rfl
  let T : Txt K mg := {
    a_p_note_opens := f1, d_p_note_opens := _, F_p_note_opens := F1, b_p_note_opens := b1, g_p_note_opens := PySem.W.mg_of X G a1,
    a_p_note_tail := f2, d_p_note_tail := _, F_p_note_tail := F2, b_p_note_tail := b2, g_p_note_tail := PySem.W.mg_of X G a2,
    a_p_opens_of := f3, d_p_opens_of := _, F_p_opens_of := F3, b_p_opens_of := b3, g_p_opens_of := PySem.W.mg_of X G a3,
    a_p_all_opens := f4, d_p_all_opens := _, F_p_all_opens := F4, b_p_all_opens := b4, g_p_all_opens := PySem.W.mg_of X G a4,
    a_p_put_in_roster := f5, d_p_put_in_roster := _, F_p_put_in_roster := F5, b_p_put_in_roster := b5, g_p_put_in_roster := PySem.W.mg_of X G a5,
    a_p_put_in := f6, d_p_put_in := _, F_p_put_in := F6, b_p_put_in := b6, g_p_put_in := PySem.W.mg_of X G a6,
    a_p_settled := f7, d_p_settled := _, F_p_settled := F7, b_p_settled := b7, g_p_settled := PySem.W.mg_of X G a7,
    a_dip := f8, d_dip := _, F_dip := F8, b_dip := b8, g_dip := PySem.W.mg_of X G a8,
    a_take := f9, d_take := _, F_take := F9, b_take := b9, g_take := PySem.W.mg_of X G a9,
    a_folded := f10, d_folded := _, F_folded := F10, b_folded := b10, g_folded := PySem.W.mg_of X G a10,
    a_one_of := f11, d_one_of := _, F_one_of := F11, b_one_of := b11, g_one_of := PySem.W.mg_of X G a11,
    a_keywords := f12, d_keywords := _, F_keywords := F12, b_keywords := b12, g_keywords := PySem.W.mg_of X G a12,
    a_named := f13, d_named := _, F_named := F13, b_named := b13, g_named := PySem.W.mg_of X G a13,
    a_label := f14, d_label := _, F_label := F14, b_label := b14, g_label := PySem.W.mg_of X G a14,
    a_roster := f15, d_roster := _, F_roster := F15, b_roster := b15, g_roster := PySem.W.mg_of X G a15,
    a_kind := f16, d_kind := _, F_kind := F16, b_kind := b16, g_kind := PySem.W.mg_of X G a16,
    a_opens := f17, d_opens := _, F_opens := F17, b_opens := b17, g_opens := PySem.W.mg_of X G a17,
    a_put_ends := f18, d_put_ends := _, F_put_ends := F18, b_put_ends := b18, g_put_ends := PySem.W.mg_of X G a18,
    a_put := f19, d_put := _, F_put := F19, b_put := b19, g_put := PySem.W.mg_of X G a19,
    a_settled := f20, d_settled := _, F_settled := F20, b_settled := b20, g_settled := PySem.W.mg_of X G a20,
    a_same := f21, d_same := _, F_same := F21, b_same := b21, g_same := PySem.W.mg_of X G a21,
    a_right := f22, d_right := _, F_right := F22, b_right := b22, g_right := PySem.W.mg_of X G a22,
    a_law := fa, d_law := _, F_law := F23, b_law := b23, g_law := PySem.W.mg_of X G a23,
    n_abs := PySem.W.mg_none_of X G z1,
    n_all := PySem.W.mg_none_of X G z2,
    n_bool := PySem.W.mg_none_of X G z3,
    n_dict := PySem.W.mg_none_of X G z4,
    n_enumerate := PySem.W.mg_none_of X G z5,
    n_int := PySem.W.mg_none_of X G z6,
    n_isinstance := PySem.W.mg_none_of X G z7,
    n_len := PySem.W.mg_none_of X G z8,
    n_list := PySem.W.mg_none_of X G z9,
    n_range := PySem.W.mg_none_of X G z10,
    n_repr := PySem.W.mg_none_of X G z11,
    n_sorted := PySem.W.mg_none_of X G z12,
    n_str := PySem.W.mg_none_of X G z13,
    n_tuple := PySem.W.mg_none_of X G z14,
    n_zip := PySem.W.mg_none_of X G z15 }
  exact ⟨_, fun s v => .of_eq rfl, fun base _ _ => ok_law (P := l.prog) (w := w) (base := base) T⟩
end K11

open PySem PySem.W PyProof.Rows in
set_option maxRecDepth 100000 in
set_option maxHeartbeats 0 in
theorem PySem.Challenge.cw_handledeeds_k11_open_ones_put_in_holds : PySem.Challenge.rw_handledeeds_k11_open_ones_put_in.Holds := by
  w_on; o_law; k_head; (case hw => w_witness2)
  k_fill
  refine Grd.walkG (l := PySem.Challenge.rw_handledeeds_k11_open_ones_put_in) (n := 63) (k := 17) (x := "_law_script") (CX := fun _ => L2.CX0) (sp := fun w => K11.sp_law _) rfl (by decide) rfl ⟨rfl, by decide, by decide⟩ (fun w h Y => PySem.W.kIn_of Y) ?F (fun _ _ a ns hl _ hS => ⟨a, ns, rfl, hS, hl, fun _ => rfl⟩) (fun _ _ _ _ _ z => z)
  case F =>
    intro w mg fa h KX G hmg
    refine' K11.all_mk KX G hmg ?a1 ?l1 ?c1 ?k1 ?a2 ?l2 ?c2 ?k2 ?a3 ?l3 ?c3 ?k3 ?a4 ?l4 ?c4 ?k4 ?a5 ?l5 ?c5 ?k5 ?a6 ?l6 ?c6 ?k6 ?a7 ?l7 ?c7 ?k7 ?a8 ?l8 ?c8 ?k8 ?a9 ?l9 ?c9 ?k9 ?a10 ?l10 ?c10 ?k10 ?a11 ?l11 ?c11 ?k11 ?a12 ?l12 ?c12 ?k12 ?a13 ?l13 ?c13 ?k13 ?a14 ?l14 ?c14 ?k14 ?a15 ?l15 ?c15 ?k15 ?a16 ?l16 ?c16 ?k16 ?a17 ?l17 ?c17 ?k17 ?a18 ?l18 ?c18 ?k18 ?a19 ?l19 ?c19 ?k19 ?a20 ?l20 ?c20 ?k20 ?a21 ?l21 ?c21 ?k21 ?a22 ?l22 ?c22 ?k22 ?a23 ?l23 ?c23 ?k23 ?z1 ?z2 ?z3 ?z4 ?z5 ?z6 ?z7 ?z8 ?z9 ?z10 ?z11 ?z12 ?z13 ?z14 ?z15
    (case a1 => k_is)
    (case l1 => k_is)
    (case c1 => k_is)
    (case k1 => k_is)
    (case a2 => k_is)
    (case l2 => k_is)
    (case c2 => k_is)
    (case k2 => k_is)
    (case a3 => k_is)
    (case l3 => k_is)
    (case c3 => k_is)
    (case k3 => k_is)
    (case a4 => k_is)
    (case l4 => k_is)
    (case c4 => k_is)
    (case k4 => k_is)
    (case a5 => k_is)
    (case l5 => k_is)
    (case c5 => k_is)
    (case k5 => k_is)
    (case a6 => k_is)
    (case l6 => k_is)
    (case c6 => k_is)
    (case k6 => k_is)
    (case a7 => k_is)
    (case l7 => k_is)
    (case c7 => k_is)
    (case k7 => k_is)
    (case a8 => k_is)
    (case l8 => k_is)
    (case c8 => k_is)
    (case k8 => k_is)
    (case a9 => k_is)
    (case l9 => k_is)
    (case c9 => k_is)
    (case k9 => k_is)
    (case a10 => k_is)
    (case l10 => k_is)
    (case c10 => k_is)
    (case k10 => k_is)
    (case a11 => k_is)
    (case l11 => k_is)
    (case c11 => k_is)
    (case k11 => k_is)
    (case a12 => k_is)
    (case l12 => k_is)
    (case c12 => k_is)
    (case k12 => k_is)
    (case a13 => k_is)
    (case l13 => k_is)
    (case c13 => k_is)
    (case k13 => k_is)
    (case a14 => k_is)
    (case l14 => k_is)
    (case c14 => k_is)
    (case k14 => k_is)
    (case a15 => k_is)
    (case l15 => k_is)
    (case c15 => k_is)
    (case k15 => k_is)
    (case a16 => k_is)
    (case l16 => k_is)
    (case c16 => k_is)
    (case k16 => k_is)
    (case a17 => k_is)
    (case l17 => k_is)
    (case c17 => k_is)
    (case k17 => k_is)
    (case a18 => k_is)
    (case l18 => k_is)
    (case c18 => k_is)
    (case k18 => k_is)
    (case a19 => k_is)
    (case l19 => k_is)
    (case c19 => k_is)
    (case k19 => k_is)
    (case a20 => k_is)
    (case l20 => k_is)
    (case c20 => k_is)
    (case k20 => k_is)
    (case a21 => k_is)
    (case l21 => k_is)
    (case c21 => k_is)
    (case k21 => k_is)
    (case a22 => k_is)
    (case l22 => k_is)
    (case c22 => k_is)
    (case k22 => k_is)
    (case a23 => k_is)
    (case l23 => k_is)
    (case c23 => k_is)
    (case k23 => k_is)
    (case z1 => k_is)
    (case z2 => k_is)
    (case z3 => k_is)
    (case z4 => k_is)
    (case z5 => k_is)
    (case z6 => k_is)
    (case z7 => k_is)
    (case z8 => k_is)
    (case z9 => k_is)
    (case z10 => k_is)
    (case z11 => k_is)
    (case z12 => k_is)
    (case z13 => k_is)
    (case z14 => k_is)
    (case z15 => k_is)
