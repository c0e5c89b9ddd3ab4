import PyProof.Rows.All
import Wide.All
import OpenK.AllK
import Wide.FinOn
import PyProof.ReprRoads
import HandS.ForMost
import HandS.IsInst
import HandS.TupAny
import HandS.DictComp
import HandS.Evl
import HandS.Style
import HandS.Wide
import HandS.TupMul
import HandS.Deep
import HandS.Text
import HandS.More
import KE.KUnpackStar
import KE.KUnpack
import KE.GoesNew
import KE.DataMinMax
import HandS.SortKw
import HandS.SetTxt0
import HandS.SetBool
import PyProof.Rows.SortShellAny
import HandS.SetFor
import HandS.Strs
import KE.KDictZip
import KE.GoesZip
import HandS.ExcValue
import HandS.Small
import HandS.WordsDict
import PyProof.ReprLen
import PySem.Challenge.RW_handledeeds_k45_answers_made_quick_and_s
import HandS.Walk
set_option Elab.async false
set_option maxRecDepth 100000
set_option maxHeartbeats 4000000
set_option linter.all false
/-! A def's promise where no repr is under way around the call (guards empty): needed by repr of lists, tuples, dicts. -/
namespace Grd
open PySem L2 PyProof.Rows

/-- as FnOk, the call standing where no repr goes on -/
structure Fn (P : Program) (w : World) (K : PySem.W.Frag) (mg : Str → Option Value) (base : Heap) (CX : CXT)
    (k : Nat) (f : Addr) (fd : FuncData) (ps : List Str) (sp : Sp) : Prop where
  len : ∀ vs H Q E, sp vs H Q E → vs.length = ps.length
  run : ∀ (A : Around) (outer : List Env) (s : Shared) (H : Hp) (args : Args) (us : List Value) (vs : List V)
    (Q : VK) (E : XK), A.guards = some [] → Room k A → Env0 P w K mg base A outer s H →
    BindsTo s fd args (ps.zip us) → Vals vs us → sp vs H Q E →
    codeAny (model P w) A (.call (.ref f) args) (CR CX outer P w H s Q E) s

section
variable {P : Program} {w : World} {K : PySem.W.Frag} {mg : Str → Option Value} {base : Heap} {CX : CXT} {k j : Nat}
  {f : Addr} {fd : FuncData} {ps : List Str} {sp sp' : Sp}

theorem Fn.ofOk (G : FnOk P w K mg base CX k f fd ps sp) : Fn P w K mg base CX k f fd ps sp :=
  ⟨G.len, fun A outer s H args us vs Q E _ => G.run A outer s H args us vs Q E⟩

theorem Fn.up (G : Fn P w K mg base CX j f fd ps sp) (h : j ≤ k) : Fn P w K mg base CX k f fd ps sp :=
  ⟨G.len, fun A outer s H args us vs Q E hg hr => G.run A outer s H args us vs Q E hg (hr.mono h)⟩

/-- the body's walk gives the promise -/
theorem mk {x qual : Str} {st : Stmt} {N : List Str} (F : Fun K x qual st f fd) (S : FnScope N ps (defScope st))
    (len : ∀ vs H Q E, sp vs H Q E → vs.length = ps.length)
    (body : ∀ (cdv : Value) (A : Around) (outer : List Env) (s : Shared) (H : Hp) (vs : List V) (Q : VK) (E : XK),
      (A.deeper (envOfC qual (defScope st) s.heap.objs.size f cdv)).guards = some [] →
      Room k (A.deeper (envOfC qual (defScope st) s.heap.objs.size f cdv)) → sp vs H Q E →
      ∃ t, PSs (cxOf CX0 P w K mg base N qual (defScope st) f cdv A outer s H E).nox (defBody st) t ∧
        t { nx := fun _ H' => Q .non H', rt := Q } (start N vs) H) :
    Fn P w K mg base CX0 (k + 1) f fd ps sp := by
  obtain ⟨oc, od, kV, doc, pm, an, cdv, ct, osl, rfl, lk, hcd⟩ := F.ex
  constructor
  · exact len
  intro A outer s H args us vs Q E hg hr e0 hb r hsp
  have hlen := len _ _ _ _ hsp
  have inK : K.In s.heap := e0.mod.kin.keeps fun b o z => (e0.bs b o z).1
  have noLim : s.heap.NoLimit := e0.mod.nolimit.keeps fun b o z => (e0.bs b o z).1
  obtain ⟨t, ht, hq⟩ := body cdv A outer s H vs Q E (by exact hg) (hr.deeper _) hsp
  have kinds : ∀ y ∈ ps.zip us, (defScope st).names.lookup y.1 = some .local ∨
      ((defScope st).names.lookup y.1 = some .cell ∧
        ((cellsFrom (s.heap.objs.size + 1) (defScope st).names []).lookup y.1).isSome = true) := by
    rintro ⟨n, v⟩ hy
    cases S.par n (List.of_mem_zip hy).1 with
    | inl q => exact .inl q
    | inr q => exact .inr ⟨q, PySem.W.cellsFrom_some _ _ _ (.inl q)⟩
  refine codeAny_call_function hr.depth (inK _ _ lk) rfl S.co S.gen rfl
    (PySem.W.codeRec_of inK hcd) (hb _ _ _ _ ?_)
  refine wpAny_newFunctionEnv_cells S.kind kinds fun env he s1 x => ?_
  subst he
  refine ⟨noLim.keeps x.toInCall.keep, codeAny_func ?_⟩
  have I := inv_start (CX := CX0) (E := E) S hr.hd e0 hlen r x
  refine wpAny_mono (ht.nox.run [] s1 (start N vs) H _ I hq) ?_ (fun e s' hs => hs)
  intro fl s' hs
  cases fl with
  | ret u =>
    obtain ⟨v, σ', H', J, rv, q⟩ := hs
    exact ⟨v, H', J.os, J.bare, J.base, J.hok, rv, q⟩
  | next =>
    obtain ⟨σ', H', J, q⟩ := hs
    exact ⟨V.non, H', J.os, J.bare, J.base, J.hok, rfl, q⟩
  | brk =>
    obtain ⟨_, _, _, q⟩ := hs
    exact q.elim
  | cont =>
    obtain ⟨_, _, _, q⟩ := hs
    exact q.elim
end

section
variable {X : Cx} {CX : CXT} {k : Nat} {f : Addr} {fd : FuncData} {ps : List Str} {sp : Sp} {dvs : List V} {ds : List Value}
  {E : XK} {x : Str} {p pos : Pos} {e : Expr} {es : List Expr} {t : TA}

theorem run_it {pins : List (Addr × Obj)} {σ : L2.St} {H : Hp} {s : Shared} {Q : VK} {us : List Value} {vs : List V}
    (F : Fn X.prog X.w X.K X.mg X.base CX k f fd ps sp) (gd : X.A.guards = some []) (hr : Room k X.A)
    (hb : Binds X.K fd ps ds) (hd : Vals dvs ds) (hx : Passes CX X E)
    (I : Inv X pins σ H s) (r : Vals vs us) (h : sp (vs ++ dvs) H Q E) :
    wpAny (model X.prog X.w) X.A (call (.ref f) us) (EP X pins σ Q) X.xe s := by
  have rr := r.append hd
  have ll : (us ++ ds).length = ps.length := rr.length.symm.trans (F.len _ _ _ _ h)
  have z := F.run X.A X.stack s H ⟨us, []⟩ (us ++ ds) (vs ++ dvs) Q E gd hr I.env0 (hb s us I.kIn ll) rr h
  refine wpAny_call (codeAny_mono z ?_)
  intro r s' hq
  match r, hq with
  | .error e, hq => exact hx pins σ H s e s' I hq
  | .ok (.ret u), hq => exact I.after hq
  | .ok .next, hq => exact hq.elim
  | .ok .brk, hq => exact hq.elim
  | .ok .cont, hq => exact hq.elim

/-- f(e, ..) -/
theorem pe_callG (F : Fn X.prog X.w X.K X.mg X.base CX k f fd ps sp) (gd : X.A.guards = some []) (hr : Room k X.A)
    (hg : Gl X x) (hm : X.mg x = some (.ref f)) (hk : PySem.W.keepIn X.K (.ref f) = true) (hb : Binds X.K fd ps ds)
    (hd : Vals dvs ds) (hx : Passes CX X E) (ha : PA X (e :: es) t)
    (hdb : (x == ("__debug__" : Str)) = false := by decide)
    (he : starEach (e :: es) X.env = (false, eval e X.env) :: starEach es X.env := by rfl)
    (hpl : (backTo pos (starEach es X.env)).any (·.1) = false := by rfl) :
    PE X (.Call (.Name x p) (e :: es) [] pos) (tCall sp dvs E t) := by
  constructor
  intro pins s σ H Q I h
  refine wpAny_Call_Name_kw (ld_glob I hg hm ?_ hdb)
  have z := thn (Q' := fun us s1 => X.K.In s1.heap ∧ wpAny (model X.prog X.w) X.A (call (.ref f) us) (EP X pins σ Q) X.xe s1)
    (ha.run pos pins s σ H _ I h) (by
      rintro us s1 ⟨vs, H1, I1, r, q⟩
      exact ⟨I1.kIn, run_it F gd hr hb hd hx I1 r q⟩)
  exact PySem.W.callWith_K (h₀ := X.base) I.ok.mod.kin hk z he hpl

/-- f() -/
theorem pe_callG0 (F : Fn X.prog X.w X.K X.mg X.base CX k f fd ps sp) (gd : X.A.guards = some []) (hr : Room k X.A)
    (hg : Gl X x) (hm : X.mg x = some (.ref f)) (hk : PySem.W.keepIn X.K (.ref f) = true) (hb : Binds X.K fd ps ds)
    (hd : Vals dvs ds) (hx : Passes CX X E) (hdb : (x == ("__debug__" : Str)) = false := by decide) :
    PE X (.Call (.Name x p) [] [] pos) (tCall sp dvs E tNil) := by
  constructor
  intro pins s σ H Q I h
  refine wpAny_Call_Name_kw (ld_glob I hg hm ?_ hdb)
  exact PySem.W.callWith_K0 I.kIn hk (run_it (us := []) F gd hr hb hd hx I .nil h)
end

/-! ### the end of a law: as the library's own, from a promise where no repr goes on -/
theorem law_run {P : Program} {w : World} {K : PySem.W.Frag} {mg mb : Str → Option Value} {CX : CXT} {k : Nat} {fa a : Addr}
    {fd : FuncData} {x : Str} {sp : Sp} {s₁ : Shared} {vs : List Value} {ns : List Int}
    (KX : K.In s₁.heap) (hns : s₁.heap.Ns mainGlobals mg) (hb : s₁.heap.Ns builtinsNs mb)
    (hbb : ∀ x : Str, x ≠ "__name__" → mb x = bootBuiltins x) (hlim : s₁.heap.NoLimit) (hg : s₁.gens = #[])
    (ha : s₁.heap.get? a = some { cls := .type "list", data := .seq vs.toArray }) (hi : IntsAre vs ns)
    (hl : ns.length ≤ sizeLine) (hr : Room k callerA)
    (F : ∀ base : Heap, K.In base → base.Ns mainGlobals mg → Fn P w K mg base CX k fa fd [x] sp)
    (hbind : ∀ (s : Shared) (u : Value), BindsTo s fd ⟨[u], []⟩ [(x, u)])
    (hsp : ∀ H : Hp, Only H → SqL K H a (ns.map V.int) → sp [.ref a] H (fun v _ => v = .bl true) fun _ _ _ => False)
    (hCX : ∀ H e s', CX [] H s₁ (fun _ _ _ => False) e s' → False) :
    codeAny (model P w) callerA (.call (.ref fa) ⟨[.ref a], []⟩)
      (fun r s' => r = .ok (.ret (.bool true)) ∧ OldK s₁.heap s'.heap ∧ s'.os = s₁.os ∧ AllBare s'.gens) s₁ := by
  have rv := vals_ints hi
  have lv := hi.length
  have main : ∀ H : Hp, Only H → SqL K H a (ns.map V.int) → HOk P w H s₁.heap → (∀ b, H b ≠ none → b = a) →
      (H a ≠ none → K.lookup a = none) → codeAny (model P w) callerA (.call (.ref fa) ⟨[.ref a], []⟩)
      (fun r s' => r = .ok (.ret (.bool true)) ∧ OldK s₁.heap s'.heap ∧ s'.os = s₁.os ∧ AllBare s'.gens) s₁ := by
    intro H only hS hok hA hK
    have free : ∀ {b : Addr}, ¬ b = a → H b = none := by
      intro b nb
      cases q : H b with
      | none => rfl
      | some u => exact absurd (hA b (by rw [q]; simp)) nb
    have dictFree : ∀ {b : Addr} {o : Obj} {es : Array DictEntry} {ep : Nat}, s₁.heap.get? b = some o →
        o.data = .dict es ep → H b = none := by
      intro b o es ep e d
      by_cases nb : b = a
      · rw [nb, ha] at e
        rw [← Option.some.inj e] at d
        exact nomatch d
      · exact free nb
    have nsOf : ∀ {b : Addr} {m : Str → Option Value}, s₁.heap.Ns b m → (hidT s₁.heap H).Ns b m := by
      rintro b m ⟨o, es, ep, e, d, r⟩
      exact ⟨o, es, ep, hidT_get e (dictFree e d), d, r⟩
    have inB : K.In (hidT s₁.heap H) := by
      intro b o e
      refine hidT_get (KX b o e) ?_
      cases q : H b with
      | none => rfl
      | some u =>
        have e' : b = a := hA b (by rw [q]; simp)
        have n := hK (by rw [← e', q]; simp)
        rw [e', n] at e
        exact nomatch e
    have mod : Mod K mg (hidT s₁.heap H) := by
      obtain ⟨mc, h1, h2⟩ := hlim
      exact ⟨inB, nsOf hns, ⟨mb, nsOf hb, hbb⟩, ⟨mc, nsOf h1, h2⟩⟩
    have e0 : Env0 P w K mg (hidT s₁.heap H) callerA [] s₁ H :=
      { frames := rfl, mod := mod, bs := fun b o e => of_hidT e, bsz := Nat.le_of_eq (hidT_size _ _), funs := trivial,
        frf := fun b hb => absurd (show b ∈ ([] : List Addr) from hb) (by simp), hok := hok, bare := .of_eq hg }
    have go := (F _ inB (nsOf hns)).run callerA [] s₁ H ⟨[.ref a], []⟩ [.ref a] [.ref a] _ _ rfl hr e0
      (hbind s₁ (.ref a)) (.cons rfl .nil) (hsp H only hS)
    refine codeAny_mono go ?_
    intro r s' h
    match r, h with
    | .error e, h => exact (hCX H e s' h).elim
    | .ok .next, h => exact h.elim
    | .ok .brk, h => exact h.elim
    | .ok .cont, h => exact h.elim
    | .ok (.ret u), h =>
      obtain ⟨v, H', os, bare, un, hok', r', q⟩ := h
      have q' : v = .bl true := q
      subst q'
      have eu : u = Value.bool true := r'
      subst eu
      refine ⟨rfl, OldK.of_keep ?_, os, bare⟩
      intro b o e
      rcases only b with z | ⟨ob, xs, z⟩
      · exact un.keep b o e z (fun y => absurd (show b ∈ ([] : List Addr) from y) (by simp)) (by simp)
      · have y1 := (hok b _ z).1
        have y2 := (hok' b _ (un.frzs b ob _ z)).1
        rw [e] at y1
        rw [Option.some.inj y1]
        exact y2
  cases hk : K.lookup a with
  | some o =>
    have e := KX a o hk
    rw [ha] at e
    have eo := Option.some.inj e
    subst eo
    refine main (fun _ => none) (fun _ => .inl rfl) ?_ (fun b u z => nomatch (show (none : Option HO) = some u from z))
      (fun b z => absurd rfl z) (fun z => absurd rfl z)
    exact .inr ⟨_, vs.toArray, _, hk, rfl, rfl, rfl, by rw [List.size_toArray, lv]; exact hl, by simpa using rv⟩
  | none =>
    let ob : Obj := { cls := .type "list", data := .seq vs.toArray }
    let HS : Hp := fun b => if b = a then some (.frz ob (.lst (ns.map V.int))) else none
    have at_ : HS a = some (.frz ob (.lst (ns.map V.int))) := if_pos rfl
    have off : ∀ {b : Addr}, ¬ b = a → HS b = none := fun nb => if_neg nb
    refine main HS ?_ (.inl (.inr ⟨ob, at_⟩)) ?_ ?_ (fun _ => hk)
    · intro b
      by_cases nb : b = a
      · rw [nb]; exact .inr ⟨_, _, at_⟩
      · exact .inl (off nb)
    · intro b u z
      by_cases nb : b = a
      · subst nb
        rw [at_] at z
        have zu := Option.some.inj z
        subst zu
        exact ⟨ha, by rw [List.length_map]; exact hl, vs, _, rv, ha⟩
      · rw [off nb] at z
        exact nomatch z
    · intro b z
      by_cases nb : b = a
      · exact nb
      · exact absurd (off nb) z

theorem walkG {l : PySem.W.OpenLaw} {n k : Nat} {q : Program} {loose : List Str} {XP : (Str → Option Value) → Heap → Prop}
    {YP : World → Heap → Prop} {d : DefRec} {K : Params → PySem.W.Frag} {CX : World → CXT} {sp : World → Sp} {x : Str}
    (hn : l.most = some n) (hn2 : n ≤ sizeLine) (hdf : d.params.defaults = []) (hr : Room k callerA)
    (hY : ∀ (w : World) (h : Heap), YP w h → (K w.params).In h)
    (F : ∀ (w : World) (mg : Str → Option Value) (fa : Addr) (h : Heap), (K w.params).In h → h.Ns mainGlobals mg →
      mg d.name = some (.ref fa) → ∃ fd : FuncData, (∀ (s : Shared) (u : Value), BindsTo s fd ⟨[u], []⟩ [(x, u)]) ∧
        ∀ base : Heap, (K w.params).In base → base.Ns mainGlobals mg → Fn l.prog w (K w.params) mg base (CX w) k fa fd [x] (sp w))
    (hsp : ∀ (w : World) (H : Hp) (a : Addr) (ns : List Int), ns.length ≤ n → Only H → SqL (K w.params) H a (ns.map V.int) →
      sp w [.ref a] H (fun v _ => v = .bl true) fun _ _ _ => False)
    (hCX : ∀ (w : World) (H : Hp) (s : Shared) (e : Value) (s' : Shared), CX w [] H s (fun _ _ _ => False) e s' → False) :
    PySem.W.WalkO q loose XP YP l.row.toRowW d [] (fun f vs => PySem.call f vs) := by
  refine Att.attach_call hn hdf ?_
  intro w s₀ s₁ mg mb fa o pm cd doc a vs ns G Y ho hd hcd hmg hobj hints hlen hg
  have KX := hY w _ Y
  obtain ⟨fd, hb, hF⟩ := F w mg fa _ KX G.T.g hmg
  exact law_run KX G.T.g G.T.b G.T.builtins G.T.nolimit hg hobj hints (Nat.le_trans hlen hn2) hr hF hb
    (fun H only hS => hsp w H a ns hlen only hS) (fun H e s' => hCX w H s₁ e s')

end Grd

/-! Ow: data without a heap. A value is a datum (nothing in it is changed any more) or an object that one name alone holds. -/
namespace Ow
open PySem L2 Grd
open Evl (Ex ex_t ex_l ex_rd)

/-- the shape of an object that is held by one alone -/
inductive Sh where
  | lst | tup | dic (ks : List Key) | ins (C : Addr) (ks : List Str) | ext (o : Addr → HO)
/-- a datum, or an object held by one alone, with what is in it -/
inductive OV where
  | d (x : PyData)
  | n (s : Sh) (xs : List OV)
abbrev OV.l (xs : List OV) : OV := .n .lst xs
abbrev OV.t (xs : List OV) : OV := .n .tup xs
abbrev En := List (Option OV)
abbrev FS := Addr → Bool

/-- the part of the heap that is never changed any more -/
def rs (H : Hp) (F : FS) : Hp := fun a => if F a = true then H a else none
def Sh.is (s : Sh) (H : Hp) (a : Addr) (vs : List V) (ex : List Addr) : Prop :=
  match s with
  | .lst => H a = some (.lst vs) ∧ ex = []
  | .tup => H a = some (.tup vs) ∧ ex = []
  | .dic ks => H a = some (.dK (ks.zip vs)) ∧ ks.length = vs.length ∧ ex = []
  | .ins C ks => ∃ dx, H a = some (.ins C dx (ks.zip vs)) ∧ ks.length = vs.length ∧ H dx = some (.own a) ∧ ex = [dx]
  | .ext o => H a = some (o a) ∧ vs = [] ∧ ex = []

mutual
inductive Dt (K : PySem.W.Frag) (H : Hp) : V → PyData → Prop
  | non : Dt K H .non .none
  | bl (b : Bool) : Dt K H (.bl b) (.bool b)
  | int (i : Int) : Dt K H (.int i) (.int i)
  | str (x : Str) : Dt K H (.str x) (.str x)
  | lst {a : Addr} {xs : List V} {ds : List PyData} : H a = some (.lst xs) → Dts K H xs ds → Dt K H (.ref a) (.list ds)
  | tup {a : Addr} {xs : List V} {ds : List PyData} : SqT K H a xs → Dts K H xs ds → Dt K H (.ref a) (.tuple ds)
inductive Dts (K : PySem.W.Frag) (H : Hp) : List V → List PyData → Prop
  | nil : Dts K H [] []
  | cons {v : V} {vs : List V} {d : PyData} {ds : List PyData} : Dt K H v d → Dts K H vs ds → Dts K H (v :: vs) (d :: ds)
end
mutual
inductive Own (K : PySem.W.Frag) (H : Hp) (F : FS) : V → OV → List Addr → Prop
  | d {v : V} {x : PyData} : Dt K (rs H F) v x → Own K H F v (.d x) []
  | n {a : Addr} {s : Sh} {vs : List V} {xs : List OV} {ex as : List Addr} : s.is H a vs ex → Owns K H F vs xs as → Own K H F (.ref a) (.n s xs) (a :: ex ++ as)
inductive Owns (K : PySem.W.Frag) (H : Hp) (F : FS) : List V → List OV → List Addr → Prop
  | nil : Owns K H F [] [] []
  | cons {v : V} {vs : List V} {x : OV} {xs : List OV} {as bs : List Addr} : Own K H F v x as → Owns K H F vs xs bs → Owns K H F (v :: vs) (x :: xs) (as ++ bs)
end
/-- the names -/
inductive Oe (K : PySem.W.Frag) (H : Hp) (F : FS) : L2.St → En → List Addr → Prop
  | nil : Oe K H F [] [] []
  | skip {o : Option V} {σ : L2.St} {env : En} {as : List Addr} : Oe K H F σ env as → Oe K H F (o :: σ) (none :: env) as
  | cons {v : V} {x : OV} {σ : L2.St} {env : En} {as bs : List Addr} : Own K H F v x as → Oe K H F σ env bs → Oe K H F (some v :: σ) (some x :: env) (as ++ bs)

/-- how things stand: what is held for a while (vs), and the names -/
structure Cf (K : PySem.W.Frag) (H : Hp) (F : FS) (A : Addr → Prop) (vs : List V) (xs : List OV) (σ : L2.St) (env : En) : Prop where
  ex : ∃ a1 a2, Owns K H F vs xs a1 ∧ Oe K H F σ env a2 ∧ (a1 ++ a2).Nodup ∧ ∀ a ∈ a1 ++ a2, F a = false ∧ A a
  fh : ∀ a, F a = true → H a ≠ none
/-- from one heap to a later one: outside A all stays, what is fixed stays -/
structure Step (A : Addr → Prop) (F : FS) (H : Hp) (F' : FS) (H' : Hp) : Prop where
  keep : ∀ a o, ¬ A a → H a = some o → H' a = some o
  fr : Ex (rs H F) (rs H' F')
  fn : ∀ a, F' a = true → F a = true ∨ A a ∨ H a = none
def nxt (A : Addr → Prop) (H : Hp) : Addr → Prop := fun a => A a ∨ H a = none

/-! ### the algebra of it -/
section
variable {K : PySem.W.Frag} {H H' H'' : Hp} {F F' F'' : FS} {A : Addr → Prop}
theorem rs_some {a : Addr} {o : HO} : rs H F a = some o ↔ F a = true ∧ H a = some o := by
  unfold rs
  by_cases h : F a = true
  · simp [h]
  · simp [h]
theorem Step.refl : Step A F H F H := ⟨fun _ _ _ h => h, Ex.refl _, fun _ h => .inl h⟩
theorem Step.trans (s : Step A F H F' H') (t : Step (nxt A H) F' H' F'' H'') : Step A F H F'' H'' := by
  refine ⟨fun a o na h => t.keep a o (fun z => ?_) (s.keep a o na h), s.fr.trans t.fr, fun a h => ?_⟩
  · rcases z with z | z
    · exact na z
    · rw [h] at z; cases z
  · rcases t.fn a h with h | (h | h) | h
    · exact s.fn a h
    · exact .inr (.inl h)
    · exact .inr (.inr h)
    · by_cases na : A a
      · exact .inr (.inl na)
      · cases e : H a with
        | none => exact .inr (.inr rfl)
        | some o => rw [s.keep a o na e] at h; cases h
theorem nxt_mono {B : Addr → Prop} (h : ∀ a, A a → B a) : ∀ a, nxt A H a → nxt B H a := fun a z => z.elim (fun z => .inl (h a z)) .inr
theorem nxt_nxt (s : Step A F H F' H') : ∀ a, nxt (nxt A H) H' a → nxt A H a := fun a z => by
  rcases z with z | z
  · exact z
  · by_cases na : A a
    · exact .inl na
    · cases e : H a with
      | none => exact .inr e
      | some o => rw [s.keep a o na e] at z; cases z
theorem Cf.mono {B : Addr → Prop} {vs : List V} {xs : List OV} {σ : L2.St} {env : En} (c : Cf K H F A vs xs σ env) (h : ∀ a, A a → B a) : Cf K H F B vs xs σ env := by
  obtain ⟨⟨a1, a2, h1, h2, h3, h4⟩, fh⟩ := c
  exact ⟨⟨a1, a2, h1, h2, h3, fun a ha => ⟨(h4 a ha).1, h a (h4 a ha).2⟩⟩, fh⟩
theorem Sh.is_keep {s : Sh} {a : Addr} {vs : List V} {ex : List Addr} (h : s.is H a vs ex) (k : ∀ b ∈ a :: ex, ∀ o, H b = some o → H' b = some o) : s.is H' a vs ex := by
  cases s with
  | lst => exact ⟨k a List.mem_cons_self _ h.1, h.2⟩
  | tup => exact ⟨k a List.mem_cons_self _ h.1, h.2⟩
  | dic ks => exact ⟨k a List.mem_cons_self _ h.1, h.2⟩
  | ins C ks =>
    obtain ⟨dx, h1, h2, h3, rfl⟩ := h
    exact ⟨dx, k a List.mem_cons_self _ h1, h2, k dx (List.mem_cons_of_mem _ List.mem_cons_self) _ h3, rfl⟩
  | ext o => exact ⟨k a List.mem_cons_self _ h.1, h.2⟩
theorem Sh.is_some {s : Sh} {a : Addr} {vs : List V} {ex : List Addr} (h : s.is H a vs ex) : ∀ b ∈ a :: ex, H b ≠ none := by
  cases s with
  | lst => obtain ⟨h, rfl⟩ := h; intro b hb; simp at hb; subst hb; rw [h]; simp
  | tup => obtain ⟨h, rfl⟩ := h; intro b hb; simp at hb; subst hb; rw [h]; simp
  | dic ks => obtain ⟨h, _, rfl⟩ := h; intro b hb; simp at hb; subst hb; rw [h]; simp
  | ins C ks =>
    obtain ⟨dx, h1, h2, h3, rfl⟩ := h
    intro b hb
    simp at hb
    rcases hb with rfl | rfl
    · rw [h1]; simp
    · rw [h3]; simp
  | ext o => obtain ⟨h, _, rfl⟩ := h; intro b hb; simp at hb; subst hb; rw [h]; simp
mutual
theorem dt_ex (e : Ex H H') : ∀ {v : V} {x : PyData}, Dt K H v x → Dt K H' v x
  | _, _, .non => .non
  | _, _, .bl b => .bl b
  | _, _, .int i => .int i
  | _, _, .str x => .str x
  | _, _, .lst h t => .lst (e _ _ h) (dts_ex e t)
  | _, _, .tup h t => .tup (ex_t e h) (dts_ex e t)
theorem dts_ex (e : Ex H H') : ∀ {vs : List V} {xs : List PyData}, Dts K H vs xs → Dts K H' vs xs
  | _, _, .nil => .nil
  | _, _, .cons h t => .cons (dt_ex e h) (dts_ex e t)
end
mutual
theorem Dt.dp : ∀ {v : V} {x : PyData}, Dt K H v x → Dp K H v x
  | _, _, .non => .non
  | _, _, .bl b => .bl b
  | _, _, .int i => .int i
  | _, _, .str x => .str x
  | _, _, .lst h t => .lst (.of h) (Dts.dp t)
  | _, _, .tup h t => .tup h (Dts.dp t)
theorem Dts.dp : ∀ {vs : List V} {xs : List PyData}, Dts K H vs xs → DpAll K H vs xs
  | _, _, .nil => .nil
  | _, _, .cons h t => .cons (Dt.dp h) (Dts.dp t)
end
theorem Dts.len : ∀ {vs : List V} {xs : List PyData}, Dts K H vs xs → xs.length = vs.length
  | _, _, .nil => rfl
  | _, _, .cons _ t => by simp [Dts.len t]
mutual
theorem Own.keep (fr : Ex (rs H F) (rs H' F')) : ∀ {v : V} {x : OV} {as : List Addr}, Own K H F v x as → (∀ a ∈ as, ∀ o, H a = some o → H' a = some o) → Own K H' F' v x as
  | _, _, _, .d h, _ => .d (dt_ex fr h)
  | _, _, _, .n h t, k => .n (Sh.is_keep h fun b hb => k b (by simp only [List.cons_append, List.mem_cons, List.mem_append] at hb ⊢; rcases hb with hb | hb; exact .inl hb; exact .inr (.inl hb)))
      (Owns.keep fr t fun b hb => k b (List.mem_append_right _ hb))
theorem Owns.keep (fr : Ex (rs H F) (rs H' F')) : ∀ {vs : List V} {xs : List OV} {as : List Addr}, Owns K H F vs xs as → (∀ a ∈ as, ∀ o, H a = some o → H' a = some o) → Owns K H' F' vs xs as
  | _, _, _, .nil, _ => .nil
  | _, _, _, .cons h t, k => .cons (Own.keep fr h fun b hb => k b (List.mem_append_left _ hb)) (Owns.keep fr t fun b hb => k b (List.mem_append_right _ hb))
end
theorem Oe.keep (fr : Ex (rs H F) (rs H' F')) : ∀ {σ : L2.St} {env : En} {as : List Addr}, Oe K H F σ env as → (∀ a ∈ as, ∀ o, H a = some o → H' a = some o) → Oe K H' F' σ env as
  | _, _, _, .nil, _ => .nil
  | _, _, _, .skip t, k => .skip (Oe.keep fr t k)
  | _, _, _, .cons h t, k => .cons (h.keep fr fun b hb => k b (List.mem_append_left _ hb)) (Oe.keep fr t fun b hb => k b (List.mem_append_right _ hb))
mutual
theorem Own.ne : ∀ {v : V} {x : OV} {as : List Addr}, Own K H F v x as → ∀ a ∈ as, H a ≠ none
  | _, _, _, .d _, a, ha => by cases ha
  | _, _, _, .n h t, a, ha => (List.mem_append.mp ha).elim (fun z => Sh.is_some h a z) (fun z => Owns.ne t a z)
theorem Owns.ne : ∀ {vs : List V} {xs : List OV} {as : List Addr}, Owns K H F vs xs as → ∀ a ∈ as, H a ≠ none
  | _, _, _, .nil, a, ha => by cases ha
  | _, _, _, .cons h t, a, ha => (List.mem_append.mp ha).elim (fun z => Own.ne h a z) (fun z => Owns.ne t a z)
end
theorem Oe.ne : ∀ {σ : L2.St} {env : En} {as : List Addr}, Oe K H F σ env as → ∀ a ∈ as, H a ≠ none
  | _, _, _, .nil, a, ha => by cases ha
  | _, _, _, .skip t, a, ha => Oe.ne t a ha
  | _, _, _, .cons h t, a, ha => (List.mem_append.mp ha).elim (fun z => h.ne a z) (fun z => Oe.ne t a z)
/-! what is in it as a datum -/
mutual
def frz : OV → Option PyData
  | .d x => .some x
  | .n .lst xs => (frzs xs).map .list
  | .n .tup xs => (frzs xs).map .tuple
  | .n (.dic _) _ => .none
  | .n (.ins _ _) _ => .none
  | .n (.ext _) _ => .none
def frzs : List OV → Option (List PyData)
  | [] => .some []
  | x :: xs => (frz x).bind fun y => (frzs xs).map fun ys => y :: ys
end
@[simp] theorem frz_d (x : PyData) : frz (.d x) = some x := by simp only [frz]
@[simp] theorem frz_l (xs : List OV) : frz (.n .lst xs) = (frzs xs).map .list := by simp only [frz]
@[simp] theorem frz_t (xs : List OV) : frz (.n .tup xs) = (frzs xs).map .tuple := by simp only [frz]
@[simp] theorem frzs_nil : frzs [] = some [] := by simp only [frzs]
@[simp] theorem frzs_cons (x : OV) (xs : List OV) : frzs (x :: xs) = (frz x).bind fun y => (frzs xs).map fun ys => y :: ys := by simp only [frzs]
@[simp] theorem frzs_map (xs : List PyData) : frzs (xs.map OV.d) = some xs := by
  induction xs with
  | nil => simp
  | cons x xs ih => simp [ih]
theorem rs_le {F2 : FS} (h : ∀ a, F a = true → F2 a = true) : Ex (rs H F) (rs H F2) := fun a o e => by
  rw [rs_some] at e ⊢
  exact ⟨h a e.1, e.2⟩
mutual
theorem Own.frz {F2 : FS} (le : ∀ a, F a = true → F2 a = true) : ∀ {v : V} {x : OV} {as : List Addr} {y : PyData}, Own K H F v x as → Ow.frz x = .some y → (∀ a ∈ as, F2 a = true) → Dt K (rs H F2) v y
  | _, _, _, _, .d h, e, _ => by
    rw [frz_d] at e; cases e
    exact dt_ex (rs_le le) h
  | _, _, _, _, .n (s := .lst) h t, e, k => by
    rw [frz_l] at e
    obtain ⟨ys, e1, rfl⟩ := Option.map_eq_some_iff.mp e
    exact .lst (rs_some.mpr ⟨k _ (by simp), h.1⟩) (Owns.frz le t e1 fun b hb => k b (List.mem_append_right _ hb))
  | _, _, _, _, .n (s := .tup) h t, e, k => by
    rw [frz_t] at e
    obtain ⟨ys, e1, rfl⟩ := Option.map_eq_some_iff.mp e
    exact .tup (.of (rs_some.mpr ⟨k _ (by simp), h.1⟩)) (Owns.frz le t e1 fun b hb => k b (List.mem_append_right _ hb))
  | _, _, _, _, .n (s := .dic _) h t, e, k => by simp only [Ow.frz] at e; cases e
  | _, _, _, _, .n (s := .ins _ _) h t, e, k => by simp only [Ow.frz] at e; cases e
  | _, _, _, _, .n (s := .ext _) h t, e, k => by simp only [Ow.frz] at e; cases e
theorem Owns.frz {F2 : FS} (le : ∀ a, F a = true → F2 a = true) : ∀ {vs : List V} {xs : List OV} {as : List Addr} {ys : List PyData}, Owns K H F vs xs as → Ow.frzs xs = .some ys → (∀ a ∈ as, F2 a = true) → Dts K (rs H F2) vs ys
  | _, _, _, _, .nil, e, _ => by
    rw [frzs_nil] at e; cases e
    exact .nil
  | _, _, _, _, .cons h t, e, k => by
    rw [frzs_cons] at e
    obtain ⟨y, e1, e2⟩ := Option.bind_eq_some_iff.mp e
    obtain ⟨ys, e3, rfl⟩ := Option.map_eq_some_iff.mp e2
    exact .cons (Own.frz le h e1 fun b hb => k b (List.mem_append_left _ hb)) (Owns.frz le t e3 fun b hb => k b (List.mem_append_right _ hb))
end
/-- what is fixed from now on -/
def fx (F : FS) (as : List Addr) : FS := fun a => F a || decide (a ∈ as)
theorem fx_true {as : List Addr} {a : Addr} : fx F as a = true ↔ F a = true ∨ a ∈ as := by unfold fx; simp
theorem fx_le {as : List Addr} : ∀ a, F a = true → fx F as a = true := fun a h => fx_true.mpr (.inl h)
end
end Ow

/-! Ow: how a thing is read, held, moved. -/
namespace Ow
open PySem L2 Grd
open Evl (Ex ex_t ex_l ex_rd)

/-- where one stands, since A, F0, H0 -/
structure At (K : PySem.W.Frag) (A : Addr → Prop) (F0 : FS) (H0 : Hp) (H : Hp) (F : FS) (vs : List V) (xs : List OV) (σ : L2.St) (env : En) : Prop where
  st : Step A F0 H0 F H
  cf : Cf K H F (nxt A H0) vs xs σ env

abbrev AE := En → (OV → En → Prop) → Prop
abbrev AA := En → (List OV → En → Prop) → Prop
abbrev AT := En → (Bool → En → Prop) → Prop
def LE (K : PySem.W.Frag) (t : AE) : TE := fun σ H Q => ∃ (A : Addr → Prop) (F : FS) (env : En) (R : OV → En → Prop),
  At K A F H H F [] [] σ env ∧ t env R ∧ ∀ x env' v H' F', R x env' → At K A F H H' F' [v] [x] σ env' → Q v H'
def LA (K : PySem.W.Frag) (t : AA) : TA := fun σ H Q => ∃ (A : Addr → Prop) (F : FS) (env : En) (R : List OV → En → Prop),
  At K A F H H F [] [] σ env ∧ t env R ∧ ∀ xs env' vs H' F', R xs env' → At K A F H H' F' vs xs σ env' → Q vs H'
def LT (K : PySem.W.Frag) (t : AT) : TT := fun σ H Q => ∃ (A : Addr → Prop) (F : FS) (env : En) (R : Bool → En → Prop),
  At K A F H H F [] [] σ env ∧ t env R ∧ ∀ b env' H' F', R b env' → At K A F H H' F' [] [] σ env' → Q b H'
def SE (X : Cx) (e : Expr) (t : AE) : Prop := PE X e (LE X.K t)
def SA (X : Cx) (es : List Expr) (t : AA) : Prop := PA X es (LA X.K t)
def ST (X : Cx) (e : Expr) (t : AT) : Prop := PT X e (LT X.K t)
theorem peTo {X : Cx} {e : Expr} {t t' : TE} (h : PE X e t) (i : ∀ σ H Q, t' σ H Q → t σ H Q) : PE X e t' := ⟨fun pins s σ H Q I q => h.run pins s σ H Q I (i σ H Q q)⟩
theorem ptTo {X : Cx} {e : Expr} {t t' : TT} (h : PT X e t) (i : ∀ σ H Q, t' σ H Q → t σ H Q) : PT X e t' := ⟨fun pins s σ H Q I q => h.run pins s σ H Q I (i σ H Q q)⟩
theorem pwTo {X : Cx} {e : Expr} {t t' : TT} (h : PW X e t) (i : ∀ σ H Q, t' σ H Q → t σ H Q) : PW X e t' := ⟨fun wh pins s σ H Q I q => h.run wh pins s σ H Q I (i σ H Q q)⟩
theorem paTo {X : Cx} {es : List Expr} {t t' : TA} (h : PA X es t) (i : ∀ σ H Q, t' σ H Q → t σ H Q) : PA X es t' := ⟨fun pos pins s σ H Q I q => h.run pos pins s σ H Q I (i σ H Q q)⟩
theorem psTo {X : Cx} {e : Stmt} {t t' : TS} (h : PS X e t) (i : ∀ D σ H, t' D σ H → t D σ H) : PS X e t' := ⟨fun pins s σ H D I q => h.run pins s σ H D I (i D σ H q)⟩

section
variable {K : PySem.W.Frag} {A : Addr → Prop} {F0 F F' : FS} {H0 H H' : Hp} {v u : V} {vs us : List V} {x y : OV} {xs ys : List OV} {σ : L2.St} {env : En}
theorem At.ref (c : Cf K H F A vs xs σ env) : At K A F H H F vs xs σ env := ⟨.refl, c.mono fun _ h => .inl h⟩
theorem At.on (a : At K A F0 H0 H F vs xs σ env) {vs' : List V} {xs' : List OV} {σ' : L2.St} {env' : En} (s : Step (nxt A H0) F H F' H') (c : Cf K H' F' (nxt (nxt A H0) H) vs' xs' σ' env') : At K A F0 H0 H' F' vs' xs' σ' env' :=
  ⟨a.st.trans s, c.mono (nxt_nxt a.st)⟩
/-- the same heap, read otherwise -/
theorem At.re (a : At K A F0 H0 H F vs xs σ env) {vs' : List V} {xs' : List OV} {σ' : L2.St} {env' : En} (c : Cf K H F (nxt A H0) vs' xs' σ' env') : At K A F0 H0 H F vs' xs' σ' env' := ⟨a.st, c⟩
theorem Owns.one {a1 : List Addr} (h : Owns K H F [v] [x] a1) : Own K H F v x a1 := by
  cases h with
  | cons h t =>
    cases t
    rw [List.append_nil]
    exact h
theorem Owns.mk1 {a1 : List Addr} (h : Own K H F v x a1) : Owns K H F [v] [x] a1 := by
  have := Owns.cons h .nil
  rwa [List.append_nil] at this
theorem Owns.append {a1 a2 : List Addr} : ∀ {vs : List V} {xs : List OV} {us : List V} {ys : List OV} {a1 a2 : List Addr}, Owns K H F vs xs a1 → Owns K H F us ys a2 → Owns K H F (vs ++ us) (xs ++ ys) (a1 ++ a2)
  | _, _, _, _, _, _, .nil, h => h
  | _, _, _, _, _, _, .cons h t, g => by
    rw [List.append_assoc]
    exact .cons h (Owns.append (a1 := a1) (a2 := a2) t g)
theorem Owns.split : ∀ {vs : List V} {xs : List OV} {us : List V} {ys : List OV} {as : List Addr}, xs.length = vs.length → Owns K H F (vs ++ us) (xs ++ ys) as → ∃ a1 a2, as = a1 ++ a2 ∧ Owns K H F vs xs a1 ∧ Owns K H F us ys a2
  | [], [], _, _, as, _, h => ⟨[], as, rfl, .nil, h⟩
  | v :: vs, x :: xs, us, ys, _, l, .cons h t => by
    obtain ⟨a1, a2, rfl, h1, h2⟩ := Owns.split (vs := vs) (xs := xs) (by simpa using l) t
    exact ⟨_ ++ a1, a2, by rw [List.append_assoc], .cons h h1, h2⟩
  | [], x :: xs, _, _, _, l, _ => by simp at l
  | v :: vs, [], _, _, _, l, _ => by simp at l
theorem Owns.len : ∀ {vs : List V} {xs : List OV} {as : List Addr}, Owns K H F vs xs as → xs.length = vs.length
  | _, _, _, .nil => rfl
  | _, _, _, .cons _ t => by simp [Owns.len t]
theorem Cf.len (c : Cf K H F A vs xs σ env) : xs.length = vs.length := let ⟨⟨_, _, h, _⟩, _⟩ := c; h.len
theorem Oe.len : ∀ {σ : L2.St} {env : En} {as : List Addr}, Oe K H F σ env as → env.length = σ.length
  | _, _, _, .nil => rfl
  | _, _, _, .skip t => by simp [Oe.len t]
  | _, _, _, .cons _ t => by simp [Oe.len t]
theorem rs_ex : Ex (rs H F) H := fun a o e => (rs_some.mp e).2

/-- a part is run by itself (with what it owns), the rest stays -/
theorem Cf.frame {us : List V} {ys : List OV} {a1 a2 a3 : List Addr} {vs' : List V} {xs' : List OV} {σ' : L2.St} {env' : En}
    (h1 : Owns K H F us ys a1) (h2 : Owns K H F vs xs a2 ∧ Oe K H F σ env a3) (nd : (a1 ++ (a2 ++ a3)).Nodup) (off : ∀ a ∈ a1 ++ (a2 ++ a3), F a = false ∧ A a) (fh : ∀ a, F a = true → H a ≠ none)
    (st : Step (· ∈ a1) F H F' H') (c : Cf K H' F' (nxt (· ∈ a1) H) vs' xs' [] []) : Step A F H F' H' ∧ Cf K H' F' (nxt A H) (vs' ++ vs) (xs' ++ xs) σ env := by
  obtain ⟨⟨b1, b2, g1, g2, nd', off'⟩, fh'⟩ := c
  obtain ⟨h2, h3⟩ := h2
  cases g2
  rw [List.append_nil] at nd' off'
  have dis : ∀ a ∈ a2 ++ a3, a ∉ a1 := fun a ha z => (List.nodup_append.mp nd).2.2 a z a ha rfl
  have sm : ∀ a ∈ a2 ++ a3, H a ≠ none := fun a ha => (List.mem_append.mp ha).elim (h2.ne a) (h3.ne a)
  have kp : ∀ a ∈ a2 ++ a3, ∀ o, H a = some o → H' a = some o := fun a ha o e => st.keep a o (dis a ha) e
  refine ⟨⟨fun a o na e => st.keep a o (fun z => na (off a (List.mem_append_left _ z)).2) e, st.fr, fun a e => (st.fn a e).imp id fun z => z.imp (fun z => (off a (List.mem_append_left _ z)).2) id⟩, ⟨b1 ++ a2, a3, g1.append (a1 := []) (a2 := []) (h2.keep st.fr fun a ha => kp a (List.mem_append_left _ ha)), h3.keep st.fr fun a ha => kp a (List.mem_append_right _ ha), ?_, ?_⟩, fh'⟩
  · rw [List.append_assoc]
    refine List.nodup_append.mpr ⟨nd', (List.nodup_append.mp nd).2.1, fun a ha b hb e => ?_⟩
    subst e
    rcases (off' a ha).2 with z | z
    · exact dis a hb z
    · exact sm a hb z
  · intro a ha
    rw [List.append_assoc] at ha
    rcases List.mem_append.mp ha with ha | ha
    · refine ⟨(off' a ha).1, (off' a ha).2.imp (fun z => (off a (List.mem_append_left _ z)).2) id⟩
    · refine ⟨?_, .inl (off a (List.mem_append_right _ ha)).2⟩
      cases e : F' a with
      | false => rfl
      | true =>
        rcases st.fn a e with z | z | z
        · rw [(off a (List.mem_append_right _ ha)).1] at z; cases z
        · exact absurd z (dis a ha)
        · exact absurd z (sm a ha)
/-- an expression, while vs are held -/
theorem frameE {a1 a2 : List Addr} {vs' : List V} {xs' : List OV} {env' : En} (h1 : Owns K H F vs xs a1) (nd : (a1 ++ a2).Nodup) (off : ∀ a ∈ a1 ++ a2, F a = false ∧ A a)
    (st : Step (· ∈ a2) F H F' H') (c : Cf K H' F' (nxt (· ∈ a2) H) vs' xs' σ env') : Step A F H F' H' ∧ Cf K H' F' (nxt A H) (vs' ++ vs) (xs' ++ xs) σ env' := by
  obtain ⟨⟨b1, b2, g1, g2, nd', off'⟩, fh'⟩ := c
  have dis : ∀ a ∈ a1, a ∉ a2 := fun a ha z => (List.nodup_append.mp nd).2.2 a ha a z rfl
  have kp : ∀ a ∈ a1, ∀ o, H a = some o → H' a = some o := fun a ha o e => st.keep a o (dis a ha) e
  refine ⟨⟨fun a o na e => st.keep a o (fun z => na (off a (List.mem_append_right _ z)).2) e, st.fr, fun a e => (st.fn a e).imp id fun z => z.imp (fun z => (off a (List.mem_append_right _ z)).2) id⟩, ⟨b1 ++ a1, b2, g1.append (a1 := []) (a2 := []) (h1.keep st.fr kp), g2, ?_, ?_⟩, fh'⟩
  · have p : (b1 ++ a1 ++ b2).Perm (a1 ++ (b1 ++ b2)) := by
      rw [← List.append_assoc]
      exact List.Perm.append_right _ List.perm_append_comm
    refine p.nodup_iff.mpr (List.nodup_append.mpr ⟨(List.nodup_append.mp nd).1, nd', fun a ha b hb e => ?_⟩)
    subst e
    rcases (off' a hb).2 with z | z
    · exact dis a ha z
    · exact h1.ne a ha z
  · intro a ha
    have ha : a ∈ a1 ∨ a ∈ b1 ++ b2 := by
      simp only [List.mem_append] at ha ⊢
      rcases ha with (h | h) | h
      · exact .inr (.inl h)
      · exact .inl h
      · exact .inr (.inr h)
    rcases ha with ha | ha
    · refine ⟨?_, .inl (off a (List.mem_append_left _ ha)).2⟩
      cases e : F' a with
      | false => rfl
      | true =>
        rcases st.fn a e with z | z | z
        · rw [(off a (List.mem_append_left _ ha)).1] at z; cases z
        · exact absurd z (dis a ha)
        · exact absurd z (h1.ne a ha)
    · exact ⟨(off' a ha).1, (off' a ha).2.imp (fun z => (off a (List.mem_append_right _ z)).2) id⟩
theorem startE (c : At K A F0 H0 H F vs xs σ env) : ∃ a1 a2, Owns K H F vs xs a1 ∧ (a1 ++ a2).Nodup ∧ (∀ a ∈ a1 ++ a2, F a = false ∧ nxt A H0 a) ∧ At K (· ∈ a2) F H H F [] [] σ env := by
  obtain ⟨st, ⟨⟨a1, a2, h1, h2, nd, off⟩, fh⟩⟩ := c
  exact ⟨a1, a2, h1, nd, off, ⟨.refl, ⟨[], a2, .nil, h2, (List.nodup_append.mp nd).2.1, fun a ha => ⟨(off a (List.mem_append_right _ ha)).1, .inl ha⟩⟩, fh⟩⟩
theorem ev {t : AE} {R : OV → En → Prop} {Q : VK} (c : At K A F0 H0 H F vs xs σ env) (h : t env R)
    (k : ∀ x env' v H' F', R x env' → At K A F0 H0 H' F' (v :: vs) (x :: xs) σ env' → Q v H') : LE K t σ H Q := by
  obtain ⟨a1, a2, h1, nd, off, c2⟩ := startE c
  refine ⟨_, F, env, R, c2, h, fun x env' v H' F' r b => k x env' v H' F' r ?_⟩
  obtain ⟨s, z⟩ := frameE h1 nd off b.st b.cf
  exact c.on s z
theorem evs {t : AA} {R : List OV → En → Prop} {Q : List V → Hp → Prop} (c : At K A F0 H0 H F vs xs σ env) (h : t env R)
    (k : ∀ ys env' us H' F', R ys env' → At K A F0 H0 H' F' (us ++ vs) (ys ++ xs) σ env' → Q us H') : LA K t σ H Q := by
  obtain ⟨a1, a2, h1, nd, off, c2⟩ := startE c
  refine ⟨_, F, env, R, c2, h, fun ys env' us H' F' r b => k ys env' us H' F' r ?_⟩
  obtain ⟨s, z⟩ := frameE h1 nd off b.st b.cf
  exact c.on s z
theorem evt {t : AT} {R : Bool → En → Prop} {Q : Bool → Hp → Prop} (c : At K A F0 H0 H F vs xs σ env) (h : t env R)
    (k : ∀ b env' H' F', R b env' → At K A F0 H0 H' F' vs xs σ env' → Q b H') : LT K t σ H Q := by
  obtain ⟨a1, a2, h1, nd, off, c2⟩ := startE c
  refine ⟨_, F, env, R, c2, h, fun y env' H' F' r b => k y env' H' F' r ?_⟩
  obtain ⟨s, z⟩ := frameE (vs' := []) (xs' := []) h1 nd off b.st b.cf
  exact c.on s z

/-! ### what is held -/
theorem At.pop (c : At K A F0 H0 H F (v :: vs) (x :: xs) σ env) : At K A F0 H0 H F vs xs σ env := by
  obtain ⟨st, ⟨⟨a1, a2, h1, h2, nd, off⟩, fh⟩⟩ := c
  cases h1 with
  | @cons _ _ _ _ b1 b2 h t =>
    refine ⟨st, ⟨⟨b2, a2, t, h2, ?_, fun a ha => off a ?_⟩, fh⟩⟩
    · rw [List.append_assoc] at nd
      exact (List.nodup_append.mp nd).2.1
    · rw [List.append_assoc]
      exact List.mem_append_right _ ha
theorem At.push (c : At K A F0 H0 H F vs xs σ env) {d : PyData} (h : Dt K (rs H F) v d) : At K A F0 H0 H F (v :: vs) (.d d :: xs) σ env := by
  obtain ⟨st, ⟨⟨a1, a2, h1, h2, nd, off⟩, fh⟩⟩ := c
  exact ⟨st, ⟨⟨a1, a2, .cons (.d h) h1, h2, nd, off⟩, fh⟩⟩
theorem At.dp {d : PyData} (c : At K A F0 H0 H F (v :: vs) (.d d :: xs) σ env) : Dt K (rs H F) v d := by
  obtain ⟨st, ⟨⟨a1, a2, h1, h2, nd, off⟩, fh⟩⟩ := c
  cases h1 with
  | cons h t => cases h with | d h => exact h
theorem At.dpH {d : PyData} (c : At K A F0 H0 H F (v :: vs) (.d d :: xs) σ env) : Dt K H v d := dt_ex rs_ex c.dp
/-- the i-th of those held comes to the front -/
theorem At.front {vs1 vs2 : List V} {xs1 xs2 : List OV} (l : xs1.length = vs1.length) (c : At K A F0 H0 H F (vs1 ++ v :: vs2) (xs1 ++ x :: xs2) σ env) : At K A F0 H0 H F (v :: (vs1 ++ vs2)) (x :: (xs1 ++ xs2)) σ env := by
  obtain ⟨st, ⟨⟨a1, a2, h1, h2, nd, off⟩, fh⟩⟩ := c
  obtain ⟨b1, b2, rfl, g1, g2⟩ := Owns.split l h1
  cases g2 with
  | @cons _ _ _ _ c1 c2 h t =>
    have p : ((c1 ++ (b1 ++ c2)) ++ a2).Perm ((b1 ++ (c1 ++ c2)) ++ a2) := by
      refine List.Perm.append_right _ ?_
      rw [← List.append_assoc, ← List.append_assoc]
      exact List.Perm.append_right _ List.perm_append_comm
    exact ⟨st, ⟨⟨c1 ++ (b1 ++ c2), a2, .cons h (g1.append (a1 := []) (a2 := []) t), h2, p.nodup_iff.mpr nd, fun a ha => off a (p.mem_iff.mp ha)⟩, fh⟩⟩
theorem At.swap (c : At K A F0 H0 H F (v :: u :: vs) (x :: y :: xs) σ env) : At K A F0 H0 H F (u :: v :: vs) (y :: x :: xs) σ env := At.front (vs1 := [v]) (xs1 := [x]) rfl c
theorem At.app_comm {vs1 vs2 : List V} {xs1 xs2 : List OV} (l : xs1.length = vs1.length) (c : At K A F0 H0 H F (vs1 ++ vs2) (xs1 ++ xs2) σ env) : At K A F0 H0 H F (vs2 ++ vs1) (xs2 ++ xs1) σ env := by
  obtain ⟨st, ⟨⟨a1, a2, h1, h2, nd, off⟩, fh⟩⟩ := c
  obtain ⟨b1, b2, rfl, g1, g2⟩ := Owns.split l h1
  have p : ((b2 ++ b1) ++ a2).Perm ((b1 ++ b2) ++ a2) := List.Perm.append_right _ List.perm_append_comm
  exact ⟨st, ⟨⟨b2 ++ b1, a2, g2.append (a1 := []) (a2 := []) g1, h2, p.nodup_iff.mpr nd, fun a ha => off a (p.mem_iff.mp ha)⟩, fh⟩⟩
/-- what is held becomes a datum -/
theorem At.fix (c : At K A F0 H0 H F (v :: vs) (x :: xs) σ env) {d : PyData} (e : frz x = some d) : ∃ F', At K A F0 H0 H F' (v :: vs) (.d d :: xs) σ env := by
  have c0 := c
  obtain ⟨st, ⟨⟨a1, a2, h1, h2, nd, off⟩, fh⟩⟩ := c
  cases h1 with
  | @cons _ _ _ _ b1 b2 h t =>
    have dp := h.frz (F2 := fx F b1) fx_le e (fun a ha => fx_true.mpr (.inr ha))
    have fr : Ex (rs H F) (rs H (fx F b1)) := rs_le fx_le
    refine ⟨fx F b1, c0.on ⟨fun _ _ _ h => h, fr, fun a h => ?_⟩ ⟨⟨b2, a2, .cons (.d dp) (t.keep fr fun _ _ _ h => h), h2.keep fr fun _ _ _ h => h, ?_, ?_⟩, ?_⟩⟩
    · rcases fx_true.mp h with h | h
      · exact .inl h
      · exact .inr (.inl (off a (by simp [h])).2)
    · rw [List.append_assoc] at nd
      exact (List.nodup_append.mp nd).2.1
    · intro a ha
      have m : a ∈ b1 ++ b2 ++ a2 := by rw [List.append_assoc]; exact List.mem_append_right _ ha
      refine ⟨?_, .inl (off a m).2⟩
      cases q : fx F b1 a with
      | false => rfl
      | true =>
        rcases fx_true.mp q with q | q
        · rw [(off a m).1] at q; cases q
        · rw [List.append_assoc] at nd
          exact absurd rfl ((List.nodup_append.mp nd).2.2 a q a ha)
    · intro a h
      rcases fx_true.mp h with h | h
      · exact fh a h
      · exact Own.ne ‹_› a h
theorem At.fixs : ∀ {us : List V} {ys : List OV} {ds : List PyData} {F : FS} {vs : List V} {xs : List OV}, At K A F0 H0 H F (us ++ vs) (ys ++ xs) σ env → ys.length = us.length → frzs ys = some ds → ∃ F', At K A F0 H0 H F' (us ++ vs) (ds.map OV.d ++ xs) σ env ∧ Dts K (rs H F') us ds
  | [], [], ds, F, _, _, c, _, e => by rw [frzs_nil] at e; cases e; exact ⟨F, c, .nil⟩
  | u :: us, y :: ys, ds, F, vs, xs, c, l, e => by
    rw [frzs_cons] at e
    obtain ⟨d, e1, e2⟩ := Option.bind_eq_some_iff.mp e
    obtain ⟨ds', e3, rfl⟩ := Option.map_eq_some_iff.mp e2
    obtain ⟨F1, c1⟩ := c.fix e1
    have c2 : At K A F0 H0 H F1 (us ++ (vs ++ [u])) (ys ++ (xs ++ [OV.d d])) σ env := by
      rw [← List.append_assoc, ← List.append_assoc]
      exact At.app_comm (vs1 := [u]) (xs1 := [.d d]) rfl c1
    have l' : ys.length = us.length := by simpa using l
    obtain ⟨F2, c3, dp⟩ := At.fixs (vs := vs ++ [u]) (xs := xs ++ [OV.d d]) c2 l' e3
    have ld : (ds'.map OV.d).length = us.length := by
      have := c3.cf.len
      have := c2.cf.len
      simp only [List.length_append, List.length_map, List.length_cons, List.length_nil] at *
      omega
    have lx : xs.length = vs.length := by
      have := c.cf.len
      simp only [List.length_append, List.length_cons] at *
      omega
    have c4 : At K A F0 H0 H F2 (u :: (us ++ vs)) (OV.d d :: (ds'.map OV.d ++ xs)) σ env := by
      have q := At.app_comm (vs1 := us ++ vs) (vs2 := [u]) (xs1 := ds'.map OV.d ++ xs) (xs2 := [OV.d d]) (by simp only [List.length_append, ld, lx]) (by rw [List.append_assoc, List.append_assoc]; exact c3)
      exact q
    exact ⟨F2, c4, .cons c4.dp dp⟩
  | [], y :: ys, _, _, _, _, _, l, _ => by simp at l
  | u :: us, [], _, _, _, _, _, l, _ => by simp at l
/-- a new object of what is held -/
theorem At.make {us : List V} {ys : List OV} {p : Addr} {o : HO} {s : Sh} (c : At K A F0 H0 H F (us ++ vs) (ys ++ xs) σ env) (l : ys.length = us.length) (hp : H p = none) (hs : s.is (upd H p o) p us []) :
    At K A F0 H0 (upd H p o) F (.ref p :: vs) (.n s ys :: xs) σ env := by
  have c0 := c
  obtain ⟨st, ⟨⟨a1, a2, h1, h2, nd, off⟩, fh⟩⟩ := c
  obtain ⟨b1, b2, rfl, g1, g2⟩ := Owns.split l h1
  have ex : Ex H (upd H p o) := Ex.new hp
  have nF : F p = false := by
    cases q : F p with
    | false => rfl
    | true => exact absurd hp (fh p q)
  have fr : Ex (rs H F) (rs (upd H p o) F) := fun a u e => by
    rw [rs_some] at e ⊢
    exact ⟨e.1, ex a u e.2⟩
  have np : p ∉ b1 ++ b2 ++ a2 := fun z => by
    rcases List.mem_append.mp z with z | z
    · exact h1.ne p z hp
    · exact h2.ne p z hp
  refine c0.on ⟨fun a u _ h => ex a u h, fr, fun a h => .inl h⟩ ⟨⟨(p :: [] ++ b1) ++ b2, a2, .cons (.n hs (g1.keep fr fun a _ u h => ex a u h)) (g2.keep fr fun a _ u h => ex a u h), h2.keep fr fun a _ u h => ex a u h, ?_, ?_⟩, ?_⟩
  · simp only [List.cons_append, List.nil_append]
    exact List.nodup_cons.mpr ⟨np, nd⟩
  · intro a ha
    simp only [List.cons_append, List.nil_append, List.mem_cons] at ha
    rcases ha with rfl | ha
    · exact ⟨nF, .inr hp⟩
    · exact ⟨(off a ha).1, .inl (off a ha).2⟩
  · intro a h
    by_cases e : a = p
    · subst e; rw [upd_same]; simp
    · rw [upd_ne e]; exact fh a h
end
end Ow

/-! Ow: names; what is held, in another order; an object changed. -/
namespace Ow
open PySem L2 Grd
open Evl (Ex ex_t ex_l ex_rd)
section
variable {K : PySem.W.Frag} {A : Addr → Prop} {F0 F F' : FS} {H0 H H' : Hp} {v u : V} {vs us : List V} {x y : OV} {xs ys : List OV} {σ : L2.St} {env : En}
theorem Oe.take : ∀ {σ : L2.St} {env : En} {a2 : List Addr} {i : Nat} {x : OV}, Oe K H F σ env a2 → env[i]? = some (some x) →
    ∃ v b c1 c2, a2 = c1 ++ (b ++ c2) ∧ σ[i]? = some (some v) ∧ Own K H F v x b ∧ Oe K H F σ (env.set i none) (c1 ++ c2)
  | _, _, _, i, x, .nil, e => by simp at e
  | _, _, _, 0, x, .skip t, e => by simp at e
  | _, _, _, i + 1, x, .skip t, e => by
    obtain ⟨v, b, c1, c2, rfl, h1, h2, h3⟩ := Oe.take (i := i) (x := x) t (by simpa using e)
    exact ⟨v, b, c1, c2, rfl, by simpa using h1, h2, .skip h3⟩
  | _, _, _, 0, x, .cons h t, e => by
    simp at e
    subst e
    exact ⟨_, _, [], _, rfl, rfl, h, .skip t⟩
  | _, _, _, i + 1, x, .cons (as := as) h t, e => by
    obtain ⟨v, b, c1, c2, rfl, h1, h2, h3⟩ := Oe.take (i := i) (x := x) t (by simpa using e)
    refine ⟨v, b, as ++ c1, c2, by simp [List.append_assoc], by simpa using h1, h2, ?_⟩
    rw [List.append_assoc]
    exact .cons h h3
theorem Oe.store : ∀ {σ : L2.St} {env : En} {a2 : List Addr} {i : Nat} {v : V} {x : OV} {b : List Addr}, Oe K H F σ env a2 → i < env.length → Own K H F v x b →
    ∃ c1 d c2, a2 = c1 ++ (d ++ c2) ∧ Oe K H F (σ.set i (some v)) (env.set i (some x)) (c1 ++ (b ++ c2))
  | _, _, _, i, _, _, _, .nil, l, _ => by simp at l
  | _, _, _, 0, _, _, _, .skip t, l, g => ⟨[], [], _, rfl, by have := Oe.cons g t; simpa using this⟩
  | _, _, _, 0, _, _, _, .cons h t, l, g => ⟨[], _, _, rfl, by have := Oe.cons g t; simpa using this⟩
  | _, _, _, i + 1, _, _, _, .skip t, l, g => by
    obtain ⟨c1, d, c2, rfl, h⟩ := Oe.store (i := i) t (by simpa using l) g
    exact ⟨c1, d, c2, rfl, .skip h⟩
  | _, _, _, i + 1, _, _, _, .cons (as := as) h t, l, g => by
    obtain ⟨c1, d, c2, rfl, h2⟩ := Oe.store (i := i) t (by simpa using l) g
    refine ⟨as ++ c1, d, c2, by simp [List.append_assoc], ?_⟩
    have := Oe.cons h h2
    simpa [List.append_assoc] using this
theorem Oe.drop : ∀ {σ : L2.St} {env : En} {a2 : List Addr} (i : Nat) (o : Option V), Oe K H F σ env a2 → ∃ c1 d c2, a2 = c1 ++ (d ++ c2) ∧ Oe K H F (σ.set i o) (env.set i none) (c1 ++ c2)
  | _, _, _, i, o, .nil => ⟨[], [], [], rfl, .nil⟩
  | _, _, _, 0, o, .skip t => ⟨[], [], _, rfl, .skip t⟩
  | _, _, _, 0, o, .cons h t => ⟨[], _, _, rfl, .skip t⟩
  | _, _, _, i + 1, o, .skip t => by
    obtain ⟨c1, d, c2, rfl, h⟩ := Oe.drop i o t
    exact ⟨c1, d, c2, rfl, .skip h⟩
  | _, _, _, i + 1, o, .cons (as := as) h t => by
    obtain ⟨c1, d, c2, rfl, h2⟩ := Oe.drop i o t
    refine ⟨as ++ c1, d, c2, by simp [List.append_assoc], ?_⟩
    have := Oe.cons h h2
    simpa [List.append_assoc] using this
theorem Oe.get {i : Nat} {a2 : List Addr} (h : Oe K H F σ env a2) (e : env[i]? = some (some x)) : ∃ v, σ[i]? = some (some v) := by
  obtain ⟨v, _, _, _, _, h, _⟩ := h.take e
  exact ⟨v, h⟩
/-- what a name holds comes to be held -/
theorem At.take (c : At K A F0 H0 H F vs xs σ env) {i : Nat} (e : env[i]? = some (some x)) : ∃ v, σ[i]? = some (some v) ∧ At K A F0 H0 H F (v :: vs) (x :: xs) σ (env.set i none) := by
  obtain ⟨st, ⟨⟨a1, a2, h1, h2, nd, off⟩, fh⟩⟩ := c
  obtain ⟨v, b, c1, c2, rfl, h3, h4, h5⟩ := h2.take e
  have p : ((b ++ a1) ++ (c1 ++ c2)).Perm (a1 ++ (c1 ++ (b ++ c2))) := by
    refine (List.Perm.append_right _ List.perm_append_comm).trans ?_
    rw [List.append_assoc]
    refine List.Perm.append_left _ ?_
    rw [← List.append_assoc, ← List.append_assoc]
    exact List.Perm.append_right _ List.perm_append_comm
  exact ⟨v, h3, st, ⟨⟨b ++ a1, c1 ++ c2, .cons h4 h1, h5, p.nodup_iff.mpr nd, fun a ha => off a (p.mem_iff.mp ha)⟩, fh⟩⟩
theorem At.get (c : At K A F0 H0 H F vs xs σ env) {i : Nat} (e : env[i]? = some (some x)) : ∃ v, σ[i]? = some (some v) := let ⟨v, h, _⟩ := c.take e; ⟨v, h⟩
/-- what is held goes to a name -/
theorem At.store (c : At K A F0 H0 H F (v :: vs) (x :: xs) σ env) {i : Nat} (l : i < env.length) : At K A F0 H0 H F vs xs (σ.set i (some v)) (env.set i (some x)) := by
  obtain ⟨st, ⟨⟨a1, a2, h1, h2, nd, off⟩, fh⟩⟩ := c
  cases h1 with
  | @cons _ _ _ _ b1 b2 h t =>
    obtain ⟨c1, d, c2, rfl, h5⟩ := h2.store l h
    have p : ((b2 ++ (c1 ++ (b1 ++ c2))) ++ d).Perm ((b1 ++ b2) ++ (c1 ++ (d ++ c2))) := by
      refine List.perm_iff_count.mpr fun a => ?_
      simp only [List.count_append]
      omega
    refine ⟨st, ⟨⟨b2, c1 ++ (b1 ++ c2), t, h5, ?_, fun a ha => off a (p.mem_iff.mp (List.mem_append_left _ ha))⟩, fh⟩⟩
    exact (List.nodup_append.mp (p.nodup_iff.mpr nd)).1
theorem At.put (c : At K A F0 H0 H F (v :: vs) (x :: xs) σ env) {i : Nat} (h : σ[i]? = some (some v)) : At K A F0 H0 H F vs xs σ (env.set i (some x)) := by
  have l : i < env.length := by
    obtain ⟨st, ⟨⟨a1, a2, h1, h2, nd, off⟩, fh⟩⟩ := c
    rw [h2.len]
    exact (List.getElem?_eq_some_iff.mp h).1
  have q := c.store (i := i) l
  have e : σ.set i (some v) = σ := by
    refine List.ext_getElem? fun j => ?_
    rw [List.getElem?_set]
    by_cases ij : i = j
    · subst ij
      rw [if_pos rfl, h]
      simp [(List.getElem?_eq_some_iff.mp h).1]
    · rw [if_neg ij]
  rwa [e] at q
theorem At.wipe1 (c : At K A F0 H0 H F vs xs σ env) (i : Nat) (o : Option V) : At K A F0 H0 H F vs xs (σ.set i o) (env.set i none) := by
  obtain ⟨st, ⟨⟨a1, a2, h1, h2, nd, off⟩, fh⟩⟩ := c
  obtain ⟨c1, d, c2, rfl, h5⟩ := h2.drop i o
  have p : ((a1 ++ (c1 ++ c2)) ++ d).Perm (a1 ++ (c1 ++ (d ++ c2))) := by
    refine List.perm_iff_count.mpr fun a => ?_
    simp only [List.count_append]
    omega
  refine ⟨st, ⟨⟨a1, c1 ++ c2, h1, h5, ?_, fun a ha => off a (p.mem_iff.mp (List.mem_append_left _ ha))⟩, fh⟩⟩
  exact (List.nodup_append.mp (p.nodup_iff.mpr nd)).1
theorem At.elen (c : At K A F0 H0 H F vs xs σ env) : env.length = σ.length := let ⟨_, ⟨⟨_, _, _, h, _⟩, _⟩⟩ := c; h.len

/-! ### pairs, in any order -/
abbrev Prs := List (V × OV)
abbrev fsts (ps : Prs) : List V := ps.map Prod.fst
abbrev snds (ps : Prs) : List OV := ps.map Prod.snd
theorem Owns.perm {ps qs : Prs} (p : ps.Perm qs) : ∀ {as : List Addr}, Owns K H F (fsts ps) (snds ps) as → ∃ bs, Owns K H F (fsts qs) (snds qs) bs ∧ as.Perm bs := by
  induction p with
  | nil => intro as h; exact ⟨as, h, .refl _⟩
  | cons a p ih =>
    intro as h
    cases h with
    | cons h t =>
      obtain ⟨bs, g, q⟩ := ih t
      exact ⟨_, .cons h g, List.Perm.append_left _ q⟩
  | swap a b l =>
    intro as h
    cases h with
    | @cons _ _ _ _ c1 _ h t =>
      cases t with
      | @cons _ _ _ _ d1 d2 g t =>
        refine ⟨_, .cons g (.cons h t), ?_⟩
        rw [← List.append_assoc, ← List.append_assoc]
        exact List.Perm.append_right _ List.perm_append_comm
  | trans _ _ i1 i2 =>
    intro as h
    obtain ⟨bs, g, q⟩ := i1 h
    obtain ⟨cs, g2, q2⟩ := i2 g
    exact ⟨cs, g2, q.trans q2⟩
theorem zip_v {vs : List V} {xs : List OV} (l : xs.length = vs.length) : fsts (vs.zip xs) = vs := List.map_fst_zip (by omega)
theorem zip_x {vs : List V} {xs : List OV} (l : xs.length = vs.length) : snds (vs.zip xs) = xs := List.map_snd_zip (by omega)
theorem Owns.sub {ps qs r : Prs} (p : (qs ++ r).Perm ps) {as : List Addr} (h : Owns K H F (fsts ps) (snds ps) as) : ∃ bs c, Owns K H F (fsts qs) (snds qs) bs ∧ (bs ++ c).Perm as := by
  obtain ⟨bs, g, q⟩ := h.perm p.symm
  rw [show fsts (qs ++ r) = (fsts qs) ++ (fsts r) from List.map_append, show snds (qs ++ r) = (snds qs) ++ (snds r) from List.map_append] at g
  obtain ⟨b1, b2, rfl, g1, g2⟩ := Owns.split (by simp) g
  exact ⟨b1, b2, g1, q.symm⟩
theorem At.sub {ps qs r : Prs} (p : (qs ++ r).Perm ps) (c : At K A F0 H0 H F (fsts ps) (snds ps) σ env) : At K A F0 H0 H F (fsts qs) (snds qs) σ env := by
  obtain ⟨st, ⟨⟨a1, a2, h1, h2, nd, off⟩, fh⟩⟩ := c
  obtain ⟨bs, d, g, q⟩ := h1.sub p
  have p2 : ((bs ++ a2) ++ d).Perm (a1 ++ a2) := by
    have := List.Perm.append_right a2 q
    refine (List.perm_iff_count.mpr fun a => ?_).trans this
    simp only [List.count_append]
    omega
  exact ⟨st, ⟨⟨bs, a2, g, h2, (List.nodup_append.mp (p2.nodup_iff.mpr nd)).1, fun a ha => off a (p2.mem_iff.mp (List.mem_append_left _ ha))⟩, fh⟩⟩
/-- an object that is held is changed: what is in it and what is held beside it, in another order, some of it dropped -/
theorem At.mut {a : Addr} {s : Sh} (c : At K A F0 H0 H F (.ref a :: vs) (.n s ys :: xs) σ env) : ∃ ws ex, s.is H a ws ex ∧ ys.length = ws.length ∧ xs.length = vs.length ∧
    ∀ (s' : Sh) (o : HO) (ps qs r : Prs), s'.is (upd H a o) a (fsts ps) ex → ((ps ++ qs) ++ r).Perm (ws.zip ys ++ vs.zip xs) →
      At K A F0 H0 (upd H a o) F (.ref a :: (fsts qs)) (.n s' (snds ps) :: (snds qs)) σ env := by
  have c0 := c
  obtain ⟨st, ⟨⟨a1, a2, h1, h2, nd, off⟩, fh⟩⟩ := c
  cases h1 with
  | @cons _ _ _ _ b1 b2 h t =>
    cases h with
    | @n _ _ ws _ ex as hs hw =>
      refine ⟨ws, ex, hs, hw.len, t.len, fun s' o ps qs r hs' p => ?_⟩
      have all : Owns K H F (fsts (ws.zip ys ++ vs.zip xs)) (snds (ws.zip ys ++ vs.zip xs)) (as ++ b2) := by
        rw [show fsts (ws.zip ys ++ vs.zip xs) = ws ++ vs by rw [show fsts (ws.zip ys ++ vs.zip xs) = fsts (ws.zip ys) ++ fsts (vs.zip xs) from List.map_append, zip_v hw.len, zip_v t.len],
          show snds (ws.zip ys ++ vs.zip xs) = ys ++ xs by rw [show snds (ws.zip ys ++ vs.zip xs) = snds (ws.zip ys) ++ snds (vs.zip xs) from List.map_append, zip_x hw.len, zip_x t.len]]
        exact hw.append (a1 := []) (a2 := []) t
      obtain ⟨bs, d, g, q⟩ := all.sub p
      rw [show fsts (ps ++ qs) = (fsts ps) ++ (fsts qs) from List.map_append, show snds (ps ++ qs) = (snds ps) ++ (snds qs) from List.map_append] at g
      obtain ⟨e1, e2, rfl, g1, g2⟩ := Owns.split (by simp) g
      have am : a ∈ (a :: ex ++ as) ++ b2 ++ a2 := by simp
      have aF : F a = false := (off a am).1
      have aA := (off a am).2
      have kp : ∀ b, b ≠ a → ∀ o', H b = some o' → upd H a o b = some o' := fun b hb o' e => by rw [upd_ne hb]; exact e
      have fr : Ex (rs H F) (rs (upd H a o) F) := fun b u e => by
        rw [rs_some] at e ⊢
        refine ⟨e.1, kp b (fun z => ?_) u e.2⟩
        subst z
        rw [aF] at e
        exact absurd e.1 (by simp)
      have p2 : ((a :: ex ++ e1) ++ e2 ++ a2 ++ d).Perm ((a :: ex ++ as) ++ b2 ++ a2) := by
        refine List.perm_iff_count.mpr fun z => ?_
        have q' := List.perm_iff_count.mp q z
        simp only [List.count_append] at q' ⊢
        omega
      have nd2 : ((a :: ex ++ e1) ++ e2 ++ a2).Nodup := (List.nodup_append.mp (p2.nodup_iff.mpr nd)).1
      have na : ∀ b ∈ e1 ++ e2 ++ a2, b ≠ a := fun b hb z => by
        subst z
        have : (b :: (ex ++ (e1 ++ e2 ++ a2))).Nodup := by simpa [List.append_assoc] using nd2
        exact (List.nodup_cons.mp this).1 (List.mem_append_right _ hb)
      refine c0.on ⟨fun b u hb e => kp b (fun z => ?_) u e, fr, fun b h => .inl h⟩ ⟨⟨(a :: ex ++ e1) ++ e2, a2, .cons (.n hs' (g1.keep fr fun b hb => kp b (na b (by simp [hb])))) (g2.keep fr fun b hb => kp b (na b (by simp [hb]))), h2.keep fr fun b hb => kp b (na b (by simp [hb])), nd2, ?_⟩, ?_⟩
      · subst z
        exact hb aA
      · intro b hb
        have := off b (p2.mem_iff.mp (List.mem_append_left _ hb))
        exact ⟨this.1, .inl this.2⟩
      · intro b h
        by_cases z : b = a
        · subst z; rw [upd_same]; simp
        · rw [upd_ne z]; exact fh b h
end
end Ow

/-! Ow: constants, names, operators, comparisons, tests, displays. -/
namespace Ow
open PySem L2 Grd
open Evl (Ex ex_t ex_l ex_rd)
/-! ### what is meant -/
def aC (d : PyData) : AE := fun env Q => Q (.d d) env
/-- a name that is read: what it holds is fixed from now on -/
def aName (i : Nat) : AE := fun env Q => match env[i]? with
  | some (some (.d x)) => Q (.d x) env
  | some (some x) => match frz x with
    | some y => Q (.d y) (env.set i (some (.d y)))
    | none => False
  | _ => False
/-- a name that is read and not used any more -/
def aMove (i : Nat) : AE := fun env Q => match env[i]? with
  | some (some (.d x)) => Q (.d x) env
  | some (some x) => Q x (env.set i none)
  | _ => False
def a2 (o : OV → OV → (OV → Prop) → Prop) (ta tb : AE) : AE := fun env Q => ta env fun x e1 => tb e1 fun y e2 => o x y fun z => Q z e2
def a1 (o : OV → (OV → Prop) → Prop) (ta : AE) : AE := fun env Q => ta env fun x e1 => o x fun z => Q z e1
def aNil : AA := fun env Q => Q [] env
def aCons (ta : AE) (tr : AA) : AA := fun env Q => ta env fun x e1 => tr e1 fun xs e2 => Q (x :: xs) e2
def dats : List OV → Option (List PyData)
  | [] => some []
  | .d x :: xs => (dats xs).map (x :: ·)
  | .n _ _ :: _ => none
def mkT (xs : List OV) : OV := match dats xs with
  | some ds => .d (.tuple ds)
  | none => .n .tup xs
def aLst (t : AA) : AE := fun env Q => t env fun xs e => xs.length ≤ sizeLine ∧ Q (.n .lst xs) e
def aTup (t : AA) : AE := fun env Q => t env fun xs e => xs.length ≤ sizeLine ∧ Q (mkT xs) e
/-- what is in a list -/
def lel : OV → Option (List OV)
  | .n .lst xs => some xs
  | .d (.list ds) => some (ds.map .d)
  | _ => none
def o2 (f : PyData → PyData → (PyData → Prop) → Prop) (x y : OV) (R : OV → Prop) : Prop := match frz x, frz y with
  | some a, some b => f a b fun c => R (.d c)
  | _, _ => False
def o1 (f : PyData → (PyData → Prop) → Prop) (x : OV) (R : OV → Prop) : Prop := match frz x with
  | some a => f a fun c => R (.d c)
  | _ => False
@[simp] theorem dats_nil : dats [] = some [] := rfl
@[simp] theorem dats_d (x : PyData) (xs : List OV) : dats (.d x :: xs) = (dats xs).map (x :: ·) := rfl
@[simp] theorem dats_n (s : Sh) (ys xs : List OV) : dats (.n s ys :: xs) = none := rfl
@[simp] theorem dats_map (xs : List PyData) : dats (xs.map OV.d) = some xs := by
  induction xs with
  | nil => rfl
  | cons x xs ih => simp [ih]
@[simp] theorem o2_d (f : PyData → PyData → (PyData → Prop) → Prop) (a b : PyData) (R : OV → Prop) : o2 f (.d a) (.d b) R = f a b fun c => R (.d c) := by simp only [o2, frz_d]
@[simp] theorem o1_d (f : PyData → (PyData → Prop) → Prop) (a : PyData) (R : OV → Prop) : o1 f (.d a) R = f a fun c => R (.d c) := by simp only [o1, frz_d]
theorem dats_frzs : ∀ {xs : List OV} {ds : List PyData}, dats xs = some ds → xs = ds.map OV.d
  | [], ds, e => by simp at e; subst e; rfl
  | .d x :: xs, ds, e => by
    rw [dats_d] at e
    obtain ⟨ys, e1, rfl⟩ := Option.map_eq_some_iff.mp e
    rw [dats_frzs e1]
    rfl
  | .n _ _ :: _, ds, e => by simp at e
def fAdd (a b : PyData) (k : PyData → Prop) : Prop := match a, b with
  | .int i, .int j => k (.int (i + j))
  | .str x, .str y => x.length + y.length ≤ sizeLine ∧ k (.str (x ++ y))
  | .tuple xs, .tuple ys => xs.length + ys.length ≤ sizeLine ∧ k (.tuple (xs ++ ys))
  | _, _ => False
def oAdd (x y : OV) (R : OV → Prop) : Prop := match lel x, lel y with
  | some xs, some ys => xs.length + ys.length ≤ sizeLine ∧ R (.n .lst (xs ++ ys))
  | _, _ => o2 fAdd x y R
def fInt (C : Int → Int → Prop) (g : Int → Int → PyData) (a b : PyData) (k : PyData → Prop) : Prop := match a, b with
  | .int i, .int j => C i j ∧ k (g i j)
  | _, _ => False
def fNeg (a : PyData) (k : PyData → Prop) : Prop := match a with
  | .int i => k (.int (-i))
  | _ => False
def fNot (a : PyData) (k : PyData → Prop) : Prop := match a with
  | .bool b => k (.bool (!b))
  | _ => False
/-- scalars that == tells apart -/
def sc2 : PyData → PyData → Bool
  | .none, .none => true | .none, .int _ => true | .int _, .none => true | .none, .bool _ => true | .bool _, .none => true | .none, .str _ => true | .str _, .none => true
  | .int _, .int _ => true | .bool _, .bool _ => true | .str _, .str _ => true
  | .int _, .str _ => true | .str _, .int _ => true | .bool _, .str _ => true | .str _, .bool _ => true
  | _, _ => false
def fEq (neg : Bool) (a b : PyData) (k : PyData → Prop) : Prop := (sc2 a b = true ∨ (SeqAt.shaped a = true ∧ SeqAt.shaped b = true)) ∧ k (.bool (if neg then !PyData.eqv a b else PyData.eqv a b))
def fOrd (g : Int → Int → Bool) (h : List Nat → List Nat → Bool) (a b : PyData) (k : PyData → Prop) : Prop := match a, b with
  | .int i, .int j => k (.bool (g i j))
  | .str x, .str y => k (.bool (h x.cps.toList y.cps.toList))
  | _, _ => False
def flatD : PyData → Bool
  | .none => true | .bool _ => true | .int _ => true | .str _ => true | _ => false
def fIn (neg : Bool) (a b : PyData) (k : PyData → Prop) : Prop := match b with
  | .list ds => ((flatD a = true ∧ ds.all flatD = true) ∨ (SeqAt.shaped a = true ∧ SeqAt.shaped (.list ds) = true)) ∧ k (.bool (if neg then !(ds.any fun z => PyData.eqv z a) else ds.any fun z => PyData.eqv z a))
  | .tuple ds => (flatD a = true ∧ ds.all flatD = true) ∧ k (.bool (if neg then !(ds.any fun z => PyData.eqv z a) else ds.any fun z => PyData.eqv z a))
  | .str z => match a with
    | .str y => k (.bool (if neg then !(!(Builtin.Str.occurrences z y 0 z.length 1).isEmpty) else !(Builtin.Str.occurrences z y 0 z.length 1).isEmpty))
    | _ => False
  | _ => False
def fIs (neg : Bool) (a b : PyData) (k : PyData → Prop) : Prop := match b with
  | .none => k (.bool (if neg then !(match a with | .none => true | _ => false) else (match a with | .none => true | _ => false)))
  | .bool y => match a with
    | .bool x => k (.bool (if neg then !decide (x = y) else decide (x = y)))
    | _ => False
  | _ => False
def oMul (x y : OV) (R : OV → Prop) : Prop := match lel x, y with
  | some xs, .d (.int k) => match frzs xs with
    | some ds => (-(2 ^ 63) ≤ k ∧ k < 2 ^ 63 ∧ ds.length * k.toNat ≤ sizeLine) ∧ R (.n .lst ((List.replicate k.toNat ds).flatten.map .d))
    | none => False
  | _, _ => o2 (fInt CMulW fun i j => .int (i * j)) x y R
def aTst (t : AE) : AT := fun env Q => t env fun x e => match x with
  | .d (.bool b) => Q b e
  | _ => False
def aAnd (t u : AT) : AT := fun env Q => t env fun b e => if b = true then u e Q else Q false e
def aOr (t u : AT) : AT := fun env Q => t env fun b e => if b = true then Q true e else u e Q
def aNot (t : AT) : AT := fun env Q => t env fun b e => Q (!b) e
def aIf (t : AT) (u v : AE) : AE := fun env Q => t env fun b e => if b = true then u e Q else v e Q
def aIfT (t u v : AT) : AT := fun env Q => t env fun b e => if b = true then u e Q else v e Q
def aAndV (t u : AE) : AE := fun env Q => t env fun x e => match x with
  | .d (.bool b) => if b = true then u e Q else Q (.d (.bool false)) e
  | _ => False
def aOrV (t u : AE) : AE := fun env Q => t env fun x e => match x with
  | .d (.bool b) => if b = true then Q (.d (.bool true)) e else u e Q
  | _ => False
def aChain (f g : PyData → PyData → (PyData → Prop) → Prop) (ta tb tc : AE) : AE := fun env Q => ta env fun x e1 => tb e1 fun y e2 => o2 f x y fun z => match z with
  | .d (.bool b) => if b = true then tc e2 fun w e3 => o2 g y w fun q => Q q e3 else Q (.d (.bool false)) e2
  | _ => False

/-! ### by values -/
structure Op2 (K : PySem.W.Frag) (r : R2) (o : OV → OV → (OV → Prop) → Prop) : Prop where
  run : ∀ {A : Addr → Prop} {F0 F : FS} {H0 H : Hp} {σ : L2.St} {env : En} {x y : V} {ox oy : OV} {R : OV → Prop} {Q : VK},
  At K A F0 H0 H F [y, x] [oy, ox] σ env → o ox oy R → (∀ z w H' F', R z → At K A F0 H0 H' F' [w] [z] σ env → Q w H') → r x y H Q
structure Op1 (K : PySem.W.Frag) (r : V → Hp → VK → Prop) (o : OV → (OV → Prop) → Prop) : Prop where
  run : ∀ {A : Addr → Prop} {F0 F : FS} {H0 H : Hp} {σ : L2.St} {env : En} {x : V} {ox : OV} {R : OV → Prop} {Q : VK},
  At K A F0 H0 H F [x] [ox] σ env → o ox R → (∀ z w H' F', R z → At K A F0 H0 H' F' [w] [z] σ env → Q w H') → r x H Q
section
variable {K : PySem.W.Frag} {A : Addr → Prop} {F0 F F' : FS} {H0 H H' : Hp} {v u : V} {vs us : List V} {x y : OV} {xs ys : List OV} {σ : L2.St} {env : En}
theorem At.pushs : ∀ {us : List V} {ds : List PyData}, At K A F0 H0 H F vs xs σ env → Dts K (rs H F) us ds → At K A F0 H0 H F (us ++ vs) (ds.map OV.d ++ xs) σ env
  | _, _, c, .nil => c
  | _, _, c, .cons h t => (At.pushs c t).push h
theorem At.pops : ∀ {us : List V} {ys : List OV}, At K A F0 H0 H F (us ++ vs) (ys ++ xs) σ env → ys.length = us.length → At K A F0 H0 H F vs xs σ env
  | [], [], c, _ => c
  | _ :: us, _ :: ys, c, l => At.pops (us := us) (ys := ys) c.pop (by simpa using l)
  | [], _ :: _, _, l => by simp at l
  | _ :: _, [], _, l => by simp at l
theorem At.newL {p : Addr} {ds : List PyData} (c : At K A F0 H0 H F vs xs σ env) (h : Dts K (rs H F) us ds) (hp : H p = none) : At K A F0 H0 (upd H p (.lst us)) F (.ref p :: vs) (.n .lst (ds.map OV.d) :: xs) σ env :=
  (c.pushs h).make (by rw [List.length_map]; exact h.len) hp ⟨upd_same, rfl⟩
theorem At.newT {p : Addr} {ds : List PyData} (c : At K A F0 H0 H F vs xs σ env) (h : Dts K (rs H F) us ds) (hp : H p = none) : ∃ F', At K A F0 H0 (upd H p (.tup us)) F' (.ref p :: vs) (.d (.tuple ds) :: xs) σ env :=
  At.fix (At.make (s := .tup) (c.pushs h) (by rw [List.length_map]; exact h.len) hp ⟨upd_same, rfl⟩) (by simp)
/-- two that are held become data -/
theorem At.fix2 {a b : PyData} (c : At K A F0 H0 H F (v :: u :: vs) (x :: y :: xs) σ env) (ea : frz x = some a) (eb : frz y = some b) : ∃ F', At K A F0 H0 H F' (v :: u :: vs) (.d a :: .d b :: xs) σ env := by
  obtain ⟨F1, c1⟩ := c.fix ea
  obtain ⟨F2, c2⟩ := c1.swap.fix eb
  exact ⟨F2, c2.swap⟩
theorem Op2.scal {r : R2} {f : PyData → PyData → (PyData → Prop) → Prop}
    (h : ∀ {H : Hp} {x y : V} {a b : PyData} {k : PyData → Prop} {Q : VK}, Dt K H x a → Dt K H y b → f a b k → (∀ c w, k c → (∀ H', Dt K H' w c) → Q w H) → r x y H Q) : Op2 K r (o2 f) := by
  constructor
  intro A F0 F H0 H σ env x y ox oy R Q c o k
  unfold o2 at o
  split at o
  · rename_i a b ea eb
    obtain ⟨F1, c1⟩ := c.fix2 eb ea
    exact h c1.swap.dpH c1.dpH o fun d w kd hw => k (.d d) w H F1 kd (c1.pop.pop.push (hw _))
  · exact o.elim
theorem Op1.scal {r : V → Hp → VK → Prop} {f : PyData → (PyData → Prop) → Prop}
    (h : ∀ {H : Hp} {x : V} {a : PyData} {k : PyData → Prop} {Q : VK}, Dt K H x a → f a k → (∀ c w, k c → (∀ H', Dt K H' w c) → Q w H) → r x H Q) : Op1 K r (o1 f) := by
  constructor
  intro A F0 F H0 H σ env x ox R Q c o k
  unfold o1 at o
  split at o
  · rename_i a ea
    obtain ⟨F1, c1⟩ := c.fix ea
    exact h c1.dpH o fun d w kd hw => k (.d d) w H F1 kd (c1.pop.push (hw _))
  · exact o.elim
/-- what is in a list that is held -/
theorem At.lel {ys : List OV} (c : At K A F0 H0 H F (v :: vs) (x :: xs) σ env) (e : Ow.lel x = some ys) : ∃ a ws, v = .ref a ∧ H a = some (.lst ws) ∧ ys.length = ws.length ∧ At K A F0 H0 H F (ws ++ vs) (ys ++ xs) σ env := by
  unfold Ow.lel at e
  split at e
  · cases e
    have c0 := c
    obtain ⟨st, ⟨⟨a1, a2, h1, h2, nd, off⟩, fh⟩⟩ := c
    cases h1 with
    | @cons _ _ _ _ b1 b2 h t =>
      cases h with
      | @n a _ ws _ ex as hs hw =>
        refine ⟨a, ws, rfl, hs.1, hw.len, st, ⟨⟨as ++ b2, a2, hw.append (a1 := []) (a2 := []) t, h2, ?_, fun z hz => off z ?_⟩, fh⟩⟩
        · have q : ((a :: ex) ++ ((as ++ b2) ++ a2)).Nodup := by simpa [List.append_assoc] using nd
          exact (List.nodup_append.mp q).2.1
        · simp only [List.mem_append, List.mem_cons] at hz ⊢
          rcases hz with (hz | hz) | hz
          · exact .inl (.inl (.inr hz))
          · exact .inl (.inr hz)
          · exact .inr hz
  · rename_i ds
    cases e
    have dp := c.dp
    cases dp with
    | lst h t =>
      refine ⟨_, _, rfl, rs_ex _ _ h, by rw [List.length_map]; exact t.len, c.pop.pushs t⟩
  · cases e
theorem Dts.app {H : Hp} : ∀ {vs us : List V} {ds es : List PyData}, Dts K H vs ds → Dts K H us es → Dts K H (vs ++ us) (ds ++ es)
  | _, _, _, _, .nil, h => h
  | _, _, _, _, .cons a t, h => .cons a (Dts.app t h)
theorem op2_add : Op2 K (fun x y H Q => rCat x y H Q ∨ ((∃ i j, x = .int i ∧ y = .int j ∧ Q (.int (i + j)) H) ∨ (∃ i j, x = .str i ∧ y = .str j ∧ i.length + j.length ≤ sizeLine ∧ Q (.str (i ++ j)) H)) ∨ rCatA K x y H Q) oAdd := by
  constructor
  intro A F0 F H0 H σ env x y ox oy R Q c o k
  unfold oAdd at o
  split at o
  · rename_i xs ys ex ey
    obtain ⟨b, zs, rfl, hb, lz, c1⟩ := c.lel ey
    have c2 := At.front lz c1
    obtain ⟨a, ws, rfl, ha, lw, c3⟩ := c2.lel ex
    refine .inl ⟨a, b, ws, zs, rfl, rfl, ha, hb, by rw [← lz, ← lw]; exact o.1, fun p hp => k _ _ _ F o.2 ?_⟩
    have c4 : At K A F0 H0 H F ((ws ++ zs) ++ []) ((xs ++ ys) ++ []) σ env := by
      rw [List.append_assoc, List.append_assoc]
      exact c3
    exact c4.make (by simp [lz, lw]) hp ⟨upd_same, rfl⟩
  · refine .inr ?_
    unfold o2 at o
    split at o
    · rename_i a b ea eb
      obtain ⟨F1, c1⟩ := c.fix2 eb ea
      have dx := c1.swap.dp
      have dy := c1.dp
      unfold fAdd at o
      split at o
      · cases dx; cases dy
        exact .inl (.inl ⟨_, _, rfl, rfl, k _ _ _ _ o (c1.pop.pop.push (.int _))⟩)
      · cases dx; cases dy
        exact .inl (.inr ⟨_, _, rfl, rfl, o.1, k _ _ _ _ o.2 (c1.pop.pop.push (.str _))⟩)
      · rename_i xs ys
        cases dx with
        | @tup a1 v1 _ h1 t1 =>
          cases dy with
          | @tup a2 v2 _ h2 t2 =>
            have l1 := t1.len
            have l2 := t2.len
            refine .inr ⟨a1, a2, v1, v2, rfl, rfl, ex_t rs_ex h1, ex_t rs_ex h2, by omega, fun e => ?_, fun n e => ?_, fun n1 n2 p hp => ?_⟩
            · subst e
              cases t1
              exact k _ _ _ _ o.2 (c1.pop.pop.push (.tup h2 t2))
            · subst e
              cases t2
              refine k _ _ _ _ o.2 (c1.pop.pop.push ?_)
              rw [List.append_nil]
              exact .tup h1 t1
            · obtain ⟨F2, c2⟩ := c1.pop.pop.newT (t1.app t2) hp
              exact k _ _ _ _ o.2 c2
      · exact o.elim
    · exact o.elim
theorem op2_int {C : Int → Int → Prop} {g : Int → Int → Int} : Op2 K (rI C fun i j => .int (g i j)) (o2 (fInt C fun i j => .int (g i j))) :=
  Op2.scal fun hx hy o k => by
    unfold fInt at o
    split at o
    · cases hx; cases hy
      exact ⟨_, _, rfl, rfl, o.1, k _ _ o.2 fun _ => .int _⟩
    · exact o.elim
theorem op2_int0 {g : Int → Int → Int} : Op2 K (rI0 fun i j => .int (g i j)) (o2 (fInt (fun _ _ => True) fun i j => .int (g i j))) :=
  Op2.scal fun hx hy o k => by
    unfold fInt at o
    split at o
    · cases hx; cases hy
      exact ⟨_, _, rfl, rfl, k _ _ o.2 fun _ => .int _⟩
    · exact o.elim
theorem Dts.rep {H : Hp} {vs : List V} {ds : List PyData} (h : Dts K H vs ds) : ∀ k : Nat, Dts K H (List.replicate k vs).flatten (List.replicate k ds).flatten
  | 0 => .nil
  | k + 1 => by
    rw [List.replicate_succ, List.replicate_succ, List.flatten_cons, List.flatten_cons]
    exact h.app (Dts.rep h k)
theorem op2_mul : Op2 K (fun x y H Q => rRep x y H Q ∨ rI CMulW (fun i j => .int (i * j)) x y H Q) oMul := by
  constructor
  intro A F0 F H0 H σ env x y ox oy R Q c o k
  unfold oMul at o
  split at o
  · rename_i xs n ex
    split at o
    · rename_i ds ed
      have dn := c.dp
      cases dn
      obtain ⟨a, ws, rfl, ha, lw, c3⟩ := c.pop.lel ex
      obtain ⟨F1, c4, dp⟩ := At.fixs (vs := []) (xs := []) c3 lw ed
      have ld := dp.len
      refine .inl ⟨a, n, ws, rfl, rfl, ha, o.1.1, o.1.2.1, by rw [← ld]; exact o.1.2.2, fun p hp => k _ _ _ F1 o.2 ?_⟩
      exact (At.pops c4 (by rw [List.length_map]; exact ld)).newL (dp.rep _) hp
    · exact o.elim
  · exact .inr (op2_int.run c o k)
theorem dt_eq {H : Hp} {x y : V} {a b : PyData} (hx : Dt K H x a) (hy : Dt K H y b) (s : sc2 a b = true) : L2.scal x y = true ∧ decide (x = y) = PyData.eqv a b := by
  unfold sc2 at s
  split at s <;> first
    | exact absurd s Bool.false_ne_true
    | (cases hx; cases hy; refine ⟨rfl, ?_⟩; first | (simp only [PyData.eqv]; exact dec_int) | (simp only [PyData.eqv]; exact dec_bl) | (simp only [PyData.eqv]; exact dec_str) | (simp [PyData.eqv]))
theorem op2_eq : Op2 K (fun x y H Q => rEq x y H Q ∨ rEqD K x y H Q) (o2 (fEq false)) :=
  Op2.scal fun hx hy o k => by
    obtain ⟨o1, o2⟩ := o
    rw [if_neg Bool.false_ne_true] at o2
    rcases o1 with s | ⟨s1, s2⟩
    · obtain ⟨e1, e2⟩ := dt_eq hx hy s
      refine .inl ⟨e1, ?_⟩
      rw [e2]
      exact k _ _ o2 fun _ => .bl _
    · exact .inr ⟨_, _, hx.dp, hy.dp, s1, s2, k _ _ o2 fun _ => .bl _⟩
theorem op2_ne : Op2 K (fun x y H Q => rNe x y H Q ∨ rNeD K x y H Q) (o2 (fEq true)) :=
  Op2.scal fun hx hy o k => by
    obtain ⟨o1, o2⟩ := o
    rw [if_pos rfl] at o2
    rcases o1 with s | ⟨s1, s2⟩
    · obtain ⟨e1, e2⟩ := dt_eq hx hy s
      refine .inl ⟨e1, ?_⟩
      rw [e2]
      exact k _ _ o2 fun _ => .bl _
    · exact .inr ⟨_, _, hx.dp, hy.dp, s1, s2, k _ _ o2 fun _ => .bl _⟩
theorem op2_ord {g : Int → Int → Bool} {h : List Nat → List Nat → Bool} : Op2 K (fun x y H Q => rI0 (fun i j => .bl (g i j)) x y H Q ∨ (∃ i j : Str, x = .str i ∧ y = .str j ∧ Q (.bl (h i.cps.toList j.cps.toList)) H)) (o2 (fOrd g h)) :=
  Op2.scal fun hx hy o k => by
    unfold fOrd at o
    split at o
    · cases hx; cases hy
      exact .inl ⟨_, _, rfl, rfl, k _ _ o fun _ => .bl _⟩
    · cases hx; cases hy
      exact .inr ⟨_, _, rfl, rfl, k _ _ o fun _ => .bl _⟩
    · exact o.elim
theorem flat_of {H : Hp} {x : V} {a : PyData} (h : Dt K H x a) (f : flatD a = true) : flatV x = true := by
  cases h <;> first | rfl | (simp [flatD] at f)
theorem flats_of {H : Hp} : ∀ {vs : List V} {ds : List PyData}, Dts K H vs ds → ds.all flatD = true → vs.all flatV = true
  | _, _, .nil, _ => rfl
  | _, _, .cons h t, f => by
    simp only [List.all_cons, Bool.and_eq_true] at f ⊢
    exact ⟨flat_of h f.1, flats_of t f.2⟩
theorem eqV_of {H : Hp} {x y : V} {a b : PyData} (hx : Dt K H x a) (hy : Dt K H y b) (fa : flatD a = true) (fb : flatD b = true) : eqV x y = PyData.eqv a b := by
  cases hx <;> first | (simp [flatD] at fa; done) | (cases hy <;> first | (simp [flatD] at fb; done) | (simp only [eqV, PyData.eqv]))
theorem inV_of {H : Hp} {x : V} {a : PyData} (hx : Dt K H x a) (fa : flatD a = true) : ∀ {vs : List V} {ds : List PyData}, Dts K H vs ds → ds.all flatD = true → inV x vs = ds.any fun z => PyData.eqv z a
  | _, _, .nil, _ => rfl
  | _, _, .cons h t, f => by
    simp only [List.all_cons, Bool.and_eq_true] at f
    have := inV_of hx fa t f.2
    unfold inV at this ⊢
    rw [List.any_cons, List.any_cons, this, eqV_of h hx f.1 fa]
theorem op2_in (neg : Bool) : Op2 K (fun x y H Q => rIn K neg x y H Q ∨ (if neg then rNotInD K x y H Q else rInD K x y H Q) ∨ (∃ i j, x = .str i ∧ y = .str j ∧ Q (.bl (if neg then !(!(Builtin.Str.occurrences j i 0 j.length 1).isEmpty) else !(Builtin.Str.occurrences j i 0 j.length 1).isEmpty)) H)) (o2 (fIn neg)) :=
  Op2.scal fun hx hy o k => by
    unfold fIn at o
    split at o
    · cases hy with
      | @lst a vs _ h t =>
        obtain ⟨o1, o2⟩ := o
        rcases o1 with ⟨f1, f2⟩ | ⟨s1, s2⟩
        · refine .inl ⟨_, _, rfl, .inl (.of h), flat_of hx f1, flats_of t f2, ?_⟩
          rw [inV_of hx f1 t f2]
          exact k _ _ o2 fun _ => .bl _
        · refine .inr (.inl ?_)
          cases neg with
          | true => exact ⟨_, _, hx.dp, (Dt.lst h t).dp, s1, s2, k _ _ o2 fun _ => .bl _⟩
          | false => exact ⟨_, _, hx.dp, (Dt.lst h t).dp, s1, s2, k _ _ o2 fun _ => .bl _⟩
    · cases hy with
      | @tup a vs _ h t =>
        obtain ⟨⟨f1, f2⟩, o2⟩ := o
        refine .inl ⟨_, _, rfl, .inr h, flat_of hx f1, flats_of t f2, ?_⟩
        rw [inV_of hx f1 t f2]
        exact k _ _ o2 fun _ => .bl _
    · split at o
      · cases hx; cases hy
        exact .inr (.inr ⟨_, _, rfl, rfl, k _ _ o fun _ => .bl _⟩)
      · exact o.elim
    · exact o.elim
theorem op2_is (neg : Bool) : Op2 K (fun x y H Q => (y = .non ∧ Q (.bl (if neg then !decide (x = .non) else decide (x = .non))) H) ∨ (∃ a b : Bool, x = .bl a ∧ y = .bl b ∧ Q (.bl (if neg then !decide (a = b) else decide (a = b))) H)) (o2 (fIs neg)) :=
  Op2.scal fun hx hy o k => by
    unfold fIs at o
    split at o
    · cases hy
      refine .inl ⟨rfl, ?_⟩
      cases hx <;> exact k _ _ o fun _ => .bl _
    · split at o
      · cases hx; cases hy
        exact .inr ⟨_, _, rfl, rfl, k _ _ o fun _ => .bl _⟩
      · exact o.elim
    · exact o.elim
end
end Ow

/-! Ow: the rules of expressions. -/
namespace Ow
open PySem L2 Grd
open Evl (Ex ex_t ex_l ex_rd)
section
variable {X : Cx} {e a b c : Expr} {es : List Expr} {ta tb tc : AE} {pos : Pos}
theorem se_int {i : Int} {j} : SE X (.Constant (.int i) j pos) (aC (.int i)) := peTo pe_int fun σ H Q ⟨A, F, env, R, c, h, k⟩ => k _ _ _ _ _ h (c.push (.int i))
theorem se_bl {i : Bool} {j} : SE X (.Constant (.bool i) j pos) (aC (.bool i)) := peTo pe_bl fun σ H Q ⟨A, F, env, R, c, h, k⟩ => k _ _ _ _ _ h (c.push (.bl i))
theorem se_non {j} : SE X (.Constant .none j pos) (aC .none) := peTo pe_non fun σ H Q ⟨A, F, env, R, c, h, k⟩ => k _ _ _ _ _ h (c.push .non)
theorem se_str {i : Str} {j} : SE X (.Constant (.str i) j pos) (aC (.str i)) := peTo pe_str fun σ H Q ⟨A, F, env, R, c, h, k⟩ => k _ _ _ _ _ h (c.push (.str i))
/-- a constant of the module -/
theorem se_glob {x : Str} {v : V} {u : Value} {d : PyData} (hg : Gl X x) (hm : X.mg x = some u) (r : RelV v u) (hd : ∀ H, Dt X.K H v d) (hdb : (x == ("__debug__" : Str)) = false := by decide) : SE X (.Name x pos) (aC d) :=
  peTo (pe_glob hg hm r hdb) fun σ H Q ⟨A, F, env, R, c, h, k⟩ => k _ _ _ _ _ h (c.push (hd _))
theorem At.look {K : PySem.W.Frag} {A : Addr → Prop} {F0 F : FS} {H0 H : Hp} {vs : List V} {xs : List OV} {σ : L2.St} {env : En} {i : Nat} {d : PyData} (c : At K A F0 H0 H F vs xs σ env) (e : env[i]? = some (some (.d d))) : ∃ v, σ[i]? = some (some v) ∧ Dt K (rs H F) v d := by
  obtain ⟨v, hv, c1⟩ := c.take e
  exact ⟨v, hv, c1.dp⟩
theorem set_set' {env : En} {i : Nat} {o p : Option OV} : (env.set i o).set i p = env.set i p := by simp
theorem se_name {i : Nat} (h : PE X e (tVar i)) : SE X e (aName i) := peTo h fun σ H Q ⟨A, F, env, R, c, h, k⟩ => by
  unfold aName at h
  split at h
  · rename_i x ex
    obtain ⟨v, hv, dv⟩ := c.look ex
    exact ⟨v, hv, k _ _ _ _ _ h (c.push dv)⟩
  · rename_i x _ ex
    split at h
    · rename_i y ey
      obtain ⟨v, hv, c1⟩ := c.take ex
      obtain ⟨F1, c2⟩ := c1.fix ey
      have c3 := (c2.push c2.dp).put hv
      rw [set_set'] at c3
      exact ⟨v, hv, k _ _ _ _ _ h c3⟩
    · exact h.elim
  · exact h.elim
theorem se_move {i : Nat} (h : PE X e (tVar i)) : SE X e (aMove i) := peTo h fun σ H Q ⟨A, F, env, R, c, h, k⟩ => by
  unfold aMove at h
  split at h
  · rename_i x ex
    obtain ⟨v, hv, dv⟩ := c.look ex
    exact ⟨v, hv, k _ _ _ _ _ h (c.push dv)⟩
  · rename_i x _ ex
    obtain ⟨v, hv, c1⟩ := c.take ex
    exact ⟨v, hv, k _ _ _ _ _ h c1⟩
  · exact h.elim
theorem le_op {K : PySem.W.Frag} {r : R2} {o : OV → OV → (OV → Prop) → Prop} (hr : Op2 K r o) : ∀ σ H Q, LE K (a2 o ta tb) σ H Q → tOp r (LE K ta) (LE K tb) σ H Q :=
  fun σ H Q ⟨A, F, env, R, c, h, k⟩ => ev c h fun x e1 v H1 F1 h1 c1 => ev c1 h1 fun y e2 u H2 F2 h2 c2 => hr.run c2 h2 fun z w H3 F3 h3 c3 => k _ _ _ _ _ h3 c3
theorem le_un {K : PySem.W.Frag} {r : V → Hp → VK → Prop} {o : OV → (OV → Prop) → Prop} (hr : Op1 K r o) : ∀ σ H Q, LE K (a1 o ta) σ H Q → tUn r (LE K ta) σ H Q :=
  fun σ H Q ⟨A, F, env, R, c, h, k⟩ => ev c h fun x e1 v H1 F1 h1 c1 => hr.run c1 h1 fun z w H3 F3 h3 c3 => k _ _ _ _ _ h3 c3
theorem se_bin {op : Operator} {r : R2} {o : OV → OV → (OV → Prop) → Prop} (ho : OpR X (binaryOp op) r) (hr : Op2 X.K r o) (ha : SE X a ta) (hb : SE X b tb) : SE X (.BinOp a op b pos) (a2 o ta tb) :=
  peTo (pe_op ho ha hb) (le_op hr)
theorem se_add (ha : SE X a ta) (hb : SE X b tb) : SE X (.BinOp a .Add b pos) (a2 oAdd ta tb) := se_bin (op_cat.or ((op_add.or op_add_str).or op_catA)) op2_add ha hb
theorem se_sub (ha : SE X a ta) (hb : SE X b tb) : SE X (.BinOp a .Sub b pos) (a2 (o2 (fInt (fun _ _ => True) fun i j => .int (i - j))) ta tb) := se_bin op_sub op2_int0 ha hb
theorem se_mul (ha : SE X a ta) (hb : SE X b tb) : SE X (.BinOp a .Mult b pos) (a2 oMul ta tb) := se_bin (op_rep.or op_mulW) op2_mul ha hb
theorem se_fdiv (ha : SE X a ta) (hb : SE X b tb) : SE X (.BinOp a .FloorDiv b pos) (a2 (o2 (fInt CDiv fun i j => .int (i / j))) ta tb) := se_bin op_fdiv op2_int ha hb
theorem se_mod (ha : SE X a ta) (hb : SE X b tb) : SE X (.BinOp a .Mod b pos) (a2 (o2 (fInt (fun _ j => 0 < j) fun i j => .int (i % j))) ta tb) := se_bin op_mod op2_int ha hb
theorem se_pow (ha : SE X a ta) (hb : SE X b tb) : SE X (.BinOp a .Pow b pos) (a2 (o2 (fInt CPow fun i j => .int (i ^ j.toNat))) ta tb) := se_bin op_pow op2_int ha hb
theorem se_neg (ha : SE X a ta) : SE X (.UnaryOp .USub a pos) (a1 (o1 fNeg) ta) := peTo (pe_un un_neg ha) (le_un (Op1.scal fun hx o k => by
  unfold fNeg at o
  split at o
  · cases hx
    exact ⟨_, rfl, k _ _ o fun _ => .int _⟩
  · exact o.elim))
/-! comparisons -/
theorem eqU (hu : X.A.units + 64 < cLine) : OpR X (compareOp .Eq) (fun x y H Q => rEq x y H Q ∨ rEqD X.K x y H Q) := op_eq.or (op_eqD hu)
theorem neU (hu : X.A.units + 64 < cLine) : OpR X (compareOp .NotEq) (fun x y H Q => rNe x y H Q ∨ rNeD X.K x y H Q) := op_ne.or (op_neD hu)
theorem inU (hu : X.A.units + 65 < cLine) : OpR X (compareOp .In) (fun x y H Q => rIn X.K false x y H Q ∨ (if false = true then rNotInD X.K x y H Q else rInD X.K x y H Q) ∨ (∃ i j, x = .str i ∧ y = .str j ∧ Q (.bl (if false = true then !(!(Builtin.Str.occurrences j i 0 j.length 1).isEmpty) else !(Builtin.Str.occurrences j i 0 j.length 1).isEmpty)) H)) := op_in_seq.or ((op_inD hu).or op_in_str)
theorem notInU (hu : X.A.units + 65 < cLine) : OpR X (compareOp .NotIn) (fun x y H Q => rIn X.K true x y H Q ∨ (if true = true then rNotInD X.K x y H Q else rInD X.K x y H Q) ∨ (∃ i j, x = .str i ∧ y = .str j ∧ Q (.bl (if true = true then !(!(Builtin.Str.occurrences j i 0 j.length 1).isEmpty) else !(Builtin.Str.occurrences j i 0 j.length 1).isEmpty)) H)) := op_notIn_seq.or ((op_notInD hu).or op_notin_str)
theorem isU : OpR X (compareOp .Is) (fun x y H Q => (y = .non ∧ Q (.bl (if false = true then !decide (x = .non) else decide (x = .non))) H) ∨ (∃ a b : Bool, x = .bl a ∧ y = .bl b ∧ Q (.bl (if false = true then !decide (a = b) else decide (a = b))) H)) := op_isN.or op_isBl
theorem isNotU : OpR X (compareOp .IsNot) (fun x y H Q => (y = .non ∧ Q (.bl (if true = true then !decide (x = .non) else decide (x = .non))) H) ∨ (∃ a b : Bool, x = .bl a ∧ y = .bl b ∧ Q (.bl (if true = true then !decide (a = b) else decide (a = b))) H)) := op_notN.or op_notBl
abbrev lLt (x y : List Nat) : Bool := decide (x < y)
abbrev fLt := fOrd (fun i j => decide (i < j)) fun x y => decide (x < y)
abbrev fLe := fOrd (fun i j => decide (i ≤ j)) fun x y => !decide (y < x)
abbrev fGt := fOrd (fun i j => decide (j < i)) fun x y => decide (y < x)
abbrev fGe := fOrd (fun i j => decide (j ≤ i)) fun x y => !decide (x < y)
structure Cmp (X : Cx) (op : CmpOp) (f : PyData → PyData → (PyData → Prop) → Prop) : Prop where
  ex : ∃ r, OpR X (compareOp op) r ∧ Op2 X.K r (o2 f)
theorem c_eq (hu : X.A.units + 64 < cLine) : Cmp X .Eq (fEq false) := ⟨_, eqU hu, op2_eq⟩
theorem c_ne (hu : X.A.units + 64 < cLine) : Cmp X .NotEq (fEq true) := ⟨_, neU hu, op2_ne⟩
theorem c_in (hu : X.A.units + 65 < cLine) : Cmp X .In (fIn false) := ⟨_, inU hu, op2_in false⟩
theorem c_notIn (hu : X.A.units + 65 < cLine) : Cmp X .NotIn (fIn true) := ⟨_, notInU hu, op2_in true⟩
theorem c_is : Cmp X .Is (fIs false) := ⟨_, isU, op2_is false⟩
theorem c_isNot : Cmp X .IsNot (fIs true) := ⟨_, isNotU, op2_is true⟩
theorem c_lt : Cmp X .Lt fLt := ⟨_, op_lt.or op_lt_str, op2_ord (g := fun i j => decide (i < j)) (h := fun x y => decide (x < y))⟩
theorem c_le : Cmp X .LtE fLe := ⟨_, op_le.or op_le_str, op2_ord (g := fun i j => decide (i ≤ j)) (h := fun x y => !decide (y < x))⟩
theorem c_gt : Cmp X .Gt fGt := ⟨_, op_gt.or op_gt_str, op2_ord (g := fun i j => decide (j < i)) (h := fun x y => decide (y < x))⟩
theorem c_ge : Cmp X .GtE fGe := ⟨_, op_ge.or op_ge_str, op2_ord (g := fun i j => decide (j ≤ i)) (h := fun x y => !decide (x < y))⟩
theorem tst {K : PySem.W.Frag} {T : TE} {t : AE} (i : ∀ σ H Q, LE K t σ H Q → T σ H Q) : ∀ σ H Q, LT K (aTst t) σ H Q → T σ H fun x H' => ∃ k, x = .bl k ∧ Q k H' :=
  fun σ H Q ⟨A, F, env, R, c, h, k⟩ => i _ _ _ ⟨A, F, env, _, c, h, fun x env' v H' F' r c' => by
    split at r
    · have dv := c'.dp
      cases dv
      exact ⟨_, rfl, k _ _ _ _ r c'.pop⟩
    · exact r.elim⟩
theorem se_cmp {op : CmpOp} {f : PyData → PyData → (PyData → Prop) → Prop} (hc : Cmp X op f) (ha : SE X a ta) (hb : SE X b tb) (hm : behindInMarks op b = false) : SE X (.Compare a [op] [b] pos) (a2 (o2 f) ta tb) :=
  let ⟨_, ho, hr⟩ := hc.ex; peTo (pe_cmpR ho ha hb hm) (le_op hr)
theorem st_cmp {op : CmpOp} {f : PyData → PyData → (PyData → Prop) → Prop} (hc : Cmp X op f) (ha : SE X a ta) (hb : SE X b tb) (hm : behindInMarks op b = false) : ST X (.Compare a [op] [b] pos) (aTst (a2 (o2 f) ta tb)) :=
  let ⟨_, ho, hr⟩ := hc.ex; ptTo (pt_cmpR ho ha hb hm) (tst (le_op hr))
theorem st_val (h : SE X a ta) (he : ∀ whole, isTrue a X.env whole = (do let v ← whole; standAt a.pos; holding [v] (truthy v)) := by intro _; rfl) : ST X a (aTst ta) := ptTo (pt_val h he) (tst fun _ _ _ q => q)
def SW (X : Cx) (e : Expr) (t : AT) : Prop := PW X e (LT X.K t)
section
variable {u v w : AT} {rest : List Expr}
theorem st_of (h : SW X e u) : ST X e u := PW.pt h
theorem sw_and1 (h : ST X a u) : SW X (.BoolOp .And [a] pos) u := pw_and1 h
theorem sw_or1 (h : ST X a u) : SW X (.BoolOp .Or [a] pos) u := pw_or1 h
theorem sw_and (h : ST X a u) (g : SW X (.BoolOp .And (b :: rest) pos) v) : SW X (.BoolOp .And (a :: b :: rest) pos) (aAnd u v) := pwTo (pw_and h g) fun σ H Q ⟨A, F, env, R, c, h, k⟩ =>
  evt c h fun x e1 H1 F1 h1 c1 => by
    split
    · rename_i t; rw [if_pos t] at h1; exact evt c1 h1 fun y e2 H2 F2 h2 c2 => k _ _ _ _ h2 c2
    · rename_i t; rw [if_neg t] at h1; exact k _ _ _ _ h1 c1
theorem sw_or (h : ST X a u) (g : SW X (.BoolOp .Or (b :: rest) pos) v) : SW X (.BoolOp .Or (a :: b :: rest) pos) (aOr u v) := pwTo (pw_or h g) fun σ H Q ⟨A, F, env, R, c, h, k⟩ =>
  evt c h fun x e1 H1 F1 h1 c1 => by
    split
    · rename_i t; rw [if_pos t] at h1; exact k _ _ _ _ h1 c1
    · rename_i t; rw [if_neg t] at h1; exact evt c1 h1 fun y e2 H2 F2 h2 c2 => k _ _ _ _ h2 c2
theorem st_not (h : ST X a u) : ST X (.UnaryOp .Not a pos) (aNot u) := ptTo (pt_not h) fun σ H Q ⟨A, F, env, R, c, h, k⟩ => evt c h fun x e1 H1 F1 h1 c1 => k _ _ _ _ h1 c1
theorem se_not (h : SE X a ta) : SE X (.UnaryOp .Not a pos) (a1 (o1 fNot) ta) := peTo (pe_not h) fun σ H Q ⟨A, F, env, R, c, h, k⟩ => ev c h fun x e1 v H1 F1 h1 c1 => by
  unfold o1 at h1
  split at h1
  · rename_i d ed
    unfold fNot at h1
    split at h1
    · obtain ⟨F2, c2⟩ := c1.fix ed
      have dv := c2.dp
      cases dv
      exact ⟨_, rfl, k _ _ _ _ _ h1 (c2.pop.push (.bl _))⟩
    · exact h1.elim
  · exact h1.elim
theorem se_if (hc : ST X c u) (ha : SE X a ta) (hb : SE X b tb) : SE X (.IfExp c a b pos) (aIf u ta tb) := peTo (pe_ifExp hc ha hb) fun σ H Q ⟨A, F, env, R, c, h, k⟩ =>
  evt c h fun x e1 H1 F1 h1 c1 => by
    split
    · rename_i t; rw [if_pos t] at h1; exact ev c1 h1 fun y e2 v H2 F2 h2 c2 => k _ _ _ _ _ h2 c2
    · rename_i t; rw [if_neg t] at h1; exact ev c1 h1 fun y e2 v H2 F2 h2 c2 => k _ _ _ _ _ h2 c2
def tIfT (t u v : TT) : TT := fun σ H Q => t σ H fun b H1 => if b = true then u σ H1 Q else v σ H1 Q
theorem pt_ifExp {t u v : TT} (hc : PT X c t) (ha : PT X a u) (hb : PT X b v) : PT X (.IfExp c a b pos) (tIfT t u v) := by
  constructor
  intro pins s σ H Q I h
  refine PyProof.Rows.isTrue_IfExp (thn (hc.run pins s σ H _ I h) ?_)
  rintro d s1 ⟨H1, I1, q1⟩
  cases d with
  | true => exact ha.run pins s1 σ H1 Q I1 q1
  | false => exact hb.run pins s1 σ H1 Q I1 q1
theorem st_if (hc : ST X c u) (ha : ST X a v) (hb : ST X b w) : ST X (.IfExp c a b pos) (aIfT u v w) := ptTo (pt_ifExp hc ha hb) fun σ H Q ⟨A, F, env, R, c, h, k⟩ =>
  evt c h fun x e1 H1 F1 h1 c1 => by
    split
    · rename_i t; rw [if_pos t] at h1; exact evt c1 h1 fun y e2 H2 F2 h2 c2 => k _ _ _ _ h2 c2
    · rename_i t; rw [if_neg t] at h1; exact evt c1 h1 fun y e2 H2 F2 h2 c2 => k _ _ _ _ h2 c2
theorem se_one {op} (h : SE X a ta) : SE X (.BoolOp op [a] pos) ta := pe_one h
theorem se_and (ha : SE X a ta) (hb : SE X (.BoolOp .And (b :: rest) pos) tb) : SE X (.BoolOp .And (a :: b :: rest) pos) (aAndV ta tb) := peTo (pe_and ha hb) fun σ H Q ⟨A, F, env, R, c, h, k⟩ => ev c h fun x e1 v H1 F1 h1 c1 => by
  split at h1
  · have dv := c1.dp
    cases dv
    refine ⟨_, rfl, ?_⟩
    split
    · rename_i t; rw [if_pos t] at h1; exact ev c1.pop h1 fun y e2 v H2 F2 h2 c2 => k _ _ _ _ _ h2 c2
    · rename_i t; rw [if_neg t] at h1; exact k _ _ _ _ _ h1 (c1.pop.push (.bl _))
  · exact h1.elim
theorem se_or (ha : SE X a ta) (hb : SE X (.BoolOp .Or (b :: rest) pos) tb) : SE X (.BoolOp .Or (a :: b :: rest) pos) (aOrV ta tb) := peTo (pe_or ha hb) fun σ H Q ⟨A, F, env, R, c, h, k⟩ => ev c h fun x e1 v H1 F1 h1 c1 => by
  split at h1
  · have dv := c1.dp
    cases dv
    refine ⟨_, rfl, ?_⟩
    split
    · rename_i t; rw [if_pos t] at h1; exact k _ _ _ _ _ h1 (c1.pop.push (.bl _))
    · rename_i t; rw [if_neg t] at h1; exact ev c1.pop h1 fun y e2 v H2 F2 h2 c2 => k _ _ _ _ _ h2 c2
  · exact h1.elim
end
/-! chains of orders -/
structure Ord (X : Cx) (op : CmpOp) (g : Int → Int → Bool) (l : List Nat → List Nat → Bool) : Prop where
  run : OpR X (compareOp op) (fun x y H Q => rI0 (fun i j => .bl (g i j)) x y H Q ∨ (∃ i j : Str, x = .str i ∧ y = .str j ∧ Q (.bl (l i.cps.toList j.cps.toList)) H))
theorem d_lt : Ord X .Lt (fun i j => decide (i < j)) (fun x y => decide (x < y)) := ⟨op_lt.or op_lt_str⟩
theorem d_le : Ord X .LtE (fun i j => decide (i ≤ j)) (fun x y => !decide (y < x)) := ⟨op_le.or op_le_str⟩
theorem le_chain {K : PySem.W.Frag} {g g' : Int → Int → Bool} {l l' : List Nat → List Nat → Bool} : ∀ σ H Q, LE K (aChain (fOrd g l) (fOrd g' l') ta tb tc) σ H Q →
    tChain (fun x y H Q => rI0 (fun i j => .bl (g i j)) x y H Q ∨ (∃ i j : Str, x = .str i ∧ y = .str j ∧ Q (.bl (l i.cps.toList j.cps.toList)) H)) (fun x y H Q => rI0 (fun i j => .bl (g' i j)) x y H Q ∨ (∃ i j : Str, x = .str i ∧ y = .str j ∧ Q (.bl (l' i.cps.toList j.cps.toList)) H)) (LE K ta) (LE K tb) (LE K tc) σ H Q :=
  fun σ H Q ⟨A, F, env, R, c, h, k⟩ => ev c h fun x e1 v H1 F1 h1 c1 => ev c1 h1 fun y e2 u H2 F2 h2 c2 => by
    unfold o2 at h2
    split at h2
    · rename_i d1 d2 ed1 ed2
      obtain ⟨F3, c3⟩ := c2.fix2 ed2 ed1
      have dx := c3.swap.dp
      have dy := c3.dp
      have more : ∀ {bo : Bool}, (if bo = true then tc e2 fun w e3 => o2 (fOrd g' l') y w fun q => R q e3 else R (.d (.bool false)) e2) → (if bo = true then LE K tc σ H2 fun w' H4 => (rI0 (fun i j => .bl (g' i j)) u w' H4 Q ∨ (∃ i j : Str, u = .str i ∧ w' = .str j ∧ Q (.bl (l' i.cps.toList j.cps.toList)) H4)) else Q (.bl false) H2) := by
        intro bo h3
        split at h3
        · rename_i t
          rw [if_pos t]
          refine ev (c3.swap.pop) h3 fun w e3 uw H4 F4 h4 c4 => ?_
          have eq : o2 (fOrd g' l') y w (fun q => R q e3) = o2 (fOrd g' l') (.d d2) w (fun q => R q e3) := by unfold o2; rw [ed2, frz_d]
          rw [eq] at h4
          exact op2_ord.run c4 h4 fun z w H5 F5 h5 c5 => k _ _ _ _ _ h5 c5
        · rename_i t
          rw [if_neg t]
          exact k _ _ _ _ _ h3 (c3.pop.pop.push (.bl _))
      unfold fOrd at h2
      split at h2
      · cases dx; cases dy
        exact .inl ⟨_, _, rfl, rfl, _, rfl, more h2⟩
      · cases dx; cases dy
        exact .inr ⟨_, _, rfl, rfl, _, rfl, more h2⟩
      · exact h2.elim
    · exact h2.elim
theorem se_chain {op op' : CmpOp} {g g' : Int → Int → Bool} {l l' : List Nat → List Nat → Bool} (h : Ord X op g l) (h' : Ord X op' g' l') (ha : SE X a ta) (hb : SE X b tb) (hc : SE X c tc)
    (hm : lastMarks [op, op'] [b, c] = false := by with_unfolding_all rfl) : SE X (.Compare a [op, op'] [b, c] pos) (aChain (fOrd g l) (fOrd g' l') ta tb tc) := peTo (pe_chain h.run h'.run ha hb hc hm) le_chain
theorem st_chain {op op' : CmpOp} {g g' : Int → Int → Bool} {l l' : List Nat → List Nat → Bool} (h : Ord X op g l) (h' : Ord X op' g' l') (ha : SE X a ta) (hb : SE X b tb) (hc : SE X c tc)
    (hm : lastMarks [op, op'] [b, c] = false := by with_unfolding_all rfl) : ST X (.Compare a [op, op'] [b, c] pos) (aTst (aChain (fOrd g l) (fOrd g' l') ta tb tc)) := ptTo (pt_chain h.run h'.run ha hb hc hm) (tst le_chain)
/-! arguments, displays -/
variable {tr : AA}
theorem sa_nil : SA X [] aNil := paTo pa_nil fun σ H Q ⟨A, F, env, R, c, h, k⟩ => k _ _ _ _ _ h c
theorem sa_cons (ha : SE X e ta) (hr : SA X es tr) (hs : starEach (e :: es) X.env = (false, eval e X.env) :: starEach es X.env := by rfl) : SA X (e :: es) (aCons ta tr) := paTo (pa_cons ha hr hs) fun σ H Q ⟨A, F, env, R, c, h, k⟩ =>
  ev c h fun x e1 v H1 F1 h1 c1 => evs c1 h1 fun xs e2 vs H2 F2 h2 c2 => k _ _ _ _ _ h2 (by
    have l : xs.length = vs.length := by have := c2.cf.len; simp at this; omega
    have := At.front l c2
    simpa using this)
theorem se_lst (h : SA X es tr) : SE X (.List es pos) (aLst tr) := peTo (pe_lst h) fun σ H Q ⟨A, F, env, R, c, h, k⟩ => evs c h fun xs e1 vs H1 F1 h1 c1 => by
  have l := c1.cf.len
  simp only [List.append_nil] at l
  exact ⟨by rw [← l]; exact h1.1, fun p hp => k _ _ _ _ F1 h1.2 (At.make (s := .lst) c1 l hp ⟨upd_same, rfl⟩)⟩
theorem se_tup {x1} (h : SA X es tr) : SE X (.Tuple es x1 pos) (aTup tr) := peTo (pe_tup h) fun σ H Q ⟨A, F, env, R, c, h, k⟩ => evs c h fun xs e1 vs H1 F1 h1 c1 => by
  have l := c1.cf.len
  simp only [List.append_nil] at l
  refine ⟨by rw [← l]; exact h1.1, fun p hp => ?_⟩
  have h2 := h1.2
  unfold mkT at h2
  split at h2
  · rename_i ds ed
    have ex := dats_frzs ed
    subst ex
    obtain ⟨F2, c2, dp⟩ := At.fixs c1 l (frzs_map ds)
    obtain ⟨F3, c3⟩ := (At.pops c2 l).newT dp hp
    exact k _ _ _ _ F3 h2 c3
  · exact k _ _ _ _ F1 h2 (At.make (s := .tup) c1 l hp ⟨upd_same, rfl⟩)
end
end Ow

/-! Ow: subscripts, slices, lists changed by methods. -/
namespace Ow
open PySem L2 Grd
open Evl (Ex ex_t ex_l ex_rd)
def ixO (x : OV) (i : Int) (R : OV → Prop) : Prop := match x with
  | .n .lst xs => match atI xs i with | some o => R o | none => False
  | .n .tup xs => match atI xs i with | some o => R o | none => False
  | .d (.list ds) => match atI ds i with | some o => R (.d o) | none => False
  | .d (.tuple ds) => match atI ds i with | some o => R (.d o) | none => False
  | .d (.str z) => z.length ≤ sizeLine ∧ match atI z.cps.toList i with | some c => R (.d (.str ⟨#[c]⟩)) | none => False
  | _ => False
def oIx (x y : OV) (R : OV → Prop) : Prop := match y with
  | .d (.int i) => ixO x i R
  | _ => False
def aIxN (i : Nat) (tb : AE) : AE := fun env Q => (match env[i]? with | some (some _) => True | _ => False) ∧ tb env fun y e => match e[i]? with
  | some (some (.d x)) => oIx (.d x) y fun z => Q z e
  | some (some (.n .lst xs)) => match y with
    | .d (.int k) => match ixN xs.length k with
      | some j => match xs[j]? with
        | some (.d d) => Q (.d d) e
        | some o => match frz o with
          | some d => Q (.d d) (e.set i (some (.n .lst (xs.set j (.d d)))))
          | none => False
        | none => False
      | none => False
    | _ => False
  | _ => False
abbrev AO := En → (Option Int → En → Prop) → Prop
def aNoP : AO := fun env Q => Q none env
def aPart (t : AE) : AO := fun env Q => t env fun x e => match x with
  | .d (.int i) => Q (some i) e
  | _ => False
def cut {α : Type} (xs : List α) (lo hi : Option Int) : List α := (xs.drop (HT.sIx xs.length 0 lo)).take (HT.sIx xs.length xs.length hi - HT.sIx xs.length 0 lo)
def oSl (x : OV) (lo hi : Option Int) (R : OV → Prop) : Prop := match x with
  | .n .lst xs => R (.n .lst (cut xs lo hi))
  | .d (.list ds) => R (.n .lst ((cut ds lo hi).map .d))
  | .d (.tuple ds) => R (.d (.tuple (cut ds lo hi)))
  | .d (.str z) => z.length ≤ sizeLine ∧ R (.d (.str (cutS z lo hi)))
  | _ => False
def aSl (te : AE) (tl th : AO) : AE := fun env Q => te env fun x e1 => tl e1 fun lo e2 => th e2 fun hi e3 => oSl x lo hi fun z => Q z e3
def LO (K : PySem.W.Frag) (t : AO) : TO := fun σ H Q => ∃ (A : Addr → Prop) (F : FS) (env : En) (R : Option Int → En → Prop),
  At K A F H H F [] [] σ env ∧ t env R ∧ ∀ b env' H' F', R b env' → At K A F H H' F' [] [] σ env' → Q b H'
def SO (X : Cx) (e : Option Expr) (t : AO) : Prop := PO X e (LO X.K t)
abbrev MM := List OV → List OV → (OV → List OV → Prop) → Prop
def aMt (i : Nat) (mm : MM) (t : AA) : AE := fun env Q => (match env[i]? with | some (some (.n .lst _)) => True | _ => False) ∧ t env fun args e => match e[i]? with
  | some (some (.n .lst xs)) => mm xs args fun z xs' => Q z (e.set i (some (.n .lst xs')))
  | _ => False
def mAppend : MM := fun xs args R => match args with
  | [x] => xs.length < sizeLine ∧ R (.d .none) (xs ++ [x])
  | _ => False
def mExtend : MM := fun xs args R => match args with
  | [x] => match lel x with | some ys => xs.length + ys.length ≤ sizeLine ∧ R (.d .none) (xs ++ ys) | none => False
  | _ => False
def mPop : MM := fun xs args R => match args with
  | [] => match xs[xs.length - 1]? with | some y => R y xs.dropLast | none => False
  | _ => False
def mPopAt : MM := fun xs args R => match args with
  | [.d (.int i)] => match ixN xs.length i with
    | some k => match xs[k]? with | some y => (-(2 ^ 63) ≤ i ∧ i < 2 ^ 63) ∧ R y (xs.eraseIdx k) | none => False
    | none => False
  | _ => False
def mInsert : MM := fun xs args R => match args with
  | [.d (.int i), x] => (xs.length < sizeLine ∧ 0 ≤ i ∧ i < 2 ^ 63) ∧ R (.d .none) (xs.take i.toNat ++ x :: xs.drop i.toNat)
  | _ => False
def mReverse : MM := fun xs args R => match args with
  | [] => R (.d .none) xs.reverse
  | _ => False
def mClear : MM := fun xs args R => match args with
  | [] => R (.d .none) []
  | _ => False
section
variable {K : PySem.W.Frag} {A : Addr → Prop} {F0 F F' : FS} {H0 H H' : Hp} {v u : V} {vs us : List V} {x y : OV} {xs ys : List OV} {σ : L2.St} {env : En}
theorem At.opn {s : Sh} (c : At K A F0 H0 H F (v :: vs) (.n s ys :: xs) σ env) : ∃ a ws ex, v = .ref a ∧ s.is H a ws ex ∧ ys.length = ws.length ∧ At K A F0 H0 H F (ws ++ vs) (ys ++ xs) σ env := by
  obtain ⟨st, ⟨⟨a1, a2, h1, h2, nd, off⟩, fh⟩⟩ := c
  cases h1 with
  | @cons _ _ _ _ b1 b2 h t =>
    cases h with
    | @n a _ ws _ ex as hs hw =>
      refine ⟨a, ws, ex, rfl, hs, hw.len, st, ⟨⟨as ++ b2, a2, hw.append (a1 := []) (a2 := []) t, h2, ?_, fun z hz => off z ?_⟩, fh⟩⟩
      · have q : ((a :: ex) ++ ((as ++ b2) ++ a2)).Nodup := by simpa [List.append_assoc] using nd
        exact (List.nodup_append.mp q).2.1
      · simp only [List.mem_append, List.mem_cons] at hz ⊢
        rcases hz with (hz | hz) | hz
        · exact .inl (.inl (.inr hz))
        · exact .inl (.inr hz)
        · exact .inr hz
theorem At.zip (c : At K A F0 H0 H F vs xs σ env) : At K A F0 H0 H F (fsts (vs.zip xs)) (snds (vs.zip xs)) σ env := by
  rw [zip_v c.cf.len, zip_x c.cf.len]
  exact c
theorem zip_at {vs : List V} {xs : List OV} {j : Nat} {y : OV} (l : xs.length = vs.length) (e : xs[j]? = some y) : ∃ w, vs[j]? = some w ∧ (vs.zip xs)[j]? = some (w, y) := by
  obtain ⟨hj, _⟩ := List.getElem?_eq_some_iff.mp e
  have hv : vs[j]? = some (vs[j]'(by omega)) := List.getElem?_eq_getElem (by omega)
  refine ⟨_, hv, ?_⟩
  rw [List.getElem?_zip_eq_some]
  exact ⟨hv, e⟩
theorem perm_at {α : Type} {l : List α} {j : Nat} {a : α} (e : l[j]? = some a) : (a :: l.eraseIdx j).Perm l := by
  obtain ⟨hj, rfl⟩ := List.getElem?_eq_some_iff.mp e
  clear e
  induction l generalizing j with
  | nil => simp at hj
  | cons b l ih =>
    cases j with
    | zero => simp
    | succ j =>
      simp only [List.getElem_cons_succ, List.eraseIdx_cons_succ]
      exact (List.Perm.swap _ _ _).trans (List.Perm.cons _ (ih (by simpa using hj)))
/-- one of those at the front stays -/
theorem At.pick {ws : List V} {j : Nat} (c : At K A F0 H0 H F (ws ++ vs) (ys ++ xs) σ env) (l : ys.length = ws.length) (e : ys[j]? = some y) : ∃ w, ws[j]? = some w ∧ At K A F0 H0 H F (w :: vs) (y :: xs) σ env := by
  obtain ⟨w, hw, hz⟩ := zip_at l e
  have lx : xs.length = vs.length := by have := c.cf.len; simp at this; omega
  refine ⟨w, hw, ?_⟩
  have z := c.zip
  rw [List.zip_append l.symm] at z
  have p : (((w, y) :: vs.zip xs) ++ (ws.zip ys).eraseIdx j).Perm (ws.zip ys ++ vs.zip xs) := by
    refine List.Perm.trans ?_ (List.Perm.append_right _ (perm_at hz))
    simp only [List.cons_append]
    exact List.Perm.cons _ List.perm_append_comm
  have q := At.sub p z
  simp only [fsts, snds, List.map_cons] at q
  rw [show List.map Prod.fst (vs.zip xs) = vs from zip_v lx, show List.map Prod.snd (vs.zip xs) = xs from zip_x lx] at q
  exact q
theorem atI_ix {α : Type} {xs : List α} {i : Int} {o : α} (h : atI xs i = some o) : ∃ j, ixN xs.length i = some j ∧ xs[j]? = some o := by
  unfold atI at h
  obtain ⟨j, h1, h2⟩ := Option.bind_eq_some_iff.mp h
  exact ⟨j, h1, h2⟩
theorem ix_atI {α : Type} {xs : List α} {i : Int} {o : α} {j : Nat} (h1 : ixN xs.length i = some j) (h2 : xs[j]? = some o) : atI xs i = some o := by
  unfold atI
  rw [h1]
  exact h2
theorem Dts.at {H : Hp} : ∀ {vs : List V} {ds : List PyData} {j : Nat} {d : PyData}, Dts K H vs ds → ds[j]? = some d → ∃ v, vs[j]? = some v ∧ Dt K H v d
  | _, _, j, d, .nil, e => by simp at e
  | _, _, 0, d, .cons h t, e => by simp at e; subst e; exact ⟨_, rfl, h⟩
  | _, _, j + 1, d, .cons h t, e => by
    obtain ⟨v, h1, h2⟩ := Dts.at (j := j) (d := d) t (by simpa using e)
    exact ⟨v, by simpa using h1, h2⟩
theorem Dts.atI {H : Hp} {vs : List V} {ds : List PyData} {i : Int} {d : PyData} (h : Dts K H vs ds) (e : L2.atI ds i = some d) : ∃ v, L2.atI vs i = some v ∧ Dt K H v d := by
  obtain ⟨j, e1, e2⟩ := atI_ix e
  obtain ⟨v, h1, h2⟩ := h.at e2
  refine ⟨v, ix_atI (j := j) ?_ h1, h2⟩
  rw [← h.len]
  exact e1
/-- a datum's item -/
theorem ixD {Q : VK} {R : OV → Prop} {d : PyData} {i : Int} (h : Dt K (rs H F) v d) (o : ixO (.d d) i R) (k : ∀ d' v', R (.d d') → Dt K (rs H F) v' d' → Q v' H) : rIx K v (.int i) H Q := by
  cases h with
  | lst h t =>
    change (match L2.atI _ i with | some o => R (.d o) | none => False) at o
    split at o
    · rename_i o' eo
      obtain ⟨v', h1, h2⟩ := t.atI eo
      exact .inl ⟨_, _, _, _, rfl, rfl, .of (rs_ex _ _ h), h1, k _ _ o h2⟩
    · exact o.elim
  | tup h t =>
    change (match L2.atI _ i with | some o => R (.d o) | none => False) at o
    split at o
    · rename_i o' eo
      obtain ⟨v', h1, h2⟩ := t.atI eo
      exact .inr (.inl ⟨_, _, _, _, rfl, rfl, ex_t rs_ex h, h1, k _ _ o h2⟩)
    · exact o.elim
  | str z =>
    obtain ⟨o1, o2⟩ := o
    split at o2
    · rename_i c' ec
      exact .inr (.inr ⟨_, _, _, rfl, rfl, o1, ec, k _ _ o2 (.str _)⟩)
    · exact o2.elim
  | non => exact o.elim
  | bl b => exact o.elim
  | int b => exact o.elim
theorem op2_ix : Op2 K (rIx K) oIx := by
  constructor
  intro A F0 F H0 H σ env x y ox oy R Q c o k
  unfold oIx at o
  split at o
  · rename_i i
    have dw := c.dp
    cases dw
    cases ox with
    | d d => exact ixD c.swap.dp o fun d' v' r h => k _ _ _ _ r (c.pop.pop.push h)
    | n s ys =>
      obtain ⟨a, ws, ex, rfl, hs, l, c1⟩ := c.pop.opn
      cases s with
      | lst =>
        change (match L2.atI ys i with | some o => R o | none => False) at o
        split at o
        · rename_i o' eo
          obtain ⟨j, e1, e2⟩ := atI_ix eo
          obtain ⟨w, h1, c2⟩ := c1.pick l e2
          exact .inl ⟨a, ws, _, w, rfl, rfl, .of hs.1, ix_atI (by rw [← l]; exact e1) h1, k _ _ _ _ o c2⟩
        · exact o.elim
      | tup =>
        change (match L2.atI ys i with | some o => R o | none => False) at o
        split at o
        · rename_i o' eo
          obtain ⟨j, e1, e2⟩ := atI_ix eo
          obtain ⟨w, h1, c2⟩ := c1.pick l e2
          exact .inr (.inl ⟨a, ws, _, w, rfl, rfl, .of hs.1, ix_atI (by rw [← l]; exact e1) h1, k _ _ _ _ o c2⟩)
        · exact o.elim
      | dic ks => exact o.elim
      | ins C ks => exact o.elim
      | ext _ => exact o.elim
  · exact o.elim
end
section
variable {X : Cx} {e a b c : Expr} {es : List Expr} {ta tb tc : AE} {tr : AA} {pos : Pos}
theorem se_ix (ha : SE X a ta) (hb : SE X b tb) (hs : PlainIx b) : SE X (.Subscript a b pos) (a2 oIx ta tb) := peTo (pe_ix ix_seq ha hb hs) (le_op op2_ix)
end
end Ow

/-! Ow: subscripts of names, slices, lists changed by methods: the rules. -/
namespace Ow
open PySem L2 Grd
open Evl (Ex ex_t ex_l ex_rd)
section
variable {K : PySem.W.Frag} {A : Addr → Prop} {F0 F F' : FS} {H0 H H' : Hp} {v u : V} {vs us : List V} {x y : OV} {xs ys : List OV} {σ : L2.St} {env : En}
theorem Owns.at : ∀ {vs : List V} {xs : List OV} {as : List Addr} {j : Nat} {o : OV}, Owns K H F vs xs as → xs[j]? = some o →
    ∃ w b c1 c2, vs[j]? = some w ∧ as = c1 ++ (b ++ c2) ∧ Own K H F w o b ∧ ∀ {F' : FS} {d : PyData}, Ex (rs H F) (rs H F') → Dt K (rs H F') w d → Owns K H F' vs (xs.set j (.d d)) (c1 ++ c2)
  | _, _, _, j, o, .nil, e => by simp at e
  | _, _, _, 0, o, .cons (as := as) (bs := bs) h t, e => by
    simp at e
    subst e
    exact ⟨_, as, [], bs, rfl, rfl, h, fun fr d => Owns.cons (as := []) (.d d) (t.keep fr fun _ _ _ h => h)⟩
  | _, _, _, j + 1, o, .cons (as := as) h t, e => by
    obtain ⟨w, b, c1, c2, h1, rfl, h2, h3⟩ := Owns.at (j := j) (o := o) t (by simpa using e)
    refine ⟨w, b, as ++ c1, c2, by simpa using h1, by simp [List.append_assoc], h2, fun fr d => ?_⟩
    rw [List.append_assoc]
    exact .cons (h.keep fr fun _ _ _ h => h) (h3 fr d)
/-- an item becomes a datum where it stands -/
theorem At.fixAt {s : Sh} {j : Nat} {o : OV} {d : PyData} (c : At K A F0 H0 H F (v :: vs) (.n s xs :: ys) σ env) (e : xs[j]? = some o) (ed : Ow.frz o = some d) :
    ∃ a ws ex w F', v = .ref a ∧ s.is H a ws ex ∧ xs.length = ws.length ∧ ws[j]? = some w ∧ Dt K (rs H F') w d ∧ At K A F0 H0 H F' (v :: vs) (.n s (xs.set j (.d d)) :: ys) σ env := by
  have c0 := c
  obtain ⟨st, ⟨⟨a1, a2, h1, h2, nd, off⟩, fh⟩⟩ := c
  cases h1 with
  | @cons _ _ _ _ b1 b2 h t =>
    cases h with
    | @n a _ ws _ ex as hs hw =>
      obtain ⟨w, b, c1, c2, g1, rfl, g2, g3⟩ := hw.at e
      have dp := g2.frz (F2 := fx F b) fx_le ed (fun a ha => fx_true.mpr (.inr ha))
      have fr : Ex (rs H F) (rs H (fx F b)) := rs_le fx_le
      have sm : ∀ z ∈ b, z ∈ (a :: ex ++ (c1 ++ (b ++ c2))) ++ b2 ++ a2 := fun z hz => by simp [hz]
      have p : (((a :: ex ++ (c1 ++ c2)) ++ b2 ++ a2) ++ b).Perm ((a :: ex ++ (c1 ++ (b ++ c2))) ++ b2 ++ a2) := by
        refine List.perm_iff_count.mpr fun a => ?_
        simp only [List.count_append]
        omega
      have nd2 := p.nodup_iff.mpr nd
      refine ⟨a, ws, ex, w, fx F b, rfl, hs, hw.len, g1, dp, c0.on ⟨fun _ _ _ h => h, fr, fun z hz => ?_⟩ ⟨⟨(a :: ex ++ (c1 ++ c2)) ++ b2, a2, .cons (.n hs (g3 fr dp)) (t.keep fr fun _ _ _ h => h), h2.keep fr fun _ _ _ h => h, (List.nodup_append.mp nd2).1, fun z hz => ?_⟩, fun z hz => ?_⟩⟩
      · rcases fx_true.mp hz with hz | hz
        · exact .inl hz
        · exact .inr (.inl (off z (sm z hz)).2)
      · have m := p.mem_iff.mp (List.mem_append_left _ hz)
        refine ⟨?_, .inl (off z m).2⟩
        cases q : fx F b z with
        | false => rfl
        | true =>
          rcases fx_true.mp q with q | q
          · rw [(off z m).1] at q; cases q
          · exact absurd rfl ((List.nodup_append.mp nd2).2.2 z hz z q)
      · rcases fx_true.mp hz with hz | hz
        · exact fh z hz
        · exact g2.ne z hz
theorem evo {t : AO} {R : Option Int → En → Prop} {Q : Option Int → Hp → Prop} (c : At K A F0 H0 H F vs xs σ env) (h : t env R)
    (k : ∀ b env' H' F', R b env' → At K A F0 H0 H' F' vs xs σ env' → Q b H') : LO K t σ H Q := by
  obtain ⟨a1, a2, h1, nd, off, c2⟩ := startE c
  refine ⟨_, F, env, R, c2, h, fun y env' H' F' r b => k y env' H' F' r ?_⟩
  obtain ⟨s, z⟩ := frameE (vs' := []) (xs' := []) h1 nd off b.st b.cf
  exact c.on s z
theorem Dts.drop {H : Hp} : ∀ {vs : List V} {ds : List PyData} (n : Nat), Dts K H vs ds → Dts K H (vs.drop n) (ds.drop n)
  | _, _, 0, h => h
  | _, _, _ + 1, .nil => .nil
  | _, _, n + 1, .cons _ t => Dts.drop n t
theorem Dts.take {H : Hp} : ∀ {vs : List V} {ds : List PyData} (n : Nat), Dts K H vs ds → Dts K H (vs.take n) (ds.take n)
  | _, _, 0, h => .nil
  | _, _, _ + 1, .nil => .nil
  | _, _, n + 1, .cons h t => .cons h (Dts.take n t)
theorem Dts.cut {H : Hp} {vs : List V} {ds : List PyData} (lo hi : Option Int) (h : Dts K H vs ds) : Dts K H (cutV vs lo hi) (Ow.cut ds lo hi) := by
  unfold cutV Ow.cut
  rw [h.len]
  exact (h.drop _).take _
theorem zip_take {vs : List V} {xs : List OV} (n : Nat) : (vs.zip xs).take n = (vs.take n).zip (xs.take n) := by
  induction vs generalizing xs n with
  | nil => simp
  | cons a vs ih => cases xs with
    | nil => simp
    | cons x xs => cases n with
      | zero => simp
      | succ n => simp [ih]
theorem zip_drop {vs : List V} {xs : List OV} (n : Nat) : (vs.zip xs).drop n = (vs.drop n).zip (xs.drop n) := by
  induction vs generalizing xs n with
  | nil => simp
  | cons a vs ih => cases xs with
    | nil => simp
    | cons x xs => cases n with
      | zero => simp
      | succ n => simp [ih]
theorem zip_cut {vs : List V} {xs : List OV} (l : xs.length = vs.length) (lo hi : Option Int) : cut (vs.zip xs) lo hi = (cutV vs lo hi).zip (cut xs lo hi) := by
  unfold cut cutV
  have : (vs.zip xs).length = vs.length := by simp [l]
  rw [this, l, zip_drop, zip_take]
theorem cut_len {α : Type} (xs : List α) (lo hi : Option Int) : (cut xs lo hi).length ≤ xs.length := by
  unfold cut
  rw [List.length_take, List.length_drop]
  omega
theorem cut_sub {α : Type} (xs : List α) (lo hi : Option Int) : ∃ r, (cut xs lo hi ++ r).Perm xs := by
  have s : (cut xs lo hi).Sublist xs := (List.take_sublist _ _).trans (List.drop_sublist _ _)
  obtain ⟨r, p⟩ := s.exists_perm_append
  exact ⟨r, p.symm⟩
/-- some of those at the front stay -/
theorem At.keepSome {ws : List V} {ps r : Prs} (c : At K A F0 H0 H F (ws ++ vs) (ys ++ xs) σ env) (l : ys.length = ws.length) (p : (ps ++ r).Perm (ws.zip ys)) : At K A F0 H0 H F (fsts ps ++ vs) (snds ps ++ xs) σ env := by
  have lx : xs.length = vs.length := by have := c.cf.len; simp at this; omega
  have z := c.zip
  rw [List.zip_append l.symm] at z
  have p2 : ((ps ++ vs.zip xs) ++ r).Perm (ws.zip ys ++ vs.zip xs) := by
    refine List.Perm.trans ?_ (List.Perm.append_right _ p)
    rw [List.append_assoc, List.append_assoc]
    exact List.Perm.append_left _ List.perm_append_comm
  have q := At.sub p2 z
  simp only [fsts, snds, List.map_append] at q ⊢
  rw [show List.map Prod.fst (vs.zip xs) = vs from zip_v lx, show List.map Prod.snd (vs.zip xs) = xs from zip_x lx] at q
  exact q
theorem slO {Q : VK} {R : OV → Prop} {lo hi : Option Int} (c : At K A F0 H0 H F [v] [x] σ env) (o : oSl x lo hi R) (k : ∀ z w H' F', R z → At K A F0 H0 H' F' [w] [z] σ env → Q w H') : rSlL K v lo hi H Q ∨ rSlA K v lo hi H Q ∨ rSlS v lo hi H Q := by
  cases x with
  | d d =>
    have h := c.dp
    cases h with
    | lst h t => exact .inl ⟨_, _, rfl, .of (rs_ex _ _ h), fun p hp => k _ _ _ F o (c.pop.newL (t.cut lo hi) hp)⟩
    | @tup a ws ds h t =>
      refine .inr (.inl ⟨_, _, rfl, ex_t rs_ex h, fun e => ?_, fun _ p hp => ?_⟩)
      · refine k _ _ _ F o (c.pop.push ?_)
        have q : Ow.cut ds lo hi = ds := by
          unfold Ow.cut
          rw [t.len, e.1, e.2, List.drop_zero, Nat.sub_zero, ← t.len]
          exact List.take_length
        rw [q]
        exact .tup h t
      · obtain ⟨F1, c1⟩ := c.pop.newT (t.cut lo hi) hp
        exact k _ _ _ F1 o c1
    | str z => exact .inr (.inr ⟨_, rfl, o.1, k _ _ _ F o.2 (c.pop.push (.str _))⟩)
    | non => exact o.elim
    | bl b => exact o.elim
    | int b => exact o.elim
  | n s ys =>
    cases s with
    | lst =>
      obtain ⟨a, ws, ex, rfl, hs, l, c1⟩ := c.opn
      refine .inl ⟨a, ws, rfl, .of hs.1, fun p hp => k _ _ _ F o ?_⟩
      obtain ⟨r, pr⟩ := cut_sub (ws.zip ys) lo hi
      have c2 := At.keepSome c1 l pr
      have lc : (Ow.cut ys lo hi).length = (cutV ws lo hi).length := by
        unfold Ow.cut cutV
        rw [List.length_take, List.length_take, List.length_drop, List.length_drop, l]
      rw [zip_cut l, zip_v lc, zip_x lc] at c2
      exact At.make (s := .lst) c2 lc hp ⟨upd_same, rfl⟩
    | tup => exact o.elim
    | dic ks => exact o.elim
    | ins C ks => exact o.elim
    | ext _ => exact o.elim
/-! methods of a list -/
structure MtL (K : PySem.W.Frag) (r : V → List V → Hp → VK → Prop) (mm : MM) : Prop where
  run : ∀ {A : Addr → Prop} {F0 F : FS} {H0 H : Hp} {σ : L2.St} {env : En} {a : Addr} {as : List V} {xs args : List OV} {R : OV → List OV → Prop} {Q : VK},
    At K A F0 H0 H F (.ref a :: as) (.n .lst xs :: args) σ env → mm xs args R → (∀ z xs' w H' F', R z xs' → At K A F0 H0 H' F' [.ref a, w] [.n .lst xs', z] σ env → Q w H') → r (.ref a) as H Q
theorem At.under {d : PyData} (c : At K A F0 H0 H F [u] [x] σ env) (h : Dt K (rs H F) v d) : At K A F0 H0 H F [u, v] [x, .d d] σ env := (c.push h).swap
theorem args1 {vs : List V} (c : At K A F0 H0 H F vs [x] σ env) : ∃ v, vs = [v] := by
  have l := c.cf.len
  match vs, l with
  | [v], _ => exact ⟨v, rfl⟩
theorem args0 {vs : List V} (c : At K A F0 H0 H F vs [] σ env) : vs = [] := by
  have l := c.cf.len
  match vs, l with
  | [], _ => rfl
theorem args2 {vs : List V} (c : At K A F0 H0 H F vs [x, y] σ env) : ∃ v u, vs = [v, u] := by
  have l := c.cf.len
  match vs, l with
  | [v, u], _ => exact ⟨v, u, rfl⟩
theorem mt_ap : MtL K rAppend mAppend := by
  constructor
  intro A F0 F H0 H σ env a as xs args R Q c o k
  unfold mAppend at o
  split at o
  · rename_i x
    obtain ⟨y, rfl⟩ := args1 c.pop
    obtain ⟨ws, ex, ⟨hH, rfl⟩, lw, _, mk⟩ := c.mut
    refine ⟨a, ws, y, rfl, rfl, hH, by rw [← lw]; exact o.1, k (.d .none) _ .non _ F o.2 (At.under ?_ .non)⟩
    have q := mk .lst (.lst (ws ++ [y])) (ws.zip xs ++ [(y, x)]) [] [] ⟨by rw [upd_same]; simp [fsts, List.map_fst_zip (show ws.length ≤ xs.length by omega)], rfl⟩ (by simp)
    simp only [snds, List.map_append, List.map_snd_zip (show xs.length ≤ ws.length by omega), List.map_cons, List.map_nil] at q
    exact q
  · exact o.elim
theorem mt_ex : MtL K rExtend mExtend := by
  constructor
  intro A F0 F H0 H σ env a as xs args R Q c o k
  unfold mExtend at o
  split at o
  · rename_i x
    split at o
    · rename_i ys ey
      obtain ⟨y, rfl⟩ := args1 c.pop
      obtain ⟨b, zs, rfl, hb, lz, c1⟩ := c.swap.lel ey
      have c2 := At.front lz c1
      simp only [List.append_nil] at c2
      obtain ⟨ws, ex, ⟨hH, rfl⟩, lw, _, mk⟩ := c2.mut
      refine ⟨a, b, ws, zs, rfl, rfl, hH, hb, by rw [← lw, ← lz]; exact o.1, k (.d .none) _ .non _ F o.2 (At.under ?_ .non)⟩
      have q := mk .lst (.lst (ws ++ zs)) (ws.zip xs ++ zs.zip ys) [] [] ⟨by rw [upd_same]; simp [fsts, List.map_fst_zip (show ws.length ≤ xs.length by omega), List.map_fst_zip (show zs.length ≤ ys.length by omega)], rfl⟩ (by simp)
      simp only [snds, List.map_append, List.map_snd_zip (show xs.length ≤ ws.length by omega), List.map_snd_zip (show ys.length ≤ zs.length by omega), List.map_nil] at q
      exact q
    · exact o.elim
  · exact o.elim
theorem mt_rev : MtL K rReverse mReverse := by
  constructor
  intro A F0 F H0 H σ env a as xs args R Q c o k
  unfold mReverse at o
  split at o
  · have := args0 c.pop
    subst this
    obtain ⟨ws, ex, ⟨hH, rfl⟩, lw, _, mk⟩ := c.mut
    refine ⟨a, ws, rfl, rfl, hH, k (.d .none) _ .non _ F o (At.under ?_ .non)⟩
    have q := mk .lst (.lst ws.reverse) (ws.zip xs).reverse [] [] ⟨by rw [upd_same]; simp [fsts, List.map_reverse, List.map_fst_zip (show ws.length ≤ xs.length by omega)], rfl⟩ (by simp [List.reverse_perm])
    simp only [snds, List.map_reverse, List.map_snd_zip (show xs.length ≤ ws.length by omega), List.map_nil] at q
    exact q
  · exact o.elim
theorem mt_cl : MtL K rClear mClear := by
  constructor
  intro A F0 F H0 H σ env a as xs args R Q c o k
  unfold mClear at o
  split at o
  · have := args0 c.pop
    subst this
    obtain ⟨ws, ex, ⟨hH, rfl⟩, lw, _, mk⟩ := c.mut
    refine ⟨a, ws, rfl, rfl, hH, k (.d .none) _ .non _ F o (At.under ?_ .non)⟩
    exact mk .lst (.lst []) [] [] (ws.zip xs) ⟨upd_same, rfl⟩ (by simp)
  · exact o.elim
theorem mt_po : MtL K rPop mPop := by
  constructor
  intro A F0 F H0 H σ env a as xs args R Q c o k
  unfold mPop at o
  split at o
  · have := args0 c.pop
    subst this
    split at o
    · rename_i y ey
      obtain ⟨ws, ex, ⟨hH, rfl⟩, lw, _, mk⟩ := c.mut
      obtain ⟨w, hw, hz⟩ := zip_at lw ey
      rw [lw] at hw
      refine ⟨a, ws, w, rfl, rfl, hH, hw, k y _ w _ F o ?_⟩
      have e1 : (ws.zip xs).dropLast = ws.dropLast.zip xs.dropLast := by
        rw [List.dropLast_eq_take, zip_take, List.dropLast_eq_take, List.dropLast_eq_take]
        simp [lw]
      have ld : xs.dropLast.length = ws.dropLast.length := by simp [lw]
      have q := mk .lst (.lst ws.dropLast) (ws.zip xs).dropLast [(w, y)] [] ⟨by rw [upd_same, e1, zip_v ld], rfl⟩ (by
        have g : (ws.zip xs).getLast? = some (w, y) := by
          rw [List.getLast?_eq_getElem?]
          rw [show (ws.zip xs).length - 1 = xs.length - 1 by simp [lw]]
          exact hz
        obtain ⟨l', e'⟩ := List.getLast?_eq_some_iff.mp g
        rw [e']
        simp)
      rw [e1, zip_x ld] at q
      exact q
    · exact o.elim
  · exact o.elim
theorem zip_erase {vs : List V} {xs : List OV} (n : Nat) : (vs.zip xs).eraseIdx n = (vs.eraseIdx n).zip (xs.eraseIdx n) := by
  induction vs generalizing xs n with
  | nil => simp
  | cons a vs ih => cases xs with
    | nil => simp
    | cons x xs => cases n with
      | zero => simp
      | succ n => simp [ih]
theorem mt_pa : MtL K rPopAt mPopAt := by
  constructor
  intro A F0 F H0 H σ env a as xs args R Q c o k
  unfold mPopAt at o
  split at o
  · rename_i i
    split at o
    · rename_i j ej
      split at o
      · rename_i y ey
        obtain ⟨yi, rfl⟩ := args1 c.pop
        have di := c.pop.dp
        cases di
        obtain ⟨ws, ex, ⟨hH, rfl⟩, lw, _, mk⟩ := c.mut
        obtain ⟨w, hw, hz⟩ := zip_at lw ey
        have ij := ixN_seq ej
        refine ⟨a, ws, i, j, w, rfl, rfl, hH, o.1.1, o.1.2, by rw [← lw]; exact ij.1, hw, k y _ w _ F o.2 ?_⟩
        have ld : (xs.eraseIdx j).length = (ws.eraseIdx j).length := by simp [List.length_eraseIdx, lw]
        have q := mk .lst (.lst (ws.eraseIdx j)) ((ws.zip xs).eraseIdx j) [(w, y)] [(.int i, .d (.int i))] ⟨by rw [upd_same, zip_erase, zip_v ld], rfl⟩ (by
          simp only [List.zip_cons_cons, List.zip_nil_right]
          refine List.Perm.append_right _ ?_
          exact List.perm_append_comm.trans (perm_at hz))
        rw [zip_erase, zip_x ld] at q
        exact q
      · exact o.elim
    · exact o.elim
  · exact o.elim
theorem mt_in : MtL K (fun x vs H Q => ∃ (l : Addr) (xs : List V) (i : Int) (y : V), x = .ref l ∧ vs = [.int i, y] ∧ H l = some (.lst xs) ∧ xs.length < sizeLine ∧ 0 ≤ i ∧ i < 2 ^ 63 ∧ Q .non (upd H l (.lst (xs.take i.toNat ++ [y] ++ xs.drop i.toNat)))) mInsert := by
  constructor
  intro A F0 F H0 H σ env a as xs args R Q c o k
  unfold mInsert at o
  split at o
  · rename_i i x
    obtain ⟨yi, y, rfl⟩ := args2 c.pop
    have di := c.pop.dp
    cases di
    obtain ⟨ws, ex, ⟨hH, rfl⟩, lw, _, mk⟩ := c.mut
    refine ⟨a, ws, i, y, rfl, rfl, hH, by rw [← lw]; exact o.1.1, o.1.2.1, o.1.2.2, k (.d .none) _ .non _ F o.2 (At.under ?_ .non)⟩
    have lt : (xs.take i.toNat).length = (ws.take i.toNat).length := by simp [lw]
    have ld : (xs.drop i.toNat).length = (ws.drop i.toNat).length := by simp [lw]
    have q := mk .lst (.lst (ws.take i.toNat ++ [y] ++ ws.drop i.toNat)) ((ws.take i.toNat).zip (xs.take i.toNat) ++ [(y, x)] ++ (ws.drop i.toNat).zip (xs.drop i.toNat)) [] [(.int i, .d (.int i))]
      ⟨by rw [upd_same]; simp only [fsts, List.map_append, List.map_cons, List.map_nil]; rw [show List.map Prod.fst ((ws.take i.toNat).zip (xs.take i.toNat)) = ws.take i.toNat from zip_v lt, show List.map Prod.fst ((ws.drop i.toNat).zip (xs.drop i.toNat)) = ws.drop i.toNat from zip_v ld], rfl⟩ (by
        rw [← zip_take, ← zip_drop]
        simp only [List.zip_cons_cons, List.zip_nil_right, List.append_nil]
        have e := List.take_append_drop i.toNat (ws.zip xs)
        have h1 : ((ws.zip xs).take i.toNat ++ [(y, x)] ++ (ws.zip xs).drop i.toNat).Perm (((ws.zip xs).take i.toNat ++ (ws.zip xs).drop i.toNat) ++ [(y, x)]) := by
          rw [List.append_assoc, List.append_assoc]
          exact List.Perm.append_left _ List.perm_append_comm
        rw [e] at h1
        refine (List.Perm.append_right _ h1).trans ?_
        rw [List.append_assoc]
        exact List.Perm.append_left _ (List.Perm.swap _ _ _))
    simp only [snds, List.map_append, List.map_cons, List.map_nil] at q
    rw [show List.map Prod.snd ((ws.take i.toNat).zip (xs.take i.toNat)) = xs.take i.toNat from zip_x lt, show List.map Prod.snd ((ws.drop i.toNat).zip (xs.drop i.toNat)) = xs.drop i.toNat from zip_x ld] at q
    simpa using q
  · exact o.elim
end
end Ow

namespace Grd
open PySem L2
open Evl (Ex ex_t ex_l)

/-! ### data: what stands still, what is without lists -/
mutual
def tupOnly : PyData → Bool
  | .list _ => false
  | .dict _ => false
  | .tuple ds => tupOnlyAll ds
  | _ => true
def tupOnlyAll : List PyData → Bool
  | [] => true
  | d :: ds => tupOnly d && tupOnlyAll ds
end

/-- tuples stay as they are -/
def Ts (K : PySem.W.Frag) (H H' : Hp) : Prop := ∀ a xs, SqT K H a xs → SqT K H' a xs
theorem Ts.of_ex {K : PySem.W.Frag} {H H' : Hp} (e : Ex H H') : Ts K H H' := fun _ _ h => ex_t e h
theorem Ts.refl {K : PySem.W.Frag} {H : Hp} : Ts K H H := fun _ _ h => h
theorem Ts.trans {K : PySem.W.Frag} {H H1 H2 : Hp} (a : Ts K H H1) (b : Ts K H1 H2) : Ts K H H2 := fun x xs h => b x xs (a x xs h)

section
variable {K : PySem.W.Frag} {H H' : Hp}
mutual
theorem Dp.tst (t : Ts K H H') : ∀ (d : PyData) (v : V), tupOnly d = true → Dp K H v d → Dp K H' v d
  | .none, _, _, h => by cases h; exact .non
  | .bool b, _, _, h => by cases h; exact .bl b
  | .int i, _, _, h => by cases h; exact .int i
  | .str x, _, _, h => by cases h; exact .str x
  | .tuple ds, _, k, h => by
    cases h with
    | tup hs ha => exact .tup (t _ _ hs) (DpAll.tst t ds _ (by simpa only [tupOnly] using k) ha)
  | .list ds, _, k, h => by simp only [tupOnly] at k; exact absurd k (by decide)
  | .dict ds, _, k, h => by simp only [tupOnly] at k; exact absurd k (by decide)
theorem DpAll.tst (t : Ts K H H') : ∀ (ds : List PyData) (vs : List V), tupOnlyAll ds = true → DpAll K H vs ds → DpAll K H' vs ds
  | [], _, _, h => by cases h; exact .nil
  | d :: ds, _, k, h => by
    simp only [tupOnlyAll, Bool.and_eq_true] at k
    cases h with
    | cons h1 h2 => exact .cons (Dp.tst t d _ k.1 h1) (DpAll.tst t ds _ k.2 h2)
end
mutual
theorem Dp.ex (t : Ex H H') : ∀ (d : PyData) (v : V), Dp K H v d → Dp K H' v d
  | .none, _, h => by cases h; exact .non
  | .bool b, _, h => by cases h; exact .bl b
  | .int i, _, h => by cases h; exact .int i
  | .str x, _, h => by cases h; exact .str x
  | .tuple ds, _, h => by
    cases h with
    | tup hs ha => exact .tup (ex_t t hs) (DpAll.ex t ds _ ha)
  | .list ds, _, h => by
    cases h with
    | lst hs ha => exact .lst (ex_l t hs) (DpAll.ex t ds _ ha)
  | .dict ds, _, h => nomatch h
theorem DpAll.ex (t : Ex H H') : ∀ (ds : List PyData) (vs : List V), DpAll K H vs ds → DpAll K H' vs ds
  | [], _, h => by cases h; exact .nil
  | d :: ds, _, h => by
    cases h with
    | cons h1 h2 => exact .cons (Dp.ex t d _ h1) (DpAll.ex t ds _ h2)
end
theorem DpAll.len : ∀ {vs : List V} {ds : List PyData}, DpAll K H vs ds → vs.length = ds.length
  | _, _, .nil => rfl
  | _, _, .cons _ h => congrArg (· + 1) (DpAll.len h)
theorem DpAll.at {vs : List V} {ds : List PyData} (h : DpAll K H vs ds) (i : Nat) {d : PyData} (e : ds[i]? = some d) : ∃ v, vs[i]? = some v ∧ Dp K H v d := by
  induction i generalizing vs ds with
  | zero =>
    cases h with
    | nil => simp at e
    | cons h1 _ => simp at e; subst e; exact ⟨_, rfl, h1⟩
  | succ i ih =>
    cases h with
    | nil => simp at e
    | cons _ h2 => simp at e; obtain ⟨v, q⟩ := ih h2 e; exact ⟨v, by simpa using q.1, q.2⟩
theorem DpAll.append : ∀ {vs ws : List V} {ds es : List PyData}, DpAll K H vs ds → DpAll K H ws es → DpAll K H (vs ++ ws) (ds ++ es)
  | _, _, _, _, .nil, h => h
  | _, _, _, _, .cons a b, h => .cons a (DpAll.append b h)
end

section
variable {X : Cx} {pins : List (Addr × Obj)} {σ : L2.St} {H : Hp} {s : Shared}
mutual
/-- data without lists is read without an address -/
theorem readsT (I : Inv X pins σ H s) : ∀ (d : PyData) (v : V) (u : Value), tupOnly d = true → Dp X.K H v d → RelV v u → Reads s.heap u d []
  | .none, _, _, _, h, r => by cases h; cases r; exact Reads.none
  | .bool b, _, _, _, h, r => by cases h; cases r; exact Reads.bool b
  | .int i, _, _, _, h, r => by cases h; obtain ⟨t, rfl⟩ := r; exact Reads.int i t
  | .str x, _, _, _, h, r => by cases h; obtain ⟨t, rfl⟩ := r; exact Reads.str x t
  | .tuple ds, _, _, k, h, r => by
    cases h with
    | tup hs ha =>
      cases r
      obtain ⟨its, rv, ⟨o, ho, hc, n, hd⟩, _⟩ := I.tuple hs
      have hr := readsTs I ds _ its (by simpa only [tupOnly] using k) ha rv
      exact Reads.tuple ho hc hd hr
  | .list ds, _, _, k, h, r => by simp only [tupOnly] at k; exact absurd k (by decide)
  | .dict ds, _, _, k, h, r => by simp only [tupOnly] at k; exact absurd k (by decide)
theorem readsTs (I : Inv X pins σ H s) : ∀ (ds : List PyData) (vs : List V) (us : List Value), tupOnlyAll ds = true → DpAll X.K H vs ds → Vals vs us → ReadsAll s.heap us ds []
  | [], _, _, _, h, r => by cases h; cases r; exact ReadsAll.nil
  | d :: ds, _, _, k, h, r => by
    simp only [tupOnlyAll, Bool.and_eq_true] at k
    cases h with
    | cons h1 h2 =>
      cases r with
      | cons r1 r2 => exact ReadsAll.cons (as := []) (bs := []) (readsT I d _ _ k.1 h1 r1) (readsTs I ds _ _ k.2 h2 r2)
end

/-- a datum without lists, or a dict from ints to such -/
inductive Dr (K : PySem.W.Frag) (H : Hp) : V → PyData → Prop
  | dat {v : V} {d : PyData} : tupOnly d = true → Dp K H v d → Dr K H v d
  | dct {a : Addr} {kvs : List (Key × V)} {ds : List (Int × PyData)} : H a = some (.dK kvs) →
      Paired (fun (p : Key × V) (q : Int × PyData) => p.1 = Sum.inl q.1 ∧ tupOnly q.2 = true ∧ Dp K H p.2 q.2) kvs ds →
      Dr K H (.ref a) (.dict (ds.map fun q => (PyData.int q.1, q.2)))
theorem reads_pairs (I : Inv X pins σ H s) : ∀ {kvs : List (Key × V)} {ds : List (Int × PyData)} {vs : List (Key × Value)} {es : List DictEntry},
    Paired (fun (p : Key × V) (q : Int × PyData) => p.1 = Sum.inl q.1 ∧ tupOnly q.2 = true ∧ Dp X.K H p.2 q.2) kvs ds → KV kvs vs → Pairs (mixKind X.prog X.w) es vs →
    ReadsAll s.heap (es.map (·.key)) (ds.map fun q => PyData.int q.1) [] ∧ ReadsAll s.heap (es.map (·.val)) (ds.map (·.2)) []
  | _, _, _, _, .nil, k, p => by
    cases k
    cases p
    exact ⟨.nil, .nil⟩
  | _, _, _, _, .cons a b, k, p => by
    cases k with
    | cons k1 k2 =>
      cases p with
      | cons p1 p2 p3 =>
        obtain ⟨r1, r2⟩ := reads_pairs I b k2 p3
        refine ⟨ReadsAll.cons (as := []) (bs := []) ?_ r1, ReadsAll.cons (as := []) (bs := []) ?_ r2⟩
        · rw [← k1.1, a.1, mixKind_is] at p1
          rcases keyIs_shape p1 with ⟨i, t, e1, e2⟩ | ⟨x, t, e1, e2⟩
          · dsimp only
            rw [e2, Sum.inl.inj e1]
            exact Reads.int _ _
          · exact nomatch e1
        · exact readsT I _ _ _ a.2.1 a.2.2 (by have e := k1.2; rw [← p2] at e; exact e)
theorem Dr.reads (I : Inv X pins σ H s) {v : V} {d : PyData} {u : Value} (h : Dr X.K H v d) (r : RelV v u) : ∃ as, sysModules ∉ as ∧ Reads s.heap u d as := by
  cases h with
  | dat k h => exact ⟨[], by simp, readsT I d v u k h r⟩
  | @dct a kvs ds e p =>
    cases r
    obtain ⟨_, hne, vs, rel, o, es, ep, ho, hx, hd, hk, hp, _⟩ := dk_of I.hok e
    obtain ⟨r1, r2⟩ := reads_pairs I p rel hp
    refine ⟨[a], ?_, ?_⟩
    · intro z
      rw [List.mem_singleton] at z
      rw [z] at hne
      simp at hne
    · have q := Reads.dict (as := []) (bs := []) (kvs := ds.map fun q => (PyData.int q.1, q.2)) ho hx.1 hd
        (by rw [List.map_map]; exact r1) (by rw [List.map_map]; exact r2)
      exact q
theorem reads_row (I : Inv X pins σ H s) : ∀ {vs : List V} {ds : List PyData} {us : List Value}, Paired (Dr X.K H) vs ds → Vals vs us → ∃ as, sysModules ∉ as ∧ ReadsAll s.heap us ds as
  | _, _, _, .nil, r => by
    cases r
    exact ⟨[], by simp, .nil⟩
  | _, _, _, .cons h1 h2, r => by
    cases r with
    | cons r1 r2 =>
      obtain ⟨as, n1, q1⟩ := h1.reads I r1
      obtain ⟨bs, n2, q2⟩ := reads_row I h2 r2
      exact ⟨as ++ bs, by simp [n1, n2], .cons q1 q2⟩
end

/-- a list written out, its place not that of the table of modules -/
def tLstB (t : TA) : TE := fun σ H Q => t σ H fun xs H1 => xs.length ≤ sizeLine ∧ ∀ p, H1 p = none → p ≠ sysModules → Q (.ref p) (upd H1 p (.lst xs))
theorem pe_lstB {X : Cx} {es : List Expr} {t : TA} {pos : Pos} (h : PA X es t) : PE X (.List es pos) (tLstB t) := by
  constructor
  intro pins s σ H Q I hq
  refine wpAny_List_spliced (thn (h.run pos pins s σ H _ I hq) ?_)
  rintro us s1 ⟨xs, H1, I1, r, z, q⟩
  refine ⟨by rw [← r.length]; exact z, ?_⟩
  have hf : H1 s1.heap.objs.size = none := I1.hok.fresh (Nat.le_refl _)
  have hb := I1.big
  refine ⟨.ref s1.heap.objs.size, upd H1 s1.heap.objs.size (.lst xs), ?_, rfl, q _ hf (fun z => absurd hb (by rw [z]; exact Nat.lt_irrefl _))⟩
  exact I1.laid (t' := s1.toks) (fun b u e => Heap.get?_push_of_some _ e) (Nat.le_refl _) ⟨z, us, 0, r, Heap.get?_push_size _ rfl⟩

/-- repr of a list of such things -/
def rReprL (K : PySem.W.Frag) : List V → Hp → VK → Prop := fun vs H Q => ∃ (a : Addr) (xs : List V) (ds : List PyData), vs = [.ref a] ∧ a ≠ sysModules ∧ H a = some (.lst xs) ∧ Paired (Dr K H) xs ds ∧
  (PyData.list ds).showable = true ∧ (PyData.list ds).depth ≤ 60 ∧ (PyData.list ds).shown.length ≤ sizeLine ∧ Q (.str (PyData.list ds).shown) H
theorem call_reprL {X : Cx} (gd : X.A.guards = some []) (hu : X.A.units + 64 < cLine) : CallR X (.builtin "repr") (rReprL X.K) := by
  intro pins s σ H vs us Q I r h
  obtain ⟨a, xs, ds, rfl, na, ha, hp, hs, hd, hz, q⟩ := h
  rw [Vals.ref1 r]
  obtain ⟨its, n, rv, ho, _⟩ := I.lst ha
  obtain ⟨as, nas, hr⟩ := reads_row I hp rv
  have R : Reads s.heap (.ref a) (.list ds) (a :: as) := Reads.list ho rfl rfl (by simpa using hr)
  refine repr_of_reads' R hs (fun _ => by simp [nas, na.symm]) gd (by omega) (fun _ _ z => z) (fun h' u tk hk => ?_) hz
  exact ⟨.str _, H, I.kept hk, ⟨_, rfl⟩, q⟩
end Grd

/-! repr of any datum without dicts -/
namespace Grd
open PySem L2
open Evl (Ex ex_t ex_l)
section
variable {X : Cx} {pins : List (Addr × Obj)} {σ : L2.St} {H : Hp} {s : Shared}
mutual
theorem readsD (I : Inv X pins σ H s) : ∀ (d : PyData) (v : V) (u : Value), Dp X.K H v d → RelV v u → ∃ as, Reads s.heap u d as
  | .none, _, _, h, r => by cases h; cases r; exact ⟨_, Reads.none⟩
  | .bool b, _, _, h, r => by cases h; cases r; exact ⟨_, Reads.bool b⟩
  | .int i, _, _, h, r => by cases h; obtain ⟨t, rfl⟩ := r; exact ⟨_, Reads.int i t⟩
  | .str x, _, _, h, r => by cases h; obtain ⟨t, rfl⟩ := r; exact ⟨_, Reads.str x t⟩
  | .tuple ds, _, _, h, r => by
    cases h with
    | tup hs ha =>
      cases r
      obtain ⟨its, rv, ⟨o, ho, hc, n, hd⟩, _⟩ := I.tuple hs
      obtain ⟨as, hr⟩ := readsDs I ds _ its ha rv
      exact ⟨_, Reads.tuple ho hc hd hr⟩
  | .list ds, _, _, h, r => by
    cases h with
    | lst hs ha =>
      cases r
      obtain ⟨its, rv, ⟨o, n, ho, hc, _, hd⟩, _⟩ := I.list hs
      obtain ⟨as, hr⟩ := readsDs I ds _ its ha rv
      exact ⟨_, Reads.list ho hc hd hr⟩
  | .dict ds, _, _, h, r => nomatch h
theorem readsDs (I : Inv X pins σ H s) : ∀ (ds : List PyData) (vs : List V) (us : List Value), DpAll X.K H vs ds → Vals vs us → ∃ as, ReadsAll s.heap us ds as
  | [], _, _, h, r => by cases h; cases r; exact ⟨_, ReadsAll.nil⟩
  | d :: ds, _, _, h, r => by
    cases h with
    | cons h1 h2 =>
      cases r with
      | cons r1 r2 =>
        obtain ⟨as, q1⟩ := readsD I d _ _ h1 r1
        obtain ⟨bs, q2⟩ := readsDs I ds _ _ h2 r2
        exact ⟨_, ReadsAll.cons q1 q2⟩
end
end
mutual
theorem noDict {K : PySem.W.Frag} {H : Hp} : ∀ (d : PyData) (v : V), Dp K H v d → d.hasDict = false
  | .none, _, h => by simp only [PyData.hasDict]
  | .bool b, _, h => by simp only [PyData.hasDict]
  | .int i, _, h => by simp only [PyData.hasDict]
  | .str x, _, h => by simp only [PyData.hasDict]
  | .tuple ds, _, h => by
    cases h with
    | tup hs ha => simp only [PyData.hasDict]; exact noDicts ds _ ha
  | .list ds, _, h => by
    cases h with
    | lst hs ha => simp only [PyData.hasDict]; exact noDicts ds _ ha
  | .dict ds, _, h => nomatch h
theorem noDicts {K : PySem.W.Frag} {H : Hp} : ∀ (ds : List PyData) (vs : List V), DpAll K H vs ds → PyData.hasDictAll ds = false
  | [], _, h => by simp only [PyData.hasDictAll]
  | d :: ds, _, h => by
    cases h with
    | cons h1 h2 => simp only [PyData.hasDictAll, noDict d _ h1, noDicts ds _ h2, Bool.or_self]
end
def rReprD (K : PySem.W.Frag) : List V → Hp → VK → Prop := fun vs H Q => ∃ (v : V) (d : PyData), vs = [v] ∧ Dp K H v d ∧
  d.showable = true ∧ d.depth ≤ 60 ∧ d.shown.length ≤ sizeLine ∧ Q (.str d.shown) H
theorem call_reprD {X : Cx} (gd : X.A.guards = some []) (hu : X.A.units + 64 < cLine) : CallR X (.builtin "repr") (rReprD X.K) := by
  intro pins s σ H vs us Q I r h
  obtain ⟨v, d, rfl, hv, hs, hd, hz, q⟩ := h
  have nd := noDict d v hv
  obtain ⟨u, rfl, ru⟩ := vals1 r
  obtain ⟨as, hr⟩ := readsD I d v u hv ru
  cases hr with
  | none => exact PySem.P.repr_of_none ⟨.str _, H, I.tok _, ⟨_, rfl⟩, q⟩
  | bool b => exact PySem.P.repr_of_bool ⟨.str _, H, I.tok _, ⟨_, by cases b <;> rfl⟩, q⟩
  | int i t => exact PySem.P.repr_of_int (by simpa only [PyData.showable, decide_eq_true_eq] using hs) ⟨.str _, H, I.tok _, ⟨_, rfl⟩, q⟩
  | str x t => exact PySem.P.repr_of_str ⟨.str _, H, I.tok _, ⟨_, rfl⟩, q⟩ hz
  | list a b c d => exact repr_of_reads' (Reads.list a b c d) hs (PyData.noDict_hsm nd) gd (by omega) (fun _ _ z => z) (fun h' u tk hk => ⟨.str _, H, I.kept hk, ⟨_, rfl⟩, q⟩) hz
  | tuple a b c d => exact repr_of_reads' (Reads.tuple a b c d) hs (PyData.noDict_hsm nd) gd (by omega) (fun _ _ z => z) (fun h' u tk hk => ⟨.str _, H, I.kept hk, ⟨_, rfl⟩, q⟩) hz
  | dict => simp only [PyData.hasDict] at nd; cases nd
end Grd

/-! sorted of a tuple of texts -/
namespace Grd
open PySem L2
open PyProof.Rows (sortedS)
section
open PyProof.Rows
variable {prog : Program} {w : World} {A : Around} {E : Value → Shared → Prop} {s : Shared}
theorem collectT {t : Addr} {vs : List Value} {Q : List Value → Shared → Prop} (ht : IsTup s.heap t vs.toArray) (hz : vs.length ≤ sizeLine)
    (h : Q vs { s with heap := (s.heap.push (seqObj "list" #[] 0)).update s.heap.objs.size (Obj.mapSeq (· ++ vs.toArray)) }) :
    wpAny (model prog w) A (collect (.ref t)) Q E s := by
  obtain ⟨o, ho, hc, n, hd⟩ := id ht
  have new : (s.heap.push (seqObj "list" #[] 0)).get? s.heap.objs.size = some (seqObj "list" #[] 0) := Heap.get?_push_size _ rfl
  have old : (s.heap.push (seqObj "list" #[] 0)).get? t = some o := Heap.get?_push_of_some _ ho
  have e0 : ((#[] : Array Value) ++ vs.toArray).toList = vs := by simp
  unfold collect
  refine wpAny_bind (wpAny_runValue (codeAny_builtin entry_proto_collect' ?_))
  show wpAny _ _ (do again (.builtin "list.__iadd__" ⟨[← newList [], .ref t], []⟩)) _ _ s
  refine wpAny_bind (wpAny_newList (wpAny_pure ⟨Code.quiet_builtin _ (by decide +kernel), ?_⟩))
  refine codeAny_builtin entry_list_iadd' ?_
  show wpAny _ _ (Builtin.List.listExtendWith (.ref s.heap.objs.size) (.ref t) (.ref s.heap.objs.size)) _ _
    { s with heap := s.heap.push (seqObj "list" #[] 0) }
  unfold Builtin.List.listExtendWith
  refine wpAny_bind (wpAny_typeOf (T := "tuple") ⟨o, old, hc⟩ ?_)
  have tt : (Value.type "tuple" == Value.type "tuple") = true := by rfl
  rw [if_pos (by rw [tt]; simp)]
  refine wpAny_bind (listItems_at old hd ?_)
  refine wpAny_bind (listItems_at (xs := #[]) (n := 0) new rfl ?_)
  rw [if_neg (by simp)]
  have room : (#[] ++ vs.toArray : Array Value).size ≤ sizeLine + 1 := by
    simp only [Array.size_append, List.size_toArray, List.length_nil]
    omega
  refine wpAny_bind (listUpdate_at (xs := #[]) (n := 0) new rfl ?_ (Nat.zero_le _) room)
  refine wpAny_pure ?_
  refine wpAny_bind (wpAny_load (get?_update_seq new _) ?_)
  show wpAny _ _ (pure ((#[] : Array Value) ++ vs.toArray).toList) Q E _
  rw [e0]
  exact wpAny_pure h
theorem sortT {t : Addr} {vs : List Value} {ss : List Str} {Q : Value → Shared → Prop} (ht : IsTup s.heap t vs.toArray) (hS : StrsAre vs ss) (h64 : vs.length < 64)
    (h : ∀ (out : Array Value) (ss' : List Str), StrsAre out.toList ss' → ss'.Perm ss → sortedS ss' = true →
      Q (.ref (s.heap.objs.size + 1)) { s with heap := sortedAll s.heap vs out }) :
    wpAny (model prog w) A (call (.builtin "sorted") [.ref t]) Q E s := by
  have hz : vs.length ≤ sizeLine := small64 h64
  refine Calls.call_function_entry kind_sorted plain_sorted entry_sorted (args_sorted1 _) ?_
  unfold Builtin.«sorted»
  refine wpAny_bind (m := checkCount "sorted" 1 1 _) (wpAny_pure (wpAny_bind (collectT ht hz ?_)))
  refine wpAny_bind (wpAny_newList ?_)
  generalize eh : (s.heap.push (seqObj "list" #[] 0)).update s.heap.objs.size (Obj.mapSeq (· ++ vs.toArray)) = h1
  have sz : h1.objs.size = s.heap.objs.size + 1 := by rw [← eh, Heap.size_update, size_push']
  have at1 : (h1.push (seqObj "list" vs.toArray 0)).get? (s.heap.objs.size + 1) = some (seqObj "list" vs.toArray 0) := by
    rw [← sz]
    exact Heap.get?_push_size _ rfl
  show wpAny _ _ _ _ _ { s with heap := h1.push (seqObj "list" vs.toArray 0) }
  rw [sz]
  refine wpAny_bind (wpAny_holding (wpAny_call_entry slot_list_sort ⟨_, at1, rfl⟩ entry_list_sort (list_sort_treeK strKind_oneLt at1 hS.keysOf
    (fun v₁ v₂ rest e => keyKind_strs (by rw [← e]; exact hS)) h64 fun st' a1 a2 => ⟨_, rfl, ?_⟩) (args_list_sort _)))
  obtain ⟨ss', q1, q2, q3⟩ := sorted_out_str hS a1 a2
  have fin := h _ ss' q1 q2 q3
  unfold sortedAll at fin
  rw [eh] at fin
  exact wpAny_pure ⟨_, rfl, fin⟩
end
/-- sorted(t), t a tuple of texts, or a list of such -/
def rSortedTS (K : PySem.W.Frag) : List V → Hp → VK → Prop := fun vs H Q => ∃ (a : Addr) (xs : List Str), vs = [V.ref a] ∧ SqT K H a (xs.map V.str) ∧ xs.length < 64 ∧
  ∀ (ys : List Str) (p : Addr), ys.Perm xs → sortedS ys = true → H p = none → Q (.ref p) (upd H p (.lst (ys.map V.str)))
theorem cr_sortedTS {X : Cx} : CallR X (.builtin "sorted") (rSortedTS X.K) := by
  intro pins s σ H vs us Q I r h
  obtain ⟨a, xs, rfl, hs, h64, q⟩ := h
  obtain ⟨its, rv, hl, _⟩ := I.tuple hs
  rw [Vals.ref1 r]
  have n0 : xs.length = its.length := by have z := rv.length; rw [List.length_map] at z; exact z
  refine sortT hl rv.strs (by rw [← n0]; exact h64) ?_
  intro out ys h1 h2 h3
  obtain ⟨ep, he⟩ := PyProof.Rows.sortedAll_at s.heap its out
  have lz : (ys.map V.str).length ≤ sizeLine := by
    rw [List.length_map, h2.length_eq]
    exact small64 h64
  have new : H (s.heap.objs.size + 1) = none := I.hok.fresh (Nat.le_succ _)
  refine ⟨.ref (s.heap.objs.size + 1), upd H (s.heap.objs.size + 1) (.lst (ys.map V.str)), ?_, rfl, q ys _ h2 h3 new⟩
  exact I.laid (t' := s.toks) (fun _ _ => PyProof.Rows.sortedAll_old) (Nat.le_succ _) ⟨lz, out.toList, ep, vals_of_strs h1, he⟩
end Grd

/-! Ow: subscripts of names, slices, methods, built-in functions. -/
namespace Ow
open PySem L2 Grd PyProof.Rows
open Evl (Ex ex_t ex_l ex_rd)
/-! ### what is meant -/
def aCB (o : List OV → (OV → Prop) → Prop) (t : AA) : AE := fun env Q => t env fun xs e => o xs fun z => Q z e
def oLen1 (x : OV) (R : OV → Prop) : Prop := match x with
  | .d (.list ds) => R (.d (.int ds.length))
  | .d (.tuple ds) => R (.d (.int ds.length))
  | .d (.str z) => z.length ≤ sizeLine ∧ R (.d (.int z.length))
  | .n .lst xs => R (.d (.int xs.length))
  | .n .tup xs => R (.d (.int xs.length))
  | _ => False
def oLen (xs : List OV) (R : OV → Prop) : Prop := match xs with
  | [x] => oLen1 x R
  | _ => False
def aLenN (i : Nat) : AE := fun env Q => match env[i]? with
  | some (some x) => oLen1 x fun z => Q z env
  | _ => False
def oAbs (xs : List OV) (R : OV → Prop) : Prop := match xs with
  | [.d (.int i)] => R (.d (.int (if i < 0 then -i else i)))
  | _ => False
def oInt (xs : List OV) (R : OV → Prop) : Prop := match xs with
  | [.d (.int i)] => R (.d (.int i))
  | [.d (.bool b)] => R (.d (.int (if b then 1 else 0)))
  | _ => False
/-- what is in a list or a tuple -/
def sel : OV → Option (List OV)
  | .n .lst xs => some xs
  | .n .tup xs => some xs
  | .d (.list ds) => some (ds.map .d)
  | .d (.tuple ds) => some (ds.map .d)
  | _ => none
def oList (xs : List OV) (R : OV → Prop) : Prop := match xs with
  | [x] => match sel x with | some ys => R (.n .lst ys) | none => False
  | _ => False
def oTuple (xs : List OV) (R : OV → Prop) : Prop := match xs with
  | [.d (.tuple ds)] => R (.d (.tuple ds))
  | [x] => match lel x with | some ys => R (mkT ys) | none => False
  | _ => False
def boolsOf : List PyData → Option (List Bool)
  | [] => some []
  | .bool b :: ds => (boolsOf ds).map (b :: ·)
  | _ :: _ => none
def intsOf : List PyData → Option (List Int)
  | [] => some []
  | .int b :: ds => (intsOf ds).map (b :: ·)
  | _ :: _ => none
def strsOf : List PyData → Option (List Str)
  | [] => some []
  | .str b :: ds => (strsOf ds).map (b :: ·)
  | _ :: _ => none
def lfz (x : OV) : Option (List PyData) := (lel x).bind frzs
def sfz (x : OV) : Option (List PyData) := (sel x).bind frzs
def oAll (f : List Bool → Bool) (xs : List OV) (R : OV → Prop) : Prop := match xs with
  | [x] => match (lfz x).bind boolsOf with | some bs => R (.d (.bool (f bs))) | none => False
  | _ => False
def oSum (xs : List OV) (R : OV → Prop) : Prop := match xs with
  | [x] => match (lfz x).bind intsOf with | some ns => R (.d (.int ns.sum)) | none => False
  | _ => False
def oMax2 (xs : List OV) (R : OV → Prop) : Prop := match xs with
  | [.d (.int i), .d (.int j)] => R (.d (.int (if j > i then j else i)))
  | _ => False
def oMin2 (xs : List OV) (R : OV → Prop) : Prop := match xs with
  | [.d (.int i), .d (.int j)] => R (.d (.int (if j < i then j else i)))
  | _ => False
def oMax (xs : List OV) (R : OV → Prop) : Prop := match xs with
  | [x] => match (lfz x).bind intsOf with | some ns => 0 < ns.length ∧ ∀ m, m ∈ ns → (∀ y, y ∈ ns → y ≤ m) → R (.d (.int m)) | none => False
  | _ => False
def oRepr (xs : List OV) (R : OV → Prop) : Prop := match xs with
  | [x] => match frz x with | some d => (d.showable = true ∧ d.depth ≤ 60 ∧ d.shown.length ≤ sizeLine) ∧ R (.d (.str d.shown)) | none => False
  | _ => False
def oSorted (xs : List OV) (R : OV → Prop) : Prop := match xs with
  | [x] => match (sfz x).bind strsOf with | some ss => ss.length < 64 ∧ ∀ ys : List Str, ys.Perm ss → sortedS ys = true → R (.n .lst ((ys.map PyData.str).map .d)) | none => False
  | _ => False
def oStr (xs : List OV) (R : OV → Prop) : Prop := match xs with
  | [.d (.int i)] => i.natAbs.log2 < 1920 ∧ R (.d (.str (toString i)))
  | _ => False
inductive Ty where | int | bool | str | list | tuple
def Ty.nm : Ty → String
  | .int => "int" | .bool => "bool" | .str => "str" | .list => "list" | .tuple => "tuple"
def isOf : Ty → OV → Bool
  | .int, .d (.int _) => true
  | .int, .d (.bool _) => true
  | .bool, .d (.bool _) => true
  | .str, .d (.str _) => true
  | .list, .d (.list _) => true
  | .list, .n .lst _ => true
  | .tuple, .d (.tuple _) => true
  | .tuple, .n .tup _ => true
  | _, _ => false
def tyO : OV → String
  | .d .none => "NoneType" | .d (.bool _) => "bool" | .d (.int _) => "int" | .d (.str _) => "str" | .d (.list _) => "list" | .d (.tuple _) => "tuple" | .d (.dict _) => "dict"
  | .n .lst _ => "list" | .n .tup _ => "tuple" | .n (.dic _) _ => "dict" | .n (.ins _ _) _ => "object" | .n (.ext _) _ => "object"
def dull : OV → Bool
  | .n (.ins _ _) _ => true
  | .n (.ext _) _ => true
  | _ => false
def oIsi (ts : List Ty) (x : OV) (R : OV → Prop) : Prop := match x with
  | .n (.ins _ _) _ => False
  | .n (.ext _) _ => False
  | _ => R (.d (.bool (ts.any fun t => isOf t x)))
def oJoin (x y : OV) (R : OV → Prop) : Prop := match x with
  | .d (.str a) => match (sfz y).bind strsOf with | some ys => (ys.map (·.length)).sum + ys.length * a.length ≤ 16777216 ∧ R (.d (.str (Txt.join a ys))) | none => False
  | _ => False
def oSplit (x y : OV) (R : OV → Prop) : Prop := match x, y with
  | .d (.str a), .d (.str b) => ((b.length == 0) = false ∧ a.length + 2 ≤ sizeLine) ∧ R (.n .lst ((Txt.split a b).map fun s => .d (.str s)))
  | _, _ => False
def oRev (x : OV) (R : OV → Prop) : Prop := match lel x with
  | some xs => R (.n .lst xs.reverse)
  | none => False
/-! ### the rules -/
structure OpA (K : PySem.W.Frag) (r : List V → Hp → VK → Prop) (o : List OV → (OV → Prop) → Prop) : Prop where
  run : ∀ {A : Addr → Prop} {F0 F : FS} {H0 H : Hp} {σ : L2.St} {env : En} {vs : List V} {xs : List OV} {R : OV → Prop} {Q : VK},
    At K A F0 H0 H F vs xs σ env → o xs R → (∀ z w H' F', R z → At K A F0 H0 H' F' [w] [z] σ env → Q w H') → r vs H Q
section
variable {K : PySem.W.Frag} {A : Addr → Prop} {F0 F F' : FS} {H0 H H' : Hp} {v u : V} {vs us : List V} {x y : OV} {xs ys : List OV} {σ : L2.St} {env : En}
theorem At.sel {ys : List OV} (c : At K A F0 H0 H F (v :: vs) (x :: xs) σ env) (e : Ow.sel x = some ys) : ∃ a ws, v = .ref a ∧ (H a = some (.lst ws) ∨ SqT K H a ws) ∧ ys.length = ws.length ∧ At K A F0 H0 H F (ws ++ vs) (ys ++ xs) σ env := by
  cases x with
  | d d =>
    have dp := c.dp
    cases dp with
    | lst h t => cases e; exact ⟨_, _, rfl, .inl (rs_ex _ _ h), by rw [List.length_map]; exact t.len, c.pop.pushs t⟩
    | tup h t => cases e; exact ⟨_, _, rfl, .inr (ex_t rs_ex h), by rw [List.length_map]; exact t.len, c.pop.pushs t⟩
    | non => cases e
    | bl b => cases e
    | int b => cases e
    | str b => cases e
  | n s zs =>
    obtain ⟨a, ws, ex, rfl, hs, l, c1⟩ := c.opn
    cases s with
    | lst => cases e; exact ⟨a, ws, rfl, .inl hs.1, l, c1⟩
    | tup => cases e; exact ⟨a, ws, rfl, .inr (.of hs.1), l, c1⟩
    | dic ks => cases e
    | ins C ks => cases e
    | ext _ => cases e
theorem At.sfz {ds : List PyData} (c : At K A F0 H0 H F (v :: vs) (x :: xs) σ env) (e : Ow.sfz x = some ds) : ∃ a ws F', v = .ref a ∧ (H a = some (.lst ws) ∨ SqT K H a ws) ∧ Dts K (rs H F') ws ds ∧ At K A F0 H0 H F' vs xs σ env := by
  obtain ⟨ys, e1, e2⟩ := Option.bind_eq_some_iff.mp e
  obtain ⟨a, ws, rfl, h, l, c1⟩ := c.sel e1
  obtain ⟨F1, c2, dp⟩ := At.fixs c1 l e2
  exact ⟨a, ws, F1, rfl, h, dp, At.pops c2 (by rw [List.length_map]; exact dp.len)⟩
theorem At.lfz {ds : List PyData} (c : At K A F0 H0 H F (v :: vs) (x :: xs) σ env) (e : Ow.lfz x = some ds) : ∃ a ws F', v = .ref a ∧ H a = some (.lst ws) ∧ Dts K (rs H F') ws ds ∧ At K A F0 H0 H F' vs xs σ env := by
  obtain ⟨ys, e1, e2⟩ := Option.bind_eq_some_iff.mp e
  obtain ⟨a, ws, rfl, h, l, c1⟩ := c.lel e1
  obtain ⟨F1, c2, dp⟩ := At.fixs c1 l e2
  exact ⟨a, ws, F1, rfl, h, dp, At.pops c2 (by rw [List.length_map]; exact dp.len)⟩
theorem dts_bools : ∀ {vs : List V} {ds : List PyData} {bs : List Bool}, Dts K H vs ds → boolsOf ds = some bs → vs = bs.map V.bl
  | _, _, bs, .nil, e => by cases e; rfl
  | _, _, bs, .cons h t, e => by
    cases h <;> first | (cases e; done) | skip
    obtain ⟨cs, e1, rfl⟩ := Option.map_eq_some_iff.mp e
    rw [dts_bools t e1]
    rfl
theorem dts_ints : ∀ {vs : List V} {ds : List PyData} {bs : List Int}, Dts K H vs ds → intsOf ds = some bs → vs = bs.map V.int
  | _, _, bs, .nil, e => by cases e; rfl
  | _, _, bs, .cons h t, e => by
    cases h <;> first | (cases e; done) | skip
    obtain ⟨cs, e1, rfl⟩ := Option.map_eq_some_iff.mp e
    rw [dts_ints t e1]
    rfl
theorem dts_strs : ∀ {vs : List V} {ds : List PyData} {bs : List Str}, Dts K H vs ds → strsOf ds = some bs → vs = bs.map V.str
  | _, _, bs, .nil, e => by cases e; rfl
  | _, _, bs, .cons h t, e => by
    cases h <;> first | (cases e; done) | skip
    obtain ⟨cs, e1, rfl⟩ := Option.map_eq_some_iff.mp e
    rw [dts_strs t e1]
    rfl
theorem strs_dts {H : Hp} : ∀ (ss : List Str), Dts K H (ss.map V.str) (ss.map PyData.str)
  | [] => .nil
  | s :: ss => .cons (.str s) (strs_dts ss)
theorem opa_len1 {R : OV → Prop} {Q : VK} (c : At K A F0 H0 H F [v] [x] σ env) (o : oLen1 x R) (k : ∀ n : Nat, R (.d (.int n)) → Q (.int n) H) :
    (∃ p ys, [v] = [V.ref p] ∧ (SqL K H p ys ∨ SqT K H p ys) ∧ Q (.int ys.length) H) ∨ ∃ z, [v] = [V.str z] ∧ z.length ≤ sizeLine ∧ Q (.int z.length) H := by
  cases x with
  | d d =>
    have h := c.dp
    cases h with
    | lst h t => exact .inl ⟨_, _, rfl, .inl (.of (rs_ex _ _ h)), k _ (by rw [← t.len]; exact o)⟩
    | tup h t => exact .inl ⟨_, _, rfl, .inr (ex_t rs_ex h), k _ (by rw [← t.len]; exact o)⟩
    | str z => exact .inr ⟨_, rfl, o.1, k _ o.2⟩
    | non => exact o.elim
    | bl b => exact o.elim
    | int b => exact o.elim
  | n s zs =>
    obtain ⟨a, ws, ex, rfl, hs, l, c1⟩ := c.opn
    cases s with
    | lst => exact .inl ⟨_, _, rfl, .inl (.of hs.1), k _ (by rw [← l]; exact o)⟩
    | tup => exact .inl ⟨_, _, rfl, .inr (.of hs.1), k _ (by rw [← l]; exact o)⟩
    | dic ks => exact o.elim
    | ins C ks => exact o.elim
    | ext _ => exact o.elim
theorem opa_len : OpA K (fun xs H Q => (∃ p ys, xs = [.ref p] ∧ (SqL K H p ys ∨ SqT K H p ys) ∧ Q (.int ys.length) H) ∨ ∃ z, xs = [.str z] ∧ z.length ≤ sizeLine ∧ Q (.int z.length) H) oLen := by
  constructor
  intro A F0 F H0 H σ env vs xs R Q c o k
  unfold oLen at o
  split at o
  · obtain ⟨v, rfl⟩ := args1 c
    exact opa_len1 c o fun n r => k _ _ _ F r (c.pop.push (.int _))
  · exact o.elim
theorem opa_abs : OpA K (fun xs H Q => ∃ i, xs = [.int i] ∧ Q (.int (if i < 0 then -i else i)) H) oAbs := by
  constructor
  intro A F0 F H0 H σ env vs xs R Q c o k
  unfold oAbs at o
  split at o
  · obtain ⟨v, rfl⟩ := args1 c
    have h := c.dp
    cases h
    exact ⟨_, rfl, k _ _ _ F o (c.pop.push (.int _))⟩
  · exact o.elim
theorem opa_int : OpA K (fun xs H Q => (∃ i, xs = [.int i] ∧ Q (.int i) H) ∨ ∃ k, xs = [.bl k] ∧ Q (.int (if k then 1 else 0)) H) oInt := by
  constructor
  intro A F0 F H0 H σ env vs xs R Q c o k
  unfold oInt at o
  split at o
  · obtain ⟨v, rfl⟩ := args1 c
    have h := c.dp
    cases h
    exact .inl ⟨_, rfl, k _ _ _ F o (c.pop.push (.int _))⟩
  · obtain ⟨v, rfl⟩ := args1 c
    have h := c.dp
    cases h
    exact .inr ⟨_, rfl, k _ _ _ F o (c.pop.push (.int _))⟩
  · exact o.elim
theorem opa_list : OpA K (fun xs H Q => ∃ p ys, xs = [.ref p] ∧ (SqL K H p ys ∨ SqT K H p ys) ∧ ∀ l, H l = none → Q (.ref l) (upd H l (.lst ys))) oList := by
  constructor
  intro A F0 F H0 H σ env vs xs R Q c o k
  unfold oList at o
  split at o
  · obtain ⟨v, rfl⟩ := args1 c
    split at o
    · rename_i ys ey
      obtain ⟨a, ws, rfl, h, l, c1⟩ := c.sel ey
      exact ⟨a, ws, rfl, h.imp .of id, fun p hp => k _ _ _ F o (At.make (s := .lst) c1 l hp ⟨upd_same, rfl⟩)⟩
    · exact o.elim
  · exact o.elim
theorem opa_tuple : OpA K (fun xs H Q => ∃ p ys, xs = [.ref p] ∧ ((SqL K H p ys ∧ ∀ l, H l = none → Q (.ref l) (upd H l (.tup ys))) ∨ (SqT K H p ys ∧ Q (.ref p) H))) oTuple := by
  constructor
  intro A F0 F H0 H σ env vs xs R Q c o k
  unfold oTuple at o
  split at o
  · obtain ⟨v, rfl⟩ := args1 c
    have h := c.dp
    cases h with
    | tup h t => exact ⟨_, _, rfl, .inr ⟨ex_t rs_ex h, k _ _ _ F o (c.pop.push (.tup h t))⟩⟩
  · obtain ⟨v, rfl⟩ := args1 c
    split at o
    · rename_i ys ey
      obtain ⟨a, ws, rfl, h, l, c1⟩ := c.lel ey
      refine ⟨a, ws, rfl, .inl ⟨.of h, fun p hp => ?_⟩⟩
      unfold mkT at o
      split at o
      · rename_i ds ed
        have ex := dats_frzs ed
        subst ex
        obtain ⟨F2, c2, dp⟩ := At.fixs c1 l (frzs_map ds)
        obtain ⟨F3, c3⟩ := (At.pops c2 l).newT dp hp
        exact k _ _ _ F3 o c3
      · exact k _ _ _ F o (At.make (s := .tup) c1 l hp ⟨upd_same, rfl⟩)
    · exact o.elim
  · exact o.elim
theorem opa_all {f : List Bool → Bool} : OpA K (fun vs H Q => ∃ (a : Addr) (bs : List Bool), vs = [V.ref a] ∧ SqL K H a (bs.map V.bl) ∧ Q (.bl (f bs)) H) (oAll f) := by
  constructor
  intro A F0 F H0 H σ env vs xs R Q c o k
  unfold oAll at o
  split at o
  · obtain ⟨v, rfl⟩ := args1 c
    split at o
    · rename_i bs eb
      obtain ⟨ds, e1, e2⟩ := Option.bind_eq_some_iff.mp eb
      obtain ⟨a, ws, F1, rfl, h, dp, c1⟩ := c.lfz e1
      have e3 := dts_bools dp e2
      subst e3
      exact ⟨a, bs, rfl, .of h, k _ _ _ F1 o (c1.push (.bl _))⟩
    · exact o.elim
  · exact o.elim
theorem opa_sum : OpA K (rSum K) oSum := by
  constructor
  intro A F0 F H0 H σ env vs xs R Q c o k
  unfold oSum at o
  split at o
  · obtain ⟨v, rfl⟩ := args1 c
    split at o
    · rename_i bs eb
      obtain ⟨ds, e1, e2⟩ := Option.bind_eq_some_iff.mp eb
      obtain ⟨a, ws, F1, rfl, h, dp, c1⟩ := c.lfz e1
      have e3 := dts_ints dp e2
      subst e3
      exact ⟨a, bs, rfl, .of h, k _ _ _ F1 o (c1.push (.int _))⟩
    · exact o.elim
  · exact o.elim
theorem opa_max : OpA K (rMax K) oMax := by
  constructor
  intro A F0 F H0 H σ env vs xs R Q c o k
  unfold oMax at o
  split at o
  · obtain ⟨v, rfl⟩ := args1 c
    split at o
    · rename_i bs eb
      obtain ⟨ds, e1, e2⟩ := Option.bind_eq_some_iff.mp eb
      obtain ⟨a, ws, F1, rfl, h, dp, c1⟩ := c.lfz e1
      have e3 := dts_ints dp e2
      subst e3
      exact ⟨a, bs, rfl, .of h, o.1, fun m hm hx => k _ _ _ F1 (o.2 m hm hx) (c1.push (.int _))⟩
    · exact o.elim
  · exact o.elim
theorem opa_max2 : OpA K (fun xs H Q => ∃ i j, xs = [.int i, .int j] ∧ Q (.int (if j > i then j else i)) H) oMax2 := by
  constructor
  intro A F0 F H0 H σ env vs xs R Q c o k
  unfold oMax2 at o
  split at o
  · obtain ⟨v, u, rfl⟩ := args2 c
    have h := c.dp
    have h2 := c.pop.dp
    cases h; cases h2
    exact ⟨_, _, rfl, k _ _ _ F o (c.pop.pop.push (.int _))⟩
  · exact o.elim
theorem opa_min2 : OpA K (fun xs H Q => ∃ i j, xs = [.int i, .int j] ∧ Q (.int (if j < i then j else i)) H) oMin2 := by
  constructor
  intro A F0 F H0 H σ env vs xs R Q c o k
  unfold oMin2 at o
  split at o
  · obtain ⟨v, u, rfl⟩ := args2 c
    have h := c.dp
    have h2 := c.pop.dp
    cases h; cases h2
    exact ⟨_, _, rfl, k _ _ _ F o (c.pop.pop.push (.int _))⟩
  · exact o.elim
theorem opa_repr : OpA K (rReprD K) oRepr := by
  constructor
  intro A F0 F H0 H σ env vs xs R Q c o k
  unfold oRepr at o
  split at o
  · obtain ⟨v, rfl⟩ := args1 c
    split at o
    · rename_i d ed
      obtain ⟨F1, c1⟩ := c.fix ed
      exact ⟨_, _, rfl, c1.dpH.dp, o.1.1, o.1.2.1, o.1.2.2, k _ _ _ F1 o.2 (c1.pop.push (.str _))⟩
    · exact o.elim
  · exact o.elim
theorem opa_sorted : OpA K (fun vs H Q => rSortedS K vs H Q ∨ rSortedTS K vs H Q) oSorted := by
  constructor
  intro A F0 F H0 H σ env vs xs R Q c o k
  unfold oSorted at o
  split at o
  · obtain ⟨v, rfl⟩ := args1 c
    split at o
    · rename_i ss es
      obtain ⟨ds, e1, e2⟩ := Option.bind_eq_some_iff.mp es
      obtain ⟨a, ws, F1, rfl, h, dp, c1⟩ := c.sfz e1
      have e3 := dts_strs dp e2
      subst e3
      rcases h with h | h
      · exact .inl ⟨a, ss, rfl, .of h, o.1, fun ys p hp hs hn => k _ _ _ F1 (o.2 ys hp hs) (c1.newL (strs_dts ys) hn)⟩
      · exact .inr ⟨a, ss, rfl, h, o.1, fun ys p hp hs hn => k _ _ _ F1 (o.2 ys hp hs) (c1.newL (strs_dts ys) hn)⟩
    · exact o.elim
  · exact o.elim
theorem opa_str : OpA K (fun xs H Q => ∃ i, xs = [.int i] ∧ i.natAbs.log2 < 1920 ∧ Q (.str (toString i)) H) oStr := by
  constructor
  intro A F0 F H0 H σ env vs xs R Q c o k
  unfold oStr at o
  split at o
  · obtain ⟨v, rfl⟩ := args1 c
    have h := c.dp
    cases h
    exact ⟨_, rfl, o.1, k _ _ _ F o.2 (c.pop.push (.str _))⟩
  · exact o.elim
theorem isi_of (t : Ty) (x : OV) (h : dull x = false) : PySem.W.kitOne K (.type (tyO x)) (.type t.nm) = some (isOf t x) := by
  refine kit_ty ?_
  cases x with
  | d d => cases d <;> cases t <;> (simp only [tyO, isOf, Ty.nm]; decide +kernel)
  | n s xs =>
    cases s with
    | lst => cases t <;> (simp only [tyO, isOf, Ty.nm]; decide +kernel)
    | tup => cases t <;> (simp only [tyO, isOf, Ty.nm]; decide +kernel)
    | dic ks => cases t <;> (simp only [tyO, isOf, Ty.nm]; decide +kernel)
    | ins C ks => cases h
    | ext _ => cases h
theorem isi_any (x : OV) (h : dull x = false) : ∀ ts : List Ty, PySem.W.kitAny K (.type (tyO x)) (ts.map fun t => .type t.nm) = some (ts.any fun t => isOf t x)
  | [] => kitAny_nil
  | t :: ts => kitAny_cons (isi_of t x h) (fun e => by rw [isi_any x h ts, List.any_cons, e, Bool.false_or]) (fun e => by rw [List.any_cons, e, Bool.true_or])
theorem ty_of (c : At K A F0 H0 H F (v :: vs) (x :: xs) σ env) (h : dull x = false) : TyX K H v (.type (tyO x)) := by
  cases x with
  | d d =>
    have dp := c.dpH
    cases dp with
    | non => exact .base .non
    | bl b => exact .base (.bl b)
    | int i => exact .base (.int i)
    | str x => exact .base (.str x)
    | lst hs ha => exact .base (.lst hs)
    | tup hs ha =>
      rcases hs with (q | ⟨o, q⟩) | ⟨o, its, n, q, c, _⟩
      · exact .base (.tup q)
      · exact .fTuple q
      · exact .kTuple q c
  | n s ys =>
    obtain ⟨a, ws, ex, rfl, hs, l, c1⟩ := c.opn
    cases s with
    | lst => exact .base (.lst hs.1)
    | tup => exact .base (.tup hs.1)
    | dic ks => exact .base (.dK hs.1)
    | ins C ks => cases h
    | ext _ => cases h
end
section
variable {X : Cx} {e a b c : Expr} {es : List Expr} {ta tb tc : AE} {tr : AA} {pos p apos : Pos} {i : Nat} {x : Str} {id T : String}
theorem se_callB {r : List V → Hp → VK → Prop} {o : List OV → (OV → Prop) → Prop} (hc : CallR X (.builtin id) r) (hr : OpA X.K r o) (hg : Gl X x) (hm : X.mg x = none) (hv : bootBuiltins x = some (.builtin id)) (ha : SA X (e :: es) tr) (hn : x ≠ "__name__" := by decide) (hdb : (x == ("__debug__" : Str)) = false := by decide)
    (he : starEach (e :: es) X.env = (false, eval e X.env) :: starEach es X.env := by rfl) (hpl : (backTo pos (starEach es X.env)).any (·.1) = false := by rfl) : SE X (.Call (.Name x p) (e :: es) [] pos) (aCB o tr) :=
  peTo (pe_callB hc hg hm hv ha hn hdb he hpl) fun σ H Q ⟨A, F, env, R, c, h, k⟩ => evs c h fun xs e1 vs H1 F1 h1 c1 => hr.run (by simpa using c1) h1 fun z w H2 F2 h2 c2 => k _ _ _ _ _ h2 c2
theorem se_callTy {r : List V → Hp → VK → Prop} {o : List OV → (OV → Prop) → Prop} (hc : CallR X (.type T) r) (hr : OpA X.K r o) (hg : Gl X x) (hm : X.mg x = none) (hv : bootBuiltins x = some (.type T)) (ha : SA X (e :: es) tr) (hn : x ≠ "__name__" := by decide) (hdb : (x == ("__debug__" : Str)) = false := by decide)
    (he : starEach (e :: es) X.env = (false, eval e X.env) :: starEach es X.env := by rfl) (hpl : (backTo pos (starEach es X.env)).any (·.1) = false := by rfl) : SE X (.Call (.Name x p) (e :: es) [] pos) (aCB o tr) :=
  peTo (pe_callTy hc hg hm hv ha hn hdb he hpl) fun σ H Q ⟨A, F, env, R, c, h, k⟩ => evs c h fun xs e1 vs H1 F1 h1 c1 => hr.run (by simpa using c1) h1 fun z w H2 F2 h2 c2 => k _ _ _ _ _ h2 c2
/-- len of a name: it stays as it is -/
theorem se_lenN (h : PE X e (tVar i)) (hg : Gl X x) (hm : X.mg x = none) (hv : bootBuiltins x = some (.builtin "len")) (hn : x ≠ "__name__" := by decide) (hdb : (x == ("__debug__" : Str)) = false := by decide)
    (he : starEach [e] X.env = [(false, eval e X.env)] := by rfl) (hpl : (backTo pos (starEach [] X.env)).any (·.1) = false := by rfl) : SE X (.Call (.Name x p) [e] [] pos) (aLenN i) :=
  peTo (pe_callB (call_len_seq.or call_len_str) hg hm hv (pa_cons h pa_nil he) hn hdb he hpl) fun σ H Q ⟨A, F, env, R, c, h, k⟩ => by
    unfold aLenN at h
    split at h
    · rename_i x ex
      obtain ⟨v, hv, c1⟩ := c.take ex
      exact ⟨v, hv, opa_len1 c1 h fun n r => k _ _ _ _ F r (c.push (.int _))⟩
    · exact h.elim
theorem se_isi (ha : SE X a ta) (t : Ty) (hb : PE X b (tC (.ty t.nm))) (hg : Gl X x) (hm : X.mg x = none) (hv : bootBuiltins x = some (.builtin "isinstance")) (hn : x ≠ "__name__" := by decide) (hdb : (x == ("__debug__" : Str)) = false := by decide)
    (he : starEach [a, b] X.env = (false, eval a X.env) :: starEach [b] X.env := by rfl) (he2 : starEach [b] X.env = [(false, eval b X.env)] := by rfl) (hpl : (backTo pos (starEach [b] X.env)).any (·.1) = false := by rfl) : SE X (.Call (.Name x p) [a, b] [] pos) (a1 (oIsi [t]) ta) :=
  peTo (pe_callB call_isi hg hm hv (pa_cons ha (pa_cons hb pa_nil he2) he) hn hdb he hpl) fun σ H Q ⟨A, F, env, R, c, h, k⟩ => ev c h fun x e1 v H1 F1 h1 c1 => by
    have ni : dull x = false := by
      cases x with
      | d d => rfl
      | n s ys => cases s <;> first | rfl | exact False.elim h1
    have h2 : R (.d (.bool (isOf t x))) e1 := by
      cases x with
      | d d => simpa [oIsi] using h1
      | n s ys => cases s <;> first | (simpa [oIsi] using h1; done) | exact False.elim h1
    exact ⟨v, _, _, _, _, rfl, .ty _, ty_of c1 ni, isi_of t x ni, k _ _ _ _ F1 h2 (c1.pop.push (.bl _))⟩
end
end Ow

/-! Ow: subscripts of names, slices, methods: the rules. -/
namespace Ow
open PySem L2 Grd PyProof.Rows
open Evl (Ex ex_t ex_l ex_rd)
section
variable {X : Cx} {e o a b c : Expr} {es : List Expr} {ta tb tc te : AE} {tr : AA} {pos p p2 apos cpos : Pos} {i : Nat} {x : Str} {id T : String}
theorem getSome {K : PySem.W.Frag} {A : Addr → Prop} {F0 F : FS} {H0 H : Hp} {vs : List V} {xs : List OV} {σ : L2.St} {env : En} (c : At K A F0 H0 H F vs xs σ env) (h : match env[i]? with | some (some _) => True | _ => False) : ∃ v, σ[i]? = some (some v) := by
  split at h
  · rename_i x ex; exact c.get ex
  · exact h.elim
theorem se_ixN (h : PE X a (tVar i)) (hb : SE X b tb) (hs : PlainIx b) : SE X (.Subscript a b pos) (aIxN i tb) := peTo (pe_ix ix_seq h hb hs) fun σ H Q ⟨A, F, env, R, c, h, k⟩ => by
  obtain ⟨h0, h⟩ := h
  obtain ⟨v, hv⟩ := getSome c h0
  refine ⟨v, hv, ev c h fun y e1 u H2 F2 h2 c2 => ?_⟩
  split at h2
  · rename_i x ex
    unfold oIx at h2
    split at h2
    · have dw := c2.dp
      cases dw
      obtain ⟨v', hv', dv⟩ := c2.look ex
      rw [hv] at hv'
      cases hv'
      exact ixD dv h2 fun d' v'' r hd => k _ _ _ _ _ r (c2.pop.push hd)
    · exact h2.elim
  · rename_i xs ex
    split at h2
    · rename_i kk
      have dw := c2.dp
      cases dw
      split at h2
      · rename_i j ej
        obtain ⟨v', hv', c3⟩ := c2.pop.take ex
        rw [hv] at hv'
        cases hv'
        split at h2
        · rename_i d ed
          obtain ⟨a, ws, ex', rfl, hs, l, c4⟩ := c3.opn
          obtain ⟨w, h1, c5⟩ := c4.pick l ed
          exact .inl ⟨a, ws, _, w, rfl, rfl, .of hs.1, ix_atI (by rw [← l]; exact ej) h1, k _ _ _ _ _ h2 (c2.pop.push c5.dp)⟩
        · rename_i o _ eo
          split at h2
          · rename_i d ed
            obtain ⟨a, ws, ex', w, F3, rfl, hs, l, h1, dw, c4⟩ := c3.fixAt eo ed
            have c5 := (c4.push dw).swap.put hv
            rw [set_set'] at c5
            exact .inl ⟨a, ws, _, w, rfl, rfl, .of hs.1, ix_atI (by rw [← l]; exact ej) h1, k _ _ _ _ _ h2 c5⟩
          · exact h2.elim
        · exact h2.elim
      · exact h2.elim
    · exact h2.elim
  · exact h2.elim
theorem so_none : SO X none aNoP := ⟨fun pins s σ H Q I ⟨A, F, env, R, c, h, k⟩ => po_none.run pins s σ H Q I (k _ _ _ _ h c)⟩
theorem so_some (he : SE X e te) : SO X (some e) (aPart te) := ⟨fun pins s σ H Q I ⟨A, F, env, R, c, h, k⟩ => (po_some he).run pins s σ H Q I (ev c h fun x e1 v H1 F1 h1 c1 => by
  split at h1
  · have dw := c1.dp
    cases dw
    exact ⟨_, rfl, k _ _ _ _ h1 c1.pop⟩
  · exact h1.elim)⟩
theorem se_sl {lo hi : Option Expr} {tl th : AO} (he : SE X e te) (hl : SO X lo tl) (hu : SO X hi th) : SE X (.Subscript e (.Slice lo hi none p2) pos) (aSl te tl th) :=
  peTo (pe_slice (sl_list.or (sl_tupA.or sl_str)) he hl hu) fun σ H Q ⟨A, F, env, R, c, h, k⟩ => ev c h fun x e1 v H1 F1 h1 c1 => evo c1 h1 fun l e2 H2 F2 h2 c2 => evo c2 h2 fun u e3 H3 F3 h3 c3 => slO c3 h3 fun z w H4 F4 h4 c4 => k _ _ _ _ _ h4 c4
theorem se_rev {k : Nat} {p1 p2 p3 : Pos} (he : SE X e te) : SE X (.Subscript e (.Slice none none (some (.UnaryOp .USub (.Constant (.int 1) k p1) p2)) p3) pos) (a1 oRev te) :=
  peTo (pe_revL he) fun σ H Q ⟨A, F, env, R, c, h, k⟩ => ev c h fun x e1 v H1 F1 h1 c1 => by
    unfold oRev at h1
    split at h1
    · rename_i xs ex
      obtain ⟨a, ws, rfl, h, l, c2⟩ := c1.lel ex
      refine ⟨a, ws, rfl, .of h, fun p hp => k _ _ _ _ F1 h1 ?_⟩
      have c3 := At.keepSome (ps := (ws.zip xs).reverse) (r := []) c2 l (by simp [List.reverse_perm])
      have e1 : fsts (ws.zip xs).reverse = ws.reverse := by rw [show fsts (ws.zip xs).reverse = (fsts (ws.zip xs)).reverse from List.map_reverse, zip_v l]
      have e2 : snds (ws.zip xs).reverse = xs.reverse := by rw [show snds (ws.zip xs).reverse = (snds (ws.zip xs)).reverse from List.map_reverse, zip_x l]
      rw [e1, e2] at c3
      exact At.make (s := .lst) c3 (by simp [l]) hp ⟨upd_same, rfl⟩
    · exact h1.elim
/-! methods of a list that a name holds -/
theorem lstStart {K : PySem.W.Frag} {A : Addr → Prop} {F0 F : FS} {H0 H : Hp} {vs : List V} {xs : List OV} {σ : L2.St} {env : En} (c : At K A F0 H0 H F vs xs σ env) (h : match env[i]? with | some (some (.n .lst _)) => True | _ => False) : ∃ a, σ[i]? = some (some (.ref a)) ∧ tyV K "list" (.ref a) H := by
  split at h
  · rename_i x ex
    obtain ⟨v, hv, c1⟩ := c.take ex
    obtain ⟨a, ws, ex', rfl, hs, l, c2⟩ := c1.opn
    exact ⟨a, hv, .inl ⟨rfl, ws, .of hs.1⟩⟩
  · exact h.elim
theorem se_mt {name : Str} {r : V → List V → Hp → VK → Prop} {mm : MM} (slot : Slot "list" name id) (hty : typeOf (.builtin id) = pure (.type "method_descriptor")) (hm : MtR X id r) (hl : MtL X.K r mm) (h : PE X o (tVar i)) (ha : SA X (e :: es) tr)
    (hbase : attributeBase o name X.env (eval o X.env) = eval o X.env := by rfl)
    (hfew : ((backTo cpos (starEach (e :: es) X.env)).all (fun x => !x.1) && (backToKw cpos (keywordEach [] X.env)).all (fun x => x.1.isSome)
      && decide ((e :: es).length + ([] : List Keyword).length + (if ([] : List Keyword).isEmpty then 0 else 1) < 30)) = true := by rfl)
    (hline : (apos.endLine == cpos.line) = true := by rfl) (hs : starEach (e :: es) X.env = (false, eval e X.env) :: starEach es X.env := by rfl) (hplain : (backTo cpos (starEach es X.env)).any (·.1) = false := by rfl) :
    SE X (.Call (.Attribute o name apos) (e :: es) [] cpos) (aMt i mm tr) :=
  peTo (pe_bm PySem.F.plainAttrs_list slot hty hm h ha hbase hfew hline hs hplain) fun σ H Q ⟨A, F, env, R, c, h, k⟩ => by
    obtain ⟨h0, h⟩ := h
    obtain ⟨a, hv, ty⟩ := lstStart c h0
    refine ⟨.ref a, hv, ty, evs c h fun xs e1 vs H1 F1 h1 c1 => ?_⟩
    split at h1
    · rename_i ys ey
      obtain ⟨v', hv', c2⟩ := c1.take ey
      rw [hv] at hv'
      cases hv'
      exact hl.run (by simpa using c2) h1 fun z xs' w H2 F2 h2 c3 => k _ _ _ _ _ h2 (by
        have c4 := c3.put hv
        rw [set_set'] at c4
        exact c4)
    · exact h1.elim
theorem se_mt0 {name : Str} {r : V → List V → Hp → VK → Prop} {mm : MM} (slot : Slot "list" name id) (hty : typeOf (.builtin id) = pure (.type "method_descriptor")) (hm : MtR X id r) (hl : MtL X.K r mm) (h : PE X o (tVar i))
    (hbase : attributeBase o name X.env (eval o X.env) = eval o X.env := by rfl) (hline : (apos.endLine == cpos.line) = true := by rfl) :
    SE X (.Call (.Attribute o name apos) [] [] cpos) (aMt i mm aNil) :=
  peTo (pe_bm0 PySem.F.plainAttrs_list slot hty hm h hbase hline) fun σ H Q ⟨A, F, env, R, c, h, k⟩ => by
    obtain ⟨h0, h⟩ := h
    obtain ⟨a, hv, ty⟩ := lstStart c h0
    refine ⟨.ref a, hv, ty, ?_⟩
    change (match env[i]? with | some (some (.n .lst xs)) => mm xs [] fun z xs' => R z (env.set i (some (.n .lst xs'))) | _ => False) at h
    split at h
    · rename_i ys ey
      obtain ⟨v', hv', c2⟩ := c.take ey
      rw [hv] at hv'
      cases hv'
      exact hl.run c2 h fun z xs' w H2 F2 h2 c3 => k _ _ _ _ _ h2 (by
        have c4 := c3.put hv
        rw [set_set'] at c4
        exact c4)
    · exact h.elim
theorem se_append (h : PE X o (tVar i)) (ha : SE X e te) (hbase : attributeBase o "append" X.env (eval o X.env) = eval o X.env := by rfl)
    (hfew : ((backTo cpos (starEach [e] X.env)).all (fun x => !x.1) && (backToKw cpos (keywordEach [] X.env)).all (fun x => x.1.isSome)
      && decide ([e].length + ([] : List Keyword).length + (if ([] : List Keyword).isEmpty then 0 else 1) < 30)) = true := by rfl)
    (hline : (apos.endLine == cpos.line) = true := by rfl) (hs : starEach [e] X.env = [(false, eval e X.env)] := by rfl) (hplain : (backTo cpos (starEach [] X.env)).any (·.1) = false := by rfl) :
    SE X (.Call (.Attribute o "append" apos) [e] [] cpos) (aMt i mAppend (aCons te aNil)) := se_mt PySem.F.slot_list_append PySem.F.type_list_append mt_append mt_ap h (sa_cons ha sa_nil hs) hbase hfew hline hs hplain
/-! texts -/
/-- a text -/
def aTxt (ta : AE) : AE := fun env Q => ta env fun x e1 => (match x with | .d (.str _) => Q x e1 | _ => False)
theorem se_join (ho : SE X o ta) (he : SE X e te) (hs : starEach [e] X.env = [(false, eval e X.env)] := by rfl) (hbase : attributeBase o "join" X.env (eval o X.env) = eval o X.env := by rfl) (hline : (apos.endLine == pos.line) = true := by rfl) :
    SE X (.Call (.Attribute o "join" apos) [e] [] pos) (a2 oJoin (aTxt ta) te) :=
  peTo (pe_join ho he hs hbase hline) fun σ H Q ⟨A, F, env, R, c, h, k⟩ => ev c h fun x e1 v H1 F1 h1 c1 => by
    split at h1
    · rename_i z
      have dx := c1.dp
      cases dx
      refine ⟨⟨_, rfl⟩, ev c1 h1 fun y e2 u H2 F2 h2 c2 => ?_⟩
      change (match (sfz y).bind strsOf with | some ys => (ys.map (·.length)).sum + ys.length * z.length ≤ 16777216 ∧ R (.d (.str (Txt.join z ys))) e2 | none => False) at h2
      split at h2
      · rename_i ys eys
        obtain ⟨ds, e3, e4⟩ := Option.bind_eq_some_iff.mp eys
        obtain ⟨a, ws, F3, rfl, h, dp, c3⟩ := c2.sfz e3
        have e5 := dts_strs dp e4
        subst e5
        exact ⟨z, a, ys, rfl, rfl, h.imp .of (fun q => q), h2.1, k _ _ _ _ _ h2.2 (c3.pop.push (.str _))⟩
      · exact h2.elim
    · exact h1.elim
theorem strs_news {K : PySem.W.Frag} {H : Hp} : ∀ ss : List Str, Dts K H (ss.map V.str) (ss.map PyData.str) := fun ss => strs_dts ss
theorem se_split (ho : SE X o ta) (he : SE X e te) (hs : starEach [e] X.env = [(false, eval e X.env)] := by rfl) (hbase : attributeBase o "split" X.env (eval o X.env) = eval o X.env := by rfl) (hline : (apos.endLine == pos.line) = true := by rfl) :
    SE X (.Call (.Attribute o "split" apos) [e] [] pos) (a2 oSplit (aTxt ta) te) :=
  peTo (pe_split ho he hs hbase hline) fun σ H Q ⟨A, F, env, R, c, h, k⟩ => ev c h fun x e1 v H1 F1 h1 c1 => by
    split at h1
    · rename_i z
      have dx := c1.dp
      cases dx
      refine ⟨⟨_, rfl⟩, ev c1 h1 fun y e2 u H2 F2 h2 c2 => ?_⟩
      unfold oSplit at h2
      split at h2
      · rename_i e3 bz e4
        cases e4
        have dy := c2.dp
        cases dy
        refine ⟨_, _, rfl, rfl, h2.1.1, h2.1.2, fun p hp => k _ _ _ _ F2 h2.2 ?_⟩
        have q := At.newL c2.pop.pop (strs_dts (Txt.split z bz)) hp
        rw [List.map_map] at q
        exact q
      · exact h2.elim
    · exact h1.elim
end
end Ow

/-! a star in targets: a, .., *r = a tuple or a list -/
namespace Grd
open PySem L2
section
open PyProof.Rows
variable {prog : Program} {w : World} {A : Around} {E : Value → Shared → Prop} {s : Shared}
theorem star_tup {t : Addr} {vs : List Value} {n : Nat} {Q : List Value → Shared → Prop} (ht : IsTup s.heap t vs.toArray) (hh : A.handled = none) (hn : n ≤ vs.length) (hz : vs.length ≤ sizeLine)
    (h : ∀ (h' : Heap) (tk : Nat), (∀ b o, s.heap.get? b = some o → h'.get? b = some o) → Q (vs.take n ++ [.ref h'.objs.size]) { s with heap := h'.push (seqObj "list" (vs.drop n).toArray 0), toks := tk }) :
    wpAny (model prog w) A (unpackItems (.ref t) (n + 1) (some n)) Q E s := by
  have ne0 : t ≠ s.heap.objs.size := by obtain ⟨o, ho, _⟩ := ht; exact Nat.ne_of_lt (Heap.lt_size ho)
  have sz0 : vs.toArray.size = vs.length := by simp
  unfold unpackItems
  refine wpAny_bind ?_
  unfold notIterableAtAll
  refine wpAny_bind (wpAny_specialOf ht.typeIs slot_tuple_iter.lookup (wpAny_pure ?_))
  rw [if_neg (by decide)]
  refine wpAny_bind (wpAny_holding (iter_tuple ht ?_))
  refine wpAny_bind (wpAny_holding (draw_tuple ne0 n 0 _ _ ⟨_, Heap.get?_push_size _ rfl, rfl, rfl⟩ (ht.push _) (by omega) fun h1 it1 sb1 => ?_))
  have ht1 : IsTup h1 t vs.toArray := (ht.push _).extBut sb1.extBut ne0
  rw [Nat.zero_add] at it1
  have it1' := it1
  obtain ⟨oi, hoi, _⟩ := it1'
  have ht1' := ht1
  obtain ⟨ol, hol, _⟩ := ht1'
  have fl : (vs.take n).length = n := by rw [List.length_take]; omega
  have e0 : (vs.toArray.toList.drop 0).take n = vs.take n := by simp
  rw [e0, if_neg (show ¬ ((vs.take n).length < n) by rw [fl]; omega)]
  refine wpAny_bind (wpAny_holding (PySem.W.kun_collect (s := { s with heap := h1 }) (T := "tuple_iterator") (.inr (.inr (.inr rfl))) (Walks.tuple (A := A.in1) hh s.heap.objs.size t ne0 vs.toArray) (fun j u st => st.1.typeIs) (k := n) (by omega) ⟨it1, ht1⟩ (Heap.lt_size hoi) (Heap.lt_size hol) (fun h2 tk kp => ?_) (by omega)))
  have e1 : vs.toArray.toList.drop n = vs.drop n := by simp
  rw [e1]
  show wpAny _ _ (if (vs.drop n).length < n + 1 - 1 - n then _ else _) _ _ _
  rw [if_neg (by omega)]
  have e2 : (vs.drop n).length - (n + 1 - 1 - n) = (vs.drop n).length := by omega
  show wpAny _ _ (newList ((vs.drop n).take ((vs.drop n).length - (n + 1 - 1 - n))) >>= fun d => pure (vs.take n ++ [d] ++ (vs.drop n).drop ((vs.drop n).length - (n + 1 - 1 - n)))) _ _ _
  rw [e2, List.take_length, List.drop_length]
  refine wpAny_bind (wpAny_newList (wpAny_pure ?_))
  rw [List.append_nil]
  exact h h2 tk fun b o e => kp b o (Nat.ne_of_lt (Heap.lt_size e)) (sb1.extBut b o (Nat.ne_of_lt (Heap.lt_size e)) (Heap.get?_push_of_some _ e))
end
/-- a, .., *r = a tuple: r a new list -/
def gStar (K : PySem.W.Frag) (n : Nat) (t : TGs) : TG := fun v σ H Q => ∃ a xs, v = .ref a ∧ SqT K H a xs ∧ n ≤ xs.length ∧ ∀ p, H p = none → t (xs.take n ++ [.ref p]) σ (upd H p (.lst (xs.drop n))) Q
section
variable {X : Cx}
theorem pgs_star {e : Expr} {p : Pos} {t : TG} (h1 : PG X e t) (hs : (assignEach [.Starred e p] X.env).map (·.2) = [assign e X.env] := by rfl) : PGs X [.Starred e p] (gCons t gNil) := by
  refine ⟨fun pins s σ H vs us Q I r h => ?_⟩
  obtain ⟨v, vr, e1, h⟩ := h
  subst e1
  cases r with
  | cons r rr =>
    rw [hs]
    refine PyProof.Rows.assignInOrder_cons (thn (h1.run pins s σ H _ _ _ I r h) fun _ s1 ⟨σ1, H1, I1, q1⟩ => ?_)
    exact PyProof.Rows.assignInOrder_nil ⟨σ1, H1, I1, q1.2⟩
theorem pg_star {es : List Expr} {k : Nat} {t : TGs} {n : Nat} {pos : Pos} (hc : X.calm = true) (h : PGs X es t) (hn : (assignEach es X.env).length = n + 1 := by rfl) (hst : (assignEach es X.env).findIdx? (·.1) = some n := by rfl) : PG X (.Tuple es k pos) (gStar X.K n t) := by
  refine ⟨fun pins s σ H v u Q I r hw => ?_⟩
  obtain ⟨a, xs, e1, hq, hl, hw⟩ := hw
  subst e1
  cases r
  obtain ⟨its, rv, ht, hz⟩ := I.tuple hq
  rw [PyProof.Rows.assign_Tuple]
  refine wpAny_bind (wpAny_standAt ?_)
  unfold unpack
  rw [hn, hst]
  have ln := rv.length
  refine wpAny_bind (wpAny_holding (star_tup ht (I.ok.hd hc) (by omega) (by omega) fun h' tk kp => ?_))
  have I1 : Inv X pins σ H { s with heap := h', toks := tk } := I.kept (t' := tk) kp
  have rd : Vals (xs.drop n) (its.drop n) := rv.drop n
  have hf : H h'.objs.size = none := I1.hok.fresh (Nat.le_refl _)
  have I2 := I1.laid (t' := tk) (h' := h'.push (PyProof.Rows.seqObj "list" (its.drop n).toArray 0)) (a := h'.objs.size) (o := .lst (xs.drop n)) (fun b u e => Heap.get?_push_of_some _ e) (Nat.le_refl _) ⟨by rw [List.length_drop]; omega, its.drop n, 0, rd, Heap.get?_push_size _ rfl⟩
  exact h.run pins _ σ _ _ _ Q I2 ((rv.take n).append (.cons (a := V.ref h'.objs.size) (b := Value.ref h'.objs.size) rfl .nil)) (hw _ hf)
end
end Grd

/-! targets of several names, of a list or a tuple -/
namespace Grd
open PySem L2
section
open PyProof.Rows
variable {prog : Program} {w : World} {A : Around} {E : Value → Shared → Prop} {s : Shared}
theorem star_list {t : Addr} {vs : List Value} {n : Nat} {Q : List Value → Shared → Prop} (ht : s.heap.IsList t vs.toArray) (hh : A.handled = none) (hn : n ≤ vs.length) (hz : vs.length ≤ sizeLine)
    (h : ∀ (h' : Heap) (tk : Nat), (∀ b o, s.heap.get? b = some o → h'.get? b = some o) → Q (vs.take n ++ [.ref h'.objs.size]) { s with heap := h'.push (seqObj "list" (vs.drop n).toArray 0), toks := tk }) :
    wpAny (model prog w) A (unpackItems (.ref t) (n + 1) (some n)) Q E s := by
  have ne0 : t ≠ s.heap.objs.size := by obtain ⟨o, ho, _⟩ := ht; exact Nat.ne_of_lt (Heap.lt_size ho)
  have sz0 : vs.toArray.size = vs.length := by simp
  unfold unpackItems
  refine wpAny_bind ?_
  unfold notIterableAtAll
  refine wpAny_bind (wpAny_specialOf ht.typeIs slot_list_iter.lookup (wpAny_pure ?_))
  rw [if_neg (by decide)]
  refine wpAny_bind (wpAny_holding (wpAny_pyIter_list ht ?_))
  refine wpAny_bind (wpAny_holding (PySem.W.kun_draw ne0 n 0 _ _ ⟨_, Heap.get?_push_size _ rfl, rfl, rfl⟩ (ht.push _) (by omega) fun h1 it1 sb1 => ?_))
  have ht1 : h1.IsList t vs.toArray := (ht.push _).extBut sb1.extBut ne0
  rw [Nat.zero_add] at it1
  have it1' := it1
  obtain ⟨oi, hoi, _⟩ := it1'
  have ht1' := ht1
  obtain ⟨ol, hol, _⟩ := ht1'
  have fl : (vs.take n).length = n := by rw [List.length_take]; omega
  have e0 : (vs.toArray.toList.drop 0).take n = vs.take n := by simp
  rw [e0, if_neg (show ¬ ((vs.take n).length < n) by rw [fl]; omega)]
  refine wpAny_bind (wpAny_holding (PySem.W.kun_collect (s := { s with heap := h1 }) (T := "list_iterator") (.inr (.inr (.inl rfl))) (Walks.list (A := A.in1) hh s.heap.objs.size t ne0 vs.toArray) (fun j u st => st.1.typeIs) (k := n) (by omega) ⟨it1, ht1⟩ (Heap.lt_size hoi) (Heap.lt_size hol) (fun h2 tk kp => ?_) (by omega)))
  have e1 : vs.toArray.toList.drop n = vs.drop n := by simp
  rw [e1]
  show wpAny _ _ (if (vs.drop n).length < n + 1 - 1 - n then _ else _) _ _ _
  rw [if_neg (by omega)]
  have e2 : (vs.drop n).length - (n + 1 - 1 - n) = (vs.drop n).length := by omega
  show wpAny _ _ (newList ((vs.drop n).take ((vs.drop n).length - (n + 1 - 1 - n))) >>= fun d => pure (vs.take n ++ [d] ++ (vs.drop n).drop ((vs.drop n).length - (n + 1 - 1 - n)))) _ _ _
  rw [e2, List.take_length, List.drop_length]
  refine wpAny_bind (wpAny_newList (wpAny_pure ?_))
  rw [List.append_nil]
  exact h h2 tk fun b o e => kp b o (Nat.ne_of_lt (Heap.lt_size e)) (sb1.extBut b o (Nat.ne_of_lt (Heap.lt_size e)) (Heap.get?_push_of_some _ e))
end
/-- a, .., *r = a tuple or a list: r a new list -/
def gStarA (K : PySem.W.Frag) (n : Nat) (t : TGs) : TG := fun v σ H Q => ∃ a xs, v = .ref a ∧ (SqL K H a xs ∨ SqT K H a xs) ∧ n ≤ xs.length ∧ ∀ p, H p = none → t (xs.take n ++ [.ref p]) σ (upd H p (.lst (xs.drop n))) Q
def gTupA (K : PySem.W.Frag) (n : Nat) (t : TGs) : TG := fun v σ H Q => ∃ a xs, v = .ref a ∧ (SqL K H a xs ∨ SqT K H a xs) ∧ xs.length = n ∧ t xs σ H Q
section
variable {X : Cx}
theorem pg_starA {es : List Expr} {k : Nat} {t : TGs} {n : Nat} {pos : Pos} (hc : X.calm = true) (h : PGs X es t) (hn : (assignEach es X.env).length = n + 1 := by rfl) (hst : (assignEach es X.env).findIdx? (·.1) = some n := by rfl) : PG X (.Tuple es k pos) (gStarA X.K n t) := by
  refine ⟨fun pins s σ H v u Q I r hw => ?_⟩
  obtain ⟨a, xs, e1, hq, hl, hw⟩ := hw
  subst e1
  cases r
  rw [PyProof.Rows.assign_Tuple]
  refine wpAny_bind (wpAny_standAt ?_)
  unfold unpack
  rw [hn, hst]
  have fin : ∀ {its : List Value}, Vals xs its → xs.length ≤ sizeLine → ∀ (h' : Heap) (tk : Nat), (∀ b o, s.heap.get? b = some o → h'.get? b = some o) →
      wpAny (model X.prog X.w) X.A (assignInOrder ((assignEach es X.env).map (·.2)) (its.take n ++ [.ref h'.objs.size])) (fun _ s' => ∃ σ' H', Inv X pins σ' H' s' ∧ Q σ' H') X.xe { s with heap := h'.push (PyProof.Rows.seqObj "list" (its.drop n).toArray 0), toks := tk } := by
    intro its rv hz h' tk kp
    have I1 : Inv X pins σ H { s with heap := h', toks := tk } := I.kept (t' := tk) kp
    have rd : Vals (xs.drop n) (its.drop n) := rv.drop n
    have hf : H h'.objs.size = none := I1.hok.fresh (Nat.le_refl _)
    have I2 := I1.laid (t' := tk) (h' := h'.push (PyProof.Rows.seqObj "list" (its.drop n).toArray 0)) (a := h'.objs.size) (o := .lst (xs.drop n)) (fun b u e => Heap.get?_push_of_some _ e) (Nat.le_refl _) ⟨by rw [List.length_drop]; omega, its.drop n, 0, rd, Heap.get?_push_size _ rfl⟩
    exact h.run pins _ σ _ _ _ Q I2 ((rv.take n).append (.cons (a := V.ref h'.objs.size) (b := Value.ref h'.objs.size) rfl .nil)) (hw _ hf)
  rcases hq with hq | hq
  · obtain ⟨its, rv, ht, hz⟩ := I.list hq
    have ln := rv.length
    exact wpAny_bind (wpAny_holding (star_list ht.isList (I.ok.hd hc) (by omega) (by omega) fun h' tk kp => fin rv hz h' tk kp))
  · obtain ⟨its, rv, ht, hz⟩ := I.tuple hq
    have ln := rv.length
    exact wpAny_bind (wpAny_holding (star_tup ht (I.ok.hd hc) (by omega) (by omega) fun h' tk kp => fin rv hz h' tk kp))
theorem pg_tupA {es : List Expr} {k : Nat} {t : TGs} {n : Nat} {pos : Pos} (hc : X.calm = true) (h : PGs X es t)
    (hn : (assignEach es X.env).length = n := by rfl) (hst : (assignEach es X.env).findIdx? (·.1) = none := by rfl) : PG X (.Tuple es k pos) (gTupA X.K n t) := by
  refine ⟨fun pins s σ H v u Q I r hw => ?_⟩
  obtain ⟨a, xs, e1, hq, hl, hw⟩ := hw
  rcases hq with hq | hq
  · subst e1
    cases r
    obtain ⟨its, rv, ht, hz⟩ := I.list hq
    rw [PyProof.Rows.assign_Tuple]
    refine wpAny_bind (wpAny_standAt ?_)
    unfold unpack
    rw [hn, hst]
    have ln : n = its.toArray.size := by rw [List.size_toArray, ← rv.length, hl]
    rw [ln]
    refine wpAny_bind (wpAny_holding (PySem.W.kun_itemsOf (I.ok.hd hc) ht.isList fun h' hx => ?_))
    have I1 : Inv X pins σ H { s with heap := h' } := I.kept (t' := s.toks) fun b o e => hx b o (Nat.ne_of_lt (Heap.lt_size e)) e
    exact h.run pins _ σ H xs _ Q I1 (by simpa using rv) hw
  · exact (pg_tup hc h hn hst).run pins s σ H v u Q I r ⟨a, xs, e1, hq, hl, hw⟩
end
end Grd

/-! Ow: targets, statements. -/
namespace Ow
open PySem L2 Grd PyProof.Rows
open Evl (Ex ex_t ex_l ex_rd)
/-- a target: a name, a tuple of targets -/
inductive Tg where
  | n (i : Nat)
  | t (ts : List Tg)
  | st (ts : List Tg) (i : Nat)
mutual
def tgSet : Tg → OV → En → Option En
  | .n i, x, e => if i < e.length then some (e.set i (some x)) else none
  | .t ts, x, e => match sel x with
    | some xs => tgSets ts xs e
    | none => none
  | .st ts i, x, e => match sel x with
    | some xs => if ts.length ≤ xs.length then (tgSets ts (xs.take ts.length) e).bind fun e1 => if i < e1.length then some (e1.set i (some (.n .lst (xs.drop ts.length)))) else none else none
    | none => none
def tgSets : List Tg → List OV → En → Option En
  | [], [], e => some e
  | t :: ts, x :: xs, e => (tgSet t x e).bind fun e1 => tgSets ts xs e1
  | [], _ :: _, _ => none
  | _ :: _, [], _ => none
end
mutual
def Tg.slots : Tg → List Nat
  | .n i => [i]
  | .t ts => slotss ts
  | .st ts i => slotss ts ++ [i]
def slotss : List Tg → List Nat
  | [] => []
  | t :: ts => t.slots ++ slotss ts
end
@[simp] theorem tgSet_n (i : Nat) (x : OV) (e : En) : tgSet (.n i) x e = if i < e.length then some (e.set i (some x)) else none := by simp only [tgSet]
@[simp] theorem tgSet_t (ts : List Tg) (x : OV) (e : En) : tgSet (.t ts) x e = match sel x with | some xs => tgSets ts xs e | none => none := by simp only [tgSet]
@[simp] theorem tgSet_st (ts : List Tg) (i : Nat) (x : OV) (e : En) : tgSet (.st ts i) x e = match sel x with
    | some xs => if ts.length ≤ xs.length then (tgSets ts (xs.take ts.length) e).bind fun e1 => if i < e1.length then some (e1.set i (some (.n .lst (xs.drop ts.length)))) else none else none
    | none => none := by simp only [tgSet]
@[simp] theorem tgSets_nil (e : En) : tgSets [] [] e = some e := by simp only [tgSets]
@[simp] theorem tgSets_cons (t : Tg) (ts : List Tg) (x : OV) (xs : List OV) (e : En) : tgSets (t :: ts) (x :: xs) e = (tgSet t x e).bind fun e1 => tgSets ts xs e1 := by simp only [tgSets]
/-- as σ but for some names -/
structure But (is : List Nat) (σ σ' : L2.St) : Prop where
  len : σ'.length = σ.length
  same : ∀ j, j ∉ is → σ'[j]? = σ[j]?
theorem But.refl (is : List Nat) (σ : L2.St) : But is σ σ := ⟨rfl, fun _ _ => rfl⟩
theorem But.trans {is js : List Nat} {σ σ1 σ2 : L2.St} (a : But is σ σ1) (b : But js σ1 σ2) : But (is ++ js) σ σ2 :=
  ⟨b.len.trans a.len, fun j hj => (b.same j fun z => hj (List.mem_append_right _ z)).trans (a.same j fun z => hj (List.mem_append_left _ z))⟩
theorem But.mono {is js : List Nat} {σ σ1 : L2.St} (a : But is σ σ1) (h : ∀ i ∈ is, i ∈ js) : But js σ σ1 := ⟨a.len, fun j hj => a.same j fun z => hj (h j z)⟩
theorem But.set (σ : L2.St) (i : Nat) (o : Option V) : But [i] σ (σ.set i o) := ⟨by simp, fun j hj => by rw [List.getElem?_set, if_neg (fun e => hj (by simp [e]))]⟩
structure Gt (K : PySem.W.Frag) (g : TG) (tg : Tg) : Prop where
  run : ∀ {A : Addr → Prop} {F0 F : FS} {H0 H : Hp} {σ : L2.St} {env env' : En} {v : V} {x : OV} {vs : List V} {xs : List OV} {Q : L2.St → Hp → Prop},
    At K A F0 H0 H F (v :: vs) (x :: xs) σ env → tgSet tg x env = some env' → (∀ σ' H' F', But tg.slots σ σ' → At K A F0 H0 H' F' vs xs σ' env' → Q σ' H') → g v σ H Q
structure Gts (K : PySem.W.Frag) (g : TGs) (ts : List Tg) : Prop where
  run : ∀ {A : Addr → Prop} {F0 F : FS} {H0 H : Hp} {σ : L2.St} {env env' : En} {us : List V} {ys : List OV} {vs : List V} {xs : List OV} {Q : L2.St → Hp → Prop},
    At K A F0 H0 H F (us ++ vs) (ys ++ xs) σ env → ys.length = us.length → tgSets ts ys env = some env' → (∀ σ' H' F', But (slotss ts) σ σ' → At K A F0 H0 H' F' vs xs σ' env' → Q σ' H') → g us σ H Q
theorem gt_name {K : PySem.W.Frag} (i : Nat) : Gt K (gName i) (.n i) := ⟨fun c h k => by
  rw [tgSet_n] at h
  split at h
  · cases h
    exact k _ _ _ (by simpa [Tg.slots] using But.set _ _ _) (c.store ‹_›)
  · cases h⟩
theorem gts_nil {K : PySem.W.Frag} : Gts K gNil [] := ⟨fun {A F0 F H0 H σ env env' us ys vs xs Q} c l h k => by
  cases ys with
  | nil =>
    rw [tgSets_nil] at h
    cases h
    cases us with
    | nil => exact ⟨rfl, k _ _ _ (But.refl _ _) c⟩
    | cons _ _ => simp at l
  | cons _ _ => simp only [tgSets] at h; cases h⟩
theorem gts_cons {K : PySem.W.Frag} {g : TG} {gs : TGs} {t : Tg} {ts : List Tg} (h1 : Gt K g t) (h2 : Gts K gs ts) : Gts K (gCons g gs) (t :: ts) := ⟨fun {A F0 F H0 H σ env env' us ys vs xs Q} c l h k => by
  cases ys with
  | nil => simp only [tgSets] at h; cases h
  | cons y ys =>
    cases us with
    | nil => simp at l
    | cons u us =>
      rw [tgSets_cons] at h
      obtain ⟨e1, h3, h4⟩ := Option.bind_eq_some_iff.mp h
      exact ⟨u, us, rfl, h1.run (vs := us ++ vs) (xs := ys ++ xs) c h3 fun σ1 H1 F1 b1 c1 => h2.run c1 (by simpa using l) h4 fun σ2 H2 F2 b2 c2 => k _ _ _ (by simpa [slotss] using b1.trans b2) c2⟩⟩
theorem tgSets_len : ∀ {ts : List Tg} {xs : List OV} {e e' : En}, tgSets ts xs e = some e' → xs.length = ts.length
  | [], [], _, _, _ => rfl
  | t :: ts, x :: xs, e, e', h => by
    rw [tgSets_cons] at h
    obtain ⟨e1, h3, h4⟩ := Option.bind_eq_some_iff.mp h
    simp [tgSets_len h4]
  | [], _ :: _, _, _, h => by simp only [tgSets] at h; cases h
  | _ :: _, [], _, _, h => by simp only [tgSets] at h; cases h
theorem gt_tup {K : PySem.W.Frag} {n : Nat} {gs : TGs} {ts : List Tg} (h : Gts K gs ts) (hn : n = ts.length := by rfl) : Gt K (gTupA K n gs) (.t ts) := ⟨fun c e k => by
  rw [tgSet_t] at e
  split at e
  · rename_i ys ey
    obtain ⟨a, ws, rfl, hs, l, c1⟩ := c.sel ey
    refine ⟨a, ws, rfl, hs.imp .of id, by rw [hn, ← l]; exact tgSets_len e, h.run c1 l e fun σ' H' F' b c2 => k σ' H' F' (by simpa [Tg.slots] using b) c2⟩
  · cases e⟩
theorem tgSets_snoc (i : Nat) (y : OV) : ∀ {ts : List Tg} {ys : List OV} {e : En}, ys.length = ts.length → tgSets (ts ++ [.n i]) (ys ++ [y]) e = (tgSets ts ys e).bind fun e1 => if i < e1.length then some (e1.set i (some y)) else none
  | [], [], e, _ => by
    simp only [List.nil_append, tgSets_cons, tgSets_nil, tgSet_n, Option.bind_some]
    split <;> rfl
  | t :: ts, y' :: ys, e, l => by
    simp only [List.cons_append, tgSets_cons]
    cases tgSet t y' e with
    | none => rfl
    | some e1 => exact tgSets_snoc i y (by simpa using l)
  | [], _ :: _, _, l => by simp at l
  | _ :: _, [], _, l => by simp at l
theorem slotss_snoc (i : Nat) : ∀ ts : List Tg, slotss (ts ++ [.n i]) = slotss ts ++ [i]
  | [] => by simp [slotss, Tg.slots]
  | t :: ts => by simp [slotss, slotss_snoc i ts]
theorem gt_star {K : PySem.W.Frag} {n i : Nat} {gs : TGs} {ts : List Tg} (h : Gts K gs (ts ++ [.n i])) (hn : n = ts.length := by rfl) : Gt K (gStarA K n gs) (.st ts i) := ⟨fun {A F0 F H0 H σ env env' v x vs xs Q} c e k => by
  rw [tgSet_st] at e
  split at e
  · rename_i ys ey
    split at e
    · rename_i le
      obtain ⟨a, ws, rfl, hs, l, c1⟩ := c.sel ey
      refine ⟨a, ws, rfl, hs.imp .of id, by rw [hn, ← l]; exact le, fun p hp => ?_⟩
      have lt : (ys.take n).length = (ws.take n).length := by simp [l]
      have ld : (ys.drop n).length = (ws.drop n).length := by simp [l]
      have c2 : At K A F0 H0 H F (ws.take n ++ (ws.drop n ++ vs)) (ys.take n ++ (ys.drop n ++ xs)) σ env := by
        rw [← List.append_assoc, ← List.append_assoc, List.take_append_drop, List.take_append_drop]
        exact c1
      have c3 := At.app_comm lt c2
      rw [List.append_assoc, List.append_assoc] at c3
      have c4 := At.make (s := .lst) c3 ld hp ⟨upd_same, rfl⟩
      have lx : xs.length = vs.length := by have := c.cf.len; simp at this; omega
      have c5 := At.app_comm (vs1 := .ref p :: vs) (xs1 := .n .lst (ys.drop n) :: xs) (vs2 := ws.take n) (xs2 := ys.take n) (by simp [lx]) c4
      have c6 : At K A F0 H0 (upd H p (.lst (ws.drop n))) F ((ws.take n ++ [.ref p]) ++ vs) ((ys.take n ++ [.n .lst (ys.drop n)]) ++ xs) σ env := by
        rw [List.append_assoc, List.append_assoc]
        exact c5
      refine h.run c6 (by simp [l]) ?_ fun σ' H' F' b c7 => k σ' H' F' (by simpa [Tg.slots, slotss_snoc] using b) c7
      rw [tgSets_snoc i _ (by rw [List.length_take, hn]; omega), hn]
      exact e
    · cases e
  · cases e⟩

/-! ### statements -/
structure AD where
  nx : En → Prop
  rt : OV → En → Prop
  bk : En → Prop
  ct : En → Prop
abbrev AS := AD → En → Prop
/-- the parameters that keep what was handed in -/
def PinOk (pn : List (Nat × V)) (σ : L2.St) : Prop := ∀ p ∈ pn, σ[p.1]? = some (some p.2)
theorem PinOk.but {pn : List (Nat × V)} {σ σ' : L2.St} {is : List Nat} (h : PinOk pn σ) (b : But is σ σ') (d : ∀ p ∈ pn, p.1 ∉ is) : PinOk pn σ' := fun p hp => (b.same _ (d p hp)).trans (h p hp)
structure Ends' (K : PySem.W.Frag) (pn : List (Nat × V)) (A : Addr → Prop) (F : FS) (H0 : Hp) (D : Ends) (D' : AD) : Prop where
  nx : ∀ env' σ' H' F', D'.nx env' → PinOk pn σ' → At K A F H0 H' F' [] [] σ' env' → D.nx σ' H'
  rt : ∀ x env' v σ' H' F', D'.rt x env' → PinOk pn σ' → At K A F H0 H' F' [v] [x] σ' env' → D.rt v H'
  bk : ∀ env' σ' H' F', D'.bk env' → PinOk pn σ' → At K A F H0 H' F' [] [] σ' env' → D.bk σ' H'
  ct : ∀ env' σ' H' F', D'.ct env' → PinOk pn σ' → At K A F H0 H' F' [] [] σ' env' → D.ct σ' H'
def LS (K : PySem.W.Frag) (pn : List (Nat × V)) (t : AS) : TS := fun D σ H => ∃ (A : Addr → Prop) (F : FS) (env : En) (D' : AD),
  PinOk pn σ ∧ At K A F H H F [] [] σ env ∧ t D' env ∧ Ends' K pn A F H D D'
def SS (X : Cx) (pn : List (Nat × V)) (st : Stmt) (t : AS) : Prop := PS X st (LS X.K pn t)
def SSs (X : Cx) (pn : List (Nat × V)) (st : List Stmt) (t : AS) : Prop := PSs X st (LS X.K pn t)
theorem pssTo {X : Cx} {e : List Stmt} {t t' : TS} (h : PSs X e t) (i : ∀ D σ H, t' D σ H → t D σ H) : PSs X e t' := ⟨fun pins s σ H D I q => h.run pins s σ H D I (i D σ H q)⟩
section
variable {K : PySem.W.Frag} {pn : List (Nat × V)} {A : Addr → Prop} {F0 F : FS} {H0 H : Hp} {σ : L2.St} {env : En} {D : Ends} {D' : AD}
/-- a statement run from where one stands -/
theorem sv {t : AS} (p : PinOk pn σ) (c : At K A F0 H0 H F [] [] σ env) (h : t D' env) (e : Ends' K pn A F0 H0 D D') : LS K pn t D σ H :=
  ⟨nxt A H0, F, env, D', p, ⟨.refl, c.cf.mono fun _ z => .inl z⟩, h,
    ⟨fun env' σ' H' F' a b z => e.nx _ _ _ _ a b (c.on z.st z.cf), fun x env' v σ' H' F' a b z => e.rt _ _ _ _ _ _ a b (c.on z.st z.cf),
     fun env' σ' H' F' a b z => e.bk _ _ _ _ a b (c.on z.st z.cf), fun env' σ' H' F' a b z => e.ct _ _ _ _ a b (c.on z.st z.cf)⟩⟩
end
def aSeq (t u : AS) : AS := fun D env => t { D with nx := u D } env
def aPass : AS := fun D env => D.nx env
def aDrop (t : AE) : AS := fun D env => t env fun _ e => D.nx e
def aRet (t : AE) : AS := fun D env => t env D.rt
def aRetN : AS := fun D env => D.rt (.d .none) env
def aIfS (c : AT) (t u : AS) : AS := fun D env => c env fun b e => if b = true then t D e else u D e
def aAsg (t : AE) (tg : Tg) : AS := fun D env => t env fun x e => match tgSet tg x e with
  | some e1 => D.nx e1
  | none => False
def aBrk : AS := fun D env => D.bk env
def aCnt : AS := fun D env => D.ct env
/-- xs[i] = e, xs a name -/
def aPut (i : Nat) (tv ti : AE) : AS := fun D env => tv env fun x e1 => (match e1[i]? with | some (some _) => True | _ => False) ∧ ti e1 fun y e2 => match y with
  | .d (.int k) => match e2[i]? with
    | some (some (.n .lst xs)) => match ixN xs.length k with
      | some j => D.nx (e2.set i (some (.n .lst (xs.set j x))))
      | none => False
    | _ => False
  | _ => False
section
variable {X : Cx} {pn : List (Nat × V)} {st : Stmt} {rest ss ss2 : List Stmt} {t u : AS} {e o i' : Expr} {te ti : AE} {tc : AT} {c : Expr} {pos p2 : Pos}
theorem ss_nil : SSs X pn [] aPass := pssTo pss_nil fun D σ H ⟨A, F, env, D', p, c, h, e⟩ => e.nx _ _ _ _ h p c
theorem ss_cons (h1 : SS X pn st t) (h2 : SSs X pn rest u) : SSs X pn (st :: rest) (aSeq t u) := pssTo (pss_cons h1 h2) fun D σ H ⟨A, F, env, D', p, c, h, e⟩ =>
  ⟨A, F, env, { D' with nx := u D' }, p, c, h, ⟨fun env' σ' H' F' a b z => sv b z a e, e.rt, e.bk, e.ct⟩⟩
theorem ss_one (h1 : SS X pn st t) : SSs X pn [st] t := pss_one h1
theorem ss_expr (he : SE X e te) (hs : swapsWith e none pos.line X.env = pure false := by rfl) : SS X pn (.Expr e pos) (aDrop te) := psTo (ps_expr he hs) fun D σ H ⟨A, F, env, D', p, c, h, ed⟩ =>
  ev c h fun x e1 v H1 F1 h1 c1 => ed.nx _ _ _ _ h1 p c1.pop
theorem ss_ret (he : SE X e te) : SS X pn (.Return (some e) pos) (aRet te) := psTo (ps_ret he) fun D σ H ⟨A, F, env, D', p, c, h, ed⟩ =>
  ev c h fun x e1 v H1 F1 h1 c1 => ed.rt _ _ _ _ _ _ h1 p c1
theorem ss_retN : SS X pn (.Return none pos) aRetN := psTo ps_retN fun D σ H ⟨A, F, env, D', p, c, h, ed⟩ => ed.rt _ _ _ _ _ _ h p (c.push .non)
theorem ss_if (hc : ST X c tc) (ha : SSs X pn ss t) (hb : SSs X pn ss2 u) : SS X pn (.If c ss ss2 pos) (aIfS tc t u) := psTo (ps_if hc ha hb) fun D σ H ⟨A, F, env, D', p, c, h, ed⟩ =>
  evt c h fun b e1 H1 F1 h1 c1 => by
    split
    · rename_i z; rw [if_pos z] at h1; exact sv p c1 h1 ed
    · rename_i z; rw [if_neg z] at h1; exact sv p c1 h1 ed
theorem ss_brk : SS X pn (.Break pos) aBrk := psTo ps_break fun D σ H ⟨A, F, env, D', p, c, h, ed⟩ => ed.bk _ _ _ _ h p c
theorem ss_cnt : SS X pn (.Continue pos) aCnt := psTo ps_continue fun D σ H ⟨A, F, env, D', p, c, h, ed⟩ => ed.ct _ _ _ _ h p c
theorem le_asg {K : PySem.W.Frag} {g : TG} {tg : Tg} (hG : Gt K g tg) (hp : ∀ p ∈ pn, p.1 ∉ tg.slots) : ∀ D σ H, LS K pn (aAsg te tg) D σ H → tAsg (LE K te) g D σ H := fun D σ H ⟨A, F, env, D', p, c, h, ed⟩ =>
  ev c h fun x e1 v H1 F1 h1 c1 => by
    split at h1
    · rename_i e2 q
      exact hG.run c1 q fun σ' H' F' b c2 => ed.nx _ _ _ _ h1 (p.but b hp) c2
    · exact h1.elim
theorem ss_set {i : Nat} {x : Str} {pos' : Pos} (hN : X.N.Nodup) (hi : X.N[i]? = some x) (hx : Loc X.env.scope x) (he : SE X e te) (hp : ∀ p ∈ pn, p.1 ≠ i) (hs : swapsWith e (some (.Name x pos')) pos.line X.env = pure false := by rfl)
    (hf : X.fn x = true ∨ X.env.scope.names.lookup x = some .local := by first | exact .inl rfl | exact .inr rfl | assumption) : SS X pn (.Assign [.Name x pos'] e pos) (aAsg te (.n i)) :=
  psTo (ps_set hN hi hx he hs hf) (le_asg (gt_name i) fun p hp' => by simpa [Tg.slots] using hp p hp')
theorem ss_asg {tgE : Expr} {g : TG} {tg : Tg} (he : SE X e te) (hg : PG X tgE g) (hG : Gt X.K g tg) (hp : ∀ p ∈ pn, p.1 ∉ tg.slots) (hs : swapsWithSole [tgE] e pos.line X.env = pure false := by rfl) (hw : swappedStores [tgE] e X.env = pure none := by rfl)
    (h1 : (assignEach [tgE] X.env).map (·.2) = [assign tgE X.env] := by rfl) : SS X pn (.Assign [tgE] e pos) (aAsg te tg) :=
  psTo (ps_asg he hg hs hw h1) (le_asg hG hp)
theorem ss_put {i : Nat} (he : SE X e te) (ho : PE X o (tVar i)) (hi : SE X i' ti) (hs : swapsWithSole [.Subscript o i' p2] e pos.line X.env = pure false := by rfl) (hw : swappedStores [.Subscript o i' p2] e X.env = pure none := by rfl)
    (h1 : (assignEach [.Subscript o i' p2] X.env).map (·.2) = [assign (.Subscript o i' p2) X.env] := by rfl)
    (ha : ∀ v, assign (.Subscript o i' p2) X.env v = (do
      let ov ← holding [v] (eval o X.env)
      let iv ← holding [v, ov] (eval i' X.env)
      standAt p2
      holding [v, ov, iv] (setItem ov iv v)
      release [v, ov, iv] []) := by intro _; rfl) : SS X pn (.Assign [.Subscript o i' p2] e pos) (aPut i te ti) :=
  psTo (ps_asg he (pg_sub ho hi set_list ha) hs hw h1) fun D σ H ⟨A, F, env, D', p, c, h, ed⟩ => ev c h fun x e1 v H1 F1 h1 c1 => by
    obtain ⟨h0, h1⟩ := h1
    obtain ⟨w, hw⟩ := getSome c1 h0
    refine ⟨w, hw, ev c1 h1 fun y e2 u H2 F2 h2 c2 => ?_⟩
    split at h2
    · rename_i kk
      have du := c2.dp
      cases du
      split at h2
      · rename_i xs ex
        split at h2
        · rename_i j ej
          obtain ⟨w', hw', c3⟩ := c2.pop.take ex
          rw [hw] at hw'
          cases hw'
          obtain ⟨a, ws0, ex0, e0, _⟩ := c3.opn
          subst e0
          obtain ⟨ws, ex', ⟨hH, rfl⟩, lw, _, mk⟩ := c3.mut
          refine ⟨a, ws, kk, j, rfl, rfl, hH, by rw [← lw]; exact ej, ed.nx _ _ _ F2 h2 p ?_⟩
          have hj : j < xs.length := (ixN_seq ej).2.1
          have hz : (ws.zip xs)[j]? = some (ws[j]'(by omega), xs[j]) := by
            rw [List.getElem?_zip_eq_some]
            exact ⟨List.getElem?_eq_getElem _, List.getElem?_eq_getElem _⟩
          have e1 : fsts ((ws.zip xs).set j (v, x)) = ws.set j v := by
            rw [show fsts ((ws.zip xs).set j (v, x)) = (fsts (ws.zip xs)).set j v from List.map_set, zip_v lw]
          have e2 : snds ((ws.zip xs).set j (v, x)) = xs.set j x := by
            rw [show snds ((ws.zip xs).set j (v, x)) = (snds (ws.zip xs)).set j x from List.map_set, zip_x lw]
          have hjz : j < (ws.zip xs).length := by simp [lw] at hj ⊢; omega
          have q := mk .lst (.lst (ws.set j v)) ((ws.zip xs).set j (v, x)) [] [(ws[j]'(by omega), xs[j])] ⟨by rw [upd_same, e1], rfl⟩ (by
            simp only [List.append_nil, List.zip_cons_cons, List.zip_nil_right]
            have p1 := perm_at (l := (ws.zip xs).set j (v, x)) (j := j) (a := (v, x)) (by rw [List.getElem?_set_self hjz])
            have p2 := perm_at hz
            rw [List.eraseIdx_set_eq] at p1
            refine (List.Perm.append_right _ p1.symm).trans ?_
            refine List.Perm.trans ?_ (List.Perm.append_right _ p2)
            simp only [List.cons_append]
            refine (List.Perm.cons _ List.perm_append_comm).trans ?_
            simp only [List.cons_append, List.nil_append]
            refine (List.Perm.swap _ _ _).trans ?_
            exact List.Perm.cons _ (List.perm_append_comm (l₁ := [(v, x)])))
          rw [e2] at q
          have c4 := q.put hw
          rw [set_set'] at c4
          exact c4
        · exact h2.elim
      · exact h2.elim
    · exact h2.elim
end
end Ow

/-! Ow: what is walked, loops, comprehensions. -/
namespace Ow
open PySem L2 Grd PyProof.Rows
open Evl (Ex ex_t ex_l ex_rd)
abbrev AI := En → (List PyData → En → Prop) → Prop
structure Iter (K : PySem.W.Frag) (H : Hp) (F : FS) (J : It) (ds : List PyData) : Prop where
  run : ∀ {A : Addr → Prop} {F0 F2 : FS} {H0 H2 : Hp} {vs : List V} {xs : List OV} {σ : L2.St} {env : En}, Ex (rs H F) (rs H2 F2) → At K A F0 H0 H2 F2 vs xs σ env → ∀ i,
    (∀ d, ds[i]? = some d → J.go i H2 ∧ ∀ x H3, J.yld i H2 x H3 → ∃ F3, At K A F0 H0 H3 F3 (x :: vs) (.d d :: xs) σ env) ∧ (i = ds.length → J.stop i H2)
def LI (K : PySem.W.Frag) (t : AI) : TI := fun σ H R => ∃ (A : Addr → Prop) (F : FS) (env : En) (R' : List PyData → En → Prop),
  At K A F H H F [] [] σ env ∧ t env R' ∧ ∀ ds env' J H' F', R' ds env' → At K A F H H' F' [] [] σ env' → Iter K H' F' J ds → R J H'
def SI (X : Cx) (tg iter : Expr) (t : AI) : Prop := PI X tg iter (LI X.K t)
theorem piTo {X : Cx} {tg e : Expr} {t t' : TI} (h : PI X tg e t) (i : ∀ σ H R, t' σ H R → t σ H R) : PI X tg e t' := ⟨fun pins s σ H R I q => h.run pins s σ H R I (i σ H R q)⟩
/-- a text's signs -/
def chD (z : Str) : List PyData := z.cps.toList.map fun c => .str ⟨#[c]⟩
def sit : PyData → Option (List PyData)
  | .list ds => some ds
  | .tuple ds => some ds
  | .str z => some (chD z)
  | _ => none
def aOver (t : AE) : AI := fun env Q => t env fun x e => match (frz x).bind sit with
  | some ds => Q ds e
  | none => False
def aRng (t : AE) : AI := fun env Q => t env fun x e => match x with
  | .d (.int j) => (-(2 ^ 62) ≤ j ∧ j < 2 ^ 62) ∧ Q ((List.range j.toNat).map fun (k : Nat) => .int k) e
  | _ => False
def forW (tg : Tg) (tb : AS) (D : AD) : List PyData → En → Prop
  | [], e => D.nx e
  | d :: ds, e => match tgSet tg (.d d) e with
    | some e1 => tb { D with nx := forW tg tb D ds, ct := forW tg tb D ds, bk := D.nx } e1
    | none => False
def aFor (it : AI) (tg : Tg) (tb : AS) : AS := fun D env => it env fun ds e => forW tg tb D ds e
def whW (c : AT) (tb : AS) (D : AD) : Nat → En → Prop
  | 0, _ => False
  | n + 1, e => c e fun b e1 => if b = true then tb { D with nx := whW c tb D n, ct := whW c tb D n, bk := D.nx } e1 else D.nx e1
def aWhile (c : AT) (tb : AS) : AS := fun D env => ∃ n, whW c tb D n env
def wipeE (e : En) : List Nat → En
  | [] => e
  | v :: vs => (wipeE e vs).set v none
def lcW (tg : Tg) (tt : AT) (te : AE) (vs : List Nat) (Q : OV → En → Prop) : List PyData → List OV → En → Prop
  | [], acc, e => Q (.n .lst acc) e
  | d :: ds, acc, e => match tgSet tg (.d d) e with
    | some e1 => tt e1 fun b e2 => if b = true then te e2 fun y e3 => acc.length < sizeLine ∧ lcW tg tt te vs Q ds (acc ++ [y]) (wipeE e3 vs) else lcW tg tt te vs Q ds acc (wipeE e2 vs)
    | none => False
def aLc (it : AI) (tg : Tg) (tt : AT) (te : AE) (vs : List Nat) : AE := fun env Q => it env fun ds e => lcW tg tt te vs Q ds [] (wipeE e vs)
def aYes : AT := fun env Q => Q true env
section
variable {K : PySem.W.Frag} {A : Addr → Prop} {F0 F F' : FS} {H0 H H' : Hp} {v u : V} {vs us : List V} {x y : OV} {xs ys : List OV} {σ : L2.St} {env : En}
theorem At.re1 (c : At K A F0 H0 H F vs xs σ env) : At K (nxt A H0) F H H F vs xs σ env := ⟨.refl, c.cf.mono fun _ z => .inl z⟩
theorem evi {t : AI} {R : List PyData → En → Prop} {Q : It → Hp → Prop} (c : At K A F0 H0 H F [] [] σ env) (h : t env R)
    (k : ∀ ds env' J H' F', R ds env' → At K A F0 H0 H' F' [] [] σ env' → Iter K H' F' J ds → Q J H') : LI K t σ H Q :=
  ⟨_, F, env, R, c.re1, h, fun ds env' J H' F' r b i => k ds env' J H' F' r (c.on b.st b.cf) i⟩
theorem iter_lst {a : Addr} {ds : List PyData} {ws : List V} (h : rs H F a = some (.lst ws)) (t : Dts K (rs H F) ws ds) : Iter K H F (Itl K a) ds := ⟨fun ex c i => by
  have hs : SqL K _ a ws := .of (rs_ex _ _ (ex _ _ h))
  refine ⟨fun d hd => ?_, fun hl => ⟨ws, hs, by rw [← t.len]; omega⟩⟩
  obtain ⟨w, hw, dw⟩ := t.at hd
  refine ⟨⟨ws, w, hs, hw⟩, fun x H3 y => ?_⟩
  obtain ⟨rfl, y⟩ := y
  have e := y ws hs
  rw [hw] at e
  cases e
  exact ⟨_, c.push (dt_ex ex dw)⟩⟩
theorem iter_tup {a : Addr} {ds : List PyData} {ws : List V} (h : SqT K (rs H F) a ws) (t : Dts K (rs H F) ws ds) : Iter K H F (Itt K a) ds := ⟨fun ex c i => by
  have hs : SqT K _ a ws := ex_t rs_ex (ex_t ex h)
  refine ⟨fun d hd => ?_, fun hl => ⟨ws, hs, by rw [← t.len]; omega⟩⟩
  obtain ⟨w, hw, dw⟩ := t.at hd
  refine ⟨⟨ws, w, hs, hw⟩, fun x H3 y => ?_⟩
  obtain ⟨rfl, y⟩ := y
  have e := y ws hs
  rw [hw] at e
  cases e
  exact ⟨_, c.push (dt_ex ex dw)⟩⟩
theorem iter_str {z : Str} : Iter K H F (Its z) (chD z) := ⟨fun ex c i => by
  refine ⟨fun d hd => ?_, fun hl => ?_⟩
  · unfold chD at hd
    rw [List.getElem?_map] at hd
    obtain ⟨ch, h1, rfl⟩ := Option.map_eq_some_iff.mp hd
    rw [Array.getElem?_toList] at h1
    refine ⟨(Array.getElem?_eq_some_iff.mp h1).1, fun x H3 y => ?_⟩
    obtain ⟨rfl, ch', h2, rfl⟩ := y
    rw [h1] at h2
    cases h2
    exact ⟨_, c.push (.str _)⟩
  · simp only [chD, List.length_map, Array.length_toList] at hl
    exact Nat.le_of_eq hl.symm⟩
theorem iter_rng {n : Nat} : Iter K H F (Itr 0 n) ((List.range n).map fun (k : Nat) => .int k) := ⟨fun ex c i => by
  refine ⟨fun d hd => ?_, fun hl => by simp only [List.length_map, List.length_range] at hl; exact Nat.le_of_eq hl.symm⟩
  rw [List.getElem?_map] at hd
  obtain ⟨k, h1, rfl⟩ := Option.map_eq_some_iff.mp hd
  obtain ⟨h2, h3⟩ := List.getElem?_eq_some_iff.mp h1
  simp only [List.length_range, List.getElem_range] at h2 h3
  subst h3
  refine ⟨h2, fun x H3 y => ?_⟩
  obtain ⟨rfl, rfl⟩ := y
  refine ⟨_, c.push ?_⟩
  have e : (0 : Int) + (i : Int) = (i : Int) := by omega
  rw [e]
  exact .int _⟩
theorem Oe.cong : ∀ {σ σ' : L2.St} {env : En} {as : List Addr}, Oe K H F σ env as → σ'.length = σ.length → (∀ (i : Nat) (x : OV), env[i]? = some (some x) → σ'[i]? = σ[i]?) → Oe K H F σ' env as
  | _, [], _, _, .nil, _, _ => .nil
  | _, _ :: _, _, _, .nil, l, _ => by simp at l
  | _, [], _, _, .skip _, l, _ => by simp at l
  | _, o :: σ', _, _, .skip t, l, h => .skip (Oe.cong t (by simpa using l) fun i x e => by simpa using h (i + 1) x (by simpa using e))
  | _, [], _, _, .cons _ _, l, _ => by simp at l
  | _, o :: σ', _, _, .cons g t, l, h => by
    have e := h 0 _ rfl
    simp only [List.getElem?_cons_zero, Option.some.injEq] at e
    subst e
    exact .cons g (Oe.cong t (by simpa using l) fun i x e => by simpa using h (i + 1) x (by simpa using e))
theorem At.cong (c : At K A F0 H0 H F vs xs σ env) {σ' : L2.St} (l : σ'.length = σ.length) (h : ∀ (i : Nat) (x : OV), env[i]? = some (some x) → σ'[i]? = σ[i]?) : At K A F0 H0 H F vs xs σ' env := by
  obtain ⟨st, ⟨⟨a1, a2, h1, h2, nd, off⟩, fh⟩⟩ := c
  exact ⟨st, ⟨⟨a1, a2, h1, h2.cong l h, nd, off⟩, fh⟩⟩
theorem At.wipes (c : At K A F0 H0 H F vs xs σ env) : ∀ is : List Nat, At K A F0 H0 H F vs xs (wipe σ is) (wipeE env is)
  | [] => c
  | i :: is => (At.wipes c is).wipe1 i none
theorem wipeE_none (e : En) : ∀ (is : List Nat) (i : Nat), i ∈ is → ∀ x, (wipeE e is)[i]? ≠ some (some x)
  | [], i, h, x => by cases h
  | j :: is, i, h, x => by
    unfold wipeE
    rw [List.getElem?_set]
    by_cases ij : j = i
    · rw [if_pos ij]
      split <;> simp
    · rw [if_neg ij]
      exact wipeE_none e is i ((List.mem_cons.mp h).resolve_left fun z => ij z.symm) x
theorem wipe_other (σ : L2.St) : ∀ (is : List Nat) (i : Nat), i ∉ is → (wipe σ is)[i]? = σ[i]?
  | [], i, h => rfl
  | j :: is, i, h => by
    unfold wipe
    rw [List.getElem?_set, if_neg (fun z => h (by simp [z]))]
    exact wipe_other σ is i fun z => h (List.mem_cons_of_mem _ z)
theorem wipe_in (σ : L2.St) : ∀ (is : List Nat) (i : Nat), i ∈ is → (wipe σ is)[i]? = if i < σ.length then some none else none
  | [], i, h => by cases h
  | j :: is, i, h => by
    unfold wipe
    rw [List.getElem?_set]
    by_cases ij : j = i
    · subst ij
      rw [if_pos rfl, wipe_length]
    · rw [if_neg ij]
      exact wipe_in σ is i ((List.mem_cons.mp h).resolve_left fun z => ij z.symm)
theorem wipe_but {is : List Nat} {σ σ' : L2.St} (b : But is σ σ') : wipe σ' is = wipe σ is := by
  refine List.ext_getElem? fun i => ?_
  by_cases h : i ∈ is
  · rw [wipe_in σ' is i h, wipe_in σ is i h, b.len]
  · rw [wipe_other σ' is i h, wipe_other σ is i h, b.same i h]
theorem but_wipe (is : List Nat) (σ : L2.St) : But is σ (wipe σ is) := ⟨wipe_length σ is, fun j hj => wipe_other σ is j hj⟩
theorem At.unwipe {is : List Nat} {e : En} (c : At K A F0 H0 H F vs xs (wipe σ is) (wipeE e is)) : At K A F0 H0 H F vs xs σ (wipeE e is) :=
  c.cong (wipe_length σ is).symm fun i x h => by
    by_cases m : i ∈ is
    · exact absurd h (wipeE_none e is i m x)
    · exact (wipe_other σ is i m).symm
end
section
variable {X : Cx} {pn : List (Nat × V)} {tgE e a l : Expr} {te : AE} {pos p : Pos}
/-- over a list, a tuple, a text -/
def iSeq (K : PySem.W.Frag) (tl : TE) : TI := fun σ H R => tl σ H fun x H1 => (∃ a, x = .ref a ∧ (∃ xs, SqL K H1 a xs) ∧ R (Itl K a) H1) ∨ (∃ a, x = .ref a ∧ (∃ xs, SqT K H1 a xs) ∧ R (Itt K a) H1) ∨ (∃ z, x = .str z ∧ R (Its z) H1)
theorem pi_seq {tl : TE} (hl : PE X l tl) : PI X tgE l (iSeq X.K tl) := by
  refine ⟨fun pins s σ H R I h => ?_⟩
  refine thn (hl.run pins s σ H _ I h) fun v s1 ⟨x, H1, I1, r1, q1⟩ => ?_
  rcases q1 with ⟨a, e, ⟨xs, hq⟩, q⟩ | ⟨a, e, ⟨xs, hq⟩, q⟩ | ⟨z, e, q⟩
  · subst e
    cases r1
    obtain ⟨its, rv, p, hz⟩ := I1.list hq
    refine wpAny_pyIter_list p.isList ?_
    refine ⟨s1.heap.objs.size, [s1.heap.objs.size], _, _, H1, rfl, I1.kept (t' := s1.toks) fun b o e => Heap.get?_push_of_some _ e, turn_list a _, ⟨_, Heap.get?_push_size _ rfl, rfl, rfl⟩, fun b hb => ?_, q⟩
    have e : b = s1.heap.objs.size := by simpa using hb
    subst e
    exact I1.fpOk (Nat.le_refl _) (I1.hok.fresh (Nat.le_refl _))
  · subst e
    cases r1
    obtain ⟨its, rv, p, hz⟩ := I1.tuple hq
    refine wpAny_pyIter_tuple (show s1.heap.IsTuple a its.toArray from p) ?_
    refine ⟨s1.heap.objs.size, [s1.heap.objs.size], _, _, H1, rfl, I1.kept (t' := s1.toks) fun b o e => Heap.get?_push_of_some _ e, turn_tuple a _, ⟨_, Heap.get?_push_size _ rfl, rfl, rfl⟩, fun b hb => ?_, q⟩
    have e : b = s1.heap.objs.size := by simpa using hb
    subst e
    exact I1.fpOk (Nat.le_refl _) (I1.hok.fresh (Nat.le_refl _))
  · subst e
    obtain ⟨t, rfl⟩ := r1
    cases ha : z.cps.all (· < 128)
    · exact wpAny_pyIter_wide ha (pi_one (tk := s1.toks) I1 _ (turn_str _ z t "str_iterator" (.inr rfl)) ⟨_, Heap.get?_push_size _ rfl, rfl, rfl⟩ q)
    · exact wpAny_pyIter_ascii ha (pi_one (tk := s1.toks) I1 _ (turn_str _ z t "str_ascii_iterator" (.inl rfl)) ⟨_, Heap.get?_push_size _ rfl, rfl, rfl⟩ q)
theorem si_over (he : SE X l te) : SI X tgE l (aOver te) := piTo (pi_seq he) fun σ H R ⟨A, F, env, R', c, h, k⟩ => ev c h fun x e1 v H1 F1 h1 c1 => by
  split at h1
  · rename_i ds eds
    obtain ⟨d, e2, e3⟩ := Option.bind_eq_some_iff.mp eds
    obtain ⟨F2, c2⟩ := c1.fix e2
    have dv := c2.dp
    cases dv with
    | lst h t => cases e3; exact .inl ⟨_, rfl, ⟨_, .of (rs_ex _ _ h)⟩, k _ _ _ _ F2 h1 c2.pop (iter_lst h t)⟩
    | tup h t => cases e3; exact .inr (.inl ⟨_, rfl, ⟨_, ex_t rs_ex h⟩, k _ _ _ _ F2 h1 c2.pop (iter_tup h t)⟩)
    | str z => cases e3; exact .inr (.inr ⟨_, rfl, k _ _ _ _ F2 h1 c2.pop iter_str⟩)
    | non => cases e3
    | bl b => cases e3
    | int b => cases e3
  · exact h1.elim
theorem si_rng (hg : Gl X "range") (hm : X.mg "range" = none) (ha : SE X a te) (hs : starEach [a] X.env = [(false, eval a X.env)] := by rfl) : SI X tgE (.Call (.Name "range" p) [a] [] pos) (aRng te) :=
  piTo (pi_range1 hg hm (pa_cons ha pa_nil hs) hs) fun σ H R ⟨A, F, env, R', c, h, k⟩ => ev c h fun x e1 v H1 F1 h1 c1 => by
    split at h1
    · have dv := c1.dp
      cases dv
      exact ⟨_, rfl, h1.1.1, h1.1.2, k _ _ _ _ F1 h1.2 c1.pop iter_rng⟩
    · exact h1.elim
theorem ss_for {iter : Expr} {body : List Stmt} {it : AI} {tb : AS} {g : TG} {tg : Tg} (hc : X.calm = true) (hi : SI X tgE iter it) (hg : PG X tgE g) (hG : Gt X.K g tg) (hb : SSs X pn body tb) (hp : ∀ p ∈ pn, p.1 ∉ tg.slots) (hpo : PassesOwn (model X.prog X.w) X.A X.env X.xe)
    (hs : ∀ x, foldedSetIterable iter X.env x = pure x := by intro _; rfl) : SS X pn (.For tgE iter body [] pos) (aFor it tg tb) :=
  psTo (ps_for hpo hc hi hg hb hs) fun D σ H ⟨A, F, env, D', p, c, h, ed⟩ => evi c h fun ds e1 J H1 F1 h1 c1 it1 => by
    let W : Nat → Nat → L2.St → Hp → Prop := fun i m σ' H' => m = ds.length - i ∧ i ≤ ds.length ∧ PinOk pn σ' ∧ ∃ F' env', At X.K (nxt A H) F1 H1 H' F' [] [] σ' env' ∧ forW tg tb D' (ds.drop i) env'
    refine ⟨W, ⟨ds.length, by simp, Nat.zero_le _, p, F1, e1, c1.re1, h1⟩, fun i m σ2 H2 w => ?_⟩
    obtain ⟨rfl, hi, p2, F2, e2, c2, h2⟩ := w
    obtain ⟨go, stop⟩ := it1.run c2.st.fr c2 i
    by_cases lt : i < ds.length
    · have hd : ds[i]? = some ds[i] := List.getElem?_eq_getElem lt
      obtain ⟨g1, g2⟩ := go _ hd
      rw [List.drop_eq_getElem_cons lt] at h2
      refine .inr ⟨g1, W (i + 1) (ds.length - (i + 1)), fun σ' H' w => ⟨_, by omega, w⟩, fun x H3 y => ?_⟩
      obtain ⟨F3, c3⟩ := g2 x H3 y
      change (match tgSet tg (.d ds[i]) e2 with | some e1 => tb { D' with nx := forW tg tb D' (ds.drop (i + 1)), ct := forW tg tb D' (ds.drop (i + 1)), bk := D'.nx } e1 | none => False) at h2
      split at h2
      · rename_i e3 q
        refine hG.run c3 q fun σ3 H3' F3' b c4 => sv (p2.but b hp) c4 h2 ?_
        have back : ∀ {env' σ' H' F'}, forW tg tb D' (ds.drop (i + 1)) env' → PinOk pn σ' → At X.K (nxt A H) F1 H1 H' F' [] [] σ' env' → W (i + 1) (ds.length - (i + 1)) σ' H' := fun a b z => ⟨rfl, lt, b, _, _, z, a⟩
        exact ⟨fun env' σ' H' F' a b z => back a b z, fun x env' v σ' H' F' a b z => ed.rt _ _ _ _ _ _ a b (c1.on z.st z.cf), fun env' σ' H' F' a b z => ed.nx _ _ _ _ a b (c1.on z.st z.cf), fun env' σ' H' F' a b z => back a b z⟩
      · exact h2.elim
    · have e : i = ds.length := by omega
      subst e
      rw [List.drop_length] at h2
      exact .inl ⟨stop rfl, ed.nx _ _ _ _ h2 p2 (c1.on c2.st c2.cf)⟩
theorem ss_while {cE : Expr} {body : List Stmt} {tc : AT} {tb : AS} (hc : ST X cE tc) (hb : SSs X pn body tb) (hpo : PassesOwn (model X.prog X.w) X.A X.env X.xe) : SS X pn (.While cE body [] pos) (aWhile tc tb) :=
  psTo (ps_while hpo hc hb) fun D σ H ⟨A, F, env, D', p, c, h, ed⟩ => by
    obtain ⟨n, h⟩ := h
    refine ⟨fun m σ' H' => PinOk pn σ' ∧ ∃ F' env', At X.K A F H H' F' [] [] σ' env' ∧ whW tc tb D' m env', ⟨n, p, F, env, c, h⟩, fun m σ2 H2 w => ?_⟩
    obtain ⟨p2, F2, e2, c2, h2⟩ := w
    cases m with
    | zero => exact h2.elim
    | succ m =>
      refine evt c2 h2 fun b e3 H3 F3 h3 c3 => ?_
      split
      · rename_i z
        rw [if_pos z] at h3
        refine ⟨fun σ' H' => PinOk pn σ' ∧ ∃ F' env', At X.K A F H H' F' [] [] σ' env' ∧ whW tc tb D' m env', fun σ' H' w => ⟨m, Nat.lt_succ_self m, w⟩, sv p2 c3 h3 ?_⟩
        exact ⟨fun env' σ' H' F' a b z => ⟨b, _, _, z, a⟩, ed.rt, ed.nx, fun env' σ' H' F' a b z => ⟨b, _, _, z, a⟩⟩
      · rename_i z
        rw [if_neg z] at h3
        exact ed.nx _ _ _ _ h3 p2 c3
theorem le_lc {K : PySem.W.Frag} {it : AI} {g : TG} {tg : Tg} {tt : AT} {te : AE} {vs : List Nat} (hG : Gt K g tg) (hsub : ∀ i ∈ tg.slots, i ∈ vs) : ∀ σ H Q, LE K (aLc it tg tt te vs) σ H Q → tLc (LI K it) g (LT K tt) (LE K te) vs σ H Q :=
  fun σ H Q ⟨A, F, env, R, c, h, k⟩ => evi c h fun ds e1 J H1 F1 h1 c1 it1 => fun D hD => by
    let W : Nat → Nat → Hp → Prop := fun i m H' => m = ds.length - i ∧ i ≤ ds.length ∧ ∃ F' e0 acc, At K (nxt A H) F1 H1 H' F' [.ref D] [.n .lst acc] (wipe σ vs) (wipeE e0 vs) ∧ lcW tg tt te vs R (ds.drop i) acc (wipeE e0 vs)
    have c0 : At K (nxt A H) F1 H1 (upd H1 D (.lst [])) F1 [.ref D] [.n .lst []] (wipe σ vs) (wipeE e1 vs) := At.make (us := []) (ys := []) (s := .lst) (c1.re1.wipes vs) rfl hD ⟨upd_same, rfl⟩
    refine ⟨W, ⟨ds.length, by simp, Nat.zero_le _, F1, e1, [], c0, h1⟩, fun i m H2 w => ?_⟩
    obtain ⟨rfl, hi, F2, e2, acc, c2, h2⟩ := w
    obtain ⟨go, stop⟩ := it1.run c2.st.fr c2 i
    by_cases lt : i < ds.length
    · have hd : ds[i]? = some ds[i] := List.getElem?_eq_getElem lt
      obtain ⟨g1, g2⟩ := go _ hd
      rw [List.drop_eq_getElem_cons lt] at h2
      refine .inr ⟨g1, W (i + 1) (ds.length - (i + 1)), fun H' w => ⟨_, by omega, w⟩, fun x H3 y => ?_⟩
      obtain ⟨F3, c3⟩ := g2 x H3 y
      change (match tgSet tg (.d ds[i]) (wipeE e2 vs) with | some e1 => tt e1 fun b e2 => if b = true then te e2 fun y e3 => acc.length < sizeLine ∧ lcW tg tt te vs R (ds.drop (i + 1)) (acc ++ [y]) (wipeE e3 vs) else lcW tg tt te vs R (ds.drop (i + 1)) acc (wipeE e2 vs) | none => False) at h2
      split at h2
      · rename_i e3 q
        refine hG.run c3 q fun σ3 H3' F3' b c4 => ?_
        have ws : wipe σ3 vs = wipe σ vs := (wipe_but (b.mono hsub)).trans (wipe_but (but_wipe vs σ))
        refine ⟨ws, evt c4 h2 fun bo e4 H4 F4 h4 c5 => ?_⟩
        split
        · rename_i z
          rw [if_pos z] at h4
          refine ev c5 h4 fun y e5 u H5 F5 h5 c6 => ?_
          obtain ⟨accV, ex, ⟨hH, rfl⟩, lw, _, mk⟩ := c6.swap.mut
          refine ⟨accV, hH, by rw [← lw]; exact h5.1, rfl, lt, F5, e5, acc ++ [y], ?_, h5.2⟩
          have q := mk .lst (.lst (accV ++ [u])) (accV.zip acc ++ [(u, y)]) [] [] ⟨by rw [upd_same]; simp [fsts, List.map_fst_zip (show accV.length ≤ acc.length by omega)], rfl⟩ (by simp)
          simp only [snds, List.map_append, List.map_snd_zip (show acc.length ≤ accV.length by omega), List.map_cons, List.map_nil] at q
          rw [← ws]
          exact At.wipes q vs
        · rename_i z
          rw [if_neg z] at h4
          refine ⟨rfl, lt, F4, e4, acc, ?_, h4⟩
          rw [← ws]
          exact At.wipes c5 vs
      · exact h2.elim
    · have e : i = ds.length := by omega
      subst e
      rw [List.drop_length] at h2
      have c3 := c2.unwipe
      exact .inl ⟨stop rfl, k _ _ _ _ _ h2 (c1.on c3.st c3.cf)⟩
section
variable {elt tg' iter : Expr} {ifs : List Expr} {scope : Scope} {own : List (Str × Nat)} {it : AI} {g : TG} {tg : Tg} {tt : AT}
def STs (X : Cx) (ifs : List Expr) (t : AT) : Prop := PTs X ifs (LT X.K t)
theorem sts_nil : STs X [] aYes := ⟨fun pins s σ H Q I ⟨A, F, env, R, c, h, k⟩ => pts_nil.run pins s σ H Q I (k _ _ _ _ h c)⟩
theorem sts_one {cE : Expr} (h : ST X cE tt) : STs X [cE] tt := pts_one h
theorem se_lc (hc : X.calm = true) (hN : X.N.Nodup) (hi : SI X tg' iter it) (ok : BlkOk X.N X.env.scope scope own) (hG : Gt X.K g tg) (hsub : ∀ i ∈ tg.slots, i ∈ own.map (·.2))
    (hg : ∀ (s : Shared) (H : Hp) (C : Addr) (cl : List (Str × Addr)) (fp : List Addr), PG (X.blk s H scope (compEnvC scope cl C X.env) fp) tg' g) (ht : ∀ (s : Shared) (H : Hp) (C : Addr) (cl : List (Str × Addr)) (fp : List Addr), STs (X.blk s H scope (compEnvC scope cl C X.env) fp) ifs tt)
    (he : ∀ (s : Shared) (H : Hp) (C : Addr) (cl : List (Str × Addr)) (fp : List Addr), SE (X.blk s H scope (compEnvC scope cl C X.env) fp) elt te) (hs : ∀ x, foldedSetIterable iter X.env x = pure x := by intro _; rfl) :
    SE X (.ListComp elt [⟨tg', iter, ifs, 0⟩] scope pos) (aLc it tg tt te (own.map (·.2))) := peTo (pe_lc (tt := LT X.K tt) (te := LE X.K te) hc hN hi ok hg ht he hs) (le_lc hG hsub)
theorem ss_setLc {i : Nat} {y : Str} {py spos : Pos} (hc : X.calm = true) (hN : X.N.Nodup) (hy : X.N[i]? = some y) (hyl : X.env.scope.names.lookup y = some .local)
    (hsw : swapsWith (.ListComp elt [⟨tg', iter, ifs, 0⟩] scope pos) (some (.Name y py)) spos.line X.env = pure true) (hi : SI X tg' iter it) (ok : BlkOk X.N X.env.scope scope own) (hG : Gt X.K g tg) (hsub : ∀ i ∈ tg.slots, i ∈ own.map (·.2)) (hp : ∀ p ∈ pn, p.1 ≠ i)
    (hg : ∀ (s : Shared) (H : Hp) (C : Addr) (cl : List (Str × Addr)) (fp : List Addr), PG (X.blk s H scope (compEnvC scope cl C X.env) fp) tg' g) (ht : ∀ (s : Shared) (H : Hp) (C : Addr) (cl : List (Str × Addr)) (fp : List Addr), STs (X.blk s H scope (compEnvC scope cl C X.env) fp) ifs tt)
    (he : ∀ (s : Shared) (H : Hp) (C : Addr) (cl : List (Str × Addr)) (fp : List Addr), SE (X.blk s H scope (compEnvC scope cl C X.env) fp) elt te) (hs : ∀ x, foldedSetIterable iter X.env x = pure x := by intro _; rfl) :
    SS X pn (.Assign [.Name y py] (.ListComp elt [⟨tg', iter, ifs, 0⟩] scope pos) spos) (aAsg (aLc it tg tt te (own.map (·.2))) (.n i)) :=
  psTo (ps_setLc (tt := LT X.K tt) (te := LE X.K te) hc hN hy hyl hsw hi ok hg ht he hs) fun D σ H ⟨A, F, env, D', p, c, h, ed⟩ => le_lc hG hsub _ _ _ (ev c h fun x e1 v H1 F1 h1 c1 => by
    split at h1
    · rename_i e2 q
      exact (gt_name i).run c1 q fun σ' H' F' b c2 => ed.nx _ _ _ _ h1 (p.but b fun p hp' => by simpa [Tg.slots] using hp p hp') c2
    · exact h1.elim)
end
end
end Ow

/-! Ow: defs: their promise over plain data, their call. -/
namespace Ow
open PySem L2 Grd PyProof.Rows
open Evl (Ex ex_t ex_l ex_rd)
/-- an argument: a value, or what a name holds (lent) -/
inductive Ar where
  | v (x : OV)
  | s (i : Nat)
abbrev AR := En → (List Ar → En → Prop) → Prop
inductive ARel (σ : L2.St) : List Ar → List V → List V → List OV → Prop
  | nil : ARel σ [] [] [] []
  | v {x : OV} {v : V} {as : List Ar} {vs ts : List V} {xs : List OV} : ARel σ as vs ts xs → ARel σ (.v x :: as) (v :: vs) (v :: ts) (x :: xs)
  | s {i : Nat} {v : V} {as : List Ar} {vs ts : List V} {xs : List OV} : σ[i]? = some (some v) → ARel σ as vs ts xs → ARel σ (.s i :: as) (v :: vs) ts xs
def LR (K : PySem.W.Frag) (t : AR) : TA := fun σ H Q => ∃ (A : Addr → Prop) (F : FS) (env : En) (R : List Ar → En → Prop),
  At K A F H H F [] [] σ env ∧ t env R ∧ ∀ as env' vs H' F' ts xs, R as env' → ARel σ as vs ts xs → At K A F H H' F' ts xs σ env' → Q vs H'
def SR (X : Cx) (es : List Expr) (t : AR) : Prop := PA X es (LR X.K t)
def aRn : AR := fun env Q => Q [] env
def aRv (te : AE) (t : AR) : AR := fun env Q => te env fun x e1 => t e1 fun as e2 => Q (.v x :: as) e2
def aRs (i : Nat) (t : AR) : AR := fun env Q => (match env[i]? with | some (some _) => True | _ => False) ∧ t env fun as e2 => Q (.s i :: as) e2
def tkA : List Ar → En → Option (List OV × En)
  | [], e => some ([], e)
  | .v x :: as, e => (tkA as e).map fun p => (x :: p.1, p.2)
  | .s i :: as, e => match e[i]? with
    | some (some (.d d)) => (tkA as e).map fun p => (.d d :: p.1, p.2)
    | some (some (.n s ys)) => (tkA as (e.set i none)).map fun p => (.n s ys :: p.1, p.2)
    | _ => none
def ptA : List Ar → List OV → En → En
  | .s i :: as, x :: xs, e => ptA as xs (e.set i (some x))
  | .v _ :: as, _ :: xs, e => ptA as xs e
  | _, _, e => e
abbrev AC := List OV → (OV → List OV → Prop) → Prop
def aCall (C : AC) (t : AR) : AE := fun env Q => t env fun as e => match tkA as e with
  | some p => C p.1 fun z xs' => xs'.length = p.1.length ∧ Q z (ptA as xs' p.2)
  | none => False
def spA (K : PySem.W.Frag) (C : AC) : Sp := fun vs H Q _ => ∃ (A : Addr → Prop) (F : FS) (xs : List OV) (R : OV → List OV → Prop),
  At K A F H H F vs xs [] [] ∧ C xs R ∧ ∀ z xs' w H' F', R z xs' → At K A F H H' F' (w :: vs) (z :: xs') [] [] → Q w H'
section
variable {K : PySem.W.Frag} {A : Addr → Prop} {F0 F F' : FS} {H0 H H' : Hp} {v u : V} {vs us : List V} {x y : OV} {xs ys : List OV} {σ : L2.St} {env : En}
theorem evr {t : AR} {R : List Ar → En → Prop} {Q : List V → Hp → Prop} (c : At K A F0 H0 H F vs xs σ env) (h : t env R)
    (k : ∀ as env' us H' F' ts ys, R as env' → ARel σ as us ts ys → At K A F0 H0 H' F' (ts ++ vs) (ys ++ xs) σ env' → Q us H') : LR K t σ H Q := by
  obtain ⟨a1, a2, h1, nd, off, c2⟩ := startE c
  refine ⟨_, F, env, R, c2, h, fun as env' us H' F' ts ys r ar b => k as env' us H' F' ts ys r ar ?_⟩
  obtain ⟨s, z⟩ := frameE h1 nd off b.st b.cf
  exact c.on s z
theorem ARel.len : ∀ {as : List Ar} {vs ts : List V} {xs : List OV}, ARel σ as vs ts xs → xs.length = ts.length
  | _, _, _, _, .nil => rfl
  | _, _, _, _, .v h => by simp [ARel.len h]
  | _, _, _, _, .s _ h => ARel.len h
theorem tk_len : ∀ {as : List Ar} {vs ts : List V} {xs ys : List OV} {e e' : En}, ARel σ as vs ts xs → tkA as e = some (ys, e') → ys.length = vs.length
  | _, _, _, _, _, _, _, .nil, h => by cases h; rfl
  | _, _, _, _, _, _, _, .v r, h => by
    obtain ⟨p, h1, h2⟩ := Option.map_eq_some_iff.mp h
    cases h2
    simp [tk_len r h1]
  | _, _, _, _, _, _, _, .s hi r, h => by
    unfold tkA at h
    split at h
    · obtain ⟨p, h1, h2⟩ := Option.map_eq_some_iff.mp h
      cases h2
      simp [tk_len r h1]
    · obtain ⟨p, h1, h2⟩ := Option.map_eq_some_iff.mp h
      cases h2
      simp [tk_len r h1]
    · cases h
theorem tk_ok : ∀ {as : List Ar} {vs ts : List V} {xs zs : List OV} {e e' : En} {us : List V} {ys : List OV}, ARel σ as vs ts xs → tkA as e = some (zs, e') → ys.length = us.length → At K A F0 H0 H F (ts ++ us) (xs ++ ys) σ e → At K A F0 H0 H F (vs ++ us) (zs ++ ys) σ e'
  | _, _, _, _, _, _, _, _, _, .nil, h, _, c => by cases h; exact c
  | _, _, _, _, _, _, _, us, ys, .v (x := x) (v := v) (ts := ts) (xs := x0) r, h, l, c => by
    obtain ⟨p, h1, h2⟩ := Option.map_eq_some_iff.mp h
    cases h2
    have c1 := At.app_comm (vs1 := [v]) (xs1 := [x]) (vs2 := ts ++ us) (xs2 := x0 ++ ys) rfl c
    rw [List.append_assoc, List.append_assoc] at c1
    have c2 := tk_ok (us := us ++ [v]) (ys := ys ++ [x]) r h1 (by simp [l]) c1
    rw [← List.append_assoc, ← List.append_assoc] at c2
    exact At.app_comm (vs2 := [v]) (xs2 := [x]) (by have := tk_len r h1; simp [this, l]) c2
  | _, _, _, _, _, _, _, us, ys, .s (v := v) (ts := ts) (xs := x0) hi r, h, l, c => by
    unfold tkA at h
    split at h
    · rename_i d ed
      obtain ⟨p, h1, h2⟩ := Option.map_eq_some_iff.mp h
      cases h2
      obtain ⟨v', hv', dv⟩ := c.look ed
      rw [hi] at hv'
      cases hv'
      exact (tk_ok r h1 l c).push dv
    · rename_i s zs ed
      obtain ⟨p, h1, h2⟩ := Option.map_eq_some_iff.mp h
      cases h2
      obtain ⟨v', hv', c0⟩ := c.take ed
      rw [hi] at hv'
      cases hv'
      have c1 := At.app_comm (vs1 := [v]) (xs1 := [.n s zs]) (vs2 := ts ++ us) (xs2 := x0 ++ ys) rfl c0
      rw [List.append_assoc, List.append_assoc] at c1
      have c2 := tk_ok (us := us ++ [v]) (ys := ys ++ [.n s zs]) r h1 (by simp [l]) c1
      rw [← List.append_assoc, ← List.append_assoc] at c2
      exact At.app_comm (vs2 := [v]) (xs2 := [.n s zs]) (by have := tk_len r h1; simp [this, l]) c2
    · cases h
theorem pt_ok : ∀ {as : List Ar} {vs ts : List V} {xs zs : List OV} {e : En} {us : List V} {ys : List OV}, ARel σ as vs ts xs → zs.length = vs.length → At K A F0 H0 H F (vs ++ us) (zs ++ ys) σ e → At K A F0 H0 H F us ys σ (ptA as zs e)
  | _, _, _, _, [], _, _, _, .nil, _, c => c
  | _, _, _, _, _ :: _, _, _, _, .nil, l, _ => by simp at l
  | _, _, _, _, [], _, _, _, .v _, l, _ => by simp at l
  | _, _, _, _, z :: zs, _, _, _, .v r, l, c => by simp only [ptA]; exact pt_ok r (by simpa using l) c.pop
  | _, _, _, _, [], _, _, _, .s _ _, l, _ => by simp at l
  | _, _, _, _, z :: zs, _, _, _, .s hi r, l, c => by simp only [ptA]; exact pt_ok r (by simpa using l) (c.put hi)
/-- a def is called with what is held; the rest stays -/
theorem call_ok {C : AC} {R : OV → List OV → Prop} {Q : VK} {E : XK} (c : At K A F0 H0 H F vs xs σ env) (h : C xs R) (k : ∀ z xs' w H' F', R z xs' → At K A F0 H0 H' F' (w :: vs) (z :: xs') σ env → Q w H') : spA K C vs H Q E := by
  have c0 := c
  obtain ⟨st, ⟨⟨a1, a2, h1, h2, nd, off⟩, fh⟩⟩ := c
  refine ⟨(· ∈ a1), F, xs, R, ⟨.refl, ⟨a1, [], h1, .nil, by simpa using (List.nodup_append.mp nd).1, fun a ha => ?_⟩, fh⟩, h, fun z xs' w H' F' r b => k z xs' w H' F' r ?_⟩
  · rw [List.append_nil] at ha
    exact ⟨(off a (List.mem_append_left _ ha)).1, .inl ha⟩
  · obtain ⟨s, q⟩ := Cf.frame (σ' := []) (env' := []) (vs := []) (xs := []) (a2 := []) h1 ⟨.nil, h2⟩ nd off fh b.st b.cf
    have q2 := c0.on s q
    simpa using q2
end
section
variable {X : Cx} {e o : Expr} {es : List Expr} {te : AE} {tr : AR} {pos p : Pos} {i k : Nat} {x : Str} {C : AC} {CX : CXT} {f : Addr} {fd : FuncData} {ps : List Str} {E : XK}
theorem sr_nil : SR X [] aRn := paTo pa_nil fun σ H Q ⟨A, F, env, R, c, h, k⟩ => k _ _ _ _ _ _ _ h .nil c
theorem sr_v (ha : SE X e te) (hr : SR X es tr) (hs : starEach (e :: es) X.env = (false, eval e X.env) :: starEach es X.env := by rfl) : SR X (e :: es) (aRv te tr) := paTo (pa_cons ha hr hs) fun σ H Q ⟨A, F, env, R, c, h, k⟩ =>
  ev c h fun x e1 v H1 F1 h1 c1 => evr c1 h1 fun as e2 us H2 F2 ts ys h2 ar c2 => k _ _ _ _ _ _ _ h2 (.v ar) (by
    have := At.front ar.len c2
    simpa using this)
theorem sr_s (h : PE X e (tVar i)) (hr : SR X es tr) (hs : starEach (e :: es) X.env = (false, eval e X.env) :: starEach es X.env := by rfl) : SR X (e :: es) (aRs i tr) := paTo (pa_cons h hr hs) fun σ H Q ⟨A, F, env, R, c, h, k⟩ => by
  obtain ⟨h0, h⟩ := h
  obtain ⟨v, hv⟩ := getSome c h0
  exact ⟨v, hv, evr c h fun as e2 us H2 F2 ts ys h2 ar c2 => k _ _ _ _ _ _ _ h2 (.s hv ar) (by simpa using c2)⟩
theorem se_call (G : Fn X.prog X.w X.K X.mg X.base CX k f fd ps (spA X.K C)) (gd : X.A.guards = some []) (hr : Room k X.A) (hg : Gl X x) (hm : X.mg x = some (.ref f)) (hk : PySem.W.keepIn X.K (.ref f) = true) (hb : Binds X.K fd ps []) (hx : Passes CX X E) (ha : SR X (e :: es) tr)
    (hdb : (x == ("__debug__" : Str)) = false := by decide)
    (he : starEach (e :: es) X.env = (false, eval e X.env) :: starEach es X.env := by rfl)
    (hpl : (backTo pos (starEach es X.env)).any (·.1) = false := by rfl) :
    SE X (.Call (.Name x p) (e :: es) [] pos) (aCall C tr) := peTo (pe_callG G gd hr hg hm hk hb .nil hx ha hdb he hpl) fun σ H Q ⟨A, F, env, R, c, h, k⟩ => evr c h fun as e1 us H1 F1 ts ys h1 ar c1 => by
  split at h1
  · rename_i p ep
    obtain ⟨zs, e2⟩ := p
    have c2 := tk_ok (us := []) (ys := []) ar ep rfl c1
    simp only [List.append_nil] at c2 ⊢
    exact call_ok c2 h1 fun z xs' w H' F' r b => k _ _ _ _ _ r.2 (pt_ok ar (by rw [r.1]; exact tk_len ar ep) (by
      have q := At.app_comm (vs1 := [w]) (xs1 := [z]) rfl b
      exact q))
  · exact h1.elim
theorem se_call0 (G : Fn X.prog X.w X.K X.mg X.base CX k f fd ps (spA X.K C)) (gd : X.A.guards = some []) (hr : Room k X.A) (hg : Gl X x) (hm : X.mg x = some (.ref f)) (hk : PySem.W.keepIn X.K (.ref f) = true) (hb : Binds X.K fd ps []) (hx : Passes CX X E)
    (hdb : (x == ("__debug__" : Str)) = false := by decide) : SE X (.Call (.Name x p) [] [] pos) (aCall C aRn) := peTo (pe_callG0 G gd hr hg hm hk hb .nil hx hdb) fun σ H Q ⟨A, F, env, R, c, h, k⟩ => by
  have h2 : C [] fun z xs' => xs'.length = 0 ∧ R z (ptA [] xs' env) := h
  refine call_ok (E := E) (vs := [] ++ []) c h2 fun z xs' w H' F' r b => k z env w H' F' ?_ ?_
  · exact r.2
  · have e : xs' = [] := List.eq_nil_of_length_eq_zero r.1
    subst e
    exact b
end
/-! ### a def's promise from its body -/
def finA : List Bool → Nat → List OV → En → Option (List OV)
  | [], _, [], _ => some []
  | true :: bs, i, _ :: xs, e => match e[i]? with
    | some (some x) => (finA bs (i + 1) xs e).map (x :: ·)
    | _ => none
  | false :: bs, i, .d d :: xs, e => (finA bs (i + 1) xs e).map (.d d :: ·)
  | _, _, _, _ => none
/-- what follows a def's body: the value told, and what the names handed in hold then -/
def retD (bs : List Bool) (xs : List OV) (R : OV → List OV → Prop) : AD where
  nx := fun e => match finA bs 0 xs e with | some xs' => R (.d .none) xs' | none => False
  rt := fun z e => match finA bs 0 xs e with | some xs' => R z xs' | none => False
  bk := fun _ => False
  ct := fun _ => False
def pinsOf : List Bool → Nat → List V → List (Nat × V)
  | true :: bs, i, v :: vs => (i, v) :: pinsOf bs (i + 1) vs
  | false :: bs, i, _ :: vs => pinsOf bs (i + 1) vs
  | _, _, _ => []
def beg (n : Nat) (xs : List OV) : En := xs.map some ++ List.replicate (n - xs.length) none
section
variable {K : PySem.W.Frag} {A : Addr → Prop} {F0 F F' : FS} {H0 H H' : Hp} {σ : L2.St} {env : En}
theorem pinsOf_mem : ∀ {bs : List Bool} {i : Nat} {vs : List V} {p : Nat × V}, p ∈ pinsOf bs i vs → i ≤ p.1 ∧ bs[p.1 - i]? = some true ∧ vs[p.1 - i]? = some p.2
  | true :: bs, i, v :: vs, p, h => by
    simp only [pinsOf, List.mem_cons] at h
    rcases h with rfl | h
    · simp
    · obtain ⟨h1, h2, h3⟩ := pinsOf_mem h
      have e : p.1 - i = (p.1 - (i + 1)) + 1 := by omega
      exact ⟨by omega, by rw [e]; simpa using h2, by rw [e]; simpa using h3⟩
  | false :: bs, i, v :: vs, p, h => by
    simp only [pinsOf] at h
    obtain ⟨h1, h2, h3⟩ := pinsOf_mem h
    have e : p.1 - i = (p.1 - (i + 1)) + 1 := by omega
    exact ⟨by omega, by rw [e]; simpa using h2, by rw [e]; simpa using h3⟩
  | [], _, _, _, h => by simp [pinsOf] at h
  | true :: _, _, [], _, h => by simp [pinsOf] at h
  | false :: _, _, [], _, h => by simp [pinsOf] at h
theorem fin_ok (ex : Ex (rs H0 F0) (rs H F)) {A' : Addr → Prop} {F1 : FS} {H1 : Hp} : ∀ {bs : List Bool} {i : Nat} {vs : List V} {xs xs' : List OV} {e : En} {us : List V} {ys : List OV} {a1 : List Addr},
    finA bs i xs e = some xs' → Owns K H0 F0 vs xs a1 → PinOk (pinsOf bs i vs) σ → At K A' F1 H1 H F us ys σ e → ∃ e', At K A' F1 H1 H F (vs ++ us) (xs' ++ ys) σ e'
  | [], i, vs, [], xs', e, us, ys, a1, h, o, p, c => by
    simp only [finA] at h
    cases h
    cases o
    exact ⟨e, c⟩
  | true :: bs, i, vs, x :: xs, xs', e, us, ys, a1, h, o, p, c => by
    cases o with
    | cons g t =>
      rename_i v vs' _ _
      simp only [finA] at h
      split at h
      · rename_i z ez
        obtain ⟨zs, h1, rfl⟩ := Option.map_eq_some_iff.mp h
        have hv : σ[i]? = some (some v) := p (i, v) (by simp [pinsOf])
        have p2 : PinOk (pinsOf bs (i + 1) vs') σ := fun q hq => p q (by simp [pinsOf, hq])
        obtain ⟨v', hv', c1⟩ := c.take ez
        rw [hv] at hv'
        cases hv'
        have eq : ∀ {bs : List Bool} {j : Nat} {xs : List OV} {e : En}, i < j → finA bs j xs (e.set i none) = finA bs j xs e := by
          intro bs
          induction bs with
          | nil => intro j xs e hj; cases xs <;> simp only [finA]
          | cons b bs ih =>
            intro j xs e hj
            cases b with
            | true =>
              cases xs with
              | nil => simp only [finA]
              | cons x xs =>
                simp only [finA]
                rw [List.getElem?_set, if_neg (show i ≠ j by omega), ih (by omega)]
            | false =>
              cases xs with
              | nil => simp only [finA]
              | cons x xs =>
                cases x with
                | d d => simp only [finA]; rw [ih (by omega)]
                | n s zs => simp only [finA]
        have h2 : finA bs (i + 1) xs (e.set i none) = some zs := by rw [eq (Nat.lt_succ_self i)]; exact h1
        have c2 := At.app_comm (vs1 := [v]) (xs1 := [z]) rfl c1
        obtain ⟨e', c3⟩ := fin_ok ex h2 t p2 c2
        rw [← List.append_assoc, ← List.append_assoc] at c3
        have l : (zs ++ ys).length = (vs' ++ us).length := by have := c3.cf.len; simp at this ⊢; omega
        exact ⟨e', At.app_comm (vs2 := [v]) (xs2 := [z]) l c3⟩
      · cases h
  | false :: bs, i, vs, .d d :: xs, xs', e, us, ys, a1, h, o, p, c => by
    cases o with
    | cons g t =>
      simp only [finA] at h
      obtain ⟨zs, h1, rfl⟩ := Option.map_eq_some_iff.mp h
      cases g with
      | d g =>
        obtain ⟨e', c3⟩ := fin_ok ex h1 t (fun q hq => p q (by simpa [pinsOf] using hq)) c
        exact ⟨e', c3.push (dt_ex ex g)⟩
  | false :: bs, i, vs, .n s zs :: xs, xs', e, us, ys, a1, h, o, p, c => by simp only [finA] at h; cases h
  | [], i, vs, x :: xs, xs', e, us, ys, a1, h, o, p, c => by simp only [finA] at h; cases h
  | true :: bs, i, vs, [], xs', e, us, ys, a1, h, o, p, c => by simp only [finA] at h; cases h
  | false :: bs, i, vs, [], xs', e, us, ys, a1, h, o, p, c => by simp only [finA] at h; cases h
theorem At.forget {vs : List V} {xs : List OV} (c : At K A F0 H0 H F vs xs σ env) : At K A F0 H0 H F vs xs [] [] := by
  obtain ⟨st, ⟨⟨a1, a2, h1, h2, nd, off⟩, fh⟩⟩ := c
  exact ⟨st, ⟨⟨a1, [], h1, .nil, by simpa using (List.nodup_append.mp nd).1, fun a ha => off a (List.mem_append_left _ (by simpa using ha))⟩, fh⟩⟩
theorem Oe.start : ∀ {vs : List V} {xs : List OV} {as : List Addr} (n : Nat), Owns K H F vs xs as → Oe K H F (vs.map some ++ List.replicate n none) (xs.map some ++ List.replicate n none) as
  | _, _, _, n, .nil => by
    induction n with
    | zero => exact .nil
    | succ n ih => exact .skip ih
  | _, _, _, n, .cons h t => .cons h (Oe.start n t)
theorem At.begin {vs : List V} {xs : List OV} (c : At K A F0 H0 H F vs xs [] []) (n : Nat) : At K A F0 H0 H F [] [] (vs.map some ++ List.replicate n none) (xs.map some ++ List.replicate n none) := by
  obtain ⟨st, ⟨⟨a1, a2, h1, h2, nd, off⟩, fh⟩⟩ := c
  cases h2
  rw [List.append_nil] at nd off
  exact ⟨st, ⟨⟨[], a1, .nil, Oe.start n h1, nd, off⟩, fh⟩⟩
end
section
variable {P : Program} {w : World} {K : PySem.W.Frag} {mg : Str → Option Value} {base : Heap} {k : Nat} {f : Addr} {fd : FuncData} {ps : List Str} {C : AC} {x qual : Str} {st : Stmt} {N : List Str}
theorem mkA (F : Fun K x qual st f fd) (S : FnScope N ps (defScope st)) (bs : List Bool) {t : AS}
    (body : ∀ (cdv : Value) (A : Around) (outer : List Env) (s : Shared) (H : Hp) (E : XK) (vs : List V),
      (A.deeper (envOfC qual (defScope st) s.heap.objs.size f cdv)).guards = some [] →
      Room k (A.deeper (envOfC qual (defScope st) s.heap.objs.size f cdv)) →
      SSs (cxOf CX0 P w K mg base N qual (defScope st) f cdv A outer s H E).nox (pinsOf bs 0 vs) (defBody st) t)
    (plain : ∀ xs R, C xs R → xs.length = ps.length ∧ t (retD bs xs R) (beg N.length xs)) : Fn P w K mg base CX0 (k + 1) f fd ps (spA K C) := by
  refine Grd.mk F S (fun vs H Q E h => ?_) (fun cdv A outer s H vs Q E gd hr h => ?_)
  · obtain ⟨A, F, xs, R, c, h, _⟩ := h
    rw [← c.cf.len]
    exact (plain xs R h).1
  · refine ⟨_, body cdv A outer s H E vs gd hr, ?_⟩
    obtain ⟨B, F1, xs, R, c, h, k⟩ := h
    obtain ⟨l, h⟩ := plain xs R h
    have lv := c.cf.len
    have e1 : start N vs = vs.map some ++ List.replicate (N.length - vs.length) none := rfl
    have c1 := c.begin (N.length - xs.length)
    rw [e1, ← lv]
    obtain ⟨a1, a2, o1, o2, nd, off⟩ := c.cf.ex
    have pin : PinOk (pinsOf bs 0 vs) (vs.map some ++ List.replicate (N.length - xs.length) none) := fun p hp => by
      obtain ⟨_, _, h3⟩ := pinsOf_mem hp
      have h3 : vs[p.1]? = some p.2 := h3
      have hl := (List.getElem?_eq_some_iff.mp h3).1
      rw [List.getElem?_append_left (by simpa using hl), List.getElem?_map, h3]
      rfl
    refine ⟨B, F1, _, retD bs xs R, pin, c1, h, ⟨fun env' σ' H' F' a b z => ?_, fun y env' v σ' H' F' a b z => ?_, fun _ _ _ _ a => a.elim, fun _ _ _ _ a => a.elim⟩⟩
    · simp only [retD] at a
      split at a
      · rename_i xs' ex
        obtain ⟨e', q⟩ := fin_ok z.st.fr ex o1 b (z.push .non)
        have q2 := q.forget
        have lx : xs'.length = vs.length := by have := q2.cf.len; simp at this; omega
        exact k _ _ _ _ _ a (At.app_comm (vs2 := [V.non]) (xs2 := [OV.d .none]) lx q2)
      · exact a.elim
    · simp only [retD] at a
      split at a
      · rename_i xs' ex
        obtain ⟨e', q⟩ := fin_ok z.st.fr ex o1 b z
        have q2 := q.forget
        have lx : xs'.length = vs.length := by have := q2.cf.len; simp at this; omega
        exact k _ _ _ _ _ a (At.app_comm (vs2 := [v]) (xs2 := [y]) lx q2)
      · exact a.elim
end
end Ow

/-! Ow: zip and enumerate over lists, tuples, texts in any mix. -/
namespace Ow
open PySem L2 Grd PyProof.Rows
open Evl (Ex ex_t ex_l ex_rd)
inductive Src where
  | lst (a : Addr) | tup (a : Addr) | str (z : Str) (t : Tok)
def Src.fp : Src → List Addr
  | .lst a => [a] | .tup a => [a] | .str _ _ => []
def Src.val : Src → Value
  | .lst a => .ref a | .tup a => .ref a | .str z t => .str z t
def Src.obj : Src → Obj
  | .lst a => { cls := .type "list_iterator", data := .fields #[.ref a, .int 0 0] }
  | .tup a => { cls := .type "tuple_iterator", data := .fields #[.ref a, .int 0 0] }
  | .str z t => { cls := .type (strIterType z), data := .fields #[.str z t, .int 0 0] }
def Src.st (s : Src) (it : Addr) (i : Nat) (h : Heap) : Prop := match s with
  | .lst a => h.IsListIter it a i
  | .tup a => h.IsTupleIter it a i
  | .str z t => h.IsStrIter it (strIterType z) z t i
def Src.has (K : PySem.W.Frag) (H : Hp) (s : Src) (ws : List V) : Prop := match s with
  | .lst a => SqL K H a ws
  | .tup a => SqT K H a ws
  | .str z _ => ws = z.cps.toList.map fun c => .str ⟨#[c]⟩
section
variable {X : Cx} {pins : List (Addr × Obj)} {σ : L2.St} {H : Hp} {s : Shared} {src : Src} {ws : List V}
theorem Src.inj {us : List V} (I : Inv X pins σ H s) (h : src.has X.K H ws) (h' : src.has X.K H us) : ws = us := by
  cases src with
  | lst a => exact I.list_inj h h'
  | tup a => exact I.tuple_inj h h'
  | str z t => exact h.trans h'.symm
theorem Src.st_keep {it : Addr} {i : Nat} {h h' : Heap} (st : src.st it i h) (k : ∀ o, h.get? it = some o → h'.get? it = some o) : src.st it i h' := by
  cases src with
  | lst a => exact Heap.IsListIter.at st k
  | tup a => exact Heap.IsTupleIter.at st k
  | str z t => obtain ⟨o, ho, r⟩ := st; exact ⟨o, k o ho, r⟩
theorem Src.st_obj {it : Addr} {i : Nat} {h : Heap} (st : src.st it i h) : ∃ o, h.get? it = some o ∧ ∀ v, o.data ≠ .cell v := by
  cases src with
  | lst a => obtain ⟨o, e, c, d⟩ := st; exact ⟨o, e, fun v z => by rw [d] at z; cases z⟩
  | tup a => obtain ⟨o, e, c, d⟩ := st; exact ⟨o, e, fun v z => by rw [d] at z; cases z⟩
  | str z t => obtain ⟨o, e, c, d⟩ := st; exact ⟨o, e, fun v z => by rw [d] at z; cases z⟩
theorem Src.fp_lt (I : Inv X pins σ H s) (h : src.has X.K H ws) : ∀ b ∈ src.fp, b < s.heap.objs.size := by
  cases src with
  | lst a =>
    obtain ⟨its, rv, p, _⟩ := I.list h
    intro b hb
    simp only [Src.fp, List.mem_singleton] at hb
    subst hb
    exact p.lt
  | tup a =>
    obtain ⟨its, rv, ⟨o, e, _⟩, _⟩ := I.tuple h
    intro b hb
    simp only [Src.fp, List.mem_singleton] at hb
    subst hb
    exact Heap.lt_size e
  | str z t => intro b hb; simp [Src.fp] at hb
/-- what its iterator draws -/
theorem Src.draws {A : Around} (hh : A.handled = none) (I : Inv X pins σ H s) (h : src.has X.K H ws) (it : Addr) (hne : it ∉ src.fp) : ∃ (P : Nat → Value → Prop) (con : Heap → Prop), con s.heap ∧
    Draws X.prog X.w A it (it :: src.fp) ws.length P (fun i h => src.st it i h ∧ con h) ∧ ∀ i v, P i v → ∃ x, ws[i]? = some x ∧ RelV x v := by
  cases src with
  | lst a =>
    obtain ⟨its, rv, p, _⟩ := I.list h
    refine ⟨fun i v => its.toArray[i]? = some v, fun h => h.IsList a its.toArray, p.isList, ?_, fun i v e => ?_⟩
    · have l : ws.length = its.toArray.size := by rw [List.size_toArray]; exact rv.length
      rw [l]
      exact Draws.list hh it a (fun e => hne (by simp [Src.fp, e])) its.toArray
    · have e : its[i]? = some v := by simpa using e
      have lt : i < ws.length := by rw [rv.length]; exact (List.getElem?_eq_some_iff.mp e).1
      obtain ⟨u, hu, ru⟩ := rv.get (List.getElem?_eq_getElem lt)
      rw [e] at hu
      cases hu
      exact ⟨_, List.getElem?_eq_getElem lt, ru⟩
  | tup a =>
    obtain ⟨its, rv, p, _⟩ := I.tuple h
    refine ⟨fun i v => its.toArray[i]? = some v, fun h => h.IsTuple a its.toArray, p, ?_, fun i v e => ?_⟩
    · have l : ws.length = its.toArray.size := by rw [List.size_toArray]; exact rv.length
      rw [l]
      exact Draws.tuple hh it a (fun e => hne (by simp [Src.fp, e])) its.toArray
    · have e : its[i]? = some v := by simpa using e
      have lt : i < ws.length := by rw [rv.length]; exact (List.getElem?_eq_some_iff.mp e).1
      obtain ⟨u, hu, ru⟩ := rv.get (List.getElem?_eq_getElem lt)
      rw [e] at hu
      cases hu
      exact ⟨_, List.getElem?_eq_getElem lt, ru⟩
  | str z t =>
    have h : ws = z.cps.toList.map fun c => .str ⟨#[c]⟩ := h
    subst h
    refine ⟨fun i v => ∃ c u, z.cps[i]? = some c ∧ v = .str ⟨#[c]⟩ u, fun _ => True, trivial, ?_, fun i v e => ?_⟩
    · have D := Draws.text (prog := X.prog) (w := X.w) hh it z t
      refine ⟨fun i h st => D.live i h st.1, fun i h h' st k => ⟨D.frame i h h' st.1 k, trivial⟩, fun i s Q E hi st hQ => D.item i s Q E (by simpa using hi) st.1 fun x h' tk p st' sb => hQ x h' tk p ⟨st', trivial⟩ sb, fun s Q E st hE => D.done s Q E (by have q := st.1; simp only [Src.st, List.length_map, Array.length_toList] at q; exact q) hE⟩
    · obtain ⟨c, u, e1, rfl⟩ := e
      refine ⟨.str ⟨#[c]⟩, ?_, u, rfl⟩
      rw [List.getElem?_map, Array.getElem?_toList, e1]
      rfl
theorem Src.begins (I : Inv X pins σ H s) (h : src.has X.K H ws) : ∃ Hh : Heap → Prop, Begins src.val src.obj Hh ∧ Hh s.heap := by
  cases src with
  | lst a =>
    obtain ⟨its, rv, p, _⟩ := I.list h
    exact ⟨_, begins_list a its.toArray, p.isList⟩
  | tup a =>
    obtain ⟨its, rv, p, _⟩ := I.tuple h
    exact ⟨_, begins_tuple a its.toArray, p⟩
  | str z t => exact ⟨_, begins_text z t, trivial⟩
theorem Src.st0 {it : Addr} {h : Heap} (e : h.get? it = some src.obj) : src.st it 0 h := by
  cases src with
  | lst a => exact ⟨_, e, rfl, rfl⟩
  | tup a => exact ⟨_, e, rfl, rfl⟩
  | str z t => exact ⟨_, e, rfl, rfl⟩
end
/-! ### zip of two -/
def Itz2 (K : PySem.W.Frag) (a b : Src) : It :=
  ⟨fun i H => ∃ xs ys : List V, a.has K H xs ∧ b.has K H ys ∧ i < xs.length ∧ i < ys.length,
    fun i H v H' => ∃ T x y, v = .ref T ∧ H T = none ∧ H' = upd H T (.tup [x, y]) ∧ (∀ xs, a.has K H xs → xs[i]? = some x) ∧ ∀ ys, b.has K H ys → ys[i]? = some y,
    fun i H => ∃ xs ys : List V, a.has K H xs ∧ b.has K H ys ∧ i ≤ xs.length ∧ i ≤ ys.length ∧ (i = xs.length ∨ i = ys.length)⟩
theorem turn_zip2 {P : Program} {w : World} {K : PySem.W.Frag} {elts : List Expr} {kk : Nat} {tpos : Pos} {a b : Src} {z TI TO i1 i2 : Addr} (D : ZipSep2 z TI TO i1 i2 (i1 :: a.fp) (i2 :: b.fp)) (n1 : i1 ∉ a.fp) (n2 : i2 ∉ b.fp) :
    Turn P w K (.Tuple elts kk tpos) (Itz2 K a b) [z, TI, TO, i1, i2] z (fun i h => IsZip h z TI TO .none ∧ IsTupOf2 h TI (.ref i1) (.ref i2) ∧ (∃ x y, IsTupOf2 h TO x y) ∧ a.st i1 i h ∧ b.st i2 i h) where
  mem := by simp
  obj := fun i h st c hc => by
    obtain ⟨hz, hTI, ⟨x, y, hTO⟩, s1, s2⟩ := st
    have e' : c = z ∨ c = TI ∨ c = TO ∨ c = i1 ∨ c = i2 := by simpa using hc
    rcases e' with q | q | q | q | q
    · rw [q]; exact ⟨_, hz, fun v q => nomatch q⟩
    · rw [q]; exact ⟨_, hTI, fun v q => nomatch q⟩
    · rw [q]; exact ⟨_, hTO, fun v q => nomatch q⟩
    · rw [q]; exact (Src.st_obj s1)
    · rw [q]; exact (Src.st_obj s2)
  keep := fun i h h' st k => by
    obtain ⟨hz, hTI, ⟨x, y, hTO⟩, h1, h2⟩ := st
    exact ⟨k z (by simp) _ hz, k TI (by simp) _ hTI, ⟨x, y, k TO (by simp) _ hTO⟩, Src.st_keep h1 fun o q => k i1 (by simp) o q, Src.st_keep h2 fun o q => k i2 (by simp) o q⟩
  item := by
    intro X hP hw hK hc i pins s σ H E I hf st hg
    subst hP hw hK
    obtain ⟨hz, hTI, ⟨x0, y0, hTO⟩, h1, h2⟩ := st
    obtain ⟨xs, ys, hqx, hqy, l1, l2⟩ := hg
    obtain ⟨P1, c1, k1, D1, r1⟩ := Src.draws (A := X.A.in1) (I.ok.hd hc) I hqx i1 n1
    obtain ⟨P2, c2, k2, D2, r2⟩ := Src.draws (A := X.A.in1) (I.ok.hd hc) I hqy i2 n2
    have hzl : z < s.heap.objs.size := Heap.lt_size hz
    refine wpAny_pyNext_zipD2_item D D1 D2 hz hTI hTO ⟨h1, k1⟩ ⟨h2, k2⟩ l1 l2 fun u1 u2 h' tk p1 p2 z' TO' h1' h2' hT hsz hk => ?_
    refine ⟨_, rfl, wpAny_letOwnedTupleGo_zip (s := { s with heap := h', toks := tk }) z' fun h'' z'' sb => ?_⟩
    obtain ⟨x, hx, ru1⟩ := r1 _ _ p1
    obtain ⟨y, hy, ru2⟩ := r2 _ _ p2
    have hT2 : h''.get? s.heap.objs.size = some { cls := .type "tuple", data := .seq #[u1, u2] } := (sb.2 _ (Nat.ne_of_gt hzl)).trans hT
    have new : ObjOk X.prog X.w (upd H s.heap.objs.size (.tup [x, y])) h'' s.heap.objs.size (.tup [x, y]) :=
      ⟨by show 2 ≤ sizeLine; decide, [u1, u2], .cons ru1 (.cons ru2 .nil), ⟨_, hT2, rfl, _, rfl⟩⟩
    have I1 : Inv X pins σ (upd H s.heap.objs.size (.tup [x, y])) { s with heap := h'', toks := tk } :=
      I.turnedNew (t' := tk) (ch := [z, TI, TO, i1, i2]) (fun c o hb q => (sb.2 c (fun q' => hb (by simp [q']))).trans (hk c o (fun q' => hb (by simp [q'])) (fun q' => hb (by simp [q'])) (fun q' => hb (by simp [q'])) (fun q' => hb (by simp [q'])) q)) hf (Nat.le_refl _) new
    refine ⟨.ref s.heap.objs.size, _, I1, rfl, ⟨_, x, y, rfl, I.hok.fresh (Nat.le_refl _), rfl, fun l hl => by rw [Src.inj I hl hqx]; exact hx, fun l hl => by rw [Src.inj I hl hqy]; exact hy⟩, ⟨z'', ?_, ⟨u1, u2, ?_⟩, ?_, ?_⟩, fun c hcm => ?_⟩
    · exact (sb.2 _ D.TIz).trans (hk _ _ D.TIz D.TITO D.TIi1 D.TIi2 hTI)
    · exact (sb.2 _ D.TOz).trans TO'
    · exact Src.st_keep h1'.1 fun o q => (sb.2 _ (Ne.symm D.zi1)).trans q
    · exact Src.st_keep h2'.1 fun o q => (sb.2 _ (Ne.symm D.zi2)).trans q
    · have hlt : c < s.heap.objs.size := by
        have e' : c = z ∨ c = TI ∨ c = TO ∨ c = i1 ∨ c = i2 := by simpa using hcm
        rcases e' with q | q | q | q | q
        · rw [q]; exact hzl
        · rw [q]; exact Heap.lt_size hTI
        · rw [q]; exact Heap.lt_size hTO
        · rw [q]; obtain ⟨_, e1, _⟩ := (Src.st_obj h1); exact Heap.lt_size e1
        · rw [q]; obtain ⟨_, e2, _⟩ := (Src.st_obj h2); exact Heap.lt_size e2
      rw [upd_ne (Nat.ne_of_lt hlt)]
      exact (hf c hcm).1
  done := by
    intro X hP hw hK hc i pins s σ H E I hf st hg
    subst hP hw hK
    obtain ⟨hz, hTI, ⟨x0, y0, hTO⟩, h1, h2⟩ := st
    obtain ⟨xs, ys, hqx, hqy, l1, l2, hend⟩ := hg
    obtain ⟨P1, c1, k1, D1, r1⟩ := Src.draws (A := X.A.in1) (I.ok.hd hc) I hqx i1 n1
    obtain ⟨P2, c2, k2, D2, r2⟩ := Src.draws (A := X.A.in1) (I.ok.hd hc) I hqy i2 n2
    exact wpAny_pyNext_zipD2_end D D1 D2 hz hTI hTO ⟨h1, k1⟩ ⟨h2, k2⟩ l1 l2 hend fun h' tk hk => ⟨rfl, I.turnedL (t' := tk) (ch := [z, TI, TO, i1, i2]) (fun c o hb q =>
      hk c o (fun q' => hb (by simp [q'])) (fun q' => hb (by simp [q'])) (fun q' => hb (by simp [q'])) (fun q' => hb (by simp [q'])) q) hf⟩
  self := fun A i s Q E st h => wpAny_pyIter_zip st.1 h
def Src.rel (s : Src) (v : V) : Prop := match s with
  | .lst a => v = .ref a | .tup a => v = .ref a | .str z _ => v = .str z
theorem Src.relV {s : Src} {v : V} (h : s.rel v) : (∀ u, RelV v u → ∃ s' : Src, s'.val = u ∧ s'.rel v ∧ ∀ K H ws, s.has K H ws → s'.has K H ws) := by
  intro u r
  cases s with
  | lst a => cases (show v = .ref a from h); exact ⟨.lst a, r.symm, rfl, fun _ _ _ q => q⟩
  | tup a => cases (show v = .ref a from h); exact ⟨.tup a, r.symm, rfl, fun _ _ _ q => q⟩
  | str z t => cases (show v = .str z from h); obtain ⟨t', rfl⟩ := r; exact ⟨.str z t', rfl, rfl, fun _ _ _ q => q⟩
def iZip2 (K : PySem.W.Frag) (ta : TA) : TI := fun σ H R => ta σ H fun vs H1 => ∃ v1 v2, vs = [v1, v2] ∧ ∃ (a b : Src) (xs ys : List V), a.rel v1 ∧ b.rel v2 ∧ a.has K H1 xs ∧ b.has K H1 ys ∧
  ∀ a' b' : Src, (∀ K H ws, a.has K H ws → a'.has K H ws) → (∀ K H ws, b.has K H ws → b'.has K H ws) → R (Itz2 K a' b') H1
theorem pi_zip2 {X : Cx} {e e2 : Expr} {ta : TA} {p pos tpos : Pos} {elts : List Expr} {kk : Nat} (hg : Gl X "zip") (hm : X.mg "zip" = none) (ha : PA X [e, e2] ta)
    (hs : starEach [e, e2] X.env = (false, eval e X.env) :: starEach [e2] X.env := by rfl) (hpl : (backTo pos (starEach [e2] X.env)).any (·.1) = false := by rfl) :
    PI X (.Tuple elts kk tpos) (.Call (.Name "zip" p) [e, e2] [] pos) (iZip2 X.K ta) := by
  refine ⟨fun pins s σ H R I h => ?_⟩
  refine Call_ (ld_blt I hg hm PyProof.Rows.boot_zip (PyProof.Rows.callWith_type1 (thn (ha.run pos pins s σ H _ I h) fun us s1 ⟨vs, H1, I1, r1, q1⟩ => ?_) hs hpl))
  obtain ⟨v1, v2, rfl, a0, b0, xs, ys, e1, e2, hx, hy, q⟩ := q1
  cases r1 with
  | cons r rr =>
    cases rr with
    | cons r' rr =>
      cases rr
      obtain ⟨a, rfl, _, ka⟩ := Src.relV e1 _ r
      obtain ⟨b, rfl, _, kb⟩ := Src.relV e2 _ r'
      have hx := ka _ _ _ hx
      have hy := kb _ _ _ hy
      obtain ⟨Ha, Ba, ha⟩ := Src.begins I1 hx
      obtain ⟨Hb, Bb, hb⟩ := Src.begins I1 hy
      have la := Src.fp_lt I1 hx
      have lb := Src.fp_lt I1 hy
      refine zip_begins2 Ba Bb ha hb fun h' hz hTI hTO g1 g2 hsz hk => wpAny_pyIter_zip hz ?_
      have I2 : Inv X pins σ H1 { s1 with heap := h' } := I1.kept (t' := s1.toks) hk
      refine ⟨s1.heap.objs.size + 4, [s1.heap.objs.size + 4, s1.heap.objs.size + 2, s1.heap.objs.size + 3, s1.heap.objs.size, s1.heap.objs.size + 1], _, _, H1, rfl, I2,
        turn_zip2 (zip_sep2 la lb) (fun z => Nat.lt_irrefl _ (la _ z)) (fun z => Nat.lt_irrefl _ (Nat.lt_of_succ_lt (lb _ z))), ⟨hz, hTI, ⟨_, _, hTO⟩, Src.st0 g1, Src.st0 g2⟩, fun c hcm => ?_, q a b ka kb⟩
      have e' : c = s1.heap.objs.size + 4 ∨ c = s1.heap.objs.size + 2 ∨ c = s1.heap.objs.size + 3 ∨ c = s1.heap.objs.size ∨ c = s1.heap.objs.size + 1 := by simpa using hcm
      have hle : s1.heap.objs.size ≤ c := by
        rcases e' with z | z | z | z | z
        · rw [z]; exact Nat.le_add_right _ _
        · rw [z]; exact Nat.le_add_right _ _
        · rw [z]; exact Nat.le_add_right _ _
        · rw [z]; exact Nat.le_refl _
        · rw [z]; exact Nat.le_add_right _ _
      exact I1.fpOk hle (I1.hok.fresh hle)
/-! ### enumerate -/
set_option maxHeartbeats 1000000 in
theorem meets_enum1 {v : Value} {o : Obj} {H : Heap → Prop} (B : Begins v o H) :
    Meets (Builtin.«enumerate.__new__» ⟨[.type "enumerate", v], []⟩) (fun _ R s => H s.heap ∧
      R (.ok (.ret (.ref (s.heap.push o).objs.size))) { s with heap := (s.heap.push o).push { cls := .type "enumerate", data := .fields #[.none, .bool false, .ref s.heap.objs.size, rawInt 0, .none, .none] } }) :=
  .of_wp fun prog w A R s h => by
    obtain ⟨hp, g, d, tk, os⟩ := s; obtain ⟨h1, h⟩ := h
    have hsub := sub_enumerate
    have q1 : ∀ {A' : Around} {E : Value → Shared → Prop} {Q : Value → Shared → Prop}, Q (.ref hp.objs.size) ⟨hp.push o, g, d, tk, os⟩ → wpAny (model prog w) A' (pyIter v) Q E ⟨hp, g, d, tk, os⟩ :=
      fun q => B.iter prog w _ _ ⟨hp, g, d, tk, os⟩ _ h1 q
    wp_walk using q1
    refine wpAny_stack_any fun st => wpAny_pure ?_
    split
    · rename_i c _ _ _ _ _
      cases (c == Value.type "enumerate")
      · wp_walk using q1
        exact ⟨_, rfl, h⟩
      · wp_walk using q1
        exact ⟨_, rfl, h⟩
    · wp_walk using q1
      exact ⟨_, rfl, h⟩
theorem enum_begins1 {prog : Program} {w : World} {A : Around} {E : Value → Shared → Prop} {s : Shared} {v : Value} {o : Obj} {H : Heap → Prop} {Q : Value → Shared → Prop} (B : Begins v o H) (h1 : H s.heap)
    (h : ∀ h', IsEnum h' (s.heap.objs.size + 1) s.heap.objs.size 0 .none → h'.get? s.heap.objs.size = some o → h'.objs.size = s.heap.objs.size + 2 →
      (∀ b o, s.heap.get? b = some o → h'.get? b = some o) → Q (.ref (s.heap.objs.size + 1)) { s with heap := h' }) :
    wpAny (model prog w) A (call (.type "enumerate") [v]) Q E s := by
  refine callType_new F.called_enumerate (by decide) (F.typeCall_enumerate_1 _) (F.newCall_enumerate_1 _) (fun obj => F.args_object_init_2 obj _) F.entry_enumerate_new
    (meets_enum1 B) ⟨h1, ?_⟩
  have hz : (s.heap.push o).objs.size = s.heap.objs.size + 1 := Heap.size_push ..
  show _ ∧ _
  rw [hz]
  have he : IsEnum ((s.heap.push o).push { cls := .type "enumerate", data := .fields #[.none, .bool false, .ref s.heap.objs.size, rawInt 0, .none, .none] }) (s.heap.objs.size + 1) s.heap.objs.size 0 .none := by
    have := Heap.get?_push_size (s.heap.push o) (o := { cls := .type "enumerate", data := .fields #[.none, .bool false, .ref s.heap.objs.size, rawInt 0, .none, .none] }) rfl
    rw [hz] at this; exact this
  refine ⟨⟨_, he, rfl⟩, h _ he (Heap.get?_push_of_some _ (Heap.get?_push_size _ B.free)) (by rw [Heap.size_push, hz]) fun b o x => Heap.get?_push_of_some _ (Heap.get?_push_of_some _ x)⟩
def ItE (K : PySem.W.Frag) (a : Src) : It :=
  ⟨fun i H => ∃ xs : List V, a.has K H xs ∧ i < xs.length,
    fun i H v H' => ∃ T x, v = .ref T ∧ H T = none ∧ H' = upd H T (.tup [.int (i : Nat), x]) ∧ ∀ xs, a.has K H xs → xs[i]? = some x,
    fun i H => ∃ xs : List V, a.has K H xs ∧ i = xs.length⟩
theorem turn_enumS {P : Program} {w : World} {K : PySem.W.Frag} {elts : List Expr} {kk : Nat} {tpos : Pos} {a : Src} {e it : Addr} (hei : e ≠ it) (hef : e ∉ a.fp) (n1 : it ∉ a.fp) :
    Turn P w K (.Tuple elts kk tpos) (ItE K a) [e, it] e (fun i h => (∃ old, IsEnum h e it ((i : Nat) : Int) old) ∧ a.st it i h) where
  mem := by simp
  obj := fun i h st b hb => by
    obtain ⟨⟨old, he⟩, s1⟩ := st
    have e' : b = e ∨ b = it := by simpa using hb
    rcases e' with z | z
    · rw [z]; exact ⟨_, he, fun v q => nomatch q⟩
    · rw [z]; exact (Src.st_obj s1)
  keep := fun i h h' st k => let ⟨⟨old, he⟩, hi⟩ := st; ⟨⟨old, k e (by simp) _ he⟩, Src.st_keep hi fun o q => k it (by simp) o q⟩
  item := by
    intro X hP hw hK hc i pins s σ H E I hf st hg
    subst hP hw hK
    obtain ⟨⟨old, he⟩, hit⟩ := st
    obtain ⟨xs, hq, hx⟩ := hg
    obtain ⟨P1, c1, k1, D1, r1⟩ := Src.draws (A := X.A.in1) (I.ok.hd hc) I hq it n1
    have hel : e < s.heap.objs.size := Heap.lt_size he
    have hil : it < s.heap.objs.size := by obtain ⟨_, q, _⟩ := (Src.st_obj hit); exact Heap.lt_size q
    have hef2 : e ∉ it :: a.fp := fun z => by
      rcases List.mem_cons.mp z with z | z
      · exact hei z
      · exact hef z
    refine wpAny_pyNext_enum_itemD D1 he ⟨hit, k1⟩ hx hei hef2 fun u h' tk p1 ho hit' hT hsz hk => ?_
    obtain ⟨x, hxi, ru⟩ := r1 _ _ p1
    refine ⟨_, rfl, wpAny_letOwnedTupleGo_enum (s := { s with heap := h', toks := tk + 1 }) ho fun h'' he' sb => ?_⟩
    have hT2 : h''.get? s.heap.objs.size = some { cls := .type "tuple", data := .seq #[.int i tk, u] } := (sb.2 _ (Nat.ne_of_gt hel)).trans hT
    have new : ObjOk X.prog X.w (upd H s.heap.objs.size (.tup [.int (i : Nat), x])) h'' s.heap.objs.size (.tup [.int (i : Nat), x]) :=
      ⟨by show 2 ≤ sizeLine; decide, [.int i tk, u], .cons ⟨_, rfl⟩ (.cons ru .nil), ⟨_, hT2, rfl, _, rfl⟩⟩
    have I1 : Inv X pins σ (upd H s.heap.objs.size (.tup [.int (i : Nat), x])) { s with heap := h'', toks := tk + 1 } :=
      I.turnedNew (ch := [e, it]) (fun b ob hb q => (sb.2 b (fun z => hb (by simp [z]))).trans (hk b ob (fun z => hb (by simp [z])) (fun z => hb (by simp [z])) q)) hf (Nat.le_refl _) new
    refine ⟨.ref s.heap.objs.size, _, I1, rfl, ⟨_, x, rfl, I.hok.fresh (Nat.le_refl _), rfl, fun ys hy => by rw [Src.inj I hy hq]; exact hxi⟩, ⟨⟨u, ?_⟩, Src.st_keep hit'.1 fun o q => (sb.2 it (Ne.symm hei)).trans q⟩, fun b hb => ?_⟩
    · have e1 : ((i + 1 : Nat) : Int) = (i : Int) + 1 := by omega
      rw [e1]; exact he'
    · have hb' : b < s.heap.objs.size := by
        have e' : b = e ∨ b = it := by simpa using hb
        rcases e' with z | z
        · rw [z]; exact hel
        · rw [z]; exact hil
      rw [upd_ne (Nat.ne_of_lt hb')]
      exact (hf b hb).1
  done := by
    intro X hP hw hK hc i pins s σ H E I hf st hg
    subst hP hw hK
    obtain ⟨⟨old, he⟩, hit⟩ := st
    obtain ⟨xs, hq, hx⟩ := hg
    subst hx
    obtain ⟨P1, c1, k1, D1, r1⟩ := Src.draws (A := X.A.in1) (I.ok.hd hc) I hq it n1
    obtain ⟨f0, f1, f2, f3, f4, f5⟩ := hf it (by simp)
    exact wpAny_pyNext_enum_endD D1 he ⟨hit, k1⟩ fun h' eb => ⟨rfl, I.turned (t' := s.toks) (fun b o hb q => eb b o hb q) f0 f1 f3 f4 f5⟩
  self := fun A i s Q E st h => let ⟨⟨_, he⟩, _⟩ := st; wpAny_pyIter_enum he h
def iEnumS (K : PySem.W.Frag) (ta : TA) : TI := fun σ H R => ta σ H fun vs H1 => ∃ v1, vs = [v1] ∧ ∃ (a : Src) (xs : List V), a.rel v1 ∧ a.has K H1 xs ∧
  ∀ a' : Src, (∀ K H ws, a.has K H ws → a'.has K H ws) → R (ItE K a') H1
theorem pi_enumS {X : Cx} {e : Expr} {ta : TA} {p pos tpos : Pos} {elts : List Expr} {kk : Nat} (hg : Gl X "enumerate") (hm : X.mg "enumerate" = none) (ha : PA X [e] ta) (hs : starEach [e] X.env = [(false, eval e X.env)] := by rfl) :
    PI X (.Tuple elts kk tpos) (.Call (.Name "enumerate" p) [e] [] pos) (iEnumS X.K ta) := by
  refine ⟨fun pins s σ H R I h => ?_⟩
  refine Call_ (ld_blt I hg hm boot_enumerate (PyProof.Rows.callWith_type1 (thn (ha.run pos pins s σ H _ I h) fun us s1 ⟨vs, H1, I1, r1, q1⟩ => ?_) hs rfl))
  obtain ⟨v1, rfl, a0, xs, e1, hx, q⟩ := q1
  cases r1 with
  | cons r rr =>
    cases rr
    obtain ⟨a, rfl, _, ka⟩ := Src.relV e1 _ r
    have hx := ka _ _ _ hx
    obtain ⟨Ha, Ba, ha⟩ := Src.begins I1 hx
    have la := Src.fp_lt I1 hx
    refine enum_begins1 Ba ha fun h' he g1 hsz hk => wpAny_pyIter_enum he ?_
    have I2 : Inv X pins σ H1 { s1 with heap := h' } := I1.kept (t' := s1.toks) hk
    refine ⟨s1.heap.objs.size + 1, [s1.heap.objs.size + 1, s1.heap.objs.size], _, _, H1, rfl, I2, turn_enumS (a := a) (Nat.succ_ne_self _) (fun z => Nat.lt_irrefl _ (Nat.lt_of_succ_lt (la _ z))) (fun z => Nat.lt_irrefl _ (la _ z)), ⟨⟨.none, he⟩, Src.st0 g1⟩, fun b hb => ?_, q a ka⟩
    have e' : b = s1.heap.objs.size + 1 ∨ b = s1.heap.objs.size := by simpa using hb
    have hle : s1.heap.objs.size ≤ b := by
      rcases e' with z | z
      · rw [z]; exact Nat.le_add_right _ _
      · rw [z]; exact Nat.le_refl _
    exact I1.fpOk hle (I1.hok.fresh hle)
/-! ### over plain data -/
def sfd (x : OV) : Option (List PyData) := (frz x).bind sit
def zipD (xs ys : List PyData) : List PyData := (xs.zip ys).map fun p => .tuple [p.1, p.2]
def enumD (xs : List PyData) : List PyData := xs.zipIdx.map fun p => .tuple [.int p.2, p.1]
def aZip2 (ta tb : AE) : AI := fun env Q => ta env fun x e1 => tb e1 fun y e2 => match sfd x, sfd y with
  | some xs, some ys => Q (zipD xs ys) e2
  | _, _ => False
def aEnum (ta : AE) : AI := fun env Q => ta env fun x e1 => match sfd x with
  | some xs => Q (enumD xs) e1
  | none => False
section
variable {K : PySem.W.Frag} {A : Addr → Prop} {F0 F F' : FS} {H0 H H' : Hp} {v u : V} {vs us : List V} {x y : OV} {xs ys : List OV} {σ : L2.St} {env : En}
theorem srcOf {d : PyData} {ds : List PyData} (h : Dt K (rs H F) v d) (e : sit d = some ds) : ∃ (a : Src) (ws : List V), a.rel v ∧ a.has K (rs H F) ws ∧ Dts K (rs H F) ws ds := by
  cases h with
  | @lst a ws _ h t => cases e; exact ⟨.lst a, ws, rfl, .of h, t⟩
  | @tup a ws _ h t => cases e; exact ⟨.tup a, ws, rfl, h, t⟩
  | str z =>
    cases e
    refine ⟨.str z 0, _, rfl, rfl, ?_⟩
    unfold chD
    induction z.cps.toList with
    | nil => exact .nil
    | cons c l ih => exact .cons (.str _) ih
  | non => cases e
  | bl b => cases e
  | int i => cases e
theorem Src.ex {a : Src} {H H' : Hp} {ws : List V} (e : Ex H H') (h : a.has K H ws) : a.has K H' ws := by
  cases a with
  | lst a => exact ex_l e h
  | tup a => exact ex_t e h
  | str z t => exact h
theorem iter_zip2 {a b : Src} {w1 w2 : List V} {d1 d2 : List PyData} (ha : a.has K (rs H F) w1) (hb : b.has K (rs H F) w2) (t1 : Dts K (rs H F) w1 d1) (t2 : Dts K (rs H F) w2 d2) : Iter K H F (Itz2 K a b) (zipD d1 d2) := ⟨fun ex c i => by
  have h1 := Src.ex (ex.trans rs_ex) ha
  have h2 := Src.ex (ex.trans rs_ex) hb
  have l1 := t1.len
  have l2 := t2.len
  refine ⟨fun d hd => ?_, fun hl => ?_⟩
  · unfold zipD at hd
    rw [List.getElem?_map] at hd
    obtain ⟨p, h3, rfl⟩ := Option.map_eq_some_iff.mp hd
    obtain ⟨p1, p2⟩ := p
    rw [List.getElem?_zip_eq_some] at h3
    obtain ⟨x1, e1, dx1⟩ := t1.at h3.1
    obtain ⟨x2, e2, dx2⟩ := t2.at h3.2
    refine ⟨⟨w1, w2, h1, h2, (List.getElem?_eq_some_iff.mp e1).1, (List.getElem?_eq_some_iff.mp e2).1⟩, fun x H3 y => ?_⟩
    obtain ⟨T, y1, y2, rfl, hT, rfl, f1, f2⟩ := y
    have g1 := f1 _ h1
    have g2 := f2 _ h2
    rw [e1] at g1
    rw [e2] at g2
    cases g1
    cases g2
    exact c.newT (.cons (dt_ex ex dx1) (.cons (dt_ex ex dx2) .nil)) hT
  · unfold zipD at hl
    rw [List.length_map, List.length_zip] at hl
    exact ⟨w1, w2, h1, h2, by omega, by omega, by omega⟩⟩
theorem iter_enum {a : Src} {w1 : List V} {d1 : List PyData} (ha : a.has K (rs H F) w1) (t1 : Dts K (rs H F) w1 d1) : Iter K H F (ItE K a) (enumD d1) := ⟨fun ex c i => by
  have h1 := Src.ex (ex.trans rs_ex) ha
  have l1 := t1.len
  refine ⟨fun d hd => ?_, fun hl => ?_⟩
  · unfold enumD at hd
    rw [List.getElem?_map] at hd
    obtain ⟨p, h3, rfl⟩ := Option.map_eq_some_iff.mp hd
    rw [List.getElem?_zipIdx] at h3
    obtain ⟨d0, h4, rfl⟩ := Option.map_eq_some_iff.mp h3
    obtain ⟨x1, e1, dx1⟩ := t1.at h4
    refine ⟨⟨w1, h1, (List.getElem?_eq_some_iff.mp e1).1⟩, fun x H3 y => ?_⟩
    obtain ⟨T, y1, rfl, hT, rfl, f1⟩ := y
    have g1 := f1 _ h1
    rw [e1] at g1
    cases g1
    simp only [Nat.zero_add]
    exact c.newT (.cons (.int _) (.cons (dt_ex ex dx1) .nil)) hT
  · unfold enumD at hl
    rw [List.length_map, List.length_zipIdx] at hl
    exact ⟨w1, h1, by omega⟩⟩
end
section
variable {X : Cx} {a b : Expr} {ta tb : AE} {pos p tpos : Pos} {elts : List Expr} {kk : Nat}
theorem si_zip2 (hg : Gl X "zip") (hm : X.mg "zip" = none) (ha : SE X a ta) (hb : SE X b tb) (hs : starEach [a, b] X.env = (false, eval a X.env) :: starEach [b] X.env := by rfl) (hs2 : starEach [b] X.env = [(false, eval b X.env)] := by rfl) (hpl : (backTo pos (starEach [b] X.env)).any (·.1) = false := by rfl) :
    SI X (.Tuple elts kk tpos) (.Call (.Name "zip" p) [a, b] [] pos) (aZip2 ta tb) :=
  piTo (pi_zip2 hg hm (pa_cons ha (pa_cons hb pa_nil hs2) hs) hs hpl) fun σ H R ⟨A, F, env, R', c, h, k⟩ => ev c h fun x e1 v H1 F1 h1 c1 => ev c1 h1 fun y e2 u H2 F2 h2 c2 => by
    split at h2
    · rename_i xs ys ex ey
      obtain ⟨d1, f1, g1⟩ := Option.bind_eq_some_iff.mp ex
      obtain ⟨d2, f2, g2⟩ := Option.bind_eq_some_iff.mp ey
      obtain ⟨F3, c3⟩ := c2.fix2 f2 f1
      obtain ⟨s1, w1, r1, k1, t1⟩ := srcOf c3.swap.dp g1
      obtain ⟨s2, w2, r2, k2, t2⟩ := srcOf c3.dp g2
      exact ⟨v, u, rfl, s1, s2, w1, w2, r1, r2, Src.ex rs_ex k1, Src.ex rs_ex k2, fun a' b' q1 q2 => k _ _ _ _ F3 h2 c3.pop.pop (iter_zip2 (q1 _ _ _ k1) (q2 _ _ _ k2) t1 t2)⟩
    · exact h2.elim
theorem si_enum (hg : Gl X "enumerate") (hm : X.mg "enumerate" = none) (ha : SE X a ta) (hs : starEach [a] X.env = [(false, eval a X.env)] := by rfl) :
    SI X (.Tuple elts kk tpos) (.Call (.Name "enumerate" p) [a] [] pos) (aEnum ta) :=
  piTo (pi_enumS hg hm (pa_cons ha pa_nil hs) hs) fun σ H R ⟨A, F, env, R', c, h, k⟩ => ev c h fun x e1 v H1 F1 h1 c1 => by
    split at h1
    · rename_i xs ex
      obtain ⟨d1, f1, g1⟩ := Option.bind_eq_some_iff.mp ex
      obtain ⟨F3, c3⟩ := c1.fix f1
      obtain ⟨s1, w1, r1, k1, t1⟩ := srcOf c3.dp g1
      exact ⟨v, rfl, s1, w1, r1, Src.ex rs_ex k1, fun a' q1 => k _ _ _ _ F3 h1 c3.pop (iter_enum (q1 _ _ _ k1) t1)⟩
    · exact h1.elim
end
end Ow

/-! max(xs, default=d), sum(xs, start=c) -/
namespace Grd
open PySem L2 PyProof.Rows
section
variable {prog : Program} {w : World} {A : Around} {E : Value → Shared → Prop} {s : Shared} {l : Addr} {its : List Value} {ns : List Int} {Q : Value → Shared → Prop}
theorem maxD_raw {d : Value} (hh : A.handled = none) (hl : s.heap.IsList l its.toArray) (hi : IntsAre its ns)
    (h0 : ns = [] → ∀ (h' : Heap) (tk : Nat), (∀ b o, s.heap.get? b = some o → h'.get? b = some o) → Q d { s with heap := h', toks := tk })
    (h : ∀ (h' : Heap) (tk : Nat) (M : Int) (t' : Tok), (∀ b o, s.heap.get? b = some o → h'.get? b = some o) → M ∈ ns → (∀ a, a ∈ ns → a ≤ M) → Q (.int M t') { s with heap := h', toks := tk }) :
    wpAny (model prog w) A (call (.builtin "max") [.ref l] [(Str.ofString "default", d)]) Q E s := by
  obtain ⟨xs, e⟩ := hi.allInts.items
  have hn : numsOf (intItems xs).toList = ns := by rw [← e]; exact hi.numsOf
  rw [nums_intItems] at hn
  subst hn
  rw [e] at hl
  refine call_max_walkD (iter_intList hl fun s2 es st hfp hlI => ?_)
  subst es
  have fin : ∀ {s' : Shared} {R : Shared → Prop}, Moved [s.heap.objs.size] (fun a b => b = a) { s with heap := s.heap.push { cls := .type "list_iterator", data := .fields #[.ref l, .int 0 0] } } s' →
      (∀ (h' : Heap) (tk : Nat), (∀ b o, s.heap.get? b = some o → h'.get? b = some o) → R { s with heap := h', toks := tk }) → R s' := by
    intro s' R hm hR
    obtain ⟨h', g', d', t', o'⟩ := s'
    obtain ⟨m1, m2, m3, m4, _⟩ := hm
    have m2 : g' = s.gens := m2
    have m3 : d' = s.drawn := m3
    have m4 : o' = s.os := m4
    subst m2 m3 m4
    exact hR h' t' (old_kept fun b o hb eb => m1 b o hb eb)
  refine ⟨_, _, _, _, _, _, _, s.heap, fun i j => decide (numAt xs i > numAt xs j), rfl, (Walks.list (A := A.in1) hh _ l hlI (intItems xs)).toS, st, hfp, fun b o eb hb => ?_, fun b o eb => Heap.get?_push_of_some _ eb, fun hn s' hm => ?_, fun hn => ⟨?_, fun v s' hv hm => ?_⟩⟩
  · rw [List.mem_singleton] at hb
    rw [hb] at eb
    exact absurd (Heap.lt_size eb) (Nat.lt_irrefl _)
  · refine fin (R := Q d) hm (h0 ?_)
    have z : xs.size = 0 := by simpa [intItems] using hn
    have z2 : xs = #[] := Array.eq_empty_of_size_eq_zero z
    rw [z2]
    rfl
  · intro i j vi vj s1 Q1 E1 _ hi hj hq
    exact CmpOf.ints_gt (numAt xs) (fun _ _ => intItems_at) i j vi vj s1 Q1 E1 hi hj hq
  · obtain ⟨t, rfl⟩ := intItems_at hv
    have sz : (intItems xs).size = xs.size := by simp [intItems]
    rw [sz] at hn ⊢
    obtain ⟨h1, h2⟩ := argBest_gt (numAt xs) (xs.size - 1)
    refine fin (R := fun s' => Q _ s') hm fun h' tk kp => h h' tk _ t kp ?_ fun a ha => ?_
    · rw [numAt_eq]; exact PySem.getD_mem (by rw [List.length_map, Array.length_toList]; omega)
    · obtain ⟨j, hj, rfl⟩ := mem_getD ha
      rw [List.length_map, Array.length_toList] at hj
      rw [← numAt_eq]; exact h2 j (by omega)

/-! sum from c on: the walk with one more ahead -/
def upP (c : Int) (P : Nat → Value → Prop) : Nat → Value → Prop
  | 0, v => ∃ t, v = .int c t
  | i + 1, v => P i v
def upS (St : Nat → Heap → Prop) : Nat → Heap → Prop
  | 0, _ => False
  | i + 1, h => St i h
def upV (c : Int) (val : Nat → Int) : Nat → Int
  | 0 => c
  | i + 1 => val i
theorem up_sum (c : Int) (val : Nat → Int) : ∀ n, preSum (upV c val) (n + 1) = c + preSum val n
  | 0 => by simp [preSum, upV]
  | n + 1 => by
    rw [preSum, up_sum c val n]
    show c + preSum val n + val n = c + (preSum val n + val n)
    omega
theorem up_walk {I : Addr} {fp wr : List Addr} {n : Nat} {P : Nat → Value → Prop} {St : Nat → Heap → Prop} (c : Int) (W : Walks prog w A I fp wr n P St) : Walks prog w A I fp wr (n + 1) (upP c P) (upS St) where
  sub := W.sub
  frame := fun i h h' st e => match i, st with
    | i + 1, st => W.frame i h h' st e
  item := fun i s Q E hi st hQ => match i, hi, st, hQ with
    | i + 1, hi, st, hQ => W.item i s Q E (by omega) st fun v h' tk hp hst hb => hQ v h' tk hp hst hb
  done := fun s Q E st hQ => W.done s Q E st hQ
  self := fun i s Q E st hQ => match i, st with
    | i + 1, st => W.self i s Q E st hQ
theorem args_sum_start (a c : Value) : argsOk "sum" ⟨[a], [(Str.ofString "start", c)]⟩ := by unfold argsOk; kernel_rfl
theorem sumS_raw {c : Int} {t0 : Tok} (hh : A.handled = none) (hl : s.heap.IsList l its.toArray) (hi : IntsAre its ns)
    (h : ∀ (h' : Heap) (tk : Nat) (t' : Tok), (∀ b o, s.heap.get? b = some o → h'.get? b = some o) → Q (.int (c + ns.sum) t') { s with heap := h', toks := tk }) :
    wpAny (model prog w) A (call (.builtin "sum") [.ref l] [(Str.ofString "start", .int c t0)]) Q E s := by
  obtain ⟨xs, e⟩ := hi.allInts.items
  have hn : numsOf (intItems xs).toList = ns := by rw [← e]; exact hi.numsOf
  rw [nums_intItems] at hn
  rw [e] at hl
  refine kmk_tree F.kind_sum F.plain_sum F.entry_sum (args_sum_start _ _) ?_
  unfold Builtin.«sum»
  rw [if_neg (by show ¬ (1 + 1 > 2); decide)]
  refine wpAny_bind (wpAny_of_eq (show Builtin.Builtins.bindParams "sum" ["start"] 0 ⟨[], [(Str.ofString "start", .int c t0)]⟩ = pure [some (.int c t0)] from rfl) ?_)
  refine wpAny_bind (iter_intList hl fun s2 es st hfp hlI => ?_)
  have rest : ∀ (t : Tok) (stage : Int) (tk : Nat), (stage = 0 ∨ stage = 2) → wpAny (model prog w) A.in1 (do
      for (ty, what, hint) in [("str", "strings", "''"), ("bytes", "bytes", "b''"), ("bytearray", "bytearray", "b''")] do
        if ← isInstance (Value.int c t) (.type ty) then
          rule "sum.start-refused"; raiseError "TypeError" s!"sum() can't sum {what} [use {hint}.join(seq) instead]"
      again (.builtin "sum.loop" ⟨[.ref s.heap.objs.size, ← newList [.int c t], rawInt stage, rawInt 0], []⟩) : Sem PySem.Fin) (fun fin s' => match fin with
      | .done f => (match (Except.ok f : Result) with | .ok (.ret v) => Q v s' | .ok _ => False | .error e => E e s')
      | .again c' => c'.quiet = true ∧ codeAny (model prog w) A c' (fun r s' => match r with | .ok (.ret v) => Q v s' | .ok _ => False | .error e => E e s') s') E { s2 with toks := tk } := by
    intro t stage tk hst
    simp only [List.forIn_cons, List.forIn_nil]
    refine wpAny_bind (wpAny_bind (wpAny_bind (wpAny_isInstance (T := "int") (b := false) (typeIs_int _ _ _) PySem.sub_int_str ?_))); rw [if_neg (by decide)]
    refine wpAny_pure (wpAny_bind (wpAny_bind (wpAny_isInstance (T := "int") (b := false) (typeIs_int _ _ _) PySem.sub_int_bytes ?_))); rw [if_neg (by decide)]
    refine wpAny_pure (wpAny_bind (wpAny_bind (wpAny_isInstance (T := "int") (b := false) (typeIs_int _ _ _) PySem.sub_int_bytearray ?_))); rw [if_neg (by decide)]
    refine wpAny_pure (wpAny_pure (wpAny_bind (wpAny_newObj_type ?_)))
    have W := up_walk c (Walks.list (prog := prog) (w := w) (A := A.in1) hh s.heap.objs.size l hlI (intItems xs))
    have hSf : s2.heap.objs.size ∉ [s.heap.objs.size, l] := fun hm => Nat.lt_irrefl _ (hfp _ hm)
    refine wpAny_pure ⟨plainId_quiet F.plain_sum_loop _, codeAny_sum_loopG W (upV c (numAt xs)) (fun i v hv => ?_) s2.heap.objs.size hSf _ 1 _ t 0 stage hst rfl (by omega) (W.frame 1 _ _ st fun b _ o eb => Heap.get?_push_of_some _ eb) ?_ fun h' tk' t' hk => ?_⟩
    · match i, hv with
      | 0, hv => exact hv
      | i + 1, hv => exact intItems_at hv
    · have q : preSum (upV c (numAt xs)) 1 = c := by simp [preSum, upV]
      rw [q]
      exact Heap.get?_push_size _ rfl
    · have sz : (intItems xs).size = xs.size := by simp [intItems]
      rw [up_sum, sz, preSum_eq, List.take_of_length_le (by simp), hn]
      subst es
      exact h h' tk' t' (old_kept fun b o hb eb => hk b o hb (fun z => by rw [z] at eb; exact absurd (Heap.lt_size eb) (Nat.lt_irrefl _)) (Heap.get?_push_of_some _ eb))
  have e1 : s2.toks = s2.toks := rfl
  dsimp only
  split
  · refine wpAny_bind (wpAny_rule (wpAny_bind (wpAny_mkInt (wpAny_bind (wpAny_pure ?_)))))
    exact rest _ 0 _ (.inl rfl)
  · refine wpAny_bind (wpAny_pure ?_)
    exact rest _ 2 _ (.inr rfl)
end
end Grd

/-! keywords; s.rpartition(t); max(xs, default=d), sum(xs, start=c) as hand rules -/
namespace Grd
open PySem L2 PyProof.Rows
section
variable {X : Cx}
/-- max(xs, default=d) -/
theorem crK_max (hc : X.calm = true) : CallRK X (.builtin "max") [Str.ofString "default"] (fun vs zs H Q => ∃ (a : Addr) (ns : List Int) (d : Int), vs = [V.ref a] ∧ zs = [V.int d] ∧ SqL X.K H a (ns.map V.int) ∧
    (ns = [] → Q (.int d) H) ∧ ∀ m, m ∈ ns → (∀ y, y ∈ ns → y ≤ m) → Q (.int m) H) := by
  intro pins s σ H vs zs us ws Q I r rz h
  obtain ⟨a, ns, d, rfl, rfl, hs, q0, q⟩ := h
  obtain ⟨its, rv, hl, _⟩ := I.list hs
  obtain rfl := Vals.ref1 r
  obtain ⟨w1, rfl, t1, e1⟩ := vals1 rz
  subst e1
  exact maxD_raw (I.ok.hd hc) hl.isList rv.ints (fun e h' tk kp => ⟨.int d, H, I.kept kp, ⟨_, rfl⟩, q0 e⟩) fun h' tk m t' kp h1 h2 => ⟨.int m, H, I.kept kp, ⟨_, rfl⟩, q m h1 h2⟩
/-- sum(xs, start=c) -/
theorem crK_sum (hc : X.calm = true) : CallRK X (.builtin "sum") [Str.ofString "start"] (fun vs zs H Q => ∃ (a : Addr) (ns : List Int) (c : Int), vs = [V.ref a] ∧ zs = [V.int c] ∧ SqL X.K H a (ns.map V.int) ∧ Q (.int (c + ns.sum)) H) := by
  intro pins s σ H vs zs us ws Q I r rz h
  obtain ⟨a, ns, d, rfl, rfl, hs, q⟩ := h
  obtain ⟨its, rv, hl, _⟩ := I.list hs
  obtain rfl := Vals.ref1 r
  obtain ⟨w1, rfl, t1, e1⟩ := vals1 rz
  subst e1
  exact sumS_raw (I.ok.hd hc) hl.isList rv.ints fun h' tk t' kp => ⟨.int _, H, I.kept kp, ⟨_, rfl⟩, q⟩
/-- x.rpartition(sep) -/
def rpart (a b : Str) : Str × Str × Str := match Builtin.Str.lastOccurrence a b 0 a.length with
  | some i => (Builtin.Str.strSub a 0 i, b, Builtin.Str.strSub a (i + b.length) a.length)
  | none => (Str.empty, Str.empty, a)
def rRpart : V → List V → Hp → VK → Prop := fun x xs H Q => ∃ a b, x = .str a ∧ xs = [.str b] ∧ (b.length == 0) = false ∧ a.length ≤ sizeLine ∧
    ∀ p, H p = none → Q (.ref p) (upd H p (.tup [.str (rpart a b).1, .str (rpart a b).2.1, .str (rpart a b).2.2]))
theorem mt_rpart : MtR X "str.rpartition" rRpart := by
  intro pins s σ H x xs v us Q I rx rs h
  obtain ⟨a, b, rfl, rfl, hb, hz, h⟩ := h
  obtain ⟨t, rfl⟩ := rx
  cases rs with
  | cons r1 rs =>
    cases rs
    obtain ⟨u, rfl⟩ := r1
    refine call_meets PySem.F.slot_str_rpartition (typeIs_str _ _ _) PySem.F.entry_str_rpartition (PySem.F.args_str_rpartition_2 _ _) (meets_str_rpartition a b t u hb hz) ?_
    unfold rpart at h
    revert h
    cases Builtin.Str.lastOccurrence a b 0 a.length with
    | none => intro h; exact laid_parts I h
    | some i => intro h; exact laid_parts I h
theorem pe_rpart {o e : Expr} {to te : TE} {apos pos : Pos} (ho : PE X o to) (he : PE X e te) (hs : starEach [e] X.env = [(false, eval e X.env)] := by rfl) (hbase : attributeBase o "rpartition" X.env (eval o X.env) = eval o X.env := by rfl) (hline : (apos.endLine == pos.line) = true := by rfl) :
    PE X (.Call (.Attribute o "rpartition" apos) [e] [] pos) (tM1 rRpart to te) := pe_m1 PySem.F.slot_str_rpartition PySem.F.type_str_rpartition mt_rpart ho he hs hbase hline
end
section
variable {X : Cx} {CX : CXT} {k : Nat} {f : Addr} {fd : FuncData} {ps ks : List Str} {sp : Sp} {E : XK} {x : Str} {p pos : Pos} {e : Expr} {es : List Expr} {kws : List Keyword} {t tk : TA}
  {g : List Value → List Value → List Value} {gV : List V → List V → List V}
/-- f(e, .., k = v, ..), where no repr goes on -/
theorem pe_callGK (F : Fn X.prog X.w X.K X.mg X.base CX k f fd ps sp) (gd : X.A.guards = some []) (hr : Room k X.A) (hg : Gl X x) (hm : X.mg x = some (.ref f)) (hk : PySem.W.keepIn X.K (.ref f) = true) (hb : KBinds X.K fd ps ks g gV) (hx : Passes CX X E)
    (ha : PA X (e :: es) t) (hkw : PK X kws tk) (hall : (backToKw pos (keywordEach kws X.env)).all (·.1.isSome) = true := by rfl) (hks : (backToKw pos (keywordEach kws X.env)).filterMap (·.1) = ks := by rfl)
    (hdb : (x == ("__debug__" : Str)) = false := by decide) (he : starEach (e :: es) X.env = (false, eval e X.env) :: starEach es X.env := by rfl)
    (hpl : ((backTo pos (starEach (e :: es) X.env)).any (·.1) || (backToKw pos (keywordEach kws X.env)).any (·.1.isNone)) = false := by rfl) :
    PE X (.Call (.Name x p) (e :: es) kws pos) (tCallK sp gV E t tk) := by
  constructor
  intro pins s σ H Q I h
  refine wpAny_Call_Name_kw (ld_glob I hg hm ?_ hdb)
  have z := thn (Q' := fun us s1 => wpAny (model X.prog X.w) X.A (evalAll ((backToKw pos (keywordEach kws X.env)).map (·.2))) (fun ws s2 => X.K.In s2.heap ∧ wpAny (model X.prog X.w) X.A (call (.ref f) us (ks.zip ws)) (EP X pins σ Q) X.xe s2) X.xe s1)
    (ha.run pos pins s σ H _ I h) (by
      rintro us s1 ⟨vs, H1, I1, r, q⟩
      refine thn (hkw.run pos pins s1 σ H1 _ I1 q) ?_
      rintro ws s2 ⟨zs, H2, I2, rz, q2⟩
      refine ⟨I2.kIn, ?_⟩
      have r2 := hb.rel r rz
      have ll : (g us ws).length = ps.length := r2.length.symm.trans (F.len _ _ _ _ q2)
      refine wpAny_call (codeAny_mono (F.run X.A X.stack s2 H2 ⟨us, ks.zip ws⟩ (g us ws) (gV vs zs) Q E gd hr I2.env0 (hb.to s2 us ws I2.kIn ll) r2 q2) ?_)
      intro rr s' hq
      match rr, hq with
      | .error e, hq => exact hx pins σ H2 s2 e s' I2 hq
      | .ok (.ret u), hq => exact I2.after hq
      | .ok .next, hq => exact hq.elim
      | .ok .brk, hq => exact hq.elim
      | .ok .cont, hq => exact hq.elim)
  refine PySem.W.callWith_KW (h₀ := X.base) I.ok.mod.kin hk hall ?_ hpl he
  rw [hks]
  exact z
end
/-! xs[::2] of three -/
def tStep2 (K : PySem.W.Frag) (te : TE) : TE := fun σ H Q => te σ H fun x H1 => ∃ a x0 x1 x2, x = .ref a ∧ SqL K H1 a [x0, x1, x2] ∧ ∀ p, H1 p = none → Q (.ref p) (upd H1 p (.lst [x0, x2]))
theorem pe_step2 {X : Cx} {e : Expr} {te : TE} {k : Nat} {p1 p3 pos : Pos} (he : PE X e te) : PE X (.Subscript e (.Slice none none (some (.Constant (.int 2) k p1)) p3) pos) (tStep2 X.K te) := by
  constructor
  intro pins s σ H Q I h
  refine Subscript_ (thn (he.run pins s σ H _ I h) ?_)
  rintro v s1 ⟨x, H1, I1, r1, a, x0, x1, x2, rfl, hx, q⟩
  cases r1
  have hst : PO X (some (.Constant (.int 2) k p1)) (tPart (tC (.int 2))) := po_some pe_int
  refine wpAny_Slice (thn (po_none.run pins s1 σ H1 (fun o G => o = none ∧ G = H1) I1 ⟨rfl, rfl⟩) ?_)
  rintro vl s2 ⟨l, G2, I2, pl, rfl, rfl⟩
  refine thn (po_none.run pins s2 σ G2 (fun o G => o = none ∧ G = G2) I2 ⟨rfl, rfl⟩) ?_
  rintro vu s3 ⟨u, G3, I3, pu, rfl, rfl⟩
  refine thn (hst.run pins s3 σ G3 (fun o G => o = some 2 ∧ G = G3) I3 ⟨2, rfl, rfl, rfl⟩) ?_
  rintro vs s4 ⟨o, G4, I4, ps, rfl, rfl⟩
  have I5 : Inv X pins σ G4 { s4 with heap := s4.heap.push { cls := .type "slice", data := .fields #[vl, vu, vs] } } := I4.kept (t' := s4.toks) fun b ob z => Heap.get?_push_of_some _ z
  obtain ⟨its, r, ht, hz⟩ := I5.list hx
  refine tail_any (ops := [.ref a, .ref s4.heap.objs.size]) ht.isList.typeIs (PySem.slot_list_getitem.lookup) ?_ (by with_unfolding_all rfl)
  have ln := r.length
  refine wpAny_getItem_list_slice ht.isList (Heap.IsSliceOf.new _ vl vu vs) pl pu ps (by decide) ?_ (by rw [List.size_toArray, ← ln]; exact hz)
  cases r with
  | @cons _ u0 _ _ r0 r =>
    cases r with
    | @cons _ u1 _ _ r1 r =>
      cases r with
      | @cons _ u2 _ _ r2 r =>
        cases r
        have e0 : sliceRange (sliceBounds none none (some 2) 3).1 (sliceBounds none none (some 2) 3).2.1 (sliceBounds none none (some 2) 3).2.2 = [0, 2] := by decide +kernel
        have e : slicePick (List.toArray [u0, u1, u2]) none none (some 2) = #[u0, u2] := by
          unfold slicePick
          rw [show (List.toArray [u0, u1, u2]).size = 3 from rfl, e0]
          rfl
        rw [e]
        refine ⟨.ref _, _, I5.laid (t' := s4.toks) (o := .lst [x0, x2]) (fun b ob z => Heap.get?_push_of_some _ z) (Nat.le_refl _) ?_, rfl, q _ (I5.hok.fresh (Nat.le_refl _))⟩
        exact ⟨by show 2 ≤ sizeLine; decide, [u0, u2], 0, .cons r0 (.cons r2 .nil), Heap.get?_push_size _ rfl⟩
end Grd

/-! Ow: further rules. -/
namespace Ow
open PySem L2 Grd PyProof.Rows
open Evl (Ex ex_t ex_l ex_rd)
abbrev oSub := o2 (fInt (fun _ _ => True) fun i j => .int (i - j))
abbrev oDiv := o2 (fInt CDiv fun i j => .int (i / j))
abbrev oMod := o2 (fInt (fun _ j => 0 < j) fun i j => .int (i % j))
abbrev oPow := o2 (fInt CPow fun i j => .int (i ^ j.toNat))
def fMul (a b : PyData) (k : PyData → Prop) : Prop := match a, b with
  | .int i, .int j => CMulW i j ∧ k (.int (i * j))
  | .str z, .int n => MulOk z n ∧ k (.str (Txt.mul z n))
  | _, _ => False
def oMulA (x y : OV) (R : OV → Prop) : Prop := match lel x with
  | some xs => match y with
    | .d (.int k) => match frzs xs with
      | some ds => (-(2 ^ 63) ≤ k ∧ k < 2 ^ 63 ∧ ds.length * k.toNat ≤ sizeLine) ∧ R (.n .lst ((List.replicate k.toNat ds).flatten.map .d))
      | none => False
    | _ => False
  | none => o2 fMul x y R
/-- xs + e, xs a name: it stays as it is -/
def aAddN (i : Nat) (tb : AE) : AE := fun env Q => (match env[i]? with | some (some _) => True | _ => False) ∧ tb env fun y e => match e[i]? with
  | some (some (.d x)) => oAdd (.d x) y fun z => Q z e
  | some (some (.n .lst xs)) => match dats xs, lel y with
    | some ds, some ys => ds.length + ys.length ≤ sizeLine ∧ Q (.n .lst (ds.map .d ++ ys)) e
    | _, _ => False
  | _ => False
def aPar (is : List Nat) (t : AA) : AS := fun D env => t env fun xs e => match tgSets (is.map Tg.n) xs e with
  | some e1 => D.nx e1
  | none => False
def oKd (tb : List (Str × PyData)) (x : OV) (R : OV → Prop) : Prop := match x with
  | .d (.str z) => match tb.lookup z with | some d => R (.d d) | none => False
  | _ => False
def oSumK (x y : OV) (R : OV → Prop) : Prop := match (lfz x).bind intsOf, y with
  | some ns, .d (.int c) => R (.d (.int (c + ns.sum)))
  | _, _ => False
def oMaxK (x y : OV) (R : OV → Prop) : Prop := match (lfz x).bind intsOf, y with
  | some ns, .d (.int c) => (ns = [] → R (.d (.int c))) ∧ ∀ m, m ∈ ns → (∀ z, z ∈ ns → z ≤ m) → R (.d (.int m))
  | _, _ => False
theorem np1 {bs : List Bool} {vs : List V} {i : Nat} (h : (bs[i]? == some true) = false) : ∀ p ∈ pinsOf bs 0 vs, p.1 ≠ i := fun p hp e => by
  obtain ⟨_, h2, _⟩ := pinsOf_mem hp
  have h2 : bs[p.1]? = some true := h2
  rw [e] at h2
  rw [h2] at h
  simp at h
theorem nps {bs : List Bool} {vs : List V} {is : List Nat} (h : ∀ i ∈ is, (bs[i]? == some true) = false) : ∀ p ∈ pinsOf bs 0 vs, p.1 ∉ is := fun p hp m => np1 (h p.1 m) p hp rfl
theorem un {k : Nat} {A : Around} (r : Room k A) : A.units + 65 < cLine := by have := r.un; omega
section
variable {K : PySem.W.Frag} {A : Addr → Prop} {F0 F F' : FS} {H0 H H' : Hp} {v u : V} {vs us : List V} {x y : OV} {xs ys : List OV} {σ : L2.St} {env : En}
theorem At.junk (c : At K A F0 H0 H F vs xs σ env) {p : Addr} {o : HO} (hp : H p = none) : At K A F0 H0 (upd H p o) F vs xs σ env := by
  have c0 := c
  obtain ⟨st, ⟨⟨a1, a2, h1, h2, nd, off⟩, fh⟩⟩ := c
  have ex : Ex H (upd H p o) := Ex.new hp
  have fr : Ex (rs H F) (rs (upd H p o) F) := fun a u e => by
    rw [rs_some] at e ⊢
    exact ⟨e.1, ex a u e.2⟩
  refine c0.on ⟨fun a u _ h => ex a u h, fr, fun a h => .inl h⟩ ⟨⟨a1, a2, h1.keep fr fun a _ u h => ex a u h, h2.keep fr fun a _ u h => ex a u h, nd, fun a ha => ⟨(off a ha).1, .inl (off a ha).2⟩⟩, fun a h => ?_⟩
  by_cases e : a = p
  · subst e; rw [upd_same]; simp
  · rw [upd_ne e]; exact fh a h
theorem At.dts : ∀ {ws : List V} {ds : List PyData}, At K A F0 H0 H F (ws ++ vs) (ds.map OV.d ++ xs) σ env → ds.length = ws.length → Dts K (rs H F) ws ds
  | [], [], _, _ => .nil
  | w :: ws, d :: ds, c, l => .cons (At.dp (vs := ws ++ vs) (xs := ds.map OV.d ++ xs) c) (At.dts (ws := ws) (ds := ds) (At.pop (vs := ws ++ vs) (xs := ds.map OV.d ++ xs) c) (by simpa using l))
  | [], _ :: _, _, l => by simp at l
  | _ :: _, [], _, l => by simp at l
theorem op_mulS {X : Cx} : OpR X (binaryOp .Mult) (fun x y H Q => ∃ z n, x = .str z ∧ y = .int n ∧ MulOk z n ∧ Q (.str (Txt.mul z n)) H) := by
  intro pins s σ H x y v u Q I rx ry h
  obtain ⟨z, n, rfl, rfl, ok, q⟩ := h
  obtain ⟨t, rfl⟩ := rx
  obtain ⟨t', rfl⟩ := ry
  exact SB.mul ok fun t' k => ⟨.str _, H, I.tok _, ⟨_, rfl⟩, q⟩
theorem op2_mulA : Op2 K (fun x y H Q => rRep x y H Q ∨ rI CMulW (fun i j => .int (i * j)) x y H Q ∨ ∃ z n, x = .str z ∧ y = .int n ∧ MulOk z n ∧ Q (.str (Txt.mul z n)) H) oMulA := by
  constructor
  intro A F0 F H0 H σ env x y ox oy R Q c o k
  unfold oMulA at o
  split at o
  · rename_i xs ex
    split at o
    · rename_i n
      split at o
      · rename_i ds ed
        have dn := c.dp
        cases dn
        obtain ⟨a, ws, rfl, ha, lw, c3⟩ := c.pop.lel ex
        obtain ⟨F1, c4, dp⟩ := At.fixs (vs := []) (xs := []) c3 lw ed
        have ld := dp.len
        refine .inl ⟨a, n, ws, rfl, rfl, ha, o.1.1, o.1.2.1, by rw [← ld]; exact o.1.2.2, fun p hp => k _ _ _ F1 o.2 ?_⟩
        exact (At.pops c4 (by rw [List.length_map]; exact ld)).newL (dp.rep _) hp
      · exact o.elim
    · exact o.elim
  · refine .inr ?_
    have q : Op2 K (fun x y H Q => rI CMulW (fun i j => .int (i * j)) x y H Q ∨ ∃ z n, x = .str z ∧ y = .int n ∧ MulOk z n ∧ Q (.str (Txt.mul z n)) H) (o2 fMul) := Op2.scal fun hx hy o k => by
      unfold fMul at o
      split at o
      · cases hx; cases hy
        exact .inl ⟨_, _, rfl, rfl, o.1, k _ _ o.2 fun _ => .int _⟩
      · cases hx; cases hy
        exact .inr ⟨_, _, rfl, rfl, o.1, k _ _ o.2 fun _ => .str _⟩
      · exact o.elim
    exact q.run c o k
end
section
variable {X : Cx} {pn : List (Nat × V)} {e a b c : Expr} {es : List Expr} {ta tb tc te : AE} {tr : AA} {pos p p1 p2 apos : Pos} {i : Nat} {x : Str} {id T : String}
theorem se_mulA (ha : SE X a ta) (hb : SE X b tb) : SE X (.BinOp a .Mult b pos) (a2 oMulA ta tb) := se_bin (op_rep.or (op_mulW.or op_mulS)) op2_mulA ha hb
theorem se_addN (h : PE X a (tVar i)) (hb : SE X b tb) : SE X (.BinOp a .Add b pos) (aAddN i tb) := peTo (pe_op (op_cat.or ((op_add.or op_add_str).or op_catA)) h hb) fun σ H Q ⟨A, F, env, R, c, h, k⟩ => by
  obtain ⟨h0, h⟩ := h
  obtain ⟨v, hv⟩ := getSome c h0
  refine ⟨v, hv, ev c h fun y e1 u H2 F2 h2 c2 => ?_⟩
  split at h2
  · rename_i x ex
    obtain ⟨v', hv', dv⟩ := c2.look ex
    rw [hv] at hv'
    cases hv'
    exact op2_add.run (c2.push dv).swap h2 fun z w H' F' r c3 => k _ _ _ _ _ r c3
  · rename_i xs ex
    split at h2
    · rename_i ds ys ed ey
      have e0 := dats_frzs ed
      subst e0
      obtain ⟨v', hv', c3⟩ := c2.take ex
      rw [hv] at hv'
      cases hv'
      obtain ⟨a, ws, ex', rfl, hs, l, c4⟩ := c3.opn
      obtain ⟨F5, c5, dp⟩ := At.fixs c4 l (frzs_map ds)
      have dp0 : Dts X.K (rs H2 F2) ws ds := c4.dts (by simpa using l)
      obtain ⟨b, zs, rfl, hb, lz, c6⟩ := c2.lel ey
      refine .inl ⟨a, b, ws, zs, rfl, rfl, hs.1, hb, by rw [← dp.len, ← lz]; exact h2.1, fun p hp => k _ _ _ _ F2 h2.2 ?_⟩
      have c7 : At X.K A F H H2 F2 ((ws ++ zs) ++ []) ((ds.map OV.d ++ ys) ++ []) σ e1 := by
        rw [List.append_assoc, List.append_assoc]
        exact c6.pushs dp0
      exact At.make (s := .lst) c7 (by simp [lz, dp.len]) hp ⟨upd_same, rfl⟩
    · exact h2.elim
  · exact h2.elim
theorem se_isi2 {x1} (ha : SE X a ta) (t1 t2 : Ty) (hb : PE X b (tC (.ty t1.nm))) (hc : PE X c (tC (.ty t2.nm))) (hg : Gl X x) (hm : X.mg x = none) (hv : bootBuiltins x = some (.builtin "isinstance")) (hn : x ≠ "__name__" := by decide) (hdb : (x == ("__debug__" : Str)) = false := by decide)
    (he3 : starEach [b, c] X.env = (false, eval b X.env) :: starEach [c] X.env := by rfl) (he4 : starEach [c] X.env = [(false, eval c X.env)] := by rfl)
    (he : starEach [a, .Tuple [b, c] x1 p1] X.env = (false, eval a X.env) :: starEach [.Tuple [b, c] x1 p1] X.env := by rfl) (he2 : starEach [.Tuple [b, c] x1 p1] X.env = [(false, eval (.Tuple [b, c] x1 p1) X.env)] := by rfl) (hpl : (backTo pos (starEach [.Tuple [b, c] x1 p1] X.env)).any (·.1) = false := by rfl) :
    SE X (.Call (.Name x p) [a, .Tuple [b, c] x1 p1] [] pos) (a1 (oIsi [t1, t2]) ta) :=
  peTo (pe_callB call_isiT hg hm hv (pa_cons ha (pa_cons (pe_tup (pa_cons hb (pa_cons hc pa_nil he4) he3)) pa_nil he2) he) hn hdb he hpl) fun σ H Q ⟨A, F, env, R, c, h, k⟩ => ev c h fun x e1 v H1 F1 h1 c1 => by
    have ni : dull x = false := by
      cases x with
      | d d => rfl
      | n s ys => cases s <;> first | rfl | exact False.elim h1
    have h2 : R (.d (.bool ([t1, t2].any fun t => isOf t x))) e1 := by
      cases x with
      | d d => exact h1
      | n s ys => cases s <;> first | exact h1 | exact False.elim h1
    refine ⟨(by show 2 ≤ sizeLine; decide), fun p hp => ?_⟩
    have c2 := c1.junk (o := .tup [.ty t1.nm, .ty t2.nm]) hp
    exact ⟨v, p, _, _, _, _, rfl, upd_same, .cons (.ty _) (.cons (.ty _) .nil), ty_of c2 ni, isi_any x ni [t1, t2], k _ _ _ _ F1 h2 (c2.pop.push (.bl _))⟩
theorem ss_par2 {i j : Nat} {x y : Str} {px py pt : Pos} {kt k2 pt2} (hc : X.calm = true) (hN : X.N.Nodup) (hi : X.N[i]? = some x) (hj : X.N[j]? = some y) (hij : i ≠ j)
    (hx : X.env.scope.names.lookup x = some .local) (hy : X.env.scope.names.lookup y = some .local) (ha : SA X [a, b] tr)
    (hw : swappedStores [.Tuple [.Name x px, .Name y py] kt pt] (.Tuple [a, b] k2 pt2) X.env = pure (some [x, y])) (hp1 : ∀ p ∈ pn, p.1 ≠ i) (hp2 : ∀ p ∈ pn, p.1 ≠ j)
    (hs : swapsWithSole [.Tuple [.Name x px, .Name y py] kt pt] (.Tuple [a, b] k2 pt2) pos.line X.env = pure false := by rfl) :
    SS X pn (.Assign [.Tuple [.Name x px, .Name y py] kt pt] (.Tuple [a, b] k2 pt2) pos) (aPar [i, j] tr) :=
  psTo (ps_par hc hN hi hj hij hx hy ha hw hs) fun D σ H ⟨A, F, env, D', p, c, h, ed⟩ => evs c h fun xs e1 vs H1 F1 h1 c1 => by
    split at h1
    · rename_i e2 q
      have l := tgSets_len q
      match xs, l with
      | [z1, z2], _ =>
        obtain ⟨v, u, rfl⟩ := args2 (show At X.K A F H H1 F1 vs [z1, z2] σ e1 by simpa using c1)
        refine ⟨v, u, rfl, ?_⟩
        have g := (gts_cons (K := X.K) (gt_name i) (gts_cons (gt_name j) gts_nil)).run (us := [v, u]) (ys := [z1, z2]) (vs := []) (xs := []) (Q := fun σ' H' => σ' = (σ.set i (some v)).set j (some u) ∧ H' = H1 → D.nx ((σ.set i (some v)).set j (some u)) H1) (by simpa using c1) rfl q fun σ' H' F' b c2 => fun e => by
          obtain ⟨e3, e4⟩ := e
          subst e3 e4
          exact ed.nx _ _ _ _ h1 (p.but b fun p hp m => by
            simp only [slotss, Tg.slots, List.append_nil, List.mem_append, List.mem_singleton, List.mem_cons, List.not_mem_nil, or_false] at m
            rcases m with m | m
            · exact hp1 p hp m
            · exact hp2 p hp m) c2
        obtain ⟨v', r, e3, v'', r', e4, e5, g⟩ := g
        cases e3
        cases e4
        exact g ⟨rfl, rfl⟩
    · exact h1.elim
theorem ss_par3 {i j l : Nat} {x y z : Str} {px py pz pt : Pos} {kt k2 pt2} (hc : X.calm = true) (hN : X.N.Nodup) (hi : X.N[i]? = some x) (hj : X.N[j]? = some y) (hl : X.N[l]? = some z) (hij : i ≠ j) (hil : i ≠ l) (hjl : j ≠ l)
    (hx : X.env.scope.names.lookup x = some .local) (hy : X.env.scope.names.lookup y = some .local) (hz : X.env.scope.names.lookup z = some .local) (ha : SA X [a, b, c] tr)
    (hw : swappedStores [.Tuple [.Name x px, .Name y py, .Name z pz] kt pt] (.Tuple [a, b, c] k2 pt2) X.env = pure (some [x, y, z])) (hp1 : ∀ p ∈ pn, p.1 ≠ i) (hp2 : ∀ p ∈ pn, p.1 ≠ j) (hp3 : ∀ p ∈ pn, p.1 ≠ l)
    (hs : swapsWithSole [.Tuple [.Name x px, .Name y py, .Name z pz] kt pt] (.Tuple [a, b, c] k2 pt2) pos.line X.env = pure false := by rfl) :
    SS X pn (.Assign [.Tuple [.Name x px, .Name y py, .Name z pz] kt pt] (.Tuple [a, b, c] k2 pt2) pos) (aPar [i, j, l] tr) :=
  psTo (ps_par3 hc hN hi hj hl hij hil hjl hx hy hz ha hw hs) fun D σ H ⟨A, F, env, D', p, c, h, ed⟩ => evs c h fun xs e1 vs H1 F1 h1 c1 => by
    split at h1
    · rename_i e2 q
      have ln := tgSets_len q
      match xs, ln with
      | [z1, z2, z3], _ =>
        have c1' : At X.K A F H H1 F1 vs [z1, z2, z3] σ e1 := by simpa using c1
        have lv := c1'.cf.len
        match vs, lv with
        | [v, u, w], _ =>
          refine ⟨v, u, w, rfl, ?_⟩
          have g := (gts_cons (K := X.K) (gt_name i) (gts_cons (gt_name j) (gts_cons (gt_name l) gts_nil))).run (us := [v, u, w]) (ys := [z1, z2, z3]) (vs := []) (xs := []) (Q := fun σ' H' => σ' = ((σ.set i (some v)).set j (some u)).set l (some w) ∧ H' = H1 → D.nx (((σ.set i (some v)).set j (some u)).set l (some w)) H1) (by simpa using c1) rfl q fun σ' H' F' b c2 => fun e => by
            obtain ⟨e3, e4⟩ := e
            subst e3 e4
            exact ed.nx _ _ _ _ h1 (p.but b fun p hp m => by
              simp only [slotss, Tg.slots, List.append_nil, List.mem_append, List.mem_singleton, List.mem_cons, List.not_mem_nil, or_false] at m
              rcases m with m | m | m
              · exact hp1 p hp m
              · exact hp2 p hp m
              · exact hp3 p hp m) c2
          obtain ⟨v', r, e3, v'', r', e4, v3, r3, e5, e6, g⟩ := g
          cases e3
          cases e4
          cases e5
          exact g ⟨rfl, rfl⟩
    · exact h1.elim
/-- a dict of the module whose keys are texts -/
structure KdT (K : PySem.W.Frag) (w : World) (a : Addr) (tb : List (Str × PyData)) : Prop where
  at_ : ∀ z d, tb.lookup z = some d → ∃ v, KDct K w a z v ∧ ∀ H, Dt K H v d
theorem se_kd {tb : List (Str × PyData)} {d : Addr} (k : KdT X.K X.w d tb) (hg : Gl X x) (hm : X.mg x = some (.ref d)) (hb : SE X b tb') (hs : PlainIx b) (hdb : (x == ("__debug__" : Str)) = false := by decide) : SE X (.Subscript (.Name x p) b pos) (a1 (oKd tb) tb') :=
  peTo (pe_ix ix_kdict (pe_glob (v := .ref d) hg hm rfl hdb) hb hs) fun σ H Q ⟨A, F, env, R, c, h, kk⟩ => ev c h fun y e1 u H1 F1 h1 c1 => by
    unfold oKd at h1
    split at h1
    · rename_i z
      have du := c1.dp
      cases du
      split at h1
      · rename_i dd ed
        obtain ⟨v, kd, dv⟩ := k.at_ z dd ed
        exact ⟨d, z, v, rfl, rfl, kd, kk _ _ _ _ F1 h1 (c1.pop.push (dv _))⟩
      · exact h1.elim
    · exact h1.elim
theorem se_sumK {kp : Pos} (ha : SE X a ta) (hb : SE X b tb) (hg : Gl X "sum") (hm : X.mg "sum" = none) (hv : bootBuiltins "sum" = some (.builtin "sum"))
    (he : backTo pos (starEach [a] X.env) = (false, eval a X.env) :: backTo pos (starEach [] X.env) := by rfl) (he2 : starEach [a] X.env = [(false, eval a X.env)] := by rfl) (hpl : (backTo pos (starEach [a] X.env)).any (·.1) = false := by rfl)
    (hall : (backToKw pos (keywordEach [⟨some "start", b, kp⟩] X.env)).all (·.1.isSome) = true := by rfl) (hnone : (backToKw pos (keywordEach [⟨some "start", b, kp⟩] X.env)).any (·.1.isNone) = false := by rfl) (hks : (backToKw pos (keywordEach [⟨some "start", b, kp⟩] X.env)).filterMap (·.1) = [Str.ofString "start"] := by rfl) (hc : X.calm = true := by rfl) :
    SE X (.Call (.Name "sum" p) [a] [⟨some "start", b, kp⟩] pos) (a2 oSumK ta tb) :=
  peTo (pe_callBK (crK_sum hc) hg hm hv (pa_cons ha pa_nil he2) (pk_cons hb pk_nil) (by decide) (by decide) he hpl hall hnone hks) fun σ H Q ⟨A, F, env, R, c, h, k⟩ => ev c h fun x e1 v H1 F1 h1 c1 => ev c1 h1 fun y e2 u H2 F2 h2 c2 => by
    unfold oSumK at h2
    split at h2
    · rename_i ns cc en
      obtain ⟨ds, f1, f2⟩ := Option.bind_eq_some_iff.mp en
      have du := c2.dp
      cases du
      obtain ⟨a, ws, F3, rfl, hH, dp, c3⟩ := c2.pop.lfz f1
      have e3 := dts_ints dp f2
      subst e3
      exact ⟨a, ns, cc, rfl, rfl, .of hH, k _ _ _ _ F3 h2 (c3.push (.int _))⟩
    · exact h2.elim
theorem se_maxK {kp : Pos} (ha : SE X a ta) (hb : SE X b tb) (hg : Gl X "max") (hm : X.mg "max" = none) (hv : bootBuiltins "max" = some (.builtin "max"))
    (he : backTo pos (starEach [a] X.env) = (false, eval a X.env) :: backTo pos (starEach [] X.env) := by rfl) (he2 : starEach [a] X.env = [(false, eval a X.env)] := by rfl) (hpl : (backTo pos (starEach [a] X.env)).any (·.1) = false := by rfl)
    (hall : (backToKw pos (keywordEach [⟨some "default", b, kp⟩] X.env)).all (·.1.isSome) = true := by rfl) (hnone : (backToKw pos (keywordEach [⟨some "default", b, kp⟩] X.env)).any (·.1.isNone) = false := by rfl) (hks : (backToKw pos (keywordEach [⟨some "default", b, kp⟩] X.env)).filterMap (·.1) = [Str.ofString "default"] := by rfl) (hc : X.calm = true := by rfl) :
    SE X (.Call (.Name "max" p) [a] [⟨some "default", b, kp⟩] pos) (a2 oMaxK ta tb) :=
  peTo (pe_callBK (crK_max hc) hg hm hv (pa_cons ha pa_nil he2) (pk_cons hb pk_nil) (by decide) (by decide) he hpl hall hnone hks) fun σ H Q ⟨A, F, env, R, c, h, k⟩ => ev c h fun x e1 v H1 F1 h1 c1 => ev c1 h1 fun y e2 u H2 F2 h2 c2 => by
    unfold oMaxK at h2
    split at h2
    · rename_i ns cc en
      obtain ⟨ds, f1, f2⟩ := Option.bind_eq_some_iff.mp en
      have du := c2.dp
      cases du
      obtain ⟨a, ws, F3, rfl, hH, dp, c3⟩ := c2.pop.lfz f1
      have e3 := dts_ints dp f2
      subst e3
      exact ⟨a, ns, cc, rfl, rfl, .of hH, fun e => k _ _ _ _ F3 (h2.1 e) (c3.push (.int _)), fun m hm hx => k _ _ _ _ F3 (h2.2 m hm hx) (c3.push (.int _))⟩
    · exact h2.elim
/-! f(k = v, ..), all by name, in order -/
def SK (X : Cx) (kws : List Keyword) (t : AR) : Prop := PK X kws (LR X.K t)
theorem pkTo {kws : List Keyword} {t t' : TA} (h : PK X kws t) (i : ∀ σ H Q, t' σ H Q → t σ H Q) : PK X kws t' := ⟨fun pos pins s σ H Q I q => h.run pos pins s σ H Q I (i σ H Q q)⟩
variable {trr : AR} {kws : List Keyword} {nm : Option Str} {kpos : Pos}
theorem sk_nil : SK X [] aRn := pkTo pk_nil fun σ H Q ⟨A, F, env, R, c, h, k⟩ => k _ _ _ _ _ _ _ h .nil c
theorem sk_v (ha : SE X e te) (hr : SK X kws trr) : SK X (⟨nm, e, kpos⟩ :: kws) (aRv te trr) := pkTo (pk_cons ha hr) fun σ H Q ⟨A, F, env, R, c, h, k⟩ =>
  ev c h fun x e1 v H1 F1 h1 c1 => evr c1 h1 fun as e2 us H2 F2 ts ys h2 ar c2 => k _ _ _ _ _ _ _ h2 (.v ar) (by
    have := At.front ar.len c2
    simpa using this)
theorem sk_s (h : PE X e (tVar i)) (hr : SK X kws trr) : SK X (⟨nm, e, kpos⟩ :: kws) (aRs i trr) := pkTo (pk_cons h hr) fun σ H Q ⟨A, F, env, R, c, h, k⟩ => by
  obtain ⟨h0, h⟩ := h
  obtain ⟨v, hv⟩ := getSome c h0
  exact ⟨v, hv, evr c h fun as e2 us H2 F2 ts ys h2 ar c2 => k _ _ _ _ _ _ _ h2 (.s hv ar) (by simpa using c2)⟩
def KwB (K : PySem.W.Frag) (fd : FuncData) (ps : List Str) : Prop := ∀ (s : Shared) (ws : List Value), K.In s.heap → ws.length = ps.length → BindsTo s fd ⟨[], ps.zip ws⟩ (ps.zip ws)
theorem KwB.of {K : PySem.W.Frag} {fd : FuncData} {ps : List Str} (h : ∀ ws : List Value, ws.length = ps.length → bindArgs fd ⟨[], ps.zip ws⟩ = pure (ps.zip ws)) : KwB K fd ps := fun s ws _ l => .of_eq (h ws l)
theorem se_callK {CX : CXT} {f : Addr} {fd : FuncData} {ps : List Str} {E : XK} {C : AC} {k : Nat} (G : Fn X.prog X.w X.K X.mg X.base CX k f fd ps (spA X.K C)) (gd : X.A.guards = some []) (hr : Room k X.A) (hg : Gl X x) (hm : X.mg x = some (.ref f)) (hk : PySem.W.keepIn X.K (.ref f) = true) (hb : KwB X.K fd ps) (hx : Passes CX X E) (ha : SK X kws trr)
    (hdb : (x == ("__debug__" : Str)) = false := by decide) (hall : (backToKw pos (keywordEach kws X.env)).all (·.1.isSome) = true := by rfl) (hks : (backToKw pos (keywordEach kws X.env)).filterMap (·.1) = ps := by rfl)
    (hpl : ((backTo pos (starEach [] X.env)).any (·.1) || (backToKw pos (keywordEach kws X.env)).any (·.1.isNone)) = false := by rfl) :
    SE X (.Call (.Name x p) [] kws pos) (aCall C trr) := by
  constructor
  intro pins s σ H Q I h
  obtain ⟨A, F, env, R, c, h, kk⟩ := h
  refine wpAny_Call_Name_kw (ld_glob I hg hm ?_ hdb)
  refine PySem.W.callWith_KW0 (h₀ := X.base) I.ok.mod.kin hk hall ?_ hpl
  rw [hks]
  have z := ha.run pos pins s σ H (fun vs H1 => spA X.K C vs H1 Q E) I (evr c h fun as e1 us H1 F1 ts ys h1 ar c1 => by
    split at h1
    · rename_i p ep
      obtain ⟨zs, e2⟩ := p
      have c2 := tk_ok (us := []) (ys := []) ar ep rfl c1
      simp only [List.append_nil] at c2
      exact call_ok c2 h1 fun z xs' w H' F' r b => kk _ _ _ _ _ r.2 (pt_ok ar (by rw [r.1]; exact tk_len ar ep) (At.app_comm (vs1 := [w]) (xs1 := [z]) rfl b))
    · exact h1.elim)
  refine thn z ?_
  rintro ws s2 ⟨zs, H2, I2, rz, q2⟩
  refine ⟨I2.kIn, ?_⟩
  have ll : ws.length = ps.length := rz.length.symm.trans (G.len _ _ _ _ q2)
  refine wpAny_call (codeAny_mono (G.run X.A X.stack s2 H2 ⟨[], ps.zip ws⟩ ws zs Q E gd hr I2.env0 (hb s2 ws I2.kIn ll) rz q2) ?_)
  intro rr s' hq
  match rr, hq with
  | .error e, hq => exact hx pins σ H2 s2 e s' I2 hq
  | .ok (.ret u), hq => exact I2.after hq
  | .ok .next, hq => exact hq.elim
  | .ok .brk, hq => exact hq.elim
  | .ok .cont, hq => exact hq.elim
end
end Ow
namespace Ow
open PySem L2 Grd PyProof.Rows
theorem dt_strs {K : PySem.W.Frag} {H : Hp} {a : Addr} {ss : List Str} (h : SqT K H a (ss.map V.str)) : Dt K H (.ref a) (.tuple (ss.map PyData.str)) := .tup h (strs_dts ss)
theorem lookup_mem {tb : List (Str × PyData)} {z : Str} {d : PyData} (h : tb.lookup z = some d) : (z, d) ∈ tb := by
  induction tb with
  | nil => simp at h
  | cons p tb ih =>
    obtain ⟨k, v⟩ := p
    rw [List.lookup_cons] at h
    split at h
    · rename_i e
      cases h
      rw [eq_of_beq e]
      exact List.mem_cons_self
    · exact List.mem_cons_of_mem _ (ih h)
theorem KdT.of {K : PySem.W.Frag} {w : World} {a : Addr} {tb : List (Str × PyData)} (h : ∀ p ∈ tb, ∃ v, KDct K w a p.1 v ∧ ∀ H, Dt K H v p.2) : KdT K w a tb := ⟨fun z d e => h (z, d) (lookup_mem e)⟩
end Ow

/-! Plain parts: how a meaning is gone through. -/
namespace Ow
open PySem L2 Grd PyProof.Rows
theorem e_aAsg (t : AE) (tg : Tg) (D : AD) (env : En) : aAsg t tg D env = (t env fun x e => match tgSet tg x e with
  | some e1 => D.nx e1
  | none => False) := rfl
theorem e_aRet (t : AE) (D : AD) (env : En) : aRet t D env = (t env D.rt) := rfl
theorem e_aRetN (D : AD) (env : En) : aRetN  D env = (D.rt (.d .none) env) := rfl
theorem e_aDrop (t : AE) (D : AD) (env : En) : aDrop t D env = (t env fun _ e => D.nx e) := rfl
theorem e_aPass (D : AD) (env : En) : aPass  D env = (D.nx env) := rfl
theorem e_aBrk (D : AD) (env : En) : aBrk  D env = (D.bk env) := rfl
theorem e_aCnt (D : AD) (env : En) : aCnt  D env = (D.ct env) := rfl
theorem e_aPut (i : Nat) (tv ti : AE) (D : AD) (env : En) : aPut i tv ti D env = (tv env fun x e1 => (match e1[i]? with | some (some _) => True | _ => False) ∧ ti e1 fun y e2 => match y with
  | .d (.int k) => match e2[i]? with
    | some (some (.n .lst xs)) => match ixN xs.length k with
      | some j => D.nx (e2.set i (some (.n .lst (xs.set j x))))
      | none => False
    | _ => False
  | _ => False) := rfl
theorem e_aPar (is : List Nat) (t : AA) (D : AD) (env : En) : aPar is t D env = (t env fun xs e => match tgSets (is.map Tg.n) xs e with
  | some e1 => D.nx e1
  | none => False) := rfl
theorem e_aFor (it : AI) (tg : Tg) (tb : AS) (D : AD) (env : En) : aFor it tg tb D env = (it env fun ds e => forW tg tb D ds e) := rfl
theorem e_aTst (t : AE) (env : En) (Q : Bool → En → Prop) : aTst t env Q = (t env fun x e => match x with
  | .d (.bool b) => Q b e
  | _ => False) := rfl
theorem e_aAnd (t u : AT) (env : En) (Q : Bool → En → Prop) : aAnd t u env Q = (t env fun b e => if b = true then u e Q else Q false e) := rfl
theorem e_aOr (t u : AT) (env : En) (Q : Bool → En → Prop) : aOr t u env Q = (t env fun b e => if b = true then Q true e else u e Q) := rfl
theorem e_aNot (t : AT) (env : En) (Q : Bool → En → Prop) : aNot t env Q = (t env fun b e => Q (!b) e) := rfl
theorem e_aIf (t : AT) (u v : AE) (env : En) (Q : OV → En → Prop) : aIf t u v env Q = (t env fun b e => if b = true then u e Q else v e Q) := rfl
theorem e_aIfT (t u v : AT) (env : En) (Q : Bool → En → Prop) : aIfT t u v env Q = (t env fun b e => if b = true then u e Q else v e Q) := rfl
theorem e_aAndV (t u : AE) (env : En) (Q : OV → En → Prop) : aAndV t u env Q = (t env fun x e => match x with
  | .d (.bool b) => if b = true then u e Q else Q (.d (.bool false)) e
  | _ => False) := rfl
theorem e_aOrV (t u : AE) (env : En) (Q : OV → En → Prop) : aOrV t u env Q = (t env fun x e => match x with
  | .d (.bool b) => if b = true then Q (.d (.bool true)) e else u e Q
  | _ => False) := rfl
theorem e_aYes (env : En) (Q : Bool → En → Prop) : aYes  env Q = (Q true env) := rfl
theorem e_aC (d : PyData) (env : En) (Q : OV → En → Prop) : aC d env Q = (Q (.d d) env) := rfl
theorem e_aName (i : Nat) (env : En) (Q : OV → En → Prop) : aName i env Q = (match env[i]? with
  | some (some (.d x)) => Q (.d x) env
  | some (some x) => match frz x with
    | some y => Q (.d y) (env.set i (some (.d y)))
    | none => False
  | _ => False) := rfl
theorem e_aMove (i : Nat) (env : En) (Q : OV → En → Prop) : aMove i env Q = (match env[i]? with
  | some (some (.d x)) => Q (.d x) env
  | some (some x) => Q x (env.set i none)
  | _ => False) := rfl
theorem e_aIxN (i : Nat) (tb : AE) (env : En) (Q : OV → En → Prop) : aIxN i tb env Q = ((match env[i]? with | some (some _) => True | _ => False) ∧ tb env fun y e => match e[i]? with
  | some (some (.d x)) => oIx (.d x) y fun z => Q z e
  | some (some (.n .lst xs)) => match y with
    | .d (.int k) => match ixN xs.length k with
      | some j => match xs[j]? with
        | some (.d d) => Q (.d d) e
        | some o => match frz o with
          | some d => Q (.d d) (e.set i (some (.n .lst (xs.set j (.d d)))))
          | none => False
        | none => False
      | none => False
    | _ => False
  | _ => False) := rfl
theorem e_aLenN (i : Nat) (env : En) (Q : OV → En → Prop) : aLenN i env Q = (match env[i]? with
  | some (some x) => oLen1 x fun z => Q z env
  | _ => False) := rfl
theorem e_aAddN (i : Nat) (tb : AE) (env : En) (Q : OV → En → Prop) : aAddN i tb env Q = ((match env[i]? with | some (some _) => True | _ => False) ∧ tb env fun y e => match e[i]? with
  | some (some (.d x)) => oAdd (.d x) y fun z => Q z e
  | some (some (.n .lst xs)) => match dats xs, lel y with
    | some ds, some ys => ds.length + ys.length ≤ sizeLine ∧ Q (.n .lst (ds.map .d ++ ys)) e
    | _, _ => False
  | _ => False) := rfl
theorem e_aMt (i : Nat) (mm : MM) (t : AA) (env : En) (Q : OV → En → Prop) : aMt i mm t env Q = ((match env[i]? with | some (some (.n .lst _)) => True | _ => False) ∧ t env fun args e => match e[i]? with
  | some (some (.n .lst xs)) => mm xs args fun z xs' => Q z (e.set i (some (.n .lst xs')))
  | _ => False) := rfl
theorem e_aNil (env : En) (Q : List OV → En → Prop) : aNil  env Q = (Q [] env) := rfl
theorem e_aCons (ta : AE) (tr : AA) (env : En) (Q : List OV → En → Prop) : aCons ta tr env Q = (ta env fun x e1 => tr e1 fun xs e2 => Q (x :: xs) e2) := rfl
theorem e_aLst (t : AA) (env : En) (Q : OV → En → Prop) : aLst t env Q = (t env fun xs e => xs.length ≤ sizeLine ∧ Q (.n .lst xs) e) := rfl
theorem e_aTup (t : AA) (env : En) (Q : OV → En → Prop) : aTup t env Q = (t env fun xs e => xs.length ≤ sizeLine ∧ Q (mkT xs) e) := rfl
theorem e_aSl (te : AE) (tl th : AO) (env : En) (Q : OV → En → Prop) : aSl te tl th env Q = (te env fun x e1 => tl e1 fun lo e2 => th e2 fun hi e3 => oSl x lo hi fun z => Q z e3) := rfl
theorem e_aNoP (env : En) (Q : Option Int → En → Prop) : aNoP  env Q = (Q none env) := rfl
theorem e_aPart (t : AE) (env : En) (Q : Option Int → En → Prop) : aPart t env Q = (t env fun x e => match x with
  | .d (.int i) => Q (some i) e
  | _ => False) := rfl
theorem e_aTxt (ta : AE) (env : En) (Q : OV → En → Prop) : aTxt ta env Q = (ta env fun x e1 => (match x with | .d (.str _) => Q x e1 | _ => False)) := rfl
theorem e_aCall (C : AC) (t : AR) (env : En) (Q : OV → En → Prop) : aCall C t env Q = (t env fun as e => match tkA as e with
  | some p => C p.1 fun z xs' => xs'.length = p.1.length ∧ Q z (ptA as xs' p.2)
  | none => False) := rfl
theorem e_aRn (env : En) (Q : List Ar → En → Prop) : aRn  env Q = (Q [] env) := rfl
theorem e_aRv (te : AE) (t : AR) (env : En) (Q : List Ar → En → Prop) : aRv te t env Q = (te env fun x e1 => t e1 fun as e2 => Q (.v x :: as) e2) := rfl
theorem e_aRs (i : Nat) (t : AR) (env : En) (Q : List Ar → En → Prop) : aRs i t env Q = ((match env[i]? with | some (some _) => True | _ => False) ∧ t env fun as e2 => Q (.s i :: as) e2) := rfl
theorem e_aLc (it : AI) (tg : Tg) (tt : AT) (te : AE) (vs : List Nat) (env : En) (Q : OV → En → Prop) : aLc it tg tt te vs env Q = (it env fun ds e => lcW tg tt te vs Q ds [] (wipeE e vs)) := rfl
theorem e_aOver (t : AE) (env : En) (Q : List PyData → En → Prop) : aOver t env Q = (t env fun x e => match (frz x).bind sit with
  | some ds => Q ds e
  | none => False) := rfl
theorem e_aRng (t : AE) (env : En) (Q : List PyData → En → Prop) : aRng t env Q = (t env fun x e => match x with
  | .d (.int j) => (-(2 ^ 62) ≤ j ∧ j < 2 ^ 62) ∧ Q ((List.range j.toNat).map fun (k : Nat) => .int k) e
  | _ => False) := rfl
theorem e_aEnum (ta : AE) (env : En) (Q : List PyData → En → Prop) : aEnum ta env Q = (ta env fun x e1 => match sfd x with
  | some xs => Q (enumD xs) e1
  | none => False) := rfl
theorem e_aZip2 (ta tb : AE) (env : En) (Q : List PyData → En → Prop) : aZip2 ta tb env Q = (ta env fun x e1 => tb e1 fun y e2 => match sfd x, sfd y with
  | some xs, some ys => Q (zipD xs ys) e2
  | _, _ => False) := rfl
theorem e_a2 (o : OV → OV → (OV → Prop) → Prop) (ta tb : AE) (env : En) (Q : OV → En → Prop) : a2 o ta tb env Q = ta env fun x e1 => tb e1 fun y e2 => o x y fun z => Q z e2 := rfl
theorem e_a1 (o : OV → (OV → Prop) → Prop) (ta : AE) (env : En) (Q : OV → En → Prop) : a1 o ta env Q = ta env fun x e1 => o x fun z => Q z e1 := rfl
theorem e_aCB (o : List OV → (OV → Prop) → Prop) (t : AA) (env : En) (Q : OV → En → Prop) : aCB o t env Q = t env fun xs e => o xs fun z => Q z e := rfl
theorem e_aChain (f g : PyData → PyData → (PyData → Prop) → Prop) (ta tb tc : AE) (env : En) (Q : OV → En → Prop) : aChain f g ta tb tc env Q = ta env fun x e1 => tb e1 fun y e2 => o2 f x y fun z => match z with
  | .d (.bool b) => if b = true then tc e2 fun w e3 => o2 g y w fun q => Q q e3 else Q (.d (.bool false)) e2
  | _ => False := rfl
theorem aSeq_i {t u : AS} {D : AD} {env : En} (h : t { D with nx := u D } env) : aSeq t u D env := h
/-- what comes later, not to be looked into yet -/
def hid (k : En → Prop) : En → Prop := k
theorem hid_i {k : En → Prop} {e : En} (h : k e) : hid k e := h
theorem aSeq_h {t u : AS} {D : AD} {env : En} (h : t { D with nx := hid (u D) } env) : aSeq t u D env := h
/-- which branch -/
def brB (t u : AS) (D : AD) : Bool → En → Prop := fun b e => if b = true then t D e else u D e
theorem aIfS_i {c : AT} {t u : AS} {D : AD} {env : En} (h : c env (brB t u D)) : aIfS c t u D env := h
theorem br_i {t u : AS} {D : AD} {b : Bool} {e : En} (h1 : b = true → t D e) (h2 : b = false → u D e) : brB t u D b e := by
  cases b with
  | true => exact h1 rfl
  | false => exact h2 rfl
theorem br_t {t u : AS} {D : AD} {b : Bool} {e : En} (h : b = true) (h1 : t D e) : brB t u D b e := by subst h; exact h1
theorem br_f {t u : AS} {D : AD} {b : Bool} {e : En} (h : b = false) (h1 : u D e) : brB t u D b e := by subst h; exact h1
theorem ifB {c : Prop} [Decidable c] {p q : Prop} (h1 : c → p) (h2 : ¬ c → q) : if c then p else q := by
  by_cases h : c
  · rw [if_pos h]; exact h1 h
  · rw [if_neg h]; exact h2 h
theorem beg_def (n : Nat) (xs : List OV) : beg n xs = xs.map some ++ List.replicate (n - xs.length) none := rfl
theorem ixN_lit {n : Nat} {k : Nat} (h : k < n) : ixN n (k : Int) = some k := by
  unfold ixN
  rw [if_pos (by omega), if_pos (by omega)]
  simp
theorem lit0 {n : Nat} : ixN (n + 1) 0 = some 0 := ixN_lit (k := 0) (by omega)
theorem lit1 {n : Nat} : ixN (n + 1 + 1) 1 = some 1 := ixN_lit (k := 1) (by omega)
theorem lit2 {n : Nat} : ixN (n + 1 + 1 + 1) 2 = some 2 := ixN_lit (k := 2) (by omega)
theorem lit3 {n : Nat} : ixN (n + 1 + 1 + 1 + 1) 3 = some 3 := ixN_lit (k := 3) (by omega)
theorem lit4 {n : Nat} : ixN (n + 1 + 1 + 1 + 1 + 1) 4 = some 4 := ixN_lit (k := 4) (by omega)
theorem atI_lit {α : Type} {xs : List α} {k : Nat} : atI xs (k : Int) = xs[k]? := by
  unfold atI
  by_cases h : k < xs.length
  · rw [ixN_lit h]; rfl
  · unfold ixN
    rw [if_pos (by omega), if_neg (by omega), List.getElem?_eq_none (by omega)]
    rfl
theorem at0 {α : Type} {a : α} {l : List α} : atI (a :: l) 0 = some a := by rw [show (0 : Int) = ((0 : Nat) : Int) from rfl, atI_lit]; rfl
theorem at1 {α : Type} {a b : α} {l : List α} : atI (a :: b :: l) 1 = some b := by rw [show (1 : Int) = ((1 : Nat) : Int) from rfl, atI_lit]; rfl
theorem at2 {α : Type} {a b c : α} {l : List α} : atI (a :: b :: c :: l) 2 = some c := by rw [show (2 : Int) = ((2 : Nat) : Int) from rfl, atI_lit]; rfl
theorem at3 {α : Type} {a b c d : α} {l : List α} : atI (a :: b :: c :: d :: l) 3 = some d := by rw [show (3 : Int) = ((3 : Nat) : Int) from rfl, atI_lit]; rfl
theorem at4 {α : Type} {a b c d e : α} {l : List α} : atI (a :: b :: c :: d :: e :: l) 4 = some e := by rw [show (4 : Int) = ((4 : Nat) : Int) from rfl, atI_lit]; rfl
theorem cut_to {α : Type} (xs : List α) (k : Nat) : cut xs none (some (k : Int)) = xs.take k := by
  unfold cut
  rw [HT.sIx_none, HT.sIx_nat]
  simp only [List.drop_zero, Nat.sub_zero]
  by_cases h : k ≤ xs.length
  · rw [Nat.min_eq_left h]
  · rw [Nat.min_eq_right (by omega), List.take_of_length_le (Nat.le_refl _), List.take_of_length_le (by omega)]
theorem cut_from {α : Type} (xs : List α) (k : Nat) : cut xs (some (k : Int)) none = xs.drop k := by
  unfold cut
  rw [HT.sIx_none, HT.sIx_nat]
  by_cases h : k ≤ xs.length
  · rw [Nat.min_eq_left h, List.take_of_length_le (by simp)]
  · rw [Nat.min_eq_right (by omega), List.drop_of_length_le (Nat.le_refl _), List.drop_of_length_le (by omega), List.take_nil]
theorem cut_t2 {α : Type} (xs : List α) : cut xs none (some 2) = xs.take 2 := cut_to xs 2
theorem cut_t3 {α : Type} (xs : List α) : cut xs none (some 3) = xs.take 3 := cut_to xs 3
theorem cut_t4 {α : Type} (xs : List α) : cut xs none (some 4) = xs.take 4 := cut_to xs 4
theorem cut_f1 {α : Type} (xs : List α) : cut xs (some 1) none = xs.drop 1 := cut_from xs 1
theorem cut_f3 {α : Type} (xs : List α) : cut xs (some 3) none = xs.drop 3 := cut_from xs 3
theorem cut_f4 {α : Type} (xs : List α) : cut xs (some 4) none = xs.drop 4 := cut_from xs 4
theorem frz_lst (ds : List PyData) : frz (.n .lst (ds.map OV.d)) = some (.list ds) := by simp [frz, frzs_map]
/-- a list that is told by a for, part by part -/
theorem lc_run {tg : Tg} {tt : AT} {te : AE} {vs : List Nat} {Q : OV → En → Prop} (all : List PyData) (J : List PyData → List OV → En → Prop)
    (step : ∀ done d rest acc e, done ++ d :: rest = all → J done acc e → ∀ K : List OV → En → Prop, (∀ acc' e', J (done ++ [d]) acc' e' → K acc' e') →
      match tgSet tg (.d d) e with
      | some e1 => tt e1 fun b e2 => if b = true then te e2 fun y e3 => acc.length < sizeLine ∧ K (acc ++ [y]) (wipeE e3 vs) else K acc (wipeE e2 vs)
      | none => False)
    (fin : ∀ acc e, J all acc e → Q (.n .lst acc) e) : ∀ (rest done : List PyData) (acc : List OV) (e : En), done ++ rest = all → J done acc e → lcW tg tt te vs Q rest acc e
  | [], done, acc, e, h, j => by
    rw [List.append_nil] at h
    subst h
    exact fin acc e j
  | d :: rest, done, acc, e, h, j => by
    unfold lcW
    exact step done d rest acc e h j (fun acc' e' => lcW tg tt te vs Q rest acc' e') fun acc' e' j' => lc_run all J step fin rest (done ++ [d]) acc' e' (by rw [List.append_assoc]; exact h) j'
/-- the same, where nothing else is changed: f tells what comes of one -/
theorem lc_pure {tg : Tg} {tt : AT} {te : AE} {vs : List Nat} {Q : OV → En → Prop} {e0 : En} {ds : List PyData} (f : PyData → Option OV)
    (step : ∀ d, d ∈ ds → ∀ (lim : Prop) (K : Option OV → En → Prop), lim → K (f d) e0 →
      match tgSet tg (.d d) e0 with
      | some e1 => tt e1 fun b e2 => if b = true then te e2 fun y e3 => lim ∧ K (some y) (wipeE e3 vs) else K none (wipeE e2 vs)
      | none => False)
    (len : ds.length ≤ sizeLine) (h : Q (.n .lst (ds.filterMap f)) e0) : lcW tg tt te vs Q ds [] e0 := by
  refine lc_run ds (fun done acc e => e = e0 ∧ acc = done.filterMap f) ?_ ?_ ds [] [] e0 rfl ⟨rfl, rfl⟩
  · rintro done d rest acc e hd ⟨rfl, rfl⟩ K hK
    have hm : d ∈ ds := by rw [← hd]; simp
    have l1 : (done.filterMap f).length ≤ done.length := List.length_filterMap_le _ _
    have l2 : done.length < ds.length := by rw [← hd]; simp
    have g := step d hm ((done.filterMap f).length < sizeLine) (fun o e' => match o with | some y => K (done.filterMap f ++ [y]) e' | none => K (done.filterMap f) e') (by omega) (by
      cases ef : f d with
      | none => exact hK _ _ ⟨rfl, by simp [ef]⟩
      | some y => exact hK _ _ ⟨rfl, by simp [ef]⟩)
    exact g
  · rintro acc e ⟨rfl, rfl⟩
    exact h
theorem for_run {tg : Tg} {tb : AS} {D : AD} (all : List PyData) (J : List PyData → En → Prop)
    (step : ∀ done d rest e, done ++ d :: rest = all → J done e → ∀ K : En → Prop, (∀ e', J (done ++ [d]) e' → K e') →
      match tgSet tg (.d d) e with
      | some e1 => tb { D with nx := K, ct := K, bk := D.nx } e1
      | none => False)
    (fin : ∀ e, J all e → D.nx e) : ∀ (rest done : List PyData) (e : En), done ++ rest = all → J done e → forW tg tb D rest e
  | [], done, e, h, j => by
    rw [List.append_nil] at h
    subst h
    exact fin e j
  | d :: rest, done, e, h, j => by
    unfold forW
    exact step done d rest e h j (fun e' => forW tg tb D rest e') fun e' j' => for_run all J step fin rest (done ++ [d]) e' (by rw [List.append_assoc]; exact h) j'
theorem retD_rt (bs : List Bool) (xs : List OV) (R : OV → List OV → Prop) (z : OV) (e : En) : (retD bs xs R).rt z e = match finA bs 0 xs e with | some xs' => R z xs' | none => False := rfl
theorem retD_nx (bs : List Bool) (xs : List OV) (R : OV → List OV → Prop) (e : En) : (retD bs xs R).nx e = match finA bs 0 xs e with | some xs' => R (.d .none) xs' | none => False := rfl
end Ow

/-! A def's promise where some of what is handed in is fixed at once. -/
namespace Ow
open PySem L2 Grd PyProof.Rows
def fixL : List Bool → List OV → Option (List OV)
  | [], [] => some []
  | false :: bs, x :: xs => (fixL bs xs).map (x :: ·)
  | true :: bs, x :: xs => (frz x).bind fun d => (fixL bs xs).map (.d d :: ·)
  | _, _ => none
def fixC (bs : List Bool) (C : AC) : AC := fun xs R => ∃ ys, fixL bs xs = some ys ∧ C ys R
section
variable {K : PySem.W.Frag} {A : Addr → Prop} {F0 F : FS} {H0 H : Hp} {σ : L2.St} {env : En}
theorem fixL_len : ∀ {bs : List Bool} {xs ys : List OV}, fixL bs xs = some ys → ys.length = xs.length
  | [], [], ys, h => by cases h; rfl
  | false :: bs, x :: xs, ys, h => by
    obtain ⟨zs, h1, rfl⟩ := Option.map_eq_some_iff.mp h
    simp [fixL_len h1]
  | true :: bs, x :: xs, ys, h => by
    obtain ⟨d, h1, h2⟩ := Option.bind_eq_some_iff.mp h
    obtain ⟨zs, h3, rfl⟩ := Option.map_eq_some_iff.mp h2
    simp [fixL_len h3]
  | [], _ :: _, ys, h => by cases h
  | true :: _, [], ys, h => by cases h
  | false :: _, [], ys, h => by cases h
theorem At.fixL : ∀ {bs : List Bool} {us : List V} {ys zs : List OV} {F : FS} {vs : List V} {xs : List OV}, At K A F0 H0 H F (us ++ vs) (ys ++ xs) σ env → ys.length = us.length → fixL bs ys = some zs → ∃ F', At K A F0 H0 H F' (us ++ vs) (zs ++ xs) σ env
  | [], [], [], zs, F, _, _, c, _, e => by cases e; exact ⟨F, c⟩
  | false :: bs, u :: us, y :: ys, zs, F, vs, xs, c, l, e => by
    obtain ⟨ws, h1, rfl⟩ := Option.map_eq_some_iff.mp e
    have l' : ys.length = us.length := by simpa using l
    have c1 := At.app_comm (vs1 := [u]) (xs1 := [y]) (vs2 := us ++ vs) (xs2 := ys ++ xs) rfl c
    rw [List.append_assoc, List.append_assoc] at c1
    obtain ⟨F1, c2⟩ := At.fixL c1 l' h1
    rw [← List.append_assoc, ← List.append_assoc] at c2
    exact ⟨F1, At.app_comm (vs1 := us ++ vs) (xs1 := ws ++ xs) (vs2 := [u]) (xs2 := [y]) (by
      have h5 := c.cf.len
      have h6 := fixL_len h1
      simp only [List.cons_append, List.length_cons, List.length_append] at h5
      simp only [List.length_append]
      omega) c2⟩
  | true :: bs, u :: us, y :: ys, zs, F, vs, xs, c, l, e => by
    obtain ⟨d, h0, h2⟩ := Option.bind_eq_some_iff.mp e
    obtain ⟨ws, h1, rfl⟩ := Option.map_eq_some_iff.mp h2
    have l' : ys.length = us.length := by simpa using l
    obtain ⟨F0', c0⟩ := At.fix c h0
    have c1 := At.app_comm (vs1 := [u]) (xs1 := [.d d]) (vs2 := us ++ vs) (xs2 := ys ++ xs) rfl c0
    rw [List.append_assoc, List.append_assoc] at c1
    obtain ⟨F1, c2⟩ := At.fixL c1 l' h1
    rw [← List.append_assoc, ← List.append_assoc] at c2
    exact ⟨F1, At.app_comm (vs1 := us ++ vs) (xs1 := ws ++ xs) (vs2 := [u]) (xs2 := [.d d]) (by
      have h5 := c.cf.len
      have h6 := fixL_len h1
      simp only [List.cons_append, List.length_cons, List.length_append] at h5
      simp only [List.length_append]
      omega) c2⟩
  | [], [], _ :: _, zs, F, _, _, c, l, e => by simp at l
  | [], _ :: _, [], zs, F, _, _, c, l, e => by simp at l
  | [], _ :: _, _ :: _, zs, F, _, _, c, l, e => by cases e
  | true :: _, _, [], zs, F, _, _, c, l, e => by cases e
  | false :: _, _, [], zs, F, _, _, c, l, e => by cases e
  | true :: _, [], _ :: _, zs, F, _, _, c, l, e => by simp at l
  | false :: _, [], _ :: _, zs, F, _, _, c, l, e => by simp at l
end
theorem Fn.imp {P : Program} {w : World} {K : PySem.W.Frag} {mg : Str → Option Value} {base : Heap} {CX : CXT} {k : Nat} {f : Addr} {fd : FuncData} {ps : List Str} {sp sp' : Sp}
    (G : Fn P w K mg base CX k f fd ps sp) (h : ∀ vs H Q E, sp' vs H Q E → sp vs H Q E) : Fn P w K mg base CX k f fd ps sp' :=
  ⟨fun vs H Q E z => G.len vs H Q E (h vs H Q E z), fun A outer s H args us vs Q E hg hr e0 hb r z => G.run A outer s H args us vs Q E hg hr e0 hb r (h vs H Q E z)⟩
theorem Fn.fixC {P : Program} {w : World} {K : PySem.W.Frag} {mg : Str → Option Value} {base : Heap} {CX : CXT} {k : Nat} {f : Addr} {fd : FuncData} {ps : List Str} {C : AC} (bs : List Bool)
    (G : Fn P w K mg base CX k f fd ps (spA K C)) : Fn P w K mg base CX k f fd ps (spA K (fixC bs C)) := by
  refine Fn.imp G fun vs H Q E => ?_
  rintro ⟨A, F, xs, R, c, ⟨ys, e, h⟩, q⟩
  have l := c.cf.len
  have c0 : At K A F H H F (vs ++ []) (xs ++ []) [] [] := by simpa using c
  obtain ⟨F', c1⟩ := At.fixL c0 l e
  have c2 : At K A F H H F' vs ys [] [] := by simpa using c1
  exact ⟨nxt A H, F', ys, R, ⟨.refl, c2.cf.mono fun _ z => .inl z⟩, h, fun z xs' w H' F'' r a => q z xs' w H' F'' r (c2.on a.st a.cf)⟩
theorem Fn.toC {P : Program} {w : World} {K : PySem.W.Frag} {mg : Str → Option Value} {base : Heap} {CX : CXT} {k : Nat} {f : Addr} {fd : FuncData} {ps : List Str} {C C' : AC}
    (G : Fn P w K mg base CX k f fd ps (spA K C)) (h : ∀ xs R, C' xs R → C xs R) : Fn P w K mg base CX k f fd ps (spA K C') :=
  Fn.imp G fun vs H Q E ⟨A, F, xs, R, c, z, q⟩ => ⟨A, F, xs, R, c, h xs R z, q⟩
end Ow

/-! A def that only looks: what was handed in stays its owner's. -/
namespace Ow
open PySem L2 Grd PyProof.Rows
open Evl (Ex)
def lendC (C : AC) : AC := fun xs R => ∃ ds, frzs xs = some ds ∧ C (ds.map .d) fun z _ => ∃ d, z = .d d ∧ flatD d = true ∧ R (.d d) xs
theorem owns_dts {K : PySem.W.Frag} {H : Hp} {F : FS} : ∀ {vs : List V} {ds : List PyData}, Dts K (rs H F) vs ds → Owns K H F vs (ds.map .d) []
  | _, _, .nil => .nil
  | _, _, .cons h t => .cons (.d h) (owns_dts t)
theorem flat_dt {K : PySem.W.Frag} {H H' : Hp} {v : V} {d : PyData} (h : Dt K H v d) (f : flatD d = true) : Dt K H' v d := by
  cases h with
  | non => exact .non
  | bl b => exact .bl b
  | int i => exact .int i
  | str x => exact .str x
  | lst _ _ => cases f
  | tup _ _ => cases f
theorem Fn.lend {P : Program} {w : World} {K : PySem.W.Frag} {mg : Str → Option Value} {base : Heap} {CX : CXT} {k : Nat} {f : Addr} {fd : FuncData} {ps : List Str} {C : AC}
    (G : Fn P w K mg base CX k f fd ps (spA K C)) : Fn P w K mg base CX k f fd ps (spA K (lendC C)) := by
  refine Fn.imp G fun vs H Q E => ?_
  rintro ⟨A, F, xs, R, c, ⟨ds, e, h⟩, q⟩
  obtain ⟨st, ⟨⟨a1, a2, h1, h2, nd, off⟩, fh⟩⟩ := c
  cases h2
  rw [List.append_nil] at nd off
  have dv : Dts K (rs H (fx F a1)) vs ds := h1.frz fx_le e fun a ha => fx_true.mpr (.inr ha)
  have ol := owns_dts dv
  refine ⟨A, fx F a1, ds.map .d, _, ⟨.refl, ⟨⟨[], [], ol, .nil, by simp, fun a ha => by simp at ha⟩, fun a ha => ?_⟩⟩, h, fun z xs' w H' F' r a => ?_⟩
  · rcases fx_true.mp ha with ha | ha
    · exact fh a ha
    · exact h1.ne a ha
  · obtain ⟨d, rfl, fl, r⟩ := r
    have keepF : ∀ b o, fx F a1 b = true → H b = some o → H' b = some o := fun b o hb ho => by
      have := a.st.fr b o (by rw [rs_some]; exact ⟨hb, ho⟩)
      rw [rs_some] at this
      exact this.2
    have fr : Ex (rs H F) (rs H' F) := fun b o hb => by
      rw [rs_some] at hb ⊢
      exact ⟨hb.1, keepF b o (fx_le b hb.1) hb.2⟩
    have o1 : Owns K H' F vs xs a1 := h1.keep fr fun b hb o ho => keepF b o (fx_true.mpr (.inr hb)) ho
    refine q (.d d) xs w H' F r ⟨⟨a.st.keep, fr, fun b hb => .inl hb⟩, ⟨⟨a1, [], ?_, .nil, by simpa using nd, fun b hb => off b (by simpa using hb)⟩, fun b hb => ?_⟩⟩
    · exact .cons (as := []) (.d (flat_dt a.dp fl)) o1
    · cases ho : H b with
      | none => exact absurd ho (fh b hb)
      | some o =>
        rw [keepF b o (fx_le b hb) ho]
        simp
end Ow

/-! Sets of texts: filled one by one, sorted. -/
namespace Ow
open PySem PySem.Spec L2 Grd PyProof.Rows PySem.Froz
/-- one more -/
def addT (l : List Str) (k : Str) : List Str := if k ∈ l then l else k :: l
/-- at a: a set of just the texts l, that can be walked -/
def TxS (P : Program) (w : World) (a : Addr) (l : List Str) (h : Heap) : Prop :=
  ∃ D : SD, h.get? a = some (sObj "set" D) ∧ TxOk P w D l ∧ l.Nodup ∧ l.length < scanBound ∧ Ris D.2.2.place.toList ∧ (w.params.followText "set-order" = true ∨ D.2.2.led = true)
theorem addT_nodup {l : List Str} (h : l.Nodup) (k : Str) : (addT l k).Nodup := by
  unfold addT
  split
  · exact h
  · exact List.nodup_cons.mpr ⟨‹_›, h⟩
theorem addT_mem {l : List Str} {k x : Str} : x ∈ addT l k ↔ x ∈ l ∨ x = k := by
  unfold addT
  split
  · exact ⟨.inl, fun z => z.elim id fun e => e ▸ ‹k ∈ l›⟩
  · rw [List.mem_cons]; exact Or.comm
theorem addT_len (l : List Str) (k : Str) : (addT l k).length ≤ l.length + 1 := by
  unfold addT
  split
  · omega
  · simp
theorem addTx_keeps (h : Int) (v : Value) (D : SD) (r : Ris D.2.2.place.toList) : Ris (addTx h v D).2.2.place.toList ∧ (addTx h v D).2.2.led = D.2.2.led := by
  have r1 := layNew_ris D.2.2 D.1 h v r
  have l1 := layNew_led D.2.2 D.1 h v
  unfold addTx
  generalize layNew D.2.2 D.1 h v = L at r1 l1 ⊢
  have q : Ris (if L.2.1.plain = true then { L.2.1 with plain := false } else L.2.1).place.toList ∧ (if L.2.1.plain = true then { L.2.1 with plain := false } else L.2.1).led = D.2.2.led := by
    split
    · exact ⟨r1, l1⟩
    · exact ⟨r1, l1⟩
  generalize (if L.2.1.plain = true then { L.2.1 with plain := false } else L.2.1) = t2 at q ⊢
  unfold tailTx
  split
  · exact ⟨relayAll_ris _ _ _, (relayAll_led _ _ _).trans q.2⟩
  · exact q
section
variable {P : Program} {w : World} {A : Around} {E : Value → Shared → Prop} {s : Shared} {a : Addr} {l : List Str} {k : Str} {u : Tok}
theorem TxS.keep {h h' : Heap} (R : TxS P w a l h) (kp : ∀ o, h.get? a = some o → h'.get? a = some o) : TxS P w a l h' := by
  obtain ⟨D, ho, r⟩ := R
  exact ⟨D, kp _ ho, r⟩
theorem tx_fresh {h : Heap} (w : World) : TxS P w h.objs.size [] (h.push { cls := .type "set", dict := none, data := .set #[] 0 (.fresh 0 0 (!w.params.followText "set-order")) }) := by
  refine ⟨(#[], 0, .fresh 0 0 (!w.params.followText "set-order")), Heap.get?_push_size _ rfl, TxOk.nil (by rfl), List.nodup_nil, by decide, List.Pairwise.nil, ?_⟩
  show _ ∨ (!w.params.followText "set-order") = true
  cases w.params.followText "set-order" <;> simp
theorem tx_addH {Q : Bool → Shared → Prop} (R : TxS P w a l s.heap) (room : l.length + 1 < scanBound)
    (hQ : ∀ b h', Heap.SameBut a s.heap h' → TxS P w a (addT l k) h' → Q b { s with heap := h' }) : wpAny (model P w) A (setAddHashed a (.str k u) (hashStr w k)) Q E s := by
  obtain ⟨D, ho, F, nd, hb, hr, hl⟩ := R
  by_cases hk : k ∈ l
  · have e0 : addT l k = l := if_pos hk
    have hd : (sObj "set" D).data = .set D.1 D.2.1 D.2.2 := rfl
    have hbs : D.1.size < scanBound := by rw [F.sz]; exact hb
    obtain ⟨e, he, q⟩ := (F.mem k).mp hk
    unfold setAddHashed setAddHashedIn
    refine wpAny_holding (wpAny_bind (wpAny_setState_of ho hd F.fit ?_))
    dsimp only
    rw [byScan_of (x := .str k u) rfl hbs F.el]
    simp only [↓reduceIte]
    unfold setAddByScan
    refine wpAny_bind (wpAny_bind (wpAny_rule (wpAny_bind (wpAny_setScan_of (knd := strKind P w) (k := k) (is_str k u) ho hd F.fit F.el ?_))))
    cases hf : List.findIdx? (fun e => (strKind P w).is k e.2) D.1.toList with
    | none =>
      have z := List.findIdx?_eq_none_iff.mp hf e he
      rw [q] at z
      cases z
    | some j =>
      dsimp only
      exact wpAny_pure (wpAny_pure (hQ _ s.heap (Heap.SameBut.refl a s.heap) (by rw [e0]; exact ⟨D, ho, F, nd, hb, hr, hl⟩)))
  · have e0 : addT l k = k :: l := if_neg hk
    obtain ⟨r1, r2⟩ := addTx_keeps (hashStr w k) (.str k u) D hr
    refine add_x ho F hk room (hQ _ _ (Heap.SameBut.update s.heap a _) ?_)
    rw [e0]
    exact ⟨_, get_upd _ ho rfl, add_ok u F, List.nodup_cons.mpr ⟨hk, nd⟩, room, r1, hl.imp id fun z => r2.trans z⟩
theorem tx_setAdd {Q : Bool → Shared → Prop} (R : TxS P w a l s.heap) (room : l.length + 1 < scanBound)
    (hQ : ∀ b h', Heap.SameBut a s.heap h' → TxS P w a (addT l k) h' → Q b { s with heap := h', toks := s.toks + 1 }) : wpAny (model P w) A (setAdd a (.str k u)) Q E s := by
  unfold setAdd
  exact wpAny_holding (wpAny_bind ((strKind P w).pyHash (k := k) (is_str k u) (tx_addH (s := { s with toks := s.toks + 1 }) R room hQ)))
theorem tx_call_add {Q : Value → Shared → Prop} (R : TxS P w a l s.heap) (room : l.length + 1 < scanBound)
    (hQ : ∀ h', Heap.SameBut a s.heap h' → TxS P w a (addT l k) h' → Q .none { s with heap := h', toks := s.toks + 1 }) : wpAny (model P w) A (call (.builtin "set.add") [.ref a, .str k u]) Q E s := by
  have ho : s.TypeIs (.ref a) "set" := let ⟨D, ho, _⟩ := R; ⟨_, ho, rfl⟩
  refine wpAny_call_entry F.slot_set_add ho F.entry_set_add ?_ (F.args_set_add_2 _ _)
  unfold Builtin.«set.add» Builtin.Frozenset.oneOther Builtin.Frozenset.addrOf
  simp only [List.isEmpty_nil, bind_assoc]
  refine wpAny_bind (wpAny_pure (wpAny_bind (wpAny_pure ?_)))
  refine wpAny_bind (tx_setAdd R room fun b h' sb r => ?_)
  show wpAny _ _ (ret Value.none) _ _ _
  exact wpAny_pure ⟨_, rfl, hQ h' sb r⟩
/-! sorted -/
def txtOf : Value → Str
  | .str x _ => x
  | _ => Str.empty
theorem strs_txtOf : ∀ (vs : List Value), (∀ v ∈ vs, ∃ x t, v = Value.str x t) → StrsAre vs (vs.map txtOf)
  | [], _ => .nil
  | v :: vs, h => by
    obtain ⟨x, t, rfl⟩ := h v List.mem_cons_self
    exact .cons x t (strs_txtOf vs fun y hy => h y (List.mem_cons_of_mem _ hy))
theorem perm_of_sub : ∀ {l m : List Str}, l.Nodup → (∀ x ∈ l, x ∈ m) → m.length = l.length → m.Perm l
  | [], m, _, _, h => by rw [List.eq_nil_of_length_eq_zero h]
  | x :: l, m, nd, sub, h => by
    obtain ⟨n1, n2⟩ := List.nodup_cons.mp nd
    have hx := sub x List.mem_cons_self
    have p := List.perm_cons_erase hx
    have le := p.length_eq
    simp only [List.length_cons] at le h
    refine p.trans (List.Perm.cons x (perm_of_sub n2 (fun y hy => ?_) (by omega)))
    have ne : y ≠ x := fun e => n1 (e ▸ hy)
    exact (List.mem_erase_of_ne ne).mpr (sub y (List.mem_cons_of_mem _ hy))
theorem tx_sorted {Q : Value → Shared → Prop} (R : TxS P w a l s.heap) (hh : A.handled = none)
    (hQ : ∀ s' p (out : Array Value) (c : Nat) (ss : List Str), (∀ b o, s.heap.get? b = some o → s'.heap.get? b = some o) → s'.gens = s.gens → s'.os = s.os → s.heap.objs.size ≤ p →
      s'.heap.get? p = some (seqObj "list" out c) → StrsAre out.toList ss → ss.Perm l → sortedS ss = true → Q (.ref p) s') : wpAny (model P w) A (call (.builtin "sorted") [.ref a]) Q E s := by
  obtain ⟨D, ho, F, nd, hb, hr, hl⟩ := R
  have hbs : D.1.size < scanBound := by rw [F.sz]; exact hb
  refine Calls.call_function_entry kind_sorted plain_sorted entry_sorted (args_sorted1 _) ?_
  unfold Builtin.«sorted»
  refine wpAny_bind (m := checkCount "sorted" 1 1 _) (wpAny_pure (wpAny_bind ?_))
  refine collect_set (A := A.in1) (es := D.1) (ep := D.2.1) (t := D.2.2) hh ⟨_, ho, rfl, rfl⟩ F.fit hbs hr hl fun s1 vs k1 hz g1 o1 pm => ?_
  have str : ∀ e ∈ D.1.toList, ∃ x t, e.2 = Value.str x t := fun e he => by
    obtain ⟨⟨k, h1, _⟩, _⟩ := F.el e he
    obtain ⟨t, e1⟩ := Value.isStrOf_shape (x := k) (v := e.2) h1
    exact ⟨k, t, e1⟩
  have hS : StrsAre vs (vs.map txtOf) := strs_txtOf vs fun v hv => by
    obtain ⟨e, he, q⟩ := List.mem_map.mp (pm.mem_iff.mp hv)
    obtain ⟨x, t, e1⟩ := str e he
    exact ⟨x, t, by rw [← q, e1]⟩
  have pk : (vs.map txtOf).Perm l := by
    refine (pm.map txtOf).trans (perm_of_sub nd (fun x hx => ?_) (by simp [F.sz]))
    obtain ⟨e, he, q⟩ := (F.mem x).mp hx
    obtain ⟨t, e1⟩ := Value.isStrOf_shape (x := x) (v := e.2) q
    rw [List.map_map]
    exact List.mem_map.mpr ⟨e, he, by show txtOf e.2 = x; rw [e1]; rfl⟩
  have hvl : vs.length ≤ sizeLine := by
    have := pk.length_eq
    rw [List.length_map] at this
    have e1 : scanBound = 4096 := rfl
    rw [sizeLine_eq]
    omega
  refine wpAny_bind (wpAny_newList ?_ hvl)
  have at1 : (s1.heap.push (seqObj "list" vs.toArray 0)).get? s1.heap.objs.size = some (seqObj "list" vs.toArray 0) := Heap.get?_push_size _ rfl
  refine wpAny_bind (wpAny_holding (wpAny_call_entry slot_list_sort ⟨_, at1, rfl⟩ entry_list_sort (list_sort_treeKAny strKind_oneLt at1 hS.keysOf
    (fun v₁ v₂ rest e => keyKind_strs (by rw [← e]; exact hS)) hvl fun st' a1 a2 => ⟨_, rfl, ?_⟩) (args_list_sort _)))
  obtain ⟨ss, q1, q2, q3⟩ := sorted_out_str hS a1 a2
  obtain ⟨c, hc⟩ := sortedHeap_at (vs := vs) (out := _) at1
  refine wpAny_pure ⟨_, rfl, hQ _ s1.heap.objs.size _ c ss (fun b o e => ?_) g1 o1 hz hc q1 (q2.trans pk) q3⟩
  have z := k1 b o e
  have lt := Heap.lt_size z
  show (sortedHeap (s1.heap.push (seqObj "list" vs.toArray 0)) s1.heap.objs.size vs _).get? b = some o
  rw [sortedHeap_old (Nat.ne_of_lt lt) (by rw [size_push']; exact Nat.lt_succ_of_lt lt)]
  exact Heap.get?_push_of_some _ z
end
end Ow

/-! A set that is filled by a comprehension (whatever the set's things are). -/
namespace Ow
open PySem PySem.Spec L2 Grd PyProof.Rows PySem.Froz
/-- how a set of one kind is tracked: what it is at first, what comes of an add -/
structure SKind (P : Program) (w : World) (β : Type) where
  ob : β → Addr → HO
  b0 : β
  ad : V → β → β → Prop
  first : ∀ (H : Hp) (h : Heap), ObjOk P w H (h.push { cls := .type "set", dict := none, data := .set #[] 0 (.fresh 0 0 (!w.params.followText "set-order")) }) h.objs.size (ob b0 h.objs.size)
  more : ∀ {X : Cx} {pins : List (Addr × Obj)} {σ : L2.St} {H : Hp} {s : Shared} {E : Value → Shared → Prop} {D : Addr} {b c : β} {y : V} {u : Value} {Q : Value → Shared → Prop}, X.prog = P → X.w = w → Inv X pins σ H s → H D = some (ob b D) → ad y b c → RelV y u →
    (∀ s', Inv X pins σ (upd H D (ob c D)) s' → Q .none s') → wpAny (model P w) X.A (call (.builtin "set.add") [.ref D, u]) Q E s
section
variable {X : Cx} {β : Type}
/-- {elt for target in iter if ..} -/
def tSK {P : Program} {w : World} (S : SKind P w β) (wi : TI) (g : TG) (tt : TT) (te : TE) (vs : List Nat) : TE := fun σ H Q => wi σ H fun J H1 => ∀ D, H1 D = none → ∃ W : Nat → Nat → Hp → Prop, (∃ m, W 0 m (upd H1 D (S.ob S.b0 D))) ∧
  ∀ i m H, W i m H → (J.stop i H ∧ Q (.ref D) H) ∨ (J.go i H ∧ ∃ Nx : Hp → Prop, (∀ H', Nx H' → ∃ m', m' < m ∧ W (i + 1) m' H') ∧
    ∀ x H', J.yld i H x H' → g x (wipe σ vs) H' fun σ2 H2 => wipe σ2 vs = wipe σ vs ∧ tt σ2 H2 fun b H3 => if b = true then te σ2 H3 fun y H4 => ∃ b c, H4 D = some (S.ob b D) ∧ S.ad y b c ∧ Nx (upd H4 D (S.ob c D)) else Nx H3)
theorem pe_sk (S : SKind X.prog X.w β) {elt tg iter : Expr} {ifs : List Expr} {scope : Scope} {own : List (PySem.Str × Nat)} {pos : Pos} {wi : TI} {g : TG} {tt : TT} {te : TE} (calm : X.calm = true) (hN : X.N.Nodup) (hi : PI X tg iter wi) (ok : BlkOk X.N X.env.scope scope own)
    (hg : ∀ (s : Shared) (H : Hp) (C : Addr) (cl : List (PySem.Str × Addr)) (fp : List Addr), PG (X.blk s H scope (compEnvC scope cl C X.env) fp) tg g)
    (ht : ∀ (s : Shared) (H : Hp) (C : Addr) (cl : List (PySem.Str × Addr)) (fp : List Addr), PTs (X.blk s H scope (compEnvC scope cl C X.env) fp) ifs tt)
    (he : ∀ (s : Shared) (H : Hp) (C : Addr) (cl : List (PySem.Str × Addr)) (fp : List Addr), PE (X.blk s H scope (compEnvC scope cl C X.env) fp) elt te)
    (hs : ∀ x, foldedSetIterable iter X.env x = pure x := by intro _; rfl) : PE X (.SetComp elt [⟨tg, iter, ifs, 0⟩] scope pos) (tSK S wi g tt te (own.map (·.2))) := by
  refine ⟨fun pins s σ H Q I hw => ?_⟩
  rw [PpSet.eval_SetComp]
  have cells : ∀ y ∈ scope.names, y.2 = .free → ∃ c, X.env.cells.lookup y.1 = some c := fun y hy e => (ok.free y hy e).elim (fun k => I.ok.has _ (.inl k)) fun k => I.ok.has _ (.inr k)
  refine wpAny_comprehension_free (use := none) rfl hs (closure_ok cells) ok.kind (fun y hy e => by rw [ok.uniq y hy, e]) (thn (hi.run pins s σ H _ I hw) fun xv s1 hx => thn hx ?_)
  rintro itv s2 ⟨it, fp, tn, J, H2, rfl, I2, T, st2, f2, q⟩
  refine PpSet.newSet_ok (newEnv_comp ?_)
  generalize eD : s2.heap.objs.size = D
  obtain ⟨W, ⟨m0, w0⟩, turn⟩ := q D (I2.hok.fresh (Nat.le_of_eq eD))
  generalize e3 : ({ s2 with heap := s2.heap.push { cls := .type "set", dict := none, data := .set #[] 0 (.fresh 0 0 (!X.w.params.followText "set-order")) } } : Shared) = s3
  have eh3 : s3.heap = s2.heap.push { cls := .type "set", dict := none, data := .set #[] 0 (.fresh 0 0 (!X.w.params.followText "set-order")) } := by rw [← e3]
  have I3 : Inv X pins σ (upd H2 D (S.ob S.b0 D)) s3 := by
    rw [← e3]
    exact I2.laid (t' := s2.toks) (fun b o e => Heap.get?_push_of_some _ e) (Nat.le_of_eq eD) (by rw [← eD]; exact S.first _ _)
  have f3 : ∀ b ∈ fp, FpOk X pins (upd H2 D (S.ob S.b0 D)) b ∧ b < s3.heap.objs.size := by
    intro b hb
    obtain ⟨o, e, _⟩ := T.obj _ _ st2 b hb
    have lt : b < s2.heap.objs.size := Heap.lt_size e
    exact ⟨⟨by rw [upd_ne (by rw [← eD]; exact Nat.ne_of_lt lt)]; exact (f2 b hb).1, (f2 b hb).2⟩, by rw [eh3, Heap.size_push]; exact Nat.lt_succ_of_lt lt⟩
  have st3 : tn 0 s3.heap := T.keep _ _ _ st2 fun b _ o e => eh3 ▸ Heap.get?_push_of_some _ e
  have I4 := block_start I3 ok hN f3
  generalize ecl : cellsFrom (s3.heap.objs.size + 1) scope.names (cloFrom X.env.cells scope.names []) = cl at I4
  generalize eH3 : upd H2 D (S.ob S.b0 D) = H3 at I3 I4 w0 f3
  have pg := hg s3 H3 s3.heap.objs.size cl fp
  have pt := ht s3 H3 s3.heap.objs.size cl fp
  have pe := he s3 H3 s3.heap.objs.size cl fp
  subst ecl
  show codeAny _ _ (.compStart _ 0 (.ref it) (.ref D) (compEnvC scope (cellsFrom (s3.heap.objs.size + 1) scope.names (cloFrom X.env.cells scope.names [])) s3.heap.objs.size X.env)) _ { s3 with heap := pushCells (s3.heap.push { cls := .type "dict", data := .dict #[] }) scope.names }
  have none3 : ∀ b ∈ fp, H3 b = none := fun b hb => (f3 b hb).1.1
  generalize ece : compEnvC scope (cellsFrom (s3.heap.objs.size + 1) scope.names (cloFrom X.env.cells scope.names [])) s3.heap.objs.size X.env = ce at I4 pg pt pe ⊢
  have loc : ce.locals = s3.heap.objs.size := by subst ece; rfl
  generalize e4 : ({ s3 with heap := pushCells (s3.heap.push { cls := .type "dict", data := .dict #[] }) scope.names } : Shared) = s4 at I4 ⊢
  have st4 : tn 0 s4.heap := T.keep _ _ _ st3 fun b _ o e => e4 ▸ pushCells_keeps _ _ _ _ (Heap.get?_push_of_some _ e)
  have fps : ∀ {σ' : L2.St} {H' : Hp} {s' : Shared}, Inv (X.blk s3 H3 scope ce fp) [] σ' H' s' → (∀ b ∈ fp, H' b = none) → ∀ b ∈ fp, FpOk (X.blk s3 H3 scope ce fp) [] H' b := fun J hn b hb =>
    ⟨hn b hb, (J.ok.exf b hb).1, J.ok.exfs b hb, .inl hb, fun x c e => (J.ok.exf b hb).2 x c e, fun p hp => by simp at hp⟩
  refine PpSet.codeAny_compStart_set ?_ (T.self X.A 0 _ _ _ st4 ?_)
  all_goals
    refine PpSet.compLoopS_any (fun n s' => ∃ i H', Inv (X.blk s3 H3 scope ce fp) [] (wipe σ (own.map (·.2))) H' s' ∧ tn i s'.heap ∧ (∀ b ∈ fp, H' b = none) ∧ W i n H') ?_ m0 ⟨0, H3, I4, st4, none3, w0⟩
    rintro n s5 ⟨i, H5, I5, st5, n5, w5⟩
    rcases turn i n H5 w5 with ⟨stop, fin⟩ | ⟨go, Nx, hNx, step⟩
    · refine thnF (T.done (X.blk s3 H3 scope ce fp) rfl rfl rfl calm i [] s5 _ H5 (fun _ _ => False) I5 (fps I5 n5) st5 stop) ?_
      rintro r s6 ⟨rfl, I6⟩
      have I7 : Inv X pins σ H5 s6 := I3.call' (ch := fp) I6.os I6.base I6.hok I6.bare fun b hb => let z := (f3 b hb).1.2; ⟨z.2.2.1, z.1, z.2.2.2.1, z.2.2.2.2⟩
      have nl : H5 s3.heap.objs.size = none := loc ▸ (show H5 ce.locals = none from I6.free)
      obtain ⟨m, hn, _⟩ := I6.loc
      obtain ⟨g0, g1, g2, g3, g4, g5⟩ := I3.fpOk (Nat.le_refl _) nl
      exact ⟨m, loc ▸ (show s6.heap.Ns ce.locals m from hn), fun h'' sb => ⟨.ref D, H5, I7.turned (t' := s6.toks) (fun b o hb e => (sb.2 b hb).trans e) g0 g1 g3 g4 g5, rfl, fin⟩⟩
    · refine thnF (T.item (X.blk s3 H3 scope ce fp) rfl rfl rfl calm i [] s5 _ H5 (fun _ _ => False) I5 (fps I5 n5) st5 go) ?_
      rintro r s6 ⟨u, rfl, h6⟩
      refine thnF h6 ?_
      rintro _ s7 ⟨x, H7, I7, r7, y7, st7, n7⟩
      refine thnF (pg.run _ s7 _ H7 x u _ (I7.pinned (fps I7 n7) (T.obj _ _ st7)) r7 (step x H7 y7)) ?_
      rintro _ s8 ⟨σ8, H8, I8, hw8, q8⟩
      refine thnF (pt.run _ s8 σ8 H8 _ I8 q8) ?_
      rintro b s9 ⟨H9, I9, q9⟩
      have back : ∀ {s' : Shared} {H' : Hp}, Inv (X.blk s3 H3 scope ce fp) ([] ++ pinsAt fp s7.heap) σ8 H' s' → Nx H' → ∃ m, m < n ∧ ∃ i H', Inv (X.blk s3 H3 scope ce fp) [] (wipe σ (own.map (·.2))) H' s' ∧ tn i s'.heap ∧ (∀ b ∈ fp, H' b = none) ∧ W i m H' := by
        intro s' H' J nx
        obtain ⟨m', lt, w'⟩ := hNx H' nx
        have pin' : ∀ b ∈ fp, ∀ o, s7.heap.get? b = some o → s'.heap.get? b = some o ∧ H' b = none := fun b hb o e =>
          ⟨(J.pin (b, o) (List.mem_append_right _ (List.mem_append_right _ (mem_pinsAt hb e)))).1, (J.pin (b, o) (List.mem_append_right _ (List.mem_append_right _ (mem_pinsAt hb e)))).2.1⟩
        refine ⟨m', lt, i + 1, H', (J.unpinned (pins := [])).weak (by rw [← hw8, wipe_length]) (fun j v e => (wipe_some (hw8 ▸ e)).1), T.keep _ _ _ st7 fun b hb o e => (pin' b hb o e).1, fun b hb => ?_, w'⟩
        obtain ⟨o, e, _⟩ := T.obj _ _ st7 b hb
        exact (pin' b hb o e).2
      cases b with
      | false =>
        simp only [Bool.false_eq_true, if_false] at q9 ⊢
        exact back I9 q9
      | true =>
        simp only [if_true] at q9 ⊢
        refine thnF (pe.run _ s9 σ8 H9 _ I9 q9) ?_
        rintro z s10 ⟨y, H10, I10, r10, b0, c0, hD10, ad, nx⟩
        exact S.more (X := X.blk s3 H3 scope ce fp) rfl rfl I10 hD10 ad r10 fun s11 I11 => back I11 nx
end
/-! ### texts -/
def TxO (P : Program) (w : World) (l : List Str) (a : Addr) : HO := .ext (TxS P w a l)
theorem txO_ok {P : Program} {w : World} {H : Hp} {h : Heap} {a : Addr} {l : List Str} (R : TxS P w a l h) : ObjOk P w H h a (TxO P w l a) := by
  obtain ⟨D, ho, r⟩ := R
  exact ⟨⟨D, ho, r⟩, ⟨_, ho⟩, fun h1 h2 p k => p.keep k⟩
def txK (P : Program) (w : World) : SKind P w (List Str) where
  ob := TxO P w
  b0 := []
  ad := fun y l l' => ∃ c : Str, y = .str c ∧ l.length + 1 < scanBound ∧ l' = addT l c
  first := fun H h => txO_ok (tx_fresh w)
  more := by
    rintro X pins σ H s E D l l' y u Q rfl rfl I hD ⟨c, rfl, room, rfl⟩ r h
    obtain ⟨t, rfl⟩ := r
    have R : TxS X.prog X.w D l s.heap := (I.hok D _ hD).1
    refine tx_call_add R room fun h' sb new => h _ ?_
    obtain ⟨D', ho', _⟩ := id new
    exact I.write (e := D) (t' := s.toks + 1) (by rw [hD]; trivial) (.inl rfl) (fun b u hb hu => (sb.2 b hb).trans hu) ⟨_, ho'⟩ (txO_ok new)
/-- sorted of a set of texts -/
def rSortedTx (P : Program) (w : World) : List V → Hp → VK → Prop := fun vs H Q => ∃ (a : Addr) (l : List Str), vs = [V.ref a] ∧ H a = some (TxO P w l a) ∧
  ∀ (ss : List Str) (p : Addr), ss.Perm l → sortedS ss = true → H p = none → Q (.ref p) (upd H p (.lst (ss.map V.str)))
theorem cr_sortedTx {X : Cx} (hc : X.calm = true) : CallR X (.builtin "sorted") (rSortedTx X.prog X.w) := by
  intro pins s σ H vs us Q I r h
  obtain ⟨a, l, rfl, ha, q⟩ := h
  rw [Vals.ref1 r]
  refine tx_sorted (I.hok a _ ha).1 (I.ok.hd hc) fun s' p out c ss kp eg eo hp hg hS pm so => ?_
  have lz : (ss.map V.str).length ≤ sizeLine := by
    obtain ⟨_, _, _, _, lb, _⟩ := (I.hok a _ ha).1
    have e1 : scanBound = 4096 := rfl
    rw [List.length_map, pm.length_eq, sizeLine_eq]
    omega
  have new : H p = none := I.hok.fresh hp
  have J : Inv X pins σ (upd H p (.lst (ss.map V.str))) { s with heap := s'.heap, gens := s'.gens, drawn := s'.drawn, toks := s'.toks } :=
    I.call (ch := []) (Un.laid kp hp new) (I.hok.laid kp hp ⟨lz, out.toList, c, vals_of_strs hS, hg⟩) (by rw [eg]; exact I.bare) (fun _ z => nomatch z)
  have e : s' = { s with heap := s'.heap, gens := s'.gens, drawn := s'.drawn, toks := s'.toks } := by
    cases s'; cases s; cases eo; rfl
  rw [e]
  exact ⟨.ref p, _, J, rfl, q ss p pm so new⟩
/-! ### as data: what is told of a sorted set -/
/-- a set of texts filled one by one -/
def scW (tg : Tg) (tt : AT) (te : AE) (vs : List Nat) (Q : List Str → En → Prop) : List PyData → List Str → En → Prop
  | [], acc, e => Q acc e
  | d :: ds, acc, e => match tgSet tg (.d d) e with
    | some e1 => tt e1 fun b e2 => if b = true then te e2 fun y e3 => (match y with
        | .d (.str z) => acc.length + 1 < scanBound ∧ scW tg tt te vs Q ds (addT acc z) (wipeE e3 vs)
        | _ => False) else scW tg tt te vs Q ds acc (wipeE e2 vs)
    | none => False
def aSortedSc (it : AI) (tg : Tg) (tt : AT) (te : AE) (vs : List Nat) : AE := fun env Q => it env fun ds e => scW tg tt te vs (fun l e2 => ∀ ss : List Str, ss.Perm l → sortedS ss = true → Q (.n .lst ((ss.map PyData.str).map .d)) e2) ds [] (wipeE e vs)
section
variable {X : Cx} {elt tg' iter : Expr} {ifs : List Expr} {scope : Scope} {own : List (Str × Nat)} {it : AI} {g : TG} {tg : Tg} {tt : AT} {te : AE} {pos p pos2 : Pos} {x : Str}
theorem At.newX {K : PySem.W.Frag} {A : Addr → Prop} {F0 F : FS} {H0 H : Hp} {vs : List V} {xs : List OV} {σ : L2.St} {env : En} {o : Addr → HO} {q : Addr} (c : At K A F0 H0 H F vs xs σ env) (hp : H q = none) : At K A F0 H0 (upd H q (o q)) F (.ref q :: vs) (.n (.ext o) [] :: xs) σ env :=
  At.make (us := []) (ys := []) (s := .ext o) c rfl hp ⟨upd_same, rfl, rfl⟩
theorem se_sortedSc (hc : X.calm = true) (hN : X.N.Nodup) (hgl : Gl X "sorted") (hm : X.mg "sorted" = none) (hi : SI X tg' iter it) (ok : BlkOk X.N X.env.scope scope own) (hG : Gt X.K g tg) (hsub : ∀ i ∈ tg.slots, i ∈ own.map (·.2))
    (hg : ∀ (s : Shared) (H : Hp) (C : Addr) (cl : List (Str × Addr)) (fp : List Addr), PG (X.blk s H scope (compEnvC scope cl C X.env) fp) tg' g)
    (ht : ∀ (s : Shared) (H : Hp) (C : Addr) (cl : List (Str × Addr)) (fp : List Addr), STs (X.blk s H scope (compEnvC scope cl C X.env) fp) ifs tt)
    (he : ∀ (s : Shared) (H : Hp) (C : Addr) (cl : List (Str × Addr)) (fp : List Addr), SE (X.blk s H scope (compEnvC scope cl C X.env) fp) elt te) (hs : ∀ x, foldedSetIterable iter X.env x = pure x := by intro _; rfl)
    (hst : starEach [.SetComp elt [⟨tg', iter, ifs, 0⟩] scope pos] X.env = [(false, eval (.SetComp elt [⟨tg', iter, ifs, 0⟩] scope pos) X.env)] := by rfl) (hpl : (backTo pos2 (starEach [] X.env)).any (·.1) = false := by rfl) :
    SE X (.Call (.Name "sorted" p) [.SetComp elt [⟨tg', iter, ifs, 0⟩] scope pos] [] pos2) (aSortedSc it tg tt te (own.map (·.2))) :=
  peTo (pe_callB (cr_sortedTx hc) hgl hm (by decide +kernel) (pa_cons (pe_sk (tt := LT X.K tt) (te := LE X.K te) (txK X.prog X.w) hc hN hi ok hg ht he hs) pa_nil hst) (by decide) (by decide) hst hpl) fun σ H Q ⟨A, F, env, R, c, h, k⟩ => evi c h fun ds e1 J H1 F1 h1 c1 it1 => fun D hD => by
    let W : Nat → Nat → Hp → Prop := fun i m H' => m = ds.length - i ∧ i ≤ ds.length ∧ ∃ F' e0 acc, At X.K (nxt A H) F1 H1 H' F' [.ref D] [.n (.ext (TxO X.prog X.w acc)) []] (wipe σ (own.map (·.2))) (wipeE e0 (own.map (·.2))) ∧
      scW tg tt te (own.map (·.2)) (fun l e2 => ∀ ss : List Str, ss.Perm l → sortedS ss = true → R (.n .lst ((ss.map PyData.str).map .d)) e2) (ds.drop i) acc (wipeE e0 (own.map (·.2)))
    refine ⟨W, ⟨ds.length, by simp, Nat.zero_le _, F1, e1, [], At.newX (c1.re1.wipes _) hD, h1⟩, fun i m H2 w => ?_⟩
    obtain ⟨rfl, hi, F2, e2, acc, c2, h2⟩ := w
    obtain ⟨go, stop⟩ := it1.run c2.st.fr c2 i
    by_cases lt : i < ds.length
    · have hd : ds[i]? = some ds[i] := List.getElem?_eq_getElem lt
      obtain ⟨g1, g2⟩ := go _ hd
      rw [List.drop_eq_getElem_cons lt] at h2
      refine .inr ⟨g1, W (i + 1) (ds.length - (i + 1)), fun H' w => ⟨_, by omega, w⟩, fun x H3 y => ?_⟩
      obtain ⟨F3, c3⟩ := g2 x H3 y
      unfold scW at h2
      split at h2
      · rename_i e3 q
        refine hG.run c3 q fun σ3 H3' F3' b c4 => ?_
        have ws : wipe σ3 (own.map (·.2)) = wipe σ (own.map (·.2)) := (wipe_but (b.mono hsub)).trans (wipe_but (but_wipe _ σ))
        refine ⟨ws, evt c4 h2 fun bo e4 H4 F4 h4 c5 => ?_⟩
        split
        · rename_i z
          rw [if_pos z] at h4
          refine ev c5 h4 fun y e5 u H5 F5 h5 c6 => ?_
          split at h5
          · rename_i zz
            have du := c6.dp
            cases du
            obtain ⟨accV, ex, ⟨hH, rfl, rfl⟩, lw, _, mk⟩ := c6.pop.mut
            refine ⟨acc, addT acc zz, hH, ⟨zz, rfl, h5.1, rfl⟩, rfl, lt, F5, e5, addT acc zz, ?_, h5.2⟩
            have q := mk (.ext (TxO X.prog X.w (addT acc zz))) (TxO X.prog X.w (addT acc zz) D) [] [] [] ⟨upd_same, rfl, rfl⟩ (by simp)
            rw [← ws]
            exact At.wipes q _
          · exact h5.elim
        · rename_i z
          rw [if_neg z] at h4
          refine ⟨rfl, lt, F4, e4, acc, ?_, h4⟩
          rw [← ws]
          exact At.wipes c5 _
      · exact h2.elim
    · have e : i = ds.length := by omega
      subst e
      rw [List.drop_length] at h2
      have c3 := c2.unwipe
      have hD2 : H2 D = some (TxO X.prog X.w acc D) := by
        obtain ⟨accV, ex, ⟨hH, rfl, rfl⟩, lw, _, mk⟩ := c3.mut
        exact hH
      refine .inl ⟨stop rfl, D, acc, rfl, hD2, fun ss p pm so hp => k _ _ _ _ F2 (h2 ss pm so) ?_⟩
      have c4 := At.newL (c1.on c3.st c3.cf).pop (strs_dts ss) hp
      exact c4
end
end Ow

/-! set(a list of texts), sorted. -/
namespace Ow
open PySem PySem.Spec L2 Grd PyProof.Rows PySem.Froz
section
variable {P : Program} {w : World} {A : Around} {E : Value → Shared → Prop} {s : Shared}
theorem tx_update {I : Addr} {fp wr : List Addr} {G : Array GenState → Array GenState → Prop} {n : Nat} {Pv : Nat → Value → Prop} {St : Nat → Shared → Prop} {R : PySem.Result → Shared → Prop}
    (W : WalksS P w A.in1 I fp wr G n Pv St) (S : Addr) (hSf : S ∉ fp) (ss : List Str) (hn : n = ss.length) (hb : ss.length + 1 < scanBound) (hval : ∀ i v, Pv i v → ∃ k t, ss[i]? = some k ∧ v = .str k t) :
    ∀ (k i : Nat) (s : Shared) (l : List Str), n - i = k → i ≤ n → St i s → TxS P w S l s.heap → l.length ≤ i → (∀ x, x ∈ l ↔ x ∈ ss.take i) →
      (∀ s' l', Moved (S :: wr) G s s' → TxS P w S l' s'.heap → l'.length ≤ n → (∀ x, x ∈ l' ↔ x ∈ ss) → R (.ok (.ret .none)) s') →
      codeAny (model P w) A (.builtin "set.update.loop" ⟨[.ref S, .ref I], []⟩) R s := by
  have hSw : S ∉ wr := fun h => hSf (W.sub _ h)
  have sub : ∀ b ∈ wr, b ∈ S :: wr := fun b hb => List.mem_cons_of_mem _ hb
  intro k
  induction k with
  | zero =>
    intro i s l hk hi st R0 hl hm fin
    have ei : i = n := by omega
    refine codeAny_builtin F.entry_set_update_loop ?_
    rw [Around.under_plainId F.plain_set_update_loop _]
    show wpAny _ A.in1 (pyNext (.ref I) >>= _) _ _ s
    refine wpAny_bind (W.done s _ _ (ei ▸ st) fun s' mv => ?_)
    show wpAny _ A.in1 (ret Value.none) _ _ s'
    refine wpAny_pure (fin s' l (mv.mono sub) (R0.keep fun o e => mv.heap S o hSw e) (by omega) fun x => ?_)
    rw [hm x, List.take_of_length_le (by omega)]
  | succ k ih =>
    intro i s l hk hi st R0 hl hm fin
    refine codeAny_builtin F.entry_set_update_loop ?_
    rw [Around.under_plainId F.plain_set_update_loop _]
    show wpAny _ A.in1 (pyNext (.ref I) >>= _) _ _ s
    refine wpAny_bind (W.item i s _ _ (by omega) st fun v s' hP st' mv => ?_)
    obtain ⟨z, t, hz, rfl⟩ := hval i v hP
    have R1 : TxS P w S l s'.heap := R0.keep fun o e => mv.heap S o hSw e
    show wpAny _ A.in1 (holding [Value.str z t] (setAdd S (.str z t)) >>= _) _ _ s'
    refine wpAny_bind (wpAny_holding (tx_setAdd R1 (by omega) fun b h' sb R2 => ?_))
    have le := addT_len l z
    refine wpAny_pure ⟨plainId_quiet F.plain_set_update_loop _, ih (i + 1) _ (addT l z) (by omega) (by omega) (W.frame _ s' _ _ st' (Nat.le_succ _) fun b hb o e => ?_) R2 (by omega) (fun x => ?_) fun s'' l2 mv2 R3 l3 m3 => ?_⟩
    · rw [sb.2 b (fun q : b = S => hSf (q ▸ hb))]; exact e
    · rw [addT_mem, hm x, List.take_add_one, hz]
      simp [List.mem_append]
    · refine fin s'' l2 (Moved.trans W.gtrans ((mv.mono sub).then_heap (Nat.le_succ _) fun b o hb e => ?_) mv2) R3 l3 m3
      rw [sb.2 b (fun q : b = S => hb (by simp [q]))]; exact e
theorem call_set_txs {a : Addr} {items : Array Value} (ss : List Str) {Q : Value → Shared → Prop} (hh : A.handled = none) (hl : s.heap.IsList a items) (hit : StrsAre items.toList ss) (hb : ss.length + 1 < scanBound)
    (h : ∀ (h' : Heap) (tk : Nat) (l : List Str), TxS P w s.heap.objs.size l h' → l.length ≤ ss.length → (∀ x, x ∈ l ↔ x ∈ ss) → (∀ b o, s.heap.get? b = some o → h'.get? b = some o) → Q (.ref s.heap.objs.size) { s with heap := h', toks := tk }) :
    wpAny (model P w) A (call (.type "set") [.ref a]) Q E s := by
  have hsz : items.size = ss.length := by rw [← Array.length_toList]; exact hit.length
  have new := tx_fresh (P := P) (h := s.heap) w
  generalize eh : s.heap.push { cls := .type "set", dict := none, data := .set #[] 0 (.fresh 0 0 (!w.params.followText "set-order")) } = h1 at new
  have hS : h1.get? s.heap.objs.size = some { cls := .type "set", dict := none, data := .set #[] 0 (.fresh 0 0 (!w.params.followText "set-order")) } := by rw [← eh]; exact Heap.get?_push_size _ rfl
  have z1 : h1.objs.size = s.heap.objs.size + 1 := by rw [← eh, Heap.size_push]
  have k1 : ∀ b o, s.heap.get? b = some o → h1.get? b = some o := fun b o e => by rw [← eh]; exact Heap.get?_push_of_some _ e
  obtain ⟨c, tl, hmro⟩ := F.called_set.mro
  have m1 := F.called_set.made
  have m2 := F.called_set.sub
  refine wpAny_call (codeAny_of_tree (show wpAny _ _ (callAny (.type "set") _) _ _ _ from ?_))
  refine wpAny_pure ⟨Code.quiet_builtin _ (by decide +kernel), codeAny_builtin F.entry_type_call ?_⟩
  rw [Around.under_plain (weight_type_call_type "set" [.ref a] []) rfl]
  have m3 := F.called_set.notType
  have m4 := F.called_set.canCreate
  have m5 := F.typeCall_set_1 (.ref a)
  repeat (any_goals (first | assumption | wp_step))
  refine codeAny_mono (code_set_led1 (.ref a) (E := E) (Q₁ := fun obj s₁ => obj = .ref s.heap.objs.size ∧ s₁ = { s with heap := h1 }) ⟨rfl, by rw [← eh]⟩) fun r s₁ hr => ?_
  cases r with
  | error e => exact hr
  | ok fl =>
    cases fl with
    | ret obj =>
      obtain ⟨rfl, rfl⟩ := hr
      have hT : Shared.TypeIs { s with heap := h1 } (.ref s.heap.objs.size) "set" := ⟨_, hS, rfl⟩
      have i1 := F.called_set.init.lookup
      have i2 := F.called_set.init.bind (.ref s.heap.objs.size)
      repeat (any_goals (first | assumption | wp_step))
      refine codeAny_mono (codeAny_call_builtin (R := wants (fun r s₂ => r = .none ∧ ∃ h' tk l, s₂ = { s with heap := h', toks := tk } ∧ TxS P w s.heap.objs.size l h' ∧ l.length ≤ ss.length ∧ (∀ x, x ∈ l ↔ x ∈ ss) ∧ (∀ b o, s.heap.get? b = some o → h'.get? b = some o)) E) F.called_set.init.plain F.entry_set_init (check_set_init_1 hT ?_)) fun r2 s2 hr2 => ?_
      · obtain ⟨ol, hol, hcl, nl, hdl⟩ := id hl
        obtain ⟨oc, od, oda, osl⟩ := ol
        simp only at hcl hdl
        subst hcl; subst hdl
        have hol' := k1 _ _ hol
        have f1 := F.sub_list_set
        have f2 := F.sub_list_frozenset
        have f3 : (Value.type "list" == Value.type "dict") = false := by decide
        have hl1 : h1.IsList a items := ⟨_, hol', rfl, nl, rfl⟩
        unfold Builtin.«set.__init__» noKeywords Builtin.Frozenset.updateFrom
        generalize ePI : pyIter = PI
        wp_walk
        subst ePI
        refine wpAny_pyIter_list (s := { s with heap := h1 }) hl1 ?_
        refine wpAny_bind (wpAny_runValue ?_)
        have la : a < s.heap.objs.size := Heap.lt_size hol
        have ne1 : a ≠ h1.objs.size := by rw [z1]; exact Nat.ne_of_lt (Nat.lt_succ_of_lt la)
        have nf : s.heap.objs.size ∉ [h1.objs.size, a] := by
          rw [z1]
          simp only [List.mem_cons, List.not_mem_nil, or_false, not_or]
          exact ⟨Nat.ne_of_lt (Nat.lt_succ_self _), Nat.ne_of_gt la⟩
        have val : ∀ (i : Nat) (v : Value), items[i]? = some v → ∃ k t, ss[i]? = some k ∧ v = .str k t := fun i v hv => by
          have lt : i < ss.length := by rw [← hsz]; exact (Array.getElem?_eq_some_iff.mp hv).1
          obtain ⟨t, e⟩ := SS.strs_at hit i v (by rw [Array.getElem?_toList]; exact hv)
          refine ⟨ss[i], t, List.getElem?_eq_getElem lt, ?_⟩
          rw [e, List.getD_eq_getElem?_getD, List.getElem?_eq_getElem lt]
          rfl
        have hh3 : A.in1.in1.in1.handled = none := by simp [hh]
        refine tx_update ((Walks.list hh3 _ a ne1 items).toS) s.heap.objs.size nf ss hsz hb val (items.size - 0) 0 _ [] (by omega) (Nat.zero_le _) ⟨⟨_, Heap.get?_push_size _ rfl, rfl, rfl⟩, hl1.push _⟩ (new.keep fun o e => Heap.get?_push_of_some _ e) (Nat.le_refl _) (fun x => by simp) ?_
        intro s' l' mv R' l3 m3
        obtain ⟨h', g2, d', tk', os'⟩ := s'
        have eg : g2 = s.gens := mv.gens
        have ed : d' = s.drawn := mv.drawn
        have eo : os' = s.os := mv.os
        subst eg; subst ed; subst eo
        show wpAny _ _ _ _ _ _
        refine wpAny_pure ?_
        show wpAny _ _ (ret Value.none) _ _ _
        rw [hsz] at l3
        refine wpAny_pure ⟨rfl, h', tk', l', rfl, R', l3, m3, fun b o e => ?_⟩
        have lb : b < s.heap.objs.size := Heap.lt_size e
        refine mv.heap b o ?_ (Heap.get?_push_of_some _ (k1 b o e))
        simp only [List.mem_cons, List.not_mem_nil, or_false, not_or]
        exact ⟨Nat.ne_of_lt lb, by rw [z1]; exact Nat.ne_of_lt (Nat.lt_succ_of_lt lb)⟩
      · cases r2 with
        | error e => exact hr2
        | ok fl2 =>
          cases fl2 with
          | ret r =>
            obtain ⟨rfl, h', tk, l', rfl, R', l3, m3, kp⟩ := hr2
            repeat (any_goals (first | assumption | wp_step))
            exact h _ _ _ R' l3 m3 kp
          | _ => exact hr2.elim
    | _ => exact hr.elim
end
/-- set(xs), xs a list of texts -/
def rSetTx (K : PySem.W.Frag) (P : Program) (w : World) : List V → Hp → VK → Prop := fun vs H Q => ∃ (a : Addr) (ss : List Str), vs = [V.ref a] ∧ SqL K H a (ss.map V.str) ∧ ss.length + 1 < scanBound ∧
  ∀ (l : List Str) (q : Addr), l.Nodup → l.length ≤ ss.length → (∀ x, x ∈ l ↔ x ∈ ss) → H q = none → Q (.ref q) (upd H q (TxO P w l q))
theorem cr_setTx {X : Cx} (hc : X.calm = true) : CallR X (.type "set") (rSetTx X.K X.prog X.w) := by
  intro pins s σ H vs us Q I r h
  obtain ⟨a, ss, rfl, hs, hb, q⟩ := h
  obtain ⟨its, rv, hl, _⟩ := I.list hs
  rw [Vals.ref1 r]
  refine call_set_txs ss (I.ok.hd hc) hl.isList rv.strs hb fun h' tk l R l3 m3 kp => ?_
  have nd : l.Nodup := let ⟨_, _, _, nd, _⟩ := R; nd
  exact ⟨.ref s.heap.objs.size, _, I.laid (t' := tk) kp (Nat.le_refl _) (txO_ok R), rfl, q l _ nd l3 m3 (I.hok.fresh (Nat.le_refl _))⟩
/-- a list of texts -/
def lst (x : OV) : Option (List Str) := ((lel x).bind frzs).bind strsOf
def aSortedSet (te : AE) : AE := fun env Q => te env fun x e => match lst x with
  | some ss => ss.length < 4000 ∧ ∀ us : List Str, us.Nodup → (∀ x, x ∈ us ↔ x ∈ ss) → sortedS us = true → Q (.n .lst ((us.map PyData.str).map .d)) e
  | none => False
theorem se_sortedSet {X : Cx} {e : Expr} {te : AE} {p p2 pos pos2 : Pos} (hc : X.calm = true) (hg : Gl X "sorted") (hm : X.mg "sorted" = none) (hg2 : Gl X "set") (hm2 : X.mg "set" = none) (he : SE X e te)
    (hs : starEach [e] X.env = [(false, eval e X.env)] := by rfl) (hpl : (backTo pos (starEach [] X.env)).any (·.1) = false := by rfl) (na : starEach [.Call (.Name "set" p) [e] [] pos] X.env = [(false, eval (.Call (.Name "set" p) [e] [] pos) X.env)] := by rfl) (hpl2 : (backTo pos2 (starEach [] X.env)).any (·.1) = false := by rfl) :
    SE X (.Call (.Name "sorted" p2) [.Call (.Name "set" p) [e] [] pos] [] pos2) (aSortedSet te) :=
  peTo (pe_callB (id := "sorted") (cr_sortedTx hc) hg hm (by decide +kernel) (pa_cons (pe_callTy (T := "set") (cr_setTx hc) hg2 hm2 (by decide +kernel) (pa_cons he pa_nil hs) (by decide) (by decide) hs hpl) pa_nil na) (by decide) (by decide) na hpl2) fun σ H Q ⟨A, F, env, R, c, h, k⟩ => ev c h fun x e1 v H1 F1 h1 c1 => by
    split at h1
    · rename_i ss es
      obtain ⟨ds, e2, e3⟩ := Option.bind_eq_some_iff.mp es
      obtain ⟨ys, e4, e5⟩ := Option.bind_eq_some_iff.mp e2
      obtain ⟨a, ws, rfl, hH, l, c2⟩ := c1.lel e4
      obtain ⟨F2, c3, dp⟩ := At.fixs c2 l e5
      have e6 := dts_strs dp e3
      subst e6
      have lw : (ds.map OV.d).length = (ss.map V.str).length := by have := c3.cf.len; simpa using this
      have c4 := At.pops c3 lw
      have sb : scanBound = 4096 := rfl
      refine ⟨a, ss, rfl, .of hH, by omega, fun tl q nd ll mm hq => ⟨q, tl, rfl, upd_same, fun us p pm so hp => k _ _ _ _ F2 (h1.2 us (pm.nodup_iff.mpr nd) (fun x => by rw [pm.mem_iff, mm x]) so) ?_⟩⟩
      exact (At.newL (At.newX c4 hq) (strs_dts us) hp).swap.pop
    · exact h1.elim
end Ow

/-! list(zip(a, b)): each pair stays, so the zip makes a new tuple each time. -/
namespace Ow
open PySem L2 Grd PyProof.Rows
open Evl (Ex ex_t ex_l ex_rd)
section
variable {prog : Program} {w : World} {A : Around} {E : Value → Shared → Prop} {s : Shared} {z TI TO T i1 i2 : Addr} {fp1 fp2 : List Addr} {n1 n2 i : Nat} {P1 P2 : Nat → Value → Prop} {St1 St2 : Nat → Heap → Prop} {f : Bool} {oT : Obj}
theorem zipH_item {Q : Value → Shared → Prop} (S : ZipSep2 z TI TO i1 i2 fp1 fp2) (D1 : Draws prog w A i1 fp1 n1 P1 St1) (D2 : Draws prog w A i2 fp2 n2 P2 St2)
    (hz : IsZipHeld s.heap z TI TO T f) (hT : s.heap.get? T = some oT) (hTI : IsTupOf2 s.heap TI (.ref i1) (.ref i2)) (st1 : St1 i s.heap) (st2 : St2 i s.heap) (lt1 : i < n1) (lt2 : i < n2)
    (hQ : ∀ x1 x2 h' tk, P1 i x1 → P2 i x2 → IsZipHeld h' z TI TO T true → St1 (i + 1) h' → St2 (i + 1) h' → IsTupOf2 h' s.heap.objs.size x1 x2 → h'.objs.size = s.heap.objs.size + 1 →
      (∀ c o, c ≠ z → c ≠ i1 → c ≠ i2 → s.heap.get? c = some o → h'.get? c = some o) → Q (.ref s.heap.objs.size) { s with heap := h', toks := tk }) :
    wpAny (model prog w) A (Builtin.«zip.__next__» ⟨[.ref z], []⟩) (fun fin s' => ∃ v, fin = .done (.ret v) ∧ Q v s') E s := by
  obtain ⟨hp, g, d, tk0, os⟩ := s
  show wpAny _ _ (field (.ref z) 2 >>= _) _ _ _
  refine wpAny_bind (wpAny_field hz rfl (x := .bool false) rfl ?_)
  show wpAny _ _ (field (.ref z) 3 >>= _) _ _ _
  refine wpAny_bind (wpAny_field hz rfl (x := .ref TI) rfl (wpAny_bind (wpAny_seqItems hTI rfl ?_)))
  show wpAny _ _ (Builtin.SmallTypes.ownedTupleIsFree (.ref z) >>= _) _ _ _
  refine wpAny_bind (wpAny_tupleHeld_zip hz hT fun g0 hz0 hs0 => ?_)
  replace hs0 : Heap.SameBut z hp g0 := hs0
  simp only [Bool.false_eq_true, if_false]
  refine wpAny_bind ?_
  rw [← Array.forIn_toList]
  simp only [List.forIn_cons, List.forIn_nil]
  refine wpAny_bind (wpAny_bind (wpAny_holding ?_))
  show wpAny _ _ (Builtin.SmallTypes.nextOf (.ref i1) >>= _) _ _ ⟨g0, g, d, tk0, os⟩
  refine wpAny_bind (D1.item i _ _ _ lt1 (D1.over st1 hs0 S.zf1) fun x1 p1 tk1 hx1 sn1 hp1 => wpAny_pure (wpAny_pure ?_))
  replace hp1 : Heap.SameBut i1 g0 p1 := hp1
  refine wpAny_bind (wpAny_bind (wpAny_holding ?_))
  show wpAny _ _ (Builtin.SmallTypes.nextOf (.ref i2) >>= _) _ _ ⟨p1, g, d, tk1, os⟩
  refine wpAny_bind (D2.item i _ _ _ lt2 (D2.over (D2.over st2 hs0 S.zf2) hp1 S.sep1_2) fun x2 p2 tk2 hx2 sn2 hp2 => wpAny_pure (wpAny_pure (wpAny_pure ?_)))
  replace hp2 : Heap.SameBut i2 p1 p2 := hp2
  show wpAny _ _ (newTuple [x1, x2] >>= _) _ _ ⟨p2, g, d, tk2, os⟩
  refine wpAny_bind (wpAny_newTuple (wpAny_pure ⟨_, rfl, ?_⟩))
  have sz : p2.objs.size = hp.objs.size := by rw [hp2.1, hp1.1, hs0.1]
  have kp : ∀ c o, c ≠ z → c ≠ i1 → c ≠ i2 → hp.get? c = some o → p2.get? c = some o := fun c o c1 c2 c3 e => hp2.extBut _ _ c3 (hp1.extBut _ _ c2 (hs0.extBut _ _ c1 e))
  have tp : IsTupOf2 (p2.push { cls := .type "tuple", data := .seq #[x1, x2] }) p2.objs.size x1 x2 := Heap.get?_push_size _ rfl
  have z4 : (p2.push { cls := .type "tuple", data := .seq #[x1, x2] }).objs.size = p2.objs.size + 1 := Heap.size_push ..
  have zz : IsZipHeld p2 z TI TO T true := hp2.extBut _ _ S.zi2 (hp1.extBut _ _ S.zi1 hz0)
  have up : ∀ c o, p2.get? c = some o → (p2.push { cls := .type "tuple", data := .seq #[x1, x2] }).get? c = some o := fun c o e => Heap.get?_push_of_some _ e
  show Q (.ref p2.objs.size) _
  rw [sz] at tp z4 ⊢
  exact hQ x1 x2 _ tk2 hx1 hx2 (up _ _ zz) (D1.frame _ _ _ (D1.over sn1 hp2 S.sep2_1) fun b _ o e => up b o e) (D2.frame _ _ _ sn2 fun b _ o e => up b o e) tp z4 fun c o c1 c2 c3 e => up c o (kp c o c1 c2 c3 e)
theorem zipH_end {Q : PySem.Fin → Shared → Prop} (S : ZipSep2 z TI TO i1 i2 fp1 fp2) (D1 : Draws prog w A i1 fp1 n1 P1 St1) (D2 : Draws prog w A i2 fp2 n2 P2 St2)
    (hz : IsZipHeld s.heap z TI TO T f) (hT : s.heap.get? T = some oT) (hTI : IsTupOf2 s.heap TI (.ref i1) (.ref i2)) (st1 : St1 i s.heap) (st2 : St2 i s.heap) (le1 : i ≤ n1) (le2 : i ≤ n2) (hend : i = n1 ∨ i = n2)
    (hE : ∀ h' tk e, (∀ c o, c ≠ z → c ≠ i1 → c ≠ i2 → s.heap.get? c = some o → h'.get? c = some o) → (∃ o, h'.get? e = some o ∧ o.cls = .type "StopIteration") → E (.ref e) { s with heap := h', toks := tk }) :
    wpAny (model prog w) A (Builtin.«zip.__next__» ⟨[.ref z], []⟩) Q E s := by
  obtain ⟨hp, g, d, tk0, os⟩ := s
  show wpAny _ _ (field (.ref z) 2 >>= _) _ _ _
  refine wpAny_bind (wpAny_field hz rfl (x := .bool false) rfl ?_)
  show wpAny _ _ (field (.ref z) 3 >>= _) _ _ _
  refine wpAny_bind (wpAny_field hz rfl (x := .ref TI) rfl (wpAny_bind (wpAny_seqItems hTI rfl ?_)))
  show wpAny _ _ (Builtin.SmallTypes.ownedTupleIsFree (.ref z) >>= _) _ _ _
  refine wpAny_bind (wpAny_tupleHeld_zip hz hT fun g0 hz0 hs0 => ?_)
  replace hs0 : Heap.SameBut z hp g0 := hs0
  simp only [Bool.false_eq_true, if_false]
  refine wpAny_bind ?_
  rw [← Array.forIn_toList]
  simp only [List.forIn_cons, List.forIn_nil]
  refine wpAny_bind (wpAny_bind (wpAny_holding ?_))
  show wpAny _ _ (Builtin.SmallTypes.nextOf (.ref i1) >>= _) _ _ ⟨g0, g, d, tk0, os⟩
  by_cases lt1 : i < n1
  · refine wpAny_bind (D1.item i _ _ _ lt1 (D1.over st1 hs0 S.zf1) fun x1 p1 tk1 hx1 sn1 hp1 => wpAny_pure (wpAny_pure ?_))
    replace hp1 : Heap.SameBut i1 g0 p1 := hp1
    have e2 : i = n2 := by omega
    refine wpAny_bind (wpAny_bind (wpAny_holding ?_))
    show wpAny _ _ (Builtin.SmallTypes.nextOf (.ref i2) >>= _) _ _ ⟨p1, g, d, tk1, os⟩
    refine wpAny_bind (D2.done ⟨p1, g, d, tk1, os⟩ _ _ (by rw [← e2]; exact D2.over (D2.over st2 hs0 S.zf2) hp1 S.sep1_2) fun q e hq he => ?_)
    replace hq : Heap.ExtBut i2 p1 q := hq
    exact hE q tk1 e (fun c o c1 c2 c3 x => hq _ _ c3 (hp1.extBut _ _ c2 (hs0.extBut _ _ c1 x))) he
  · have e1 : i = n1 := by omega
    refine wpAny_bind (D1.done ⟨g0, g, d, tk0, os⟩ _ _ (by rw [← e1]; exact D1.over st1 hs0 S.zf1) fun q e hq he => ?_)
    replace hq : Heap.ExtBut i1 g0 q := hq
    exact hE q tk0 e (fun c o c1 c2 c3 x => hq _ _ c2 (hs0.extBut _ _ c1 x)) he
/-- a zip, whatever it gave out before -/
structure ZAt (z TI TO i1 i2 : Addr) (St1 St2 : Nat → Heap → Prop) (i : Nat) (h : Heap) : Prop where
  zip : (IsZip h z TI TO .none ∧ ∃ a b, IsTupOf2 h TO a b) ∨ ∃ T f, IsZipHeld h z TI TO T f ∧ (∃ o, h.get? T = some o) ∧ T ≠ z ∧ T ≠ TO ∧ T ≠ i1 ∧ T ≠ i2
  ti : IsTupOf2 h TI (.ref i1) (.ref i2)
  s1 : St1 i h
  s2 : St2 i h
theorem zAt_item {Q : Option Value → Shared → Prop} (S : ZipSep2 z TI TO i1 i2 fp1 fp2) (D1 : Draws prog w A.in1 i1 fp1 n1 P1 St1) (D2 : Draws prog w A.in1 i2 fp2 n2 P2 St2) (Z : ZAt z TI TO i1 i2 St1 St2 i s.heap) (lt1 : i < n1) (lt2 : i < n2)
    (hQ : ∀ x1 x2 h' tk, P1 i x1 → P2 i x2 → ZAt z TI TO i1 i2 St1 St2 (i + 1) h' → IsTupOf2 h' s.heap.objs.size x1 x2 → h'.objs.size = s.heap.objs.size + 1 →
      (∀ c o, c ≠ z → c ≠ TO → c ≠ i1 → c ≠ i2 → s.heap.get? c = some o → h'.get? c = some o) → Q (some (.ref s.heap.objs.size)) { s with heap := h', toks := tk }) :
    wpAny (model prog w) A (pyNext (.ref z)) Q E s := by
  have lt : ∀ {c o}, s.heap.get? c = some o → s.heap.objs.size ≠ c := fun e => Nat.ne_of_gt (Heap.lt_size e)
  have l1 : s.heap.objs.size ≠ i1 := by obtain ⟨_, e⟩ := D1.live _ _ Z.s1; exact lt e
  have l2 : s.heap.objs.size ≠ i2 := by obtain ⟨_, e⟩ := D2.live _ _ Z.s2; exact lt e
  rcases Z.zip with ⟨hz, a, b, hTO⟩ | ⟨T, f, hz, ⟨oT, hT⟩, t1, t2, t3, t4⟩
  · refine wpAny_pyNext_zipD2_item S D1 D2 hz Z.ti hTO Z.s1 Z.s2 lt1 lt2 fun x1 x2 h' tk y1 y2 b1 b2 d1 d2 b5 b6 hk => hQ x1 x2 h' tk y1 y2 ⟨.inr ⟨_, false, b1, ⟨_, b5⟩, lt hz, lt hTO, l1, l2⟩, hk _ _ S.TIz S.TITO S.TIi1 S.TIi2 Z.ti, d1, d2⟩ b5 b6 hk
  · have ty : s.TypeIs (.ref z) "zip" := ⟨_, hz, rfl⟩
    unfold pyNext
    exact wpAny_bind (wpAny_attempt (wpAny_callSpecial?_slot (name := Str.ofString "__next__") ty F.slot_zip_next (wpAny_call_entry F.slot_zip_next ty F.entry_zip_next
      (zipH_item S D1 D2 hz hT Z.ti Z.s1 Z.s2 lt1 lt2 fun x1 x2 h' tk y1 y2 b1 d1 d2 b5 b6 hk => wpAny_pure (hQ x1 x2 h' tk y1 y2 ⟨.inr ⟨T, true, b1, ⟨_, hk _ _ t1 t3 t4 hT⟩, t1, t2, t3, t4⟩, hk _ _ S.TIz S.TIi1 S.TIi2 Z.ti, d1, d2⟩ b5 b6 fun c o c1 _ c3 c4 e => hk c o c1 c3 c4 e)) (F.args_zip_next_1 _))))
theorem zAt_end {Q : Option Value → Shared → Prop} (S : ZipSep2 z TI TO i1 i2 fp1 fp2) (D1 : Draws prog w A.in1 i1 fp1 n1 P1 St1) (D2 : Draws prog w A.in1 i2 fp2 n2 P2 St2) (Z : ZAt z TI TO i1 i2 St1 St2 i s.heap) (le1 : i ≤ n1) (le2 : i ≤ n2) (hend : i = n1 ∨ i = n2)
    (hQ : ∀ h' tk, (∀ c o, c ≠ z → c ≠ TO → c ≠ i1 → c ≠ i2 → s.heap.get? c = some o → h'.get? c = some o) → Q none { s with heap := h', toks := tk }) : wpAny (model prog w) A (pyNext (.ref z)) Q E s := by
  rcases Z.zip with ⟨hz, a, b, hTO⟩ | ⟨T, f, hz, ⟨oT, hT⟩, t1, t2, t3, t4⟩
  · exact wpAny_pyNext_zipD2_end S D1 D2 hz Z.ti hTO Z.s1 Z.s2 le1 le2 hend hQ
  · have ty : s.TypeIs (.ref z) "zip" := ⟨_, hz, rfl⟩
    unfold pyNext
    refine wpAny_bind (wpAny_attempt (wpAny_callSpecial?_slot (name := Str.ofString "__next__") ty F.slot_zip_next (wpAny_call_entry F.slot_zip_next ty F.entry_zip_next
      (zipH_end S D1 D2 hz hT Z.ti Z.s1 Z.s2 le1 le2 hend fun h' tk e hk he => ?_) (F.args_zip_next_1 _))))
    obtain ⟨o, ho, hc⟩ := he
    exact wpAny_bind (wpAny_isInstance (T := "StopIteration") (b := true) ⟨o, ho, hc⟩ isSubtype_stop (wpAny_pure (hQ _ _ fun c o c1 _ c3 c4 e => hk c o c1 c3 c4 e)))
/-- the tuples that stand at Ts -/
def TupsAt (P1 P2 : Nat → Value → Prop) (N : Nat) (Ts : List Addr) (h : Heap) : Prop := ∀ j T, Ts[j]? = some T → N ≤ T ∧ ∃ x1 x2, P1 j x1 ∧ P2 j x2 ∧ IsTupOf2 h T x1 x2
/-- the list's own loop -/
theorem lz_loop {R : PySem.Result → Shared → Prop} {S : Addr} {res : Value} {N : Nat} (D : ZipSep2 z TI TO i1 i2 fp1 fp2) (D1 : Draws prog w A.in1.in1 i1 fp1 n1 P1 St1) (D2 : Draws prog w A.in1.in1 i2 fp2 n2 P2 St2) (low : ∀ b ∈ [z, TO, i1, i2, S], b < N)
    (hn : min n1 n2 ≤ sizeLine) (hS1 : S ∉ fp1) (hS2 : S ∉ fp2) (hSz : S ≠ z) (hST : S ≠ TO) (hSI : S ≠ TI) : ∀ (k i : Nat) (s : Shared) (acc : Array Value) (c : Nat) (Ts : List Addr), min n1 n2 - i = k → i ≤ min n1 n2 → N ≤ s.heap.objs.size → ZAt z TI TO i1 i2 St1 St2 i s.heap →
      s.heap.get? S = some { cls := .type "list", dict := none, data := .seq acc c, slots := #[] } → acc.toList = Ts.map Value.ref → Ts.length = i → Ts.Nodup → TupsAt P1 P2 N Ts s.heap → (∀ T ∈ Ts, T < s.heap.objs.size) →
      (∀ s' acc' c' Ts', (∀ b o, b ∉ [z, TO, i1, i2, S] → s.heap.get? b = some o → s'.heap.get? b = some o) → s'.gens = s.gens → s'.os = s.os → s'.heap.get? S = some { cls := .type "list", dict := none, data := .seq acc' c', slots := #[] } →
        acc'.toList = Ts'.map Value.ref → Ts'.length = min n1 n2 → Ts'.Nodup → TupsAt P1 P2 N Ts' s'.heap → R (.ok (.ret res)) s') →
      codeAny (model prog w) A (.builtin "list.extend.loop" ⟨[.ref S, .ref z, res], []⟩) R s := by
  intro k
  have hSi1 : S ≠ i1 := fun e => hS1 (e ▸ D.mem1)
  have hSi2 : S ≠ i2 := fun e => hS2 (e ▸ D.mem2)
  induction k with
  | zero =>
    intro i s acc c Ts hk hi hN Z hS ha hl nd tp lt fin
    refine codeAny_builtin F.entry_extend_loop ?_
    rw [Around.under_plainId F.plain_extend_loop _]
    show wpAny _ A.in1 (pyNext (.ref z) >>= _) _ _ s
    refine wpAny_bind (zAt_end D D1 D2 Z (by omega) (by omega) (by omega) fun h' tk kp => wpAny_pure ?_)
    have kp' : ∀ b o, b ∉ [z, TO, i1, i2, S] → s.heap.get? b = some o → h'.get? b = some o := fun b o hb e => by
      simp only [List.mem_cons, List.not_mem_nil, or_false, not_or] at hb
      exact kp b o hb.1 hb.2.1 hb.2.2.1 hb.2.2.2.1 e
    refine fin _ acc c Ts kp' rfl rfl (kp S _ hSz hST hSi1 hSi2 hS) ha (by omega) nd fun j T e => ?_
    obtain ⟨l, x1, x2, p1, p2, t⟩ := tp j T e
    refine ⟨l, x1, x2, p1, p2, kp' T _ (fun m => ?_) t⟩
    exact absurd (low T m) (Nat.not_lt.mpr l)
  | succ k ih =>
    intro i s acc c Ts hk hi hN Z hS ha hl nd tp lt fin
    refine codeAny_builtin F.entry_extend_loop ?_
    rw [Around.under_plainId F.plain_extend_loop _]
    show wpAny _ A.in1 (pyNext (.ref z) >>= _) _ _ s
    refine wpAny_bind (zAt_item D D1 D2 Z (by omega) (by omega) fun x1 x2 h' tk p1 p2 Z' tn sz kp => ?_)
    have hS' := kp S _ hSz hST hSi1 hSi2 hS
    have kp' : ∀ b o, b ∉ [z, TO, i1, i2, S] → s.heap.get? b = some o → h'.get? b = some o := fun b o hb e => by
      simp only [List.mem_cons, List.not_mem_nil, or_false, not_or] at hb
      exact kp b o hb.1 hb.2.1 hb.2.2.1 hb.2.2.2.1 e
    have sl : acc.size = i := by rw [← Array.length_toList, ha, List.length_map]; exact hl
    show wpAny _ A.in1 (updateSeq S (·.push (.ref s.heap.objs.size)) >>= _) _ _ _
    refine wpAny_bind (wpAny_updateSeq hS' rfl (wpAny_pure ⟨plainId_quiet F.plain_extend_loop _, ?_⟩) (by rw [sl]; omega) (by rw [Array.size_push, sl]; omega))
    have ot : ∀ b o, b ≠ S → h'.get? b = some o → (h'.update S (Obj.mapSeq (·.push (.ref s.heap.objs.size)))).get? b = some o := fun b o hb e => (Heap.get?_update_other _ _ (Ne.symm hb)).trans e
    have szu : (h'.update S (Obj.mapSeq (·.push (.ref s.heap.objs.size)))).objs.size = s.heap.objs.size + 1 := by rw [Heap.size_update, sz]
    have nS : S < N := low S (by simp)
    refine ih (i + 1) { s with heap := h'.update S (Obj.mapSeq (·.push (.ref s.heap.objs.size))), toks := tk } (acc.push (.ref s.heap.objs.size)) _ (Ts ++ [s.heap.objs.size]) (by omega) (by omega) (Nat.le_trans hN (Nat.le_trans (Nat.le_succ _) (Nat.le_of_eq szu.symm))) ?_ (Heap.get?_update_self _ hS' rfl) (by rw [Array.toList_push, ha]; simp) (by simp [hl]) ?_ ?_ ?_ ?_
    · refine ⟨?_, ot _ _ (Ne.symm hSI) Z'.ti, D1.frame _ _ _ Z'.s1 fun b hb o e => ot b o (fun q => hS1 (q ▸ hb)) e, D2.frame _ _ _ Z'.s2 fun b hb o e => ot b o (fun q => hS2 (q ▸ hb)) e⟩
      rcases Z'.zip with ⟨hz, a, b, hTO⟩ | ⟨T, f, hz, ⟨oT, hT⟩, t1, t2, t3, t4⟩
      · exact .inl ⟨ot _ _ (Ne.symm hSz) hz, a, b, ot _ _ (Ne.symm hST) hTO⟩
      · refine .inr ⟨T, f, ot _ _ (Ne.symm hSz) hz, ?_, t1, t2, t3, t4⟩
        by_cases e : T = S
        · subst e; exact ⟨_, Heap.get?_update_self _ hS' rfl⟩
        · exact ⟨_, ot _ _ e hT⟩
    · rw [List.nodup_append]
      refine ⟨nd, by simp, fun a ha b hb e => ?_⟩
      simp only [List.mem_singleton] at hb
      subst hb
      subst e
      exact Nat.lt_irrefl _ (lt _ ha)
    · intro j T e
      by_cases hj : j < Ts.length
      · rw [List.getElem?_append_left hj] at e
        obtain ⟨l, y1, y2, q1, q2, t⟩ := tp j T e
        exact ⟨l, y1, y2, q1, q2, ot _ _ (fun q => absurd nS (Nat.not_lt.mpr (q ▸ l))) (kp' T _ (fun m => absurd (low T m) (Nat.not_lt.mpr l)) t)⟩
      · rw [List.getElem?_append_right (by omega)] at e
        have e0 : j - Ts.length = 0 := by
          cases h0 : j - Ts.length with
          | zero => rfl
          | succ m => rw [h0] at e; simp at e
        rw [e0] at e
        simp only [List.getElem?_cons_zero, Option.some.injEq] at e
        subst e
        have ej : j = i := by omega
        subst ej
        exact ⟨hN, x1, x2, p1, p2, ot _ _ (fun q => absurd nS (Nat.not_lt.mpr (q ▸ hN))) tn⟩
    · intro T hT
      show T < (h'.update S _).objs.size
      rw [szu]
      rcases List.mem_append.mp hT with hT | hT
      · exact Nat.lt_succ_of_lt (lt T hT)
      · simp only [List.mem_singleton] at hT
        subst hT
        exact Nat.lt_succ_self _
    · intro s' acc' c' Ts' k' g o hS2' a2 l2 nd2 tp2
      exact fin s' acc' c' Ts' (fun b ob hb e => k' b ob hb (ot b ob (fun q => hb (by simp [q])) (kp' b ob hb e))) g o hS2' a2 l2 nd2 tp2
end
end Ow

/-! list(zip(a, b)): the rule. -/
namespace Ow
open PySem L2 Grd PyProof.Rows
open Evl (Ex ex_t ex_l ex_rd)
theorem zip_no_len : typeLookup (.type "zip") "__len__" = pure none := by rw [typeLookup_type, builtinLookup_eq_fast]; kernel_rfl
theorem zip_no_hint : typeLookup (.type "zip") "__length_hint__" = pure none := by rw [typeLookup_type, builtinLookup_eq_fast]; kernel_rfl
section
variable {prog : Program} {w : World} {A : Around} {E : Value → Shared → Prop} {s : Shared} {z TI TO i1 i2 : Addr} {fp1 fp2 : List Addr} {n1 n2 : Nat} {P1 P2 : Nat → Value → Prop} {St1 St2 : Nat → Heap → Prop}
theorem zAt_keep {i : Nat} {h h' : Heap} (D1 : Draws prog w A i1 fp1 n1 P1 St1) (D2 : Draws prog w A i2 fp2 n2 P2 St2) (Z : ZAt z TI TO i1 i2 St1 St2 i h) (k : ∀ b o, h.get? b = some o → h'.get? b = some o) : ZAt z TI TO i1 i2 St1 St2 i h' := by
  refine ⟨?_, k _ _ Z.ti, D1.frame _ _ _ Z.s1 fun b _ o e => k b o e, D2.frame _ _ _ Z.s2 fun b _ o e => k b o e⟩
  rcases Z.zip with ⟨hz, a, b, hTO⟩ | ⟨T, f, hz, ⟨oT, hT⟩, t⟩
  · exact .inl ⟨k _ _ hz, a, b, k _ _ hTO⟩
  · exact .inr ⟨T, f, k _ _ hz, ⟨_, k _ _ hT⟩, t⟩
theorem call_list_zip {a0 b0 : Value} {Q : Value → Shared → Prop} (D : ZipSep2 z TI TO i1 i2 fp1 fp2) (D1 : Draws prog w A.in1.in1.in1 i1 fp1 n1 P1 St1) (D2 : Draws prog w A.in1.in1.in1 i2 fp2 n2 P2 St2) (hz : IsZip s.heap z TI TO .none) (hTI : IsTupOf2 s.heap TI (.ref i1) (.ref i2)) (hTO : IsTupOf2 s.heap TO a0 b0)
    (st1 : St1 0 s.heap) (st2 : St2 0 s.heap) (hn : min n1 n2 ≤ sizeLine) (lf : ∀ b ∈ fp1 ++ fp2, b < s.heap.objs.size)
    (hQ : ∀ s' acc c Ts, (∀ b o, b ∉ [z, TO, i1, i2] → s.heap.get? b = some o → s'.heap.get? b = some o) → s'.gens = s.gens → s'.os = s.os → s'.heap.get? s.heap.objs.size = some { cls := .type "list", dict := none, data := .seq acc c, slots := #[] } →
      acc.toList = Ts.map Value.ref → Ts.length = min n1 n2 → Ts.Nodup → TupsAt P1 P2 (s.heap.objs.size + 1) Ts s'.heap → Q (.ref s.heap.objs.size) s') : wpAny (model prog w) A (call (.type "list") [.ref z]) Q E s := by
  have lz := Heap.lt_size hz
  have lT := Heap.lt_size hTO
  have lI := Heap.lt_size hTI
  generalize eS : s.heap.objs.size = S at lz lT lI lf hQ
  refine callType_codes (Q₁ := fun obj s₁ => obj = .ref S ∧ s₁ = { s with heap := s.heap.push { cls := .type "list", data := .seq #[] } }) F.called_list (F.typeCall_list_1 _) F.entry_list_init (code_list_new _ ⟨by rw [eS], rfl⟩) ?_
  rintro obj s₁ ⟨rfl, rfl⟩
  have hS : (s.heap.push { cls := .type "list", data := .seq #[] }).get? S = some { cls := .type "list", data := .seq #[] } := by rw [← eS]; exact Heap.get?_push_size _ rfl
  have sz : (s.heap.push { cls := .type "list", data := .seq #[] }).objs.size = S + 1 := by rw [Heap.size_push, eS]
  refine ⟨⟨_, hS, rfl⟩, F.args_list_init_2 _ _, ?_⟩
  show wpAny _ A.in1.in1 (do let old ← Builtin.List.listItems (.ref S); Builtin.List.listUpdate (.ref S) (fun _ => #[]); letGo old.toList.reverse; Builtin.List.listExtendWith (.ref S) (.ref z) .none) _ _ _
  refine wpAny_bind ?_
  unfold Builtin.List.listItems
  refine wpAny_bind (wpAny_seqItems hS rfl (wpAny_pure ?_))
  show wpAny _ A.in1.in1 (updateSeq S (fun _ => #[]) >>= fun _ => letGo (#[] : Array Value).toList.reverse >>= fun _ => Builtin.List.listExtendWith (.ref S) (.ref z) .none) _ _ _
  refine wpAny_bind (wpAny_updateSeq hS rfl (wpAny_bind (wpAny_letGo ?_)))
  have hS2 := Heap.get?_update_self (Obj.mapSeq (fun _ => (#[] : Array Value))) hS rfl
  have k1 : ∀ b o, s.heap.get? b = some o → ((s.heap.push { cls := .type "list", data := .seq #[] }).update S (Obj.mapSeq (fun _ => (#[] : Array Value)))).get? b = some o := fun b o e =>
    (Heap.get?_update_other _ _ (fun h : S = b => absurd (Heap.lt_size e) (by rw [eS, h]; exact Nat.lt_irrefl _))).trans (Heap.get?_push_of_some _ e)
  have sz2 : ((s.heap.push { cls := .type "list", data := .seq #[] }).update S (Obj.mapSeq (fun _ => (#[] : Array Value)))).objs.size = S + 1 := by rw [Heap.size_update, sz]
  generalize eh : (s.heap.push { cls := .type "list", data := .seq #[] }).update S (Obj.mapSeq (fun _ => (#[] : Array Value))) = h1 at hS2 k1 sz2 ⊢
  have nSz : S ≠ z := fun e => Nat.lt_irrefl _ (e ▸ lz)
  have nST : S ≠ TO := fun e => Nat.lt_irrefl _ (e ▸ lT)
  have nSI : S ≠ TI := fun e => Nat.lt_irrefl _ (e ▸ lI)
  have n1' : S ∉ fp1 := fun e => Nat.lt_irrefl _ (lf S (List.mem_append_left _ e))
  have n2' : S ∉ fp2 := fun e => Nat.lt_irrefl _ (lf S (List.mem_append_right _ e))
  have tz : Shared.TypeIs { s with heap := h1 } (.ref z) "zip" := ⟨_, k1 _ _ hz, rfl⟩
  unfold Builtin.List.listExtendWith
  refine wpAny_bind (wpAny_typeOf tz ?_)
  have q1 : Builtin.List.listSameRef (.ref S) (.ref z) = false := by simp [Builtin.List.listSameRef, nSz]
  have q2 : (Value.type "zip" == Value.type "list") = false := by decide
  have q3 : (Value.type "zip" == Value.type "tuple") = false := by decide
  simp only [q1, q2, q3, Bool.or_false, Bool.false_eq_true, if_false]
  refine wpAny_bind (wpAny_pyIter_zip (k1 _ _ hz) (wpAny_bind (wpAny_holding ?_)))
  unfold Builtin.List.listLengthHint
  refine wpAny_bind (wpAny_specialOf tz zip_no_len ?_)
  show wpAny _ A.in1.in1 (specialOf (Value.ref z) (Str.ofString "__length_hint__") >>= _) _ _ _
  refine wpAny_bind (wpAny_specialOf tz zip_no_hint (wpAny_pure ?_))
  show wpAny _ A.in1.in1 (rule "list.extend.makes-room" >>= fun _ => Builtin.List.listTouch (.ref S) >>= fun _ => again (.builtin "list.extend.loop" ⟨[.ref S, .ref z, .none], []⟩)) _ _ _
  refine wpAny_bind (wpAny_rule (wpAny_bind ?_))
  show wpAny _ A.in1.in1 (updateSeq S (·.push .none) >>= fun _ => updateSeq S (·.pop)) _ _ _
  refine wpAny_bind (wpAny_updateSeq hS2 rfl ?_)
  have hS3 := Heap.get?_update_self (Obj.mapSeq (·.push Value.none)) hS2 rfl
  refine wpAny_updateSeq (hz := by seq_fits) hS3 rfl ?_
  have hS4 := Heap.get?_update_self (Obj.mapSeq (·.pop)) hS3 rfl
  have k2 : ∀ b o, s.heap.get? b = some o → ((h1.update S (Obj.mapSeq (·.push Value.none))).update S (Obj.mapSeq (·.pop))).get? b = some o := fun b o e => by
    have nb : S ≠ b := fun h => absurd (Heap.lt_size e) (by rw [eS, h]; exact Nat.lt_irrefl _)
    exact (Heap.get?_update_other _ _ nb).trans ((Heap.get?_update_other _ _ nb).trans (k1 b o e))
  have sz4 : ((h1.update S (Obj.mapSeq (·.push Value.none))).update S (Obj.mapSeq (·.pop))).objs.size = S + 1 := by rw [Heap.size_update, Heap.size_update, sz2]
  refine wpAny_pure ⟨plainId_quiet F.plain_extend_loop _, ?_⟩
  refine lz_loop (N := S + 1) D D1 D2 ?_ hn n1' n2' nSz nST nSI (min n1 n2 - 0) 0 _ _ _ [] rfl (Nat.zero_le _) (Nat.le_of_eq sz4.symm) (zAt_keep D1 D2 ⟨.inl ⟨hz, _, _, hTO⟩, hTI, st1, st2⟩ k2) hS4 rfl rfl List.nodup_nil (fun j T e => by simp at e) (fun T hT => by simp at hT) ?_
  · intro b hb
    simp only [List.mem_cons, List.not_mem_nil, or_false] at hb
    rcases hb with rfl | rfl | rfl | rfl | rfl
    · exact Nat.lt_succ_of_lt lz
    · exact Nat.lt_succ_of_lt lT
    · exact Nat.lt_succ_of_lt (lf _ (List.mem_append_left _ D.mem1))
    · exact Nat.lt_succ_of_lt (lf _ (List.mem_append_right _ D.mem2))
    · exact Nat.lt_succ_self _
  · intro s' acc' c' Ts' kp g o hSf ha hl nd tp
    refine ⟨rfl, hQ s' acc' c' Ts' (fun b ob hb e => kp b ob (fun m => ?_) (k2 b ob e)) g o hSf ha hl nd tp⟩
    simp only [List.mem_cons, List.not_mem_nil, or_false] at m hb
    rcases m with m | m | m | m | m
    · exact hb (.inl m)
    · exact hb (.inr (.inl m))
    · exact hb (.inr (.inr (.inl m)))
    · exact hb (.inr (.inr (.inr m)))
    · exact absurd (Heap.lt_size e) (by rw [eS, m]; exact Nat.lt_irrefl _)
end
/-- pairs laid one by one -/
inductive Lays : List (V × V) → Hp → List V → Hp → Prop
  | nil {H : Hp} : Lays [] H [] H
  | cons {x y : V} {ps : List (V × V)} {H H' : Hp} {T : Addr} {vs : List V} : H T = none → Lays ps (upd H T (.tup [x, y])) vs H' → Lays ((x, y) :: ps) H (.ref T :: vs) H'
/-- as they are laid: kept, tracked -/
theorem lays_ok {X : Cx} {H0 : Hp} {s s' : Shared} : ∀ {ps : List (V × V)} {H : Hp} {Ts : List Addr}, Ts.length = ps.length → Ts.Nodup → (∀ T ∈ Ts, s.heap.objs.size ≤ T ∧ H T = none) →
    (∀ (j : Nat) (T : Addr) (p : V × V), Ts[j]? = some T → ps[j]? = some p → ∃ u1 u2, RelV p.1 u1 ∧ RelV p.2 u2 ∧ IsTupOf2 s'.heap T u1 u2) → Un (frs X.stack) [] H0 H s.heap s'.heap → HOk X.prog X.w H s'.heap →
    ∃ H', Lays ps H (Ts.map V.ref) H' ∧ Un (frs X.stack) [] H0 H' s.heap s'.heap ∧ HOk X.prog X.w H' s'.heap ∧ ∀ b, b ∉ Ts → H' b = H b
  | [], H, [], _, _, _, _, u, k => ⟨H, .nil, u, k, fun _ _ => rfl⟩
  | (x, y) :: ps, H, T :: Ts, l, nd, fr, at_, u, k => by
    obtain ⟨n1, n2⟩ := List.nodup_cons.mp nd
    obtain ⟨hT, nT⟩ := fr T List.mem_cons_self
    obtain ⟨u1, u2, r1, r2, t⟩ := at_ 0 T (x, y) rfl rfl
    have new : ObjOk X.prog X.w (upd H T (.tup [x, y])) s'.heap T (.tup [x, y]) := ⟨by show 2 ≤ sizeLine; decide, [u1, u2], .cons r1 (.cons r2 .nil), ⟨_, t, rfl, _, rfl⟩⟩
    have k2 := k.laidN (h' := s'.heap) (fun b v e => e) nT new
    have u2' : Un (frs X.stack) [] H0 (upd H T (.tup [x, y])) s.heap s'.heap :=
      ⟨u.keep, u.slot, fun b o q n hx => by rw [upd_ne (Nat.ne_of_lt (Nat.lt_of_lt_of_le (Heap.lt_size q) hT))]; exact u.free b o q n hx, u.there, fun b xs q => by rw [upd_ne (ne_of_none (u.tups b xs q) nT)]; exact u.tups b xs q,
        fun b o v q => by rw [upd_ne (ne_of_none (u.frzs b o v q) nT)]; exact u.frzs b o v q, fun b v q => by
          obtain ⟨e, he⟩ := u.tbls b v q
          exact ⟨e, by rw [upd_ne (fun z => by rw [z, nT] at he; simp at he)]; exact he⟩⟩
    obtain ⟨H', ly, u3, k3, off⟩ := lays_ok (ps := ps) (H := upd H T (.tup [x, y])) (Ts := Ts) (by simpa using l) n2 (fun b hb => ⟨(fr b (List.mem_cons_of_mem _ hb)).1, by rw [upd_ne (fun (e : b = T) => n1 (by rw [← e]; exact hb))]; exact (fr b (List.mem_cons_of_mem _ hb)).2⟩) (fun j b p h1 h2 => at_ (j + 1) b p h1 h2) u2' k2
    refine ⟨H', .cons nT ly, u3, k3, fun b hb => ?_⟩
    have hb' : b ≠ T ∧ b ∉ Ts := ⟨fun e => hb (by simp [e]), fun e => hb (by simp [e])⟩
    rw [off b hb'.2, upd_ne hb'.1]
  | [], H, _ :: _, l, _, _, _, _, _ => by simp at l
  | _ :: _, H, [], l, _, _, _, _, _ => by simp at l
/-- list(zip(a, b)) -/
def tLz (K : PySem.W.Frag) (ta : TA) : TE := fun σ H Q => ta σ H fun vs H1 => ∃ v1 v2, vs = [v1, v2] ∧ ∃ (a b : Src) (xs ys : List V), a.rel v1 ∧ b.rel v2 ∧ a.has K H1 xs ∧ b.has K H1 ys ∧ xs.length ≤ sizeLine ∧
  ∀ ws H2, Lays (xs.zip ys) H1 ws H2 → ∀ p, H2 p = none → Q (.ref p) (upd H2 p (.lst ws))
theorem vals_refs' : ∀ as : List Addr, Vals (as.map V.ref) (as.map Value.ref)
  | [] => .nil
  | _ :: as => .cons rfl (vals_refs' as)
theorem pe_lz {X : Cx} {e e2 : Expr} {ta : TA} {p p2 pos pos2 : Pos} (hc : X.calm = true) (hgl : Gl X "list") (hml : X.mg "list" = none) (hg : Gl X "zip") (hm : X.mg "zip" = none) (ha : PA X [e, e2] ta)
    (hs : starEach [e, e2] X.env = (false, eval e X.env) :: starEach [e2] X.env := by rfl) (hpl : (backTo pos (starEach [e2] X.env)).any (·.1) = false := by rfl)
    (na : starEach [.Call (.Name "zip" p) [e, e2] [] pos] X.env = (false, eval (.Call (.Name "zip" p) [e, e2] [] pos) X.env) :: starEach [] X.env := by rfl) :
    PE X (.Call (.Name "list" p2) [.Call (.Name "zip" p) [e, e2] [] pos] [] pos2) (tLz X.K ta) := by
  refine ⟨fun pins s σ H Q I h => ?_⟩
  refine Call_ (ld_blt I hgl hml boot_list (PyProof.Rows.callWith_type1 (args_cons ?_ na) na))
  refine Call_ (ld_blt I hg hm PyProof.Rows.boot_zip (PyProof.Rows.callWith_type1 (thn (ha.run pos pins s σ H _ I h) fun us s1 ⟨vs, H1, I1, r1, q1⟩ => ?_) hs hpl))
  obtain ⟨v1, v2, rfl, a0, b0, xs, ys, e1, e2, hx, hy, hlen, q⟩ := q1
  cases r1 with
  | cons r rr =>
    cases rr with
    | cons r' rr =>
      cases rr
      obtain ⟨a, rfl, _, ka⟩ := Src.relV e1 _ r
      obtain ⟨b, rfl, _, kb⟩ := Src.relV e2 _ r'
      have hx := ka _ _ _ hx
      have hy := kb _ _ _ hy
      obtain ⟨Ha, Ba, ha⟩ := Src.begins I1 hx
      obtain ⟨Hb, Bb, hb⟩ := Src.begins I1 hy
      have la := Src.fp_lt I1 hx
      have lb := Src.fp_lt I1 hy
      refine zip_begins2 Ba Bb ha hb fun h' hz hTI hTO g1 g2 hsz hk => args_nil ?_
      have I2 : Inv X pins σ H1 { s1 with heap := h' } := I1.kept (t' := s1.toks) hk
      have no1 : s1.heap.objs.size ∉ a.fp := fun z => Nat.lt_irrefl _ (la _ z)
      have no2 : s1.heap.objs.size + 1 ∉ b.fp := fun z => Nat.lt_irrefl _ (Nat.lt_of_succ_lt (lb _ z))
      obtain ⟨P1, c1, k1, D1, r1⟩ := Src.draws (A := X.A.in1.in1.in1) (I.ok.hd hc) I2 hx s1.heap.objs.size no1
      obtain ⟨P2, c2, k2, D2, r2⟩ := Src.draws (A := X.A.in1.in1.in1) (I.ok.hd hc) I2 hy (s1.heap.objs.size + 1) no2
      refine call_list_zip (s := { s1 with heap := h' }) (zip_sep2 la lb) D1 D2 hz hTI hTO ⟨Src.st0 g1, k1⟩ ⟨Src.st0 g2, k2⟩ (by omega) ?_ fun s' acc c Ts kp eg eo hS hacc hl nd tp => ?_
      · intro x hx'
        have bound : x < s1.heap.objs.size + 2 := by
          rcases List.mem_append.mp hx' with m | m
          · rcases List.mem_cons.mp m with m | m
            · subst m; exact Nat.lt_add_of_pos_right (by decide)
            · exact Nat.lt_of_lt_of_le (la x m) (Nat.le_add_right _ _)
          · rcases List.mem_cons.mp m with m | m
            · subst m; exact Nat.lt_succ_self _
            · exact Nat.lt_of_lt_of_le (lb x m) (Nat.le_add_right _ _)
        show x < h'.objs.size
        rw [hsz]
        exact Nat.lt_of_lt_of_le bound (Nat.add_le_add_left (by decide) _)
      · replace tp : TupsAt P1 P2 (h'.objs.size + 1) Ts s'.heap := tp
        replace hS : s'.heap.get? h'.objs.size = some { cls := .type "list", dict := none, data := .seq acc c, slots := #[] } := hS
        have keep : ∀ b' o, s1.heap.get? b' = some o → s'.heap.get? b' = some o := fun b' o e => by
          have lt := Heap.lt_size e
          refine kp b' o (fun m => ?_) (hk b' o e)
          simp only [List.mem_cons, List.not_mem_nil, or_false] at m
          have le : s1.heap.objs.size ≤ b' := by
            rcases m with m | m | m | m
            · rw [m]; exact Nat.le_add_right _ _
            · rw [m]; exact Nat.le_add_right _ _
            · rw [m]; exact Nat.le_refl _
            · rw [m]; exact Nat.le_add_right _ _
          exact absurd lt (Nat.not_lt.mpr le)
        have above : ∀ T ∈ Ts, h'.objs.size + 1 ≤ T := fun T hT => by
          obtain ⟨j, hj⟩ := List.getElem?_of_mem hT
          exact (tp j T hj).1
        have up : s1.heap.objs.size ≤ h'.objs.size := by rw [hsz]; exact Nat.le_add_right _ _
        have lT : Ts.length = (xs.zip ys).length := by rw [hl, List.length_zip]
        obtain ⟨H2, ly, un, ok, off⟩ := lays_ok (X := X) (H0 := H1) (s := s1) (s' := s') (ps := xs.zip ys) (H := H1) (Ts := Ts) lT nd
          (fun T hT => let le := Nat.le_trans up (Nat.le_of_succ_le (above T hT)); ⟨le, I1.hok.fresh le⟩) (fun j T p h1 h2 => by
            obtain ⟨_, u1, u2, p1, p2, t⟩ := tp j T h1
            obtain ⟨x, hx1, rx⟩ := r1 j u1 p1
            obtain ⟨y, hy1, ry⟩ := r2 j u2 p2
            rw [List.getElem?_zip_eq_some] at h2
            rw [h2.1] at hx1
            rw [h2.2] at hy1
            cases hx1
            cases hy1
            exact ⟨u1, u2, rx, ry, t⟩) (Un.kept keep) (I1.hok.kept keep)
        have nS : H2 h'.objs.size = none := by
          rw [off _ (fun m => absurd (above _ m) (Nat.not_le.mpr (Nat.lt_succ_self _)))]
          exact I1.hok.fresh up
        have lw : (Ts.map V.ref).length ≤ sizeLine := by rw [List.length_map, hl]; omega
        have ok3 := ok.laidN (h' := s'.heap) (a := h'.objs.size) (o := .lst (Ts.map V.ref)) (fun b v e => e) nS ⟨lw, acc.toList, c, by rw [hacc]; exact vals_refs' Ts, by rw [Array.toArray_toList]; exact hS⟩
        have un3 : Un (frs X.stack) [] H1 (upd H2 h'.objs.size (.lst (Ts.map V.ref))) s1.heap s'.heap :=
          ⟨un.keep, un.slot, fun b o q n hx => by rw [upd_ne (Nat.ne_of_lt (Nat.lt_of_lt_of_le (Heap.lt_size q) up))]; exact un.free b o q n hx, un.there, fun b xs q => by rw [upd_ne (ne_of_none (un.tups b xs q) nS)]; exact un.tups b xs q,
            fun b o v q => by rw [upd_ne (ne_of_none (un.frzs b o v q) nS)]; exact un.frzs b o v q, fun b v q => by
              obtain ⟨e, he⟩ := un.tbls b v q
              exact ⟨e, by rw [upd_ne (ne_of_none he nS)]; exact he⟩⟩
        have I3 : Inv X pins σ (upd H2 h'.objs.size (.lst (Ts.map V.ref))) s' := I1.call' (ch := []) eo un3 ok3 (by rw [eg]; exact I1.bare) (fun _ z => nomatch z)
        exact ⟨.ref h'.objs.size, _, I3, rfl, q _ H2 ly _ nS⟩
/-! ### as data -/
def aListZip (ta tb : AE) : AE := fun env Q => ta env fun x e1 => tb e1 fun y e2 => match sfd x, sfd y with
  | some xs, some ys => xs.length ≤ sizeLine ∧ Q (.n .lst ((zipD xs ys).map .d)) e2
  | _, _ => False
theorem lays_at {K : PySem.W.Frag} {A : Addr → Prop} {F0 : FS} {H0 : Hp} {σ : L2.St} {env : En} : ∀ {ps : List (V × V)} {H H' : Hp} {ws : List V}, Lays ps H ws H' → ∀ {F : FS} {ds es : List PyData} {us : List V} {ys : List OV} {xs1 ys1 : List V}, ps = xs1.zip ys1 → Dts K (rs H F) xs1 ds → Dts K (rs H F) ys1 es →
    At K A F0 H0 H F us ys σ env → ys.length = us.length → ∃ F', At K A F0 H0 H' F' (ws ++ us) ((zipD ds es).map .d ++ ys) σ env
  | _, _, _, _, .nil, F, ds, es, us, ys, xs1, ys1, e, d1, d2, c, l => by
    refine ⟨F, ?_⟩
    have : zipD ds es = [] := by
      cases d1 with
      | nil => rfl
      | cons h1 t1 =>
        cases d2 with
        | nil => simp [zipD]
        | cons h2 t2 => simp at e
    rw [this]
    exact c
  | _, _, _, _, .cons (T := T) nT ly, F, ds, es, us, ys, xs1, ys1, e, d1, d2, c, l => by
    cases d1 with
    | nil => simp at e
    | cons h1 t1 =>
      cases d2 with
      | nil => simp at e
      | cons h2 t2 =>
        rw [List.zip_cons_cons] at e
        obtain ⟨e0, e'⟩ := List.cons.inj e
        cases e0
        obtain ⟨F1, c0⟩ := At.newT c.re1 (.cons h1 (.cons h2 .nil)) nT
        have ex := c0.st.fr
        have c1 := c.on c0.st c0.cf
        have c2 := At.app_comm (vs1 := [.ref T]) (xs1 := [_]) rfl c1
        obtain ⟨F2, c3⟩ := lays_at ly e' (dts_ex ex t1) (dts_ex ex t2) c2 (by simp [l])
        refine ⟨F2, ?_⟩
        rw [← List.append_assoc, ← List.append_assoc] at c3
        have lw := c3.cf.len
        have c4 := At.app_comm (vs2 := [.ref T]) (xs2 := [_]) (by simp at lw ⊢; omega) c3
        simpa [zipD] using c4
theorem src_of {K : PySem.W.Frag} {H : Hp} {v : V} {d : PyData} {ds : List PyData} (h : Dt K H v d) (e : sit d = some ds) : ∃ (a : Src) (ws : List V), a.rel v ∧ a.has K H ws ∧ Dts K H ws ds := by
  cases h with
  | @lst a ws _ h t => cases e; exact ⟨.lst a, ws, rfl, .of h, t⟩
  | @tup a ws _ h t => cases e; exact ⟨.tup a, ws, rfl, h, t⟩
  | str z =>
    cases e
    refine ⟨.str z 0, _, rfl, rfl, ?_⟩
    unfold chD
    generalize z.cps.toList = l
    induction l with
    | nil => exact .nil
    | cons c l ih => exact .cons (.str _) ih
  | non => cases e
  | bl b => cases e
  | int b => cases e
theorem Src.mono {K : PySem.W.Frag} {H H' : Hp} {a : Src} {ws : List V} (e : Ex H H') (h : a.has K H ws) : a.has K H' ws := by
  cases a with
  | lst a => exact ex_l e h
  | tup a => exact ex_t e h
  | str z t => exact h
theorem se_listZip {X : Cx} {e e2 : Expr} {ta tb : AE} {p p2 pos pos2 : Pos} (hc : X.calm = true) (hgl : Gl X "list") (hml : X.mg "list" = none) (hg : Gl X "zip") (hm : X.mg "zip" = none) (ha : SE X e ta) (hb : SE X e2 tb)
    (hs : starEach [e, e2] X.env = (false, eval e X.env) :: starEach [e2] X.env := by rfl) (hs2 : starEach [e2] X.env = [(false, eval e2 X.env)] := by rfl) (hpl : (backTo pos (starEach [e2] X.env)).any (·.1) = false := by rfl)
    (na : starEach [.Call (.Name "zip" p) [e, e2] [] pos] X.env = (false, eval (.Call (.Name "zip" p) [e, e2] [] pos) X.env) :: starEach [] X.env := by rfl) :
    SE X (.Call (.Name "list" p2) [.Call (.Name "zip" p) [e, e2] [] pos] [] pos2) (aListZip ta tb) :=
  peTo (pe_lz hc hgl hml hg hm (pa_cons ha (pa_cons hb pa_nil hs2) hs) hs hpl na) fun σ H Q ⟨A, F, env, R, c, h, k⟩ => ev c h fun x e1 v H1 F1 h1 c1 => ev c1 h1 fun y e2 u H2 F2 h2 c2 => by
    split at h2
    · rename_i xs ys ex ey
      obtain ⟨d1, f1, g1⟩ := Option.bind_eq_some_iff.mp ex
      obtain ⟨d2, f2, g2⟩ := Option.bind_eq_some_iff.mp ey
      obtain ⟨F3, c3⟩ := c2.fix2 f2 f1
      obtain ⟨a, ws, ra, ha, ta⟩ := src_of c3.swap.dp g1
      obtain ⟨b, us, rb, hb, tb⟩ := src_of c3.dp g2
      refine ⟨v, u, rfl, a, b, ws, us, ra, rb, Src.mono rs_ex ha, Src.mono rs_ex hb, by rw [← ta.len]; exact h2.1, fun zs H3 ly p hp => ?_⟩
      obtain ⟨F4, c4⟩ := lays_at ly rfl ta tb c3.pop.pop rfl
      have lz : ((zipD xs ys).map OV.d).length = zs.length := by have := c4.cf.len; simpa using this
      exact k _ _ _ _ F4 h2.2 (At.make (s := .lst) c4 lz hp ⟨upd_same, rfl⟩)
    · exact h2.elim
end Ow

/-! Dicts that one name holds; lists within a list or a dict. -/
namespace Ow
open PySem L2 Grd PyProof.Rows
open Evl (Ex ex_t ex_l ex_rd)
def keyD : PyData → Option Key
  | .int i => some (.inl i)
  | .str x => some (.inr x)
  | _ => none
def keyO : OV → Option Key
  | .d d => keyD d
  | _ => none
def dix (ks : List Key) (k : Key) : Option Nat := ks.findIdx? fun q => decide (q = k)
/-- where in it -/
def kix (s : Sh) (n : Nat) (y : OV) : Option Nat := match s with
  | .lst => match y with | .d (.int k) => ixN n k | _ => none
  | .dic ks => (keyO y).bind (dix ks)
  | _ => none
theorem dix_val {α : Type} : ∀ {ks : List Key} {ws : List V} {k : Key}, ks.length = ws.length → valV (ks.zip ws) k = (dix ks k).bind fun j => ws[j]?
  | [], [], k, _ => rfl
  | q :: ks, v :: ws, k, l => by
    have ih := dix_val (α := α) (ks := ks) (ws := ws) (k := k) (by simpa using l)
    unfold dix at ih ⊢
    rw [List.zip_cons_cons, List.findIdx?_cons]
    by_cases e : q = k
    · rw [valV_pos e]; simp [e]
    · rw [valV_neg e, ih]
      simp only [e, decide_false, Bool.false_eq_true, if_false]
      cases List.findIdx? (fun q => decide (q = k)) ks <;> simp
  | [], _ :: _, _, l => by simp at l
  | _ :: _, [], _, l => by simp at l
theorem dix_lt {ks : List Key} {k : Key} {j : Nat} (h : dix ks k = some j) : j < ks.length ∧ ks[j]? = some k := by
  unfold dix at h
  obtain ⟨h1, h2, _⟩ := List.findIdx?_eq_some_iff_getElem.mp h
  refine ⟨h1, ?_⟩
  rw [List.getElem?_eq_getElem h1]
  simpa using h2
theorem dix_none {ks : List Key} {k : Key} (h : dix ks k = none) : k ∉ ks := by
  unfold dix at h
  intro m
  have := List.findIdx?_eq_none_iff.mp h k m
  simp at this
theorem key_v {K : PySem.W.Frag} {H : Hp} {v : V} {d : PyData} {k : Key} (h : Dt K H v d) (e : keyD d = some k) : v = kV k := by
  cases h <;> first | (cases e; rfl) | cases e
section
variable {K : PySem.W.Frag} {A : Addr → Prop} {F0 F F' : FS} {H0 H H' : Hp} {v u : V} {vs us : List V} {x y : OV} {xs ys : List OV} {σ : L2.St} {env : En}
/-! ### an object, and what is in it, apart -/
def Sh.hd : Sh → List V → Option HO
  | .lst, vs => some (.lst vs)
  | .dic ks, vs => if ks.length = vs.length then some (.dK (ks.zip vs)) else none
  | _, _ => none
theorem At.split1 {s : Sh} {a : Addr} (c : At K A F0 H0 H F (.ref a :: vs) (.n s xs :: ys) σ env) (hp : s = .lst ∨ ∃ ks, s = .dic ks) :
    ∃ ws o, s.hd ws = some o ∧ H a = some o ∧ xs.length = ws.length ∧ At K A F0 H0 H F (.ref a :: (ws ++ vs)) (.n (.ext fun _ => o) [] :: (xs ++ ys)) σ env := by
  obtain ⟨st, ⟨⟨a1, a2, h1, h2, nd, off⟩, fh⟩⟩ := c
  cases h1 with
  | @cons _ _ _ _ b1 b2 h t =>
    cases h with
    | @n _ _ ws _ ex as hs hw =>
      obtain ⟨o, e1, e2, e3⟩ : ∃ o, s.hd ws = some o ∧ H a = some o ∧ ex = [] := by
        rcases hp with rfl | ⟨ks, rfl⟩
        · exact ⟨_, rfl, hs.1, hs.2⟩
        · exact ⟨_, if_pos hs.2.1, hs.1, hs.2.2⟩
      subst e3
      refine ⟨ws, o, e1, e2, hw.len, st, ⟨⟨(a :: [] ++ []) ++ (as ++ b2), a2, .cons (.n ⟨e2, rfl, rfl⟩ .nil) (hw.append (a1 := []) (a2 := []) t), h2, ?_, ?_⟩, fh⟩⟩
      · simpa [List.append_assoc] using nd
      · simpa [List.append_assoc] using off
theorem At.join1 {s : Sh} {a : Addr} {ws : List V} {o : HO} (c : At K A F0 H0 H F (.ref a :: (ws ++ vs)) (.n (.ext fun _ => o) [] :: (xs ++ ys)) σ env) (e : s.hd ws = some o) (l : xs.length = ws.length) : At K A F0 H0 H F (.ref a :: vs) (.n s xs :: ys) σ env := by
  obtain ⟨st, ⟨⟨a1, a2, h1, h2, nd, off⟩, fh⟩⟩ := c
  cases h1 with
  | @cons _ _ _ _ b1 b2 h t =>
    cases h with
    | n hs hw =>
      rename_i ex as
      obtain ⟨e1, rfl, rfl⟩ := hs
      cases hw
      obtain ⟨c1, c2, rfl, g1, g2⟩ := Owns.split l t
      have is : s.is H a ws [] := by
        cases s with
        | lst => cases e; exact ⟨e1, rfl⟩
        | tup => cases e
        | dic ks =>
          simp only [Sh.hd] at e
          split at e
          · cases e; exact ⟨e1, ‹_›, rfl⟩
          · cases e
        | ins C ks => cases e
        | ext o => cases e
      refine ⟨st, ⟨⟨(a :: [] ++ c1) ++ c2, a2, .cons (.n is g1) g2, h2, ?_, ?_⟩, fh⟩⟩
      · simpa [List.append_assoc] using nd
      · simpa [List.append_assoc] using off
theorem zip_eraseK {α β : Type} : ∀ (ws : List α) (xs : List β) (j : Nat), xs.length = ws.length → (ws.zip xs).eraseIdx j = (ws.eraseIdx j).zip (xs.eraseIdx j)
  | [], [], j, _ => by simp
  | w :: ws, x :: xs, 0, _ => by simp
  | w :: ws, x :: xs, j + 1, l => by simp [zip_eraseK ws xs j (by simpa using l)]
  | [], _ :: _, _, l => by simp at l
  | _ :: _, [], _, l => by simp at l
/-- the j-th of some held, taken to the front -/
theorem At.pickKeep {ws : List V} {j : Nat} (c : At K A F0 H0 H F (ws ++ vs) (xs ++ ys) σ env) (l : xs.length = ws.length) (e : xs[j]? = some y) : ∃ w, ws[j]? = some w ∧ At K A F0 H0 H F (w :: (ws.eraseIdx j ++ vs)) (y :: (xs.eraseIdx j ++ ys)) σ env := by
  obtain ⟨w, hw, hz⟩ := zip_at l e
  refine ⟨w, hw, ?_⟩
  have q := At.keepSome (ps := (w, y) :: (ws.zip xs).eraseIdx j) (r := []) c l (by rw [List.append_nil]; exact perm_at hz)
  have le : (xs.eraseIdx j).length = (ws.eraseIdx j).length := by
    have h1 : j < xs.length := (List.getElem?_eq_some_iff.mp e).1
    rw [List.length_eraseIdx_of_lt h1, List.length_eraseIdx_of_lt (by omega), l]
  rw [zip_eraseK ws xs j l] at q
  simp only [List.map_cons, zip_v le, zip_x le] at q
  exact q
/-- and put back -/
theorem At.swapIn {ws : List V} {j : Nat} {w : V} {y' : OV} {H2 : Hp} {F2 : FS} (c : At K A F0 H0 H2 F2 (w :: (ws.eraseIdx j ++ vs)) (y' :: (xs.eraseIdx j ++ ys)) σ env) (l : xs.length = ws.length) (ew : ws[j]? = some w) : At K A F0 H0 H2 F2 (ws ++ vs) (xs.set j y' ++ ys) σ env := by
  have lt : j < ws.length := (List.getElem?_eq_some_iff.mp ew).1
  have ls : (xs.set j y').length = ws.length := by simp [l]
  have ex : (xs.set j y')[j]? = some y' := by rw [List.getElem?_set_self (by omega)]
  obtain ⟨w', hw', hz⟩ := zip_at ls ex
  rw [ew] at hw'
  cases hw'
  have le : (xs.eraseIdx j).length = (ws.eraseIdx j).length := by rw [List.length_eraseIdx_of_lt (by omega), List.length_eraseIdx_of_lt lt, l]
  have e4 : (xs.set j y').eraseIdx j = xs.eraseIdx j := List.eraseIdx_set_eq
  have c0 : At K A F0 H0 H2 F2 ((w :: ws.eraseIdx j) ++ vs) ((y' :: xs.eraseIdx j) ++ ys) σ env := c
  have q := At.keepSome (ps := ws.zip (xs.set j y')) (r := []) c0 (by simp [le]) (by
    rw [List.append_nil, List.zip_cons_cons]
    have p := (perm_at hz).symm
    rw [zip_eraseK ws _ j ls, e4] at p
    exact p)
  rw [zip_v ls, zip_x ls] at q
  exact q
end
/-! ### d[k], xs[i] of a name -/
theorem ix_dk {X : Cx} (hu : X.A.units + 1 < cLine) : IxR X (fun x y H Q => ∃ a v, x = .ref a ∧ DGet H a y (some v) ∧ Q v H) := by
  intro value slice pins s σ H x y v u Q I rx ry h hs
  obtain ⟨a, w, rfl, g, q⟩ := h
  obtain rfl : v = Value.ref a := rx
  have hT := dict_typeIs I g
  unfold subscriptTail
  refine wpAny_bind ?_
  rw [getitemInPython_of_ne hT.not_modules]
  refine wpAny_bind (wpAny_specialOf hT PySem.F.slot_dict_getitem.lookup ?_)
  have fin : wpAny (model X.prog X.w) X.A (subscripted slice false (.ref a) u) (fun r s₃ => wpAny (model X.prog X.w) X.A (letTemporaryGo value (.ref a) r >>= fun _ => pure r) (EP X pins σ Q) X.xe s₃) X.xe s := by
    rw [hs]
    exact wpAny_operating (d_getItem hu I g ry fun w' s3 I3 rw' => wpAny_bind (wpAny_letTemporaryGo (wpAny_pure ⟨w, H, I3, rw', q⟩)))
  first
    | exact wpAny_pure (wpAny_bind fin)
    | exact wpAny_bind (wpAny_pure (wpAny_bind fin))
    | exact wpAny_bind fin
/-- a subscript of a name that holds a list or a dict: what stands there is fixed -/
def aIxK (i : Nat) (tb : AE) : AE := fun env Q => (match env[i]? with | some (some _) => True | _ => False) ∧ tb env fun y e => match e[i]? with
  | some (some (.d x)) => oIx (.d x) y fun z => Q z e
  | some (some (.n s xs)) => match kix s xs.length y with
    | some j => match xs[j]? with
      | some (.d d) => Q (.d d) e
      | some o => match frz o with
        | some d => Q (.d d) (e.set i (some (.n s (xs.set j (.d d)))))
        | none => False
      | none => False
    | none => False
  | _ => False
section
variable {X : Cx} {pn : List (Nat × V)} {e o a b c f i' : Expr} {es : List Expr} {ta tb tc te td tk tv : AE} {tr : AA} {pos p p2 apos cpos : Pos} {i : Nat} {x : Str} {id T : String}
/-- what an index finds -/
theorem kix_ix {K : PySem.W.Frag} {H : Hp} {F : FS} {s : Sh} {a : Addr} {ws : List V} {ex : List Addr} {n j : Nat} {y : OV} {u w : V} {A : Addr → Prop} {F0 : FS} {H0 : Hp} {vs : List V} {xs : List OV} {σ : L2.St} {env : En} {Q : VK}
    (hs : s.is H a ws ex) (ek : kix s n y = some j) (ln : n = ws.length) (c : At K A F0 H0 H F (u :: vs) (y :: xs) σ env) (hw : ws[j]? = some w) (q : Q w H) :
    (rIx K (.ref a) u H Q) ∨ ∃ a' v, V.ref a = .ref a' ∧ DGet H a' u (some v) ∧ Q v H := by
  cases s with
  | lst =>
    simp only [kix] at ek
    split at ek
    · rename_i k
      have du := c.dp
      cases du
      subst ln
      exact .inl (.inl ⟨a, ws, _, w, rfl, rfl, .of hs.1, ix_atI ek hw, q⟩)
    · cases ek
  | dic ks =>
    simp only [kix] at ek
    obtain ⟨k, e1, e2⟩ := Option.bind_eq_some_iff.mp ek
    cases y with
    | d d =>
      have ev := key_v c.dp e1
      subst ev
      refine .inr ⟨a, w, rfl, ?_, q⟩
      have g := DGet.k (k := k) hs.1
      rw [dix_val (α := Unit) hs.2.1, e2] at g
      simp only [Option.bind_some, hw] at g
      exact g
    | n _ _ => cases e1
  | tup => cases ek
  | ins C ks => cases ek
  | ext _ => cases ek
theorem se_ixK (hu : X.A.units + 1 < cLine) (h : PE X a (tVar i)) (hb : SE X b tb) (hs : PlainIx b) : SE X (.Subscript a b pos) (aIxK i tb) := peTo (pe_ix (ix_seq.or (ix_dk hu)) h hb hs) fun σ H Q ⟨A, F, env, R, c, h, k⟩ => by
  obtain ⟨h0, h⟩ := h
  obtain ⟨v, hv⟩ := getSome c h0
  refine ⟨v, hv, ev c h fun y e1 u H2 F2 h2 c2 => ?_⟩
  split at h2
  · rename_i x ex
    unfold oIx at h2
    split at h2
    · have dw := c2.dp
      cases dw
      obtain ⟨v', hv', dv⟩ := c2.look ex
      rw [hv] at hv'
      cases hv'
      exact .inl (ixD dv h2 fun d' v'' r hd => k _ _ _ _ _ r (c2.pop.push hd))
    · exact h2.elim
  · rename_i s xs ex
    split at h2
    · rename_i j ej
      obtain ⟨v', hv', c3⟩ := c2.pop.take ex
      rw [hv] at hv'
      cases hv'
      split at h2
      · rename_i d ed
        obtain ⟨a, ws, ex', rfl, hs, l, c4⟩ := c3.opn
        obtain ⟨w, h1, c5⟩ := c4.pick l ed
        exact kix_ix hs ej l c2 h1 (k _ _ _ _ _ h2 (c2.pop.push c5.dp))
      · rename_i o _ eo
        split at h2
        · rename_i d ed
          obtain ⟨a, ws, ex', w, F3, rfl, hs, l, h1, dw, c4⟩ := c3.fixAt eo ed
          have c5 := (c4.push dw).swap.put hv
          rw [set_set'] at c5
          exact kix_ix hs ej l c2 h1 (k _ _ _ _ _ h2 c5)
        · exact h2.elim
      · exact h2.elim
    · exact h2.elim
  · exact h2.elim
/-! ### d.get(k, z) of a name; {..}.get(k, z) -/
def aDGet (i : Nat) (tk td : AE) : AE := fun env Q => (match env[i]? with | some (some (.n (.dic _) _)) => True | _ => False) ∧ tk env fun y e1 => td e1 fun z e2 => match e2[i]? with
  | some (some (.n (.dic ks) xs)) => match keyO y with
    | some k => match dix ks k with
      | some j => match xs[j]? with
        | some (.d d) => Q (.d d) e2
        | some o => match frz o with
          | some d => Q (.d d) (e2.set i (some (.n (.dic ks) (xs.set j (.d d)))))
          | none => False
        | none => False
      | none => Q z e2
    | none => False
  | _ => False
theorem isD_of {K : PySem.W.Frag} {A : Addr → Prop} {F0 F : FS} {H0 H : Hp} {v : V} {vs : List V} {ks : List Key} {xs ys : List OV} {σ : L2.St} {env : En} (c : At K A F0 H0 H F (v :: vs) (.n (.dic ks) xs :: ys) σ env) : ∃ a, v = .ref a ∧ IsD H a := by
  obtain ⟨a, ws, ex', rfl, hs, l, c4⟩ := c.opn
  exact ⟨a, rfl, .inl ⟨_, .inl hs.1⟩⟩
theorem se_dget (hu : X.A.units + 1 < cLine) (h : PE X o (tVar i)) (hk : SE X e tk) (hd : SE X f td) (m : M2 X o "get" apos e f cpos) : SE X (.Call (.Attribute o "get" apos) [e, f] [] cpos) (aDGet i tk td) := peTo (pe_dget2 hu h hk hd m) fun σ H Q ⟨A, F, env, R, c, h, k⟩ => by
  obtain ⟨h0, h⟩ := h
  split at h0
  · rename_i ks0 xs0 ex0
    obtain ⟨v, hv, c0⟩ := c.take ex0
    obtain ⟨a, rfl, isd⟩ := isD_of c0
    refine ⟨_, hv, a, rfl, isd, ev c h fun y e1 u H1 F1 h1 c1 => ev c1 h1 fun z e2 w H2 F2 h2 c2 => ?_⟩
    split at h2
    · rename_i ks xs ex
      split at h2
      · rename_i kk ek
        have eu : u = kV kk := by
          cases y with
          | d d => exact key_v c2.swap.dp ek
          | n _ _ => cases ek
        subst eu
        obtain ⟨v', hv', c3⟩ := c2.take ex
        rw [hv] at hv'
        cases hv'
        split at h2
        · rename_i j ej
          split at h2
          · rename_i d ed
            obtain ⟨a', ws, ex', e0, hs, l, c4⟩ := c3.opn
            cases e0
            obtain ⟨w', h3, c5⟩ := c4.pick l ed
            refine ⟨some w', ?_, k _ _ _ _ _ h2 (c2.pop.pop.push c5.dp)⟩
            have g := DGet.k (k := kk) hs.1
            rw [dix_val (α := Unit) hs.2.1, ej] at g
            simp only [Option.bind_some, h3] at g
            exact g
          · rename_i o' _ eo
            split at h2
            · rename_i d ed
              obtain ⟨a', ws, ex', w', F3, e0, hs, l, h3, dw, c4⟩ := c3.fixAt eo ed
              cases e0
              have c5 := (c4.push dw).swap.put hv
              rw [set_set'] at c5
              have c6 := At.app_comm (vs1 := [w']) (xs1 := [_]) (vs2 := [w, kV kk]) (xs2 := [z, y]) rfl c5
              refine ⟨some w', ?_, k _ _ _ _ _ h2 c6.pop.pop⟩
              have g := DGet.k (k := kk) hs.1
              rw [dix_val (α := Unit) hs.2.1, ej] at g
              simp only [Option.bind_some, h3] at g
              exact g
            · exact h2.elim
          · exact h2.elim
        · rename_i ej
          obtain ⟨a', ws, ex', e0, hs, l, c4⟩ := c3.opn
          cases e0
          refine ⟨none, ?_, k _ _ _ _ _ h2 c2.swap.pop⟩
          have g := DGet.k (k := kk) hs.1
          rw [dix_val (α := Unit) hs.2.1, ej] at g
          exact g
      · exact h2.elim
    · exact h2.elim
  · exact h0.elim
/-- of a dict just made -/
def aGetE (te tk td : AE) : AE := fun env Q => te env fun x e1 => match x with
  | .n (.dic ks) xs => tk e1 fun y e2 => td e2 fun z e3 => match keyO y with
    | some k => match dix ks k with
      | some j => match xs[j]? with
        | some o => Q o e3
        | none => False
      | none => Q z e3
    | none => False
  | _ => False
theorem se_getE (hu : X.A.units + 1 < cLine) (h : SE X o te) (hk : SE X e tk) (hd : SE X f td) (m : M2 X o "get" apos e f cpos) : SE X (.Call (.Attribute o "get" apos) [e, f] [] cpos) (aGetE te tk td) := peTo (pe_dget2 hu h hk hd m) fun σ H Q ⟨A, F, env, R, c, h, k⟩ => ev c h fun x e1 v H1 F1 h1 c1 => by
  split at h1
  · rename_i ks xs
    obtain ⟨a, rfl, isd⟩ := isD_of c1
    refine ⟨a, rfl, isd, ev c1 h1 fun y e2 u H2 F2 h2 c2 => ev c2 h2 fun z e3 w H3 F3 h3 c3 => ?_⟩
    split at h3
    · rename_i kk ek
      have eu : u = kV kk := by
        cases y with
        | d d => exact key_v c3.swap.dp ek
        | n _ _ => cases ek
      subst eu
      have c4 := At.app_comm (vs1 := [w, kV kk]) (xs1 := [z, y]) (vs2 := [.ref a]) (xs2 := [_]) rfl c3
      obtain ⟨a', ws, ex', e0, hs, l, c5⟩ := c4.opn
      cases e0
      have g := DGet.k (k := kk) hs.1
      rw [dix_val (α := Unit) hs.2.1] at g
      split at h3
      · rename_i j ej
        rw [ej] at g
        split at h3
        · rename_i o' eo
          obtain ⟨w', h4, c6⟩ := c5.pick l eo
          simp only [Option.bind_some, h4] at g
          refine ⟨some w', g, k _ _ _ _ F3 h3 ?_⟩
          have c7 := At.app_comm (vs1 := [w']) (xs1 := [_]) (vs2 := [w, kV kk]) (xs2 := [z, y]) rfl c6
          exact c7.pop.pop
        · exact h3.elim
      · rename_i ej
        rw [ej] at g
        exact ⟨none, g, k _ _ _ _ F3 h3 (c3.swap.pop.swap.pop)⟩
    · exact h3.elim
  · exact h1.elim
end
end Ow

/-! Dicts: d[k] = v, dict(d), displays; methods of a list within a list or a dict. -/
namespace Ow
open PySem L2 Grd PyProof.Rows
open Evl (Ex ex_t ex_l ex_rd)
/-- d[k] = v -/
def dput (ks : List Key) (xs : List OV) (k : Key) (x : OV) : OV := match dix ks k with
  | some j => .n (.dic ks) (xs.set j x)
  | none => .n (.dic (ks ++ [k])) (xs ++ [x])
def aDPut (i : Nat) (tv tk : AE) : AS := fun D env => tv env fun x e1 => (match e1[i]? with | some (some (.n (.dic _) _)) => True | _ => False) ∧ tk e1 fun y e2 => match e2[i]? with
  | some (some (.n (.dic ks) xs)) => match keyO y with
    | some k => (ks.Nodup ∧ xs.length < sizeLine) ∧ D.nx (e2.set i (some (dput ks xs k x)))
    | none => False
  | _ => False
theorem map_same {k : Key} {v : V} : ∀ {kvs : List (Key × V)}, k ∉ kvs.map Prod.fst → (kvs.map fun kv => if kv.1 = k then (kv.1, v) else kv) = kvs
  | [], _ => rfl
  | p :: r, h => by
    rw [List.map_cons, List.mem_cons, not_or] at h
    rw [List.map_cons, if_neg (fun z => h.1 z.symm), map_same h.2]
theorem map_dix {k : Key} {v : V} : ∀ {ks : List Key} {ws : List V} {j : Nat}, ks.Nodup → ks.length = ws.length → dix ks k = some j → ((ks.zip ws).map fun kv => if kv.1 = k then (kv.1, v) else kv) = ks.zip (ws.set j v)
  | [], [], j, _, _, h => by simp [dix] at h
  | q :: ks, w :: ws, j, nd, l, h => by
    obtain ⟨n1, n2⟩ := List.nodup_cons.mp nd
    unfold dix at h
    rw [List.findIdx?_cons] at h
    rw [List.zip_cons_cons, List.map_cons]
    by_cases e : q = k
    · simp only [e, decide_true, if_true, Option.some.injEq] at h
      subst h
      subst e
      rw [List.set_cons_zero, List.zip_cons_cons, if_pos rfl, map_same (by rw [List.map_fst_zip (by simp at l; omega)]; exact n1)]
    · simp only [e, decide_false, Bool.false_eq_true, if_false] at h
      obtain ⟨m, hm, rfl⟩ := Option.map_eq_some_iff.mp h
      rw [List.set_cons_succ, List.zip_cons_cons, if_neg e, map_dix n2 (by simpa using l) hm]
  | [], _ :: _, _, _, l, _ => by simp at l
  | _ :: _, [], _, _, l, _ => by simp at l
theorem putK_dix {ks : List Key} {ws : List V} {k : Key} {v : V} (nd : ks.Nodup) (l : ks.length = ws.length) : putK (ks.zip ws) k v = match dix ks k with
    | some j => ks.zip (ws.set j v)
    | none => (ks ++ [k]).zip (ws ++ [v]) := by
  have key := dix_val (α := Unit) (k := k) l
  cases e : dix ks k with
  | none =>
    rw [e] at key
    rw [putK_new v key, List.zip_append l]
    rfl
  | some j =>
    rw [e] at key
    obtain ⟨h1, h2⟩ := dix_lt e
    have lj : j < ws.length := by omega
    simp only [Option.bind_some, List.getElem?_eq_getElem lj] at key
    unfold putK
    rw [valV_any, key]
    simp only [Option.isSome_some, if_true]
    exact map_dix nd l e
section
variable {X : Cx} {pn : List (Nat × V)} {e o a b c f i' : Expr} {es : List Expr} {ta tb tc te td tk tv : AE} {tr : AA} {pos p p2 apos cpos : Pos} {i : Nat} {x : Str} {id T : String}
theorem ss_dput (hu : X.A.units + 1 < cLine) (he : SE X e tv) (ho : PE X o (tVar i)) (hi : SE X i' tk) (hs : swapsWithSole [.Subscript o i' p2] e pos.line X.env = pure false := by rfl) (hw : swappedStores [.Subscript o i' p2] e X.env = pure none := by rfl)
    (h1 : (assignEach [.Subscript o i' p2] X.env).map (·.2) = [assign (.Subscript o i' p2) X.env] := by rfl)
    (ha : ∀ v, assign (.Subscript o i' p2) X.env v = (do
      let ov ← holding [v] (eval o X.env)
      let iv ← holding [v, ov] (eval i' X.env)
      standAt p2
      holding [v, ov, iv] (setItem ov iv v)
      release [v, ov, iv] []) := by intro _; rfl) : SS X pn (.Assign [.Subscript o i' p2] e pos) (aDPut i tv tk) :=
  psTo (ps_asg he (pg_sub ho hi (set_dict hu) ha) hs hw h1) fun D σ H ⟨A, F, env, D', p, c, h, ed⟩ => ev c h fun x e1 v H1 F1 h1 c1 => by
    obtain ⟨h0, h1⟩ := h1
    split at h0
    · rename_i ks0 xs0 ex0
      obtain ⟨w, hw, c0⟩ := c1.take ex0
      obtain ⟨a, rfl, _⟩ := isD_of c0
      refine ⟨.ref a, hw, ev c1 h1 fun y e2 u H2 F2 h2 c2 => ?_⟩
      split at h2
      · rename_i ks xs ex
        split at h2
        · rename_i k ek
          have eu : u = kV k := by
            cases y with
            | d d => exact key_v c2.dp ek
            | n _ _ => cases ek
          subst eu
          obtain ⟨w', hw', c3⟩ := c2.pop.take ex
          rw [hw] at hw'
          cases hw'
          obtain ⟨⟨nd, lz⟩, h2⟩ := h2
          obtain ⟨ws, ex', ⟨hH, lk, rfl⟩, lw, lv, mk⟩ := c3.mut
          have zl : (ks.zip ws).length < sizeLine := by rw [List.length_zip]; omega
          refine ⟨a, _, rfl, DPut.k hH zl, ed.nx _ _ _ F2 h2 p ?_⟩
          rw [putK_dix nd lk]
          unfold dput
          cases ej : dix ks k with
          | none =>
            dsimp only
            have q := mk (.dic (ks ++ [k])) (.dK ((ks ++ [k]).zip (ws ++ [v]))) (ws.zip xs ++ [(v, x)]) [] [] ⟨by rw [upd_same]; simp [fsts, List.map_fst_zip (show ws.length ≤ xs.length by omega)], by simp [lk, lw], rfl⟩ (by simp)
            simp only [snds, List.map_append, List.map_snd_zip (show xs.length ≤ ws.length by omega), List.map_cons, List.map_nil] at q
            have c4 := q.put hw
            rw [set_set'] at c4
            exact c4
          | some j =>
            dsimp only
            obtain ⟨lj, _⟩ := dix_lt ej
            have hj : j < xs.length := by omega
            have hz : (ws.zip xs)[j]? = some (ws[j]'(by omega), xs[j]) := by
              rw [List.getElem?_zip_eq_some]
              exact ⟨List.getElem?_eq_getElem _, List.getElem?_eq_getElem _⟩
            have e1 : fsts ((ws.zip xs).set j (v, x)) = ws.set j v := by
              rw [show fsts ((ws.zip xs).set j (v, x)) = (fsts (ws.zip xs)).set j v from List.map_set, zip_v lw]
            have e2 : snds ((ws.zip xs).set j (v, x)) = xs.set j x := by
              rw [show snds ((ws.zip xs).set j (v, x)) = (snds (ws.zip xs)).set j x from List.map_set, zip_x lw]
            have hjz : j < (ws.zip xs).length := by rw [List.length_zip]; omega
            have q := mk (.dic ks) (.dK (ks.zip (ws.set j v))) ((ws.zip xs).set j (v, x)) [] [(ws[j]'(by omega), xs[j])] ⟨by rw [upd_same, e1], by rw [e1]; simp [lk], rfl⟩ (by
              simp only [List.append_nil, List.zip_cons_cons, List.zip_nil_right]
              have p1 := perm_at (l := (ws.zip xs).set j (v, x)) (j := j) (a := (v, x)) (by rw [List.getElem?_set_self hjz])
              have p2 := perm_at hz
              rw [List.eraseIdx_set_eq] at p1
              refine (List.Perm.append_right _ p1.symm).trans ?_
              refine List.Perm.trans ?_ (List.Perm.append_right _ p2)
              simp only [List.cons_append]
              refine (List.Perm.cons _ List.perm_append_comm).trans ?_
              simp only [List.cons_append, List.nil_append]
              refine (List.Perm.swap _ _ _).trans ?_
              exact List.Perm.cons _ (List.perm_append_comm (l₁ := [(v, x)])))
            rw [e2] at q
            have c4 := q.put hw
            rw [set_set'] at c4
            exact c4
        · exact h2.elim
      · exact h2.elim
    · exact h0.elim
/-! ### dict(d) of a name: all that is in it is data -/
def aDCopy (i : Nat) : AE := fun env Q => match env[i]? with
  | some (some (.n (.dic ks) xs)) => match dats xs with
    | some ds => Q (.n (.dic ks) (ds.map .d)) env
    | none => False
  | _ => False
theorem call_dcopy : CallR X (.type "dict") (fun vs H Q => ∃ a kvs, vs = [.ref a] ∧ H a = some (.dK kvs) ∧ ∀ p, H p = none → Q (.ref p) (upd H p (.dK kvs))) := by
  intro pins s σ H vs us Q I r h
  obtain ⟨a, kvs, rfl, ha, q⟩ := h
  rw [Vals.ref1 r]
  exact d_copyOf I (.inl ha) fun p s' hp I' => ⟨.ref p, _, I', rfl, q p hp⟩
theorem se_dcopy (h : PE X e (tVar i)) (hg : Gl X "dict") (hm : X.mg "dict" = none) (hs : starEach [e] X.env = [(false, eval e X.env)] := by rfl) (hpl : (backTo pos (starEach [] X.env)).any (·.1) = false := by rfl) :
    SE X (.Call (.Name "dict" p) [e] [] pos) (aDCopy i) :=
  peTo (pe_callTy (T := "dict") call_dcopy hg hm (by decide +kernel) (pa_cons h pa_nil hs) (by decide) (by decide) hs hpl) fun σ H Q ⟨A, F, env, R, c, h, k⟩ => by
    unfold aDCopy at h
    split at h
    · rename_i ks xs ex
      split at h
      · rename_i ds eds
        obtain ⟨v, hv, c1⟩ := c.take ex
        have e0 := dats_frzs eds
        subst e0
        obtain ⟨a, ws, ex', rfl, hs, l, c2⟩ := c1.opn
        obtain ⟨F2, c3, dp⟩ := At.fixs c2 l (frzs_map ds)
        refine ⟨_, hv, a, _, rfl, hs.1, fun p hp => ?_⟩
        obtain ⟨st, ⟨⟨b1, b2, g1, g2, nd, off⟩, fh⟩⟩ := c
        -- the data that stand in it
        have dpF : Dts X.K (rs H F) ws ds := by
          obtain ⟨_, ⟨⟨d1, d2, o1, o2, _, _⟩, _⟩⟩ := c2
          rw [List.append_nil, List.append_nil] at o1
          clear c3 dp
          have go : ∀ {ds : List PyData} {ws : List V} {as : List Addr}, Owns X.K H F ws (ds.map OV.d) as → Dts X.K (rs H F) ws ds := by
            intro ds
            induction ds with
            | nil => intro ws as o; cases o; exact .nil
            | cons d ds ih =>
              intro ws as o
              rw [List.map_cons] at o
              cases o with
              | cons h t => cases h with | d h => exact .cons h (ih t)
          exact go o1
        have c5 : At X.K A F H H F [] [] σ env := ⟨st, ⟨⟨b1, b2, g1, g2, nd, off⟩, fh⟩⟩
        have lw : (ds.map OV.d).length = ws.length := by rw [List.length_map]; exact dpF.len
        refine k _ _ _ _ F h ?_
        exact At.make (s := .dic ks) (by have := c5.pushs dpF; simpa using this) lw hp ⟨by rw [upd_same], hs.2.1, rfl⟩
      · exact h.elim
    · exact h.elim
/-! ### {} and displays -/
def aDNew : AE := fun env Q => Q (.n (.dic []) []) env
theorem se_dnew : SE X (.Dict [] [] pos) aDNew := peTo pe_dnewK fun σ H Q ⟨A, F, env, R, c, h, k⟩ p hp => k _ _ _ _ F h (At.make (us := []) (ys := []) (s := .dic []) c rfl hp ⟨by rw [upd_same]; rfl, rfl, rfl⟩)
def aPrs : List (AE × AE) → En → (List (Key × OV) → En → Prop) → Prop
  | [], e, Q => Q [] e
  | (tk, tv) :: r, e, Q => tk e fun y e1 => match keyO y with
    | some k => tv e1 fun x e2 => aPrs r e2 fun ps e3 => Q ((k, x) :: ps) e3
    | none => False
def aDisp (prs : List (AE × AE)) : AE := fun env Q => aPrs prs env fun ps e => ((ps.map Prod.fst).Nodup ∧ ps.length ≤ 15) ∧ Q (.n (.dic (ps.map Prod.fst)) (ps.map Prod.snd)) e
theorem evps {K : PySem.W.Frag} {A : Addr → Prop} {F0 : FS} {H0 : Hp} {σ : L2.St} : ∀ {prs : List (AE × AE)} {H : Hp} {F : FS} {vs : List V} {xs : List OV} {env : En} {R : List (Key × OV) → En → Prop} {Q : List (V × V) → Hp → Prop}, At K A F0 H0 H F vs xs σ env → aPrs prs env R →
    (∀ ps e (us : List V) H' F', R ps e → us.length = ps.length → At K A F0 H0 H' F' (us ++ vs) (ps.map Prod.snd ++ xs) σ e → Q (List.zipWith (fun (p : Key × OV) u => (kV p.1, u)) ps us) H') → tPairs (prs.map fun p => (LE K p.1, LE K p.2)) σ H Q
  | [], H, F, vs, xs, env, R, Q, c, h, k => k [] env [] H F h rfl c
  | (tk, tv) :: r, H, F, vs, xs, env, R, Q, c, h, k => ev c h fun y e1 u H1 F1 h1 c1 => by
    split at h1
    · rename_i kk ek
      have eu : u = kV kk := by
        cases y with
        | d d => exact key_v c1.dp ek
        | n _ _ => cases ek
      subst eu
      refine ev c1.pop h1 fun x e2 w H2 F2 h2 c2 => evps c2 h2 fun ps e3 us H3 F3 h3 l3 c3 => ?_
      refine k ((kk, x) :: ps) e3 (w :: us) H3 F3 h3 (by simp [l3]) ?_
      have c4 := At.front (by simp [l3]) c3
      exact c4
    · exact h1.elim
theorem merge_new : ∀ (more acc : List (Key × V)), ((acc ++ more).map Prod.fst).Nodup → mergeK acc more = acc ++ more
  | [], acc, _ => by simp [mergeK]
  | p :: r, acc, nd => by
    have hn : valV acc p.1 = none := by
      cases e : valV acc p.1 with
      | none => rfl
      | some v =>
        have m := valV_in e
        rw [List.map_append, List.map_cons] at nd
        exact absurd rfl ((List.nodup_append.mp nd).2.2 _ m _ List.mem_cons_self)
    show mergeK (putK acc p.1 p.2) r = _
    rw [putK_new p.2 hn, merge_new r (acc ++ [(p.1, p.2)]) (by simpa using nd)]
    simp
theorem se_disp {keys : List (Option Expr)} {values : List Expr} {prs : List (AE × AE)} (h : PPs X pos keys values (prs.map fun p => (LE X.K p.1, LE X.K p.2))) (hall : keys.all (·.isSome) = true := by rfl) (hl : keys.length = values.length := by rfl) (h0 : keys ≠ [] := by simp) (h15 : keys.length ≤ 15 := by decide) :
    SE X (.Dict keys values pos) (aDisp prs) := peTo (pe_disp h hall hl h0 h15) fun σ H Q ⟨A, F, env, R, c, h, k⟩ p hp => by
  have c0 := At.make (us := []) (ys := []) (s := .dic []) (o := .dK []) c rfl hp ⟨by rw [upd_same]; rfl, rfl, rfl⟩
  refine evps c0 h fun ps e us H2 F2 h2 l2 c2 => ?_
  have c3 := At.app_comm (by simp [l2]) c2
  have hH : H2 p = some (.dK []) := by
    obtain ⟨a', ws, ex', e0, hs, l, c4⟩ := At.opn c3
    cases e0
    cases ws with
    | nil => exact hs.1
    | cons _ _ => simp at l
  obtain ⟨⟨nd, l15⟩, h2⟩ := h2
  have zz : ∀ (ps : List (Key × OV)) (us : List V), us.length = ps.length → List.zipWith (fun (p : Key × OV) u => (kV p.1, u)) ps us = ((ps.map Prod.fst).zip us).map fun kv => (kV kv.1, kv.2) := by
    intro ps
    induction ps with
    | nil => intro us _; rfl
    | cons q ps ih =>
      intro us l
      cases us with
      | nil => simp at l
      | cons u us => simp [ih us (by simpa using l)]
  refine ⟨hH, (ps.map Prod.fst).zip us, zz ps us l2, by rw [List.length_zip]; simp [l2]; omega, k _ _ _ _ F2 h2 ?_⟩
  rw [merge_new _ [] (by rw [List.nil_append, List.map_fst_zip (by simp [l2])]; exact nd), List.nil_append]
  obtain ⟨ws, ex', hs, lw, lv, mk⟩ := At.mut c3
  have ew : ws = [] := List.eq_nil_of_length_eq_zero (by simpa using lw.symm)
  subst ew
  have ex0 : ex' = [] := hs.2.2
  subst ex0
  have q := mk (.dic (ps.map Prod.fst)) (.dK ((ps.map Prod.fst).zip us)) (us.zip (ps.map Prod.snd)) [] [] ⟨by rw [upd_same, zip_v (by simp [l2])], by rw [zip_v (by simp [l2])]; simp [l2], rfl⟩ (by simp)
  rw [zip_x (by simp [l2])] at q
  exact q
/-! ### a method of a list that stands within a list or a dict held by a name -/
def aMtK (i : Nat) (tk : AE) (mm : MM) (t : AA) : AE := fun env Q => (match env[i]? with | some (some _) => True | _ => False) ∧ tk env fun y e1 => match e1[i]? with
  | some (some (.n s xs)) => match kix s xs.length y with
    | some j => match xs[j]? with
      | some (.n .lst zs) => t (e1.set i none) fun args e2 => mm zs args fun z zs' => Q z (e2.set i (some (.n s (xs.set j (.n .lst zs')))))
      | _ => False
    | none => False
  | _ => False
theorem kix_plain {s : Sh} {n j : Nat} {y : OV} (h : kix s n y = some j) : s = .lst ∨ ∃ ks, s = .dic ks := by
  cases s with
  | lst => exact .inl rfl
  | dic ks => exact .inr ⟨ks, rfl⟩
  | tup => cases h
  | ins C ks => cases h
  | ext _ => cases h
theorem At.blocks {K : PySem.W.Frag} {A : Addr → Prop} {F0 F : FS} {H0 H : Hp} {σ : L2.St} {env : En} {v1 v2 v3 : List V} {x1 x2 x3 : List OV} (l1 : x1.length = v1.length) (l2 : x2.length = v2.length) (c : At K A F0 H0 H F (v1 ++ (v2 ++ v3)) (x1 ++ (x2 ++ x3)) σ env) : At K A F0 H0 H F (v2 ++ (v1 ++ v3)) (x2 ++ (x1 ++ x3)) σ env := by
  obtain ⟨st, ⟨⟨a1, a2, h1, h2, nd, off⟩, fh⟩⟩ := c
  obtain ⟨b1, b2, rfl, g1, g2⟩ := Owns.split l1 h1
  obtain ⟨d1, d2, rfl, g3, g4⟩ := Owns.split l2 g2
  have p : ((d1 ++ (b1 ++ d2)) ++ a2).Perm ((b1 ++ (d1 ++ d2)) ++ a2) := by
    refine List.Perm.append_right _ ?_
    rw [← List.append_assoc, ← List.append_assoc]
    exact List.Perm.append_right _ List.perm_append_comm
  exact ⟨st, ⟨⟨d1 ++ (b1 ++ d2), a2, g3.append (a1 := []) (a2 := []) (g1.append (a1 := []) (a2 := []) g4), h2, p.nodup_iff.mpr nd, fun z hz => off z (p.mem_iff.mp hz)⟩, fh⟩⟩
theorem mtK_core {r : V → List V → Hp → VK → Prop} {mm : MM} {K : PySem.W.Frag} {A : Addr → Prop} {F0 F : FS} {H0 H : Hp} {σ : L2.St} {e1 : En} {s : Sh} {xs zs : List OV} {j : Nat} {v : V} {t : AA} {R : OV → En → Prop} {Q : VK} (hl : MtL K r mm) (hv : σ[i]? = some (some v))
    (pl : s = .lst ∨ ∃ ks, s = .dic ks) (ez : xs[j]? = some (.n .lst zs)) (c : At K A F0 H0 H F [v] [.n s xs] σ (e1.set i none)) (ht : t (e1.set i none) fun args e2 => mm zs args fun z zs' => R z (e2.set i (some (.n s (xs.set j (.n .lst zs'))))))
    (k : ∀ z e w H' F', R z e → At K A F0 H0 H' F' [w] [z] σ e → Q w H') :
    ∃ a ws ex w, v = .ref a ∧ s.is H a ws ex ∧ xs.length = ws.length ∧ ws[j]? = some w ∧ tyV K "list" w H ∧ LA K t σ H fun us H2 => r w us H2 Q := by
  obtain ⟨a, ws0, ex0, rfl, hs0, l0, _⟩ := c.opn
  obtain ⟨ws, o, eo, hH, l, c1⟩ := c.split1 pl
  have ew0 : ws0 = ws := by
    rcases pl with rfl | ⟨ks, rfl⟩
    · cases eo; rw [hs0.1] at hH; cases hH; rfl
    · simp only [Sh.hd] at eo
      split at eo
      · rename_i lk
        cases eo
        rw [hs0.1] at hH
        have e := HO.dK.inj (Option.some.inj hH)
        have := congrArg (List.map Prod.snd) e
        have lk0 : ks.length = ws0.length := hs0.2.1
        rw [List.map_snd_zip (by omega), List.map_snd_zip (by omega)] at this
        exact this
      · cases eo
  subst ew0
  have c2 : At K A F0 H0 H F (ws0 ++ [.ref a]) (xs ++ [.n (.ext fun _ => o) []]) σ (e1.set i none) := by
    have q := At.blocks (v1 := [.ref a]) (x1 := [.n (.ext fun _ => o) []]) (v2 := ws0) (x2 := xs) (v3 := []) (x3 := []) rfl l0 c1
    simpa using q
  obtain ⟨w, hw, c3⟩ := At.pickKeep c2 l0 ez
  obtain ⟨b, zv, exb, rfl, hb, lb, _⟩ := c3.opn
  refine ⟨a, ws0, ex0, .ref b, rfl, hs0, l0, hw, .inl ⟨rfl, zv, .of hb.1⟩, evs c3 ht fun args e2 us H2 F2 h2 c4 => ?_⟩
  have la : args.length = us.length := by
    have := c4.cf.len
    have l5 := c3.cf.len
    simp only [List.length_append, List.length_cons, List.length_nil] at this l5
    omega
  have c5 : At K A F0 H0 H2 F2 ((.ref b :: us) ++ (ws0.eraseIdx j ++ [.ref a])) ((.n .lst zs :: args) ++ (xs.eraseIdx j ++ [.n (.ext fun _ => o) []])) σ e2 := At.front (vs1 := us) (xs1 := args) la c4
  have c5' := c5
  obtain ⟨st, ⟨⟨a1, a2, h1, h2', nd, off⟩, fh⟩⟩ := c5
  obtain ⟨b1, b2, rfl, g1, g2⟩ := Owns.split (by simp [la]) h1
  rw [List.append_assoc] at nd off
  refine hl.run (A := (· ∈ b1)) (F0 := F2) (H0 := H2) (σ := []) (env := []) ⟨.refl, ⟨⟨b1, [], g1, .nil, by simpa using (List.nodup_append.mp nd).1, fun x hx => ⟨(off x (List.mem_append_left _ (by simpa using hx))).1, .inl (by simpa using hx)⟩⟩, fh⟩⟩ h2 fun z zs' w' H' F' h3 c6 => ?_
  obtain ⟨s1, q⟩ := Cf.frame (σ' := []) (env' := []) g1 ⟨g2, h2'⟩ nd off fh c6.st c6.cf
  have c7 : At K A F0 H0 H' F' ([.ref b] ++ ([w'] ++ (ws0.eraseIdx j ++ [.ref a]))) ([.n .lst zs'] ++ ([z] ++ (xs.eraseIdx j ++ [.n (.ext fun _ => o) []]))) σ e2 := c5'.on s1 q
  have ll : (xs.eraseIdx j).length = (ws0.eraseIdx j).length := by
    have q := c7.cf.len
    simp at q
    exact q
  have c8 : At K A F0 H0 H' F' ([.ref b] ++ (ws0.eraseIdx j ++ ([.ref a] ++ [w']))) ([.n .lst zs'] ++ (xs.eraseIdx j ++ ([.n (.ext fun _ => o) []] ++ [z]))) σ e2 := by
    have q1 := At.blocks (v1 := [.ref b]) (x1 := [.n .lst zs']) (v2 := [w']) (x2 := [z]) rfl rfl c7
    have q2 := At.app_comm (vs1 := [w']) (xs1 := [z]) rfl q1
    simpa [List.append_assoc] using q2
  have c9 := At.swapIn (ws := ws0) (xs := xs) (vs := [.ref a] ++ [w']) (ys := [.n (.ext fun _ => o) []] ++ [z]) c8 l0 hw
  have c10 := At.blocks (v1 := ws0) (x1 := xs.set j (.n .lst zs')) (v2 := [.ref a]) (x2 := [.n (.ext fun _ => o) []]) (by simp [l0]) rfl c9
  have c11 := At.join1 (s := s) (ws := ws0) (vs := [w']) (xs := xs.set j (.n .lst zs')) (ys := [z]) c10 eo (by simp [l0])
  exact k _ _ _ _ F' h3 (c11.put hv)
theorem se_mtK {name : Str} {r : V → List V → Hp → VK → Prop} {mm : MM} (hu : X.A.units + 1 < cLine) (slot : Slot "list" name id) (hty : typeOf (.builtin id) = pure (.type "method_descriptor")) (hm : MtR X id r) (hl : MtL X.K r mm) (h : PE X o (tVar i)) (hk : SE X b tk) (hs' : PlainIx b) (ha : SA X (e :: es) tr)
    (hbase : attributeBase (.Subscript o b p2) name X.env (eval (.Subscript o b p2) X.env) = eval (.Subscript o b p2) X.env := by rfl)
    (hfew : ((backTo cpos (starEach (e :: es) X.env)).all (fun x => !x.1) && (backToKw cpos (keywordEach [] X.env)).all (fun x => x.1.isSome)
      && decide ((e :: es).length + ([] : List Keyword).length + (if ([] : List Keyword).isEmpty then 0 else 1) < 30)) = true := by rfl)
    (hline : (apos.endLine == cpos.line) = true := by rfl) (hs : starEach (e :: es) X.env = (false, eval e X.env) :: starEach es X.env := by rfl) (hplain : (backTo cpos (starEach es X.env)).any (·.1) = false := by rfl) :
    SE X (.Call (.Attribute (.Subscript o b p2) name apos) (e :: es) [] cpos) (aMtK i tk mm tr) :=
  peTo (pe_bm PySem.F.plainAttrs_list slot hty hm (pe_ix (ix_seq.or (ix_dk hu)) h hk hs') ha hbase hfew hline hs hplain) fun σ H Q ⟨A, F, env, R, c, h, k⟩ => by
    obtain ⟨h0, h⟩ := h
    obtain ⟨v, hv⟩ := getSome c h0
    refine ⟨v, hv, ev c h fun y e1 u H2 F2 h2 c2 => ?_⟩
    split at h2
    · rename_i s xs ex
      split at h2
      · rename_i j ej
        split at h2
        · rename_i zs ez
          obtain ⟨v', hv', c3⟩ := c2.pop.take ex
          rw [hv] at hv'
          cases hv'
          obtain ⟨a, ws, ex', w, rfl, hs, l, hw, ty, la⟩ := mtK_core hl hv (kix_plain ej) ez c3 h2 k
          exact kix_ix hs ej l c2 hw ⟨ty, la⟩
        · exact h2.elim
      · exact h2.elim
    · exact h2.elim
theorem se_mtK0 {name : Str} {r : V → List V → Hp → VK → Prop} {mm : MM} (hu : X.A.units + 1 < cLine) (slot : Slot "list" name id) (hty : typeOf (.builtin id) = pure (.type "method_descriptor")) (hm : MtR X id r) (hl : MtL X.K r mm) (h : PE X o (tVar i)) (hk : SE X b tk) (hs' : PlainIx b)
    (hbase : attributeBase (.Subscript o b p2) name X.env (eval (.Subscript o b p2) X.env) = eval (.Subscript o b p2) X.env := by rfl) (hline : (apos.endLine == cpos.line) = true := by rfl) :
    SE X (.Call (.Attribute (.Subscript o b p2) name apos) [] [] cpos) (aMtK i tk mm aNil) :=
  peTo (pe_bm0 PySem.F.plainAttrs_list slot hty hm (pe_ix (ix_seq.or (ix_dk hu)) h hk hs') hbase hline) fun σ H Q ⟨A, F, env, R, c, h, k⟩ => by
    obtain ⟨h0, h⟩ := h
    obtain ⟨v, hv⟩ := getSome c h0
    refine ⟨v, hv, ev c h fun y e1 u H2 F2 h2 c2 => ?_⟩
    split at h2
    · rename_i s xs ex
      split at h2
      · rename_i j ej
        split at h2
        · rename_i zs ez
          obtain ⟨v', hv', c3⟩ := c2.pop.take ex
          rw [hv] at hv'
          cases hv'
          obtain ⟨a, ws, ex', w, rfl, hs, l, hw, ty, la⟩ := mtK_core (t := aNil) hl hv (kix_plain ej) ez c3 h2 k
          refine kix_ix hs ej l c2 hw ⟨ty, ?_⟩
          obtain ⟨A', F', env', R', c', h', k'⟩ := la
          exact k' _ _ _ _ _ h' c'
        · exact h2.elim
      · exact h2.elim
    · exact h2.elim
end
end Ow

/-! Comprehensions of two fors. -/
namespace Ow
open PySem L2 Grd PyProof.Rows
open Evl (Ex ex_t ex_l ex_rd)
def lcI (tg : Tg) (tt : AT) (te : AE) (vs : List Nat) (Q : List OV → En → Prop) : List PyData → List OV → En → Prop
  | [], acc, e => Q acc e
  | d :: ds, acc, e => match tgSet tg (.d d) e with
    | some e1 => tt e1 fun b e2 => if b = true then te e2 fun y e3 => acc.length < sizeLine ∧ lcI tg tt te vs Q ds (acc ++ [y]) (wipeE e3 vs) else lcI tg tt te vs Q ds acc (wipeE e2 vs)
    | none => False
def lc2W (tg : Tg) (tt : AT) (it1 : AI) (tg1 : Tg) (tt1 : AT) (te : AE) (vs vs1 : List Nat) (Q : OV → En → Prop) : List PyData → List OV → En → Prop
  | [], acc, e => Q (.n .lst acc) e
  | d :: ds, acc, e => match tgSet tg (.d d) e with
    | some e1 => tt e1 fun b e2 => if b = true then it1 e2 fun ds1 e3 => lcI tg1 tt1 te vs1 (fun acc' e4 => lc2W tg tt it1 tg1 tt1 te vs vs1 Q ds acc' (wipeE e4 vs)) ds1 acc (wipeE e3 vs1) else lc2W tg tt it1 tg1 tt1 te vs vs1 Q ds acc (wipeE e2 vs)
    | none => False
def aLc2 (it : AI) (tg : Tg) (tt : AT) (it1 : AI) (tg1 : Tg) (tt1 : AT) (te : AE) (vs vs1 : List Nat) : AE := fun env Q => it env fun ds e => lc2W tg tt it1 tg1 tt1 te vs vs1 Q ds [] (wipeE e vs)
theorem eviF {K : PySem.W.Frag} {A : Addr → Prop} {F0 F : FS} {H0 H : Hp} {vs : List V} {xs : List OV} {σ : L2.St} {env : En} {t : AI} {R : List PyData → En → Prop} {Q : It → Hp → Prop} (c : At K A F0 H0 H F vs xs σ env) (h : t env R)
    (k : ∀ ds env' J H' F', R ds env' → At K A F0 H0 H' F' vs xs σ env' → Iter K H' F' J ds → Q J H') : LI K t σ H Q := by
  obtain ⟨a1, a2, h1, nd, off, c2⟩ := startE c
  refine ⟨_, F, env, R, c2, h, fun ds env' J H' F' r b i => k ds env' J H' F' r ?_ i⟩
  obtain ⟨s, z⟩ := frameE (vs' := []) (xs' := []) h1 nd off b.st b.cf
  exact c.on s z
theorem le_lc2 {K : PySem.W.Frag} {it it1 : AI} {g g1 : TG} {tg tg1 : Tg} {tt tt1 : AT} {te : AE} {vs vs1 : List Nat} (hG : Gt K g tg) (hsub : ∀ i ∈ tg.slots, i ∈ vs) (hG1 : Gt K g1 tg1) (hsub1 : ∀ i ∈ tg1.slots, i ∈ vs1) :
    ∀ σ H Q, LE K (aLc2 it tg tt it1 tg1 tt1 te vs vs1) σ H Q → tLc2 (LI K it) g (LT K tt) (LI K it1) g1 (LT K tt1) (LE K te) vs vs1 σ H Q :=
  fun σ H Q ⟨A, F, env, R, c, h, k⟩ => evi c h fun ds e1 J H1 F1 h1 c1 it0 => fun D hD => by
    let W : Nat → Nat → Hp → Prop := fun i m H' => m = ds.length - i ∧ i ≤ ds.length ∧ ∃ F' e0 acc, At K (nxt A H) F1 H1 H' F' [.ref D] [.n .lst acc] (wipe σ vs) (wipeE e0 vs) ∧ lc2W tg tt it1 tg1 tt1 te vs vs1 R (ds.drop i) acc (wipeE e0 vs)
    have c0 : At K (nxt A H) F1 H1 (upd H1 D (.lst [])) F1 [.ref D] [.n .lst []] (wipe σ vs) (wipeE e1 vs) := At.make (us := []) (ys := []) (s := .lst) (c1.re1.wipes vs) rfl hD ⟨upd_same, rfl⟩
    refine ⟨W, ⟨ds.length, by simp, Nat.zero_le _, F1, e1, [], c0, h1⟩, fun i m H2 w => ?_⟩
    obtain ⟨rfl, hi, F2, e2, acc, c2, h2⟩ := w
    obtain ⟨go, stop⟩ := it0.run c2.st.fr c2 i
    by_cases lt : i < ds.length
    · have hd : ds[i]? = some ds[i] := List.getElem?_eq_getElem lt
      obtain ⟨g1', g2'⟩ := go _ hd
      rw [List.drop_eq_getElem_cons lt] at h2
      refine .inr ⟨g1', W (i + 1) (ds.length - (i + 1)), fun H' w => ⟨_, by omega, w⟩, fun x H3 y => ?_⟩
      obtain ⟨F3, c3⟩ := g2' x H3 y
      unfold lc2W at h2
      split at h2
      · rename_i e3 q
        refine hG.run c3 q fun σ3 H3' F3' b c4 => ?_
        have ws : wipe σ3 vs = wipe σ vs := (wipe_but (b.mono hsub)).trans (wipe_but (but_wipe vs σ))
        refine ⟨ws, evt c4 h2 fun bo e4 H4 F4 h4 c5 => ?_⟩
        split
        · rename_i z
          rw [if_pos z] at h4
          refine eviF c5 h4 fun ds1 e5 J1 H5 F5 h5 c6 it1' => ?_
          let W1 : Nat → Nat → Hp → Prop := fun i1 m H' => m = ds1.length - i1 ∧ i1 ≤ ds1.length ∧ ∃ F' e0 acc, (At K (nxt A H) F1 H1 H' F' [.ref D] [.n .lst acc] (wipe σ3 vs1) (wipeE e0 vs1) ∧ Ex (rs H5 F5) (rs H' F')) ∧
            lcI tg1 tt1 te vs1 (fun acc' e4 => lc2W tg tt it1 tg1 tt1 te vs vs1 R (ds.drop (i + 1)) acc' (wipeE e4 vs)) (ds1.drop i1) acc (wipeE e0 vs1)
          refine ⟨W1, ⟨ds1.length, by simp, Nat.zero_le _, F5, e5, acc, ⟨c6.wipes vs1, Ex.refl _⟩, h5⟩, fun i1 m1 H6 w1 => ?_⟩
          obtain ⟨rfl, hi1, F6, e6, acc6, ⟨c7, ex7⟩, h6⟩ := w1
          obtain ⟨go1, stop1⟩ := it1'.run ex7 c7 i1
          by_cases lt1 : i1 < ds1.length
          · have hd1 : ds1[i1]? = some ds1[i1] := List.getElem?_eq_getElem lt1
            obtain ⟨p1, p2⟩ := go1 _ hd1
            rw [List.drop_eq_getElem_cons lt1] at h6
            refine .inr ⟨p1, W1 (i1 + 1) (ds1.length - (i1 + 1)), fun H' w => ⟨_, by omega, w⟩, fun x1 H7 y1 => ?_⟩
            -- what is fixed stays, from here on
            obtain ⟨_, p2r⟩ := (it1'.run ex7 c7.re1 i1).1 _ hd1
            obtain ⟨F7, c8⟩ := p2r x1 H7 y1
            have ex8 : Ex (rs H5 F5) (rs H7 F7) := ex7.trans c8.st.fr
            have c8' := c7.on c8.st c8.cf
            unfold lcI at h6
            split at h6
            · rename_i e7 q7
              refine hG1.run c8'.re1 q7 fun σ4 H8 F8 b4 c9 => ?_
              have ex9 : Ex (rs H5 F5) (rs H8 F8) := ex8.trans c9.st.fr
              have ws1 : wipe σ4 vs1 = wipe σ3 vs1 := (wipe_but (b4.mono hsub1)).trans (wipe_but (but_wipe vs1 σ3))
              refine ⟨ws1, evt c9.re1 h6 fun bo1 e8 H9 F9 h9 c10 => ?_⟩
              have ex10 : Ex (rs H5 F5) (rs H9 F9) := ex9.trans c10.st.fr
              have b10 := c8'.on (c9.on c10.st c10.cf).st (c9.on c10.st c10.cf).cf
              split
              · rename_i z1
                rw [if_pos z1] at h9
                refine ev b10.re1 h9 fun y e9 u H10 F10 h10 c11 => ?_
                have ex11 : Ex (rs H5 F5) (rs H10 F10) := ex10.trans c11.st.fr
                have b11 := b10.on c11.st c11.cf
                obtain ⟨accV, ex', ⟨hH, rfl⟩, lw, _, mk⟩ := b11.swap.mut
                obtain ⟨accV2, ex2, ⟨hH2, rfl⟩, lw2, _, mk2⟩ := b11.swap.re1.mut
                refine ⟨accV, hH, by rw [← lw]; exact h10.1, rfl, lt1, F10, e9, acc6 ++ [y], ?_, h10.2⟩
                have eq : accV2 = accV := by rw [hH] at hH2; cases hH2; rfl
                subst eq
                have q := mk .lst (.lst (accV2 ++ [u])) (accV2.zip acc6 ++ [(u, y)]) [] [] ⟨by rw [upd_same]; simp [fsts, List.map_fst_zip (show accV2.length ≤ acc6.length by omega)], rfl⟩ (by simp)
                have q2 := mk2 .lst (.lst (accV2 ++ [u])) (accV2.zip acc6 ++ [(u, y)]) [] [] ⟨by rw [upd_same]; simp [fsts, List.map_fst_zip (show accV2.length ≤ acc6.length by omega)], rfl⟩ (by simp)
                simp only [snds, List.map_append, List.map_snd_zip (show acc6.length ≤ accV2.length by omega), List.map_cons, List.map_nil] at q
                rw [← ws1]
                exact ⟨At.wipes q vs1, ex11.trans q2.st.fr⟩
              · rename_i z1
                rw [if_neg z1] at h9
                refine ⟨rfl, lt1, F9, e8, acc6, ⟨?_, ex10⟩, h9⟩
                rw [← ws1]
                exact At.wipes b10 vs1
            · exact h6.elim
          · have e : i1 = ds1.length := by omega
            subst e
            rw [List.drop_length] at h6
            refine .inl ⟨stop1 rfl, rfl, lt, F6, wipeE e6 vs1, acc6, ?_, h6⟩
            rw [← ws]
            exact At.wipes c7.unwipe vs
        · rename_i z
          rw [if_neg z] at h4
          refine ⟨rfl, lt, F4, e4, acc, ?_, h4⟩
          rw [← ws]
          exact At.wipes c5 vs
      · exact h2.elim
    · have e : i = ds.length := by omega
      subst e
      rw [List.drop_length] at h2
      have c3 := c2.unwipe
      exact .inl ⟨stop rfl, k _ _ _ _ _ h2 (c1.on c3.st c3.cf)⟩
section
variable {X : Cx} {pn : List (Nat × V)} {elt tg' iter tg1' iter1 : Expr} {ifs ifs1 : List Expr} {scope : Scope} {own : List (Str × Nat)} {vs1 : List Nat} {it it1 : AI} {g g1 : TG} {tg tg1 : Tg} {tt tt1 : AT} {te : AE} {pos : Pos}
theorem se_lc2 (hc : X.calm = true) (hN : X.N.Nodup) (hi : SI X tg' iter it) (ok : BlkOk X.N X.env.scope scope own) (hv : ∀ i ∈ vs1, i ∈ own.map (·.2)) (hG : Gt X.K g tg) (hsub : ∀ i ∈ tg.slots, i ∈ own.map (·.2)) (hG1 : Gt X.K g1 tg1) (hsub1 : ∀ i ∈ tg1.slots, i ∈ vs1)
    (hg : ∀ (s : Shared) (H : Hp) (C : Addr) (cl : List (Str × Addr)) (fp : List Addr), PG (X.blk s H scope (compEnvC scope cl C X.env) fp) tg' g) (ht : ∀ (s : Shared) (H : Hp) (C : Addr) (cl : List (Str × Addr)) (fp : List Addr), STs (X.blk s H scope (compEnvC scope cl C X.env) fp) ifs tt)
    (hi1 : ∀ (s : Shared) (H : Hp) (C : Addr) (cl : List (Str × Addr)) (fp : List Addr), SI (X.blk s H scope (compEnvC scope cl C X.env) fp) tg1' iter1 it1)
    (hg1 : ∀ (s : Shared) (H : Hp) (C : Addr) (cl : List (Str × Addr)) (fp : List Addr), PG (X.blk s H scope (compEnvC scope cl C X.env) fp) tg1' g1) (ht1 : ∀ (s : Shared) (H : Hp) (C : Addr) (cl : List (Str × Addr)) (fp : List Addr), STs (X.blk s H scope (compEnvC scope cl C X.env) fp) ifs1 tt1)
    (he : ∀ (s : Shared) (H : Hp) (C : Addr) (cl : List (Str × Addr)) (fp : List Addr), SE (X.blk s H scope (compEnvC scope cl C X.env) fp) elt te) (hs : ∀ x, foldedSetIterable iter X.env x = pure x := by intro _; rfl) (hs1 : ∀ env x, foldedSetIterable iter1 env x = pure x := by intro _ _; rfl) :
    SE X (.ListComp elt [⟨tg', iter, ifs, 0⟩, ⟨tg1', iter1, ifs1, 0⟩] scope pos) (aLc2 it tg tt it1 tg1 tt1 te (own.map (·.2)) vs1) :=
  peTo (pe_lc2 (tt := LT X.K tt) (tt1 := LT X.K tt1) (wi1 := LI X.K it1) (te := LE X.K te) hc hN hi ok hv hg ht hi1 hg1 ht1 he hs hs1) (le_lc2 hG hsub hG1 hsub1)
theorem ss_setLc2 {i : Nat} {y : Str} {py spos : Pos} (hc : X.calm = true) (hN : X.N.Nodup) (hy : X.N[i]? = some y) (hyl : X.env.scope.names.lookup y = some .local)
    (hsw : swapsWith (.ListComp elt [⟨tg', iter, ifs, 0⟩, ⟨tg1', iter1, ifs1, 0⟩] scope pos) (some (.Name y py)) spos.line X.env = pure true) (hi : SI X tg' iter it) (ok : BlkOk X.N X.env.scope scope own) (hv : ∀ i ∈ vs1, i ∈ own.map (·.2)) (hG : Gt X.K g tg) (hsub : ∀ i ∈ tg.slots, i ∈ own.map (·.2)) (hG1 : Gt X.K g1 tg1) (hsub1 : ∀ i ∈ tg1.slots, i ∈ vs1) (hp : ∀ p ∈ pn, p.1 ≠ i)
    (hg : ∀ (s : Shared) (H : Hp) (C : Addr) (cl : List (Str × Addr)) (fp : List Addr), PG (X.blk s H scope (compEnvC scope cl C X.env) fp) tg' g) (ht : ∀ (s : Shared) (H : Hp) (C : Addr) (cl : List (Str × Addr)) (fp : List Addr), STs (X.blk s H scope (compEnvC scope cl C X.env) fp) ifs tt)
    (hi1 : ∀ (s : Shared) (H : Hp) (C : Addr) (cl : List (Str × Addr)) (fp : List Addr), SI (X.blk s H scope (compEnvC scope cl C X.env) fp) tg1' iter1 it1)
    (hg1 : ∀ (s : Shared) (H : Hp) (C : Addr) (cl : List (Str × Addr)) (fp : List Addr), PG (X.blk s H scope (compEnvC scope cl C X.env) fp) tg1' g1) (ht1 : ∀ (s : Shared) (H : Hp) (C : Addr) (cl : List (Str × Addr)) (fp : List Addr), STs (X.blk s H scope (compEnvC scope cl C X.env) fp) ifs1 tt1)
    (he : ∀ (s : Shared) (H : Hp) (C : Addr) (cl : List (Str × Addr)) (fp : List Addr), SE (X.blk s H scope (compEnvC scope cl C X.env) fp) elt te) (hs : ∀ x, foldedSetIterable iter X.env x = pure x := by intro _; rfl) (hs1 : ∀ env x, foldedSetIterable iter1 env x = pure x := by intro _ _; rfl) :
    SS X pn (.Assign [.Name y py] (.ListComp elt [⟨tg', iter, ifs, 0⟩, ⟨tg1', iter1, ifs1, 0⟩] scope pos) spos) (aAsg (aLc2 it tg tt it1 tg1 tt1 te (own.map (·.2)) vs1) (.n i)) :=
  psTo (ps_setLc2 (tt := LT X.K tt) (tt1 := LT X.K tt1) (wi1 := LI X.K it1) (te := LE X.K te) hc hN hy hyl hsw hi ok hv hg ht hi1 hg1 ht1 he hs hs1) fun D σ H ⟨A, F, env, D', p, c, h, ed⟩ => le_lc2 hG hsub hG1 hsub1 _ _ _ (ev c h fun x e1 v H1 F1 h1 c1 => by
    split at h1
    · rename_i e2 q
      exact (gt_name i).run c1 q fun σ' H' F' b c2 => ed.nx _ _ _ _ h1 (p.but b fun p hp' => by simpa [Tg.slots] using hp p hp') c2
    · exact h1.elim)
end
end Ow

/-! The later meanings, where they are applied; how they are gone through. -/
namespace Ow
open PySem L2 Grd PyProof.Rows
theorem e_aIxK (i : Nat) (tb : AE) (env : En) (Q : OV → En → Prop) : aIxK i tb env Q = ((match env[i]? with | some (some _) => True | _ => False) ∧ tb env fun y e => match e[i]? with
  | some (some (.d x)) => oIx (.d x) y fun z => Q z e
  | some (some (.n s xs)) => match kix s xs.length y with
    | some j => match xs[j]? with
      | some (.d d) => Q (.d d) e
      | some o => match frz o with
        | some d => Q (.d d) (e.set i (some (.n s (xs.set j (.d d)))))
        | none => False
      | none => False
    | none => False
  | _ => False) := rfl
theorem e_aDGet (i : Nat) (tk td : AE) (env : En) (Q : OV → En → Prop) : aDGet i tk td env Q = ((match env[i]? with | some (some (.n (.dic _) _)) => True | _ => False) ∧ tk env fun y e1 => td e1 fun z e2 => match e2[i]? with
  | some (some (.n (.dic ks) xs)) => match keyO y with
    | some k => match dix ks k with
      | some j => match xs[j]? with
        | some (.d d) => Q (.d d) e2
        | some o => match frz o with
          | some d => Q (.d d) (e2.set i (some (.n (.dic ks) (xs.set j (.d d)))))
          | none => False
        | none => False
      | none => Q z e2
    | none => False
  | _ => False) := rfl
theorem e_aGetE (te tk td : AE) (env : En) (Q : OV → En → Prop) : aGetE te tk td env Q = (te env fun x e1 => match x with
  | .n (.dic ks) xs => tk e1 fun y e2 => td e2 fun z e3 => match keyO y with
    | some k => match dix ks k with
      | some j => match xs[j]? with
        | some o => Q o e3
        | none => False
      | none => Q z e3
    | none => False
  | _ => False) := rfl
theorem e_aDPut (i : Nat) (tv tk : AE) (D : AD) (env : En) : aDPut i tv tk D env = (tv env fun x e1 => (match e1[i]? with | some (some (.n (.dic _) _)) => True | _ => False) ∧ tk e1 fun y e2 => match e2[i]? with
  | some (some (.n (.dic ks) xs)) => match keyO y with
    | some k => (ks.Nodup ∧ xs.length < sizeLine) ∧ D.nx (e2.set i (some (dput ks xs k x)))
    | none => False
  | _ => False) := rfl
theorem e_aDCopy (i : Nat) (env : En) (Q : OV → En → Prop) : aDCopy i env Q = (match env[i]? with
  | some (some (.n (.dic ks) xs)) => match dats xs with
    | some ds => Q (.n (.dic ks) (ds.map .d)) env
    | none => False
  | _ => False) := rfl
theorem e_aDNew (env : En) (Q : OV → En → Prop) : aDNew env Q = Q (.n (.dic []) []) env := rfl
theorem e_aDisp (prs : List (AE × AE)) (env : En) (Q : OV → En → Prop) : aDisp prs env Q = (aPrs prs env fun ps e => ((ps.map Prod.fst).Nodup ∧ ps.length ≤ 15) ∧ Q (.n (.dic (ps.map Prod.fst)) (ps.map Prod.snd)) e) := rfl
theorem e_aPrs0 (e : En) (Q : List (Key × OV) → En → Prop) : aPrs [] e Q = Q [] e := rfl
theorem e_aPrs1 (tk tv : AE) (r : List (AE × AE)) (e : En) (Q : List (Key × OV) → En → Prop) : aPrs ((tk, tv) :: r) e Q = (tk e fun y e1 => match keyO y with
    | some k => tv e1 fun x e2 => aPrs r e2 fun ps e3 => Q ((k, x) :: ps) e3
    | none => False) := rfl
theorem e_aListZip (ta tb : AE) (env : En) (Q : OV → En → Prop) : aListZip ta tb env Q = (ta env fun x e1 => tb e1 fun y e2 => match sfd x, sfd y with
  | some xs, some ys => xs.length ≤ sizeLine ∧ Q (.n .lst ((zipD xs ys).map .d)) e2
  | _, _ => False) := rfl
theorem e_aSortedSc (it : AI) (tg : Tg) (tt : AT) (te : AE) (vs : List Nat) (env : En) (Q : OV → En → Prop) : aSortedSc it tg tt te vs env Q = (it env fun ds e => scW tg tt te vs (fun l e2 => ∀ ss : List Str, ss.Perm l → sortedS ss = true → Q (.n .lst ((ss.map PyData.str).map .d)) e2) ds [] (wipeE e vs)) := rfl
theorem e_aSortedSet (te : AE) (env : En) (Q : OV → En → Prop) : aSortedSet te env Q = (te env fun x e => match lst x with
  | some ss => ss.length < 4000 ∧ ∀ us : List Str, us.Nodup → (∀ x, x ∈ us ↔ x ∈ ss) → sortedS us = true → Q (.n .lst ((us.map PyData.str).map .d)) e
  | none => False) := rfl
theorem e_aLc2 (it : AI) (tg : Tg) (tt : AT) (it1 : AI) (tg1 : Tg) (tt1 : AT) (te : AE) (vs vs1 : List Nat) (env : En) (Q : OV → En → Prop) : aLc2 it tg tt it1 tg1 tt1 te vs vs1 env Q = (it env fun ds e => lc2W tg tt it1 tg1 tt1 te vs vs1 Q ds [] (wipeE e vs)) := rfl
theorem e_aMtK (i : Nat) (tk : AE) (mm : MM) (t : AA) (env : En) (Q : OV → En → Prop) : aMtK i tk mm t env Q = ((match env[i]? with | some (some _) => True | _ => False) ∧ tk env fun y e1 => match e1[i]? with
  | some (some (.n s xs)) => match kix s xs.length y with
    | some j => match xs[j]? with
      | some (.n .lst zs) => t (e1.set i none) fun args e2 => mm zs args fun z zs' => Q z (e2.set i (some (.n s (xs.set j (.n .lst zs')))))
      | _ => False
    | none => False
  | _ => False) := rfl
theorem kix_l (n : Nat) (k : Int) : kix .lst n (.d (.int k)) = ixN n k := rfl
theorem kix_d (ks : List Key) (n : Nat) (y : OV) : kix (.dic ks) n y = (keyO y).bind (dix ks) := rfl
theorem keyO_s (x : Str) : keyO (.d (.str x)) = some (.inr x) := rfl
theorem keyO_i (x : Int) : keyO (.d (.int x)) = some (.inl x) := rfl
/-- a set of texts told by a for, of data that are texts -/
theorem sc_texts {tg : Tg} {tt : AT} {te : AE} {vs : List Nat} {Q : List Str → En → Prop} {e0 : En} (step : ∀ (s : Str) (lim : Prop) (K : Option Str → En → Prop), lim → K (some s) e0 →
      match tgSet tg (.d (.str s)) e0 with
      | some e1 => tt e1 fun b e2 => if b = true then te e2 fun y e3 => (match y with | .d (.str z) => lim ∧ K (some z) (wipeE e3 vs) | _ => False) else K none (wipeE e2 vs)
      | none => False) : ∀ (ss acc : List Str), acc.Nodup → acc.length + ss.length < 4000 → (∀ l, l.Nodup → (∀ x, x ∈ l ↔ x ∈ acc ∨ x ∈ ss) → Q l e0) → scW tg tt te vs Q (ss.map PyData.str) acc e0
  | [], acc, nd, hl, q => q acc nd fun x => by simp
  | s :: ss, acc, nd, hl, q => by
    have g := step s (acc.length + 1 < scanBound) (fun o e => match o with | some z => scW tg tt te vs Q (ss.map PyData.str) (addT acc z) e | none => scW tg tt te vs Q (ss.map PyData.str) acc e) (by have : scanBound = 4096 := rfl; simp at hl; omega) (sc_texts step ss (addT acc s) (addT_nodup nd s) (by have := addT_len acc s; simp at hl; omega) fun l ln lm => q l ln fun x => by
      rw [lm x, addT_mem, List.mem_cons]
      constructor
      · rintro ((h | h) | h)
        · exact .inl h
        · exact .inr (.inl h)
        · exact .inr (.inr h)
      · rintro (h | h | h)
        · exact .inl (.inl h)
        · exact .inl (.inr h)
        · exact .inr h)
    exact g
/-- two fors, where nothing else is changed: ws d tells what is gone through for d, f d what comes of it -/
theorem lcI_run {tg : Tg} {tt : AT} {te : AE} {vs : List Nat} {Q : List OV → En → Prop} (f : PyData → Option OV) (e0 : En) : ∀ (ds : List PyData) (acc : List OV),
    (∀ d ∈ ds, ∀ (lim : Prop) (K : Option OV → En → Prop), lim → K (f d) e0 →
      match tgSet tg (.d d) e0 with
      | some e1 => tt e1 fun b e2 => if b = true then te e2 fun y e3 => lim ∧ K (some y) (wipeE e3 vs) else K none (wipeE e2 vs)
      | none => False) → acc.length + ds.length ≤ sizeLine → Q (acc ++ ds.filterMap f) e0 → lcI tg tt te vs Q ds acc e0
  | [], acc, _, _, q => by simpa [lcI] using q
  | d :: ds, acc, st, hl, q => by
    simp only [List.length_cons] at hl
    have g := st d (by simp) (acc.length < sizeLine) (fun o e => match o with | some y => lcI tg tt te vs Q ds (acc ++ [y]) e | none => lcI tg tt te vs Q ds acc e) (by omega) (by
      cases ef : f d with
      | none => exact lcI_run f e0 ds acc (fun d hd => st d (by simp [hd])) (by omega) (by simpa [ef] using q)
      | some y => exact lcI_run f e0 ds (acc ++ [y]) (fun d hd => st d (by simp [hd])) (by simp; omega) (by simpa [ef] using q))
    exact g
theorem nodup_len : ∀ {l m : List Str}, l.Nodup → (∀ x ∈ l, x ∈ m) → l.length ≤ m.length
  | [], m, _, _ => Nat.zero_le _
  | x :: l, m, nd, sub => by
    obtain ⟨n1, n2⟩ := List.nodup_cons.mp nd
    have hx := sub x List.mem_cons_self
    have p := List.perm_cons_erase hx
    have le := p.length_eq
    have ih := nodup_len (m := m.erase x) n2 fun y hy => (List.mem_erase_of_ne (fun (e : y = x) => n1 (e ▸ hy))).mpr (sub y (List.mem_cons_of_mem _ hy))
    simp only [List.length_cons] at le ⊢
    omega
end Ow

/-! the first place in a list, of data -/
namespace Ow
open PySem L2 Grd
def fIndex (a b : PyData) (k : PyData → Prop) : Prop := match a with
  | .list ds => (SeqAt.shaped (.list ds) = true ∧ SeqAt.shaped b = true) ∧ ∃ (j : Nat) (z : PyData), ds[j]? = some z ∧ PyData.eqv z b = true ∧ (∀ (m : Nat) (z' : PyData), m < j → ds[m]? = some z' → PyData.eqv z' b = false) ∧ k (.int (j : Nat))
  | _ => False
section
variable {X : Cx} {K : PySem.W.Frag} {o e : Expr} {ta te : AE} {apos cpos : Pos}
theorem op2_index : Op2 K (fun x y H Q => rIndexD K x [y] H Q) (o2 fIndex) :=
  Op2.scal fun hx hy o k => by
    unfold fIndex at o
    split at o
    · obtain ⟨⟨s1, s2⟩, j, z, h1, h2, h3, h4⟩ := o
      have dx := hx.dp
      cases hx with
      | lst a b => exact ⟨_, _, _, _, j, z, rfl, rfl, dx, hy.dp, s1, s2, h1, h2, h3, k _ _ h4 fun _ => .int _⟩
    · exact o.elim
/-- a list, made or fixed -/
def aLs (ta : AE) : AE := fun env Q => ta env fun x e1 => (match lel x with | some _ => Q x e1 | none => False)
theorem se_index (hu : X.A.units + 65 < cLine) (ho : SE X o ta) (he : SE X e te) (hbase : attributeBase o "index" X.env (eval o X.env) = eval o X.env := by rfl)
    (hfew : ((backTo cpos (starEach [e] X.env)).all (fun x => !x.1) && (backToKw cpos (keywordEach [] X.env)).all (fun x => x.1.isSome)
      && decide ([e].length + ([] : List Keyword).length + (if ([] : List Keyword).isEmpty then 0 else 1) < 30)) = true := by rfl)
    (hline : (apos.endLine == cpos.line) = true := by rfl) (hs : starEach [e] X.env = (false, eval e X.env) :: starEach [] X.env := by rfl) (hplain : (backTo cpos (starEach [] X.env)).any (·.1) = false := by rfl) :
    SE X (.Call (.Attribute o "index" apos) [e] [] cpos) (a2 (o2 fIndex) (aLs ta) te) :=
  peTo (pe_bm PySem.F.plainAttrs_list PySem.F.slot_list_index PySem.F.type_list_index (mt_indexD hu) ho (sa_cons he sa_nil hs) hbase hfew hline hs hplain) fun σ H Q ⟨A, F, env, R, c, h, k⟩ => ev c h fun x e1 v H1 F1 h1 c1 => by
    split at h1
    · rename_i xs ex
      obtain ⟨a, ws, rfl, hl, l, c2⟩ := c1.lel ex
      refine ⟨.inl ⟨rfl, ws, .of hl⟩, ?_⟩
      refine evs (t := aCons te aNil) (R := fun ys e2 => match ys with | [y] => o2 fIndex x y (fun z => R z e2) | _ => False) c1 h1 fun ys e2 us H2 F2 h2 c3 => ?_
      split at h2
      · rename_i y
        have len : us.length = 1 := by
          have := c3.cf.len
          simp at this
          omega
        obtain ⟨u, rfl⟩ : ∃ u, us = [u] := List.length_eq_one_iff.mp len
        exact op2_index.run c3 h2 fun z w H4 F4 h4 c4 => k _ _ _ _ _ h4 c4
      · exact h2.elim
    · exact h1.elim
/-- a statement that is never come to; an expression likewise -/
def aNever : AS := fun _ _ => False
def aNo : AE := fun _ _ => False
theorem ss_never {pn : List (Nat × V)} {st : Stmt} : SS X pn st aNever := ⟨fun pins s σ H D I ⟨A, F, env, D', p, c, h, ed⟩ => h.elim⟩
theorem se_no : SE X e aNo := ⟨fun pins s σ H Q I ⟨A, F, env, R, c, h, k⟩ => h.elim⟩
theorem e_aLs (ta : AE) (env : En) (Q : OV → En → Prop) : aLs ta env Q = (ta env fun x e1 => (match lel x with | some _ => Q x e1 | none => False)) := rfl
theorem e_aNever (D : AD) (env : En) : aNever D env = False := rfl
end
end Ow

/-! == of data one of which is not deep -/
namespace Ow
open PySem L2 Grd PyProof.Rows
def fEqM (neg : Bool) (a b : PyData) (k : PyData → Prop) : Prop := (a.canLay0 = true ∧ b.canLay0 = true ∧ min a.depth b.depth ≤ 64) ∧ k (.bool (if neg then !PyData.eqv a b else PyData.eqv a b))
section
variable {X : Cx} {K : PySem.W.Frag}
theorem op_eqM (hu : X.A.units + 64 < cLine) : OpR X (compareOp .Eq) (fun x y H Q => ∃ d e, Dp X.K H x d ∧ Dp X.K H y e ∧ (d.canLay0 = true ∧ e.canLay0 = true ∧ min d.depth e.depth ≤ 64) ∧ Q (.bl (PyData.eqv d e)) H) := by
  intro pins s σ H x y v u Q I rx ry h
  obtain ⟨d, e, hd, he, ⟨sd, se, m⟩, q⟩ := h
  obtain ⟨as, r1⟩ := Dp.reads I d x v hd rx
  obtain ⟨bs, r2⟩ := Dp.reads I e y u he ry
  exact SeqAt.compareEq_reads r1 r2 sd se (by omega) ⟨.bl _, H, I, rfl, q⟩
theorem op_neM (hu : X.A.units + 64 < cLine) : OpR X (compareOp .NotEq) (fun x y H Q => ∃ d e, Dp X.K H x d ∧ Dp X.K H y e ∧ (d.canLay0 = true ∧ e.canLay0 = true ∧ min d.depth e.depth ≤ 64) ∧ Q (.bl (!PyData.eqv d e)) H) := by
  intro pins s σ H x y v u Q I rx ry h
  obtain ⟨d, e, hd, he, ⟨sd, se, m⟩, q⟩ := h
  obtain ⟨as, r1⟩ := Dp.reads I d x v hd rx
  obtain ⟨bs, r2⟩ := Dp.reads I e y u he ry
  exact SeqAt.compareNe_reads r1 r2 sd se (by omega) ⟨.bl _, H, I, rfl, q⟩
theorem op2_eqM : Op2 K (fun x y H Q => ∃ d e, Dp K H x d ∧ Dp K H y e ∧ (d.canLay0 = true ∧ e.canLay0 = true ∧ min d.depth e.depth ≤ 64) ∧ Q (.bl (PyData.eqv d e)) H) (o2 (fEqM false)) :=
  Op2.scal fun hx hy o k => by
    obtain ⟨o1, o2⟩ := o
    rw [if_neg Bool.false_ne_true] at o2
    exact ⟨_, _, hx.dp, hy.dp, o1, k _ _ o2 fun _ => .bl _⟩
theorem op2_neM : Op2 K (fun x y H Q => ∃ d e, Dp K H x d ∧ Dp K H y e ∧ (d.canLay0 = true ∧ e.canLay0 = true ∧ min d.depth e.depth ≤ 64) ∧ Q (.bl (!PyData.eqv d e)) H) (o2 (fEqM true)) :=
  Op2.scal fun hx hy o k => by
    obtain ⟨o1, o2⟩ := o
    rw [if_pos rfl] at o2
    exact ⟨_, _, hx.dp, hy.dp, o1, k _ _ o2 fun _ => .bl _⟩
theorem c_eqM (hu : X.A.units + 64 < cLine) : Cmp X .Eq (fEqM false) := ⟨_, op_eqM hu, op2_eqM⟩
theorem c_neM (hu : X.A.units + 64 < cLine) : Cmp X .NotEq (fEqM true) := ⟨_, op_neM hu, op2_neM⟩
end
end Ow

local macro_rules | `(tactic| simp_arith [$ls,*]) => `(tactic| simp (config := { failIfUnchanged := false }) only [↓Ow.e_aAsg, ↓Ow.e_aRet, ↓Ow.e_aRetN, ↓Ow.e_aDrop, ↓Ow.e_aPass, ↓Ow.e_aBrk, ↓Ow.e_aCnt, ↓Ow.e_aPut, ↓Ow.e_aPar, ↓Ow.e_aFor, ↓Ow.e_aTst, ↓Ow.e_aAnd, ↓Ow.e_aOr, ↓Ow.e_aNot, ↓Ow.e_aIf, ↓Ow.e_aIfT, ↓Ow.e_aAndV, ↓Ow.e_aOrV, ↓Ow.e_aChain, ↓Ow.e_aYes, ↓Ow.e_aC, ↓Ow.e_aName, ↓Ow.e_aMove, ↓Ow.e_aIxN, ↓Ow.e_aLenN, ↓Ow.e_aAddN, ↓Ow.e_aMt, ↓Ow.e_a2, ↓Ow.e_a1, ↓Ow.e_aCB, ↓Ow.e_aNil, ↓Ow.e_aCons, ↓Ow.e_aLst, ↓Ow.e_aTup, ↓Ow.e_aSl, ↓Ow.e_aNoP, ↓Ow.e_aPart, ↓Ow.e_aTxt, ↓Ow.e_aCall, ↓Ow.e_aRn, ↓Ow.e_aRv, ↓Ow.e_aRs, Ow.tkA, Ow.ptA, ↓Ow.e_aLc, ↓Ow.e_aOver, ↓Ow.e_aRng, ↓Ow.e_aEnum, ↓Ow.e_aZip2, ↓Ow.e_aIxK, ↓Ow.e_aDGet, ↓Ow.e_aGetE, ↓Ow.e_aDPut, ↓Ow.e_aDCopy, ↓Ow.e_aDNew, ↓Ow.e_aDisp, ↓Ow.e_aPrs0, ↓Ow.e_aPrs1, ↓Ow.e_aListZip, ↓Ow.e_aSortedSc, ↓Ow.e_aSortedSet, ↓Ow.e_aLc2, ↓Ow.e_aMtK, Ow.kix_l, Ow.kix_d, Ow.keyO_s, Ow.keyO_i, Ow.o2_d, Ow.o1_d, Ow.o2, Ow.o1, Ow.fAdd, Ow.fInt, Ow.fNot, Ow.fNeg, Ow.fEq, Ow.fIs, Ow.fIn, Ow.fOrd, Ow.fMul, Ow.oAdd, Ow.oMulA, Ow.oLen, Ow.oLen1, Ow.oAbs, Ow.oInt, Ow.oMax2, Ow.oMin2, Ow.oIx, Ow.ixO, Ow.oSl, Ow.oIsi, Ow.isOf, Ow.tgSet_n, Ow.tgSet_t, Ow.tgSet_st, Ow.tgSets_nil, Ow.tgSets_cons, Ow.dats_nil, Ow.dats_d, Ow.dats_n, Ow.mkT, Ow.lel, Ow.sel, Ow.frz_d, Ow.frzs_map, Ow.frz_lst, Ow.frzs_cons, Ow.frzs_nil, Ow.frz_l, Ow.frz_t, Option.map_some, Option.map_none, Option.bind_some, Option.bind_none, List.getElem?_cons_zero, List.getElem?_cons_succ, List.getElem?_nil, List.set_cons_zero, List.set_cons_succ, List.length_cons, List.length_nil, List.length_set, Ow.beg_def, List.map_cons, List.map_nil, List.replicate, List.cons_append, List.nil_append, List.append_nil, Nat.sub_self, Nat.reduceSub, Nat.reduceAdd, Nat.reduceLT, Nat.reduceLeDiff, Nat.add_zero, Nat.zero_add, if_true, if_false, true_and, and_true, false_and, and_false, reduceIte, Bool.false_eq_true, reduceCtorEq, Ow.wipeE, Ow.retD_rt, Ow.retD_nx, Ow.finA, List.take, List.drop, decide_eq_true_eq, Ow.lit0, Ow.lit1, Ow.lit2, Ow.lit3, Ow.lit4, Ow.at0, Ow.at1, Ow.at2, Ow.at3, Ow.at4, Ow.cut_t2, Ow.cut_t3, Ow.cut_t4, Ow.cut_f1, Ow.cut_f3, Ow.cut_f4, Ow.mAppend, Ow.mExtend, Ow.mClear, Ow.mInsert, List.any_cons, List.any_nil, Bool.or_false, Bool.or_true, Bool.true_or, Bool.false_or, Ow.fEqM, $ls,*])

namespace K45
open PySem L2 Grd Ow PyProof.Rows
def c_ANSWERERS : PyData := .tuple [.str "handle", .str "under"]
def k_SHAPES : List (Str × PyData) := [("num", .str "n"), ("name", .str "x"), ("fun", .str "xT"), ("rec", .str "xxT"), ("call", .str "TT"), ("let", .str "xTT"), ("op", .str "oTT"), ("if", .str "TTT"), ("two", .str "TT"), ("first", .str "T"), ("second", .str "T"), ("ask", .str "xT"), ("askof", .str "xxT"), ("past", .str "xT"), ("pastof", .str "xT"), ("ward", .str "TT")]
def c_LETTERS : PyData := .str "abcdefghijklmnopqrstuvwxyz"
/-- is_whole: 0 thing, 1 least, 2 most -/
def t_p_is_whole : AS :=
  (aRet (aAndV (a1 (oIsi [.int]) (aName 0)) (aAndV (a1 (o1 fNot) (a1 (oIsi [.bool]) (aName 0))) (aChain fLe fLe (aName 1) (aName 0) (aName 2)))))
/-- inner_of: 0 term, 1 word, 2 rest, 3 clause, 4 mark, 5 one -/
def t_p_inner_of : AS :=
  (aSeq (aAsg (aName 0) (.st [(.n 1)] 2))
    (aSeq (aIfS (aTst (a2 (o2 (fIn false)) (aName 1) (aC c_ANSWERERS))) (aRet (a2 oAdd (aLst (aCons (aIxN 2 (aC (.int 1))) (aCons (a2 oIx (aIxN 2 (aC (.int 2))) (aC (.int 1))) aNil))) (aLc (aOver (aIxN 2 (aC (.int 3)))) (.n 3) aYes (aIxN 3 (aC (.int 4))) [3]))) aPass)
    (aRet (aLc (aZip2 (a1 (oKd k_SHAPES) (aName 1)) (aName 2)) (.t [(.n 4), (.n 5)]) (aTst (a2 (o2 (fEq false)) (aName 4) (aC (.str "T")))) (aName 5) [4, 5]))))
/-- with_inner: 0 term, 1 some, 2 word, 3 rest, 4 first, 5 told, 6 others, 7 clauses, 8 left, 9 clause, 10 one, 11 mark -/
def t_p_with_inner : AS :=
  (aSeq (aAsg (aName 0) (.st [(.n 2)] 3))
    (aSeq (aIfS (aTst (a2 (o2 (fIn false)) (aName 2) (aC c_ANSWERERS))) (aSeq (aAsg (aName 1) (.st [(.n 4), (.n 5)] 6))
    (aSeq (aAsg (aCB oTuple (aCons (aLc (aZip2 (aIxN 3 (aC (.int 3))) (aName 6)) (.t [(.n 9), (.n 10)]) aYes (a2 oAdd (aSl (aName 9) aNoP (aPart (aC (.int 4)))) (aTup (aCons (aName 10) aNil))) [9, 10]) aNil)) (.n 7))
    (aRet (aTup (aCons (aName 2) (aCons (aIxN 3 (aC (.int 0))) (aCons (aName 4) (aCons (aTup (aCons (a2 oIx (aIxN 3 (aC (.int 2))) (aC (.int 0))) (aCons (aName 5) aNil))) (aCons (aName 7) aNil))))))))) aPass)
    (aSeq (aAsg (aCB oList (aCons (aName 1) aNil)) (.n 8))
    (aRet (a2 oAdd (aTup (aCons (aName 2) aNil)) (aCB oTuple (aCons (aLc (aZip2 (a1 (oKd k_SHAPES) (aName 2)) (aName 3)) (.t [(.n 11), (.n 10)]) aYes (aIf (aTst (a2 (o2 (fEq false)) (aName 11) (aC (.str "T")))) (aMt 8 mPopAt (aCons (aC (.int 0)) aNil)) (aName 10)) [11, 10]) aNil)))))))
/-- names_within: 0 term, 1 word, 2 rest, 3 clause, 4 one -/
def t_p_names_within (C_p_inner_of : AC) : AS :=
  (aSeq (aAsg (aName 0) (.st [(.n 1)] 2))
    (aSeq (aIfS (aTst (a2 (o2 (fEq false)) (aName 1) (aC (.str "fun")))) (aRet (aLst (aCons (aTup (aCons (aIxN 2 (aC (.int 0))) aNil)) aNil))) aPass)
    (aSeq (aIfS (aTst (a2 (o2 (fEq false)) (aName 1) (aC (.str "rec")))) (aRet (aLst (aCons (aTup (aCons (aIxN 2 (aC (.int 0))) (aCons (aIxN 2 (aC (.int 1))) aNil))) aNil))) aPass)
    (aSeq (aIfS (aTst (a2 (o2 (fEq false)) (aName 1) (aC (.str "let")))) (aRet (aLst (aCons (aTup aNil) (aCons (aTup (aCons (aIxN 2 (aC (.int 0))) aNil)) aNil)))) aPass)
    (aSeq (aIfS (aTst (a2 (o2 (fIn false)) (aName 1) (aC c_ANSWERERS))) (aRet (a2 oAdd (aLst (aCons (aTup aNil) (aCons (aTup (aCons (a2 oIx (aIxN 2 (aC (.int 2))) (aC (.int 0))) aNil)) aNil))) (aLc (aOver (aIxN 2 (aC (.int 3)))) (.n 3) aYes (aSl (aName 3) (aPart (aC (.int 2))) (aPart (a2 oAdd (aC (.int 3)) (aCB oInt (aCons (a2 (o2 (fEq false)) (aIxN 3 (aC (.int 1))) (aC (.str "many"))) aNil))))) [3]))) aPass)
    (aRet (aLc (aOver (aCall C_p_inner_of (aRs 0 aRn))) (.n 4) aYes (aTup aNil) [4])))))))
/-- places_of: 0 term, 1 found, 2 number, 3 one, 4 place -/
def t_p_places_of (C_p_inner_of C_p_places_of : AC) : AS :=
  (aSeq (aAsg (aLst (aCons (aTup aNil) aNil)) (.n 1))
    (aSeq (aFor (aEnum (aCall C_p_inner_of (aRs 0 aRn))) (.t [(.n 2), (.n 3)]) (aDrop (aMt 1 mExtend (aCons (aLc (aOver (aCall C_p_places_of (aRs 3 aRn))) (.n 4) aYes (a2 oAdd (aTup (aCons (aName 2) aNil)) (aName 4)) [4]) aNil))))
    (aRet (aMove 1))))
/-- part_at: 0 term, 1 place, 2 found, 3 number, 4 some -/
def t_p_part_at (C_p_inner_of C_p_is_whole : AC) : AS :=
  (aSeq (aAsg (aName 0) (.n 2))
    (aSeq (aFor (aOver (aName 1)) (.n 3) (aSeq (aAsg (aCall C_p_inner_of (aRs 2 aRn)) (.n 4))
    (aSeq (aIfS (aNot (aTst (aCall C_p_is_whole (aRs 3 (aRv (aC (.int 0)) (aRv (a2 oSub (aLenN 4) (aC (.int 1))) aRn)))))) aNever aPass)
    (aAsg (aIxN 4 (aName 3)) (.n 2)))))
    (aRet (aMove 2))))
/-- names_free: 0 term, 1 own, 2 within, 3 further, 4 one, 5 names, 6 name -/
def t_p_names_free (C_p_inner_of C_p_names_within C_p_names_free : AC) : AS :=
  (aSeq (aAsg (aIf (aTst (a2 (o2 (fEq false)) (aIxN 0 (aC (.int 0))) (aC (.str "name")))) (aLst (aCons (aIxN 0 (aC (.int 1))) aNil)) (aLst aNil)) (.n 1))
    (aSeq (aAsg (aListZip (aCall C_p_inner_of (aRs 0 aRn)) (aCall C_p_names_within (aRs 0 aRn))) (.n 2))
    (aSeq (aAsg (aLc2 (aOver (aName 2)) (.t [(.n 4), (.n 5)]) aYes (aOver (aCall C_p_names_free (aRs 4 aRn))) (.n 6) (aTst (a2 (o2 (fIn true)) (aName 6) (aName 5))) (aName 6) [4, 5, 6] [6]) (.n 3))
    (aRet (aSortedSc (aOver (a2 oAdd (aName 1) (aName 3))) (.n 6) aYes (aName 6) [6])))))
/-- kept_names: 0 one, 1 other -/
def t_p_kept_names : AS :=
  (aRet (a2 oAdd (aLc (aOver (aC c_LETTERS)) (.n 0) aYes (a2 oAdd (aC (.str "k")) (aName 0)) [0]) (aLc2 (aOver (aC c_LETTERS)) (.n 0) aYes (aOver (aC c_LETTERS)) (.n 1) aYes (a2 oAdd (a2 oAdd (aC (.str "k")) (aName 0)) (aName 1)) [0, 1] [1])))
/-- slow_clause: 0 clause, 1 deed, 2 how, 3 name, 4 kept, 5 answer, 6 taken, 7 called, 8 one -/
def t_p_slow_clause (C_p_names_free C_p_kept_names : AC) : AS :=
  (aSeq (aAsg (aName 0) (.t [(.n 1), (.n 2), (.n 3), (.n 4), (.n 5)]))
    (aSeq (aIfS (aTst (a2 (o2 (fEq true)) (aName 2) (aC (.str "quick")))) (aRet (aName 0)) aPass)
    (aSeq (aAsg (a2 oAdd (aCall C_p_names_free (aRs 5 aRn)) (aLst (aCons (aName 3) aNil))) (.n 6))
    (aSeq (aAsg (a2 oIx (aLc (aOver (aCall C_p_kept_names aRn)) (.n 8) (aTst (a2 (o2 (fIn true)) (aName 8) (aName 6))) (aName 8) [8]) (aC (.int 0))) (.n 7))
    (aRet (aTup (aCons (aName 1) (aCons (aC (.str "many")) (aCons (aName 3) (aCons (aName 7) (aCons (aTup (aCons (aC (.str "call")) (aCons (aTup (aCons (aC (.str "name")) (aCons (aName 7) aNil))) (aCons (aName 5) aNil)))) aNil)))))))))))
/-- is_last_call: 0 clause, 1 deed, 2 how, 3 name, 4 kept, 5 answer -/
def t_p_is_last_call (C_p_names_free : AC) : AS :=
  (aSeq (aAsg (aName 0) (.t [(.n 1), (.n 2), (.n 3), (.n 4), (.n 5)]))
    (aSeq (aIfS (aOr (aTst (a2 (o2 (fEq true)) (aName 2) (aC (.str "many")))) (aOr (aTst (a2 (o2 (fEq true)) (aIxN 5 (aC (.int 0))) (aC (.str "call")))) (aTst (a2 (o2 (fEqM true)) (aIxN 5 (aC (.int 1))) (aTup (aCons (aC (.str "name")) (aCons (aName 4) aNil))))))) (aRet (aC (.bool false))) aPass)
    (aRet (a2 (o2 (fIn true)) (aName 4) (aCall C_p_names_free (aRv (aIxN 5 (aC (.int 2))) aRn))))))
/-- quick_clause: 0 clause, 1 deed, 2 how, 3 name, 4 kept, 5 answer -/
def t_p_quick_clause (C_p_is_last_call : AC) : AS :=
  (aSeq (aAsg (aName 0) (.t [(.n 1), (.n 2), (.n 3), (.n 4), (.n 5)]))
    (aRet (aIf (aTst (aCall C_p_is_last_call (aRs 0 aRn))) (aTup (aCons (aName 1) (aCons (aC (.str "quick")) (aCons (aName 3) (aCons (aC (.str "")) (aCons (aIxN 5 (aC (.int 2))) aNil)))))) (aName 0))))
/-- slowed: 0 term, 1 found, 2 one, 3 clause -/
def t_p_slowed (C_p_with_inner C_p_inner_of C_p_slowed C_p_slow_clause : AC) : AS :=
  (aSeq (aAsg (aCall C_p_with_inner (aRs 0 (aRv (aLc (aOver (aCall C_p_inner_of (aRs 0 aRn))) (.n 2) aYes (aCall C_p_slowed (aRs 2 aRn)) [2]) aRn))) (.n 1))
    (aSeq (aIfS (aTst (a2 (o2 (fIn true)) (aIxN 1 (aC (.int 0))) (aC c_ANSWERERS))) (aRet (aMove 1)) aPass)
    (aRet (a2 oAdd (aSl (aName 1) aNoP (aPart (aC (.int 4)))) (aTup (aCons (aCB oTuple (aCons (aLc (aOver (aIxN 1 (aC (.int 4)))) (.n 3) aYes (aCall C_p_slow_clause (aRs 3 aRn)) [3]) aNil)) aNil))))))
/-- quickened: 0 term, 1 found, 2 one, 3 clause -/
def t_p_quickened (C_p_with_inner C_p_inner_of C_p_quickened C_p_quick_clause : AC) : AS :=
  (aSeq (aAsg (aCall C_p_with_inner (aRs 0 (aRv (aLc (aOver (aCall C_p_inner_of (aRs 0 aRn))) (.n 2) aYes (aCall C_p_quickened (aRs 2 aRn)) [2]) aRn))) (.n 1))
    (aSeq (aIfS (aOr (aTst (a2 (o2 (fIn true)) (aIxN 1 (aC (.int 0))) (aC c_ANSWERERS))) (aAnd (aTst (a2 (o2 (fEq false)) (aIxN 1 (aC (.int 1))) (aC (.str "shallow")))) (aTst (a2 (o2 (fEq false)) (aIxN 1 (aC (.int 0))) (aC (.str "handle")))))) (aRet (aMove 1)) aPass)
    (aRet (a2 oAdd (aSl (aName 1) aNoP (aPart (aC (.int 4)))) (aTup (aCons (aCB oTuple (aCons (aLc (aOver (aIxN 1 (aC (.int 4)))) (.n 3) aYes (aCall C_p_quick_clause (aRs 3 aRn)) [3]) aNil)) aNil))))))
/-- quick_ones: 0 term, 1 found, 2 place, 3 one, 4 clauses, 5 clause -/
def t_p_quick_ones (C_p_places_of C_p_part_at : AC) : AS :=
  (aSeq (aAsg (aLst aNil) (.n 1))
    (aSeq (aFor (aOver (aCall C_p_places_of (aRs 0 aRn))) (.n 2) (aSeq (aAsg (aCall C_p_part_at (aRs 0 (aRs 2 aRn))) (.n 3))
    (aSeq (aAsg (aIf (aTst (a2 (o2 (fIn false)) (aIxN 3 (aC (.int 0))) (aC c_ANSWERERS))) (aIxN 3 (aC (.int 4))) (aTup aNil)) (.n 4))
    (aDrop (aMt 1 mExtend (aCons (aLc (aOver (aName 4)) (.n 5) (aTst (a2 (o2 (fEq false)) (aIxN 5 (aC (.int 1))) (aC (.str "quick")))) (aTup (aCons (aName 2) (aCons (aIxN 5 (aC (.int 0))) aNil))) [5]) aNil))))))
    (aRet (aMove 1))))
/-- _law_dip: 0 _law_script, 1 _law_k, 2 _law_cell -/
def t_dip : AS :=
  (aSeq (aAsg (aIf (aTst (a2 (o2 fLt) (aName 1) (aLenN 0))) (aIxN 0 (aName 1)) (aC (.int 0))) (.n 2))
    (aRet (aLst (aCons (a2 oMulA (aCB oAbs (aCons (aName 2) aNil)) (aCB oInt (aCons (a2 (o2 fGe) (aCB oAbs (aCons (aName 2) aNil)) (a2 oPow (aC (.int 10)) (aC (.int 18)))) aNil))) (aCons (a2 oAdd (a2 oAdd (a2 oMod (aName 2) (aC (.int 2305843009213693951))) (a2 oMulA (aC (.int 39373)) (aName 1))) (aC (.int 17))) (aCons (aC (.int 0)) aNil))))))
/-- _law_take: 0 _law_box, 1 _law_many, 2 _law_found, 3 _law_once, 4 _law_twice -/
def t_take : AS :=
  (aSeq (aIfS (aTst (a2 (o2 fGt) (aIxN 0 (aC (.int 0))) (aC (.int 0)))) (aSeq (aAsg (a2 oMod (aIxN 0 (aC (.int 0))) (aName 1)) (.n 2))
    (aSeq (aPut 0 (a2 oDiv (aIxN 0 (aC (.int 0))) (aName 1)) (aC (.int 0)))
    (aRet (aMove 2)))) aPass)
    (aSeq (aPut 0 (a2 oAdd (aIxN 0 (aC (.int 2))) (aC (.int 1))) (aC (.int 2)))
    (aSeq (aAsg (a2 oMod (a2 oPow (a2 oAdd (aIxN 0 (aC (.int 1))) (a2 oMulA (aC (.int 39373)) (aIxN 0 (aC (.int 2))))) (aC (.int 5))) (aC (.int 2147483647))) (.n 3))
    (aSeq (aAsg (a2 oMod (a2 oMulA (a2 oAdd (a2 oAdd (aName 3) (aIxN 0 (aC (.int 2)))) (a2 oDiv (aIxN 0 (aC (.int 1))) (aC (.int 1000003)))) (a2 oAdd (a2 oAdd (a2 oMod (aName 3) (aC (.int 40009))) (aC (.int 7))) (aIxN 0 (aC (.int 2))))) (aC (.int 2147483629))) (.n 4))
    (aRet (a2 oMod (a2 oDiv (a2 oMod (a2 oAdd (a2 oMulA (aName 4) (aC (.int 48271))) (aName 3)) (aC (.int 2147483587))) (aC (.int 64))) (aName 1)))))))
/-- _law_folded: 0 _law_script, 1 _law_size, 2 _law_cells, 3 _law_k, 4 _law_cell -/
def t_folded : AS :=
  (aSeq (aAsg (aCB oList (aCons (aSl (aName 0) aNoP (aPart (aName 1))) aNil)) (.n 2))
    (aSeq (aFor (aEnum (aSl (aName 0) (aPart (aName 1)) (aPart (aC (.int 63))))) (.t [(.n 3), (.n 4)]) (aPut 2 (a2 oAdd (aIxN 2 (a2 oMod (aName 3) (aName 1))) (a2 oMulA (aName 4) (a2 oAdd (aName 3) (aC (.int 2))))) (a2 oMod (aName 3) (aName 1))))
    (aRet (aMove 2))))
/-- _law_one_of: 0 _law_box, 1 _law_some -/
def t_one_of (C_take : AC) : AS :=
  (aRet (aIxN 1 (aCall C_take (aRs 0 (aRv (aLenN 1) aRn)))))
/-- _law_strewn: 0 _law_box, 1 _law_some, 2 _law_found, 3 _law_one -/
def t_strewn (C_take : AC) : AS :=
  (aSeq (aAsg (aLst aNil) (.n 2))
    (aSeq (aFor (aOver (aName 1)) (.n 3) (aDrop (aMt 2 mInsert (aCons (aCall C_take (aRs 0 (aRv (a2 oAdd (aLenN 2) (aC (.int 1))) aRn))) (aCons (aName 3) aNil)))))
    (aRet (aMove 2))))
/-- _law_keywords: 0 _law_found -/
def t_keywords : AS :=
  (aSeq (aAsg (aC (.str "fun rec call let plus less times below if two first second ask askof past pastof deep shallow under")) (.n 0))
    (aRet (a2 oSplit (aTxt (a2 oAdd (aName 0) (aC (.str " many quick end ward number pair")))) (aC (.str " ")))))
/-- _law_named: 0 _law_box, 1 _law_many, 2 _law_letters, 3 _law_found, 4 _law_k, 5 _law_one, 6 _law_turn -/
def t_named (C_take C_keywords : AC) : AS :=
  (aSeq (aAsg (aTup (aCons (aC (.str "abcdefghijklmnopqrstuvwxyz")) (aCons (aLst aNil) aNil))) (.t [(.n 2), (.n 3)]))
    (aSeq (aFor (aRng (aName 1)) (.n 4) (aSeq (aAsg (a2 oJoin (aTxt (aC (.str ""))) (aLc (aRng (a2 oIx (aLst (aCons (aC (.int 1)) (aCons (aC (.int 2)) (aCons (aC (.int 3)) (aCons (aC (.int 6)) aNil))))) (aCall C_take (aRs 0 (aRv (aC (.int 4)) aRn))))) (.n 6) aYes (aIxN 2 (aCall C_take (aRs 0 (aRv (aC (.int 26)) aRn)))) [6])) (.n 5))
    (aSeq (aFor (aRng (a2 oAdd (aLenN 3) (aC (.int 26)))) (.n 6) (aIfS (aTst (a2 (o2 (fIn false)) (aName 5) (aAddN 3 (aCall C_keywords aRn)))) (aAsg (a2 oAdd (a2 oAdd (aSl (aName 5) aNoP (aPart (aC (.int 4)))) (aIxN 2 (a2 oDiv (aName 6) (aC (.int 26))))) (aIxN 2 (a2 oMod (aName 6) (aC (.int 26))))) (.n 5)) aPass))
    (aDrop (aMt 3 mAppend (aCons (aName 5) aNil))))))
    (aRet (aMove 3))))
/-- _law_any: 0 _law_box, 1 _law_names, 2 _law_hs, 3 _law_deeds, 4 _law_room, 5 _law_way, 6 _law_some, 7 _law_name, 8 _law_other, 9 _law_part, 10 _law_deed, 11 _law_one, 12 _law_two, 13 _law_word, 14 _law_h -/
def t_any (C_take C_one_of C_any C_any_answerer : AC) : AS :=
  (aSeq (aAsg (aCall C_take (aRs 0 (aRv (aC (.int 18)) aRn))) (.n 5))
    (aSeq (aIfS (aOr (aTst (a2 (o2 fLt) (aName 4) (aC (.int 2)))) (aTst (a2 (o2 (fEq false)) (aName 5) (aC (.int 0))))) (aSeq (aAsg (a2 oAdd (aLst (aCons (aTup (aCons (aC (.str "num")) (aCons (aCall C_take (aRs 0 (aRv (aC (.int 4)) aRn))) aNil))) aNil)) (a2 oMulA (aLc (aOver (aName 1)) (.n 7) aYes (aTup (aCons (aC (.str "name")) (aCons (aName 7) aNil))) [7]) (aC (.int 2)))) (.n 6))
    (aRet (aCall C_one_of (aRs 0 (aRs 6 aRn))))) aPass)
    (aSeq (aPar [7, 8] (aCons (aCall C_one_of (aRs 0 (aRv (aC (.str "abcd")) aRn))) (aCons (aCall C_one_of (aRs 0 (aRv (aC (.str "efgh")) aRn))) aNil)))
    (aSeq (aAsg (aTup (aCons (a2 oDiv (a2 oSub (aName 4) (aC (.int 1))) (aC (.int 2))) (aCons (aCall C_one_of (aRs 0 (aRs 3 aRn))) aNil))) (.t [(.n 9), (.n 10)]))
    (aSeq (aIfS (aTst (a2 (o2 fLt) (aName 5) (aC (.int 3)))) (aRet (aTup (aCons (aC (.str "fun")) (aCons (aName 7) (aCons (aCall C_any (aRs 0 (aRv (a2 oAdd (aName 1) (aLst (aCons (aName 7) aNil))) (aRs 2 (aRs 3 (aRv (a2 oDiv (a2 oMulA (aName 4) (aC (.int 3))) (aC (.int 4))) aRn)))))) aNil))))) aPass)
    (aSeq (aIfS (aTst (a2 (o2 (fEq false)) (aName 5) (aC (.int 3)))) (aRet (aTup (aCons (aC (.str "rec")) (aCons (aName 8) (aCons (aName 7) (aCons (aCall C_any (aRs 0 (aRv (a2 oAdd (aName 1) (aLst (aCons (aName 7) (aCons (aName 8) aNil)))) (aRs 2 (aRs 3 (aRv (a2 oDiv (a2 oMulA (aName 4) (aC (.int 3))) (aC (.int 4))) aRn)))))) aNil)))))) aPass)
    (aSeq (aAsg (aCall C_any (aRs 0 (aRs 1 (aRs 2 (aRs 3 (aRs 9 aRn)))))) (.n 11))
    (aSeq (aIfS (aTst (a2 (o2 fLt) (aName 5) (aC (.int 7)))) (aRet (aTup (aCons (aC (.str "call")) (aCons (aName 11) (aCons (aCall C_any (aRs 0 (aRs 1 (aRs 2 (aRs 3 (aRs 9 aRn)))))) aNil))))) aPass)
    (aSeq (aIfS (aTst (a2 (o2 (fEq false)) (aName 5) (aC (.int 7)))) (aRet (aTup (aCons (aC (.str "let")) (aCons (aName 7) (aCons (aName 11) (aCons (aCall C_any (aRs 0 (aRv (a2 oAdd (aName 1) (aLst (aCons (aName 7) aNil))) (aRs 2 (aRs 3 (aRs 9 aRn)))))) aNil)))))) aPass)
    (aSeq (aIfS (aTst (a2 (o2 fLt) (aName 5) (aC (.int 10)))) (aSeq (aPar [12, 13] (aCons (aCall C_any (aRs 0 (aRs 1 (aRs 2 (aRs 3 (aRs 9 aRn)))))) (aCons (aCall C_one_of (aRs 0 (aRv (aLst (aCons (aC (.str "plus")) (aCons (aC (.str "less")) (aCons (aC (.str "times")) (aCons (aC (.str "below")) aNil))))) aRn))) aNil)))
    (aRet (aIf (aTst (a2 (o2 (fEq false)) (aName 5) (aC (.int 8)))) (aTup (aCons (aC (.str "two")) (aCons (aName 11) (aCons (aName 12) aNil)))) (aTup (aCons (aC (.str "op")) (aCons (aName 13) (aCons (aName 11) (aCons (aName 12) aNil)))))))) aPass)
    (aSeq (aIfS (aTst (a2 (o2 (fEq false)) (aName 5) (aC (.int 10)))) (aRet (aTup (aCons (aC (.str "if")) (aCons (aName 11) (aCons (aCall C_any (aRs 0 (aRs 1 (aRs 2 (aRs 3 (aRv (a2 oDiv (aName 9) (aC (.int 2))) aRn)))))) (aCons (aCall C_any (aRs 0 (aRs 1 (aRs 2 (aRs 3 (aRv (a2 oDiv (aName 9) (aC (.int 2))) aRn)))))) aNil)))))) aPass)
    (aSeq (aIfS (aTst (a2 (o2 fLt) (aName 5) (aC (.int 14)))) (aSeq (aAsg (aLst (aCons (aTup (aCons (aC (.str "first")) (aCons (aName 11) aNil))) (aCons (aTup (aCons (aC (.str "second")) (aCons (aName 11) aNil))) (aCons (aTup (aCons (aC (.str "ask")) (aCons (aName 10) (aCons (aName 11) aNil)))) (aCons (aTup (aCons (aC (.str "ask")) (aCons (aName 10) (aCons (aName 11) aNil)))) (aCons (aTup (aCons (aC (.str "past")) (aCons (aName 10) (aCons (aName 11) aNil)))) aNil)))))) (.n 6))
    (aSeq (aAsg (a2 oAdd (aName 6) (aLc (aOver (aName 2)) (.n 14) aYes (a2 oIx (aTup (aCons (aTup (aCons (aC (.str "askof")) (aCons (aName 14) (aCons (aName 10) (aCons (aName 11) aNil))))) (aCons (aTup (aCons (aC (.str "pastof")) (aCons (aName 14) (aCons (aName 11) aNil)))) aNil))) (aCall C_take (aRs 0 (aRv (aC (.int 2)) aRn)))) [14])) (.n 6))
    (aRet (aIxN 6 (aCall C_take (aRs 0 (aRv (aLenN 6) aRn))))))) aPass)
    (aSeq (aIfS (aTst (a2 (o2 (fEq false)) (aName 5) (aC (.int 14)))) (aRet (aTup (aCons (aC (.str "ward")) (aCons (aName 11) (aCons (aCall C_any (aRs 0 (aRs 1 (aRs 2 (aRs 3 (aRv (aCB oMin2 (aCons (aC (.int 2)) (aCons (aName 9) aNil))) aRn)))))) aNil))))) aPass)
    (aRet (aCall C_any_answerer (aRs 0 (aRs 1 (aRs 2 (aRs 3 (aRs 4 aRn))))))))))))))))))))
/-- _law_any_answerer: 0 _law_box, 1 _law_names, 2 _law_hs, 3 _law_deeds, 4 _law_room, 5 _law_way, 6 _law_name, 7 _law_part, 8 _law_inner_here, 9 _law_clauses, 10 _law_made, 11 _law_told, 12 _law_deed, 13 _law_how, 14 _law_around -/
def t_any_answerer (C_one_of C_any C_strewn C_take : AC) : AS :=
  (aSeq (aPar [5, 6, 7] (aCons (aCall C_one_of (aRs 0 (aRv (aLst (aCons (aC (.str "deep")) (aCons (aC (.str "shallow")) (aCons (aC (.str "under")) aNil)))) aRn))) (aCons (aCall C_one_of (aRs 0 (aRv (aC (.str "abcd")) aRn))) (aCons (aCB oMax2 (aCons (aC (.int 1)) (aCons (a2 oDiv (aName 4) (aC (.int 3))) aNil))) aNil))))
    (aSeq (aPar [8, 9] (aCons (a2 oAdd (aName 2) (a2 oMulA (aLst (aCons (aName 6) aNil)) (aCB oInt (aCons (a2 (o2 (fEq false)) (aName 5) (aC (.str "under"))) aNil)))) (aCons (aLst aNil) aNil)))
    (aSeq (aAsg (aCall C_any (aRs 0 (aRs 1 (aRs 8 (aRs 3 (aRs 7 aRn)))))) (.n 10))
    (aSeq (aAsg (aTup (aCons (aName 6) (aCons (aCall C_any (aRs 0 (aRv (a2 oAdd (aName 1) (aLst (aCons (aName 6) aNil))) (aRs 2 (aRs 3 (aRv (aCB oMin2 (aCons (aC (.int 3)) (aCons (aName 7) aNil))) aRn)))))) aNil))) (.n 11))
    (aSeq (aFor (aOver (aCB oSorted (aCons (aSl (aCall C_strewn (aRs 0 (aRs 3 aRn))) aNoP (aPart (aCall C_take (aRs 0 (aRv (aC (.int 3)) aRn))))) aNil))) (.n 12) (aSeq (aAsg (aCall C_one_of (aRs 0 (aRv (aLst (aCons (aC (.str "many")) (aCons (aC (.str "many")) (aCons (aC (.str "end")) (aCons (aC (.str "quick")) aNil))))) aRn))) (.n 13))
    (aSeq (aAsg (aIf (aAnd (aTst (a2 (o2 (fEq false)) (aName 13) (aC (.str "quick")))) (aTst (a2 (o2 (fEq false)) (aName 5) (aC (.str "shallow"))))) (aC (.str "end")) (aName 13)) (.n 13))
    (aSeq (aAsg (a2 oAdd (a2 oAdd (aName 1) (aLst (aCons (aName 6) aNil))) (a2 oMulA (aLst (aCons (aC (.str "k")) aNil)) (aCB oInt (aCons (a2 (o2 (fEq false)) (aName 13) (aC (.str "many"))) aNil)))) (.n 14))
    (aDrop (aMt 9 mAppend (aCons (aTup (aCons (aName 12) (aCons (aName 13) (aCons (aName 6) (aCons (a2 oMulA (aC (.str "k")) (aCB oInt (aCons (a2 (o2 (fEq false)) (aName 13) (aC (.str "many"))) aNil))) (aCons (aCall C_any (aRs 0 (aRs 14 (aRs 2 (aRs 3 (aRs 7 aRn)))))) aNil)))))) aNil)))))))
    (aSeq (aIfS (aTst (a2 (o2 (fEq false)) (aName 5) (aC (.str "under")))) (aRet (aTup (aCons (aC (.str "under")) (aCons (aName 6) (aCons (aName 10) (aCons (aName 11) (aCons (aCB oTuple (aCons (aName 9) aNil)) aNil))))))) aPass)
    (aRet (aTup (aCons (aC (.str "handle")) (aCons (aName 5) (aCons (aName 10) (aCons (aName 11) (aCons (aCB oTuple (aCons (aName 9) aNil)) aNil)))))))))))))
/-- _law_same: 0 _law_found, 1 _law_due, 2 _law_one, 3 _law_other -/
def t_same (C_same : AC) : AS :=
  (aSeq (aIfS (aTst (a1 (oIsi [.list, .tuple]) (aName 1))) (aSeq (aIfS (aOr (aTst (a2 (o2 (fEq true)) (a1 (oIsi [.list]) (aName 0)) (a1 (oIsi [.list]) (aName 1)))) (aTst (a2 (o2 (fEq true)) (a1 (oIsi [.tuple]) (aName 0)) (a1 (oIsi [.tuple]) (aName 1))))) (aRet (aC (.bool false))) aPass)
    (aRet (aAndV (a2 (o2 (fEq false)) (aLenN 0) (aLenN 1)) (aCB (oAll fun l => l.all id) (aCons (aLc (aZip2 (aName 0) (aName 1)) (.t [(.n 2), (.n 3)]) aYes (aCall C_same (aRs 2 (aRs 3 aRn))) [2, 3]) aNil))))) aPass)
    (aSeq (aIfS (aOr (aTst (a2 (o2 (fIs false)) (aName 1) (aC .none))) (aTst (a2 (o2 (fIs false)) (aName 0) (aC .none)))) (aRet (aAndV (a2 (o2 (fIs false)) (aName 1) (aC .none)) (a2 (o2 (fIs false)) (aName 0) (aC .none)))) aPass)
    (aSeq (aIfS (aOr (aTst (a1 (oIsi [.bool]) (aName 1))) (aTst (a1 (oIsi [.str]) (aName 1)))) (aRet (aAndV (a2 (o2 (fEq false)) (a1 (oIsi [.bool]) (aName 0)) (a1 (oIsi [.bool]) (aName 1))) (a2 (o2 (fEq false)) (aName 0) (aName 1)))) aPass)
    (aRet (aAndV (a1 (oIsi [.int]) (aName 0)) (aAndV (a1 (o1 fNot) (a1 (oIsi [.bool]) (aName 0))) (a2 (o2 (fEq false)) (aName 0) (aName 1))))))))
/-- _law_inner: 0 _law_program, 1 _law_row, 2 _law_one -/
def t_inner : AS :=
  (aSeq (aIfS (aTst (a2 (o2 (fIn false)) (aIxN 0 (aC (.int 0))) (aTup (aCons (aC (.str "handle")) (aCons (aC (.str "under")) aNil))))) (aRet (a2 oAdd (aLst (aCons (aIxN 0 (aC (.int 2))) (aCons (a2 oIx (aIxN 0 (aC (.int 3))) (aC (.int 1))) aNil))) (aLc (aOver (aIxN 0 (aC (.int 4)))) (.n 1) aYes (aIxN 1 (aC (.int 4))) [1]))) aPass)
    (aRet (aLc (aOver (aSl (aName 0) (aPart (aC (.int 1))) aNoP)) (.n 2) (aTst (a1 (oIsi [.tuple]) (aName 2))) (aName 2) [2])))
/-- _law_rebuilt: 0 _law_program, 1 _law_some, 2 _law_rows, 3 _law_left, 4 _law_row, 5 _law_one -/
def t_rebuilt : AS :=
  (aSeq (aIfS (aTst (a2 (o2 (fIn false)) (aIxN 0 (aC (.int 0))) (aTup (aCons (aC (.str "handle")) (aCons (aC (.str "under")) aNil))))) (aSeq (aAsg (aCB oTuple (aCons (aLc (aZip2 (aIxN 0 (aC (.int 4))) (aSl (aName 1) (aPart (aC (.int 2))) aNoP)) (.t [(.n 4), (.n 5)]) aYes (a2 oAdd (aSl (aName 4) aNoP (aPart (aC (.int 4)))) (aTup (aCons (aName 5) aNil))) [4, 5]) aNil)) (.n 2))
    (aRet (a2 oAdd (aSl (aName 0) aNoP (aPart (aC (.int 2)))) (aTup (aCons (aIxN 1 (aC (.int 0))) (aCons (aTup (aCons (a2 oIx (aIxN 0 (aC (.int 3))) (aC (.int 0))) (aCons (aIxN 1 (aC (.int 1))) aNil))) (aCons (aName 2) aNil))))))) aPass)
    (aSeq (aAsg (aCB oList (aCons (aName 1) aNil)) (.n 3))
    (aRet (aCB oTuple (aCons (aLc (aOver (aName 0)) (.n 5) aYes (aIf (aTst (a1 (oIsi [.tuple]) (aName 5))) (aMt 3 mPopAt (aCons (aC (.int 0)) aNil)) (aName 5)) [5]) aNil)))))
/-- _law_bound: 0 _law_program, 1 _law_word, 2 _law_row, 3 _law_one -/
def t_bound (C_inner : AC) : AS :=
  (aSeq (aAsg (aIxN 0 (aC (.int 0))) (.n 1))
    (aSeq (aIfS (aTst (a2 (o2 (fIn false)) (aName 1) (aTup (aCons (aC (.str "fun")) (aCons (aC (.str "rec")) aNil))))) (aRet (aLst (aCons (aSl (aName 0) (aPart (aC (.int 1))) (aPart (a1 (o1 fNeg) (aC (.int 1))))) aNil))) aPass)
    (aSeq (aIfS (aTst (a2 (o2 (fEq false)) (aName 1) (aC (.str "let")))) (aRet (aLst (aCons (aTup aNil) (aCons (aTup (aCons (aIxN 0 (aC (.int 1))) aNil)) aNil)))) aPass)
    (aSeq (aIfS (aTst (a2 (o2 (fIn false)) (aName 1) (aTup (aCons (aC (.str "handle")) (aCons (aC (.str "under")) aNil))))) (aRet (a2 oAdd (aLst (aCons (aTup aNil) (aCons (aTup (aCons (a2 oIx (aIxN 0 (aC (.int 3))) (aC (.int 0))) aNil)) aNil))) (aLc (aOver (aIxN 0 (aC (.int 4)))) (.n 2) aYes (aCB oTuple (aCons (aLc (aOver (aSl (aName 2) (aPart (aC (.int 2))) (aPart (aC (.int 4))))) (.n 3) (aTst (a2 (o2 (fEq true)) (aName 3) (aC (.str "")))) (aName 3) [3]) aNil)) [2]))) aPass)
    (aRet (aLc (aOver (aCall C_inner (aRs 0 aRn))) (.n 3) aYes (aTup aNil) [3]))))))
/-- _law_free: 0 _law_program, 1 _law_found, 2 _law_one, 3 _law_names, 4 _law_name -/
def t_free (C_inner C_bound C_free : AC) : AS :=
  (aSeq (aAsg (aIf (aTst (a2 (o2 (fEq false)) (aIxN 0 (aC (.int 0))) (aC (.str "name")))) (aLst (aCons (aIxN 0 (aC (.int 1))) aNil)) (aLst aNil)) (.n 1))
    (aSeq (aFor (aZip2 (aCall C_inner (aRs 0 aRn)) (aCall C_bound (aRs 0 aRn))) (.t [(.n 2), (.n 3)]) (aAsg (a2 oAdd (aName 1) (aLc (aOver (aCall C_free (aRs 2 aRn))) (.n 4) (aTst (a2 (o2 (fIn true)) (aName 4) (aName 3))) (aName 4) [4])) (.n 1)))
    (aRet (aSortedSet (aName 1)))))
/-- _law_slow_row: 0 _law_row, 1 _law_letters, 2 _law_taken, 3 _law_some, 4 _law_one, 5 _law_kept, 6 _law_other -/
def t_slow_row (C_free : AC) : AS :=
  (aSeq (aIfS (aTst (a2 (o2 (fEq true)) (aIxN 0 (aC (.int 1))) (aC (.str "quick")))) (aRet (aName 0)) aPass)
    (aSeq (aAsg (aTup (aCons (aC (.str "abcdefghijklmnopqrstuvwxyz")) (aCons (a2 oAdd (aCall C_free (aRv (aIxN 0 (aC (.int 4))) aRn)) (aLst (aCons (aIxN 0 (aC (.int 2))) aNil))) aNil))) (.t [(.n 1), (.n 2)]))
    (aSeq (aAsg (aLc (aOver (aName 1)) (.n 4) aYes (a2 oAdd (aC (.str "k")) (aName 4)) [4]) (.n 3))
    (aSeq (aFor (aOver (aName 1)) (.n 4) (aAsg (a2 oAdd (aName 3) (aLc (aOver (aName 1)) (.n 6) aYes (a2 oAdd (a2 oAdd (aC (.str "k")) (aName 4)) (aName 6)) [6])) (.n 3)))
    (aSeq (aAsg (a2 oIx (aLc (aOver (aName 3)) (.n 4) (aTst (a2 (o2 (fIn true)) (aName 4) (aName 2))) (aName 4) [4]) (aC (.int 0))) (.n 5))
    (aRet (aTup (aCons (aIxN 0 (aC (.int 0))) (aCons (aC (.str "many")) (aCons (aIxN 0 (aC (.int 2))) (aCons (aName 5) (aCons (aTup (aCons (aC (.str "call")) (aCons (aTup (aCons (aC (.str "name")) (aCons (aName 5) aNil))) (aCons (aIxN 0 (aC (.int 4))) aNil)))) aNil))))))))))))
/-- _law_quick_row: 0 _law_row -/
def t_quick_row (C_free : AC) : AS :=
  (aSeq (aIfS (aAnd (aTst (a2 (o2 (fEq false)) (aIxN 0 (aC (.int 1))) (aC (.str "many")))) (aAnd (aTst (a2 (o2 (fEqM false)) (aSl (aIxN 0 (aC (.int 4))) aNoP (aPart (aC (.int 2)))) (aTup (aCons (aC (.str "call")) (aCons (aTup (aCons (aC (.str "name")) (aCons (aIxN 0 (aC (.int 3))) aNil))) aNil))))) (aTst (a2 (o2 (fIn true)) (aIxN 0 (aC (.int 3))) (aCall C_free (aRv (a2 oIx (aIxN 0 (aC (.int 4))) (aC (.int 2))) aRn)))))) (aRet (aTup (aCons (aIxN 0 (aC (.int 0))) (aCons (aC (.str "quick")) (aCons (aIxN 0 (aC (.int 2))) (aCons (aC (.str "")) (aCons (a2 oIx (aIxN 0 (aC (.int 4))) (aC (.int 2))) aNil))))))) aPass)
    (aRet (aName 0)))
/-- _law_slowed: 0 _law_program, 1 _law_found, 2 _law_one, 3 _law_row -/
def t_slowed (C_rebuilt C_inner C_slowed C_slow_row : AC) : AS :=
  (aSeq (aAsg (aCall C_rebuilt (aRs 0 (aRv (aLc (aOver (aCall C_inner (aRs 0 aRn))) (.n 2) aYes (aCall C_slowed (aRs 2 aRn)) [2]) aRn))) (.n 1))
    (aSeq (aIfS (aTst (a2 (o2 (fIn true)) (aIxN 1 (aC (.int 0))) (aTup (aCons (aC (.str "handle")) (aCons (aC (.str "under")) aNil))))) (aRet (aMove 1)) aPass)
    (aRet (a2 oAdd (aSl (aName 1) aNoP (aPart (aC (.int 4)))) (aTup (aCons (aCB oTuple (aCons (aLc (aOver (aIxN 1 (aC (.int 4)))) (.n 3) aYes (aCall C_slow_row (aRs 3 aRn)) [3]) aNil)) aNil))))))
/-- _law_quickened: 0 _law_program, 1 _law_found, 2 _law_one, 3 _law_row -/
def t_quickened (C_rebuilt C_inner C_quickened C_quick_row : AC) : AS :=
  (aSeq (aAsg (aCall C_rebuilt (aRs 0 (aRv (aLc (aOver (aCall C_inner (aRs 0 aRn))) (.n 2) aYes (aCall C_quickened (aRs 2 aRn)) [2]) aRn))) (.n 1))
    (aSeq (aIfS (aOr (aTst (a2 (o2 (fIn true)) (aIxN 1 (aC (.int 0))) (aTup (aCons (aC (.str "handle")) (aCons (aC (.str "under")) aNil))))) (aTst (a2 (o2 (fEqM false)) (aSl (aName 1) aNoP (aPart (aC (.int 2)))) (aTup (aCons (aC (.str "handle")) (aCons (aC (.str "shallow")) aNil)))))) (aRet (aMove 1)) aPass)
    (aRet (a2 oAdd (aSl (aName 1) aNoP (aPart (aC (.int 4)))) (aTup (aCons (aCB oTuple (aCons (aLc (aOver (aIxN 1 (aC (.int 4)))) (.n 3) aYes (aCall C_quick_row (aRs 3 aRn)) [3]) aNil)) aNil))))))
/-- _law_quick_ones: 0 _law_program, 1 _law_place, 2 _law_found, 3 _law_number, 4 _law_one, 5 _law_row -/
def t_quick_ones (C_inner C_quick_ones : AC) : AS :=
  (aSeq (aAsg (aLst aNil) (.n 2))
    (aSeq (aIfS (aTst (a2 (o2 (fIn false)) (aIxN 0 (aC (.int 0))) (aTup (aCons (aC (.str "handle")) (aCons (aC (.str "under")) aNil))))) (aAsg (aLc (aOver (aIxN 0 (aC (.int 4)))) (.n 5) (aTst (a2 (o2 (fEq false)) (aIxN 5 (aC (.int 1))) (aC (.str "quick")))) (aTup (aCons (aName 1) (aCons (aIxN 5 (aC (.int 0))) aNil))) [5]) (.n 2)) aPass)
    (aSeq (aFor (aEnum (aCall C_inner (aRs 0 aRn))) (.t [(.n 3), (.n 4)]) (aAsg (a2 oAdd (aName 2) (aCall C_quick_ones (aRs 4 (aRv (a2 oAdd (aName 1) (aTup (aCons (aName 3) aNil))) aRn)))) (.n 2)))
    (aRet (aMove 2)))))
/-- _law_last_calls: 0 _law_box, 1 _law_program, 2 _law_found, 3 _law_rows, 4 _law_deed, 5 _law_how, 6 _law_name, 7 _law_kept, 8 _law_rest, 9 _law_way, 10 _law_own, 11 _law_some, 12 _law_one -/
def t_last_calls (C_rebuilt C_inner C_last_calls C_one_of C_take : AC) : AS :=
  (aSeq (aAsg (aCall C_rebuilt (aRs 1 (aRv (aLc (aOver (aCall C_inner (aRs 1 aRn))) (.n 12) aYes (aCall C_last_calls (aRs 0 (aRs 12 aRn))) [12]) aRn))) (.n 2))
    (aSeq (aIfS (aTst (a2 (o2 (fIn true)) (aIxN 2 (aC (.int 0))) (aTup (aCons (aC (.str "handle")) (aCons (aC (.str "under")) aNil))))) (aRet (aMove 2)) aPass)
    (aSeq (aAsg (aLst aNil) (.n 3))
    (aSeq (aFor (aOver (aIxN 2 (aC (.int 4)))) (.t [(.n 4), (.n 5), (.n 6), (.n 7), (.n 8)]) (aSeq (aPar [9, 10] (aCons (aCall C_take (aRs 0 (aRv (aC (.int 6)) aRn))) (aCons (aCall C_one_of (aRs 0 (aRv (aLst (aCons (aC (.str "k")) (aCons (aC (.str "ka")) (aCons (aC (.str "kb")) aNil)))) aRn))) aNil)))
    (aIfS (aAnd (aTst (a2 (o2 fLt) (aName 9) (aC (.int 3)))) (aTst (a2 (o2 (fEq true)) (aName 10) (aName 6)))) (aSeq (aAsg (aLst (aCons (aName 8) (aCons (aTup (aCons (aC (.str "let")) (aCons (aName 10) (aCons (aTup (aCons (aC (.str "num")) (aCons (aC (.int 1)) aNil))) (aCons (aName 8) aNil))))) (aCons (aTup (aCons (aC (.str "op")) (aCons (aC (.str "plus")) (aCons (aName 8) (aCons (aTup (aCons (aC (.str "num")) (aCons (aC (.int 2)) aNil))) aNil))))) aNil)))) (.n 11))
    (aSeq (aAsg (aTup (aCons (aC (.str "call")) (aCons (aTup (aCons (aC (.str "name")) (aCons (aName 10) aNil))) (aCons (aIf (aTst (a2 (o2 (fEq false)) (aName 5) (aC (.str "quick")))) (aIxN 11 (aName 9)) (aCall C_one_of (aRs 0 (aRs 11 aRn)))) aNil)))) (.n 8))
    (aDrop (aMt 3 mAppend (aCons (aTup (aCons (aName 4) (aCons (aC (.str "many")) (aCons (aName 6) (aCons (aName 10) (aCons (aName 8) aNil)))))) aNil))))) (aDrop (aMt 3 mAppend (aCons (aTup (aCons (aName 4) (aCons (aName 5) (aCons (aName 6) (aCons (aName 7) (aCons (aName 8) aNil)))))) aNil))))))
    (aRet (a2 oAdd (aSl (aName 2) aNoP (aPart (aC (.int 4)))) (aTup (aCons (aCB oTuple (aCons (aName 3) aNil)) aNil))))))))
/-- _law_parts_in: 0 _law_program, 1 _law_one -/
def t_parts_in (C_inner C_parts_in : AC) : AS :=
  (aRet (a2 oAdd (aC (.int 1)) (aCB oSum (aCons (aLc (aOver (aCall C_inner (aRs 0 aRn))) (.n 1) aYes (aCall C_parts_in (aRs 1 aRn)) [1]) aNil))))
/-- _law_one_right: 0 _law_one, 1 _law_slow, 2 _law_swift, 3 _law_kept, 4 _law_some, 5 _law_others, 6 _law_turn, 7 _law_told -/
def t_one_right (C_quickened C_slowed C_same C_p_quickened C_p_slowed C_p_quick_ones C_quick_ones : AC) : AS :=
  (aSeq (aPar [1, 2, 3] (aCons (aCall C_slowed (aRs 0 aRn)) (aCons (aCall C_quickened (aRs 0 aRn)) (aCons (aCB oRepr (aCons (aName 0) aNil)) aNil))))
    (aSeq (aIfS (aNot (aTst (aCall C_same (aRv (aLst (aCons (aCall C_p_slowed (aRs 0 aRn)) (aCons (aCall C_p_quickened (aRs 0 aRn)) aNil))) (aRv (aLst (aCons (aName 1) (aCons (aName 2) aNil))) aRn))))) (aRet (aC (.bool false))) aPass)
    (aSeq (aIfS (aNot (aTst (aCall C_same (aRv (aLst (aCons (aCall C_p_slowed (aRs 1 aRn)) (aCons (aCall C_p_quickened (aRs 2 aRn)) (aCons (aCall C_p_quickened (aRs 1 aRn)) (aCons (aCall C_p_quick_ones (aRs 1 aRn)) aNil))))) (aRv (aLst (aCons (aName 1) (aCons (aName 2) (aCons (aName 2) (aCons (aLst aNil) aNil))))) aRn))))) (aRet (aC (.bool false))) aPass)
    (aSeq (aPar [4, 5] (aCons (aCall C_quick_ones (aRs 0 (aRv (aTup aNil) aRn))) (aCons (aCall C_quick_ones (aRs 2 (aRv (aTup aNil) aRn))) aNil)))
    (aSeq (aFor (aRng (aC (.int 2))) (.n 6) (aSeq (aAsg (aLst (aCons (aCall C_p_quick_ones (aRs 0 aRn)) (aCons (aCall C_p_quick_ones (aRs 2 aRn)) aNil))) (.n 7))
    (aSeq (aIfS (aNot (aTst (aCall C_same (aRs 7 (aRv (aLst (aCons (aName 4) (aCons (aName 5) aNil))) aRn))))) (aRet (aC (.bool false))) aPass)
    (aSeq (aDrop (aMtK 7 (aC (.int 0)) mAppend (aCons (aC (.str "more")) aNil)))
    (aDrop (aMtK 7 (aC (.int 1)) mReverse aNil))))))
    (aRet (a2 (o2 (fEq false)) (aCB oRepr (aCons (aName 0) aNil)) (aName 3))))))))
/-- _law_right: 0 _law_box, 1 _law_deeds, 2 _law_turn, 3 _law_names, 4 _law_one, 5 _law_row -/
def t_right (C_named C_take C_any C_last_calls C_one_right C_parts_in : AC) : AS :=
  (aSeq (aAsg (aCB oSorted (aCons (aCall C_named (aRs 0 (aRv (aC (.int 3)) aRn))) aNil)) (.n 1))
    (aSeq (aFor (aRng (aC (.int 5))) (.n 2) (aSeq (aAsg (a2 oIx (aLst (aCons (aLst (aCons (aC (.str "ka")) (aCons (aC (.str "kb")) (aCons (aC (.str "k")) aNil)))) (aCons (aLst (aCons (aC (.str "ka")) aNil)) (aCons (aLst (aCons (aC (.str "x")) aNil)) aNil)))) (aCall C_take (aRs 0 (aRv (aC (.int 3)) aRn)))) (.n 3))
    (aSeq (aAsg (aCall C_any (aRs 0 (aRs 3 (aRv (aLst aNil) (aRs 1 (aRv (a2 oAdd (aC (.int 1)) (aCall C_take (aRs 0 (aRv (aC (.int 24)) aRn)))) aRn)))))) (.n 4))
    (aSeq (aAsg (aTup (aCons (aIxN 1 (aC (.int 0))) (aCons (aC (.str "quick")) (aCons (aC (.str "x")) (aCons (aC (.str "")) (aCons (aCall C_any (aRs 0 (aRs 3 (aRv (aLst aNil) (aRs 1 (aRv (aC (.int 4)) aRn)))))) aNil)))))) (.n 5))
    (aSeq (aAsg (aTup (aCons (aC (.str "handle")) (aCons (aC (.str "deep")) (aCons (aName 4) (aCons (aTup (aCons (aC (.str "x")) (aCons (aTup (aCons (aC (.str "name")) (aCons (aC (.str "x")) aNil))) aNil))) (aCons (aTup (aCons (aName 5) aNil)) aNil)))))) (.n 4))
    (aSeq (aAsg (aIf (aTst (a2 (o2 fGt) (aCall C_take (aRs 0 (aRv (aC (.int 3)) aRn))) (aC (.int 0)))) (aCall C_last_calls (aRs 0 (aRs 4 aRn))) (aName 4)) (.n 4))
    (aIfS (aAnd (aTst (a2 (o2 fLt) (aCall C_parts_in (aRs 4 aRn)) (aC (.int 121)))) (aNot (aTst (aCall C_one_right (aRs 4 aRn))))) (aRet (aC (.bool false))) aPass)))))))
    (aRet (aC (.bool true)))))
/-- law: 0 _law_script, 1 _law_cells, 2 _law_k -/
def t_law (C_folded C_right C_dip : AC) : AS :=
  (aSeq (aAsg (aCall C_folded (aRs 0 (aRv (aC (.int 3)) aRn))) (.n 1))
    (aRet (aCB (oAll fun l => l.all id) (aCons (aLc (aRng (aCB oMax2 (aCons (aC (.int 1)) (aCons (aLenN 1) aNil)))) (.n 2) aYes (aCall C_right (aRv (aCall C_dip (aRs 1 (aRs 2 aRn))) aRn)) [2]) aNil))))
end K45

/-! the draws -/
namespace K45
open PySem L2 Grd Ow PyProof.Rows
/-- the box of draws: c bounds how often it was mixed -/
def Box (c : Nat) (ys : List OV) : Prop := ∃ x y z : Int, ys = [.d (.int x), .d (.int y), .d (.int z)] ∧ 0 ≤ y ∧ y < 2305843010000000000 ∧ 0 ≤ z ∧ z ≤ (c : Int)
theorem Box.mono {c d : Nat} {ys : List OV} (h : Box c ys) (l : c ≤ d) : Box d ys := by
  obtain ⟨x, y, z, e, h1, h2, h3, h4⟩ := h
  exact ⟨x, y, z, e, h1, h2, h3, by omega⟩
def C_take : AC := fun xs R => ∃ (c : Nat) (ys : List OV) (m : Int), xs = [.n .lst ys, .d (.int m)] ∧ Box c ys ∧ c < 1000000000000 ∧ 0 < m ∧ m < 1073741824 ∧
  ∀ r ys', 0 ≤ r → r < m → Box (c + 1) ys' → R (.d (.int r)) [.n .lst ys', .d (.int m)]
theorem small {i : Int} {n : Nat} (h : i.natAbs < 2 ^ n) : i.natAbs.log2 ≤ n := by
  by_cases z : i.natAbs = 0
  · rw [z]; exact Nat.zero_le _
  · exact Nat.le_of_lt ((Nat.log2_lt z).mpr h)
theorem mul_small {i j : Int} (h1 : i.natAbs < 2 ^ 1000) (h2 : j.natAbs < 2 ^ 1000) : CMulW i j := by
  have := small h1
  have := small h2
  show _ + _ < _
  omega
theorem p_take : ∀ xs R, C_take xs R → xs.length = 2 ∧ t_take (retD [true, true] xs R) (beg 5 xs) := by
  rintro xs R ⟨c, ys, m, rfl, ⟨x, y, z, rfl, y0, y1, z0, z1⟩, hc, m0, m1, q⟩
  refine ⟨rfl, ?_⟩
  unfold t_take
  refine aSeq_i (aIfS_i ?_)
  simp_arith []
  refine br_i (fun h => ?_) (fun h => ?_)
  · refine aSeq_i ?_
    simp_arith []
    refine ⟨m0, aSeq_i ?_⟩
    simp_arith []
    refine ⟨⟨m0, m1⟩, ?_⟩
    exact q _ _ (Int.emod_nonneg _ (by omega)) (Int.emod_lt_of_pos _ m0) ⟨_, y, z, rfl, y0, y1, z0, by omega⟩
  · simp_arith []
    refine aSeq_i ?_
    simp_arith []
    refine aSeq_i ?_
    simp_arith []
    have b1 : (y + 39373 * (z + 1)).natAbs < 2 ^ 64 := by omega
    refine ⟨mul_small (by omega) (by omega), ⟨by omega, by omega, b1⟩, by omega, aSeq_i ?_⟩
    generalize e1 : (y + 39373 * (z + 1)) ^ Int.toNat 5 % 2147483647 = w1
    have w0 : 0 ≤ w1 ∧ w1 < 2147483647 := by subst e1; exact ⟨Int.emod_nonneg _ (by omega), Int.emod_lt_of_pos _ (by omega)⟩
    simp_arith []
    refine ⟨⟨by omega, by omega⟩, by omega, mul_small (by omega) (by omega), by omega, ?_⟩
    generalize e2 : (w1 + (z + 1) + y / 1000003) * (w1 % 40009 + 7 + (z + 1)) % 2147483629 = w2
    have w3 : 0 ≤ w2 ∧ w2 < 2147483629 := by subst e2; exact ⟨Int.emod_nonneg _ (by omega), Int.emod_lt_of_pos _ (by omega)⟩
    refine ⟨mul_small (by omega) (by omega), by omega, ⟨by omega, by omega⟩, m0, ?_⟩
    exact q _ _ (Int.emod_nonneg _ (by omega)) (Int.emod_lt_of_pos _ m0) ⟨x, y, z + 1, rfl, y0, y1, by omega, by omega⟩
/-- one of some, by a draw -/
def C_one_of : AC := fun xs R => ∃ (c : Nat) (ys : List OV) (x : OV), xs = [.n .lst ys, x] ∧ Box c ys ∧ c < 1000000000000 ∧
  ((∃ ds : List PyData, (x = .n .lst (ds.map .d) ∨ x = .d (.list ds)) ∧ 0 < ds.length ∧ ds.length < 1073741824 ∧ ∀ (d : PyData) (ys' : List OV), d ∈ ds → Box (c + 1) ys' → R (.d d) [.n .lst ys', x])
  ∨ (∃ z : Str, x = .d (.str z) ∧ 0 < z.length ∧ z.length ≤ 1000 ∧ ∀ (u : Nat) (ys' : List OV), u ∈ z.cps.toList → Box (c + 1) ys' → R (.d (.str ⟨#[u]⟩)) [.n .lst ys', .d (.str z)]))
theorem p_one_of : ∀ xs R, C_one_of xs R → xs.length = 2 ∧ t_one_of C_take (retD [true, true] xs R) (beg 2 xs) := by
  rintro xs R ⟨c, ys, x, rfl, hb, hc, q⟩
  refine ⟨rfl, ?_⟩
  unfold t_one_of
  rcases q with ⟨ds, rfl | rfl, h0, h1, q⟩ | ⟨z, rfl, h0, h1, q⟩
  · simp_arith []
    refine ⟨c, ys, (ds.map OV.d).length, rfl, hb, hc, by simp; omega, by simp; omega, fun r ys' r0 r1 hb' => ⟨rfl, ?_⟩⟩
    simp_arith []
    obtain ⟨k, rfl⟩ := Int.eq_ofNat_of_zero_le r0
    have r2 : k < ds.length := by simp at r1; omega
    rw [ixN_lit (by simp; omega)]
    have e : (ds.map OV.d)[k]? = some (.d ds[k]) := by simp [r2]
    simp only [e]
    exact q _ _ (List.getElem_mem _) hb'
  · simp_arith []
    refine ⟨c, ys, ds.length, rfl, hb, hc, by omega, by omega, fun r ys' r0 r1 hb' => ⟨rfl, ?_⟩⟩
    simp_arith []
    obtain ⟨k, rfl⟩ := Int.eq_ofNat_of_zero_le r0
    have r2 : k < ds.length := by omega
    rw [atI_lit]
    have e := List.getElem?_eq_getElem (l := ds) (i := k) r2
    simp only [e]
    exact q _ _ (List.getElem_mem _) hb'
  · simp_arith []
    refine ⟨by have : sizeLine = 16777216 := rfl; omega, c, ys, z.length, rfl, hb, hc, by omega, by omega, fun r ys' r0 r1 hb' => ⟨rfl, ?_⟩⟩
    simp_arith []
    obtain ⟨k, rfl⟩ := Int.eq_ofNat_of_zero_le r0
    have r2 : k < z.cps.toList.length := by have : z.cps.toList.length = z.length := by simp [Str.length]; 
                                            omega
    rw [atI_lit]
    have e := List.getElem?_eq_getElem (l := z.cps.toList) (i := k) r2
    simp only [e]
    exact ⟨by have : sizeLine = 16777216 := rfl; omega, q _ _ (List.getElem_mem _) hb'⟩
/-- the same things in another order -/
def C_strewn : AC := fun xs R => ∃ (c : Nat) (ys : List OV) (x : OV) (ds : List PyData), xs = [.n .lst ys, x] ∧ (x = .n .lst (ds.map .d) ∨ x = .d (.list ds)) ∧ Box c ys ∧ c + ds.length < 1000000000000 ∧ ds.length < 1000 ∧
  ∀ (es : List PyData) (ys' : List OV), es.Perm ds → Box (c + ds.length) ys' → R (.n .lst (es.map .d)) [.n .lst ys', .d (.list ds)]
theorem p_strewn : ∀ xs R, C_strewn xs R → xs.length = 2 ∧ t_strewn C_take (retD [true, true] xs R) (beg 4 xs) := by
  rintro xs R ⟨c, ys, x, ds, rfl, hx, hb, hc, hl, q⟩
  refine ⟨rfl, ?_⟩
  unfold t_strewn
  refine aSeq_i ?_
  simp_arith []
  refine ⟨Nat.zero_le _, aSeq_i ?_⟩
  have main : ∀ (rest done es : List PyData) (c' : Nat) (ys' : List OV) (o : Option OV), done ++ rest = ds → es.Perm done → c' = c + done.length → Box c' ys' →
      forW (.n 3) (aDrop (aMt 2 mInsert (aCons (aCall C_take (aRs 0 (aRv (a2 oAdd (aLenN 2) (aC (.int 1))) aRn))) (aCons (aName 3) aNil))))
        { nx := (aRet (aMove 2)) (retD [true, true] [.n .lst ys, x] R), rt := (retD [true, true] [.n .lst ys, x] R).rt, bk := (retD [true, true] [.n .lst ys, x] R).bk, ct := (retD [true, true] [.n .lst ys, x] R).ct } rest
        [some (.n .lst ys'), some (.d (.list ds)), some (.n .lst (es.map .d)), o] := by
    intro rest
    induction rest with
    | nil =>
      intro done es c' ys' o e p ec b
      unfold forW
      rw [List.append_nil] at e
      subst e
      simp_arith []
      exact q es ys' p (ec ▸ b)
    | cons d rest ih =>
      intro done es c' ys' o e p ec b
      unfold forW
      have l1 : es.length = done.length := p.length_eq
      have l2 : ds.length = done.length + (rest.length + 1) := by rw [← e]; simp
      simp_arith []
      refine ⟨c', ys', _, rfl, b, by omega, ?_, ?_, fun r ys2 r0 r1 hb' => ⟨rfl, ?_⟩⟩
      · rw [List.length_map]; omega
      · rw [List.length_map]; omega
      rw [List.length_map] at r1
      simp_arith []
      have : sizeLine = 16777216 := rfl
      refine ⟨⟨by rw [List.length_map]; omega, by omega, by omega⟩, ?_⟩
      have e2 : (es.map OV.d).take r.toNat ++ OV.d d :: (es.map OV.d).drop r.toNat = (es.take r.toNat ++ d :: es.drop r.toNat).map OV.d := by simp [List.map_take, List.map_drop]
      rw [e2]
      refine ih (done ++ [d]) _ (c' + 1) ys2 _ (by rw [List.append_assoc]; exact e) ?_ (by rw [ec]; simp; omega) hb'
      refine (List.perm_middle).trans ?_
      rw [List.take_append_drop]
      exact (p.cons d).trans (List.perm_append_comm (l₁ := [d]) (l₂ := done))
  rcases hx with rfl | rfl
  · simp_arith []
    simp only [sit]
    simp_arith []
    exact main ds [] [] c ys none rfl .nil rfl hb
  · simp_arith []
    simp only [sit]
    simp_arith []
    exact main ds [] [] c ys none rfl .nil rfl hb
end K45

/-! terms as trees -/
namespace K45
open PySem L2 Grd Ow PyProof.Rows
structure Cl where
  (a b c e : Str)
/-- a term's head: what stands around its parts -/
inductive Hd where
  | pl (w : Str) (ps : List (Option PyData))
  | an (w wd tx : Str) (cs : List Cl)
inductive Tr where
  | mk (h : Hd) (ch : List Tr)
def fill : List (Option PyData) → List PyData → List PyData
  | [], _ => []
  | some p :: ps, ds => p :: fill ps ds
  | none :: ps, d :: ds => d :: fill ps ds
  | none :: _, [] => []
def clD (c : Cl) (d : PyData) : PyData := .tuple [.str c.a, .str c.b, .str c.c, .str c.e, d]
def encH : Hd → List PyData → PyData
  | .pl w ps, ds => .tuple (.str w :: fill ps ds)
  | .an w wd tx cs, d0 :: d1 :: ds => .tuple [.str w, .str wd, d0, .tuple [.str tx, d1], .tuple (List.zipWith clD cs ds)]
  | .an _ _ _ _, _ => .none
mutual
def enc : Tr → PyData
  | .mk h ch => encH h (encs ch)
def encs : List Tr → List PyData
  | [] => []
  | t :: ts => enc t :: encs ts
end
theorem encs_map : ∀ ts : List Tr, encs ts = ts.map enc
  | [] => by simp only [encs, List.map_nil]
  | t :: ts => by simp only [encs, List.map_cons, encs_map ts]
theorem enc_mk (h : Hd) (ch : List Tr) : enc (.mk h ch) = encH h (ch.map enc) := by rw [enc, encs_map]
/-- a text of at most n signs -/
def Sg (n : Nat) (s : Str) : Prop := s.length ≤ n ∧ ∀ c ∈ s.cps.toList, c < 0x110000
def isAn (w : Str) : Bool := [PyData.str "handle", PyData.str "under"].any fun z => PyData.eqv z (.str w)
/-- what is no part -/
def Atm : PyData → Prop
  | .int i => 0 ≤ i ∧ i < 1000
  | .str s => Sg 7 s
  | _ => False
/-- a number stands in a num alone -/
def AtmW (w : Str) (d : PyData) : Prop := Atm d ∧ (match d with | .int _ => w = "num" | _ => w ≠ "num")
def nones : List (Option PyData) → Nat
  | [] => 0
  | none :: ps => nones ps + 1
  | some _ :: ps => nones ps
/-- the marks of a shape, T where a part stands -/
def Agree : List PyData → List (Option PyData) → Prop
  | [], [] => True
  | m :: ms, p :: ps => (∃ c : Nat, m = .str ⟨#[c]⟩ ∧ (p.isNone ↔ c = 84)) ∧ Agree ms ps
  | _, _ => False
/-- a clause, as is drawn -/
def Gc (w wd : Str) (c : Cl) : Prop := c.c ≠ ("" : Str) ∧ (c.b = ("many" : Str) → c.e ≠ ("" : Str)) ∧ (c.b ≠ ("many" : Str) → c.e = ("" : Str)) ∧ (w = ("handle" : Str) → wd = ("shallow" : Str) → c.b ≠ ("quick" : Str))
def WFh : Hd → Nat → Prop
  | .pl w ps, n => isAn w = false ∧ Sg 7 w ∧ (∃ z : Str, k_SHAPES.lookup w = some (.str z) ∧ Agree (chD z) ps) ∧ (∀ p d, p ∈ ps → p = some d → AtmW w d) ∧ nones ps = n ∧ ps.length ≤ 3
  | .an w wd tx cs, n => isAn w = true ∧ Sg 7 w ∧ Sg 7 wd ∧ Sg 7 tx ∧ (∀ c ∈ cs, Sg 7 c.a ∧ Sg 7 c.b ∧ Sg 7 c.c ∧ Sg 7 c.e) ∧ (cs.length ≤ 12 ∧ ∀ c ∈ cs, Gc w wd c) ∧ n = cs.length + 2
/-- a term of height at most n -/
def Ok : Nat → Tr → Prop
  | 0, _ => False
  | n + 1, .mk h ch => WFh h ch.length ∧ ∀ c ∈ ch, Ok n c
theorem Ok.mono : ∀ {n m : Nat} {t : Tr}, Ok n t → n ≤ m → Ok m t
  | 0, _, _, h, _ => h.elim
  | n + 1, 0, _, _, l => by omega
  | n + 1, m + 1, .mk h ch, o, l => ⟨o.1, fun c hc => Ok.mono (o.2 c hc) (by omega)⟩
mutual
def sz : Tr → Nat
  | .mk _ ch => szs ch + 1
def szs : List Tr → Nat
  | [] => 0
  | t :: ts => sz t + szs ts
end
theorem fill_len : ∀ (ps : List (Option PyData)) (ds : List PyData), nones ps = ds.length → (fill ps ds).length = ps.length
  | [], ds, h => rfl
  | some p :: ps, ds, h => by simp only [fill, List.length_cons]; rw [fill_len ps ds h]
  | none :: ps, d :: ds, h => by simp only [fill, List.length_cons]; rw [fill_len ps ds (by simpa [nones] using h)]
  | none :: ps, [], h => by simp [nones] at h
-- all places, each ahead of those within
mutual
def places : Tr → List (List Int)
  | .mk _ ch => [] :: placesL 0 ch
def placesL : Nat → List Tr → List (List Int)
  | _, [] => []
  | k, t :: ts => (places t).map ((k : Int) :: ·) ++ placesL (k + 1) ts
end
def get : Tr → List Int → Option Tr
  | t, [] => some t
  | .mk _ ch, k :: p => if 0 ≤ k then (ch[k.toNat]?).bind (get · p) else none
def put : Tr → List Int → Tr → Tr
  | _, [], o => o
  | .mk h ch, k :: p, o => match ch[k.toNat]? with
    | some c => .mk h (ch.set k.toNat (put c p o))
    | none => .mk h ch
def spD (p : List Int) : PyData := .tuple (p.map .int)
end K45

/-! inner_of, with_inner -/
namespace K45
open PySem L2 Grd Ow PyProof.Rows
def C_p_inner_of : AC := fun xs R => ∃ (h : Hd) (ds : List PyData), xs = [.d (encH h ds)] ∧ WFh h ds.length ∧ R (.n .lst (ds.map .d)) [.d (encH h ds)]
theorem eq_sg (c k : Nat) : PyData.eqv (.str ⟨#[c]⟩) (.str ⟨#[k]⟩) = decide (c = k) := by
  simp only [PyData.eqv]
  by_cases h : c = k
  · subst h; simp
  · simp [h]
theorem zipD_cons (x y : PyData) (xs ys : List PyData) : zipD (x :: xs) (y :: ys) = .tuple [x, y] :: zipD xs ys := rfl
/-- which stand behind a T -/
def pickT (d : PyData) : Option OV := match d with
  | .tuple [.str m, o] => if PyData.eqv (.str m) (.str "T") = true then some (.d o) else none
  | _ => none
theorem pick_fill : ∀ (ms : List PyData) (ps : List (Option PyData)) (ds : List PyData), Agree ms ps → nones ps = ds.length → (zipD ms (fill ps ds)).filterMap pickT = ds.map .d
  | [], [], ds, a, n => by
    have : ds = [] := List.eq_nil_of_length_eq_zero (by simpa [nones] using n.symm)
    subst this
    rfl
  | m :: ms, some p :: ps, ds, ⟨⟨c, e, q⟩, a⟩, n => by
    subst e
    have hc : ¬ c = 84 := fun z => by simpa using q.mpr z
    have e1 : PyData.eqv (.str ⟨#[c]⟩) (.str "T") = false := (eq_sg c 84).trans (by simp [hc])
    rw [fill, zipD_cons, List.filterMap_cons]
    simp only [pickT, e1]
    exact pick_fill ms ps ds a n
  | m :: ms, none :: ps, d :: ds, ⟨⟨c, e, q⟩, a⟩, n => by
    subst e
    have hc : c = 84 := q.mp rfl
    subst hc
    have e1 : PyData.eqv (.str ⟨#[84]⟩) (.str "T") = true := (eq_sg 84 84).trans (by simp)
    rw [fill, zipD_cons, List.filterMap_cons]
    simp only [pickT, e1, if_true]
    rw [List.map_cons]
    exact congrArg _ (pick_fill ms ps ds a (by simpa [nones] using n))
  | m :: ms, none :: ps, [], a, n => by simp [nones] at n
  | [], _ :: _, ds, a, n => a.elim
  | _ :: _, [], ds, a, n => a.elim
theorem zip_mem {ms : List PyData} {ps : List (Option PyData)} {xs : List PyData} {d : PyData} (a : Agree ms ps) (h : d ∈ zipD ms xs) : ∃ (c : Nat) (o : PyData), d = .tuple [.str ⟨#[c]⟩, o] ∧ o ∈ xs := by
  induction ms generalizing ps xs with
  | nil => simp [zipD] at h
  | cons m ms ih =>
    cases ps with
    | nil => exact a.elim
    | cons p ps =>
      cases xs with
      | nil => simp [zipD] at h
      | cons x xs =>
        rw [zipD_cons] at h
        obtain ⟨⟨c, e, _⟩, a⟩ := a
        rcases List.mem_cons.mp h with rfl | h
        · exact ⟨c, x, by rw [e], by simp⟩
        · obtain ⟨c', o, e', m'⟩ := ih a h
          exact ⟨c', o, e', by simp [m']⟩
theorem zipD_len (xs ys : List PyData) : (zipD xs ys).length ≤ ys.length := by
  unfold zipD
  rw [List.length_map, List.length_zip]
  exact Nat.min_le_right _ _
theorem sl_eq : sizeLine = 16777216 := rfl
theorem zw_mem : ∀ {cs : List Cl} {ds : List PyData} {d : PyData}, d ∈ List.zipWith clD cs ds → ∃ c o, d = clD c o
  | [], ds, d, h => by simp at h
  | _ :: _, [], d, h => by simp at h
  | c :: cs, x :: ds, d, h => by
    rw [List.zipWith_cons_cons] at h
    rcases List.mem_cons.mp h with rfl | h
    · exact ⟨c, x, rfl⟩
    · exact zw_mem h
theorem zw_last : ∀ (cs : List Cl) (ds : List PyData), cs.length = ds.length → (List.zipWith clD cs ds).filterMap (fun d => match d with | .tuple [_, _, _, _, o] => some (OV.d o) | _ => none) = ds.map OV.d
  | [], [], h => rfl
  | c :: cs, x :: ds, h => by
    rw [List.zipWith_cons_cons, List.filterMap_cons, List.map_cons]
    simp only [clD]
    exact congrArg _ (zw_last cs ds (by simpa using h))
  | [], _ :: _, h => by simp at h
  | _ :: _, [], h => by simp at h
theorem p_p_inner_of : ∀ xs R, C_p_inner_of xs R → xs.length = 1 ∧ t_p_inner_of (retD [true] xs R) (beg 6 xs) := by
  rintro xs R ⟨h, ds, rfl, wf, q⟩
  refine ⟨rfl, ?_⟩
  unfold t_p_inner_of
  cases h with
  | pl w ps =>
    obtain ⟨h1, h2, ⟨z, h3, ag⟩, h4, h5, h6⟩ := wf
    refine aSeq_i ?_
    simp only [encH] at q ⊢
    simp_arith []
    refine aSeq_i (aIfS_i ?_)
    simp_arith [c_ANSWERERS, flatD, List.all_cons, List.all_nil, Bool.and_true]
    refine br_f (by simpa [isAn] using h1) ?_
    simp_arith [oKd, h3, sfd, sit, frz_lst]
    have hl := fill_len ps ds h5
    refine lc_pure pickT (fun d hd lim K hlim hk => ?_) (by have := zipD_len (chD z) (fill ps ds); have := sl_eq; omega) ?_
    · obtain ⟨c, o, rfl, ho⟩ := zip_mem ag hd
      simp_arith [sc2]
      by_cases t : PyData.eqv (.str ⟨#[c]⟩) (.str "T") = true
      · simp only [pickT, t, if_true] at hk ⊢
        exact ⟨.inl trivial, hlim, hk⟩
      · simp only [pickT, t, if_false] at hk ⊢
        exact ⟨.inl trivial, hk⟩
    · rw [pick_fill _ _ _ ag h5]
      simp_arith []
      exact q
  | an w wd tx cs =>
    obtain ⟨h1, h2, h3, h4, h5, h6, h7⟩ := wf
    match ds, h7 with
    | d0 :: d1 :: ds, h7 =>
      simp only [encH] at q ⊢
      refine aSeq_i ?_
      simp_arith []
      refine aSeq_i (aIfS_i ?_)
      simp_arith [c_ANSWERERS, flatD, List.all_cons, List.all_nil, Bool.and_true]
      refine br_t (by simpa [isAn] using h1) ?_
      simp_arith [sit]
      have hl : (List.zipWith clD cs ds).length ≤ 12 := by rw [List.length_zipWith]; omega
      refine ⟨by have := sl_eq; omega, ?_⟩
      refine lc_pure (fun d => match d with | .tuple [_, _, _, _, o] => some (.d o) | _ => none) (fun d hd lim K hlim hk => ?_) (by have := sl_eq; omega) ?_
      · obtain ⟨c, o, rfl⟩ := zw_mem hd
        simp only [clD] at hk ⊢
        simp_arith []
        exact ⟨hlim, hk⟩
      · rw [show (List.zipWith clD cs ds).filterMap (fun d => match d with | .tuple [_, _, _, _, o] => some (OV.d o) | _ => none) = ds.map OV.d from zw_last cs ds (by simpa using h7.symm)]
        simp_arith []
        refine ⟨?_, q⟩
        have : ds.length ≤ 12 := by simp at h7; omega
        have := sl_eq
        rw [List.length_map]
        omega
end K45

namespace K45
open PySem L2 Grd Ow PyProof.Rows
/-! the same thing -/
def Pd : Nat → PyData → Prop
  | _, .none => True
  | _, .bool _ => True
  | _, .int _ => True
  | _, .str _ => True
  | n + 1, .list xs => xs.length ≤ 10000000 ∧ ∀ x ∈ xs, Pd n x
  | n + 1, .tuple xs => xs.length ≤ 10000000 ∧ ∀ x ∈ xs, Pd n x
  | _, _ => False
def C_same (n : Nat) : AC := fun xs R => ∃ (x y : OV) (d : PyData), xs = [x, y] ∧ frz x = some d ∧ frz y = some d ∧ Pd n d ∧ R (.d (.bool true)) [.d d, .d d]
theorem zip_same {xs : List PyData} {d : PyData} (h : d ∈ zipD xs xs) : ∃ x, x ∈ xs ∧ d = .tuple [x, x] := by
  unfold zipD at h
  obtain ⟨p, hp, rfl⟩ := List.mem_map.mp h
  have : p.1 = p.2 ∧ p.1 ∈ xs := by
    rw [List.mem_iff_getElem?] at hp
    obtain ⟨i, hi⟩ := hp
    rw [List.getElem?_zip_eq_some] at hi
    refine ⟨?_, List.mem_of_getElem? hi.1⟩
    have := hi.1.symm.trans hi.2
    exact Option.some.inj this
  exact ⟨p.1, this.2, by rw [this.1]⟩
theorem bools_all : ∀ (l : List PyData), boolsOf (l.map fun _ => PyData.bool true) = some (l.map fun _ => true)
  | [] => rfl
  | x :: l => by simp only [List.map_cons, boolsOf, bools_all l, Option.map_some]
theorem fm_const {α β : Type} (b : β) : ∀ l : List α, l.filterMap (fun _ => some b) = l.map fun _ => b
  | [] => rfl
  | x :: l => by simp [fm_const b l]
/-- what a name holds that is fixed when it is read -/
theorem nm_frz {env : En} {i : Nat} {x : OV} {d : PyData} {Q : OV → En → Prop} (h : env[i]? = some (some x)) (f : frz x = some d) (q : Q (.d d) (env.set i (some (.d d)))) : aName i env Q := by
  unfold aName
  rw [h]
  cases x with
  | d y =>
    rw [frz_d] at f
    cases f
    have : env.set i (some (.d d)) = env := by
      refine List.ext_getElem? fun j => ?_
      rw [List.getElem?_set]
      split
      · rename_i e
        subst e
        split
        · exact h.symm
        · rename_i l
          rw [List.getElem?_eq_none (by omega)] at h
          cases h
      · rfl
    rw [this] at q
    exact q
  | n s ys =>
    dsimp only
    rw [f]
    exact q
theorem frz_own {s : Sh} {ys : List OV} {d : PyData} (h : frz (.n s ys) = some d) : (∃ xs, d = .list xs) ∨ ∃ xs, d = .tuple xs := by
  cases s with
  | lst =>
    rw [frz_l] at h
    obtain ⟨xs, _, rfl⟩ := Option.map_eq_some_iff.mp h
    exact .inl ⟨xs, rfl⟩
  | tup =>
    rw [frz_t] at h
    obtain ⟨xs, _, rfl⟩ := Option.map_eq_some_iff.mp h
    exact .inr ⟨xs, rfl⟩
  | dic ks => simp [frz] at h
  | ins C ks => simp [frz] at h
  | ext o => simp [frz] at h
theorem frz_sc {x : OV} {d : PyData} (h : frz x = some d) (n : (∀ xs, d ≠ .list xs) ∧ ∀ xs, d ≠ .tuple xs) : x = .d d := by
  cases x with
  | d y => rw [frz_d] at h; cases h; rfl
  | n s ys =>
    rcases frz_own h with ⟨xs, e⟩ | ⟨xs, e⟩
    · exact (n.1 xs e).elim
    · exact (n.2 xs e).elim
theorem p_same {n : Nat} {C' : AC} (hC : ∀ m, n = m + 1 → C' = C_same m) : ∀ xs R, C_same n xs R → xs.length = 2 ∧ t_same C' (retD [true, true] xs R) (beg 4 xs) := by
  rintro xs R ⟨x, y, d, rfl, fx, fy, pd, q⟩
  refine ⟨rfl, ?_⟩
  unfold t_same
  have l0 : (beg 4 [x, y])[1]? = some (some y) := rfl
  refine aSeq_h (aIfS_i ?_)
  simp only [↓e_aTst, ↓e_a1]
  refine nm_frz l0 fy ?_
  cases d with
  | dict kvs => cases n <;> exact pd.elim
  | list ds =>
    obtain ⟨m, rfl⟩ : ∃ m, n = m + 1 := by
      cases n with
      | zero => exact pd.elim
      | succ m => exact ⟨m, rfl⟩
    obtain rfl := hC m rfl
    obtain ⟨hl, hp⟩ := pd
    simp_arith []
    refine br_t rfl (aSeq_h (aIfS_i ?_))
    simp only [↓e_aOr, ↓e_aTst, ↓e_a2, ↓e_a1]
    refine nm_frz rfl fx ?_
    simp_arith [sc2, PyData.eqv, beq_self_eq_true, Bool.not_true]
    refine ⟨.inl trivial, .inl trivial, br_f rfl ?_⟩
    simp_arith []
    refine hid_i ?_
    simp_arith [sc2, PyData.eqv, beq_self_eq_true, Bool.not_true, sfd, sit]
    refine ⟨.inl trivial, ?_⟩
    have hz : (zipD ds ds).length = ds.length := by unfold zipD; simp
    refine lc_pure (fun _ => some (.d (.bool true))) (fun d hd lim K hlim hk => ?_) (by have := sl_eq; omega) ?_
    · obtain ⟨a, ha, rfl⟩ := zip_same hd
      simp_arith []
      refine ⟨_, _, a, rfl, frz_d a, frz_d a, hp a ha, rfl, ?_⟩
      simp_arith []
      exact ⟨hlim, hk⟩
    · rw [fm_const]
      have e : (zipD ds ds).map (fun _ => OV.d (.bool true)) = ((zipD ds ds).map (fun _ => PyData.bool true)).map OV.d := by rw [List.map_map]; rfl
      rw [e]
      simp_arith [oAll, lfz, bools_all]
      have e2 : ((zipD ds ds).map fun _ => true).all id = true := by simp
      rw [e2]
      exact q
  | tuple ds =>
    obtain ⟨m, rfl⟩ : ∃ m, n = m + 1 := by
      cases n with
      | zero => exact pd.elim
      | succ m => exact ⟨m, rfl⟩
    obtain rfl := hC m rfl
    obtain ⟨hl, hp⟩ := pd
    simp_arith []
    refine br_t rfl (aSeq_h (aIfS_i ?_))
    simp only [↓e_aOr, ↓e_aTst, ↓e_a2, ↓e_a1]
    refine nm_frz rfl fx ?_
    simp_arith [sc2, PyData.eqv, beq_self_eq_true, Bool.not_true]
    refine ⟨.inl trivial, .inl trivial, br_f rfl ?_⟩
    simp_arith []
    refine hid_i ?_
    simp_arith [sc2, PyData.eqv, beq_self_eq_true, Bool.not_true, sfd, sit]
    refine ⟨.inl trivial, ?_⟩
    have hz : (zipD ds ds).length = ds.length := by unfold zipD; simp
    refine lc_pure (fun _ => some (.d (.bool true))) (fun d hd lim K hlim hk => ?_) (by have := sl_eq; omega) ?_
    · obtain ⟨a, ha, rfl⟩ := zip_same hd
      simp_arith []
      refine ⟨_, _, a, rfl, frz_d a, frz_d a, hp a ha, rfl, ?_⟩
      simp_arith []
      exact ⟨hlim, hk⟩
    · rw [fm_const]
      have e : (zipD ds ds).map (fun _ => OV.d (.bool true)) = ((zipD ds ds).map (fun _ => PyData.bool true)).map OV.d := by rw [List.map_map]; rfl
      rw [e]
      simp_arith [oAll, lfz, bools_all]
      have e2 : ((zipD ds ds).map fun _ => true).all id = true := by simp
      rw [e2]
      exact q
  | none =>
    obtain rfl := frz_sc fx ⟨fun _ e => by (cases e), fun _ e => by (cases e)⟩
    simp_arith []
    refine br_f rfl ?_
    simp_arith []
    refine hid_i (aSeq_h (aIfS_i ?_))
    simp_arith []
    refine br_t rfl ?_
    simp_arith []
    exact q
  | bool b =>
    obtain rfl := frz_sc fx ⟨fun _ e => by (cases e), fun _ e => by (cases e)⟩
    simp_arith []
    refine br_f rfl ?_
    simp_arith []
    refine hid_i (aSeq_h (aIfS_i ?_))
    simp_arith []
    refine br_f rfl ?_
    simp_arith []
    refine hid_i (aSeq_h (aIfS_i ?_))
    simp_arith []
    refine br_t rfl ?_
    simp_arith [sc2, PyData.eqv, beq_self_eq_true]
    exact ⟨.inl trivial, .inl trivial, q⟩
  | str b =>
    obtain rfl := frz_sc fx ⟨fun _ e => by (cases e), fun _ e => by (cases e)⟩
    simp_arith []
    refine br_f rfl ?_
    simp_arith []
    refine hid_i (aSeq_h (aIfS_i ?_))
    simp_arith []
    refine br_f rfl ?_
    simp_arith []
    refine hid_i (aSeq_h (aIfS_i ?_))
    simp_arith []
    refine br_t rfl ?_
    simp_arith [sc2, PyData.eqv, beq_self_eq_true]
    exact ⟨.inl trivial, .inl trivial, q⟩
  | int b =>
    obtain rfl := frz_sc fx ⟨fun _ e => by (cases e), fun _ e => by (cases e)⟩
    simp_arith []
    refine br_f rfl ?_
    simp_arith []
    refine hid_i (aSeq_h (aIfS_i ?_))
    simp_arith []
    refine br_f rfl ?_
    simp_arith []
    refine hid_i (aSeq_h (aIfS_i ?_))
    simp_arith []
    refine br_f rfl ?_
    simp_arith []
    refine hid_i ?_
    simp_arith [sc2, PyData.eqv, beq_self_eq_true, Bool.not_false]
    exact ⟨.inl trivial, q⟩
end K45

/-! names -/
namespace K45
open PySem L2 Grd Ow PyProof.Rows
theorem Sg.mono {n m : Nat} {s : Str} (h : Sg n s) (le : n ≤ m) : Sg m s := ⟨Nat.le_trans h.1 le, h.2⟩
theorem len_eq (s : Str) : s.length = s.cps.toList.length := by simp [Str.length]
theorem Sg.app {n m : Nat} {s t : Str} (h : Sg n s) (k : Sg m t) : Sg (n + m) (s ++ t) := by
  have e : (s ++ t).cps.toList = s.cps.toList ++ t.cps.toList := Array.toList_append
  refine ⟨?_, ?_⟩
  · rw [len_eq, e, List.length_append, ← len_eq, ← len_eq]
    have := h.1
    have := k.1
    omega
  · intro c hc
    rw [e] at hc
    rcases List.mem_append.mp hc with hc | hc
    · exact h.2 c hc
    · exact k.2 c hc
theorem Sg.one {c : Nat} (h : c < 0x110000) : Sg 1 ⟨#[c]⟩ := ⟨Nat.le_refl _, fun d hd => by simp at hd; omega⟩
def C_keywords : AC := fun xs R => xs = [] ∧ ∀ ss : List Str, ss.length ≤ 100 → R (.n .lst ((ss.map PyData.str).map .d)) []
theorem p_keywords : ∀ xs R, C_keywords xs R → xs.length = 0 ∧ t_keywords (retD [] xs R) (beg 1 xs) := by
  rintro xs R ⟨rfl, q⟩
  refine ⟨rfl, ?_⟩
  unfold t_keywords
  refine aSeq_i ?_
  simp_arith [oSplit]
  refine ⟨by decide +kernel, ⟨by decide +kernel, by decide +kernel⟩, ?_⟩
  have e : ∀ z : List Str, (z.map fun s => OV.d (.str s)) = (z.map PyData.str).map OV.d := fun z => by rw [List.map_map]; rfl
  rw [e]
  exact q _ (by decide +kernel)
def C_named : AC := fun xs R => ∃ (c m : Nat) (ys : List OV), xs = [.n .lst ys, .d (.int m)] ∧ Box c ys ∧ m ≤ 10 ∧ c + 7 * m < 1000000000000 ∧
  ∀ (ss : List Str) (ys' : List OV), ss.length = m → (∀ s ∈ ss, Sg 6 s) → Box (c + 7 * m) ys' → R (.n .lst ((ss.map PyData.str).map .d)) [.n .lst ys', .d (.int m)]
def lett : Str := "abcdefghijklmnopqrstuvwxyz"
theorem lett_at {r : Int} (h0 : 0 ≤ r) (h1 : r < 26) : ∃ u : Nat, atI lett.cps.toList r = some u ∧ u < 0x110000 := by
  obtain ⟨k, rfl⟩ := Int.eq_ofNat_of_zero_le h0
  rw [atI_lit]
  have hk : k < 26 := by omega
  have l : lett.cps.toList.length = 26 := by decide +kernel
  have e := List.getElem?_eq_getElem (l := lett.cps.toList) (i := k) (by omega)
  refine ⟨_, e, ?_⟩
  have all : ∀ u ∈ lett.cps.toList, u < 0x110000 := by decide +kernel
  exact all _ (List.getElem_mem _)
theorem Sg.join0 : ∀ {ss : List Str}, (∀ s ∈ ss, Sg 1 s) → Sg ss.length (Str.join Str.empty ss)
  | [], _ => ⟨Nat.le_refl _, fun c hc => by simp [Str.join, Str.empty] at hc⟩
  | [x], h => h x (List.mem_cons_self ..)
  | x :: y :: r, h => by
    have ih := Sg.join0 (ss := y :: r) fun s hs => h s (List.mem_cons_of_mem _ hs)
    have e : Str.join Str.empty (x :: y :: r) = x ++ Str.empty ++ Str.join Str.empty (y :: r) := rfl
    rw [e]
    have z : Sg 0 Str.empty := ⟨Nat.le_refl _, fun c hc => by simp [Str.empty] at hc⟩
    have q := ((h x (List.mem_cons_self ..)).app z).app ih
    exact q.mono (by simp only [List.length_cons]; omega)
theorem join_sg {ss : List Str} (h : ∀ s ∈ ss, Sg 1 s) : Sg ss.length (Txt.join "" ss) := by
  have e0 : ("" : Str) = Str.empty := by decide +kernel
  rw [TL.join_eq, e0]
  exact Sg.join0 h
theorem Sg.cut {n : Nat} {s : Str} (h : Sg n s) (k : Nat) : Sg k (cutS s none (some (k : Int))) := by
  unfold cutS
  refine ⟨?_, ?_⟩
  · rw [len_eq]
    show List.length (List.toArray _).toList ≤ k
    rw [List.toList_toArray, HT.sIx_none, HT.sIx_nat, List.length_take]
    omega
  · intro c hc
    rw [List.toList_toArray] at hc
    exact h.2 c (List.mem_of_mem_drop (List.mem_of_mem_take hc))
theorem sum_one : ∀ (l : List Str), (∀ s ∈ l, Sg 1 s) → (l.map (·.length)).sum ≤ l.length
  | [], _ => Nat.le_refl _
  | a :: r, h => by
    have h1 := (h a (List.mem_cons_self ..)).1
    have h2 := sum_one r fun s hs => h s (List.mem_cons_of_mem _ hs)
    simp only [List.map_cons, List.sum_cons, List.length_cons]
    omega
theorem strs_of : ∀ ss : List Str, strsOf (ss.map PyData.str) = some ss
  | [] => rfl
  | s :: ss => by simp only [List.map_cons, strsOf, strs_of ss, Option.map_some]
theorem four_at {r : Int} (h0 : 0 ≤ r) (h1 : r < 4) : ∃ v : Nat, atI [OV.d (.int 1), OV.d (.int 2), OV.d (.int 3), OV.d (.int 6)] r = some (.d (.int (v : Int))) ∧ v ≤ 6 := by
  have h : r = 0 ∨ r = 1 ∨ r = 2 ∨ r = 3 := by omega
  rcases h with rfl | rfl | rfl | rfl
  · exact ⟨1, rfl, by decide⟩
  · exact ⟨2, rfl, by decide⟩
  · exact ⟨3, rfl, by decide⟩
  · exact ⟨6, rfl, by decide⟩
theorem lett_len : lett.length ≤ sizeLine := by decide +kernel
def rngD (n : Nat) : List PyData := (List.range n).map fun (k : Nat) => .int k
theorem rng_at {n : Nat} {done rest : List PyData} {d : PyData} (h : done ++ d :: rest = rngD n) : d = .int done.length ∧ done.length < n := by
  have l : (done ++ d :: rest).length = n := by rw [h]; simp [rngD]
  have e : (done ++ d :: rest)[done.length]? = some d := by simp
  rw [h] at e
  simp only [List.length_append, List.length_cons] at l
  have hn : done.length < n := by omega
  unfold rngD at e
  rw [List.getElem?_map, List.getElem?_range hn] at e
  exact ⟨(Option.some.inj e).symm, hn⟩
theorem rngD_len (n : Nat) : (rngD n).length = n := by simp [rngD]
theorem flat_strs (ss : List Str) : (ss.map PyData.str).all flatD = true := by rw [List.all_map]; exact List.all_eq_true.mpr fun s _ => rfl
theorem p_named : ∀ xs R, C_named xs R → xs.length = 2 ∧ t_named C_take C_keywords (retD [true, true] xs R) (beg 7 xs) := by
  rintro xs R ⟨c, m, ys, rfl, hb, hm, hc, q⟩
  refine ⟨rfl, ?_⟩
  unfold t_named
  refine aSeq_h ?_
  simp_arith []
  refine ⟨by have := sl_eq; omega, by have := sl_eq; omega, hid_i (aSeq_h ?_)⟩
  simp_arith []
  refine ⟨by omega, ?_⟩
  rw [Int.toNat_natCast]
  refine for_run (rngD m) (fun done e => ∃ (ys' : List OV) (ss : List Str) (u4 u5 u6 : Option OV), e = [some (.n .lst ys'), some (.d (.int m)), some (.d (.str lett)), some (.n .lst ((ss.map PyData.str).map .d)), u4, u5, u6] ∧ Box (c + 7 * done.length) ys' ∧ ss.length = done.length ∧ ∀ s ∈ ss, Sg 6 s) ?_ ?_ (rngD m) [] _ rfl ⟨ys, [], none, none, none, rfl, hb, rfl, by simp⟩
  · rintro done d rest e hd ⟨ys1, ss, u4, u5, u6, rfl, hb1, ls, hss⟩ K hK
    obtain ⟨rfl, hn⟩ := rng_at hd
    simp_arith []
    refine aSeq_h ?_
    simp_arith []
    refine ⟨by have := sl_eq; omega, c + 7 * done.length, ys1, 4, rfl, hb1, by omega, by decide, by decide, fun r ys2 r0 r1 hb2 => ⟨rfl, ?_⟩⟩
    obtain ⟨v, av, v6⟩ := four_at r0 r1
    simp_arith []
    simp only [av]
    simp_arith []
    refine ⟨⟨by omega, by omega⟩, ?_⟩
    rw [Int.toNat_natCast]
    refine lc_run (rngD v) (fun dn acc e => ∃ (ys' : List OV) (ts : List Str), e = [some (.n .lst ys'), some (.d (.int m)), some (.d (.str lett)), some (.n .lst ((ss.map PyData.str).map .d)), some (.d (.int done.length)), u5, none] ∧ acc = (ts.map PyData.str).map .d ∧ ts.length = dn.length ∧ (∀ s ∈ ts, Sg 1 s) ∧ Box (c + 7 * done.length + 1 + dn.length) ys') ?_ ?_ (rngD v) [] [] _ rfl ⟨ys2, [], rfl, rfl, rfl, by simp, hb2⟩
    · rintro dn d rest2 acc e hd2 ⟨ys3, ts, rfl, rfl, lt, hts, hb3⟩ K2 hK2
      obtain ⟨rfl, hn2⟩ := rng_at hd2
      simp_arith []
      refine ⟨c + 7 * done.length + 1 + dn.length, ys3, 26, rfl, hb3, by omega, by decide, by decide, fun r' ys4 r0' r1' hb4 => ⟨rfl, ?_⟩⟩
      obtain ⟨u, au, hu⟩ := lett_at r0' r1'
      simp_arith [au]
      refine ⟨lett_len, by simp; have := sl_eq; omega, ?_⟩
      refine hK2 _ _ ⟨ys4, ts ++ [⟨#[u]⟩], rfl, by simp, by simp [lt], fun s hs => ?_, by simpa [Nat.add_assoc] using hb4⟩
      rcases List.mem_append.mp hs with h | h
      · exact hts s h
      · rw [List.mem_singleton.mp h]; exact .one hu
    · rintro acc e ⟨ys3, ts, rfl, rfl, lt, hts, hb3⟩
      rw [rngD_len] at lt hb3
      have sgj := (join_sg hts).mono (m := 6) (by omega)
      have hsum := sum_one ts hts
      have h2 : ("" : Str).length = 0 := by decide +kernel
      simp_arith [oJoin, sfz, strs_of]
      refine ⟨by rw [h2]; omega, hid_i (aSeq_h ?_)⟩
      generalize Txt.join (Str.ofString "") ts = one at sgj ⊢
      have hb4 : Box (c + 7 * (done.length + 1)) ys3 := hb3.mono (by omega)
      clear hb1 hb2 hb3 hsum lt hts av
      simp_arith []
      refine ⟨by simp; omega, ?_⟩
      have ln : ((((ss.map PyData.str).map OV.d).length : Int) + 26).toNat = done.length + 26 := by simp only [List.length_map]; omega
      rw [ln]
      refine for_run (rngD (done.length + 26)) (fun dn e => ∃ (o : Str) (u6 : Option OV), e = [some (.n .lst ys3), some (.d (.int m)), some (.d (.str lett)), some (.n .lst ((ss.map PyData.str).map .d)), some (.d (.int done.length)), some (.d (.str o)), u6] ∧ Sg 6 o) ?_ ?_ (rngD (done.length + 26)) [] _ rfl ⟨one, none, rfl, sgj⟩
      · rintro dn d rest2 e hd2 ⟨o, u7, rfl, sgo⟩ K2 hK2
        obtain ⟨rfl, hn2⟩ := rng_at hd2
        simp_arith []
        refine aIfS_i ?_
        simp_arith []
        refine ⟨rfl, fun ks lk => ⟨rfl, ?_⟩⟩
        simp_arith [dats_map]
        refine ⟨by simp; have := sl_eq; omega, ?_⟩
        rw [← List.map_append]
        simp_arith [flatD]
        refine ⟨.inl (by rw [← List.map_append]; exact flat_strs _), br_i (fun _ => ?_) (fun _ => ?_)⟩
        · obtain ⟨c1, ac1, sg1⟩ := lett_at (r := (dn.length : Int) / 26) (by omega) (by omega)
          obtain ⟨c2, ac2, sg2⟩ := lett_at (r := (dn.length : Int) % 26) (by omega) (by omega)
          have sgc : Sg 4 (cutS o none (some 4)) := sgo.cut 4
          have s1 := sgc.app (Sg.one sg1)
          have s2 := s1.app (Sg.one sg2)
          simp_arith [ac1, ac2]
          refine ⟨by have := sgo.1; have := sl_eq; omega, ⟨by decide, by decide⟩, lett_len, Nat.le_trans (Nat.add_le_add sgc.1 (Sg.one sg1).1) (by decide), by decide, lett_len, Nat.le_trans (Nat.add_le_add s1.1 (Sg.one sg2).1) (by decide), ?_⟩
          exact hK2 _ ⟨_, _, rfl, s2⟩
        · simp_arith []
          exact hK2 _ ⟨_, _, rfl, sgo⟩
      · rintro e ⟨o, u7, rfl, sgo⟩
        simp_arith []
        refine hid_i ?_
        simp_arith []
        refine ⟨by simp; have := sl_eq; omega, hK _ ⟨ys3, ss ++ [o], some (.d (.int done.length)), some (.d (.str o)), u7, by simp, ?_, by simp [ls], ?_⟩⟩
        · simpa using hb4
        · intro s hs
          rcases List.mem_append.mp hs with h | h
          · exact hss s h
          · rw [List.mem_singleton.mp h]; exact sgo
  · rintro e ⟨ys1, ss, u4, u5, u6, rfl, hb1, ls, hss⟩
    rw [rngD_len] at hb1 ls
    simp_arith []
    refine hid_i ?_
    simp_arith []
    exact q ss ys1 ls hss hb1
end K45

/-! any terms -/
namespace K45
open PySem L2 Grd Ow PyProof.Rows
abbrev sl (ss : List Str) : PyData := .list (ss.map .str)
def rm : Nat → Nat
  | 0 => 1
  | n + 1 => (4 * rm n + 3) / 3
def ct : Nat → Nat
  | 0 => 3
  | n + 1 => 5 * ct n + 200
def q3 (r : Nat) : Nat := 2 * (max 1 r * max 1 r) - 1
theorem q3_pos (r : Nat) : 1 ≤ q3 r := by
  unfold q3
  have h : 1 ≤ max 1 r := by omega
  have := Nat.mul_le_mul h h
  omega
theorem q_34 : ∀ r, r < 36 → 2 ≤ r → q3 (r * 3 / 4) + 1 ≤ q3 r := by decide +kernel
theorem q_2 : ∀ r, r < 36 → 2 ≤ r → 2 * q3 ((r - 1) / 2) + 1 ≤ q3 r := by decide +kernel
theorem q_if : ∀ r, r < 36 → 2 ≤ r → q3 ((r - 1) / 2) + 2 * q3 ((r - 1) / 2 / 2) + 1 ≤ q3 r := by decide +kernel
theorem q_wd : ∀ r, r < 36 → 2 ≤ r → q3 ((r - 1) / 2) + q3 (min 2 ((r - 1) / 2)) + 1 ≤ q3 r := by decide +kernel
theorem q_an : ∀ r, r < 36 → 2 ≤ r → 3 * q3 (max 1 (r / 3)) + q3 (min 3 (max 1 (r / 3))) + 1 ≤ q3 r := by decide +kernel
structure Pre (n c : Nat) (ns hs ds : List Str) (r : Nat) : Prop where
  r1 : r ≤ rm n
  r2 : r ≤ 35
  nn : ∀ s ∈ ns, Sg 2 s
  nl : ns.length + 3 * n ≤ 60
  hh : ∀ s ∈ hs, Sg 2 s
  hl : hs.length + n ≤ 60
  dd : ∀ s ∈ ds, Sg 6 s
  d0 : 0 < ds.length
  dl : ds.length ≤ 12
  cc : c + ct n ≤ 100000000000
def CA (n : Nat) : AC := fun xs R => ∃ (c r : Nat) (ys : List OV) (ns hs ds : List Str) (ri : Int), xs = [.n .lst ys, .d (sl ns), .d (sl hs), .d (sl ds), .d (.int ri)] ∧ ri = r ∧ Box c ys ∧ Pre n c ns hs ds r ∧
  ∀ t ys', Ok (n + 1) t → sz t ≤ q3 r → Box (c + ct n) ys' → R (.d (enc t)) [.n .lst ys', .d (sl ns), .d (sl hs), .d (sl ds), .d (.int ri)]
abbrev fx3 : List Bool := [false, true, true, true, false]
theorem use_any {n : Nat} {ys : List OV} {X1 X2 X3 : OV} {ns hs ds : List Str} {ri : Int} {K : OV → List OV → Prop} (c r : Nat) (h1 : frz X1 = some (sl ns)) (h2 : frz X2 = some (sl hs)) (h3 : frz X3 = some (sl ds)) (hr : ri = r) (hb : Box c ys)
    (p : Pre n c ns hs ds r) (q : ∀ t ys', Ok (n + 1) t → sz t ≤ q3 r → Box (c + ct n) ys' → K (.d (enc t)) [.n .lst ys', .d (sl ns), .d (sl hs), .d (sl ds), .d (.int ri)]) : fixC fx3 (CA n) [.n .lst ys, X1, X2, X3, .d (.int ri)] K :=
  ⟨[.n .lst ys, .d (sl ns), .d (sl hs), .d (sl ds), .d (.int ri)], by simp [fixL, h1, h2, h3], c, r, ys, ns, hs, ds, ri, rfl, hr, hb, p, q⟩
/-- answerers, of rooms that are two at least -/
def CW (n : Nat) : AC := fun xs R => ∃ (c r : Nat) (ys : List OV) (ns hs ds : List Str) (ri : Int), xs = [.n .lst ys, .d (sl ns), .d (sl hs), .d (sl ds), .d (.int ri)] ∧ ri = r ∧ 2 ≤ r ∧ Box c ys ∧ Pre (n + 1) 0 ns hs ds r ∧ c + 4 * ct n + 50 ≤ 100000000000 ∧
  ∀ t ys', Ok (n + 2) t → sz t ≤ q3 r → Box (c + 4 * ct n + 50) ys' → R (.d (enc t)) [.n .lst ys', .d (sl ns), .d (sl hs), .d (sl ds), .d (.int ri)]
def agreeB : List Nat → List (Option PyData) → Bool
  | [], [] => true
  | c :: cs, p :: ps => (p.isNone == (c == 84)) && agreeB cs ps
  | _, _ => false
theorem agree_of : ∀ (cs : List Nat) (ps : List (Option PyData)), agreeB cs ps = true → Agree (cs.map fun c => PyData.str ⟨#[c]⟩) ps
  | [], [], _ => trivial
  | c :: cs, p :: ps, h => by
    rw [agreeB, Bool.and_eq_true] at h
    refine ⟨⟨c, rfl, ?_⟩, agree_of cs ps h.2⟩
    have := beq_iff_eq.mp h.1
    rw [this, beq_iff_eq]
  | [], _ :: _, h => by cases h
  | _ :: _, [], h => by cases h
theorem wf_pl {w z : Str} {ps : List (Option PyData)} {n : Nat} (h3 : k_SHAPES.lookup w = some (.str z)) (h4 : agreeB z.cps.toList ps = true) (h5 : ∀ p d, p ∈ ps → p = some d → AtmW w d) (h6 : nones ps = n) (h7 : ps.length ≤ 3)
    (h1 : isAn w = false) (h2 : Sg 7 w) : WFh (.pl w ps) n := ⟨h1, h2, ⟨z, h3, agree_of _ _ h4⟩, h5, h6, h7⟩
theorem at_nil {w : Str} : ∀ (p : Option PyData) (d : PyData), p ∈ ([] : List (Option PyData)) → p = some d → AtmW w d := fun p d h => by simp at h
theorem atS {w x : Str} (h : Sg 7 x) (n : w ≠ "num") : AtmW w (.str x) := ⟨h, n⟩
theorem at_some {w : Str} {a : PyData} {ps : List (Option PyData)} (h : AtmW w a) (t : ∀ p d, p ∈ ps → p = some d → AtmW w d) : ∀ p d, p ∈ some a :: ps → p = some d → AtmW w d := fun p d hp e => by
  rcases List.mem_cons.mp hp with rfl | hp
  · cases e; exact h
  · exact t p d hp e
theorem at_none {w : Str} {ps : List (Option PyData)} (t : ∀ p d, p ∈ ps → p = some d → AtmW w d) : ∀ p d, p ∈ none :: ps → p = some d → AtmW w d := fun p d hp e => by
  rcases List.mem_cons.mp hp with rfl | hp
  · cases e
  · exact t p d hp e
theorem sg_of {w : Str} {n : Nat} (h : (decide (w.length ≤ n) && w.cps.toList.all (· < 0x110000)) = true) : Sg n w := by
  rw [Bool.and_eq_true] at h
  refine ⟨by simpa using h.1, fun c hc => ?_⟩
  have := List.all_eq_true.mp h.2 c hc
  simpa using this
/-- the trees of all words -/
def Tnum (i : Int) : Tr := .mk (.pl "num" [some (.int i)]) []
def Tname (x : Str) : Tr := .mk (.pl "name" [some (.str x)]) []
def Tfun (x : Str) (t : Tr) : Tr := .mk (.pl "fun" [some (.str x), none]) [t]
def Trec (f x : Str) (t : Tr) : Tr := .mk (.pl "rec" [some (.str f), some (.str x), none]) [t]
def Tcall (a b : Tr) : Tr := .mk (.pl "call" [none, none]) [a, b]
def Tlet (x : Str) (a b : Tr) : Tr := .mk (.pl "let" [some (.str x), none, none]) [a, b]
def Top (o : Str) (a b : Tr) : Tr := .mk (.pl "op" [some (.str o), none, none]) [a, b]
def Tif (a b c : Tr) : Tr := .mk (.pl "if" [none, none, none]) [a, b, c]
def Ttwo (a b : Tr) : Tr := .mk (.pl "two" [none, none]) [a, b]
def Tfirst (a : Tr) : Tr := .mk (.pl "first" [none]) [a]
def Tsecond (a : Tr) : Tr := .mk (.pl "second" [none]) [a]
def Task (d : Str) (a : Tr) : Tr := .mk (.pl "ask" [some (.str d), none]) [a]
def Taskof (h d : Str) (a : Tr) : Tr := .mk (.pl "askof" [some (.str h), some (.str d), none]) [a]
def Tpast (d : Str) (a : Tr) : Tr := .mk (.pl "past" [some (.str d), none]) [a]
def Tpastof (h : Str) (a : Tr) : Tr := .mk (.pl "pastof" [some (.str h), none]) [a]
def Tward (a b : Tr) : Tr := .mk (.pl "ward" [none, none]) [a, b]
theorem oc1 {n : Nat} {a : Tr} (h : Ok n a) : ∀ c ∈ [a], Ok n c := fun c hc => by rw [List.mem_singleton.mp hc]; exact h
theorem oc2 {n : Nat} {a b : Tr} (h : Ok n a) (k : Ok n b) : ∀ c ∈ [a, b], Ok n c := fun c hc => by
  rcases List.mem_cons.mp hc with rfl | hc
  · exact h
  · exact oc1 k c hc
theorem oc3 {n : Nat} {a b d : Tr} (h : Ok n a) (k : Ok n b) (l : Ok n d) : ∀ c ∈ [a, b, d], Ok n c := fun c hc => by
  rcases List.mem_cons.mp hc with rfl | hc
  · exact h
  · exact oc2 k l c hc
section
variable {n : Nat} {a b d : Tr} {x f o : Str}
theorem ok_num {i : Int} (h : 0 ≤ i) (k : i < 1000) : Ok (n + 1) (Tnum i) := ⟨wf_pl (z := "n") rfl rfl (at_some ⟨⟨h, k⟩, rfl⟩ at_nil) rfl (by simp) (by decide +kernel) (sg_of (by decide +kernel)), fun c hc => by simp at hc⟩
theorem ok_name (h : Sg 7 x) : Ok (n + 1) (Tname x) := ⟨wf_pl (z := "x") (by kernel_rfl) rfl (at_some (atS h (by decide +kernel)) at_nil) rfl (by simp) (by decide +kernel) (sg_of (by decide +kernel)), fun c hc => by simp at hc⟩
theorem ok_fun (h : Sg 7 x) (ha : Ok n a) : Ok (n + 1) (Tfun x a) := ⟨wf_pl (z := "xT") (by kernel_rfl) rfl (at_some (atS h (by decide +kernel)) (at_none at_nil)) rfl (by simp) (by decide +kernel) (sg_of (by decide +kernel)), oc1 ha⟩
theorem ok_rec (h : Sg 7 f) (h2 : Sg 7 x) (ha : Ok n a) : Ok (n + 1) (Trec f x a) := ⟨wf_pl (z := "xxT") (by kernel_rfl) rfl (at_some (atS h (by decide +kernel)) (at_some (atS h2 (by decide +kernel)) (at_none at_nil))) rfl (by simp) (by decide +kernel) (sg_of (by decide +kernel)), oc1 ha⟩
theorem ok_call (ha : Ok n a) (hb : Ok n b) : Ok (n + 1) (Tcall a b) := ⟨wf_pl (z := "TT") (by kernel_rfl) rfl (at_none (at_none at_nil)) rfl (by simp) (by decide +kernel) (sg_of (by decide +kernel)), oc2 ha hb⟩
theorem ok_let (h : Sg 7 x) (ha : Ok n a) (hb : Ok n b) : Ok (n + 1) (Tlet x a b) := ⟨wf_pl (z := "xTT") (by kernel_rfl) rfl (at_some (atS h (by decide +kernel)) (at_none (at_none at_nil))) rfl (by simp) (by decide +kernel) (sg_of (by decide +kernel)), oc2 ha hb⟩
theorem ok_op (h : Sg 7 o) (ha : Ok n a) (hb : Ok n b) : Ok (n + 1) (Top o a b) := ⟨wf_pl (z := "oTT") (by kernel_rfl) rfl (at_some (atS h (by decide +kernel)) (at_none (at_none at_nil))) rfl (by simp) (by decide +kernel) (sg_of (by decide +kernel)), oc2 ha hb⟩
theorem ok_if (ha : Ok n a) (hb : Ok n b) (hd : Ok n d) : Ok (n + 1) (Tif a b d) := ⟨wf_pl (z := "TTT") (by kernel_rfl) rfl (at_none (at_none (at_none at_nil))) rfl (by simp) (by decide +kernel) (sg_of (by decide +kernel)), oc3 ha hb hd⟩
theorem ok_two (ha : Ok n a) (hb : Ok n b) : Ok (n + 1) (Ttwo a b) := ⟨wf_pl (z := "TT") (by kernel_rfl) rfl (at_none (at_none at_nil)) rfl (by simp) (by decide +kernel) (sg_of (by decide +kernel)), oc2 ha hb⟩
theorem ok_first (ha : Ok n a) : Ok (n + 1) (Tfirst a) := ⟨wf_pl (z := "T") (by kernel_rfl) rfl (at_none at_nil) rfl (by simp) (by decide +kernel) (sg_of (by decide +kernel)), oc1 ha⟩
theorem ok_second (ha : Ok n a) : Ok (n + 1) (Tsecond a) := ⟨wf_pl (z := "T") (by kernel_rfl) rfl (at_none at_nil) rfl (by simp) (by decide +kernel) (sg_of (by decide +kernel)), oc1 ha⟩
theorem ok_ask (h : Sg 7 x) (ha : Ok n a) : Ok (n + 1) (Task x a) := ⟨wf_pl (z := "xT") (by kernel_rfl) rfl (at_some (atS h (by decide +kernel)) (at_none at_nil)) rfl (by simp) (by decide +kernel) (sg_of (by decide +kernel)), oc1 ha⟩
theorem ok_askof (h : Sg 7 f) (h2 : Sg 7 x) (ha : Ok n a) : Ok (n + 1) (Taskof f x a) := ⟨wf_pl (z := "xxT") (by kernel_rfl) rfl (at_some (atS h (by decide +kernel)) (at_some (atS h2 (by decide +kernel)) (at_none at_nil))) rfl (by simp) (by decide +kernel) (sg_of (by decide +kernel)), oc1 ha⟩
theorem ok_past (h : Sg 7 x) (ha : Ok n a) : Ok (n + 1) (Tpast x a) := ⟨wf_pl (z := "xT") (by kernel_rfl) rfl (at_some (atS h (by decide +kernel)) (at_none at_nil)) rfl (by simp) (by decide +kernel) (sg_of (by decide +kernel)), oc1 ha⟩
theorem ok_pastof (h : Sg 7 x) (ha : Ok n a) : Ok (n + 1) (Tpastof x a) := ⟨wf_pl (z := "xT") (by kernel_rfl) rfl (at_some (atS h (by decide +kernel)) (at_none at_nil)) rfl (by simp) (by decide +kernel) (sg_of (by decide +kernel)), oc1 ha⟩
theorem ok_ward (ha : Ok n a) (hb : Ok n b) : Ok (n + 1) (Tward a b) := ⟨wf_pl (z := "TT") (by kernel_rfl) rfl (at_none (at_none at_nil)) rfl (by simp) (by decide +kernel) (sg_of (by decide +kernel)), oc2 ha hb⟩
end
theorem szs_nil : szs [] = 0 := by rw [szs]
theorem szs_cons (t : Tr) (ts : List Tr) : szs (t :: ts) = sz t + szs ts := by rw [szs]
theorem sz_mk (h : Hd) (ch : List Tr) : sz (.mk h ch) = szs ch + 1 := by rw [sz]
end K45

/-! any terms: the draw -/
namespace K45
open PySem L2 Grd Ow PyProof.Rows
theorem or_br {t u : AS} {D : AD} {e : En} {p : Prop} [Decidable p] {b : Bool} {S : Prop} (hS : S) (h1 : t D e) (h2 : ¬ p → b = false → u D e) : if p then brB t u D true e else S ∧ brB t u D b e := by
  by_cases h : p
  · rw [if_pos h]; exact h1
  · rw [if_neg h]
    exact ⟨hS, br_i (fun _ => h1) (h2 h)⟩
theorem fm_some {α β : Type} (g : α → β) : ∀ l : List α, l.filterMap (fun x => some (g x)) = l.map g
  | [] => rfl
  | x :: l => by simp [fm_some g l]
theorem enc_num (i : Int) : enc (Tnum i) = .tuple [.str "num", .int i] := by rw [Tnum, enc_mk]; rfl
theorem enc_name (x : Str) : enc (Tname x) = .tuple [.str "name", .str x] := by rw [Tname, enc_mk]; rfl
theorem sz_num (i : Int) : sz (Tnum i) = 1 := by rw [Tnum, sz_mk, szs_nil]
theorem sz_name (x : Str) : sz (Tname x) = 1 := by rw [Tname, sz_mk, szs_nil]
/-- a draw that is at most m more -/
theorem Box.on {c d : Nat} {ys : List OV} (h : Box c ys) (l : c ≤ d) : Box d ys := h.mono l
theorem abcd_sg {u : Nat} (h : u ∈ ("abcd" : Str).cps.toList) : Sg 2 ⟨#[u]⟩ := (Sg.one ((by decide +kernel : ∀ u ∈ ("abcd" : Str).cps.toList, u < 0x110000) u h)).mono (by decide)
theorem efgh_sg {u : Nat} (h : u ∈ ("efgh" : Str).cps.toList) : Sg 2 ⟨#[u]⟩ := (Sg.one ((by decide +kernel : ∀ u ∈ ("efgh" : Str).cps.toList, u < 0x110000) u h)).mono (by decide)
theorem enc_fun (x : Str) (a : Tr) : enc (Tfun x a) = .tuple [.str "fun", .str x, enc a] := by rw [Tfun, enc_mk]; rfl
theorem sz_fun (x : Str) (a : Tr) : sz (Tfun x a) = sz a + 1 := by simp only [Tfun, sz_mk, szs_cons, szs_nil] <;> omega
theorem enc_rec (f x : Str) (a : Tr) : enc (Trec f x a) = .tuple [.str "rec", .str f, .str x, enc a] := by rw [Trec, enc_mk]; rfl
theorem sz_rec (f x : Str) (a : Tr) : sz (Trec f x a) = sz a + 1 := by simp only [Trec, sz_mk, szs_cons, szs_nil] <;> omega
theorem enc_call (a b : Tr) : enc (Tcall a b) = .tuple [.str "call", enc a, enc b] := by rw [Tcall, enc_mk]; rfl
theorem sz_call (a b : Tr) : sz (Tcall a b) = sz a + sz b + 1 := by simp only [Tcall, sz_mk, szs_cons, szs_nil] <;> omega
theorem enc_let (x : Str) (a b : Tr) : enc (Tlet x a b) = .tuple [.str "let", .str x, enc a, enc b] := by rw [Tlet, enc_mk]; rfl
theorem sz_let (x : Str) (a b : Tr) : sz (Tlet x a b) = sz a + sz b + 1 := by simp only [Tlet, sz_mk, szs_cons, szs_nil] <;> omega
theorem enc_op (o : Str) (a b : Tr) : enc (Top o a b) = .tuple [.str "op", .str o, enc a, enc b] := by rw [Top, enc_mk]; rfl
theorem sz_op (o : Str) (a b : Tr) : sz (Top o a b) = sz a + sz b + 1 := by simp only [Top, sz_mk, szs_cons, szs_nil] <;> omega
theorem enc_if (a b d : Tr) : enc (Tif a b d) = .tuple [.str "if", enc a, enc b, enc d] := by rw [Tif, enc_mk]; rfl
theorem sz_if (a b d : Tr) : sz (Tif a b d) = sz a + sz b + sz d + 1 := by simp only [Tif, sz_mk, szs_cons, szs_nil] <;> omega
theorem enc_two (a b : Tr) : enc (Ttwo a b) = .tuple [.str "two", enc a, enc b] := by rw [Ttwo, enc_mk]; rfl
theorem sz_two (a b : Tr) : sz (Ttwo a b) = sz a + sz b + 1 := by simp only [Ttwo, sz_mk, szs_cons, szs_nil] <;> omega
theorem enc_first (a : Tr) : enc (Tfirst a) = .tuple [.str "first", enc a] := by rw [Tfirst, enc_mk]; rfl
theorem sz_first (a : Tr) : sz (Tfirst a) = sz a + 1 := by simp only [Tfirst, sz_mk, szs_cons, szs_nil] <;> omega
theorem enc_second (a : Tr) : enc (Tsecond a) = .tuple [.str "second", enc a] := by rw [Tsecond, enc_mk]; rfl
theorem sz_second (a : Tr) : sz (Tsecond a) = sz a + 1 := by simp only [Tsecond, sz_mk, szs_cons, szs_nil] <;> omega
theorem enc_ask (x : Str) (a : Tr) : enc (Task x a) = .tuple [.str "ask", .str x, enc a] := by rw [Task, enc_mk]; rfl
theorem sz_ask (x : Str) (a : Tr) : sz (Task x a) = sz a + 1 := by simp only [Task, sz_mk, szs_cons, szs_nil] <;> omega
theorem enc_askof (f x : Str) (a : Tr) : enc (Taskof f x a) = .tuple [.str "askof", .str f, .str x, enc a] := by rw [Taskof, enc_mk]; rfl
theorem sz_askof (f x : Str) (a : Tr) : sz (Taskof f x a) = sz a + 1 := by simp only [Taskof, sz_mk, szs_cons, szs_nil] <;> omega
theorem enc_past (x : Str) (a : Tr) : enc (Tpast x a) = .tuple [.str "past", .str x, enc a] := by rw [Tpast, enc_mk]; rfl
theorem sz_past (x : Str) (a : Tr) : sz (Tpast x a) = sz a + 1 := by simp only [Tpast, sz_mk, szs_cons, szs_nil] <;> omega
theorem enc_pastof (x : Str) (a : Tr) : enc (Tpastof x a) = .tuple [.str "pastof", .str x, enc a] := by rw [Tpastof, enc_mk]; rfl
theorem sz_pastof (x : Str) (a : Tr) : sz (Tpastof x a) = sz a + 1 := by simp only [Tpastof, sz_mk, szs_cons, szs_nil] <;> omega
theorem enc_ward (a b : Tr) : enc (Tward a b) = .tuple [.str "ward", enc a, enc b] := by rw [Tward, enc_mk]; rfl
theorem sz_ward (a b : Tr) : sz (Tward a b) = sz a + sz b + 1 := by simp only [Tward, sz_mk, szs_cons, szs_nil] <;> omega
theorem frz_one (ns : List Str) (x : Str) : frz (.n .lst ((ns.map PyData.str).map OV.d ++ [.d (.str x)])) = some (sl (ns ++ [x])) := by
  have e : (ns.map PyData.str).map OV.d ++ [.d (.str x)] = ((ns ++ [x]).map PyData.str).map OV.d := by simp
  rw [e, frz_lst]
theorem frz_two (ns : List Str) (x y : Str) : frz (.n .lst ((ns.map PyData.str).map OV.d ++ [.d (.str x), .d (.str y)])) = some (sl (ns ++ [x, y])) := by
  have e : (ns.map PyData.str).map OV.d ++ [.d (.str x), .d (.str y)] = ((ns ++ [x, y]).map PyData.str).map OV.d := by simp
  rw [e, frz_lst]
theorem Pre.sub {m c c' : Nat} {ns ns' hs hs' ds : List Str} {r r' : Nat} (p : Pre (m + 1) c ns hs ds r) (h1 : r' ≤ rm m) (h2 : r' ≤ 35) (hn : ∀ s ∈ ns', Sg 2 s) (ln : ns'.length ≤ ns.length + 3) (hh : ∀ s ∈ hs', Sg 2 s) (lh : hs'.length ≤ hs.length + 1) (hc : c' + ct m ≤ 100000000000) : Pre m c' ns' hs' ds r' :=
  ⟨h1, h2, hn, by have := p.nl; omega, hh, by have := p.hl; omega, p.dd, p.d0, p.dl, hc⟩
theorem app1 {ns : List Str} {x : Str} (h : ∀ s ∈ ns, Sg 2 s) (k : Sg 2 x) : ∀ s ∈ ns ++ [x], Sg 2 s := fun s hs => by
  rcases List.mem_append.mp hs with h' | h'
  · exact h s h'
  · rw [List.mem_singleton.mp h']; exact k
theorem app2 {ns : List Str} {x y : Str} (h : ∀ s ∈ ns, Sg 2 s) (k : Sg 2 x) (l : Sg 2 y) : ∀ s ∈ ns ++ [x, y], Sg 2 s := fun s hs => by
  rcases List.mem_append.mp hs with h' | h'
  · exact h s h'
  · rcases List.mem_cons.mp h' with rfl | h'
    · exact k
    · rw [List.mem_singleton.mp h']; exact l
theorem p_any {n : Nat} {C_any C_ans : AC} (hA : ∀ m, n = m + 1 → C_any = fixC fx3 (CA m) ∧ C_ans = fixC fx3 (CW m)) : ∀ xs R, CA n xs R → xs.length = 5 ∧ t_any C_take C_one_of C_any C_ans (retD [true, true, true, true, true] xs R) (beg 15 xs) := by
  rintro xs R ⟨c, r, ys, ns, hs, ds, ri, rfl, hr, hb, pre, q⟩
  refine ⟨rfl, ?_⟩
  have pcc := pre.cc
  have p3 : 3 ≤ ct n := by cases n <;> simp only [ct] <;> omega
  unfold t_any
  refine aSeq_h ?_
  simp_arith []
  refine ⟨c, ys, 18, rfl, hb, by omega, by decide, by decide, fun way ys1 w0 w1 hb1 => ⟨rfl, ?_⟩⟩
  simp_arith []
  refine hid_i (aSeq_h (aIfS_i ?_))
  simp_arith [sc2]
  refine or_br (.inl trivial) ?_ ?_
  · refine aSeq_h ?_
    simp_arith []
    refine ⟨c + 1, ys1, 4, rfl, hb1, by omega, by decide, by decide, fun k ys2 k0 k1 hb2 => ⟨rfl, ?_⟩⟩
    simp_arith [sit]
    refine ⟨by have := sl_eq; omega, by have := sl_eq; omega, ?_⟩
    have nl := pre.nl
    refine lc_pure (fun d => some (.d (.tuple [.str "name", d]))) (fun d hd lim K hlim hk => ?_) (by simp; have := sl_eq; omega) ?_
    · simp_arith []
      exact ⟨by have := sl_eq; omega, hlim, hk⟩
    · rw [fm_some]
      have e1 : (ns.map PyData.str).map (fun d => OV.d (.tuple [.str "name", d])) = ((ns.map PyData.str).map (fun d => PyData.tuple [.str "name", d])).map OV.d := by rw [List.map_map (f := fun d => PyData.tuple [.str "name", d])]; rfl
      rw [e1]
      simp_arith []
      refine ⟨⟨by decide, by decide, ?_⟩, ?_, ?_⟩
      · simp only [List.length_map]
        have := sl_eq
        have e2 : Int.toNat 2 = 2 := rfl
        rw [e2]
        omega
      · simp
        have := sl_eq
        omega
      refine hid_i ?_
      simp_arith []
      have e2 : Int.toNat 2 = 2 := rfl
      rw [e2]
      refine ⟨c + 2, ys2, _, rfl, hb2, by omega, .inl ⟨.tuple [.str "num", .int k] :: (List.replicate 2 ((ns.map PyData.str).map (fun d => PyData.tuple [.str "name", d]))).flatten, .inl rfl, by simp, ?_, ?_⟩⟩
      · simp
        omega
      · intro d ys3 hd hb3
        refine ⟨rfl, ?_⟩
        simp_arith []
        have hb4 : Box (c + ct n) ys3 := hb3.mono (by omega)
        have good : ∃ t, d = enc t ∧ Ok (n + 1) t ∧ sz t = 1 := by
          rcases List.mem_cons.mp hd with rfl | hd
          · exact ⟨Tnum k, (enc_num k).symm, ok_num k0 (by omega), sz_num k⟩
          · have : ∃ s ∈ ns, d = .tuple [.str "name", .str s] := by
              simp only [List.mem_flatten, List.mem_replicate] at hd
              obtain ⟨l, ⟨_, rfl⟩, hd⟩ := hd
              simp only [List.mem_map] at hd
              obtain ⟨_, ⟨s, hs, rfl⟩, rfl⟩ := hd
              exact ⟨s, hs, rfl⟩
            obtain ⟨s, hs, rfl⟩ := this
            exact ⟨Tname s, (enc_name s).symm, ok_name ((pre.nn s hs).mono (by decide)), sz_name s⟩
        obtain ⟨t, rfl, o, sz1⟩ := good
        exact q t ys3 o (by rw [sz1]; exact q3_pos r) hb4
  · intro h2 _
    have r2 : 2 ≤ r := by omega
    obtain ⟨m, rfl⟩ : ∃ m, n = m + 1 := by
      cases n with
      | zero => have := pre.r1; simp only [rm] at this; omega
      | succ m => exact ⟨m, rfl⟩
    obtain ⟨rfl, rfl⟩ := hA m rfl
    have rb := pre.r1
    simp only [rm] at rb
    simp only [ct] at pcc q
    have p35 := pre.r2
    simp_arith []
    refine hid_i (aSeq_h ?_)
    simp_arith []
    refine ⟨_, _, _, rfl, hb1, by omega, .inr ⟨"abcd", rfl, by decide +kernel, by decide +kernel, fun u1 ys2 hu1 hb2 => ⟨rfl, ?_⟩⟩⟩
    have sx := abcd_sg hu1
    generalize (⟨#[u1]⟩ : Str) = x at sx ⊢
    simp_arith []
    refine ⟨_, _, _, rfl, hb2, by omega, .inr ⟨"efgh", rfl, by decide +kernel, by decide +kernel, fun u2 ys3 hu2 hb3 => ⟨rfl, ?_⟩⟩⟩
    have sy := efgh_sg hu2
    generalize (⟨#[u2]⟩ : Str) = y at sy ⊢
    simp_arith []
    refine hid_i (aSeq_h ?_)
    simp_arith []
    have d0 := pre.d0
    have dl := pre.dl
    refine ⟨⟨by decide, by decide⟩, _, _, _, rfl, hb3, by omega, .inl ⟨ds.map PyData.str, .inr rfl, by simp; omega, by simp; omega, fun dd ys4 hd hb4 => ⟨rfl, ?_⟩⟩⟩
    obtain ⟨deed, hdeed, rfl⟩ := List.mem_map.mp hd
    have sd := (pre.dd deed hdeed).mono (m := 7) (by decide)
    have sx7 := sx.mono (m := 7) (by decide)
    have sy7 := sy.mono (m := 7) (by decide)
    simp_arith []
    refine ⟨by have := sl_eq; omega, ?_⟩
    generalize ep : (ri - 1) / 2 = pi
    have hp : pi = ((r - 1) / 2 : Nat) := by omega
    refine hid_i (aSeq_h (aIfS_i ?_))
    simp_arith []
    have hb5 := hb4
    have l35 : r < 36 := by omega
    have nlen : ∀ z : Str, (ns ++ [z]).length ≤ ns.length + 3 := fun z => by simp
    refine br_i (fun _ => ?_) (fun _ => ?_)
    · simp_arith []
      have nl := pre.nl
      refine ⟨by have := sl_eq; omega, by simp; have := sl_eq; omega, mul_small (by omega) (by omega), ⟨by decide, by decide⟩, ?_⟩
      refine use_any _ (r * 3 / 4) (frz_one ns x) (frz_d _) (frz_d _) (by omega) hb5 (pre.sub (by omega) (by omega) (app1 pre.nn sx) (by simp) pre.hh (by omega) (by omega)) fun t ys5 o z hb6 => ⟨rfl, ?_⟩
      simp_arith []
      refine ⟨by have := sl_eq; omega, ?_⟩
      have g := q (Tfun x t) ys5 (ok_fun sx7 o) (by rw [sz_fun]; have := q_34 r l35 r2; omega) (hb6.mono (by omega))
      rw [enc_fun] at g
      exact g
    simp_arith []
    refine hid_i (aSeq_h (aIfS_i ?_))
    simp_arith [sc2]
    refine ⟨.inl trivial, br_i (fun _ => ?_) (fun _ => ?_)⟩
    · simp_arith []
      have nl := pre.nl
      refine ⟨by have := sl_eq; omega, by simp; have := sl_eq; omega, mul_small (by omega) (by omega), ⟨by decide, by decide⟩, ?_⟩
      refine use_any _ (r * 3 / 4) (frz_two ns x y) (frz_d _) (frz_d _) (by omega) hb5 (pre.sub (by omega) (by omega) (app2 pre.nn sx sy) (by simp) pre.hh (by omega) (by omega)) fun t ys5 o z hb6 => ⟨rfl, ?_⟩
      simp_arith []
      refine ⟨by have := sl_eq; omega, ?_⟩
      have g := q (Trec y x t) ys5 (ok_rec sy7 sx7 o) (by rw [sz_rec]; have := q_34 r l35 r2; omega) (hb6.mono (by omega))
      rw [enc_rec] at g
      exact g
    simp_arith []
    refine hid_i (aSeq_h ?_)
    simp_arith []
    refine use_any _ ((r - 1) / 2) (frz_d _) (frz_d _) (frz_d _) hp hb5 (pre.sub (by omega) (by omega) pre.nn (by omega) pre.hh (by omega) (by omega)) fun one ys5 o1 z1 hb6 => ⟨rfl, ?_⟩
    simp_arith []
    refine hid_i (aSeq_h (aIfS_i ?_))
    simp_arith []
    refine br_i (fun _ => ?_) (fun _ => ?_)
    · simp_arith []
      refine use_any _ ((r - 1) / 2) (frz_d _) (frz_d _) (frz_d _) hp hb6 (pre.sub (by omega) (by omega) pre.nn (by omega) pre.hh (by omega) (by omega)) fun two ys6 o2 z2 hb7 => ⟨rfl, ?_⟩
      simp_arith []
      refine ⟨by have := sl_eq; omega, ?_⟩
      have g := q (Tcall one two) ys6 (ok_call o1 o2) (by rw [sz_call]; have := q_2 r l35 r2; omega) (hb7.mono (by omega))
      rw [enc_call] at g
      exact g
    simp_arith []
    refine hid_i (aSeq_h (aIfS_i ?_))
    simp_arith [sc2]
    refine ⟨.inl trivial, br_i (fun _ => ?_) (fun _ => ?_)⟩
    · simp_arith []
      have nl := pre.nl
      refine ⟨by have := sl_eq; omega, by simp; have := sl_eq; omega, ?_⟩
      refine use_any _ ((r - 1) / 2) (frz_one ns x) (frz_d _) (frz_d _) hp hb6 (pre.sub (by omega) (by omega) (app1 pre.nn sx) (by simp) pre.hh (by omega) (by omega)) fun two ys6 o2 z2 hb7 => ⟨rfl, ?_⟩
      simp_arith []
      refine ⟨by have := sl_eq; omega, ?_⟩
      have g := q (Tlet x one two) ys6 (ok_let sx7 o1 o2) (by rw [sz_let]; have := q_2 r l35 r2; omega) (hb7.mono (by omega))
      rw [enc_let] at g
      exact g
    simp_arith []
    refine hid_i (aSeq_h (aIfS_i ?_))
    simp_arith []
    refine br_i (fun _ => ?_) (fun _ => ?_)
    · refine aSeq_h ?_
      simp_arith []
      refine use_any _ ((r - 1) / 2) (frz_d _) (frz_d _) (frz_d _) hp hb6 (pre.sub (by omega) (by omega) pre.nn (by omega) pre.hh (by omega) (by omega)) fun two ys6 o2 z2 hb7 => ⟨rfl, ?_⟩
      simp_arith []
      refine ⟨by have := sl_eq; omega, _, _, _, rfl, hb7, by omega, .inl ⟨[.str "plus", .str "less", .str "times", .str "below"], .inl rfl, by decide, by decide, fun wd ys7 hwd hb8 => ⟨rfl, ?_⟩⟩⟩
      obtain ⟨word, rfl, sw⟩ : ∃ word : Str, wd = .str word ∧ Sg 7 word := by
        simp only [List.mem_cons, List.not_mem_nil, or_false] at hwd
        rcases hwd with rfl | rfl | rfl | rfl
        · exact ⟨_, rfl, sg_of (by decide +kernel)⟩
        · exact ⟨_, rfl, sg_of (by decide +kernel)⟩
        · exact ⟨_, rfl, sg_of (by decide +kernel)⟩
        · exact ⟨_, rfl, sg_of (by decide +kernel)⟩
      simp_arith []
      refine hid_i ?_
      simp_arith [sc2]
      refine ⟨.inl trivial, ifB (fun _ => ?_) (fun _ => ?_)⟩
      · refine ⟨by have := sl_eq; omega, ?_⟩
        have g := q (Ttwo one two) ys7 (ok_two o1 o2) (by rw [sz_two]; have := q_2 r l35 r2; omega) (hb8.mono (by omega))
        rw [enc_two] at g
        exact g
      · refine ⟨by have := sl_eq; omega, ?_⟩
        have g := q (Top word one two) ys7 (ok_op sw o1 o2) (by rw [sz_op]; have := q_2 r l35 r2; omega) (hb8.mono (by omega))
        rw [enc_op] at g
        exact g
    simp_arith []
    refine hid_i (aSeq_h (aIfS_i ?_))
    simp_arith [sc2]
    refine ⟨.inl trivial, br_i (fun _ => ?_) (fun _ => ?_)⟩
    · simp_arith []
      refine ⟨⟨by decide, by decide⟩, ?_⟩
      refine use_any _ ((r - 1) / 2 / 2) (frz_d _) (frz_d _) (frz_d _) (by omega) hb6 (pre.sub (by omega) (by omega) pre.nn (by omega) pre.hh (by omega) (by omega)) fun two ys6 o2 z2 hb7 => ⟨rfl, ?_⟩
      simp_arith []
      refine ⟨⟨by decide, by decide⟩, ?_⟩
      refine use_any _ ((r - 1) / 2 / 2) (frz_d _) (frz_d _) (frz_d _) (by omega) hb7 (pre.sub (by omega) (by omega) pre.nn (by omega) pre.hh (by omega) (by omega)) fun thr ys7 o3 z3 hb8 => ⟨rfl, ?_⟩
      simp_arith []
      refine ⟨by have := sl_eq; omega, ?_⟩
      have g := q (Tif one two thr) ys7 (ok_if o1 o2 o3) (by rw [sz_if]; have := q_if r l35 r2; omega) (hb8.mono (by omega))
      rw [enc_if] at g
      exact g
    simp_arith []
    refine hid_i (aSeq_h (aIfS_i ?_))
    simp_arith []
    refine br_i (fun _ => ?_) (fun _ => ?_)
    · refine aSeq_h ?_
      simp_arith []
      refine ⟨by have := sl_eq; omega, by have := sl_eq; omega, by have := sl_eq; omega, by have := sl_eq; omega, by have := sl_eq; omega, by have := sl_eq; omega, hid_i (aSeq_h ?_)⟩
      simp_arith [sit]
      have hl := pre.hl
      have zz : ∀ t : Tr, sz t = sz one + 1 → sz t ≤ q3 r := fun t e => by have := q_2 r l35 r2; omega
      refine lc_run (hs.map PyData.str) (fun dn acc e => ∃ (ys' : List OV) (es : List PyData), e = [some (.n .lst ys'), some (.d (sl ns)), some (.d (sl hs)), some (.d (sl ds)), some (.d (.int ri)), some (.d (.int way)), some (.d (.list [.tuple [.str "first", enc one], .tuple [.str "second", enc one], .tuple [.str "ask", .str deed, enc one], .tuple [.str "ask", .str deed, enc one], .tuple [.str "past", .str deed, enc one]])), some (.d (.str x)), some (.d (.str y)), some (.d (.int pi)), some (.d (.str deed)), some (.d (enc one)), none, none, none] ∧
        acc = es.map .d ∧ es.length = dn.length ∧ (∀ d ∈ es, ∃ t, d = enc t ∧ Ok (m + 2) t ∧ sz t = sz one + 1) ∧ Box (c + 1 + 1 + 1 + 1 + ct m + dn.length) ys') ?_ ?_ (hs.map PyData.str) [] [] _ rfl ⟨ys5, [], rfl, rfl, rfl, by simp, hb6⟩
      · rintro dn d rest acc e hd ⟨ys', es, rfl, rfl, le, hes, hbx⟩ K hK
        have ld : dn.length < hs.length := by
          have := congrArg List.length hd
          simp at this
          omega
        obtain ⟨h, hh, rfl⟩ : ∃ h, h ∈ hs ∧ d = .str h := by
          have : d ∈ hs.map PyData.str := by rw [← hd]; simp
          obtain ⟨h, hh, rfl⟩ := List.mem_map.mp this
          exact ⟨h, hh, rfl⟩
        have sh := (pre.hh h hh).mono (m := 7) (by decide)
        simp_arith []
        refine ⟨by have := sl_eq; omega, by have := sl_eq; omega, by have := sl_eq; omega, _, _, _, rfl, hbx, by omega, by decide, by decide, fun k ys7 k0 k1 hb7 => ⟨rfl, ?_⟩⟩
        simp_arith []
        have hk : k = 0 ∨ k = 1 := by omega
        rcases hk with rfl | rfl
        · simp_arith []
          refine ⟨by simp; have := sl_eq; omega, hK _ _ ⟨ys7, es ++ [enc (Taskof h deed one)], rfl, by simp [enc_askof], by simp [le], fun d hd => ?_, by simpa [Nat.add_assoc] using hb7⟩⟩
          rcases List.mem_append.mp hd with hd | hd
          · exact hes d hd
          · rw [List.mem_singleton.mp hd]; exact ⟨_, rfl, ok_askof sh sd o1, sz_askof _ _ _⟩
        · simp_arith []
          refine ⟨by simp; have := sl_eq; omega, hK _ _ ⟨ys7, es ++ [enc (Tpastof h one)], rfl, by simp [enc_pastof], by simp [le], fun d hd => ?_, by simpa [Nat.add_assoc] using hb7⟩⟩
          rcases List.mem_append.mp hd with hd | hd
          · exact hes d hd
          · rw [List.mem_singleton.mp hd]; exact ⟨_, rfl, ok_pastof sh o1, sz_pastof _ _⟩
      · rintro acc e ⟨ys', es, rfl, rfl, le, hes, hbx⟩
        rw [List.length_map] at le hbx
        simp_arith []
        refine ⟨by simp; have := sl_eq; omega, hid_i ?_⟩
        have eL : (OV.d (.tuple [.str "first", enc one]) :: OV.d (.tuple [.str "second", enc one]) :: OV.d (.tuple [.str "ask", .str deed, enc one]) :: OV.d (.tuple [.str "ask", .str deed, enc one]) :: OV.d (.tuple [.str "past", .str deed, enc one]) :: es.map OV.d) = (([Tfirst one, Tsecond one, Task deed one, Task deed one, Tpast deed one].map enc) ++ es).map OV.d := by
          simp [enc_first, enc_second, enc_ask, enc_past]
        rw [eL]
        have all : ∀ d ∈ ([Tfirst one, Tsecond one, Task deed one, Task deed one, Tpast deed one].map enc) ++ es, ∃ t, d = enc t ∧ Ok (m + 2) t ∧ sz t = sz one + 1 := by
          intro d hd
          rcases List.mem_append.mp hd with hd | hd
          · simp only [List.map_cons, List.map_nil, List.mem_cons, List.not_mem_nil, or_false] at hd
            rcases hd with rfl | rfl | rfl | rfl | rfl
            · exact ⟨_, rfl, ok_first o1, sz_first _⟩
            · exact ⟨_, rfl, ok_second o1, sz_second _⟩
            · exact ⟨_, rfl, ok_ask sd o1, sz_ask _ _⟩
            · exact ⟨_, rfl, ok_ask sd o1, sz_ask _ _⟩
            · exact ⟨_, rfl, ok_past sd o1, sz_past _ _⟩
          · exact hes d hd
        have len : (([Tfirst one, Tsecond one, Task deed one, Task deed one, Tpast deed one].map enc) ++ es).length = hs.length + 5 := by simp [le]
        generalize ([Tfirst one, Tsecond one, Task deed one, Task deed one, Tpast deed one].map enc) ++ es = L at all len ⊢
        simp_arith []
        refine ⟨_, _, _, rfl, hbx, by omega, by simp; omega, by simp; omega, fun k ys7 k0 k1 hb7 => ⟨rfl, ?_⟩⟩
        simp_arith []
        obtain ⟨kk, rfl⟩ := Int.eq_ofNat_of_zero_le k0
        have hk : kk < L.length := by simp at k1; omega
        rw [ixN_lit (by simp; omega)]
        have e3 : (L.map OV.d)[kk]? = some (.d L[kk]) := by simp [hk]
        simp only [e3]
        obtain ⟨t, et, ot, st⟩ := all _ (List.getElem_mem hk)
        rw [et]
        exact q t ys7 ot (zz t st) (hb7.mono (by omega))
    simp_arith []
    refine hid_i (aSeq_h (aIfS_i ?_))
    simp_arith [sc2]
    refine ⟨.inl trivial, br_i (fun _ => ?_) (fun _ => ?_)⟩
    · simp_arith []
      have hmin : (if pi < 2 then pi else 2) = ((min 2 ((r - 1) / 2) : Nat) : Int) := by split <;> omega
      refine use_any _ (min 2 ((r - 1) / 2)) (frz_d _) (frz_d _) (frz_d _) hmin hb6 (pre.sub (by omega) (by omega) pre.nn (by omega) pre.hh (by omega) (by omega)) fun two ys6 o2 z2 hb7 => ⟨rfl, ?_⟩
      simp_arith []
      refine ⟨by have := sl_eq; omega, ?_⟩
      have g := q (Tward one two) ys6 (ok_ward o1 o2) (by rw [sz_ward]; have := q_wd r l35 r2; omega) (hb7.mono (by omega))
      rw [enc_ward] at g
      exact g
    simp_arith []
    refine hid_i ?_
    simp_arith []
    refine ⟨[.n .lst ys5, .d (sl ns), .d (sl hs), .d (sl ds), .d (.int ri)], by simp [fixL], _, r, ys5, ns, hs, ds, ri, rfl, hr, r2, hb6, ?_, by omega, ?_⟩
    · exact ⟨pre.r1, pre.r2, pre.nn, pre.nl, pre.hh, pre.hl, pre.dd, pre.d0, pre.dl, by simp only [ct]; omega⟩
    · intro t ys6 ot st hb7
      exact ⟨rfl, q t ys6 ot st (hb7.mono (by omega))⟩
end K45

/-! any answerers -/
namespace K45
open PySem L2 Grd Ow PyProof.Rows
theorem strs_ex : ∀ (es : List PyData) (ds : List Str), (∀ d ∈ es, d ∈ ds.map PyData.str) → ∃ zs : List Str, es = zs.map PyData.str ∧ ∀ s ∈ zs, s ∈ ds
  | [], ds, h => ⟨[], rfl, by simp⟩
  | d :: es, ds, h => by
    obtain ⟨zs, rfl, hz⟩ := strs_ex es ds fun d hd => h d (by simp [hd])
    obtain ⟨s, hs, rfl⟩ := List.mem_map.mp (h d (by simp))
    refine ⟨s :: zs, rfl, fun t ht => ?_⟩
    rcases List.mem_cons.mp ht with rfl | ht
    · exact hs
    · exact hz t ht
theorem one_str {l : List Str} {wd : PyData} {n : Nat} (h : wd ∈ l.map PyData.str) (k : (l.all fun w => decide (w.length ≤ n) && w.cps.toList.all (· < 0x110000)) = true) : ∃ w : Str, wd = .str w ∧ w ∈ l ∧ Sg n w := by
  obtain ⟨w, hw, rfl⟩ := List.mem_map.mp h
  exact ⟨w, rfl, hw, sg_of (List.all_eq_true.mp k w hw)⟩
theorem pick_how {p1 p2 : Prop} [Decidable p1] [Decidable p2] {S1 S2 : Prop} {k : En → Prop} (e : Str → En) (P : Str → Prop) {a b : Str} (h1 : S1) (h2 : S2) (sa : Sg 7 a) (sb : Sg 7 b) (pa : P a) (pb1 : ¬ p1 → P b) (pb2 : ¬ p2 → P b) (h : ∀ how, Sg 7 how → P how → k (e how)) : S1 ∧ if p1 then S2 ∧ if p2 then k (e a) else k (e b) else k (e b) := by
  refine ⟨h1, ifB (fun _ => ⟨h2, ifB (fun _ => h a sa pa) (fun n => h b sb (pb2 n))⟩) (fun n => h b sb (pb1 n))⟩
theorem eqv_s2 (a b : Str) : PyData.eqv (.str a) (.str b) = decide (a = b) := by
  simp only [PyData.eqv]
  by_cases h : a = b
  · subst h; simp
  · simp [h]
theorem one_ne (u : Nat) : (⟨#[u]⟩ : Str) ≠ ("" : Str) := fun e => by
  have h := congrArg Str.length e
  rw [show Str.length (⟨#[u]⟩ : Str) = 1 from rfl, show Str.length ("" : Str) = 0 from by decide +kernel] at h
  cases h
def Gq (way : Str) (c : Cl) : Prop := c.c ≠ ("" : Str) ∧ (c.b = ("many" : Str) → c.e ≠ ("" : Str)) ∧ (c.b ≠ ("many" : Str) → c.e = ("" : Str)) ∧ (way = ("shallow" : Str) → c.b ≠ ("quick" : Str))
theorem mul_k {b : Bool} : MulOk "k" (if b = true then 1 else 0) ∧ Sg 1 (Txt.mul "k" (if b = true then 1 else 0)) := by
  cases b with
  | true => exact ⟨by unfold MulOk; decide +kernel, sg_of (by decide +kernel)⟩
  | false => exact ⟨by unfold MulOk; decide +kernel, sg_of (by decide +kernel)⟩
theorem frz_around (ns : List Str) (x : Str) (b : Bool) : ∃ ar : List Str, frz (.n .lst ((ns.map PyData.str).map OV.d ++ [.d (.str x)] ++ (List.replicate (Int.toNat (if b = true then 1 else 0)) [PyData.str "k"]).flatten.map OV.d)) = some (sl ar) ∧ (∀ s ∈ ar, s ∈ ns ∨ s = x ∨ s = "k") ∧ ar.length ≤ ns.length + 2 := by
  cases b with
  | true =>
    refine ⟨ns ++ [x, "k"], ?_, fun s hs => ?_, by simp⟩
    · show frz (.n .lst ((ns.map PyData.str).map OV.d ++ [.d (.str x)] ++ [.d (.str "k")])) = _
      rw [List.append_assoc]
      exact frz_two ns x "k"
    · simp only [List.mem_append, List.mem_cons, List.not_mem_nil, or_false] at hs
      exact hs
  | false =>
    refine ⟨ns ++ [x], ?_, fun s hs => ?_, by simp⟩
    · show frz (.n .lst ((ns.map PyData.str).map OV.d ++ [.d (.str x)] ++ [])) = _
      rw [List.append_nil]
      exact frz_one ns x
    · simp only [List.mem_append, List.mem_cons, List.not_mem_nil, or_false] at hs
      rcases hs with h | h
      · exact .inl h
      · exact .inr (.inl h)
theorem zw_app : ∀ (cs : List Cl) (ds : List PyData) (c : Cl) (d : PyData), cs.length = ds.length → List.zipWith clD (cs ++ [c]) (ds ++ [d]) = List.zipWith clD cs ds ++ [clD c d]
  | [], [], c, d, h => rfl
  | a :: cs, b :: ds, c, d, h => by simp [zw_app cs ds c d (by simpa using h)]
  | [], _ :: _, c, d, h => by simp at h
  | _ :: _, [], c, d, h => by simp at h
theorem szs_app : ∀ (a b : List Tr), szs (a ++ b) = szs a + szs b
  | [], b => by simp [szs_nil]
  | t :: a, b => by rw [List.cons_append, szs_cons, szs_cons, szs_app a b]; omega
theorem enc_an (w wd tx : Str) (cs : List Cl) (a b : Tr) (bs : List Tr) : enc (.mk (.an w wd tx cs) (a :: b :: bs)) = .tuple [.str w, .str wd, enc a, .tuple [.str tx, enc b], .tuple (List.zipWith clD cs (bs.map enc))] := by rw [enc_mk]; rfl
theorem p_any_answerer {n : Nat} : ∀ xs R, CW n xs R → xs.length = 5 ∧ t_any_answerer C_one_of (fixC fx3 (CA n)) C_strewn C_take (retD [true, true, true, true, true] xs R) (beg 15 xs) := by
  rintro xs R ⟨c, r, ys, ns, hs, ds, ri, rfl, hr, r2, hb, pre, hcc, q⟩
  refine ⟨rfl, ?_⟩
  have rb := pre.r1
  simp only [rm] at rb
  have p35 := pre.r2
  have l35 : r < 36 := by omega
  have nl := pre.nl
  have hl := pre.hl
  have d0 := pre.d0
  have dl := pre.dl
  have rm1 : 1 ≤ rm n := by cases n <;> simp only [rm] <;> omega
  have p3 : 3 ≤ ct n := by cases n <;> simp only [ct] <;> omega
  unfold t_any_answerer
  refine aSeq_h ?_
  simp_arith []
  refine ⟨by have := sl_eq; omega, _, _, _, rfl, hb, by omega, .inl ⟨[("deep" : Str), "shallow", "under"].map PyData.str, .inl rfl, by decide, by decide, fun wd ys1 hwd hb1 => ⟨rfl, ?_⟩⟩⟩
  obtain ⟨way, rfl, hway, sway⟩ := one_str (n := 7) hwd (by decide +kernel)
  simp_arith []
  refine ⟨_, _, _, rfl, hb1, by omega, .inr ⟨"abcd", rfl, by decide +kernel, by decide +kernel, fun u1 ys2 hu1 hb2 => ⟨rfl, ?_⟩⟩⟩
  have sx := abcd_sg hu1
  have xne := one_ne u1
  generalize (⟨#[u1]⟩ : Str) = x at sx xne ⊢
  have sx7 := sx.mono (m := 7) (by decide)
  simp_arith []
  refine ⟨⟨by decide, by decide⟩, ?_⟩
  have hp : (if ri / 3 > 1 then ri / 3 else 1) = ((max 1 (r / 3) : Nat) : Int) := by split <;> omega
  generalize (if ri / 3 > 1 then ri / 3 else 1) = pi at hp ⊢
  have hq := q_an r l35 r2
  generalize ep : max 1 (r / 3) = p at hp hq
  have hp2 : p ≤ rm n := by omega
  have hp3 : p ≤ 35 := by omega
  refine hid_i (aSeq_h ?_)
  simp_arith [sc2]
  refine ⟨by have := sl_eq; omega, .inl trivial, ⟨?_, ?_, ?_⟩, ?_, by have := sl_eq; omega, ?_⟩
  · split <;> decide
  · split <;> decide
  · have := sl_eq
    split <;> simp <;> omega
  · have := sl_eq
    split <;> simp <;> omega
  generalize eb : PyData.eqv (.str way) (.str "under") = isU
  obtain ⟨inn, einn, hinn, linn⟩ : ∃ inn : List Str, frz (.n .lst ((hs.map PyData.str).map OV.d ++ (List.replicate (Int.toNat (if isU = true then 1 else 0)) [PyData.str x]).flatten.map OV.d)) = some (sl inn) ∧ (∀ s ∈ inn, Sg 2 s) ∧ inn.length ≤ hs.length + 1 := by
    cases isU with
    | true => exact ⟨hs ++ [x], frz_one hs x, app1 pre.hh sx, by simp⟩
    | false =>
      refine ⟨hs, ?_, pre.hh, by omega⟩
      show frz (.n .lst ((hs.map PyData.str).map OV.d ++ [])) = _
      rw [List.append_nil, frz_lst]
  refine hid_i (aSeq_h ?_)
  simp_arith []
  refine use_any _ p (frz_d _) einn (frz_d _) hp hb2 (pre.sub hp2 hp3 pre.nn (by omega) hinn linn (by omega)) fun made ys3 o1 z1 hb3 => ⟨rfl, ?_⟩
  simp_arith []
  refine hid_i (aSeq_h ?_)
  simp_arith []
  have hmin : (if pi < 3 then pi else 3) = ((min 3 p : Nat) : Int) := by split <;> omega
  refine ⟨by have := sl_eq; omega, by simp; have := sl_eq; omega, ?_⟩
  refine use_any _ (min 3 p) (frz_one ns x) (frz_d _) (frz_d _) hmin hb3 (pre.sub (by omega) (by omega) (app1 pre.nn sx) (by simp) pre.hh (by omega) (by omega)) fun told ys4 o2 z2 hb4 => ⟨rfl, ?_⟩
  simp_arith []
  refine ⟨by have := sl_eq; omega, hid_i (aSeq_h ?_)⟩
  simp_arith []
  refine ⟨_, _, _, ds.map PyData.str, rfl, .inr rfl, hb4, by simp; omega, by simp; omega, fun es ys5 hpm hb5 => ⟨rfl, ?_⟩⟩
  rw [List.length_map] at hb5
  obtain ⟨zs, rfl, hz⟩ := strs_ex es ds fun d hd => hpm.mem_iff.mp hd
  simp_arith []
  refine ⟨_, _, _, rfl, hb5, by omega, by decide, by decide, fun k ys6 k0 k1 hb6 => ⟨rfl, ?_⟩⟩
  obtain ⟨kk, rfl⟩ := Int.eq_ofNat_of_zero_le k0
  have ecut : cut ((zs.map PyData.str).map OV.d) none (some (kk : Int)) = ((zs.take kk).map PyData.str).map OV.d := by rw [cut_to, List.map_take, List.map_take]
  have ltk : (zs.take kk).length ≤ 2 := by rw [List.length_take]; omega
  simp_arith [ecut, oSorted, sfz, strs_of]
  refine ⟨by omega, fun srt hsp hss => ?_⟩
  have hsr : ∀ s ∈ srt, Sg 6 s := fun s hs => pre.dd s (hz s (List.mem_of_mem_take (hsp.mem_iff.mp hs)))
  have lsr : srt.length ≤ 2 := by rw [hsp.length_eq]; exact ltk
  simp_arith [sit]
  refine for_run (srt.map PyData.str) (fun dn e => ∃ (ys' : List OV) (cs : List Cl) (bs : List Tr) (u12 u13 u14 : Option OV), e = [some (.n .lst ys'), some (.d (sl ns)), some (.d (sl hs)), some (.d (sl ds)), some (.d (.int ri)), some (.d (.str way)), some (.d (.str x)), some (.d (.int pi)), some (.d (sl inn)), some (.n .lst ((List.zipWith clD cs (bs.map enc)).map .d)), some (.d (enc made)), some (.d (.tuple [.str x, enc told])), u12, u13, u14] ∧
      cs.length = dn.length ∧ bs.length = dn.length ∧ (∀ c ∈ cs, (Sg 7 c.a ∧ Sg 7 c.b ∧ Sg 7 c.c ∧ Sg 7 c.e) ∧ Gq way c) ∧ (∀ b ∈ bs, Ok (n + 1) b) ∧ szs bs ≤ dn.length * q3 p ∧ Box (c + 1 + 1 + ct n + ct n + ds.length + 1 + dn.length * (ct n + 1)) ys') ?_ ?_ (srt.map PyData.str) [] _ rfl ⟨ys6, [], [], none, none, none, rfl, rfl, rfl, by simp, by simp, by simp [szs_nil], by simpa using hb6⟩
  · rintro dn d rest e hd ⟨ys7, cs, bs, u12, u13, u14, rfl, lc, lb, hcs, hbs, hsz, hb7⟩ K hK
    have ld : dn.length < srt.length := by
      have := congrArg List.length hd
      simp at this
      omega
    obtain ⟨deed, hdd, rfl⟩ : ∃ h, h ∈ srt ∧ d = .str h := by
      have : d ∈ srt.map PyData.str := by rw [← hd]; simp
      obtain ⟨h, hh, rfl⟩ := List.mem_map.mp this
      exact ⟨h, hh, rfl⟩
    have sdd := (hsr deed hdd).mono (m := 7) (by decide)
    have bnd : dn.length * (ct n + 1) ≤ 1 * (ct n + 1) := Nat.mul_le_mul_right _ (by omega)
    simp_arith []
    refine aSeq_h ?_
    simp_arith []
    refine ⟨by have := sl_eq; omega, _, _, _, rfl, hb7, by omega, .inl ⟨[("many" : Str), "many", "end", "quick"].map PyData.str, .inl rfl, by decide, by decide, fun wd ys8 hwd hb8 => ⟨rfl, ?_⟩⟩⟩
    obtain ⟨how0, rfl, hhow0, showw0⟩ := one_str (n := 7) hwd (by decide +kernel)
    simp_arith []
    refine hid_i (aSeq_h ?_)
    simp_arith [sc2]
    refine pick_how (fun how => [some (.n .lst ys8), some (.d (sl ns)), some (.d (sl hs)), some (.d (sl ds)), some (.d (.int ri)), some (.d (.str way)), some (.d (.str x)), some (.d (.int pi)), some (.d (sl inn)), some (.n .lst ((List.zipWith clD cs (bs.map enc)).map .d)), some (.d (enc made)), some (.d (.tuple [.str x, enc told])), some (.d (.str deed)), some (.d (.str how)), u14]) (fun how => way = ("shallow" : Str) → how ≠ ("quick" : Str)) (.inl trivial) (.inl trivial) (sg_of (by decide +kernel)) showw0 (fun _ => by decide +kernel) (fun n _ e => n (by rw [e]; decide +kernel)) (fun n e => absurd (by rw [e]; decide +kernel) n) fun how showw hshow => hid_i (aSeq_h ?_)
    simp_arith [sc2]
    generalize eqm : PyData.eqv (.str how) (.str "many") = isM
    obtain ⟨ar, ear, har, lar⟩ := frz_around ns x isM
    have har1 : ∀ s ∈ ar, Sg 2 s := fun s hs => by
      rcases har s hs with h | rfl | rfl
      · exact pre.nn s h
      · exact sx
      · exact sg_of (by decide +kernel)
    refine ⟨by have := sl_eq; omega, by simp; have := sl_eq; omega, by have := sl_eq; omega, .inl trivial, ⟨?_, ?_, ?_⟩, ?_, ?_⟩
    · split <;> decide
    · split <;> decide
    · have := sl_eq
      split <;> simp <;> omega
    · have := sl_eq
      split <;> simp <;> omega
    refine hid_i ?_
    simp_arith [sc2, eqm]
    refine ⟨.inl trivial, mul_k.1, ?_⟩
    have lcb : cs.length = (bs.map enc).length := by simp; omega
    refine use_any _ p ear (frz_d _) (frz_d _) hp hb8 (pre.sub hp2 hp3 har1 (by omega) pre.hh (by omega) (by omega)) fun body ys9 o3 z3 hb9 => ⟨rfl, ?_⟩
    simp_arith []
    refine ⟨by have := sl_eq; omega, by simp; have := sl_eq; omega, hK _ ⟨ys9, cs ++ [⟨deed, how, x, Txt.mul "k" (if isM = true then 1 else 0)⟩], bs ++ [body], some (.d (.str deed)), some (.d (.str how)), some (.d (sl ar)), ?_, by simp [lc], by simp [lb], ?_, ?_, ?_, ?_⟩⟩
    · rw [List.map_append, List.map_cons, List.map_nil, zw_app _ _ _ _ lcb, List.map_append]
      rfl
    · intro c' hc'
      rcases List.mem_append.mp hc' with h | h
      · exact hcs c' h
      · rw [List.mem_singleton.mp h]
        refine ⟨⟨sdd, showw, sx7, mul_k.2.mono (by decide)⟩, xne, fun e => ?_, fun e => ?_, hshow⟩
        · have e' : isM = true := by rw [← eqm, eqv_s2]; exact decide_eq_true e
          subst e'
          show Txt.mul ("k" : Str) (if true = true then 1 else 0) ≠ ("" : Str)
          decide +kernel
        · have e' : isM = false := by rw [← eqm, eqv_s2]; exact decide_eq_false e
          subst e'
          show Txt.mul ("k" : Str) (if false = true then 1 else 0) = ("" : Str)
          decide +kernel
    · intro b hb'
      rcases List.mem_append.mp hb' with h | h
      · exact hbs b h
      · rw [List.mem_singleton.mp h]; exact o3
    · rw [szs_app, szs_cons, szs_nil]
      simp only [List.length_append, List.length_cons, List.length_nil, Nat.add_mul, Nat.one_mul]
      omega
    · refine hb9.mono ?_
      simp only [List.length_append, List.length_cons, List.length_nil, Nat.add_mul, Nat.one_mul, Nat.mul_add, Nat.mul_one]
      omega
  · rintro e ⟨ys7, cs, bs, u12, u13, u14, rfl, lc, lb, hcs, hbs, hsz, hb7⟩
    rw [List.length_map] at lc lb hsz hb7
    have bnd : srt.length * (ct n + 1) ≤ 2 * (ct n + 1) := Nat.mul_le_mul_right _ lsr
    have bnd2 : srt.length * q3 p ≤ 2 * q3 p := Nat.mul_le_mul_right _ lsr
    have hbz : Box (c + 4 * ct n + 50) ys7 := hb7.mono (by omega)
    have okc : ∀ c ∈ made :: told :: bs, Ok (n + 1) c := fun c hc => by
      rcases List.mem_cons.mp hc with rfl | hc
      · exact o1
      · rcases List.mem_cons.mp hc with rfl | hc
        · exact o2
        · exact hbs c hc
    have szc : ∀ h, sz (.mk h (made :: told :: bs)) ≤ q3 r := fun h => by
      rw [sz_mk, szs_cons, szs_cons]
      omega
    simp_arith []
    refine hid_i (aSeq_h (aIfS_i ?_))
    simp_arith [sc2]
    refine ⟨.inl trivial, br_i (fun _ => ?_) (fun _ => ?_)⟩
    · simp_arith [oTuple, dats_map]
      refine ⟨by have := sl_eq; omega, ?_⟩
      have g := q (.mk (.an "under" x x cs) (made :: told :: bs)) ys7 ⟨⟨by decide +kernel, sg_of (by decide +kernel), sx7, sx7, fun c hc => (hcs c hc).1, ⟨by omega, fun c hc => ⟨(hcs c hc).2.1, (hcs c hc).2.2.1, (hcs c hc).2.2.2.1, fun e => absurd e (by decide +kernel)⟩⟩, by simp; omega⟩, okc⟩ (szc _) hbz
      rw [enc_an] at g
      exact g
    · simp_arith []
      refine hid_i ?_
      simp_arith [oTuple, dats_map]
      refine ⟨by have := sl_eq; omega, ?_⟩
      have g := q (.mk (.an "handle" way x cs) (made :: told :: bs)) ys7 ⟨⟨by decide +kernel, sg_of (by decide +kernel), sway, sx7, fun c hc => (hcs c hc).1, ⟨by omega, fun c hc => ⟨(hcs c hc).2.1, (hcs c hc).2.2.1, (hcs c hc).2.2.2.1, fun _ e => (hcs c hc).2.2.2.2 e⟩⟩, by simp; omega⟩, okc⟩ (szc _) hbz
      rw [enc_an] at g
      exact g
end K45

/-! terms as data: how long, how deep; places -/
namespace K45
open PySem L2 Grd Ow PyProof.Rows
theorem sz_pos (t : Tr) : 0 < sz t := by
  cases t with
  | mk h ch => rw [sz]; omega
theorem szs_len : ∀ ts : List Tr, ts.length ≤ szs ts
  | [] => by simp [szs]
  | t :: ts => by
    have := szs_len ts
    have := sz_pos t
    rw [szs, List.length_cons]
    omega
theorem szs_mem : ∀ {ts : List Tr} {t : Tr}, t ∈ ts → sz t ≤ szs ts
  | t :: ts, u, h => by
    rw [szs]
    rcases List.mem_cons.mp h with rfl | h
    · omega
    · have := szs_mem h
      omega
structure Fine (d : PyData) (w n : Nat) : Prop where
  sh : d.showable = true
  le : d.leavesShort 13 = true
  cl : d.canLay0 = true
  we : d.weight ≤ w
  de : d.depth ≤ n
structure FineA (ds : List PyData) (w n : Nat) : Prop where
  sh : PyData.showableAll ds = true
  le : PyData.leavesShortAll 13 ds = true
  cl : PyData.canLayAll0 ds = true
  we : PyData.weightAll ds ≤ w
  de : PyData.depthAll ds ≤ n
theorem Fine.mono {d : PyData} {w n v m : Nat} (h : Fine d w n) (a : w ≤ v) (b : n ≤ m) : Fine d v m := ⟨h.sh, h.le, h.cl, Nat.le_trans h.we a, Nat.le_trans h.de b⟩
theorem FineA.mono {d : List PyData} {w n v m : Nat} (h : FineA d w n) (a : w ≤ v) (b : n ≤ m) : FineA d v m := ⟨h.sh, h.le, h.cl, Nat.le_trans h.we a, Nat.le_trans h.de b⟩
theorem fine_int {i : Int} (h : 0 ≤ i ∧ i < 1000) : Fine (.int i) 12 0 := by
  have al : ∀ n : Fin 1001, n.val.log2 < 11 := by decide +kernel
  have g : i.natAbs.log2 < 11 := al ⟨i.natAbs, by omega⟩
  refine ⟨?_, ?_, by simp only [PyData.canLay0], ?_, ?_⟩
  · simp only [PyData.showable, decide_eq_true_eq]; omega
  · simp only [PyData.leavesShort, decide_eq_true_eq]
    exact PyData.shown_int_le (by have : (10 : Nat) ^ 12 = 1000000000000 := by decide
                                  omega)
  · simp only [PyData.weight]
    split <;> omega
  · simp only [PyData.depth]; omega
theorem fine_str {s : Str} {n : Nat} (h : Sg n s) : Fine (.str s) n 0 := by
  refine ⟨by simp only [PyData.showable], ?_, ?_, ?_, by simp only [PyData.depth]; omega⟩
  · simp only [PyData.leavesShort, List.all_eq_true, decide_eq_true_eq]
    intro c hc
    have h1 := h.2 c hc
    have e : (16 : Nat) ^ 8 = 4294967296 := by decide
    omega
  · simp only [PyData.canLay0, PyData.strOk, Array.all_eq_true', decide_eq_true_eq]
    intro c hc
    exact h.2 c (by simpa using hc)
  · simp only [PyData.weight]
    exact h.1
theorem fine_nil {n : Nat} : FineA [] 0 n := ⟨by simp only [PyData.showableAll], by simp only [PyData.leavesShortAll], by simp only [PyData.canLayAll0], by simp only [PyData.weightAll]; omega, by simp only [PyData.depthAll]; omega⟩
theorem fine_cons {d : PyData} {ds : List PyData} {w v n : Nat} (h : Fine d w n) (k : FineA ds v n) : FineA (d :: ds) (w + 1 + v) n := by
  have a := h.we
  have b := k.we
  have a' := h.de
  have b' := k.de
  refine ⟨by simp only [PyData.showableAll, h.sh, k.sh, Bool.and_self], by simp only [PyData.leavesShortAll, h.le, k.le, Bool.and_self], by simp only [PyData.canLayAll0, h.cl, k.cl, Bool.and_self], by simp only [PyData.weightAll]; omega, by simp only [PyData.depthAll]; omega⟩
theorem fine_tup {ds : List PyData} {w n : Nat} (k : FineA ds w n) : Fine (.tuple ds) w (n + 1) :=
  ⟨by simp only [PyData.showable]; exact k.sh, by simp only [PyData.leavesShort]; exact k.le, by simp only [PyData.canLay0]; exact k.cl, by simp only [PyData.weight]; exact k.we, by simp only [PyData.depth]; have := k.de; omega⟩
theorem fine_fill {n : Nat} : ∀ (ps : List (Option PyData)) (ds : List PyData) (ws : Nat), (∀ p d, p ∈ ps → p = some d → Atm d) → FineA ds ws n → nones ps = ds.length → FineA (fill ps ds) (ws + 13 * ps.length) n
  | [], ds, ws, a, f, l => ⟨(@fine_nil n).sh, (@fine_nil n).le, (@fine_nil n).cl, by simp only [fill, PyData.weightAll]; omega, (@fine_nil n).de⟩
  | some p :: ps, ds, ws, a, f, l => by
    have ap := a (some p) p (by simp) rfl
    have ih := fine_fill (n := n) ps ds ws (fun q d hq => a q d (by simp [hq])) f l
    have fp : Fine p 12 n := by
      cases p with
      | int i => exact (fine_int ap).mono (by omega) (by omega)
      | str s => exact (fine_str ap).mono (by omega) (by omega)
      | _ => exact ap.elim
    rw [fill]
    exact (fine_cons fp ih).mono (by simp only [List.length_cons]; omega) (Nat.le_refl _)
  | none :: ps, d :: ds, ws, a, f, l => by
    have hw : PyData.weightAll (d :: ds) = d.weight + 1 + PyData.weightAll ds := by rw [PyData.weightAll]
    have fw := f.we
    have f1 := f.sh
    have f2 := f.le
    have f3 := f.cl
    have f4 := f.de
    simp only [PyData.showableAll, PyData.leavesShortAll, PyData.canLayAll0, PyData.depthAll, Bool.and_eq_true] at f1 f2 f3 f4
    have ih := fine_fill (n := n) ps ds (PyData.weightAll ds) (fun q d hq => a q d (by simp [hq])) ⟨f1.2, f2.2, f3.2, Nat.le_refl _, by omega⟩ (by simpa [nones] using l)
    rw [fill]
    exact (fine_cons ⟨f1.1, f2.1, f3.1, Nat.le_refl _, by omega⟩ ih).mono (by simp only [List.length_cons]; omega) (Nat.le_refl _)
  | none :: ps, [], ws, a, f, l => by simp [nones] at l
theorem fine_zw {n : Nat} : ∀ (cs : List Cl) (ds : List PyData) (ws : Nat), (∀ c ∈ cs, Sg 7 c.a ∧ Sg 7 c.b ∧ Sg 7 c.c ∧ Sg 7 c.e) → FineA ds ws n → FineA (List.zipWith clD cs ds) (ws + 34 * ds.length) (n + 1)
  | [], ds, ws, a, f => by simpa using (@fine_nil (n + 1)).mono (by omega) (Nat.le_refl _)
  | _ :: _, [], ws, a, f => by simpa using (@fine_nil (n + 1)).mono (by omega) (Nat.le_refl _)
  | c :: cs, d :: ds, ws, a, f => by
    have fw := f.we
    have f1 := f.sh
    have f2 := f.le
    have f3 := f.cl
    have f4 := f.de
    simp only [PyData.showableAll, PyData.leavesShortAll, PyData.canLayAll0, PyData.depthAll, PyData.weightAll, Bool.and_eq_true] at f1 f2 f3 f4 fw
    obtain ⟨s1, s2, s3, s4⟩ := a c (by simp)
    have ih := fine_zw (n := n) cs ds (PyData.weightAll ds) (fun q hq => a q (by simp [hq])) ⟨f1.2, f2.2, f3.2, Nat.le_refl _, by omega⟩
    have fd : Fine d d.weight n := ⟨f1.1, f2.1, f3.1, Nat.le_refl _, by omega⟩
    rw [List.zipWith_cons_cons]
    have fc : Fine (clD c d) (32 + d.weight + 1) (n + 1) := (fine_tup (fine_cons ((fine_str s1).mono (Nat.le_refl _) (Nat.zero_le n)) (fine_cons ((fine_str s2).mono (Nat.le_refl _) (Nat.zero_le n)) (fine_cons ((fine_str s3).mono (Nat.le_refl _) (Nat.zero_le n)) (fine_cons ((fine_str s4).mono (Nat.le_refl _) (Nat.zero_le n)) (fine_cons fd fine_nil)))))).mono (by omega) (Nat.le_refl _)
    exact (fine_cons fc ih).mono (by simp only [List.length_cons]; omega) (Nat.le_refl _)
theorem nones_le : ∀ ps : List (Option PyData), nones ps ≤ ps.length
  | [] => Nat.le_refl _
  | none :: ps => by have := nones_le ps; simp only [nones, List.length_cons]; omega
  | some _ :: ps => by have := nones_le ps; simp only [nones, List.length_cons]; omega
theorem fine_encs {n : Nat} (ih : ∀ t, Ok n t → Fine (enc t) (100 * sz t - 50) (3 * n)) : ∀ ts : List Tr, (∀ c ∈ ts, Ok n c) → FineA (ts.map enc) (100 * szs ts - 49 * ts.length) (3 * n)
  | [], h => by simpa using (@fine_nil (3 * n)).mono (by omega) (Nat.le_refl _)
  | t :: ts, h => by
    rw [List.map_cons, szs_cons]
    have := sz_pos t
    have := szs_len ts
    exact (fine_cons (ih t (h t (by simp))) (fine_encs ih ts fun c hc => h c (by simp [hc]))).mono (by simp only [List.length_cons]; omega) (Nat.le_refl _)
theorem fine_enc : ∀ (n : Nat) (t : Tr), Ok n t → Fine (enc t) (100 * sz t - 50) (3 * n)
  | 0, t, h => h.elim
  | n + 1, .mk h ch, ⟨wf, oc⟩ => by
    have fe := fine_encs (fine_enc n) ch oc
    have lsz := szs_len ch
    rw [enc_mk, sz_mk]
    cases h with
    | pl w ps =>
      obtain ⟨h1, h2, _, h4, h5, h6⟩ := wf
      have nle := nones_le ps
      have ff := fine_fill (n := 3 * n) ps (ch.map enc) _ (fun p d hp e => (h4 p d hp e).1) fe (by rw [List.length_map]; exact h5)
      exact (fine_tup (fine_cons ((fine_str h2).mono (Nat.le_refl _) (Nat.zero_le _)) ff)).mono (by omega) (by omega)
    | an w wd tx cs =>
      obtain ⟨h1, h2, h3, h4, h5, h6, h7⟩ := wf
      match ch, h7, oc, fe with
      | a :: b :: ts, h7, oc, fe =>
        have fa := fine_enc n a (oc a (by simp))
        have fb := fine_enc n b (oc b (by simp))
        have ft := fine_encs (fine_enc n) ts fun c hc => oc c (by simp [hc])
        have lt := szs_len ts
        have z := fine_zw (n := 3 * n) cs (ts.map enc) _ h5 ft
        rw [List.length_map] at z
        have pa := sz_pos a
        have pb := sz_pos b
        rw [szs_cons, szs_cons]
        exact (fine_tup (fine_cons ((fine_str h2).mono (Nat.le_refl _) (Nat.zero_le (3 * n + 2))) (fine_cons ((fine_str h3).mono (Nat.le_refl _) (Nat.zero_le _)) (fine_cons (fa.mono (Nat.le_refl _) (by omega))
          (fine_cons ((fine_tup (fine_cons ((fine_str h4).mono (Nat.le_refl _) (Nat.zero_le (3 * n))) (fine_cons fb fine_nil))).mono (Nat.le_refl _) (by omega)) (fine_cons ((fine_tup z).mono (Nat.le_refl _) (by omega)) fine_nil)))))).mono (by omega) (by omega)
theorem shaped_enc {n : Nat} {t : Tr} (o : Ok n t) (h : 3 * n ≤ 64) : SeqAt.shaped (enc t) = true := by
  have f := fine_enc n t o
  unfold SeqAt.shaped
  rw [Bool.and_eq_true, decide_eq_true_iff]
  exact ⟨f.cl, Nat.le_trans f.de h⟩
/-! plain data -/
theorem Pd.mono : ∀ {n m : Nat} {d : PyData}, Pd n d → n ≤ m → Pd m d
  | n, m, .none, _, _ => by cases m <;> trivial
  | n, m, .bool _, _, _ => by cases m <;> trivial
  | n, m, .int _, _, _ => by cases m <;> trivial
  | n, m, .str _, _, _ => by cases m <;> trivial
  | 0, m, .list xs, h, _ => h.elim
  | 0, m, .tuple xs, h, _ => h.elim
  | 0, m, .dict xs, h, _ => h.elim
  | n + 1, m, .dict xs, h, _ => h.elim
  | n + 1, 0, .list xs, h, l => by omega
  | n + 1, 0, .tuple xs, h, l => by omega
  | n + 1, m + 1, .list xs, h, l => ⟨h.1, fun x hx => Pd.mono (h.2 x hx) (by omega)⟩
  | n + 1, m + 1, .tuple xs, h, l => ⟨h.1, fun x hx => Pd.mono (h.2 x hx) (by omega)⟩
theorem pd_str (n : Nat) (s : Str) : Pd n (.str s) := by cases n <;> trivial
theorem pd_int (n : Nat) (s : Int) : Pd n (.int s) := by cases n <;> trivial
theorem pd_fill {n : Nat} : ∀ (ps : List (Option PyData)) (ds : List PyData), (∀ p d, p ∈ ps → p = some d → Atm d) → (∀ d ∈ ds, Pd n d) → nones ps = ds.length → ∀ d ∈ fill ps ds, Pd n d
  | [], ds, a, f, l => fun d hd => by simp [fill] at hd
  | some p :: ps, ds, a, f, l => fun d hd => by
    have ap := a (some p) p (by simp) rfl
    rw [fill] at hd
    rcases List.mem_cons.mp hd with rfl | hd
    · cases d with
      | int i => exact pd_int _ _
      | str s => exact pd_str _ _
      | _ => exact ap.elim
    · exact pd_fill ps ds (fun q d hq => a q d (by simp [hq])) f l d hd
  | none :: ps, e :: ds, a, f, l => fun d hd => by
    rw [fill] at hd
    rcases List.mem_cons.mp hd with rfl | hd
    · exact f d (by simp)
    · exact pd_fill ps ds (fun q d hq => a q d (by simp [hq])) (fun d hd => f d (by simp [hd])) (by simpa [nones] using l) d hd
  | none :: ps, [], a, f, l => by simp [nones] at l
theorem pd_zw {n : Nat} : ∀ (cs : List Cl) (ds : List PyData), (∀ d ∈ ds, Pd n d) → ∀ d ∈ List.zipWith clD cs ds, Pd (n + 1) d
  | [], ds, f => fun d hd => by simp at hd
  | _ :: _, [], f => fun d hd => by simp at hd
  | c :: cs, e :: ds, f => fun d hd => by
    rw [List.zipWith_cons_cons] at hd
    rcases List.mem_cons.mp hd with rfl | hd
    · refine ⟨by simp, fun x hx => ?_⟩
      simp only [List.mem_cons, List.not_mem_nil, or_false] at hx
      rcases hx with rfl | rfl | rfl | rfl | rfl
      · exact pd_str _ _
      · exact pd_str _ _
      · exact pd_str _ _
      · exact pd_str _ _
      · exact f _ (by simp)
    · exact pd_zw cs ds (fun d hd => f d (by simp [hd])) d hd
theorem pd_enc : ∀ (n : Nat) (t : Tr), Ok n t → Pd (3 * n) (enc t)
  | 0, t, h => h.elim
  | n + 1, .mk h ch, ⟨wf, oc⟩ => by
    have fe : ∀ d ∈ ch.map enc, Pd (3 * n) d := fun d hd => by
      obtain ⟨c, hc, rfl⟩ := List.mem_map.mp hd
      exact pd_enc n c (oc c hc)
    rw [enc_mk]
    cases h with
    | pl w ps =>
      obtain ⟨h1, h2, _, h4, h5, h6⟩ := wf
      have hl := fill_len ps (ch.map enc) (by rw [List.length_map]; exact h5)
      have : Pd (3 * n + 1) (.tuple (.str w :: fill ps (ch.map enc))) := ⟨by simp only [List.length_cons]; omega, fun x hx => by
        rcases List.mem_cons.mp hx with rfl | hx
        · exact pd_str _ _
        · exact pd_fill ps (ch.map enc) (fun p d hp e => (h4 p d hp e).1) fe (by rw [List.length_map]; exact h5) x hx⟩
      exact this.mono (by omega)
    | an w wd tx cs =>
      obtain ⟨h1, h2, h3, h4, h5, h6, h7⟩ := wf
      match ch, h7, fe with
      | a :: b :: ts, h7, fe =>
        have z := pd_zw (n := 3 * n) cs (ts.map enc) fun d hd => fe d (by simp only [List.map_cons, List.mem_cons]; exact .inr (.inr hd))
        show Pd (3 * n + 2 + 1) _
        refine ⟨by simp, fun x hx => ?_⟩
        simp only [List.mem_cons, List.not_mem_nil, or_false] at hx
        rcases hx with rfl | rfl | rfl | rfl | rfl
        · exact pd_str _ _
        · exact pd_str _ _
        · exact (fe _ (by simp)).mono (by omega)
        · refine ⟨by simp, fun y hy => ?_⟩
          simp only [List.mem_cons, List.not_mem_nil, or_false] at hy
          rcases hy with rfl | rfl
          · exact pd_str _ _
          · exact (fe _ (by simp)).mono (by omega)
        · exact ⟨by rw [List.length_zipWith]; omega, fun y hy => z y hy⟩
theorem pd_sp (p : List Int) (h : p.length ≤ 1000) : Pd 1 (spD p) := ⟨by simp [spD]; omega, fun x hx => by
  obtain ⟨i, _, rfl⟩ := List.mem_map.mp hx
  trivial⟩
theorem eqvAll_of : ∀ xs : List PyData, (∀ x ∈ xs, PyData.eqv x x = true) → PyData.eqvAll xs xs = true
  | [], h => by rw [PyData.eqvAll]
  | x :: xs, h => by rw [PyData.eqvAll, h x (by simp), eqvAll_of xs fun y hy => h y (by simp [hy])]; rfl
theorem eqv_pd : ∀ (n : Nat) (d : PyData), Pd n d → PyData.eqv d d = true
  | n, .none, _ => by simp [PyData.eqv]
  | n, .bool _, _ => by simp [PyData.eqv]
  | n, .int _, _ => by simp [PyData.eqv]
  | n, .str _, _ => by simp [PyData.eqv]
  | 0, .list _, h => h.elim
  | 0, .tuple _, h => h.elim
  | 0, .dict _, h => h.elim
  | n + 1, .dict _, h => h.elim
  | n + 1, .list xs, h => by rw [PyData.eqv]; exact eqvAll_of xs fun x hx => eqv_pd n x (h.2 x hx)
  | n + 1, .tuple xs, h => by rw [PyData.eqv]; exact eqvAll_of xs fun x hx => eqv_pd n x (h.2 x hx)
theorem use_same {n : Nat} {x y : OV} {d : PyData} {K : OV → List OV → Prop} (h1 : frz x = some d) (h2 : frz y = some d) (p : Pd n d) (q : K (.d (.bool true)) [x, y]) : lendC (C_same n) [x, y] K :=
  ⟨[d, d], by simp [h1, h2], .d d, .d d, d, rfl, frz_d d, frz_d d, p, .bool true, rfl, rfl, q⟩
end K45

/-! what is bound in a term, what is free -/
namespace K45
open PySem L2 Grd Ow PyProof.Rows
def strsP : List (Option PyData) → List Str
  | [] => []
  | some (.str x) :: ps => x :: strsP ps
  | _ :: ps => strsP ps
/-- the names that a head binds in each part -/
def bnd : Hd → Nat → List (List Str)
  | .pl w ps, n => if w = "fun" then [strsP ps] else if w = "rec" then [strsP ps] else if w = "let" then [[], strsP ps] else List.replicate n []
  | .an _ _ tx cs, _ => [] :: [tx] :: cs.map fun c => if c.b = ("many" : Str) then [c.c, c.e] else [c.c]
/-- the answerers -/
def mrk : Hd → Nat → List (List Str)
  | .an w wd _ _, n => (if w = "under" then [wd] else []) :: List.replicate (n - 1) []
  | .pl _ _, n => List.replicate n []
def noB : Hd → Nat → List (List Str) := fun _ n => List.replicate n []
def ownN : Hd → List Str
  | .pl w ps => if w = "name" then strsP ps else []
  | _ => []
def ownA : Hd → List Str
  | .pl w ps => if w = "askof" then (strsP ps).take 1 else if w = "pastof" then strsP ps else []
  | _ => []
def ownD : Hd → List Str
  | .pl w ps => if w = "ask" then strsP ps else []
  | _ => []
-- what stands free
mutual
def fr (own : Hd → List Str) (bd : Hd → Nat → List (List Str)) : Tr → List Str
  | .mk h ch => own h ++ frs own bd (bd h ch.length) ch
def frs (own : Hd → List Str) (bd : Hd → Nat → List (List Str)) : List (List Str) → List Tr → List Str
  | b :: bs, t :: ts => (fr own bd t).filter (fun x => decide (x ∉ b)) ++ frs own bd bs ts
  | _, _ => []
end
mutual
def dpt : Tr → Nat
  | .mk _ ch => dpts ch + 1
def dpts : List Tr → Nat
  | [] => 0
  | t :: ts => max (dpt t) (dpts ts)
end
theorem bnd_pl (w : Str) (ps : List (Option PyData)) (n : Nat) : bnd (.pl w ps) n = if w = "fun" then [strsP ps] else if w = "rec" then [strsP ps] else if w = "let" then [[], strsP ps] else List.replicate n [] := rfl
theorem bnd_an (w wd tx : Str) (cs : List Cl) (n : Nat) : bnd (.an w wd tx cs) n = [] :: [tx] :: cs.map fun c => if c.b = ("many" : Str) then [c.c, c.e] else [c.c] := rfl
theorem mrk_pl (w : Str) (ps : List (Option PyData)) (n : Nat) : mrk (.pl w ps) n = List.replicate n [] := rfl
theorem mrk_an (w wd tx : Str) (cs : List Cl) (n : Nat) : mrk (.an w wd tx cs) n = (if w = "under" then [wd] else []) :: List.replicate (n - 1) [] := rfl
theorem ownN_pl (w : Str) (ps : List (Option PyData)) : ownN (.pl w ps) = if w = "name" then strsP ps else [] := rfl
theorem ownA_pl (w : Str) (ps : List (Option PyData)) : ownA (.pl w ps) = if w = "askof" then (strsP ps).take 1 else if w = "pastof" then strsP ps else [] := rfl
theorem ownD_pl (w : Str) (ps : List (Option PyData)) : ownD (.pl w ps) = if w = "ask" then strsP ps else [] := rfl
theorem fr_mk (own : Hd → List Str) (bd : Hd → Nat → List (List Str)) (h : Hd) (ch : List Tr) : fr own bd (.mk h ch) = own h ++ frs own bd (bd h ch.length) ch := by rw [fr]
theorem frs_cons (own : Hd → List Str) (bd : Hd → Nat → List (List Str)) (b : List Str) (bs : List (List Str)) (t : Tr) (ts : List Tr) : frs own bd (b :: bs) (t :: ts) = (fr own bd t).filter (fun x => decide (x ∉ b)) ++ frs own bd bs ts := by rw [frs]
theorem frs_nil (own : Hd → List Str) (bd : Hd → Nat → List (List Str)) (ts : List Tr) : frs own bd [] ts = [] := by cases ts <;> simp [frs]
theorem frs_nil' (own : Hd → List Str) (bd : Hd → Nat → List (List Str)) (bs : List (List Str)) : frs own bd bs [] = [] := by cases bs <;> simp [frs]
theorem dpt_mk (h : Hd) (ch : List Tr) : dpt (.mk h ch) = dpts ch + 1 := by rw [dpt]
theorem dpts_nil : dpts [] = 0 := by rw [dpts]
theorem dpts_cons (t : Tr) (ts : List Tr) : dpts (t :: ts) = max (dpt t) (dpts ts) := by rw [dpts]
theorem eqv_ss (a b : Str) : PyData.eqv (.str a) (.str b) = decide (a = b) := by
  simp only [PyData.eqv]
  by_cases h : a = b
  · subst h; simp
  · simp [h]
theorem ag0 {ps : List (Option PyData)} (h : Agree [] ps) : ps = [] := by
  cases ps with
  | nil => rfl
  | cons p ps => exact h.elim
theorem agC {m : PyData} {ms : List PyData} {ps : List (Option PyData)} (h : Agree (m :: ms) ps) : ∃ p qs, ps = p :: qs ∧ (∃ c : Nat, m = .str ⟨#[c]⟩ ∧ (p.isNone ↔ c = 84)) ∧ Agree ms qs := by
  cases ps with
  | nil => exact h.elim
  | cons p qs => exact ⟨p, qs, rfl, h.1, h.2⟩
theorem agT {ms : List PyData} {ps : List (Option PyData)} (h : Agree (.str ⟨#[84]⟩ :: ms) ps) : ∃ qs, ps = none :: qs ∧ Agree ms qs := by
  obtain ⟨p, qs, rfl, ⟨c, e, q⟩, g⟩ := agC h
  injection e with e; injection e with e
  have e : c = 84 := by have := congrArg Array.toList e; simpa using this.symm
  have := q.mpr e
  cases p with
  | none => exact ⟨qs, rfl, g⟩
  | some d => cases this
theorem agX {k : Nat} {ms : List PyData} {ps : List (Option PyData)} (hk : k ≠ 84) (h : Agree (.str ⟨#[k]⟩ :: ms) ps) : ∃ d qs, ps = some d :: qs ∧ Agree ms qs := by
  obtain ⟨p, qs, rfl, ⟨c, e, q⟩, g⟩ := agC h
  injection e with e; injection e with e
  have e : c = k := by have := congrArg Array.toList e; simpa using this.symm
  cases p with
  | none => exact absurd (e ▸ q.mp rfl) hk
  | some d => exact ⟨d, qs, rfl, g⟩
theorem atm_str {w : Str} {d : PyData} (h : AtmW w d) (n : w ≠ "num") : ∃ x, d = .str x ∧ Sg 7 x := by
  obtain ⟨h1, h2⟩ := h
  cases d with
  | str x => exact ⟨x, rfl, h1⟩
  | int i => exact absurd h2 n
  | _ => exact h1.elim
/-- a head, word by word -/
inductive PlV : Str → List (Option PyData) → Nat → Prop
  | num (i : Int) : PlV "num" [some (.int i)] 0
  | name (x : Str) : Sg 7 x → PlV "name" [some (.str x)] 0
  | fn (x : Str) : Sg 7 x → PlV "fun" [some (.str x), none] 1
  | rc (f x : Str) : Sg 7 f → Sg 7 x → PlV "rec" [some (.str f), some (.str x), none] 1
  | lt (x : Str) : Sg 7 x → PlV "let" [some (.str x), none, none] 2
  | ask (x : Str) : Sg 7 x → PlV "ask" [some (.str x), none] 1
  | askof (f x : Str) : Sg 7 f → Sg 7 x → PlV "askof" [some (.str f), some (.str x), none] 1
  | pastof (x : Str) : Sg 7 x → PlV "pastof" [some (.str x), none] 1
  | two : PlV "two" [none, none] 2
  | oth {w : Str} {ps : List (Option PyData)} {n : Nat} : w ≠ "num" → w ≠ "name" → w ≠ "fun" → w ≠ "rec" → w ≠ "let" → w ≠ "ask" → w ≠ "askof" → w ≠ "pastof" → w ≠ "two" → PlV w ps n
theorem pl_view {w : Str} {ps : List (Option PyData)} {n : Nat} (wf : WFh (.pl w ps) n) : PlV w ps n := by
  obtain ⟨h1, h2, ⟨z, h3, ag⟩, h4, h5, h6⟩ := wf
  have key : ∀ {u y : Str}, w = u → k_SHAPES.lookup u = some (.str y) → z = y := fun {u y} e k => by
    subst e
    rw [k] at h3
    injection h3 with h3; injection h3 with h3
    exact h3.symm
  by_cases e1 : w = "num"
  · have ez := key e1 (by kernel_rfl : k_SHAPES.lookup ("num" : Str) = some (.str ("n" : Str)))
    subst ez
    have g0 : Agree [.str ⟨#[110]⟩] ps := ag
    obtain ⟨d, qs, rfl, g1⟩ := agX (by decide) g0
    obtain rfl := ag0 g1
    obtain ⟨a1, a2⟩ := h4 _ d (by simp) rfl
    subst e1
    simp only [nones] at h5
    subst h5
    cases d with
    | int i => exact .num i
    | str s => exact absurd rfl a2
    | _ => exact a1.elim
  by_cases e2 : w = "name"
  · have ez := key e2 (by kernel_rfl : k_SHAPES.lookup ("name" : Str) = some (.str ("x" : Str)))
    subst ez
    have g0 : Agree [.str ⟨#[120]⟩] ps := ag
    obtain ⟨d, qs, rfl, g1⟩ := agX (by decide) g0
    obtain rfl := ag0 g1
    obtain ⟨x, rfl, sx⟩ := atm_str (h4 _ d (by simp) rfl) e1
    subst e2
    simp only [nones] at h5
    subst h5
    exact .name x sx
  by_cases e3 : w = "fun"
  · have ez := key e3 (by kernel_rfl : k_SHAPES.lookup ("fun" : Str) = some (.str ("xT" : Str)))
    subst ez
    have g0 : Agree [.str ⟨#[120]⟩, .str ⟨#[84]⟩] ps := ag
    obtain ⟨d, qs, rfl, g1⟩ := agX (by decide) g0
    obtain ⟨qs, rfl, g2⟩ := agT g1
    obtain rfl := ag0 g2
    obtain ⟨x, rfl, sx⟩ := atm_str (h4 _ d (by simp) rfl) e1
    subst e3
    simp only [nones] at h5
    subst h5
    exact .fn x sx
  by_cases e4 : w = "rec"
  · have ez := key e4 (by kernel_rfl : k_SHAPES.lookup ("rec" : Str) = some (.str ("xxT" : Str)))
    subst ez
    have g0 : Agree [.str ⟨#[120]⟩, .str ⟨#[120]⟩, .str ⟨#[84]⟩] ps := ag
    obtain ⟨d, qs, rfl, g1⟩ := agX (by decide) g0
    obtain ⟨d2, qs, rfl, g2⟩ := agX (by decide) g1
    obtain ⟨qs, rfl, g3⟩ := agT g2
    obtain rfl := ag0 g3
    obtain ⟨x, rfl, sx⟩ := atm_str (h4 _ d (by simp) rfl) e1
    obtain ⟨y, rfl, sy⟩ := atm_str (h4 _ d2 (by simp) rfl) e1
    subst e4
    simp only [nones] at h5
    subst h5
    exact .rc x y sx sy
  by_cases e5 : w = "let"
  · have ez := key e5 (by kernel_rfl : k_SHAPES.lookup ("let" : Str) = some (.str ("xTT" : Str)))
    subst ez
    have g0 : Agree [.str ⟨#[120]⟩, .str ⟨#[84]⟩, .str ⟨#[84]⟩] ps := ag
    obtain ⟨d, qs, rfl, g1⟩ := agX (by decide) g0
    obtain ⟨qs, rfl, g2⟩ := agT g1
    obtain ⟨qs, rfl, g3⟩ := agT g2
    obtain rfl := ag0 g3
    obtain ⟨x, rfl, sx⟩ := atm_str (h4 _ d (by simp) rfl) e1
    subst e5
    simp only [nones] at h5
    subst h5
    exact .lt x sx
  by_cases e6 : w = "ask"
  · have ez := key e6 (by kernel_rfl : k_SHAPES.lookup ("ask" : Str) = some (.str ("xT" : Str)))
    subst ez
    have g0 : Agree [.str ⟨#[120]⟩, .str ⟨#[84]⟩] ps := ag
    obtain ⟨d, qs, rfl, g1⟩ := agX (by decide) g0
    obtain ⟨qs, rfl, g2⟩ := agT g1
    obtain rfl := ag0 g2
    obtain ⟨x, rfl, sx⟩ := atm_str (h4 _ d (by simp) rfl) e1
    subst e6
    simp only [nones] at h5
    subst h5
    exact .ask x sx
  by_cases e7 : w = "askof"
  · have ez := key e7 (by kernel_rfl : k_SHAPES.lookup ("askof" : Str) = some (.str ("xxT" : Str)))
    subst ez
    have g0 : Agree [.str ⟨#[120]⟩, .str ⟨#[120]⟩, .str ⟨#[84]⟩] ps := ag
    obtain ⟨d, qs, rfl, g1⟩ := agX (by decide) g0
    obtain ⟨d2, qs, rfl, g2⟩ := agX (by decide) g1
    obtain ⟨qs, rfl, g3⟩ := agT g2
    obtain rfl := ag0 g3
    obtain ⟨x, rfl, sx⟩ := atm_str (h4 _ d (by simp) rfl) e1
    obtain ⟨y, rfl, sy⟩ := atm_str (h4 _ d2 (by simp) rfl) e1
    subst e7
    simp only [nones] at h5
    subst h5
    exact .askof x y sx sy
  by_cases e8 : w = "pastof"
  · have ez := key e8 (by kernel_rfl : k_SHAPES.lookup ("pastof" : Str) = some (.str ("xT" : Str)))
    subst ez
    have g0 : Agree [.str ⟨#[120]⟩, .str ⟨#[84]⟩] ps := ag
    obtain ⟨d, qs, rfl, g1⟩ := agX (by decide) g0
    obtain ⟨qs, rfl, g2⟩ := agT g1
    obtain rfl := ag0 g2
    obtain ⟨x, rfl, sx⟩ := atm_str (h4 _ d (by simp) rfl) e1
    subst e8
    simp only [nones] at h5
    subst h5
    exact .pastof x sx
  by_cases e9 : w = "two"
  · have ez := key e9 (by kernel_rfl : k_SHAPES.lookup ("two" : Str) = some (.str ("TT" : Str)))
    subst ez
    have g0 : Agree [.str ⟨#[84]⟩, .str ⟨#[84]⟩] ps := ag
    obtain ⟨qs, rfl, g1⟩ := agT g0
    obtain ⟨qs, rfl, g2⟩ := agT g1
    obtain rfl := ag0 g2
    subst e9
    simp only [nones] at h5
    subst h5
    exact .two
  exact .oth e1 e2 e3 e4 e5 e6 e7 e8 e9
theorem vNum {w : Str} {ps : List (Option PyData)} {n : Nat} (v : PlV w ps n) (e : w = "num") : ∃ i : Int, ps = [some (.int i)] ∧ n = 0 := by
  cases v with
  | num i => exact ⟨i, rfl, rfl⟩
  | oth h => exact absurd e h
  | _ => exact absurd e (by decide +kernel)
theorem vName {w : Str} {ps : List (Option PyData)} {n : Nat} (v : PlV w ps n) (e : w = "name") : ∃ x : Str, Sg 7 x ∧ ps = [some (.str x)] ∧ n = 0 := by
  cases v with
  | name i s => exact ⟨i, s, rfl, rfl⟩
  | oth _ h => exact absurd e h
  | _ => exact absurd e (by decide +kernel)
theorem vFun {w : Str} {ps : List (Option PyData)} {n : Nat} (v : PlV w ps n) (e : w = "fun") : ∃ x : Str, Sg 7 x ∧ ps = [some (.str x), none] ∧ n = 1 := by
  cases v with
  | fn i s => exact ⟨i, s, rfl, rfl⟩
  | oth _ _ h => exact absurd e h
  | _ => exact absurd e (by decide +kernel)
theorem vRec {w : Str} {ps : List (Option PyData)} {n : Nat} (v : PlV w ps n) (e : w = "rec") : ∃ f x : Str, Sg 7 f ∧ Sg 7 x ∧ ps = [some (.str f), some (.str x), none] ∧ n = 1 := by
  cases v with
  | rc f x s1 s2 => exact ⟨f, x, s1, s2, rfl, rfl⟩
  | oth _ _ _ h => exact absurd e h
  | _ => exact absurd e (by decide +kernel)
theorem vLet {w : Str} {ps : List (Option PyData)} {n : Nat} (v : PlV w ps n) (e : w = "let") : ∃ x : Str, Sg 7 x ∧ ps = [some (.str x), none, none] ∧ n = 2 := by
  cases v with
  | lt i s => exact ⟨i, s, rfl, rfl⟩
  | oth _ _ _ _ h => exact absurd e h
  | _ => exact absurd e (by decide +kernel)
theorem vAsk {w : Str} {ps : List (Option PyData)} {n : Nat} (v : PlV w ps n) (e : w = "ask") : ∃ x : Str, Sg 7 x ∧ ps = [some (.str x), none] ∧ n = 1 := by
  cases v with
  | ask i s => exact ⟨i, s, rfl, rfl⟩
  | oth _ _ _ _ _ h => exact absurd e h
  | _ => exact absurd e (by decide +kernel)
theorem vAskof {w : Str} {ps : List (Option PyData)} {n : Nat} (v : PlV w ps n) (e : w = "askof") : ∃ f x : Str, Sg 7 f ∧ Sg 7 x ∧ ps = [some (.str f), some (.str x), none] ∧ n = 1 := by
  cases v with
  | askof f x s1 s2 => exact ⟨f, x, s1, s2, rfl, rfl⟩
  | oth _ _ _ _ _ _ h => exact absurd e h
  | _ => exact absurd e (by decide +kernel)
theorem vPastof {w : Str} {ps : List (Option PyData)} {n : Nat} (v : PlV w ps n) (e : w = "pastof") : ∃ x : Str, Sg 7 x ∧ ps = [some (.str x), none] ∧ n = 1 := by
  cases v with
  | pastof i s => exact ⟨i, s, rfl, rfl⟩
  | oth _ _ _ _ _ _ _ h => exact absurd e h
  | _ => exact absurd e (by decide +kernel)
theorem vTwo {w : Str} {ps : List (Option PyData)} {n : Nat} (v : PlV w ps n) (e : w = "two") : ps = [none, none] ∧ n = 2 := by
  cases v with
  | two => exact ⟨rfl, rfl⟩
  | oth _ _ _ _ _ _ _ _ h => exact absurd e h
  | _ => exact absurd e (by decide +kernel)
theorem isAn_iff {w : Str} : isAn w = true ↔ (w = "handle" ∨ w = "under") := by
  unfold isAn
  simp only [List.any_cons, List.any_nil, Bool.or_false, eqv_ss, Bool.or_eq_true, decide_eq_true_eq]
  exact ⟨fun z => z.imp Eq.symm Eq.symm, fun z => z.imp Eq.symm Eq.symm⟩
/-- as told: tuples of texts -/
def tupS (ss : List Str) : PyData := .tuple (ss.map .str)
def lstS (ss : List Str) : PyData := .list (ss.map .str)
theorem bnd_fun (ps : List (Option PyData)) (n : Nat) : bnd (.pl "fun" ps) n = [strsP ps] := by rw [bnd_pl, if_pos rfl]
theorem bnd_rec (ps : List (Option PyData)) (n : Nat) : bnd (.pl "rec" ps) n = [strsP ps] := by rw [bnd_pl, if_neg (by decide +kernel), if_pos rfl]
theorem bnd_let (ps : List (Option PyData)) (n : Nat) : bnd (.pl "let" ps) n = [[], strsP ps] := by rw [bnd_pl, if_neg (by decide +kernel), if_neg (by decide +kernel), if_pos rfl]
theorem bnd_no {w : Str} (ps : List (Option PyData)) (n : Nat) (h1 : w ≠ "fun") (h2 : w ≠ "rec") (h3 : w ≠ "let") : bnd (.pl w ps) n = List.replicate n [] := by rw [bnd_pl, if_neg h1, if_neg h2, if_neg h3]
theorem bnd_len {h : Hd} {n : Nat} (wf : WFh h n) : (bnd h n).length = n := by
  cases h with
  | pl w ps =>
    have v := pl_view wf
    cases v with
    | fn x => rw [bnd_fun]; rfl
    | rc f x => rw [bnd_rec]; rfl
    | lt x => rw [bnd_let]; rfl
    | oth e1 e2 e3 e4 e5 e6 e7 e8 => rw [bnd_no ps n e3 e4 e5, List.length_replicate]
    | _ => rw [bnd_no _ _ (by decide +kernel) (by decide +kernel) (by decide +kernel), List.length_replicate]
  | an w wd tx cs =>
    obtain ⟨h1, h2, h3, h4, h5, h6, h7⟩ := wf
    rw [bnd_an, h7, List.length_cons, List.length_cons, List.length_map]
theorem mrk_len {h : Hd} {n : Nat} (wf : WFh h n) : (mrk h n).length = n := by
  cases h with
  | pl w ps => rw [mrk_pl, List.length_replicate]
  | an w wd tx cs =>
    obtain ⟨h1, h2, h3, h4, h5, h6, h7⟩ := wf
    rw [mrk_an, List.length_cons, List.length_replicate, h7]
    omega
end K45

/-! names_within, answerers_within -/
namespace K45
open PySem L2 Grd Ow PyProof.Rows
def C_p_names_within : AC := fun xs R => ∃ (h : Hd) (ds : List PyData), xs = [.d (encH h ds)] ∧ WFh h ds.length ∧ ∀ z, frz z = some (.list ((bnd h ds.length).map tupS)) → R z [.d (encH h ds)]
def C_p_answerers_within : AC := fun xs R => ∃ (h : Hd) (ds : List PyData), xs = [.d (encH h ds)] ∧ WFh h ds.length ∧ ∀ z, frz z = some (.list ((mrk h ds.length).map tupS)) → R z [.d (encH h ds)]
theorem len0 {α : Type} {l : List α} (h : l.length = 0) : l = [] := List.eq_nil_of_length_eq_zero h
theorem len1 {α : Type} {l : List α} (h : l.length = 1) : ∃ a, l = [a] := List.length_eq_one_iff.mp h
theorem len2 {α : Type} {l : List α} (h : l.length = 2) : ∃ a b, l = [a, b] := by
  match l, h with
  | [a, b], _ => exact ⟨a, b, rfl⟩
theorem eq_f {a b : Str} (h : a ≠ b) : PyData.eqv (.str a) (.str b) = false := by rw [eqv_ss]; exact decide_eq_false h
theorem eq_t (a : Str) : PyData.eqv (.str a) (.str a) = true := by rw [eqv_ss]; exact decide_eq_true rfl
theorem rep_tup (n : Nat) : (List.replicate n ([] : List Str)).map tupS = List.replicate n (.tuple []) := by simp [tupS]
theorem fm_rep {α : Type} (b : OV) : ∀ l : List α, l.filterMap (fun _ => some b) = List.replicate l.length b
  | [] => rfl
  | x :: l => by simp [fm_rep b l, List.replicate_succ]
theorem frz_rep (n : Nat) (d : PyData) : frz (.n .lst (List.replicate n (OV.d d))) = some (.list (List.replicate n d)) := by
  have : List.replicate n (OV.d d) = (List.replicate n d).map OV.d := by simp
  rw [this, frz_lst]
def cutC (c : Cl) : List Str := if c.b = ("many" : Str) then [c.c, c.e] else [c.c]
/-- a clause's names, cut out -/
def nmC (d : PyData) : Option OV := match d with
  | .tuple [_, .str b, c, e, _] => some (.d (.tuple (if PyData.eqv (.str b) (.str "many") = true then [c, e] else [c])))
  | _ => none
theorem nm_zw : ∀ (cs : List Cl) (ds : List PyData), cs.length = ds.length → (List.zipWith clD cs ds).filterMap nmC = ((cs.map fun c => if c.b = ("many" : Str) then [c.c, c.e] else [c.c]).map tupS).map OV.d
  | [], [], h => rfl
  | c :: cs, x :: ds, h => by
    rw [List.zipWith_cons_cons, List.filterMap_cons, List.map_cons, List.map_cons, List.map_cons]
    simp only [clD, nmC, eqv_ss, decide_eq_true_eq]
    refine congr (congrArg _ ?_) (nm_zw cs ds (by simpa using h))
    by_cases e : c.b = ("many" : Str)
    · rw [if_pos e, if_pos e]; rfl
    · rw [if_neg e, if_neg e]; rfl
  | [], _ :: _, h => by simp at h
  | _ :: _, [], h => by simp at h
theorem cut_23 {α : Type} (a b c d e : α) : cut [a, b, c, d, e] (some 2) (some 3) = [c] := by unfold cut; rw [show (2 : Int) = ((2 : Nat) : Int) from rfl, show (3 : Int) = ((3 : Nat) : Int) from rfl, HT.sIx_nat, HT.sIx_nat]; rfl
theorem cut_24 {α : Type} (a b c d e : α) : cut [a, b, c, d, e] (some 2) (some 4) = [c, d] := by unfold cut; rw [show (2 : Int) = ((2 : Nat) : Int) from rfl, show (4 : Int) = ((4 : Nat) : Int) from rfl, HT.sIx_nat, HT.sIx_nat]; rfl
theorem p_p_names_within : ∀ xs R, C_p_names_within xs R → xs.length = 1 ∧ t_p_names_within C_p_inner_of (retD [true] xs R) (beg 5 xs) := by
  rintro xs R ⟨h, ds, rfl, wf, q⟩
  refine ⟨rfl, ?_⟩
  unfold t_p_names_within
  cases h with
  | an w wd tx cs =>
    have wf' := wf
    obtain ⟨h1, h2, h3, h4, h5, h6, h7⟩ := wf
    have hw := isAn_iff.mp h1
    have n1 : w ≠ "fun" := by rcases hw with rfl | rfl <;> decide +kernel
    have n2 : w ≠ "rec" := by rcases hw with rfl | rfl <;> decide +kernel
    have n3 : w ≠ "let" := by rcases hw with rfl | rfl <;> decide +kernel
    match ds, h7 with
    | d0 :: d1 :: ds, h7 =>
      simp only [encH] at q ⊢
      refine aSeq_h ?_
      simp_arith []
      refine hid_i (aSeq_h (aIfS_i ?_))
      simp_arith [sc2]
      refine ⟨.inl trivial, br_f (eq_f n1) ?_⟩
      simp_arith []
      refine hid_i (aSeq_h (aIfS_i ?_))
      simp_arith [sc2]
      refine ⟨.inl trivial, br_f (eq_f n2) ?_⟩
      simp_arith []
      refine hid_i (aSeq_h (aIfS_i ?_))
      simp_arith [sc2]
      refine ⟨.inl trivial, br_f (eq_f n3) ?_⟩
      simp_arith []
      refine hid_i (aSeq_h (aIfS_i ?_))
      simp_arith [c_ANSWERERS, flatD, List.all_cons, List.all_nil, Bool.and_true]
      refine br_t (by simpa [isAn] using h1) ?_
      simp_arith [sit]
      have hl : (List.zipWith clD cs ds).length ≤ 12 := by rw [List.length_zipWith]; omega
      have le : cs.length = ds.length := by simp at h7; omega
      refine ⟨by have := sl_eq; omega, by have := sl_eq; omega, by have := sl_eq; omega, ?_⟩
      refine lc_pure nmC (fun d hd lim K hlim hk => ?_) (by have := sl_eq; omega) ?_
      · obtain ⟨c, o, rfl⟩ := zw_mem hd
        simp only [clD, nmC] at hk ⊢
        simp_arith [sc2]
        refine ⟨.inl trivial, ?_⟩
        by_cases e : PyData.eqv (.str c.b) (.str "many") = true
        · simp only [e, if_true] at hk ⊢
          simp_arith []
          rw [show (3 : Int) + 1 = 4 from rfl, cut_24]
          exact ⟨hlim, hk⟩
        · simp only [e, if_false] at hk ⊢
          simp_arith []
          rw [show (3 : Int) + 0 = 3 from rfl, cut_23]
          exact ⟨hlim, hk⟩
      · rw [nm_zw cs ds le]
        simp_arith []
        refine ⟨by rw [List.length_map, List.length_map, List.length_map]; have := sl_eq; omega, q _ ?_⟩
        rw [bnd_an]
        have e : (OV.d (.tuple []) :: OV.d (.tuple [.str tx]) :: List.map OV.d ((cs.map fun c => if c.b = ("many" : Str) then [c.c, c.e] else [c.c]).map tupS)) = ((([] : List Str) :: [tx] :: (cs.map fun c => if c.b = ("many" : Str) then [c.c, c.e] else [c.c])).map tupS).map OV.d := by
          rw [List.map_cons, List.map_cons, List.map_cons, List.map_cons]; rfl
        rw [e, frz_lst]
  | pl w ps =>
    have v := pl_view wf
    have wf' := wf
    obtain ⟨h1, h2, _, _, h5, h6⟩ := wf
    have other : ∀ o1 o2 o3 : Option OV, w ≠ "fun" → w ≠ "rec" → w ≠ "let" → (aRet (aLc (aOver (aCall C_p_inner_of (aRs 0 aRn))) (.n 4) aYes (aTup aNil) [4])) (retD [true] [.d (encH (.pl w ps) ds)] R) [some (.d (encH (.pl w ps) ds)), o1, o2, o3, none] := fun o1 o2 o3 n1 n2 n3 => by
      simp_arith []
      refine ⟨.pl w ps, ds, rfl, wf', rfl, ?_⟩
      simp_arith [sit]
      have hd3 : ds.length ≤ 3 := by have := nones_le ps; omega
      refine lc_pure (fun _ => some (.d (.tuple []))) (fun d hd lim K hlim hk => ?_) (by have := sl_eq; omega) ?_
      · simp_arith []
        exact ⟨by have := sl_eq; omega, hlim, hk⟩
      · rw [fm_rep]
        simp_arith []
        refine q _ ?_
        rw [frz_rep, bnd_no ps _ n1 n2 n3, rep_tup]
    refine aSeq_h ?_
    simp only [encH] at q other ⊢
    simp_arith []
    refine hid_i (aSeq_h (aIfS_i ?_))
    simp_arith [sc2]
    by_cases e1 : w = "fun"
    · obtain ⟨x, sx, rfl, l⟩ := vFun v e1
      obtain ⟨d, rfl⟩ := len1 l
      subst e1
      simp only [fill] at q ⊢
      refine ⟨.inl trivial, br_t (eq_t _) ?_⟩
      simp_arith []
      refine ⟨by have := sl_eq; omega, by have := sl_eq; omega, q _ ?_⟩
      rw [bnd_fun]
      rfl
    refine ⟨.inl trivial, br_f (eq_f e1) ?_⟩
    simp_arith []
    refine hid_i (aSeq_h (aIfS_i ?_))
    simp_arith [sc2]
    by_cases e2 : w = "rec"
    · obtain ⟨f, x, sf, sx, rfl, l⟩ := vRec v e2
      obtain ⟨d, rfl⟩ := len1 l
      subst e2
      simp only [fill] at q ⊢
      refine ⟨.inl trivial, br_t (eq_t _) ?_⟩
      simp_arith []
      refine ⟨by have := sl_eq; omega, by have := sl_eq; omega, q _ ?_⟩
      rw [bnd_rec]
      rfl
    refine ⟨.inl trivial, br_f (eq_f e2) ?_⟩
    simp_arith []
    refine hid_i (aSeq_h (aIfS_i ?_))
    simp_arith [sc2]
    by_cases e3 : w = "let"
    · obtain ⟨x, sx, rfl, l⟩ := vLet v e3
      obtain ⟨d, d', rfl⟩ := len2 l
      subst e3
      simp only [fill] at q ⊢
      refine ⟨.inl trivial, br_t (eq_t _) ?_⟩
      simp_arith []
      refine ⟨by have := sl_eq; omega, by have := sl_eq; omega, by have := sl_eq; omega, q _ ?_⟩
      rw [bnd_let]
      rfl
    refine ⟨.inl trivial, br_f (eq_f e3) ?_⟩
    simp_arith []
    refine hid_i (aSeq_h (aIfS_i ?_))
    simp_arith [c_ANSWERERS, flatD, List.all_cons, List.all_nil, Bool.and_true]
    refine br_f (by simpa [isAn] using h1) ?_
    simp_arith []
    refine hid_i ?_
    exact other _ _ _ e1 e2 e3
end K45

/-! names_free, answerers_free -/
namespace K45
open PySem L2 Grd Ow PyProof.Rows
abbrev ssO (ss : List Str) : List OV := (ss.map PyData.str).map OV.d
theorem any_mem (b : List Str) (x : Str) : ((b.map PyData.str).any fun z => PyData.eqv z (.str x)) = decide (x ∈ b) := by
  induction b with
  | nil => simp
  | cons y b ih =>
    rw [List.map_cons, List.any_cons, ih, eqv_ss]
    by_cases e : y = x
    · subst e; simp
    · have e' : ¬ x = y := fun z => e z.symm
      simp [e, e']
theorem all_flat (b : List Str) : (b.map PyData.str).all flatD = true := by
  rw [List.all_eq_true]
  intro z hz
  obtain ⟨y, _, rfl⟩ := List.mem_map.mp hz
  rfl
theorem flat_str (x : Str) : flatD (.str x) = true := rfl
mutual
theorem fr_len {own : Hd → List Str} {bd : Hd → Nat → List (List Str)} (ho : ∀ h n, WFh h n → (own h).length ≤ 1) : ∀ (n : Nat) (t : Tr), Ok n t → (fr own bd t).length ≤ sz t
  | 0, t, h => h.elim
  | n + 1, .mk h ch, ⟨wf, oc⟩ => by
    rw [fr_mk, sz_mk, List.length_append]
    have := ho h _ wf
    have := frs_len (bd := bd) ho n (bd h ch.length) ch oc
    omega
theorem frs_len {own : Hd → List Str} {bd : Hd → Nat → List (List Str)} (ho : ∀ h n, WFh h n → (own h).length ≤ 1) : ∀ (n : Nat) (bs : List (List Str)) (ts : List Tr), (∀ c ∈ ts, Ok n c) → (frs own bd bs ts).length ≤ szs ts
  | n, [], ts, _ => by rw [frs_nil]; simp
  | n, b :: bs, [], _ => by rw [frs_nil']; simp
  | n, b :: bs, t :: ts, oc => by
    rw [frs_cons, szs_cons, List.length_append]
    have h1 := fr_len (bd := bd) ho n t (oc t (by simp))
    have h2 := frs_len (bd := bd) ho n bs ts fun c hc => oc c (by simp [hc])
    have h3 : ((fr own bd t).filter (fun x => decide (x ∉ b))).length ≤ (fr own bd t).length := List.length_filter_le _ _
    omega
end
/-- what is told of what stands free -/
def CF (own : Hd → List Str) (bd : Hd → Nat → List (List Str)) (n : Nat) : AC := fun xs R => ∃ t : Tr, xs = [.d (enc t)] ∧ Ok n t ∧ sz t ≤ 1000 ∧
  ∀ us : List Str, us.Nodup → (∀ x, x ∈ us ↔ x ∈ fr own bd t) → sortedS us = true → R (.n .lst (ssO us)) [.d (enc t)]
def tailT (C_p_inner_of C_w C_f : AC) : AS :=
  (aSeq (aAsg (aListZip (aCall C_p_inner_of (aRs 0 aRn)) (aCall C_w (aRs 0 aRn))) (.n 2))
    (aSeq (aAsg (aLc2 (aOver (aName 2)) (.t [(.n 4), (.n 5)]) aYes (aOver (aCall C_f (aRs 4 aRn))) (.n 6) (aTst (a2 (o2 (fIn true)) (aName 6) (aName 5))) (aName 6) [4, 5, 6] [6]) (.n 3))
    (aRet (aSortedSc (aOver (a2 oAdd (aName 1) (aName 3))) (.n 6) aYes (aName 6) [6]))))
/-- not among those -/
def notIn (b : List Str) (d : PyData) : Option OV := match d with
  | .str x => if x ∈ b then none else some (.d (.str x))
  | _ => none
theorem notIn_fm (b : List Str) : ∀ us : List Str, (us.map PyData.str).filterMap (notIn b) = ssO (us.filter fun x => decide (x ∉ b))
  | [] => rfl
  | u :: us => by
    rw [List.map_cons, List.filterMap_cons, List.filter_cons]
    by_cases e : u ∈ b
    · simp only [notIn, e, if_true, not_true, decide_false, Bool.false_eq_true, if_false]
      exact notIn_fm b us
    · simp only [notIn, e, if_false, not_false_eq_true, decide_true, if_true]
      rw [notIn_fm b us]
      rfl
theorem free_loop {own : Hd → List Str} {bd : Hd → Nat → List (List Str)} {C_f : AC} {n : Nat} (ho : ∀ h n, WFh h n → (own h).length ≤ 1) {Q : OV → En → Prop} {s0 s1 s2 s3 : Option OV} : ∀ (ts : List Tr) (bs : List (List Str)) (acc : List Str), (∀ c ∈ ts, Ok n c) → bs.length = ts.length →
    (∀ c ∈ ts, ∀ K : OV → List OV → Prop, (∀ us : List Str, us.Nodup → (∀ x, x ∈ us ↔ x ∈ fr own bd c) → K (.n .lst (ssO us)) [.d (enc c)]) → C_f [.d (enc c)] K) → acc.length + szs ts ≤ 2000 →
    (∀ out : List Str, (∀ x, x ∈ out ↔ x ∈ acc ∨ x ∈ frs own bd bs ts) → out.length ≤ acc.length + szs ts → Q (.n .lst (ssO out)) [s0, s1, s2, s3, none, none, none]) →
    lc2W (.t [.n 4, .n 5]) aYes (aOver (aCall C_f (aRs 4 aRn))) (.n 6) (aTst (a2 (o2 (fIn true)) (aName 6) (aName 5))) (aName 6) [4, 5, 6] [6] Q (zipD (ts.map enc) (bs.map tupS)) (ssO acc) [s0, s1, s2, s3, none, none, none]
  | [], bs, acc, _, _, _, _, q => by
    simp only [List.map_nil, zipD, List.zip_nil_left, lc2W]
    exact q acc (fun x => by rw [frs_nil']; simp) (by omega)
  | t :: ts, [], acc, _, l, _, _, _ => by simp at l
  | t :: ts, b :: bs, acc, oc, l, hf, hl, q => by
    rw [List.map_cons, List.map_cons, zipD_cons]
    unfold lc2W
    rw [szs_cons] at hl
    simp_arith []
    refine hf t (by simp) _ fun us nd mem => ⟨rfl, ?_⟩
    have lu : us.length ≤ sz t := Nat.le_trans (nodup_len nd fun x hx => (mem x).mp hx) (fr_len ho n t (oc t (by simp)))
    simp_arith [sit]
    refine lcI_run (notIn b) _ (us.map PyData.str) (ssO acc) (fun d hd lim K hlim hk => ?_) (by simp; have := sl_eq; omega) ?_
    · obtain ⟨x, hx, rfl⟩ := List.mem_map.mp hd
      simp only [tupS]
      simp_arith [all_flat, flat_str, any_mem]
      by_cases e : x ∈ b
      · simp only [notIn, e, if_true] at hk
        simp only [e, decide_true, Bool.not_true, Bool.false_eq_true, if_false]
        exact hk
      · simp only [notIn, e, if_false] at hk
        simp only [e, decide_false, Bool.not_false, if_true]
        exact ⟨hlim, hk⟩
    · rw [notIn_fm]
      have ea : ssO acc ++ ssO (us.filter fun x => decide (x ∉ b)) = ssO (acc ++ us.filter fun x => decide (x ∉ b)) := by simp [ssO]
      rw [ea]
      simp_arith []
      have lf : (us.filter fun x => decide (x ∉ b)).length ≤ us.length := List.length_filter_le _ _
      refine free_loop ho ts bs (acc ++ us.filter fun x => decide (x ∉ b)) (fun c hc => oc c (by simp [hc])) (by simpa using l) (fun c hc => hf c (by simp [hc])) (by rw [List.length_append]; omega) fun out mo lo => q out (fun x => ?_) ?_
      · rw [mo x, frs_cons, List.mem_append, List.mem_append, List.mem_filter, List.mem_filter, mem x]
        constructor
        · rintro ((h | h) | h)
          · exact .inl h
          · exact .inr (.inl h)
          · exact .inr (.inr h)
        · rintro (h | h | h)
          · exact .inl (.inl h)
          · exact .inl (.inr h)
          · exact .inr h
      · rw [List.length_append] at lo
        rw [szs_cons]
        omega
theorem frz_ss (ss : List Str) : frz (.n .lst (ssO ss)) = some (.list (ss.map .str)) := frz_lst _
theorem use_inner {h : Hd} {ch : List Tr} {K : OV → List OV → Prop} (wf : WFh h ch.length) (q : K (.n .lst ((ch.map enc).map OV.d)) [.d (enc (.mk h ch))]) : C_p_inner_of [.d (enc (.mk h ch))] K :=
  ⟨h, ch.map enc, by rw [enc_mk], by rw [List.length_map]; exact wf, by rw [← enc_mk]; exact q⟩
theorem free_tail {own : Hd → List Str} {bd : Hd → Nat → List (List Str)} {C_w C_f : AC} {n : Nat} (ho : ∀ h n, WFh h n → (own h).length ≤ 1) {h : Hd} {ch : List Tr} {R : OV → List OV → Prop} (wf : WFh h ch.length) (oc : ∀ c ∈ ch, Ok n c) (hb : (bd h ch.length).length = ch.length)
    (hw : ∀ K : OV → List OV → Prop, (∀ z, frz z = some (.list ((bd h ch.length).map tupS)) → K z [.d (enc (.mk h ch))]) → C_w [.d (enc (.mk h ch))] K)
    (hf : ∀ c ∈ ch, ∀ K : OV → List OV → Prop, (∀ us : List Str, us.Nodup → (∀ x, x ∈ us ↔ x ∈ fr own bd c) → K (.n .lst (ssO us)) [.d (enc c)]) → C_f [.d (enc c)] K)
    (hz : sz (.mk h ch) ≤ 1000)
    (q : ∀ us : List Str, us.Nodup → (∀ x, x ∈ us ↔ x ∈ fr own bd (.mk h ch)) → sortedS us = true → R (.n .lst (ssO us)) [.d (enc (.mk h ch))]) :
    tailT C_p_inner_of C_w C_f (retD [true] [.d (enc (.mk h ch))] R) [some (.d (enc (.mk h ch))), some (.n .lst (ssO (own h))), none, none, none, none, none] := by
  unfold tailT
  have lc := szs_len ch
  rw [sz_mk] at hz
  refine aSeq_h ?_
  simp_arith []
  refine use_inner wf ⟨rfl, ?_⟩
  simp_arith []
  refine hw _ fun z fz => ⟨rfl, ?_⟩
  have e1 : sfd (.n .lst ((ch.map enc).map OV.d)) = some (ch.map enc) := by unfold sfd; rw [frz_lst]; rfl
  have e2 : sfd z = some ((bd h ch.length).map tupS) := by unfold sfd; rw [fz]; rfl
  simp_arith [e1, e2]
  refine ⟨by rw [List.length_map]; have := sl_eq; omega, hid_i (aSeq_h ?_)⟩
  simp_arith [sit]
  have ho1 := ho h _ wf
  refine free_loop ho ch (bd h ch.length) [] oc hb hf (by simp; omega) fun out mo lo => ?_
  simp_arith []
  refine hid_i ?_
  simp only [List.length_nil, Nat.zero_add] at lo
  have s1 : (List.map OV.d ((own h).map PyData.str)).length + (List.map OV.d (out.map PyData.str)).length ≤ sizeLine := by simp; have := sl_eq; omega
  simp_arith []
  refine ⟨by simpa using s1, ?_⟩
  have e3 : List.map OV.d (List.map PyData.str (own h)) ++ List.map OV.d (List.map PyData.str out) = ((own h ++ out).map PyData.str).map OV.d := by simp
  rw [e3]
  simp_arith [sit]
  refine sc_texts (fun s lim K hlim hk => ?_) (own h ++ out) [] List.nodup_nil (by simp; omega) fun l ln lm ss pm so => ?_
  · simp_arith []
    exact ⟨hlim, hk⟩
  · simp_arith []
    refine q ss (pm.nodup_iff.mpr ln) (fun x => ?_) so
    rw [pm.mem_iff, lm x, fr_mk, List.mem_append, List.mem_append, mo x]
    simp
theorem ownN_len : ∀ h n, WFh h n → (ownN h).length ≤ 1 := fun h n wf => by
  cases h with
  | an w wd tx cs => exact Nat.zero_le _
  | pl w ps =>
    rw [ownN_pl]
    split
    · obtain ⟨x, _, rfl, _⟩ := vName (pl_view wf) ‹_›
      exact Nat.le_refl _
    · exact Nat.zero_le _
theorem ownA_len : ∀ h n, WFh h n → (ownA h).length ≤ 1 := fun h n wf => by
  cases h with
  | an w wd tx cs => exact Nat.zero_le _
  | pl w ps =>
    rw [ownA_pl]
    split
    · rw [List.length_take]; omega
    · split
      · obtain ⟨x, _, rfl, _⟩ := vPastof (pl_view wf) ‹_›
        exact Nat.le_refl _
      · exact Nat.zero_le _
theorem ownD_len : ∀ h n, WFh h n → (ownD h).length ≤ 1 := fun h n wf => by
  cases h with
  | an w wd tx cs => exact Nat.zero_le _
  | pl w ps =>
    rw [ownD_pl]
    split
    · obtain ⟨x, _, rfl, _⟩ := vAsk (pl_view wf) ‹_›
      exact Nat.le_refl _
    · exact Nat.zero_le _
/-- the first of a term: its word -/
theorem encP (w : Str) (ps : List (Option PyData)) (ch : List Tr) : enc (.mk (.pl w ps) ch) = .tuple (.str w :: fill ps (ch.map enc)) := by rw [enc_mk]; rfl
theorem encA (w wd tx : Str) (cs : List Cl) (a b : Tr) (ts : List Tr) : enc (.mk (.an w wd tx cs) (a :: b :: ts)) = .tuple [.str w, .str wd, enc a, .tuple [.str tx, enc b], .tuple (List.zipWith clD cs (ts.map enc))] := by rw [enc_mk]; rfl
theorem p_p_names_free {n : Nat} : ∀ xs R, CF ownN bnd (n + 1) xs R → xs.length = 1 ∧ t_p_names_free C_p_inner_of C_p_names_within (CF ownN bnd n) (retD [true] xs R) (beg 7 xs) := by
  rintro xs R ⟨⟨h, ch⟩, rfl, ⟨wf, oc⟩, hz, q⟩
  refine ⟨rfl, ?_⟩
  unfold t_p_names_free
  have tl := free_tail (C_w := C_p_names_within) (C_f := CF ownN bnd n) ownN_len wf oc (bnd_len wf) (fun K k => ⟨h, ch.map enc, by rw [enc_mk], by rw [List.length_map]; exact wf, fun z fz => by rw [← enc_mk]; exact k z (by rw [List.length_map] at fz; exact fz)⟩)
    (fun c hc K k => ⟨c, rfl, oc c hc, by rw [sz_mk] at hz; have := szs_mem hc; omega, fun us nd mem so => k us nd mem⟩) hz q
  refine aSeq_h ?_
  cases h with
  | an w wd tx cs =>
    have wf' := wf
    obtain ⟨h1, h2, h3, h4, h5, h6, h7⟩ := wf
    have nn : w ≠ "name" := by rcases isAn_iff.mp h1 with rfl | rfl <;> decide +kernel
    match ch, h7 with
    | a :: b :: ts, h7 =>
      rw [encA] at tl ⊢
      simp_arith [sc2]
      rw [eq_f nn]
      simp_arith []
      exact ⟨.inl trivial, by have := sl_eq; omega, hid_i tl⟩
  | pl w ps =>
    rw [ownN_pl] at tl
    rw [encP] at tl ⊢
    simp_arith [sc2]
    by_cases e : w = "name"
    · obtain ⟨x, sx, rfl, l⟩ := vName (pl_view wf) e
      rw [if_pos e] at tl
      subst e
      rw [eq_t]
      simp_arith [fill]
      exact ⟨.inl trivial, by have := sl_eq; omega, hid_i tl⟩
    · rw [if_neg e] at tl
      rw [eq_f e]
      simp_arith []
      exact ⟨.inl trivial, by have := sl_eq; omega, hid_i tl⟩
theorem any2 (w a b : Str) : ([PyData.str a, PyData.str b].any fun z => PyData.eqv z (.str w)) = decide (w = a ∨ w = b) := by
  have := any_mem [a, b] w
  simp only [List.map_cons, List.map_nil] at this
  rw [this]
  simp
end K45

/-! with_inner -/
namespace K45
open PySem L2 Grd Ow PyProof.Rows
def C_p_with_inner : AC := fun xs R => ∃ (h : Hd) (ds es : List PyData) (x : OV), xs = [.d (encH h ds), x] ∧ (x = .n .lst (es.map .d) ∨ x = .d (.list es)) ∧ WFh h ds.length ∧ es.length = ds.length ∧
  R (.d (encH h es)) [.d (encH h ds), .d (.list es)]
theorem dats_app (xs : List PyData) (ys : List PyData) : dats (xs.map OV.d ++ ys.map OV.d) = some (xs ++ ys) := by rw [← List.map_append, dats_map]
theorem wi_loop {Q : OV → En → Prop} {s0 s1 s2 s3 s4 s5 s6 s7 s9 : Option OV} : ∀ (ms : List PyData) (ps : List (Option PyData)) (ds es : List PyData) (acc : List OV), Agree ms ps → nones ps = ds.length → ds.length = es.length → acc.length + ps.length ≤ 100 →
    Q (.n .lst (acc ++ (fill ps es).map OV.d)) [s0, s1, s2, s3, s4, s5, s6, s7, some (.n .lst []), s9, none, none] →
    lcW (.t [.n 11, .n 10]) aYes (aIf (aTst (a2 (o2 (fEq false)) (aName 11) (aC (.str "T")))) (aMt 8 mPopAt (aCons (aC (.int 0)) aNil)) (aName 10)) [11, 10] Q (zipD ms (fill ps ds)) acc
      [s0, s1, s2, s3, s4, s5, s6, s7, some (.n .lst (es.map OV.d)), s9, none, none]
  | [], [], ds, es, acc, a, n, l, la, h => by
    have e1 : ds = [] := List.eq_nil_of_length_eq_zero (by simpa [nones] using n.symm)
    subst e1
    have e2 : es = [] := List.eq_nil_of_length_eq_zero l.symm
    subst e2
    simpa [lcW, zipD, fill] using h
  | m :: ms, some p :: ps, ds, es, acc, ⟨⟨c, e, q⟩, a⟩, n, l, la, h => by
    subst e
    have hc : ¬ c = 84 := fun z => by simpa using q.mpr z
    have e1 : PyData.eqv (.str ⟨#[c]⟩) (.str "T") = false := (eq_sg c 84).trans (by simp [hc])
    rw [fill, zipD_cons]
    unfold lcW
    simp_arith [sc2, e1]
    simp only [List.length_cons] at la
    refine ⟨.inl trivial, by have := sl_eq; omega, ?_⟩
    refine wi_loop ms ps ds es _ a n l (by simp; omega) ?_
    simpa [fill] using h
  | m :: ms, none :: ps, d :: ds, x :: es, acc, ⟨⟨c, e, q⟩, a⟩, n, l, la, h => by
    subst e
    have hc : c = 84 := q.mp rfl
    subst hc
    have e1 : PyData.eqv (.str ⟨#[84]⟩) (.str "T") = true := (eq_sg 84 84).trans (by simp)
    rw [fill, zipD_cons]
    unfold lcW
    simp_arith [sc2, e1, mPopAt, List.eraseIdx]
    simp only [List.length_cons] at la
    refine ⟨.inl trivial, ⟨by decide, by decide⟩, by have := sl_eq; omega, ?_⟩
    refine wi_loop ms ps ds es _ a (by simpa [nones] using n) (by simpa using l) (by simp; omega) ?_
    simpa [fill] using h
  | m :: ms, none :: ps, [], es, acc, a, n, l, la, h => by simp [nones] at n
  | m :: ms, none :: ps, d :: ds, [], acc, a, n, l, la, h => by simp at l
  | [], _ :: _, ds, es, acc, a, n, l, la, h => a.elim
  | _ :: _, [], ds, es, acc, a, n, l, la, h => a.elim
theorem zwz_mem : ∀ {cs : List Cl} {ds es : List PyData} {d : PyData}, d ∈ zipD (List.zipWith clD cs ds) es → ∃ c o x, d = .tuple [clD c o, x]
  | [], ds, es, d, h => by simp [zipD] at h
  | _ :: _, [], es, d, h => by simp [zipD] at h
  | _ :: _, _ :: _, [], d, h => by simp [zipD] at h
  | c :: cs, x :: ds, e :: es, d, h => by
    rw [List.zipWith_cons_cons, zipD_cons] at h
    rcases List.mem_cons.mp h with rfl | h
    · exact ⟨c, x, e, rfl⟩
    · exact zwz_mem h
def reC (d : PyData) : Option OV := match d with
  | .tuple [.tuple [a, b, c, e, _], x] => some (.d (.tuple [a, b, c, e, x]))
  | _ => none
theorem zw_re : ∀ (cs : List Cl) (ds es : List PyData), cs.length = ds.length → es.length = ds.length → (zipD (List.zipWith clD cs ds) es).filterMap reC = (List.zipWith clD cs es).map OV.d
  | [], [], [], h, h2 => rfl
  | c :: cs, x :: ds, e :: es, h, h2 => by
    rw [List.zipWith_cons_cons, zipD_cons, List.filterMap_cons, List.zipWith_cons_cons, List.map_cons]
    simp only [clD, reC]
    exact congrArg _ (zw_re cs ds es (by simpa using h) (by simpa using h2))
  | [], _ :: _, _, h, h2 => by simp at h
  | _ :: _, [], _, h, h2 => by simp at h
  | _ , [], _ :: _, h, h2 => by simp at h2
  | _, _ :: _, [], h, h2 => by simp at h2
theorem p_p_with_inner : ∀ xs R, C_p_with_inner xs R → xs.length = 2 ∧ t_p_with_inner (retD [true, true] xs R) (beg 12 xs) := by
  rintro xs R ⟨h, ds, es, x, rfl, hx, wf, le, q⟩
  refine ⟨rfl, ?_⟩
  unfold t_p_with_inner
  cases h with
  | pl w ps =>
    obtain ⟨h1, h2, ⟨z, h3, ag⟩, h4, h5, h6⟩ := wf
    simp only [encH] at q ⊢
    refine aSeq_i ?_
    simp_arith []
    refine aSeq_i (aIfS_i ?_)
    simp_arith [c_ANSWERERS, flatD, List.all_cons, List.all_nil, Bool.and_true]
    refine br_f (by simpa [isAn] using h1) ?_
    have hl := fill_len ps ds h5
    have main : lcW (.t [.n 11, .n 10]) aYes (aIf (aTst (a2 (o2 (fEq false)) (aName 11) (aC (.str "T")))) (aMt 8 mPopAt (aCons (aC (.int 0)) aNil)) (aName 10)) [11, 10] (fun y e2 =>
        (oTuple [y] fun z => oAdd (OV.d (.tuple [.str w])) z fun z => (retD [true, true] [.d (.tuple (.str w :: fill ps ds)), x] R).rt z e2)) (zipD (chD z) (fill ps ds)) []
        [some (.d (.tuple (.str w :: fill ps ds))), some (.d (.list es)), some (.d (.str w)), some (.d (.list (fill ps ds))), none, none, none, none, some (.n .lst (es.map OV.d)), none, none, none] := by
      refine wi_loop _ _ _ _ _ ag h5 le.symm (by simp; omega) ?_
      simp_arith [oTuple, dats_map]
      refine ⟨by have := fill_len ps es (by omega); have := sl_eq; omega, q⟩
    simp_arith []
    refine aSeq_i ?_
    rcases hx with rfl | rfl
    · simp_arith [oList, oKd, h3, sfd, sit, frz_lst]
      refine ⟨by have := sl_eq; omega, main⟩
    · simp_arith [oList, oKd, h3, sfd, sit, frz_lst]
      refine ⟨by have := sl_eq; omega, main⟩
  | an w wd tx cs =>
    obtain ⟨h1, h2, h3, h4, h5, h6, h7⟩ := wf
    match ds, es, le, h7 with
    | d0 :: d1 :: ds, e0 :: e1 :: es, le, h7 =>
      simp only [encH] at q ⊢
      refine aSeq_i ?_
      simp_arith []
      refine aSeq_i (aIfS_i ?_)
      simp_arith [c_ANSWERERS, flatD, List.all_cons, List.all_nil, Bool.and_true]
      refine br_t (by simpa [isAn] using h1) ?_
      refine aSeq_i ?_
      have l1 : cs.length = ds.length := by simp at h7; omega
      have l2 : es.length = ds.length := by simp at le; omega
      have hl : (zipD (List.zipWith clD cs ds) es).length ≤ 12 := by have := zipD_len (List.zipWith clD cs ds) es; omega
      rcases hx with rfl | rfl
      · simp_arith [sfd, sit]
        refine aSeq_h ?_
        simp_arith [sfd, sit]
        refine lc_pure reC (fun d hd lim K hlim hk => ?_) (by have := sl_eq; omega) ?_
        · obtain ⟨c, o, y, rfl⟩ := zwz_mem hd
          simp only [clD, reC] at hk ⊢
          simp_arith []
          exact ⟨by have := sl_eq; omega, by have := sl_eq; omega, hlim, hk⟩
        · rw [zw_re cs ds es l1 l2]
          simp_arith [oTuple, dats_map]
          refine hid_i ?_
          simp_arith []
          exact ⟨by have := sl_eq; omega, by have := sl_eq; omega, q⟩
      · simp_arith [sfd, sit]
        refine aSeq_h ?_
        simp_arith [sfd, sit]
        refine lc_pure reC (fun d hd lim K hlim hk => ?_) (by have := sl_eq; omega) ?_
        · obtain ⟨c, o, y, rfl⟩ := zwz_mem hd
          simp only [clD, reC] at hk ⊢
          simp_arith []
          exact ⟨by have := sl_eq; omega, by have := sl_eq; omega, hlim, hk⟩
        · rw [zw_re cs ds es l1 l2]
          simp_arith [oTuple, dats_map]
          refine hid_i ?_
          simp_arith []
          exact ⟨by have := sl_eq; omega, by have := sl_eq; omega, q⟩
end K45

/-! further views of heads -/
namespace K45
open PySem L2 Grd Ow PyProof.Rows
theorem shape_of {w : Str} {ps : List (Option PyData)} {n : Nat} {y : Str} (wf : WFh (.pl w ps) n) (k : k_SHAPES.lookup w = some (.str y)) : Agree (chD y) ps := by
  obtain ⟨h1, h2, ⟨z, h3, ag⟩, h4, h5, h6⟩ := wf
  rw [k] at h3
  injection h3 with h3; injection h3 with h3
  subst h3
  exact ag
theorem wOp {ps : List (Option PyData)} {n : Nat} (wf : WFh (.pl "op" ps) n) : ∃ x : Str, Sg 7 x ∧ ps = [some (.str x), none, none] ∧ n = 2 := by
  have g0 : Agree [.str ⟨#[111]⟩, .str ⟨#[84]⟩, .str ⟨#[84]⟩] ps := shape_of wf (by kernel_rfl : k_SHAPES.lookup ("op" : Str) = some (.str ("oTT" : Str)))
  obtain ⟨h1, h2, _, h4, h5, h6⟩ := wf
  obtain ⟨d, qs, rfl, g1⟩ := agX (by decide) g0
  obtain ⟨qs, rfl, g2⟩ := agT g1
  obtain ⟨qs, rfl, g3⟩ := agT g2
  obtain rfl := ag0 g3
  obtain ⟨x, rfl, sx⟩ := atm_str (h4 _ d (by simp) rfl) (by decide +kernel)
  simp only [nones] at h5
  exact ⟨x, sx, rfl, h5.symm⟩
theorem wPast {ps : List (Option PyData)} {n : Nat} (wf : WFh (.pl "past" ps) n) : ∃ x : Str, Sg 7 x ∧ ps = [some (.str x), none] ∧ n = 1 := by
  have g0 : Agree [.str ⟨#[120]⟩, .str ⟨#[84]⟩] ps := shape_of wf (by kernel_rfl : k_SHAPES.lookup ("past" : Str) = some (.str ("xT" : Str)))
  obtain ⟨h1, h2, _, h4, h5, h6⟩ := wf
  obtain ⟨d, qs, rfl, g1⟩ := agX (by decide) g0
  obtain ⟨qs, rfl, g2⟩ := agT g1
  obtain rfl := ag0 g2
  obtain ⟨x, rfl, sx⟩ := atm_str (h4 _ d (by simp) rfl) (by decide +kernel)
  simp only [nones] at h5
  exact ⟨x, sx, rfl, h5.symm⟩
theorem agN : ∀ (k : Nat) {ps : List (Option PyData)}, Agree (List.replicate k (.str ⟨#[84]⟩)) ps → ps = List.replicate k none
  | 0, ps, h => ag0 h
  | k + 1, ps, h => by
    rw [List.replicate_succ] at h
    obtain ⟨qs, rfl, g⟩ := agT h
    rw [agN k g, List.replicate_succ]
/-- the words whose parts are terms alone -/
theorem wRest {w : Str} {ps : List (Option PyData)} {n : Nat} (wf : WFh (.pl w ps) n) (e1 : w ≠ "num") (e2 : w ≠ "name") (e3 : w ≠ "fun") (e4 : w ≠ "rec") (e5 : w ≠ "let") (e6 : w ≠ "op") (e7 : w ≠ "ask") (e8 : w ≠ "askof") (e9 : w ≠ "past") (e10 : w ≠ "pastof") : ∃ k, ps = List.replicate k none := by
  have wf' := wf
  obtain ⟨h1, h2, ⟨z, h3, ag⟩, h4, h5, h6⟩ := wf
  have hm := lookup_mem h3
  simp only [k_SHAPES, List.mem_cons, List.not_mem_nil, or_false, Prod.mk.injEq] at hm
  rcases hm with h | h | h | h | h | h | h | h | h | h | h | h | h | h | h | h
  · exact absurd h.1 e1
  · exact absurd h.1 e2
  · exact absurd h.1 e3
  · exact absurd h.1 e4
  · obtain ⟨rfl, -⟩ := h
    exact ⟨2, agN 2 (shape_of wf' (by kernel_rfl : k_SHAPES.lookup ("call" : Str) = some (.str ("TT" : Str))))⟩
  · exact absurd h.1 e5
  · exact absurd h.1 e6
  · obtain ⟨rfl, -⟩ := h
    exact ⟨3, agN 3 (shape_of wf' (by kernel_rfl : k_SHAPES.lookup ("if" : Str) = some (.str ("TTT" : Str))))⟩
  · obtain ⟨rfl, -⟩ := h
    exact ⟨2, agN 2 (shape_of wf' (by kernel_rfl : k_SHAPES.lookup ("two" : Str) = some (.str ("TT" : Str))))⟩
  · obtain ⟨rfl, -⟩ := h
    exact ⟨1, agN 1 (shape_of wf' (by kernel_rfl : k_SHAPES.lookup ("first" : Str) = some (.str ("T" : Str))))⟩
  · obtain ⟨rfl, -⟩ := h
    exact ⟨1, agN 1 (shape_of wf' (by kernel_rfl : k_SHAPES.lookup ("second" : Str) = some (.str ("T" : Str))))⟩
  · exact absurd h.1 e7
  · exact absurd h.1 e8
  · exact absurd h.1 e9
  · exact absurd h.1 e10
  · obtain ⟨rfl, -⟩ := h
    exact ⟨2, agN 2 (shape_of wf' (by kernel_rfl : k_SHAPES.lookup ("ward" : Str) = some (.str ("TT" : Str))))⟩
end K45

/-! the law's own: what is within, put together anew -/
namespace K45
open PySem L2 Grd Ow PyProof.Rows
theorem enc_tuple {n : Nat} {t : Tr} (o : Ok n t) : ∃ es, enc t = .tuple es := by
  cases n with
  | zero => exact o.elim
  | succ n =>
    cases t with
    | mk h ch =>
      rw [enc_mk]
      cases h with
      | pl w ps => exact ⟨_, rfl⟩
      | an w wd tx cs =>
        obtain ⟨h1, h2, h3, h4, h5, h6, h7⟩ := o.1
        match ch, h7 with
        | c0 :: c1 :: cs', h7 => exact ⟨_, rfl⟩
theorem encs_tuple {n : Nat} {ch : List Tr} (o : ∀ c ∈ ch, Ok n c) : ∀ d ∈ ch.map enc, ∃ es, d = .tuple es := fun d hd => by
  obtain ⟨c, hc, rfl⟩ := List.mem_map.mp hd
  exact enc_tuple (o c hc)
theorem cut_f2 {α : Type} (xs : List α) : cut xs (some 2) none = xs.drop 2 := cut_from xs 2
def C_inner : AC := fun xs R => ∃ (h : Hd) (ds : List PyData), xs = [.d (encH h ds)] ∧ WFh h ds.length ∧ (∀ d ∈ ds, ∃ es, d = .tuple es) ∧ R (.n .lst (ds.map .d)) [.d (encH h ds)]
def isT (d : PyData) : Option OV := match d with
  | .tuple p => some (.d (.tuple p))
  | _ => none
theorem fill_T : ∀ (ps : List (Option PyData)) (ds : List PyData), (∀ p d, p ∈ ps → p = some d → Atm d) → (∀ d ∈ ds, ∃ es, d = .tuple es) → nones ps = ds.length → (fill ps ds).filterMap isT = ds.map .d
  | [], ds, a, t, n => by
    have e1 : ds = [] := List.eq_nil_of_length_eq_zero (by simpa [nones] using n.symm)
    subst e1
    rfl
  | some p :: ps, ds, a, t, n => by
    have ap := a (some p) p (by simp) rfl
    rw [fill, List.filterMap_cons]
    have e : isT p = none := by
      unfold isT
      cases p <;> first | rfl | exact ap.elim
    rw [e]
    exact fill_T ps ds (fun q d hq => a q d (by simp [hq])) t n
  | none :: ps, d :: ds, a, t, n => by
    obtain ⟨es, rfl⟩ := t d (by simp)
    rw [fill, List.filterMap_cons]
    simp only [isT, List.map_cons]
    exact congrArg _ (fill_T ps ds (fun q d hq => a q d (by simp [hq])) (fun d hd => t d (by simp [hd])) (by simpa [nones] using n))
  | none :: ps, [], a, t, n => by simp [nones] at n
theorem p_inner : ∀ xs R, C_inner xs R → xs.length = 1 ∧ t_inner (retD [true] xs R) (beg 3 xs) := by
  rintro xs R ⟨h, ds, rfl, wf, tt, q⟩
  refine ⟨rfl, ?_⟩
  unfold t_inner
  cases h with
  | pl w ps =>
    obtain ⟨h1, h2, ⟨z, h3, ag⟩, h4, h5, h6⟩ := wf
    simp only [encH] at q ⊢
    refine aSeq_h (aIfS_i ?_)
    simp_arith [flatD, List.all_cons, List.all_nil, Bool.and_true]
    refine ⟨by have := sl_eq; omega, br_f (by simpa [isAn] using h1) ?_⟩
    simp_arith []
    refine hid_i ?_
    simp_arith [sit]
    have hl := fill_len ps ds h5
    refine lc_pure isT (fun d hd lim K hlim hk => ?_) (by have := sl_eq; omega) ?_
    · cases d <;> (simp_arith []; simp only [isT] at hk; first | exact hk | exact ⟨hlim, hk⟩)
    · rw [fill_T _ _ (fun p d hp e => (h4 p d hp e).1) tt h5]
      simp_arith []
      exact q
  | an w wd tx cs =>
    obtain ⟨h1, h2, h3, h4, h5, h6, h7⟩ := wf
    match ds, h7 with
    | d0 :: d1 :: ds, h7 =>
      simp only [encH] at q ⊢
      refine aSeq_h (aIfS_i ?_)
      simp_arith [flatD, List.all_cons, List.all_nil, Bool.and_true]
      refine ⟨by have := sl_eq; omega, br_t (by simpa [isAn] using h1) ?_⟩
      simp_arith [sit]
      have hl : (List.zipWith clD cs ds).length ≤ 12 := by rw [List.length_zipWith]; omega
      refine ⟨by have := sl_eq; omega, ?_⟩
      refine lc_pure (fun d => match d with | .tuple [_, _, _, _, o] => some (.d o) | _ => none) (fun d hd lim K hlim hk => ?_) (by have := sl_eq; omega) ?_
      · obtain ⟨c, o, rfl⟩ := zw_mem hd
        simp only [clD] at hk ⊢
        simp_arith []
        exact ⟨hlim, hk⟩
      · rw [show (List.zipWith clD cs ds).filterMap (fun d => match d with | .tuple [_, _, _, _, o] => some (OV.d o) | _ => none) = ds.map OV.d from zw_last cs ds (by simpa using h7.symm)]
        simp_arith []
        refine ⟨?_, q⟩
        have : ds.length ≤ 12 := by simp at h7; omega
        have := sl_eq
        rw [List.length_map]
        omega
/-! put together anew -/
def C_rebuilt : AC := fun xs R => ∃ (h : Hd) (ds es : List PyData) (x : OV), xs = [.d (encH h ds), x] ∧ (x = .n .lst (es.map .d) ∨ x = .d (.list es)) ∧ WFh h ds.length ∧ es.length = ds.length ∧ (∀ d ∈ ds, ∃ es, d = .tuple es) ∧
  R (.d (encH h es)) [.d (encH h ds), .d (.list es)]
theorem rb_loop {Q : OV → En → Prop} {s0 s1 s2 s4 : Option OV} : ∀ (ps : List (Option PyData)) (ds es : List PyData) (acc : List OV), (∀ p d, p ∈ ps → p = some d → Atm d) → (∀ d ∈ ds, ∃ es, d = .tuple es) → nones ps = ds.length → ds.length = es.length → acc.length + ps.length ≤ 100 →
    Q (.n .lst (acc ++ (fill ps es).map OV.d)) [s0, s1, s2, some (.n .lst []), s4, none] →
    lcW (.n 5) aYes (aIf (aTst (a1 (oIsi [.tuple]) (aName 5))) (aMt 3 mPopAt (aCons (aC (.int 0)) aNil)) (aName 5)) [5] Q (fill ps ds) acc
      [s0, s1, s2, some (.n .lst (es.map OV.d)), s4, none]
  | [], ds, es, acc, a, t, n, l, la, h => by
    have e1 : ds = [] := List.eq_nil_of_length_eq_zero (by simpa [nones] using n.symm)
    subst e1
    have e2 : es = [] := List.eq_nil_of_length_eq_zero l.symm
    subst e2
    simpa [lcW, fill] using h
  | some p :: ps, ds, es, acc, a, t, n, l, la, h => by
    have ap := a (some p) p (by simp) rfl
    rw [fill]
    unfold lcW
    simp only [List.length_cons] at la
    have go : acc.length < sizeLine ∧ lcW (.n 5) aYes (aIf (aTst (a1 (oIsi [.tuple]) (aName 5))) (aMt 3 mPopAt (aCons (aC (.int 0)) aNil)) (aName 5)) [5] Q (fill ps ds) (acc ++ [.d p])
      [s0, s1, s2, some (.n .lst (es.map OV.d)), s4, none] := by
      refine ⟨by have := sl_eq; omega, rb_loop ps ds es _ (fun q d hq => a q d (by simp [hq])) t n l (by simp; omega) ?_⟩
      simpa [fill] using h
    cases p <;> first | exact ap.elim | (simp_arith []; exact go)
  | none :: ps, d :: ds, x :: es, acc, a, t, n, l, la, h => by
    obtain ⟨us, rfl⟩ := t d (by simp)
    rw [fill]
    unfold lcW
    simp_arith [mPopAt, List.eraseIdx]
    simp only [List.length_cons] at la
    refine ⟨⟨by decide, by decide⟩, by have := sl_eq; omega, ?_⟩
    refine rb_loop ps ds es _ (fun q d hq => a q d (by simp [hq])) (fun d hd => t d (by simp [hd])) (by simpa [nones] using n) (by simpa using l) (by simp; omega) ?_
    simpa [fill] using h
  | none :: ps, [], es, acc, a, t, n, l, la, h => by simp [nones] at n
  | none :: ps, d :: ds, [], acc, a, t, n, l, la, h => by simp at l
theorem p_rebuilt : ∀ xs R, C_rebuilt xs R → xs.length = 2 ∧ t_rebuilt (retD [true, true] xs R) (beg 6 xs) := by
  rintro xs R ⟨h, ds, es, x, rfl, hx, wf, le, tt, q⟩
  refine ⟨rfl, ?_⟩
  unfold t_rebuilt
  cases h with
  | pl w ps =>
    obtain ⟨h1, h2, ⟨z, h3, ag⟩, h4, h5, h6⟩ := wf
    simp only [encH] at q ⊢
    refine aSeq_h (aIfS_i ?_)
    simp_arith [flatD, List.all_cons, List.all_nil, Bool.and_true]
    refine ⟨by have := sl_eq; omega, br_f (by simpa [isAn] using h1) ?_⟩
    simp_arith []
    refine hid_i (aSeq_h ?_)
    have hl := fill_len ps ds h5
    have hl2 := fill_len ps es (by omega)
    have main : lcW (.n 5) aYes (aIf (aTst (a1 (oIsi [.tuple]) (aName 5))) (aMt 3 mPopAt (aCons (aC (.int 0)) aNil)) (aName 5)) [5] (fun y e2 =>
        (oTuple [y] fun z => (retD [true, true] [.d (.tuple (.str w :: fill ps ds)), x] R).rt z e2)) (.str w :: fill ps ds) []
        [some (.d (.tuple (.str w :: fill ps ds))), some (.d (.list es)), none, some (.n .lst (es.map OV.d)), none, none] := by
      unfold lcW
      simp_arith []
      refine ⟨by have := sl_eq; omega, rb_loop ps ds es _ (fun p d hp e => (h4 p d hp e).1) tt h5 le.symm (by simp; omega) ?_⟩
      rw [show ([OV.d (.str w)] ++ (fill ps es).map OV.d) = (.str w :: fill ps es).map OV.d from rfl]
      simp_arith [oTuple, dats_map]
      exact q
    rcases hx with rfl | rfl
    · simp_arith [oList, sfd, sit, frz_lst]
      refine hid_i ?_
      simp_arith [sit]
      exact main
    · simp_arith [oList, sfd, sit, frz_lst]
      refine hid_i ?_
      simp_arith [sit]
      exact main
  | an w wd tx cs =>
    obtain ⟨h1, h2, h3, h4, h5, h6, h7⟩ := wf
    match ds, es, le, h7 with
    | d0 :: d1 :: ds, e0 :: e1 :: es, le, h7 =>
      simp only [encH] at q ⊢
      have sl := sl_eq
      have l1 : cs.length = ds.length := by simp at h7; omega
      have l2 : es.length = ds.length := by simp at le; omega
      have hl : (zipD (List.zipWith clD cs ds) es).length ≤ 12 := by have := zipD_len (List.zipWith clD cs ds) es; omega
      refine aSeq_h (aIfS_i ?_)
      simp_arith [flatD, List.all_cons, List.all_nil, Bool.and_true]
      refine ⟨by omega, br_t (by simpa [isAn] using h1) (aSeq_h ?_)⟩
      rcases hx with rfl | rfl
      · simp_arith [sfd, sit, cut_f2, oSl, frz_lst]
        refine lc_pure reC (fun d hd lim K hlim hk => ?_) (by omega) ?_
        · obtain ⟨c, o, y, rfl⟩ := zwz_mem hd
          simp only [clD, reC] at hk ⊢
          simp_arith []
          exact ⟨by omega, by omega, hlim, hk⟩
        · rw [zw_re cs ds es l1 l2]
          simp_arith [oTuple, dats_map]
          refine hid_i ?_
          simp_arith []
          exact ⟨by omega, by omega, by omega, q⟩
      · simp_arith [sfd, sit, cut_f2]
        refine lc_pure reC (fun d hd lim K hlim hk => ?_) (by omega) ?_
        · obtain ⟨c, o, y, rfl⟩ := zwz_mem hd
          simp only [clD, reC] at hk ⊢
          simp_arith []
          exact ⟨by omega, by omega, hlim, hk⟩
        · rw [zw_re cs ds es l1 l2]
          simp_arith [oTuple, dats_map]
          refine hid_i ?_
          simp_arith []
          exact ⟨by omega, by omega, by omega, q⟩
end K45

/-! made slow, made quick: trees alone -/
namespace K45
open PySem L2 Grd Ow PyProof.Rows
def abcU : List Nat := (List.range 26).map (· + 97)
def keptL : List Str := abcU.map (fun u => (⟨#[107, u]⟩ : Str)) ++ (abcU.map fun u => abcU.map fun v => (⟨#[107, u, v]⟩ : Str)).flatten
theorem keptL_len : keptL.length = 702 := by decide +kernel
def incB : List Nat → Bool
  | a :: b :: l => decide (a < b) && incB (b :: l)
  | _ => true
theorem inc_lt : ∀ (l : List Nat) (a : Nat), incB (a :: l) = true → ∀ x ∈ l, a < x
  | [], a, _, x, h => by cases h
  | b :: l, a, h, x, hx => by
    rw [incB, Bool.and_eq_true, decide_eq_true_eq] at h
    rcases List.mem_cons.mp hx with rfl | hx
    · exact h.1
    · exact Nat.lt_trans h.1 (inc_lt l b h.2 x hx)
theorem inc_nodup : ∀ l : List Nat, incB l = true → l.Nodup
  | [], _ => List.nodup_nil
  | a :: l, h => List.nodup_cons.mpr ⟨fun m => Nat.lt_irrefl _ (inc_lt l a h a m), inc_nodup l (by
    cases l with
    | nil => rfl
    | cons b l => rw [incB, Bool.and_eq_true] at h; exact h.2)⟩
theorem nodup_map_of {f : Str → Nat} : ∀ l : List Str, (l.map f).Nodup → l.Nodup
  | [], _ => List.nodup_nil
  | a :: l, h => by
    rw [List.map_cons] at h
    obtain ⟨h1, h2⟩ := List.nodup_cons.mp h
    exact List.nodup_cons.mpr ⟨fun m => h1 (List.mem_map.mpr ⟨a, m, rfl⟩), nodup_map_of l h2⟩
def keyS (s : Str) : Nat := s.cps.toList.foldl (fun a c => a * 1000 + c) 0
theorem keptL_nodup : keptL.Nodup := nodup_map_of (f := keyS) _ (inc_nodup _ (by decide +kernel))
theorem keptL_mem : ∀ s ∈ keptL, Sg 3 s ∧ s ≠ ("" : Str) := by
  have key : (keptL.all fun s => decide (s.length ≤ 3) && s.cps.toList.all (· < 0x110000) && decide (s.length ≠ 0)) = true := by decide +kernel
  intro s hs
  have h := List.all_eq_true.mp key s hs
  simp only [Bool.and_eq_true, decide_eq_true_eq, List.all_eq_true] at h
  refine ⟨⟨h.1.1, h.1.2⟩, fun e => h.2 ?_⟩
  rw [e]
  decide +kernel
def pickL (bad : List Str) : List Str := keptL.filter fun x => decide (x ∉ bad)
def pickK (bad : List Str) : Str := (pickL bad).headD "ka"
theorem pickL_congr {a b : List Str} (h : ∀ x, x ∈ a ↔ x ∈ b) : pickL a = pickL b := by
  unfold pickL
  refine List.filter_congr fun x _ => ?_
  have := h x
  by_cases e : x ∈ b
  · simp [e, this.mpr e]
  · have e2 : x ∉ a := fun z => e (this.mp z)
    simp [e, e2]
theorem pickK_congr {a b : List Str} (h : ∀ x, x ∈ a ↔ x ∈ b) : pickK a = pickK b := by unfold pickK; rw [pickL_congr h]
theorem pickL_ne {bad us : List Str} (h : ∀ x, x ∈ bad → x ∈ us) (l : us.length < 702) : pickL bad ≠ [] := fun e => by
  have sub : ∀ x ∈ keptL, x ∈ us := fun x hx => by
    refine Classical.byContradiction fun n => ?_
    have : x ∈ pickL bad := List.mem_filter.mpr ⟨hx, by simpa using fun z => n (h x z)⟩
    rw [e] at this
    cases this
  have := nodup_len keptL_nodup sub
  rw [keptL_len] at this
  omega
theorem pickL_cons {bad : List Str} (h : pickL bad ≠ []) : ∃ r, pickL bad = pickK bad :: r := by
  unfold pickK
  cases e : pickL bad with
  | nil => exact absurd e h
  | cons a r => exact ⟨r, rfl⟩
theorem pickK_not {bad : List Str} (h : pickL bad ≠ []) : pickK bad ∉ bad := by
  obtain ⟨r, e⟩ := pickL_cons h
  have : pickK bad ∈ pickL bad := by rw [e]; simp
  simpa using (List.mem_filter.mp this).2
theorem pickK_sg (bad : List Str) : Sg 3 (pickK bad) ∧ pickK bad ≠ ("" : Str) := by
  by_cases h : pickL bad = []
  · unfold pickK
    rw [h]
    exact ⟨sg_of (by decide +kernel), by decide +kernel⟩
  · obtain ⟨r, e⟩ := pickL_cons h
    have : pickK bad ∈ pickL bad := by rw [e]; simp
    exact keptL_mem _ (List.mem_filter.mp this).1
abbrev frN (t : Tr) : List Str := fr ownN bnd t
abbrev freshK (t : Tr) (x : Str) : Str := pickK (frN t ++ [x])
/-- a clause made slow -/
def slowC (c : Cl) (t : Tr) : Cl × Tr := if c.b = ("quick" : Str) then (⟨c.a, "many", c.c, freshK t c.c⟩, Tcall (Tname (freshK t c.c)) t) else (c, t)
/-- what a call of name k is called with -/
def argOf (k : Str) : Tr → Option Tr
  | .mk (.pl w _) [.mk (.pl w2 [some (.str x)]) [], b] => if w = ("call" : Str) ∧ w2 = ("name" : Str) ∧ x = k then some b else none
  | _ => none
def lastB (c : Cl) (t : Tr) : Option Tr := if c.b = ("many" : Str) then (argOf c.e t).bind fun b => if c.e ∈ frN b then none else some b else none
def quickC (c : Cl) (t : Tr) : Cl × Tr := match lastB c t with
  | some b => (⟨c.a, "quick", c.c, ""⟩, b)
  | none => (c, t)
def atRows (g : Cl → Tr → Cl × Tr) : Tr → Tr
  | .mk (.an w wd tx cs) (a :: b :: ts) => .mk (.an w wd tx ((List.zipWith g cs ts).map Prod.fst)) (a :: b :: (List.zipWith g cs ts).map Prod.snd)
  | .mk h ch => .mk h ch
def isSh : Hd → Bool
  | .an w wd _ _ => decide (w = ("handle" : Str)) && decide (wd = ("shallow" : Str))
  | _ => false
mutual
def slow : Tr → Tr
  | .mk h ch => atRows slowC (.mk h (slows ch))
def slows : List Tr → List Tr
  | [] => []
  | t :: ts => slow t :: slows ts
end
mutual
def quick : Tr → Tr
  | .mk h ch => if isSh h = true then .mk h (quicks ch) else atRows quickC (.mk h (quicks ch))
def quicks : List Tr → List Tr
  | [] => []
  | t :: ts => quick t :: quicks ts
end
theorem slows_map : ∀ ts : List Tr, slows ts = ts.map slow
  | [] => by simp only [slows, List.map_nil]
  | t :: ts => by simp only [slows, List.map_cons, slows_map ts]
theorem quicks_map : ∀ ts : List Tr, quicks ts = ts.map quick
  | [] => by simp only [quicks, List.map_nil]
  | t :: ts => by simp only [quicks, List.map_cons, quicks_map ts]
theorem slow_mk (h : Hd) (ch : List Tr) : slow (.mk h ch) = atRows slowC (.mk h (ch.map slow)) := by rw [slow, slows_map]
theorem quick_mk (h : Hd) (ch : List Tr) : quick (.mk h ch) = if isSh h = true then .mk h (ch.map quick) else atRows quickC (.mk h (ch.map quick)) := by rw [quick, quicks_map]
theorem atRows_pl (g : Cl → Tr → Cl × Tr) (w : Str) (ps : List (Option PyData)) (ch : List Tr) : atRows g (.mk (.pl w ps) ch) = .mk (.pl w ps) ch := by
  unfold atRows; rfl
theorem atRows_an (g : Cl → Tr → Cl × Tr) (w wd tx : Str) (cs : List Cl) (a b : Tr) (ts : List Tr) : atRows g (.mk (.an w wd tx cs) (a :: b :: ts)) = .mk (.an w wd tx ((List.zipWith g cs ts).map Prod.fst)) (a :: b :: (List.zipWith g cs ts).map Prod.snd) := rfl
theorem slow_pl (w : Str) (ps : List (Option PyData)) (ch : List Tr) : slow (.mk (.pl w ps) ch) = .mk (.pl w ps) (ch.map slow) := by rw [slow_mk, atRows_pl]
theorem quick_pl (w : Str) (ps : List (Option PyData)) (ch : List Tr) : quick (.mk (.pl w ps) ch) = .mk (.pl w ps) (ch.map quick) := by
  rw [quick_mk, atRows_pl]
  simp only [isSh, Bool.false_eq_true, if_false]
theorem slow_an (w wd tx : Str) (cs : List Cl) (a b : Tr) (ts : List Tr) : slow (.mk (.an w wd tx cs) (a :: b :: ts)) = .mk (.an w wd tx ((List.zipWith slowC cs (ts.map slow)).map Prod.fst)) (slow a :: slow b :: (List.zipWith slowC cs (ts.map slow)).map Prod.snd) := by
  rw [slow_mk]; rfl
theorem quick_an {w wd tx : Str} {cs : List Cl} (a b : Tr) (ts : List Tr) (n : isSh (.an w wd tx cs) = false) : quick (.mk (.an w wd tx cs) (a :: b :: ts)) = .mk (.an w wd tx ((List.zipWith quickC cs (ts.map quick)).map Prod.fst)) (quick a :: quick b :: (List.zipWith quickC cs (ts.map quick)).map Prod.snd) := by
  rw [quick_mk, if_neg (by rw [n]; decide)]; rfl
theorem isSh_cs {w wd tx : Str} {cs ds : List Cl} : isSh (.an w wd tx cs) = isSh (.an w wd tx ds) := rfl
theorem slow_call (k : Str) (t : Tr) : slow (Tcall (Tname k) t) = Tcall (Tname k) (slow t) := by
  simp only [Tcall, Tname, slow_pl, List.map_cons, List.map_nil]
theorem quick_call (k : Str) (t : Tr) : quick (Tcall (Tname k) t) = Tcall (Tname k) (quick t) := by
  simp only [Tcall, Tname, quick_pl, List.map_cons, List.map_nil]
theorem argOf_call (k : Str) (t : Tr) : argOf k (Tcall (Tname k) t) = some t := by
  simp only [Tcall, Tname, argOf, true_and, if_true, and_self]
theorem wCall {ps : List (Option PyData)} {n : Nat} (wf : WFh (.pl "call" ps) n) : ps = [none, none] := agN 2 (shape_of wf (by kernel_rfl : k_SHAPES.lookup ("call" : Str) = some (.str ("TT" : Str))))
theorem argOf_some {n m : Nat} {k : Str} {t b : Tr} (o : Ok n t) (e : argOf k t = some b) : t = Tcall (Tname k) b := by
  unfold argOf at e
  split at e
  · rename_i w ps w2 x b'
    split at e
    · rename_i c
      obtain ⟨rfl, rfl, rfl⟩ := c
      cases e
      cases n with
      | zero => exact o.elim
      | succ n =>
        have := wCall o.1
        rw [this]
        rfl
    · cases e
  · cases e
/-! what stands free stays -/
theorem frs_map {own : Hd → List Str} {bd : Hd → Nat → List (List Str)} {f : Tr → Tr} : ∀ (bs : List (List Str)) (ts : List Tr), (∀ t ∈ ts, fr own bd (f t) = fr own bd t) → frs own bd bs (ts.map f) = frs own bd bs ts
  | [], ts, _ => by rw [frs_nil, frs_nil]
  | b :: bs, [], _ => rfl
  | b :: bs, t :: ts, h => by
    rw [List.map_cons, frs_cons, frs_cons, h t (by simp), frs_map bs ts fun t ht => h t (by simp [ht])]
abbrev cutN (c : Cl) : List Str := if c.b = ("many" : Str) then [c.c, c.e] else [c.c]
abbrev frC (p : Cl × Tr) : List Str := (frN p.2).filter fun x => decide (x ∉ cutN p.1)
theorem frs_rows {g : Cl → Tr → Cl × Tr} : ∀ (cs : List Cl) (ts : List Tr), (∀ c t, (c, t) ∈ cs.zip ts → frC (g c t) = frC (c, t)) → cs.length = ts.length →
    frs ownN bnd (((List.zipWith g cs ts).map Prod.fst).map cutN) ((List.zipWith g cs ts).map Prod.snd) = frs ownN bnd (cs.map cutN) ts
  | [], [], _, _ => rfl
  | c :: cs, t :: ts, h, l => by
    rw [List.zipWith_cons_cons, List.map_cons, List.map_cons, List.map_cons, List.map_cons, frs_cons, frs_cons, frs_rows cs ts (fun c t m => h c t (by simp [m])) (by simpa using l)]
    exact congrArg (· ++ _) (h c t (by simp))
  | [], _ :: _, _, l => by simp at l
  | _ :: _, [], _, l => by simp at l
theorem fr_rows {g : Cl → Tr → Cl × Tr} {w wd tx : Str} {cs : List Cl} {a b : Tr} {ts : List Tr} (l : cs.length = ts.length) (h : ∀ c t, (c, t) ∈ cs.zip ts → frC (g c t) = frC (c, t)) :
    frN (atRows g (.mk (.an w wd tx cs) (a :: b :: ts))) = frN (.mk (.an w wd tx cs) (a :: b :: ts)) := by
  rw [atRows_an, frN, fr_mk, frN, fr_mk, bnd_an, bnd_an]
  simp only [frs_cons]
  rw [frs_rows cs ts h l]
  rfl
theorem filt_nil (l : List Str) : l.filter (fun x => decide (x ∉ ([] : List Str))) = l := by simp
theorem fr_call (k : Str) (t : Tr) : frN (Tcall (Tname k) t) = k :: frN t := by
  unfold frN
  rw [Tcall, fr_mk, bnd_no _ _ (by decide +kernel) (by decide +kernel) (by decide +kernel), ownN_pl, if_neg (by decide +kernel)]
  show [] ++ frs ownN bnd [[], []] [Tname k, t] = _
  rw [frs_cons, frs_cons, frs_nil, filt_nil, filt_nil, List.append_nil, Tname, fr_mk, ownN_pl, if_pos rfl, frs_nil']
  rfl
theorem frC_slow (c : Cl) (t : Tr) (hp : pickL (frN t ++ [c.c]) ≠ []) : frC (slowC c t) = frC (c, t) := by
  unfold slowC
  split
  · rename_i e
    have nn := pickK_not hp
    simp only [frC, cutN, fr_call, if_true]
    rw [List.filter_cons]
    simp only [List.mem_cons, List.not_mem_nil, or_false, or_true, not_true, decide_false, Bool.false_eq_true, if_false, e]
    rw [if_neg (by decide +kernel)]
    refine List.filter_congr fun x hx => ?_
    have ne : x ≠ freshK t c.c := fun z => nn (by rw [show pickK (frN t ++ [c.c]) = x from z.symm]; simp [hx])
    simp [ne]
  · rfl
theorem lastB_some {n : Nat} {c : Cl} {t b : Tr} (o : Ok n t) (e : lastB c t = some b) : c.b = ("many" : Str) ∧ t = Tcall (Tname c.e) b ∧ c.e ∉ frN b := by
  unfold lastB at e
  split at e
  · rename_i hb
    obtain ⟨b', e1, e2⟩ := Option.bind_eq_some_iff.mp e
    split at e2
    · cases e2
    · rename_i nf
      cases e2
      exact ⟨hb, argOf_some (m := n) o e1, nf⟩
  · cases e
theorem lastB_call {c : Cl} {b : Tr} (hb : c.b = ("many" : Str)) (h : c.e ∉ frN b) : lastB c (Tcall (Tname c.e) b) = some b := by
  unfold lastB
  rw [if_pos hb, argOf_call]
  simp [h]
theorem frC_quick {n : Nat} (c : Cl) (t : Tr) (o : Ok n t) : frC (quickC c t) = frC (c, t) := by
  unfold quickC
  split
  · rename_i b e
    obtain ⟨hb, rfl, nf⟩ := lastB_some o e
    have qm : ¬ (("quick" : Str) = ("many" : Str)) := by decide +kernel
    simp only [frC, cutN, fr_call, hb, if_true, qm, if_false]
    rw [List.filter_cons]
    simp only [List.mem_cons, List.not_mem_nil, or_false, or_true, not_true, decide_false, Bool.false_eq_true, if_false]
    refine List.filter_congr fun x hx => ?_
    have ne : x ≠ c.e := fun z => nf (by rw [← z]; exact hx)
    simp [ne]
  · rfl
end K45

/-! made slow, made quick: what holds of these -/
namespace K45
open PySem L2 Grd Ow PyProof.Rows
theorem sgMany : Sg 7 ("many" : Str) := sg_of (by decide +kernel)
theorem sgQuick : Sg 7 ("quick" : Str) := sg_of (by decide +kernel)
theorem sgE : Sg 7 ("" : Str) := sg_of (by decide +kernel)
theorem zw_ex {g : Cl → Tr → Cl × Tr} : ∀ {cs : List Cl} {ts : List Tr} {p : Cl × Tr}, p ∈ List.zipWith g cs ts → ∃ c t, (c, t) ∈ cs.zip ts ∧ p = g c t
  | [], ts, p, h => by simp at h
  | _ :: _, [], p, h => by simp at h
  | c :: cs, t :: ts, p, h => by
    rw [List.zipWith_cons_cons] at h
    rcases List.mem_cons.mp h with rfl | h
    · exact ⟨c, t, by simp, rfl⟩
    · obtain ⟨c', t', m, e⟩ := zw_ex h
      exact ⟨c', t', by simp [m], e⟩
theorem zip_of {cs : List Cl} {ts : List Tr} {f : Tr → Tr} {c : Cl} {t : Tr} (h : (c, t) ∈ cs.zip (ts.map f)) : c ∈ cs ∧ ∃ u, (c, u) ∈ cs.zip ts ∧ u ∈ ts ∧ t = f u := by
  rw [List.zip_map_right] at h
  obtain ⟨⟨c', u⟩, m, e⟩ := List.mem_map.mp h
  simp only [Prod.map_apply, id_eq, Prod.mk.injEq] at e
  obtain ⟨rfl, rfl⟩ := e
  have := List.of_mem_zip m
  exact ⟨this.1, u, m, this.2, rfl⟩
theorem an_ch {n : Nat} {w wd tx : Str} {cs : List Cl} {ch : List Tr} (wf : WFh (.an w wd tx cs) ch.length) : ∃ a b ts, ch = a :: b :: ts ∧ cs.length = ts.length := by
  obtain ⟨h1, h2, h3, h4, h5, h6, h7⟩ := wf
  match ch, h7 with
  | a :: b :: ts, h7 => exact ⟨a, b, ts, rfl, by simp at h7; omega⟩
/-- heads whose clauses are exchanged -/
theorem wf_rows {g : Cl → Tr → Cl × Tr} {w wd tx : Str} {cs : List Cl} {a b a' b' : Tr} {ts us : List Tr} (wf : WFh (.an w wd tx cs) (a :: b :: ts).length) (l : us.length = ts.length)
    (h : ∀ c t, c ∈ cs → (c, t) ∈ cs.zip us → (Sg 7 (g c t).1.a ∧ Sg 7 (g c t).1.b ∧ Sg 7 (g c t).1.c ∧ Sg 7 (g c t).1.e) ∧ Gc w wd (g c t).1) :
    WFh (.an w wd tx ((List.zipWith g cs us).map Prod.fst)) (a' :: b' :: (List.zipWith g cs us).map Prod.snd).length := by
  obtain ⟨h1, h2, h3, h4, h5, ⟨h6, h8⟩, h7⟩ := wf
  have l1 : cs.length = ts.length := by simp at h7; omega
  have key : ∀ c' ∈ (List.zipWith g cs us).map Prod.fst, (Sg 7 c'.a ∧ Sg 7 c'.b ∧ Sg 7 c'.c ∧ Sg 7 c'.e) ∧ Gc w wd c' := fun c' hc => by
    obtain ⟨p, hp, rfl⟩ := List.mem_map.mp hc
    obtain ⟨c, t, m, rfl⟩ := zw_ex hp
    exact h c t (List.of_mem_zip m).1 m
  refine ⟨h1, h2, h3, h4, fun c hc => (key c hc).1, ⟨?_, fun c hc => (key c hc).2⟩, ?_⟩
  · simp only [List.length_map, List.length_zipWith]
    omega
  · simp only [List.length_cons, List.length_map, List.length_zipWith]
theorem wf_len {h : Hd} {n m : Nat} (wf : WFh h n) (e : n = m) : WFh h m := e ▸ wf
theorem ok_slow : ∀ (n : Nat) (t : Tr), Ok n t → Ok (2 * n) (slow t)
  | 0, t, h => h.elim
  | n + 1, .mk (.pl w ps) ch, ⟨wf, oc⟩ => by
    rw [slow_pl]
    refine ⟨wf_len wf (by simp), fun c hc => ?_⟩
    obtain ⟨t, ht, rfl⟩ := List.mem_map.mp hc
    exact (show Ok (2 * n + 1) _ from (ok_slow n t (oc t ht)).mono (by omega))
  | n + 1, .mk (.an w wd tx cs) ch, ⟨wf, oc⟩ => by
    obtain ⟨a, b, ts, rfl, l⟩ := an_ch (n := n) wf
    rw [slow_an]
    have oa := ok_slow n a (oc a (by simp))
    have n1 : 1 ≤ n := by
      cases n with
      | zero => exact (oc a (by simp)).elim
      | succ n => omega
    refine ⟨wf_rows wf (by simp) fun c t hc m => ?_, fun c hc => ?_⟩
    · obtain ⟨h1, h2, h3, h4, h5, ⟨h6, h8⟩, h7⟩ := wf
      obtain ⟨s1, s2, s3, s4⟩ := h5 c hc
      obtain ⟨g1, g2, g3, g4⟩ := h8 c hc
      unfold slowC
      split
      · have pk := pickK_sg (frN t ++ [c.c])
        exact ⟨⟨s1, sgMany, s3, pk.1.mono (by decide)⟩, g1, fun _ => pk.2, fun e => absurd rfl e, fun _ _ => by show ("many" : Str) ≠ "quick"; decide +kernel⟩
      · exact ⟨⟨s1, s2, s3, s4⟩, g1, g2, g3, g4⟩
    · have conv : ∀ x, Ok (2 * n + 1) x → Ok (2 * n + 1) x := fun _ h => h
      show Ok (2 * n + 1) c
      rcases List.mem_cons.mp hc with rfl | hc
      · exact oa.mono (by omega)
      rcases List.mem_cons.mp hc with rfl | hc
      · exact (ok_slow n b (oc b (by simp))).mono (by omega)
      obtain ⟨p, hp, rfl⟩ := List.mem_map.mp hc
      obtain ⟨c, t, m, rfl⟩ := zw_ex hp
      obtain ⟨hc, u, _, hu, rfl⟩ := zip_of m
      have ou := ok_slow n u (oc u (by simp [hu]))
      unfold slowC
      split
      · obtain ⟨k, hk⟩ : ∃ k, 2 * n = k + 1 := ⟨2 * n - 1, by omega⟩
        have pk := pickK_sg (frN (slow u) ++ [c.c])
        rw [hk] at ou ⊢
        exact ok_call (ok_name (pk.1.mono (by decide))) ou
      · exact ou.mono (by omega)
theorem sz_rows_le {g : Cl → Tr → Cl × Tr} {k : Nat} : ∀ (cs : List Cl) (ts : List Tr), (∀ c t, t ∈ ts → sz (g c t).2 ≤ sz t + k) → szs ((List.zipWith g cs ts).map Prod.snd) ≤ szs ts + k * ts.length
  | [], ts, _ => by simp [szs_nil]
  | _ :: _, [], _ => by simp [szs_nil]
  | c :: cs, t :: ts, h => by
    rw [List.zipWith_cons_cons, List.map_cons, szs_cons, szs_cons]
    have h1 := h c t (by simp)
    have h2 := sz_rows_le cs ts fun c t ht => h c t (by simp [ht])
    rw [List.length_cons, Nat.mul_add]
    omega
theorem sz_mem_rows {g : Cl → Tr → Cl × Tr} : ∀ (cs : List Cl) (ts : List Tr), cs.length = ts.length → (∀ c t, t ∈ ts → sz t ≤ sz (g c t).2) → szs ts ≤ szs ((List.zipWith g cs ts).map Prod.snd)
  | [], [], _, _ => by simp [szs_nil]
  | c :: cs, t :: ts, l, h => by
    rw [List.zipWith_cons_cons, List.map_cons, szs_cons, szs_cons]
    have h1 := h c t (by simp)
    have h2 := sz_mem_rows cs ts (by simpa using l) fun c t ht => h c t (by simp [ht])
    omega
  | [], _ :: _, l, _ => by simp at l
  | _ :: _, [], l, _ => by simp at l
theorem sz_slowC (c : Cl) (t : Tr) : sz t ≤ sz (slowC c t).2 ∧ sz (slowC c t).2 ≤ sz t + 2 := by
  unfold slowC
  split
  · show sz t ≤ sz (Tcall _ _) ∧ sz (Tcall _ _) ≤ sz t + 2
    rw [sz_call, sz_name]
    omega
  · exact ⟨Nat.le_refl _, by show sz t ≤ sz t + 2; omega⟩
/-- the parts of what is made slow are no longer -/
theorem sz_slow_ch {n : Nat} {h : Hd} {ch : List Tr} (wf : WFh h ch.length) : szs (ch.map slow) + 1 ≤ sz (slow (.mk h ch)) := by
  cases h with
  | pl w ps => rw [slow_pl, sz_mk]; omega
  | an w wd tx cs =>
    obtain ⟨a, b, ts, rfl, l⟩ := an_ch (n := n) wf
    rw [slow_an, sz_mk, List.map_cons, List.map_cons, szs_cons, szs_cons, szs_cons, szs_cons]
    have := sz_mem_rows (g := slowC) cs (ts.map slow) (by simp [l]) fun c t _ => (sz_slowC c t).1
    omega
theorem sz_slow_mem {h : Hd} {ch : List Tr} (wf : WFh h ch.length) {c : Tr} (hc : c ∈ ch) : sz (slow c) < sz (slow (.mk h ch)) := by
  have := sz_slow_ch (n := 0) wf
  have h2 := szs_mem (List.mem_map.mpr ⟨c, hc, rfl⟩ : slow c ∈ ch.map slow)
  omega
theorem sz_slow_le : ∀ (n : Nat) (t : Tr), Ok n t → sz (slow t) + 2 ≤ 3 * sz t
  | 0, _, h => h.elim
  | n + 1, .mk h ch, ⟨wf, oc⟩ => by
    have key : ∀ ts : List Tr, (∀ t ∈ ts, Ok n t) → szs (ts.map slow) + 2 * ts.length ≤ 3 * szs ts := by
      intro ts
      induction ts with
      | nil => intro _; simp [szs_nil]
      | cons t ts ih =>
        intro o
        have h1 := sz_slow_le n t (o t (by simp))
        have h2 := ih fun t ht => o t (by simp [ht])
        rw [List.map_cons, szs_cons, szs_cons, List.length_cons]
        omega
    cases h with
    | pl w ps =>
      rw [slow_pl, sz_mk, sz_mk]
      have := key ch oc
      omega
    | an w wd tx cs =>
      obtain ⟨a, b, ts, rfl, l⟩ := an_ch (n := n) wf
      rw [slow_an, sz_mk, sz_mk, szs_cons, szs_cons, szs_cons, szs_cons]
      have h1 := sz_slow_le n a (oc a (by simp))
      have h2 := sz_slow_le n b (oc b (by simp))
      have h3 := key ts fun t ht => oc t (by simp [ht])
      have h4 := sz_rows_le (g := slowC) (k := 2) cs (ts.map slow) fun c t _ => (sz_slowC c t).2
      rw [List.length_map] at h4
      omega
theorem ok_argT {n : Nat} {k : Str} {b : Tr} (o : Ok n (Tcall (Tname k) b)) : Ok n b := by
  cases n with
  | zero => exact o.elim
  | succ n => exact (o.2 b (by simp [Tcall])).mono (by omega)
theorem quickC_ok {n : Nat} {c : Cl} {t : Tr} (o : Ok n t) : Ok n (quickC c t).2 ∧ sz (quickC c t).2 ≤ sz t := by
  unfold quickC
  split
  · rename_i b e
    obtain ⟨_, rfl, _⟩ := lastB_some o e
    exact ⟨ok_argT o, by show sz b ≤ _; rw [sz_call]; omega⟩
  · exact ⟨o, Nat.le_refl _⟩
theorem ok_quick : ∀ (n : Nat) (t : Tr), Ok n t → Ok n (quick t) ∧ sz (quick t) ≤ sz t
  | 0, t, h => h.elim
  | n + 1, .mk h ch, ⟨wf, oc⟩ => by
    have key : ∀ ts : List Tr, (∀ t ∈ ts, Ok n t) → szs (ts.map quick) ≤ szs ts := by
      intro ts
      induction ts with
      | nil => intro _; simp [szs_nil]
      | cons t ts ih =>
        intro o
        have h1 := (ok_quick n t (o t (by simp))).2
        have h2 := ih fun t ht => o t (by simp [ht])
        rw [List.map_cons, szs_cons, szs_cons]
        omega
    have plain : Ok (n + 1) (.mk h (ch.map quick)) ∧ sz (.mk h (ch.map quick)) ≤ sz (.mk h ch) := by
      refine ⟨⟨wf_len wf (by simp), fun c hc => ?_⟩, ?_⟩
      · obtain ⟨t, ht, rfl⟩ := List.mem_map.mp hc
        exact (ok_quick n t (oc t ht)).1
      · rw [sz_mk, sz_mk]
        have := key ch oc
        omega
    cases h with
    | pl w ps => rw [quick_pl]; exact plain
    | an w wd tx cs =>
      by_cases hs : isSh (.an w wd tx cs) = true
      · rw [quick_mk, if_pos hs]; exact plain
      have hs' : isSh (.an w wd tx cs) = false := by simpa using hs
      obtain ⟨a, b, ts, rfl, l⟩ := an_ch (n := n) wf
      rw [quick_an _ _ _ hs']
      have oq : ∀ t ∈ ts.map quick, Ok n t := fun t ht => by
        obtain ⟨u, hu, rfl⟩ := List.mem_map.mp ht
        exact (ok_quick n u (oc u (by simp [hu]))).1
      refine ⟨⟨wf_rows wf (by simp) fun c t hc m => ?_, fun c hc => ?_⟩, ?_⟩
      · obtain ⟨h1, h2, h3, h4, h5, ⟨h6, h8⟩, h7⟩ := wf
        obtain ⟨s1, s2, s3, s4⟩ := h5 c hc
        obtain ⟨g1, g2, g3, g4⟩ := h8 c hc
        unfold quickC
        split
        · refine ⟨⟨s1, sgQuick, s3, sgE⟩, g1, fun e => absurd e (by show ("quick" : Str) ≠ "many"; decide +kernel), fun _ => rfl, fun e1 e2 => ?_⟩
          rw [isSh, e1, e2] at hs'
          exact absurd hs' (by decide +kernel)
        · exact ⟨⟨s1, s2, s3, s4⟩, g1, g2, g3, g4⟩
      · rcases List.mem_cons.mp hc with rfl | hc
        · exact (ok_quick n a (oc a (by simp))).1
        rcases List.mem_cons.mp hc with rfl | hc
        · exact (ok_quick n b (oc b (by simp))).1
        obtain ⟨p, hp, rfl⟩ := List.mem_map.mp hc
        obtain ⟨c, t, m, rfl⟩ := zw_ex hp
        exact (quickC_ok (oq t (List.of_mem_zip m).2)).1
      · rw [sz_mk, sz_mk, szs_cons, szs_cons, szs_cons, szs_cons]
        have h1 := (ok_quick n a (oc a (by simp))).2
        have h2 := (ok_quick n b (oc b (by simp))).2
        have h3 := key ts fun t ht => oc t (by simp [ht])
        have h4 := sz_rows_le (g := quickC) (k := 0) cs (ts.map quick) fun c t ht => (quickC_ok (oq t ht)).2
        omega
/-! slow again -/
theorem row_slow (c : Cl) (t : Tr) (h : slow t = t) : slow (slowC c t).2 = (slowC c t).2 ∧ (slowC c t).1.b ≠ ("quick" : Str) := by
  unfold slowC
  split
  · exact ⟨by show slow (Tcall _ _) = _; rw [slow_call, h], by show ("many" : Str) ≠ "quick"; decide +kernel⟩
  · exact ⟨h, by assumption⟩
theorem rows_again {g : Cl → Tr → Cl × Tr} {f : Tr → Tr} : ∀ (ps : List (Cl × Tr)), (∀ p ∈ ps, g p.1 (f p.2) = p) → List.zipWith g (ps.map Prod.fst) ((ps.map Prod.snd).map f) = ps
  | [], _ => rfl
  | p :: ps, h => by
    simp only [List.map_cons, List.zipWith_cons_cons]
    rw [h p (by simp), rows_again ps fun p hp => h p (by simp [hp])]
theorem slow_slow : ∀ (n : Nat) (t : Tr), Ok n t → slow (slow t) = slow t
  | 0, t, h => h.elim
  | n + 1, .mk (.pl w ps) ch, ⟨wf, oc⟩ => by
    rw [slow_pl, slow_pl, List.map_map]
    congr 1
    exact List.map_congr_left fun t ht => slow_slow n t (oc t ht)
  | n + 1, .mk (.an w wd tx cs) ch, ⟨wf, oc⟩ => by
    obtain ⟨a, b, ts, rfl, l⟩ := an_ch (n := n) wf
    rw [slow_an, slow_an, slow_slow n a (oc a (by simp)), slow_slow n b (oc b (by simp))]
    rw [rows_again (g := slowC) (f := slow) (List.zipWith slowC cs (ts.map slow)) fun p hp => ?_]
    obtain ⟨c, t, m, rfl⟩ := zw_ex hp
    obtain ⟨hc, u, _, hu, rfl⟩ := zip_of m
    obtain ⟨r1, r2⟩ := row_slow c (slow u) (slow_slow n u (oc u (by simp [hu])))
    rw [r1]
    generalize slowC c (slow u) = q at r2
    unfold slowC
    rw [if_neg r2]
/-! quick again -/
theorem quick_arg {k : Str} {b : Tr} (h : quick (Tcall (Tname k) b) = Tcall (Tname k) b) : quick b = b := by
  rw [quick_call] at h
  simp only [Tcall, Tr.mk.injEq, true_and, List.cons.injEq, and_true] at h
  exact h
theorem lastB_quick {c : Cl} {t : Tr} (h : c.b ≠ ("many" : Str)) : lastB c t = none := by
  unfold lastB
  rw [if_neg h]
theorem quick_quick : ∀ (n : Nat) (t : Tr), Ok n t → quick (quick t) = quick t
  | 0, t, h => h.elim
  | n + 1, .mk (.pl w ps) ch, ⟨wf, oc⟩ => by
    rw [quick_pl, quick_pl, List.map_map]
    congr 1
    exact List.map_congr_left fun t ht => quick_quick n t (oc t ht)
  | n + 1, .mk (.an w wd tx cs) ch, ⟨wf, oc⟩ => by
    by_cases hs : isSh (.an w wd tx cs) = true
    · rw [quick_mk, if_pos hs, quick_mk, if_pos hs, List.map_map]
      congr 1
      exact List.map_congr_left fun t ht => quick_quick n t (oc t ht)
    have hs' : isSh (.an w wd tx cs) = false := by simpa using hs
    obtain ⟨a, b, ts, rfl, l⟩ := an_ch (n := n) wf
    rw [quick_an _ _ _ hs', quick_an _ _ _ (isSh_cs.trans hs'), quick_quick n a (oc a (by simp)), quick_quick n b (oc b (by simp))]
    rw [rows_again (g := quickC) (f := quick) (List.zipWith quickC cs (ts.map quick)) fun p hp => ?_]
    obtain ⟨c, t, m, rfl⟩ := zw_ex hp
    obtain ⟨hc, u, _, hu, rfl⟩ := zip_of m
    have ou := oc u (by simp [hu])
    have qq := quick_quick n u ou
    have oq := (ok_quick n u ou).1
    cases e : lastB c (quick u) with
    | none =>
      have e1 : quickC c (quick u) = (c, quick u) := by unfold quickC; rw [e]
      rw [e1]
      show quickC c (quick (quick u)) = _
      rw [qq, e1]
    | some b =>
      obtain ⟨hb, e2, nf⟩ := lastB_some oq e
      have e1 : quickC c (quick u) = (⟨c.a, "quick", c.c, ""⟩, b) := by unfold quickC; rw [e]
      rw [e1]
      show quickC ⟨c.a, "quick", c.c, ""⟩ (quick b) = _
      have e3 : quick b = b := quick_arg (k := c.e) (by rw [← e2]; exact qq)
      rw [e3]
      unfold quickC
      rw [lastB_quick (by show ("quick" : Str) ≠ "many"; decide +kernel)]
/-! slow, then quick -/
theorem fr_quick : ∀ (n : Nat) (t : Tr), Ok n t → frN (quick t) = frN t
  | 0, t, h => h.elim
  | n + 1, .mk h ch, ⟨wf, oc⟩ => by
    have plain : frN (.mk h (ch.map quick)) = frN (.mk h ch) := by
      rw [frN, fr_mk, frN, fr_mk, List.length_map, frs_map _ _ fun t ht => fr_quick n t (oc t ht)]
    cases h with
    | pl w ps => rw [quick_pl]; exact plain
    | an w wd tx cs =>
      by_cases hs : isSh (.an w wd tx cs) = true
      · rw [quick_mk, if_pos hs]; exact plain
      rw [quick_mk, if_neg hs]
      obtain ⟨a, b, ts, rfl, l⟩ := an_ch (n := n) wf
      rw [List.map_cons, List.map_cons, fr_rows (by simp [l]) fun c t m => ?_]
      · exact plain
      · obtain ⟨hc, u, _, hu, rfl⟩ := zip_of m
        exact frC_quick (n := n) c _ (ok_quick n u (oc u (by simp [hu]))).1
theorem pick_fine {n : Nat} {t : Tr} (o : Ok n t) (h : sz t ≤ 400) (x : Str) : pickL (frN t ++ [x]) ≠ [] := by
  refine pickL_ne (us := frN t ++ [x]) (fun _ h => h) ?_
  have : (frN t).length ≤ sz t := fr_len (bd := bnd) ownN_len n t o
  rw [List.length_append, List.length_singleton]
  omega
theorem fr_slow : ∀ (n : Nat) (t : Tr), Ok n t → sz (slow t) ≤ 400 → frN (slow t) = frN t
  | 0, t, h, _ => h.elim
  | n + 1, .mk h ch, ⟨wf, oc⟩, hz => by
    have hzc : ∀ t ∈ ch, sz (slow t) ≤ 400 := fun t ht => by have := sz_slow_mem wf ht; omega
    have plain : frN (.mk h (ch.map slow)) = frN (.mk h ch) := by
      rw [frN, fr_mk, frN, fr_mk, List.length_map, frs_map _ _ fun t ht => fr_slow n t (oc t ht) (hzc t ht)]
    cases h with
    | pl w ps => rw [slow_pl]; exact plain
    | an w wd tx cs =>
      rw [slow_mk]
      obtain ⟨a, b, ts, rfl, l⟩ := an_ch (n := n) wf
      rw [List.map_cons, List.map_cons, fr_rows (by simp [l]) fun c t m => ?_]
      · exact plain
      · obtain ⟨hc, u, _, hu, rfl⟩ := zip_of m
        exact frC_slow c _ (pick_fine (ok_slow n u (oc u (by simp [hu]))) (hzc u (by simp [hu])) _)
theorem rows_two {g g' h : Cl → Tr → Cl × Tr} {f : Tr → Tr} : ∀ (cs : List Cl) (ts us : List Tr), ts.length = us.length → (∀ (i : Nat) (c : Cl) (t u : Tr), cs[i]? = some c → ts[i]? = some t → us[i]? = some u → g (g' c t).1 (f (g' c t).2) = h c u) →
    List.zipWith g ((List.zipWith g' cs ts).map Prod.fst) (((List.zipWith g' cs ts).map Prod.snd).map f) = List.zipWith h cs us
  | [], ts, us, _, _ => by simp
  | c :: cs, [], [], _, _ => by simp
  | c :: cs, t :: ts, u :: us, l, k => by
    simp only [List.zipWith_cons_cons, List.map_cons]
    rw [k 0 c t u rfl rfl rfl, rows_two cs ts us (by simpa using l) fun i c t u h1 h2 h3 => k (i + 1) c t u (by simpa using h1) (by simpa using h2) (by simpa using h3)]
  | c :: cs, [], _ :: _, l, _ => by simp at l
  | c :: cs, _ :: _, [], l, _ => by simp at l
theorem quick_slow : ∀ (n : Nat) (t : Tr), Ok n t → sz (slow t) ≤ 400 → quick (slow t) = quick t
  | 0, t, h, _ => h.elim
  | n + 1, .mk (.pl w ps) ch, ⟨wf, oc⟩, hz => by
    have hzc : ∀ t ∈ ch, sz (slow t) ≤ 400 := fun t ht => by have := sz_slow_mem wf ht; omega
    rw [slow_pl, quick_pl, quick_pl, List.map_map]
    congr 1
    exact List.map_congr_left fun t ht => quick_slow n t (oc t ht) (hzc t ht)
  | n + 1, .mk (.an w wd tx cs) ch, ⟨wf, oc⟩, hz => by
    have hzc : ∀ t ∈ ch, sz (slow t) ≤ 400 := fun t ht => by have := sz_slow_mem wf ht; omega
    obtain ⟨a, b, ts, rfl, l⟩ := an_ch (n := n) wf
    have qa := quick_slow n a (oc a (by simp)) (hzc a (by simp))
    have qb := quick_slow n b (oc b (by simp)) (hzc b (by simp))
    have qt : ∀ u ∈ ts, quick (slow u) = quick u := fun u hu => quick_slow n u (oc u (by simp [hu])) (hzc u (by simp [hu]))
    rw [slow_an]
    obtain ⟨h1, h2, h3, h4, h5, ⟨h6, h8⟩, h7⟩ := wf
    by_cases hs : isSh (.an w wd tx cs) = true
    · have hs2 : isSh (.an w wd tx ((List.zipWith slowC cs (ts.map slow)).map Prod.fst)) = true := isSh_cs.trans hs
      have ew : w = ("handle" : Str) ∧ wd = ("shallow" : Str) := by
        simp only [isSh, Bool.and_eq_true, decide_eq_true_eq] at hs
        exact hs
      have id1 : List.zipWith slowC cs (ts.map slow) = List.zipWith (fun c t => (c, t)) cs (ts.map slow) := by
        refine List.ext_getElem? fun i => ?_
        simp only [List.getElem?_zipWith]
        cases e1 : cs[i]? with
        | none => rfl
        | some c =>
          cases e2 : (ts.map slow)[i]? with
          | none => rfl
          | some t =>
            have nq := (h8 c (List.mem_of_getElem? e1)).2.2.2 ew.1 ew.2
            simp only [slowC, if_neg nq]
      have id2 : (List.zipWith (fun (c : Cl) (t : Tr) => (c, t)) cs (ts.map slow)).map Prod.fst = cs := by
        rw [show List.zipWith (fun (c : Cl) (t : Tr) => (c, t)) cs (ts.map slow) = cs.zip (ts.map slow) from rfl]
        exact List.map_fst_zip (by simp [l])
      have id3 : (List.zipWith (fun (c : Cl) (t : Tr) => (c, t)) cs (ts.map slow)).map Prod.snd = ts.map slow := by
        rw [show List.zipWith (fun (c : Cl) (t : Tr) => (c, t)) cs (ts.map slow) = cs.zip (ts.map slow) from rfl]
        exact List.map_snd_zip (by simp [l])
      rw [id1, id2, id3, quick_mk, if_pos hs, quick_mk, if_pos hs]
      simp only [List.map_cons, List.map_map, qa, qb]
      congr 3
      exact List.map_congr_left fun t ht => qt t ht
    have hs' : isSh (.an w wd tx cs) = false := by simpa using hs
    rw [quick_an _ _ _ (isSh_cs.trans hs'), quick_an _ _ _ hs', qa, qb]
    rw [rows_two (g := quickC) (g' := slowC) (h := quickC) (f := quick) cs (ts.map slow) (ts.map quick) (by simp) fun i c t u e1 e2 e3 => ?_]
    rw [List.getElem?_map] at e2 e3
    obtain ⟨v, ev, rfl⟩ := Option.map_eq_some_iff.mp e2
    rw [ev] at e3
    cases e3
    have hv : v ∈ ts := List.mem_of_getElem? ev
    have ov := oc v (by simp [hv])
    have zv := hzc v (by simp [hv])
    have hc : c ∈ cs := List.mem_of_getElem? e1
    unfold slowC
    by_cases eq : c.b = ("quick" : Str)
    · rw [if_pos eq]
      show quickC ⟨c.a, "many", c.c, freshK (slow v) c.c⟩ (quick (Tcall (Tname (freshK (slow v) c.c)) (slow v))) = _
      rw [quick_call, qt v hv]
      have nn := pickK_not (pick_fine (ok_slow n v ov) zv c.c)
      have nf : freshK (slow v) c.c ∉ frN (quick v) := by
        rw [fr_quick n v ov, ← fr_slow n v ov zv]
        exact fun z => nn (by simp [freshK] at z ⊢; exact .inl z)
      have e4 := lastB_call (c := ⟨c.a, "many", c.c, freshK (slow v) c.c⟩) rfl nf
      unfold quickC
      rw [e4, lastB_quick (c := c) (by rw [eq]; decide +kernel)]
      have ge := (h8 c hc).2.2.1 (by rw [eq]; decide +kernel)
      cases c
      simp only at eq ge ⊢
      rw [eq, ge]
    · rw [if_neg eq]
      show quickC c (quick (slow v)) = _
      rw [qt v hv]
end K45

/-! clauses made slow, made quick: the walks -/
namespace K45
open PySem L2 Grd Ow PyProof.Rows
def C_p_kept_names : AC := fun xs R => xs = [] ∧ R (.n .lst (ssO keptL)) []
abbrev chU (us : List Nat) : List PyData := us.map fun u => PyData.str ⟨#[u]⟩
theorem abc_u : ("abcdefghijklmnopqrstuvwxyz" : Str).cps.toList = abcU := by decide +kernel
theorem abcD : chD "abcdefghijklmnopqrstuvwxyz" = chU abcU := by unfold chD; rw [abc_u]
theorem kS : ("k" : Str) = ⟨#[107]⟩ := by decide +kernel
theorem kU (u : Nat) : ("k" : Str) ++ (⟨#[u]⟩ : Str) = ⟨#[107, u]⟩ := by rw [kS]; rfl
theorem kUV (u v : Nat) : (⟨#[107, u]⟩ : Str) ++ (⟨#[v]⟩ : Str) = ⟨#[107, u, v]⟩ := rfl
theorem kLen : Str.length ("k" : Str) = 1 := by decide +kernel
theorem uLen (u : Nat) : Str.length (⟨#[u]⟩ : Str) = 1 := rfl
theorem uLen2 (u v : Nat) : Str.length (⟨#[u, v]⟩ : Str) = 2 := rfl
def addK (d : PyData) : Option OV := match d with
  | .str v => some (.d (.str (("k" : Str) ++ v)))
  | _ => none
def addU (u : Nat) (d : PyData) : Option OV := match d with
  | .str v => some (.d (.str ((⟨#[107, u]⟩ : Str) ++ v)))
  | _ => none
theorem addK_fm : ∀ us : List Nat, (chU us).filterMap addK = ssO (us.map fun u => (⟨#[107, u]⟩ : Str))
  | [] => rfl
  | u :: us => by
    simp only [chU, List.map_cons, List.filterMap_cons, addK, kU, ssO]
    exact congrArg _ (addK_fm us)
theorem addU_fm (u : Nat) : ∀ us : List Nat, (chU us).filterMap (addU u) = ssO (us.map fun v => (⟨#[107, u, v]⟩ : Str))
  | [] => rfl
  | v :: us => by
    simp only [chU, List.map_cons, List.filterMap_cons, addU, kUV, ssO]
    exact congrArg _ (addU_fm u us)
abbrev kuv (us : List Nat) : List Str := (us.map fun u => abcU.map fun v => (⟨#[107, u, v]⟩ : Str)).flatten
theorem abcU_len : abcU.length = 26 := by decide
theorem kuv_len : ∀ us : List Nat, (kuv us).length = 26 * us.length
  | [] => rfl
  | u :: us => by
    have := kuv_len us
    simp only [kuv, List.map_cons, List.flatten_cons, List.length_append, List.length_map, List.length_cons, abcU_len] at this ⊢
    omega
theorem kn_loop {Q : OV → En → Prop} : ∀ (us : List Nat) (acc : List Str), acc.length + 26 * us.length ≤ 1000 → Q (.n .lst (ssO (acc ++ kuv us))) [none, none] →
    lc2W (.n 0) aYes (aOver (aC c_LETTERS)) (.n 1) aYes (a2 oAdd (a2 oAdd (aC (.str "k")) (aName 0)) (aName 1)) [0, 1] [1] Q (chU us) (ssO acc) [none, none]
  | [], acc, l, q => by simpa [lc2W, chU] using q
  | u :: us, acc, l, q => by
    have sl := sl_eq
    have k1 := kLen
    have k2 := uLen u
    have k3 := uLen2 107 u
    simp only [List.length_cons] at l
    rw [chU, List.map_cons]
    unfold lc2W
    simp_arith [c_LETTERS, sit, abcD]
    refine lcI_run (addU u) _ (chU abcU) (ssO acc) (fun d hd lim K hlim hk => ?_) (by simp [abcU_len]; omega) ?_
    · obtain ⟨v, hv, rfl⟩ := List.mem_map.mp hd
      have k4 := uLen v
      simp only [addU] at hk
      simp_arith [kU]
      exact ⟨by omega, by omega, hlim, hk⟩
    · rw [addU_fm]
      have ea : ssO acc ++ ssO (abcU.map fun v => (⟨#[107, u, v]⟩ : Str)) = ssO (acc ++ abcU.map fun v => (⟨#[107, u, v]⟩ : Str)) := by simp [ssO]
      rw [ea]
      simp_arith []
      refine kn_loop us _ (by simp [abcU_len]; omega) ?_
      rw [kuv, List.map_cons, List.flatten_cons] at q
      rw [List.append_assoc]
      exact q
theorem p_p_kept_names : ∀ xs R, C_p_kept_names xs R → xs.length = 0 ∧ t_p_kept_names (retD [] xs R) (beg 2 xs) := by
  rintro xs R ⟨rfl, q⟩
  refine ⟨rfl, ?_⟩
  unfold t_p_kept_names
  have sl := sl_eq
  have k1 := kLen
  simp_arith [c_LETTERS, sit, abcD]
  refine lc_pure addK (fun d hd lim K hlim hk => ?_) (by simp [abcU_len]; omega) ?_
  · obtain ⟨v, hv, rfl⟩ := List.mem_map.mp hd
    have k4 := uLen v
    simp only [addK] at hk
    simp_arith []
    exact ⟨by omega, hlim, hk⟩
  · rw [addK_fm]
    simp_arith [sit, abcD]
    refine kn_loop (Q := _) abcU [] (by simp [abcU_len]) ?_
    have e1 := kuv_len abcU
    have e2 := abcU_len
    simp_arith []
    refine ⟨by simp only [List.length_map]; rw [e1, e2]; omega, ?_⟩
    have e : List.map OV.d (List.map PyData.str (abcU.map fun u => (⟨#[107, u]⟩ : Str))) ++ List.map OV.d (List.map PyData.str (kuv abcU)) = ssO keptL := by simp [ssO, keptL]
    rw [e]
    exact q
theorem frz_cases {X : OV} {d : PyData} (h : frz X = some d) : X = .d d ∨ ∃ s ys, X = .n s ys := by
  cases X with
  | d y => left; rw [frz_d] at h; cases h; rfl
  | n s ys => right; exact ⟨s, ys, rfl⟩
theorem pick_lc {Q : OV → En → Prop} {bad : List Str} {s0 s1 s2 s3 s4 s5 s7 : Option OV} : ∀ (us acc : List Str) (X : OV), frz X = some (lstS bad) → acc.length + us.length ≤ 1000 → (∀ X', frz X' = some (lstS bad) → Q (.n .lst (ssO (acc ++ us.filter fun x => decide (x ∉ bad)))) [s0, s1, s2, s3, s4, s5, some X', s7, none]) →
    lcW (.n 8) (aTst (a2 (o2 (fIn true)) (aName 8) (aName 6))) (aName 8) [8] Q (us.map PyData.str) (ssO acc) [s0, s1, s2, s3, s4, s5, some X, s7, none]
  | [], acc, X, fx, l, q => by simpa [lcW] using q X fx
  | u :: us, acc, X, fx, l, q => by
    have sl := sl_eq
    simp only [List.length_cons] at l
    rw [List.map_cons]
    unfold lcW
    have go1 : ∀ X', frz X' = some (lstS bad) → u ∈ bad → lcW (.n 8) (aTst (a2 (o2 (fIn true)) (aName 8) (aName 6))) (aName 8) [8] Q (us.map PyData.str) (ssO acc) [s0, s1, s2, s3, s4, s5, some X', s7, none] := fun X' fx' e => by
      refine pick_lc us acc X' fx' (by omega) fun X'' f2 => ?_
      have := q X'' f2
      rw [List.filter_cons, if_neg (by simp [e])] at this
      exact this
    have go2 : ∀ X', frz X' = some (lstS bad) → u ∉ bad → (ssO acc).length < sizeLine ∧ lcW (.n 8) (aTst (a2 (o2 (fIn true)) (aName 8) (aName 6))) (aName 8) [8] Q (us.map PyData.str) (ssO acc ++ [.d (.str u)]) [s0, s1, s2, s3, s4, s5, some X', s7, none] := fun X' fx' e => by
      have ea : ssO acc ++ [.d (.str u)] = ssO (acc ++ [u]) := by simp [ssO]
      rw [ea]
      refine ⟨by simp; omega, pick_lc us _ X' fx' (by simp; omega) fun X'' f2 => ?_⟩
      have := q X'' f2
      rw [List.filter_cons, if_pos (by simp [e])] at this
      rw [List.append_assoc]
      exact this
    have g1 := go1 (.d (lstS bad)) (frz_d _)
    have g2 := go2 (.d (lstS bad)) (frz_d _)
    rcases frz_cases fx with rfl | ⟨s, ys, rfl⟩
    · simp_arith [lstS, all_flat, flat_str, any_mem]
      by_cases e : u ∈ bad
      · simp only [e, decide_true, Bool.not_true, Bool.false_eq_true, if_false]
        exact ⟨.inl trivial, g1 e⟩
      · simp only [e, decide_false, Bool.not_false, if_true]
        exact ⟨.inl trivial, g2 e⟩
    · simp_arith [fx, lstS, all_flat, flat_str, any_mem]
      by_cases e : u ∈ bad
      · simp only [e, decide_true, Bool.not_true, Bool.false_eq_true, if_false]
        exact ⟨.inl trivial, g1 e⟩
      · simp only [e, decide_false, Bool.not_false, if_true]
        exact ⟨.inl trivial, g2 e⟩
theorem bad_of {us : List Str} {t : Tr} {x : Str} (mem : ∀ y, y ∈ us ↔ y ∈ frN t) : ∀ y, y ∈ us ++ [x] ↔ y ∈ frN t ++ [x] := fun y => by
  rw [List.mem_append, List.mem_append, mem y]
def C_p_slow_clause (n : Nat) : AC := fun xs R => ∃ (c : Cl) (t : Tr), xs = [.d (clD c (enc t))] ∧ Ok n t ∧ sz t ≤ 400 ∧ R (.d (clD (slowC c t).1 (enc (slowC c t).2))) [.d (clD c (enc t))]
theorem p_p_slow_clause {n : Nat} : ∀ xs R, C_p_slow_clause n xs R → xs.length = 1 ∧ t_p_slow_clause (CF ownN bnd n) C_p_kept_names (retD [true] xs R) (beg 9 xs) := by
  rintro xs R ⟨c, t, rfl, o, hz, q⟩
  refine ⟨rfl, ?_⟩
  unfold t_p_slow_clause
  have sl := sl_eq
  have e0 : clD c (enc t) = .tuple [.str c.a, .str c.b, .str c.c, .str c.e, enc t] := rfl
  rw [e0] at q ⊢
  refine aSeq_h ?_
  simp_arith []
  refine hid_i (aSeq_h (aIfS_i ?_))
  simp_arith [sc2]
  refine ⟨.inl trivial, br_i (fun e => ?_) (fun e => ?_)⟩
  · have ne : c.b ≠ ("quick" : Str) := fun z => by rw [z, eq_t] at e; cases e
    unfold slowC at q
    rw [if_neg ne] at q
    simp_arith []
    exact q
  · have eq : c.b = ("quick" : Str) := by
      rw [Bool.not_eq_false', eqv_ss] at e
      exact of_decide_eq_true e
    unfold slowC at q
    rw [if_pos eq] at q
    simp_arith []
    refine hid_i (aSeq_h ?_)
    simp_arith []
    refine ⟨t, rfl, o, by omega, fun us nd mem so => ⟨rfl, ?_⟩⟩
    have lu : us.length ≤ sz t := Nat.le_trans (nodup_len nd fun x hx => (mem x).mp hx) (fr_len ownN_len n t o)
    simp_arith []
    refine ⟨by omega, by simp; omega, ?_⟩
    have eb : List.map OV.d (List.map PyData.str us) ++ [OV.d (.str c.c)] = ssO (us ++ [c.c]) := by simp [ssO]
    rw [eb]
    refine hid_i (aSeq_h ?_)
    simp_arith []
    refine ⟨rfl, rfl, ?_⟩
    simp_arith [sit]
    refine pick_lc keptL [] (.n .lst (ssO (us ++ [c.c]))) (frz_ss _) (by simp [keptL_len]) fun X' fx' => ?_
    have pe : pickL (us ++ [c.c]) = pickL (frN t ++ [c.c]) := pickL_congr (bad_of mem)
    obtain ⟨r, er⟩ := pickL_cons (pick_fine o hz c.c)
    have ef : ([] : List Str) ++ keptL.filter (fun x => decide (x ∉ us ++ [c.c])) = freshK t c.c :: r := by
      rw [List.nil_append]
      exact pe.trans er
    rw [ef, ssO, List.map_cons, List.map_cons]
    simp_arith []
    refine hid_i ?_
    simp_arith []
    refine ⟨by omega, by omega, by omega, ?_⟩
    show R (.d (clD ⟨c.a, "many", c.c, freshK t c.c⟩ (enc (Tcall (Tname (freshK t c.c)) t)))) _ 
    rw [enc_call, enc_name] at q
    rw [enc_call, enc_name]
    exact q
end K45

/-! a last call -/
namespace K45
open PySem L2 Grd Ow PyProof.Rows
theorem lay_enc {n : Nat} {t : Tr} (o : Ok n t) : (enc t).canLay0 = true := (fine_enc n t o).cl
abbrev nmD (k : Str) : PyData := .tuple [.str "name", .str k]
theorem fine_nm {k : Str} (sk : Sg 7 k) : Fine (nmD k) 100 1 := (fine_tup (fine_cons ((fine_str (n := 7) (sg_of (by decide +kernel))).mono (Nat.le_refl _) (Nat.zero_le 0)) (fine_cons (fine_str sk) fine_nil))).mono (by decide) (by decide)
theorem eqm_nm {n : Nat} {t : Tr} {k : Str} (o : Ok n t) (sk : Sg 7 k) : (enc t).canLay0 = true ∧ (nmD k).canLay0 = true ∧ min (enc t).depth (nmD k).depth ≤ 64 := by
  have := (fine_nm sk).de
  exact ⟨lay_enc o, (fine_nm sk).cl, by omega⟩
theorem eqv_t (xs ys : List PyData) : PyData.eqv (.tuple xs) (.tuple ys) = PyData.eqvAll xs ys := by rw [PyData.eqv]
theorem eqvA_c (x y : PyData) (xs ys : List PyData) : PyData.eqvAll (x :: xs) (y :: ys) = (PyData.eqv x y && PyData.eqvAll xs ys) := by rw [PyData.eqvAll]
theorem eqvA_n : PyData.eqvAll [] [] = true := by rw [PyData.eqvAll]
theorem eqv_nm {n : Nat} {t : Tr} {k : Str} (o : Ok n t) : PyData.eqv (enc t) (nmD k) = true ↔ t = Tname k := by
  constructor
  · intro h
    cases n with
    | zero => exact o.elim
    | succ n =>
      obtain ⟨hd, ch⟩ := t
      obtain ⟨wf, oc⟩ := o
      cases hd with
      | an w wd tx cs =>
        obtain ⟨a, b, ts, rfl, l⟩ := an_ch (n := n) wf
        rw [encA, eqv_t, eqvA_c, Bool.and_eq_true, eqv_ss, decide_eq_true_eq] at h
        rcases isAn_iff.mp wf.1 with e | e
        · rw [e] at h; exact absurd h.1 (by decide +kernel)
        · rw [e] at h; exact absurd h.1 (by decide +kernel)
      | pl w ps =>
        rw [encP, eqv_t, eqvA_c, Bool.and_eq_true, eqv_ss, decide_eq_true_eq] at h
        obtain ⟨x, sx, rfl, l⟩ := vName (pl_view wf) h.1
        have e0 : ch = [] := List.eq_nil_of_length_eq_zero l
        subst e0
        have h2 := h.2
        rw [fill, fill, eqvA_c, Bool.and_eq_true, eqv_ss, decide_eq_true_eq] at h2
        rw [h.1, h2.1]
        rfl
  · rintro rfl
    rw [enc_name, eqv_t, eqvA_c, eqvA_c, eqvA_n, eq_t, eq_t]
    rfl
theorem argOf_nc {k : Str} {w : Str} {ps : List (Option PyData)} {ch : List Tr} (h : w ≠ ("call" : Str)) : argOf k (.mk (.pl w ps) ch) = none := by
  unfold argOf
  split
  · rename_i e
    cases e
    rw [if_neg (fun z => h z.1)]
  · rfl
theorem argOf_an {k : Str} {w wd tx : Str} {cs : List Cl} {ch : List Tr} : argOf k (.mk (.an w wd tx cs) ch) = none := by
  unfold argOf
  split
  · rename_i e
    cases e
  · rfl
theorem argOf_no {n : Nat} {k : Str} {t b : Tr} (o : Ok n (Tcall t b)) (h : t ≠ Tname k) : argOf k (Tcall t b) = none := by
  cases e : argOf k (Tcall t b) with
  | none => rfl
  | some c =>
    have := argOf_some (m := n) o e
    simp only [Tcall, Tr.mk.injEq, true_and, List.cons.injEq, and_true] at this
    exact absurd this.1 h
theorem lastB_many {c : Cl} {t : Tr} (h : c.b = ("many" : Str)) : lastB c t = (argOf c.e t).bind fun b => if c.e ∈ frN b then none else some b := by
  unfold lastB
  rw [if_pos h]
def C_p_is_last_call (n : Nat) : AC := fun xs R => ∃ (c : Cl) (t : Tr), xs = [.d (clD c (enc t))] ∧ Ok n t ∧ sz t ≤ 1000 ∧ Sg 7 c.e ∧ R (.d (.bool (lastB c t).isSome)) [.d (clD c (enc t))]
theorem p_p_is_last_call {n : Nat} : ∀ xs R, C_p_is_last_call n xs R → xs.length = 1 ∧ t_p_is_last_call (CF ownN bnd n) (retD [true] xs R) (beg 6 xs) := by
  rintro xs R ⟨c, t, rfl, o, hz, se, q⟩
  refine ⟨rfl, ?_⟩
  unfold t_p_is_last_call
  have sl := sl_eq
  have e0 : clD c (enc t) = .tuple [.str c.a, .str c.b, .str c.c, .str c.e, enc t] := rfl
  rw [e0] at q ⊢
  by_cases hb : c.b = ("many" : Str)
  rotate_left
  · rw [lastB_quick hb] at q
    have hbf : PyData.eqv (.str c.b) (.str "many") = false := eq_f hb
    refine aSeq_h ?_
    simp_arith []
    refine hid_i (aSeq_h (aIfS_i ?_))
    simp_arith [sc2, hbf, Bool.not_false]
    refine ⟨.inl trivial, br_t rfl ?_⟩
    simp_arith []
    exact q
  have hbt : PyData.eqv (.str c.b) (.str "many") = true := by rw [hb]; exact eq_t _
  rw [lastB_many hb] at q
  cases n with
  | zero => exact o.elim
  | succ n =>
    obtain ⟨hd, ch⟩ := t
    have o' := o
    obtain ⟨wf, oc⟩ := o
    cases hd with
    | an w wd tx cs =>
      obtain ⟨a, b, ts, rfl, l⟩ := an_ch (n := n) wf
      have nc : PyData.eqv (.str w) (.str "call") = false := eq_f (by rcases isAn_iff.mp wf.1 with e | e <;> rw [e] <;> decide +kernel)
      rw [argOf_an] at q
      rw [encA] at q ⊢
      refine aSeq_h ?_
      simp_arith []
      refine hid_i (aSeq_h (aIfS_i ?_))
      simp_arith [sc2, hbt, nc, Bool.not_false, Bool.not_true]
      refine ⟨.inl trivial, .inl trivial, br_t rfl ?_⟩
      simp_arith []
      exact q
    | pl w ps =>
      by_cases ew : w = ("call" : Str)
      rotate_left
      · have nc : PyData.eqv (.str w) (.str "call") = false := eq_f ew
        rw [argOf_nc ew] at q
        rw [encP] at q ⊢
        refine aSeq_h ?_
        simp_arith []
        refine hid_i (aSeq_h (aIfS_i ?_))
        simp_arith [sc2, hbt, nc, Bool.not_false, Bool.not_true]
        refine ⟨.inl trivial, .inl trivial, br_t rfl ?_⟩
        simp_arith []
        exact q
      subst ew
      have ep := wCall wf
      subst ep
      have lc : ch.length = 2 := wf.2.2.2.2.1.symm
      obtain ⟨t1, b, rfl⟩ := len2 lc
      have yc : PyData.eqv (.str "call") (.str "call") = true := eq_t _
      have o1 := oc t1 (by simp)
      have ob := oc b (by simp)
      have em := eqm_nm o1 se
      rw [encP] at q ⊢
      simp only [fill, List.map_cons, List.map_nil] at q ⊢
      by_cases en : t1 = Tname c.e
      rotate_left
      · have nn : PyData.eqv (enc t1) (nmD c.e) = false := by
          cases e : PyData.eqv (enc t1) (nmD c.e) with
          | false => rfl
          | true => exact absurd ((eqv_nm o1).mp e) en
        rw [show Tr.mk (.pl "call" [none, none]) [t1, b] = Tcall t1 b from rfl, argOf_no (n := n + 1) o' en] at q
        refine aSeq_h ?_
        simp_arith []
        refine hid_i (aSeq_h (aIfS_i ?_))
        simp_arith [sc2, hbt, yc, nn, Bool.not_false, Bool.not_true]
        refine ⟨.inl trivial, .inl trivial, by omega, em, br_t rfl ?_⟩
        simp_arith []
        exact q
      have nn : PyData.eqv (enc t1) (nmD c.e) = true := (eqv_nm o1).mpr en
      subst en
      rw [show Tr.mk (.pl "call" [none, none]) [Tname c.e, b] = Tcall (Tname c.e) b from rfl, argOf_call] at q
      refine aSeq_h ?_
      simp_arith []
      refine hid_i (aSeq_h (aIfS_i ?_))
      simp_arith [sc2, hbt, yc, nn, Bool.not_false, Bool.not_true]
      refine ⟨.inl trivial, .inl trivial, by omega, em, br_f rfl ?_⟩
      simp_arith []
      refine hid_i ?_
      have hsz : sz b ≤ 1000 := by rw [sz_mk, szs_cons, szs_cons] at hz; omega
      simp_arith []
      refine ⟨b, rfl, ob.mono (by omega), hsz, fun us nd mem so => ⟨rfl, ?_⟩⟩
      simp_arith [frz_ss, all_flat, flat_str, any_mem]
      have em2 : decide (c.e ∈ us) = decide (c.e ∈ frN b) := by
        have := mem c.e
        by_cases h : c.e ∈ frN b
        · simp [h, this.mpr h]
        · have h2 : c.e ∉ us := fun z => h (this.mp z)
          simp [h, h2]
      rw [em2]
      simp only [Option.bind_some] at q
      by_cases h : c.e ∈ frN b
      · simp only [h, if_true, Option.isSome_none] at q
        simp only [h, decide_true, Bool.not_true]
        exact ⟨.inl trivial, q⟩
      · simp only [h, if_false, Option.isSome_some] at q
        simp only [h, decide_false, Bool.not_false]
        exact ⟨.inl trivial, q⟩
def C_p_quick_clause (n : Nat) : AC := fun xs R => ∃ (c : Cl) (t : Tr), xs = [.d (clD c (enc t))] ∧ Ok n t ∧ sz t ≤ 1000 ∧ Sg 7 c.e ∧ R (.d (clD (quickC c t).1 (enc (quickC c t).2))) [.d (clD c (enc t))]
theorem p_p_quick_clause {n : Nat} : ∀ xs R, C_p_quick_clause n xs R → xs.length = 1 ∧ t_p_quick_clause (C_p_is_last_call n) (retD [true] xs R) (beg 6 xs) := by
  rintro xs R ⟨c, t, rfl, o, hz, se, q⟩
  refine ⟨rfl, ?_⟩
  unfold t_p_quick_clause
  have sl := sl_eq
  have e0 : clD c (enc t) = .tuple [.str c.a, .str c.b, .str c.c, .str c.e, enc t] := rfl
  cases e : lastB c t with
  | none =>
    have e1 : quickC c t = (c, t) := by unfold quickC; rw [e]
    rw [e1] at q
    rw [e0]
    refine aSeq_h ?_
    simp_arith []
    refine hid_i ?_
    simp_arith []
    refine ⟨c, t, rfl, o, hz, se, rfl, ?_⟩
    simp_arith [e, Option.isSome_none]
    exact q
  | some b =>
    have e1 : quickC c t = (⟨c.a, "quick", c.c, ""⟩, b) := by unfold quickC; rw [e]
    rw [e1] at q
    obtain ⟨hb, rfl, nf⟩ := lastB_some o e
    rw [e0]
    refine aSeq_h ?_
    simp_arith []
    refine hid_i ?_
    simp_arith []
    refine ⟨c, _, rfl, o, hz, se, rfl, ?_⟩
    rw [enc_call] at q ⊢
    simp_arith [e, Option.isSome_some]
    exact ⟨by omega, q⟩
end K45

/-! the law's own: what is bound, what is free -/
namespace K45
open PySem L2 Grd Ow PyProof.Rows
def C_bound : AC := fun xs R => ∃ (h : Hd) (ds : List PyData), xs = [.d (encH h ds)] ∧ WFh h ds.length ∧ (∀ d ∈ ds, ∃ es, d = .tuple es) ∧ ∀ z, frz z = some (.list ((bnd h ds.length).map tupS)) → R z [.d (encH h ds)]
theorem cut_m1 {α : Type} (a b c : α) : cut [a, b, c] (some 1) (some (-1)) = [b] := rfl
theorem cut_m2 {α : Type} (a b c d : α) : cut [a, b, c, d] (some 1) (some (-1)) = [b, c] := rfl
/-- what is no empty text -/
def noE (d : PyData) : Option OV := match d with
  | .str x => if x = ("" : Str) then none else some (.d (.str x))
  | _ => none
def bC (d : PyData) : Option OV := match d with
  | .tuple [_, .str b, c, e, _] => some (.d (.tuple (if PyData.eqv (.str b) (.str "many") = true then [c, e] else [c])))
  | _ => none
theorem fill_ne (x : Str) (d : PyData) : fill [some (.str x), none] [d] = [.str x, d] := rfl
theorem p_bound : ∀ xs R, C_bound xs R → xs.length = 1 ∧ t_bound C_inner (retD [true] xs R) (beg 4 xs) := by
  rintro xs R ⟨h, ds, rfl, wf, tt, q⟩
  refine ⟨rfl, ?_⟩
  unfold t_bound
  have sl := sl_eq
  cases h with
  | an w wd tx cs =>
    have wf' := wf
    obtain ⟨h1, h2, h3, h4, h5, ⟨h6, h8⟩, h7⟩ := wf
    have hw := isAn_iff.mp h1
    have n1 : ¬ (w = ("fun" : Str) ∨ w = ("rec" : Str)) := by rcases hw with rfl | rfl <;> decide +kernel
    have n3 : w ≠ "let" := by rcases hw with rfl | rfl <;> decide +kernel
    have y1 : (w = ("handle" : Str) ∨ w = ("under" : Str)) := hw
    have t1 := any2 w "fun" "rec"
    have t2 := any2 w "handle" "under"
    simp only [List.any_cons, List.any_nil, Bool.or_false, n1, decide_false] at t1
    simp only [List.any_cons, List.any_nil, Bool.or_false, y1, decide_true] at t2
    match ds, h7 with
    | d0 :: d1 :: ds, h7 =>
      simp only [encH] at q ⊢
      refine aSeq_h ?_
      simp_arith []
      refine hid_i (aSeq_h (aIfS_i ?_))
      simp_arith [flatD, List.all_cons, List.all_nil, Bool.and_true, t1]
      refine ⟨by omega, br_f rfl ?_⟩
      simp_arith []
      refine hid_i (aSeq_h (aIfS_i ?_))
      simp_arith [sc2, eq_f n3]
      refine ⟨.inl trivial, br_f rfl ?_⟩
      simp_arith []
      refine hid_i (aSeq_h (aIfS_i ?_))
      simp_arith [flatD, List.all_cons, List.all_nil, Bool.and_true, t2]
      refine ⟨by omega, br_t rfl ?_⟩
      simp_arith [sit]
      have hl : (List.zipWith clD cs ds).length ≤ 12 := by rw [List.length_zipWith]; omega
      have le : cs.length = ds.length := by simp at h7; omega
      refine ⟨by omega, by omega, by omega, ?_⟩
      refine lc_pure bC (fun d hd lim K hlim hk => ?_) (by omega) ?_
      · obtain ⟨c, hc, o, rfl⟩ : ∃ c ∈ cs, ∃ o, d = clD c o := by
          obtain ⟨c, o, e⟩ := zw_mem hd
          have : ∀ (cs : List Cl) (ds : List PyData), d ∈ List.zipWith clD cs ds → ∃ c ∈ cs, ∃ o, d = clD c o := by
            intro cs
            induction cs with
            | nil => intro ds h; simp at h
            | cons c cs ih =>
              intro ds h
              cases ds with
              | nil => simp at h
              | cons x ds =>
                rw [List.zipWith_cons_cons] at h
                rcases List.mem_cons.mp h with rfl | h
                · exact ⟨c, by simp, x, rfl⟩
                · obtain ⟨c', hc', o', e'⟩ := ih ds h
                  exact ⟨c', by simp [hc'], o', e'⟩
          exact this cs ds hd
        obtain ⟨g1, g2, g3, g4⟩ := h8 c hc
        simp only [clD, bC] at hk ⊢
        simp_arith [cut_24, sit]
        refine lc_pure noE (fun d hd lim K hlim hk => ?_) (by simp; omega) ?_
        · obtain ⟨x, rfl⟩ : ∃ x : Str, d = .str x := by
            simp only [List.mem_cons, List.not_mem_nil, or_false] at hd
            rcases hd with rfl | rfl <;> exact ⟨_, rfl⟩
          simp only [noE] at hk
          simp_arith [sc2, eqv_ss]
          by_cases e : x = ("" : Str)
          · simp only [e, if_true] at hk
            simp only [e, decide_true, Bool.not_true, Bool.false_eq_true, if_false]
            exact ⟨.inl trivial, hk⟩
          · simp only [e, if_false] at hk
            simp only [e, decide_false, Bool.not_false, if_true]
            exact ⟨.inl trivial, hlim, hk⟩
        · by_cases e : c.b = ("many" : Str)
          · have g := g2 e
            simp only [eqv_ss, e, decide_true, if_true] at hk
            simp only [List.filterMap_cons, List.filterMap_nil, noE, g1, g, if_false]
            simp_arith [oTuple]
            exact ⟨by omega, hk⟩
          · have g := g3 e
            simp only [eqv_ss, e, decide_false, Bool.false_eq_true, if_false] at hk
            simp only [List.filterMap_cons, List.filterMap_nil, noE, g1, g, if_false, if_true]
            simp_arith [oTuple]
            exact ⟨by omega, hk⟩
      · have eb : (List.zipWith clD cs ds).filterMap bC = (List.zipWith clD cs ds).filterMap nmC := rfl
        rw [eb, nm_zw cs ds le]
        simp_arith []
        refine ⟨by rw [List.length_map, List.length_map, List.length_map]; omega, q _ ?_⟩
        rw [bnd_an]
        have e : (OV.d (.tuple []) :: OV.d (.tuple [.str tx]) :: List.map OV.d ((cs.map fun c => if c.b = ("many" : Str) then [c.c, c.e] else [c.c]).map tupS)) = ((([] : List Str) :: [tx] :: (cs.map fun c => if c.b = ("many" : Str) then [c.c, c.e] else [c.c])).map tupS).map OV.d := by
          rw [List.map_cons, List.map_cons, List.map_cons, List.map_cons]; rfl
        rw [e, frz_lst]
  | pl w ps =>
    have v := pl_view wf
    have wf' := wf
    obtain ⟨h1, h2, _, _, h5, h6⟩ := wf
    have hd3 : ds.length ≤ 3 := by have := nones_le ps; omega
    have na : ¬ (w = ("handle" : Str) ∨ w = ("under" : Str)) := fun e => by
      have := isAn_iff.mpr e
      rw [h1] at this
      cases this
    have t2 := any2 w "handle" "under"
    simp only [List.any_cons, List.any_nil, Bool.or_false, na, decide_false] at t2
    have t1 := any2 w "fun" "rec"
    simp only [List.any_cons, List.any_nil, Bool.or_false] at t1
    refine aSeq_h ?_
    simp only [encH] at q ⊢
    simp_arith []
    refine hid_i (aSeq_h (aIfS_i ?_))
    by_cases e1 : w = "fun"
    · obtain ⟨x, sx, rfl, l⟩ := vFun v e1
      obtain ⟨d, rfl⟩ := len1 l
      subst e1
      simp only [fill] at q ⊢
      simp_arith [flatD, List.all_cons, List.all_nil, Bool.and_true, t1, true_or, decide_true]
      refine ⟨by omega, br_t rfl ?_⟩
      simp_arith [cut_m1]
      refine ⟨by omega, q _ ?_⟩
      rw [bnd_fun]
      rfl
    by_cases e2 : w = "rec"
    · obtain ⟨f, x, sf, sx, rfl, l⟩ := vRec v e2
      obtain ⟨d, rfl⟩ := len1 l
      subst e2
      simp only [fill] at q ⊢
      simp_arith [flatD, List.all_cons, List.all_nil, Bool.and_true, t1, or_true, decide_true]
      refine ⟨by omega, br_t rfl ?_⟩
      simp_arith [cut_m2]
      refine ⟨by omega, q _ ?_⟩
      rw [bnd_rec]
      rfl
    simp_arith [flatD, List.all_cons, List.all_nil, Bool.and_true, t1, e1, e2, or_self, decide_false]
    refine ⟨by omega, br_f rfl ?_⟩
    simp_arith []
    refine hid_i (aSeq_h (aIfS_i ?_))
    simp_arith [sc2]
    by_cases e3 : w = "let"
    · obtain ⟨x, sx, rfl, l⟩ := vLet v e3
      obtain ⟨d, d', rfl⟩ := len2 l
      subst e3
      simp only [fill] at q ⊢
      refine ⟨.inl trivial, br_t (eq_t _) ?_⟩
      simp_arith []
      refine ⟨by omega, by omega, by omega, q _ ?_⟩
      rw [bnd_let]
      rfl
    refine ⟨.inl trivial, br_f (eq_f e3) ?_⟩
    simp_arith []
    refine hid_i (aSeq_h (aIfS_i ?_))
    simp_arith [flatD, List.all_cons, List.all_nil, Bool.and_true, t2]
    refine ⟨by omega, br_f rfl ?_⟩
    simp_arith []
    refine hid_i ?_
    simp_arith []
    refine ⟨.pl w ps, ds, rfl, wf', tt, rfl, ?_⟩
    simp_arith [sit]
    refine lc_pure (fun _ => some (.d (.tuple []))) (fun d hd lim K hlim hk => ?_) (by omega) ?_
    · simp_arith []
      exact ⟨by omega, hlim, hk⟩
    · rw [fm_rep]
      simp_arith []
      refine q _ ?_
      rw [frz_rep, bnd_no ps _ e1 e2 e3, rep_tup]
/-! what is free -/
theorem lst_ss (ss : List Str) : Ow.lst (.d (.list (ss.map PyData.str))) = some ss := by
  unfold Ow.lst
  simp only [lel, Option.bind_some, frzs_map]
  exact strs_of ss
theorem lst_ssn (ss : List Str) : Ow.lst (.n .lst ((ss.map PyData.str).map OV.d)) = some ss := by
  unfold Ow.lst
  simp only [lel, Option.bind_some, frzs_map]
  exact strs_of ss
theorem lf_loop {n : Nat} {D : AD} {s0 : Option OV} : ∀ (ts : List Tr) (bs : List (List Str)) (acc : List Str) (v2 v3 : Option OV), (∀ c ∈ ts, Ok n c) → bs.length = ts.length → szs ts ≤ 1000 → acc.length + szs ts ≤ 2000 →
    (∀ (out : List Str) (v2 v3 : Option OV), (∀ x, x ∈ out ↔ x ∈ acc ∨ x ∈ frs ownN bnd bs ts) → out.length ≤ acc.length + szs ts → D.nx [s0, some (.n .lst (ssO out)), v2, v3, none]) →
    forW (.t [.n 2, .n 3]) (aAsg (a2 oAdd (aName 1) (aLc (aOver (aCall (CF ownN bnd n) (aRs 2 aRn))) (.n 4) (aTst (a2 (o2 (fIn true)) (aName 4) (aName 3))) (aName 4) [4])) (.n 1)) D (zipD (ts.map enc) (bs.map tupS)) [s0, some (.n .lst (ssO acc)), v2, v3, none]
  | [], bs, acc, v2, v3, _, _, _, _, q => by
    simp only [List.map_nil, zipD, List.zip_nil_left, forW]
    exact q acc v2 v3 (fun x => by rw [frs_nil']; simp) (by omega)
  | t :: ts, [], acc, v2, v3, _, l, _, _, _ => by simp at l
  | t :: ts, b :: bs, acc, v2, v3, oc, l, hz, hl, q => by
    have sl := sl_eq
    rw [List.map_cons, List.map_cons, zipD_cons]
    unfold forW
    rw [szs_cons] at hl hz
    simp_arith [frz_ss]
    refine ⟨t, rfl, oc t (by simp), by omega, fun us nd mem so => ⟨rfl, ?_⟩⟩
    have lu : us.length ≤ sz t := Nat.le_trans (nodup_len nd fun x hx => (mem x).mp hx) (fr_len ownN_len n t (oc t (by simp)))
    simp_arith [sit]
    refine lc_pure (notIn b) (fun d hd lim K hlim hk => ?_) (by simp; omega) ?_
    · obtain ⟨x, hx, rfl⟩ := List.mem_map.mp hd
      simp only [tupS]
      simp_arith [all_flat, flat_str, any_mem]
      by_cases e : x ∈ b
      · simp only [notIn, e, if_true] at hk
        simp only [e, decide_true, Bool.not_true, Bool.false_eq_true, if_false]
        exact hk
      · simp only [notIn, e, if_false] at hk
        simp only [e, decide_false, Bool.not_false, if_true]
        exact ⟨hlim, hk⟩
    · rw [notIn_fm]
      have lf : (us.filter fun x => decide (x ∉ b)).length ≤ us.length := List.length_filter_le _ _
      simp_arith []
      refine ⟨by simp only [List.length_map]; omega, ?_⟩
      have ea : List.map OV.d (List.map PyData.str acc) ++ List.map OV.d (List.map PyData.str (us.filter fun x => decide (x ∉ b))) = ssO (acc ++ us.filter fun x => decide (x ∉ b)) := by simp [ssO]
      rw [ea]
      refine lf_loop ts bs (acc ++ us.filter fun x => decide (x ∉ b)) _ _ (fun c hc => oc c (by simp [hc])) (by simpa using l) (by omega) (by rw [List.length_append]; omega) fun out v2 v3 mo lo => q out v2 v3 (fun x => ?_) ?_
      · rw [mo x, frs_cons, List.mem_append, List.mem_append, List.mem_filter, List.mem_filter, mem x]
        constructor
        · rintro ((h | h) | h)
          · exact .inl h
          · exact .inr (.inl h)
          · exact .inr (.inr h)
        · rintro (h | h | h)
          · exact .inl (.inl h)
          · exact .inl (.inr h)
          · exact .inr h
      · rw [List.length_append] at lo
        rw [szs_cons]
        omega
theorem p_free {n : Nat} : ∀ xs R, CF ownN bnd (n + 1) xs R → xs.length = 1 ∧ t_free C_inner C_bound (CF ownN bnd n) (retD [true] xs R) (beg 5 xs) := by
  rintro xs R ⟨⟨h, ch⟩, rfl, ⟨wf, oc⟩, hz, q⟩
  refine ⟨rfl, ?_⟩
  unfold t_free
  have sl := sl_eq
  have lc := szs_len ch
  have hz' := hz
  rw [sz_mk] at hz'
  have tl : ∀ F : AS, F = (aSeq (aFor (aZip2 (aCall C_inner (aRs 0 aRn)) (aCall C_bound (aRs 0 aRn))) (.t [(.n 2), (.n 3)]) (aAsg (a2 oAdd (aName 1) (aLc (aOver (aCall (CF ownN bnd n) (aRs 2 aRn))) (.n 4) (aTst (a2 (o2 (fIn true)) (aName 4) (aName 3))) (aName 4) [4])) (.n 1)))
    (aRet (aSortedSet (aName 1)))) → F (retD [true] [.d (enc (.mk h ch))] R) [some (.d (enc (.mk h ch))), some (.n .lst (ssO (ownN h))), none, none, none] := by
    rintro F rfl
    refine aSeq_h ?_
    have tt := encs_tuple oc
    have e1 : sfd (.n .lst ((ch.map enc).map OV.d)) = some (ch.map enc) := by unfold sfd; rw [frz_lst]; rfl
    simp_arith []
    refine ⟨h, ch.map enc, by rw [enc_mk], by rw [List.length_map]; exact wf, tt, rfl, ?_⟩
    simp_arith []
    refine ⟨h, ch.map enc, rfl, by rw [List.length_map]; exact wf, tt, fun z fz => ⟨rfl, ?_⟩⟩
    rw [List.length_map] at fz
    have e2 : sfd z = some ((bnd h ch.length).map tupS) := by unfold sfd; rw [fz]; rfl
    simp_arith [e1, e2]
    have ho1 := ownN_len h _ wf
    rw [← enc_mk]
    refine lf_loop ch (bnd h ch.length) (ownN h) none none oc (bnd_len wf) (by omega) (by omega) fun out v2 v3 mo lo => ?_
    simp_arith []
    refine hid_i ?_
    simp_arith [lst_ss]
    refine ⟨by omega, fun us nd mu so => q us nd (fun x => ?_) so⟩
    rw [mu x, mo x, fr_mk, List.mem_append]
  have tl := tl _ rfl
  refine aSeq_h ?_
  cases h with
  | an w wd tx cs =>
    have wf' := wf
    obtain ⟨h1, h2, h3, h4, h5, h6, h7⟩ := wf
    have nn : w ≠ "name" := by rcases isAn_iff.mp h1 with rfl | rfl <;> decide +kernel
    match ch, h7 with
    | a :: b :: ts, h7 =>
      rw [encA] at tl ⊢
      simp_arith [sc2]
      rw [eq_f nn]
      simp_arith []
      exact ⟨.inl trivial, by omega, hid_i tl⟩
  | pl w ps =>
    rw [ownN_pl] at tl
    rw [encP] at tl ⊢
    simp_arith [sc2]
    by_cases e : w = "name"
    · obtain ⟨x, sx, rfl, l⟩ := vName (pl_view wf) e
      rw [if_pos e] at tl
      subst e
      rw [eq_t]
      simp_arith [fill]
      exact ⟨.inl trivial, by omega, hid_i tl⟩
    · rw [if_neg e] at tl
      rw [eq_f e]
      simp_arith []
      exact ⟨.inl trivial, by omega, hid_i tl⟩
end K45

/-! the law's own: rows made slow, made quick -/
namespace K45
open PySem L2 Grd Ow PyProof.Rows
theorem pick_lcL {Q : OV → En → Prop} {bad : List Str} {s0 s1 s3 s5 s6 : Option OV} : ∀ (us acc : List Str) (X : OV), frz X = some (lstS bad) → acc.length + us.length ≤ 1000 → (∀ X', frz X' = some (lstS bad) → Q (.n .lst (ssO (acc ++ us.filter fun x => decide (x ∉ bad)))) [s0, s1, some X', s3, none, s5, s6]) →
    lcW (.n 4) (aTst (a2 (o2 (fIn true)) (aName 4) (aName 2))) (aName 4) [4] Q (us.map PyData.str) (ssO acc) [s0, s1, some X, s3, none, s5, s6]
  | [], acc, X, fx, l, q => by simpa [lcW] using q X fx
  | u :: us, acc, X, fx, l, q => by
    have sl := sl_eq
    simp only [List.length_cons] at l
    rw [List.map_cons]
    unfold lcW
    have go1 : ∀ X', frz X' = some (lstS bad) → u ∈ bad → lcW (.n 4) (aTst (a2 (o2 (fIn true)) (aName 4) (aName 2))) (aName 4) [4] Q (us.map PyData.str) (ssO acc) [s0, s1, some X', s3, none, s5, s6] := fun X' fx' e => by
      refine pick_lcL us acc X' fx' (by omega) fun X'' f2 => ?_
      have := q X'' f2
      rw [List.filter_cons, if_neg (by simp [e])] at this
      exact this
    have go2 : ∀ X', frz X' = some (lstS bad) → u ∉ bad → (ssO acc).length < sizeLine ∧ lcW (.n 4) (aTst (a2 (o2 (fIn true)) (aName 4) (aName 2))) (aName 4) [4] Q (us.map PyData.str) (ssO acc ++ [.d (.str u)]) [s0, s1, some X', s3, none, s5, s6] := fun X' fx' e => by
      have ea : ssO acc ++ [.d (.str u)] = ssO (acc ++ [u]) := by simp [ssO]
      rw [ea]
      refine ⟨by simp; omega, pick_lcL us _ X' fx' (by simp; omega) fun X'' f2 => ?_⟩
      have := q X'' f2
      rw [List.filter_cons, if_pos (by simp [e])] at this
      rw [List.append_assoc]
      exact this
    have g1 := go1 (.d (lstS bad)) (frz_d _)
    have g2 := go2 (.d (lstS bad)) (frz_d _)
    rcases frz_cases fx with rfl | ⟨s, ys, rfl⟩
    · simp_arith [lstS, all_flat, flat_str, any_mem]
      by_cases e : u ∈ bad
      · simp only [e, decide_true, Bool.not_true, Bool.false_eq_true, if_false]
        exact ⟨.inl trivial, g1 e⟩
      · simp only [e, decide_false, Bool.not_false, if_true]
        exact ⟨.inl trivial, g2 e⟩
    · simp_arith [fx, lstS, all_flat, flat_str, any_mem]
      by_cases e : u ∈ bad
      · simp only [e, decide_true, Bool.not_true, Bool.false_eq_true, if_false]
        exact ⟨.inl trivial, g1 e⟩
      · simp only [e, decide_false, Bool.not_false, if_true]
        exact ⟨.inl trivial, g2 e⟩
abbrev kuvG (U us : List Nat) : List Str := (us.map fun u => U.map fun v => (⟨#[107, u, v]⟩ : Str)).flatten
theorem ks_loop {z : Str} {U : List Nat} (hU : chD z = chU U) (lU : U.length = 26) {D : AD} {s0 s2 s5 : Option OV} : ∀ (us : List Nat) (acc : List Str) (v4 : Option OV), acc.length + 26 * us.length ≤ 1000 →
    (∀ v4, D.nx [s0, some (.d (.str z)), s2, some (.n .lst (ssO (acc ++ kuvG U us))), v4, s5, none]) →
    forW (.n 4) (aAsg (a2 oAdd (aName 3) (aLc (aOver (aName 1)) (.n 6) aYes (a2 oAdd (a2 oAdd (aC (.str "k")) (aName 4)) (aName 6)) [6])) (.n 3)) D (chU us) [s0, some (.d (.str z)), s2, some (.n .lst (ssO acc)), v4, s5, none]
  | [], acc, v4, l, q => by simpa [forW, chU] using q v4
  | u :: us, acc, v4, l, q => by
    have sl := sl_eq
    have k1 := kLen
    have k2 := uLen u
    have k3 := uLen2 107 u
    simp only [List.length_cons] at l
    rw [chU, List.map_cons]
    unfold forW
    simp_arith [sit, hU, frz_ss]
    refine lc_pure (addU u) (fun d hd lim K hlim hk => ?_) (by simp [lU]; omega) ?_
    · obtain ⟨v, hv, rfl⟩ := List.mem_map.mp hd
      have k4 := uLen v
      simp only [addU] at hk
      simp_arith [kU]
      exact ⟨by omega, by omega, hlim, hk⟩
    · rw [addU_fm]
      simp_arith []
      refine ⟨by simp only [List.length_map]; omega, ?_⟩
      have ea : List.map OV.d (List.map PyData.str acc) ++ List.map OV.d (List.map PyData.str (U.map fun v => (⟨#[107, u, v]⟩ : Str))) = ssO (acc ++ U.map fun v => (⟨#[107, u, v]⟩ : Str)) := by simp [ssO]
      rw [ea]
      refine ks_loop hU lU us _ _ (by simp [lU]; omega) fun v4 => ?_
      have := q v4
      rw [kuvG, List.map_cons, List.flatten_cons] at this
      rw [List.append_assoc]
      exact this
theorem kept_eq : (abcU.map fun u => (⟨#[107, u]⟩ : Str)) ++ kuv abcU = keptL := by simp [keptL]
def srT : AS :=
  (aSeq (aAsg (a2 oIx (aLc (aOver (aName 3)) (.n 4) (aTst (a2 (o2 (fIn true)) (aName 4) (aName 2))) (aName 4) [4]) (aC (.int 0))) (.n 5))
    (aRet (aTup (aCons (aIxN 0 (aC (.int 0))) (aCons (aC (.str "many")) (aCons (aIxN 0 (aC (.int 2))) (aCons (aName 5) (aCons (aTup (aCons (aC (.str "call")) (aCons (aTup (aCons (aC (.str "name")) (aCons (aName 5) aNil))) (aCons (aIxN 0 (aC (.int 4))) aNil)))) aNil))))))))
theorem sr_tail {n : Nat} {c : Cl} {t : Tr} {us ks r : List Str} {k : Str} {R : OV → List OV → Prop} {v1 v4 : Option OV} (lk : ks.length ≤ 900) (ef : ks.filter (fun x => decide (x ∉ us ++ [c.c])) = k :: r)
    (q : R (.d (.tuple [.str c.a, .str "many", .str c.c, .str k, .tuple [.str "call", .tuple [.str "name", .str k], enc t]])) [.d (clD c (enc t))]) :
    srT (retD [true] [.d (clD c (enc t))] R) [some (.d (.tuple [.str c.a, .str c.b, .str c.c, .str c.e, enc t])), v1, some (.n .lst (ssO (us ++ [c.c]))), some (.n .lst (ssO ks)), v4, none, none] := by
  have sl := sl_eq
  unfold srT
  refine aSeq_h ?_
  simp_arith [sit, frz_ss]
  refine pick_lcL ks [] (.n .lst (ssO (us ++ [c.c]))) (frz_ss _) (by simp; omega) fun X' fx' => ?_
  rw [List.nil_append, ef, ssO, List.map_cons, List.map_cons]
  simp_arith []
  refine hid_i ?_
  simp_arith []
  exact ⟨by omega, by omega, by omega, q⟩
def srM : AS :=
  (aSeq (aAsg (aLc (aOver (aName 1)) (.n 4) aYes (a2 oAdd (aC (.str "k")) (aName 4)) [4]) (.n 3))
    (aSeq (aFor (aOver (aName 1)) (.n 4) (aAsg (a2 oAdd (aName 3) (aLc (aOver (aName 1)) (.n 6) aYes (a2 oAdd (a2 oAdd (aC (.str "k")) (aName 4)) (aName 6)) [6])) (.n 3))) srT))
theorem sr_mid {n : Nat} {z : Str} {U : List Nat} (hU : chD z = chU U) (lU : U.length = 26) {c : Cl} {t : Tr} {us r : List Str} {k : Str} {R : OV → List OV → Prop}
    (ef : ((U.map fun u => (⟨#[107, u]⟩ : Str)) ++ kuvG U U).filter (fun x => decide (x ∉ us ++ [c.c])) = k :: r) (lk : ((U.map fun u => (⟨#[107, u]⟩ : Str)) ++ kuvG U U).length ≤ 900)
    (q : R (.d (.tuple [.str c.a, .str "many", .str c.c, .str k, .tuple [.str "call", .tuple [.str "name", .str k], enc t]])) [.d (clD c (enc t))]) :
    srM (retD [true] [.d (clD c (enc t))] R) [some (.d (.tuple [.str c.a, .str c.b, .str c.c, .str c.e, enc t])), some (.d (.str z)), some (.n .lst (ssO (us ++ [c.c]))), none, none, none, none] := by
  have sl := sl_eq
  unfold srM
  refine aSeq_h ?_
  simp_arith [sit, hU]
  have k1 := kLen
  refine lc_pure addK (fun d hd lim K hlim hk => ?_) (by simp [lU]; omega) ?_
  · obtain ⟨v, hv, rfl⟩ := List.mem_map.mp hd
    have k4 := uLen v
    simp only [addK] at hk
    simp_arith []
    exact ⟨by omega, hlim, hk⟩
  rw [addK_fm]
  simp_arith []
  refine hid_i (aSeq_h ?_)
  simp_arith [sit, hU]
  refine ks_loop hU lU U (U.map fun u => (⟨#[107, u]⟩ : Str)) none (by simp [lU]) fun v4 => ?_
  simp_arith []
  refine hid_i ?_
  exact sr_tail (n := n) (r := r) lk ef q
theorem p_slow_row {n : Nat} : ∀ xs R, C_p_slow_clause n xs R → xs.length = 1 ∧ t_slow_row (CF ownN bnd n) (retD [true] xs R) (beg 7 xs) := by
  rintro xs R ⟨c, t, rfl, o, hz, q⟩
  refine ⟨rfl, ?_⟩
  unfold t_slow_row
  have sl := sl_eq
  have e0 : clD c (enc t) = .tuple [.str c.a, .str c.b, .str c.c, .str c.e, enc t] := rfl
  rw [e0] at q ⊢
  refine aSeq_h (aIfS_i ?_)
  simp_arith [sc2]
  refine ⟨.inl trivial, br_i (fun e => ?_) (fun e => ?_)⟩
  · have ne : c.b ≠ ("quick" : Str) := fun z => by rw [z, eq_t] at e; cases e
    unfold slowC at q
    rw [if_neg ne] at q
    simp_arith []
    exact q
  · have eq : c.b = ("quick" : Str) := by
      rw [Bool.not_eq_false', eqv_ss] at e
      exact of_decide_eq_true e
    unfold slowC at q
    rw [if_pos eq] at q
    simp_arith []
    refine hid_i (aSeq_h ?_)
    simp_arith []
    refine ⟨t, rfl, o, by omega, fun us nd mem so => ⟨rfl, ?_⟩⟩
    have lu : us.length ≤ sz t := Nat.le_trans (nodup_len nd fun x hx => (mem x).mp hx) (fr_len ownN_len n t o)
    simp_arith []
    refine ⟨by omega, by simp; omega, by omega, ?_⟩
    have eb : List.map OV.d (List.map PyData.str us) ++ [OV.d (.str c.c)] = ssO (us ++ [c.c]) := by simp [ssO]
    rw [eb]
    rw [enc_call, enc_name] at q
    refine hid_i ?_
    have pe : pickL (us ++ [c.c]) = pickL (frN t ++ [c.c]) := pickL_congr (bad_of mem)
    obtain ⟨r, er⟩ := pickL_cons (pick_fine o hz c.c)
    exact sr_mid (n := n) (r := r) abcD abcU_len (by rw [kept_eq]; exact pe.trans er) (by rw [kept_eq, keptL_len]; decide) q
/-! made quick -/
theorem lay_take : ∀ (xs : List PyData) (k : Nat), PyData.canLayAll0 xs = true → PyData.canLayAll0 (xs.take k) = true
  | [], k, h => by simpa using h
  | x :: xs, 0, h => by rw [List.take_zero, PyData.canLayAll0]
  | x :: xs, k + 1, h => by
    rw [PyData.canLayAll0, Bool.and_eq_true] at h
    rw [List.take_succ_cons, PyData.canLayAll0, h.1, lay_take xs k h.2]
    rfl
abbrev cnD (k : Str) : PyData := .tuple [.str "call", nmD k]
theorem fine_cn {k : Str} (sk : Sg 7 k) : Fine (cnD k) 1000 2 := (fine_tup (fine_cons ((fine_str (n := 7) (sg_of (by decide +kernel))).mono (Nat.le_refl _) (Nat.zero_le 1)) (fine_cons (fine_nm sk) fine_nil))).mono (by decide) (by decide)
theorem eqm_cn {xs : List PyData} {k : Str} (h : (PyData.tuple xs).canLay0 = true) (sk : Sg 7 k) : (PyData.tuple (xs.take 2)).canLay0 = true ∧ (cnD k).canLay0 = true ∧ min (PyData.tuple (xs.take 2)).depth (cnD k).depth ≤ 64 := by
  have := (fine_cn sk).de
  refine ⟨?_, (fine_cn sk).cl, by omega⟩
  rw [PyData.canLay0] at h ⊢
  exact lay_take xs 2 h
theorem enc_tup2 {n : Nat} {t : Tr} (o : Ok n t) : ∃ xs, enc t = .tuple xs := enc_tuple o
/-- what a row's answer begins with -/
theorem eqv_cn {n : Nat} {t : Tr} {k : Str} {xs : List PyData} (o : Ok n t) (e : enc t = .tuple xs) : PyData.eqv (.tuple (xs.take 2)) (cnD k) = (argOf k t).isSome ∧ ∀ b, argOf k t = some b → xs = [.str "call", nmD k, enc b] := by
  cases n with
  | zero => exact o.elim
  | succ n =>
    obtain ⟨hd, ch⟩ := t
    have o' := o
    obtain ⟨wf, oc⟩ := o
    cases hd with
    | an w wd tx cs =>
      obtain ⟨a, b, ts, rfl, l⟩ := an_ch (n := n) wf
      have nc : PyData.eqv (.str w) (.str "call") = false := eq_f (by rcases isAn_iff.mp wf.1 with e | e <;> rw [e] <;> decide +kernel)
      rw [argOf_an]
      rw [encA] at e
      cases e
      refine ⟨?_, fun b h => by cases h⟩
      rw [List.take_succ_cons, eqv_t, eqvA_c, nc]
      rfl
    | pl w ps =>
      rw [encP] at e
      cases e
      by_cases ew : w = ("call" : Str)
      rotate_left
      · have nc : PyData.eqv (.str w) (.str "call") = false := eq_f ew
        rw [argOf_nc ew]
        refine ⟨?_, fun b h => by cases h⟩
        rw [List.take_succ_cons, eqv_t, eqvA_c, nc]
        rfl
      subst ew
      have ep := wCall wf
      subst ep
      obtain ⟨t1, b, rfl⟩ := len2 wf.2.2.2.2.1.symm
      have o1 := oc t1 (by simp)
      simp only [fill, List.map_cons, List.map_nil]
      rw [show List.take 2 [PyData.str ("call" : Str), enc t1, enc b] = [.str ("call" : Str), enc t1] from rfl, eqv_t, eqvA_c, eqvA_c, eqvA_n, eq_t, Bool.true_and, Bool.and_true]
      rw [show Tr.mk (.pl "call" [none, none]) [t1, b] = Tcall t1 b from rfl]
      by_cases en : t1 = Tname k
      · subst en
        rw [argOf_call]
        refine ⟨(eqv_nm o1).mpr rfl, fun c h => ?_⟩
        cases h
        rw [enc_name]
      · rw [argOf_no (n := n + 1) o' en]
        refine ⟨?_, fun c h => by cases h⟩
        cases e : PyData.eqv (enc t1) (nmD k) with
        | false => rfl
        | true => exact absurd ((eqv_nm o1).mp e) en
theorem p_quick_row {n : Nat} : ∀ xs R, C_p_quick_clause n xs R → xs.length = 1 ∧ t_quick_row (CF ownN bnd n) (retD [true] xs R) (beg 1 xs) := by
  rintro xs R ⟨c, t, rfl, o, hz, se, q⟩
  refine ⟨rfl, ?_⟩
  unfold t_quick_row
  have sl := sl_eq
  have e0 : clD c (enc t) = .tuple [.str c.a, .str c.b, .str c.c, .str c.e, enc t] := rfl
  obtain ⟨us, eu⟩ := enc_tuple o
  obtain ⟨c1, c2⟩ := eqv_cn (k := c.e) o eu
  have em : (PyData.tuple (us.take 2)).canLay0 = true ∧ (cnD c.e).canLay0 = true ∧ min (PyData.tuple (us.take 2)).depth (cnD c.e).depth ≤ 64 := eqm_cn (by rw [← eu]; exact lay_enc o) se
  have fin : lastB c t = none → (aRet (aName 0)) (retD [true] [.d (clD c (enc t))] R) [some (.d (clD c (enc t)))] := fun e => by
    have e1 : quickC c t = (c, t) := by unfold quickC; rw [e]
    rw [e1] at q
    simp_arith []
    exact q
  by_cases hb : c.b = ("many" : Str)
  rotate_left
  · have f := fin (lastB_quick hb)
    have hbf : PyData.eqv (.str c.b) (.str "many") = false := eq_f hb
    rw [e0] at f ⊢
    refine aSeq_h (aIfS_i ?_)
    simp_arith [sc2, hbf]
    refine ⟨.inl trivial, br_f rfl ?_⟩
    simp_arith []
    refine hid_i f
  have hbt : PyData.eqv (.str c.b) (.str "many") = true := by rw [hb]; exact eq_t _
  rw [lastB_many hb] at fin
  cases ea : argOf c.e t with
  | none =>
    rw [ea] at c1 fin
    have f := fin rfl
    rw [e0, eu] at f ⊢
    refine aSeq_h (aIfS_i ?_)
    simp_arith [sc2, hbt]
    rw [show PyData.eqv (PyData.tuple (us.take 2)) (.tuple [.str "call", .tuple [.str "name", .str c.e]]) = false from c1]
    simp_arith []
    refine ⟨.inl trivial, by omega, by omega, em, br_f rfl ?_⟩
    simp_arith []
    refine hid_i f
  | some b =>
    have xs := c2 b ea
    have et := argOf_some (m := n) o ea
    rw [ea] at c1 fin
    subst xs
    have ob : Ok n b := ok_argT (k := c.e) (by rw [← et]; exact o)
    have hsz : sz b ≤ 1000 := by rw [et, sz_call] at hz; omega
    have nn : PyData.eqv (PyData.tuple [.str "call", nmD c.e]) (.tuple [.str "call", .tuple [.str "name", .str c.e]]) = true := c1
    by_cases h : c.e ∈ frN b
    · have f := fin (by simp [h])
      rw [e0, eu] at f ⊢
      refine aSeq_h (aIfS_i ?_)
      simp_arith [sc2, hbt, nn]
      refine ⟨.inl trivial, by omega, by omega, em, b, rfl, ob, hsz, fun us nd mem so => ⟨rfl, ?_⟩⟩
      have em2 : c.e ∈ us := (mem c.e).mpr h
      simp_arith [frz_ss, all_flat, flat_str, any_mem, em2, decide_true, Bool.not_true]
      refine ⟨.inl trivial, br_f rfl ?_⟩
      simp_arith []
      refine hid_i f
    · have el : lastB c t = some b := by rw [lastB_many hb, ea]; simp [h]
      have e1 : quickC c t = (⟨c.a, "quick", c.c, ""⟩, b) := by unfold quickC; rw [el]
      rw [e1] at q
      rw [e0, eu] at q ⊢
      refine aSeq_h (aIfS_i ?_)
      simp_arith [sc2, hbt, nn]
      refine ⟨.inl trivial, by omega, by omega, em, b, rfl, ob, hsz, fun us nd mem so => ⟨rfl, ?_⟩⟩
      have em2 : c.e ∉ us := fun z => h ((mem c.e).mp z)
      simp_arith [frz_ss, all_flat, flat_str, any_mem, em2, decide_false, Bool.not_false]
      refine ⟨.inl trivial, br_t rfl ?_⟩
      simp_arith []
      exact ⟨by omega, q⟩
end K45

/-! made slow, made quick: both walks -/
namespace K45
open PySem L2 Grd Ow PyProof.Rows
abbrev encO (ts : List Tr) : List OV := (ts.map enc).map OV.d
theorem tr_lc {f : Tr → Tr} {C : AC} {Q : OV → En → Prop} {s0 s1 s3 : Option OV} : ∀ (ts acc : List Tr), (∀ c ∈ ts, ∀ K : OV → List OV → Prop, K (.d (enc (f c))) [.d (enc c)] → C [.d (enc c)] K) → acc.length + ts.length ≤ 100 →
    Q (.n .lst (encO (acc ++ ts.map f))) [s0, s1, none, s3] →
    lcW (.n 2) aYes (aCall C (aRs 2 aRn)) [2] Q (ts.map enc) (encO acc) [s0, s1, none, s3]
  | [], acc, _, _, q => by simpa [lcW] using q
  | t :: ts, acc, h, l, q => by
    have sl := sl_eq
    simp only [List.length_cons] at l
    rw [List.map_cons]
    unfold lcW
    simp_arith []
    refine h t (by simp) _ ⟨rfl, ?_⟩
    simp_arith []
    have ea : encO acc ++ [OV.d (enc (f t))] = encO (acc ++ [f t]) := by simp [encO]
    rw [ea]
    refine ⟨by simp; omega, tr_lc ts (acc ++ [f t]) (fun c hc => h c (by simp [hc])) (by simp; omega) ?_⟩
    simpa using q
abbrev rowsD (ps : List (Cl × Tr)) : List PyData := ps.map fun p => clD p.1 (enc p.2)
theorem row_lc {g : Cl → Tr → Cl × Tr} {C : AC} {Q : OV → En → Prop} {s0 s1 s2 : Option OV} : ∀ (cs : List Cl) (ts : List Tr) (acc : List PyData), (∀ c t, c ∈ cs → t ∈ ts → ∀ K : OV → List OV → Prop, K (.d (clD (g c t).1 (enc (g c t).2))) [.d (clD c (enc t))] → C [.d (clD c (enc t))] K) → acc.length + cs.length ≤ 100 →
    Q (.n .lst ((acc ++ rowsD (List.zipWith g cs ts)).map OV.d)) [s0, s1, s2, none] →
    lcW (.n 3) aYes (aCall C (aRs 3 aRn)) [3] Q (List.zipWith clD cs (ts.map enc)) (acc.map OV.d) [s0, s1, s2, none]
  | [], ts, acc, _, _, q => by simpa [lcW] using q
  | _ :: _, [], acc, _, _, q => by simpa [lcW] using q
  | c :: cs, t :: ts, acc, h, l, q => by
    have sl := sl_eq
    simp only [List.length_cons] at l
    rw [List.map_cons, List.zipWith_cons_cons]
    unfold lcW
    simp_arith []
    refine h c t (by simp) (by simp) _ ⟨rfl, ?_⟩
    simp_arith []
    have ea : acc.map OV.d ++ [OV.d (clD (g c t).1 (enc (g c t).2))] = (acc ++ [clD (g c t).1 (enc (g c t).2)]).map OV.d := by simp
    rw [ea]
    refine ⟨by simp; omega, row_lc cs ts _ (fun c t hc ht => h c t (by simp [hc]) (by simp [ht])) (by simp; omega) ?_⟩
    rw [List.append_assoc]
    exact q
theorem zw_pairs : ∀ ps : List (Cl × Tr), List.zipWith clD (ps.map Prod.fst) ((ps.map Prod.snd).map enc) = rowsD ps
  | [] => rfl
  | p :: ps => by
    simp only [List.map_cons, List.zipWith_cons_cons, rowsD]
    rw [zw_pairs ps]
theorem enc_rows (w wd tx : Str) (ps : List (Cl × Tr)) (a b : Tr) : enc (.mk (.an w wd tx (ps.map Prod.fst)) (a :: b :: ps.map Prod.snd)) = .tuple [.str w, .str wd, enc a, .tuple [.str tx, enc b], .tuple (rowsD ps)] := by
  rw [encA, zw_pairs]
theorem ch_small {h : Hd} {n : Nat} (wf : WFh h n) : n ≤ 14 := by
  cases h with
  | pl w ps => have := nones_le ps; have := wf.2.2.2.2.1; have := wf.2.2.2.2.2; omega
  | an w wd tx cs => have := wf.2.2.2.2.2.2; have := wf.2.2.2.2.2.1; omega
theorem use_with {h : Hd} {ch us : List Tr} {K : OV → List OV → Prop} (wf : WFh h ch.length) (l : us.length = ch.length) (q : ∀ X, K (.d (enc (.mk h us))) [.d (enc (.mk h ch)), X]) : C_p_with_inner [.d (enc (.mk h ch)), .n .lst (encO us)] K :=
  ⟨h, ch.map enc, us.map enc, _, by rw [enc_mk], .inl rfl, by rw [List.length_map]; exact wf, by simp [l], by rw [← enc_mk, ← enc_mk]; exact q _⟩
theorem use_reb {n : Nat} {h : Hd} {ch us : List Tr} {K : OV → List OV → Prop} (wf : WFh h ch.length) (oc : ∀ c ∈ ch, Ok n c) (l : us.length = ch.length) (q : ∀ X, K (.d (enc (.mk h us))) [.d (enc (.mk h ch)), X]) : C_rebuilt [.d (enc (.mk h ch)), .n .lst (encO us)] K :=
  ⟨h, ch.map enc, us.map enc, _, by rw [enc_mk], .inl rfl, by rw [List.length_map]; exact wf, by simp [l], encs_tuple oc, by rw [← enc_mk, ← enc_mk]; exact q _⟩
theorem use_inn {n : Nat} {h : Hd} {ch : List Tr} {K : OV → List OV → Prop} (wf : WFh h ch.length) (oc : ∀ c ∈ ch, Ok n c) (q : K (.n .lst (encO ch)) [.d (enc (.mk h ch))]) : C_inner [.d (enc (.mk h ch))] K :=
  ⟨h, ch.map enc, by rw [enc_mk], by rw [List.length_map]; exact wf, encs_tuple oc, by rw [← enc_mk]; exact q⟩
def C_slw (n : Nat) : AC := fun xs R => ∃ t : Tr, xs = [.d (enc t)] ∧ Ok n t ∧ sz (slow t) ≤ 400 ∧ R (.d (enc (slow t))) [.d (enc t)]
def C_qck (n : Nat) : AC := fun xs R => ∃ t : Tr, xs = [.d (enc t)] ∧ Ok n t ∧ sz t ≤ 1000 ∧ R (.d (enc (quick t))) [.d (enc t)]
def tlP (C : AC) : AS := (aSeq (aIfS (aTst (a2 (o2 (fIn true)) (aIxN 1 (aC (.int 0))) (aC c_ANSWERERS))) (aRet (aMove 1)) aPass)
    (aRet (a2 oAdd (aSl (aName 1) aNoP (aPart (aC (.int 4)))) (aTup (aCons (aCB oTuple (aCons (aLc (aOver (aIxN 1 (aC (.int 4)))) (.n 3) aYes (aCall C (aRs 3 aRn)) [3]) aNil)) aNil)))))
def tlR (C : AC) : AS := (aRet (a2 oAdd (aSl (aName 1) aNoP (aPart (aC (.int 4)))) (aTup (aCons (aCB oTuple (aCons (aLc (aOver (aIxN 1 (aC (.int 4)))) (.n 3) aYes (aCall C (aRs 3 aRn)) [3]) aNil)) aNil))))
/-- the rows, exchanged -/
theorem tail_rows {g : Cl → Tr → Cl × Tr} {C : AC} {w wd tx : Str} {cs : List Cl} {a b : Tr} {ts : List Tr} {D : AD} {s0 s2 : Option OV} (lc : cs.length ≤ 12)
    (h : ∀ c t, c ∈ cs → t ∈ ts → ∀ K : OV → List OV → Prop, K (.d (clD (g c t).1 (enc (g c t).2))) [.d (clD c (enc t))] → C [.d (clD c (enc t))] K)
    (q : ∀ e, D.rt (.d (enc (atRows g (.mk (.an w wd tx cs) (a :: b :: ts))))) [s0, some (.d (enc (.mk (.an w wd tx cs) (a :: b :: ts)))), s2, e]) :
    tlR C D [s0, some (.d (enc (.mk (.an w wd tx cs) (a :: b :: ts)))), s2, none] := by
  have sl := sl_eq
  unfold tlR
  rw [atRows_an, enc_rows] at q
  rw [encA] at q ⊢
  simp_arith [sit]
  refine row_lc (g := g) cs ts [] h (by simp; omega) ?_
  simp_arith [oTuple, dats_map]
  exact ⟨by omega, by omega, q none⟩
theorem p_p_slowed {n M : Nat} (hM : 2 * n ≤ M) : ∀ xs R, C_slw (n + 1) xs R → xs.length = 1 ∧ t_p_slowed C_p_with_inner C_p_inner_of (C_slw n) (C_p_slow_clause M) (retD [true] xs R) (beg 4 xs) := by
  rintro xs R ⟨⟨h, ch⟩, rfl, ⟨wf, oc⟩, hz, q⟩
  refine ⟨rfl, ?_⟩
  unfold t_p_slowed
  have sl := sl_eq
  have c14 := ch_small wf
  have hzc : ∀ t ∈ ch, sz (slow t) ≤ 400 := fun t ht => by have := sz_slow_mem wf ht; omega
  refine aSeq_h ?_
  simp_arith []
  refine use_inner wf ⟨rfl, ?_⟩
  simp_arith [sit]
  refine tr_lc (f := slow) ch [] (fun c hc K k => ⟨c, rfl, oc c hc, hzc c hc, k⟩) (by simp; omega) ?_
  simp_arith []
  refine use_with wf (by simp) fun X => ⟨rfl, ?_⟩
  simp_arith []
  refine hid_i (aSeq_h (aIfS_i ?_))
  rw [slow_mk] at q
  cases h with
  | pl w ps =>
    rw [atRows_pl] at q
    have h1 := wf.1
    rw [encP (ch := ch.map slow)] at q ⊢
    simp_arith [c_ANSWERERS, flatD, List.all_cons, List.all_nil, Bool.and_true]
    refine br_t (by rw [Bool.not_eq_true']; simpa [isAn] using h1) ?_
    simp_arith []
    exact q
  | an w wd tx cs =>
    obtain ⟨a, b, ts, rfl, l⟩ := an_ch (n := n) wf
    obtain ⟨h1, h2, h3, h4, h5, ⟨h6, h8⟩, h7⟩ := wf
    simp only [List.map_cons] at q ⊢
    have tr := tail_rows (g := slowC) (C := C_p_slow_clause M) (w := w) (wd := wd) (tx := tx) (cs := cs) (a := slow a) (b := slow b) (ts := ts.map slow) (D := retD [true] [.d (enc (.mk (.an w wd tx cs) (a :: b :: ts)))] R) (s0 := some (.d (enc (.mk (.an w wd tx cs) (a :: b :: ts))))) (s2 := none) h6
      (fun c t hc ht K k => by
        obtain ⟨u, hu, rfl⟩ := List.mem_map.mp ht
        exact ⟨c, slow u, rfl, (ok_slow n u (oc u (by simp [hu]))).mono hM, hzc u (by simp [hu]), k⟩) (fun e => q)
    rw [encA (a := slow a)] at tr ⊢
    simp_arith [c_ANSWERERS, flatD, List.all_cons, List.all_nil, Bool.and_true]
    refine br_f (by rw [Bool.not_eq_false']; simpa [isAn] using h1) ?_
    simp_arith []
    refine hid_i ?_
    exact tr
theorem p_p_quickened {n M : Nat} (hM : n ≤ M) : ∀ xs R, C_qck (n + 1) xs R → xs.length = 1 ∧ t_p_quickened C_p_with_inner C_p_inner_of (C_qck n) (C_p_quick_clause M) (retD [true] xs R) (beg 4 xs) := by
  rintro xs R ⟨⟨h, ch⟩, rfl, ⟨wf, oc⟩, hz, q⟩
  refine ⟨rfl, ?_⟩
  unfold t_p_quickened
  have sl := sl_eq
  have c14 := ch_small wf
  have hzc : ∀ t ∈ ch, sz t ≤ 1000 := fun t ht => by have := szs_mem ht; rw [sz_mk] at hz; omega
  refine aSeq_h ?_
  simp_arith []
  refine use_inner wf ⟨rfl, ?_⟩
  simp_arith [sit]
  refine tr_lc (f := quick) ch [] (fun c hc K k => ⟨c, rfl, oc c hc, hzc c hc, k⟩) (by simp; omega) ?_
  simp_arith []
  refine use_with wf (by simp) fun X => ⟨rfl, ?_⟩
  simp_arith []
  refine hid_i (aSeq_h (aIfS_i ?_))
  rw [quick_mk] at q
  cases h with
  | pl w ps =>
    rw [if_neg (by simp [isSh]), atRows_pl] at q
    have h1 := wf.1
    have h1' : ([PyData.str "handle", PyData.str "under"].any fun z => PyData.eqv z (.str w)) = false := by simpa [isAn] using h1
    simp only [List.any_cons, List.any_nil, Bool.or_false] at h1'
    rw [encP (ch := ch.map quick)] at q ⊢
    simp_arith [c_ANSWERERS, flatD, List.all_cons, List.all_nil, Bool.and_true, h1', Bool.not_false]
    refine br_t rfl ?_
    simp_arith []
    exact q
  | an w wd tx cs =>
    obtain ⟨a, b, ts, rfl, l⟩ := an_ch (n := n) wf
    have oq : ∀ c ∈ ts, Ok n (quick c) ∧ sz (quick c) ≤ 1000 := fun c hc => by
      obtain ⟨h1, h2⟩ := ok_quick n c (oc c (by simp [hc]))
      exact ⟨h1, Nat.le_trans h2 (hzc c (by simp [hc]))⟩
    obtain ⟨h1, h2, h3, h4, h5, ⟨h6, h8⟩, h7⟩ := wf
    have h1' : ([PyData.str "handle", PyData.str "under"].any fun z => PyData.eqv z (.str w)) = true := by simpa [isAn] using h1
    simp only [List.any_cons, List.any_nil, Bool.or_false] at h1'
    simp only [List.map_cons] at q ⊢
    by_cases hs : isSh (.an w wd tx cs) = true
    · rw [if_pos hs] at q
      simp only [isSh, Bool.and_eq_true, decide_eq_true_eq] at hs
      obtain ⟨rfl, rfl⟩ := hs
      rw [encA (a := quick a)] at q ⊢
      simp_arith [c_ANSWERERS, flatD, List.all_cons, List.all_nil, Bool.and_true, h1', Bool.not_true, sc2, eq_t]
      refine ⟨.inl trivial, .inl trivial, br_t rfl ?_⟩
      simp_arith []
      exact q
    · rw [if_neg hs] at q
      have tr := tail_rows (g := quickC) (C := C_p_quick_clause M) (w := w) (wd := wd) (tx := tx) (cs := cs) (a := quick a) (b := quick b) (ts := ts.map quick) (D := retD [true] [.d (enc (.mk (.an w wd tx cs) (a :: b :: ts)))] R) (s0 := some (.d (enc (.mk (.an w wd tx cs) (a :: b :: ts))))) (s2 := none) h6
        (fun c t hc ht K k => by
          obtain ⟨u, hu, rfl⟩ := List.mem_map.mp ht
          exact ⟨c, quick u, rfl, (oq u hu).1.mono hM, (oq u hu).2, (h5 c hc).2.2.2, k⟩) (fun e => q)
      rw [encA (a := quick a)] at tr ⊢
      have fin : (brB (aRet (aMove 1)) aPass { nx := hid (tlR (C_p_quick_clause M) (retD [true] [.d (enc (.mk (.an w wd tx cs) (a :: b :: ts)))] R)), rt := (retD [true] [.d (enc (.mk (.an w wd tx cs) (a :: b :: ts)))] R).rt, bk := (retD [true] [.d (enc (.mk (.an w wd tx cs) (a :: b :: ts)))] R).bk, ct := (retD [true] [.d (enc (.mk (.an w wd tx cs) (a :: b :: ts)))] R).ct }) false [some (.d (enc (.mk (.an w wd tx cs) (a :: b :: ts)))), some (.d (.tuple [.str w, .str wd, enc (quick a), .tuple [.str tx, enc (quick b)], .tuple (List.zipWith clD cs ((ts.map quick).map enc))])), none, none] := by
        refine br_f rfl ?_
        simp_arith []
        refine hid_i tr
      by_cases e1 : wd = ("shallow" : Str)
      · have e2 : w ≠ ("handle" : Str) := fun e2 => hs (by rw [e1, e2]; simp [isSh])
        have f1 : PyData.eqv (.str wd) (.str "shallow") = true := by rw [e1]; exact eq_t _
        have f2 : PyData.eqv (.str w) (.str "handle") = false := eq_f e2
        simp_arith [c_ANSWERERS, flatD, List.all_cons, List.all_nil, Bool.and_true, h1', Bool.not_true, sc2, f1, f2]
        exact ⟨.inl trivial, .inl trivial, fin⟩
      · have f1 : PyData.eqv (.str wd) (.str "shallow") = false := eq_f e1
        simp_arith [c_ANSWERERS, flatD, List.all_cons, List.all_nil, Bool.and_true, h1', Bool.not_true, sc2, f1]
        exact ⟨.inl trivial, fin⟩
/-! the law's -/
theorem p_slowed {n M : Nat} (hM : 2 * n ≤ M) : ∀ xs R, C_slw (n + 1) xs R → xs.length = 1 ∧ t_slowed C_rebuilt C_inner (C_slw n) (C_p_slow_clause M) (retD [true] xs R) (beg 4 xs) := by
  rintro xs R ⟨⟨h, ch⟩, rfl, ⟨wf, oc⟩, hz, q⟩
  refine ⟨rfl, ?_⟩
  unfold t_slowed
  have sl := sl_eq
  have c14 := ch_small wf
  have hzc : ∀ t ∈ ch, sz (slow t) ≤ 400 := fun t ht => by have := sz_slow_mem wf ht; omega
  refine aSeq_h ?_
  simp_arith []
  refine use_inn wf oc ⟨rfl, ?_⟩
  simp_arith [sit]
  refine tr_lc (f := slow) ch [] (fun c hc K k => ⟨c, rfl, oc c hc, hzc c hc, k⟩) (by simp; omega) ?_
  simp_arith []
  refine use_reb wf oc (by simp) fun X => ⟨rfl, ?_⟩
  simp_arith []
  refine hid_i (aSeq_h (aIfS_i ?_))
  rw [slow_mk] at q
  cases h with
  | pl w ps =>
    rw [atRows_pl] at q
    have h1 := wf.1
    rw [encP (ch := ch.map slow)] at q ⊢
    simp_arith [flatD, List.all_cons, List.all_nil, Bool.and_true]
    refine ⟨by omega, br_t (by rw [Bool.not_eq_true']; simpa [isAn] using h1) ?_⟩
    simp_arith []
    exact q
  | an w wd tx cs =>
    obtain ⟨a, b, ts, rfl, l⟩ := an_ch (n := n) wf
    obtain ⟨h1, h2, h3, h4, h5, ⟨h6, h8⟩, h7⟩ := wf
    simp only [List.map_cons] at q ⊢
    have tr := tail_rows (g := slowC) (C := C_p_slow_clause M) (w := w) (wd := wd) (tx := tx) (cs := cs) (a := slow a) (b := slow b) (ts := ts.map slow) (D := retD [true] [.d (enc (.mk (.an w wd tx cs) (a :: b :: ts)))] R) (s0 := some (.d (enc (.mk (.an w wd tx cs) (a :: b :: ts))))) (s2 := none) h6
      (fun c t hc ht K k => by
        obtain ⟨u, hu, rfl⟩ := List.mem_map.mp ht
        exact ⟨c, slow u, rfl, (ok_slow n u (oc u (by simp [hu]))).mono hM, hzc u (by simp [hu]), k⟩) (fun e => q)
    rw [encA (a := slow a)] at tr ⊢
    simp_arith [flatD, List.all_cons, List.all_nil, Bool.and_true]
    refine ⟨by omega, br_f (by rw [Bool.not_eq_false']; simpa [isAn] using h1) ?_⟩
    simp_arith []
    refine hid_i ?_
    exact tr
theorem p_quickened {n M : Nat} (hM : n ≤ M) : ∀ xs R, C_qck (n + 1) xs R → xs.length = 1 ∧ t_quickened C_rebuilt C_inner (C_qck n) (C_p_quick_clause M) (retD [true] xs R) (beg 4 xs) := by
  rintro xs R ⟨⟨h, ch⟩, rfl, ⟨wf, oc⟩, hz, q⟩
  refine ⟨rfl, ?_⟩
  unfold t_quickened
  have sl := sl_eq
  have c14 := ch_small wf
  have hzc : ∀ t ∈ ch, sz t ≤ 1000 := fun t ht => by have := szs_mem ht; rw [sz_mk] at hz; omega
  refine aSeq_h ?_
  simp_arith []
  refine use_inn wf oc ⟨rfl, ?_⟩
  simp_arith [sit]
  refine tr_lc (f := quick) ch [] (fun c hc K k => ⟨c, rfl, oc c hc, hzc c hc, k⟩) (by simp; omega) ?_
  simp_arith []
  refine use_reb wf oc (by simp) fun X => ⟨rfl, ?_⟩
  simp_arith []
  refine hid_i (aSeq_h (aIfS_i ?_))
  rw [quick_mk] at q
  cases h with
  | pl w ps =>
    rw [if_neg (by simp [isSh]), atRows_pl] at q
    have h1 := wf.1
    have h1' : ([PyData.str "handle", PyData.str "under"].any fun z => PyData.eqv z (.str w)) = false := by simpa [isAn] using h1
    simp only [List.any_cons, List.any_nil, Bool.or_false] at h1'
    rw [encP (ch := ch.map quick)] at q ⊢
    simp_arith [flatD, List.all_cons, List.all_nil, Bool.and_true, h1', Bool.not_false]
    refine ⟨by omega, br_t rfl ?_⟩
    simp_arith []
    exact q
  | an w wd tx cs =>
    obtain ⟨a, b, ts, rfl, l⟩ := an_ch (n := n) wf
    have oq : ∀ c ∈ ts, Ok n (quick c) ∧ sz (quick c) ≤ 1000 := fun c hc => by
      obtain ⟨h1, h2⟩ := ok_quick n c (oc c (by simp [hc]))
      exact ⟨h1, Nat.le_trans h2 (hzc c (by simp [hc]))⟩
    obtain ⟨h1, h2, h3, h4, h5, ⟨h6, h8⟩, h7⟩ := wf
    have h1' : ([PyData.str "handle", PyData.str "under"].any fun z => PyData.eqv z (.str w)) = true := by simpa [isAn] using h1
    simp only [List.any_cons, List.any_nil, Bool.or_false] at h1'
    simp only [List.map_cons] at q ⊢
    have em : (PyData.tuple [.str w, .str wd]).canLay0 = true ∧ (PyData.tuple [.str "handle", .str "shallow"]).canLay0 = true ∧ min (PyData.tuple [.str w, .str wd]).depth (PyData.tuple [.str "handle", .str "shallow"]).depth ≤ 64 := by
      have f1 := fine_tup (fine_cons ((fine_str h2).mono (Nat.le_refl _) (Nat.zero_le 0)) (fine_cons (fine_str h3) fine_nil))
      have f2 := fine_tup (fine_cons ((fine_str (n := 7) (s := "handle") (sg_of (by decide +kernel))).mono (Nat.le_refl _) (Nat.zero_le 0)) (fine_cons (fine_str (n := 7) (s := "shallow") (sg_of (by decide +kernel))) fine_nil))
      have := f1.de
      exact ⟨f1.cl, f2.cl, by omega⟩
    have ev : PyData.eqv (PyData.tuple [.str w, .str wd]) (PyData.tuple [.str "handle", .str "shallow"]) = isSh (.an w wd tx cs) := by
      rw [eqv_t, eqvA_c, eqvA_c, eqvA_n, eqv_ss, eqv_ss, Bool.and_true, isSh]
    by_cases hs : isSh (.an w wd tx cs) = true
    · rw [if_pos hs] at q
      rw [hs] at ev
      rw [encA (a := quick a)] at q ⊢
      simp_arith [flatD, List.all_cons, List.all_nil, Bool.and_true, h1', Bool.not_true, ev]
      refine ⟨by omega, by omega, em, br_t rfl ?_⟩
      simp_arith []
      exact q
    · rw [if_neg hs] at q
      have hs' : isSh (.an w wd tx cs) = false := by simpa using hs
      rw [hs'] at ev
      have tr := tail_rows (g := quickC) (C := C_p_quick_clause M) (w := w) (wd := wd) (tx := tx) (cs := cs) (a := quick a) (b := quick b) (ts := ts.map quick) (D := retD [true] [.d (enc (.mk (.an w wd tx cs) (a :: b :: ts)))] R) (s0 := some (.d (enc (.mk (.an w wd tx cs) (a :: b :: ts))))) (s2 := none) h6
        (fun c t hc ht K k => by
          obtain ⟨u, hu, rfl⟩ := List.mem_map.mp ht
          exact ⟨c, quick u, rfl, (oq u hu).1.mono hM, (oq u hu).2, (h5 c hc).2.2.2, k⟩) (fun e => q)
      rw [encA (a := quick a)] at tr ⊢
      simp_arith [flatD, List.all_cons, List.all_nil, Bool.and_true, h1', Bool.not_true, ev]
      refine ⟨by omega, by omega, em, br_f rfl ?_⟩
      simp_arith []
      refine hid_i tr
end K45

/-! places, parts at these, the quick ones -/
namespace K45
open PySem L2 Grd Ow PyProof.Rows
mutual
theorem places_len : ∀ t : Tr, (places t).length = sz t
  | .mk h ch => by rw [places, sz, List.length_cons, placesL_len 0 ch]
theorem placesL_len : ∀ (k : Nat) (ts : List Tr), (placesL k ts).length = szs ts
  | k, [] => by simp only [placesL, szs, List.length_nil]
  | k, t :: ts => by rw [placesL, szs, List.length_append, List.length_map, places_len t, placesL_len (k + 1) ts]
end
def C_p_places_of (n : Nat) : AC := fun xs R => ∃ t : Tr, xs = [.d (enc t)] ∧ Ok n t ∧ sz t ≤ 1000000 ∧ R (.n .lst (((places t).map spD).map .d)) [.d (enc t)]
/-- k, x for each -/
def enumF (k : Nat) (xs : List PyData) : List PyData := (xs.zipIdx k).map fun p => .tuple [.int p.2, p.1]
theorem enumF_nil (k : Nat) : enumF k [] = [] := rfl
theorem enumF_cons (k : Nat) (x : PyData) (xs : List PyData) : enumF k (x :: xs) = .tuple [.int k, x] :: enumF (k + 1) xs := rfl
theorem enumD_eq (xs : List PyData) : enumD xs = enumF 0 xs := rfl
def preK (k : Nat) (d : PyData) : Option OV := match d with
  | .tuple p => some (.d (.tuple (.int k :: p)))
  | _ => none
theorem pre_map (k : Nat) : ∀ ps : List (List Int), (ps.map spD).filterMap (preK k) = ((ps.map ((k : Int) :: ·)).map spD).map OV.d
  | [] => rfl
  | p :: ps => by
    rw [List.map_cons, List.filterMap_cons]
    simp only [spD, preK, List.map_cons]
    exact congrArg _ (pre_map k ps)
mutual
theorem places_short : ∀ (n : Nat) (t : Tr), Ok n t → ∀ p ∈ places t, p.length < n
  | 0, _, h => h.elim
  | n + 1, .mk h ch, o => fun p hp => by
    rw [places] at hp
    rcases List.mem_cons.mp hp with rfl | hp
    · exact Nat.zero_lt_succ _
    · exact placesL_short n 0 ch o.2 p hp
theorem placesL_short : ∀ (n k : Nat) (ts : List Tr), (∀ c ∈ ts, Ok n c) → ∀ p ∈ placesL k ts, p.length < n + 1
  | n, k, [], h => fun p hp => by simp [placesL] at hp
  | n, k, t :: ts, h => fun p hp => by
    rw [placesL] at hp
    rcases List.mem_append.mp hp with hp | hp
    · obtain ⟨q, hq, rfl⟩ := List.mem_map.mp hp
      have := places_short n t (h t (by simp)) q hq
      simp only [List.length_cons]
      omega
    · exact placesL_short n (k + 1) ts (fun c hc => h c (by simp [hc])) p hp
end
theorem po_loop {n : Nat} (hn : n ≤ 1000) {D : AD} {s0 : Option OV} : ∀ (ts : List Tr) (k : Nat) (done : List PyData) (o2 o3 : Option OV), (∀ c ∈ ts, Ok n c) → done.length + szs ts ≤ 1000001 → szs ts ≤ 1000000 →
    (∀ o2 o3, D.nx [s0, some (.n .lst ((done ++ (placesL k ts).map spD).map .d)), o2, o3, none]) →
    forW (.t [(.n 2), (.n 3)]) (aDrop (aMt 1 mExtend (aCons (aLc (aOver (aCall (C_p_places_of n) (aRs 3 aRn))) (.n 4) aYes (a2 oAdd (aTup (aCons (aName 2) aNil)) (aName 4)) [4]) aNil))) D (enumF k (ts.map enc)) [s0, some (.n .lst (done.map .d)), o2, o3, none]
  | [], k, done, o2, o3, h, l, l2, q => by
    rw [List.map_nil, enumF_nil]
    unfold forW
    simpa [placesL] using q o2 o3
  | t :: ts, k, done, o2, o3, h, l, l2, q => by
    rw [List.map_cons, enumF_cons]
    unfold forW
    have o := h t (by simp)
    rw [szs] at l l2
    simp_arith []
    refine ⟨t, rfl, o, by omega, rfl, ?_⟩
    simp_arith [sit]
    have pl := places_len t
    refine lc_pure (preK k) (fun d hd lim K hlim hk => ?_) (by simp; have := sl_eq; omega) ?_
    · obtain ⟨p, hp, rfl⟩ := List.mem_map.mp hd
      have := places_short n t o p hp
      simp only [spD, preK] at hk ⊢
      simp_arith []
      refine ⟨by have := sl_eq; omega, by simp; have := sl_eq; omega, hlim, hk⟩
    · rw [pre_map]
      simp_arith []
      refine ⟨by simp; have := sl_eq; omega, ?_⟩
      rw [← List.map_append]
      refine po_loop hn ts (k + 1) _ _ _ (fun c hc => h c (by simp [hc])) (by simp; omega) (by omega) fun o2 o3 => ?_
      have z := q o2 o3
      rw [placesL, List.map_append (f := spD), ← List.append_assoc] at z
      exact z
theorem p_p_places_of {n : Nat} (hn : n ≤ 1000) : ∀ xs R, C_p_places_of (n + 1) xs R → xs.length = 1 ∧ t_p_places_of C_p_inner_of (C_p_places_of n) (retD [true] xs R) (beg 5 xs) := by
  rintro xs R ⟨t, rfl, o, hs, q⟩
  refine ⟨rfl, ?_⟩
  unfold t_p_places_of
  cases t with
  | mk h ch =>
    obtain ⟨wf, oc⟩ := o
    rw [enc_mk] at q ⊢
    refine aSeq_i ?_
    simp_arith []
    refine ⟨by have := sl_eq; omega, by have := sl_eq; omega, aSeq_h ?_⟩
    simp_arith []
    refine ⟨h, ch.map enc, rfl, by rw [List.length_map]; exact wf, rfl, ?_⟩
    simp_arith [sfd, sit, enumD_eq]
    refine po_loop hn ch 0 [.tuple []] none none oc (by rw [sz] at hs; simp; omega) (by rw [sz] at hs; omega) fun o2 o3 => hid_i ?_
    simp_arith []
    rw [places] at q
    exact q
mutual
def allT : List Int → Tr → List (List Int × Tr)
  | q, .mk h ch => (q, .mk h ch) :: allTL q 0 ch
def allTL : List Int → Nat → List Tr → List (List Int × Tr)
  | _, _, [] => []
  | q, k, t :: ts => allT (q ++ [(k : Int)]) t ++ allTL q (k + 1) ts
end
def pairD (p : List Int × Tr) : PyData := .tuple [spD p.1, enc p.2]
mutual
theorem allT_len : ∀ (q : List Int) (t : Tr), (allT q t).length = sz t
  | q, .mk h ch => by rw [allT, sz, List.length_cons, allTL_len q 0 ch]
theorem allTL_len : ∀ (q : List Int) (k : Nat) (ts : List Tr), (allTL q k ts).length = szs ts
  | q, k, [] => by simp only [allTL, szs, List.length_nil]
  | q, k, t :: ts => by rw [allTL, szs, List.length_append, allT_len _ t, allTL_len q (k + 1) ts]
end
mutual
theorem allT_places : ∀ (q : List Int) (t : Tr), (allT q t).map Prod.fst = (places t).map (q ++ ·)
  | q, .mk h ch => by rw [allT, places, List.map_cons, List.map_cons, allTL_places q 0 ch, List.append_nil]
theorem allTL_places : ∀ (q : List Int) (k : Nat) (ts : List Tr), (allTL q k ts).map Prod.fst = (placesL k ts).map (q ++ ·)
  | q, k, [] => by simp only [allTL, placesL, List.map_nil]
  | q, k, t :: ts => by
    rw [allTL, placesL, List.map_append, List.map_append, allT_places _ t, allTL_places q (k + 1) ts, List.map_map]
    congr 1
    refine List.map_congr_left fun p _ => ?_
    simp
end
mutual
theorem allT_get : ∀ (q : List Int) (t : Tr) (p : List Int) (u : Tr), (p, u) ∈ allT q t → ∃ r, p = q ++ r ∧ get t r = some u
  | q, .mk h ch, p, u, m => by
    rw [allT] at m
    rcases List.mem_cons.mp m with e | m
    · cases e
      exact ⟨[], by simp, by rw [get]⟩
    · obtain ⟨j, r, e, c, hj, g⟩ := allTL_get q 0 ch p u m
      refine ⟨(j : Int) :: r, e, ?_⟩
      rw [get, if_pos (by omega)]
      simp only [Nat.sub_zero] at hj
      rw [Int.toNat_natCast, hj.2]
      exact g
theorem allTL_get : ∀ (q : List Int) (k : Nat) (ts : List Tr) (p : List Int) (u : Tr), (p, u) ∈ allTL q k ts → ∃ (j : Nat) (r : List Int), p = q ++ (j : Int) :: r ∧ ∃ c, (k ≤ j ∧ ts[j - k]? = some c) ∧ get c r = some u
  | q, k, [], p, u, m => by simp [allTL] at m
  | q, k, t :: ts, p, u, m => by
    rw [allTL] at m
    rcases List.mem_append.mp m with m | m
    · obtain ⟨r, e, g⟩ := allT_get _ t p u m
      exact ⟨k, r, by rw [e]; simp, t, ⟨Nat.le_refl _, by simp⟩, g⟩
    · obtain ⟨j, r, e, c, ⟨h1, h2⟩, g⟩ := allTL_get q (k + 1) ts p u m
      refine ⟨j, r, e, c, ⟨by omega, ?_⟩, g⟩
      have : j - k = (j - (k + 1)) + 1 := by omega
      rw [this, List.getElem?_cons_succ]
      exact h2
end
def C_p_is_whole : AC := fun xs R => ∃ i a b : Int, xs = [.d (.int i), .d (.int a), .d (.int b)] ∧ R (.d (.bool (decide (a ≤ i) && decide (i ≤ b)))) xs
theorem p_p_is_whole : ∀ xs R, C_p_is_whole xs R → xs.length = 3 ∧ t_p_is_whole (retD [true, true, true] xs R) (beg 3 xs) := by
  rintro xs R ⟨i, a, b, rfl, q⟩
  refine ⟨rfl, ?_⟩
  unfold t_p_is_whole
  simp_arith [Bool.not_false]
  by_cases h : a ≤ i
  · simp only [h, decide_true, Bool.true_and, if_true] at q ⊢
    exact q
  · simp only [h, decide_false, Bool.false_and, if_false] at q ⊢
    exact q
theorem get_ok : ∀ (p : List Int) (n : Nat) (t u : Tr), Ok n t → get t p = some u → Ok n u
  | [], n, t, u, o, e => by
    rw [get] at e
    cases e
    exact o
  | k :: p, 0, t, u, o, e => o.elim
  | k :: p, n + 1, .mk h ch, u, ⟨wf, oc⟩, e => by
    rw [get] at e
    split at e
    · obtain ⟨c, hc, e⟩ := Option.bind_eq_some_iff.mp e
      exact (get_ok p n c u (oc c (List.mem_of_getElem? hc)) e).mono (by omega)
    · cases e
def C_p_part_at (n : Nat) : AC := fun xs R => ∃ (t u : Tr) (p : List Int), xs = [.d (enc t), .d (spD p)] ∧ Ok n t ∧ get t p = some u ∧ R (.d (enc u)) xs
theorem pa_loop {D : AD} {s0 s1 : Option OV} : ∀ (p : List Int) (n : Nat) (t u : Tr) (v3 v4 : Option OV), Ok n t → get t p = some u → (∀ v3 v4, D.nx [s0, s1, some (.d (enc u)), v3, v4]) →
    forW (.n 3) (aSeq (aAsg (aCall C_p_inner_of (aRs 2 aRn)) (.n 4))
    (aSeq (aIfS (aNot (aTst (aCall C_p_is_whole (aRs 3 (aRv (aC (.int 0)) (aRv (a2 oSub (aLenN 4) (aC (.int 1))) aRn)))))) aNever aPass)
    (aAsg (aIxN 4 (aName 3)) (.n 2)))) D (p.map .int) [s0, s1, some (.d (enc t)), v3, v4]
  | [], n, t, u, v3, v4, o, e, q => by
    rw [get] at e
    cases e
    simpa [forW] using q v3 v4
  | k :: p, 0, t, u, v3, v4, o, e, q => o.elim
  | k :: p, n + 1, .mk h ch, u, v3, v4, ⟨wf, oc⟩, e, q => by
    rw [get] at e
    split at e
    rotate_left
    · cases e
    rename_i k0
    obtain ⟨c, hc, eg⟩ := Option.bind_eq_some_iff.mp e
    obtain ⟨j, rfl⟩ := Int.eq_ofNat_of_zero_le k0
    rw [Int.toNat_natCast] at hc
    have hj : j < ch.length := by
      rcases Nat.lt_or_ge j ch.length with h | h
      · exact h
      · rw [List.getElem?_eq_none h] at hc; cases hc
    have sl := sl_eq
    have c14 := ch_small wf
    rw [List.map_cons]
    unfold forW
    refine aSeq_h ?_
    simp_arith []
    refine use_inner wf ⟨rfl, ?_⟩
    simp_arith []
    refine hid_i (aSeq_h (aIfS_i ?_))
    simp_arith []
    refine ⟨_, _, _, rfl, rfl, ?_⟩
    have h1 : (decide ((0 : Int) ≤ ((j : Nat) : Int)) && decide (((j : Nat) : Int) ≤ ((List.map OV.d (ch.map enc)).length : Int) - 1)) = true := by
      rw [Bool.and_eq_true, decide_eq_true_eq, decide_eq_true_eq, List.length_map, List.length_map]
      omega
    rw [h1]
    simp_arith []
    refine br_f rfl ?_
    simp_arith []
    refine hid_i ?_
    have l2 : (List.map OV.d (ch.map enc)).length = ch.length := by simp
    have g2 : (List.map OV.d (ch.map enc))[j]? = some (.d (enc c)) := by rw [List.getElem?_map, List.getElem?_map, hc]; rfl
    simp_arith [ixN_lit (show j < (List.map OV.d (ch.map enc)).length by rw [l2]; exact hj), g2]
    exact pa_loop p n c u _ _ (oc c (List.mem_of_getElem? hc)) eg q
theorem p_p_part_at {n : Nat} : ∀ xs R, C_p_part_at n xs R → xs.length = 2 ∧ t_p_part_at C_p_inner_of C_p_is_whole (retD [true, true] xs R) (beg 5 xs) := by
  rintro xs R ⟨t, u, p, rfl, o, e, q⟩
  refine ⟨rfl, ?_⟩
  unfold t_p_part_at
  refine aSeq_h ?_
  simp_arith []
  refine hid_i (aSeq_h ?_)
  simp_arith [spD, sit]
  refine pa_loop p n t u none none o e fun v3 v4 => ?_
  simp_arith []
  refine hid_i ?_
  simp_arith []
  exact q
/-! the quick ones -/
def tHd : Tr → Hd
  | .mk h _ => h
def qOwn : Hd → List Str
  | .an _ _ _ cs => (cs.filter fun c => decide (c.b = ("quick" : Str))).map Cl.a
  | _ => []
def qOf (p : List Int × Tr) : List (List Int × Str) := (qOwn (tHd p.2)).map fun a => (p.1, a)
def qo (q : List Int) (t : Tr) : List (List Int × Str) := (allT q t).flatMap qOf
def qos (q : List Int) (k : Nat) (ts : List Tr) : List (List Int × Str) := (allTL q k ts).flatMap qOf
def qoD (l : List (List Int × Str)) : List PyData := l.map fun p => .tuple [spD p.1, .str p.2]
theorem qo_mk (q : List Int) (h : Hd) (ch : List Tr) : qo q (.mk h ch) = (qOwn h).map (fun a => (q, a)) ++ qos q 0 ch := by
  rw [qo, allT, List.flatMap_cons]; rfl
theorem qos_nil (q : List Int) (k : Nat) : qos q k [] = [] := by rw [qos, allTL]; rfl
theorem qos_cons (q : List Int) (k : Nat) (t : Tr) (ts : List Tr) : qos q k (t :: ts) = qo (q ++ [(k : Int)]) t ++ qos q (k + 1) ts := by
  rw [qos, allTL, List.flatMap_append]; rfl
theorem qOwn_len {h : Hd} {n : Nat} (wf : WFh h n) : (qOwn h).length ≤ 12 := by
  cases h with
  | pl w ps => exact Nat.zero_le _
  | an w wd tx cs =>
    have h6 := wf.2.2.2.2.2.1.1
    have : (cs.filter fun c => decide (c.b = ("quick" : Str))).length ≤ cs.length := List.length_filter_le _ _
    simp only [qOwn, List.length_map]
    omega
mutual
theorem qo_len : ∀ (n : Nat) (q : List Int) (t : Tr), Ok n t → (qo q t).length ≤ 12 * sz t
  | 0, q, t, o => o.elim
  | n + 1, q, .mk h ch, ⟨wf, oc⟩ => by
    have h1 := qos_len n q 0 ch oc
    have h2 := qOwn_len wf
    rw [qo_mk, sz_mk, List.length_append, List.length_map]
    omega
theorem qos_len : ∀ (n : Nat) (q : List Int) (k : Nat) (ts : List Tr), (∀ c ∈ ts, Ok n c) → (qos q k ts).length ≤ 12 * szs ts
  | n, q, k, [], oc => by rw [qos_nil]; simp
  | n, q, k, t :: ts, oc => by
    have h1 := qo_len n (q ++ [(k : Int)]) t (oc t (by simp))
    have h2 := qos_len n q (k + 1) ts fun c hc => oc c (by simp [hc])
    rw [qos_cons, List.length_append, szs_cons]
    omega
end
def qcF (pd : PyData) (d : PyData) : Option OV := match d with
  | .tuple [.str a, .str b, _, _, _] => if PyData.eqv (.str b) (.str "quick") = true then some (.d (.tuple [pd, .str a])) else none
  | _ => none
theorem qcF_zw (q : List Int) (w wd tx : Str) : ∀ (cs : List Cl) (ds : List PyData), cs.length = ds.length → (List.zipWith clD cs ds).filterMap (qcF (spD q)) = (qoD ((qOwn (.an w wd tx cs)).map fun a => (q, a))).map OV.d
  | [], [], _ => rfl
  | c :: cs, d :: ds, l => by
    have ih := qcF_zw q w wd tx cs ds (by simpa using l)
    rw [List.zipWith_cons_cons, List.filterMap_cons]
    simp only [clD, qcF, eqv_ss, decide_eq_true_eq, qOwn, List.filter_cons] at ih ⊢
    by_cases e : c.b = ("quick" : Str)
    · simp only [e, if_true, List.map_cons, qoD] at ih ⊢
      rw [ih]
    · simp only [e, if_false] at ih ⊢
      exact ih
  | [], _ :: _, l => by simp at l
  | _ :: _, [], l => by simp at l
def C_p_quick_ones (n : Nat) : AC := fun xs R => ∃ t : Tr, xs = [.d (enc t)] ∧ Ok n t ∧ sz t ≤ 1000 ∧ R (.n .lst ((qoD (qo [] t)).map .d)) [.d (enc t)]
theorem qp_loop {n : Nat} {t : Tr} {D : AD} (o : Ok n t) : ∀ (l : List (List Int × Tr)) (acc : List PyData) (v2 v3 v4 : Option OV), (∀ p ∈ l, get t p.1 = some p.2) → acc.length + 12 * l.length ≤ 100000 →
    (∀ v2 v3 v4, D.nx [some (.d (enc t)), some (.n .lst ((acc ++ qoD (l.flatMap qOf)).map .d)), v2, v3, v4, none]) →
    forW (.n 2) (aSeq (aAsg (aCall (C_p_part_at n) (aRs 0 (aRs 2 aRn))) (.n 3))
    (aSeq (aAsg (aIf (aTst (a2 (o2 (fIn false)) (aIxN 3 (aC (.int 0))) (aC c_ANSWERERS))) (aIxN 3 (aC (.int 4))) (aTup aNil)) (.n 4))
    (aDrop (aMt 1 mExtend (aCons (aLc (aOver (aName 4)) (.n 5) (aTst (a2 (o2 (fEq false)) (aIxN 5 (aC (.int 1))) (aC (.str "quick")))) (aTup (aCons (aName 2) (aCons (aIxN 5 (aC (.int 0))) aNil))) [5]) aNil))))) D
      (l.map fun p => spD p.1) [some (.d (enc t)), some (.n .lst (acc.map .d)), v2, v3, v4, none]
  | [], acc, v2, v3, v4, _, _, q => by
    have := q v2 v3 v4
    simpa [forW, qoD] using this
  | (p, u) :: l, acc, v2, v3, v4, h, hl, q => by
    have sl := sl_eq
    have e := h (p, u) (by simp)
    have ou := get_ok p n t u o e
    simp only [List.length_cons] at hl
    rw [List.map_cons]
    unfold forW
    refine aSeq_h ?_
    simp_arith []
    refine ⟨t, u, p, rfl, o, e, rfl, ?_⟩
    simp_arith []
    refine hid_i (aSeq_h ?_)
    have next : ∀ v3 v4, forW (.n 2) (aSeq (aAsg (aCall (C_p_part_at n) (aRs 0 (aRs 2 aRn))) (.n 3))
    (aSeq (aAsg (aIf (aTst (a2 (o2 (fIn false)) (aIxN 3 (aC (.int 0))) (aC c_ANSWERERS))) (aIxN 3 (aC (.int 4))) (aTup aNil)) (.n 4))
    (aDrop (aMt 1 mExtend (aCons (aLc (aOver (aName 4)) (.n 5) (aTst (a2 (o2 (fEq false)) (aIxN 5 (aC (.int 1))) (aC (.str "quick")))) (aTup (aCons (aName 2) (aCons (aIxN 5 (aC (.int 0))) aNil))) [5]) aNil))))) D
      (l.map fun p => spD p.1) [some (.d (enc t)), some (.n .lst ((acc ++ qoD (qOf (p, u))).map .d)), some (.d (spD p)), v3, v4, none] := fun v3 v4 => by
      have lq : (qOf (p, u)).length ≤ 12 := by
        cases n with
        | zero => exact ou.elim
        | succ n =>
          obtain ⟨hd, ch⟩ := u
          have := qOwn_len ou.1
          simp only [qOf, tHd, List.length_map]
          exact this
      refine qp_loop o l _ _ _ _ (fun p hp => h p (by simp [hp])) (by simp [qoD]; omega) fun v2 v3 v4 => ?_
      have := q v2 v3 v4
      rw [List.flatMap_cons] at this
      simp only [qoD, List.map_append] at this ⊢
      simpa using this
    cases n with
    | zero => exact ou.elim
    | succ n =>
      obtain ⟨hd, ch⟩ := u
      obtain ⟨wf, oc⟩ := ou
      cases hd with
      | pl w ps =>
        have h1 := wf.1
        have h1' : ([PyData.str "handle", PyData.str "under"].any fun z => PyData.eqv z (.str w)) = false := by simpa [isAn] using h1
        simp only [List.any_cons, List.any_nil, Bool.or_false] at h1'
        have nx := next (some (.d (enc (.mk (.pl w ps) ch)))) (some (.d (.tuple [])))
        rw [encP] at nx ⊢
        simp_arith [c_ANSWERERS, flatD, List.all_cons, List.all_nil, Bool.and_true, h1']
        refine ⟨by omega, hid_i ?_⟩
        simp_arith [sit]
        simp only [lcW]
        simp_arith []
        refine ⟨by simp; omega, ?_⟩
        simp only [qOf, tHd, qOwn, List.map_nil, qoD, List.append_nil] at nx
        exact nx
      | an w wd tx cs =>
        obtain ⟨a, b, ts, rfl, l'⟩ := an_ch (n := n) wf
        have h6 := wf.2.2.2.2.2.1.1
        have h1' : ([PyData.str "handle", PyData.str "under"].any fun z => PyData.eqv z (.str w)) = true := by simpa [isAn] using wf.1
        simp only [List.any_cons, List.any_nil, Bool.or_false] at h1'
        have nx := next (some (.d (enc (.mk (.an w wd tx cs) (a :: b :: ts))))) (some (.d (.tuple (List.zipWith clD cs (ts.map enc)))))
        have hl : (List.zipWith clD cs (ts.map enc)).length ≤ 12 := by rw [List.length_zipWith]; omega
        rw [encA] at nx ⊢
        simp_arith [c_ANSWERERS, flatD, List.all_cons, List.all_nil, Bool.and_true, h1']
        refine hid_i ?_
        simp_arith [sit]
        refine lc_pure (qcF (spD p)) (fun d hd lim K hlim hk => ?_) (by omega) ?_
        · obtain ⟨c, o, rfl⟩ := zw_mem hd
          simp only [clD, qcF] at hk ⊢
          simp_arith [sc2]
          refine ⟨.inl trivial, ?_⟩
          by_cases e : PyData.eqv (.str c.b) (.str "quick") = true
          · simp only [e, if_true] at hk ⊢
            simp_arith []
            exact ⟨by omega, hlim, hk⟩
          · simp only [e, if_false] at hk ⊢
            exact hk
        · rw [qcF_zw p w wd tx cs _ (by simp [l'])]
          have lq := qOwn_len wf
          simp_arith []
          refine ⟨by simp [qoD]; omega, ?_⟩
          rw [← List.map_append]
          exact nx
theorem p_p_quick_ones {n : Nat} (hn : n ≤ 1000) : ∀ xs R, C_p_quick_ones n xs R → xs.length = 1 ∧ t_p_quick_ones (C_p_places_of n) (C_p_part_at n) (retD [true] xs R) (beg 6 xs) := by
  rintro xs R ⟨t, rfl, o, hz, q⟩
  refine ⟨rfl, ?_⟩
  unfold t_p_quick_ones
  have sl := sl_eq
  have l1 := allT_len [] t
  have e1 : (places t).map spD = (allT [] t).map fun p => spD p.1 := by
    have := allT_places [] t
    have e2 : (places t).map (([] : List Int) ++ ·) = places t := by simp
    rw [e2] at this
    rw [← this, List.map_map]
    rfl
  refine aSeq_h ?_
  simp_arith []
  refine ⟨by omega, hid_i (aSeq_h ?_)⟩
  simp_arith []
  refine ⟨t, rfl, o, by omega, rfl, ?_⟩
  rw [e1]
  simp_arith [sit]
  refine qp_loop o (allT [] t) [] none none none (fun p hp => ?_) (by rw [l1]; simp; omega) fun v2 v3 v4 => ?_
  · obtain ⟨r, e, g⟩ := allT_get [] t p.1 p.2 hp
    rw [e]
    simpa using g
  · simp_arith []
    refine hid_i ?_
    simp_arith []
    exact q
/-! the law's own -/
def C_quick_ones (n : Nat) : AC := fun xs R => ∃ (t : Tr) (q : List Int), xs = [.d (enc t), .d (spD q)] ∧ Ok n t ∧ sz t ≤ 1000 ∧ q.length + n ≤ 1000 ∧ R (.n .lst ((qoD (qo q t)).map .d)) [.d (enc t), .d (spD q)]
theorem ql_loop {n : Nat} {D : AD} {s0 : Option OV} {q : List Int} (hq : q.length + 1 + n ≤ 1000) : ∀ (ts : List Tr) (k : Nat) (acc : List PyData) (v3 v4 : Option OV), (∀ c ∈ ts, Ok n c) → szs ts ≤ 1000 → acc.length + 12 * szs ts ≤ 100000 →
    (∀ v3 v4, D.nx [s0, some (.d (spD q)), some (.n .lst ((acc ++ qoD (qos q k ts)).map .d)), v3, v4, none]) →
    forW (.t [(.n 3), (.n 4)]) (aAsg (a2 oAdd (aName 2) (aCall (C_quick_ones n) (aRs 4 (aRv (a2 oAdd (aName 1) (aTup (aCons (aName 3) aNil))) aRn)))) (.n 2)) D (enumF k (ts.map enc)) [s0, some (.d (spD q)), some (.n .lst (acc.map .d)), v3, v4, none]
  | [], k, acc, v3, v4, _, _, _, h => by
    rw [List.map_nil, enumF_nil]
    have := h v3 v4
    rw [qos_nil] at this
    simpa [forW, qoD] using this
  | t :: ts, k, acc, v3, v4, oc, hz, hl, h => by
    have sl := sl_eq
    have o := oc t (by simp)
    rw [szs_cons] at hz hl
    rw [List.map_cons, enumF_cons]
    unfold forW
    simp only [spD]
    simp_arith []
    refine ⟨by omega, by simp; omega, t, q ++ [(k : Int)], by simp [spD], o, by omega, by simp; omega, rfl, ?_⟩
    simp_arith []
    have lq := qo_len n (q ++ [(k : Int)]) t o
    refine ⟨by simp [qoD]; omega, ?_⟩
    rw [← List.map_append]
    refine ql_loop hq ts (k + 1) _ _ _ (fun c hc => oc c (by simp [hc])) (by omega) (by simp [qoD]; omega) fun v3 v4 => ?_
    have := h v3 v4
    rw [qos_cons] at this
    simp only [qoD, List.map_append, spD] at this ⊢
    simpa using this
theorem p_quick_ones {n : Nat} : ∀ xs R, C_quick_ones (n + 1) xs R → xs.length = 2 ∧ t_quick_ones C_inner (C_quick_ones n) (retD [true, true] xs R) (beg 6 xs) := by
  rintro xs R ⟨⟨h, ch⟩, q, rfl, ⟨wf, oc⟩, hz, hq, k⟩
  refine ⟨rfl, ?_⟩
  unfold t_quick_ones
  have sl := sl_eq
  rw [sz_mk] at hz
  rw [qo_mk] at k
  have lo := qOwn_len wf
  have tl : ∀ F : AS, F = (aSeq (aFor (aEnum (aCall C_inner (aRs 0 aRn))) (.t [(.n 3), (.n 4)]) (aAsg (a2 oAdd (aName 2) (aCall (C_quick_ones n) (aRs 4 (aRv (a2 oAdd (aName 1) (aTup (aCons (aName 3) aNil))) aRn)))) (.n 2)))
    (aRet (aMove 2))) → F (retD [true, true] [.d (enc (.mk h ch)), .d (spD q)] R) [some (.d (enc (.mk h ch))), some (.d (spD q)), some (.n .lst ((qoD ((qOwn h).map fun a => (q, a))).map .d)), none, none, none] := by
    rintro F rfl
    refine aSeq_h ?_
    simp_arith []
    refine use_inn wf oc ⟨rfl, ?_⟩
    simp_arith [sfd, sit, enumD_eq, frz_lst]
    refine ql_loop (n := n) (by omega) ch 0 _ none none oc (by omega) (by simp [qoD]; omega) fun v3 v4 => ?_
    simp_arith []
    refine hid_i ?_
    simp_arith []
    simp only [qoD, List.map_append] at k ⊢
    exact k
  have tl := tl _ rfl
  refine aSeq_h ?_
  simp_arith []
  refine ⟨by omega, hid_i (aSeq_h (aIfS_i ?_))⟩
  cases h with
  | pl w ps =>
    have h1 := wf.1
    have h1' : ([PyData.str "handle", PyData.str "under"].any fun z => PyData.eqv z (.str w)) = false := by simpa [isAn] using h1
    simp only [List.any_cons, List.any_nil, Bool.or_false] at h1'
    rw [encP] at tl ⊢
    simp_arith [flatD, List.all_cons, List.all_nil, Bool.and_true, h1']
    refine ⟨by omega, br_f rfl ?_⟩
    simp_arith []
    exact hid_i tl
  | an w wd tx cs =>
    obtain ⟨a, b, ts, rfl, l'⟩ := an_ch (n := n) wf
    have h6 := wf.2.2.2.2.2.1.1
    have h1' : ([PyData.str "handle", PyData.str "under"].any fun z => PyData.eqv z (.str w)) = true := by simpa [isAn] using wf.1
    simp only [List.any_cons, List.any_nil, Bool.or_false] at h1'
    have hl : (List.zipWith clD cs (ts.map enc)).length ≤ 12 := by rw [List.length_zipWith]; omega
    rw [encA] at tl ⊢
    simp_arith [flatD, List.all_cons, List.all_nil, Bool.and_true, h1']
    refine ⟨by omega, br_t rfl ?_⟩
    simp_arith [sit]
    refine lc_pure (qcF (spD q)) (fun d hd lim K hlim hk => ?_) (by omega) ?_
    · obtain ⟨c, o, rfl⟩ := zw_mem hd
      simp only [clD, qcF] at hk ⊢
      simp_arith [sc2]
      refine ⟨.inl trivial, ?_⟩
      by_cases e : PyData.eqv (.str c.b) (.str "quick") = true
      · simp only [e, if_true] at hk ⊢
        simp_arith []
        exact ⟨by omega, hlim, hk⟩
      · simp only [e, if_false] at hk ⊢
        exact hk
    · rw [qcF_zw q w wd tx cs _ (by simp [l'])]
      simp_arith []
      exact hid_i tl
end K45

/-! the law's own: clauses that go on at last; how many parts -/
namespace K45
open PySem L2 Grd Ow PyProof.Rows
/-- a list of numbers told of trees -/
theorem num_loop {C_f : AC} {f : Tr → Nat} {s0 : Option OV} {Q : OV → En → Prop} : ∀ (ts : List Tr) (acc : List Int), (∀ c ∈ ts, ∀ K : OV → List OV → Prop, K (.d (.int (f c : Nat))) [.d (enc c)] → C_f [.d (enc c)] K) → acc.length + ts.length ≤ 100 →
    Q (.n .lst (((acc ++ ts.map fun c => ((f c : Nat) : Int)).map PyData.int).map OV.d)) [s0, none] → lcW (.n 1) aYes (aCall C_f (aRs 1 aRn)) [1] Q (ts.map enc) ((acc.map PyData.int).map OV.d) [s0, none]
  | [], acc, _, _, q => by simpa [lcW] using q
  | t :: ts, acc, hf, hl, q => by
    rw [List.map_cons]
    unfold lcW
    simp only [List.length_cons] at hl
    simp_arith []
    refine hf t (by simp) _ ⟨rfl, ?_⟩
    simp_arith []
    refine ⟨by simp; have := sl_eq; omega, ?_⟩
    have ea : (acc.map PyData.int).map OV.d ++ [OV.d (.int ((f t : Nat) : Int))] = ((acc ++ [((f t : Nat) : Int)]).map PyData.int).map OV.d := by simp
    rw [ea]
    exact num_loop ts _ (fun c hc => hf c (by simp [hc])) (by simp; omega) (by simpa using q)
theorem ints_of (ns : List Int) : intsOf (ns.map PyData.int) = some ns := by
  induction ns with
  | nil => rfl
  | cons n ns ih => simp only [List.map_cons, intsOf, ih, Option.map_some]
theorem lfz_ints (ns : List Int) : (lfz (.n .lst ((ns.map PyData.int).map OV.d))).bind intsOf = some ns := by
  have : lfz (.n .lst ((ns.map PyData.int).map OV.d)) = some (ns.map PyData.int) := frzs_map _
  rw [this]
  exact ints_of ns
theorem sum_szs : ∀ ts : List Tr, (ts.map fun c => ((sz c : Nat) : Int)).sum = ((szs ts : Nat) : Int)
  | [] => by rw [szs_nil]; rfl
  | t :: ts => by rw [List.map_cons, List.sum_cons, sum_szs ts, szs_cons]; omega
def C_parts_in (n : Nat) : AC := fun xs R => ∃ t : Tr, xs = [.d (enc t)] ∧ Ok n t ∧ R (.d (.int (sz t : Nat))) [.d (enc t)]
theorem p_parts_in {n : Nat} : ∀ xs R, C_parts_in (n + 1) xs R → xs.length = 1 ∧ t_parts_in C_inner (C_parts_in n) (retD [true] xs R) (beg 2 xs) := by
  rintro xs R ⟨⟨h, ch⟩, rfl, ⟨wf, oc⟩, q⟩
  refine ⟨rfl, ?_⟩
  unfold t_parts_in
  have c14 := ch_small wf
  simp_arith []
  refine use_inn wf oc ⟨rfl, ?_⟩
  simp_arith [sit]
  refine num_loop (f := sz) ch [] (fun c hc K k => ⟨c, rfl, oc c hc, k⟩) (by simp; omega) ?_
  simp_arith [oSum, lfz_ints, sum_szs]
  rw [sz_mk] at q
  have e : (1 : Int) + ((szs ch : Nat) : Int) = ((szs ch + 1 : Nat) : Int) := by omega
  rw [e]
  exact q
/-! how deep as data -/
theorem dA_fill : ∀ (ps : List (Option PyData)) (ds : List PyData), (∀ p d, p ∈ ps → p = some d → Atm d) → PyData.depthAll (fill ps ds) ≤ PyData.depthAll ds
  | [], ds, a => by simp only [fill, PyData.depthAll]; omega
  | some p :: ps, ds, a => by
    have ap := a (some p) p (by simp) rfl
    have ih := dA_fill ps ds fun q d hq => a q d (by simp [hq])
    have e : p.depth = 0 := by cases p <;> first | exact ap.elim | (simp only [PyData.depth])
    simp only [fill, PyData.depthAll, e]
    omega
  | none :: ps, d :: ds, a => by
    have ih := dA_fill ps ds fun q d hq => a q d (by simp [hq])
    simp only [fill, PyData.depthAll]
    omega
  | none :: ps, [], a => by simp only [fill, PyData.depthAll]; omega
theorem dA_zw : ∀ (cs : List Cl) (ds : List PyData), PyData.depthAll (List.zipWith clD cs ds) ≤ PyData.depthAll ds + 1
  | [], ds => by simp only [List.zipWith_nil_left, PyData.depthAll]; omega
  | _ :: _, [] => by simp only [List.zipWith_nil_right, PyData.depthAll]; omega
  | c :: cs, d :: ds => by
    have ih := dA_zw cs ds
    simp only [List.zipWith_cons_cons, clD, PyData.depthAll, PyData.depth]
    omega
theorem dA_map {d : Nat} : ∀ (ts : List Tr), (∀ t ∈ ts, (enc t).depth ≤ d) → PyData.depthAll (ts.map enc) ≤ d
  | [], h => by simp only [List.map_nil, PyData.depthAll]; omega
  | t :: ts, h => by
    have h1 := h t (by simp)
    have h2 := dA_map ts fun t ht => h t (by simp [ht])
    simp only [List.map_cons, PyData.depthAll]
    omega
theorem depth_mk {h : Hd} {ch : List Tr} {d : Nat} (wf : WFh h ch.length) (k : ∀ c ∈ ch, (enc c).depth ≤ d) : (enc (.mk h ch)).depth ≤ d + 3 := by
  cases h with
  | pl w ps =>
    have h1 := dA_fill ps (ch.map enc) fun p d hp e => (wf.2.2.2.1 p d hp e).1
    have h2 := dA_map ch k
    rw [encP]
    simp only [PyData.depth, PyData.depthAll]
    omega
  | an w wd tx cs =>
    obtain ⟨a, b, ts, rfl, l⟩ := an_ch (n := 0) wf
    have h1 := dA_zw cs (ts.map enc)
    have h2 := dA_map ts fun t ht => k t (by simp [ht])
    have h3 := k a (by simp)
    have h4 := k b (by simp)
    rw [encA]
    simp only [PyData.depth, PyData.depthAll]
    omega
/-! the clauses -/
structure Good (w wd : Str) (m d : Nat) (p : Cl × Tr) : Prop where
  sg : Sg 7 p.1.a ∧ Sg 7 p.1.b ∧ Sg 7 p.1.c ∧ Sg 7 p.1.e
  gc : Gc w wd p.1
  ok : Ok (m + 2) p.2
  de : (enc p.2).depth ≤ d + 2
def rowB (C_take C_one_of : AC) : AS := (aSeq (aPar [9, 10] (aCons (aCall C_take (aRs 0 (aRv (aC (.int 6)) aRn))) (aCons (aCall C_one_of (aRs 0 (aRv (aLst (aCons (aC (.str "k")) (aCons (aC (.str "ka")) (aCons (aC (.str "kb")) aNil)))) aRn))) aNil)))
    (aIfS (aAnd (aTst (a2 (o2 fLt) (aName 9) (aC (.int 3)))) (aTst (a2 (o2 (fEq true)) (aName 10) (aName 6)))) (aSeq (aAsg (aLst (aCons (aName 8) (aCons (aTup (aCons (aC (.str "let")) (aCons (aName 10) (aCons (aTup (aCons (aC (.str "num")) (aCons (aC (.int 1)) aNil))) (aCons (aName 8) aNil))))) (aCons (aTup (aCons (aC (.str "op")) (aCons (aC (.str "plus")) (aCons (aName 8) (aCons (aTup (aCons (aC (.str "num")) (aCons (aC (.int 2)) aNil))) aNil))))) aNil)))) (.n 11))
    (aSeq (aAsg (aTup (aCons (aC (.str "call")) (aCons (aTup (aCons (aC (.str "name")) (aCons (aName 10) aNil))) (aCons (aIf (aTst (a2 (o2 (fEq false)) (aName 5) (aC (.str "quick")))) (aIxN 11 (aName 9)) (aCall C_one_of (aRs 0 (aRs 11 aRn)))) aNil)))) (.n 8))
    (aDrop (aMt 3 mAppend (aCons (aTup (aCons (aName 4) (aCons (aC (.str "many")) (aCons (aName 6) (aCons (aName 10) (aCons (aName 8) aNil)))))) aNil))))) (aDrop (aMt 3 mAppend (aCons (aTup (aCons (aName 4) (aCons (aName 5) (aCons (aName 6) (aCons (aName 7) (aCons (aName 8) aNil)))))) aNil)))))
abbrev lcE (ys : List OV) (s1 s2 : Option OV) (ps : List (Cl × Tr)) (v4 v5 v6 v7 v8 v9 v10 v11 : Option OV) : En := [some (.n .lst ys), s1, s2, some (.n .lst ((rowsD ps).map .d)), v4, v5, v6, v7, v8, v9, v10, v11, none]
theorem last_good {w wd : Str} {m d : Nat} {c : Cl} {t u : Tr} {own : Str} (sg : Sg 7 c.a ∧ Sg 7 c.b ∧ Sg 7 c.c ∧ Sg 7 c.e) (gc : Gc w wd c) (so : Sg 7 own) (no : own ≠ ("" : Str)) (ou : Ok (m + 1) u) (du : (enc u).depth ≤ d + 1) :
    Good w wd m d (⟨c.a, "many", c.c, own⟩, Tcall (Tname own) u) := by
  refine ⟨⟨sg.1, sgMany, sg.2.2.1, so⟩, ⟨gc.1, fun _ => no, fun e => absurd rfl e, fun _ _ => by show ("many" : Str) ≠ "quick"; decide +kernel⟩, ok_call (ok_name so) ou, ?_⟩
  show (enc (Tcall (Tname own) u)).depth ≤ _
  rw [enc_call, enc_name]
  simp only [PyData.depth, PyData.depthAll]
  omega
theorem some_good {m d : Nat} {t : Tr} {own : Str} (so : Sg 7 own) (o : Ok m t) (de : (enc t).depth ≤ d) (d1 : 1 ≤ d) : ∀ u ∈ [t, Tlet own (Tnum 1) t, Top "plus" t (Tnum 2)], Ok (m + 1) u ∧ (enc u).depth ≤ d + 1 ∧ sz u ≤ sz t + 2 := by
  obtain ⟨k, rfl⟩ : ∃ k, m = k + 1 := by
    cases m with
    | zero => exact o.elim
    | succ k => exact ⟨k, rfl⟩
  intro u hu
  simp only [List.mem_cons, List.not_mem_nil, or_false] at hu
  rcases hu with rfl | rfl | rfl
  · exact ⟨o.mono (by omega), by omega, by omega⟩
  · refine ⟨ok_let so (ok_num (by decide) (by decide)) o, ?_, by rw [sz_let, sz_num]; omega⟩
    rw [enc_let, enc_num]
    simp only [PyData.depth, PyData.depthAll]
    omega
  · refine ⟨ok_op (sg_of (by decide +kernel)) o (ok_num (by decide) (by decide)), ?_, by rw [sz_op, sz_num]; omega⟩
    rw [enc_op, enc_num]
    simp only [PyData.depth, PyData.depthAll]
    omega
theorem row_turn {w wd : Str} {m d : Nat} {D : AD} {s1 s2 v9 v10 v11 : Option OV} {ps : List (Cl × Tr)} {cb : Nat} {ys : List OV} {c : Cl} {t : Tr} (sg : Sg 7 c.a ∧ Sg 7 c.b ∧ Sg 7 c.c ∧ Sg 7 c.e) (gc : Gc w wd c) (o : Ok m t) (de : (enc t).depth ≤ d) (d1 : 1 ≤ d)
    (hb : Box cb ys) (hc : cb ≤ 900000000000) (lp : ps.length ≤ 100)
    (q : ∀ p ys' v4 v5 v6 v7 v8 v9 v10 v11, Good w wd m d p → sz p.2 ≤ sz t + 4 → Box (cb + 3) ys' → D.nx (lcE ys' s1 s2 (ps ++ [p]) v4 v5 v6 v7 v8 v9 v10 v11)) :
    rowB C_take C_one_of D (lcE ys s1 s2 ps (some (.d (.str c.a))) (some (.d (.str c.b))) (some (.d (.str c.c))) (some (.d (.str c.e))) (some (.d (enc t))) v9 v10 v11) := by
  have sl := sl_eq
  unfold rowB lcE
  refine aSeq_h ?_
  simp_arith []
  refine ⟨cb, ys, 6, rfl, hb, by omega, by decide, by decide, fun r ys1 r0 r1 hb1 => ⟨rfl, ?_⟩⟩
  simp_arith []
  refine ⟨by omega, _, _, _, rfl, hb1, by omega, .inl ⟨[("k" : Str), "ka", "kb"].map PyData.str, .inl rfl, by decide, by decide, fun wd' ys2 hwd hb2 => ⟨rfl, ?_⟩⟩⟩
  obtain ⟨own, rfl, how, so⟩ := one_str (n := 7) hwd (by decide +kernel)
  have no : own ≠ ("" : Str) := by
    simp only [List.mem_cons, List.not_mem_nil, or_false] at how
    rcases how with rfl | rfl | rfl <;> decide +kernel
  simp_arith []
  have old : ∀ v9 v10, (aDrop (aMt 3 mAppend (aCons (aTup (aCons (aName 4) (aCons (aName 5) (aCons (aName 6) (aCons (aName 7) (aCons (aName 8) aNil)))))) aNil))) D (lcE ys2 s1 s2 ps (some (.d (.str c.a))) (some (.d (.str c.b))) (some (.d (.str c.c))) (some (.d (.str c.e))) (some (.d (enc t))) v9 v10 v11) := fun v9 v10 => by
    unfold lcE
    simp_arith []
    refine ⟨by omega, by simp; omega, ?_⟩
    have g := q (c, t) ys2 (some (.d (.str c.a))) (some (.d (.str c.b))) (some (.d (.str c.c))) (some (.d (.str c.e))) (some (.d (enc t))) v9 v10 v11 ⟨sg, gc, o.mono (by omega), by show (enc t).depth ≤ _; omega⟩ (by show sz t ≤ _; omega) (hb2.mono (by omega))
    unfold lcE at g
    rw [rowsD, List.map_append, List.map_append] at g
    exact g
  refine hid_i (aIfS_i ?_)
  simp_arith [sc2]
  refine ifB (fun hr => ⟨.inl trivial, br_i (fun _ => ?_) (fun _ => old _ _)⟩) (fun hr => br_f rfl (old _ _))
  refine aSeq_h ?_
  simp_arith []
  refine ⟨by omega, by omega, by omega, by omega, by omega, hid_i (aSeq_h ?_)⟩
  have hl : [OV.d (enc t), OV.d (.tuple [.str "let", .str own, .tuple [.str "num", .int 1], enc t]), OV.d (.tuple [.str "op", .str "plus", enc t, .tuple [.str "num", .int 2]])] = encO [t, Tlet own (Tnum 1) t, Top "plus" t (Tnum 2)] := by
    simp only [encO, List.map_cons, List.map_nil, enc_let, enc_op, enc_num]
  have sgd := some_good (d := d) so o de d1
  have fin : ∀ u ∈ [t, Tlet own (Tnum 1) t, Top "plus" t (Tnum 2)], ∀ ys3 v9 v11, Box (cb + 3) ys3 → (aDrop (aMt 3 mAppend (aCons (aTup (aCons (aName 4) (aCons (aC (.str "many")) (aCons (aName 6) (aCons (aName 10) (aCons (aName 8) aNil)))))) aNil))) D
      (lcE ys3 s1 s2 ps (some (.d (.str c.a))) (some (.d (.str c.b))) (some (.d (.str c.c))) (some (.d (.str c.e))) (some (.d (.tuple [.str "call", .tuple [.str "name", .str own], enc u]))) v9 (some (.d (.str own))) v11) := fun u hu ys3 v9 v11 hb3 => by
    obtain ⟨g1, g2, g3⟩ := sgd u hu
    unfold lcE
    simp_arith []
    refine ⟨by omega, by simp; omega, ?_⟩
    have g := q (⟨c.a, "many", c.c, own⟩, Tcall (Tname own) u) ys3 (some (.d (.str c.a))) (some (.d (.str c.b))) (some (.d (.str c.c))) (some (.d (.str c.e))) (some (.d (.tuple [.str "call", .tuple [.str "name", .str own], enc u]))) v9 (some (.d (.str own))) v11 (last_good (t := t) sg gc so no g1 g2) (by show sz (Tcall (Tname own) u) ≤ _; rw [sz_call, sz_name]; omega) hb3
    unfold lcE at g
    rw [rowsD, List.map_append, List.map_append] at g
    simp only [List.map_cons, List.map_nil, clD, enc_call, enc_name] at g
    exact g
  have b3 : Box (cb + 3) ys2 := hb2.mono (by omega)
  have c1 : (if c.b = ("quick" : Str) then True else True) := by split <;> trivial
  by_cases eh : c.b = ("quick" : Str)
  · have f1 : PyData.eqv (.str c.b) (.str "quick") = true := by rw [eh]; exact eq_t _
    simp_arith [sc2, f1]
    have h3 : r = 0 ∨ r = 1 ∨ r = 2 := by omega
    rcases h3 with rfl | rfl | rfl
    · simp_arith []
      exact ⟨by omega, .inl trivial, by omega, hid_i (fin t (by simp) ys2 _ _ b3)⟩
    · simp_arith []
      have f := fin (Tlet own (Tnum 1) t) (by simp) ys2 (some (.d (.int 1))) (some (.n .lst (encO [t, Tlet own (Tnum 1) t, Top "plus" t (Tnum 2)]))) b3
      simp only [encO, List.map_cons, List.map_nil, enc_let, enc_op, enc_num] at f
      exact ⟨by omega, .inl trivial, by omega, hid_i f⟩
    · simp_arith []
      have f := fin (Top "plus" t (Tnum 2)) (by simp) ys2 (some (.d (.int 2))) (some (.n .lst (encO [t, Tlet own (Tnum 1) t, Top "plus" t (Tnum 2)]))) b3
      simp only [encO, List.map_cons, List.map_nil, enc_let, enc_op, enc_num] at f
      exact ⟨by omega, .inl trivial, by omega, hid_i f⟩
  · have f1 : PyData.eqv (.str c.b) (.str "quick") = false := eq_f eh
    rw [hl]
    simp_arith [sc2, f1]
    refine ⟨by omega, .inl trivial, _, ys2, _, rfl, hb2, by omega, .inl ⟨[t, Tlet own (Tnum 1) t, Top "plus" t (Tnum 2)].map enc, .inl rfl, by simp, by simp, fun d ys3 hd hb3 => ⟨rfl, ?_⟩⟩⟩
    obtain ⟨u, hu, rfl⟩ := List.mem_map.mp hd
    simp_arith []
    exact ⟨by omega, hid_i (fin u hu ys3 _ _ (hb3.mono (by omega)))⟩
theorem rl_loop {w wd : Str} {m d : Nat} {D : AD} {s1 s2 : Option OV} (d1 : 1 ≤ d) : ∀ (cs : List Cl) (ts : List Tr) (ps : List (Cl × Tr)) (cb : Nat) (ys : List OV) (v4 v5 v6 v7 v8 v9 v10 v11 : Option OV), cs.length = ts.length → (∀ c ∈ cs, (Sg 7 c.a ∧ Sg 7 c.b ∧ Sg 7 c.c ∧ Sg 7 c.e) ∧ Gc w wd c) → (∀ t ∈ ts, Ok m t ∧ (enc t).depth ≤ d) →
    Box cb ys → cb + 3 * cs.length ≤ 900000000000 → ps.length + cs.length ≤ 100 →
    (∀ ps' ys' v4 v5 v6 v7 v8 v9 v10 v11, (∀ p ∈ ps', Good w wd m d p) → ps'.length = cs.length → szs (ps'.map Prod.snd) ≤ szs ts + 4 * ts.length → Box (cb + 3 * cs.length) ys' → D.nx (lcE ys' s1 s2 (ps ++ ps') v4 v5 v6 v7 v8 v9 v10 v11)) →
    forW (.t [(.n 4), (.n 5), (.n 6), (.n 7), (.n 8)]) (rowB C_take C_one_of) D (List.zipWith clD cs (ts.map enc)) (lcE ys s1 s2 ps v4 v5 v6 v7 v8 v9 v10 v11)
  | [], [], ps, cb, ys, v4, v5, v6, v7, v8, v9, v10, v11, _, _, _, hb, _, _, q => by
    have := q [] ys v4 v5 v6 v7 v8 v9 v10 v11 (by simp) rfl (by simp [szs_nil]) (by simpa using hb)
    simpa [forW] using this
  | c :: cs, t :: ts, ps, cb, ys, v4, v5, v6, v7, v8, v9, v10, v11, l, hc, ht, hb, hcb, hl, q => by
    simp only [List.length_cons] at hcb hl
    obtain ⟨sg, gc⟩ := hc c (by simp)
    obtain ⟨o, de⟩ := ht t (by simp)
    rw [List.map_cons, List.zipWith_cons_cons]
    unfold forW
    simp only [clD]
    simp_arith []
    refine row_turn (m := m) (d := d) sg gc o de d1 hb (by omega) (by omega) fun p ys' v4 v5 v6 v7 v8 v9 v10 v11 gp sp hb' => ?_
    refine rl_loop d1 cs ts (ps ++ [p]) (cb + 3) ys' _ _ _ _ _ _ _ _ (by simpa using l) (fun c h => hc c (by simp [h])) (fun t h => ht t (by simp [h])) hb' (by omega) (by simp; omega) fun ps' ys'' v4 v5 v6 v7 v8 v9 v10 v11 g lp sz' hb'' => ?_
    have := q (p :: ps') ys'' v4 v5 v6 v7 v8 v9 v10 v11 (fun x hx => by
      rcases List.mem_cons.mp hx with rfl | hx
      · exact gp
      · exact g x hx) (by simp [lp]) (by rw [List.map_cons, szs_cons, szs_cons, List.length_cons]; omega) (hb''.mono (by simp only [List.length_cons]; omega))
    rw [List.append_assoc]
    exact this
  | [], _ :: _, ps, cb, ys, v4, v5, v6, v7, v8, v9, v10, v11, l, _, _, _, _, _, _ => by simp at l
  | _ :: _, [], ps, cb, ys, v4, v5, v6, v7, v8, v9, v10, v11, l, _, _, _, _, _, _ => by simp at l
/-- the whole -/
def C_last_calls (n : Nat) : AC := fun xs R => ∃ (c : Nat) (ys : List OV) (t : Tr), xs = [.n .lst ys, .d (enc t)] ∧ Box c ys ∧ Ok n t ∧ c + 36 * sz t ≤ 900000000000 ∧
  ∀ t' ys', Ok (3 * n) t' → sz t' + 4 ≤ 5 * sz t → (enc t').depth ≤ 5 * n → Box (c + 36 * sz t) ys' → R (.d (enc t')) [.n .lst ys', .d (enc t)]
theorem lcl_loop {n : Nat} {Q : OV → En → Prop} {s1 s2 s3 s4 s5 s6 s7 s8 s9 s10 s11 : Option OV} : ∀ (ts acc : List Tr) (c : Nat) (ys : List OV), Box c ys → (∀ t ∈ ts, Ok n t) → c + 36 * szs ts ≤ 900000000000 → acc.length + ts.length ≤ 100 →
    (∀ us ys', us.length = ts.length → (∀ u ∈ us, Ok (3 * n) u ∧ (enc u).depth ≤ 5 * n) → szs us + 4 * ts.length ≤ 5 * szs ts → Box (c + 36 * szs ts) ys' → Q (.n .lst (encO (acc ++ us))) [some (.n .lst ys'), s1, s2, s3, s4, s5, s6, s7, s8, s9, s10, s11, none]) →
    lcW (.n 12) aYes (aCall (C_last_calls n) (aRs 0 (aRs 12 aRn))) [12] Q (ts.map enc) (encO acc) [some (.n .lst ys), s1, s2, s3, s4, s5, s6, s7, s8, s9, s10, s11, none]
  | [], acc, c, ys, hb, _, _, _, q => by
    have := q [] ys rfl (by simp) (by simp [szs_nil]) (by simpa [szs_nil] using hb)
    simpa [lcW] using this
  | t :: ts, acc, c, ys, hb, oc, hc, hl, q => by
    have sl := sl_eq
    simp only [List.length_cons] at hl
    rw [szs_cons] at hc
    rw [List.map_cons]
    unfold lcW
    simp_arith []
    refine ⟨c, ys, t, rfl, hb, oc t (by simp), by omega, fun u ys1 ou su du hb1 => ⟨rfl, ?_⟩⟩
    simp_arith []
    have ea : encO acc ++ [OV.d (enc u)] = encO (acc ++ [u]) := by simp [encO]
    rw [ea]
    refine ⟨by simp; omega, lcl_loop ts (acc ++ [u]) _ ys1 hb1 (fun t h => oc t (by simp [h])) (by omega) (by simp; omega) fun us ys2 lu gu su2 hb2 => ?_⟩
    have := q (u :: us) ys2 (by simp [lu]) (fun x hx => by
      rcases List.mem_cons.mp hx with rfl | hx
      · exact ⟨ou, du⟩
      · exact gu x hx) (by rw [szs_cons, szs_cons, List.length_cons]; omega) (hb2.mono (by rw [szs_cons]; omega))
    rw [List.append_assoc]
    exact this
theorem wf_new {m d : Nat} {w wd tx : Str} {cs : List Cl} {a b a' b' : Tr} {ts : List Tr} {ps : List (Cl × Tr)} (wf : WFh (.an w wd tx cs) (a :: b :: ts).length) (l : ps.length = cs.length) (g : ∀ p ∈ ps, Good w wd m d p) :
    WFh (.an w wd tx (ps.map Prod.fst)) (a' :: b' :: ps.map Prod.snd).length := by
  obtain ⟨h1, h2, h3, h4, h5, ⟨h6, h8⟩, h7⟩ := wf
  refine ⟨h1, h2, h3, h4, fun c hc => ?_, ⟨by rw [List.length_map]; omega, fun c hc => ?_⟩, by simp⟩
  · obtain ⟨p, hp, rfl⟩ := List.mem_map.mp hc
    exact (g p hp).sg
  · obtain ⟨p, hp, rfl⟩ := List.mem_map.mp hc
    exact (g p hp).gc
theorem depth_pos {n : Nat} {t : Tr} (o : Ok n t) : 1 ≤ (enc t).depth := by
  obtain ⟨es, e⟩ := enc_tuple o
  rw [e]
  simp only [PyData.depth]
  omega
theorem p_last_calls {n : Nat} : ∀ xs R, C_last_calls (n + 1) xs R → xs.length = 2 ∧ t_last_calls C_rebuilt C_inner (C_last_calls n) C_one_of C_take (retD [true, true] xs R) (beg 13 xs) := by
  rintro xs R ⟨c, ys, ⟨h, ch⟩, rfl, hb, ⟨wf, oc⟩, hc, q⟩
  refine ⟨rfl, ?_⟩
  unfold t_last_calls
  have sl := sl_eq
  have c14 := ch_small wf
  rw [sz_mk] at hc q
  refine aSeq_h ?_
  simp_arith []
  refine use_inn wf oc ⟨rfl, ?_⟩
  simp_arith [sit]
  refine lcl_loop ch [] c ys hb oc (by omega) (by simp; omega) fun us ys1 lu gu su hb1 => ?_
  rw [List.nil_append]
  simp_arith []
  refine use_reb wf oc lu fun X => ⟨rfl, ?_⟩
  simp_arith []
  refine hid_i (aSeq_h (aIfS_i ?_))
  cases h with
  | pl w ps =>
    have g := q (.mk (.pl w ps) us) ys1 (show Ok (3 * n + 2 + 1) _ from ⟨wf_len wf lu.symm, fun u hu => (gu u hu).1.mono (by omega)⟩) (by rw [sz_mk]; omega) (Nat.le_trans (depth_mk (wf_len wf lu.symm) fun u hu => (gu u hu).2) (by omega)) (hb1.mono (by omega))
    have h1 := wf.1
    have h1' : ([PyData.str "handle", PyData.str "under"].any fun z => PyData.eqv z (.str w)) = false := by simpa [isAn] using h1
    simp only [List.any_cons, List.any_nil, Bool.or_false] at h1'
    rw [encP (ch := us)] at g ⊢
    simp_arith [flatD, List.all_cons, List.all_nil, Bool.and_true, h1', Bool.not_false]
    refine ⟨by omega, br_t rfl ?_⟩
    simp_arith []
    exact g
  | an w wd tx cs =>
    obtain ⟨a, b, ts, rfl, l⟩ := an_ch (n := n) wf
    match us, lu with
    | a' :: b' :: us, lu =>
      have lus : us.length = ts.length := by simpa using lu
      have h6 := wf.2.2.2.2.2.1.1
      have ga := gu a' (by simp)
      have gb := gu b' (by simp)
      have n1 : 1 ≤ n := by
        cases n with
        | zero => exact (oc a (by simp)).elim
        | succ n => omega
      have h1' : ([PyData.str "handle", PyData.str "under"].any fun z => PyData.eqv z (.str w)) = true := by simpa [isAn] using wf.1
      simp only [List.any_cons, List.any_nil, Bool.or_false] at h1'
      have wf' := wf
      obtain ⟨h1, h2, h3, h4, h5, ⟨h6', h8⟩, h7⟩ := wf
      rw [szs_cons, szs_cons, szs_cons, szs_cons] at su
      rw [szs_cons, szs_cons] at hc q hb1
      simp only [List.length_cons] at su
      rw [encA (a := a')]
      simp_arith [flatD, List.all_cons, List.all_nil, Bool.and_true, h1', Bool.not_true]
      refine ⟨by omega, br_f rfl ?_⟩
      simp_arith []
      refine hid_i (aSeq_h ?_)
      simp_arith []
      refine ⟨by omega, hid_i (aSeq_h ?_)⟩
      simp_arith [sit]
      refine rl_loop (w := w) (wd := wd) (m := 3 * n) (d := 5 * n) (by omega) cs us [] _ ys1 none none none none none none none none (by omega) (fun c hc => ⟨h5 c hc, h8 c hc⟩) (fun u hu => gu u (by simp [hu])) hb1 (by omega) (by simp; omega) fun ps' ys2 v4 v5 v6 v7 v8 v9 v10 v11 gp lp sp hb2 => ?_
      have g := q (.mk (.an w wd tx (ps'.map Prod.fst)) (a' :: b' :: ps'.map Prod.snd)) ys2 (show Ok (3 * n + 2 + 1) _ from ⟨wf_new wf' lp gp, fun u hu => by
        rcases List.mem_cons.mp hu with rfl | hu
        · exact ga.1.mono (by omega)
        rcases List.mem_cons.mp hu with rfl | hu
        · exact gb.1.mono (by omega)
        obtain ⟨p, hp, rfl⟩ := List.mem_map.mp hu
        exact (gp p hp).ok⟩) (by rw [sz_mk, szs_cons, szs_cons]; omega) (Nat.le_trans (depth_mk (d := 5 * n + 2) (wf_new wf' lp gp) fun u hu => by
        rcases List.mem_cons.mp hu with rfl | hu
        · have := ga.2; omega
        rcases List.mem_cons.mp hu with rfl | hu
        · have := gb.2; omega
        obtain ⟨p, hp, rfl⟩ := List.mem_map.mp hu
        exact (gp p hp).de) (by omega)) (hb2.mono (by omega))
      rw [enc_rows] at g
      unfold lcE
      rw [List.nil_append]
      simp_arith []
      refine hid_i ?_
      simp_arith [oTuple, dats_map]
      exact ⟨by omega, by omega, g⟩
end K45

/-! one is right -/
namespace K45
open PySem L2 Grd Ow PyProof.Rows
theorem qo_nil_of {ts : List Tr} (h : ∀ c ∈ ts, ∀ q, qo q c = []) : ∀ (q : List Int) (k : Nat), qos q k ts = [] := by
  induction ts with
  | nil => intro q k; rw [qos_nil]
  | cons t ts ih => intro q k; rw [qos_cons, h t (by simp), ih fun c hc => h c (by simp [hc])]; rfl
theorem qo_slow : ∀ (n : Nat) (t : Tr), Ok n t → ∀ q, qo q (slow t) = []
  | 0, t, o => o.elim
  | n + 1, .mk (.pl w ps) ch, ⟨wf, oc⟩ => fun q => by
    rw [slow_pl, qo_mk, qo_nil_of fun c hc => by
      obtain ⟨t, ht, rfl⟩ := List.mem_map.mp hc
      exact qo_slow n t (oc t ht)]
    rfl
  | n + 1, .mk (.an w wd tx cs) ch, ⟨wf, oc⟩ => fun q => by
    obtain ⟨a, b, ts, rfl, l⟩ := an_ch (n := n) wf
    rw [slow_an, qo_mk, qo_nil_of fun c hc => ?_]
    · have : (((List.zipWith slowC cs (ts.map slow)).map Prod.fst).filter fun c => decide (c.b = ("quick" : Str))) = [] := by
        rw [List.filter_eq_nil_iff]
        intro c hc
        obtain ⟨p, hp, rfl⟩ := List.mem_map.mp hc
        obtain ⟨c, t, m, rfl⟩ := zw_ex hp
        have : (slowC c t).1.b ≠ ("quick" : Str) := by
          unfold slowC
          split
          · show ("many" : Str) ≠ "quick"
            decide +kernel
          · assumption
        simpa using this
      simp only [qOwn, this, List.map_nil, List.nil_append]
    · rcases List.mem_cons.mp hc with rfl | hc
      · exact qo_slow n a (oc a (by simp))
      rcases List.mem_cons.mp hc with rfl | hc
      · exact qo_slow n b (oc b (by simp))
      obtain ⟨p, hp, rfl⟩ := List.mem_map.mp hc
      obtain ⟨c, t, m, rfl⟩ := zw_ex hp
      obtain ⟨hc, u, _, hu, rfl⟩ := zip_of m
      have ih := qo_slow n u (oc u (by simp [hu]))
      unfold slowC
      split
      · intro q
        show qo q (Tcall _ _) = []
        rw [Tcall, qo_mk, qo_nil_of fun c hc => ?_]
        · rfl
        · simp only [List.mem_cons, List.not_mem_nil, or_false] at hc
          rcases hc with rfl | rfl
          · intro q
            rw [Tname, qo_mk, qos_nil]
            rfl
          · exact ih
      · exact ih
theorem pd_qo {n : Nat} {t : Tr} (o : Ok n t) (hn : n ≤ 1000) (hz : sz t ≤ 1000) : Pd 3 (.list (qoD (qo [] t))) := by
  have l := qo_len n [] t o
  refine ⟨by simp [qoD]; omega, fun x hx => ?_⟩
  obtain ⟨p, hp, rfl⟩ := List.mem_map.mp hx
  obtain ⟨⟨q, u⟩, hm, hp⟩ := List.mem_flatMap.mp hp
  obtain ⟨a, _, rfl⟩ := List.mem_map.mp hp
  have hq : q ∈ places t := by
    have := allT_places [] t
    have e2 : (places t).map (([] : List Int) ++ ·) = places t := by simp
    rw [e2] at this
    rw [← this]
    exact List.mem_map.mpr ⟨(q, u), hm, rfl⟩
  have := places_short n t o q hq
  refine ⟨by simp, fun y hy => ?_⟩
  simp only [List.mem_cons, List.not_mem_nil, or_false] at hy
  rcases hy with rfl | rfl
  · exact pd_sp q (by omega)
  · trivial
def C_one_right : AC := fun xs R => ∃ t : Tr, xs = [.d (enc t)] ∧ Ok 30 t ∧ sz t ≤ 120 ∧ (enc t).depth ≤ 60 ∧ R (.d (.bool true)) [.d (enc t)]
theorem pd2 {n : Nat} {a b : PyData} (h1 : Pd n a) (h2 : Pd n b) : Pd (n + 1) (.list [a, b]) := ⟨by simp, fun x hx => by
  simp only [List.mem_cons, List.not_mem_nil, or_false] at hx
  rcases hx with rfl | rfl
  · exact h1
  · exact h2⟩
theorem pd4 {n : Nat} {a b c d : PyData} (h1 : Pd n a) (h2 : Pd n b) (h3 : Pd n c) (h4 : Pd n d) : Pd (n + 1) (.list [a, b, c, d]) := ⟨by simp, fun x hx => by
  simp only [List.mem_cons, List.not_mem_nil, or_false] at hx
  rcases hx with rfl | rfl | rfl | rfl
  · exact h1
  · exact h2
  · exact h3
  · exact h4⟩
abbrev qoO (t : Tr) : List OV := (qoD (qo [] t)).map OV.d
theorem frz_q (t : Tr) : frz (.n .lst (qoO t)) = some (.list (qoD (qo [] t))) := frz_lst _
theorem p_one_right : ∀ xs R, C_one_right xs R → xs.length = 1 ∧ t_one_right (C_qck 60) (C_slw 60) (lendC (C_same 190)) (C_qck 60) (C_slw 60) (C_p_quick_ones 60) (C_quick_ones 60) (retD [true] xs R) (beg 8 xs) := by
  rintro xs R ⟨t, rfl, o, hz, hd, q⟩
  refine ⟨rfl, ?_⟩
  unfold t_one_right
  have sl := sl_eq
  have o60 : Ok 60 t := o.mono (by decide)
  have os : Ok 60 (slow t) := ok_slow 30 t o
  have oq : Ok 30 (quick t) := (ok_quick 30 t o).1
  have oq60 : Ok 60 (quick t) := oq.mono (by decide)
  have zs : sz (slow t) ≤ 400 := by have := sz_slow_le 30 t o; omega
  have zq : sz (quick t) ≤ 120 := by have := (ok_quick 30 t o).2; omega
  have ss := slow_slow 30 t o
  have qq := quick_quick 30 t o
  have qs := quick_slow 30 t o zs
  have qe := qo_slow 30 t o []
  have f1 := fine_enc _ _ o
  have w20 : 100 * sz t - 50 ≤ 2 ^ 20 := by
    have : (2 : Nat) ^ 20 = 1048576 := by decide
    omega
  have fits : (enc t).shown.length ≤ sizeLine := PyData.shown_fits (B := 13) (by decide) (by decide) f1.le (Nat.le_trans f1.we w20)
  have hv : (enc t).showable = true ∧ (enc t).depth ≤ 60 ∧ (enc t).shown.length ≤ sizeLine := ⟨f1.sh, hd, fits⟩
  have ps : Pd 188 (enc (slow t)) := (pd_enc 60 _ os).mono (by decide)
  have pq : Pd 188 (enc (quick t)) := (pd_enc 60 _ oq60).mono (by decide)
  have pe : Pd 188 (.list []) := ⟨by simp, fun x hx => by simp at hx⟩
  refine aSeq_h ?_
  simp_arith []
  refine ⟨t, rfl, o60, zs, rfl, ?_⟩
  simp_arith []
  refine ⟨t, rfl, o60, by omega, rfl, ?_⟩
  simp_arith [oRepr]
  refine ⟨hv, hid_i (aSeq_h (aIfS_i ?_))⟩
  simp_arith []
  refine ⟨t, rfl, o60, zs, rfl, ?_⟩
  simp_arith []
  refine ⟨t, rfl, o60, by omega, rfl, ?_⟩
  simp_arith []
  refine ⟨by omega, by omega, use_same (n := 190) (d := .list [enc (slow t), enc (quick t)]) rfl rfl ((pd2 ps pq).mono (by decide)) ⟨rfl, ?_⟩⟩
  simp_arith [Bool.not_true]
  refine br_f rfl ?_
  simp_arith []
  refine hid_i (aSeq_h (aIfS_i ?_))
  simp_arith []
  refine ⟨slow t, rfl, os, by rw [ss]; exact zs, rfl, ?_⟩
  rw [ss]
  simp_arith []
  refine ⟨quick t, rfl, oq60, by omega, rfl, ?_⟩
  rw [qq]
  simp_arith []
  refine ⟨slow t, rfl, os, by omega, rfl, ?_⟩
  rw [qs]
  simp_arith []
  refine ⟨slow t, rfl, os, by omega, rfl, ?_⟩
  rw [qe]
  simp_arith []
  refine ⟨by omega, by omega, by omega, use_same (n := 190) (d := .list [enc (slow t), enc (quick t), enc (quick t), .list []]) rfl rfl ((pd4 ps pq pq pe).mono (by decide)) ⟨rfl, ?_⟩⟩
  simp_arith [Bool.not_true]
  refine br_f rfl ?_
  simp_arith []
  refine hid_i (aSeq_h ?_)
  simp_arith []
  refine ⟨by omega, t, [], rfl, o60, by omega, by decide, rfl, ?_⟩
  simp_arith []
  refine ⟨by omega, quick t, [], rfl, oq60, by omega, by decide, rfl, ?_⟩
  simp_arith []
  refine hid_i (aSeq_h ?_)
  simp_arith [show (List.range (2 : Int).toNat).map (fun (k : Nat) => PyData.int k) = [.int 0, .int 1] from rfl]
  have pa := pd_qo o60 (by decide) (by omega)
  have pb := pd_qo oq60 (by decide) (by omega)
  refine ⟨⟨by decide, by decide⟩, ?_⟩
  refine for_run [.int 0, .int 1] (fun dn e => ∃ (X4 X5 : OV) (v6 v7 : Option OV), e = [some (.d (enc t)), some (.d (enc (slow t))), some (.d (enc (quick t))), some (.d (.str (enc t).shown)), some X4, some X5, v6, v7] ∧ ((X4 = .n .lst (qoO t) ∧ X5 = .n .lst (qoO (quick t))) ∨ (X4 = .d (.list (qoD (qo [] t))) ∧ X5 = .d (.list (qoD (qo [] (quick t))))))) ?_ ?_ [.int 0, .int 1] [] _ rfl ⟨_, _, _, _, rfl, .inl ⟨rfl, rfl⟩⟩
  · rintro dn d rest e hd ⟨X4, X5, v6, v7, rfl, hX⟩ K hK
    have fin : ∀ e, (∃ v6 v7, e = [some (.d (enc t)), some (.d (enc (slow t))), some (.d (enc (quick t))), some (.d (.str (enc t).shown)), some (.d (.list (qoD (qo [] t)))), some (.d (.list (qoD (qo [] (quick t))))), v6, v7]) → K e := fun e ⟨v6, v7, he⟩ => hK e ⟨_, _, v6, v7, he, .inr ⟨rfl, rfl⟩⟩
    simp_arith []
    refine aSeq_h ?_
    simp_arith []
    refine ⟨t, rfl, o60, by omega, rfl, ?_⟩
    simp_arith []
    refine ⟨quick t, rfl, oq60, by omega, rfl, ?_⟩
    simp_arith []
    refine ⟨by omega, hid_i (aSeq_h (aIfS_i ?_))⟩
    have go : ∀ Y, frz (.n .lst [.n .lst (qoO t), .n .lst (qoO (quick t))]) = some Y → Y = .list [.list (qoD (qo [] t)), .list (qoD (qo [] (quick t)))] := fun Y h => by
      rw [frz_l, frzs_cons, frzs_cons, frz_q, frz_q, frzs_nil] at h
      cases h
      rfl
    have fr1 : frz (.n .lst [.n .lst (qoO t), .n .lst (qoO (quick t))]) = some (.list [.list (qoD (qo [] t)), .list (qoD (qo [] (quick t)))]) := by
      rw [frz_l, frzs_cons, frzs_cons, frz_q, frz_q, frzs_nil]
      rfl
    rcases hX with ⟨rfl, rfl⟩ | ⟨rfl, rfl⟩
    all_goals
      simp_arith []
      refine ⟨by omega, use_same (n := 190) (d := .list [.list (qoD (qo [] t)), .list (qoD (qo [] (quick t)))]) fr1 rfl ((pd2 pa pb).mono (by decide)) ⟨rfl, ?_⟩⟩
      simp_arith [Bool.not_true]
      refine br_f rfl ?_
      simp_arith []
      refine hid_i (aSeq_h ?_)
      have l1 := qo_len 60 [] t o60
      simp_arith []
      refine ⟨by simp [qoD]; omega, hid_i ?_⟩
      simp_arith [mReverse]
      exact fin _ ⟨_, _, rfl⟩
  · rintro e ⟨X4, X5, v6, v7, rfl, hX⟩
    simp_arith []
    refine hid_i ?_
    simp_arith [oRepr, sc2]
    refine ⟨hv, .inl trivial, ?_⟩
    rw [show PyData.eqv (.str (enc t).shown) (.str (enc t).shown) = true from eq_t _]
    exact q
end K45

/-! what is right -/
namespace K45
open PySem L2 Grd Ow PyProof.Rows
def C_right : AC := fun xs R => ∃ ys, xs = [.n .lst ys] ∧ Box 0 ys ∧ ∀ ys', R (.d (.bool true)) [.n .lst ys']
theorem ct8 : ct 8 ≤ 30000000 := by decide +kernel
theorem rm8 : rm 8 = 26 := by decide +kernel
theorem q24 : ∀ m, m ≤ 24 → q3 m ≤ 1151 := by decide +kernel
theorem nm_sg : ∀ x : Str, x ∈ (["ka", "kb", "k", "x"] : List Str) → Sg 2 x := fun x hx => by
  simp only [List.mem_cons, List.not_mem_nil, or_false] at hx
  rcases hx with rfl | rfl | rfl | rfl <;> exact sg_of (by decide +kernel)
theorem nm_sub : ∀ x : Str, x ∈ (["ka", "kb", "k"] : List Str) → x ∈ (["ka", "kb", "k", "x"] : List Str) := fun x hx => by
  simp only [List.mem_cons, List.not_mem_nil, or_false] at hx
  rcases hx with rfl | rfl | rfl <;> simp
/-- the rest of a turn, from where the names are drawn -/
def trnC : AS := (aSeq (aAsg (aTup (aCons (aIxN 1 (aC (.int 0))) (aCons (aC (.str "quick")) (aCons (aC (.str "x")) (aCons (aC (.str "")) (aCons (aCall (fixC fx3 (CA 8)) (aRs 0 (aRs 3 (aRv (aLst aNil) (aRs 1 (aRv (aC (.int 4)) aRn)))))) aNil)))))) (.n 5))
    (aSeq (aAsg (aTup (aCons (aC (.str "handle")) (aCons (aC (.str "deep")) (aCons (aName 4) (aCons (aTup (aCons (aC (.str "x")) (aCons (aTup (aCons (aC (.str "name")) (aCons (aC (.str "x")) aNil))) aNil))) (aCons (aTup (aCons (aName 5) aNil)) aNil)))))) (.n 4))
    (aSeq (aAsg (aIf (aTst (a2 (o2 fGt) (aCall C_take (aRs 0 (aRv (aC (.int 3)) aRn))) (aC (.int 0)))) (aCall (C_last_calls 10) (aRs 0 (aRs 4 aRn))) (aName 4)) (.n 4))
    (aIfS (aAnd (aTst (a2 (o2 fLt) (aCall (C_parts_in 30) (aRs 4 aRn)) (aC (.int 121)))) (aNot (aTst (aCall C_one_right (aRs 4 aRn))))) (aRet (aC (.bool false))) aPass))))
def trnB : AS := (aSeq (aAsg (aCall (fixC fx3 (CA 8)) (aRs 0 (aRs 3 (aRv (aLst aNil) (aRs 1 (aRv (a2 oAdd (aC (.int 1)) (aCall C_take (aRs 0 (aRv (aC (.int 24)) aRn)))) aRn)))))) (.n 4)) trnC)
theorem trnC_ok {ns ds : List Str} {ys2 : List OV} {one : Tr} {c k : Nat} {D : AD} {s2 v5 : Option OV} (hk : 100 + 2 * ct 8 + 43000 ≤ k) (hn : ∀ x ∈ ns, Sg 2 x) (ln : ns.length ≤ 3) (hds : ∀ x ∈ ds, Sg 6 x) (lds : ds.length = 3) (o1 : Ok 9 one) (zz1 : sz one ≤ 1151) (hb2 : Box (c + 1 + ct 8) ys2) (hc : c ≤ 1000000000)
    (q : ∀ ys' v3 v4 v5, Box (c + k) ys' → D.nx [some (.n .lst ys'), some (.d (sl ds)), s2, v3, v4, v5]) :
    trnC D [some (.n .lst ys2), some (.d (sl ds)), s2, some (.d (sl ns)), some (.d (enc one)), v5] := by
  have slE := sl_eq
  have c8 := ct8
  have pre : ∀ c r, c + ct 8 ≤ 100000000000 → r ≤ 26 → Pre 8 c ns [] ds r := fun c r hc hr => ⟨by rw [rm8]; exact hr, by omega, hn, by omega, by simp, by simp, hds, by omega, by omega, hc⟩
  unfold trnC
  refine aSeq_h ?_
  match ds, lds, hds, q, pre with
  | [d0, d1, d2], lds, hds, q, pre =>
    simp_arith []
    refine ⟨by omega, use_any (ns := ns) (hs := []) (ds := [d0, d1, d2]) _ 4 (frz_d _) rfl (frz_d _) rfl hb2 (pre _ _ (by omega) (by omega)) fun body ys3 ob z2 hb3 => ⟨rfl, ?_⟩⟩
    simp_arith []
    refine ⟨by omega, hid_i (aSeq_h ?_)⟩
    have zz2 := q24 4 (by omega)
    have okT : Ok 10 (.mk (.an "handle" "deep" "x" [⟨d0, "quick", "x", ""⟩]) [one, Tname "x", body]) := by
      refine ⟨⟨by decide +kernel, sg_of (by decide +kernel), sg_of (by decide +kernel), sg_of (by decide +kernel), fun c hc => ?_, ⟨by simp, fun c hc => ?_⟩, rfl⟩, fun c hc => ?_⟩
      · rw [List.mem_singleton.mp hc]
        exact ⟨(hds d0 (by simp)).mono (by decide), sgQuick, (sg_of (by decide +kernel) : Sg 7 ("x" : Str)), sgE⟩
      · rw [List.mem_singleton.mp hc]
        exact ⟨by show ("x" : Str) ≠ ""; decide +kernel, fun e => absurd e (by show ("quick" : Str) ≠ "many"; decide +kernel), fun _ => rfl, fun _ e => absurd e (by decide +kernel)⟩
      · simp only [List.mem_cons, List.not_mem_nil, or_false] at hc
        rcases hc with rfl | rfl | rfl
        · exact o1
        · exact ok_name (sg_of (by decide +kernel))
        · exact ob
    have szT : sz (.mk (.an "handle" "deep" "x" [⟨d0, "quick", "x", ""⟩]) [one, Tname "x", body]) ≤ 1190 := by
      have : q3 4 ≤ 31 := by decide +kernel
      rw [sz_mk, szs_cons, szs_cons, szs_cons, szs_nil, sz_name]
      omega
    have enT : enc (.mk (.an "handle" "deep" "x" [⟨d0, "quick", "x", ""⟩]) [one, Tname "x", body]) = .tuple [.str "handle", .str "deep", enc one, .tuple [.str "x", .tuple [.str "name", .str "x"]], .tuple [.tuple [.str d0, .str "quick", .str "x", .str "", enc body]]] := by
      rw [encA, enc_name]
      rfl
    have deT : (enc (.mk (.an "handle" "deep" "x" [⟨d0, "quick", "x", ""⟩]) [one, Tname "x", body])).depth ≤ 60 := Nat.le_trans (fine_enc 10 _ okT).de (by decide)
    simp_arith []
    refine ⟨by omega, by omega, by omega, by omega, hid_i (aSeq_h ?_)⟩
    rw [← enT]
    generalize Tr.mk (.an "handle" "deep" "x" [⟨d0, "quick", "x", ""⟩]) [one, Tname "x", body] = t at okT szT deT
    have fin : ∀ ys' t' v5, Box (c + k) ys' → Ok 30 t' → (enc t').depth ≤ 60 → (aIfS (aAnd (aTst (a2 (o2 fLt) (aCall (C_parts_in 30) (aRs 4 aRn)) (aC (.int 121)))) (aNot (aTst (aCall C_one_right (aRs 4 aRn))))) (aRet (aC (.bool false))) aPass) D
        [some (.n .lst ys'), some (.d (sl [d0, d1, d2])), s2, some (.d (sl ns)), some (.d (enc t')), v5] := fun ys' t' v5 hb' ok' de' => by
      refine aIfS_i ?_
      simp_arith []
      refine ⟨t', rfl, ok', rfl, ?_⟩
      simp_arith [fLt]
      by_cases e : ((sz t' : Nat) : Int) < 121
      · rw [if_pos e]
        refine ⟨t', rfl, ok', by omega, de', rfl, ?_⟩
        simp_arith [Bool.not_true]
        refine br_f rfl ?_
        simp_arith []
        exact q _ _ _ _ hb'
      · rw [if_neg e]
        refine br_f rfl ?_
        simp_arith []
        exact q _ _ _ _ hb'
    simp_arith []
    refine ⟨_, ys3, 3, rfl, hb3, by omega, by decide, by decide, fun r ys4 r0 r1 hb4 => ⟨rfl, ?_⟩⟩
    simp_arith [fGt]
    refine ifB (fun _ => ?_) (fun _ => ?_)
    · refine ⟨_, ys4, t, rfl, hb4, okT, by omega, fun t' ys5 ok' sz' de' hb5 => ⟨rfl, ?_⟩⟩
      simp_arith []
      exact hid_i (fin ys5 t' _ (hb5.mono (by omega)) ok' (by omega))
    · exact hid_i (fin ys4 t _ (hb4.mono (by omega)) (okT.mono (by decide)) deT)
theorem trn {ns ds : List Str} {X1 X3 : OV} {ys : List OV} {c k : Nat} {D : AD} {s2 v4 v5 : Option OV} (hk : 100 + 2 * ct 8 + 43000 ≤ k) (hn : ∀ x ∈ ns, Sg 2 x) (ln : ns.length ≤ 3) (f3 : frz X3 = some (sl ns)) (f1 : frz X1 = some (sl ds)) (hds : ∀ x ∈ ds, Sg 6 x) (lds : ds.length = 3) (hb : Box c ys) (hc : c ≤ 1000000000)
    (q : ∀ ys' v3 v4 v5, Box (c + k) ys' → D.nx [some (.n .lst ys'), some (.d (sl ds)), s2, v3, v4, v5]) :
    trnB D [some (.n .lst ys), some X1, s2, some X3, v4, v5] := by
  have slE := sl_eq
  have c8 := ct8
  have pre : ∀ c r, c + ct 8 ≤ 100000000000 → r ≤ 26 → Pre 8 c ns [] ds r := fun c r hc hr => ⟨by rw [rm8]; exact hr, by omega, hn, by omega, by simp, by simp, hds, by omega, by omega, hc⟩
  unfold trnB
  refine aSeq_h ?_
  rcases frz_cases f1 with rfl | ⟨z1, zs1, rfl⟩
  all_goals
    rcases frz_cases f3 with rfl | ⟨z3, zs3, rfl⟩
    all_goals
      simp_arith []
      refine ⟨by omega, c, ys, 24, rfl, hb, by omega, by decide, by decide, fun r ys1 r0 r1 hb1 => ⟨rfl, ?_⟩⟩
      obtain ⟨m, rfl⟩ := Int.eq_ofNat_of_zero_le r0
      simp_arith []
      refine use_any (ns := ns) (hs := []) (ds := ds) _ (1 + m) f3 rfl f1 (by omega) hb1 (pre _ _ (by omega) (by omega)) fun one ys2 o1 z1 hb2 => ⟨rfl, ?_⟩
      simp_arith []
      exact hid_i (trnC_ok hk hn ln hds lds o1 (Nat.le_trans z1 (q24 _ (by omega))) hb2 hc q)
theorem p_right : ∀ xs R, C_right xs R → xs.length = 1 ∧ t_right C_named C_take (fixC fx3 (CA 8)) (C_last_calls 10) C_one_right (C_parts_in 30) (retD [true] xs R) (beg 6 xs) := by
  rintro xs R ⟨ys, rfl, hb, q⟩
  refine ⟨rfl, ?_⟩
  have c8 := ct8
  have slE := sl_eq
  unfold t_right
  refine aSeq_h ?_
  simp_arith []
  refine ⟨0, 3, ys, rfl, hb, by decide, by decide, fun ss ys1 ls hss hb1 => ⟨rfl, ?_⟩⟩
  simp_arith [oSorted, sfz, strs_of]
  refine ⟨by omega, fun ds hds hsrt => ?_⟩
  have lds : ds.length = 3 := by rw [hds.length_eq, ls]
  have sds : ∀ s ∈ ds, Sg 6 s := fun s hs => hss s (hds.mem_iff.mp hs)
  refine hid_i (aSeq_h ?_)
  simp_arith []
  refine ⟨⟨by decide, by decide⟩, ?_⟩
  obtain ⟨kk, hkk, hk2⟩ : ∃ kk, 101 + 2 * ct 8 + 43000 ≤ kk ∧ kk ≤ 100000000 := ⟨100000000, by omega, Nat.le_refl _⟩
  refine for_run (rngD 5) (fun dn e => ∃ (ys' : List OV) (X1 : OV) (v2 v3 v4 v5 : Option OV), e = [some (.n .lst ys'), some X1, v2, v3, v4, v5] ∧ Box (0 + 7 * 3 + dn.length * kk) ys' ∧ frz X1 = some (K45.sl ds)) ?_ ?_ (rngD 5) [] _ rfl ⟨ys1, _, _, _, _, _, rfl, hb1.mono (by simp), frz_ss ds⟩
  · rintro dn d rest e hd ⟨ys2, X1, v2, v3, v4, v5, rfl, hb2, hX1⟩ K hK
    obtain ⟨rfl, hn⟩ := rng_at hd
    have dl : dn.length * kk ≤ 5 * kk := Nat.mul_le_mul_right _ (by omega)
    simp_arith []
    refine aSeq_h ?_
    simp_arith []
    refine ⟨by omega, by omega, by omega, by omega, _, ys2, 3, rfl, hb2, by omega, by decide, by decide, fun r ys3 r0 r1 hb3 => ⟨rfl, ?_⟩⟩
    have next : ∀ (ns : List Str) (X3 : OV), (∀ x ∈ ns, Sg 2 x) → ns.length ≤ 3 → frz X3 = some (K45.sl ns) → ∀ v2, trnB { nx := K, rt := (retD [true] [.n .lst ys] R).rt, bk := hid ((aRet (aC (.bool true))) (retD [true] [.n .lst ys] R)), ct := K } [some (.n .lst ys3), some X1, v2, some X3, v4, v5] := fun ns X3 h1 h2 h3 v2 => by
      refine trn (k := kk - 1) (by omega) h1 h2 h3 hX1 sds lds hb3 (by omega) fun ys' v3 v4 v5 hb' => hK _ ⟨ys', _, v2, v3, v4, v5, rfl, hb'.mono ?_, frz_d _⟩
      rw [List.length_append, List.length_singleton, Nat.add_mul, Nat.one_mul]
      omega
    have h3 : r = 0 ∨ r = 1 ∨ r = 2 := by omega
    rcases h3 with rfl | rfl | rfl
    · simp_arith []
      refine hid_i ?_
      exact next ["ka", "kb", "k"] _ (fun x hx => nm_sg x (nm_sub x hx)) (by simp) rfl _
    · simp_arith []
      refine hid_i ?_
      exact next ["ka"] _ (fun x hx => nm_sg x (by rw [List.mem_singleton.mp hx]; simp)) (by simp) rfl _
    · simp_arith []
      refine hid_i ?_
      exact next ["x"] _ (fun x hx => nm_sg x (by rw [List.mem_singleton.mp hx]; simp)) (by simp) rfl _
  · rintro e ⟨ys2, X1, v2, v3, v4, v5, rfl, hb2, hX1⟩
    simp_arith []
    refine hid_i ?_
    simp_arith []
    exact q _
end K45

namespace K45
open PySem L2 Grd Ow PyProof.Rows
def top (i : Nat) : Stmt := PySem.Challenge.pw_handledeeds_k45_answers_made_quick_and_s.main.body.getD i (.Pass ⟨0, 0, 0, 0⟩)
abbrev s_p_is_whole : Stmt := top 3
abbrev s_p_inner_of : Stmt := top 7
abbrev s_p_with_inner : Stmt := top 8
abbrev s_p_names_within : Stmt := top 9
abbrev s_p_places_of : Stmt := top 10
abbrev s_p_part_at : Stmt := top 11
abbrev s_p_names_free : Stmt := top 12
abbrev s_p_kept_names : Stmt := top 15
abbrev s_p_slow_clause : Stmt := top 16
abbrev s_p_is_last_call : Stmt := top 17
abbrev s_p_quick_clause : Stmt := top 18
abbrev s_p_slowed : Stmt := top 19
abbrev s_p_quickened : Stmt := top 20
abbrev s_p_quick_ones : Stmt := top 21
abbrev s_dip : Stmt := top 23
abbrev s_take : Stmt := top 24
abbrev s_folded : Stmt := top 25
abbrev s_one_of : Stmt := top 26
abbrev s_strewn : Stmt := top 27
abbrev s_keywords : Stmt := top 28
abbrev s_named : Stmt := top 29
abbrev s_any : Stmt := top 30
abbrev s_any_answerer : Stmt := top 31
abbrev s_same : Stmt := top 32
abbrev s_inner : Stmt := top 33
abbrev s_rebuilt : Stmt := top 34
abbrev s_bound : Stmt := top 35
abbrev s_free : Stmt := top 36
abbrev s_slow_row : Stmt := top 37
abbrev s_quick_row : Stmt := top 38
abbrev s_slowed : Stmt := top 39
abbrev s_quickened : Stmt := top 40
abbrev s_quick_ones : Stmt := top 41
abbrev s_last_calls : Stmt := top 42
abbrev s_parts_in : Stmt := top 43
abbrev s_one_right : Stmt := top 44
abbrev s_right : Stmt := top 45
abbrev s_law : Stmt := top 46
theorem scp_is_whole : FnScope ["thing", "least", "most"] ["thing", "least", "most"] (defScope s_p_is_whole) := ⟨rfl, rfl, rfl, by decide +kernel, rfl, by decide +kernel, by decide +kernel⟩
theorem scp_inner_of : FnScope ["term", "word", "rest", "clause", "mark", "one"] ["term"] (defScope s_p_inner_of) := ⟨rfl, rfl, rfl, by decide +kernel, rfl, by decide +kernel, by decide +kernel⟩
theorem scp_with_inner : FnScope ["term", "some", "word", "rest", "first", "told", "others", "clauses", "left", "clause", "one", "mark"] ["term", "some"] (defScope s_p_with_inner) := ⟨rfl, rfl, rfl, by decide +kernel, rfl, by decide +kernel, by decide +kernel⟩
theorem scp_names_within : FnScope ["term", "word", "rest", "clause", "one"] ["term"] (defScope s_p_names_within) := ⟨rfl, rfl, rfl, by decide +kernel, rfl, by decide +kernel, by decide +kernel⟩
theorem scp_places_of : FnScope ["term", "found", "number", "one", "place"] ["term"] (defScope s_p_places_of) := ⟨rfl, rfl, rfl, by decide +kernel, rfl, by decide +kernel, by decide +kernel⟩
theorem scp_part_at : FnScope ["term", "place", "found", "number", "some"] ["term", "place"] (defScope s_p_part_at) := ⟨rfl, rfl, rfl, by decide +kernel, rfl, by decide +kernel, by decide +kernel⟩
theorem scp_names_free : FnScope ["term", "own", "within", "further", "one", "names", "name"] ["term"] (defScope s_p_names_free) := ⟨rfl, rfl, rfl, by decide +kernel, rfl, by decide +kernel, by decide +kernel⟩
theorem scp_kept_names : FnScope ["one", "other"] [] (defScope s_p_kept_names) := ⟨rfl, rfl, rfl, by decide +kernel, rfl, by decide +kernel, by decide +kernel⟩
theorem scp_slow_clause : FnScope ["clause", "deed", "how", "name", "kept", "answer", "taken", "called", "one"] ["clause"] (defScope s_p_slow_clause) := ⟨rfl, rfl, rfl, by decide +kernel, rfl, by decide +kernel, by decide +kernel⟩
theorem scp_is_last_call : FnScope ["clause", "deed", "how", "name", "kept", "answer"] ["clause"] (defScope s_p_is_last_call) := ⟨rfl, rfl, rfl, by decide +kernel, rfl, by decide +kernel, by decide +kernel⟩
theorem scp_quick_clause : FnScope ["clause", "deed", "how", "name", "kept", "answer"] ["clause"] (defScope s_p_quick_clause) := ⟨rfl, rfl, rfl, by decide +kernel, rfl, by decide +kernel, by decide +kernel⟩
theorem scp_slowed : FnScope ["term", "found", "one", "clause"] ["term"] (defScope s_p_slowed) := ⟨rfl, rfl, rfl, by decide +kernel, rfl, by decide +kernel, by decide +kernel⟩
theorem scp_quickened : FnScope ["term", "found", "one", "clause"] ["term"] (defScope s_p_quickened) := ⟨rfl, rfl, rfl, by decide +kernel, rfl, by decide +kernel, by decide +kernel⟩
theorem scp_quick_ones : FnScope ["term", "found", "place", "one", "clauses", "clause"] ["term"] (defScope s_p_quick_ones) := ⟨rfl, rfl, rfl, by decide +kernel, rfl, by decide +kernel, by decide +kernel⟩
theorem scdip : FnScope ["_law_script", "_law_k", "_law_cell"] ["_law_script", "_law_k"] (defScope s_dip) := ⟨rfl, rfl, rfl, by decide +kernel, rfl, by decide +kernel, by decide +kernel⟩
theorem sctake : FnScope ["_law_box", "_law_many", "_law_found", "_law_once", "_law_twice"] ["_law_box", "_law_many"] (defScope s_take) := ⟨rfl, rfl, rfl, by decide +kernel, rfl, by decide +kernel, by decide +kernel⟩
theorem scfolded : FnScope ["_law_script", "_law_size", "_law_cells", "_law_k", "_law_cell"] ["_law_script", "_law_size"] (defScope s_folded) := ⟨rfl, rfl, rfl, by decide +kernel, rfl, by decide +kernel, by decide +kernel⟩
theorem scone_of : FnScope ["_law_box", "_law_some"] ["_law_box", "_law_some"] (defScope s_one_of) := ⟨rfl, rfl, rfl, by decide +kernel, rfl, by decide +kernel, by decide +kernel⟩
theorem scstrewn : FnScope ["_law_box", "_law_some", "_law_found", "_law_one"] ["_law_box", "_law_some"] (defScope s_strewn) := ⟨rfl, rfl, rfl, by decide +kernel, rfl, by decide +kernel, by decide +kernel⟩
theorem sckeywords : FnScope ["_law_found"] [] (defScope s_keywords) := ⟨rfl, rfl, rfl, by decide +kernel, rfl, by decide +kernel, by decide +kernel⟩
theorem scnamed : FnScope ["_law_box", "_law_many", "_law_letters", "_law_found", "_law_k", "_law_one", "_law_turn"] ["_law_box", "_law_many"] (defScope s_named) := ⟨rfl, rfl, rfl, by decide +kernel, rfl, by decide +kernel, by decide +kernel⟩
theorem scany : FnScope ["_law_box", "_law_names", "_law_hs", "_law_deeds", "_law_room", "_law_way", "_law_some", "_law_name", "_law_other", "_law_part", "_law_deed", "_law_one", "_law_two", "_law_word", "_law_h"] ["_law_box", "_law_names", "_law_hs", "_law_deeds", "_law_room"] (defScope s_any) := ⟨rfl, rfl, rfl, by decide +kernel, rfl, by decide +kernel, by decide +kernel⟩
theorem scany_answerer : FnScope ["_law_box", "_law_names", "_law_hs", "_law_deeds", "_law_room", "_law_way", "_law_name", "_law_part", "_law_inner_here", "_law_clauses", "_law_made", "_law_told", "_law_deed", "_law_how", "_law_around"] ["_law_box", "_law_names", "_law_hs", "_law_deeds", "_law_room"] (defScope s_any_answerer) := ⟨rfl, rfl, rfl, by decide +kernel, rfl, by decide +kernel, by decide +kernel⟩
theorem scsame : FnScope ["_law_found", "_law_due", "_law_one", "_law_other"] ["_law_found", "_law_due"] (defScope s_same) := ⟨rfl, rfl, rfl, by decide +kernel, rfl, by decide +kernel, by decide +kernel⟩
theorem scinner : FnScope ["_law_program", "_law_row", "_law_one"] ["_law_program"] (defScope s_inner) := ⟨rfl, rfl, rfl, by decide +kernel, rfl, by decide +kernel, by decide +kernel⟩
theorem screbuilt : FnScope ["_law_program", "_law_some", "_law_rows", "_law_left", "_law_row", "_law_one"] ["_law_program", "_law_some"] (defScope s_rebuilt) := ⟨rfl, rfl, rfl, by decide +kernel, rfl, by decide +kernel, by decide +kernel⟩
theorem scbound : FnScope ["_law_program", "_law_word", "_law_row", "_law_one"] ["_law_program"] (defScope s_bound) := ⟨rfl, rfl, rfl, by decide +kernel, rfl, by decide +kernel, by decide +kernel⟩
theorem scfree : FnScope ["_law_program", "_law_found", "_law_one", "_law_names", "_law_name"] ["_law_program"] (defScope s_free) := ⟨rfl, rfl, rfl, by decide +kernel, rfl, by decide +kernel, by decide +kernel⟩
theorem scslow_row : FnScope ["_law_row", "_law_letters", "_law_taken", "_law_some", "_law_one", "_law_kept", "_law_other"] ["_law_row"] (defScope s_slow_row) := ⟨rfl, rfl, rfl, by decide +kernel, rfl, by decide +kernel, by decide +kernel⟩
theorem scquick_row : FnScope ["_law_row"] ["_law_row"] (defScope s_quick_row) := ⟨rfl, rfl, rfl, by decide +kernel, rfl, by decide +kernel, by decide +kernel⟩
theorem scslowed : FnScope ["_law_program", "_law_found", "_law_one", "_law_row"] ["_law_program"] (defScope s_slowed) := ⟨rfl, rfl, rfl, by decide +kernel, rfl, by decide +kernel, by decide +kernel⟩
theorem scquickened : FnScope ["_law_program", "_law_found", "_law_one", "_law_row"] ["_law_program"] (defScope s_quickened) := ⟨rfl, rfl, rfl, by decide +kernel, rfl, by decide +kernel, by decide +kernel⟩
theorem scquick_ones : FnScope ["_law_program", "_law_place", "_law_found", "_law_number", "_law_one", "_law_row"] ["_law_program", "_law_place"] (defScope s_quick_ones) := ⟨rfl, rfl, rfl, by decide +kernel, rfl, by decide +kernel, by decide +kernel⟩
theorem sclast_calls : FnScope ["_law_box", "_law_program", "_law_found", "_law_rows", "_law_deed", "_law_how", "_law_name", "_law_kept", "_law_rest", "_law_way", "_law_own", "_law_some", "_law_one"] ["_law_box", "_law_program"] (defScope s_last_calls) := ⟨rfl, rfl, rfl, by decide +kernel, rfl, by decide +kernel, by decide +kernel⟩
theorem scparts_in : FnScope ["_law_program", "_law_one"] ["_law_program"] (defScope s_parts_in) := ⟨rfl, rfl, rfl, by decide +kernel, rfl, by decide +kernel, by decide +kernel⟩
theorem scone_right : FnScope ["_law_one", "_law_slow", "_law_swift", "_law_kept", "_law_some", "_law_others", "_law_turn", "_law_told"] ["_law_one"] (defScope s_one_right) := ⟨rfl, rfl, rfl, by decide +kernel, rfl, by decide +kernel, by decide +kernel⟩
theorem scright : FnScope ["_law_box", "_law_deeds", "_law_turn", "_law_names", "_law_one", "_law_row"] ["_law_box"] (defScope s_right) := ⟨rfl, rfl, rfl, by decide +kernel, rfl, by decide +kernel, by decide +kernel⟩
theorem sclaw : FnScope ["_law_script", "_law_cells", "_law_k"] ["_law_script"] (defScope s_law) := ⟨rfl, rfl, rfl, by decide +kernel, rfl, by decide +kernel, by decide +kernel⟩
structure Txt (w : World) (K : PySem.W.Frag) (mg : Str → Option Value) where
  a_p_is_whole : Addr
  d_p_is_whole : FuncData
  F_p_is_whole : Fun K "is_whole" "is_whole" s_p_is_whole a_p_is_whole d_p_is_whole
  b_p_is_whole : Binds K d_p_is_whole ["thing", "least", "most"] []
  g_p_is_whole : mg "is_whole" = some (.ref a_p_is_whole)
  a_p_inner_of : Addr
  d_p_inner_of : FuncData
  F_p_inner_of : Fun K "inner_of" "inner_of" s_p_inner_of a_p_inner_of d_p_inner_of
  b_p_inner_of : Binds K d_p_inner_of ["term"] []
  g_p_inner_of : mg "inner_of" = some (.ref a_p_inner_of)
  a_p_with_inner : Addr
  d_p_with_inner : FuncData
  F_p_with_inner : Fun K "with_inner" "with_inner" s_p_with_inner a_p_with_inner d_p_with_inner
  b_p_with_inner : Binds K d_p_with_inner ["term", "some"] []
  g_p_with_inner : mg "with_inner" = some (.ref a_p_with_inner)
  a_p_names_within : Addr
  d_p_names_within : FuncData
  F_p_names_within : Fun K "names_within" "names_within" s_p_names_within a_p_names_within d_p_names_within
  b_p_names_within : Binds K d_p_names_within ["term"] []
  g_p_names_within : mg "names_within" = some (.ref a_p_names_within)
  a_p_places_of : Addr
  d_p_places_of : FuncData
  F_p_places_of : Fun K "places_of" "places_of" s_p_places_of a_p_places_of d_p_places_of
  b_p_places_of : Binds K d_p_places_of ["term"] []
  g_p_places_of : mg "places_of" = some (.ref a_p_places_of)
  a_p_part_at : Addr
  d_p_part_at : FuncData
  F_p_part_at : Fun K "part_at" "part_at" s_p_part_at a_p_part_at d_p_part_at
  b_p_part_at : Binds K d_p_part_at ["term", "place"] []
  g_p_part_at : mg "part_at" = some (.ref a_p_part_at)
  a_p_names_free : Addr
  d_p_names_free : FuncData
  F_p_names_free : Fun K "names_free" "names_free" s_p_names_free a_p_names_free d_p_names_free
  b_p_names_free : Binds K d_p_names_free ["term"] []
  g_p_names_free : mg "names_free" = some (.ref a_p_names_free)
  a_p_kept_names : Addr
  d_p_kept_names : FuncData
  F_p_kept_names : Fun K "kept_names" "kept_names" s_p_kept_names a_p_kept_names d_p_kept_names
  b_p_kept_names : Binds K d_p_kept_names [] []
  g_p_kept_names : mg "kept_names" = some (.ref a_p_kept_names)
  a_p_slow_clause : Addr
  d_p_slow_clause : FuncData
  F_p_slow_clause : Fun K "slow_clause" "slow_clause" s_p_slow_clause a_p_slow_clause d_p_slow_clause
  b_p_slow_clause : Binds K d_p_slow_clause ["clause"] []
  g_p_slow_clause : mg "slow_clause" = some (.ref a_p_slow_clause)
  a_p_is_last_call : Addr
  d_p_is_last_call : FuncData
  F_p_is_last_call : Fun K "is_last_call" "is_last_call" s_p_is_last_call a_p_is_last_call d_p_is_last_call
  b_p_is_last_call : Binds K d_p_is_last_call ["clause"] []
  g_p_is_last_call : mg "is_last_call" = some (.ref a_p_is_last_call)
  a_p_quick_clause : Addr
  d_p_quick_clause : FuncData
  F_p_quick_clause : Fun K "quick_clause" "quick_clause" s_p_quick_clause a_p_quick_clause d_p_quick_clause
  b_p_quick_clause : Binds K d_p_quick_clause ["clause"] []
  g_p_quick_clause : mg "quick_clause" = some (.ref a_p_quick_clause)
  a_p_slowed : Addr
  d_p_slowed : FuncData
  F_p_slowed : Fun K "slowed" "slowed" s_p_slowed a_p_slowed d_p_slowed
  b_p_slowed : Binds K d_p_slowed ["term"] []
  g_p_slowed : mg "slowed" = some (.ref a_p_slowed)
  a_p_quickened : Addr
  d_p_quickened : FuncData
  F_p_quickened : Fun K "quickened" "quickened" s_p_quickened a_p_quickened d_p_quickened
  b_p_quickened : Binds K d_p_quickened ["term"] []
  g_p_quickened : mg "quickened" = some (.ref a_p_quickened)
  a_p_quick_ones : Addr
  d_p_quick_ones : FuncData
  F_p_quick_ones : Fun K "quick_ones" "quick_ones" s_p_quick_ones a_p_quick_ones d_p_quick_ones
  b_p_quick_ones : Binds K d_p_quick_ones ["term"] []
  g_p_quick_ones : mg "quick_ones" = some (.ref a_p_quick_ones)
  a_dip : Addr
  d_dip : FuncData
  F_dip : Fun K "_law_dip" "_law_dip" s_dip a_dip d_dip
  b_dip : Binds K d_dip ["_law_script", "_law_k"] []
  g_dip : mg "_law_dip" = some (.ref a_dip)
  a_take : Addr
  d_take : FuncData
  F_take : Fun K "_law_take" "_law_take" s_take a_take d_take
  b_take : Binds K d_take ["_law_box", "_law_many"] []
  g_take : mg "_law_take" = some (.ref a_take)
  a_folded : Addr
  d_folded : FuncData
  F_folded : Fun K "_law_folded" "_law_folded" s_folded a_folded d_folded
  b_folded : Binds K d_folded ["_law_script", "_law_size"] []
  g_folded : mg "_law_folded" = some (.ref a_folded)
  a_one_of : Addr
  d_one_of : FuncData
  F_one_of : Fun K "_law_one_of" "_law_one_of" s_one_of a_one_of d_one_of
  b_one_of : Binds K d_one_of ["_law_box", "_law_some"] []
  g_one_of : mg "_law_one_of" = some (.ref a_one_of)
  a_strewn : Addr
  d_strewn : FuncData
  F_strewn : Fun K "_law_strewn" "_law_strewn" s_strewn a_strewn d_strewn
  b_strewn : Binds K d_strewn ["_law_box", "_law_some"] []
  g_strewn : mg "_law_strewn" = some (.ref a_strewn)
  a_keywords : Addr
  d_keywords : FuncData
  F_keywords : Fun K "_law_keywords" "_law_keywords" s_keywords a_keywords d_keywords
  b_keywords : Binds K d_keywords [] []
  g_keywords : mg "_law_keywords" = some (.ref a_keywords)
  a_named : Addr
  d_named : FuncData
  F_named : Fun K "_law_named" "_law_named" s_named a_named d_named
  b_named : Binds K d_named ["_law_box", "_law_many"] []
  g_named : mg "_law_named" = some (.ref a_named)
  a_any : Addr
  d_any : FuncData
  F_any : Fun K "_law_any" "_law_any" s_any a_any d_any
  b_any : Binds K d_any ["_law_box", "_law_names", "_law_hs", "_law_deeds", "_law_room"] []
  g_any : mg "_law_any" = some (.ref a_any)
  a_any_answerer : Addr
  d_any_answerer : FuncData
  F_any_answerer : Fun K "_law_any_answerer" "_law_any_answerer" s_any_answerer a_any_answerer d_any_answerer
  b_any_answerer : Binds K d_any_answerer ["_law_box", "_law_names", "_law_hs", "_law_deeds", "_law_room"] []
  g_any_answerer : mg "_law_any_answerer" = some (.ref a_any_answerer)
  a_same : Addr
  d_same : FuncData
  F_same : Fun K "_law_same" "_law_same" s_same a_same d_same
  b_same : Binds K d_same ["_law_found", "_law_due"] []
  g_same : mg "_law_same" = some (.ref a_same)
  a_inner : Addr
  d_inner : FuncData
  F_inner : Fun K "_law_inner" "_law_inner" s_inner a_inner d_inner
  b_inner : Binds K d_inner ["_law_program"] []
  g_inner : mg "_law_inner" = some (.ref a_inner)
  a_rebuilt : Addr
  d_rebuilt : FuncData
  F_rebuilt : Fun K "_law_rebuilt" "_law_rebuilt" s_rebuilt a_rebuilt d_rebuilt
  b_rebuilt : Binds K d_rebuilt ["_law_program", "_law_some"] []
  g_rebuilt : mg "_law_rebuilt" = some (.ref a_rebuilt)
  a_bound : Addr
  d_bound : FuncData
  F_bound : Fun K "_law_bound" "_law_bound" s_bound a_bound d_bound
  b_bound : Binds K d_bound ["_law_program"] []
  g_bound : mg "_law_bound" = some (.ref a_bound)
  a_free : Addr
  d_free : FuncData
  F_free : Fun K "_law_free" "_law_free" s_free a_free d_free
  b_free : Binds K d_free ["_law_program"] []
  g_free : mg "_law_free" = some (.ref a_free)
  a_slow_row : Addr
  d_slow_row : FuncData
  F_slow_row : Fun K "_law_slow_row" "_law_slow_row" s_slow_row a_slow_row d_slow_row
  b_slow_row : Binds K d_slow_row ["_law_row"] []
  g_slow_row : mg "_law_slow_row" = some (.ref a_slow_row)
  a_quick_row : Addr
  d_quick_row : FuncData
  F_quick_row : Fun K "_law_quick_row" "_law_quick_row" s_quick_row a_quick_row d_quick_row
  b_quick_row : Binds K d_quick_row ["_law_row"] []
  g_quick_row : mg "_law_quick_row" = some (.ref a_quick_row)
  a_slowed : Addr
  d_slowed : FuncData
  F_slowed : Fun K "_law_slowed" "_law_slowed" s_slowed a_slowed d_slowed
  b_slowed : Binds K d_slowed ["_law_program"] []
  g_slowed : mg "_law_slowed" = some (.ref a_slowed)
  a_quickened : Addr
  d_quickened : FuncData
  F_quickened : Fun K "_law_quickened" "_law_quickened" s_quickened a_quickened d_quickened
  b_quickened : Binds K d_quickened ["_law_program"] []
  g_quickened : mg "_law_quickened" = some (.ref a_quickened)
  a_quick_ones : Addr
  d_quick_ones : FuncData
  F_quick_ones : Fun K "_law_quick_ones" "_law_quick_ones" s_quick_ones a_quick_ones d_quick_ones
  b_quick_ones : Binds K d_quick_ones ["_law_program", "_law_place"] []
  g_quick_ones : mg "_law_quick_ones" = some (.ref a_quick_ones)
  a_last_calls : Addr
  d_last_calls : FuncData
  F_last_calls : Fun K "_law_last_calls" "_law_last_calls" s_last_calls a_last_calls d_last_calls
  b_last_calls : Binds K d_last_calls ["_law_box", "_law_program"] []
  g_last_calls : mg "_law_last_calls" = some (.ref a_last_calls)
  a_parts_in : Addr
  d_parts_in : FuncData
  F_parts_in : Fun K "_law_parts_in" "_law_parts_in" s_parts_in a_parts_in d_parts_in
  b_parts_in : Binds K d_parts_in ["_law_program"] []
  g_parts_in : mg "_law_parts_in" = some (.ref a_parts_in)
  a_one_right : Addr
  d_one_right : FuncData
  F_one_right : Fun K "_law_one_right" "_law_one_right" s_one_right a_one_right d_one_right
  b_one_right : Binds K d_one_right ["_law_one"] []
  g_one_right : mg "_law_one_right" = some (.ref a_one_right)
  a_right : Addr
  d_right : FuncData
  F_right : Fun K "_law_right" "_law_right" s_right a_right d_right
  b_right : Binds K d_right ["_law_box"] []
  g_right : mg "_law_right" = some (.ref a_right)
  a_law : Addr
  d_law : FuncData
  F_law : Fun K "law" "law" s_law a_law d_law
  b_law : Binds K d_law ["_law_script"] []
  g_law : mg "law" = some (.ref a_law)
  n_abs : mg "abs" = none
  n_all : mg "all" = none
  n_bool : mg "bool" = none
  n_enumerate : mg "enumerate" = none
  n_int : mg "int" = none
  n_isinstance : mg "isinstance" = none
  n_len : mg "len" = none
  n_list : mg "list" = none
  n_max : mg "max" = none
  n_min : mg "min" = none
  n_range : mg "range" = none
  n_repr : mg "repr" = none
  n_set : mg "set" = none
  n_sorted : mg "sorted" = none
  n_str : mg "str" = none
  n_sum : mg "sum" = none
  n_tuple : mg "tuple" = none
  n_zip : mg "zip" = none
  a_ANSWERERS : Addr
  g_ANSWERERS : mg "ANSWERERS" = some (.ref a_ANSWERERS)
  s_ANSWERERS : ∀ H : Hp, SqT K H a_ANSWERERS ((["handle", "under"] : List Str).map V.str)
  a_SHAPES : Addr
  g_SHAPES : mg "SHAPES" = some (.ref a_SHAPES)
  k_SHAPES : KdT K w a_SHAPES k_SHAPES
  u_LETTERS : Value
  g_LETTERS : mg "LETTERS" = some u_LETTERS
  r_LETTERS : RelV (.str "abcdefghijklmnopqrstuvwxyz") u_LETTERS
end K45

namespace K45
open PySem L2 Grd Ow PyProof.Rows
section
variable {P : Program} {w : World} {K : PySem.W.Frag} {mg : Str → Option Value} {base : Heap}
theorem k_p_is_whole (T : Txt w K mg) {C : AC} (k : Nat)
    (plain : ∀ xs R, C xs R → xs.length = 3 ∧ t_p_is_whole (retD [true, true, true] xs R) (beg 3 xs)) : Fn P w K mg base CX0 (k + 1) T.a_p_is_whole T.d_p_is_whole ["thing", "least", "most"] (spA K C) :=
  mkA T.F_p_is_whole scp_is_whole [true, true, true] (fun cdv A outer s H E vs gd hr =>
    (ss_one (ss_ret (se_and (se_isi (se_name (pv 0)) .int (pe_bltn (v := .ty "int") (by rfl) T.n_int (by decide +kernel) rfl) (by rfl) T.n_isinstance (by decide +kernel)) (se_and (se_not (se_isi (se_name (pv 0)) .bool (pe_bltn (v := .ty "bool") (by rfl) T.n_bool (by decide +kernel) rfl) (by rfl) T.n_isinstance (by decide +kernel))) (se_one (se_chain d_le d_le (se_name (pv 1)) (se_name (pv 0)) (se_name (pv 2))))))))) plain
theorem k_p_inner_of (T : Txt w K mg) {C : AC} (k : Nat)
    (plain : ∀ xs R, C xs R → xs.length = 1 ∧ t_p_inner_of (retD [true] xs R) (beg 6 xs)) : Fn P w K mg base CX0 (k + 1) T.a_p_inner_of T.d_p_inner_of ["term"] (spA K C) :=
  mkA T.F_p_inner_of scp_inner_of [true] (fun cdv A outer s H E vs gd hr =>
    (ss_cons (ss_asg (se_name (pv 0)) (pg_starA (n := 1) rfl (pgs_cons (pg_name (i := 1) scp_inner_of.nd rfl (Or.inl rfl)) (pgs_star (pg_name (i := 2) scp_inner_of.nd rfl (Or.inl rfl))))) (gt_star (ts := [(.n 1)]) (gts_cons (gt_name 1) (gts_cons (gt_name 2) gts_nil))) (nps (by simp [Tg.slots, slotss])))
    (ss_cons (ss_if (st_cmp (c_in (un hr)) (se_name (pv 1)) (se_glob (v := .ref T.a_ANSWERERS) rfl T.g_ANSWERERS rfl (fun H => dt_strs (T.s_ANSWERERS H))) (by rfl)) (ss_one (ss_ret (se_add (se_lst (sa_cons (se_ixN (pv 2) se_int (fun _ _ => rfl)) (sa_cons (se_ix (se_ixN (pv 2) se_int (fun _ _ => rfl)) se_int (fun _ _ => rfl)) sa_nil))) (se_lc (own := [("clause", 3)]) (by rfl) scp_inner_of.nd (si_over (se_ixN (pv 2) se_int (fun _ _ => rfl))) (blkOk_by (own := [("clause", 3)]) (N := ["term", "word", "rest", "clause", "mark", "one"]) (sc := defScope s_p_inner_of) (by decide +kernel)) (gt_name 3) (by simp [Tg.slots, slotss]) (fun _ _ _ _ _ => (pg_name (i := 3) scp_inner_of.nd rfl (Or.inl rfl))) (fun _ _ _ _ _ => sts_nil) (fun _ _ _ _ _ => (se_ixN (pv 3) se_int (fun _ _ => rfl))))))) ss_nil)
    (ss_one (ss_ret (se_lc (own := [("mark", 4), ("one", 5)]) (by rfl) scp_inner_of.nd (si_zip2 (by rfl) T.n_zip (se_kd T.k_SHAPES rfl T.g_SHAPES (se_name (pv 1)) (fun _ _ => rfl)) (se_name (pv 2))) (blkOk_by (own := [("mark", 4), ("one", 5)]) (N := ["term", "word", "rest", "clause", "mark", "one"]) (sc := defScope s_p_inner_of) (by decide +kernel)) (gt_tup (gts_cons (gt_name 4) (gts_cons (gt_name 5) gts_nil))) (by simp [Tg.slots, slotss]) (fun _ _ _ _ _ => (pg_tupA rfl (pgs_cons (pg_name (i := 4) scp_inner_of.nd rfl (Or.inl rfl)) (pgs_cons (pg_name (i := 5) scp_inner_of.nd rfl (Or.inl rfl)) pgs_nil)))) (fun _ _ _ _ _ => (sts_one (st_cmp (c_eq hr.units) (se_name (pv 4)) se_str (nomark _)))) (fun _ _ _ _ _ => (se_name (pv 5))))))))) plain
theorem k_p_with_inner (T : Txt w K mg) {C : AC} (k : Nat)
    (plain : ∀ xs R, C xs R → xs.length = 2 ∧ t_p_with_inner (retD [true, true] xs R) (beg 12 xs)) : Fn P w K mg base CX0 (k + 1) T.a_p_with_inner T.d_p_with_inner ["term", "some"] (spA K C) :=
  mkA T.F_p_with_inner scp_with_inner [true, true] (fun cdv A outer s H E vs gd hr =>
    (ss_cons (ss_asg (se_name (pv 0)) (pg_starA (n := 1) rfl (pgs_cons (pg_name (i := 2) scp_with_inner.nd rfl (Or.inl rfl)) (pgs_star (pg_name (i := 3) scp_with_inner.nd rfl (Or.inl rfl))))) (gt_star (ts := [(.n 2)]) (gts_cons (gt_name 2) (gts_cons (gt_name 3) gts_nil))) (nps (by simp [Tg.slots, slotss])))
    (ss_cons (ss_if (st_cmp (c_in (un hr)) (se_name (pv 2)) (se_glob (v := .ref T.a_ANSWERERS) rfl T.g_ANSWERERS rfl (fun H => dt_strs (T.s_ANSWERERS H))) (by rfl)) (ss_cons (ss_asg (se_name (pv 1)) (pg_starA (n := 2) rfl (pgs_cons (pg_name (i := 4) scp_with_inner.nd rfl (Or.inl rfl)) (pgs_cons (pg_name (i := 5) scp_with_inner.nd rfl (Or.inl rfl)) (pgs_star (pg_name (i := 6) scp_with_inner.nd rfl (Or.inl rfl)))))) (gt_star (ts := [(.n 4), (.n 5)]) (gts_cons (gt_name 4) (gts_cons (gt_name 5) (gts_cons (gt_name 6) gts_nil)))) (nps (by simp [Tg.slots, slotss])))
    (ss_cons (ss_set (i := 7) scp_with_inner.nd rfl (Or.inl rfl) (se_callTy call_tuple_of opa_tuple (by rfl) T.n_tuple (by decide +kernel) (sa_cons (se_lc (own := [("clause", 9), ("one", 10)]) (by rfl) scp_with_inner.nd (si_zip2 (by rfl) T.n_zip (se_ixN (pv 3) se_int (fun _ _ => rfl)) (se_name (pv 6))) (blkOk_by (own := [("clause", 9), ("one", 10)]) (N := ["term", "some", "word", "rest", "first", "told", "others", "clauses", "left", "clause", "one", "mark"]) (sc := defScope s_p_with_inner) (by decide +kernel)) (gt_tup (gts_cons (gt_name 9) (gts_cons (gt_name 10) gts_nil))) (by simp [Tg.slots, slotss]) (fun _ _ _ _ _ => (pg_tupA rfl (pgs_cons (pg_name (i := 9) scp_with_inner.nd rfl (Or.inl rfl)) (pgs_cons (pg_name (i := 10) scp_with_inner.nd rfl (Or.inl rfl)) pgs_nil)))) (fun _ _ _ _ _ => sts_nil) (fun _ _ _ _ _ => (se_add (se_sl (se_name (pv 9)) so_none (so_some se_int)) (se_tup (sa_cons (se_name (pv 10)) sa_nil))))) sa_nil)) (np1 rfl))
    (ss_one (ss_ret (se_tup (sa_cons (se_name (pv 2)) (sa_cons (se_ixN (pv 3) se_int (fun _ _ => rfl)) (sa_cons (se_name (pv 4)) (sa_cons (se_tup (sa_cons (se_ix (se_ixN (pv 3) se_int (fun _ _ => rfl)) se_int (fun _ _ => rfl)) (sa_cons (se_name (pv 5)) sa_nil))) (sa_cons (se_name (pv 7)) sa_nil)))))))))) ss_nil)
    (ss_cons (ss_set (i := 8) scp_with_inner.nd rfl (Or.inr rfl) (se_callTy call_list_of opa_list (by rfl) T.n_list (by decide +kernel) (sa_cons (se_name (pv 1)) sa_nil)) (np1 rfl))
    (ss_one (ss_ret (se_add (se_tup (sa_cons (se_name (pv 2)) sa_nil)) (se_callTy call_tuple_of opa_tuple (by rfl) T.n_tuple (by decide +kernel) (sa_cons (se_lc (own := [("mark", 11), ("one", 10)]) (by rfl) scp_with_inner.nd (si_zip2 (by rfl) T.n_zip (se_kd T.k_SHAPES rfl T.g_SHAPES (se_name (pv 2)) (fun _ _ => rfl)) (se_name (pv 3))) (blkOk_by (own := [("mark", 11), ("one", 10)]) (N := ["term", "some", "word", "rest", "first", "told", "others", "clauses", "left", "clause", "one", "mark"]) (sc := defScope s_p_with_inner) (by decide +kernel)) (gt_tup (gts_cons (gt_name 11) (gts_cons (gt_name 10) gts_nil))) (by simp [Tg.slots, slotss]) (fun _ _ _ _ _ => (pg_tupA rfl (pgs_cons (pg_name (i := 11) scp_with_inner.nd rfl (Or.inl rfl)) (pgs_cons (pg_name (i := 10) scp_with_inner.nd rfl (Or.inl rfl)) pgs_nil)))) (fun _ _ _ _ _ => sts_nil) (fun _ _ _ _ _ => (se_if (st_cmp (c_eq hr.units) (se_name (pv 11)) se_str (nomark _)) (se_mt PySem.F.slot_list_pop PySem.F.type_list_pop mt_popAt mt_pa (pv 8) (sa_cons se_int sa_nil)) (se_name (pv 10))))) sa_nil))))))))) plain
theorem k_p_names_within (T : Txt w K mg) {C_p_inner_of : AC} {C : AC} (k : Nat) {j_p_inner_of : Nat} (G_p_inner_of : Fn P w K mg base CX0 j_p_inner_of T.a_p_inner_of T.d_p_inner_of ["term"] (spA K C_p_inner_of)) (h_p_inner_of : j_p_inner_of ≤ k)
    (plain : ∀ xs R, C xs R → xs.length = 1 ∧ t_p_names_within C_p_inner_of (retD [true] xs R) (beg 5 xs)) : Fn P w K mg base CX0 (k + 1) T.a_p_names_within T.d_p_names_within ["term"] (spA K C) :=
  mkA T.F_p_names_within scp_names_within [true] (fun cdv A outer s H E vs gd hr =>
    (ss_cons (ss_asg (se_name (pv 0)) (pg_starA (n := 1) rfl (pgs_cons (pg_name (i := 1) scp_names_within.nd rfl (Or.inl rfl)) (pgs_star (pg_name (i := 2) scp_names_within.nd rfl (Or.inl rfl))))) (gt_star (ts := [(.n 1)]) (gts_cons (gt_name 1) (gts_cons (gt_name 2) gts_nil))) (nps (by simp [Tg.slots, slotss])))
    (ss_cons (ss_if (st_cmp (c_eq hr.units) (se_name (pv 1)) se_str (nomark _)) (ss_one (ss_ret (se_lst (sa_cons (se_tup (sa_cons (se_ixN (pv 2) se_int (fun _ _ => rfl)) sa_nil)) sa_nil)))) ss_nil)
    (ss_cons (ss_if (st_cmp (c_eq hr.units) (se_name (pv 1)) se_str (nomark _)) (ss_one (ss_ret (se_lst (sa_cons (se_tup (sa_cons (se_ixN (pv 2) se_int (fun _ _ => rfl)) (sa_cons (se_ixN (pv 2) se_int (fun _ _ => rfl)) sa_nil))) sa_nil)))) ss_nil)
    (ss_cons (ss_if (st_cmp (c_eq hr.units) (se_name (pv 1)) se_str (nomark _)) (ss_one (ss_ret (se_lst (sa_cons (se_tup sa_nil) (sa_cons (se_tup (sa_cons (se_ixN (pv 2) se_int (fun _ _ => rfl)) sa_nil)) sa_nil))))) ss_nil)
    (ss_cons (ss_if (st_cmp (c_in (un hr)) (se_name (pv 1)) (se_glob (v := .ref T.a_ANSWERERS) rfl T.g_ANSWERERS rfl (fun H => dt_strs (T.s_ANSWERERS H))) (by rfl)) (ss_one (ss_ret (se_add (se_lst (sa_cons (se_tup sa_nil) (sa_cons (se_tup (sa_cons (se_ix (se_ixN (pv 2) se_int (fun _ _ => rfl)) se_int (fun _ _ => rfl)) sa_nil)) sa_nil))) (se_lc (own := [("clause", 3)]) (by rfl) scp_names_within.nd (si_over (se_ixN (pv 2) se_int (fun _ _ => rfl))) (blkOk_by (own := [("clause", 3)]) (N := ["term", "word", "rest", "clause", "one"]) (sc := defScope s_p_names_within) (by decide +kernel)) (gt_name 3) (by simp [Tg.slots, slotss]) (fun _ _ _ _ _ => (pg_name (i := 3) scp_names_within.nd rfl (Or.inl rfl))) (fun _ _ _ _ _ => sts_nil) (fun _ _ _ _ _ => (se_sl (se_name (pv 3)) (so_some se_int) (so_some (se_add se_int (se_callTy call_int1 opa_int (by rfl) T.n_int (by decide +kernel) (sa_cons (se_cmp (c_eq hr.units) (se_ixN (pv 3) se_int (fun _ _ => rfl)) se_str (nomark _)) sa_nil)))))))))) ss_nil)
    (ss_one (ss_ret (se_lc (own := [("one", 4)]) (by rfl) scp_names_within.nd (si_over (se_call G_p_inner_of gd (hr.mono h_p_inner_of) rfl T.g_p_inner_of T.F_p_inner_of.kp T.b_p_inner_of pass0 (sr_s (pv 0) sr_nil))) (blkOk_by (own := [("one", 4)]) (N := ["term", "word", "rest", "clause", "one"]) (sc := defScope s_p_names_within) (by decide +kernel)) (gt_name 4) (by simp [Tg.slots, slotss]) (fun _ _ _ _ _ => (pg_name (i := 4) scp_names_within.nd rfl (Or.inl rfl))) (fun _ _ _ _ _ => sts_nil) (fun _ _ _ _ _ => (se_tup sa_nil))))))))))) plain
theorem k_p_places_of (T : Txt w K mg) {C_p_inner_of C_p_places_of : AC} {C : AC} (k : Nat) {j_p_inner_of : Nat} (G_p_inner_of : Fn P w K mg base CX0 j_p_inner_of T.a_p_inner_of T.d_p_inner_of ["term"] (spA K C_p_inner_of)) (h_p_inner_of : j_p_inner_of ≤ k) {j_p_places_of : Nat} (G_p_places_of : Fn P w K mg base CX0 j_p_places_of T.a_p_places_of T.d_p_places_of ["term"] (spA K C_p_places_of)) (h_p_places_of : j_p_places_of ≤ k)
    (plain : ∀ xs R, C xs R → xs.length = 1 ∧ t_p_places_of C_p_inner_of C_p_places_of (retD [true] xs R) (beg 5 xs)) : Fn P w K mg base CX0 (k + 1) T.a_p_places_of T.d_p_places_of ["term"] (spA K C) :=
  mkA T.F_p_places_of scp_places_of [true] (fun cdv A outer s H E vs gd hr =>
    (ss_cons (ss_set (i := 1) scp_places_of.nd rfl (Or.inl rfl) (se_lst (sa_cons (se_tup sa_nil) sa_nil)) (np1 rfl))
    (ss_cons (ss_for rfl (si_enum (by rfl) T.n_enumerate (se_call G_p_inner_of gd (hr.mono h_p_inner_of) rfl T.g_p_inner_of T.F_p_inner_of.kp T.b_p_inner_of pass0 (sr_s (pv 0) sr_nil))) (pg_tupA rfl (pgs_cons (pg_name (i := 2) scp_places_of.nd rfl (Or.inr rfl)) (pgs_cons (pg_name (i := 3) scp_places_of.nd rfl (Or.inl rfl)) pgs_nil))) (gt_tup (gts_cons (gt_name 2) (gts_cons (gt_name 3) gts_nil))) (ss_one (ss_expr (se_mt PySem.F.slot_list_extend PySem.F.type_list_extend mt_extend mt_ex (pv 1) (sa_cons (se_lc (own := [("place", 4)]) (by rfl) scp_places_of.nd (si_over (se_call G_p_places_of gd (hr.mono h_p_places_of) rfl T.g_p_places_of T.F_p_places_of.kp T.b_p_places_of pass0 (sr_s (pv 3) sr_nil))) (blkOk_by (own := [("place", 4)]) (N := ["term", "found", "number", "one", "place"]) (sc := defScope s_p_places_of) (by decide +kernel)) (gt_name 4) (by simp [Tg.slots, slotss]) (fun _ _ _ _ _ => (pg_name (i := 4) scp_places_of.nd rfl (Or.inl rfl))) (fun _ _ _ _ _ => sts_nil) (fun _ _ _ _ _ => (se_add (se_tup (sa_cons (se_name (pv 2)) sa_nil)) (se_name (pv 4))))) sa_nil)))) (nps (by simp [Tg.slots, slotss])) PassesOwn.never)
    (ss_one (ss_ret (se_move (pv 1))))))) plain
theorem k_p_part_at (T : Txt w K mg) {C_p_inner_of C_p_is_whole : AC} {C : AC} (k : Nat) {j_p_inner_of : Nat} (G_p_inner_of : Fn P w K mg base CX0 j_p_inner_of T.a_p_inner_of T.d_p_inner_of ["term"] (spA K C_p_inner_of)) (h_p_inner_of : j_p_inner_of ≤ k) {j_p_is_whole : Nat} (G_p_is_whole : Fn P w K mg base CX0 j_p_is_whole T.a_p_is_whole T.d_p_is_whole ["thing", "least", "most"] (spA K C_p_is_whole)) (h_p_is_whole : j_p_is_whole ≤ k)
    (plain : ∀ xs R, C xs R → xs.length = 2 ∧ t_p_part_at C_p_inner_of C_p_is_whole (retD [true, true] xs R) (beg 5 xs)) : Fn P w K mg base CX0 (k + 1) T.a_p_part_at T.d_p_part_at ["term", "place"] (spA K C) :=
  mkA T.F_p_part_at scp_part_at [true, true] (fun cdv A outer s H E vs gd hr =>
    (ss_cons (ss_set (i := 2) scp_part_at.nd rfl (Or.inl rfl) (se_name (pv 0)) (np1 rfl))
    (ss_cons (ss_for rfl (si_over (se_name (pv 1))) (pg_name (i := 3) scp_part_at.nd rfl (Or.inl rfl)) (gt_name 3) (ss_cons (ss_set (i := 4) scp_part_at.nd rfl (Or.inl rfl) (se_call G_p_inner_of gd (hr.mono h_p_inner_of) rfl T.g_p_inner_of T.F_p_inner_of.kp T.b_p_inner_of pass0 (sr_s (pv 2) sr_nil)) (np1 rfl))
    (ss_cons (ss_if (st_not (st_val (se_call G_p_is_whole gd (hr.mono h_p_is_whole) rfl T.g_p_is_whole T.F_p_is_whole.kp T.b_p_is_whole pass0 (sr_s (pv 3) (sr_v se_int (sr_v (se_sub (se_lenN (pv 4) (by rfl) T.n_len PySem.boot_len) se_int) sr_nil)))))) (ss_one ss_never) ss_nil)
    (ss_one (ss_set (i := 2) scp_part_at.nd rfl (Or.inl rfl) (se_ixN (pv 4) (se_name (pv 3)) (fun _ _ => rfl)) (np1 rfl))))) (nps (by simp [Tg.slots, slotss])) PassesOwn.never)
    (ss_one (ss_ret (se_move (pv 2))))))) plain
theorem k_p_names_free (T : Txt w K mg) {C_p_inner_of C_p_names_within C_p_names_free : AC} {C : AC} (k : Nat) {j_p_inner_of : Nat} (G_p_inner_of : Fn P w K mg base CX0 j_p_inner_of T.a_p_inner_of T.d_p_inner_of ["term"] (spA K C_p_inner_of)) (h_p_inner_of : j_p_inner_of ≤ k) {j_p_names_within : Nat} (G_p_names_within : Fn P w K mg base CX0 j_p_names_within T.a_p_names_within T.d_p_names_within ["term"] (spA K C_p_names_within)) (h_p_names_within : j_p_names_within ≤ k) {j_p_names_free : Nat} (G_p_names_free : Fn P w K mg base CX0 j_p_names_free T.a_p_names_free T.d_p_names_free ["term"] (spA K C_p_names_free)) (h_p_names_free : j_p_names_free ≤ k)
    (plain : ∀ xs R, C xs R → xs.length = 1 ∧ t_p_names_free C_p_inner_of C_p_names_within C_p_names_free (retD [true] xs R) (beg 7 xs)) : Fn P w K mg base CX0 (k + 1) T.a_p_names_free T.d_p_names_free ["term"] (spA K C) :=
  mkA T.F_p_names_free scp_names_free [true] (fun cdv A outer s H E vs gd hr =>
    (ss_cons (ss_set (i := 1) scp_names_free.nd rfl (Or.inl rfl) (se_if (st_cmp (c_eq hr.units) (se_ixN (pv 0) se_int (fun _ _ => rfl)) se_str (nomark _)) (se_lst (sa_cons (se_ixN (pv 0) se_int (fun _ _ => rfl)) sa_nil)) (se_lst sa_nil)) (np1 rfl))
    (ss_cons (ss_set (i := 2) scp_names_free.nd rfl (Or.inl rfl) (se_listZip rfl (by rfl) T.n_list (by rfl) T.n_zip (se_call G_p_inner_of gd (hr.mono h_p_inner_of) rfl T.g_p_inner_of T.F_p_inner_of.kp T.b_p_inner_of pass0 (sr_s (pv 0) sr_nil)) (se_call G_p_names_within gd (hr.mono h_p_names_within) rfl T.g_p_names_within T.F_p_names_within.kp T.b_p_names_within pass0 (sr_s (pv 0) sr_nil))) (np1 rfl))
    (ss_cons (ss_setLc2 (own := [("one", 4), ("names", 5), ("name", 6)]) (vs1 := [6]) (i := 3) (by rfl) scp_names_free.nd rfl rfl (sw_true rfl rfl rfl (by decide +kernel)) (si_over (se_name (pv 2))) (blkOk_by (own := [("one", 4), ("names", 5), ("name", 6)]) (N := ["term", "own", "within", "further", "one", "names", "name"]) (sc := defScope s_p_names_free) (by decide +kernel)) (by simp) (gt_tup (gts_cons (gt_name 4) (gts_cons (gt_name 5) gts_nil))) (by simp [Tg.slots, slotss]) (gt_name 6) (by simp [Tg.slots, slotss]) (np1 rfl) (fun _ _ _ _ _ => (pg_tupA rfl (pgs_cons (pg_name (i := 4) scp_names_free.nd rfl (Or.inl rfl)) (pgs_cons (pg_name (i := 5) scp_names_free.nd rfl (Or.inl rfl)) pgs_nil)))) (fun _ _ _ _ _ => sts_nil) (fun _ _ _ _ _ => (si_over (se_call G_p_names_free gd (hr.mono h_p_names_free) rfl T.g_p_names_free T.F_p_names_free.kp T.b_p_names_free pass0 (sr_s (pv 4) sr_nil)))) (fun _ _ _ _ _ => (pg_name (i := 6) scp_names_free.nd rfl (Or.inl rfl))) (fun _ _ _ _ _ => (sts_one (st_cmp (c_notIn (un hr)) (se_name (pv 6)) (se_name (pv 5)) (by rfl)))) (fun _ _ _ _ _ => (se_name (pv 6))))
    (ss_one (ss_ret (se_sortedSc (own := [("name", 6)]) (by rfl) scp_names_free.nd (by rfl) T.n_sorted (si_over (se_add (se_name (pv 1)) (se_name (pv 3)))) (blkOk_by (own := [("name", 6)]) (N := ["term", "own", "within", "further", "one", "names", "name"]) (sc := defScope s_p_names_free) (by decide +kernel)) (gt_name 6) (by simp [Tg.slots, slotss]) (fun _ _ _ _ _ => (pg_name (i := 6) scp_names_free.nd rfl (Or.inl rfl))) (fun _ _ _ _ _ => sts_nil) (fun _ _ _ _ _ => (se_name (pv 6)))))))))) plain
theorem k_p_kept_names (T : Txt w K mg) {C : AC} (k : Nat)
    (plain : ∀ xs R, C xs R → xs.length = 0 ∧ t_p_kept_names (retD [] xs R) (beg 2 xs)) : Fn P w K mg base CX0 (k + 1) T.a_p_kept_names T.d_p_kept_names [] (spA K C) :=
  mkA T.F_p_kept_names scp_kept_names [] (fun cdv A outer s H E vs gd hr =>
    (ss_one (ss_ret (se_add (se_lc (own := [("one", 0)]) (by rfl) scp_kept_names.nd (si_over (se_glob rfl T.g_LETTERS T.r_LETTERS (fun _ => .str _))) (blkOk_by (own := [("one", 0)]) (N := ["one", "other"]) (sc := defScope s_p_kept_names) (by decide +kernel)) (gt_name 0) (by simp [Tg.slots, slotss]) (fun _ _ _ _ _ => (pg_name (i := 0) scp_kept_names.nd rfl (Or.inl rfl))) (fun _ _ _ _ _ => sts_nil) (fun _ _ _ _ _ => (se_add se_str (se_name (pv 0))))) (se_lc2 (own := [("one", 0), ("other", 1)]) (vs1 := [1]) (by rfl) scp_kept_names.nd (si_over (se_glob rfl T.g_LETTERS T.r_LETTERS (fun _ => .str _))) (blkOk_by (own := [("one", 0), ("other", 1)]) (N := ["one", "other"]) (sc := defScope s_p_kept_names) (by decide +kernel)) (by simp) (gt_name 0) (by simp [Tg.slots, slotss]) (gt_name 1) (by simp [Tg.slots, slotss]) (fun _ _ _ _ _ => (pg_name (i := 0) scp_kept_names.nd rfl (Or.inl rfl))) (fun _ _ _ _ _ => sts_nil) (fun _ _ _ _ _ => (si_over (se_glob rfl T.g_LETTERS T.r_LETTERS (fun _ => .str _)))) (fun _ _ _ _ _ => (pg_name (i := 1) scp_kept_names.nd rfl (Or.inl rfl))) (fun _ _ _ _ _ => sts_nil) (fun _ _ _ _ _ => (se_add (se_add se_str (se_name (pv 0))) (se_name (pv 1))))))))) plain
theorem k_p_slow_clause (T : Txt w K mg) {C_p_names_free C_p_kept_names : AC} {C : AC} (k : Nat) {j_p_names_free : Nat} (G_p_names_free : Fn P w K mg base CX0 j_p_names_free T.a_p_names_free T.d_p_names_free ["term"] (spA K C_p_names_free)) (h_p_names_free : j_p_names_free ≤ k) {j_p_kept_names : Nat} (G_p_kept_names : Fn P w K mg base CX0 j_p_kept_names T.a_p_kept_names T.d_p_kept_names [] (spA K C_p_kept_names)) (h_p_kept_names : j_p_kept_names ≤ k)
    (plain : ∀ xs R, C xs R → xs.length = 1 ∧ t_p_slow_clause C_p_names_free C_p_kept_names (retD [true] xs R) (beg 9 xs)) : Fn P w K mg base CX0 (k + 1) T.a_p_slow_clause T.d_p_slow_clause ["clause"] (spA K C) :=
  mkA T.F_p_slow_clause scp_slow_clause [true] (fun cdv A outer s H E vs gd hr =>
    (ss_cons (ss_asg (se_name (pv 0)) (pg_tupA rfl (pgs_cons (pg_name (i := 1) scp_slow_clause.nd rfl (Or.inl rfl)) (pgs_cons (pg_name (i := 2) scp_slow_clause.nd rfl (Or.inl rfl)) (pgs_cons (pg_name (i := 3) scp_slow_clause.nd rfl (Or.inl rfl)) (pgs_cons (pg_name (i := 4) scp_slow_clause.nd rfl (Or.inl rfl)) (pgs_cons (pg_name (i := 5) scp_slow_clause.nd rfl (Or.inl rfl)) pgs_nil)))))) (gt_tup (gts_cons (gt_name 1) (gts_cons (gt_name 2) (gts_cons (gt_name 3) (gts_cons (gt_name 4) (gts_cons (gt_name 5) gts_nil)))))) (nps (by simp [Tg.slots, slotss])))
    (ss_cons (ss_if (st_cmp (c_ne hr.units) (se_name (pv 2)) se_str (nomark _)) (ss_one (ss_ret (se_name (pv 0)))) ss_nil)
    (ss_cons (ss_set (i := 6) scp_slow_clause.nd rfl (Or.inr rfl) (se_add (se_call G_p_names_free gd (hr.mono h_p_names_free) rfl T.g_p_names_free T.F_p_names_free.kp T.b_p_names_free pass0 (sr_s (pv 5) sr_nil)) (se_lst (sa_cons (se_name (pv 3)) sa_nil))) (np1 rfl))
    (ss_cons (ss_set (i := 7) scp_slow_clause.nd rfl (Or.inl rfl) (se_ix (se_lc (own := [("one", 8)]) (by rfl) scp_slow_clause.nd (si_over (se_call0 G_p_kept_names gd (hr.mono h_p_kept_names) rfl T.g_p_kept_names T.F_p_kept_names.kp T.b_p_kept_names pass0)) (blkOk_by (own := [("one", 8)]) (N := ["clause", "deed", "how", "name", "kept", "answer", "taken", "called", "one"]) (sc := defScope s_p_slow_clause) (by decide +kernel)) (gt_name 8) (by simp [Tg.slots, slotss]) (fun _ _ _ _ _ => (pg_name (i := 8) scp_slow_clause.nd rfl (Or.inl rfl))) (fun _ _ _ _ _ => (sts_one (st_cmp (c_notIn (un hr)) (se_name (pv 8)) (se_name (pv 6)) (by rfl)))) (fun _ _ _ _ _ => (se_name (pv 8)))) se_int (fun _ _ => rfl)) (np1 rfl))
    (ss_one (ss_ret (se_tup (sa_cons (se_name (pv 1)) (sa_cons se_str (sa_cons (se_name (pv 3)) (sa_cons (se_name (pv 7)) (sa_cons (se_tup (sa_cons se_str (sa_cons (se_tup (sa_cons se_str (sa_cons (se_name (pv 7)) sa_nil))) (sa_cons (se_name (pv 5)) sa_nil)))) sa_nil))))))))))))) plain
theorem k_p_is_last_call (T : Txt w K mg) {C_p_names_free : AC} {C : AC} (k : Nat) {j_p_names_free : Nat} (G_p_names_free : Fn P w K mg base CX0 j_p_names_free T.a_p_names_free T.d_p_names_free ["term"] (spA K C_p_names_free)) (h_p_names_free : j_p_names_free ≤ k)
    (plain : ∀ xs R, C xs R → xs.length = 1 ∧ t_p_is_last_call C_p_names_free (retD [true] xs R) (beg 6 xs)) : Fn P w K mg base CX0 (k + 1) T.a_p_is_last_call T.d_p_is_last_call ["clause"] (spA K C) :=
  mkA T.F_p_is_last_call scp_is_last_call [true] (fun cdv A outer s H E vs gd hr =>
    (ss_cons (ss_asg (se_name (pv 0)) (pg_tupA rfl (pgs_cons (pg_name (i := 1) scp_is_last_call.nd rfl (Or.inl rfl)) (pgs_cons (pg_name (i := 2) scp_is_last_call.nd rfl (Or.inl rfl)) (pgs_cons (pg_name (i := 3) scp_is_last_call.nd rfl (Or.inl rfl)) (pgs_cons (pg_name (i := 4) scp_is_last_call.nd rfl (Or.inl rfl)) (pgs_cons (pg_name (i := 5) scp_is_last_call.nd rfl (Or.inl rfl)) pgs_nil)))))) (gt_tup (gts_cons (gt_name 1) (gts_cons (gt_name 2) (gts_cons (gt_name 3) (gts_cons (gt_name 4) (gts_cons (gt_name 5) gts_nil)))))) (nps (by simp [Tg.slots, slotss])))
    (ss_cons (ss_if (st_of (sw_or (st_cmp (c_ne hr.units) (se_name (pv 2)) se_str (nomark _)) (sw_or (st_cmp (c_ne hr.units) (se_ixN (pv 5) se_int (fun _ _ => rfl)) se_str (nomark _)) (sw_or1 (st_cmp (c_neM hr.units) (se_ixN (pv 5) se_int (fun _ _ => rfl)) (se_tup (sa_cons se_str (sa_cons (se_name (pv 4)) sa_nil))) (nomark _)))))) (ss_one (ss_ret se_bl)) ss_nil)
    (ss_one (ss_ret (se_cmp (c_notIn (un hr)) (se_name (pv 4)) (se_call G_p_names_free gd (hr.mono h_p_names_free) rfl T.g_p_names_free T.F_p_names_free.kp T.b_p_names_free pass0 (sr_v (se_ixN (pv 5) se_int (fun _ _ => rfl)) sr_nil)) (by rfl))))))) plain
theorem k_p_quick_clause (T : Txt w K mg) {C_p_is_last_call : AC} {C : AC} (k : Nat) {j_p_is_last_call : Nat} (G_p_is_last_call : Fn P w K mg base CX0 j_p_is_last_call T.a_p_is_last_call T.d_p_is_last_call ["clause"] (spA K C_p_is_last_call)) (h_p_is_last_call : j_p_is_last_call ≤ k)
    (plain : ∀ xs R, C xs R → xs.length = 1 ∧ t_p_quick_clause C_p_is_last_call (retD [true] xs R) (beg 6 xs)) : Fn P w K mg base CX0 (k + 1) T.a_p_quick_clause T.d_p_quick_clause ["clause"] (spA K C) :=
  mkA T.F_p_quick_clause scp_quick_clause [true] (fun cdv A outer s H E vs gd hr =>
    (ss_cons (ss_asg (se_name (pv 0)) (pg_tupA rfl (pgs_cons (pg_name (i := 1) scp_quick_clause.nd rfl (Or.inl rfl)) (pgs_cons (pg_name (i := 2) scp_quick_clause.nd rfl (Or.inl rfl)) (pgs_cons (pg_name (i := 3) scp_quick_clause.nd rfl (Or.inl rfl)) (pgs_cons (pg_name (i := 4) scp_quick_clause.nd rfl (Or.inl rfl)) (pgs_cons (pg_name (i := 5) scp_quick_clause.nd rfl (Or.inl rfl)) pgs_nil)))))) (gt_tup (gts_cons (gt_name 1) (gts_cons (gt_name 2) (gts_cons (gt_name 3) (gts_cons (gt_name 4) (gts_cons (gt_name 5) gts_nil)))))) (nps (by simp [Tg.slots, slotss])))
    (ss_one (ss_ret (se_if (st_val (se_call G_p_is_last_call gd (hr.mono h_p_is_last_call) rfl T.g_p_is_last_call T.F_p_is_last_call.kp T.b_p_is_last_call pass0 (sr_s (pv 0) sr_nil))) (se_tup (sa_cons (se_name (pv 1)) (sa_cons se_str (sa_cons (se_name (pv 3)) (sa_cons se_str (sa_cons (se_ixN (pv 5) se_int (fun _ _ => rfl)) sa_nil)))))) (se_name (pv 0))))))) plain
theorem k_p_slowed (T : Txt w K mg) {C_p_with_inner C_p_inner_of C_p_slowed C_p_slow_clause : AC} {C : AC} (k : Nat) {j_p_with_inner : Nat} (G_p_with_inner : Fn P w K mg base CX0 j_p_with_inner T.a_p_with_inner T.d_p_with_inner ["term", "some"] (spA K C_p_with_inner)) (h_p_with_inner : j_p_with_inner ≤ k) {j_p_inner_of : Nat} (G_p_inner_of : Fn P w K mg base CX0 j_p_inner_of T.a_p_inner_of T.d_p_inner_of ["term"] (spA K C_p_inner_of)) (h_p_inner_of : j_p_inner_of ≤ k) {j_p_slowed : Nat} (G_p_slowed : Fn P w K mg base CX0 j_p_slowed T.a_p_slowed T.d_p_slowed ["term"] (spA K C_p_slowed)) (h_p_slowed : j_p_slowed ≤ k) {j_p_slow_clause : Nat} (G_p_slow_clause : Fn P w K mg base CX0 j_p_slow_clause T.a_p_slow_clause T.d_p_slow_clause ["clause"] (spA K C_p_slow_clause)) (h_p_slow_clause : j_p_slow_clause ≤ k)
    (plain : ∀ xs R, C xs R → xs.length = 1 ∧ t_p_slowed C_p_with_inner C_p_inner_of C_p_slowed C_p_slow_clause (retD [true] xs R) (beg 4 xs)) : Fn P w K mg base CX0 (k + 1) T.a_p_slowed T.d_p_slowed ["term"] (spA K C) :=
  mkA T.F_p_slowed scp_slowed [true] (fun cdv A outer s H E vs gd hr =>
    (ss_cons (ss_set (i := 1) scp_slowed.nd rfl (Or.inl rfl) (se_call G_p_with_inner gd (hr.mono h_p_with_inner) rfl T.g_p_with_inner T.F_p_with_inner.kp T.b_p_with_inner pass0 (sr_s (pv 0) (sr_v (se_lc (own := [("one", 2)]) (by rfl) scp_slowed.nd (si_over (se_call G_p_inner_of gd (hr.mono h_p_inner_of) rfl T.g_p_inner_of T.F_p_inner_of.kp T.b_p_inner_of pass0 (sr_s (pv 0) sr_nil))) (blkOk_by (own := [("one", 2)]) (N := ["term", "found", "one", "clause"]) (sc := defScope s_p_slowed) (by decide +kernel)) (gt_name 2) (by simp [Tg.slots, slotss]) (fun _ _ _ _ _ => (pg_name (i := 2) scp_slowed.nd rfl (Or.inl rfl))) (fun _ _ _ _ _ => sts_nil) (fun _ _ _ _ _ => (se_call G_p_slowed gd (hr.mono h_p_slowed) rfl T.g_p_slowed T.F_p_slowed.kp T.b_p_slowed pass0 (sr_s (pv 2) sr_nil)))) sr_nil))) (np1 rfl))
    (ss_cons (ss_if (st_cmp (c_notIn (un hr)) (se_ixN (pv 1) se_int (fun _ _ => rfl)) (se_glob (v := .ref T.a_ANSWERERS) rfl T.g_ANSWERERS rfl (fun H => dt_strs (T.s_ANSWERERS H))) (by rfl)) (ss_one (ss_ret (se_move (pv 1)))) ss_nil)
    (ss_one (ss_ret (se_add (se_sl (se_name (pv 1)) so_none (so_some se_int)) (se_tup (sa_cons (se_callTy call_tuple_of opa_tuple (by rfl) T.n_tuple (by decide +kernel) (sa_cons (se_lc (own := [("clause", 3)]) (by rfl) scp_slowed.nd (si_over (se_ixN (pv 1) se_int (fun _ _ => rfl))) (blkOk_by (own := [("clause", 3)]) (N := ["term", "found", "one", "clause"]) (sc := defScope s_p_slowed) (by decide +kernel)) (gt_name 3) (by simp [Tg.slots, slotss]) (fun _ _ _ _ _ => (pg_name (i := 3) scp_slowed.nd rfl (Or.inl rfl))) (fun _ _ _ _ _ => sts_nil) (fun _ _ _ _ _ => (se_call G_p_slow_clause gd (hr.mono h_p_slow_clause) rfl T.g_p_slow_clause T.F_p_slow_clause.kp T.b_p_slow_clause pass0 (sr_s (pv 3) sr_nil)))) sa_nil)) sa_nil)))))))) plain
theorem k_p_quickened (T : Txt w K mg) {C_p_with_inner C_p_inner_of C_p_quickened C_p_quick_clause : AC} {C : AC} (k : Nat) {j_p_with_inner : Nat} (G_p_with_inner : Fn P w K mg base CX0 j_p_with_inner T.a_p_with_inner T.d_p_with_inner ["term", "some"] (spA K C_p_with_inner)) (h_p_with_inner : j_p_with_inner ≤ k) {j_p_inner_of : Nat} (G_p_inner_of : Fn P w K mg base CX0 j_p_inner_of T.a_p_inner_of T.d_p_inner_of ["term"] (spA K C_p_inner_of)) (h_p_inner_of : j_p_inner_of ≤ k) {j_p_quickened : Nat} (G_p_quickened : Fn P w K mg base CX0 j_p_quickened T.a_p_quickened T.d_p_quickened ["term"] (spA K C_p_quickened)) (h_p_quickened : j_p_quickened ≤ k) {j_p_quick_clause : Nat} (G_p_quick_clause : Fn P w K mg base CX0 j_p_quick_clause T.a_p_quick_clause T.d_p_quick_clause ["clause"] (spA K C_p_quick_clause)) (h_p_quick_clause : j_p_quick_clause ≤ k)
    (plain : ∀ xs R, C xs R → xs.length = 1 ∧ t_p_quickened C_p_with_inner C_p_inner_of C_p_quickened C_p_quick_clause (retD [true] xs R) (beg 4 xs)) : Fn P w K mg base CX0 (k + 1) T.a_p_quickened T.d_p_quickened ["term"] (spA K C) :=
  mkA T.F_p_quickened scp_quickened [true] (fun cdv A outer s H E vs gd hr =>
    (ss_cons (ss_set (i := 1) scp_quickened.nd rfl (Or.inl rfl) (se_call G_p_with_inner gd (hr.mono h_p_with_inner) rfl T.g_p_with_inner T.F_p_with_inner.kp T.b_p_with_inner pass0 (sr_s (pv 0) (sr_v (se_lc (own := [("one", 2)]) (by rfl) scp_quickened.nd (si_over (se_call G_p_inner_of gd (hr.mono h_p_inner_of) rfl T.g_p_inner_of T.F_p_inner_of.kp T.b_p_inner_of pass0 (sr_s (pv 0) sr_nil))) (blkOk_by (own := [("one", 2)]) (N := ["term", "found", "one", "clause"]) (sc := defScope s_p_quickened) (by decide +kernel)) (gt_name 2) (by simp [Tg.slots, slotss]) (fun _ _ _ _ _ => (pg_name (i := 2) scp_quickened.nd rfl (Or.inl rfl))) (fun _ _ _ _ _ => sts_nil) (fun _ _ _ _ _ => (se_call G_p_quickened gd (hr.mono h_p_quickened) rfl T.g_p_quickened T.F_p_quickened.kp T.b_p_quickened pass0 (sr_s (pv 2) sr_nil)))) sr_nil))) (np1 rfl))
    (ss_cons (ss_if (st_of (sw_or (st_cmp (c_notIn (un hr)) (se_ixN (pv 1) se_int (fun _ _ => rfl)) (se_glob (v := .ref T.a_ANSWERERS) rfl T.g_ANSWERERS rfl (fun H => dt_strs (T.s_ANSWERERS H))) (by rfl)) (sw_or1 (st_of (sw_and (st_cmp (c_eq hr.units) (se_ixN (pv 1) se_int (fun _ _ => rfl)) se_str (nomark _)) (sw_and1 (st_cmp (c_eq hr.units) (se_ixN (pv 1) se_int (fun _ _ => rfl)) se_str (nomark _)))))))) (ss_one (ss_ret (se_move (pv 1)))) ss_nil)
    (ss_one (ss_ret (se_add (se_sl (se_name (pv 1)) so_none (so_some se_int)) (se_tup (sa_cons (se_callTy call_tuple_of opa_tuple (by rfl) T.n_tuple (by decide +kernel) (sa_cons (se_lc (own := [("clause", 3)]) (by rfl) scp_quickened.nd (si_over (se_ixN (pv 1) se_int (fun _ _ => rfl))) (blkOk_by (own := [("clause", 3)]) (N := ["term", "found", "one", "clause"]) (sc := defScope s_p_quickened) (by decide +kernel)) (gt_name 3) (by simp [Tg.slots, slotss]) (fun _ _ _ _ _ => (pg_name (i := 3) scp_quickened.nd rfl (Or.inl rfl))) (fun _ _ _ _ _ => sts_nil) (fun _ _ _ _ _ => (se_call G_p_quick_clause gd (hr.mono h_p_quick_clause) rfl T.g_p_quick_clause T.F_p_quick_clause.kp T.b_p_quick_clause pass0 (sr_s (pv 3) sr_nil)))) sa_nil)) sa_nil)))))))) plain
theorem k_p_quick_ones (T : Txt w K mg) {C_p_places_of C_p_part_at : AC} {C : AC} (k : Nat) {j_p_places_of : Nat} (G_p_places_of : Fn P w K mg base CX0 j_p_places_of T.a_p_places_of T.d_p_places_of ["term"] (spA K C_p_places_of)) (h_p_places_of : j_p_places_of ≤ k) {j_p_part_at : Nat} (G_p_part_at : Fn P w K mg base CX0 j_p_part_at T.a_p_part_at T.d_p_part_at ["term", "place"] (spA K C_p_part_at)) (h_p_part_at : j_p_part_at ≤ k)
    (plain : ∀ xs R, C xs R → xs.length = 1 ∧ t_p_quick_ones C_p_places_of C_p_part_at (retD [true] xs R) (beg 6 xs)) : Fn P w K mg base CX0 (k + 1) T.a_p_quick_ones T.d_p_quick_ones ["term"] (spA K C) :=
  mkA T.F_p_quick_ones scp_quick_ones [true] (fun cdv A outer s H E vs gd hr =>
    (ss_cons (ss_set (i := 1) scp_quick_ones.nd rfl (Or.inl rfl) (se_lst sa_nil) (np1 rfl))
    (ss_cons (ss_for rfl (si_over (se_call G_p_places_of gd (hr.mono h_p_places_of) rfl T.g_p_places_of T.F_p_places_of.kp T.b_p_places_of pass0 (sr_s (pv 0) sr_nil))) (pg_name (i := 2) scp_quick_ones.nd rfl (Or.inr rfl)) (gt_name 2) (ss_cons (ss_set (i := 3) scp_quick_ones.nd rfl (Or.inl rfl) (se_call G_p_part_at gd (hr.mono h_p_part_at) rfl T.g_p_part_at T.F_p_part_at.kp T.b_p_part_at pass0 (sr_s (pv 0) (sr_s (pv 2) sr_nil))) (np1 rfl))
    (ss_cons (ss_set (i := 4) scp_quick_ones.nd rfl (Or.inl rfl) (se_if (st_cmp (c_in (un hr)) (se_ixN (pv 3) se_int (fun _ _ => rfl)) (se_glob (v := .ref T.a_ANSWERERS) rfl T.g_ANSWERERS rfl (fun H => dt_strs (T.s_ANSWERERS H))) (by rfl)) (se_ixN (pv 3) se_int (fun _ _ => rfl)) (se_tup sa_nil)) (np1 rfl))
    (ss_one (ss_expr (se_mt PySem.F.slot_list_extend PySem.F.type_list_extend mt_extend mt_ex (pv 1) (sa_cons (se_lc (own := [("clause", 5)]) (by rfl) scp_quick_ones.nd (si_over (se_name (pv 4))) (blkOk_by (own := [("clause", 5)]) (N := ["term", "found", "place", "one", "clauses", "clause"]) (sc := defScope s_p_quick_ones) (by decide +kernel)) (gt_name 5) (by simp [Tg.slots, slotss]) (fun _ _ _ _ _ => (pg_name (i := 5) scp_quick_ones.nd rfl (Or.inl rfl))) (fun _ _ _ _ _ => (sts_one (st_cmp (c_eq hr.units) (se_ixN (pv 5) se_int (fun _ _ => rfl)) se_str (nomark _)))) (fun _ _ _ _ _ => (se_tup (sa_cons (se_name (pv 2)) (sa_cons (se_ixN (pv 5) se_int (fun _ _ => rfl)) sa_nil))))) sa_nil)))))) (nps (by simp [Tg.slots, slotss])) PassesOwn.never)
    (ss_one (ss_ret (se_move (pv 1))))))) plain
theorem k_dip (T : Txt w K mg) {C : AC} (k : Nat)
    (plain : ∀ xs R, C xs R → xs.length = 2 ∧ t_dip (retD [true, true] xs R) (beg 3 xs)) : Fn P w K mg base CX0 (k + 1) T.a_dip T.d_dip ["_law_script", "_law_k"] (spA K C) :=
  mkA T.F_dip scdip [true, true] (fun cdv A outer s H E vs gd hr =>
    (ss_cons (ss_set (i := 2) scdip.nd rfl (Or.inl rfl) (se_if (st_cmp c_lt (se_name (pv 1)) (se_lenN (pv 0) (by rfl) T.n_len PySem.boot_len) (nomark _)) (se_ixN (pv 0) (se_name (pv 1)) (fun _ _ => rfl)) se_int) (np1 rfl))
    (ss_one (ss_ret (se_lst (sa_cons (se_mulA (se_callB call_abs opa_abs (by rfl) T.n_abs (by decide +kernel) (sa_cons (se_name (pv 2)) sa_nil)) (se_callTy call_int1 opa_int (by rfl) T.n_int (by decide +kernel) (sa_cons (se_cmp c_ge (se_callB call_abs opa_abs (by rfl) T.n_abs (by decide +kernel) (sa_cons (se_name (pv 2)) sa_nil)) (se_pow se_int se_int) (nomark _)) sa_nil))) (sa_cons (se_add (se_add (se_mod (se_name (pv 2)) se_int) (se_mulA se_int (se_name (pv 1)))) se_int) (sa_cons se_int sa_nil)))))))) plain
theorem k_take (T : Txt w K mg) {C : AC} (k : Nat)
    (plain : ∀ xs R, C xs R → xs.length = 2 ∧ t_take (retD [true, true] xs R) (beg 5 xs)) : Fn P w K mg base CX0 (k + 1) T.a_take T.d_take ["_law_box", "_law_many"] (spA K C) :=
  mkA T.F_take sctake [true, true] (fun cdv A outer s H E vs gd hr =>
    (ss_cons (ss_if (st_cmp c_gt (se_ixN (pv 0) se_int (fun _ _ => rfl)) se_int (nomark _)) (ss_cons (ss_set (i := 2) sctake.nd rfl (Or.inl rfl) (se_mod (se_ixN (pv 0) se_int (fun _ _ => rfl)) (se_name (pv 1))) (np1 rfl))
    (ss_cons (ss_put (se_fdiv (se_ixN (pv 0) se_int (fun _ _ => rfl)) (se_name (pv 1))) (pv 0) se_int)
    (ss_one (ss_ret (se_move (pv 2)))))) ss_nil)
    (ss_cons (ss_put (se_add (se_ixN (pv 0) se_int (fun _ _ => rfl)) se_int) (pv 0) se_int)
    (ss_cons (ss_set (i := 3) sctake.nd rfl (Or.inl rfl) (se_mod (se_pow (se_add (se_ixN (pv 0) se_int (fun _ _ => rfl)) (se_mulA se_int (se_ixN (pv 0) se_int (fun _ _ => rfl)))) se_int) se_int) (np1 rfl))
    (ss_cons (ss_set (i := 4) sctake.nd rfl (Or.inl rfl) (se_mod (se_mulA (se_add (se_add (se_name (pv 3)) (se_ixN (pv 0) se_int (fun _ _ => rfl))) (se_fdiv (se_ixN (pv 0) se_int (fun _ _ => rfl)) se_int)) (se_add (se_add (se_mod (se_name (pv 3)) se_int) se_int) (se_ixN (pv 0) se_int (fun _ _ => rfl)))) se_int) (np1 rfl))
    (ss_one (ss_ret (se_mod (se_fdiv (se_mod (se_add (se_mulA (se_name (pv 4)) se_int) (se_name (pv 3))) se_int) se_int) (se_name (pv 1)))))))))) plain
theorem k_folded (T : Txt w K mg) {C : AC} (k : Nat)
    (plain : ∀ xs R, C xs R → xs.length = 2 ∧ t_folded (retD [true, true] xs R) (beg 5 xs)) : Fn P w K mg base CX0 (k + 1) T.a_folded T.d_folded ["_law_script", "_law_size"] (spA K C) :=
  mkA T.F_folded scfolded [true, true] (fun cdv A outer s H E vs gd hr =>
    (ss_cons (ss_set (i := 2) scfolded.nd rfl (Or.inl rfl) (se_callTy call_list_of opa_list (by rfl) T.n_list (by decide +kernel) (sa_cons (se_sl (se_name (pv 0)) so_none (so_some (se_name (pv 1)))) sa_nil)) (np1 rfl))
    (ss_cons (ss_for rfl (si_enum (by rfl) T.n_enumerate (se_sl (se_name (pv 0)) (so_some (se_name (pv 1))) (so_some se_int))) (pg_tupA rfl (pgs_cons (pg_name (i := 3) scfolded.nd rfl (Or.inl rfl)) (pgs_cons (pg_name (i := 4) scfolded.nd rfl (Or.inl rfl)) pgs_nil))) (gt_tup (gts_cons (gt_name 3) (gts_cons (gt_name 4) gts_nil))) (ss_one (ss_put (se_add (se_ixN (pv 2) (se_mod (se_name (pv 3)) (se_name (pv 1))) (fun _ _ => rfl)) (se_mulA (se_name (pv 4)) (se_add (se_name (pv 3)) se_int))) (pv 2) (se_mod (se_name (pv 3)) (se_name (pv 1))))) (nps (by simp [Tg.slots, slotss])) PassesOwn.never)
    (ss_one (ss_ret (se_move (pv 2))))))) plain
theorem k_one_of (T : Txt w K mg) {C_take : AC} {C : AC} (k : Nat) {j_take : Nat} (G_take : Fn P w K mg base CX0 j_take T.a_take T.d_take ["_law_box", "_law_many"] (spA K C_take)) (h_take : j_take ≤ k)
    (plain : ∀ xs R, C xs R → xs.length = 2 ∧ t_one_of C_take (retD [true, true] xs R) (beg 2 xs)) : Fn P w K mg base CX0 (k + 1) T.a_one_of T.d_one_of ["_law_box", "_law_some"] (spA K C) :=
  mkA T.F_one_of scone_of [true, true] (fun cdv A outer s H E vs gd hr =>
    (ss_one (ss_ret (se_ixN (pv 1) (se_call G_take gd (hr.mono h_take) rfl T.g_take T.F_take.kp T.b_take pass0 (sr_s (pv 0) (sr_v (se_lenN (pv 1) (by rfl) T.n_len PySem.boot_len) sr_nil))) (fun _ _ => rfl))))) plain
theorem k_strewn (T : Txt w K mg) {C_take : AC} {C : AC} (k : Nat) {j_take : Nat} (G_take : Fn P w K mg base CX0 j_take T.a_take T.d_take ["_law_box", "_law_many"] (spA K C_take)) (h_take : j_take ≤ k)
    (plain : ∀ xs R, C xs R → xs.length = 2 ∧ t_strewn C_take (retD [true, true] xs R) (beg 4 xs)) : Fn P w K mg base CX0 (k + 1) T.a_strewn T.d_strewn ["_law_box", "_law_some"] (spA K C) :=
  mkA T.F_strewn scstrewn [true, true] (fun cdv A outer s H E vs gd hr =>
    (ss_cons (ss_set (i := 2) scstrewn.nd rfl (Or.inl rfl) (se_lst sa_nil) (np1 rfl))
    (ss_cons (ss_for rfl (si_over (se_name (pv 1))) (pg_name (i := 3) scstrewn.nd rfl (Or.inl rfl)) (gt_name 3) (ss_one (ss_expr (se_mt PySem.F.slot_list_insert PySem.F.type_list_insert mt_insert mt_in (pv 2) (sa_cons (se_call G_take gd (hr.mono h_take) rfl T.g_take T.F_take.kp T.b_take pass0 (sr_s (pv 0) (sr_v (se_add (se_lenN (pv 2) (by rfl) T.n_len PySem.boot_len) se_int) sr_nil))) (sa_cons (se_name (pv 3)) sa_nil))))) (nps (by simp [Tg.slots, slotss])) PassesOwn.never)
    (ss_one (ss_ret (se_move (pv 2))))))) plain
theorem k_keywords (T : Txt w K mg) {C : AC} (k : Nat)
    (plain : ∀ xs R, C xs R → xs.length = 0 ∧ t_keywords (retD [] xs R) (beg 1 xs)) : Fn P w K mg base CX0 (k + 1) T.a_keywords T.d_keywords [] (spA K C) :=
  mkA T.F_keywords sckeywords [] (fun cdv A outer s H E vs gd hr =>
    (ss_cons (ss_set (i := 0) sckeywords.nd rfl (Or.inl rfl) se_str (np1 rfl))
    (ss_one (ss_ret (se_split (se_add (se_name (pv 0)) se_str) se_str))))) plain
theorem k_named (T : Txt w K mg) {C_take C_keywords : AC} {C : AC} (k : Nat) {j_take : Nat} (G_take : Fn P w K mg base CX0 j_take T.a_take T.d_take ["_law_box", "_law_many"] (spA K C_take)) (h_take : j_take ≤ k) {j_keywords : Nat} (G_keywords : Fn P w K mg base CX0 j_keywords T.a_keywords T.d_keywords [] (spA K C_keywords)) (h_keywords : j_keywords ≤ k)
    (plain : ∀ xs R, C xs R → xs.length = 2 ∧ t_named C_take C_keywords (retD [true, true] xs R) (beg 7 xs)) : Fn P w K mg base CX0 (k + 1) T.a_named T.d_named ["_law_box", "_law_many"] (spA K C) :=
  mkA T.F_named scnamed [true, true] (fun cdv A outer s H E vs gd hr =>
    (ss_cons (ss_asg (se_tup (sa_cons se_str (sa_cons (se_lst sa_nil) sa_nil))) (pg_tupA rfl (pgs_cons (pg_name (i := 2) scnamed.nd rfl (Or.inr rfl)) (pgs_cons (pg_name (i := 3) scnamed.nd rfl (Or.inl rfl)) pgs_nil))) (gt_tup (gts_cons (gt_name 2) (gts_cons (gt_name 3) gts_nil))) (nps (by simp [Tg.slots, slotss])))
    (ss_cons (ss_for rfl (si_rng (by rfl) T.n_range (se_name (pv 1))) (pg_name (i := 4) scnamed.nd rfl (Or.inl rfl)) (gt_name 4) (ss_cons (ss_set (i := 5) scnamed.nd rfl (Or.inl rfl) (se_join se_str (se_lc (own := [("_law_turn", 6)]) (by rfl) scnamed.nd (si_rng (by rfl) T.n_range (se_ix (se_lst (sa_cons se_int (sa_cons se_int (sa_cons se_int (sa_cons se_int sa_nil))))) (se_call G_take gd (hr.mono h_take) rfl T.g_take T.F_take.kp T.b_take pass0 (sr_s (pv 0) (sr_v se_int sr_nil))) (fun _ _ => rfl))) (blkOk_by (own := [("_law_turn", 6)]) (N := ["_law_box", "_law_many", "_law_letters", "_law_found", "_law_k", "_law_one", "_law_turn"]) (sc := defScope s_named) (by decide +kernel)) (gt_name 6) (by simp [Tg.slots, slotss]) (fun _ _ _ _ _ => (pg_name (i := 6) scnamed.nd rfl (Or.inl rfl))) (fun _ _ _ _ _ => sts_nil) (fun _ _ _ _ _ => (se_ixN (pv 2) (se_call G_take gd (hr.mono h_take) rfl T.g_take T.F_take.kp T.b_take pass0 (sr_s (pv 0) (sr_v se_int sr_nil))) (fun _ _ => rfl))))) (np1 rfl))
    (ss_cons (ss_for rfl (si_rng (by rfl) T.n_range (se_add (se_lenN (pv 3) (by rfl) T.n_len PySem.boot_len) se_int)) (pg_name (i := 6) scnamed.nd rfl (Or.inl rfl)) (gt_name 6) (ss_one (ss_if (st_cmp (c_in (un hr)) (se_name (pv 5)) (se_addN (pv 3) (se_call0 G_keywords gd (hr.mono h_keywords) rfl T.g_keywords T.F_keywords.kp T.b_keywords pass0)) (by rfl)) (ss_one (ss_set (i := 5) scnamed.nd rfl (Or.inl rfl) (se_add (se_add (se_sl (se_name (pv 5)) so_none (so_some se_int)) (se_ixN (pv 2) (se_fdiv (se_name (pv 6)) se_int) (fun _ _ => rfl))) (se_ixN (pv 2) (se_mod (se_name (pv 6)) se_int) (fun _ _ => rfl))) (np1 rfl))) ss_nil)) (nps (by simp [Tg.slots, slotss])) PassesOwn.never)
    (ss_one (ss_expr (se_mt PySem.F.slot_list_append PySem.F.type_list_append mt_append mt_ap (pv 3) (sa_cons (se_name (pv 5)) sa_nil)))))) (nps (by simp [Tg.slots, slotss])) PassesOwn.never)
    (ss_one (ss_ret (se_move (pv 3))))))) plain
theorem k_any (T : Txt w K mg) {C_take C_one_of C_any C_any_answerer : AC} {C : AC} (k : Nat) {j_take : Nat} (G_take : Fn P w K mg base CX0 j_take T.a_take T.d_take ["_law_box", "_law_many"] (spA K C_take)) (h_take : j_take ≤ k) {j_one_of : Nat} (G_one_of : Fn P w K mg base CX0 j_one_of T.a_one_of T.d_one_of ["_law_box", "_law_some"] (spA K C_one_of)) (h_one_of : j_one_of ≤ k) {j_any : Nat} (G_any : Fn P w K mg base CX0 j_any T.a_any T.d_any ["_law_box", "_law_names", "_law_hs", "_law_deeds", "_law_room"] (spA K C_any)) (h_any : j_any ≤ k) {j_any_answerer : Nat} (G_any_answerer : Fn P w K mg base CX0 j_any_answerer T.a_any_answerer T.d_any_answerer ["_law_box", "_law_names", "_law_hs", "_law_deeds", "_law_room"] (spA K C_any_answerer)) (h_any_answerer : j_any_answerer ≤ k)
    (plain : ∀ xs R, C xs R → xs.length = 5 ∧ t_any C_take C_one_of C_any C_any_answerer (retD [true, true, true, true, true] xs R) (beg 15 xs)) : Fn P w K mg base CX0 (k + 1) T.a_any T.d_any ["_law_box", "_law_names", "_law_hs", "_law_deeds", "_law_room"] (spA K C) :=
  mkA T.F_any scany [true, true, true, true, true] (fun cdv A outer s H E vs gd hr =>
    (ss_cons (ss_set (i := 5) scany.nd rfl (Or.inl rfl) (se_call G_take gd (hr.mono h_take) rfl T.g_take T.F_take.kp T.b_take pass0 (sr_s (pv 0) (sr_v se_int sr_nil))) (np1 rfl))
    (ss_cons (ss_if (st_of (sw_or (st_cmp c_lt (se_name (pv 4)) se_int (nomark _)) (sw_or1 (st_cmp (c_eq hr.units) (se_name (pv 5)) se_int (nomark _))))) (ss_cons (ss_set (i := 6) scany.nd rfl (Or.inl rfl) (se_add (se_lst (sa_cons (se_tup (sa_cons se_str (sa_cons (se_call G_take gd (hr.mono h_take) rfl T.g_take T.F_take.kp T.b_take pass0 (sr_s (pv 0) (sr_v se_int sr_nil))) sa_nil))) sa_nil)) (se_mulA (se_lc (own := [("_law_name", 7)]) (by rfl) scany.nd (si_over (se_name (pv 1))) (blkOk_by (own := [("_law_name", 7)]) (N := ["_law_box", "_law_names", "_law_hs", "_law_deeds", "_law_room", "_law_way", "_law_some", "_law_name", "_law_other", "_law_part", "_law_deed", "_law_one", "_law_two", "_law_word", "_law_h"]) (sc := defScope s_any) (by decide +kernel)) (gt_name 7) (by simp [Tg.slots, slotss]) (fun _ _ _ _ _ => (pg_name (i := 7) scany.nd rfl (Or.inl rfl))) (fun _ _ _ _ _ => sts_nil) (fun _ _ _ _ _ => (se_tup (sa_cons se_str (sa_cons (se_name (pv 7)) sa_nil))))) se_int)) (np1 rfl))
    (ss_one (ss_ret (se_call G_one_of gd (hr.mono h_one_of) rfl T.g_one_of T.F_one_of.kp T.b_one_of pass0 (sr_s (pv 0) (sr_s (pv 6) sr_nil)))))) ss_nil)
    (ss_cons (ss_par2 (i := 7) (j := 8) (by rfl) scany.nd rfl rfl (by decide) rfl rfl (sa_cons (se_call G_one_of gd (hr.mono h_one_of) rfl T.g_one_of T.F_one_of.kp T.b_one_of pass0 (sr_s (pv 0) (sr_v se_str sr_nil))) (sa_cons (se_call G_one_of gd (hr.mono h_one_of) rfl T.g_one_of T.F_one_of.kp T.b_one_of pass0 (sr_s (pv 0) (sr_v se_str sr_nil))) sa_nil)) (by rfl) (np1 rfl) (np1 rfl))
    (ss_cons (ss_asg (se_tup (sa_cons (se_fdiv (se_sub (se_name (pv 4)) se_int) se_int) (sa_cons (se_call G_one_of gd (hr.mono h_one_of) rfl T.g_one_of T.F_one_of.kp T.b_one_of pass0 (sr_s (pv 0) (sr_s (pv 3) sr_nil))) sa_nil))) (pg_tupA rfl (pgs_cons (pg_name (i := 9) scany.nd rfl (Or.inl rfl)) (pgs_cons (pg_name (i := 10) scany.nd rfl (Or.inr rfl)) pgs_nil))) (gt_tup (gts_cons (gt_name 9) (gts_cons (gt_name 10) gts_nil))) (nps (by simp [Tg.slots, slotss])))
    (ss_cons (ss_if (st_cmp c_lt (se_name (pv 5)) se_int (nomark _)) (ss_one (ss_ret (se_tup (sa_cons se_str (sa_cons (se_name (pv 7)) (sa_cons (se_call G_any gd (hr.mono h_any) rfl T.g_any T.F_any.kp T.b_any pass0 (sr_s (pv 0) (sr_v (se_add (se_name (pv 1)) (se_lst (sa_cons (se_name (pv 7)) sa_nil))) (sr_s (pv 2) (sr_s (pv 3) (sr_v (se_fdiv (se_mulA (se_name (pv 4)) se_int) se_int) sr_nil)))))) sa_nil)))))) ss_nil)
    (ss_cons (ss_if (st_cmp (c_eq hr.units) (se_name (pv 5)) se_int (nomark _)) (ss_one (ss_ret (se_tup (sa_cons se_str (sa_cons (se_name (pv 8)) (sa_cons (se_name (pv 7)) (sa_cons (se_call G_any gd (hr.mono h_any) rfl T.g_any T.F_any.kp T.b_any pass0 (sr_s (pv 0) (sr_v (se_add (se_name (pv 1)) (se_lst (sa_cons (se_name (pv 7)) (sa_cons (se_name (pv 8)) sa_nil)))) (sr_s (pv 2) (sr_s (pv 3) (sr_v (se_fdiv (se_mulA (se_name (pv 4)) se_int) se_int) sr_nil)))))) sa_nil))))))) ss_nil)
    (ss_cons (ss_set (i := 11) scany.nd rfl (Or.inr rfl) (se_call G_any gd (hr.mono h_any) rfl T.g_any T.F_any.kp T.b_any pass0 (sr_s (pv 0) (sr_s (pv 1) (sr_s (pv 2) (sr_s (pv 3) (sr_s (pv 9) sr_nil)))))) (np1 rfl))
    (ss_cons (ss_if (st_cmp c_lt (se_name (pv 5)) se_int (nomark _)) (ss_one (ss_ret (se_tup (sa_cons se_str (sa_cons (se_name (pv 11)) (sa_cons (se_call G_any gd (hr.mono h_any) rfl T.g_any T.F_any.kp T.b_any pass0 (sr_s (pv 0) (sr_s (pv 1) (sr_s (pv 2) (sr_s (pv 3) (sr_s (pv 9) sr_nil)))))) sa_nil)))))) ss_nil)
    (ss_cons (ss_if (st_cmp (c_eq hr.units) (se_name (pv 5)) se_int (nomark _)) (ss_one (ss_ret (se_tup (sa_cons se_str (sa_cons (se_name (pv 7)) (sa_cons (se_name (pv 11)) (sa_cons (se_call G_any gd (hr.mono h_any) rfl T.g_any T.F_any.kp T.b_any pass0 (sr_s (pv 0) (sr_v (se_add (se_name (pv 1)) (se_lst (sa_cons (se_name (pv 7)) sa_nil))) (sr_s (pv 2) (sr_s (pv 3) (sr_s (pv 9) sr_nil)))))) sa_nil))))))) ss_nil)
    (ss_cons (ss_if (st_cmp c_lt (se_name (pv 5)) se_int (nomark _)) (ss_cons (ss_par2 (i := 12) (j := 13) (by rfl) scany.nd rfl rfl (by decide) rfl rfl (sa_cons (se_call G_any gd (hr.mono h_any) rfl T.g_any T.F_any.kp T.b_any pass0 (sr_s (pv 0) (sr_s (pv 1) (sr_s (pv 2) (sr_s (pv 3) (sr_s (pv 9) sr_nil)))))) (sa_cons (se_call G_one_of gd (hr.mono h_one_of) rfl T.g_one_of T.F_one_of.kp T.b_one_of pass0 (sr_s (pv 0) (sr_v (se_lst (sa_cons se_str (sa_cons se_str (sa_cons se_str (sa_cons se_str sa_nil))))) sr_nil))) sa_nil)) (by rfl) (np1 rfl) (np1 rfl))
    (ss_one (ss_ret (se_if (st_cmp (c_eq hr.units) (se_name (pv 5)) se_int (nomark _)) (se_tup (sa_cons se_str (sa_cons (se_name (pv 11)) (sa_cons (se_name (pv 12)) sa_nil)))) (se_tup (sa_cons se_str (sa_cons (se_name (pv 13)) (sa_cons (se_name (pv 11)) (sa_cons (se_name (pv 12)) sa_nil))))))))) ss_nil)
    (ss_cons (ss_if (st_cmp (c_eq hr.units) (se_name (pv 5)) se_int (nomark _)) (ss_one (ss_ret (se_tup (sa_cons se_str (sa_cons (se_name (pv 11)) (sa_cons (se_call G_any gd (hr.mono h_any) rfl T.g_any T.F_any.kp T.b_any pass0 (sr_s (pv 0) (sr_s (pv 1) (sr_s (pv 2) (sr_s (pv 3) (sr_v (se_fdiv (se_name (pv 9)) se_int) sr_nil)))))) (sa_cons (se_call G_any gd (hr.mono h_any) rfl T.g_any T.F_any.kp T.b_any pass0 (sr_s (pv 0) (sr_s (pv 1) (sr_s (pv 2) (sr_s (pv 3) (sr_v (se_fdiv (se_name (pv 9)) se_int) sr_nil)))))) sa_nil))))))) ss_nil)
    (ss_cons (ss_if (st_cmp c_lt (se_name (pv 5)) se_int (nomark _)) (ss_cons (ss_set (i := 6) scany.nd rfl (Or.inl rfl) (se_lst (sa_cons (se_tup (sa_cons se_str (sa_cons (se_name (pv 11)) sa_nil))) (sa_cons (se_tup (sa_cons se_str (sa_cons (se_name (pv 11)) sa_nil))) (sa_cons (se_tup (sa_cons se_str (sa_cons (se_name (pv 10)) (sa_cons (se_name (pv 11)) sa_nil)))) (sa_cons (se_tup (sa_cons se_str (sa_cons (se_name (pv 10)) (sa_cons (se_name (pv 11)) sa_nil)))) (sa_cons (se_tup (sa_cons se_str (sa_cons (se_name (pv 10)) (sa_cons (se_name (pv 11)) sa_nil)))) sa_nil)))))) (np1 rfl))
    (ss_cons (ss_set (i := 6) scany.nd rfl (Or.inl rfl) (se_add (se_name (pv 6)) (se_lc (own := [("_law_h", 14)]) (by rfl) scany.nd (si_over (se_name (pv 2))) (blkOk_by (own := [("_law_h", 14)]) (N := ["_law_box", "_law_names", "_law_hs", "_law_deeds", "_law_room", "_law_way", "_law_some", "_law_name", "_law_other", "_law_part", "_law_deed", "_law_one", "_law_two", "_law_word", "_law_h"]) (sc := defScope s_any) (by decide +kernel)) (gt_name 14) (by simp [Tg.slots, slotss]) (fun _ _ _ _ _ => (pg_name (i := 14) scany.nd rfl (Or.inl rfl))) (fun _ _ _ _ _ => sts_nil) (fun _ _ _ _ _ => (se_ix (se_tup (sa_cons (se_tup (sa_cons se_str (sa_cons (se_name (pv 14)) (sa_cons (se_name (pv 10)) (sa_cons (se_name (pv 11)) sa_nil))))) (sa_cons (se_tup (sa_cons se_str (sa_cons (se_name (pv 14)) (sa_cons (se_name (pv 11)) sa_nil)))) sa_nil))) (se_call G_take gd (hr.mono h_take) rfl T.g_take T.F_take.kp T.b_take pass0 (sr_s (pv 0) (sr_v se_int sr_nil))) (fun _ _ => rfl))))) (np1 rfl))
    (ss_one (ss_ret (se_ixN (pv 6) (se_call G_take gd (hr.mono h_take) rfl T.g_take T.F_take.kp T.b_take pass0 (sr_s (pv 0) (sr_v (se_lenN (pv 6) (by rfl) T.n_len PySem.boot_len) sr_nil))) (fun _ _ => rfl)))))) ss_nil)
    (ss_cons (ss_if (st_cmp (c_eq hr.units) (se_name (pv 5)) se_int (nomark _)) (ss_one (ss_ret (se_tup (sa_cons se_str (sa_cons (se_name (pv 11)) (sa_cons (se_call G_any gd (hr.mono h_any) rfl T.g_any T.F_any.kp T.b_any pass0 (sr_s (pv 0) (sr_s (pv 1) (sr_s (pv 2) (sr_s (pv 3) (sr_v (se_callB (call_min2 rfl) opa_min2 (by rfl) T.n_min (by decide +kernel) (sa_cons se_int (sa_cons (se_name (pv 9)) sa_nil))) sr_nil)))))) sa_nil)))))) ss_nil)
    (ss_one (ss_ret (se_call G_any_answerer gd (hr.mono h_any_answerer) rfl T.g_any_answerer T.F_any_answerer.kp T.b_any_answerer pass0 (sr_s (pv 0) (sr_s (pv 1) (sr_s (pv 2) (sr_s (pv 3) (sr_s (pv 4) sr_nil)))))))))))))))))))))) plain
theorem k_any_answerer (T : Txt w K mg) {C_one_of C_any C_strewn C_take : AC} {C : AC} (k : Nat) {j_one_of : Nat} (G_one_of : Fn P w K mg base CX0 j_one_of T.a_one_of T.d_one_of ["_law_box", "_law_some"] (spA K C_one_of)) (h_one_of : j_one_of ≤ k) {j_any : Nat} (G_any : Fn P w K mg base CX0 j_any T.a_any T.d_any ["_law_box", "_law_names", "_law_hs", "_law_deeds", "_law_room"] (spA K C_any)) (h_any : j_any ≤ k) {j_strewn : Nat} (G_strewn : Fn P w K mg base CX0 j_strewn T.a_strewn T.d_strewn ["_law_box", "_law_some"] (spA K C_strewn)) (h_strewn : j_strewn ≤ k) {j_take : Nat} (G_take : Fn P w K mg base CX0 j_take T.a_take T.d_take ["_law_box", "_law_many"] (spA K C_take)) (h_take : j_take ≤ k)
    (plain : ∀ xs R, C xs R → xs.length = 5 ∧ t_any_answerer C_one_of C_any C_strewn C_take (retD [true, true, true, true, true] xs R) (beg 15 xs)) : Fn P w K mg base CX0 (k + 1) T.a_any_answerer T.d_any_answerer ["_law_box", "_law_names", "_law_hs", "_law_deeds", "_law_room"] (spA K C) :=
  mkA T.F_any_answerer scany_answerer [true, true, true, true, true] (fun cdv A outer s H E vs gd hr =>
    (ss_cons (ss_par3 (i := 5) (j := 6) (l := 7) (by rfl) scany_answerer.nd rfl rfl rfl (by decide) (by decide) (by decide) rfl rfl rfl (sa_cons (se_call G_one_of gd (hr.mono h_one_of) rfl T.g_one_of T.F_one_of.kp T.b_one_of pass0 (sr_s (pv 0) (sr_v (se_lst (sa_cons se_str (sa_cons se_str (sa_cons se_str sa_nil)))) sr_nil))) (sa_cons (se_call G_one_of gd (hr.mono h_one_of) rfl T.g_one_of T.F_one_of.kp T.b_one_of pass0 (sr_s (pv 0) (sr_v se_str sr_nil))) (sa_cons (se_callB (call_max2 rfl) opa_max2 (by rfl) T.n_max (by decide +kernel) (sa_cons se_int (sa_cons (se_fdiv (se_name (pv 4)) se_int) sa_nil))) sa_nil))) (by rfl) (np1 rfl) (np1 rfl) (np1 rfl))
    (ss_cons (ss_par2 (i := 8) (j := 9) (by rfl) scany_answerer.nd rfl rfl (by decide) rfl rfl (sa_cons (se_add (se_name (pv 2)) (se_mulA (se_lst (sa_cons (se_name (pv 6)) sa_nil)) (se_callTy call_int1 opa_int (by rfl) T.n_int (by decide +kernel) (sa_cons (se_cmp (c_eq hr.units) (se_name (pv 5)) se_str (nomark _)) sa_nil)))) (sa_cons (se_lst sa_nil) sa_nil)) (by rfl) (np1 rfl) (np1 rfl))
    (ss_cons (ss_set (i := 10) scany_answerer.nd rfl (Or.inl rfl) (se_call G_any gd (hr.mono h_any) rfl T.g_any T.F_any.kp T.b_any pass0 (sr_s (pv 0) (sr_s (pv 1) (sr_s (pv 8) (sr_s (pv 3) (sr_s (pv 7) sr_nil)))))) (np1 rfl))
    (ss_cons (ss_set (i := 11) scany_answerer.nd rfl (Or.inl rfl) (se_tup (sa_cons (se_name (pv 6)) (sa_cons (se_call G_any gd (hr.mono h_any) rfl T.g_any T.F_any.kp T.b_any pass0 (sr_s (pv 0) (sr_v (se_add (se_name (pv 1)) (se_lst (sa_cons (se_name (pv 6)) sa_nil))) (sr_s (pv 2) (sr_s (pv 3) (sr_v (se_callB (call_min2 rfl) opa_min2 (by rfl) T.n_min (by decide +kernel) (sa_cons se_int (sa_cons (se_name (pv 7)) sa_nil))) sr_nil)))))) sa_nil))) (np1 rfl))
    (ss_cons (ss_for rfl (si_over (se_callB (cr_sortedS.or cr_sortedTS) opa_sorted (by rfl) T.n_sorted (by decide +kernel) (sa_cons (se_sl (se_call G_strewn gd (hr.mono h_strewn) rfl T.g_strewn T.F_strewn.kp T.b_strewn pass0 (sr_s (pv 0) (sr_s (pv 3) sr_nil))) so_none (so_some (se_call G_take gd (hr.mono h_take) rfl T.g_take T.F_take.kp T.b_take pass0 (sr_s (pv 0) (sr_v se_int sr_nil))))) sa_nil))) (pg_name (i := 12) scany_answerer.nd rfl (Or.inl rfl)) (gt_name 12) (ss_cons (ss_set (i := 13) scany_answerer.nd rfl (Or.inl rfl) (se_call G_one_of gd (hr.mono h_one_of) rfl T.g_one_of T.F_one_of.kp T.b_one_of pass0 (sr_s (pv 0) (sr_v (se_lst (sa_cons se_str (sa_cons se_str (sa_cons se_str (sa_cons se_str sa_nil))))) sr_nil))) (np1 rfl))
    (ss_cons (ss_set (i := 13) scany_answerer.nd rfl (Or.inl rfl) (se_if (st_of (sw_and (st_cmp (c_eq hr.units) (se_name (pv 13)) se_str (nomark _)) (sw_and1 (st_cmp (c_eq hr.units) (se_name (pv 5)) se_str (nomark _))))) se_str (se_name (pv 13))) (np1 rfl))
    (ss_cons (ss_set (i := 14) scany_answerer.nd rfl (Or.inl rfl) (se_add (se_add (se_name (pv 1)) (se_lst (sa_cons (se_name (pv 6)) sa_nil))) (se_mulA (se_lst (sa_cons se_str sa_nil)) (se_callTy call_int1 opa_int (by rfl) T.n_int (by decide +kernel) (sa_cons (se_cmp (c_eq hr.units) (se_name (pv 13)) se_str (nomark _)) sa_nil)))) (np1 rfl))
    (ss_one (ss_expr (se_mt PySem.F.slot_list_append PySem.F.type_list_append mt_append mt_ap (pv 9) (sa_cons (se_tup (sa_cons (se_name (pv 12)) (sa_cons (se_name (pv 13)) (sa_cons (se_name (pv 6)) (sa_cons (se_mulA se_str (se_callTy call_int1 opa_int (by rfl) T.n_int (by decide +kernel) (sa_cons (se_cmp (c_eq hr.units) (se_name (pv 13)) se_str (nomark _)) sa_nil))) (sa_cons (se_call G_any gd (hr.mono h_any) rfl T.g_any T.F_any.kp T.b_any pass0 (sr_s (pv 0) (sr_s (pv 14) (sr_s (pv 2) (sr_s (pv 3) (sr_s (pv 7) sr_nil)))))) sa_nil)))))) sa_nil))))))) (nps (by simp [Tg.slots, slotss])) PassesOwn.never)
    (ss_cons (ss_if (st_cmp (c_eq hr.units) (se_name (pv 5)) se_str (nomark _)) (ss_one (ss_ret (se_tup (sa_cons se_str (sa_cons (se_name (pv 6)) (sa_cons (se_name (pv 10)) (sa_cons (se_name (pv 11)) (sa_cons (se_callTy call_tuple_of opa_tuple (by rfl) T.n_tuple (by decide +kernel) (sa_cons (se_name (pv 9)) sa_nil)) sa_nil)))))))) ss_nil)
    (ss_one (ss_ret (se_tup (sa_cons se_str (sa_cons (se_name (pv 5)) (sa_cons (se_name (pv 10)) (sa_cons (se_name (pv 11)) (sa_cons (se_callTy call_tuple_of opa_tuple (by rfl) T.n_tuple (by decide +kernel) (sa_cons (se_name (pv 9)) sa_nil)) sa_nil))))))))))))))) plain
theorem k_same (T : Txt w K mg) {C_same : AC} {C : AC} (k : Nat) {j_same : Nat} (G_same : Fn P w K mg base CX0 j_same T.a_same T.d_same ["_law_found", "_law_due"] (spA K C_same)) (h_same : j_same ≤ k)
    (plain : ∀ xs R, C xs R → xs.length = 2 ∧ t_same C_same (retD [true, true] xs R) (beg 4 xs)) : Fn P w K mg base CX0 (k + 1) T.a_same T.d_same ["_law_found", "_law_due"] (spA K C) :=
  mkA T.F_same scsame [true, true] (fun cdv A outer s H E vs gd hr =>
    (ss_cons (ss_if (st_val (se_isi2 (se_name (pv 1)) .list .tuple (pe_bltn (v := .ty "list") (by rfl) T.n_list (by decide +kernel) rfl) (pe_bltn (v := .ty "tuple") (by rfl) T.n_tuple (by decide +kernel) rfl) (by rfl) T.n_isinstance (by decide +kernel))) (ss_cons (ss_if (st_of (sw_or (st_cmp (c_ne hr.units) (se_isi (se_name (pv 0)) .list (pe_bltn (v := .ty "list") (by rfl) T.n_list (by decide +kernel) rfl) (by rfl) T.n_isinstance (by decide +kernel)) (se_isi (se_name (pv 1)) .list (pe_bltn (v := .ty "list") (by rfl) T.n_list (by decide +kernel) rfl) (by rfl) T.n_isinstance (by decide +kernel)) (nomark _)) (sw_or1 (st_cmp (c_ne hr.units) (se_isi (se_name (pv 0)) .tuple (pe_bltn (v := .ty "tuple") (by rfl) T.n_tuple (by decide +kernel) rfl) (by rfl) T.n_isinstance (by decide +kernel)) (se_isi (se_name (pv 1)) .tuple (pe_bltn (v := .ty "tuple") (by rfl) T.n_tuple (by decide +kernel) rfl) (by rfl) T.n_isinstance (by decide +kernel)) (nomark _))))) (ss_one (ss_ret se_bl)) ss_nil)
    (ss_one (ss_ret (se_and (se_cmp (c_eq hr.units) (se_lenN (pv 0) (by rfl) T.n_len PySem.boot_len) (se_lenN (pv 1) (by rfl) T.n_len PySem.boot_len) (nomark _)) (se_one (se_callB (cr_all rfl) opa_all (by rfl) T.n_all (by decide +kernel) (sa_cons (se_lc (own := [("_law_one", 2), ("_law_other", 3)]) (by rfl) scsame.nd (si_zip2 (by rfl) T.n_zip (se_name (pv 0)) (se_name (pv 1))) (blkOk_by (own := [("_law_one", 2), ("_law_other", 3)]) (N := ["_law_found", "_law_due", "_law_one", "_law_other"]) (sc := defScope s_same) (by decide +kernel)) (gt_tup (gts_cons (gt_name 2) (gts_cons (gt_name 3) gts_nil))) (by simp [Tg.slots, slotss]) (fun _ _ _ _ _ => (pg_tupA rfl (pgs_cons (pg_name (i := 2) scsame.nd rfl (Or.inl rfl)) (pgs_cons (pg_name (i := 3) scsame.nd rfl (Or.inl rfl)) pgs_nil)))) (fun _ _ _ _ _ => sts_nil) (fun _ _ _ _ _ => (se_call G_same gd (hr.mono h_same) rfl T.g_same T.F_same.kp T.b_same pass0 (sr_s (pv 2) (sr_s (pv 3) sr_nil))))) sa_nil))))))) ss_nil)
    (ss_cons (ss_if (st_of (sw_or (st_cmp c_is (se_name (pv 1)) se_non (nomark _)) (sw_or1 (st_cmp c_is (se_name (pv 0)) se_non (nomark _))))) (ss_one (ss_ret (se_and (se_cmp c_is (se_name (pv 1)) se_non (nomark _)) (se_one (se_cmp c_is (se_name (pv 0)) se_non (nomark _)))))) ss_nil)
    (ss_cons (ss_if (st_of (sw_or (st_val (se_isi (se_name (pv 1)) .bool (pe_bltn (v := .ty "bool") (by rfl) T.n_bool (by decide +kernel) rfl) (by rfl) T.n_isinstance (by decide +kernel))) (sw_or1 (st_val (se_isi (se_name (pv 1)) .str (pe_bltn (v := .ty "str") (by rfl) T.n_str (by decide +kernel) rfl) (by rfl) T.n_isinstance (by decide +kernel)))))) (ss_one (ss_ret (se_and (se_cmp (c_eq hr.units) (se_isi (se_name (pv 0)) .bool (pe_bltn (v := .ty "bool") (by rfl) T.n_bool (by decide +kernel) rfl) (by rfl) T.n_isinstance (by decide +kernel)) (se_isi (se_name (pv 1)) .bool (pe_bltn (v := .ty "bool") (by rfl) T.n_bool (by decide +kernel) rfl) (by rfl) T.n_isinstance (by decide +kernel)) (nomark _)) (se_one (se_cmp (c_eq hr.units) (se_name (pv 0)) (se_name (pv 1)) (nomark _)))))) ss_nil)
    (ss_one (ss_ret (se_and (se_isi (se_name (pv 0)) .int (pe_bltn (v := .ty "int") (by rfl) T.n_int (by decide +kernel) rfl) (by rfl) T.n_isinstance (by decide +kernel)) (se_and (se_not (se_isi (se_name (pv 0)) .bool (pe_bltn (v := .ty "bool") (by rfl) T.n_bool (by decide +kernel) rfl) (by rfl) T.n_isinstance (by decide +kernel))) (se_one (se_cmp (c_eq hr.units) (se_name (pv 0)) (se_name (pv 1)) (nomark _))))))))))) plain
theorem k_inner (T : Txt w K mg) {C : AC} (k : Nat)
    (plain : ∀ xs R, C xs R → xs.length = 1 ∧ t_inner (retD [true] xs R) (beg 3 xs)) : Fn P w K mg base CX0 (k + 1) T.a_inner T.d_inner ["_law_program"] (spA K C) :=
  mkA T.F_inner scinner [true] (fun cdv A outer s H E vs gd hr =>
    (ss_cons (ss_if (st_cmp (c_in (un hr)) (se_ixN (pv 0) se_int (fun _ _ => rfl)) (se_tup (sa_cons se_str (sa_cons se_str sa_nil))) (by rfl)) (ss_one (ss_ret (se_add (se_lst (sa_cons (se_ixN (pv 0) se_int (fun _ _ => rfl)) (sa_cons (se_ix (se_ixN (pv 0) se_int (fun _ _ => rfl)) se_int (fun _ _ => rfl)) sa_nil))) (se_lc (own := [("_law_row", 1)]) (by rfl) scinner.nd (si_over (se_ixN (pv 0) se_int (fun _ _ => rfl))) (blkOk_by (own := [("_law_row", 1)]) (N := ["_law_program", "_law_row", "_law_one"]) (sc := defScope s_inner) (by decide +kernel)) (gt_name 1) (by simp [Tg.slots, slotss]) (fun _ _ _ _ _ => (pg_name (i := 1) scinner.nd rfl (Or.inl rfl))) (fun _ _ _ _ _ => sts_nil) (fun _ _ _ _ _ => (se_ixN (pv 1) se_int (fun _ _ => rfl))))))) ss_nil)
    (ss_one (ss_ret (se_lc (own := [("_law_one", 2)]) (by rfl) scinner.nd (si_over (se_sl (se_name (pv 0)) (so_some se_int) so_none)) (blkOk_by (own := [("_law_one", 2)]) (N := ["_law_program", "_law_row", "_law_one"]) (sc := defScope s_inner) (by decide +kernel)) (gt_name 2) (by simp [Tg.slots, slotss]) (fun _ _ _ _ _ => (pg_name (i := 2) scinner.nd rfl (Or.inl rfl))) (fun _ _ _ _ _ => (sts_one (st_val (se_isi (se_name (pv 2)) .tuple (pe_bltn (v := .ty "tuple") (by rfl) T.n_tuple (by decide +kernel) rfl) (by rfl) T.n_isinstance (by decide +kernel))))) (fun _ _ _ _ _ => (se_name (pv 2)))))))) plain
theorem k_rebuilt (T : Txt w K mg) {C : AC} (k : Nat)
    (plain : ∀ xs R, C xs R → xs.length = 2 ∧ t_rebuilt (retD [true, true] xs R) (beg 6 xs)) : Fn P w K mg base CX0 (k + 1) T.a_rebuilt T.d_rebuilt ["_law_program", "_law_some"] (spA K C) :=
  mkA T.F_rebuilt screbuilt [true, true] (fun cdv A outer s H E vs gd hr =>
    (ss_cons (ss_if (st_cmp (c_in (un hr)) (se_ixN (pv 0) se_int (fun _ _ => rfl)) (se_tup (sa_cons se_str (sa_cons se_str sa_nil))) (by rfl)) (ss_cons (ss_set (i := 2) screbuilt.nd rfl (Or.inl rfl) (se_callTy call_tuple_of opa_tuple (by rfl) T.n_tuple (by decide +kernel) (sa_cons (se_lc (own := [("_law_row", 4), ("_law_one", 5)]) (by rfl) screbuilt.nd (si_zip2 (by rfl) T.n_zip (se_ixN (pv 0) se_int (fun _ _ => rfl)) (se_sl (se_name (pv 1)) (so_some se_int) so_none)) (blkOk_by (own := [("_law_row", 4), ("_law_one", 5)]) (N := ["_law_program", "_law_some", "_law_rows", "_law_left", "_law_row", "_law_one"]) (sc := defScope s_rebuilt) (by decide +kernel)) (gt_tup (gts_cons (gt_name 4) (gts_cons (gt_name 5) gts_nil))) (by simp [Tg.slots, slotss]) (fun _ _ _ _ _ => (pg_tupA rfl (pgs_cons (pg_name (i := 4) screbuilt.nd rfl (Or.inl rfl)) (pgs_cons (pg_name (i := 5) screbuilt.nd rfl (Or.inl rfl)) pgs_nil)))) (fun _ _ _ _ _ => sts_nil) (fun _ _ _ _ _ => (se_add (se_sl (se_name (pv 4)) so_none (so_some se_int)) (se_tup (sa_cons (se_name (pv 5)) sa_nil))))) sa_nil)) (np1 rfl))
    (ss_one (ss_ret (se_add (se_sl (se_name (pv 0)) so_none (so_some se_int)) (se_tup (sa_cons (se_ixN (pv 1) se_int (fun _ _ => rfl)) (sa_cons (se_tup (sa_cons (se_ix (se_ixN (pv 0) se_int (fun _ _ => rfl)) se_int (fun _ _ => rfl)) (sa_cons (se_ixN (pv 1) se_int (fun _ _ => rfl)) sa_nil))) (sa_cons (se_name (pv 2)) sa_nil)))))))) ss_nil)
    (ss_cons (ss_set (i := 3) screbuilt.nd rfl (Or.inr rfl) (se_callTy call_list_of opa_list (by rfl) T.n_list (by decide +kernel) (sa_cons (se_name (pv 1)) sa_nil)) (np1 rfl))
    (ss_one (ss_ret (se_callTy call_tuple_of opa_tuple (by rfl) T.n_tuple (by decide +kernel) (sa_cons (se_lc (own := [("_law_one", 5)]) (by rfl) screbuilt.nd (si_over (se_name (pv 0))) (blkOk_by (own := [("_law_one", 5)]) (N := ["_law_program", "_law_some", "_law_rows", "_law_left", "_law_row", "_law_one"]) (sc := defScope s_rebuilt) (by decide +kernel)) (gt_name 5) (by simp [Tg.slots, slotss]) (fun _ _ _ _ _ => (pg_name (i := 5) screbuilt.nd rfl (Or.inl rfl))) (fun _ _ _ _ _ => sts_nil) (fun _ _ _ _ _ => (se_if (st_val (se_isi (se_name (pv 5)) .tuple (pe_bltn (v := .ty "tuple") (by rfl) T.n_tuple (by decide +kernel) rfl) (by rfl) T.n_isinstance (by decide +kernel))) (se_mt PySem.F.slot_list_pop PySem.F.type_list_pop mt_popAt mt_pa (pv 3) (sa_cons se_int sa_nil)) (se_name (pv 5))))) sa_nil))))))) plain
theorem k_bound (T : Txt w K mg) {C_inner : AC} {C : AC} (k : Nat) {j_inner : Nat} (G_inner : Fn P w K mg base CX0 j_inner T.a_inner T.d_inner ["_law_program"] (spA K C_inner)) (h_inner : j_inner ≤ k)
    (plain : ∀ xs R, C xs R → xs.length = 1 ∧ t_bound C_inner (retD [true] xs R) (beg 4 xs)) : Fn P w K mg base CX0 (k + 1) T.a_bound T.d_bound ["_law_program"] (spA K C) :=
  mkA T.F_bound scbound [true] (fun cdv A outer s H E vs gd hr =>
    (ss_cons (ss_set (i := 1) scbound.nd rfl (Or.inl rfl) (se_ixN (pv 0) se_int (fun _ _ => rfl)) (np1 rfl))
    (ss_cons (ss_if (st_cmp (c_in (un hr)) (se_name (pv 1)) (se_tup (sa_cons se_str (sa_cons se_str sa_nil))) (by rfl)) (ss_one (ss_ret (se_lst (sa_cons (se_sl (se_name (pv 0)) (so_some se_int) (so_some (se_neg se_int))) sa_nil)))) ss_nil)
    (ss_cons (ss_if (st_cmp (c_eq hr.units) (se_name (pv 1)) se_str (nomark _)) (ss_one (ss_ret (se_lst (sa_cons (se_tup sa_nil) (sa_cons (se_tup (sa_cons (se_ixN (pv 0) se_int (fun _ _ => rfl)) sa_nil)) sa_nil))))) ss_nil)
    (ss_cons (ss_if (st_cmp (c_in (un hr)) (se_name (pv 1)) (se_tup (sa_cons se_str (sa_cons se_str sa_nil))) (by rfl)) (ss_one (ss_ret (se_add (se_lst (sa_cons (se_tup sa_nil) (sa_cons (se_tup (sa_cons (se_ix (se_ixN (pv 0) se_int (fun _ _ => rfl)) se_int (fun _ _ => rfl)) sa_nil)) sa_nil))) (se_lc (own := [("_law_row", 2)]) (by rfl) scbound.nd (si_over (se_ixN (pv 0) se_int (fun _ _ => rfl))) (blkOk_by (own := [("_law_row", 2)]) (N := ["_law_program", "_law_word", "_law_row", "_law_one"]) (sc := defScope s_bound) (by decide +kernel)) (gt_name 2) (by simp [Tg.slots, slotss]) (fun _ _ _ _ _ => (pg_name (i := 2) scbound.nd rfl (Or.inl rfl))) (fun _ _ _ _ _ => sts_nil) (fun _ _ _ _ _ => (se_callTy call_tuple_of opa_tuple (by rfl) T.n_tuple (by decide +kernel) (sa_cons (se_lc (own := [("_law_one", 3)]) (by rfl) scbound.nd (si_over (se_sl (se_name (pv 2)) (so_some se_int) (so_some se_int))) (blkOk_by (own := [("_law_one", 3)]) (N := ["_law_program", "_law_word", "_law_row", "_law_one"]) (by kernel_rfl)) (gt_name 3) (by simp [Tg.slots, slotss]) (fun _ _ _ _ _ => (pg_name (i := 3) scbound.nd rfl (Or.inl rfl))) (fun _ _ _ _ _ => (sts_one (st_cmp (c_ne hr.units) (se_name (pv 3)) se_str (nomark _)))) (fun _ _ _ _ _ => (se_name (pv 3)))) sa_nil))))))) ss_nil)
    (ss_one (ss_ret (se_lc (own := [("_law_one", 3)]) (by rfl) scbound.nd (si_over (se_call G_inner gd (hr.mono h_inner) rfl T.g_inner T.F_inner.kp T.b_inner pass0 (sr_s (pv 0) sr_nil))) (blkOk_by (own := [("_law_one", 3)]) (N := ["_law_program", "_law_word", "_law_row", "_law_one"]) (sc := defScope s_bound) (by decide +kernel)) (gt_name 3) (by simp [Tg.slots, slotss]) (fun _ _ _ _ _ => (pg_name (i := 3) scbound.nd rfl (Or.inl rfl))) (fun _ _ _ _ _ => sts_nil) (fun _ _ _ _ _ => (se_tup sa_nil)))))))))) plain
theorem k_free (T : Txt w K mg) {C_inner C_bound C_free : AC} {C : AC} (k : Nat) {j_inner : Nat} (G_inner : Fn P w K mg base CX0 j_inner T.a_inner T.d_inner ["_law_program"] (spA K C_inner)) (h_inner : j_inner ≤ k) {j_bound : Nat} (G_bound : Fn P w K mg base CX0 j_bound T.a_bound T.d_bound ["_law_program"] (spA K C_bound)) (h_bound : j_bound ≤ k) {j_free : Nat} (G_free : Fn P w K mg base CX0 j_free T.a_free T.d_free ["_law_program"] (spA K C_free)) (h_free : j_free ≤ k)
    (plain : ∀ xs R, C xs R → xs.length = 1 ∧ t_free C_inner C_bound C_free (retD [true] xs R) (beg 5 xs)) : Fn P w K mg base CX0 (k + 1) T.a_free T.d_free ["_law_program"] (spA K C) :=
  mkA T.F_free scfree [true] (fun cdv A outer s H E vs gd hr =>
    (ss_cons (ss_set (i := 1) scfree.nd rfl (Or.inl rfl) (se_if (st_cmp (c_eq hr.units) (se_ixN (pv 0) se_int (fun _ _ => rfl)) se_str (nomark _)) (se_lst (sa_cons (se_ixN (pv 0) se_int (fun _ _ => rfl)) sa_nil)) (se_lst sa_nil)) (np1 rfl))
    (ss_cons (ss_for rfl (si_zip2 (by rfl) T.n_zip (se_call G_inner gd (hr.mono h_inner) rfl T.g_inner T.F_inner.kp T.b_inner pass0 (sr_s (pv 0) sr_nil)) (se_call G_bound gd (hr.mono h_bound) rfl T.g_bound T.F_bound.kp T.b_bound pass0 (sr_s (pv 0) sr_nil))) (pg_tupA rfl (pgs_cons (pg_name (i := 2) scfree.nd rfl (Or.inl rfl)) (pgs_cons (pg_name (i := 3) scfree.nd rfl (Or.inr rfl)) pgs_nil))) (gt_tup (gts_cons (gt_name 2) (gts_cons (gt_name 3) gts_nil))) (ss_one (ss_set (i := 1) scfree.nd rfl (Or.inl rfl) (se_add (se_name (pv 1)) (se_lc (own := [("_law_name", 4)]) (by rfl) scfree.nd (si_over (se_call G_free gd (hr.mono h_free) rfl T.g_free T.F_free.kp T.b_free pass0 (sr_s (pv 2) sr_nil))) (blkOk_by (own := [("_law_name", 4)]) (N := ["_law_program", "_law_found", "_law_one", "_law_names", "_law_name"]) (sc := defScope s_free) (by decide +kernel)) (gt_name 4) (by simp [Tg.slots, slotss]) (fun _ _ _ _ _ => (pg_name (i := 4) scfree.nd rfl (Or.inl rfl))) (fun _ _ _ _ _ => (sts_one (st_cmp (c_notIn (un hr)) (se_name (pv 4)) (se_name (pv 3)) (by rfl)))) (fun _ _ _ _ _ => (se_name (pv 4))))) (np1 rfl))) (nps (by simp [Tg.slots, slotss])) PassesOwn.never)
    (ss_one (ss_ret (se_sortedSet rfl (by rfl) T.n_sorted (by rfl) T.n_set (se_name (pv 1)))))))) plain
theorem k_slow_row (T : Txt w K mg) {C_free : AC} {C : AC} (k : Nat) {j_free : Nat} (G_free : Fn P w K mg base CX0 j_free T.a_free T.d_free ["_law_program"] (spA K C_free)) (h_free : j_free ≤ k)
    (plain : ∀ xs R, C xs R → xs.length = 1 ∧ t_slow_row C_free (retD [true] xs R) (beg 7 xs)) : Fn P w K mg base CX0 (k + 1) T.a_slow_row T.d_slow_row ["_law_row"] (spA K C) :=
  mkA T.F_slow_row scslow_row [true] (fun cdv A outer s H E vs gd hr =>
    (ss_cons (ss_if (st_cmp (c_ne hr.units) (se_ixN (pv 0) se_int (fun _ _ => rfl)) se_str (nomark _)) (ss_one (ss_ret (se_name (pv 0)))) ss_nil)
    (ss_cons (ss_asg (se_tup (sa_cons se_str (sa_cons (se_add (se_call G_free gd (hr.mono h_free) rfl T.g_free T.F_free.kp T.b_free pass0 (sr_v (se_ixN (pv 0) se_int (fun _ _ => rfl)) sr_nil)) (se_lst (sa_cons (se_ixN (pv 0) se_int (fun _ _ => rfl)) sa_nil))) sa_nil))) (pg_tupA rfl (pgs_cons (pg_name (i := 1) scslow_row.nd rfl (Or.inl rfl)) (pgs_cons (pg_name (i := 2) scslow_row.nd rfl (Or.inr rfl)) pgs_nil))) (gt_tup (gts_cons (gt_name 1) (gts_cons (gt_name 2) gts_nil))) (nps (by simp [Tg.slots, slotss])))
    (ss_cons (ss_setLc (own := [("_law_one", 4)]) (i := 3) (by rfl) scslow_row.nd rfl rfl (sw_true rfl rfl rfl (by decide +kernel)) (si_over (se_name (pv 1))) (blkOk_by (own := [("_law_one", 4)]) (N := ["_law_row", "_law_letters", "_law_taken", "_law_some", "_law_one", "_law_kept", "_law_other"]) (sc := defScope s_slow_row) (by decide +kernel)) (gt_name 4) (by simp [Tg.slots, slotss]) (np1 rfl) (fun _ _ _ _ _ => (pg_name (i := 4) scslow_row.nd rfl (Or.inl rfl))) (fun _ _ _ _ _ => sts_nil) (fun _ _ _ _ _ => (se_add se_str (se_name (pv 4)))))
    (ss_cons (ss_for rfl (si_over (se_name (pv 1))) (pg_name (i := 4) scslow_row.nd rfl (Or.inr rfl)) (gt_name 4) (ss_one (ss_set (i := 3) scslow_row.nd rfl (Or.inl rfl) (se_add (se_name (pv 3)) (se_lc (own := [("_law_other", 6)]) (by rfl) scslow_row.nd (si_over (se_name (pv 1))) (blkOk_by (own := [("_law_other", 6)]) (N := ["_law_row", "_law_letters", "_law_taken", "_law_some", "_law_one", "_law_kept", "_law_other"]) (sc := defScope s_slow_row) (by decide +kernel)) (gt_name 6) (by simp [Tg.slots, slotss]) (fun _ _ _ _ _ => (pg_name (i := 6) scslow_row.nd rfl (Or.inl rfl))) (fun _ _ _ _ _ => sts_nil) (fun _ _ _ _ _ => (se_add (se_add se_str (se_name (pv 4))) (se_name (pv 6)))))) (np1 rfl))) (nps (by simp [Tg.slots, slotss])) PassesOwn.never)
    (ss_cons (ss_set (i := 5) scslow_row.nd rfl (Or.inl rfl) (se_ix (se_lc (own := [("_law_one", 4)]) (by rfl) scslow_row.nd (si_over (se_name (pv 3))) (blkOk_by (own := [("_law_one", 4)]) (N := ["_law_row", "_law_letters", "_law_taken", "_law_some", "_law_one", "_law_kept", "_law_other"]) (sc := defScope s_slow_row) (by decide +kernel)) (gt_name 4) (by simp [Tg.slots, slotss]) (fun _ _ _ _ _ => (pg_name (i := 4) scslow_row.nd rfl (Or.inl rfl))) (fun _ _ _ _ _ => (sts_one (st_cmp (c_notIn (un hr)) (se_name (pv 4)) (se_name (pv 2)) (by rfl)))) (fun _ _ _ _ _ => (se_name (pv 4)))) se_int (fun _ _ => rfl)) (np1 rfl))
    (ss_one (ss_ret (se_tup (sa_cons (se_ixN (pv 0) se_int (fun _ _ => rfl)) (sa_cons se_str (sa_cons (se_ixN (pv 0) se_int (fun _ _ => rfl)) (sa_cons (se_name (pv 5)) (sa_cons (se_tup (sa_cons se_str (sa_cons (se_tup (sa_cons se_str (sa_cons (se_name (pv 5)) sa_nil))) (sa_cons (se_ixN (pv 0) se_int (fun _ _ => rfl)) sa_nil)))) sa_nil)))))))))))))) plain
theorem k_quick_row (T : Txt w K mg) {C_free : AC} {C : AC} (k : Nat) {j_free : Nat} (G_free : Fn P w K mg base CX0 j_free T.a_free T.d_free ["_law_program"] (spA K C_free)) (h_free : j_free ≤ k)
    (plain : ∀ xs R, C xs R → xs.length = 1 ∧ t_quick_row C_free (retD [true] xs R) (beg 1 xs)) : Fn P w K mg base CX0 (k + 1) T.a_quick_row T.d_quick_row ["_law_row"] (spA K C) :=
  mkA T.F_quick_row scquick_row [true] (fun cdv A outer s H E vs gd hr =>
    (ss_cons (ss_if (st_of (sw_and (st_cmp (c_eq hr.units) (se_ixN (pv 0) se_int (fun _ _ => rfl)) se_str (nomark _)) (sw_and (st_cmp (c_eqM hr.units) (se_sl (se_ixN (pv 0) se_int (fun _ _ => rfl)) so_none (so_some se_int)) (se_tup (sa_cons se_str (sa_cons (se_tup (sa_cons se_str (sa_cons (se_ixN (pv 0) se_int (fun _ _ => rfl)) sa_nil))) sa_nil))) (nomark _)) (sw_and1 (st_cmp (c_notIn (un hr)) (se_ixN (pv 0) se_int (fun _ _ => rfl)) (se_call G_free gd (hr.mono h_free) rfl T.g_free T.F_free.kp T.b_free pass0 (sr_v (se_ix (se_ixN (pv 0) se_int (fun _ _ => rfl)) se_int (fun _ _ => rfl)) sr_nil)) (by rfl)))))) (ss_one (ss_ret (se_tup (sa_cons (se_ixN (pv 0) se_int (fun _ _ => rfl)) (sa_cons se_str (sa_cons (se_ixN (pv 0) se_int (fun _ _ => rfl)) (sa_cons se_str (sa_cons (se_ix (se_ixN (pv 0) se_int (fun _ _ => rfl)) se_int (fun _ _ => rfl)) sa_nil)))))))) ss_nil)
    (ss_one (ss_ret (se_name (pv 0)))))) plain
theorem k_slowed (T : Txt w K mg) {C_rebuilt C_inner C_slowed C_slow_row : AC} {C : AC} (k : Nat) {j_rebuilt : Nat} (G_rebuilt : Fn P w K mg base CX0 j_rebuilt T.a_rebuilt T.d_rebuilt ["_law_program", "_law_some"] (spA K C_rebuilt)) (h_rebuilt : j_rebuilt ≤ k) {j_inner : Nat} (G_inner : Fn P w K mg base CX0 j_inner T.a_inner T.d_inner ["_law_program"] (spA K C_inner)) (h_inner : j_inner ≤ k) {j_slowed : Nat} (G_slowed : Fn P w K mg base CX0 j_slowed T.a_slowed T.d_slowed ["_law_program"] (spA K C_slowed)) (h_slowed : j_slowed ≤ k) {j_slow_row : Nat} (G_slow_row : Fn P w K mg base CX0 j_slow_row T.a_slow_row T.d_slow_row ["_law_row"] (spA K C_slow_row)) (h_slow_row : j_slow_row ≤ k)
    (plain : ∀ xs R, C xs R → xs.length = 1 ∧ t_slowed C_rebuilt C_inner C_slowed C_slow_row (retD [true] xs R) (beg 4 xs)) : Fn P w K mg base CX0 (k + 1) T.a_slowed T.d_slowed ["_law_program"] (spA K C) :=
  mkA T.F_slowed scslowed [true] (fun cdv A outer s H E vs gd hr =>
    (ss_cons (ss_set (i := 1) scslowed.nd rfl (Or.inl rfl) (se_call G_rebuilt gd (hr.mono h_rebuilt) rfl T.g_rebuilt T.F_rebuilt.kp T.b_rebuilt pass0 (sr_s (pv 0) (sr_v (se_lc (own := [("_law_one", 2)]) (by rfl) scslowed.nd (si_over (se_call G_inner gd (hr.mono h_inner) rfl T.g_inner T.F_inner.kp T.b_inner pass0 (sr_s (pv 0) sr_nil))) (blkOk_by (own := [("_law_one", 2)]) (N := ["_law_program", "_law_found", "_law_one", "_law_row"]) (sc := defScope s_slowed) (by decide +kernel)) (gt_name 2) (by simp [Tg.slots, slotss]) (fun _ _ _ _ _ => (pg_name (i := 2) scslowed.nd rfl (Or.inl rfl))) (fun _ _ _ _ _ => sts_nil) (fun _ _ _ _ _ => (se_call G_slowed gd (hr.mono h_slowed) rfl T.g_slowed T.F_slowed.kp T.b_slowed pass0 (sr_s (pv 2) sr_nil)))) sr_nil))) (np1 rfl))
    (ss_cons (ss_if (st_cmp (c_notIn (un hr)) (se_ixN (pv 1) se_int (fun _ _ => rfl)) (se_tup (sa_cons se_str (sa_cons se_str sa_nil))) (by rfl)) (ss_one (ss_ret (se_move (pv 1)))) ss_nil)
    (ss_one (ss_ret (se_add (se_sl (se_name (pv 1)) so_none (so_some se_int)) (se_tup (sa_cons (se_callTy call_tuple_of opa_tuple (by rfl) T.n_tuple (by decide +kernel) (sa_cons (se_lc (own := [("_law_row", 3)]) (by rfl) scslowed.nd (si_over (se_ixN (pv 1) se_int (fun _ _ => rfl))) (blkOk_by (own := [("_law_row", 3)]) (N := ["_law_program", "_law_found", "_law_one", "_law_row"]) (sc := defScope s_slowed) (by decide +kernel)) (gt_name 3) (by simp [Tg.slots, slotss]) (fun _ _ _ _ _ => (pg_name (i := 3) scslowed.nd rfl (Or.inl rfl))) (fun _ _ _ _ _ => sts_nil) (fun _ _ _ _ _ => (se_call G_slow_row gd (hr.mono h_slow_row) rfl T.g_slow_row T.F_slow_row.kp T.b_slow_row pass0 (sr_s (pv 3) sr_nil)))) sa_nil)) sa_nil)))))))) plain
theorem k_quickened (T : Txt w K mg) {C_rebuilt C_inner C_quickened C_quick_row : AC} {C : AC} (k : Nat) {j_rebuilt : Nat} (G_rebuilt : Fn P w K mg base CX0 j_rebuilt T.a_rebuilt T.d_rebuilt ["_law_program", "_law_some"] (spA K C_rebuilt)) (h_rebuilt : j_rebuilt ≤ k) {j_inner : Nat} (G_inner : Fn P w K mg base CX0 j_inner T.a_inner T.d_inner ["_law_program"] (spA K C_inner)) (h_inner : j_inner ≤ k) {j_quickened : Nat} (G_quickened : Fn P w K mg base CX0 j_quickened T.a_quickened T.d_quickened ["_law_program"] (spA K C_quickened)) (h_quickened : j_quickened ≤ k) {j_quick_row : Nat} (G_quick_row : Fn P w K mg base CX0 j_quick_row T.a_quick_row T.d_quick_row ["_law_row"] (spA K C_quick_row)) (h_quick_row : j_quick_row ≤ k)
    (plain : ∀ xs R, C xs R → xs.length = 1 ∧ t_quickened C_rebuilt C_inner C_quickened C_quick_row (retD [true] xs R) (beg 4 xs)) : Fn P w K mg base CX0 (k + 1) T.a_quickened T.d_quickened ["_law_program"] (spA K C) :=
  mkA T.F_quickened scquickened [true] (fun cdv A outer s H E vs gd hr =>
    (ss_cons (ss_set (i := 1) scquickened.nd rfl (Or.inl rfl) (se_call G_rebuilt gd (hr.mono h_rebuilt) rfl T.g_rebuilt T.F_rebuilt.kp T.b_rebuilt pass0 (sr_s (pv 0) (sr_v (se_lc (own := [("_law_one", 2)]) (by rfl) scquickened.nd (si_over (se_call G_inner gd (hr.mono h_inner) rfl T.g_inner T.F_inner.kp T.b_inner pass0 (sr_s (pv 0) sr_nil))) (blkOk_by (own := [("_law_one", 2)]) (N := ["_law_program", "_law_found", "_law_one", "_law_row"]) (sc := defScope s_quickened) (by decide +kernel)) (gt_name 2) (by simp [Tg.slots, slotss]) (fun _ _ _ _ _ => (pg_name (i := 2) scquickened.nd rfl (Or.inl rfl))) (fun _ _ _ _ _ => sts_nil) (fun _ _ _ _ _ => (se_call G_quickened gd (hr.mono h_quickened) rfl T.g_quickened T.F_quickened.kp T.b_quickened pass0 (sr_s (pv 2) sr_nil)))) sr_nil))) (np1 rfl))
    (ss_cons (ss_if (st_of (sw_or (st_cmp (c_notIn (un hr)) (se_ixN (pv 1) se_int (fun _ _ => rfl)) (se_tup (sa_cons se_str (sa_cons se_str sa_nil))) (by rfl)) (sw_or1 (st_cmp (c_eqM hr.units) (se_sl (se_name (pv 1)) so_none (so_some se_int)) (se_tup (sa_cons se_str (sa_cons se_str sa_nil))) (nomark _))))) (ss_one (ss_ret (se_move (pv 1)))) ss_nil)
    (ss_one (ss_ret (se_add (se_sl (se_name (pv 1)) so_none (so_some se_int)) (se_tup (sa_cons (se_callTy call_tuple_of opa_tuple (by rfl) T.n_tuple (by decide +kernel) (sa_cons (se_lc (own := [("_law_row", 3)]) (by rfl) scquickened.nd (si_over (se_ixN (pv 1) se_int (fun _ _ => rfl))) (blkOk_by (own := [("_law_row", 3)]) (N := ["_law_program", "_law_found", "_law_one", "_law_row"]) (sc := defScope s_quickened) (by decide +kernel)) (gt_name 3) (by simp [Tg.slots, slotss]) (fun _ _ _ _ _ => (pg_name (i := 3) scquickened.nd rfl (Or.inl rfl))) (fun _ _ _ _ _ => sts_nil) (fun _ _ _ _ _ => (se_call G_quick_row gd (hr.mono h_quick_row) rfl T.g_quick_row T.F_quick_row.kp T.b_quick_row pass0 (sr_s (pv 3) sr_nil)))) sa_nil)) sa_nil)))))))) plain
theorem k_quick_ones (T : Txt w K mg) {C_inner C_quick_ones : AC} {C : AC} (k : Nat) {j_inner : Nat} (G_inner : Fn P w K mg base CX0 j_inner T.a_inner T.d_inner ["_law_program"] (spA K C_inner)) (h_inner : j_inner ≤ k) {j_quick_ones : Nat} (G_quick_ones : Fn P w K mg base CX0 j_quick_ones T.a_quick_ones T.d_quick_ones ["_law_program", "_law_place"] (spA K C_quick_ones)) (h_quick_ones : j_quick_ones ≤ k)
    (plain : ∀ xs R, C xs R → xs.length = 2 ∧ t_quick_ones C_inner C_quick_ones (retD [true, true] xs R) (beg 6 xs)) : Fn P w K mg base CX0 (k + 1) T.a_quick_ones T.d_quick_ones ["_law_program", "_law_place"] (spA K C) :=
  mkA T.F_quick_ones scquick_ones [true, true] (fun cdv A outer s H E vs gd hr =>
    (ss_cons (ss_set (i := 2) scquick_ones.nd rfl (Or.inl rfl) (se_lst sa_nil) (np1 rfl))
    (ss_cons (ss_if (st_cmp (c_in (un hr)) (se_ixN (pv 0) se_int (fun _ _ => rfl)) (se_tup (sa_cons se_str (sa_cons se_str sa_nil))) (by rfl)) (ss_one (ss_setLc (own := [("_law_row", 5)]) (i := 2) (by rfl) scquick_ones.nd rfl rfl (sw_true rfl rfl rfl (by decide +kernel)) (si_over (se_ixN (pv 0) se_int (fun _ _ => rfl))) (blkOk_by (own := [("_law_row", 5)]) (N := ["_law_program", "_law_place", "_law_found", "_law_number", "_law_one", "_law_row"]) (sc := defScope s_quick_ones) (by decide +kernel)) (gt_name 5) (by simp [Tg.slots, slotss]) (np1 rfl) (fun _ _ _ _ _ => (pg_name (i := 5) scquick_ones.nd rfl (Or.inl rfl))) (fun _ _ _ _ _ => (sts_one (st_cmp (c_eq hr.units) (se_ixN (pv 5) se_int (fun _ _ => rfl)) se_str (nomark _)))) (fun _ _ _ _ _ => (se_tup (sa_cons (se_name (pv 1)) (sa_cons (se_ixN (pv 5) se_int (fun _ _ => rfl)) sa_nil)))))) ss_nil)
    (ss_cons (ss_for rfl (si_enum (by rfl) T.n_enumerate (se_call G_inner gd (hr.mono h_inner) rfl T.g_inner T.F_inner.kp T.b_inner pass0 (sr_s (pv 0) sr_nil))) (pg_tupA rfl (pgs_cons (pg_name (i := 3) scquick_ones.nd rfl (Or.inl rfl)) (pgs_cons (pg_name (i := 4) scquick_ones.nd rfl (Or.inl rfl)) pgs_nil))) (gt_tup (gts_cons (gt_name 3) (gts_cons (gt_name 4) gts_nil))) (ss_one (ss_set (i := 2) scquick_ones.nd rfl (Or.inl rfl) (se_add (se_name (pv 2)) (se_call G_quick_ones gd (hr.mono h_quick_ones) rfl T.g_quick_ones T.F_quick_ones.kp T.b_quick_ones pass0 (sr_s (pv 4) (sr_v (se_add (se_name (pv 1)) (se_tup (sa_cons (se_name (pv 3)) sa_nil))) sr_nil)))) (np1 rfl))) (nps (by simp [Tg.slots, slotss])) PassesOwn.never)
    (ss_one (ss_ret (se_move (pv 2)))))))) plain
theorem k_last_calls (T : Txt w K mg) {C_rebuilt C_inner C_last_calls C_one_of C_take : AC} {C : AC} (k : Nat) {j_rebuilt : Nat} (G_rebuilt : Fn P w K mg base CX0 j_rebuilt T.a_rebuilt T.d_rebuilt ["_law_program", "_law_some"] (spA K C_rebuilt)) (h_rebuilt : j_rebuilt ≤ k) {j_inner : Nat} (G_inner : Fn P w K mg base CX0 j_inner T.a_inner T.d_inner ["_law_program"] (spA K C_inner)) (h_inner : j_inner ≤ k) {j_last_calls : Nat} (G_last_calls : Fn P w K mg base CX0 j_last_calls T.a_last_calls T.d_last_calls ["_law_box", "_law_program"] (spA K C_last_calls)) (h_last_calls : j_last_calls ≤ k) {j_one_of : Nat} (G_one_of : Fn P w K mg base CX0 j_one_of T.a_one_of T.d_one_of ["_law_box", "_law_some"] (spA K C_one_of)) (h_one_of : j_one_of ≤ k) {j_take : Nat} (G_take : Fn P w K mg base CX0 j_take T.a_take T.d_take ["_law_box", "_law_many"] (spA K C_take)) (h_take : j_take ≤ k)
    (plain : ∀ xs R, C xs R → xs.length = 2 ∧ t_last_calls C_rebuilt C_inner C_last_calls C_one_of C_take (retD [true, true] xs R) (beg 13 xs)) : Fn P w K mg base CX0 (k + 1) T.a_last_calls T.d_last_calls ["_law_box", "_law_program"] (spA K C) :=
  mkA T.F_last_calls sclast_calls [true, true] (fun cdv A outer s H E vs gd hr =>
    (ss_cons (ss_set (i := 2) sclast_calls.nd rfl (Or.inl rfl) (se_call G_rebuilt gd (hr.mono h_rebuilt) rfl T.g_rebuilt T.F_rebuilt.kp T.b_rebuilt pass0 (sr_s (pv 1) (sr_v (se_lc (own := [("_law_one", 12)]) (by rfl) sclast_calls.nd (si_over (se_call G_inner gd (hr.mono h_inner) rfl T.g_inner T.F_inner.kp T.b_inner pass0 (sr_s (pv 1) sr_nil))) (blkOk_by (own := [("_law_one", 12)]) (N := ["_law_box", "_law_program", "_law_found", "_law_rows", "_law_deed", "_law_how", "_law_name", "_law_kept", "_law_rest", "_law_way", "_law_own", "_law_some", "_law_one"]) (sc := defScope s_last_calls) (by decide +kernel)) (gt_name 12) (by simp [Tg.slots, slotss]) (fun _ _ _ _ _ => (pg_name (i := 12) sclast_calls.nd rfl (Or.inl rfl))) (fun _ _ _ _ _ => sts_nil) (fun _ _ _ _ _ => (se_call G_last_calls gd (hr.mono h_last_calls) rfl T.g_last_calls T.F_last_calls.kp T.b_last_calls pass0 (sr_s (pv 0) (sr_s (pv 12) sr_nil))))) sr_nil))) (np1 rfl))
    (ss_cons (ss_if (st_cmp (c_notIn (un hr)) (se_ixN (pv 2) se_int (fun _ _ => rfl)) (se_tup (sa_cons se_str (sa_cons se_str sa_nil))) (by rfl)) (ss_one (ss_ret (se_move (pv 2)))) ss_nil)
    (ss_cons (ss_set (i := 3) sclast_calls.nd rfl (Or.inl rfl) (se_lst sa_nil) (np1 rfl))
    (ss_cons (ss_for rfl (si_over (se_ixN (pv 2) se_int (fun _ _ => rfl))) (pg_tupA rfl (pgs_cons (pg_name (i := 4) sclast_calls.nd rfl (Or.inl rfl)) (pgs_cons (pg_name (i := 5) sclast_calls.nd rfl (Or.inl rfl)) (pgs_cons (pg_name (i := 6) sclast_calls.nd rfl (Or.inl rfl)) (pgs_cons (pg_name (i := 7) sclast_calls.nd rfl (Or.inl rfl)) (pgs_cons (pg_name (i := 8) sclast_calls.nd rfl (Or.inl rfl)) pgs_nil)))))) (gt_tup (gts_cons (gt_name 4) (gts_cons (gt_name 5) (gts_cons (gt_name 6) (gts_cons (gt_name 7) (gts_cons (gt_name 8) gts_nil)))))) (ss_cons (ss_par2 (i := 9) (j := 10) (by rfl) sclast_calls.nd rfl rfl (by decide) rfl rfl (sa_cons (se_call G_take gd (hr.mono h_take) rfl T.g_take T.F_take.kp T.b_take pass0 (sr_s (pv 0) (sr_v se_int sr_nil))) (sa_cons (se_call G_one_of gd (hr.mono h_one_of) rfl T.g_one_of T.F_one_of.kp T.b_one_of pass0 (sr_s (pv 0) (sr_v (se_lst (sa_cons se_str (sa_cons se_str (sa_cons se_str sa_nil)))) sr_nil))) sa_nil)) (by rfl) (np1 rfl) (np1 rfl))
    (ss_one (ss_if (st_of (sw_and (st_cmp c_lt (se_name (pv 9)) se_int (nomark _)) (sw_and1 (st_cmp (c_ne hr.units) (se_name (pv 10)) (se_name (pv 6)) (nomark _))))) (ss_cons (ss_set (i := 11) sclast_calls.nd rfl (Or.inl rfl) (se_lst (sa_cons (se_name (pv 8)) (sa_cons (se_tup (sa_cons se_str (sa_cons (se_name (pv 10)) (sa_cons (se_tup (sa_cons se_str (sa_cons se_int sa_nil))) (sa_cons (se_name (pv 8)) sa_nil))))) (sa_cons (se_tup (sa_cons se_str (sa_cons se_str (sa_cons (se_name (pv 8)) (sa_cons (se_tup (sa_cons se_str (sa_cons se_int sa_nil))) sa_nil))))) sa_nil)))) (np1 rfl))
    (ss_cons (ss_set (i := 8) sclast_calls.nd rfl (Or.inl rfl) (se_tup (sa_cons se_str (sa_cons (se_tup (sa_cons se_str (sa_cons (se_name (pv 10)) sa_nil))) (sa_cons (se_if (st_cmp (c_eq hr.units) (se_name (pv 5)) se_str (nomark _)) (se_ixN (pv 11) (se_name (pv 9)) (fun _ _ => rfl)) (se_call G_one_of gd (hr.mono h_one_of) rfl T.g_one_of T.F_one_of.kp T.b_one_of pass0 (sr_s (pv 0) (sr_s (pv 11) sr_nil)))) sa_nil)))) (np1 rfl))
    (ss_one (ss_expr (se_mt PySem.F.slot_list_append PySem.F.type_list_append mt_append mt_ap (pv 3) (sa_cons (se_tup (sa_cons (se_name (pv 4)) (sa_cons se_str (sa_cons (se_name (pv 6)) (sa_cons (se_name (pv 10)) (sa_cons (se_name (pv 8)) sa_nil)))))) sa_nil)))))) (ss_one (ss_expr (se_mt PySem.F.slot_list_append PySem.F.type_list_append mt_append mt_ap (pv 3) (sa_cons (se_tup (sa_cons (se_name (pv 4)) (sa_cons (se_name (pv 5)) (sa_cons (se_name (pv 6)) (sa_cons (se_name (pv 7)) (sa_cons (se_name (pv 8)) sa_nil)))))) sa_nil))))))) (nps (by simp [Tg.slots, slotss])) PassesOwn.never)
    (ss_one (ss_ret (se_add (se_sl (se_name (pv 2)) so_none (so_some se_int)) (se_tup (sa_cons (se_callTy call_tuple_of opa_tuple (by rfl) T.n_tuple (by decide +kernel) (sa_cons (se_name (pv 3)) sa_nil)) sa_nil)))))))))) plain
theorem k_parts_in (T : Txt w K mg) {C_inner C_parts_in : AC} {C : AC} (k : Nat) {j_inner : Nat} (G_inner : Fn P w K mg base CX0 j_inner T.a_inner T.d_inner ["_law_program"] (spA K C_inner)) (h_inner : j_inner ≤ k) {j_parts_in : Nat} (G_parts_in : Fn P w K mg base CX0 j_parts_in T.a_parts_in T.d_parts_in ["_law_program"] (spA K C_parts_in)) (h_parts_in : j_parts_in ≤ k)
    (plain : ∀ xs R, C xs R → xs.length = 1 ∧ t_parts_in C_inner C_parts_in (retD [true] xs R) (beg 2 xs)) : Fn P w K mg base CX0 (k + 1) T.a_parts_in T.d_parts_in ["_law_program"] (spA K C) :=
  mkA T.F_parts_in scparts_in [true] (fun cdv A outer s H E vs gd hr =>
    (ss_one (ss_ret (se_add se_int (se_callB (cr_sum rfl) opa_sum (by rfl) T.n_sum (by decide +kernel) (sa_cons (se_lc (own := [("_law_one", 1)]) (by rfl) scparts_in.nd (si_over (se_call G_inner gd (hr.mono h_inner) rfl T.g_inner T.F_inner.kp T.b_inner pass0 (sr_s (pv 0) sr_nil))) (blkOk_by (own := [("_law_one", 1)]) (N := ["_law_program", "_law_one"]) (sc := defScope s_parts_in) (by decide +kernel)) (gt_name 1) (by simp [Tg.slots, slotss]) (fun _ _ _ _ _ => (pg_name (i := 1) scparts_in.nd rfl (Or.inl rfl))) (fun _ _ _ _ _ => sts_nil) (fun _ _ _ _ _ => (se_call G_parts_in gd (hr.mono h_parts_in) rfl T.g_parts_in T.F_parts_in.kp T.b_parts_in pass0 (sr_s (pv 1) sr_nil)))) sa_nil)))))) plain
theorem k_one_right (T : Txt w K mg) {C_quickened C_slowed C_same C_p_quickened C_p_slowed C_p_quick_ones C_quick_ones : AC} {C : AC} (k : Nat) {j_quickened : Nat} (G_quickened : Fn P w K mg base CX0 j_quickened T.a_quickened T.d_quickened ["_law_program"] (spA K C_quickened)) (h_quickened : j_quickened ≤ k) {j_slowed : Nat} (G_slowed : Fn P w K mg base CX0 j_slowed T.a_slowed T.d_slowed ["_law_program"] (spA K C_slowed)) (h_slowed : j_slowed ≤ k) {j_same : Nat} (G_same : Fn P w K mg base CX0 j_same T.a_same T.d_same ["_law_found", "_law_due"] (spA K C_same)) (h_same : j_same ≤ k) {j_p_quickened : Nat} (G_p_quickened : Fn P w K mg base CX0 j_p_quickened T.a_p_quickened T.d_p_quickened ["term"] (spA K C_p_quickened)) (h_p_quickened : j_p_quickened ≤ k) {j_p_slowed : Nat} (G_p_slowed : Fn P w K mg base CX0 j_p_slowed T.a_p_slowed T.d_p_slowed ["term"] (spA K C_p_slowed)) (h_p_slowed : j_p_slowed ≤ k) {j_p_quick_ones : Nat} (G_p_quick_ones : Fn P w K mg base CX0 j_p_quick_ones T.a_p_quick_ones T.d_p_quick_ones ["term"] (spA K C_p_quick_ones)) (h_p_quick_ones : j_p_quick_ones ≤ k) {j_quick_ones : Nat} (G_quick_ones : Fn P w K mg base CX0 j_quick_ones T.a_quick_ones T.d_quick_ones ["_law_program", "_law_place"] (spA K C_quick_ones)) (h_quick_ones : j_quick_ones ≤ k)
    (plain : ∀ xs R, C xs R → xs.length = 1 ∧ t_one_right C_quickened C_slowed C_same C_p_quickened C_p_slowed C_p_quick_ones C_quick_ones (retD [true] xs R) (beg 8 xs)) : Fn P w K mg base CX0 (k + 1) T.a_one_right T.d_one_right ["_law_one"] (spA K C) :=
  mkA T.F_one_right scone_right [true] (fun cdv A outer s H E vs gd hr =>
    (ss_cons (ss_par3 (i := 1) (j := 2) (l := 3) (by rfl) scone_right.nd rfl rfl rfl (by decide) (by decide) (by decide) rfl rfl rfl (sa_cons (se_call G_slowed gd (hr.mono h_slowed) rfl T.g_slowed T.F_slowed.kp T.b_slowed pass0 (sr_s (pv 0) sr_nil)) (sa_cons (se_call G_quickened gd (hr.mono h_quickened) rfl T.g_quickened T.F_quickened.kp T.b_quickened pass0 (sr_s (pv 0) sr_nil)) (sa_cons (se_callB (call_reprD gd hr.units) opa_repr (by rfl) T.n_repr (by decide +kernel) (sa_cons (se_name (pv 0)) sa_nil)) sa_nil))) (by rfl) (np1 rfl) (np1 rfl) (np1 rfl))
    (ss_cons (ss_if (st_not (st_val (se_call G_same gd (hr.mono h_same) rfl T.g_same T.F_same.kp T.b_same pass0 (sr_v (se_lst (sa_cons (se_call G_p_slowed gd (hr.mono h_p_slowed) rfl T.g_p_slowed T.F_p_slowed.kp T.b_p_slowed pass0 (sr_s (pv 0) sr_nil)) (sa_cons (se_call G_p_quickened gd (hr.mono h_p_quickened) rfl T.g_p_quickened T.F_p_quickened.kp T.b_p_quickened pass0 (sr_s (pv 0) sr_nil)) sa_nil))) (sr_v (se_lst (sa_cons (se_name (pv 1)) (sa_cons (se_name (pv 2)) sa_nil))) sr_nil))))) (ss_one (ss_ret se_bl)) ss_nil)
    (ss_cons (ss_if (st_not (st_val (se_call G_same gd (hr.mono h_same) rfl T.g_same T.F_same.kp T.b_same pass0 (sr_v (se_lst (sa_cons (se_call G_p_slowed gd (hr.mono h_p_slowed) rfl T.g_p_slowed T.F_p_slowed.kp T.b_p_slowed pass0 (sr_s (pv 1) sr_nil)) (sa_cons (se_call G_p_quickened gd (hr.mono h_p_quickened) rfl T.g_p_quickened T.F_p_quickened.kp T.b_p_quickened pass0 (sr_s (pv 2) sr_nil)) (sa_cons (se_call G_p_quickened gd (hr.mono h_p_quickened) rfl T.g_p_quickened T.F_p_quickened.kp T.b_p_quickened pass0 (sr_s (pv 1) sr_nil)) (sa_cons (se_call G_p_quick_ones gd (hr.mono h_p_quick_ones) rfl T.g_p_quick_ones T.F_p_quick_ones.kp T.b_p_quick_ones pass0 (sr_s (pv 1) sr_nil)) sa_nil))))) (sr_v (se_lst (sa_cons (se_name (pv 1)) (sa_cons (se_name (pv 2)) (sa_cons (se_name (pv 2)) (sa_cons (se_lst sa_nil) sa_nil))))) sr_nil))))) (ss_one (ss_ret se_bl)) ss_nil)
    (ss_cons (ss_par2 (i := 4) (j := 5) (by rfl) scone_right.nd rfl rfl (by decide) rfl rfl (sa_cons (se_call G_quick_ones gd (hr.mono h_quick_ones) rfl T.g_quick_ones T.F_quick_ones.kp T.b_quick_ones pass0 (sr_s (pv 0) (sr_v (se_tup sa_nil) sr_nil))) (sa_cons (se_call G_quick_ones gd (hr.mono h_quick_ones) rfl T.g_quick_ones T.F_quick_ones.kp T.b_quick_ones pass0 (sr_s (pv 2) (sr_v (se_tup sa_nil) sr_nil))) sa_nil)) (by rfl) (np1 rfl) (np1 rfl))
    (ss_cons (ss_for rfl (si_rng (by rfl) T.n_range se_int) (pg_name (i := 6) scone_right.nd rfl (Or.inl rfl)) (gt_name 6) (ss_cons (ss_set (i := 7) scone_right.nd rfl (Or.inl rfl) (se_lst (sa_cons (se_call G_p_quick_ones gd (hr.mono h_p_quick_ones) rfl T.g_p_quick_ones T.F_p_quick_ones.kp T.b_p_quick_ones pass0 (sr_s (pv 0) sr_nil)) (sa_cons (se_call G_p_quick_ones gd (hr.mono h_p_quick_ones) rfl T.g_p_quick_ones T.F_p_quick_ones.kp T.b_p_quick_ones pass0 (sr_s (pv 2) sr_nil)) sa_nil))) (np1 rfl))
    (ss_cons (ss_if (st_not (st_val (se_call G_same gd (hr.mono h_same) rfl T.g_same T.F_same.kp T.b_same pass0 (sr_s (pv 7) (sr_v (se_lst (sa_cons (se_name (pv 4)) (sa_cons (se_name (pv 5)) sa_nil))) sr_nil))))) (ss_one (ss_ret se_bl)) ss_nil)
    (ss_cons (ss_expr (se_mtK (hu_of hr) PySem.F.slot_list_append PySem.F.type_list_append mt_append mt_ap (pv 7) se_int (fun _ _ => rfl) (sa_cons se_str sa_nil)))
    (ss_one (ss_expr (se_mtK0 (hu_of hr) PySem.F.slot_list_reverse PySem.F.type_list_reverse mt_reverse mt_rev (pv 7) se_int (fun _ _ => rfl))))))) (nps (by simp [Tg.slots, slotss])) PassesOwn.never)
    (ss_one (ss_ret (se_cmp (c_eq hr.units) (se_callB (call_reprD gd hr.units) opa_repr (by rfl) T.n_repr (by decide +kernel) (sa_cons (se_name (pv 0)) sa_nil)) (se_name (pv 3)) (nomark _)))))))))) plain
theorem k_right (T : Txt w K mg) {C_named C_take C_any C_last_calls C_one_right C_parts_in : AC} {C : AC} (k : Nat) {j_named : Nat} (G_named : Fn P w K mg base CX0 j_named T.a_named T.d_named ["_law_box", "_law_many"] (spA K C_named)) (h_named : j_named ≤ k) {j_take : Nat} (G_take : Fn P w K mg base CX0 j_take T.a_take T.d_take ["_law_box", "_law_many"] (spA K C_take)) (h_take : j_take ≤ k) {j_any : Nat} (G_any : Fn P w K mg base CX0 j_any T.a_any T.d_any ["_law_box", "_law_names", "_law_hs", "_law_deeds", "_law_room"] (spA K C_any)) (h_any : j_any ≤ k) {j_last_calls : Nat} (G_last_calls : Fn P w K mg base CX0 j_last_calls T.a_last_calls T.d_last_calls ["_law_box", "_law_program"] (spA K C_last_calls)) (h_last_calls : j_last_calls ≤ k) {j_one_right : Nat} (G_one_right : Fn P w K mg base CX0 j_one_right T.a_one_right T.d_one_right ["_law_one"] (spA K C_one_right)) (h_one_right : j_one_right ≤ k) {j_parts_in : Nat} (G_parts_in : Fn P w K mg base CX0 j_parts_in T.a_parts_in T.d_parts_in ["_law_program"] (spA K C_parts_in)) (h_parts_in : j_parts_in ≤ k)
    (plain : ∀ xs R, C xs R → xs.length = 1 ∧ t_right C_named C_take C_any C_last_calls C_one_right C_parts_in (retD [true] xs R) (beg 6 xs)) : Fn P w K mg base CX0 (k + 1) T.a_right T.d_right ["_law_box"] (spA K C) :=
  mkA T.F_right scright [true] (fun cdv A outer s H E vs gd hr =>
    (ss_cons (ss_set (i := 1) scright.nd rfl (Or.inl rfl) (se_callB (cr_sortedS.or cr_sortedTS) opa_sorted (by rfl) T.n_sorted (by decide +kernel) (sa_cons (se_call G_named gd (hr.mono h_named) rfl T.g_named T.F_named.kp T.b_named pass0 (sr_s (pv 0) (sr_v se_int sr_nil))) sa_nil)) (np1 rfl))
    (ss_cons (ss_for rfl (si_rng (by rfl) T.n_range se_int) (pg_name (i := 2) scright.nd rfl (Or.inl rfl)) (gt_name 2) (ss_cons (ss_set (i := 3) scright.nd rfl (Or.inl rfl) (se_ix (se_lst (sa_cons (se_lst (sa_cons se_str (sa_cons se_str (sa_cons se_str sa_nil)))) (sa_cons (se_lst (sa_cons se_str sa_nil)) (sa_cons (se_lst (sa_cons se_str sa_nil)) sa_nil)))) (se_call G_take gd (hr.mono h_take) rfl T.g_take T.F_take.kp T.b_take pass0 (sr_s (pv 0) (sr_v se_int sr_nil))) (fun _ _ => rfl)) (np1 rfl))
    (ss_cons (ss_set (i := 4) scright.nd rfl (Or.inl rfl) (se_call G_any gd (hr.mono h_any) rfl T.g_any T.F_any.kp T.b_any pass0 (sr_s (pv 0) (sr_s (pv 3) (sr_v (se_lst sa_nil) (sr_s (pv 1) (sr_v (se_add se_int (se_call G_take gd (hr.mono h_take) rfl T.g_take T.F_take.kp T.b_take pass0 (sr_s (pv 0) (sr_v se_int sr_nil)))) sr_nil)))))) (np1 rfl))
    (ss_cons (ss_set (i := 5) scright.nd rfl (Or.inl rfl) (se_tup (sa_cons (se_ixN (pv 1) se_int (fun _ _ => rfl)) (sa_cons se_str (sa_cons se_str (sa_cons se_str (sa_cons (se_call G_any gd (hr.mono h_any) rfl T.g_any T.F_any.kp T.b_any pass0 (sr_s (pv 0) (sr_s (pv 3) (sr_v (se_lst sa_nil) (sr_s (pv 1) (sr_v se_int sr_nil)))))) sa_nil)))))) (np1 rfl))
    (ss_cons (ss_set (i := 4) scright.nd rfl (Or.inl rfl) (se_tup (sa_cons se_str (sa_cons se_str (sa_cons (se_name (pv 4)) (sa_cons (se_tup (sa_cons se_str (sa_cons (se_tup (sa_cons se_str (sa_cons se_str sa_nil))) sa_nil))) (sa_cons (se_tup (sa_cons (se_name (pv 5)) sa_nil)) sa_nil)))))) (np1 rfl))
    (ss_cons (ss_set (i := 4) scright.nd rfl (Or.inl rfl) (se_if (st_cmp c_gt (se_call G_take gd (hr.mono h_take) rfl T.g_take T.F_take.kp T.b_take pass0 (sr_s (pv 0) (sr_v se_int sr_nil))) se_int (nomark _)) (se_call G_last_calls gd (hr.mono h_last_calls) rfl T.g_last_calls T.F_last_calls.kp T.b_last_calls pass0 (sr_s (pv 0) (sr_s (pv 4) sr_nil))) (se_name (pv 4))) (np1 rfl))
    (ss_one (ss_if (st_of (sw_and (st_cmp c_lt (se_call G_parts_in gd (hr.mono h_parts_in) rfl T.g_parts_in T.F_parts_in.kp T.b_parts_in pass0 (sr_s (pv 4) sr_nil)) se_int (nomark _)) (sw_and1 (st_not (st_val (se_call G_one_right gd (hr.mono h_one_right) rfl T.g_one_right T.F_one_right.kp T.b_one_right pass0 (sr_s (pv 4) sr_nil))))))) (ss_one (ss_ret se_bl)) ss_nil))))))) (nps (by simp [Tg.slots, slotss])) PassesOwn.never)
    (ss_one (ss_ret se_bl))))) plain
theorem k_law (T : Txt w K mg) {C_folded C_right C_dip : AC} {C : AC} (k : Nat) {j_folded : Nat} (G_folded : Fn P w K mg base CX0 j_folded T.a_folded T.d_folded ["_law_script", "_law_size"] (spA K C_folded)) (h_folded : j_folded ≤ k) {j_right : Nat} (G_right : Fn P w K mg base CX0 j_right T.a_right T.d_right ["_law_box"] (spA K C_right)) (h_right : j_right ≤ k) {j_dip : Nat} (G_dip : Fn P w K mg base CX0 j_dip T.a_dip T.d_dip ["_law_script", "_law_k"] (spA K C_dip)) (h_dip : j_dip ≤ k)
    (plain : ∀ xs R, C xs R → xs.length = 1 ∧ t_law C_folded C_right C_dip (retD [true] xs R) (beg 3 xs)) : Fn P w K mg base CX0 (k + 1) T.a_law T.d_law ["_law_script"] (spA K C) :=
  mkA T.F_law sclaw [true] (fun cdv A outer s H E vs gd hr =>
    (ss_cons (ss_set (i := 1) sclaw.nd rfl (Or.inr rfl) (se_call G_folded gd (hr.mono h_folded) rfl T.g_folded T.F_folded.kp T.b_folded pass0 (sr_s (pv 0) (sr_v se_int sr_nil))) (np1 rfl))
    (ss_one (ss_ret (se_callB (cr_all rfl) opa_all (by rfl) T.n_all (by decide +kernel) (sa_cons (se_lc (own := [("_law_k", 2)]) (by rfl) sclaw.nd (si_rng (by rfl) T.n_range (se_callB (call_max2 rfl) opa_max2 (by rfl) T.n_max (by decide +kernel) (sa_cons se_int (sa_cons (se_lenN (pv 1) (by rfl) T.n_len PySem.boot_len) sa_nil)))) (blkOk_by (own := [("_law_k", 2)]) (N := ["_law_script", "_law_cells", "_law_k"]) (sc := defScope s_law) (by decide +kernel)) (gt_name 2) (by simp [Tg.slots, slotss]) (fun _ _ _ _ _ => (pg_name (i := 2) sclaw.nd rfl (Or.inl rfl))) (fun _ _ _ _ _ => sts_nil) (fun _ _ _ _ _ => (se_call G_right gd (hr.mono h_right) rfl T.g_right T.F_right.kp T.b_right pass0 (sr_v (se_call G_dip gd (hr.mono h_dip) rfl T.g_dip T.F_dip.kp T.b_dip pass0 (sr_s (pv 1) (sr_s (pv 2) sr_nil))) sr_nil)))) sa_nil)))))) plain
end
end K45

namespace K45
open PySem L2 Grd Ow PyProof.Rows
section
variable {P : Program} {w : World} {K : PySem.W.Frag} {mg : Str → Option Value} {base : Heap}
theorem Fn.vac {CX : CXT} {k : Nat} {f : Addr} {fd : FuncData} {ps : List Str} {C : AC} (h : ∀ xs R, ¬ C xs R) : Fn P w K mg base CX k f fd ps (spA K C) :=
  ⟨fun vs H Q E ⟨A, F, xs, R, _, z, _⟩ => (h xs R z).elim, fun A outer s H args us vs Q E _ _ _ _ _ ⟨_, _, xs, R, _, z, _⟩ => (h xs R z).elim⟩
theorem g_take (T : Txt w K mg) : Fn P w K mg base CX0 1 T.a_take T.d_take ["_law_box", "_law_many"] (spA K C_take) := k_take T 0 p_take
theorem g_one_of (T : Txt w K mg) : Fn P w K mg base CX0 2 T.a_one_of T.d_one_of ["_law_box", "_law_some"] (spA K C_one_of) := k_one_of T 1 (g_take T) (Nat.le_refl _) p_one_of
theorem g_strewn (T : Txt w K mg) : Fn P w K mg base CX0 2 T.a_strewn T.d_strewn ["_law_box", "_law_some"] (spA K C_strewn) := k_strewn T 1 (g_take T) (Nat.le_refl _) p_strewn
theorem g_keywords (T : Txt w K mg) : Fn P w K mg base CX0 1 T.a_keywords T.d_keywords [] (spA K C_keywords) := k_keywords T 0 p_keywords
theorem g_named (T : Txt w K mg) : Fn P w K mg base CX0 2 T.a_named T.d_named ["_law_box", "_law_many"] (spA K C_named) := k_named T 1 (g_take T) (Nat.le_refl _) (g_keywords T) (Nat.le_refl _) p_named
theorem g_p_inner (T : Txt w K mg) : Fn P w K mg base CX0 1 T.a_p_inner_of T.d_p_inner_of ["term"] (spA K C_p_inner_of) := k_p_inner_of T 0 p_p_inner_of
theorem g_any (T : Txt w K mg) : ∀ n : Nat, Fn P w K mg base CX0 (3 + 2 * n) T.a_any T.d_any ["_law_box", "_law_names", "_law_hs", "_law_deeds", "_law_room"] (spA K (CA n))
  | 0 => k_any T 2 (g_take T) (by decide) (g_one_of T) (by decide) (Fn.vac (C := fun _ _ => False) (k := 0) fun _ _ z => z) (by decide) (Fn.vac (C := fun _ _ => False) (k := 0) fun _ _ z => z) (by decide) (p_any fun m e => by cases e)
  | n + 1 => by
    have g := g_any T n
    have a := k_any_answerer T (3 + 2 * n) (g_one_of T) (by omega) (Fn.fixC fx3 g) (Nat.le_refl _) (g_strewn T) (by omega) (g_take T) (by omega) p_any_answerer
    exact k_any T (3 + 2 * n + 1) (g_take T) (by omega) (g_one_of T) (by omega) (Fn.fixC fx3 g) (by omega) (Fn.fixC fx3 a) (Nat.le_refl _) (p_any fun m e => by cases e; exact ⟨rfl, rfl⟩)
theorem g_same (T : Txt w K mg) : ∀ n : Nat, Fn P w K mg base CX0 (1 + n) T.a_same T.d_same ["_law_found", "_law_due"] (spA K (C_same n))
  | 0 => k_same T 0 (Fn.vac (C := fun _ _ => False) (k := 0) fun _ _ z => z) (by decide) (p_same fun m e => by cases e)
  | n + 1 => k_same T (1 + n) (g_same T n) (Nat.le_refl _) (p_same fun m e => by cases e; rfl)
theorem g_names_within (T : Txt w K mg) : Fn P w K mg base CX0 2 T.a_p_names_within T.d_p_names_within ["term"] (spA K C_p_names_within) := k_p_names_within T 1 (g_p_inner T) (by decide) p_p_names_within
theorem g_names_free (T : Txt w K mg) : ∀ n : Nat, Fn P w K mg base CX0 (3 + n) T.a_p_names_free T.d_p_names_free ["term"] (spA K (CF ownN bnd n))
  | 0 => Fn.vac fun xs R ⟨t, _, o, _⟩ => o
  | n + 1 => k_p_names_free T (3 + n) (g_p_inner T) (by omega) (g_names_within T) (by omega) (g_names_free T n) (Nat.le_refl _) p_p_names_free
theorem g_with_inner (T : Txt w K mg) : Fn P w K mg base CX0 1 T.a_p_with_inner T.d_p_with_inner ["term", "some"] (spA K C_p_with_inner) := k_p_with_inner T 0 p_p_with_inner
theorem g_is_whole (T : Txt w K mg) : Fn P w K mg base CX0 1 T.a_p_is_whole T.d_p_is_whole ["thing", "least", "most"] (spA K C_p_is_whole) := k_p_is_whole T 0 p_p_is_whole
theorem g_part_at (T : Txt w K mg) (n : Nat) : Fn P w K mg base CX0 2 T.a_p_part_at T.d_p_part_at ["term", "place"] (spA K (C_p_part_at n)) := k_p_part_at T 1 (g_p_inner T) (Nat.le_refl _) (g_is_whole T) (Nat.le_refl _) p_p_part_at
theorem g_places_of (T : Txt w K mg) : ∀ n : Nat, n ≤ 100 → Fn P w K mg base CX0 (2 + n) T.a_p_places_of T.d_p_places_of ["term"] (spA K (C_p_places_of n))
  | 0, _ => Fn.vac fun xs R ⟨t, _, o, _⟩ => o
  | n + 1, h => k_p_places_of T (2 + n) (g_p_inner T) (by omega) (g_places_of T n (by omega)) (Nat.le_refl _) (p_p_places_of (by omega))
theorem g_kept_names (T : Txt w K mg) : Fn P w K mg base CX0 1 T.a_p_kept_names T.d_p_kept_names [] (spA K C_p_kept_names) := k_p_kept_names T 0 p_p_kept_names
theorem g_slow_clause (T : Txt w K mg) : Fn P w K mg base CX0 122 T.a_p_slow_clause T.d_p_slow_clause ["clause"] (spA K (C_p_slow_clause 118)) := k_p_slow_clause T 121 (g_names_free T 118) (by decide) (g_kept_names T) (by decide) p_p_slow_clause
theorem g_is_last_call (T : Txt w K mg) : Fn P w K mg base CX0 122 T.a_p_is_last_call T.d_p_is_last_call ["clause"] (spA K (C_p_is_last_call 118)) := k_p_is_last_call T 121 (g_names_free T 118) (by decide) p_p_is_last_call
theorem g_quick_clause (T : Txt w K mg) : Fn P w K mg base CX0 123 T.a_p_quick_clause T.d_p_quick_clause ["clause"] (spA K (C_p_quick_clause 118)) := k_p_quick_clause T 122 (g_is_last_call T) (by decide) p_p_quick_clause
theorem g_p_slowed (T : Txt w K mg) : ∀ n : Nat, n ≤ 60 → Fn P w K mg base CX0 (122 + n) T.a_p_slowed T.d_p_slowed ["term"] (spA K (C_slw n))
  | 0, _ => Fn.vac fun xs R ⟨t, _, o, _⟩ => o
  | n + 1, h => k_p_slowed T (122 + n) (g_with_inner T) (by omega) (g_p_inner T) (by omega) (g_p_slowed T n (by omega)) (Nat.le_refl _) (g_slow_clause T) (by omega) (p_p_slowed (by omega))
theorem g_p_quickened (T : Txt w K mg) : ∀ n : Nat, n ≤ 60 → Fn P w K mg base CX0 (123 + n) T.a_p_quickened T.d_p_quickened ["term"] (spA K (C_qck n))
  | 0, _ => Fn.vac fun xs R ⟨t, _, o, _⟩ => o
  | n + 1, h => k_p_quickened T (123 + n) (g_with_inner T) (by omega) (g_p_inner T) (by omega) (g_p_quickened T n (by omega)) (Nat.le_refl _) (g_quick_clause T) (by omega) (p_p_quickened (by omega))
theorem g_p_quick_ones (T : Txt w K mg) : Fn P w K mg base CX0 63 T.a_p_quick_ones T.d_p_quick_ones ["term"] (spA K (C_p_quick_ones 60)) := k_p_quick_ones T 62 (g_places_of T 60 (by decide)) (by decide) (g_part_at T 60) (by decide) (p_p_quick_ones (by decide))
theorem g_inner (T : Txt w K mg) : Fn P w K mg base CX0 1 T.a_inner T.d_inner ["_law_program"] (spA K C_inner) := k_inner T 0 p_inner
theorem g_rebuilt (T : Txt w K mg) : Fn P w K mg base CX0 1 T.a_rebuilt T.d_rebuilt ["_law_program", "_law_some"] (spA K C_rebuilt) := k_rebuilt T 0 p_rebuilt
theorem g_bound (T : Txt w K mg) : Fn P w K mg base CX0 2 T.a_bound T.d_bound ["_law_program"] (spA K C_bound) := k_bound T 1 (g_inner T) (by decide) p_bound
theorem g_free (T : Txt w K mg) : ∀ n : Nat, Fn P w K mg base CX0 (3 + n) T.a_free T.d_free ["_law_program"] (spA K (CF ownN bnd n))
  | 0 => Fn.vac fun xs R ⟨t, _, o, _⟩ => o
  | n + 1 => k_free T (3 + n) (g_inner T) (by omega) (g_bound T) (by omega) (g_free T n) (Nat.le_refl _) p_free
theorem g_slow_row (T : Txt w K mg) : Fn P w K mg base CX0 122 T.a_slow_row T.d_slow_row ["_law_row"] (spA K (C_p_slow_clause 118)) := k_slow_row T 121 (g_free T 118) (by decide) p_slow_row
theorem g_quick_row (T : Txt w K mg) : Fn P w K mg base CX0 122 T.a_quick_row T.d_quick_row ["_law_row"] (spA K (C_p_quick_clause 118)) := k_quick_row T 121 (g_free T 118) (by decide) p_quick_row
theorem g_slowed (T : Txt w K mg) : ∀ n : Nat, n ≤ 60 → Fn P w K mg base CX0 (122 + n) T.a_slowed T.d_slowed ["_law_program"] (spA K (C_slw n))
  | 0, _ => Fn.vac fun xs R ⟨t, _, o, _⟩ => o
  | n + 1, h => k_slowed T (122 + n) (g_rebuilt T) (by omega) (g_inner T) (by omega) (g_slowed T n (by omega)) (Nat.le_refl _) (g_slow_row T) (by omega) (p_slowed (by omega))
theorem g_quickened (T : Txt w K mg) : ∀ n : Nat, n ≤ 60 → Fn P w K mg base CX0 (122 + n) T.a_quickened T.d_quickened ["_law_program"] (spA K (C_qck n))
  | 0, _ => Fn.vac fun xs R ⟨t, _, o, _⟩ => o
  | n + 1, h => k_quickened T (122 + n) (g_rebuilt T) (by omega) (g_inner T) (by omega) (g_quickened T n (by omega)) (Nat.le_refl _) (g_quick_row T) (by omega) (p_quickened (by omega))
theorem g_quick_ones (T : Txt w K mg) : ∀ n : Nat, Fn P w K mg base CX0 (2 + n) T.a_quick_ones T.d_quick_ones ["_law_program", "_law_place"] (spA K (C_quick_ones n))
  | 0 => Fn.vac fun xs R ⟨t, q, _, o, _⟩ => o
  | n + 1 => k_quick_ones T (2 + n) (g_inner T) (by omega) (g_quick_ones T n) (Nat.le_refl _) p_quick_ones
theorem g_last_calls (T : Txt w K mg) : ∀ n : Nat, Fn P w K mg base CX0 (3 + n) T.a_last_calls T.d_last_calls ["_law_box", "_law_program"] (spA K (C_last_calls n))
  | 0 => Fn.vac fun xs R ⟨c, ys, t, _, _, o, _⟩ => o
  | n + 1 => k_last_calls T (3 + n) (g_rebuilt T) (by omega) (g_inner T) (by omega) (g_last_calls T n) (Nat.le_refl _) (g_one_of T) (by omega) (g_take T) (by omega) p_last_calls
theorem g_parts_in (T : Txt w K mg) : ∀ n : Nat, Fn P w K mg base CX0 (2 + n) T.a_parts_in T.d_parts_in ["_law_program"] (spA K (C_parts_in n))
  | 0 => Fn.vac fun xs R ⟨t, _, o, _⟩ => o
  | n + 1 => k_parts_in T (2 + n) (g_inner T) (by omega) (g_parts_in T n) (Nat.le_refl _) p_parts_in
theorem g_one_right (T : Txt w K mg) : Fn P w K mg base CX0 192 T.a_one_right T.d_one_right ["_law_one"] (spA K C_one_right) :=
  k_one_right T 191 (g_quickened T 60 (by decide)) (by decide) (g_slowed T 60 (by decide)) (by decide) (Fn.lend (g_same T 190)) (by decide) (g_p_quickened T 60 (by decide)) (by decide) (g_p_slowed T 60 (by decide)) (by decide) (g_p_quick_ones T) (by decide) (g_quick_ones T 60) (by decide) p_one_right
theorem g_right (T : Txt w K mg) : Fn P w K mg base CX0 193 T.a_right T.d_right ["_law_box"] (spA K C_right) :=
  k_right T 192 (g_named T) (by decide) (g_take T) (by decide) (Fn.fixC fx3 (g_any T 8)) (by decide) (g_last_calls T 10) (by decide) (g_one_right T) (by decide) (g_parts_in T 30) (by decide) p_right
end
end K45

/-! k04: boxes, folded cells, the law -/
namespace K45
open PySem L2 Grd
open Evl (Ex ex_t ex_l ex_rd)
section
variable {P : Program} {w : World} {K : PySem.W.Frag} {mg : Str → Option Value} {base : Heap}
def Bx (H : Hp) (b : Addr) (c : Nat) : Prop := ∃ x y z : Int, H b = some (.lst [.int x, .int y, .int z]) ∧ 0 ≤ y ∧ y < 2305843010000000000 ∧ 0 ≤ z ∧ z ≤ (c : Int)
def sp_dip (K : PySem.W.Frag) : Sp := fun vs H Q _ => ∃ (a : Addr) (ns : List Int) (k : Int), vs = [.ref a, .int k] ∧ SqL K H a (ns.map V.int) ∧ 0 ≤ k ∧ k ≤ 100 ∧
  ∀ p H', H p = none → Ex H H' → Bx H' p 0 → Q (.ref p) H'
theorem dip_end {Q : VK} {H : Hp} {c k : Int} (k0 : 0 ≤ k) (k1 : k ≤ 100) (q : ∀ p H', H p = none → Ex H H' → Bx H' p 0 → Q (.ref p) H') (p : Addr) (hp : H p = none) (x : Int) :
    Q (.ref p) (upd H p (.lst [.int x, .int (c % 2305843009213693951 + 39373 * k + 17), .int 0])) := by
  have h0 : 0 ≤ c % 2305843009213693951 := Int.emod_nonneg _ (by decide)
  have h1 : c % 2305843009213693951 < 2305843009213693951 := Int.emod_lt_of_pos _ (by decide)
  exact q p _ hp (Ex.new hp) ⟨_, _, _, upd_same, by omega, by omega, by decide, by decide⟩
theorem b01 (b : Bool) : -(2 ^ 64) < (if b = true then 1 else 0 : Int) ∧ (if b = true then 1 else 0 : Int) < 2 ^ 64 := by cases b <;> decide
theorem ok_dip (T : Txt w K mg) : Fn P w K mg base CX0 1 T.a_dip T.d_dip ["_law_script", "_law_k"] (sp_dip K) := by
  refine Grd.mk T.F_dip scdip (fun vs H Q E h => ?_) (fun cdv A outer s H vs Q E gd hr h => ?_)
  · obtain ⟨a, ns, k, rfl, _⟩ := h
    rfl
  obtain ⟨a, ns, k, rfl, hS, k0, k1, q⟩ := h
  refine ⟨_, (pss_cons (ps_set (i := 2) scdip.nd rfl (Or.inl rfl) (pe_ifExp (pt_cmpR op_lt (pv 1) (pe_callB call_len_seq (by rfl) T.n_len PySem.boot_len (pa_cons (pv 0) pa_nil)) (nomark _)) (pe_ix ix_list (pv 0) (pv 1) (fun _ _ => rfl)) pe_int))
      (pss_one (ps_ret (pe_lst (pa_cons (pe_op op_mul (pe_callB call_abs (by rfl) T.n_abs (by decide +kernel) (pa_cons (pv 2) pa_nil)) (pe_callTy call_int1 (by rfl) T.n_int (by decide +kernel) (pa_cons (pe_cmpR op_ge (pe_callB call_abs (by rfl) T.n_abs (by decide +kernel) (pa_cons (pv 2) pa_nil)) (pe_op op_pow pe_int pe_int) (nomark _)) pa_nil))) (pa_cons (pe_op op_add (pe_op op_add (pe_op op_mod (pv 2) pe_int) (pe_op op_mul pe_int (pv 1))) pe_int) (pa_cons pe_int pa_nil))))))), ?_⟩
  have rest : ∀ c : Int, tRet (tLst (tCons (tOp (rI CMul fun i j => .int (i * j)) (tCB (fun xs H Q => ∃ i, xs = [.int i] ∧ Q (.int (if i < 0 then -i else i)) H) (tCons (tVar 2) tNil))
      (tCB (fun xs H Q => (∃ i, xs = [.int i] ∧ Q (.int i) H) ∨ ∃ k, xs = [.bl k] ∧ Q (.int (if k then 1 else 0)) H)
        (tCons (tOp (rI0 fun i j => .bl (decide (j ≤ i))) (tCB (fun xs H Q => ∃ i, xs = [.int i] ∧ Q (.int (if i < 0 then -i else i)) H) (tCons (tVar 2) tNil)) (tOp (rI CPow fun i j => .int (i ^ j.toNat)) (tC (.int 10)) (tC (.int 18)))) tNil)))
      (tCons (tOp (rI0 fun i j => .int (i + j)) (tOp (rI0 fun i j => .int (i + j)) (tOp (rI (fun _ j => 0 < j) fun i j => .int (i % j)) (tVar 2) (tC (.int 2305843009213693951)))
        (tOp (rI CMul fun i j => .int (i * j)) (tC (.int 39373)) (tVar 1))) (tC (.int 17))) (tCons (tC (.int 0)) tNil)))) { nx := fun _ H' => Q .non H', rt := Q }
      [some (.ref a), some (.int k), some (.int c)] H := by
    intro c
    refine ⟨_, rfl, _, rfl, _, rfl, _, rfl, _, _, rfl, rfl, ⟨by decide, by decide, by decide⟩, _, _, rfl, rfl, .inr ⟨_, rfl, _, _, rfl, rfl, .inr ?_, _, rfl, _, _, rfl, rfl, (by show (0 : Int) < 2305843009213693951; decide), _, rfl, _, _, rfl, rfl, .inl ⟨by decide, by decide⟩, _, _, rfl, rfl, _, _, rfl, rfl, (by show 3 ≤ sizeLine; decide), fun p hp => ?_⟩⟩
    · exact b01 _
    · exact dip_end k0 k1 q p hp _
  refine ⟨_, rfl, _, rfl, a, _, rfl, .inl hS, _, _, rfl, rfl, _, rfl, ?_⟩
  refine ite2 (fun t => ?_) (fun t => ?_)
  · have t' : k < ((ns.map V.int).length : Int) := of_decide_eq_true t
    rw [List.length_map] at t'
    have hk : k.toNat < ns.length := by omega
    have at_ : atI (ns.map V.int) k = some (.int ns[k.toNat]) := at_of (j := k.toNat) (by omega) (by rw [List.getElem?_map, List.getElem?_eq_getElem hk]; rfl)
    exact ⟨_, rfl, _, rfl, a, _, _, _, rfl, rfl, hS, at_, rest _⟩
  · exact rest 0

/-- the first numbers, the rest added on -/
def sp_folded (K : PySem.W.Frag) : Sp := fun vs H Q _ => ∃ (a : Addr) (ns : List Int) (n : Nat), vs = [.ref a, .int (n : Int)] ∧ SqL K H a (ns.map V.int) ∧ ns.length ≤ 63 ∧ 0 < n ∧ n ≤ 62 ∧
  ∀ p H' (ms : List Int), H p = none → Ex H H' → ms.length ≤ n → H' p = some (.lst (ms.map V.int)) → Q (.ref p) H'
theorem cut_pre (ns : List Int) (n : Nat) : cutV (ns.map V.int) none (some (n : Int)) = (ns.take n).map V.int := by
  unfold cutV
  rw [HT.sIx_none, HT.sIx_nat, List.length_map, List.drop_zero, ← List.map_take]
  congr 1
  rw [Nat.sub_zero]
  rcases Nat.le_total n ns.length with h | h
  · rw [Nat.min_eq_left h]
  · rw [Nat.min_eq_right h, List.take_of_length_le (Nat.le_refl _), List.take_of_length_le h]
theorem cut_ints (ns : List Int) (lo hi : Option Int) : ∃ ms : List Int, cutV (ns.map V.int) lo hi = ms.map V.int ∧ ms.length ≤ ns.length := by
  have h := cutV_length (ns.map V.int) lo hi
  unfold cutV at *
  rw [← List.map_drop, ← List.map_take] at *
  exact ⟨_, rfl, by simpa using h⟩
theorem cut_mid (ns : List Int) (n : Nat) (h : ns.length ≤ n) : cutV (ns.map V.int) (some (n : Int)) (some 63) = [] := by
  unfold cutV
  rw [HT.sIx_nat, List.length_map, Nat.min_eq_right h, List.drop_of_length_le (by simp), List.take_nil]
theorem getI {ns : List Int} {i : Nat} {x : V} (h : (ns.map V.int)[i]? = some x) : ∃ m, ns[i]? = some m ∧ x = .int m := by
  rw [List.getElem?_map] at h
  cases e : ns[i]? with
  | none => rw [e] at h; cases h
  | some m => rw [e] at h; cases h; exact ⟨m, rfl, rfl⟩
theorem ok_folded (T : Txt w K mg) : Fn P w K mg base CX0 1 T.a_folded T.d_folded ["_law_script", "_law_size"] (sp_folded K) := by
  refine Grd.mk T.F_folded scfolded (fun vs H Q E h => ?_) (fun cdv A outer s H vs Q E gd hr h => ?_)
  · obtain ⟨a, ns, n, rfl, _⟩ := h
    rfl
  obtain ⟨a, ns, n, rfl, hS, h63, n0, n1, q⟩ := h
  refine ⟨_, (pss_cons (ps_set (i := 2) scfolded.nd rfl (Or.inl rfl) (pe_callTy call_list_of (by rfl) T.n_list (by decide +kernel) (pa_cons (pe_slice sl_list (pv 0) po_none (po_some (pv 1))) pa_nil)))
      (pss_cons (ps_for PassesOwn.never rfl (pi_enum (by rfl) T.n_enumerate (pa_cons (pe_slice sl_list (pv 0) (po_some (pv 1)) (po_some pe_int)) pa_nil)) (pg_tup rfl (pgs_cons (pg_name (i := 3) scfolded.nd rfl (Or.inl rfl)) (pgs_cons (pg_name (i := 4) scfolded.nd rfl (Or.inl rfl)) pgs_nil))) (pss_one (ps_asg (pe_op op_add (pe_ix ix_list (pv 2) (pe_op op_mod (pv 3) (pv 1)) (fun _ _ => rfl)) (pe_op op_mul (pv 4) (pe_op op_add (pv 3) pe_int))) (pg_sub (pv 2) (pe_op op_mod (pv 3) (pv 1)) set_list))))
      (pss_one (ps_ret (pv 2))))), ?_⟩
  refine ⟨_, rfl, _, rfl, _, rfl, a, _, rfl, hS, fun p hp => ?_⟩
  refine ⟨p, _, rfl, .inl (SqL.of upd_same), fun c hc => ?_⟩
  have e1 : Ex H (upd (upd H p (.lst (cutV (ns.map V.int) none (some (n : Int))))) c (.lst (cutV (ns.map V.int) none (some (n : Int))))) := (Ex.new hp).trans (Ex.new hc)
  have hc0 : H c = none := Evl.fresh_back (Ex.new hp) hc
  have hcv : (upd (upd H p (.lst (cutV (ns.map V.int) none (some (n : Int))))) c (.lst (cutV (ns.map V.int) none (some (n : Int))))) c = some (.lst ((ns.take n).map V.int)) := by rw [upd_same, cut_pre]
  generalize upd (upd H p (.lst (cutV (ns.map V.int) none (some (n : Int))))) c (.lst (cutV (ns.map V.int) none (some (n : Int)))) = H1 at e1 hcv ⊢
  refine ⟨_, rfl, _, rfl, _, rfl, _, rfl, a, _, rfl, ex_l e1 hS, fun d hd => ?_⟩
  obtain ⟨ms, em, lm⟩ := cut_ints ns (some (n : Int)) (some 63)
  have ed : (upd H1 d (.lst (cutV (ns.map V.int) (some (n : Int)) (some 63)))) d = some (.lst (ms.map V.int)) := by rw [upd_same, em]
  have ncd : c ≠ d := ne_of_none hcv hd
  have hcv2 : (upd H1 d (.lst (cutV (ns.map V.int) (some (n : Int)) (some 63)))) c = some (.lst ((ns.take n).map V.int)) := by rw [upd_ne ncd]; exact hcv
  have e2 : Ex H (upd H1 d (.lst (cutV (ns.map V.int) (some (n : Int)) (some 63)))) := e1.trans (Ex.new hd)
  have hd0 : H d = none := Evl.fresh_back e1 hd
  generalize upd H1 d (.lst (cutV (ns.map V.int) (some (n : Int)) (some 63))) = H2 at ed hcv2 e2 ⊢
  refine ⟨d, _, rfl, SqL.of ed, for_it (walk_enum (xs := ms.map V.int)) (fun i σ H' => ∃ (u v : Option V) (cs : List Int), σ = [some (.ref a), some (.int (n : Int)), some (.ref c), u, v] ∧ Ex H H' ∧ H' d = some (.lst (ms.map V.int)) ∧ H' c = some (.lst (cs.map V.int)) ∧ cs.length = (ns.take n).length)
    ⟨none, none, _, rfl, e2, ed, hcv2, rfl⟩ (fun i σ H' _ ⟨_, _, _, _, _, h, _⟩ => SqL.of h) ?_ ?_⟩
  · rintro i x σ H3 H4 hi ⟨u, v, cs, rfl, e3, hd3, hc3, lc⟩ ⟨t, y, z, rfl, ht, rfl, ey, ez⟩
    cases ey
    obtain ⟨m, em2, rfl⟩ := getI (show (ms.map V.int)[i]? = some z from ez)
    · have full : n ≤ ns.length := by
        rcases Nat.lt_or_ge ns.length n with h | h
        · have z := cut_mid ns n (Nat.le_of_lt h)
          rw [em] at z
          rw [List.map_eq_nil_iff] at z
          rw [z] at hi
          simp at hi
        · exact h
      have lcs : cs.length = n := by rw [lc, List.length_take]; omega
      have hlt : i % n < cs.length := by rw [lcs]; exact Nat.mod_lt _ n0
      have im : ((i : Nat) : Int) % (n : Int) = ((i % n : Nat) : Int) := by simp
      have nct : c ≠ t := ne_of_none hc3 ht
      have ndt : d ≠ t := ne_of_none hd3 ht
      have hc4 : (upd H3 t (.tup [.int ((i : Nat) : Int), .int m])) c = some (.lst (cs.map V.int)) := by rw [upd_ne nct]; exact hc3
      have hd4 : (upd H3 t (.tup [.int ((i : Nat) : Int), .int m])) d = some (.lst (ms.map V.int)) := by rw [upd_ne ndt]; exact hd3
      have e4 : Ex H (upd H3 t (.tup [.int ((i : Nat) : Int), .int m])) := e3.trans (Ex.new ht)
      have at_ : atI (cs.map V.int) (((i : Nat) : Int) % (n : Int)) = some (.int cs[i % n]) := at_of (j := i % n) im (by rw [List.getElem?_map, List.getElem?_eq_getElem hlt]; rfl)
      have ix_ : ixN (cs.map V.int).length (((i : Nat) : Int) % (n : Int)) = some (i % n) := by
        rw [im, List.length_map]
        exact Evl.ixN_nat hlt
      have i63 : i < 63 := by
        have : ms.length ≤ 63 := by omega
        rw [List.length_map] at hi
        omega
      refine ⟨t, _, rfl, SqT.of upd_same, rfl, _, _, rfl, _, _, rfl, rfl, ?_⟩
      refine ⟨_, rfl, _, rfl, _, rfl, _, _, rfl, rfl, (by show (0 : Int) < (n : Int); omega), c, _, _, _, rfl, rfl, SqL.of hc4, at_, _, rfl, _, rfl, _, _, rfl, rfl, _, _, rfl, rfl, .inr ⟨by omega, by omega⟩, _, _, rfl, rfl,
        _, rfl, _, rfl, _, rfl, _, _, rfl, rfl, (by show (0 : Int) < (n : Int); omega), c, _, _, _, rfl, rfl, hc4, ix_, ?_⟩
      refine ⟨_, _, cs.set (i % n) (cs[i % n] + m * (((i : Nat) : Int) + 2)), rfl, e4.mut hc0, ?_, ?_, by rw [List.length_set]; exact lc⟩
      · rw [upd_ne ncd.symm]
        exact hd4
      · rw [upd_same, List.map_set]
  · rintro σ H3 ⟨u, v, cs, rfl, e3, hd3, hc3, lc⟩
    exact ⟨_, rfl, q c H3 cs hc0 e3 (by rw [lc, List.length_take]; omega) hc3⟩

theorem right_call {H : Hp} {b : Addr} {Q : VK} {E : XK} (bx : Bx H b 0) (q : ∀ H', (∀ a o, a ≠ b → H a = some o → H' a = some o) → Q (.bl true) H') : Ow.spA K C_right [.ref b] H Q E := by
  obtain ⟨x, y, z, hb, y0, y1, z0, z1⟩ := bx
  refine ⟨(· = b), fun _ => false, [.n .lst [.d (.int x), .d (.int y), .d (.int z)]], fun z _ => z = .d (.bool true), ⟨.refl, ⟨⟨[b], [], ?_, .nil, by simp, fun a ha => ?_⟩, fun a ha => by cases ha⟩⟩, ⟨_, rfl, ⟨x, y, z, rfl, y0, y1, z0, z1⟩, fun _ => rfl⟩, fun z xs' v H' F' r c => ?_⟩
  · exact .cons (as := [b]) (bs := []) (.n (ex := []) (as := []) ⟨hb, rfl⟩ (.cons (as := []) (.d (.int _)) (.cons (as := []) (.d (.int _)) (.cons (as := []) (.d (.int _)) .nil)))) .nil
  · have : a = b := by simpa using ha
    exact ⟨rfl, .inl this⟩
  · subst r
    have dv := c.dp
    cases dv
    exact q H' fun a o na ho => c.st.keep a o na ho
def sp_law (K : PySem.W.Frag) : Sp := fun vs H Q _ => ∃ (a : Addr) (ns : List Int), vs = [.ref a] ∧ SqL K H a (ns.map V.int) ∧ ns.length ≤ 63 ∧ ∀ H', Q (.bl true) H'
theorem all_true (j : Nat) : (List.replicate j true).all id = true := by simp
theorem ok_law (T : Txt w K mg) : Fn P w K mg base CX0 194 T.a_law T.d_law ["_law_script"] (sp_law K) := by
  have G_folded := ok_folded (P := P) (w := w) (base := base) T
  have G_dip := ok_dip (P := P) (w := w) (base := base) T
  have G_right := g_right (P := P) (w := w) (base := base) T
  refine Grd.mk T.F_law sclaw (fun vs H Q E h => ?_) (fun cdv A outer st H vs Q E gd hr h => ?_)
  · obtain ⟨a, ns, rfl, _⟩ := h
    rfl
  obtain ⟨a, ns, rfl, hS, ln, q⟩ := h
  refine ⟨_, (pss_cons (ps_set (i := 1) sclaw.nd rfl (Or.inr rfl) (pe_callG G_folded gd (hr.mono (by first | decide | omega)) rfl T.g_folded T.F_folded.kp T.b_folded .nil pass0 (pa_cons (pv 0) (pa_cons pe_int pa_nil))))
      (pss_one (ps_ret (pe_callB (cr_all rfl) (by rfl) T.n_all (by decide +kernel) (pa_cons (pe_lc (own := [("_law_k", 2)]) (by rfl) sclaw.nd (pi_range1 (by rfl) T.n_range (pa_cons (pe_callB (call_max2 rfl) (by rfl) T.n_max (by decide +kernel) (pa_cons pe_int (pa_cons (pe_callB call_len_seq (by rfl) T.n_len PySem.boot_len (pa_cons (pv 1) pa_nil)) pa_nil))) pa_nil)) (blkOk_by (own := [("_law_k", 2)]) (N := ["_law_script", "_law_cells", "_law_k"]) (sc := defScope s_law) (by decide +kernel)) (fun _ _ _ _ _ => (pg_name (i := 2) sclaw.nd rfl (Or.inl rfl))) (fun _ _ _ _ _ => pts_nil) (fun _ _ _ _ _ => (pe_callG G_right gd (hr.mono (by first | decide | omega)) rfl T.g_right T.F_right.kp T.b_right .nil pass0 (pa_cons (pe_callG G_dip gd (hr.mono (by first | decide | omega)) rfl T.g_dip T.F_dip.kp T.b_dip .nil pass0 (pa_cons (pv 1) (pa_cons (pv 2) pa_nil))) pa_nil)))) pa_nil))))), ?_⟩
  refine ⟨_, rfl, a, ns, 3, rfl, hS, ln, by decide, by decide, fun p H1 ms hp e1 lm hpv => ?_⟩
  refine ⟨_, rfl, p, _, rfl, .inl (SqL.of hpv), _, _, rfl, _, rfl, ?_, ?_, fun D hD => ?_⟩
  · rw [List.length_map]; split <;> omega
  · rw [List.length_map]; split <;> omega
  have nD : p ≠ D := ne_of_none hpv hD
  refine lc_range (fun j H' => H' D = some (.lst ((List.replicate j true).map V.bl)) ∧ H' p = some (.lst (ms.map V.int))) ⟨upd_same, by rw [upd_ne nD]; exact hpv⟩ ?_ ?_
  · rintro j H2 hj ⟨hD2, hp2⟩
    have hj3 : (j : Int) < 4 := by
      rw [List.length_map] at hj
      split at hj <;> omega
    refine ⟨rfl, ?_⟩
    refine ⟨_, rfl, _, rfl, p, ms, _, rfl, SqL.of hp2, by omega, by omega, fun b H3 hb e3 bx => ?_⟩
    refine right_call (E := fun _ _ _ => False) bx fun H4 bu => ?_
    have nbD : D ≠ b := ne_of_none hD2 hb
    have nbp : p ≠ b := ne_of_none hp2 hb
    refine ⟨_, bu _ _ nbD (e3 _ _ hD2), by rw [List.length_map, List.length_replicate]; exact Evl.sz_lt (by omega), ?_, ?_⟩
    · rw [upd_same, List.replicate_succ', List.map_append]; rfl
    · rw [upd_ne nD]; exact bu _ _ nbp (e3 _ _ hp2)
  rintro H2 ⟨hD2, hp2⟩
  exact ⟨D, _, rfl, SqL.of hD2, by rw [all_true]; exact q _⟩
end
end K45

namespace K45
open PySem L2 Grd Ow PyProof.Rows
theorem all_mk {l : PySem.W.OpenLaw} {w : World} {K : PySem.W.Frag} {h : Heap} {mg : Str → Option Value} {fa f1 f2 f3 f4 f5 f6 f7 f8 f9 f10 f11 f12 f13 f14 f15 f16 f17 f18 f19 f20 f21 f22 f23 f24 f25 f26 f27 f28 f29 f30 f31 f32 f33 f34 f35 f36 f37 f38 : Addr} (X : K.In h) (G : h.Ns mainGlobals mg) (hfa : mg "law" = some (.ref fa))
    {od1 an1 od2 an2 od3 an3 od4 an4 od5 an5 od6 an6 od7 an7 od8 an8 od9 an9 od10 an10 od11 an11 od12 an12 od13 an13 od14 an14 od15 an15 od16 an16 od17 an17 od18 an18 od19 an19 od20 an20 od21 an21 od22 an22 od23 an23 od24 an24 od25 an25 od26 an26 od27 an27 od28 an28 od29 an29 od30 an30 od31 an31 od32 an32 od33 an33 od34 an34 od35 an35 od36 an36 od37 an37 od38 an38 : Option Addr} {sl1 sl2 sl3 sl4 sl5 sl6 sl7 sl8 sl9 sl10 sl11 sl12 sl13 sl14 sl15 sl16 sl17 sl18 sl19 sl20 sl21 sl22 sl23 sl24 sl25 sl26 sl27 sl28 sl29 sl30 sl31 sl32 sl33 sl34 sl35 sl36 sl37 sl38 : Array (Option Value)}
    {oc1 kV1 dc1 pm1 cd1 ct1 oc2 kV2 dc2 pm2 cd2 ct2 oc3 kV3 dc3 pm3 cd3 ct3 oc4 kV4 dc4 pm4 cd4 ct4 oc5 kV5 dc5 pm5 cd5 ct5 oc6 kV6 dc6 pm6 cd6 ct6 oc7 kV7 dc7 pm7 cd7 ct7 oc8 kV8 dc8 pm8 cd8 ct8 oc9 kV9 dc9 pm9 cd9 ct9 oc10 kV10 dc10 pm10 cd10 ct10 oc11 kV11 dc11 pm11 cd11 ct11 oc12 kV12 dc12 pm12 cd12 ct12 oc13 kV13 dc13 pm13 cd13 ct13 oc14 kV14 dc14 pm14 cd14 ct14 oc15 kV15 dc15 pm15 cd15 ct15 oc16 kV16 dc16 pm16 cd16 ct16 oc17 kV17 dc17 pm17 cd17 ct17 oc18 kV18 dc18 pm18 cd18 ct18 oc19 kV19 dc19 pm19 cd19 ct19 oc20 kV20 dc20 pm20 cd20 ct20 oc21 kV21 dc21 pm21 cd21 ct21 oc22 kV22 dc22 pm22 cd22 ct22 oc23 kV23 dc23 pm23 cd23 ct23 oc24 kV24 dc24 pm24 cd24 ct24 oc25 kV25 dc25 pm25 cd25 ct25 oc26 kV26 dc26 pm26 cd26 ct26 oc27 kV27 dc27 pm27 cd27 ct27 oc28 kV28 dc28 pm28 cd28 ct28 oc29 kV29 dc29 pm29 cd29 ct29 oc30 kV30 dc30 pm30 cd30 ct30 oc31 kV31 dc31 pm31 cd31 ct31 oc32 kV32 dc32 pm32 cd32 ct32 oc33 kV33 dc33 pm33 cd33 ct33 oc34 kV34 dc34 pm34 cd34 ct34 oc35 kV35 dc35 pm35 cd35 ct35 oc36 kV36 dc36 pm36 cd36 ct36 oc37 kV37 dc37 pm37 cd37 ct37 oc38 kV38 dc38 pm38 cd38 ct38 : Value}
    (a1 : PySem.W.nsIn K mainGlobals "is_whole" = some (some (.ref f1))) (l1 : K.lookup f1 = some ⟨oc1, od1, .func (PySem.W.fnOf "is_whole" "is_whole" (defArgs s_p_is_whole) (defBody s_p_is_whole) (defScope s_p_is_whole) .none kV1 dc1 pm1 an1 cd1 ct1), sl1⟩)
    (c1 : PySem.W.codeIn K cd1 "is_whole" = true) (k1 : PySem.W.keepIn K (.ref f1) = true)
    (a2 : PySem.W.nsIn K mainGlobals "inner_of" = some (some (.ref f2))) (l2 : K.lookup f2 = some ⟨oc2, od2, .func (PySem.W.fnOf "inner_of" "inner_of" (defArgs s_p_inner_of) (defBody s_p_inner_of) (defScope s_p_inner_of) .none kV2 dc2 pm2 an2 cd2 ct2), sl2⟩)
    (c2 : PySem.W.codeIn K cd2 "inner_of" = true) (k2 : PySem.W.keepIn K (.ref f2) = true)
    (a3 : PySem.W.nsIn K mainGlobals "with_inner" = some (some (.ref f3))) (l3 : K.lookup f3 = some ⟨oc3, od3, .func (PySem.W.fnOf "with_inner" "with_inner" (defArgs s_p_with_inner) (defBody s_p_with_inner) (defScope s_p_with_inner) .none kV3 dc3 pm3 an3 cd3 ct3), sl3⟩)
    (c3 : PySem.W.codeIn K cd3 "with_inner" = true) (k3 : PySem.W.keepIn K (.ref f3) = true)
    (a4 : PySem.W.nsIn K mainGlobals "names_within" = some (some (.ref f4))) (l4 : K.lookup f4 = some ⟨oc4, od4, .func (PySem.W.fnOf "names_within" "names_within" (defArgs s_p_names_within) (defBody s_p_names_within) (defScope s_p_names_within) .none kV4 dc4 pm4 an4 cd4 ct4), sl4⟩)
    (c4 : PySem.W.codeIn K cd4 "names_within" = true) (k4 : PySem.W.keepIn K (.ref f4) = true)
    (a5 : PySem.W.nsIn K mainGlobals "places_of" = some (some (.ref f5))) (l5 : K.lookup f5 = some ⟨oc5, od5, .func (PySem.W.fnOf "places_of" "places_of" (defArgs s_p_places_of) (defBody s_p_places_of) (defScope s_p_places_of) .none kV5 dc5 pm5 an5 cd5 ct5), sl5⟩)
    (c5 : PySem.W.codeIn K cd5 "places_of" = true) (k5 : PySem.W.keepIn K (.ref f5) = true)
    (a6 : PySem.W.nsIn K mainGlobals "part_at" = some (some (.ref f6))) (l6 : K.lookup f6 = some ⟨oc6, od6, .func (PySem.W.fnOf "part_at" "part_at" (defArgs s_p_part_at) (defBody s_p_part_at) (defScope s_p_part_at) .none kV6 dc6 pm6 an6 cd6 ct6), sl6⟩)
    (c6 : PySem.W.codeIn K cd6 "part_at" = true) (k6 : PySem.W.keepIn K (.ref f6) = true)
    (a7 : PySem.W.nsIn K mainGlobals "names_free" = some (some (.ref f7))) (l7 : K.lookup f7 = some ⟨oc7, od7, .func (PySem.W.fnOf "names_free" "names_free" (defArgs s_p_names_free) (defBody s_p_names_free) (defScope s_p_names_free) .none kV7 dc7 pm7 an7 cd7 ct7), sl7⟩)
    (c7 : PySem.W.codeIn K cd7 "names_free" = true) (k7 : PySem.W.keepIn K (.ref f7) = true)
    (a8 : PySem.W.nsIn K mainGlobals "kept_names" = some (some (.ref f8))) (l8 : K.lookup f8 = some ⟨oc8, od8, .func (PySem.W.fnOf "kept_names" "kept_names" (defArgs s_p_kept_names) (defBody s_p_kept_names) (defScope s_p_kept_names) .none kV8 dc8 pm8 an8 cd8 ct8), sl8⟩)
    (c8 : PySem.W.codeIn K cd8 "kept_names" = true) (k8 : PySem.W.keepIn K (.ref f8) = true)
    (a9 : PySem.W.nsIn K mainGlobals "slow_clause" = some (some (.ref f9))) (l9 : K.lookup f9 = some ⟨oc9, od9, .func (PySem.W.fnOf "slow_clause" "slow_clause" (defArgs s_p_slow_clause) (defBody s_p_slow_clause) (defScope s_p_slow_clause) .none kV9 dc9 pm9 an9 cd9 ct9), sl9⟩)
    (c9 : PySem.W.codeIn K cd9 "slow_clause" = true) (k9 : PySem.W.keepIn K (.ref f9) = true)
    (a10 : PySem.W.nsIn K mainGlobals "is_last_call" = some (some (.ref f10))) (l10 : K.lookup f10 = some ⟨oc10, od10, .func (PySem.W.fnOf "is_last_call" "is_last_call" (defArgs s_p_is_last_call) (defBody s_p_is_last_call) (defScope s_p_is_last_call) .none kV10 dc10 pm10 an10 cd10 ct10), sl10⟩)
    (c10 : PySem.W.codeIn K cd10 "is_last_call" = true) (k10 : PySem.W.keepIn K (.ref f10) = true)
    (a11 : PySem.W.nsIn K mainGlobals "quick_clause" = some (some (.ref f11))) (l11 : K.lookup f11 = some ⟨oc11, od11, .func (PySem.W.fnOf "quick_clause" "quick_clause" (defArgs s_p_quick_clause) (defBody s_p_quick_clause) (defScope s_p_quick_clause) .none kV11 dc11 pm11 an11 cd11 ct11), sl11⟩)
    (c11 : PySem.W.codeIn K cd11 "quick_clause" = true) (k11 : PySem.W.keepIn K (.ref f11) = true)
    (a12 : PySem.W.nsIn K mainGlobals "slowed" = some (some (.ref f12))) (l12 : K.lookup f12 = some ⟨oc12, od12, .func (PySem.W.fnOf "slowed" "slowed" (defArgs s_p_slowed) (defBody s_p_slowed) (defScope s_p_slowed) .none kV12 dc12 pm12 an12 cd12 ct12), sl12⟩)
    (c12 : PySem.W.codeIn K cd12 "slowed" = true) (k12 : PySem.W.keepIn K (.ref f12) = true)
    (a13 : PySem.W.nsIn K mainGlobals "quickened" = some (some (.ref f13))) (l13 : K.lookup f13 = some ⟨oc13, od13, .func (PySem.W.fnOf "quickened" "quickened" (defArgs s_p_quickened) (defBody s_p_quickened) (defScope s_p_quickened) .none kV13 dc13 pm13 an13 cd13 ct13), sl13⟩)
    (c13 : PySem.W.codeIn K cd13 "quickened" = true) (k13 : PySem.W.keepIn K (.ref f13) = true)
    (a14 : PySem.W.nsIn K mainGlobals "quick_ones" = some (some (.ref f14))) (l14 : K.lookup f14 = some ⟨oc14, od14, .func (PySem.W.fnOf "quick_ones" "quick_ones" (defArgs s_p_quick_ones) (defBody s_p_quick_ones) (defScope s_p_quick_ones) .none kV14 dc14 pm14 an14 cd14 ct14), sl14⟩)
    (c14 : PySem.W.codeIn K cd14 "quick_ones" = true) (k14 : PySem.W.keepIn K (.ref f14) = true)
    (a15 : PySem.W.nsIn K mainGlobals "_law_dip" = some (some (.ref f15))) (l15 : K.lookup f15 = some ⟨oc15, od15, .func (PySem.W.fnOf "_law_dip" "_law_dip" (defArgs s_dip) (defBody s_dip) (defScope s_dip) .none kV15 dc15 pm15 an15 cd15 ct15), sl15⟩)
    (c15 : PySem.W.codeIn K cd15 "_law_dip" = true) (k15 : PySem.W.keepIn K (.ref f15) = true)
    (a16 : PySem.W.nsIn K mainGlobals "_law_take" = some (some (.ref f16))) (l16 : K.lookup f16 = some ⟨oc16, od16, .func (PySem.W.fnOf "_law_take" "_law_take" (defArgs s_take) (defBody s_take) (defScope s_take) .none kV16 dc16 pm16 an16 cd16 ct16), sl16⟩)
    (c16 : PySem.W.codeIn K cd16 "_law_take" = true) (k16 : PySem.W.keepIn K (.ref f16) = true)
    (a17 : PySem.W.nsIn K mainGlobals "_law_folded" = some (some (.ref f17))) (l17 : K.lookup f17 = some ⟨oc17, od17, .func (PySem.W.fnOf "_law_folded" "_law_folded" (defArgs s_folded) (defBody s_folded) (defScope s_folded) .none kV17 dc17 pm17 an17 cd17 ct17), sl17⟩)
    (c17 : PySem.W.codeIn K cd17 "_law_folded" = true) (k17 : PySem.W.keepIn K (.ref f17) = true)
    (a18 : PySem.W.nsIn K mainGlobals "_law_one_of" = some (some (.ref f18))) (l18 : K.lookup f18 = some ⟨oc18, od18, .func (PySem.W.fnOf "_law_one_of" "_law_one_of" (defArgs s_one_of) (defBody s_one_of) (defScope s_one_of) .none kV18 dc18 pm18 an18 cd18 ct18), sl18⟩)
    (c18 : PySem.W.codeIn K cd18 "_law_one_of" = true) (k18 : PySem.W.keepIn K (.ref f18) = true)
    (a19 : PySem.W.nsIn K mainGlobals "_law_strewn" = some (some (.ref f19))) (l19 : K.lookup f19 = some ⟨oc19, od19, .func (PySem.W.fnOf "_law_strewn" "_law_strewn" (defArgs s_strewn) (defBody s_strewn) (defScope s_strewn) .none kV19 dc19 pm19 an19 cd19 ct19), sl19⟩)
    (c19 : PySem.W.codeIn K cd19 "_law_strewn" = true) (k19 : PySem.W.keepIn K (.ref f19) = true)
    (a20 : PySem.W.nsIn K mainGlobals "_law_keywords" = some (some (.ref f20))) (l20 : K.lookup f20 = some ⟨oc20, od20, .func (PySem.W.fnOf "_law_keywords" "_law_keywords" (defArgs s_keywords) (defBody s_keywords) (defScope s_keywords) .none kV20 dc20 pm20 an20 cd20 ct20), sl20⟩)
    (c20 : PySem.W.codeIn K cd20 "_law_keywords" = true) (k20 : PySem.W.keepIn K (.ref f20) = true)
    (a21 : PySem.W.nsIn K mainGlobals "_law_named" = some (some (.ref f21))) (l21 : K.lookup f21 = some ⟨oc21, od21, .func (PySem.W.fnOf "_law_named" "_law_named" (defArgs s_named) (defBody s_named) (defScope s_named) .none kV21 dc21 pm21 an21 cd21 ct21), sl21⟩)
    (c21 : PySem.W.codeIn K cd21 "_law_named" = true) (k21 : PySem.W.keepIn K (.ref f21) = true)
    (a22 : PySem.W.nsIn K mainGlobals "_law_any" = some (some (.ref f22))) (l22 : K.lookup f22 = some ⟨oc22, od22, .func (PySem.W.fnOf "_law_any" "_law_any" (defArgs s_any) (defBody s_any) (defScope s_any) .none kV22 dc22 pm22 an22 cd22 ct22), sl22⟩)
    (c22 : PySem.W.codeIn K cd22 "_law_any" = true) (k22 : PySem.W.keepIn K (.ref f22) = true)
    (a23 : PySem.W.nsIn K mainGlobals "_law_any_answerer" = some (some (.ref f23))) (l23 : K.lookup f23 = some ⟨oc23, od23, .func (PySem.W.fnOf "_law_any_answerer" "_law_any_answerer" (defArgs s_any_answerer) (defBody s_any_answerer) (defScope s_any_answerer) .none kV23 dc23 pm23 an23 cd23 ct23), sl23⟩)
    (c23 : PySem.W.codeIn K cd23 "_law_any_answerer" = true) (k23 : PySem.W.keepIn K (.ref f23) = true)
    (a24 : PySem.W.nsIn K mainGlobals "_law_same" = some (some (.ref f24))) (l24 : K.lookup f24 = some ⟨oc24, od24, .func (PySem.W.fnOf "_law_same" "_law_same" (defArgs s_same) (defBody s_same) (defScope s_same) .none kV24 dc24 pm24 an24 cd24 ct24), sl24⟩)
    (c24 : PySem.W.codeIn K cd24 "_law_same" = true) (k24 : PySem.W.keepIn K (.ref f24) = true)
    (a25 : PySem.W.nsIn K mainGlobals "_law_inner" = some (some (.ref f25))) (l25 : K.lookup f25 = some ⟨oc25, od25, .func (PySem.W.fnOf "_law_inner" "_law_inner" (defArgs s_inner) (defBody s_inner) (defScope s_inner) .none kV25 dc25 pm25 an25 cd25 ct25), sl25⟩)
    (c25 : PySem.W.codeIn K cd25 "_law_inner" = true) (k25 : PySem.W.keepIn K (.ref f25) = true)
    (a26 : PySem.W.nsIn K mainGlobals "_law_rebuilt" = some (some (.ref f26))) (l26 : K.lookup f26 = some ⟨oc26, od26, .func (PySem.W.fnOf "_law_rebuilt" "_law_rebuilt" (defArgs s_rebuilt) (defBody s_rebuilt) (defScope s_rebuilt) .none kV26 dc26 pm26 an26 cd26 ct26), sl26⟩)
    (c26 : PySem.W.codeIn K cd26 "_law_rebuilt" = true) (k26 : PySem.W.keepIn K (.ref f26) = true)
    (a27 : PySem.W.nsIn K mainGlobals "_law_bound" = some (some (.ref f27))) (l27 : K.lookup f27 = some ⟨oc27, od27, .func (PySem.W.fnOf "_law_bound" "_law_bound" (defArgs s_bound) (defBody s_bound) (defScope s_bound) .none kV27 dc27 pm27 an27 cd27 ct27), sl27⟩)
    (c27 : PySem.W.codeIn K cd27 "_law_bound" = true) (k27 : PySem.W.keepIn K (.ref f27) = true)
    (a28 : PySem.W.nsIn K mainGlobals "_law_free" = some (some (.ref f28))) (l28 : K.lookup f28 = some ⟨oc28, od28, .func (PySem.W.fnOf "_law_free" "_law_free" (defArgs s_free) (defBody s_free) (defScope s_free) .none kV28 dc28 pm28 an28 cd28 ct28), sl28⟩)
    (c28 : PySem.W.codeIn K cd28 "_law_free" = true) (k28 : PySem.W.keepIn K (.ref f28) = true)
    (a29 : PySem.W.nsIn K mainGlobals "_law_slow_row" = some (some (.ref f29))) (l29 : K.lookup f29 = some ⟨oc29, od29, .func (PySem.W.fnOf "_law_slow_row" "_law_slow_row" (defArgs s_slow_row) (defBody s_slow_row) (defScope s_slow_row) .none kV29 dc29 pm29 an29 cd29 ct29), sl29⟩)
    (c29 : PySem.W.codeIn K cd29 "_law_slow_row" = true) (k29 : PySem.W.keepIn K (.ref f29) = true)
    (a30 : PySem.W.nsIn K mainGlobals "_law_quick_row" = some (some (.ref f30))) (l30 : K.lookup f30 = some ⟨oc30, od30, .func (PySem.W.fnOf "_law_quick_row" "_law_quick_row" (defArgs s_quick_row) (defBody s_quick_row) (defScope s_quick_row) .none kV30 dc30 pm30 an30 cd30 ct30), sl30⟩)
    (c30 : PySem.W.codeIn K cd30 "_law_quick_row" = true) (k30 : PySem.W.keepIn K (.ref f30) = true)
    (a31 : PySem.W.nsIn K mainGlobals "_law_slowed" = some (some (.ref f31))) (l31 : K.lookup f31 = some ⟨oc31, od31, .func (PySem.W.fnOf "_law_slowed" "_law_slowed" (defArgs s_slowed) (defBody s_slowed) (defScope s_slowed) .none kV31 dc31 pm31 an31 cd31 ct31), sl31⟩)
    (c31 : PySem.W.codeIn K cd31 "_law_slowed" = true) (k31 : PySem.W.keepIn K (.ref f31) = true)
    (a32 : PySem.W.nsIn K mainGlobals "_law_quickened" = some (some (.ref f32))) (l32 : K.lookup f32 = some ⟨oc32, od32, .func (PySem.W.fnOf "_law_quickened" "_law_quickened" (defArgs s_quickened) (defBody s_quickened) (defScope s_quickened) .none kV32 dc32 pm32 an32 cd32 ct32), sl32⟩)
    (c32 : PySem.W.codeIn K cd32 "_law_quickened" = true) (k32 : PySem.W.keepIn K (.ref f32) = true)
    (a33 : PySem.W.nsIn K mainGlobals "_law_quick_ones" = some (some (.ref f33))) (l33 : K.lookup f33 = some ⟨oc33, od33, .func (PySem.W.fnOf "_law_quick_ones" "_law_quick_ones" (defArgs s_quick_ones) (defBody s_quick_ones) (defScope s_quick_ones) .none kV33 dc33 pm33 an33 cd33 ct33), sl33⟩)
    (c33 : PySem.W.codeIn K cd33 "_law_quick_ones" = true) (k33 : PySem.W.keepIn K (.ref f33) = true)
    (a34 : PySem.W.nsIn K mainGlobals "_law_last_calls" = some (some (.ref f34))) (l34 : K.lookup f34 = some ⟨oc34, od34, .func (PySem.W.fnOf "_law_last_calls" "_law_last_calls" (defArgs s_last_calls) (defBody s_last_calls) (defScope s_last_calls) .none kV34 dc34 pm34 an34 cd34 ct34), sl34⟩)
    (c34 : PySem.W.codeIn K cd34 "_law_last_calls" = true) (k34 : PySem.W.keepIn K (.ref f34) = true)
    (a35 : PySem.W.nsIn K mainGlobals "_law_parts_in" = some (some (.ref f35))) (l35 : K.lookup f35 = some ⟨oc35, od35, .func (PySem.W.fnOf "_law_parts_in" "_law_parts_in" (defArgs s_parts_in) (defBody s_parts_in) (defScope s_parts_in) .none kV35 dc35 pm35 an35 cd35 ct35), sl35⟩)
    (c35 : PySem.W.codeIn K cd35 "_law_parts_in" = true) (k35 : PySem.W.keepIn K (.ref f35) = true)
    (a36 : PySem.W.nsIn K mainGlobals "_law_one_right" = some (some (.ref f36))) (l36 : K.lookup f36 = some ⟨oc36, od36, .func (PySem.W.fnOf "_law_one_right" "_law_one_right" (defArgs s_one_right) (defBody s_one_right) (defScope s_one_right) .none kV36 dc36 pm36 an36 cd36 ct36), sl36⟩)
    (c36 : PySem.W.codeIn K cd36 "_law_one_right" = true) (k36 : PySem.W.keepIn K (.ref f36) = true)
    (a37 : PySem.W.nsIn K mainGlobals "_law_right" = some (some (.ref f37))) (l37 : K.lookup f37 = some ⟨oc37, od37, .func (PySem.W.fnOf "_law_right" "_law_right" (defArgs s_right) (defBody s_right) (defScope s_right) .none kV37 dc37 pm37 an37 cd37 ct37), sl37⟩)
    (c37 : PySem.W.codeIn K cd37 "_law_right" = true) (k37 : PySem.W.keepIn K (.ref f37) = true)
    (a38 : PySem.W.nsIn K mainGlobals "law" = some (some (.ref f38))) (l38 : K.lookup f38 = some ⟨oc38, od38, .func (PySem.W.fnOf "law" "law" (defArgs s_law) (defBody s_law) (defScope s_law) .none kV38 dc38 pm38 an38 cd38 ct38), sl38⟩)
    (c38 : PySem.W.codeIn K cd38 "law" = true) (k38 : PySem.W.keepIn K (.ref f38) = true)
    (z1 : PySem.W.nsIn K mainGlobals "abs" = some none)
    (z2 : PySem.W.nsIn K mainGlobals "all" = some none)
    (z3 : PySem.W.nsIn K mainGlobals "bool" = some none)
    (z4 : PySem.W.nsIn K mainGlobals "enumerate" = some none)
    (z5 : PySem.W.nsIn K mainGlobals "int" = some none)
    (z6 : PySem.W.nsIn K mainGlobals "isinstance" = some none)
    (z7 : PySem.W.nsIn K mainGlobals "len" = some none)
    (z8 : PySem.W.nsIn K mainGlobals "list" = some none)
    (z9 : PySem.W.nsIn K mainGlobals "max" = some none)
    (z10 : PySem.W.nsIn K mainGlobals "min" = some none)
    (z11 : PySem.W.nsIn K mainGlobals "range" = some none)
    (z12 : PySem.W.nsIn K mainGlobals "repr" = some none)
    (z13 : PySem.W.nsIn K mainGlobals "set" = some none)
    (z14 : PySem.W.nsIn K mainGlobals "sorted" = some none)
    (z15 : PySem.W.nsIn K mainGlobals "str" = some none)
    (z16 : PySem.W.nsIn K mainGlobals "sum" = some none)
    (z17 : PySem.W.nsIn K mainGlobals "tuple" = some none)
    (z18 : PySem.W.nsIn K mainGlobals "zip" = some none)
    {ga0 : Addr} {god0 : Option Addr} {gi0 : Array Value} {gn0 : Nat} {gsl0 : Array (Option Value)} (ge0 : PySem.W.nsIn K mainGlobals "ANSWERERS" = some (some (.ref ga0))) (gl0 : K.lookup ga0 = some ⟨.type "tuple", god0, .seq gi0 gn0, gsl0⟩) (gv0 : Vals ((["handle", "under"] : List Str).map V.str) gi0.toList)
    {ga1 : Addr} {ges1 : Array DictEntry} {gn1 : Nat} (ge1 : PySem.W.nsIn K mainGlobals "SHAPES" = some (some (.ref ga1))) (gl1 : K.lookup ga1 = some ⟨.type "dict", none, .dict ges1 gn1, #[]⟩) (gk1 : PySem.W.KeysLit w.params ges1.toList)
    {gt1_0 : Tok} (gd1_0 : PySem.W.nsIn K ga1 "num" = some (some (.str "n" gt1_0)))
    {gt1_1 : Tok} (gd1_1 : PySem.W.nsIn K ga1 "name" = some (some (.str "x" gt1_1)))
    {gt1_2 : Tok} (gd1_2 : PySem.W.nsIn K ga1 "fun" = some (some (.str "xT" gt1_2)))
    {gt1_3 : Tok} (gd1_3 : PySem.W.nsIn K ga1 "rec" = some (some (.str "xxT" gt1_3)))
    {gt1_4 : Tok} (gd1_4 : PySem.W.nsIn K ga1 "call" = some (some (.str "TT" gt1_4)))
    {gt1_5 : Tok} (gd1_5 : PySem.W.nsIn K ga1 "let" = some (some (.str "xTT" gt1_5)))
    {gt1_6 : Tok} (gd1_6 : PySem.W.nsIn K ga1 "op" = some (some (.str "oTT" gt1_6)))
    {gt1_7 : Tok} (gd1_7 : PySem.W.nsIn K ga1 "if" = some (some (.str "TTT" gt1_7)))
    {gt1_8 : Tok} (gd1_8 : PySem.W.nsIn K ga1 "two" = some (some (.str "TT" gt1_8)))
    {gt1_9 : Tok} (gd1_9 : PySem.W.nsIn K ga1 "first" = some (some (.str "T" gt1_9)))
    {gt1_10 : Tok} (gd1_10 : PySem.W.nsIn K ga1 "second" = some (some (.str "T" gt1_10)))
    {gt1_11 : Tok} (gd1_11 : PySem.W.nsIn K ga1 "ask" = some (some (.str "xT" gt1_11)))
    {gt1_12 : Tok} (gd1_12 : PySem.W.nsIn K ga1 "askof" = some (some (.str "xxT" gt1_12)))
    {gt1_13 : Tok} (gd1_13 : PySem.W.nsIn K ga1 "past" = some (some (.str "xT" gt1_13)))
    {gt1_14 : Tok} (gd1_14 : PySem.W.nsIn K ga1 "pastof" = some (some (.str "xT" gt1_14)))
    {gt1_15 : Tok} (gd1_15 : PySem.W.nsIn K ga1 "ward" = some (some (.str "TT" gt1_15)))
    {gt2 : Tok} (ge2 : PySem.W.nsIn K mainGlobals "LETTERS" = some (some (.str "abcdefghijklmnopqrstuvwxyz" gt2)))
    : ∃ fd : FuncData, (∀ (s : Shared) (v : Value), BindsTo s fd ⟨[v], []⟩ [("_law_script", v)]) ∧ ∀ base : Heap, K.In base → base.Ns mainGlobals mg → Grd.Fn l.prog w K mg base CX0 194 fa fd ["_law_script"] (sp_law K) := by
  have e := hfa.symm.trans (PySem.W.mg_of X G a38)
  cases e
  have F1 := fun_mk (st := s_p_is_whole) l1 c1 k1
  have b1 := F1.binds (ps := ["thing", "least", "most"]) fun _ _ _ _ _ _ us hl => match us, hl with | [_, _, _], _ => rfl
  have F2 := fun_mk (st := s_p_inner_of) l2 c2 k2
  have b2 := F2.binds (ps := ["term"]) fun _ _ _ _ _ _ us hl => match us, hl with | [_], _ => rfl
  have F3 := fun_mk (st := s_p_with_inner) l3 c3 k3
  have b3 := F3.binds (ps := ["term", "some"]) fun _ _ _ _ _ _ us hl => match us, hl with | [_, _], _ => rfl
  have F4 := fun_mk (st := s_p_names_within) l4 c4 k4
  have b4 := F4.binds (ps := ["term"]) fun _ _ _ _ _ _ us hl => match us, hl with | [_], _ => rfl
  have F5 := fun_mk (st := s_p_places_of) l5 c5 k5
  have b5 := F5.binds (ps := ["term"]) fun _ _ _ _ _ _ us hl => match us, hl with | [_], _ => rfl
  have F6 := fun_mk (st := s_p_part_at) l6 c6 k6
  have b6 := F6.binds (ps := ["term", "place"]) fun _ _ _ _ _ _ us hl => match us, hl with | [_, _], _ => rfl
  have F7 := fun_mk (st := s_p_names_free) l7 c7 k7
  have b7 := F7.binds (ps := ["term"]) fun _ _ _ _ _ _ us hl => match us, hl with | [_], _ => rfl
  have F8 := fun_mk (st := s_p_kept_names) l8 c8 k8
  have b8 := F8.binds (ps := []) fun _ _ _ _ _ _ us hl => match us, hl with | [], _ => rfl
  have F9 := fun_mk (st := s_p_slow_clause) l9 c9 k9
  have b9 := F9.binds (ps := ["clause"]) fun _ _ _ _ _ _ us hl => match us, hl with | [_], _ => rfl
  have F10 := fun_mk (st := s_p_is_last_call) l10 c10 k10
  have b10 := F10.binds (ps := ["clause"]) fun _ _ _ _ _ _ us hl => match us, hl with | [_], _ => rfl
  have F11 := fun_mk (st := s_p_quick_clause) l11 c11 k11
  have b11 := F11.binds (ps := ["clause"]) fun _ _ _ _ _ _ us hl => match us, hl with | [_], _ => rfl
  have F12 := fun_mk (st := s_p_slowed) l12 c12 k12
  have b12 := F12.binds (ps := ["term"]) fun _ _ _ _ _ _ us hl => match us, hl with | [_], _ => rfl
  have F13 := fun_mk (st := s_p_quickened) l13 c13 k13
  have b13 := F13.binds (ps := ["term"]) fun _ _ _ _ _ _ us hl => match us, hl with | [_], _ => rfl
  have F14 := fun_mk (st := s_p_quick_ones) l14 c14 k14
  have b14 := F14.binds (ps := ["term"]) fun _ _ _ _ _ _ us hl => match us, hl with | [_], _ => rfl
  have F15 := fun_mk (st := s_dip) l15 c15 k15
  have b15 := F15.binds (ps := ["_law_script", "_law_k"]) fun _ _ _ _ _ _ us hl => match us, hl with | [_, _], _ => rfl
  have F16 := fun_mk (st := s_take) l16 c16 k16
  have b16 := F16.binds (ps := ["_law_box", "_law_many"]) fun _ _ _ _ _ _ us hl => match us, hl with | [_, _], _ => rfl
  have F17 := fun_mk (st := s_folded) l17 c17 k17
  have b17 := F17.binds (ps := ["_law_script", "_law_size"]) fun _ _ _ _ _ _ us hl => match us, hl with | [_, _], _ => rfl
  have F18 := fun_mk (st := s_one_of) l18 c18 k18
  have b18 := F18.binds (ps := ["_law_box", "_law_some"]) fun _ _ _ _ _ _ us hl => match us, hl with | [_, _], _ => rfl
  have F19 := fun_mk (st := s_strewn) l19 c19 k19
  have b19 := F19.binds (ps := ["_law_box", "_law_some"]) fun _ _ _ _ _ _ us hl => match us, hl with | [_, _], _ => rfl
  have F20 := fun_mk (st := s_keywords) l20 c20 k20
  have b20 := F20.binds (ps := []) fun _ _ _ _ _ _ us hl => match us, hl with | [], _ => rfl
  have F21 := fun_mk (st := s_named) l21 c21 k21
  have b21 := F21.binds (ps := ["_law_box", "_law_many"]) fun _ _ _ _ _ _ us hl => match us, hl with | [_, _], _ => rfl
  have F22 := fun_mk (st := s_any) l22 c22 k22
  have b22 := F22.binds (ps := ["_law_box", "_law_names", "_law_hs", "_law_deeds", "_law_room"]) fun _ _ _ _ _ _ us hl => match us, hl with | [_, _, _, _, _], _ => rfl
  have F23 := fun_mk (st := s_any_answerer) l23 c23 k23
  have b23 := F23.binds (ps := ["_law_box", "_law_names", "_law_hs", "_law_deeds", "_law_room"]) fun _ _ _ _ _ _ us hl => match us, hl with | [_, _, _, _, _], _ => rfl
  have F24 := fun_mk (st := s_same) l24 c24 k24
  have b24 := F24.binds (ps := ["_law_found", "_law_due"]) fun _ _ _ _ _ _ us hl => match us, hl with | [_, _], _ => rfl
  have F25 := fun_mk (st := s_inner) l25 c25 k25
  have b25 := F25.binds (ps := ["_law_program"]) fun _ _ _ _ _ _ us hl => match us, hl with | [_], _ => rfl
  have F26 := fun_mk (st := s_rebuilt) l26 c26 k26
  have b26 := F26.binds (ps := ["_law_program", "_law_some"]) fun _ _ _ _ _ _ us hl => match us, hl with | [_, _], _ => rfl
  have F27 := fun_mk (st := s_bound) l27 c27 k27
  have b27 := F27.binds (ps := ["_law_program"]) fun _ _ _ _ _ _ us hl => match us, hl with | [_], _ => rfl
  have F28 := fun_mk (st := s_free) l28 c28 k28
  have b28 := F28.binds (ps := ["_law_program"]) fun _ _ _ _ _ _ us hl => match us, hl with | [_], _ => rfl
  have F29 := fun_mk (st := s_slow_row) l29 c29 k29
  have b29 := F29.binds (ps := ["_law_row"]) fun _ _ _ _ _ _ us hl => match us, hl with | [_], _ => rfl
  have F30 := fun_mk (st := s_quick_row) l30 c30 k30
  have b30 := F30.binds (ps := ["_law_row"]) fun _ _ _ _ _ _ us hl => match us, hl with | [_], _ => rfl
  have F31 := fun_mk (st := s_slowed) l31 c31 k31
  have b31 := F31.binds (ps := ["_law_program"]) fun _ _ _ _ _ _ us hl => match us, hl with | [_], _ => rfl
  have F32 := fun_mk (st := s_quickened) l32 c32 k32
  have b32 := F32.binds (ps := ["_law_program"]) fun _ _ _ _ _ _ us hl => match us, hl with | [_], _ => rfl
  have F33 := fun_mk (st := s_quick_ones) l33 c33 k33
  have b33 := F33.binds (ps := ["_law_program", "_law_place"]) fun _ _ _ _ _ _ us hl => match us, hl with | [_, _], _ => rfl
  have F34 := fun_mk (st := s_last_calls) l34 c34 k34
  have b34 := F34.binds (ps := ["_law_box", "_law_program"]) fun _ _ _ _ _ _ us hl => match us, hl with | [_, _], _ => rfl
  have F35 := fun_mk (st := s_parts_in) l35 c35 k35
  have b35 := F35.binds (ps := ["_law_program"]) fun _ _ _ _ _ _ us hl => match us, hl with | [_], _ => rfl
  have F36 := fun_mk (st := s_one_right) l36 c36 k36
  have b36 := F36.binds (ps := ["_law_one"]) fun _ _ _ _ _ _ us hl => match us, hl with | [_], _ => rfl
  have F37 := fun_mk (st := s_right) l37 c37 k37
  have b37 := F37.binds (ps := ["_law_box"]) fun _ _ _ _ _ _ us hl => match us, hl with | [_], _ => rfl
  have F38 := fun_mk (st := s_law) l38 c38 k38
  have b38 := F38.binds (ps := ["_law_script"]) fun _ _ _ _ _ _ us hl => match us, hl with | [_], _ => rfl
  have kd1 : KdT K w ga1 k_SHAPES := .of (by
    simp only [k_SHAPES, List.forall_mem_cons]
    exact ⟨⟨.str _, ⟨_, _, _, gl1, gk1, gd1_0, ⟨_, rfl⟩⟩, fun _ => .str _⟩, ⟨.str _, ⟨_, _, _, gl1, gk1, gd1_1, ⟨_, rfl⟩⟩, fun _ => .str _⟩, ⟨.str _, ⟨_, _, _, gl1, gk1, gd1_2, ⟨_, rfl⟩⟩, fun _ => .str _⟩, ⟨.str _, ⟨_, _, _, gl1, gk1, gd1_3, ⟨_, rfl⟩⟩, fun _ => .str _⟩, ⟨.str _, ⟨_, _, _, gl1, gk1, gd1_4, ⟨_, rfl⟩⟩, fun _ => .str _⟩, ⟨.str _, ⟨_, _, _, gl1, gk1, gd1_5, ⟨_, rfl⟩⟩, fun _ => .str _⟩, ⟨.str _, ⟨_, _, _, gl1, gk1, gd1_6, ⟨_, rfl⟩⟩, fun _ => .str _⟩, ⟨.str _, ⟨_, _, _, gl1, gk1, gd1_7, ⟨_, rfl⟩⟩, fun _ => .str _⟩, ⟨.str _, ⟨_, _, _, gl1, gk1, gd1_8, ⟨_, rfl⟩⟩, fun _ => .str _⟩, ⟨.str _, ⟨_, _, _, gl1, gk1, gd1_9, ⟨_, rfl⟩⟩, fun _ => .str _⟩, ⟨.str _, ⟨_, _, _, gl1, gk1, gd1_10, ⟨_, rfl⟩⟩, fun _ => .str _⟩, ⟨.str _, ⟨_, _, _, gl1, gk1, gd1_11, ⟨_, rfl⟩⟩, fun _ => .str _⟩, ⟨.str _, ⟨_, _, _, gl1, gk1, gd1_12, ⟨_, rfl⟩⟩, fun _ => .str _⟩, ⟨.str _, ⟨_, _, _, gl1, gk1, gd1_13, ⟨_, rfl⟩⟩, fun _ => .str _⟩, ⟨.str _, ⟨_, _, _, gl1, gk1, gd1_14, ⟨_, rfl⟩⟩, fun _ => .str _⟩, ⟨.str _, ⟨_, _, _, gl1, gk1, gd1_15, ⟨_, rfl⟩⟩, fun _ => .str _⟩, by simp⟩)
  let T : Txt w K mg := {
    a_p_is_whole := f1, d_p_is_whole := _, F_p_is_whole := F1, b_p_is_whole := b1, g_p_is_whole := PySem.W.mg_of X G a1,
    a_p_inner_of := f2, d_p_inner_of := _, F_p_inner_of := F2, b_p_inner_of := b2, g_p_inner_of := PySem.W.mg_of X G a2,
    a_p_with_inner := f3, d_p_with_inner := _, F_p_with_inner := F3, b_p_with_inner := b3, g_p_with_inner := PySem.W.mg_of X G a3,
    a_p_names_within := f4, d_p_names_within := _, F_p_names_within := F4, b_p_names_within := b4, g_p_names_within := PySem.W.mg_of X G a4,
    a_p_places_of := f5, d_p_places_of := _, F_p_places_of := F5, b_p_places_of := b5, g_p_places_of := PySem.W.mg_of X G a5,
    a_p_part_at := f6, d_p_part_at := _, F_p_part_at := F6, b_p_part_at := b6, g_p_part_at := PySem.W.mg_of X G a6,
    a_p_names_free := f7, d_p_names_free := _, F_p_names_free := F7, b_p_names_free := b7, g_p_names_free := PySem.W.mg_of X G a7,
    a_p_kept_names := f8, d_p_kept_names := _, F_p_kept_names := F8, b_p_kept_names := b8, g_p_kept_names := PySem.W.mg_of X G a8,
    a_p_slow_clause := f9, d_p_slow_clause := _, F_p_slow_clause := F9, b_p_slow_clause := b9, g_p_slow_clause := PySem.W.mg_of X G a9,
    a_p_is_last_call := f10, d_p_is_last_call := _, F_p_is_last_call := F10, b_p_is_last_call := b10, g_p_is_last_call := PySem.W.mg_of X G a10,
    a_p_quick_clause := f11, d_p_quick_clause := _, F_p_quick_clause := F11, b_p_quick_clause := b11, g_p_quick_clause := PySem.W.mg_of X G a11,
    a_p_slowed := f12, d_p_slowed := _, F_p_slowed := F12, b_p_slowed := b12, g_p_slowed := PySem.W.mg_of X G a12,
    a_p_quickened := f13, d_p_quickened := _, F_p_quickened := F13, b_p_quickened := b13, g_p_quickened := PySem.W.mg_of X G a13,
    a_p_quick_ones := f14, d_p_quick_ones := _, F_p_quick_ones := F14, b_p_quick_ones := b14, g_p_quick_ones := PySem.W.mg_of X G a14,
    a_dip := f15, d_dip := _, F_dip := F15, b_dip := b15, g_dip := PySem.W.mg_of X G a15,
    a_take := f16, d_take := _, F_take := F16, b_take := b16, g_take := PySem.W.mg_of X G a16,
    a_folded := f17, d_folded := _, F_folded := F17, b_folded := b17, g_folded := PySem.W.mg_of X G a17,
    a_one_of := f18, d_one_of := _, F_one_of := F18, b_one_of := b18, g_one_of := PySem.W.mg_of X G a18,
    a_strewn := f19, d_strewn := _, F_strewn := F19, b_strewn := b19, g_strewn := PySem.W.mg_of X G a19,
    a_keywords := f20, d_keywords := _, F_keywords := F20, b_keywords := b20, g_keywords := PySem.W.mg_of X G a20,
    a_named := f21, d_named := _, F_named := F21, b_named := b21, g_named := PySem.W.mg_of X G a21,
    a_any := f22, d_any := _, F_any := F22, b_any := b22, g_any := PySem.W.mg_of X G a22,
    a_any_answerer := f23, d_any_answerer := _, F_any_answerer := F23, b_any_answerer := b23, g_any_answerer := PySem.W.mg_of X G a23,
    a_same := f24, d_same := _, F_same := F24, b_same := b24, g_same := PySem.W.mg_of X G a24,
    a_inner := f25, d_inner := _, F_inner := F25, b_inner := b25, g_inner := PySem.W.mg_of X G a25,
    a_rebuilt := f26, d_rebuilt := _, F_rebuilt := F26, b_rebuilt := b26, g_rebuilt := PySem.W.mg_of X G a26,
    a_bound := f27, d_bound := _, F_bound := F27, b_bound := b27, g_bound := PySem.W.mg_of X G a27,
    a_free := f28, d_free := _, F_free := F28, b_free := b28, g_free := PySem.W.mg_of X G a28,
    a_slow_row := f29, d_slow_row := _, F_slow_row := F29, b_slow_row := b29, g_slow_row := PySem.W.mg_of X G a29,
    a_quick_row := f30, d_quick_row := _, F_quick_row := F30, b_quick_row := b30, g_quick_row := PySem.W.mg_of X G a30,
    a_slowed := f31, d_slowed := _, F_slowed := F31, b_slowed := b31, g_slowed := PySem.W.mg_of X G a31,
    a_quickened := f32, d_quickened := _, F_quickened := F32, b_quickened := b32, g_quickened := PySem.W.mg_of X G a32,
    a_quick_ones := f33, d_quick_ones := _, F_quick_ones := F33, b_quick_ones := b33, g_quick_ones := PySem.W.mg_of X G a33,
    a_last_calls := f34, d_last_calls := _, F_last_calls := F34, b_last_calls := b34, g_last_calls := PySem.W.mg_of X G a34,
    a_parts_in := f35, d_parts_in := _, F_parts_in := F35, b_parts_in := b35, g_parts_in := PySem.W.mg_of X G a35,
    a_one_right := f36, d_one_right := _, F_one_right := F36, b_one_right := b36, g_one_right := PySem.W.mg_of X G a36,
    a_right := f37, d_right := _, F_right := F37, b_right := b37, g_right := PySem.W.mg_of X G a37,
    a_law := fa, d_law := _, F_law := F38, b_law := b38, g_law := PySem.W.mg_of X G a38,
    a_ANSWERERS := ga0, g_ANSWERERS := PySem.W.mg_of X G ge0, s_ANSWERERS := fun H => .inr ⟨_, gi0, gn0, gl0, rfl, rfl, by rw [← Array.length_toList, ← gv0.length]; decide +kernel, gv0⟩,
    a_SHAPES := ga1, g_SHAPES := PySem.W.mg_of X G ge1, k_SHAPES := kd1,
    u_LETTERS := _, g_LETTERS := PySem.W.mg_of X G ge2, r_LETTERS := ⟨_, rfl⟩,
    n_abs := PySem.W.mg_none_of X G z1,
    n_all := PySem.W.mg_none_of X G z2,
    n_bool := PySem.W.mg_none_of X G z3,
    n_enumerate := PySem.W.mg_none_of X G z4,
    n_int := PySem.W.mg_none_of X G z5,
    n_isinstance := PySem.W.mg_none_of X G z6,
    n_len := PySem.W.mg_none_of X G z7,
    n_list := PySem.W.mg_none_of X G z8,
    n_max := PySem.W.mg_none_of X G z9,
    n_min := PySem.W.mg_none_of X G z10,
    n_range := PySem.W.mg_none_of X G z11,
    n_repr := PySem.W.mg_none_of X G z12,
    n_set := PySem.W.mg_none_of X G z13,
    n_sorted := PySem.W.mg_none_of X G z14,
    n_str := PySem.W.mg_none_of X G z15,
    n_sum := PySem.W.mg_none_of X G z16,
    n_tuple := PySem.W.mg_none_of X G z17,
    n_zip := PySem.W.mg_none_of X G z18 }
  exact ⟨_, fun s v => .of_eq rfl, fun base _ _ => ok_law (P := l.prog) (w := w) (base := base) T⟩
end K45

open PySem PySem.W PyProof.Rows in
set_option maxRecDepth 100000 in
set_option maxHeartbeats 0 in
theorem PySem.Challenge.cw_handledeeds_k45_answers_made_quick_and_s_holds : PySem.Challenge.rw_handledeeds_k45_answers_made_quick_and_s.Holds := by
  w_on; o_law; k_head; (case hw => w_witness2)
  k_fill
  refine Grd.walkG (l := PySem.Challenge.rw_handledeeds_k45_answers_made_quick_and_s) (n := 63) (k := 194) (x := "_law_script") (CX := fun _ => L2.CX0) (sp := fun w => K45.sp_law _) rfl (by decide) rfl ⟨rfl, by decide, by decide⟩ (fun w h Y => PySem.W.kIn_of Y) ?F (fun _ _ a ns hl _ hS => ⟨a, ns, rfl, hS, hl, fun _ => rfl⟩) (fun _ _ _ _ _ z => z)
  case F =>
    intro w mg fa h KX G hmg
    refine' K45.all_mk KX G hmg ?a1 ?l1 ?c1 ?k1 ?a2 ?l2 ?c2 ?k2 ?a3 ?l3 ?c3 ?k3 ?a4 ?l4 ?c4 ?k4 ?a5 ?l5 ?c5 ?k5 ?a6 ?l6 ?c6 ?k6 ?a7 ?l7 ?c7 ?k7 ?a8 ?l8 ?c8 ?k8 ?a9 ?l9 ?c9 ?k9 ?a10 ?l10 ?c10 ?k10 ?a11 ?l11 ?c11 ?k11 ?a12 ?l12 ?c12 ?k12 ?a13 ?l13 ?c13 ?k13 ?a14 ?l14 ?c14 ?k14 ?a15 ?l15 ?c15 ?k15 ?a16 ?l16 ?c16 ?k16 ?a17 ?l17 ?c17 ?k17 ?a18 ?l18 ?c18 ?k18 ?a19 ?l19 ?c19 ?k19 ?a20 ?l20 ?c20 ?k20 ?a21 ?l21 ?c21 ?k21 ?a22 ?l22 ?c22 ?k22 ?a23 ?l23 ?c23 ?k23 ?a24 ?l24 ?c24 ?k24 ?a25 ?l25 ?c25 ?k25 ?a26 ?l26 ?c26 ?k26 ?a27 ?l27 ?c27 ?k27 ?a28 ?l28 ?c28 ?k28 ?a29 ?l29 ?c29 ?k29 ?a30 ?l30 ?c30 ?k30 ?a31 ?l31 ?c31 ?k31 ?a32 ?l32 ?c32 ?k32 ?a33 ?l33 ?c33 ?k33 ?a34 ?l34 ?c34 ?k34 ?a35 ?l35 ?c35 ?k35 ?a36 ?l36 ?c36 ?k36 ?a37 ?l37 ?c37 ?k37 ?a38 ?l38 ?c38 ?k38 ?z1 ?z2 ?z3 ?z4 ?z5 ?z6 ?z7 ?z8 ?z9 ?z10 ?z11 ?z12 ?z13 ?z14 ?z15 ?z16 ?z17 ?z18 ?ge0 ?gl0 ?gv0 ?ge1 ?gl1 ?gk1 ?gd1_0 ?gd1_1 ?gd1_2 ?gd1_3 ?gd1_4 ?gd1_5 ?gd1_6 ?gd1_7 ?gd1_8 ?gd1_9 ?gd1_10 ?gd1_11 ?gd1_12 ?gd1_13 ?gd1_14 ?gd1_15 ?ge2
    (case a1 => k_is)
    (case l1 => k_is)
    (case c1 => k_is)
    (case k1 => k_is)
    (case a2 => k_is)
    (case l2 => k_is)
    (case c2 => k_is)
    (case k2 => k_is)
    (case a3 => k_is)
    (case l3 => k_is)
    (case c3 => k_is)
    (case k3 => k_is)
    (case a4 => k_is)
    (case l4 => k_is)
    (case c4 => k_is)
    (case k4 => k_is)
    (case a5 => k_is)
    (case l5 => k_is)
    (case c5 => k_is)
    (case k5 => k_is)
    (case a6 => k_is)
    (case l6 => k_is)
    (case c6 => k_is)
    (case k6 => k_is)
    (case a7 => k_is)
    (case l7 => k_is)
    (case c7 => k_is)
    (case k7 => k_is)
    (case a8 => k_is)
    (case l8 => k_is)
    (case c8 => k_is)
    (case k8 => k_is)
    (case a9 => k_is)
    (case l9 => k_is)
    (case c9 => k_is)
    (case k9 => k_is)
    (case a10 => k_is)
    (case l10 => k_is)
    (case c10 => k_is)
    (case k10 => k_is)
    (case a11 => k_is)
    (case l11 => k_is)
    (case c11 => k_is)
    (case k11 => k_is)
    (case a12 => k_is)
    (case l12 => k_is)
    (case c12 => k_is)
    (case k12 => k_is)
    (case a13 => k_is)
    (case l13 => k_is)
    (case c13 => k_is)
    (case k13 => k_is)
    (case a14 => k_is)
    (case l14 => k_is)
    (case c14 => k_is)
    (case k14 => k_is)
    (case a15 => k_is)
    (case l15 => k_is)
    (case c15 => k_is)
    (case k15 => k_is)
    (case a16 => k_is)
    (case l16 => k_is)
    (case c16 => k_is)
    (case k16 => k_is)
    (case a17 => k_is)
    (case l17 => k_is)
    (case c17 => k_is)
    (case k17 => k_is)
    (case a18 => k_is)
    (case l18 => k_is)
    (case c18 => k_is)
    (case k18 => k_is)
    (case a19 => k_is)
    (case l19 => k_is)
    (case c19 => k_is)
    (case k19 => k_is)
    (case a20 => k_is)
    (case l20 => k_is)
    (case c20 => k_is)
    (case k20 => k_is)
    (case a21 => k_is)
    (case l21 => k_is)
    (case c21 => k_is)
    (case k21 => k_is)
    (case a22 => k_is)
    (case l22 => k_is)
    (case c22 => k_is)
    (case k22 => k_is)
    (case a23 => k_is)
    (case l23 => k_is)
    (case c23 => k_is)
    (case k23 => k_is)
    (case a24 => k_is)
    (case l24 => k_is)
    (case c24 => k_is)
    (case k24 => k_is)
    (case a25 => k_is)
    (case l25 => k_is)
    (case c25 => k_is)
    (case k25 => k_is)
    (case a26 => k_is)
    (case l26 => k_is)
    (case c26 => k_is)
    (case k26 => k_is)
    (case a27 => k_is)
    (case l27 => k_is)
    (case c27 => k_is)
    (case k27 => k_is)
    (case a28 => k_is)
    (case l28 => k_is)
    (case c28 => k_is)
    (case k28 => k_is)
    (case a29 => k_is)
    (case l29 => k_is)
    (case c29 => k_is)
    (case k29 => k_is)
    (case a30 => k_is)
    (case l30 => k_is)
    (case c30 => k_is)
    (case k30 => k_is)
    (case a31 => k_is)
    (case l31 => k_is)
    (case c31 => k_is)
    (case k31 => k_is)
    (case a32 => k_is)
    (case l32 => k_is)
    (case c32 => k_is)
    (case k32 => k_is)
    (case a33 => k_is)
    (case l33 => k_is)
    (case c33 => k_is)
    (case k33 => k_is)
    (case a34 => k_is)
    (case l34 => k_is)
    (case c34 => k_is)
    (case k34 => k_is)
    (case a35 => k_is)
    (case l35 => k_is)
    (case c35 => k_is)
    (case k35 => k_is)
    (case a36 => k_is)
    (case l36 => k_is)
    (case c36 => k_is)
    (case k36 => k_is)
    (case a37 => k_is)
    (case l37 => k_is)
    (case c37 => k_is)
    (case k37 => k_is)
    (case a38 => k_is)
    (case l38 => k_is)
    (case c38 => k_is)
    (case k38 => k_is)
    (case z1 => k_is)
    (case z2 => k_is)
    (case z3 => k_is)
    (case z4 => k_is)
    (case z5 => k_is)
    (case z6 => k_is)
    (case z7 => k_is)
    (case z8 => k_is)
    (case z9 => k_is)
    (case z10 => k_is)
    (case z11 => k_is)
    (case z12 => k_is)
    (case z13 => k_is)
    (case z14 => k_is)
    (case z15 => k_is)
    (case z16 => k_is)
    (case z17 => k_is)
    (case z18 => k_is)
    (case ge0 => k_is)
    (case gl0 => k_is)
    (case gv0 => repeat (first | exact Paired.nil | refine Paired.cons ⟨_, rfl⟩ ?_))
    (case ge1 => k_is)
    (case gl1 => k_is)
    (case gk1 => repeat (first | exact trivial | refine ⟨⟨_, _, rfl, rfl⟩, ?_⟩))
    (case gd1_0 => k_is)
    (case gd1_1 => k_is)
    (case gd1_2 => k_is)
    (case gd1_3 => k_is)
    (case gd1_4 => k_is)
    (case gd1_5 => k_is)
    (case gd1_6 => k_is)
    (case gd1_7 => k_is)
    (case gd1_8 => k_is)
    (case gd1_9 => k_is)
    (case gd1_10 => k_is)
    (case gd1_11 => k_is)
    (case gd1_12 => k_is)
    (case gd1_13 => k_is)
    (case gd1_14 => k_is)
    (case gd1_15 => k_is)
    (case ge2 => k_is)
