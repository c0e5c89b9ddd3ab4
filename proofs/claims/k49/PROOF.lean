import PyProof.Rows.All
import Wide.All
import OpenK.AllK
import Wide.FinOn
import PyProof.ReprRoads
import HandS.ForMost
import HandS.IsInst
import HandS.TupAny
import HandS.DictComp
import HandS.Evl
import HandS.Style
import HandS.Wide
import HandS.TupMul
import HandS.Deep
import HandS.Text
import HandS.More
import KE.KUnpackStar
import KE.KUnpack
import KE.GoesNew
import KE.DataMinMax
import HandS.SortKw
import HandS.SetTxt0
import HandS.SetBool
import PyProof.Rows.SortShellAny
import HandS.SetFor
import HandS.Strs
import KE.KDictZip
import KE.GoesZip
import HandS.ExcValue
import HandS.Small
import HandS.WordsDict
import HandS.TupLen
import KE.KDictDisplayH
import PySem.Challenge.RW_handledeeds_k49_weavings_and_picks
import HandS.RaiseMore
import HandS.Walk
import PyProof.ReprLen
import HandS.MakeKwOnly
set_option Elab.async false
set_option maxRecDepth 100000
set_option maxHeartbeats 4000000
set_option linter.all false
/-! A def's promise where no repr is under way around the call (guards empty): needed by repr of lists, tuples, dicts. -/
namespace Grd
open PySem L2 PyProof.Rows

/-- as FnOk, the call standing where no repr goes on -/
structure Fn (P : Program) (w : World) (K : PySem.W.Frag) (mg : Str → Option Value) (base : Heap) (CX : CXT)
    (k : Nat) (f : Addr) (fd : FuncData) (ps : List Str) (sp : Sp) : Prop where
  len : ∀ vs H Q E, sp vs H Q E → vs.length = ps.length
  run : ∀ (A : Around) (outer : List Env) (s : Shared) (H : Hp) (args : Args) (us : List Value) (vs : List V)
    (Q : VK) (E : XK), A.guards = some [] → Room k A → Env0 P w K mg base A outer s H →
    BindsTo s fd args (ps.zip us) → Vals vs us → sp vs H Q E →
    codeAny (model P w) A (.call (.ref f) args) (CR CX outer P w H s Q E) s

section
variable {P : Program} {w : World} {K : PySem.W.Frag} {mg : Str → Option Value} {base : Heap} {CX : CXT} {k j : Nat}
  {f : Addr} {fd : FuncData} {ps : List Str} {sp sp' : Sp}

theorem Fn.ofOk (G : FnOk P w K mg base CX k f fd ps sp) : Fn P w K mg base CX k f fd ps sp :=
  ⟨G.len, fun A outer s H args us vs Q E _ => G.run A outer s H args us vs Q E⟩

theorem Fn.up (G : Fn P w K mg base CX j f fd ps sp) (h : j ≤ k) : Fn P w K mg base CX k f fd ps sp :=
  ⟨G.len, fun A outer s H args us vs Q E hg hr => G.run A outer s H args us vs Q E hg (hr.mono h)⟩

/-- the body's walk gives the promise -/
theorem mk {x qual : Str} {st : Stmt} {N : List Str} (F : Fun K x qual st f fd) (S : FnScope N ps (defScope st))
    (len : ∀ vs H Q E, sp vs H Q E → vs.length = ps.length)
    (body : ∀ (cdv : Value) (A : Around) (outer : List Env) (s : Shared) (H : Hp) (vs : List V) (Q : VK) (E : XK),
      (A.deeper (envOfC qual (defScope st) s.heap.objs.size f cdv)).guards = some [] →
      Room k (A.deeper (envOfC qual (defScope st) s.heap.objs.size f cdv)) → sp vs H Q E →
      ∃ t, PSs (cxOf CX0 P w K mg base N qual (defScope st) f cdv A outer s H E).nox (defBody st) t ∧
        t { nx := fun _ H' => Q .non H', rt := Q } (start N vs) H) :
    Fn P w K mg base CX0 (k + 1) f fd ps sp := by
  obtain ⟨oc, od, kV, doc, pm, an, cdv, ct, osl, rfl, lk, hcd⟩ := F.ex
  constructor
  · exact len
  intro A outer s H args us vs Q E hg hr e0 hb r hsp
  have hlen := len _ _ _ _ hsp
  have inK : K.In s.heap := e0.mod.kin.keeps fun b o z => (e0.bs b o z).1
  have noLim : s.heap.NoLimit := e0.mod.nolimit.keeps fun b o z => (e0.bs b o z).1
  obtain ⟨t, ht, hq⟩ := body cdv A outer s H vs Q E (by exact hg) (hr.deeper _) hsp
  have kinds : ∀ y ∈ ps.zip us, (defScope st).names.lookup y.1 = some .local ∨
      ((defScope st).names.lookup y.1 = some .cell ∧
        ((cellsFrom (s.heap.objs.size + 1) (defScope st).names []).lookup y.1).isSome = true) := by
    rintro ⟨n, v⟩ hy
    cases S.par n (List.of_mem_zip hy).1 with
    | inl q => exact .inl q
    | inr q => exact .inr ⟨q, PySem.W.cellsFrom_some _ _ _ (.inl q)⟩
  refine codeAny_call_function hr.depth (inK _ _ lk) rfl S.co S.gen rfl
    (PySem.W.codeRec_of inK hcd) (hb _ _ _ _ ?_)
  refine wpAny_newFunctionEnv_cells S.kind kinds fun env he s1 x => ?_
  subst he
  refine ⟨noLim.keeps x.toInCall.keep, codeAny_func ?_⟩
  have I := inv_start (CX := CX0) (E := E) S hr.hd e0 hlen r x
  refine wpAny_mono (ht.nox.run [] s1 (start N vs) H _ I hq) ?_ (fun e s' hs => hs)
  intro fl s' hs
  cases fl with
  | ret u =>
    obtain ⟨v, σ', H', J, rv, q⟩ := hs
    exact ⟨v, H', J.os, J.bare, J.base, J.hok, rv, q⟩
  | next =>
    obtain ⟨σ', H', J, q⟩ := hs
    exact ⟨V.non, H', J.os, J.bare, J.base, J.hok, rfl, q⟩
  | brk =>
    obtain ⟨_, _, _, q⟩ := hs
    exact q.elim
  | cont =>
    obtain ⟨_, _, _, q⟩ := hs
    exact q.elim
end

section
variable {X : Cx} {CX : CXT} {k : Nat} {f : Addr} {fd : FuncData} {ps : List Str} {sp : Sp} {dvs : List V} {ds : List Value}
  {E : XK} {x : Str} {p pos : Pos} {e : Expr} {es : List Expr} {t : TA}

theorem run_it {pins : List (Addr × Obj)} {σ : L2.St} {H : Hp} {s : Shared} {Q : VK} {us : List Value} {vs : List V}
    (F : Fn X.prog X.w X.K X.mg X.base CX k f fd ps sp) (gd : X.A.guards = some []) (hr : Room k X.A)
    (hb : Binds X.K fd ps ds) (hd : Vals dvs ds) (hx : Passes CX X E)
    (I : Inv X pins σ H s) (r : Vals vs us) (h : sp (vs ++ dvs) H Q E) :
    wpAny (model X.prog X.w) X.A (call (.ref f) us) (EP X pins σ Q) X.xe s := by
  have rr := r.append hd
  have ll : (us ++ ds).length = ps.length := rr.length.symm.trans (F.len _ _ _ _ h)
  have z := F.run X.A X.stack s H ⟨us, []⟩ (us ++ ds) (vs ++ dvs) Q E gd hr I.env0 (hb s us I.kIn ll) rr h
  refine wpAny_call (codeAny_mono z ?_)
  intro r s' hq
  match r, hq with
  | .error e, hq => exact hx pins σ H s e s' I hq
  | .ok (.ret u), hq => exact I.after hq
  | .ok .next, hq => exact hq.elim
  | .ok .brk, hq => exact hq.elim
  | .ok .cont, hq => exact hq.elim

/-- f(e, ..) -/
theorem pe_callG (F : Fn X.prog X.w X.K X.mg X.base CX k f fd ps sp) (gd : X.A.guards = some []) (hr : Room k X.A)
    (hg : Gl X x) (hm : X.mg x = some (.ref f)) (hk : PySem.W.keepIn X.K (.ref f) = true) (hb : Binds X.K fd ps ds)
    (hd : Vals dvs ds) (hx : Passes CX X E) (ha : PA X (e :: es) t)
    (hdb : (x == ("__debug__" : Str)) = false := by decide)
    (he : starEach (e :: es) X.env = (false, eval e X.env) :: starEach es X.env := by rfl)
    (hpl : (backTo pos (starEach es X.env)).any (·.1) = false := by rfl) :
    PE X (.Call (.Name x p) (e :: es) [] pos) (tCall sp dvs E t) := by
  constructor
  intro pins s σ H Q I h
  refine wpAny_Call_Name_kw (ld_glob I hg hm ?_ hdb)
  have z := thn (Q' := fun us s1 => X.K.In s1.heap ∧ wpAny (model X.prog X.w) X.A (call (.ref f) us) (EP X pins σ Q) X.xe s1)
    (ha.run pos pins s σ H _ I h) (by
      rintro us s1 ⟨vs, H1, I1, r, q⟩
      exact ⟨I1.kIn, run_it F gd hr hb hd hx I1 r q⟩)
  exact PySem.W.callWith_K (h₀ := X.base) I.ok.mod.kin hk z he hpl

/-- f() -/
theorem pe_callG0 (F : Fn X.prog X.w X.K X.mg X.base CX k f fd ps sp) (gd : X.A.guards = some []) (hr : Room k X.A)
    (hg : Gl X x) (hm : X.mg x = some (.ref f)) (hk : PySem.W.keepIn X.K (.ref f) = true) (hb : Binds X.K fd ps ds)
    (hd : Vals dvs ds) (hx : Passes CX X E) (hdb : (x == ("__debug__" : Str)) = false := by decide) :
    PE X (.Call (.Name x p) [] [] pos) (tCall sp dvs E tNil) := by
  constructor
  intro pins s σ H Q I h
  refine wpAny_Call_Name_kw (ld_glob I hg hm ?_ hdb)
  exact PySem.W.callWith_K0 I.kIn hk (run_it (us := []) F gd hr hb hd hx I .nil h)
end

/-! ### the end of a law: as the library's own, from a promise where no repr goes on -/
theorem law_run {P : Program} {w : World} {K : PySem.W.Frag} {mg mb : Str → Option Value} {CX : CXT} {k : Nat} {fa a : Addr}
    {fd : FuncData} {x : Str} {sp : Sp} {s₁ : Shared} {vs : List Value} {ns : List Int}
    (KX : K.In s₁.heap) (hns : s₁.heap.Ns mainGlobals mg) (hb : s₁.heap.Ns builtinsNs mb)
    (hbb : ∀ x : Str, x ≠ "__name__" → mb x = bootBuiltins x) (hlim : s₁.heap.NoLimit) (hg : s₁.gens = #[])
    (ha : s₁.heap.get? a = some { cls := .type "list", data := .seq vs.toArray }) (hi : IntsAre vs ns)
    (hl : ns.length ≤ sizeLine) (hr : Room k callerA)
    (F : ∀ base : Heap, K.In base → base.Ns mainGlobals mg → Fn P w K mg base CX k fa fd [x] sp)
    (hbind : ∀ (s : Shared) (u : Value), BindsTo s fd ⟨[u], []⟩ [(x, u)])
    (hsp : ∀ H : Hp, Only H → SqL K H a (ns.map V.int) → sp [.ref a] H (fun v _ => v = .bl true) fun _ _ _ => False)
    (hCX : ∀ H e s', CX [] H s₁ (fun _ _ _ => False) e s' → False) :
    codeAny (model P w) callerA (.call (.ref fa) ⟨[.ref a], []⟩)
      (fun r s' => r = .ok (.ret (.bool true)) ∧ OldK s₁.heap s'.heap ∧ s'.os = s₁.os ∧ AllBare s'.gens) s₁ := by
  have rv := vals_ints hi
  have lv := hi.length
  have main : ∀ H : Hp, Only H → SqL K H a (ns.map V.int) → HOk P w H s₁.heap → (∀ b, H b ≠ none → b = a) →
      (H a ≠ none → K.lookup a = none) → codeAny (model P w) callerA (.call (.ref fa) ⟨[.ref a], []⟩)
      (fun r s' => r = .ok (.ret (.bool true)) ∧ OldK s₁.heap s'.heap ∧ s'.os = s₁.os ∧ AllBare s'.gens) s₁ := by
    intro H only hS hok hA hK
    have free : ∀ {b : Addr}, ¬ b = a → H b = none := by
      intro b nb
      cases q : H b with
      | none => rfl
      | some u => exact absurd (hA b (by rw [q]; simp)) nb
    have dictFree : ∀ {b : Addr} {o : Obj} {es : Array DictEntry} {ep : Nat}, s₁.heap.get? b = some o →
        o.data = .dict es ep → H b = none := by
      intro b o es ep e d
      by_cases nb : b = a
      · rw [nb, ha] at e
        rw [← Option.some.inj e] at d
        exact nomatch d
      · exact free nb
    have nsOf : ∀ {b : Addr} {m : Str → Option Value}, s₁.heap.Ns b m → (hidT s₁.heap H).Ns b m := by
      rintro b m ⟨o, es, ep, e, d, r⟩
      exact ⟨o, es, ep, hidT_get e (dictFree e d), d, r⟩
    have inB : K.In (hidT s₁.heap H) := by
      intro b o e
      refine hidT_get (KX b o e) ?_
      cases q : H b with
      | none => rfl
      | some u =>
        have e' : b = a := hA b (by rw [q]; simp)
        have n := hK (by rw [← e', q]; simp)
        rw [e', n] at e
        exact nomatch e
    have mod : Mod K mg (hidT s₁.heap H) := by
      obtain ⟨mc, h1, h2⟩ := hlim
      exact ⟨inB, nsOf hns, ⟨mb, nsOf hb, hbb⟩, ⟨mc, nsOf h1, h2⟩⟩
    have e0 : Env0 P w K mg (hidT s₁.heap H) callerA [] s₁ H :=
      { frames := rfl, mod := mod, bs := fun b o e => of_hidT e, bsz := Nat.le_of_eq (hidT_size _ _), funs := trivial,
        frf := fun b hb => absurd (show b ∈ ([] : List Addr) from hb) (by simp), hok := hok, bare := .of_eq hg }
    have go := (F _ inB (nsOf hns)).run callerA [] s₁ H ⟨[.ref a], []⟩ [.ref a] [.ref a] _ _ rfl hr e0
      (hbind s₁ (.ref a)) (.cons rfl .nil) (hsp H only hS)
    refine codeAny_mono go ?_
    intro r s' h
    match r, h with
    | .error e, h => exact (hCX H e s' h).elim
    | .ok .next, h => exact h.elim
    | .ok .brk, h => exact h.elim
    | .ok .cont, h => exact h.elim
    | .ok (.ret u), h =>
      obtain ⟨v, H', os, bare, un, hok', r', q⟩ := h
      have q' : v = .bl true := q
      subst q'
      have eu : u = Value.bool true := r'
      subst eu
      refine ⟨rfl, OldK.of_keep ?_, os, bare⟩
      intro b o e
      rcases only b with z | ⟨ob, xs, z⟩
      · exact un.keep b o e z (fun y => absurd (show b ∈ ([] : List Addr) from y) (by simp)) (by simp)
      · have y1 := (hok b _ z).1
        have y2 := (hok' b _ (un.frzs b ob _ z)).1
        rw [e] at y1
        rw [Option.some.inj y1]
        exact y2
  cases hk : K.lookup a with
  | some o =>
    have e := KX a o hk
    rw [ha] at e
    have eo := Option.some.inj e
    subst eo
    refine main (fun _ => none) (fun _ => .inl rfl) ?_ (fun b u z => nomatch (show (none : Option HO) = some u from z))
      (fun b z => absurd rfl z) (fun z => absurd rfl z)
    exact .inr ⟨_, vs.toArray, _, hk, rfl, rfl, rfl, by rw [List.size_toArray, lv]; exact hl, by simpa using rv⟩
  | none =>
    let ob : Obj := { cls := .type "list", data := .seq vs.toArray }
    let HS : Hp := fun b => if b = a then some (.frz ob (.lst (ns.map V.int))) else none
    have at_ : HS a = some (.frz ob (.lst (ns.map V.int))) := if_pos rfl
    have off : ∀ {b : Addr}, ¬ b = a → HS b = none := fun nb => if_neg nb
    refine main HS ?_ (.inl (.inr ⟨ob, at_⟩)) ?_ ?_ (fun _ => hk)
    · intro b
      by_cases nb : b = a
      · rw [nb]; exact .inr ⟨_, _, at_⟩
      · exact .inl (off nb)
    · intro b u z
      by_cases nb : b = a
      · subst nb
        rw [at_] at z
        have zu := Option.some.inj z
        subst zu
        exact ⟨ha, by rw [List.length_map]; exact hl, vs, _, rv, ha⟩
      · rw [off nb] at z
        exact nomatch z
    · intro b z
      by_cases nb : b = a
      · exact nb
      · exact absurd (off nb) z

theorem walkG {l : PySem.W.OpenLaw} {n k : Nat} {q : Program} {loose : List Str} {XP : (Str → Option Value) → Heap → Prop}
    {YP : World → Heap → Prop} {d : DefRec} {K : Params → PySem.W.Frag} {CX : World → CXT} {sp : World → Sp} {x : Str}
    (hn : l.most = some n) (hn2 : n ≤ sizeLine) (hdf : d.params.defaults = []) (hr : Room k callerA)
    (hY : ∀ (w : World) (h : Heap), YP w h → (K w.params).In h)
    (F : ∀ (w : World) (mg : Str → Option Value) (fa : Addr) (h : Heap), (K w.params).In h → h.Ns mainGlobals mg →
      mg d.name = some (.ref fa) → ∃ fd : FuncData, (∀ (s : Shared) (u : Value), BindsTo s fd ⟨[u], []⟩ [(x, u)]) ∧
        ∀ base : Heap, (K w.params).In base → base.Ns mainGlobals mg → Fn l.prog w (K w.params) mg base (CX w) k fa fd [x] (sp w))
    (hsp : ∀ (w : World) (H : Hp) (a : Addr) (ns : List Int), ns.length ≤ n → Only H → SqL (K w.params) H a (ns.map V.int) →
      sp w [.ref a] H (fun v _ => v = .bl true) fun _ _ _ => False)
    (hCX : ∀ (w : World) (H : Hp) (s : Shared) (e : Value) (s' : Shared), CX w [] H s (fun _ _ _ => False) e s' → False) :
    PySem.W.WalkO q loose XP YP l.row.toRowW d [] (fun f vs => PySem.call f vs) := by
  refine Att.attach_call hn hdf ?_
  intro w s₀ s₁ mg mb fa o pm cd doc a vs ns G Y ho hd hcd hmg hobj hints hlen hg
  have KX := hY w _ Y
  obtain ⟨fd, hb, hF⟩ := F w mg fa _ KX G.T.g hmg
  exact law_run KX G.T.g G.T.b G.T.builtins G.T.nolimit hg hobj hints (Nat.le_trans hlen hn2) hr hF hb
    (fun H only hS => hsp w H a ns hlen only hS) (fun H e s' => hCX w H s₁ e s')

end Grd

/-! Ow: data without a heap. A value is a datum (nothing in it is changed any more) or an object that one name alone holds. -/
namespace Ow
open PySem L2 Grd
open Evl (Ex ex_t ex_l ex_rd)

/-- the shape of an object that is held by one alone -/
inductive Sh where
  | lst | tup | dic (ks : List Key) | ins (p : Option Addr) (C : Addr) (ks : List Str) | ext (o : Addr → HO) | gen (o d : Addr → Addr → List V → HO)
/-- a datum, or an object held by one alone, with what is in it; or a thing that is held elsewhere -/
inductive OV where
  | d (x : PyData)
  | n (s : Sh) (xs : List OV)
  /-- a thing that is held elsewhere: its place alone -/
  | h (v : V)
abbrev OV.l (xs : List OV) : OV := .n .lst xs
abbrev OV.t (xs : List OV) : OV := .n .tup xs
abbrev En := List (Option OV)
abbrev FS := Addr → Bool

/-- the part of the heap that is never changed any more -/
def rs (H : Hp) (F : FS) : Hp := fun a => if F a = true then H a else none
def Sh.is (s : Sh) (H : Hp) (a : Addr) (vs : List V) (ex : List Addr) : Prop :=
  match s with
  | .lst => H a = some (.lst vs) ∧ ex = []
  | .tup => H a = some (.tup vs) ∧ ex = []
  | .dic ks => H a = some (.dK (ks.zip vs)) ∧ ks.length = vs.length ∧ ex = []
  | .ins p C ks => (∀ b, p = some b → a = b) ∧ ∃ dx, H a = some (.ins C dx (ks.zip vs)) ∧ ks.length = vs.length ∧ H dx = some (.own a) ∧ ex = [dx]
  | .ext o => H a = some (o a) ∧ vs = [] ∧ ex = []
  | .gen o d => ∃ dx, H a = some (o a dx vs) ∧ H dx = some (d a dx vs) ∧ ex = [dx]

mutual
inductive Dt (K : PySem.W.Frag) (H : Hp) : V → PyData → Prop
  | non : Dt K H .non .none
  | bl (b : Bool) : Dt K H (.bl b) (.bool b)
  | int (i : Int) : Dt K H (.int i) (.int i)
  | str (x : Str) : Dt K H (.str x) (.str x)
  | lst {a : Addr} {xs : List V} {ds : List PyData} : H a = some (.lst xs) → Dts K H xs ds → Dt K H (.ref a) (.list ds)
  | tup {a : Addr} {xs : List V} {ds : List PyData} : SqT K H a xs → Dts K H xs ds → Dt K H (.ref a) (.tuple ds)
inductive Dts (K : PySem.W.Frag) (H : Hp) : List V → List PyData → Prop
  | nil : Dts K H [] []
  | cons {v : V} {vs : List V} {d : PyData} {ds : List PyData} : Dt K H v d → Dts K H vs ds → Dts K H (v :: vs) (d :: ds)
end
mutual
inductive Own (K : PySem.W.Frag) (H : Hp) (F : FS) : V → OV → List Addr → Prop
  | d {v : V} {x : PyData} : Dt K (rs H F) v x → Own K H F v (.d x) []
  | h (v : V) : Own K H F v (.h v) []
  | n {a : Addr} {s : Sh} {vs : List V} {xs : List OV} {ex as : List Addr} : s.is H a vs ex → Owns K H F vs xs as → Own K H F (.ref a) (.n s xs) (a :: ex ++ as)
inductive Owns (K : PySem.W.Frag) (H : Hp) (F : FS) : List V → List OV → List Addr → Prop
  | nil : Owns K H F [] [] []
  | cons {v : V} {vs : List V} {x : OV} {xs : List OV} {as bs : List Addr} : Own K H F v x as → Owns K H F vs xs bs → Owns K H F (v :: vs) (x :: xs) (as ++ bs)
end
/-- the names -/
inductive Oe (K : PySem.W.Frag) (H : Hp) (F : FS) : L2.St → En → List Addr → Prop
  | nil : Oe K H F [] [] []
  | skip {o : Option V} {σ : L2.St} {env : En} {as : List Addr} : Oe K H F σ env as → Oe K H F (o :: σ) (none :: env) as
  | cons {v : V} {x : OV} {σ : L2.St} {env : En} {as bs : List Addr} : Own K H F v x as → Oe K H F σ env bs → Oe K H F (some v :: σ) (some x :: env) (as ++ bs)

/-- how things stand: what is held for a while (vs), and the names -/
structure Cf (K : PySem.W.Frag) (H : Hp) (F : FS) (A : Addr → Prop) (vs : List V) (xs : List OV) (σ : L2.St) (env : En) : Prop where
  ex : ∃ a1 a2, Owns K H F vs xs a1 ∧ Oe K H F σ env a2 ∧ (a1 ++ a2).Nodup ∧ ∀ a ∈ a1 ++ a2, F a = false ∧ A a
  fh : ∀ a, F a = true → H a ≠ none
/-- from one heap to a later one: outside A all stays, what is fixed stays -/
structure Step (A : Addr → Prop) (F : FS) (H : Hp) (F' : FS) (H' : Hp) : Prop where
  keep : ∀ a o, ¬ A a → H a = some o → H' a = some o
  fr : Ex (rs H F) (rs H' F')
  fn : ∀ a, F' a = true → F a = true ∨ A a ∨ H a = none
def nxt (A : Addr → Prop) (H : Hp) : Addr → Prop := fun a => A a ∨ H a = none

/-! ### the algebra of it -/
section
variable {K : PySem.W.Frag} {H H' H'' : Hp} {F F' F'' : FS} {A : Addr → Prop}
theorem rs_some {a : Addr} {o : HO} : rs H F a = some o ↔ F a = true ∧ H a = some o := by
  unfold rs
  by_cases h : F a = true
  · simp [h]
  · simp [h]
theorem Step.refl : Step A F H F H := ⟨fun _ _ _ h => h, Ex.refl _, fun _ h => .inl h⟩
theorem Step.trans (s : Step A F H F' H') (t : Step (nxt A H) F' H' F'' H'') : Step A F H F'' H'' := by
  refine ⟨fun a o na h => t.keep a o (fun z => ?_) (s.keep a o na h), s.fr.trans t.fr, fun a h => ?_⟩
  · rcases z with z | z
    · exact na z
    · rw [h] at z; cases z
  · rcases t.fn a h with h | (h | h) | h
    · exact s.fn a h
    · exact .inr (.inl h)
    · exact .inr (.inr h)
    · by_cases na : A a
      · exact .inr (.inl na)
      · cases e : H a with
        | none => exact .inr (.inr rfl)
        | some o => rw [s.keep a o na e] at h; cases h
theorem nxt_mono {B : Addr → Prop} (h : ∀ a, A a → B a) : ∀ a, nxt A H a → nxt B H a := fun a z => z.elim (fun z => .inl (h a z)) .inr
theorem nxt_nxt (s : Step A F H F' H') : ∀ a, nxt (nxt A H) H' a → nxt A H a := fun a z => by
  rcases z with z | z
  · exact z
  · by_cases na : A a
    · exact .inl na
    · cases e : H a with
      | none => exact .inr e
      | some o => rw [s.keep a o na e] at z; cases z
theorem Cf.mono {B : Addr → Prop} {vs : List V} {xs : List OV} {σ : L2.St} {env : En} (c : Cf K H F A vs xs σ env) (h : ∀ a, A a → B a) : Cf K H F B vs xs σ env := by
  obtain ⟨⟨a1, a2, h1, h2, h3, h4⟩, fh⟩ := c
  exact ⟨⟨a1, a2, h1, h2, h3, fun a ha => ⟨(h4 a ha).1, h a (h4 a ha).2⟩⟩, fh⟩
theorem Sh.is_keep {s : Sh} {a : Addr} {vs : List V} {ex : List Addr} (h : s.is H a vs ex) (k : ∀ b ∈ a :: ex, ∀ o, H b = some o → H' b = some o) : s.is H' a vs ex := by
  cases s with
  | lst => exact ⟨k a List.mem_cons_self _ h.1, h.2⟩
  | tup => exact ⟨k a List.mem_cons_self _ h.1, h.2⟩
  | dic ks => exact ⟨k a List.mem_cons_self _ h.1, h.2⟩
  | ins p C ks =>
    obtain ⟨h0, dx, h1, h2, h3, rfl⟩ := h
    exact ⟨h0, dx, k a List.mem_cons_self _ h1, h2, k dx (List.mem_cons_of_mem _ List.mem_cons_self) _ h3, rfl⟩
  | ext o => exact ⟨k a List.mem_cons_self _ h.1, h.2⟩
  | gen o d =>
    obtain ⟨dx, h1, h2, rfl⟩ := h
    exact ⟨dx, k a List.mem_cons_self _ h1, k dx (List.mem_cons_of_mem _ List.mem_cons_self) _ h2, rfl⟩
theorem Sh.is_some {s : Sh} {a : Addr} {vs : List V} {ex : List Addr} (h : s.is H a vs ex) : ∀ b ∈ a :: ex, H b ≠ none := by
  cases s with
  | lst => obtain ⟨h, rfl⟩ := h; intro b hb; simp at hb; subst hb; rw [h]; simp
  | tup => obtain ⟨h, rfl⟩ := h; intro b hb; simp at hb; subst hb; rw [h]; simp
  | dic ks => obtain ⟨h, _, rfl⟩ := h; intro b hb; simp at hb; subst hb; rw [h]; simp
  | ins p C ks =>
    obtain ⟨_, dx, h1, h2, h3, rfl⟩ := h
    intro b hb
    simp at hb
    rcases hb with rfl | rfl
    · rw [h1]; simp
    · rw [h3]; simp
  | ext o => obtain ⟨h, _, rfl⟩ := h; intro b hb; simp at hb; subst hb; rw [h]; simp
  | gen o d =>
    obtain ⟨dx, h1, h2, rfl⟩ := h
    intro b hb
    simp at hb
    rcases hb with rfl | rfl
    · rw [h1]; simp
    · rw [h2]; simp
mutual
theorem dt_ex (e : Ex H H') : ∀ {v : V} {x : PyData}, Dt K H v x → Dt K H' v x
  | _, _, .non => .non
  | _, _, .bl b => .bl b
  | _, _, .int i => .int i
  | _, _, .str x => .str x
  | _, _, .lst h t => .lst (e _ _ h) (dts_ex e t)
  | _, _, .tup h t => .tup (ex_t e h) (dts_ex e t)
theorem dts_ex (e : Ex H H') : ∀ {vs : List V} {xs : List PyData}, Dts K H vs xs → Dts K H' vs xs
  | _, _, .nil => .nil
  | _, _, .cons h t => .cons (dt_ex e h) (dts_ex e t)
end
mutual
theorem Dt.dp : ∀ {v : V} {x : PyData}, Dt K H v x → Dp K H v x
  | _, _, .non => .non
  | _, _, .bl b => .bl b
  | _, _, .int i => .int i
  | _, _, .str x => .str x
  | _, _, .lst h t => .lst (.of h) (Dts.dp t)
  | _, _, .tup h t => .tup h (Dts.dp t)
theorem Dts.dp : ∀ {vs : List V} {xs : List PyData}, Dts K H vs xs → DpAll K H vs xs
  | _, _, .nil => .nil
  | _, _, .cons h t => .cons (Dt.dp h) (Dts.dp t)
end
theorem Dts.len : ∀ {vs : List V} {xs : List PyData}, Dts K H vs xs → xs.length = vs.length
  | _, _, .nil => rfl
  | _, _, .cons _ t => by simp [Dts.len t]
mutual
theorem Own.keep (fr : Ex (rs H F) (rs H' F')) : ∀ {v : V} {x : OV} {as : List Addr}, Own K H F v x as → (∀ a ∈ as, ∀ o, H a = some o → H' a = some o) → Own K H' F' v x as
  | _, _, _, .d h, _ => .d (dt_ex fr h)
  | _, _, _, .h v, _ => .h v
  | _, _, _, .n h t, k => .n (Sh.is_keep h fun b hb => k b (by simp only [List.cons_append, List.mem_cons, List.mem_append] at hb ⊢; rcases hb with hb | hb; exact .inl hb; exact .inr (.inl hb)))
      (Owns.keep fr t fun b hb => k b (List.mem_append_right _ hb))
theorem Owns.keep (fr : Ex (rs H F) (rs H' F')) : ∀ {vs : List V} {xs : List OV} {as : List Addr}, Owns K H F vs xs as → (∀ a ∈ as, ∀ o, H a = some o → H' a = some o) → Owns K H' F' vs xs as
  | _, _, _, .nil, _ => .nil
  | _, _, _, .cons h t, k => .cons (Own.keep fr h fun b hb => k b (List.mem_append_left _ hb)) (Owns.keep fr t fun b hb => k b (List.mem_append_right _ hb))
end
theorem Oe.keep (fr : Ex (rs H F) (rs H' F')) : ∀ {σ : L2.St} {env : En} {as : List Addr}, Oe K H F σ env as → (∀ a ∈ as, ∀ o, H a = some o → H' a = some o) → Oe K H' F' σ env as
  | _, _, _, .nil, _ => .nil
  | _, _, _, .skip t, k => .skip (Oe.keep fr t k)
  | _, _, _, .cons h t, k => .cons (h.keep fr fun b hb => k b (List.mem_append_left _ hb)) (Oe.keep fr t fun b hb => k b (List.mem_append_right _ hb))
mutual
theorem Own.ne : ∀ {v : V} {x : OV} {as : List Addr}, Own K H F v x as → ∀ a ∈ as, H a ≠ none
  | _, _, _, .d _, a, ha => by cases ha
  | _, _, _, .h _, a, ha => by cases ha
  | _, _, _, .n h t, a, ha => (List.mem_append.mp ha).elim (fun z => Sh.is_some h a z) (fun z => Owns.ne t a z)
theorem Owns.ne : ∀ {vs : List V} {xs : List OV} {as : List Addr}, Owns K H F vs xs as → ∀ a ∈ as, H a ≠ none
  | _, _, _, .nil, a, ha => by cases ha
  | _, _, _, .cons h t, a, ha => (List.mem_append.mp ha).elim (fun z => Own.ne h a z) (fun z => Owns.ne t a z)
end
theorem Oe.ne : ∀ {σ : L2.St} {env : En} {as : List Addr}, Oe K H F σ env as → ∀ a ∈ as, H a ≠ none
  | _, _, _, .nil, a, ha => by cases ha
  | _, _, _, .skip t, a, ha => Oe.ne t a ha
  | _, _, _, .cons h t, a, ha => (List.mem_append.mp ha).elim (fun z => h.ne a z) (fun z => Oe.ne t a z)
/-! what is in it as a datum -/
mutual
def frz : OV → Option PyData
  | .d x => .some x
  | .n .lst xs => (frzs xs).map .list
  | .n .tup xs => (frzs xs).map .tuple
  | .n (.dic _) _ => .none
  | .n (.ins _ _ _) _ => .none
  | .n (.ext _) _ => .none
  | .n (.gen _ _) _ => .none
  | .h _ => .none
def frzs : List OV → Option (List PyData)
  | [] => .some []
  | x :: xs => (frz x).bind fun y => (frzs xs).map fun ys => y :: ys
end
@[simp] theorem frz_d (x : PyData) : frz (.d x) = some x := by simp only [frz]
@[simp] theorem frz_l (xs : List OV) : frz (.n .lst xs) = (frzs xs).map .list := by simp only [frz]
@[simp] theorem frz_t (xs : List OV) : frz (.n .tup xs) = (frzs xs).map .tuple := by simp only [frz]
@[simp] theorem frzs_nil : frzs [] = some [] := by simp only [frzs]
@[simp] theorem frzs_cons (x : OV) (xs : List OV) : frzs (x :: xs) = (frz x).bind fun y => (frzs xs).map fun ys => y :: ys := by simp only [frzs]
@[simp] theorem frzs_map (xs : List PyData) : frzs (xs.map OV.d) = some xs := by
  induction xs with
  | nil => simp
  | cons x xs ih => simp [ih]
theorem rs_le {F2 : FS} (h : ∀ a, F a = true → F2 a = true) : Ex (rs H F) (rs H F2) := fun a o e => by
  rw [rs_some] at e ⊢
  exact ⟨h a e.1, e.2⟩
mutual
theorem Own.frz {F2 : FS} (le : ∀ a, F a = true → F2 a = true) : ∀ {v : V} {x : OV} {as : List Addr} {y : PyData}, Own K H F v x as → Ow.frz x = .some y → (∀ a ∈ as, F2 a = true) → Dt K (rs H F2) v y
  | _, _, _, _, .d h, e, _ => by
    rw [frz_d] at e; cases e
    exact dt_ex (rs_le le) h
  | _, _, _, _, .n (s := .lst) h t, e, k => by
    rw [frz_l] at e
    obtain ⟨ys, e1, rfl⟩ := Option.map_eq_some_iff.mp e
    exact .lst (rs_some.mpr ⟨k _ (by simp), h.1⟩) (Owns.frz le t e1 fun b hb => k b (List.mem_append_right _ hb))
  | _, _, _, _, .n (s := .tup) h t, e, k => by
    rw [frz_t] at e
    obtain ⟨ys, e1, rfl⟩ := Option.map_eq_some_iff.mp e
    exact .tup (.of (rs_some.mpr ⟨k _ (by simp), h.1⟩)) (Owns.frz le t e1 fun b hb => k b (List.mem_append_right _ hb))
  | _, _, _, _, .n (s := .dic _) h t, e, k => by simp only [Ow.frz] at e; cases e
  | _, _, _, _, .n (s := .ins _ _ _) h t, e, k => by simp only [Ow.frz] at e; cases e
  | _, _, _, _, .n (s := .ext _) h t, e, k => by simp only [Ow.frz] at e; cases e
  | _, _, _, _, .n (s := .gen _ _) h t, e, k => by simp only [Ow.frz] at e; cases e
  | _, _, _, _, .h _, e, k => by simp only [Ow.frz] at e; cases e
theorem Owns.frz {F2 : FS} (le : ∀ a, F a = true → F2 a = true) : ∀ {vs : List V} {xs : List OV} {as : List Addr} {ys : List PyData}, Owns K H F vs xs as → Ow.frzs xs = .some ys → (∀ a ∈ as, F2 a = true) → Dts K (rs H F2) vs ys
  | _, _, _, _, .nil, e, _ => by
    rw [frzs_nil] at e; cases e
    exact .nil
  | _, _, _, _, .cons h t, e, k => by
    rw [frzs_cons] at e
    obtain ⟨y, e1, e2⟩ := Option.bind_eq_some_iff.mp e
    obtain ⟨ys, e3, rfl⟩ := Option.map_eq_some_iff.mp e2
    exact .cons (Own.frz le h e1 fun b hb => k b (List.mem_append_left _ hb)) (Owns.frz le t e3 fun b hb => k b (List.mem_append_right _ hb))
end
/-- what is fixed from now on -/
def fx (F : FS) (as : List Addr) : FS := fun a => F a || decide (a ∈ as)
theorem fx_true {as : List Addr} {a : Addr} : fx F as a = true ↔ F a = true ∨ a ∈ as := by unfold fx; simp
theorem fx_le {as : List Addr} : ∀ a, F a = true → fx F as a = true := fun a h => fx_true.mpr (.inl h)
end
end Ow

/-! Ow: how a thing is read, held, moved. -/
namespace Ow
open PySem L2 Grd
open Evl (Ex ex_t ex_l ex_rd)

/-- where one stands, since A, F0, H0 -/
structure At (K : PySem.W.Frag) (A : Addr → Prop) (F0 : FS) (H0 : Hp) (H : Hp) (F : FS) (vs : List V) (xs : List OV) (σ : L2.St) (env : En) : Prop where
  st : Step A F0 H0 F H
  cf : Cf K H F (nxt A H0) vs xs σ env

abbrev AE := En → (OV → En → Prop) → Prop
abbrev AA := En → (List OV → En → Prop) → Prop
abbrev AT := En → (Bool → En → Prop) → Prop
def LE (K : PySem.W.Frag) (t : AE) : TE := fun σ H Q => ∃ (A : Addr → Prop) (F : FS) (env : En) (R : OV → En → Prop),
  At K A F H H F [] [] σ env ∧ t env R ∧ ∀ x env' v H' F', R x env' → At K A F H H' F' [v] [x] σ env' → Q v H'
def LA (K : PySem.W.Frag) (t : AA) : TA := fun σ H Q => ∃ (A : Addr → Prop) (F : FS) (env : En) (R : List OV → En → Prop),
  At K A F H H F [] [] σ env ∧ t env R ∧ ∀ xs env' vs H' F', R xs env' → At K A F H H' F' vs xs σ env' → Q vs H'
def LT (K : PySem.W.Frag) (t : AT) : TT := fun σ H Q => ∃ (A : Addr → Prop) (F : FS) (env : En) (R : Bool → En → Prop),
  At K A F H H F [] [] σ env ∧ t env R ∧ ∀ b env' H' F', R b env' → At K A F H H' F' [] [] σ env' → Q b H'
def SE (X : Cx) (e : Expr) (t : AE) : Prop := PE X e (LE X.K t)
def SA (X : Cx) (es : List Expr) (t : AA) : Prop := PA X es (LA X.K t)
def ST (X : Cx) (e : Expr) (t : AT) : Prop := PT X e (LT X.K t)
theorem peTo {X : Cx} {e : Expr} {t t' : TE} (h : PE X e t) (i : ∀ σ H Q, t' σ H Q → t σ H Q) : PE X e t' := ⟨fun pins s σ H Q I q => h.run pins s σ H Q I (i σ H Q q)⟩
theorem ptTo {X : Cx} {e : Expr} {t t' : TT} (h : PT X e t) (i : ∀ σ H Q, t' σ H Q → t σ H Q) : PT X e t' := ⟨fun pins s σ H Q I q => h.run pins s σ H Q I (i σ H Q q)⟩
theorem pwTo {X : Cx} {e : Expr} {t t' : TT} (h : PW X e t) (i : ∀ σ H Q, t' σ H Q → t σ H Q) : PW X e t' := ⟨fun wh pins s σ H Q I q => h.run wh pins s σ H Q I (i σ H Q q)⟩
theorem paTo {X : Cx} {es : List Expr} {t t' : TA} (h : PA X es t) (i : ∀ σ H Q, t' σ H Q → t σ H Q) : PA X es t' := ⟨fun pos pins s σ H Q I q => h.run pos pins s σ H Q I (i σ H Q q)⟩
theorem psTo {X : Cx} {e : Stmt} {t t' : TS} (h : PS X e t) (i : ∀ D σ H, t' D σ H → t D σ H) : PS X e t' := ⟨fun pins s σ H D I q => h.run pins s σ H D I (i D σ H q)⟩

section
variable {K : PySem.W.Frag} {A : Addr → Prop} {F0 F F' : FS} {H0 H H' : Hp} {v u : V} {vs us : List V} {x y : OV} {xs ys : List OV} {σ : L2.St} {env : En}
theorem At.ref (c : Cf K H F A vs xs σ env) : At K A F H H F vs xs σ env := ⟨.refl, c.mono fun _ h => .inl h⟩
theorem At.on (a : At K A F0 H0 H F vs xs σ env) {vs' : List V} {xs' : List OV} {σ' : L2.St} {env' : En} (s : Step (nxt A H0) F H F' H') (c : Cf K H' F' (nxt (nxt A H0) H) vs' xs' σ' env') : At K A F0 H0 H' F' vs' xs' σ' env' :=
  ⟨a.st.trans s, c.mono (nxt_nxt a.st)⟩
/-- the same heap, read otherwise -/
theorem At.re (a : At K A F0 H0 H F vs xs σ env) {vs' : List V} {xs' : List OV} {σ' : L2.St} {env' : En} (c : Cf K H F (nxt A H0) vs' xs' σ' env') : At K A F0 H0 H F vs' xs' σ' env' := ⟨a.st, c⟩
theorem Owns.one {a1 : List Addr} (h : Owns K H F [v] [x] a1) : Own K H F v x a1 := by
  cases h with
  | cons h t =>
    cases t
    rw [List.append_nil]
    exact h
theorem Owns.mk1 {a1 : List Addr} (h : Own K H F v x a1) : Owns K H F [v] [x] a1 := by
  have := Owns.cons h .nil
  rwa [List.append_nil] at this
theorem Owns.append {a1 a2 : List Addr} : ∀ {vs : List V} {xs : List OV} {us : List V} {ys : List OV} {a1 a2 : List Addr}, Owns K H F vs xs a1 → Owns K H F us ys a2 → Owns K H F (vs ++ us) (xs ++ ys) (a1 ++ a2)
  | _, _, _, _, _, _, .nil, h => h
  | _, _, _, _, _, _, .cons h t, g => by
    rw [List.append_assoc]
    exact .cons h (Owns.append (a1 := a1) (a2 := a2) t g)
theorem Owns.split : ∀ {vs : List V} {xs : List OV} {us : List V} {ys : List OV} {as : List Addr}, xs.length = vs.length → Owns K H F (vs ++ us) (xs ++ ys) as → ∃ a1 a2, as = a1 ++ a2 ∧ Owns K H F vs xs a1 ∧ Owns K H F us ys a2
  | [], [], _, _, as, _, h => ⟨[], as, rfl, .nil, h⟩
  | v :: vs, x :: xs, us, ys, _, l, .cons h t => by
    obtain ⟨a1, a2, rfl, h1, h2⟩ := Owns.split (vs := vs) (xs := xs) (by simpa using l) t
    exact ⟨_ ++ a1, a2, by rw [List.append_assoc], .cons h h1, h2⟩
  | [], x :: xs, _, _, _, l, _ => by simp at l
  | v :: vs, [], _, _, _, l, _ => by simp at l
theorem Owns.len : ∀ {vs : List V} {xs : List OV} {as : List Addr}, Owns K H F vs xs as → xs.length = vs.length
  | _, _, _, .nil => rfl
  | _, _, _, .cons _ t => by simp [Owns.len t]
theorem Cf.len (c : Cf K H F A vs xs σ env) : xs.length = vs.length := let ⟨⟨_, _, h, _⟩, _⟩ := c; h.len
theorem Oe.len : ∀ {σ : L2.St} {env : En} {as : List Addr}, Oe K H F σ env as → env.length = σ.length
  | _, _, _, .nil => rfl
  | _, _, _, .skip t => by simp [Oe.len t]
  | _, _, _, .cons _ t => by simp [Oe.len t]
theorem rs_ex : Ex (rs H F) H := fun a o e => (rs_some.mp e).2

/-- a part is run by itself (with what it owns), the rest stays -/
theorem Cf.frame {us : List V} {ys : List OV} {a1 a2 a3 : List Addr} {vs' : List V} {xs' : List OV} {σ' : L2.St} {env' : En}
    (h1 : Owns K H F us ys a1) (h2 : Owns K H F vs xs a2 ∧ Oe K H F σ env a3) (nd : (a1 ++ (a2 ++ a3)).Nodup) (off : ∀ a ∈ a1 ++ (a2 ++ a3), F a = false ∧ A a) (fh : ∀ a, F a = true → H a ≠ none)
    (st : Step (· ∈ a1) F H F' H') (c : Cf K H' F' (nxt (· ∈ a1) H) vs' xs' [] []) : Step A F H F' H' ∧ Cf K H' F' (nxt A H) (vs' ++ vs) (xs' ++ xs) σ env := by
  obtain ⟨⟨b1, b2, g1, g2, nd', off'⟩, fh'⟩ := c
  obtain ⟨h2, h3⟩ := h2
  cases g2
  rw [List.append_nil] at nd' off'
  have dis : ∀ a ∈ a2 ++ a3, a ∉ a1 := fun a ha z => (List.nodup_append.mp nd).2.2 a z a ha rfl
  have sm : ∀ a ∈ a2 ++ a3, H a ≠ none := fun a ha => (List.mem_append.mp ha).elim (h2.ne a) (h3.ne a)
  have kp : ∀ a ∈ a2 ++ a3, ∀ o, H a = some o → H' a = some o := fun a ha o e => st.keep a o (dis a ha) e
  refine ⟨⟨fun a o na e => st.keep a o (fun z => na (off a (List.mem_append_left _ z)).2) e, st.fr, fun a e => (st.fn a e).imp id fun z => z.imp (fun z => (off a (List.mem_append_left _ z)).2) id⟩, ⟨b1 ++ a2, a3, g1.append (a1 := []) (a2 := []) (h2.keep st.fr fun a ha => kp a (List.mem_append_left _ ha)), h3.keep st.fr fun a ha => kp a (List.mem_append_right _ ha), ?_, ?_⟩, fh'⟩
  · rw [List.append_assoc]
    refine List.nodup_append.mpr ⟨nd', (List.nodup_append.mp nd).2.1, fun a ha b hb e => ?_⟩
    subst e
    rcases (off' a ha).2 with z | z
    · exact dis a hb z
    · exact sm a hb z
  · intro a ha
    rw [List.append_assoc] at ha
    rcases List.mem_append.mp ha with ha | ha
    · refine ⟨(off' a ha).1, (off' a ha).2.imp (fun z => (off a (List.mem_append_left _ z)).2) id⟩
    · refine ⟨?_, .inl (off a (List.mem_append_right _ ha)).2⟩
      cases e : F' a with
      | false => rfl
      | true =>
        rcases st.fn a e with z | z | z
        · rw [(off a (List.mem_append_right _ ha)).1] at z; cases z
        · exact absurd z (dis a ha)
        · exact absurd z (sm a ha)
/-- an expression, while vs are held -/
theorem frameE {a1 a2 : List Addr} {vs' : List V} {xs' : List OV} {env' : En} (h1 : Owns K H F vs xs a1) (nd : (a1 ++ a2).Nodup) (off : ∀ a ∈ a1 ++ a2, F a = false ∧ A a)
    (st : Step (· ∈ a2) F H F' H') (c : Cf K H' F' (nxt (· ∈ a2) H) vs' xs' σ env') : Step A F H F' H' ∧ Cf K H' F' (nxt A H) (vs' ++ vs) (xs' ++ xs) σ env' := by
  obtain ⟨⟨b1, b2, g1, g2, nd', off'⟩, fh'⟩ := c
  have dis : ∀ a ∈ a1, a ∉ a2 := fun a ha z => (List.nodup_append.mp nd).2.2 a ha a z rfl
  have kp : ∀ a ∈ a1, ∀ o, H a = some o → H' a = some o := fun a ha o e => st.keep a o (dis a ha) e
  refine ⟨⟨fun a o na e => st.keep a o (fun z => na (off a (List.mem_append_right _ z)).2) e, st.fr, fun a e => (st.fn a e).imp id fun z => z.imp (fun z => (off a (List.mem_append_right _ z)).2) id⟩, ⟨b1 ++ a1, b2, g1.append (a1 := []) (a2 := []) (h1.keep st.fr kp), g2, ?_, ?_⟩, fh'⟩
  · have p : (b1 ++ a1 ++ b2).Perm (a1 ++ (b1 ++ b2)) := by
      rw [← List.append_assoc]
      exact List.Perm.append_right _ List.perm_append_comm
    refine p.nodup_iff.mpr (List.nodup_append.mpr ⟨(List.nodup_append.mp nd).1, nd', fun a ha b hb e => ?_⟩)
    subst e
    rcases (off' a hb).2 with z | z
    · exact dis a ha z
    · exact h1.ne a ha z
  · intro a ha
    have ha : a ∈ a1 ∨ a ∈ b1 ++ b2 := by
      simp only [List.mem_append] at ha ⊢
      rcases ha with (h | h) | h
      · exact .inr (.inl h)
      · exact .inl h
      · exact .inr (.inr h)
    rcases ha with ha | ha
    · refine ⟨?_, .inl (off a (List.mem_append_left _ ha)).2⟩
      cases e : F' a with
      | false => rfl
      | true =>
        rcases st.fn a e with z | z | z
        · rw [(off a (List.mem_append_left _ ha)).1] at z; cases z
        · exact absurd z (dis a ha)
        · exact absurd z (h1.ne a ha)
    · exact ⟨(off' a ha).1, (off' a ha).2.imp (fun z => (off a (List.mem_append_right _ z)).2) id⟩
theorem startE (c : At K A F0 H0 H F vs xs σ env) : ∃ a1 a2, Owns K H F vs xs a1 ∧ (a1 ++ a2).Nodup ∧ (∀ a ∈ a1 ++ a2, F a = false ∧ nxt A H0 a) ∧ At K (· ∈ a2) F H H F [] [] σ env := by
  obtain ⟨st, ⟨⟨a1, a2, h1, h2, nd, off⟩, fh⟩⟩ := c
  exact ⟨a1, a2, h1, nd, off, ⟨.refl, ⟨[], a2, .nil, h2, (List.nodup_append.mp nd).2.1, fun a ha => ⟨(off a (List.mem_append_right _ ha)).1, .inl ha⟩⟩, fh⟩⟩
theorem ev {t : AE} {R : OV → En → Prop} {Q : VK} (c : At K A F0 H0 H F vs xs σ env) (h : t env R)
    (k : ∀ x env' v H' F', R x env' → At K A F0 H0 H' F' (v :: vs) (x :: xs) σ env' → Q v H') : LE K t σ H Q := by
  obtain ⟨a1, a2, h1, nd, off, c2⟩ := startE c
  refine ⟨_, F, env, R, c2, h, fun x env' v H' F' r b => k x env' v H' F' r ?_⟩
  obtain ⟨s, z⟩ := frameE h1 nd off b.st b.cf
  exact c.on s z
theorem evs {t : AA} {R : List OV → En → Prop} {Q : List V → Hp → Prop} (c : At K A F0 H0 H F vs xs σ env) (h : t env R)
    (k : ∀ ys env' us H' F', R ys env' → At K A F0 H0 H' F' (us ++ vs) (ys ++ xs) σ env' → Q us H') : LA K t σ H Q := by
  obtain ⟨a1, a2, h1, nd, off, c2⟩ := startE c
  refine ⟨_, F, env, R, c2, h, fun ys env' us H' F' r b => k ys env' us H' F' r ?_⟩
  obtain ⟨s, z⟩ := frameE h1 nd off b.st b.cf
  exact c.on s z
theorem evt {t : AT} {R : Bool → En → Prop} {Q : Bool → Hp → Prop} (c : At K A F0 H0 H F vs xs σ env) (h : t env R)
    (k : ∀ b env' H' F', R b env' → At K A F0 H0 H' F' vs xs σ env' → Q b H') : LT K t σ H Q := by
  obtain ⟨a1, a2, h1, nd, off, c2⟩ := startE c
  refine ⟨_, F, env, R, c2, h, fun y env' H' F' r b => k y env' H' F' r ?_⟩
  obtain ⟨s, z⟩ := frameE (vs' := []) (xs' := []) h1 nd off b.st b.cf
  exact c.on s z

/-! ### what is held -/
theorem At.pop (c : At K A F0 H0 H F (v :: vs) (x :: xs) σ env) : At K A F0 H0 H F vs xs σ env := by
  obtain ⟨st, ⟨⟨a1, a2, h1, h2, nd, off⟩, fh⟩⟩ := c
  cases h1 with
  | @cons _ _ _ _ b1 b2 h t =>
    refine ⟨st, ⟨⟨b2, a2, t, h2, ?_, fun a ha => off a ?_⟩, fh⟩⟩
    · rw [List.append_assoc] at nd
      exact (List.nodup_append.mp nd).2.1
    · rw [List.append_assoc]
      exact List.mem_append_right _ ha
theorem At.push (c : At K A F0 H0 H F vs xs σ env) {d : PyData} (h : Dt K (rs H F) v d) : At K A F0 H0 H F (v :: vs) (.d d :: xs) σ env := by
  obtain ⟨st, ⟨⟨a1, a2, h1, h2, nd, off⟩, fh⟩⟩ := c
  exact ⟨st, ⟨⟨a1, a2, .cons (.d h) h1, h2, nd, off⟩, fh⟩⟩
theorem At.dp {d : PyData} (c : At K A F0 H0 H F (v :: vs) (.d d :: xs) σ env) : Dt K (rs H F) v d := by
  obtain ⟨st, ⟨⟨a1, a2, h1, h2, nd, off⟩, fh⟩⟩ := c
  cases h1 with
  | cons h t => cases h with | d h => exact h
theorem At.dpH {d : PyData} (c : At K A F0 H0 H F (v :: vs) (.d d :: xs) σ env) : Dt K H v d := dt_ex rs_ex c.dp
/-- the i-th of those held comes to the front -/
theorem At.front {vs1 vs2 : List V} {xs1 xs2 : List OV} (l : xs1.length = vs1.length) (c : At K A F0 H0 H F (vs1 ++ v :: vs2) (xs1 ++ x :: xs2) σ env) : At K A F0 H0 H F (v :: (vs1 ++ vs2)) (x :: (xs1 ++ xs2)) σ env := by
  obtain ⟨st, ⟨⟨a1, a2, h1, h2, nd, off⟩, fh⟩⟩ := c
  obtain ⟨b1, b2, rfl, g1, g2⟩ := Owns.split l h1
  cases g2 with
  | @cons _ _ _ _ c1 c2 h t =>
    have p : ((c1 ++ (b1 ++ c2)) ++ a2).Perm ((b1 ++ (c1 ++ c2)) ++ a2) := by
      refine List.Perm.append_right _ ?_
      rw [← List.append_assoc, ← List.append_assoc]
      exact List.Perm.append_right _ List.perm_append_comm
    exact ⟨st, ⟨⟨c1 ++ (b1 ++ c2), a2, .cons h (g1.append (a1 := []) (a2 := []) t), h2, p.nodup_iff.mpr nd, fun a ha => off a (p.mem_iff.mp ha)⟩, fh⟩⟩
theorem At.swap (c : At K A F0 H0 H F (v :: u :: vs) (x :: y :: xs) σ env) : At K A F0 H0 H F (u :: v :: vs) (y :: x :: xs) σ env := At.front (vs1 := [v]) (xs1 := [x]) rfl c
theorem At.app_comm {vs1 vs2 : List V} {xs1 xs2 : List OV} (l : xs1.length = vs1.length) (c : At K A F0 H0 H F (vs1 ++ vs2) (xs1 ++ xs2) σ env) : At K A F0 H0 H F (vs2 ++ vs1) (xs2 ++ xs1) σ env := by
  obtain ⟨st, ⟨⟨a1, a2, h1, h2, nd, off⟩, fh⟩⟩ := c
  obtain ⟨b1, b2, rfl, g1, g2⟩ := Owns.split l h1
  have p : ((b2 ++ b1) ++ a2).Perm ((b1 ++ b2) ++ a2) := List.Perm.append_right _ List.perm_append_comm
  exact ⟨st, ⟨⟨b2 ++ b1, a2, g2.append (a1 := []) (a2 := []) g1, h2, p.nodup_iff.mpr nd, fun a ha => off a (p.mem_iff.mp ha)⟩, fh⟩⟩
/-- what is held becomes a datum -/
theorem At.fix (c : At K A F0 H0 H F (v :: vs) (x :: xs) σ env) {d : PyData} (e : frz x = some d) : ∃ F', At K A F0 H0 H F' (v :: vs) (.d d :: xs) σ env := by
  have c0 := c
  obtain ⟨st, ⟨⟨a1, a2, h1, h2, nd, off⟩, fh⟩⟩ := c
  cases h1 with
  | @cons _ _ _ _ b1 b2 h t =>
    have dp := h.frz (F2 := fx F b1) fx_le e (fun a ha => fx_true.mpr (.inr ha))
    have fr : Ex (rs H F) (rs H (fx F b1)) := rs_le fx_le
    refine ⟨fx F b1, c0.on ⟨fun _ _ _ h => h, fr, fun a h => ?_⟩ ⟨⟨b2, a2, .cons (.d dp) (t.keep fr fun _ _ _ h => h), h2.keep fr fun _ _ _ h => h, ?_, ?_⟩, ?_⟩⟩
    · rcases fx_true.mp h with h | h
      · exact .inl h
      · exact .inr (.inl (off a (by simp [h])).2)
    · rw [List.append_assoc] at nd
      exact (List.nodup_append.mp nd).2.1
    · intro a ha
      have m : a ∈ b1 ++ b2 ++ a2 := by rw [List.append_assoc]; exact List.mem_append_right _ ha
      refine ⟨?_, .inl (off a m).2⟩
      cases q : fx F b1 a with
      | false => rfl
      | true =>
        rcases fx_true.mp q with q | q
        · rw [(off a m).1] at q; cases q
        · rw [List.append_assoc] at nd
          exact absurd rfl ((List.nodup_append.mp nd).2.2 a q a ha)
    · intro a h
      rcases fx_true.mp h with h | h
      · exact fh a h
      · exact Own.ne ‹_› a h
theorem At.fixs : ∀ {us : List V} {ys : List OV} {ds : List PyData} {F : FS} {vs : List V} {xs : List OV}, At K A F0 H0 H F (us ++ vs) (ys ++ xs) σ env → ys.length = us.length → frzs ys = some ds → ∃ F', At K A F0 H0 H F' (us ++ vs) (ds.map OV.d ++ xs) σ env ∧ Dts K (rs H F') us ds
  | [], [], ds, F, _, _, c, _, e => by rw [frzs_nil] at e; cases e; exact ⟨F, c, .nil⟩
  | u :: us, y :: ys, ds, F, vs, xs, c, l, e => by
    rw [frzs_cons] at e
    obtain ⟨d, e1, e2⟩ := Option.bind_eq_some_iff.mp e
    obtain ⟨ds', e3, rfl⟩ := Option.map_eq_some_iff.mp e2
    obtain ⟨F1, c1⟩ := c.fix e1
    have c2 : At K A F0 H0 H F1 (us ++ (vs ++ [u])) (ys ++ (xs ++ [OV.d d])) σ env := by
      rw [← List.append_assoc, ← List.append_assoc]
      exact At.app_comm (vs1 := [u]) (xs1 := [.d d]) rfl c1
    have l' : ys.length = us.length := by simpa using l
    obtain ⟨F2, c3, dp⟩ := At.fixs (vs := vs ++ [u]) (xs := xs ++ [OV.d d]) c2 l' e3
    have ld : (ds'.map OV.d).length = us.length := by
      have := c3.cf.len
      have := c2.cf.len
      simp only [List.length_append, List.length_map, List.length_cons, List.length_nil] at *
      omega
    have lx : xs.length = vs.length := by
      have := c.cf.len
      simp only [List.length_append, List.length_cons] at *
      omega
    have c4 : At K A F0 H0 H F2 (u :: (us ++ vs)) (OV.d d :: (ds'.map OV.d ++ xs)) σ env := by
      have q := At.app_comm (vs1 := us ++ vs) (vs2 := [u]) (xs1 := ds'.map OV.d ++ xs) (xs2 := [OV.d d]) (by simp only [List.length_append, ld, lx]) (by rw [List.append_assoc, List.append_assoc]; exact c3)
      exact q
    exact ⟨F2, c4, .cons c4.dp dp⟩
  | [], y :: ys, _, _, _, _, _, l, _ => by simp at l
  | u :: us, [], _, _, _, _, _, l, _ => by simp at l
/-- a new object of what is held -/
theorem At.make {us : List V} {ys : List OV} {p : Addr} {o : HO} {s : Sh} (c : At K A F0 H0 H F (us ++ vs) (ys ++ xs) σ env) (l : ys.length = us.length) (hp : H p = none) (hs : s.is (upd H p o) p us []) :
    At K A F0 H0 (upd H p o) F (.ref p :: vs) (.n s ys :: xs) σ env := by
  have c0 := c
  obtain ⟨st, ⟨⟨a1, a2, h1, h2, nd, off⟩, fh⟩⟩ := c
  obtain ⟨b1, b2, rfl, g1, g2⟩ := Owns.split l h1
  have ex : Ex H (upd H p o) := Ex.new hp
  have nF : F p = false := by
    cases q : F p with
    | false => rfl
    | true => exact absurd hp (fh p q)
  have fr : Ex (rs H F) (rs (upd H p o) F) := fun a u e => by
    rw [rs_some] at e ⊢
    exact ⟨e.1, ex a u e.2⟩
  have np : p ∉ b1 ++ b2 ++ a2 := fun z => by
    rcases List.mem_append.mp z with z | z
    · exact h1.ne p z hp
    · exact h2.ne p z hp
  refine c0.on ⟨fun a u _ h => ex a u h, fr, fun a h => .inl h⟩ ⟨⟨(p :: [] ++ b1) ++ b2, a2, .cons (.n hs (g1.keep fr fun a _ u h => ex a u h)) (g2.keep fr fun a _ u h => ex a u h), h2.keep fr fun a _ u h => ex a u h, ?_, ?_⟩, ?_⟩
  · simp only [List.cons_append, List.nil_append]
    exact List.nodup_cons.mpr ⟨np, nd⟩
  · intro a ha
    simp only [List.cons_append, List.nil_append, List.mem_cons] at ha
    rcases ha with rfl | ha
    · exact ⟨nF, .inr hp⟩
    · exact ⟨(off a ha).1, .inl (off a ha).2⟩
  · intro a h
    by_cases e : a = p
    · subst e; rw [upd_same]; simp
    · rw [upd_ne e]; exact fh a h
end
end Ow

/-! Ow: names; what is held, in another order; an object changed. -/
namespace Ow
open PySem L2 Grd
open Evl (Ex ex_t ex_l ex_rd)
section
variable {K : PySem.W.Frag} {A : Addr → Prop} {F0 F F' : FS} {H0 H H' : Hp} {v u : V} {vs us : List V} {x y : OV} {xs ys : List OV} {σ : L2.St} {env : En}
theorem Oe.take : ∀ {σ : L2.St} {env : En} {a2 : List Addr} {i : Nat} {x : OV}, Oe K H F σ env a2 → env[i]? = some (some x) →
    ∃ v b c1 c2, a2 = c1 ++ (b ++ c2) ∧ σ[i]? = some (some v) ∧ Own K H F v x b ∧ Oe K H F σ (env.set i none) (c1 ++ c2)
  | _, _, _, i, x, .nil, e => by simp at e
  | _, _, _, 0, x, .skip t, e => by simp at e
  | _, _, _, i + 1, x, .skip t, e => by
    obtain ⟨v, b, c1, c2, rfl, h1, h2, h3⟩ := Oe.take (i := i) (x := x) t (by simpa using e)
    exact ⟨v, b, c1, c2, rfl, by simpa using h1, h2, .skip h3⟩
  | _, _, _, 0, x, .cons h t, e => by
    simp at e
    subst e
    exact ⟨_, _, [], _, rfl, rfl, h, .skip t⟩
  | _, _, _, i + 1, x, .cons (as := as) h t, e => by
    obtain ⟨v, b, c1, c2, rfl, h1, h2, h3⟩ := Oe.take (i := i) (x := x) t (by simpa using e)
    refine ⟨v, b, as ++ c1, c2, by simp [List.append_assoc], by simpa using h1, h2, ?_⟩
    rw [List.append_assoc]
    exact .cons h h3
theorem Oe.store : ∀ {σ : L2.St} {env : En} {a2 : List Addr} {i : Nat} {v : V} {x : OV} {b : List Addr}, Oe K H F σ env a2 → i < env.length → Own K H F v x b →
    ∃ c1 d c2, a2 = c1 ++ (d ++ c2) ∧ Oe K H F (σ.set i (some v)) (env.set i (some x)) (c1 ++ (b ++ c2))
  | _, _, _, i, _, _, _, .nil, l, _ => by simp at l
  | _, _, _, 0, _, _, _, .skip t, l, g => ⟨[], [], _, rfl, by have := Oe.cons g t; simpa using this⟩
  | _, _, _, 0, _, _, _, .cons h t, l, g => ⟨[], _, _, rfl, by have := Oe.cons g t; simpa using this⟩
  | _, _, _, i + 1, _, _, _, .skip t, l, g => by
    obtain ⟨c1, d, c2, rfl, h⟩ := Oe.store (i := i) t (by simpa using l) g
    exact ⟨c1, d, c2, rfl, .skip h⟩
  | _, _, _, i + 1, _, _, _, .cons (as := as) h t, l, g => by
    obtain ⟨c1, d, c2, rfl, h2⟩ := Oe.store (i := i) t (by simpa using l) g
    refine ⟨as ++ c1, d, c2, by simp [List.append_assoc], ?_⟩
    have := Oe.cons h h2
    simpa [List.append_assoc] using this
theorem Oe.drop : ∀ {σ : L2.St} {env : En} {a2 : List Addr} (i : Nat) (o : Option V), Oe K H F σ env a2 → ∃ c1 d c2, a2 = c1 ++ (d ++ c2) ∧ Oe K H F (σ.set i o) (env.set i none) (c1 ++ c2)
  | _, _, _, i, o, .nil => ⟨[], [], [], rfl, .nil⟩
  | _, _, _, 0, o, .skip t => ⟨[], [], _, rfl, .skip t⟩
  | _, _, _, 0, o, .cons h t => ⟨[], _, _, rfl, .skip t⟩
  | _, _, _, i + 1, o, .skip t => by
    obtain ⟨c1, d, c2, rfl, h⟩ := Oe.drop i o t
    exact ⟨c1, d, c2, rfl, .skip h⟩
  | _, _, _, i + 1, o, .cons (as := as) h t => by
    obtain ⟨c1, d, c2, rfl, h2⟩ := Oe.drop i o t
    refine ⟨as ++ c1, d, c2, by simp [List.append_assoc], ?_⟩
    have := Oe.cons h h2
    simpa [List.append_assoc] using this
theorem Oe.get {i : Nat} {a2 : List Addr} (h : Oe K H F σ env a2) (e : env[i]? = some (some x)) : ∃ v, σ[i]? = some (some v) := by
  obtain ⟨v, _, _, _, _, h, _⟩ := h.take e
  exact ⟨v, h⟩
/-- what a name holds comes to be held -/
theorem At.take (c : At K A F0 H0 H F vs xs σ env) {i : Nat} (e : env[i]? = some (some x)) : ∃ v, σ[i]? = some (some v) ∧ At K A F0 H0 H F (v :: vs) (x :: xs) σ (env.set i none) := by
  obtain ⟨st, ⟨⟨a1, a2, h1, h2, nd, off⟩, fh⟩⟩ := c
  obtain ⟨v, b, c1, c2, rfl, h3, h4, h5⟩ := h2.take e
  have p : ((b ++ a1) ++ (c1 ++ c2)).Perm (a1 ++ (c1 ++ (b ++ c2))) := by
    refine (List.Perm.append_right _ List.perm_append_comm).trans ?_
    rw [List.append_assoc]
    refine List.Perm.append_left _ ?_
    rw [← List.append_assoc, ← List.append_assoc]
    exact List.Perm.append_right _ List.perm_append_comm
  exact ⟨v, h3, st, ⟨⟨b ++ a1, c1 ++ c2, .cons h4 h1, h5, p.nodup_iff.mpr nd, fun a ha => off a (p.mem_iff.mp ha)⟩, fh⟩⟩
theorem At.get (c : At K A F0 H0 H F vs xs σ env) {i : Nat} (e : env[i]? = some (some x)) : ∃ v, σ[i]? = some (some v) := let ⟨v, h, _⟩ := c.take e; ⟨v, h⟩
/-- what is held goes to a name -/
theorem At.store (c : At K A F0 H0 H F (v :: vs) (x :: xs) σ env) {i : Nat} (l : i < env.length) : At K A F0 H0 H F vs xs (σ.set i (some v)) (env.set i (some x)) := by
  obtain ⟨st, ⟨⟨a1, a2, h1, h2, nd, off⟩, fh⟩⟩ := c
  cases h1 with
  | @cons _ _ _ _ b1 b2 h t =>
    obtain ⟨c1, d, c2, rfl, h5⟩ := h2.store l h
    have p : ((b2 ++ (c1 ++ (b1 ++ c2))) ++ d).Perm ((b1 ++ b2) ++ (c1 ++ (d ++ c2))) := by
      refine List.perm_iff_count.mpr fun a => ?_
      simp only [List.count_append]
      omega
    refine ⟨st, ⟨⟨b2, c1 ++ (b1 ++ c2), t, h5, ?_, fun a ha => off a (p.mem_iff.mp (List.mem_append_left _ ha))⟩, fh⟩⟩
    exact (List.nodup_append.mp (p.nodup_iff.mpr nd)).1
theorem At.put (c : At K A F0 H0 H F (v :: vs) (x :: xs) σ env) {i : Nat} (h : σ[i]? = some (some v)) : At K A F0 H0 H F vs xs σ (env.set i (some x)) := by
  have l : i < env.length := by
    obtain ⟨st, ⟨⟨a1, a2, h1, h2, nd, off⟩, fh⟩⟩ := c
    rw [h2.len]
    exact (List.getElem?_eq_some_iff.mp h).1
  have q := c.store (i := i) l
  have e : σ.set i (some v) = σ := by
    refine List.ext_getElem? fun j => ?_
    rw [List.getElem?_set]
    by_cases ij : i = j
    · subst ij
      rw [if_pos rfl, h]
      simp [(List.getElem?_eq_some_iff.mp h).1]
    · rw [if_neg ij]
  rwa [e] at q
theorem At.wipe1 (c : At K A F0 H0 H F vs xs σ env) (i : Nat) (o : Option V) : At K A F0 H0 H F vs xs (σ.set i o) (env.set i none) := by
  obtain ⟨st, ⟨⟨a1, a2, h1, h2, nd, off⟩, fh⟩⟩ := c
  obtain ⟨c1, d, c2, rfl, h5⟩ := h2.drop i o
  have p : ((a1 ++ (c1 ++ c2)) ++ d).Perm (a1 ++ (c1 ++ (d ++ c2))) := by
    refine List.perm_iff_count.mpr fun a => ?_
    simp only [List.count_append]
    omega
  refine ⟨st, ⟨⟨a1, c1 ++ c2, h1, h5, ?_, fun a ha => off a (p.mem_iff.mp (List.mem_append_left _ ha))⟩, fh⟩⟩
  exact (List.nodup_append.mp (p.nodup_iff.mpr nd)).1
theorem At.elen (c : At K A F0 H0 H F vs xs σ env) : env.length = σ.length := let ⟨_, ⟨⟨_, _, _, h, _⟩, _⟩⟩ := c; h.len

/-! ### pairs, in any order -/
abbrev Prs := List (V × OV)
abbrev fsts (ps : Prs) : List V := ps.map Prod.fst
abbrev snds (ps : Prs) : List OV := ps.map Prod.snd
theorem Owns.perm {ps qs : Prs} (p : ps.Perm qs) : ∀ {as : List Addr}, Owns K H F (fsts ps) (snds ps) as → ∃ bs, Owns K H F (fsts qs) (snds qs) bs ∧ as.Perm bs := by
  induction p with
  | nil => intro as h; exact ⟨as, h, .refl _⟩
  | cons a p ih =>
    intro as h
    cases h with
    | cons h t =>
      obtain ⟨bs, g, q⟩ := ih t
      exact ⟨_, .cons h g, List.Perm.append_left _ q⟩
  | swap a b l =>
    intro as h
    cases h with
    | @cons _ _ _ _ c1 _ h t =>
      cases t with
      | @cons _ _ _ _ d1 d2 g t =>
        refine ⟨_, .cons g (.cons h t), ?_⟩
        rw [← List.append_assoc, ← List.append_assoc]
        exact List.Perm.append_right _ List.perm_append_comm
  | trans _ _ i1 i2 =>
    intro as h
    obtain ⟨bs, g, q⟩ := i1 h
    obtain ⟨cs, g2, q2⟩ := i2 g
    exact ⟨cs, g2, q.trans q2⟩
theorem zip_v {vs : List V} {xs : List OV} (l : xs.length = vs.length) : fsts (vs.zip xs) = vs := List.map_fst_zip (by omega)
theorem zip_x {vs : List V} {xs : List OV} (l : xs.length = vs.length) : snds (vs.zip xs) = xs := List.map_snd_zip (by omega)
theorem Owns.sub {ps qs r : Prs} (p : (qs ++ r).Perm ps) {as : List Addr} (h : Owns K H F (fsts ps) (snds ps) as) : ∃ bs c, Owns K H F (fsts qs) (snds qs) bs ∧ (bs ++ c).Perm as := by
  obtain ⟨bs, g, q⟩ := h.perm p.symm
  rw [show fsts (qs ++ r) = (fsts qs) ++ (fsts r) from List.map_append, show snds (qs ++ r) = (snds qs) ++ (snds r) from List.map_append] at g
  obtain ⟨b1, b2, rfl, g1, g2⟩ := Owns.split (by simp) g
  exact ⟨b1, b2, g1, q.symm⟩
theorem At.sub {ps qs r : Prs} (p : (qs ++ r).Perm ps) (c : At K A F0 H0 H F (fsts ps) (snds ps) σ env) : At K A F0 H0 H F (fsts qs) (snds qs) σ env := by
  obtain ⟨st, ⟨⟨a1, a2, h1, h2, nd, off⟩, fh⟩⟩ := c
  obtain ⟨bs, d, g, q⟩ := h1.sub p
  have p2 : ((bs ++ a2) ++ d).Perm (a1 ++ a2) := by
    have := List.Perm.append_right a2 q
    refine (List.perm_iff_count.mpr fun a => ?_).trans this
    simp only [List.count_append]
    omega
  exact ⟨st, ⟨⟨bs, a2, g, h2, (List.nodup_append.mp (p2.nodup_iff.mpr nd)).1, fun a ha => off a (p2.mem_iff.mp (List.mem_append_left _ ha))⟩, fh⟩⟩
/-- an object that is held is changed: what is in it and what is held beside it, in another order, some of it dropped -/
theorem At.mut {a : Addr} {s : Sh} (c : At K A F0 H0 H F (.ref a :: vs) (.n s ys :: xs) σ env) : ∃ ws ex, s.is H a ws ex ∧ ys.length = ws.length ∧ xs.length = vs.length ∧
    ∀ (s' : Sh) (o : HO) (ps qs r : Prs), s'.is (upd H a o) a (fsts ps) ex → ((ps ++ qs) ++ r).Perm (ws.zip ys ++ vs.zip xs) →
      At K A F0 H0 (upd H a o) F (.ref a :: (fsts qs)) (.n s' (snds ps) :: (snds qs)) σ env := by
  have c0 := c
  obtain ⟨st, ⟨⟨a1, a2, h1, h2, nd, off⟩, fh⟩⟩ := c
  cases h1 with
  | @cons _ _ _ _ b1 b2 h t =>
    cases h with
    | @n _ _ ws _ ex as hs hw =>
      refine ⟨ws, ex, hs, hw.len, t.len, fun s' o ps qs r hs' p => ?_⟩
      have all : Owns K H F (fsts (ws.zip ys ++ vs.zip xs)) (snds (ws.zip ys ++ vs.zip xs)) (as ++ b2) := by
        rw [show fsts (ws.zip ys ++ vs.zip xs) = ws ++ vs by rw [show fsts (ws.zip ys ++ vs.zip xs) = fsts (ws.zip ys) ++ fsts (vs.zip xs) from List.map_append, zip_v hw.len, zip_v t.len],
          show snds (ws.zip ys ++ vs.zip xs) = ys ++ xs by rw [show snds (ws.zip ys ++ vs.zip xs) = snds (ws.zip ys) ++ snds (vs.zip xs) from List.map_append, zip_x hw.len, zip_x t.len]]
        exact hw.append (a1 := []) (a2 := []) t
      obtain ⟨bs, d, g, q⟩ := all.sub p
      rw [show fsts (ps ++ qs) = (fsts ps) ++ (fsts qs) from List.map_append, show snds (ps ++ qs) = (snds ps) ++ (snds qs) from List.map_append] at g
      obtain ⟨e1, e2, rfl, g1, g2⟩ := Owns.split (by simp) g
      have am : a ∈ (a :: ex ++ as) ++ b2 ++ a2 := by simp
      have aF : F a = false := (off a am).1
      have aA := (off a am).2
      have kp : ∀ b, b ≠ a → ∀ o', H b = some o' → upd H a o b = some o' := fun b hb o' e => by rw [upd_ne hb]; exact e
      have fr : Ex (rs H F) (rs (upd H a o) F) := fun b u e => by
        rw [rs_some] at e ⊢
        refine ⟨e.1, kp b (fun z => ?_) u e.2⟩
        subst z
        rw [aF] at e
        exact absurd e.1 (by simp)
      have p2 : ((a :: ex ++ e1) ++ e2 ++ a2 ++ d).Perm ((a :: ex ++ as) ++ b2 ++ a2) := by
        refine List.perm_iff_count.mpr fun z => ?_
        have q' := List.perm_iff_count.mp q z
        simp only [List.count_append] at q' ⊢
        omega
      have nd2 : ((a :: ex ++ e1) ++ e2 ++ a2).Nodup := (List.nodup_append.mp (p2.nodup_iff.mpr nd)).1
      have na : ∀ b ∈ e1 ++ e2 ++ a2, b ≠ a := fun b hb z => by
        subst z
        have : (b :: (ex ++ (e1 ++ e2 ++ a2))).Nodup := by simpa [List.append_assoc] using nd2
        exact (List.nodup_cons.mp this).1 (List.mem_append_right _ hb)
      refine c0.on ⟨fun b u hb e => kp b (fun z => ?_) u e, fr, fun b h => .inl h⟩ ⟨⟨(a :: ex ++ e1) ++ e2, a2, .cons (.n hs' (g1.keep fr fun b hb => kp b (na b (by simp [hb])))) (g2.keep fr fun b hb => kp b (na b (by simp [hb]))), h2.keep fr fun b hb => kp b (na b (by simp [hb])), nd2, ?_⟩, ?_⟩
      · subst z
        exact hb aA
      · intro b hb
        have := off b (p2.mem_iff.mp (List.mem_append_left _ hb))
        exact ⟨this.1, .inl this.2⟩
      · intro b h
        by_cases z : b = a
        · subst z; rw [upd_same]; simp
        · rw [upd_ne z]; exact fh b h
end
end Ow

/-! Ow: constants, names, operators, comparisons, tests, displays. -/
namespace Ow
open PySem L2 Grd
open Evl (Ex ex_t ex_l ex_rd)
/-! ### what is meant -/
def aC (d : PyData) : AE := fun env Q => Q (.d d) env
/-- a name that is read: what it holds is fixed from now on -/
def aName (i : Nat) : AE := fun env Q => match env[i]? with
  | some (some (.d x)) => Q (.d x) env
  | some (some x) => match frz x with
    | some y => Q (.d y) (env.set i (some (.d y)))
    | none => False
  | _ => False
/-- a name that is read and not used any more -/
def aMove (i : Nat) : AE := fun env Q => match env[i]? with
  | some (some (.d x)) => Q (.d x) env
  | some (some x) => Q x (env.set i none)
  | _ => False
def a2 (o : OV → OV → (OV → Prop) → Prop) (ta tb : AE) : AE := fun env Q => ta env fun x e1 => tb e1 fun y e2 => o x y fun z => Q z e2
def a1 (o : OV → (OV → Prop) → Prop) (ta : AE) : AE := fun env Q => ta env fun x e1 => o x fun z => Q z e1
def aNil : AA := fun env Q => Q [] env
def aCons (ta : AE) (tr : AA) : AA := fun env Q => ta env fun x e1 => tr e1 fun xs e2 => Q (x :: xs) e2
def dats : List OV → Option (List PyData)
  | [] => some []
  | .d x :: xs => (dats xs).map (x :: ·)
  | .n _ _ :: _ => none
  | .h _ :: _ => none
def mkT (xs : List OV) : OV := match dats xs with
  | some ds => .d (.tuple ds)
  | none => .n .tup xs
def aLst (t : AA) : AE := fun env Q => t env fun xs e => xs.length ≤ sizeLine ∧ Q (.n .lst xs) e
def aTup (t : AA) : AE := fun env Q => t env fun xs e => xs.length ≤ sizeLine ∧ Q (mkT xs) e
/-- what is in a list -/
def lel : OV → Option (List OV)
  | .n .lst xs => some xs
  | .d (.list ds) => some (ds.map .d)
  | _ => none
def o2 (f : PyData → PyData → (PyData → Prop) → Prop) (x y : OV) (R : OV → Prop) : Prop := match frz x, frz y with
  | some a, some b => f a b fun c => R (.d c)
  | _, _ => False
def o1 (f : PyData → (PyData → Prop) → Prop) (x : OV) (R : OV → Prop) : Prop := match frz x with
  | some a => f a fun c => R (.d c)
  | _ => False
@[simp] theorem dats_nil : dats [] = some [] := rfl
@[simp] theorem dats_d (x : PyData) (xs : List OV) : dats (.d x :: xs) = (dats xs).map (x :: ·) := rfl
@[simp] theorem dats_n (s : Sh) (ys xs : List OV) : dats (.n s ys :: xs) = none := rfl
@[simp] theorem dats_h (v : V) (xs : List OV) : dats (.h v :: xs) = none := rfl
@[simp] theorem dats_map (xs : List PyData) : dats (xs.map OV.d) = some xs := by
  induction xs with
  | nil => rfl
  | cons x xs ih => simp [ih]
@[simp] theorem o2_d (f : PyData → PyData → (PyData → Prop) → Prop) (a b : PyData) (R : OV → Prop) : o2 f (.d a) (.d b) R = f a b fun c => R (.d c) := by simp only [o2, frz_d]
@[simp] theorem o1_d (f : PyData → (PyData → Prop) → Prop) (a : PyData) (R : OV → Prop) : o1 f (.d a) R = f a fun c => R (.d c) := by simp only [o1, frz_d]
theorem dats_frzs : ∀ {xs : List OV} {ds : List PyData}, dats xs = some ds → xs = ds.map OV.d
  | [], ds, e => by simp at e; subst e; rfl
  | .d x :: xs, ds, e => by
    rw [dats_d] at e
    obtain ⟨ys, e1, rfl⟩ := Option.map_eq_some_iff.mp e
    rw [dats_frzs e1]
    rfl
  | .n _ _ :: _, ds, e => by simp at e
  | .h _ :: _, ds, e => by simp at e
def fAdd (a b : PyData) (k : PyData → Prop) : Prop := match a, b with
  | .int i, .int j => k (.int (i + j))
  | .str x, .str y => x.length + y.length ≤ sizeLine ∧ k (.str (x ++ y))
  | .tuple xs, .tuple ys => xs.length + ys.length ≤ sizeLine ∧ k (.tuple (xs ++ ys))
  | _, _ => False
def oAdd (x y : OV) (R : OV → Prop) : Prop := match lel x, lel y with
  | some xs, some ys => xs.length + ys.length ≤ sizeLine ∧ R (.n .lst (xs ++ ys))
  | _, _ => o2 fAdd x y R
def fInt (C : Int → Int → Prop) (g : Int → Int → PyData) (a b : PyData) (k : PyData → Prop) : Prop := match a, b with
  | .int i, .int j => C i j ∧ k (g i j)
  | _, _ => False
def fNeg (a : PyData) (k : PyData → Prop) : Prop := match a with
  | .int i => k (.int (-i))
  | _ => False
def fNot (a : PyData) (k : PyData → Prop) : Prop := match a with
  | .bool b => k (.bool (!b))
  | _ => False
/-- scalars that == tells apart -/
def sc2 : PyData → PyData → Bool
  | .none, .none => true | .none, .int _ => true | .int _, .none => true | .none, .bool _ => true | .bool _, .none => true | .none, .str _ => true | .str _, .none => true
  | .int _, .int _ => true | .bool _, .bool _ => true | .str _, .str _ => true
  | .int _, .str _ => true | .str _, .int _ => true | .bool _, .str _ => true | .str _, .bool _ => true
  | _, _ => false
def fEq (neg : Bool) (a b : PyData) (k : PyData → Prop) : Prop := (sc2 a b = true ∨ (SeqAt.shaped a = true ∧ SeqAt.shaped b = true)) ∧ k (.bool (if neg then !PyData.eqv a b else PyData.eqv a b))
def fOrd (g : Int → Int → Bool) (h : List Nat → List Nat → Bool) (a b : PyData) (k : PyData → Prop) : Prop := match a, b with
  | .int i, .int j => k (.bool (g i j))
  | .str x, .str y => k (.bool (h x.cps.toList y.cps.toList))
  | _, _ => False
def flatD : PyData → Bool
  | .none => true | .bool _ => true | .int _ => true | .str _ => true | _ => false
def fIn (neg : Bool) (a b : PyData) (k : PyData → Prop) : Prop := match b with
  | .list ds => ((flatD a = true ∧ ds.all flatD = true) ∨ (SeqAt.shaped a = true ∧ SeqAt.shaped (.list ds) = true)) ∧ k (.bool (if neg then !(ds.any fun z => PyData.eqv z a) else ds.any fun z => PyData.eqv z a))
  | .tuple ds => (flatD a = true ∧ ds.all flatD = true) ∧ k (.bool (if neg then !(ds.any fun z => PyData.eqv z a) else ds.any fun z => PyData.eqv z a))
  | .str z => match a with
    | .str y => k (.bool (if neg then !(!(Builtin.Str.occurrences z y 0 z.length 1).isEmpty) else !(Builtin.Str.occurrences z y 0 z.length 1).isEmpty))
    | _ => False
  | _ => False
def fIs (neg : Bool) (a b : PyData) (k : PyData → Prop) : Prop := match b with
  | .none => k (.bool (if neg then !(match a with | .none => true | _ => false) else (match a with | .none => true | _ => false)))
  | .bool y => match a with
    | .bool x => k (.bool (if neg then !decide (x = y) else decide (x = y)))
    | _ => False
  | _ => False
def oMul (x y : OV) (R : OV → Prop) : Prop := match lel x, y with
  | some xs, .d (.int k) => match frzs xs with
    | some ds => (-(2 ^ 63) ≤ k ∧ k < 2 ^ 63 ∧ ds.length * k.toNat ≤ sizeLine) ∧ R (.n .lst ((List.replicate k.toNat ds).flatten.map .d))
    | none => False
  | _, _ => o2 (fInt CMulW fun i j => .int (i * j)) x y R
def aTst (t : AE) : AT := fun env Q => t env fun x e => match x with
  | .d (.bool b) => Q b e
  | _ => False
def aAnd (t u : AT) : AT := fun env Q => t env fun b e => if b = true then u e Q else Q false e
def aOr (t u : AT) : AT := fun env Q => t env fun b e => if b = true then Q true e else u e Q
def aNot (t : AT) : AT := fun env Q => t env fun b e => Q (!b) e
def aIf (t : AT) (u v : AE) : AE := fun env Q => t env fun b e => if b = true then u e Q else v e Q
def aIfT (t u v : AT) : AT := fun env Q => t env fun b e => if b = true then u e Q else v e Q
def aAndV (t u : AE) : AE := fun env Q => t env fun x e => match x with
  | .d (.bool b) => if b = true then u e Q else Q (.d (.bool false)) e
  | _ => False
def aOrV (t u : AE) : AE := fun env Q => t env fun x e => match x with
  | .d (.bool b) => if b = true then Q (.d (.bool true)) e else u e Q
  | _ => False
def aChain (f g : PyData → PyData → (PyData → Prop) → Prop) (ta tb tc : AE) : AE := fun env Q => ta env fun x e1 => tb e1 fun y e2 => o2 f x y fun z => match z with
  | .d (.bool b) => if b = true then tc e2 fun w e3 => o2 g y w fun q => Q q e3 else Q (.d (.bool false)) e2
  | _ => False

/-! ### by values -/
structure Op2 (K : PySem.W.Frag) (r : R2) (o : OV → OV → (OV → Prop) → Prop) : Prop where
  run : ∀ {A : Addr → Prop} {F0 F : FS} {H0 H : Hp} {σ : L2.St} {env : En} {x y : V} {ox oy : OV} {R : OV → Prop} {Q : VK},
  At K A F0 H0 H F [y, x] [oy, ox] σ env → o ox oy R → (∀ z w H' F', R z → At K A F0 H0 H' F' [w] [z] σ env → Q w H') → r x y H Q
structure Op1 (K : PySem.W.Frag) (r : V → Hp → VK → Prop) (o : OV → (OV → Prop) → Prop) : Prop where
  run : ∀ {A : Addr → Prop} {F0 F : FS} {H0 H : Hp} {σ : L2.St} {env : En} {x : V} {ox : OV} {R : OV → Prop} {Q : VK},
  At K A F0 H0 H F [x] [ox] σ env → o ox R → (∀ z w H' F', R z → At K A F0 H0 H' F' [w] [z] σ env → Q w H') → r x H Q
section
variable {K : PySem.W.Frag} {A : Addr → Prop} {F0 F F' : FS} {H0 H H' : Hp} {v u : V} {vs us : List V} {x y : OV} {xs ys : List OV} {σ : L2.St} {env : En}
theorem At.pushs : ∀ {us : List V} {ds : List PyData}, At K A F0 H0 H F vs xs σ env → Dts K (rs H F) us ds → At K A F0 H0 H F (us ++ vs) (ds.map OV.d ++ xs) σ env
  | _, _, c, .nil => c
  | _, _, c, .cons h t => (At.pushs c t).push h
theorem At.pops : ∀ {us : List V} {ys : List OV}, At K A F0 H0 H F (us ++ vs) (ys ++ xs) σ env → ys.length = us.length → At K A F0 H0 H F vs xs σ env
  | [], [], c, _ => c
  | _ :: us, _ :: ys, c, l => At.pops (us := us) (ys := ys) c.pop (by simpa using l)
  | [], _ :: _, _, l => by simp at l
  | _ :: _, [], _, l => by simp at l
theorem At.newL {p : Addr} {ds : List PyData} (c : At K A F0 H0 H F vs xs σ env) (h : Dts K (rs H F) us ds) (hp : H p = none) : At K A F0 H0 (upd H p (.lst us)) F (.ref p :: vs) (.n .lst (ds.map OV.d) :: xs) σ env :=
  (c.pushs h).make (by rw [List.length_map]; exact h.len) hp ⟨upd_same, rfl⟩
theorem At.newT {p : Addr} {ds : List PyData} (c : At K A F0 H0 H F vs xs σ env) (h : Dts K (rs H F) us ds) (hp : H p = none) : ∃ F', At K A F0 H0 (upd H p (.tup us)) F' (.ref p :: vs) (.d (.tuple ds) :: xs) σ env :=
  At.fix (At.make (s := .tup) (c.pushs h) (by rw [List.length_map]; exact h.len) hp ⟨upd_same, rfl⟩) (by simp)
/-- two that are held become data -/
theorem At.fix2 {a b : PyData} (c : At K A F0 H0 H F (v :: u :: vs) (x :: y :: xs) σ env) (ea : frz x = some a) (eb : frz y = some b) : ∃ F', At K A F0 H0 H F' (v :: u :: vs) (.d a :: .d b :: xs) σ env := by
  obtain ⟨F1, c1⟩ := c.fix ea
  obtain ⟨F2, c2⟩ := c1.swap.fix eb
  exact ⟨F2, c2.swap⟩
theorem Op2.scal {r : R2} {f : PyData → PyData → (PyData → Prop) → Prop}
    (h : ∀ {H : Hp} {x y : V} {a b : PyData} {k : PyData → Prop} {Q : VK}, Dt K H x a → Dt K H y b → f a b k → (∀ c w, k c → (∀ H', Dt K H' w c) → Q w H) → r x y H Q) : Op2 K r (o2 f) := by
  constructor
  intro A F0 F H0 H σ env x y ox oy R Q c o k
  unfold o2 at o
  split at o
  · rename_i a b ea eb
    obtain ⟨F1, c1⟩ := c.fix2 eb ea
    exact h c1.swap.dpH c1.dpH o fun d w kd hw => k (.d d) w H F1 kd (c1.pop.pop.push (hw _))
  · exact o.elim
theorem Op1.scal {r : V → Hp → VK → Prop} {f : PyData → (PyData → Prop) → Prop}
    (h : ∀ {H : Hp} {x : V} {a : PyData} {k : PyData → Prop} {Q : VK}, Dt K H x a → f a k → (∀ c w, k c → (∀ H', Dt K H' w c) → Q w H) → r x H Q) : Op1 K r (o1 f) := by
  constructor
  intro A F0 F H0 H σ env x ox R Q c o k
  unfold o1 at o
  split at o
  · rename_i a ea
    obtain ⟨F1, c1⟩ := c.fix ea
    exact h c1.dpH o fun d w kd hw => k (.d d) w H F1 kd (c1.pop.push (hw _))
  · exact o.elim
/-- what is in a list that is held -/
theorem At.lel {ys : List OV} (c : At K A F0 H0 H F (v :: vs) (x :: xs) σ env) (e : Ow.lel x = some ys) : ∃ a ws, v = .ref a ∧ H a = some (.lst ws) ∧ ys.length = ws.length ∧ At K A F0 H0 H F (ws ++ vs) (ys ++ xs) σ env := by
  unfold Ow.lel at e
  split at e
  · cases e
    have c0 := c
    obtain ⟨st, ⟨⟨a1, a2, h1, h2, nd, off⟩, fh⟩⟩ := c
    cases h1 with
    | @cons _ _ _ _ b1 b2 h t =>
      cases h with
      | @n a _ ws _ ex as hs hw =>
        refine ⟨a, ws, rfl, hs.1, hw.len, st, ⟨⟨as ++ b2, a2, hw.append (a1 := []) (a2 := []) t, h2, ?_, fun z hz => off z ?_⟩, fh⟩⟩
        · have q : ((a :: ex) ++ ((as ++ b2) ++ a2)).Nodup := by simpa [List.append_assoc] using nd
          exact (List.nodup_append.mp q).2.1
        · simp only [List.mem_append, List.mem_cons] at hz ⊢
          rcases hz with (hz | hz) | hz
          · exact .inl (.inl (.inr hz))
          · exact .inl (.inr hz)
          · exact .inr hz
  · rename_i ds
    cases e
    have dp := c.dp
    cases dp with
    | lst h t =>
      refine ⟨_, _, rfl, rs_ex _ _ h, by rw [List.length_map]; exact t.len, c.pop.pushs t⟩
  · cases e
theorem Dts.app {H : Hp} : ∀ {vs us : List V} {ds es : List PyData}, Dts K H vs ds → Dts K H us es → Dts K H (vs ++ us) (ds ++ es)
  | _, _, _, _, .nil, h => h
  | _, _, _, _, .cons a t, h => .cons a (Dts.app t h)
theorem op2_add : Op2 K (fun x y H Q => rCat x y H Q ∨ ((∃ i j, x = .int i ∧ y = .int j ∧ Q (.int (i + j)) H) ∨ (∃ i j, x = .str i ∧ y = .str j ∧ i.length + j.length ≤ sizeLine ∧ Q (.str (i ++ j)) H)) ∨ rCatA K x y H Q) oAdd := by
  constructor
  intro A F0 F H0 H σ env x y ox oy R Q c o k
  unfold oAdd at o
  split at o
  · rename_i xs ys ex ey
    obtain ⟨b, zs, rfl, hb, lz, c1⟩ := c.lel ey
    have c2 := At.front lz c1
    obtain ⟨a, ws, rfl, ha, lw, c3⟩ := c2.lel ex
    refine .inl ⟨a, b, ws, zs, rfl, rfl, ha, hb, by rw [← lz, ← lw]; exact o.1, fun p hp => k _ _ _ F o.2 ?_⟩
    have c4 : At K A F0 H0 H F ((ws ++ zs) ++ []) ((xs ++ ys) ++ []) σ env := by
      rw [List.append_assoc, List.append_assoc]
      exact c3
    exact c4.make (by simp [lz, lw]) hp ⟨upd_same, rfl⟩
  · refine .inr ?_
    unfold o2 at o
    split at o
    · rename_i a b ea eb
      obtain ⟨F1, c1⟩ := c.fix2 eb ea
      have dx := c1.swap.dp
      have dy := c1.dp
      unfold fAdd at o
      split at o
      · cases dx; cases dy
        exact .inl (.inl ⟨_, _, rfl, rfl, k _ _ _ _ o (c1.pop.pop.push (.int _))⟩)
      · cases dx; cases dy
        exact .inl (.inr ⟨_, _, rfl, rfl, o.1, k _ _ _ _ o.2 (c1.pop.pop.push (.str _))⟩)
      · rename_i xs ys
        cases dx with
        | @tup a1 v1 _ h1 t1 =>
          cases dy with
          | @tup a2 v2 _ h2 t2 =>
            have l1 := t1.len
            have l2 := t2.len
            refine .inr ⟨a1, a2, v1, v2, rfl, rfl, ex_t rs_ex h1, ex_t rs_ex h2, by omega, fun e => ?_, fun n e => ?_, fun n1 n2 p hp => ?_⟩
            · subst e
              cases t1
              exact k _ _ _ _ o.2 (c1.pop.pop.push (.tup h2 t2))
            · subst e
              cases t2
              refine k _ _ _ _ o.2 (c1.pop.pop.push ?_)
              rw [List.append_nil]
              exact .tup h1 t1
            · obtain ⟨F2, c2⟩ := c1.pop.pop.newT (t1.app t2) hp
              exact k _ _ _ _ o.2 c2
      · exact o.elim
    · exact o.elim
theorem op2_int {C : Int → Int → Prop} {g : Int → Int → Int} : Op2 K (rI C fun i j => .int (g i j)) (o2 (fInt C fun i j => .int (g i j))) :=
  Op2.scal fun hx hy o k => by
    unfold fInt at o
    split at o
    · cases hx; cases hy
      exact ⟨_, _, rfl, rfl, o.1, k _ _ o.2 fun _ => .int _⟩
    · exact o.elim
theorem op2_int0 {g : Int → Int → Int} : Op2 K (rI0 fun i j => .int (g i j)) (o2 (fInt (fun _ _ => True) fun i j => .int (g i j))) :=
  Op2.scal fun hx hy o k => by
    unfold fInt at o
    split at o
    · cases hx; cases hy
      exact ⟨_, _, rfl, rfl, k _ _ o.2 fun _ => .int _⟩
    · exact o.elim
theorem Dts.rep {H : Hp} {vs : List V} {ds : List PyData} (h : Dts K H vs ds) : ∀ k : Nat, Dts K H (List.replicate k vs).flatten (List.replicate k ds).flatten
  | 0 => .nil
  | k + 1 => by
    rw [List.replicate_succ, List.replicate_succ, List.flatten_cons, List.flatten_cons]
    exact h.app (Dts.rep h k)
theorem op2_mul : Op2 K (fun x y H Q => rRep x y H Q ∨ rI CMulW (fun i j => .int (i * j)) x y H Q) oMul := by
  constructor
  intro A F0 F H0 H σ env x y ox oy R Q c o k
  unfold oMul at o
  split at o
  · rename_i xs n ex
    split at o
    · rename_i ds ed
      have dn := c.dp
      cases dn
      obtain ⟨a, ws, rfl, ha, lw, c3⟩ := c.pop.lel ex
      obtain ⟨F1, c4, dp⟩ := At.fixs (vs := []) (xs := []) c3 lw ed
      have ld := dp.len
      refine .inl ⟨a, n, ws, rfl, rfl, ha, o.1.1, o.1.2.1, by rw [← ld]; exact o.1.2.2, fun p hp => k _ _ _ F1 o.2 ?_⟩
      exact (At.pops c4 (by rw [List.length_map]; exact ld)).newL (dp.rep _) hp
    · exact o.elim
  · exact .inr (op2_int.run c o k)
theorem dt_eq {H : Hp} {x y : V} {a b : PyData} (hx : Dt K H x a) (hy : Dt K H y b) (s : sc2 a b = true) : L2.scal x y = true ∧ decide (x = y) = PyData.eqv a b := by
  unfold sc2 at s
  split at s <;> first
    | exact absurd s Bool.false_ne_true
    | (cases hx; cases hy; refine ⟨rfl, ?_⟩; first | (simp only [PyData.eqv]; exact dec_int) | (simp only [PyData.eqv]; exact dec_bl) | (simp only [PyData.eqv]; exact dec_str) | (simp [PyData.eqv]))
theorem op2_eq : Op2 K (fun x y H Q => rEq x y H Q ∨ rEqD K x y H Q) (o2 (fEq false)) :=
  Op2.scal fun hx hy o k => by
    obtain ⟨o1, o2⟩ := o
    rw [if_neg Bool.false_ne_true] at o2
    rcases o1 with s | ⟨s1, s2⟩
    · obtain ⟨e1, e2⟩ := dt_eq hx hy s
      refine .inl ⟨e1, ?_⟩
      rw [e2]
      exact k _ _ o2 fun _ => .bl _
    · exact .inr ⟨_, _, hx.dp, hy.dp, s1, s2, k _ _ o2 fun _ => .bl _⟩
theorem op2_ne : Op2 K (fun x y H Q => rNe x y H Q ∨ rNeD K x y H Q) (o2 (fEq true)) :=
  Op2.scal fun hx hy o k => by
    obtain ⟨o1, o2⟩ := o
    rw [if_pos rfl] at o2
    rcases o1 with s | ⟨s1, s2⟩
    · obtain ⟨e1, e2⟩ := dt_eq hx hy s
      refine .inl ⟨e1, ?_⟩
      rw [e2]
      exact k _ _ o2 fun _ => .bl _
    · exact .inr ⟨_, _, hx.dp, hy.dp, s1, s2, k _ _ o2 fun _ => .bl _⟩
theorem op2_ord {g : Int → Int → Bool} {h : List Nat → List Nat → Bool} : Op2 K (fun x y H Q => rI0 (fun i j => .bl (g i j)) x y H Q ∨ (∃ i j : Str, x = .str i ∧ y = .str j ∧ Q (.bl (h i.cps.toList j.cps.toList)) H)) (o2 (fOrd g h)) :=
  Op2.scal fun hx hy o k => by
    unfold fOrd at o
    split at o
    · cases hx; cases hy
      exact .inl ⟨_, _, rfl, rfl, k _ _ o fun _ => .bl _⟩
    · cases hx; cases hy
      exact .inr ⟨_, _, rfl, rfl, k _ _ o fun _ => .bl _⟩
    · exact o.elim
theorem flat_of {H : Hp} {x : V} {a : PyData} (h : Dt K H x a) (f : flatD a = true) : flatV x = true := by
  cases h <;> first | rfl | (simp [flatD] at f)
theorem flats_of {H : Hp} : ∀ {vs : List V} {ds : List PyData}, Dts K H vs ds → ds.all flatD = true → vs.all flatV = true
  | _, _, .nil, _ => rfl
  | _, _, .cons h t, f => by
    simp only [List.all_cons, Bool.and_eq_true] at f ⊢
    exact ⟨flat_of h f.1, flats_of t f.2⟩
theorem eqV_of {H : Hp} {x y : V} {a b : PyData} (hx : Dt K H x a) (hy : Dt K H y b) (fa : flatD a = true) (fb : flatD b = true) : eqV x y = PyData.eqv a b := by
  cases hx <;> first | (simp [flatD] at fa; done) | (cases hy <;> first | (simp [flatD] at fb; done) | (simp only [eqV, PyData.eqv]))
theorem inV_of {H : Hp} {x : V} {a : PyData} (hx : Dt K H x a) (fa : flatD a = true) : ∀ {vs : List V} {ds : List PyData}, Dts K H vs ds → ds.all flatD = true → inV x vs = ds.any fun z => PyData.eqv z a
  | _, _, .nil, _ => rfl
  | _, _, .cons h t, f => by
    simp only [List.all_cons, Bool.and_eq_true] at f
    have := inV_of hx fa t f.2
    unfold inV at this ⊢
    rw [List.any_cons, List.any_cons, this, eqV_of h hx f.1 fa]
theorem op2_in (neg : Bool) : Op2 K (fun x y H Q => rIn K neg x y H Q ∨ (if neg then rNotInD K x y H Q else rInD K x y H Q) ∨ (∃ i j, x = .str i ∧ y = .str j ∧ Q (.bl (if neg then !(!(Builtin.Str.occurrences j i 0 j.length 1).isEmpty) else !(Builtin.Str.occurrences j i 0 j.length 1).isEmpty)) H)) (o2 (fIn neg)) :=
  Op2.scal fun hx hy o k => by
    unfold fIn at o
    split at o
    · cases hy with
      | @lst a vs _ h t =>
        obtain ⟨o1, o2⟩ := o
        rcases o1 with ⟨f1, f2⟩ | ⟨s1, s2⟩
        · refine .inl ⟨_, _, rfl, .inl (.of h), flat_of hx f1, flats_of t f2, ?_⟩
          rw [inV_of hx f1 t f2]
          exact k _ _ o2 fun _ => .bl _
        · refine .inr (.inl ?_)
          cases neg with
          | true => exact ⟨_, _, hx.dp, (Dt.lst h t).dp, s1, s2, k _ _ o2 fun _ => .bl _⟩
          | false => exact ⟨_, _, hx.dp, (Dt.lst h t).dp, s1, s2, k _ _ o2 fun _ => .bl _⟩
    · cases hy with
      | @tup a vs _ h t =>
        obtain ⟨⟨f1, f2⟩, o2⟩ := o
        refine .inl ⟨_, _, rfl, .inr h, flat_of hx f1, flats_of t f2, ?_⟩
        rw [inV_of hx f1 t f2]
        exact k _ _ o2 fun _ => .bl _
    · split at o
      · cases hx; cases hy
        exact .inr (.inr ⟨_, _, rfl, rfl, k _ _ o fun _ => .bl _⟩)
      · exact o.elim
    · exact o.elim
theorem op2_is (neg : Bool) : Op2 K (fun x y H Q => (y = .non ∧ Q (.bl (if neg then !decide (x = .non) else decide (x = .non))) H) ∨ (∃ a b : Bool, x = .bl a ∧ y = .bl b ∧ Q (.bl (if neg then !decide (a = b) else decide (a = b))) H)) (o2 (fIs neg)) :=
  Op2.scal fun hx hy o k => by
    unfold fIs at o
    split at o
    · cases hy
      refine .inl ⟨rfl, ?_⟩
      cases hx <;> exact k _ _ o fun _ => .bl _
    · split at o
      · cases hx; cases hy
        exact .inr ⟨_, _, rfl, rfl, k _ _ o fun _ => .bl _⟩
      · exact o.elim
    · exact o.elim
end
end Ow

/-! Ow: the rules of expressions. -/
namespace Ow
open PySem L2 Grd
open Evl (Ex ex_t ex_l ex_rd)
section
variable {X : Cx} {e a b c : Expr} {es : List Expr} {ta tb tc : AE} {pos : Pos}
theorem se_int {i : Int} {j} : SE X (.Constant (.int i) j pos) (aC (.int i)) := peTo pe_int fun σ H Q ⟨A, F, env, R, c, h, k⟩ => k _ _ _ _ _ h (c.push (.int i))
theorem se_bl {i : Bool} {j} : SE X (.Constant (.bool i) j pos) (aC (.bool i)) := peTo pe_bl fun σ H Q ⟨A, F, env, R, c, h, k⟩ => k _ _ _ _ _ h (c.push (.bl i))
theorem se_non {j} : SE X (.Constant .none j pos) (aC .none) := peTo pe_non fun σ H Q ⟨A, F, env, R, c, h, k⟩ => k _ _ _ _ _ h (c.push .non)
theorem se_str {i : Str} {j} : SE X (.Constant (.str i) j pos) (aC (.str i)) := peTo pe_str fun σ H Q ⟨A, F, env, R, c, h, k⟩ => k _ _ _ _ _ h (c.push (.str i))
/-- a constant of the module -/
theorem se_glob {x : Str} {v : V} {u : Value} {d : PyData} (hg : Gl X x) (hm : X.mg x = some u) (r : RelV v u) (hd : ∀ H, Dt X.K H v d) (hdb : (x == ("__debug__" : Str)) = false := by decide) : SE X (.Name x pos) (aC d) :=
  peTo (pe_glob hg hm r hdb) fun σ H Q ⟨A, F, env, R, c, h, k⟩ => k _ _ _ _ _ h (c.push (hd _))
theorem At.look {K : PySem.W.Frag} {A : Addr → Prop} {F0 F : FS} {H0 H : Hp} {vs : List V} {xs : List OV} {σ : L2.St} {env : En} {i : Nat} {d : PyData} (c : At K A F0 H0 H F vs xs σ env) (e : env[i]? = some (some (.d d))) : ∃ v, σ[i]? = some (some v) ∧ Dt K (rs H F) v d := by
  obtain ⟨v, hv, c1⟩ := c.take e
  exact ⟨v, hv, c1.dp⟩
theorem set_set' {env : En} {i : Nat} {o p : Option OV} : (env.set i o).set i p = env.set i p := by simp
theorem se_name {i : Nat} (h : PE X e (tVar i)) : SE X e (aName i) := peTo h fun σ H Q ⟨A, F, env, R, c, h, k⟩ => by
  unfold aName at h
  split at h
  · rename_i x ex
    obtain ⟨v, hv, dv⟩ := c.look ex
    exact ⟨v, hv, k _ _ _ _ _ h (c.push dv)⟩
  · rename_i x _ ex
    split at h
    · rename_i y ey
      obtain ⟨v, hv, c1⟩ := c.take ex
      obtain ⟨F1, c2⟩ := c1.fix ey
      have c3 := (c2.push c2.dp).put hv
      rw [set_set'] at c3
      exact ⟨v, hv, k _ _ _ _ _ h c3⟩
    · exact h.elim
  · exact h.elim
theorem se_move {i : Nat} (h : PE X e (tVar i)) : SE X e (aMove i) := peTo h fun σ H Q ⟨A, F, env, R, c, h, k⟩ => by
  unfold aMove at h
  split at h
  · rename_i x ex
    obtain ⟨v, hv, dv⟩ := c.look ex
    exact ⟨v, hv, k _ _ _ _ _ h (c.push dv)⟩
  · rename_i x _ ex
    obtain ⟨v, hv, c1⟩ := c.take ex
    exact ⟨v, hv, k _ _ _ _ _ h c1⟩
  · exact h.elim
theorem le_op {K : PySem.W.Frag} {r : R2} {o : OV → OV → (OV → Prop) → Prop} (hr : Op2 K r o) : ∀ σ H Q, LE K (a2 o ta tb) σ H Q → tOp r (LE K ta) (LE K tb) σ H Q :=
  fun σ H Q ⟨A, F, env, R, c, h, k⟩ => ev c h fun x e1 v H1 F1 h1 c1 => ev c1 h1 fun y e2 u H2 F2 h2 c2 => hr.run c2 h2 fun z w H3 F3 h3 c3 => k _ _ _ _ _ h3 c3
theorem le_un {K : PySem.W.Frag} {r : V → Hp → VK → Prop} {o : OV → (OV → Prop) → Prop} (hr : Op1 K r o) : ∀ σ H Q, LE K (a1 o ta) σ H Q → tUn r (LE K ta) σ H Q :=
  fun σ H Q ⟨A, F, env, R, c, h, k⟩ => ev c h fun x e1 v H1 F1 h1 c1 => hr.run c1 h1 fun z w H3 F3 h3 c3 => k _ _ _ _ _ h3 c3
theorem se_bin {op : Operator} {r : R2} {o : OV → OV → (OV → Prop) → Prop} (ho : OpR X (binaryOp op) r) (hr : Op2 X.K r o) (ha : SE X a ta) (hb : SE X b tb) : SE X (.BinOp a op b pos) (a2 o ta tb) :=
  peTo (pe_op ho ha hb) (le_op hr)
theorem se_add (ha : SE X a ta) (hb : SE X b tb) : SE X (.BinOp a .Add b pos) (a2 oAdd ta tb) := se_bin (op_cat.or ((op_add.or op_add_str).or op_catA)) op2_add ha hb
theorem se_sub (ha : SE X a ta) (hb : SE X b tb) : SE X (.BinOp a .Sub b pos) (a2 (o2 (fInt (fun _ _ => True) fun i j => .int (i - j))) ta tb) := se_bin op_sub op2_int0 ha hb
theorem se_mul (ha : SE X a ta) (hb : SE X b tb) : SE X (.BinOp a .Mult b pos) (a2 oMul ta tb) := se_bin (op_rep.or op_mulW) op2_mul ha hb
theorem se_fdiv (ha : SE X a ta) (hb : SE X b tb) : SE X (.BinOp a .FloorDiv b pos) (a2 (o2 (fInt CDiv fun i j => .int (i / j))) ta tb) := se_bin op_fdiv op2_int ha hb
theorem se_mod (ha : SE X a ta) (hb : SE X b tb) : SE X (.BinOp a .Mod b pos) (a2 (o2 (fInt (fun _ j => 0 < j) fun i j => .int (i % j))) ta tb) := se_bin op_mod op2_int ha hb
theorem se_pow (ha : SE X a ta) (hb : SE X b tb) : SE X (.BinOp a .Pow b pos) (a2 (o2 (fInt CPow fun i j => .int (i ^ j.toNat))) ta tb) := se_bin op_pow op2_int ha hb
theorem se_neg (ha : SE X a ta) : SE X (.UnaryOp .USub a pos) (a1 (o1 fNeg) ta) := peTo (pe_un un_neg ha) (le_un (Op1.scal fun hx o k => by
  unfold fNeg at o
  split at o
  · cases hx
    exact ⟨_, rfl, k _ _ o fun _ => .int _⟩
  · exact o.elim))
/-! comparisons -/
theorem eqU (hu : X.A.units + 64 < cLine) : OpR X (compareOp .Eq) (fun x y H Q => rEq x y H Q ∨ rEqD X.K x y H Q) := op_eq.or (op_eqD hu)
theorem neU (hu : X.A.units + 64 < cLine) : OpR X (compareOp .NotEq) (fun x y H Q => rNe x y H Q ∨ rNeD X.K x y H Q) := op_ne.or (op_neD hu)
theorem inU (hu : X.A.units + 65 < cLine) : OpR X (compareOp .In) (fun x y H Q => rIn X.K false x y H Q ∨ (if false = true then rNotInD X.K x y H Q else rInD X.K x y H Q) ∨ (∃ i j, x = .str i ∧ y = .str j ∧ Q (.bl (if false = true then !(!(Builtin.Str.occurrences j i 0 j.length 1).isEmpty) else !(Builtin.Str.occurrences j i 0 j.length 1).isEmpty)) H)) := op_in_seq.or ((op_inD hu).or op_in_str)
theorem notInU (hu : X.A.units + 65 < cLine) : OpR X (compareOp .NotIn) (fun x y H Q => rIn X.K true x y H Q ∨ (if true = true then rNotInD X.K x y H Q else rInD X.K x y H Q) ∨ (∃ i j, x = .str i ∧ y = .str j ∧ Q (.bl (if true = true then !(!(Builtin.Str.occurrences j i 0 j.length 1).isEmpty) else !(Builtin.Str.occurrences j i 0 j.length 1).isEmpty)) H)) := op_notIn_seq.or ((op_notInD hu).or op_notin_str)
theorem isU : OpR X (compareOp .Is) (fun x y H Q => (y = .non ∧ Q (.bl (if false = true then !decide (x = .non) else decide (x = .non))) H) ∨ (∃ a b : Bool, x = .bl a ∧ y = .bl b ∧ Q (.bl (if false = true then !decide (a = b) else decide (a = b))) H)) := op_isN.or op_isBl
theorem isNotU : OpR X (compareOp .IsNot) (fun x y H Q => (y = .non ∧ Q (.bl (if true = true then !decide (x = .non) else decide (x = .non))) H) ∨ (∃ a b : Bool, x = .bl a ∧ y = .bl b ∧ Q (.bl (if true = true then !decide (a = b) else decide (a = b))) H)) := op_notN.or op_notBl
abbrev lLt (x y : List Nat) : Bool := decide (x < y)
abbrev fLt := fOrd (fun i j => decide (i < j)) fun x y => decide (x < y)
abbrev fLe := fOrd (fun i j => decide (i ≤ j)) fun x y => !decide (y < x)
abbrev fGt := fOrd (fun i j => decide (j < i)) fun x y => decide (y < x)
abbrev fGe := fOrd (fun i j => decide (j ≤ i)) fun x y => !decide (x < y)
structure Cmp (X : Cx) (op : CmpOp) (f : PyData → PyData → (PyData → Prop) → Prop) : Prop where
  ex : ∃ r, OpR X (compareOp op) r ∧ Op2 X.K r (o2 f)
theorem c_eq (hu : X.A.units + 64 < cLine) : Cmp X .Eq (fEq false) := ⟨_, eqU hu, op2_eq⟩
theorem c_ne (hu : X.A.units + 64 < cLine) : Cmp X .NotEq (fEq true) := ⟨_, neU hu, op2_ne⟩
theorem c_in (hu : X.A.units + 65 < cLine) : Cmp X .In (fIn false) := ⟨_, inU hu, op2_in false⟩
theorem c_notIn (hu : X.A.units + 65 < cLine) : Cmp X .NotIn (fIn true) := ⟨_, notInU hu, op2_in true⟩
theorem c_is : Cmp X .Is (fIs false) := ⟨_, isU, op2_is false⟩
theorem c_isNot : Cmp X .IsNot (fIs true) := ⟨_, isNotU, op2_is true⟩
theorem c_lt : Cmp X .Lt fLt := ⟨_, op_lt.or op_lt_str, op2_ord (g := fun i j => decide (i < j)) (h := fun x y => decide (x < y))⟩
theorem c_le : Cmp X .LtE fLe := ⟨_, op_le.or op_le_str, op2_ord (g := fun i j => decide (i ≤ j)) (h := fun x y => !decide (y < x))⟩
theorem c_gt : Cmp X .Gt fGt := ⟨_, op_gt.or op_gt_str, op2_ord (g := fun i j => decide (j < i)) (h := fun x y => decide (y < x))⟩
theorem c_ge : Cmp X .GtE fGe := ⟨_, op_ge.or op_ge_str, op2_ord (g := fun i j => decide (j ≤ i)) (h := fun x y => !decide (x < y))⟩
theorem tst {K : PySem.W.Frag} {T : TE} {t : AE} (i : ∀ σ H Q, LE K t σ H Q → T σ H Q) : ∀ σ H Q, LT K (aTst t) σ H Q → T σ H fun x H' => ∃ k, x = .bl k ∧ Q k H' :=
  fun σ H Q ⟨A, F, env, R, c, h, k⟩ => i _ _ _ ⟨A, F, env, _, c, h, fun x env' v H' F' r c' => by
    split at r
    · have dv := c'.dp
      cases dv
      exact ⟨_, rfl, k _ _ _ _ r c'.pop⟩
    · exact r.elim⟩
theorem se_cmp {op : CmpOp} {f : PyData → PyData → (PyData → Prop) → Prop} (hc : Cmp X op f) (ha : SE X a ta) (hb : SE X b tb) (hm : behindInMarks op b = false) : SE X (.Compare a [op] [b] pos) (a2 (o2 f) ta tb) :=
  let ⟨_, ho, hr⟩ := hc.ex; peTo (pe_cmpR ho ha hb hm) (le_op hr)
theorem st_cmp {op : CmpOp} {f : PyData → PyData → (PyData → Prop) → Prop} (hc : Cmp X op f) (ha : SE X a ta) (hb : SE X b tb) (hm : behindInMarks op b = false) : ST X (.Compare a [op] [b] pos) (aTst (a2 (o2 f) ta tb)) :=
  let ⟨_, ho, hr⟩ := hc.ex; ptTo (pt_cmpR ho ha hb hm) (tst (le_op hr))
theorem st_val (h : SE X a ta) (he : ∀ whole, isTrue a X.env whole = (do let v ← whole; standAt a.pos; holding [v] (truthy v)) := by intro _; rfl) : ST X a (aTst ta) := ptTo (pt_val h he) (tst fun _ _ _ q => q)
def SW (X : Cx) (e : Expr) (t : AT) : Prop := PW X e (LT X.K t)
section
variable {u v w : AT} {rest : List Expr}
theorem st_of (h : SW X e u) : ST X e u := PW.pt h
theorem sw_and1 (h : ST X a u) : SW X (.BoolOp .And [a] pos) u := pw_and1 h
theorem sw_or1 (h : ST X a u) : SW X (.BoolOp .Or [a] pos) u := pw_or1 h
theorem sw_and (h : ST X a u) (g : SW X (.BoolOp .And (b :: rest) pos) v) : SW X (.BoolOp .And (a :: b :: rest) pos) (aAnd u v) := pwTo (pw_and h g) fun σ H Q ⟨A, F, env, R, c, h, k⟩ =>
  evt c h fun x e1 H1 F1 h1 c1 => by
    split
    · rename_i t; rw [if_pos t] at h1; exact evt c1 h1 fun y e2 H2 F2 h2 c2 => k _ _ _ _ h2 c2
    · rename_i t; rw [if_neg t] at h1; exact k _ _ _ _ h1 c1
theorem sw_or (h : ST X a u) (g : SW X (.BoolOp .Or (b :: rest) pos) v) : SW X (.BoolOp .Or (a :: b :: rest) pos) (aOr u v) := pwTo (pw_or h g) fun σ H Q ⟨A, F, env, R, c, h, k⟩ =>
  evt c h fun x e1 H1 F1 h1 c1 => by
    split
    · rename_i t; rw [if_pos t] at h1; exact k _ _ _ _ h1 c1
    · rename_i t; rw [if_neg t] at h1; exact evt c1 h1 fun y e2 H2 F2 h2 c2 => k _ _ _ _ h2 c2
theorem st_not (h : ST X a u) : ST X (.UnaryOp .Not a pos) (aNot u) := ptTo (pt_not h) fun σ H Q ⟨A, F, env, R, c, h, k⟩ => evt c h fun x e1 H1 F1 h1 c1 => k _ _ _ _ h1 c1
theorem se_not (h : SE X a ta) : SE X (.UnaryOp .Not a pos) (a1 (o1 fNot) ta) := peTo (pe_not h) fun σ H Q ⟨A, F, env, R, c, h, k⟩ => ev c h fun x e1 v H1 F1 h1 c1 => by
  unfold o1 at h1
  split at h1
  · rename_i d ed
    unfold fNot at h1
    split at h1
    · obtain ⟨F2, c2⟩ := c1.fix ed
      have dv := c2.dp
      cases dv
      exact ⟨_, rfl, k _ _ _ _ _ h1 (c2.pop.push (.bl _))⟩
    · exact h1.elim
  · exact h1.elim
theorem se_if (hc : ST X c u) (ha : SE X a ta) (hb : SE X b tb) : SE X (.IfExp c a b pos) (aIf u ta tb) := peTo (pe_ifExp hc ha hb) fun σ H Q ⟨A, F, env, R, c, h, k⟩ =>
  evt c h fun x e1 H1 F1 h1 c1 => by
    split
    · rename_i t; rw [if_pos t] at h1; exact ev c1 h1 fun y e2 v H2 F2 h2 c2 => k _ _ _ _ _ h2 c2
    · rename_i t; rw [if_neg t] at h1; exact ev c1 h1 fun y e2 v H2 F2 h2 c2 => k _ _ _ _ _ h2 c2
def tIfT (t u v : TT) : TT := fun σ H Q => t σ H fun b H1 => if b = true then u σ H1 Q else v σ H1 Q
theorem pt_ifExp {t u v : TT} (hc : PT X c t) (ha : PT X a u) (hb : PT X b v) : PT X (.IfExp c a b pos) (tIfT t u v) := by
  constructor
  intro pins s σ H Q I h
  refine PyProof.Rows.isTrue_IfExp (thn (hc.run pins s σ H _ I h) ?_)
  rintro d s1 ⟨H1, I1, q1⟩
  cases d with
  | true => exact ha.run pins s1 σ H1 Q I1 q1
  | false => exact hb.run pins s1 σ H1 Q I1 q1
theorem st_if (hc : ST X c u) (ha : ST X a v) (hb : ST X b w) : ST X (.IfExp c a b pos) (aIfT u v w) := ptTo (pt_ifExp hc ha hb) fun σ H Q ⟨A, F, env, R, c, h, k⟩ =>
  evt c h fun x e1 H1 F1 h1 c1 => by
    split
    · rename_i t; rw [if_pos t] at h1; exact evt c1 h1 fun y e2 H2 F2 h2 c2 => k _ _ _ _ h2 c2
    · rename_i t; rw [if_neg t] at h1; exact evt c1 h1 fun y e2 H2 F2 h2 c2 => k _ _ _ _ h2 c2
theorem se_one {op} (h : SE X a ta) : SE X (.BoolOp op [a] pos) ta := pe_one h
theorem se_and (ha : SE X a ta) (hb : SE X (.BoolOp .And (b :: rest) pos) tb) : SE X (.BoolOp .And (a :: b :: rest) pos) (aAndV ta tb) := peTo (pe_and ha hb) fun σ H Q ⟨A, F, env, R, c, h, k⟩ => ev c h fun x e1 v H1 F1 h1 c1 => by
  split at h1
  · have dv := c1.dp
    cases dv
    refine ⟨_, rfl, ?_⟩
    split
    · rename_i t; rw [if_pos t] at h1; exact ev c1.pop h1 fun y e2 v H2 F2 h2 c2 => k _ _ _ _ _ h2 c2
    · rename_i t; rw [if_neg t] at h1; exact k _ _ _ _ _ h1 (c1.pop.push (.bl _))
  · exact h1.elim
theorem se_or (ha : SE X a ta) (hb : SE X (.BoolOp .Or (b :: rest) pos) tb) : SE X (.BoolOp .Or (a :: b :: rest) pos) (aOrV ta tb) := peTo (pe_or ha hb) fun σ H Q ⟨A, F, env, R, c, h, k⟩ => ev c h fun x e1 v H1 F1 h1 c1 => by
  split at h1
  · have dv := c1.dp
    cases dv
    refine ⟨_, rfl, ?_⟩
    split
    · rename_i t; rw [if_pos t] at h1; exact k _ _ _ _ _ h1 (c1.pop.push (.bl _))
    · rename_i t; rw [if_neg t] at h1; exact ev c1.pop h1 fun y e2 v H2 F2 h2 c2 => k _ _ _ _ _ h2 c2
  · exact h1.elim
end
/-! chains of orders -/
structure Ord (X : Cx) (op : CmpOp) (g : Int → Int → Bool) (l : List Nat → List Nat → Bool) : Prop where
  run : OpR X (compareOp op) (fun x y H Q => rI0 (fun i j => .bl (g i j)) x y H Q ∨ (∃ i j : Str, x = .str i ∧ y = .str j ∧ Q (.bl (l i.cps.toList j.cps.toList)) H))
theorem d_lt : Ord X .Lt (fun i j => decide (i < j)) (fun x y => decide (x < y)) := ⟨op_lt.or op_lt_str⟩
theorem d_le : Ord X .LtE (fun i j => decide (i ≤ j)) (fun x y => !decide (y < x)) := ⟨op_le.or op_le_str⟩
theorem le_chain {K : PySem.W.Frag} {g g' : Int → Int → Bool} {l l' : List Nat → List Nat → Bool} : ∀ σ H Q, LE K (aChain (fOrd g l) (fOrd g' l') ta tb tc) σ H Q →
    tChain (fun x y H Q => rI0 (fun i j => .bl (g i j)) x y H Q ∨ (∃ i j : Str, x = .str i ∧ y = .str j ∧ Q (.bl (l i.cps.toList j.cps.toList)) H)) (fun x y H Q => rI0 (fun i j => .bl (g' i j)) x y H Q ∨ (∃ i j : Str, x = .str i ∧ y = .str j ∧ Q (.bl (l' i.cps.toList j.cps.toList)) H)) (LE K ta) (LE K tb) (LE K tc) σ H Q :=
  fun σ H Q ⟨A, F, env, R, c, h, k⟩ => ev c h fun x e1 v H1 F1 h1 c1 => ev c1 h1 fun y e2 u H2 F2 h2 c2 => by
    unfold o2 at h2
    split at h2
    · rename_i d1 d2 ed1 ed2
      obtain ⟨F3, c3⟩ := c2.fix2 ed2 ed1
      have dx := c3.swap.dp
      have dy := c3.dp
      have more : ∀ {bo : Bool}, (if bo = true then tc e2 fun w e3 => o2 (fOrd g' l') y w fun q => R q e3 else R (.d (.bool false)) e2) → (if bo = true then LE K tc σ H2 fun w' H4 => (rI0 (fun i j => .bl (g' i j)) u w' H4 Q ∨ (∃ i j : Str, u = .str i ∧ w' = .str j ∧ Q (.bl (l' i.cps.toList j.cps.toList)) H4)) else Q (.bl false) H2) := by
        intro bo h3
        split at h3
        · rename_i t
          rw [if_pos t]
          refine ev (c3.swap.pop) h3 fun w e3 uw H4 F4 h4 c4 => ?_
          have eq : o2 (fOrd g' l') y w (fun q => R q e3) = o2 (fOrd g' l') (.d d2) w (fun q => R q e3) := by unfold o2; rw [ed2, frz_d]
          rw [eq] at h4
          exact op2_ord.run c4 h4 fun z w H5 F5 h5 c5 => k _ _ _ _ _ h5 c5
        · rename_i t
          rw [if_neg t]
          exact k _ _ _ _ _ h3 (c3.pop.pop.push (.bl _))
      unfold fOrd at h2
      split at h2
      · cases dx; cases dy
        exact .inl ⟨_, _, rfl, rfl, _, rfl, more h2⟩
      · cases dx; cases dy
        exact .inr ⟨_, _, rfl, rfl, _, rfl, more h2⟩
      · exact h2.elim
    · exact h2.elim
theorem se_chain {op op' : CmpOp} {g g' : Int → Int → Bool} {l l' : List Nat → List Nat → Bool} (h : Ord X op g l) (h' : Ord X op' g' l') (ha : SE X a ta) (hb : SE X b tb) (hc : SE X c tc)
    (hm : lastMarks [op, op'] [b, c] = false := by with_unfolding_all rfl) : SE X (.Compare a [op, op'] [b, c] pos) (aChain (fOrd g l) (fOrd g' l') ta tb tc) := peTo (pe_chain h.run h'.run ha hb hc hm) le_chain
theorem st_chain {op op' : CmpOp} {g g' : Int → Int → Bool} {l l' : List Nat → List Nat → Bool} (h : Ord X op g l) (h' : Ord X op' g' l') (ha : SE X a ta) (hb : SE X b tb) (hc : SE X c tc)
    (hm : lastMarks [op, op'] [b, c] = false := by with_unfolding_all rfl) : ST X (.Compare a [op, op'] [b, c] pos) (aTst (aChain (fOrd g l) (fOrd g' l') ta tb tc)) := ptTo (pt_chain h.run h'.run ha hb hc hm) (tst le_chain)
/-! arguments, displays -/
variable {tr : AA}
theorem sa_nil : SA X [] aNil := paTo pa_nil fun σ H Q ⟨A, F, env, R, c, h, k⟩ => k _ _ _ _ _ h c
theorem sa_cons (ha : SE X e ta) (hr : SA X es tr) (hs : starEach (e :: es) X.env = (false, eval e X.env) :: starEach es X.env := by rfl) : SA X (e :: es) (aCons ta tr) := paTo (pa_cons ha hr hs) fun σ H Q ⟨A, F, env, R, c, h, k⟩ =>
  ev c h fun x e1 v H1 F1 h1 c1 => evs c1 h1 fun xs e2 vs H2 F2 h2 c2 => k _ _ _ _ _ h2 (by
    have l : xs.length = vs.length := by have := c2.cf.len; simp at this; omega
    have := At.front l c2
    simpa using this)
theorem se_lst (h : SA X es tr) : SE X (.List es pos) (aLst tr) := peTo (pe_lst h) fun σ H Q ⟨A, F, env, R, c, h, k⟩ => evs c h fun xs e1 vs H1 F1 h1 c1 => by
  have l := c1.cf.len
  simp only [List.append_nil] at l
  exact ⟨by rw [← l]; exact h1.1, fun p hp => k _ _ _ _ F1 h1.2 (At.make (s := .lst) c1 l hp ⟨upd_same, rfl⟩)⟩
theorem se_tup {x1} (h : SA X es tr) : SE X (.Tuple es x1 pos) (aTup tr) := peTo (pe_tup h) fun σ H Q ⟨A, F, env, R, c, h, k⟩ => evs c h fun xs e1 vs H1 F1 h1 c1 => by
  have l := c1.cf.len
  simp only [List.append_nil] at l
  refine ⟨by rw [← l]; exact h1.1, fun p hp => ?_⟩
  have h2 := h1.2
  unfold mkT at h2
  split at h2
  · rename_i ds ed
    have ex := dats_frzs ed
    subst ex
    obtain ⟨F2, c2, dp⟩ := At.fixs c1 l (frzs_map ds)
    obtain ⟨F3, c3⟩ := (At.pops c2 l).newT dp hp
    exact k _ _ _ _ F3 h2 c3
  · exact k _ _ _ _ F1 h2 (At.make (s := .tup) c1 l hp ⟨upd_same, rfl⟩)
end
end Ow

/-! Ow: subscripts, slices, lists changed by methods. -/
namespace Ow
open PySem L2 Grd
open Evl (Ex ex_t ex_l ex_rd)
def ixO (x : OV) (i : Int) (R : OV → Prop) : Prop := match x with
  | .n .lst xs => match atI xs i with | some o => R o | none => False
  | .n .tup xs => match atI xs i with | some o => R o | none => False
  | .d (.list ds) => match atI ds i with | some o => R (.d o) | none => False
  | .d (.tuple ds) => match atI ds i with | some o => R (.d o) | none => False
  | .d (.str z) => z.length ≤ sizeLine ∧ match atI z.cps.toList i with | some c => R (.d (.str ⟨#[c]⟩)) | none => False
  | _ => False
def oIx (x y : OV) (R : OV → Prop) : Prop := match y with
  | .d (.int i) => ixO x i R
  | _ => False
def aIxN (i : Nat) (tb : AE) : AE := fun env Q => (match env[i]? with | some (some _) => True | _ => False) ∧ tb env fun y e => match e[i]? with
  | some (some (.d x)) => oIx (.d x) y fun z => Q z e
  | some (some (.n .lst xs)) => match y with
    | .d (.int k) => match ixN xs.length k with
      | some j => match xs[j]? with
        | some (.d d) => Q (.d d) e
        | some o => match frz o with
          | some d => Q (.d d) (e.set i (some (.n .lst (xs.set j (.d d)))))
          | none => False
        | none => False
      | none => False
    | _ => False
  | _ => False
abbrev AO := En → (Option Int → En → Prop) → Prop
def aNoP : AO := fun env Q => Q none env
def aPart (t : AE) : AO := fun env Q => t env fun x e => match x with
  | .d (.int i) => Q (some i) e
  | _ => False
def cut {α : Type} (xs : List α) (lo hi : Option Int) : List α := (xs.drop (HT.sIx xs.length 0 lo)).take (HT.sIx xs.length xs.length hi - HT.sIx xs.length 0 lo)
def oSl (x : OV) (lo hi : Option Int) (R : OV → Prop) : Prop := match x with
  | .n .lst xs => R (.n .lst (cut xs lo hi))
  | .d (.list ds) => R (.n .lst ((cut ds lo hi).map .d))
  | .d (.tuple ds) => R (.d (.tuple (cut ds lo hi)))
  | .d (.str z) => z.length ≤ sizeLine ∧ R (.d (.str (cutS z lo hi)))
  | _ => False
def aSl (te : AE) (tl th : AO) : AE := fun env Q => te env fun x e1 => tl e1 fun lo e2 => th e2 fun hi e3 => oSl x lo hi fun z => Q z e3
def LO (K : PySem.W.Frag) (t : AO) : TO := fun σ H Q => ∃ (A : Addr → Prop) (F : FS) (env : En) (R : Option Int → En → Prop),
  At K A F H H F [] [] σ env ∧ t env R ∧ ∀ b env' H' F', R b env' → At K A F H H' F' [] [] σ env' → Q b H'
def SO (X : Cx) (e : Option Expr) (t : AO) : Prop := PO X e (LO X.K t)
abbrev MM := List OV → List OV → (OV → List OV → Prop) → Prop
def aMt (i : Nat) (mm : MM) (t : AA) : AE := fun env Q => (match env[i]? with | some (some (.n .lst _)) => True | _ => False) ∧ t env fun args e => match e[i]? with
  | some (some (.n .lst xs)) => mm xs args fun z xs' => Q z (e.set i (some (.n .lst xs')))
  | _ => False
def mAppend : MM := fun xs args R => match args with
  | [x] => xs.length < sizeLine ∧ R (.d .none) (xs ++ [x])
  | _ => False
def mExtend : MM := fun xs args R => match args with
  | [x] => match lel x with | some ys => xs.length + ys.length ≤ sizeLine ∧ R (.d .none) (xs ++ ys) | none => False
  | _ => False
def mPop : MM := fun xs args R => match args with
  | [] => match xs[xs.length - 1]? with | some y => R y xs.dropLast | none => False
  | _ => False
def mPopAt : MM := fun xs args R => match args with
  | [.d (.int i)] => match ixN xs.length i with
    | some k => match xs[k]? with | some y => (-(2 ^ 63) ≤ i ∧ i < 2 ^ 63) ∧ R y (xs.eraseIdx k) | none => False
    | none => False
  | _ => False
def mInsert : MM := fun xs args R => match args with
  | [.d (.int i), x] => (xs.length < sizeLine ∧ 0 ≤ i ∧ i < 2 ^ 63) ∧ R (.d .none) (xs.take i.toNat ++ x :: xs.drop i.toNat)
  | _ => False
def mReverse : MM := fun xs args R => match args with
  | [] => R (.d .none) xs.reverse
  | _ => False
def mClear : MM := fun xs args R => match args with
  | [] => R (.d .none) []
  | _ => False
section
variable {K : PySem.W.Frag} {A : Addr → Prop} {F0 F F' : FS} {H0 H H' : Hp} {v u : V} {vs us : List V} {x y : OV} {xs ys : List OV} {σ : L2.St} {env : En}
theorem At.opn {s : Sh} (c : At K A F0 H0 H F (v :: vs) (.n s ys :: xs) σ env) : ∃ a ws ex, v = .ref a ∧ s.is H a ws ex ∧ ys.length = ws.length ∧ At K A F0 H0 H F (ws ++ vs) (ys ++ xs) σ env := by
  obtain ⟨st, ⟨⟨a1, a2, h1, h2, nd, off⟩, fh⟩⟩ := c
  cases h1 with
  | @cons _ _ _ _ b1 b2 h t =>
    cases h with
    | @n a _ ws _ ex as hs hw =>
      refine ⟨a, ws, ex, rfl, hs, hw.len, st, ⟨⟨as ++ b2, a2, hw.append (a1 := []) (a2 := []) t, h2, ?_, fun z hz => off z ?_⟩, fh⟩⟩
      · have q : ((a :: ex) ++ ((as ++ b2) ++ a2)).Nodup := by simpa [List.append_assoc] using nd
        exact (List.nodup_append.mp q).2.1
      · simp only [List.mem_append, List.mem_cons] at hz ⊢
        rcases hz with (hz | hz) | hz
        · exact .inl (.inl (.inr hz))
        · exact .inl (.inr hz)
        · exact .inr hz
theorem At.zip (c : At K A F0 H0 H F vs xs σ env) : At K A F0 H0 H F (fsts (vs.zip xs)) (snds (vs.zip xs)) σ env := by
  rw [zip_v c.cf.len, zip_x c.cf.len]
  exact c
theorem zip_at {vs : List V} {xs : List OV} {j : Nat} {y : OV} (l : xs.length = vs.length) (e : xs[j]? = some y) : ∃ w, vs[j]? = some w ∧ (vs.zip xs)[j]? = some (w, y) := by
  obtain ⟨hj, _⟩ := List.getElem?_eq_some_iff.mp e
  have hv : vs[j]? = some (vs[j]'(by omega)) := List.getElem?_eq_getElem (by omega)
  refine ⟨_, hv, ?_⟩
  rw [List.getElem?_zip_eq_some]
  exact ⟨hv, e⟩
theorem perm_at {α : Type} {l : List α} {j : Nat} {a : α} (e : l[j]? = some a) : (a :: l.eraseIdx j).Perm l := by
  obtain ⟨hj, rfl⟩ := List.getElem?_eq_some_iff.mp e
  clear e
  induction l generalizing j with
  | nil => simp at hj
  | cons b l ih =>
    cases j with
    | zero => simp
    | succ j =>
      simp only [List.getElem_cons_succ, List.eraseIdx_cons_succ]
      exact (List.Perm.swap _ _ _).trans (List.Perm.cons _ (ih (by simpa using hj)))
/-- one of those at the front stays -/
theorem At.pick {ws : List V} {j : Nat} (c : At K A F0 H0 H F (ws ++ vs) (ys ++ xs) σ env) (l : ys.length = ws.length) (e : ys[j]? = some y) : ∃ w, ws[j]? = some w ∧ At K A F0 H0 H F (w :: vs) (y :: xs) σ env := by
  obtain ⟨w, hw, hz⟩ := zip_at l e
  have lx : xs.length = vs.length := by have := c.cf.len; simp at this; omega
  refine ⟨w, hw, ?_⟩
  have z := c.zip
  rw [List.zip_append l.symm] at z
  have p : (((w, y) :: vs.zip xs) ++ (ws.zip ys).eraseIdx j).Perm (ws.zip ys ++ vs.zip xs) := by
    refine List.Perm.trans ?_ (List.Perm.append_right _ (perm_at hz))
    simp only [List.cons_append]
    exact List.Perm.cons _ List.perm_append_comm
  have q := At.sub p z
  simp only [fsts, snds, List.map_cons] at q
  rw [show List.map Prod.fst (vs.zip xs) = vs from zip_v lx, show List.map Prod.snd (vs.zip xs) = xs from zip_x lx] at q
  exact q
theorem atI_ix {α : Type} {xs : List α} {i : Int} {o : α} (h : atI xs i = some o) : ∃ j, ixN xs.length i = some j ∧ xs[j]? = some o := by
  unfold atI at h
  obtain ⟨j, h1, h2⟩ := Option.bind_eq_some_iff.mp h
  exact ⟨j, h1, h2⟩
theorem ix_atI {α : Type} {xs : List α} {i : Int} {o : α} {j : Nat} (h1 : ixN xs.length i = some j) (h2 : xs[j]? = some o) : atI xs i = some o := by
  unfold atI
  rw [h1]
  exact h2
theorem Dts.at {H : Hp} : ∀ {vs : List V} {ds : List PyData} {j : Nat} {d : PyData}, Dts K H vs ds → ds[j]? = some d → ∃ v, vs[j]? = some v ∧ Dt K H v d
  | _, _, j, d, .nil, e => by simp at e
  | _, _, 0, d, .cons h t, e => by simp at e; subst e; exact ⟨_, rfl, h⟩
  | _, _, j + 1, d, .cons h t, e => by
    obtain ⟨v, h1, h2⟩ := Dts.at (j := j) (d := d) t (by simpa using e)
    exact ⟨v, by simpa using h1, h2⟩
theorem Dts.atI {H : Hp} {vs : List V} {ds : List PyData} {i : Int} {d : PyData} (h : Dts K H vs ds) (e : L2.atI ds i = some d) : ∃ v, L2.atI vs i = some v ∧ Dt K H v d := by
  obtain ⟨j, e1, e2⟩ := atI_ix e
  obtain ⟨v, h1, h2⟩ := h.at e2
  refine ⟨v, ix_atI (j := j) ?_ h1, h2⟩
  rw [← h.len]
  exact e1
/-- a datum's item -/
theorem ixD {Q : VK} {R : OV → Prop} {d : PyData} {i : Int} (h : Dt K (rs H F) v d) (o : ixO (.d d) i R) (k : ∀ d' v', R (.d d') → Dt K (rs H F) v' d' → Q v' H) : rIx K v (.int i) H Q := by
  cases h with
  | lst h t =>
    change (match L2.atI _ i with | some o => R (.d o) | none => False) at o
    split at o
    · rename_i o' eo
      obtain ⟨v', h1, h2⟩ := t.atI eo
      exact .inl ⟨_, _, _, _, rfl, rfl, .of (rs_ex _ _ h), h1, k _ _ o h2⟩
    · exact o.elim
  | tup h t =>
    change (match L2.atI _ i with | some o => R (.d o) | none => False) at o
    split at o
    · rename_i o' eo
      obtain ⟨v', h1, h2⟩ := t.atI eo
      exact .inr (.inl ⟨_, _, _, _, rfl, rfl, ex_t rs_ex h, h1, k _ _ o h2⟩)
    · exact o.elim
  | str z =>
    obtain ⟨o1, o2⟩ := o
    split at o2
    · rename_i c' ec
      exact .inr (.inr ⟨_, _, _, rfl, rfl, o1, ec, k _ _ o2 (.str _)⟩)
    · exact o2.elim
  | non => exact o.elim
  | bl b => exact o.elim
  | int b => exact o.elim
theorem op2_ix : Op2 K (rIx K) oIx := by
  constructor
  intro A F0 F H0 H σ env x y ox oy R Q c o k
  unfold oIx at o
  split at o
  · rename_i i
    have dw := c.dp
    cases dw
    cases ox with
    | d d => exact ixD c.swap.dp o fun d' v' r h => k _ _ _ _ r (c.pop.pop.push h)
    | n s ys =>
      obtain ⟨a, ws, ex, rfl, hs, l, c1⟩ := c.pop.opn
      cases s with
      | lst =>
        change (match L2.atI ys i with | some o => R o | none => False) at o
        split at o
        · rename_i o' eo
          obtain ⟨j, e1, e2⟩ := atI_ix eo
          obtain ⟨w, h1, c2⟩ := c1.pick l e2
          exact .inl ⟨a, ws, _, w, rfl, rfl, .of hs.1, ix_atI (by rw [← l]; exact e1) h1, k _ _ _ _ o c2⟩
        · exact o.elim
      | tup =>
        change (match L2.atI ys i with | some o => R o | none => False) at o
        split at o
        · rename_i o' eo
          obtain ⟨j, e1, e2⟩ := atI_ix eo
          obtain ⟨w, h1, c2⟩ := c1.pick l e2
          exact .inr (.inl ⟨a, ws, _, w, rfl, rfl, .of hs.1, ix_atI (by rw [← l]; exact e1) h1, k _ _ _ _ o c2⟩)
        · exact o.elim
      | dic ks => exact o.elim
      | ins C ks => exact o.elim
      | ext _ => exact o.elim
      | gen _ _ => exact o.elim
    | h v => exact o.elim
  · exact o.elim
end
section
variable {X : Cx} {e a b c : Expr} {es : List Expr} {ta tb tc : AE} {tr : AA} {pos : Pos}
theorem se_ix (ha : SE X a ta) (hb : SE X b tb) (hs : PlainIx b) : SE X (.Subscript a b pos) (a2 oIx ta tb) := peTo (pe_ix ix_seq ha hb hs) (le_op op2_ix)
end
end Ow

/-! Ow: subscripts of names, slices, lists changed by methods: the rules. -/
namespace Ow
open PySem L2 Grd
open Evl (Ex ex_t ex_l ex_rd)
section
variable {K : PySem.W.Frag} {A : Addr → Prop} {F0 F F' : FS} {H0 H H' : Hp} {v u : V} {vs us : List V} {x y : OV} {xs ys : List OV} {σ : L2.St} {env : En}
theorem Owns.at : ∀ {vs : List V} {xs : List OV} {as : List Addr} {j : Nat} {o : OV}, Owns K H F vs xs as → xs[j]? = some o →
    ∃ w b c1 c2, vs[j]? = some w ∧ as = c1 ++ (b ++ c2) ∧ Own K H F w o b ∧ ∀ {F' : FS} {d : PyData}, Ex (rs H F) (rs H F') → Dt K (rs H F') w d → Owns K H F' vs (xs.set j (.d d)) (c1 ++ c2)
  | _, _, _, j, o, .nil, e => by simp at e
  | _, _, _, 0, o, .cons (as := as) (bs := bs) h t, e => by
    simp at e
    subst e
    exact ⟨_, as, [], bs, rfl, rfl, h, fun fr d => Owns.cons (as := []) (.d d) (t.keep fr fun _ _ _ h => h)⟩
  | _, _, _, j + 1, o, .cons (as := as) h t, e => by
    obtain ⟨w, b, c1, c2, h1, rfl, h2, h3⟩ := Owns.at (j := j) (o := o) t (by simpa using e)
    refine ⟨w, b, as ++ c1, c2, by simpa using h1, by simp [List.append_assoc], h2, fun fr d => ?_⟩
    rw [List.append_assoc]
    exact .cons (h.keep fr fun _ _ _ h => h) (h3 fr d)
/-- an item becomes a datum where it stands -/
theorem At.fixAt {s : Sh} {j : Nat} {o : OV} {d : PyData} (c : At K A F0 H0 H F (v :: vs) (.n s xs :: ys) σ env) (e : xs[j]? = some o) (ed : Ow.frz o = some d) :
    ∃ a ws ex w F', v = .ref a ∧ s.is H a ws ex ∧ xs.length = ws.length ∧ ws[j]? = some w ∧ Dt K (rs H F') w d ∧ At K A F0 H0 H F' (v :: vs) (.n s (xs.set j (.d d)) :: ys) σ env := by
  have c0 := c
  obtain ⟨st, ⟨⟨a1, a2, h1, h2, nd, off⟩, fh⟩⟩ := c
  cases h1 with
  | @cons _ _ _ _ b1 b2 h t =>
    cases h with
    | @n a _ ws _ ex as hs hw =>
      obtain ⟨w, b, c1, c2, g1, rfl, g2, g3⟩ := hw.at e
      have dp := g2.frz (F2 := fx F b) fx_le ed (fun a ha => fx_true.mpr (.inr ha))
      have fr : Ex (rs H F) (rs H (fx F b)) := rs_le fx_le
      have sm : ∀ z ∈ b, z ∈ (a :: ex ++ (c1 ++ (b ++ c2))) ++ b2 ++ a2 := fun z hz => by simp [hz]
      have p : (((a :: ex ++ (c1 ++ c2)) ++ b2 ++ a2) ++ b).Perm ((a :: ex ++ (c1 ++ (b ++ c2))) ++ b2 ++ a2) := by
        refine List.perm_iff_count.mpr fun a => ?_
        simp only [List.count_append]
        omega
      have nd2 := p.nodup_iff.mpr nd
      refine ⟨a, ws, ex, w, fx F b, rfl, hs, hw.len, g1, dp, c0.on ⟨fun _ _ _ h => h, fr, fun z hz => ?_⟩ ⟨⟨(a :: ex ++ (c1 ++ c2)) ++ b2, a2, .cons (.n hs (g3 fr dp)) (t.keep fr fun _ _ _ h => h), h2.keep fr fun _ _ _ h => h, (List.nodup_append.mp nd2).1, fun z hz => ?_⟩, fun z hz => ?_⟩⟩
      · rcases fx_true.mp hz with hz | hz
        · exact .inl hz
        · exact .inr (.inl (off z (sm z hz)).2)
      · have m := p.mem_iff.mp (List.mem_append_left _ hz)
        refine ⟨?_, .inl (off z m).2⟩
        cases q : fx F b z with
        | false => rfl
        | true =>
          rcases fx_true.mp q with q | q
          · rw [(off z m).1] at q; cases q
          · exact absurd rfl ((List.nodup_append.mp nd2).2.2 z hz z q)
      · rcases fx_true.mp hz with hz | hz
        · exact fh z hz
        · exact g2.ne z hz
theorem evo {t : AO} {R : Option Int → En → Prop} {Q : Option Int → Hp → Prop} (c : At K A F0 H0 H F vs xs σ env) (h : t env R)
    (k : ∀ b env' H' F', R b env' → At K A F0 H0 H' F' vs xs σ env' → Q b H') : LO K t σ H Q := by
  obtain ⟨a1, a2, h1, nd, off, c2⟩ := startE c
  refine ⟨_, F, env, R, c2, h, fun y env' H' F' r b => k y env' H' F' r ?_⟩
  obtain ⟨s, z⟩ := frameE (vs' := []) (xs' := []) h1 nd off b.st b.cf
  exact c.on s z
theorem Dts.drop {H : Hp} : ∀ {vs : List V} {ds : List PyData} (n : Nat), Dts K H vs ds → Dts K H (vs.drop n) (ds.drop n)
  | _, _, 0, h => h
  | _, _, _ + 1, .nil => .nil
  | _, _, n + 1, .cons _ t => Dts.drop n t
theorem Dts.take {H : Hp} : ∀ {vs : List V} {ds : List PyData} (n : Nat), Dts K H vs ds → Dts K H (vs.take n) (ds.take n)
  | _, _, 0, h => .nil
  | _, _, _ + 1, .nil => .nil
  | _, _, n + 1, .cons h t => .cons h (Dts.take n t)
theorem Dts.cut {H : Hp} {vs : List V} {ds : List PyData} (lo hi : Option Int) (h : Dts K H vs ds) : Dts K H (cutV vs lo hi) (Ow.cut ds lo hi) := by
  unfold cutV Ow.cut
  rw [h.len]
  exact (h.drop _).take _
theorem zip_take {vs : List V} {xs : List OV} (n : Nat) : (vs.zip xs).take n = (vs.take n).zip (xs.take n) := by
  induction vs generalizing xs n with
  | nil => simp
  | cons a vs ih => cases xs with
    | nil => simp
    | cons x xs => cases n with
      | zero => simp
      | succ n => simp [ih]
theorem zip_drop {vs : List V} {xs : List OV} (n : Nat) : (vs.zip xs).drop n = (vs.drop n).zip (xs.drop n) := by
  induction vs generalizing xs n with
  | nil => simp
  | cons a vs ih => cases xs with
    | nil => simp
    | cons x xs => cases n with
      | zero => simp
      | succ n => simp [ih]
theorem zip_cut {vs : List V} {xs : List OV} (l : xs.length = vs.length) (lo hi : Option Int) : cut (vs.zip xs) lo hi = (cutV vs lo hi).zip (cut xs lo hi) := by
  unfold cut cutV
  have : (vs.zip xs).length = vs.length := by simp [l]
  rw [this, l, zip_drop, zip_take]
theorem cut_len {α : Type} (xs : List α) (lo hi : Option Int) : (cut xs lo hi).length ≤ xs.length := by
  unfold cut
  rw [List.length_take, List.length_drop]
  omega
theorem cut_sub {α : Type} (xs : List α) (lo hi : Option Int) : ∃ r, (cut xs lo hi ++ r).Perm xs := by
  have s : (cut xs lo hi).Sublist xs := (List.take_sublist _ _).trans (List.drop_sublist _ _)
  obtain ⟨r, p⟩ := s.exists_perm_append
  exact ⟨r, p.symm⟩
/-- some of those at the front stay -/
theorem At.keepSome {ws : List V} {ps r : Prs} (c : At K A F0 H0 H F (ws ++ vs) (ys ++ xs) σ env) (l : ys.length = ws.length) (p : (ps ++ r).Perm (ws.zip ys)) : At K A F0 H0 H F (fsts ps ++ vs) (snds ps ++ xs) σ env := by
  have lx : xs.length = vs.length := by have := c.cf.len; simp at this; omega
  have z := c.zip
  rw [List.zip_append l.symm] at z
  have p2 : ((ps ++ vs.zip xs) ++ r).Perm (ws.zip ys ++ vs.zip xs) := by
    refine List.Perm.trans ?_ (List.Perm.append_right _ p)
    rw [List.append_assoc, List.append_assoc]
    exact List.Perm.append_left _ List.perm_append_comm
  have q := At.sub p2 z
  simp only [fsts, snds, List.map_append] at q ⊢
  rw [show List.map Prod.fst (vs.zip xs) = vs from zip_v lx, show List.map Prod.snd (vs.zip xs) = xs from zip_x lx] at q
  exact q
theorem slO {Q : VK} {R : OV → Prop} {lo hi : Option Int} (c : At K A F0 H0 H F [v] [x] σ env) (o : oSl x lo hi R) (k : ∀ z w H' F', R z → At K A F0 H0 H' F' [w] [z] σ env → Q w H') : rSlL K v lo hi H Q ∨ rSlA K v lo hi H Q ∨ rSlS v lo hi H Q := by
  cases x with
  | d d =>
    have h := c.dp
    cases h with
    | lst h t => exact .inl ⟨_, _, rfl, .of (rs_ex _ _ h), fun p hp => k _ _ _ F o (c.pop.newL (t.cut lo hi) hp)⟩
    | @tup a ws ds h t =>
      refine .inr (.inl ⟨_, _, rfl, ex_t rs_ex h, fun e => ?_, fun _ p hp => ?_⟩)
      · refine k _ _ _ F o (c.pop.push ?_)
        have q : Ow.cut ds lo hi = ds := by
          unfold Ow.cut
          rw [t.len, e.1, e.2, List.drop_zero, Nat.sub_zero, ← t.len]
          exact List.take_length
        rw [q]
        exact .tup h t
      · obtain ⟨F1, c1⟩ := c.pop.newT (t.cut lo hi) hp
        exact k _ _ _ F1 o c1
    | str z => exact .inr (.inr ⟨_, rfl, o.1, k _ _ _ F o.2 (c.pop.push (.str _))⟩)
    | non => exact o.elim
    | bl b => exact o.elim
    | int b => exact o.elim
  | n s ys =>
    cases s with
    | lst =>
      obtain ⟨a, ws, ex, rfl, hs, l, c1⟩ := c.opn
      refine .inl ⟨a, ws, rfl, .of hs.1, fun p hp => k _ _ _ F o ?_⟩
      obtain ⟨r, pr⟩ := cut_sub (ws.zip ys) lo hi
      have c2 := At.keepSome c1 l pr
      have lc : (Ow.cut ys lo hi).length = (cutV ws lo hi).length := by
        unfold Ow.cut cutV
        rw [List.length_take, List.length_take, List.length_drop, List.length_drop, l]
      rw [zip_cut l, zip_v lc, zip_x lc] at c2
      exact At.make (s := .lst) c2 lc hp ⟨upd_same, rfl⟩
    | tup => exact o.elim
    | dic ks => exact o.elim
    | ins C ks => exact o.elim
    | ext _ => exact o.elim
    | gen _ _ => exact o.elim
  | h v => exact o.elim
/-! methods of a list -/
structure MtL (K : PySem.W.Frag) (r : V → List V → Hp → VK → Prop) (mm : MM) : Prop where
  run : ∀ {A : Addr → Prop} {F0 F : FS} {H0 H : Hp} {σ : L2.St} {env : En} {a : Addr} {as : List V} {xs args : List OV} {R : OV → List OV → Prop} {Q : VK},
    At K A F0 H0 H F (.ref a :: as) (.n .lst xs :: args) σ env → mm xs args R → (∀ z xs' w H' F', R z xs' → At K A F0 H0 H' F' [.ref a, w] [.n .lst xs', z] σ env → Q w H') → r (.ref a) as H Q
theorem At.under {d : PyData} (c : At K A F0 H0 H F [u] [x] σ env) (h : Dt K (rs H F) v d) : At K A F0 H0 H F [u, v] [x, .d d] σ env := (c.push h).swap
theorem args1 {vs : List V} (c : At K A F0 H0 H F vs [x] σ env) : ∃ v, vs = [v] := by
  have l := c.cf.len
  match vs, l with
  | [v], _ => exact ⟨v, rfl⟩
theorem args0 {vs : List V} (c : At K A F0 H0 H F vs [] σ env) : vs = [] := by
  have l := c.cf.len
  match vs, l with
  | [], _ => rfl
theorem args2 {vs : List V} (c : At K A F0 H0 H F vs [x, y] σ env) : ∃ v u, vs = [v, u] := by
  have l := c.cf.len
  match vs, l with
  | [v, u], _ => exact ⟨v, u, rfl⟩
theorem mt_ap : MtL K rAppend mAppend := by
  constructor
  intro A F0 F H0 H σ env a as xs args R Q c o k
  unfold mAppend at o
  split at o
  · rename_i x
    obtain ⟨y, rfl⟩ := args1 c.pop
    obtain ⟨ws, ex, ⟨hH, rfl⟩, lw, _, mk⟩ := c.mut
    refine ⟨a, ws, y, rfl, rfl, hH, by rw [← lw]; exact o.1, k (.d .none) _ .non _ F o.2 (At.under ?_ .non)⟩
    have q := mk .lst (.lst (ws ++ [y])) (ws.zip xs ++ [(y, x)]) [] [] ⟨by rw [upd_same]; simp [fsts, List.map_fst_zip (show ws.length ≤ xs.length by omega)], rfl⟩ (by simp)
    simp only [snds, List.map_append, List.map_snd_zip (show xs.length ≤ ws.length by omega), List.map_cons, List.map_nil] at q
    exact q
  · exact o.elim
theorem mt_ex : MtL K rExtend mExtend := by
  constructor
  intro A F0 F H0 H σ env a as xs args R Q c o k
  unfold mExtend at o
  split at o
  · rename_i x
    split at o
    · rename_i ys ey
      obtain ⟨y, rfl⟩ := args1 c.pop
      obtain ⟨b, zs, rfl, hb, lz, c1⟩ := c.swap.lel ey
      have c2 := At.front lz c1
      simp only [List.append_nil] at c2
      obtain ⟨ws, ex, ⟨hH, rfl⟩, lw, _, mk⟩ := c2.mut
      refine ⟨a, b, ws, zs, rfl, rfl, hH, hb, by rw [← lw, ← lz]; exact o.1, k (.d .none) _ .non _ F o.2 (At.under ?_ .non)⟩
      have q := mk .lst (.lst (ws ++ zs)) (ws.zip xs ++ zs.zip ys) [] [] ⟨by rw [upd_same]; simp [fsts, List.map_fst_zip (show ws.length ≤ xs.length by omega), List.map_fst_zip (show zs.length ≤ ys.length by omega)], rfl⟩ (by simp)
      simp only [snds, List.map_append, List.map_snd_zip (show xs.length ≤ ws.length by omega), List.map_snd_zip (show ys.length ≤ zs.length by omega), List.map_nil] at q
      exact q
    · exact o.elim
  · exact o.elim
theorem mt_rev : MtL K rReverse mReverse := by
  constructor
  intro A F0 F H0 H σ env a as xs args R Q c o k
  unfold mReverse at o
  split at o
  · have := args0 c.pop
    subst this
    obtain ⟨ws, ex, ⟨hH, rfl⟩, lw, _, mk⟩ := c.mut
    refine ⟨a, ws, rfl, rfl, hH, k (.d .none) _ .non _ F o (At.under ?_ .non)⟩
    have q := mk .lst (.lst ws.reverse) (ws.zip xs).reverse [] [] ⟨by rw [upd_same]; simp [fsts, List.map_reverse, List.map_fst_zip (show ws.length ≤ xs.length by omega)], rfl⟩ (by simp [List.reverse_perm])
    simp only [snds, List.map_reverse, List.map_snd_zip (show xs.length ≤ ws.length by omega), List.map_nil] at q
    exact q
  · exact o.elim
theorem mt_cl : MtL K rClear mClear := by
  constructor
  intro A F0 F H0 H σ env a as xs args R Q c o k
  unfold mClear at o
  split at o
  · have := args0 c.pop
    subst this
    obtain ⟨ws, ex, ⟨hH, rfl⟩, lw, _, mk⟩ := c.mut
    refine ⟨a, ws, rfl, rfl, hH, k (.d .none) _ .non _ F o (At.under ?_ .non)⟩
    exact mk .lst (.lst []) [] [] (ws.zip xs) ⟨upd_same, rfl⟩ (by simp)
  · exact o.elim
theorem mt_po : MtL K rPop mPop := by
  constructor
  intro A F0 F H0 H σ env a as xs args R Q c o k
  unfold mPop at o
  split at o
  · have := args0 c.pop
    subst this
    split at o
    · rename_i y ey
      obtain ⟨ws, ex, ⟨hH, rfl⟩, lw, _, mk⟩ := c.mut
      obtain ⟨w, hw, hz⟩ := zip_at lw ey
      rw [lw] at hw
      refine ⟨a, ws, w, rfl, rfl, hH, hw, k y _ w _ F o ?_⟩
      have e1 : (ws.zip xs).dropLast = ws.dropLast.zip xs.dropLast := by
        rw [List.dropLast_eq_take, zip_take, List.dropLast_eq_take, List.dropLast_eq_take]
        simp [lw]
      have ld : xs.dropLast.length = ws.dropLast.length := by simp [lw]
      have q := mk .lst (.lst ws.dropLast) (ws.zip xs).dropLast [(w, y)] [] ⟨by rw [upd_same, e1, zip_v ld], rfl⟩ (by
        have g : (ws.zip xs).getLast? = some (w, y) := by
          rw [List.getLast?_eq_getElem?]
          rw [show (ws.zip xs).length - 1 = xs.length - 1 by simp [lw]]
          exact hz
        obtain ⟨l', e'⟩ := List.getLast?_eq_some_iff.mp g
        rw [e']
        simp)
      rw [e1, zip_x ld] at q
      exact q
    · exact o.elim
  · exact o.elim
theorem zip_erase {vs : List V} {xs : List OV} (n : Nat) : (vs.zip xs).eraseIdx n = (vs.eraseIdx n).zip (xs.eraseIdx n) := by
  induction vs generalizing xs n with
  | nil => simp
  | cons a vs ih => cases xs with
    | nil => simp
    | cons x xs => cases n with
      | zero => simp
      | succ n => simp [ih]
theorem mt_pa : MtL K rPopAt mPopAt := by
  constructor
  intro A F0 F H0 H σ env a as xs args R Q c o k
  unfold mPopAt at o
  split at o
  · rename_i i
    split at o
    · rename_i j ej
      split at o
      · rename_i y ey
        obtain ⟨yi, rfl⟩ := args1 c.pop
        have di := c.pop.dp
        cases di
        obtain ⟨ws, ex, ⟨hH, rfl⟩, lw, _, mk⟩ := c.mut
        obtain ⟨w, hw, hz⟩ := zip_at lw ey
        have ij := ixN_seq ej
        refine ⟨a, ws, i, j, w, rfl, rfl, hH, o.1.1, o.1.2, by rw [← lw]; exact ij.1, hw, k y _ w _ F o.2 ?_⟩
        have ld : (xs.eraseIdx j).length = (ws.eraseIdx j).length := by simp [List.length_eraseIdx, lw]
        have q := mk .lst (.lst (ws.eraseIdx j)) ((ws.zip xs).eraseIdx j) [(w, y)] [(.int i, .d (.int i))] ⟨by rw [upd_same, zip_erase, zip_v ld], rfl⟩ (by
          simp only [List.zip_cons_cons, List.zip_nil_right]
          refine List.Perm.append_right _ ?_
          exact List.perm_append_comm.trans (perm_at hz))
        rw [zip_erase, zip_x ld] at q
        exact q
      · exact o.elim
    · exact o.elim
  · exact o.elim
theorem mt_in : MtL K (fun x vs H Q => ∃ (l : Addr) (xs : List V) (i : Int) (y : V), x = .ref l ∧ vs = [.int i, y] ∧ H l = some (.lst xs) ∧ xs.length < sizeLine ∧ 0 ≤ i ∧ i < 2 ^ 63 ∧ Q .non (upd H l (.lst (xs.take i.toNat ++ [y] ++ xs.drop i.toNat)))) mInsert := by
  constructor
  intro A F0 F H0 H σ env a as xs args R Q c o k
  unfold mInsert at o
  split at o
  · rename_i i x
    obtain ⟨yi, y, rfl⟩ := args2 c.pop
    have di := c.pop.dp
    cases di
    obtain ⟨ws, ex, ⟨hH, rfl⟩, lw, _, mk⟩ := c.mut
    refine ⟨a, ws, i, y, rfl, rfl, hH, by rw [← lw]; exact o.1.1, o.1.2.1, o.1.2.2, k (.d .none) _ .non _ F o.2 (At.under ?_ .non)⟩
    have lt : (xs.take i.toNat).length = (ws.take i.toNat).length := by simp [lw]
    have ld : (xs.drop i.toNat).length = (ws.drop i.toNat).length := by simp [lw]
    have q := mk .lst (.lst (ws.take i.toNat ++ [y] ++ ws.drop i.toNat)) ((ws.take i.toNat).zip (xs.take i.toNat) ++ [(y, x)] ++ (ws.drop i.toNat).zip (xs.drop i.toNat)) [] [(.int i, .d (.int i))]
      ⟨by rw [upd_same]; simp only [fsts, List.map_append, List.map_cons, List.map_nil]; rw [show List.map Prod.fst ((ws.take i.toNat).zip (xs.take i.toNat)) = ws.take i.toNat from zip_v lt, show List.map Prod.fst ((ws.drop i.toNat).zip (xs.drop i.toNat)) = ws.drop i.toNat from zip_v ld], rfl⟩ (by
        rw [← zip_take, ← zip_drop]
        simp only [List.zip_cons_cons, List.zip_nil_right, List.append_nil]
        have e := List.take_append_drop i.toNat (ws.zip xs)
        have h1 : ((ws.zip xs).take i.toNat ++ [(y, x)] ++ (ws.zip xs).drop i.toNat).Perm (((ws.zip xs).take i.toNat ++ (ws.zip xs).drop i.toNat) ++ [(y, x)]) := by
          rw [List.append_assoc, List.append_assoc]
          exact List.Perm.append_left _ List.perm_append_comm
        rw [e] at h1
        refine (List.Perm.append_right _ h1).trans ?_
        rw [List.append_assoc]
        exact List.Perm.append_left _ (List.Perm.swap _ _ _))
    simp only [snds, List.map_append, List.map_cons, List.map_nil] at q
    rw [show List.map Prod.snd ((ws.take i.toNat).zip (xs.take i.toNat)) = xs.take i.toNat from zip_x lt, show List.map Prod.snd ((ws.drop i.toNat).zip (xs.drop i.toNat)) = xs.drop i.toNat from zip_x ld] at q
    simpa using q
  · exact o.elim
end
end Ow

namespace Grd
open PySem L2
open Evl (Ex ex_t ex_l)

/-! ### data: what stands still, what is without lists -/
mutual
def tupOnly : PyData → Bool
  | .list _ => false
  | .dict _ => false
  | .tuple ds => tupOnlyAll ds
  | _ => true
def tupOnlyAll : List PyData → Bool
  | [] => true
  | d :: ds => tupOnly d && tupOnlyAll ds
end

/-- tuples stay as they are -/
def Ts (K : PySem.W.Frag) (H H' : Hp) : Prop := ∀ a xs, SqT K H a xs → SqT K H' a xs
theorem Ts.of_ex {K : PySem.W.Frag} {H H' : Hp} (e : Ex H H') : Ts K H H' := fun _ _ h => ex_t e h
theorem Ts.refl {K : PySem.W.Frag} {H : Hp} : Ts K H H := fun _ _ h => h
theorem Ts.trans {K : PySem.W.Frag} {H H1 H2 : Hp} (a : Ts K H H1) (b : Ts K H1 H2) : Ts K H H2 := fun x xs h => b x xs (a x xs h)

section
variable {K : PySem.W.Frag} {H H' : Hp}
mutual
theorem Dp.tst (t : Ts K H H') : ∀ (d : PyData) (v : V), tupOnly d = true → Dp K H v d → Dp K H' v d
  | .none, _, _, h => by cases h; exact .non
  | .bool b, _, _, h => by cases h; exact .bl b
  | .int i, _, _, h => by cases h; exact .int i
  | .str x, _, _, h => by cases h; exact .str x
  | .tuple ds, _, k, h => by
    cases h with
    | tup hs ha => exact .tup (t _ _ hs) (DpAll.tst t ds _ (by simpa only [tupOnly] using k) ha)
  | .list ds, _, k, h => by simp only [tupOnly] at k; exact absurd k (by decide)
  | .dict ds, _, k, h => by simp only [tupOnly] at k; exact absurd k (by decide)
theorem DpAll.tst (t : Ts K H H') : ∀ (ds : List PyData) (vs : List V), tupOnlyAll ds = true → DpAll K H vs ds → DpAll K H' vs ds
  | [], _, _, h => by cases h; exact .nil
  | d :: ds, _, k, h => by
    simp only [tupOnlyAll, Bool.and_eq_true] at k
    cases h with
    | cons h1 h2 => exact .cons (Dp.tst t d _ k.1 h1) (DpAll.tst t ds _ k.2 h2)
end
mutual
theorem Dp.ex (t : Ex H H') : ∀ (d : PyData) (v : V), Dp K H v d → Dp K H' v d
  | .none, _, h => by cases h; exact .non
  | .bool b, _, h => by cases h; exact .bl b
  | .int i, _, h => by cases h; exact .int i
  | .str x, _, h => by cases h; exact .str x
  | .tuple ds, _, h => by
    cases h with
    | tup hs ha => exact .tup (ex_t t hs) (DpAll.ex t ds _ ha)
  | .list ds, _, h => by
    cases h with
    | lst hs ha => exact .lst (ex_l t hs) (DpAll.ex t ds _ ha)
  | .dict ds, _, h => nomatch h
theorem DpAll.ex (t : Ex H H') : ∀ (ds : List PyData) (vs : List V), DpAll K H vs ds → DpAll K H' vs ds
  | [], _, h => by cases h; exact .nil
  | d :: ds, _, h => by
    cases h with
    | cons h1 h2 => exact .cons (Dp.ex t d _ h1) (DpAll.ex t ds _ h2)
end
theorem DpAll.len : ∀ {vs : List V} {ds : List PyData}, DpAll K H vs ds → vs.length = ds.length
  | _, _, .nil => rfl
  | _, _, .cons _ h => congrArg (· + 1) (DpAll.len h)
theorem DpAll.at {vs : List V} {ds : List PyData} (h : DpAll K H vs ds) (i : Nat) {d : PyData} (e : ds[i]? = some d) : ∃ v, vs[i]? = some v ∧ Dp K H v d := by
  induction i generalizing vs ds with
  | zero =>
    cases h with
    | nil => simp at e
    | cons h1 _ => simp at e; subst e; exact ⟨_, rfl, h1⟩
  | succ i ih =>
    cases h with
    | nil => simp at e
    | cons _ h2 => simp at e; obtain ⟨v, q⟩ := ih h2 e; exact ⟨v, by simpa using q.1, q.2⟩
theorem DpAll.append : ∀ {vs ws : List V} {ds es : List PyData}, DpAll K H vs ds → DpAll K H ws es → DpAll K H (vs ++ ws) (ds ++ es)
  | _, _, _, _, .nil, h => h
  | _, _, _, _, .cons a b, h => .cons a (DpAll.append b h)
end

section
variable {X : Cx} {pins : List (Addr × Obj)} {σ : L2.St} {H : Hp} {s : Shared}
mutual
/-- data without lists is read without an address -/
theorem readsT (I : Inv X pins σ H s) : ∀ (d : PyData) (v : V) (u : Value), tupOnly d = true → Dp X.K H v d → RelV v u → Reads s.heap u d []
  | .none, _, _, _, h, r => by cases h; cases r; exact Reads.none
  | .bool b, _, _, _, h, r => by cases h; cases r; exact Reads.bool b
  | .int i, _, _, _, h, r => by cases h; obtain ⟨t, rfl⟩ := r; exact Reads.int i t
  | .str x, _, _, _, h, r => by cases h; obtain ⟨t, rfl⟩ := r; exact Reads.str x t
  | .tuple ds, _, _, k, h, r => by
    cases h with
    | tup hs ha =>
      cases r
      obtain ⟨its, rv, ⟨o, ho, hc, n, hd⟩, _⟩ := I.tuple hs
      have hr := readsTs I ds _ its (by simpa only [tupOnly] using k) ha rv
      exact Reads.tuple ho hc hd hr
  | .list ds, _, _, k, h, r => by simp only [tupOnly] at k; exact absurd k (by decide)
  | .dict ds, _, _, k, h, r => by simp only [tupOnly] at k; exact absurd k (by decide)
theorem readsTs (I : Inv X pins σ H s) : ∀ (ds : List PyData) (vs : List V) (us : List Value), tupOnlyAll ds = true → DpAll X.K H vs ds → Vals vs us → ReadsAll s.heap us ds []
  | [], _, _, _, h, r => by cases h; cases r; exact ReadsAll.nil
  | d :: ds, _, _, k, h, r => by
    simp only [tupOnlyAll, Bool.and_eq_true] at k
    cases h with
    | cons h1 h2 =>
      cases r with
      | cons r1 r2 => exact ReadsAll.cons (as := []) (bs := []) (readsT I d _ _ k.1 h1 r1) (readsTs I ds _ _ k.2 h2 r2)
end

/-- a datum without lists, or a dict from ints to such -/
inductive Dr (K : PySem.W.Frag) (H : Hp) : V → PyData → Prop
  | dat {v : V} {d : PyData} : tupOnly d = true → Dp K H v d → Dr K H v d
  | dct {a : Addr} {kvs : List (Key × V)} {ds : List (Int × PyData)} : H a = some (.dK kvs) →
      Paired (fun (p : Key × V) (q : Int × PyData) => p.1 = Sum.inl q.1 ∧ tupOnly q.2 = true ∧ Dp K H p.2 q.2) kvs ds →
      Dr K H (.ref a) (.dict (ds.map fun q => (PyData.int q.1, q.2)))
theorem reads_pairs (I : Inv X pins σ H s) : ∀ {kvs : List (Key × V)} {ds : List (Int × PyData)} {vs : List (Key × Value)} {es : List DictEntry},
    Paired (fun (p : Key × V) (q : Int × PyData) => p.1 = Sum.inl q.1 ∧ tupOnly q.2 = true ∧ Dp X.K H p.2 q.2) kvs ds → KV kvs vs → Pairs (mixKind X.prog X.w) es vs →
    ReadsAll s.heap (es.map (·.key)) (ds.map fun q => PyData.int q.1) [] ∧ ReadsAll s.heap (es.map (·.val)) (ds.map (·.2)) []
  | _, _, _, _, .nil, k, p => by
    cases k
    cases p
    exact ⟨.nil, .nil⟩
  | _, _, _, _, .cons a b, k, p => by
    cases k with
    | cons k1 k2 =>
      cases p with
      | cons p1 p2 p3 =>
        obtain ⟨r1, r2⟩ := reads_pairs I b k2 p3
        refine ⟨ReadsAll.cons (as := []) (bs := []) ?_ r1, ReadsAll.cons (as := []) (bs := []) ?_ r2⟩
        · rw [← k1.1, a.1, mixKind_is] at p1
          rcases keyIs_shape p1 with ⟨i, t, e1, e2⟩ | ⟨x, t, e1, e2⟩
          · dsimp only
            rw [e2, Sum.inl.inj e1]
            exact Reads.int _ _
          · exact nomatch e1
        · exact readsT I _ _ _ a.2.1 a.2.2 (by have e := k1.2; rw [← p2] at e; exact e)
theorem Dr.reads (I : Inv X pins σ H s) {v : V} {d : PyData} {u : Value} (h : Dr X.K H v d) (r : RelV v u) : ∃ as, sysModules ∉ as ∧ Reads s.heap u d as := by
  cases h with
  | dat k h => exact ⟨[], by simp, readsT I d v u k h r⟩
  | @dct a kvs ds e p =>
    cases r
    obtain ⟨_, hne, vs, rel, o, es, ep, ho, hx, hd, hk, hp, _⟩ := dk_of I.hok e
    obtain ⟨r1, r2⟩ := reads_pairs I p rel hp
    refine ⟨[a], ?_, ?_⟩
    · intro z
      rw [List.mem_singleton] at z
      rw [z] at hne
      simp at hne
    · have q := Reads.dict (as := []) (bs := []) (kvs := ds.map fun q => (PyData.int q.1, q.2)) ho hx.1 hd
        (by rw [List.map_map]; exact r1) (by rw [List.map_map]; exact r2)
      exact q
theorem reads_row (I : Inv X pins σ H s) : ∀ {vs : List V} {ds : List PyData} {us : List Value}, Paired (Dr X.K H) vs ds → Vals vs us → ∃ as, sysModules ∉ as ∧ ReadsAll s.heap us ds as
  | _, _, _, .nil, r => by
    cases r
    exact ⟨[], by simp, .nil⟩
  | _, _, _, .cons h1 h2, r => by
    cases r with
    | cons r1 r2 =>
      obtain ⟨as, n1, q1⟩ := h1.reads I r1
      obtain ⟨bs, n2, q2⟩ := reads_row I h2 r2
      exact ⟨as ++ bs, by simp [n1, n2], .cons q1 q2⟩
end

/-- a list written out, its place not that of the table of modules -/
def tLstB (t : TA) : TE := fun σ H Q => t σ H fun xs H1 => xs.length ≤ sizeLine ∧ ∀ p, H1 p = none → p ≠ sysModules → Q (.ref p) (upd H1 p (.lst xs))
theorem pe_lstB {X : Cx} {es : List Expr} {t : TA} {pos : Pos} (h : PA X es t) : PE X (.List es pos) (tLstB t) := by
  constructor
  intro pins s σ H Q I hq
  refine wpAny_List_spliced (thn (h.run pos pins s σ H _ I hq) ?_)
  rintro us s1 ⟨xs, H1, I1, r, z, q⟩
  refine ⟨by rw [← r.length]; exact z, ?_⟩
  have hf : H1 s1.heap.objs.size = none := I1.hok.fresh (Nat.le_refl _)
  have hb := I1.big
  refine ⟨.ref s1.heap.objs.size, upd H1 s1.heap.objs.size (.lst xs), ?_, rfl, q _ hf (fun z => absurd hb (by rw [z]; exact Nat.lt_irrefl _))⟩
  exact I1.laid (t' := s1.toks) (fun b u e => Heap.get?_push_of_some _ e) (Nat.le_refl _) ⟨z, us, 0, r, Heap.get?_push_size _ rfl⟩

/-- repr of a list of such things -/
def rReprL (K : PySem.W.Frag) : List V → Hp → VK → Prop := fun vs H Q => ∃ (a : Addr) (xs : List V) (ds : List PyData), vs = [.ref a] ∧ a ≠ sysModules ∧ H a = some (.lst xs) ∧ Paired (Dr K H) xs ds ∧
  (PyData.list ds).showable = true ∧ (PyData.list ds).depth ≤ 60 ∧ (PyData.list ds).shown.length ≤ sizeLine ∧ Q (.str (PyData.list ds).shown) H
theorem call_reprL {X : Cx} (gd : X.A.guards = some []) (hu : X.A.units + 64 < cLine) : CallR X (.builtin "repr") (rReprL X.K) := by
  intro pins s σ H vs us Q I r h
  obtain ⟨a, xs, ds, rfl, na, ha, hp, hs, hd, hz, q⟩ := h
  rw [Vals.ref1 r]
  obtain ⟨its, n, rv, ho, _⟩ := I.lst ha
  obtain ⟨as, nas, hr⟩ := reads_row I hp rv
  have R : Reads s.heap (.ref a) (.list ds) (a :: as) := Reads.list ho rfl rfl (by simpa using hr)
  refine repr_of_reads' R hs (fun _ => by simp [nas, na.symm]) gd (by omega) (fun _ _ z => z) (fun h' u tk hk => ?_) hz
  exact ⟨.str _, H, I.kept hk, ⟨_, rfl⟩, q⟩
end Grd

/-! repr of any datum without dicts -/
namespace Grd
open PySem L2
open Evl (Ex ex_t ex_l)
section
variable {X : Cx} {pins : List (Addr × Obj)} {σ : L2.St} {H : Hp} {s : Shared}
mutual
theorem readsD (I : Inv X pins σ H s) : ∀ (d : PyData) (v : V) (u : Value), Dp X.K H v d → RelV v u → ∃ as, Reads s.heap u d as
  | .none, _, _, h, r => by cases h; cases r; exact ⟨_, Reads.none⟩
  | .bool b, _, _, h, r => by cases h; cases r; exact ⟨_, Reads.bool b⟩
  | .int i, _, _, h, r => by cases h; obtain ⟨t, rfl⟩ := r; exact ⟨_, Reads.int i t⟩
  | .str x, _, _, h, r => by cases h; obtain ⟨t, rfl⟩ := r; exact ⟨_, Reads.str x t⟩
  | .tuple ds, _, _, h, r => by
    cases h with
    | tup hs ha =>
      cases r
      obtain ⟨its, rv, ⟨o, ho, hc, n, hd⟩, _⟩ := I.tuple hs
      obtain ⟨as, hr⟩ := readsDs I ds _ its ha rv
      exact ⟨_, Reads.tuple ho hc hd hr⟩
  | .list ds, _, _, h, r => by
    cases h with
    | lst hs ha =>
      cases r
      obtain ⟨its, rv, ⟨o, n, ho, hc, _, hd⟩, _⟩ := I.list hs
      obtain ⟨as, hr⟩ := readsDs I ds _ its ha rv
      exact ⟨_, Reads.list ho hc hd hr⟩
  | .dict ds, _, _, h, r => nomatch h
theorem readsDs (I : Inv X pins σ H s) : ∀ (ds : List PyData) (vs : List V) (us : List Value), DpAll X.K H vs ds → Vals vs us → ∃ as, ReadsAll s.heap us ds as
  | [], _, _, h, r => by cases h; cases r; exact ⟨_, ReadsAll.nil⟩
  | d :: ds, _, _, h, r => by
    cases h with
    | cons h1 h2 =>
      cases r with
      | cons r1 r2 =>
        obtain ⟨as, q1⟩ := readsD I d _ _ h1 r1
        obtain ⟨bs, q2⟩ := readsDs I ds _ _ h2 r2
        exact ⟨_, ReadsAll.cons q1 q2⟩
end
end
mutual
theorem noDict {K : PySem.W.Frag} {H : Hp} : ∀ (d : PyData) (v : V), Dp K H v d → d.hasDict = false
  | .none, _, h => by simp only [PyData.hasDict]
  | .bool b, _, h => by simp only [PyData.hasDict]
  | .int i, _, h => by simp only [PyData.hasDict]
  | .str x, _, h => by simp only [PyData.hasDict]
  | .tuple ds, _, h => by
    cases h with
    | tup hs ha => simp only [PyData.hasDict]; exact noDicts ds _ ha
  | .list ds, _, h => by
    cases h with
    | lst hs ha => simp only [PyData.hasDict]; exact noDicts ds _ ha
  | .dict ds, _, h => nomatch h
theorem noDicts {K : PySem.W.Frag} {H : Hp} : ∀ (ds : List PyData) (vs : List V), DpAll K H vs ds → PyData.hasDictAll ds = false
  | [], _, h => by simp only [PyData.hasDictAll]
  | d :: ds, _, h => by
    cases h with
    | cons h1 h2 => simp only [PyData.hasDictAll, noDict d _ h1, noDicts ds _ h2, Bool.or_self]
end
def rReprD (K : PySem.W.Frag) : List V → Hp → VK → Prop := fun vs H Q => ∃ (v : V) (d : PyData), vs = [v] ∧ Dp K H v d ∧
  d.showable = true ∧ d.depth ≤ 60 ∧ d.shown.length ≤ sizeLine ∧ Q (.str d.shown) H
theorem call_reprD {X : Cx} (gd : X.A.guards = some []) (hu : X.A.units + 64 < cLine) : CallR X (.builtin "repr") (rReprD X.K) := by
  intro pins s σ H vs us Q I r h
  obtain ⟨v, d, rfl, hv, hs, hd, hz, q⟩ := h
  have nd := noDict d v hv
  obtain ⟨u, rfl, ru⟩ := vals1 r
  obtain ⟨as, hr⟩ := readsD I d v u hv ru
  cases hr with
  | none => exact PySem.P.repr_of_none ⟨.str _, H, I.tok _, ⟨_, rfl⟩, q⟩
  | bool b => exact PySem.P.repr_of_bool ⟨.str _, H, I.tok _, ⟨_, by cases b <;> rfl⟩, q⟩
  | int i t => exact PySem.P.repr_of_int (by simpa only [PyData.showable, decide_eq_true_eq] using hs) ⟨.str _, H, I.tok _, ⟨_, rfl⟩, q⟩
  | str x t => exact PySem.P.repr_of_str ⟨.str _, H, I.tok _, ⟨_, rfl⟩, q⟩ hz
  | list a b c d => exact repr_of_reads' (Reads.list a b c d) hs (PyData.noDict_hsm nd) gd (by omega) (fun _ _ z => z) (fun h' u tk hk => ⟨.str _, H, I.kept hk, ⟨_, rfl⟩, q⟩) hz
  | tuple a b c d => exact repr_of_reads' (Reads.tuple a b c d) hs (PyData.noDict_hsm nd) gd (by omega) (fun _ _ z => z) (fun h' u tk hk => ⟨.str _, H, I.kept hk, ⟨_, rfl⟩, q⟩) hz
  | dict => simp only [PyData.hasDict] at nd; cases nd
end Grd

/-! sorted of a tuple of texts -/
namespace Grd
open PySem L2
open PyProof.Rows (sortedS)
section
open PyProof.Rows
variable {prog : Program} {w : World} {A : Around} {E : Value → Shared → Prop} {s : Shared}
theorem collectT {t : Addr} {vs : List Value} {Q : List Value → Shared → Prop} (ht : IsTup s.heap t vs.toArray) (hz : vs.length ≤ sizeLine)
    (h : Q vs { s with heap := (s.heap.push (seqObj "list" #[] 0)).update s.heap.objs.size (Obj.mapSeq (· ++ vs.toArray)) }) :
    wpAny (model prog w) A (collect (.ref t)) Q E s := by
  obtain ⟨o, ho, hc, n, hd⟩ := id ht
  have new : (s.heap.push (seqObj "list" #[] 0)).get? s.heap.objs.size = some (seqObj "list" #[] 0) := Heap.get?_push_size _ rfl
  have old : (s.heap.push (seqObj "list" #[] 0)).get? t = some o := Heap.get?_push_of_some _ ho
  have e0 : ((#[] : Array Value) ++ vs.toArray).toList = vs := by simp
  unfold collect
  refine wpAny_bind (wpAny_runValue (codeAny_builtin entry_proto_collect' ?_))
  show wpAny _ _ (do again (.builtin "list.__iadd__" ⟨[← newList [], .ref t], []⟩)) _ _ s
  refine wpAny_bind (wpAny_newList (wpAny_pure ⟨Code.quiet_builtin _ (by decide +kernel), ?_⟩))
  refine codeAny_builtin entry_list_iadd' ?_
  show wpAny _ _ (Builtin.List.listExtendWith (.ref s.heap.objs.size) (.ref t) (.ref s.heap.objs.size)) _ _
    { s with heap := s.heap.push (seqObj "list" #[] 0) }
  unfold Builtin.List.listExtendWith
  refine wpAny_bind (wpAny_typeOf (T := "tuple") ⟨o, old, hc⟩ ?_)
  have tt : (Value.type "tuple" == Value.type "tuple") = true := by rfl
  rw [if_pos (by rw [tt]; simp)]
  refine wpAny_bind (listItems_at old hd ?_)
  refine wpAny_bind (listItems_at (xs := #[]) (n := 0) new rfl ?_)
  rw [if_neg (by simp)]
  have room : (#[] ++ vs.toArray : Array Value).size ≤ sizeLine + 1 := by
    simp only [Array.size_append, List.size_toArray, List.length_nil]
    omega
  refine wpAny_bind (listUpdate_at (xs := #[]) (n := 0) new rfl ?_ (Nat.zero_le _) room)
  refine wpAny_pure ?_
  refine wpAny_bind (wpAny_load (get?_update_seq new _) ?_)
  show wpAny _ _ (pure ((#[] : Array Value) ++ vs.toArray).toList) Q E _
  rw [e0]
  exact wpAny_pure h
theorem sortT {t : Addr} {vs : List Value} {ss : List Str} {Q : Value → Shared → Prop} (ht : IsTup s.heap t vs.toArray) (hS : StrsAre vs ss) (h64 : vs.length < 64)
    (h : ∀ (out : Array Value) (ss' : List Str), StrsAre out.toList ss' → ss'.Perm ss → sortedS ss' = true →
      Q (.ref (s.heap.objs.size + 1)) { s with heap := sortedAll s.heap vs out }) :
    wpAny (model prog w) A (call (.builtin "sorted") [.ref t]) Q E s := by
  have hz : vs.length ≤ sizeLine := small64 h64
  refine Calls.call_function_entry kind_sorted plain_sorted entry_sorted (args_sorted1 _) ?_
  unfold Builtin.«sorted»
  refine wpAny_bind (m := checkCount "sorted" 1 1 _) (wpAny_pure (wpAny_bind (collectT ht hz ?_)))
  refine wpAny_bind (wpAny_newList ?_)
  generalize eh : (s.heap.push (seqObj "list" #[] 0)).update s.heap.objs.size (Obj.mapSeq (· ++ vs.toArray)) = h1
  have sz : h1.objs.size = s.heap.objs.size + 1 := by rw [← eh, Heap.size_update, size_push']
  have at1 : (h1.push (seqObj "list" vs.toArray 0)).get? (s.heap.objs.size + 1) = some (seqObj "list" vs.toArray 0) := by
    rw [← sz]
    exact Heap.get?_push_size _ rfl
  show wpAny _ _ _ _ _ { s with heap := h1.push (seqObj "list" vs.toArray 0) }
  rw [sz]
  refine wpAny_bind (wpAny_holding (wpAny_call_entry slot_list_sort ⟨_, at1, rfl⟩ entry_list_sort (list_sort_treeK strKind_oneLt at1 hS.keysOf
    (fun v₁ v₂ rest e => keyKind_strs (by rw [← e]; exact hS)) h64 fun st' a1 a2 => ⟨_, rfl, ?_⟩) (args_list_sort _)))
  obtain ⟨ss', q1, q2, q3⟩ := sorted_out_str hS a1 a2
  have fin := h _ ss' q1 q2 q3
  unfold sortedAll at fin
  rw [eh] at fin
  exact wpAny_pure ⟨_, rfl, fin⟩
end
/-- sorted(t), t a tuple of texts, or a list of such -/
def rSortedTS (K : PySem.W.Frag) : List V → Hp → VK → Prop := fun vs H Q => ∃ (a : Addr) (xs : List Str), vs = [V.ref a] ∧ SqT K H a (xs.map V.str) ∧ xs.length < 64 ∧
  ∀ (ys : List Str) (p : Addr), ys.Perm xs → sortedS ys = true → H p = none → Q (.ref p) (upd H p (.lst (ys.map V.str)))
theorem cr_sortedTS {X : Cx} : CallR X (.builtin "sorted") (rSortedTS X.K) := by
  intro pins s σ H vs us Q I r h
  obtain ⟨a, xs, rfl, hs, h64, q⟩ := h
  obtain ⟨its, rv, hl, _⟩ := I.tuple hs
  rw [Vals.ref1 r]
  have n0 : xs.length = its.length := by have z := rv.length; rw [List.length_map] at z; exact z
  refine sortT hl rv.strs (by rw [← n0]; exact h64) ?_
  intro out ys h1 h2 h3
  obtain ⟨ep, he⟩ := PyProof.Rows.sortedAll_at s.heap its out
  have lz : (ys.map V.str).length ≤ sizeLine := by
    rw [List.length_map, h2.length_eq]
    exact small64 h64
  have new : H (s.heap.objs.size + 1) = none := I.hok.fresh (Nat.le_succ _)
  refine ⟨.ref (s.heap.objs.size + 1), upd H (s.heap.objs.size + 1) (.lst (ys.map V.str)), ?_, rfl, q ys _ h2 h3 new⟩
  exact I.laid (t' := s.toks) (fun _ _ => PyProof.Rows.sortedAll_old) (Nat.le_succ _) ⟨lz, out.toList, ep, vals_of_strs h1, he⟩
end Grd

/-! Ow: subscripts of names, slices, methods, built-in functions. -/
namespace Ow
open PySem L2 Grd PyProof.Rows
open Evl (Ex ex_t ex_l ex_rd)
/-! ### what is meant -/
def aCB (o : List OV → (OV → Prop) → Prop) (t : AA) : AE := fun env Q => t env fun xs e => o xs fun z => Q z e
def oLen1 (x : OV) (R : OV → Prop) : Prop := match x with
  | .d (.list ds) => R (.d (.int ds.length))
  | .d (.tuple ds) => R (.d (.int ds.length))
  | .d (.str z) => z.length ≤ sizeLine ∧ R (.d (.int z.length))
  | .n .lst xs => R (.d (.int xs.length))
  | .n .tup xs => R (.d (.int xs.length))
  | _ => False
def oLen (xs : List OV) (R : OV → Prop) : Prop := match xs with
  | [x] => oLen1 x R
  | _ => False
def aLenN (i : Nat) : AE := fun env Q => match env[i]? with
  | some (some x) => oLen1 x fun z => Q z env
  | _ => False
def oAbs (xs : List OV) (R : OV → Prop) : Prop := match xs with
  | [.d (.int i)] => R (.d (.int (if i < 0 then -i else i)))
  | _ => False
def oInt (xs : List OV) (R : OV → Prop) : Prop := match xs with
  | [.d (.int i)] => R (.d (.int i))
  | [.d (.bool b)] => R (.d (.int (if b then 1 else 0)))
  | _ => False
/-- what is in a list or a tuple -/
def sel : OV → Option (List OV)
  | .n .lst xs => some xs
  | .n .tup xs => some xs
  | .d (.list ds) => some (ds.map .d)
  | .d (.tuple ds) => some (ds.map .d)
  | _ => none
def oList (xs : List OV) (R : OV → Prop) : Prop := match xs with
  | [x] => match sel x with | some ys => R (.n .lst ys) | none => False
  | _ => False
def oTuple (xs : List OV) (R : OV → Prop) : Prop := match xs with
  | [.d (.tuple ds)] => R (.d (.tuple ds))
  | [x] => match lel x with | some ys => R (mkT ys) | none => False
  | _ => False
def boolsOf : List PyData → Option (List Bool)
  | [] => some []
  | .bool b :: ds => (boolsOf ds).map (b :: ·)
  | _ :: _ => none
def intsOf : List PyData → Option (List Int)
  | [] => some []
  | .int b :: ds => (intsOf ds).map (b :: ·)
  | _ :: _ => none
def strsOf : List PyData → Option (List Str)
  | [] => some []
  | .str b :: ds => (strsOf ds).map (b :: ·)
  | _ :: _ => none
def lfz (x : OV) : Option (List PyData) := (lel x).bind frzs
def sfz (x : OV) : Option (List PyData) := (sel x).bind frzs
def oAll (f : List Bool → Bool) (xs : List OV) (R : OV → Prop) : Prop := match xs with
  | [x] => match (lfz x).bind boolsOf with | some bs => R (.d (.bool (f bs))) | none => False
  | _ => False
def oSum (xs : List OV) (R : OV → Prop) : Prop := match xs with
  | [x] => match (lfz x).bind intsOf with | some ns => R (.d (.int ns.sum)) | none => False
  | _ => False
def oMax2 (xs : List OV) (R : OV → Prop) : Prop := match xs with
  | [.d (.int i), .d (.int j)] => R (.d (.int (if j > i then j else i)))
  | _ => False
def oMin2 (xs : List OV) (R : OV → Prop) : Prop := match xs with
  | [.d (.int i), .d (.int j)] => R (.d (.int (if j < i then j else i)))
  | _ => False
def oMax (xs : List OV) (R : OV → Prop) : Prop := match xs with
  | [x] => match (lfz x).bind intsOf with | some ns => 0 < ns.length ∧ ∀ m, m ∈ ns → (∀ y, y ∈ ns → y ≤ m) → R (.d (.int m)) | none => False
  | _ => False
def oRepr (xs : List OV) (R : OV → Prop) : Prop := match xs with
  | [x] => match frz x with | some d => (d.showable = true ∧ d.depth ≤ 60 ∧ d.shown.length ≤ sizeLine) ∧ R (.d (.str d.shown)) | none => False
  | _ => False
def oSorted (xs : List OV) (R : OV → Prop) : Prop := match xs with
  | [x] => match (sfz x).bind strsOf with | some ss => ss.length < 64 ∧ ∀ ys : List Str, ys.Perm ss → sortedS ys = true → R (.n .lst ((ys.map PyData.str).map .d)) | none => False
  | _ => False
def oStr (xs : List OV) (R : OV → Prop) : Prop := match xs with
  | [.d (.int i)] => i.natAbs.log2 < 1920 ∧ R (.d (.str (toString i)))
  | _ => False
inductive Ty where | int | bool | str | list | tuple
def Ty.nm : Ty → String
  | .int => "int" | .bool => "bool" | .str => "str" | .list => "list" | .tuple => "tuple"
def isOf : Ty → OV → Bool
  | .int, .d (.int _) => true
  | .int, .d (.bool _) => true
  | .bool, .d (.bool _) => true
  | .str, .d (.str _) => true
  | .list, .d (.list _) => true
  | .list, .n .lst _ => true
  | .tuple, .d (.tuple _) => true
  | .tuple, .n .tup _ => true
  | _, _ => false
def tyO : OV → String
  | .d .none => "NoneType" | .d (.bool _) => "bool" | .d (.int _) => "int" | .d (.str _) => "str" | .d (.list _) => "list" | .d (.tuple _) => "tuple" | .d (.dict _) => "dict"
  | .n .lst _ => "list" | .n .tup _ => "tuple" | .n (.dic _) _ => "dict" | .n (.ins _ _ _) _ => "object" | .n (.ext _) _ => "object" | .n (.gen _ _) _ => "object" | .h _ => "object"
def dull : OV → Bool
  | .n (.ins _ _ _) _ => true
  | .n (.ext _) _ => true
  | .n (.gen _ _) _ => true
  | .h _ => true
  | _ => false
def oIsi (ts : List Ty) (x : OV) (R : OV → Prop) : Prop := match x with
  | .n (.ins _ _ _) _ => False
  | .n (.ext _) _ => False
  | .n (.gen _ _) _ => False
  | .h _ => False
  | _ => R (.d (.bool (ts.any fun t => isOf t x)))
def oJoin (x y : OV) (R : OV → Prop) : Prop := match x with
  | .d (.str a) => match (sfz y).bind strsOf with | some ys => (ys.map (·.length)).sum + ys.length * a.length ≤ 16777216 ∧ R (.d (.str (Txt.join a ys))) | none => False
  | _ => False
def oSplit (x y : OV) (R : OV → Prop) : Prop := match x, y with
  | .d (.str a), .d (.str b) => ((b.length == 0) = false ∧ a.length + 2 ≤ sizeLine) ∧ R (.n .lst ((Txt.split a b).map fun s => .d (.str s)))
  | _, _ => False
def oRev (x : OV) (R : OV → Prop) : Prop := match lel x with
  | some xs => R (.n .lst xs.reverse)
  | none => False
/-! ### the rules -/
structure OpA (K : PySem.W.Frag) (r : List V → Hp → VK → Prop) (o : List OV → (OV → Prop) → Prop) : Prop where
  run : ∀ {A : Addr → Prop} {F0 F : FS} {H0 H : Hp} {σ : L2.St} {env : En} {vs : List V} {xs : List OV} {R : OV → Prop} {Q : VK},
    At K A F0 H0 H F vs xs σ env → o xs R → (∀ z w H' F', R z → At K A F0 H0 H' F' [w] [z] σ env → Q w H') → r vs H Q
section
variable {K : PySem.W.Frag} {A : Addr → Prop} {F0 F F' : FS} {H0 H H' : Hp} {v u : V} {vs us : List V} {x y : OV} {xs ys : List OV} {σ : L2.St} {env : En}
theorem At.sel {ys : List OV} (c : At K A F0 H0 H F (v :: vs) (x :: xs) σ env) (e : Ow.sel x = some ys) : ∃ a ws, v = .ref a ∧ (H a = some (.lst ws) ∨ SqT K H a ws) ∧ ys.length = ws.length ∧ At K A F0 H0 H F (ws ++ vs) (ys ++ xs) σ env := by
  cases x with
  | d d =>
    have dp := c.dp
    cases dp with
    | lst h t => cases e; exact ⟨_, _, rfl, .inl (rs_ex _ _ h), by rw [List.length_map]; exact t.len, c.pop.pushs t⟩
    | tup h t => cases e; exact ⟨_, _, rfl, .inr (ex_t rs_ex h), by rw [List.length_map]; exact t.len, c.pop.pushs t⟩
    | non => cases e
    | bl b => cases e
    | int b => cases e
    | str b => cases e
  | n s zs =>
    obtain ⟨a, ws, ex, rfl, hs, l, c1⟩ := c.opn
    cases s with
    | lst => cases e; exact ⟨a, ws, rfl, .inl hs.1, l, c1⟩
    | tup => cases e; exact ⟨a, ws, rfl, .inr (.of hs.1), l, c1⟩
    | dic ks => cases e
    | ins C ks => cases e
    | ext _ => cases e
    | gen _ _ => cases e
  | h v => cases e
theorem At.sfz {ds : List PyData} (c : At K A F0 H0 H F (v :: vs) (x :: xs) σ env) (e : Ow.sfz x = some ds) : ∃ a ws F', v = .ref a ∧ (H a = some (.lst ws) ∨ SqT K H a ws) ∧ Dts K (rs H F') ws ds ∧ At K A F0 H0 H F' vs xs σ env := by
  obtain ⟨ys, e1, e2⟩ := Option.bind_eq_some_iff.mp e
  obtain ⟨a, ws, rfl, h, l, c1⟩ := c.sel e1
  obtain ⟨F1, c2, dp⟩ := At.fixs c1 l e2
  exact ⟨a, ws, F1, rfl, h, dp, At.pops c2 (by rw [List.length_map]; exact dp.len)⟩
theorem At.lfz {ds : List PyData} (c : At K A F0 H0 H F (v :: vs) (x :: xs) σ env) (e : Ow.lfz x = some ds) : ∃ a ws F', v = .ref a ∧ H a = some (.lst ws) ∧ Dts K (rs H F') ws ds ∧ At K A F0 H0 H F' vs xs σ env := by
  obtain ⟨ys, e1, e2⟩ := Option.bind_eq_some_iff.mp e
  obtain ⟨a, ws, rfl, h, l, c1⟩ := c.lel e1
  obtain ⟨F1, c2, dp⟩ := At.fixs c1 l e2
  exact ⟨a, ws, F1, rfl, h, dp, At.pops c2 (by rw [List.length_map]; exact dp.len)⟩
theorem dts_bools : ∀ {vs : List V} {ds : List PyData} {bs : List Bool}, Dts K H vs ds → boolsOf ds = some bs → vs = bs.map V.bl
  | _, _, bs, .nil, e => by cases e; rfl
  | _, _, bs, .cons h t, e => by
    cases h <;> first | (cases e; done) | skip
    obtain ⟨cs, e1, rfl⟩ := Option.map_eq_some_iff.mp e
    rw [dts_bools t e1]
    rfl
theorem dts_ints : ∀ {vs : List V} {ds : List PyData} {bs : List Int}, Dts K H vs ds → intsOf ds = some bs → vs = bs.map V.int
  | _, _, bs, .nil, e => by cases e; rfl
  | _, _, bs, .cons h t, e => by
    cases h <;> first | (cases e; done) | skip
    obtain ⟨cs, e1, rfl⟩ := Option.map_eq_some_iff.mp e
    rw [dts_ints t e1]
    rfl
theorem dts_strs : ∀ {vs : List V} {ds : List PyData} {bs : List Str}, Dts K H vs ds → strsOf ds = some bs → vs = bs.map V.str
  | _, _, bs, .nil, e => by cases e; rfl
  | _, _, bs, .cons h t, e => by
    cases h <;> first | (cases e; done) | skip
    obtain ⟨cs, e1, rfl⟩ := Option.map_eq_some_iff.mp e
    rw [dts_strs t e1]
    rfl
theorem strs_dts {H : Hp} : ∀ (ss : List Str), Dts K H (ss.map V.str) (ss.map PyData.str)
  | [] => .nil
  | s :: ss => .cons (.str s) (strs_dts ss)
theorem opa_len1 {R : OV → Prop} {Q : VK} (c : At K A F0 H0 H F [v] [x] σ env) (o : oLen1 x R) (k : ∀ n : Nat, R (.d (.int n)) → Q (.int n) H) :
    (∃ p ys, [v] = [V.ref p] ∧ (SqL K H p ys ∨ SqT K H p ys) ∧ Q (.int ys.length) H) ∨ ∃ z, [v] = [V.str z] ∧ z.length ≤ sizeLine ∧ Q (.int z.length) H := by
  cases x with
  | d d =>
    have h := c.dp
    cases h with
    | lst h t => exact .inl ⟨_, _, rfl, .inl (.of (rs_ex _ _ h)), k _ (by rw [← t.len]; exact o)⟩
    | tup h t => exact .inl ⟨_, _, rfl, .inr (ex_t rs_ex h), k _ (by rw [← t.len]; exact o)⟩
    | str z => exact .inr ⟨_, rfl, o.1, k _ o.2⟩
    | non => exact o.elim
    | bl b => exact o.elim
    | int b => exact o.elim
  | n s zs =>
    obtain ⟨a, ws, ex, rfl, hs, l, c1⟩ := c.opn
    cases s with
    | lst => exact .inl ⟨_, _, rfl, .inl (.of hs.1), k _ (by rw [← l]; exact o)⟩
    | tup => exact .inl ⟨_, _, rfl, .inr (.of hs.1), k _ (by rw [← l]; exact o)⟩
    | dic ks => exact o.elim
    | ins C ks => exact o.elim
    | ext _ => exact o.elim
    | gen _ _ => exact o.elim
  | h v => exact o.elim
theorem opa_len : OpA K (fun xs H Q => (∃ p ys, xs = [.ref p] ∧ (SqL K H p ys ∨ SqT K H p ys) ∧ Q (.int ys.length) H) ∨ ∃ z, xs = [.str z] ∧ z.length ≤ sizeLine ∧ Q (.int z.length) H) oLen := by
  constructor
  intro A F0 F H0 H σ env vs xs R Q c o k
  unfold oLen at o
  split at o
  · obtain ⟨v, rfl⟩ := args1 c
    exact opa_len1 c o fun n r => k _ _ _ F r (c.pop.push (.int _))
  · exact o.elim
theorem opa_abs : OpA K (fun xs H Q => ∃ i, xs = [.int i] ∧ Q (.int (if i < 0 then -i else i)) H) oAbs := by
  constructor
  intro A F0 F H0 H σ env vs xs R Q c o k
  unfold oAbs at o
  split at o
  · obtain ⟨v, rfl⟩ := args1 c
    have h := c.dp
    cases h
    exact ⟨_, rfl, k _ _ _ F o (c.pop.push (.int _))⟩
  · exact o.elim
theorem opa_int : OpA K (fun xs H Q => (∃ i, xs = [.int i] ∧ Q (.int i) H) ∨ ∃ k, xs = [.bl k] ∧ Q (.int (if k then 1 else 0)) H) oInt := by
  constructor
  intro A F0 F H0 H σ env vs xs R Q c o k
  unfold oInt at o
  split at o
  · obtain ⟨v, rfl⟩ := args1 c
    have h := c.dp
    cases h
    exact .inl ⟨_, rfl, k _ _ _ F o (c.pop.push (.int _))⟩
  · obtain ⟨v, rfl⟩ := args1 c
    have h := c.dp
    cases h
    exact .inr ⟨_, rfl, k _ _ _ F o (c.pop.push (.int _))⟩
  · exact o.elim
theorem opa_list : OpA K (fun xs H Q => ∃ p ys, xs = [.ref p] ∧ (SqL K H p ys ∨ SqT K H p ys) ∧ ∀ l, H l = none → Q (.ref l) (upd H l (.lst ys))) oList := by
  constructor
  intro A F0 F H0 H σ env vs xs R Q c o k
  unfold oList at o
  split at o
  · obtain ⟨v, rfl⟩ := args1 c
    split at o
    · rename_i ys ey
      obtain ⟨a, ws, rfl, h, l, c1⟩ := c.sel ey
      exact ⟨a, ws, rfl, h.imp .of id, fun p hp => k _ _ _ F o (At.make (s := .lst) c1 l hp ⟨upd_same, rfl⟩)⟩
    · exact o.elim
  · exact o.elim
theorem opa_tuple : OpA K (fun xs H Q => ∃ p ys, xs = [.ref p] ∧ ((SqL K H p ys ∧ ∀ l, H l = none → Q (.ref l) (upd H l (.tup ys))) ∨ (SqT K H p ys ∧ Q (.ref p) H))) oTuple := by
  constructor
  intro A F0 F H0 H σ env vs xs R Q c o k
  unfold oTuple at o
  split at o
  · obtain ⟨v, rfl⟩ := args1 c
    have h := c.dp
    cases h with
    | tup h t => exact ⟨_, _, rfl, .inr ⟨ex_t rs_ex h, k _ _ _ F o (c.pop.push (.tup h t))⟩⟩
  · obtain ⟨v, rfl⟩ := args1 c
    split at o
    · rename_i ys ey
      obtain ⟨a, ws, rfl, h, l, c1⟩ := c.lel ey
      refine ⟨a, ws, rfl, .inl ⟨.of h, fun p hp => ?_⟩⟩
      unfold mkT at o
      split at o
      · rename_i ds ed
        have ex := dats_frzs ed
        subst ex
        obtain ⟨F2, c2, dp⟩ := At.fixs c1 l (frzs_map ds)
        obtain ⟨F3, c3⟩ := (At.pops c2 l).newT dp hp
        exact k _ _ _ F3 o c3
      · exact k _ _ _ F o (At.make (s := .tup) c1 l hp ⟨upd_same, rfl⟩)
    · exact o.elim
  · exact o.elim
theorem opa_all {f : List Bool → Bool} : OpA K (fun vs H Q => ∃ (a : Addr) (bs : List Bool), vs = [V.ref a] ∧ SqL K H a (bs.map V.bl) ∧ Q (.bl (f bs)) H) (oAll f) := by
  constructor
  intro A F0 F H0 H σ env vs xs R Q c o k
  unfold oAll at o
  split at o
  · obtain ⟨v, rfl⟩ := args1 c
    split at o
    · rename_i bs eb
      obtain ⟨ds, e1, e2⟩ := Option.bind_eq_some_iff.mp eb
      obtain ⟨a, ws, F1, rfl, h, dp, c1⟩ := c.lfz e1
      have e3 := dts_bools dp e2
      subst e3
      exact ⟨a, bs, rfl, .of h, k _ _ _ F1 o (c1.push (.bl _))⟩
    · exact o.elim
  · exact o.elim
theorem opa_sum : OpA K (rSum K) oSum := by
  constructor
  intro A F0 F H0 H σ env vs xs R Q c o k
  unfold oSum at o
  split at o
  · obtain ⟨v, rfl⟩ := args1 c
    split at o
    · rename_i bs eb
      obtain ⟨ds, e1, e2⟩ := Option.bind_eq_some_iff.mp eb
      obtain ⟨a, ws, F1, rfl, h, dp, c1⟩ := c.lfz e1
      have e3 := dts_ints dp e2
      subst e3
      exact ⟨a, bs, rfl, .of h, k _ _ _ F1 o (c1.push (.int _))⟩
    · exact o.elim
  · exact o.elim
theorem opa_max : OpA K (rMax K) oMax := by
  constructor
  intro A F0 F H0 H σ env vs xs R Q c o k
  unfold oMax at o
  split at o
  · obtain ⟨v, rfl⟩ := args1 c
    split at o
    · rename_i bs eb
      obtain ⟨ds, e1, e2⟩ := Option.bind_eq_some_iff.mp eb
      obtain ⟨a, ws, F1, rfl, h, dp, c1⟩ := c.lfz e1
      have e3 := dts_ints dp e2
      subst e3
      exact ⟨a, bs, rfl, .of h, o.1, fun m hm hx => k _ _ _ F1 (o.2 m hm hx) (c1.push (.int _))⟩
    · exact o.elim
  · exact o.elim
theorem opa_max2 : OpA K (fun xs H Q => ∃ i j, xs = [.int i, .int j] ∧ Q (.int (if j > i then j else i)) H) oMax2 := by
  constructor
  intro A F0 F H0 H σ env vs xs R Q c o k
  unfold oMax2 at o
  split at o
  · obtain ⟨v, u, rfl⟩ := args2 c
    have h := c.dp
    have h2 := c.pop.dp
    cases h; cases h2
    exact ⟨_, _, rfl, k _ _ _ F o (c.pop.pop.push (.int _))⟩
  · exact o.elim
theorem opa_min2 : OpA K (fun xs H Q => ∃ i j, xs = [.int i, .int j] ∧ Q (.int (if j < i then j else i)) H) oMin2 := by
  constructor
  intro A F0 F H0 H σ env vs xs R Q c o k
  unfold oMin2 at o
  split at o
  · obtain ⟨v, u, rfl⟩ := args2 c
    have h := c.dp
    have h2 := c.pop.dp
    cases h; cases h2
    exact ⟨_, _, rfl, k _ _ _ F o (c.pop.pop.push (.int _))⟩
  · exact o.elim
theorem opa_repr : OpA K (rReprD K) oRepr := by
  constructor
  intro A F0 F H0 H σ env vs xs R Q c o k
  unfold oRepr at o
  split at o
  · obtain ⟨v, rfl⟩ := args1 c
    split at o
    · rename_i d ed
      obtain ⟨F1, c1⟩ := c.fix ed
      exact ⟨_, _, rfl, c1.dpH.dp, o.1.1, o.1.2.1, o.1.2.2, k _ _ _ F1 o.2 (c1.pop.push (.str _))⟩
    · exact o.elim
  · exact o.elim
theorem opa_sorted : OpA K (fun vs H Q => rSortedS K vs H Q ∨ rSortedTS K vs H Q) oSorted := by
  constructor
  intro A F0 F H0 H σ env vs xs R Q c o k
  unfold oSorted at o
  split at o
  · obtain ⟨v, rfl⟩ := args1 c
    split at o
    · rename_i ss es
      obtain ⟨ds, e1, e2⟩ := Option.bind_eq_some_iff.mp es
      obtain ⟨a, ws, F1, rfl, h, dp, c1⟩ := c.sfz e1
      have e3 := dts_strs dp e2
      subst e3
      rcases h with h | h
      · exact .inl ⟨a, ss, rfl, .of h, o.1, fun ys p hp hs hn => k _ _ _ F1 (o.2 ys hp hs) (c1.newL (strs_dts ys) hn)⟩
      · exact .inr ⟨a, ss, rfl, h, o.1, fun ys p hp hs hn => k _ _ _ F1 (o.2 ys hp hs) (c1.newL (strs_dts ys) hn)⟩
    · exact o.elim
  · exact o.elim
theorem opa_str : OpA K (fun xs H Q => ∃ i, xs = [.int i] ∧ i.natAbs.log2 < 1920 ∧ Q (.str (toString i)) H) oStr := by
  constructor
  intro A F0 F H0 H σ env vs xs R Q c o k
  unfold oStr at o
  split at o
  · obtain ⟨v, rfl⟩ := args1 c
    have h := c.dp
    cases h
    exact ⟨_, rfl, o.1, k _ _ _ F o.2 (c.pop.push (.str _))⟩
  · exact o.elim
theorem isi_of (t : Ty) (x : OV) (h : dull x = false) : PySem.W.kitOne K (.type (tyO x)) (.type t.nm) = some (isOf t x) := by
  refine kit_ty ?_
  cases x with
  | d d => cases d <;> cases t <;> (simp only [tyO, isOf, Ty.nm]; decide +kernel)
  | n s xs =>
    cases s with
    | lst => cases t <;> (simp only [tyO, isOf, Ty.nm]; decide +kernel)
    | tup => cases t <;> (simp only [tyO, isOf, Ty.nm]; decide +kernel)
    | dic ks => cases t <;> (simp only [tyO, isOf, Ty.nm]; decide +kernel)
    | ins p C ks => cases h
    | ext _ => cases h
    | gen _ _ => cases h
  | h v => cases h
theorem isi_any (x : OV) (h : dull x = false) : ∀ ts : List Ty, PySem.W.kitAny K (.type (tyO x)) (ts.map fun t => .type t.nm) = some (ts.any fun t => isOf t x)
  | [] => kitAny_nil
  | t :: ts => kitAny_cons (isi_of t x h) (fun e => by rw [isi_any x h ts, List.any_cons, e, Bool.false_or]) (fun e => by rw [List.any_cons, e, Bool.true_or])
theorem ty_of (c : At K A F0 H0 H F (v :: vs) (x :: xs) σ env) (h : dull x = false) : TyX K H v (.type (tyO x)) := by
  cases x with
  | d d =>
    have dp := c.dpH
    cases dp with
    | non => exact .base .non
    | bl b => exact .base (.bl b)
    | int i => exact .base (.int i)
    | str x => exact .base (.str x)
    | lst hs ha => exact .base (.lst hs)
    | tup hs ha =>
      rcases hs with (q | ⟨o, q⟩) | ⟨o, its, n, q, c, _⟩
      · exact .base (.tup q)
      · exact .fTuple q
      · exact .kTuple q c
  | n s ys =>
    obtain ⟨a, ws, ex, rfl, hs, l, c1⟩ := c.opn
    cases s with
    | lst => exact .base (.lst hs.1)
    | tup => exact .base (.tup hs.1)
    | dic ks => exact .base (.dK hs.1)
    | ins p C ks => cases h
    | ext _ => cases h
    | gen _ _ => cases h
  | h v => cases h
end
section
variable {X : Cx} {e a b c : Expr} {es : List Expr} {ta tb tc : AE} {tr : AA} {pos p apos : Pos} {i : Nat} {x : Str} {id T : String}
theorem se_callB {r : List V → Hp → VK → Prop} {o : List OV → (OV → Prop) → Prop} (hc : CallR X (.builtin id) r) (hr : OpA X.K r o) (hg : Gl X x) (hm : X.mg x = none) (hv : bootBuiltins x = some (.builtin id)) (ha : SA X (e :: es) tr) (hn : x ≠ "__name__" := by decide) (hdb : (x == ("__debug__" : Str)) = false := by decide)
    (he : starEach (e :: es) X.env = (false, eval e X.env) :: starEach es X.env := by rfl) (hpl : (backTo pos (starEach es X.env)).any (·.1) = false := by rfl) : SE X (.Call (.Name x p) (e :: es) [] pos) (aCB o tr) :=
  peTo (pe_callB hc hg hm hv ha hn hdb he hpl) fun σ H Q ⟨A, F, env, R, c, h, k⟩ => evs c h fun xs e1 vs H1 F1 h1 c1 => hr.run (by simpa using c1) h1 fun z w H2 F2 h2 c2 => k _ _ _ _ _ h2 c2
theorem se_callTy {r : List V → Hp → VK → Prop} {o : List OV → (OV → Prop) → Prop} (hc : CallR X (.type T) r) (hr : OpA X.K r o) (hg : Gl X x) (hm : X.mg x = none) (hv : bootBuiltins x = some (.type T)) (ha : SA X (e :: es) tr) (hn : x ≠ "__name__" := by decide) (hdb : (x == ("__debug__" : Str)) = false := by decide)
    (he : starEach (e :: es) X.env = (false, eval e X.env) :: starEach es X.env := by rfl) (hpl : (backTo pos (starEach es X.env)).any (·.1) = false := by rfl) : SE X (.Call (.Name x p) (e :: es) [] pos) (aCB o tr) :=
  peTo (pe_callTy hc hg hm hv ha hn hdb he hpl) fun σ H Q ⟨A, F, env, R, c, h, k⟩ => evs c h fun xs e1 vs H1 F1 h1 c1 => hr.run (by simpa using c1) h1 fun z w H2 F2 h2 c2 => k _ _ _ _ _ h2 c2
/-- len of a name: it stays as it is -/
theorem se_lenN (h : PE X e (tVar i)) (hg : Gl X x) (hm : X.mg x = none) (hv : bootBuiltins x = some (.builtin "len")) (hn : x ≠ "__name__" := by decide) (hdb : (x == ("__debug__" : Str)) = false := by decide)
    (he : starEach [e] X.env = [(false, eval e X.env)] := by rfl) (hpl : (backTo pos (starEach [] X.env)).any (·.1) = false := by rfl) : SE X (.Call (.Name x p) [e] [] pos) (aLenN i) :=
  peTo (pe_callB (call_len_seq.or call_len_str) hg hm hv (pa_cons h pa_nil he) hn hdb he hpl) fun σ H Q ⟨A, F, env, R, c, h, k⟩ => by
    unfold aLenN at h
    split at h
    · rename_i x ex
      obtain ⟨v, hv, c1⟩ := c.take ex
      exact ⟨v, hv, opa_len1 c1 h fun n r => k _ _ _ _ F r (c.push (.int _))⟩
    · exact h.elim
theorem se_isi (ha : SE X a ta) (t : Ty) (hb : PE X b (tC (.ty t.nm))) (hg : Gl X x) (hm : X.mg x = none) (hv : bootBuiltins x = some (.builtin "isinstance")) (hn : x ≠ "__name__" := by decide) (hdb : (x == ("__debug__" : Str)) = false := by decide)
    (he : starEach [a, b] X.env = (false, eval a X.env) :: starEach [b] X.env := by rfl) (he2 : starEach [b] X.env = [(false, eval b X.env)] := by rfl) (hpl : (backTo pos (starEach [b] X.env)).any (·.1) = false := by rfl) : SE X (.Call (.Name x p) [a, b] [] pos) (a1 (oIsi [t]) ta) :=
  peTo (pe_callB call_isi hg hm hv (pa_cons ha (pa_cons hb pa_nil he2) he) hn hdb he hpl) fun σ H Q ⟨A, F, env, R, c, h, k⟩ => ev c h fun x e1 v H1 F1 h1 c1 => by
    have ni : dull x = false := by
      cases x with
      | d d => rfl
      | n s ys => cases s <;> first | rfl | exact False.elim h1
      | h v => exact False.elim h1
    have h2 : R (.d (.bool (isOf t x))) e1 := by
      cases x with
      | d d => simpa [oIsi] using h1
      | n s ys => cases s <;> first | (simpa [oIsi] using h1; done) | exact False.elim h1
      | h v => exact False.elim h1
    exact ⟨v, _, _, _, _, rfl, .ty _, ty_of c1 ni, isi_of t x ni, k _ _ _ _ F1 h2 (c1.pop.push (.bl _))⟩
end
end Ow

/-! Ow: subscripts of names, slices, methods: the rules. -/
namespace Ow
open PySem L2 Grd PyProof.Rows
open Evl (Ex ex_t ex_l ex_rd)
section
variable {X : Cx} {e o a b c : Expr} {es : List Expr} {ta tb tc te : AE} {tr : AA} {pos p p2 apos cpos : Pos} {i : Nat} {x : Str} {id T : String}
theorem getSome {K : PySem.W.Frag} {A : Addr → Prop} {F0 F : FS} {H0 H : Hp} {vs : List V} {xs : List OV} {σ : L2.St} {env : En} (c : At K A F0 H0 H F vs xs σ env) (h : match env[i]? with | some (some _) => True | _ => False) : ∃ v, σ[i]? = some (some v) := by
  split at h
  · rename_i x ex; exact c.get ex
  · exact h.elim
theorem se_ixN (h : PE X a (tVar i)) (hb : SE X b tb) (hs : PlainIx b) : SE X (.Subscript a b pos) (aIxN i tb) := peTo (pe_ix ix_seq h hb hs) fun σ H Q ⟨A, F, env, R, c, h, k⟩ => by
  obtain ⟨h0, h⟩ := h
  obtain ⟨v, hv⟩ := getSome c h0
  refine ⟨v, hv, ev c h fun y e1 u H2 F2 h2 c2 => ?_⟩
  split at h2
  · rename_i x ex
    unfold oIx at h2
    split at h2
    · have dw := c2.dp
      cases dw
      obtain ⟨v', hv', dv⟩ := c2.look ex
      rw [hv] at hv'
      cases hv'
      exact ixD dv h2 fun d' v'' r hd => k _ _ _ _ _ r (c2.pop.push hd)
    · exact h2.elim
  · rename_i xs ex
    split at h2
    · rename_i kk
      have dw := c2.dp
      cases dw
      split at h2
      · rename_i j ej
        obtain ⟨v', hv', c3⟩ := c2.pop.take ex
        rw [hv] at hv'
        cases hv'
        split at h2
        · rename_i d ed
          obtain ⟨a, ws, ex', rfl, hs, l, c4⟩ := c3.opn
          obtain ⟨w, h1, c5⟩ := c4.pick l ed
          exact .inl ⟨a, ws, _, w, rfl, rfl, .of hs.1, ix_atI (by rw [← l]; exact ej) h1, k _ _ _ _ _ h2 (c2.pop.push c5.dp)⟩
        · rename_i o _ eo
          split at h2
          · rename_i d ed
            obtain ⟨a, ws, ex', w, F3, rfl, hs, l, h1, dw, c4⟩ := c3.fixAt eo ed
            have c5 := (c4.push dw).swap.put hv
            rw [set_set'] at c5
            exact .inl ⟨a, ws, _, w, rfl, rfl, .of hs.1, ix_atI (by rw [← l]; exact ej) h1, k _ _ _ _ _ h2 c5⟩
          · exact h2.elim
        · exact h2.elim
      · exact h2.elim
    · exact h2.elim
  · exact h2.elim
theorem so_none : SO X none aNoP := ⟨fun pins s σ H Q I ⟨A, F, env, R, c, h, k⟩ => po_none.run pins s σ H Q I (k _ _ _ _ h c)⟩
theorem so_some (he : SE X e te) : SO X (some e) (aPart te) := ⟨fun pins s σ H Q I ⟨A, F, env, R, c, h, k⟩ => (po_some he).run pins s σ H Q I (ev c h fun x e1 v H1 F1 h1 c1 => by
  split at h1
  · have dw := c1.dp
    cases dw
    exact ⟨_, rfl, k _ _ _ _ h1 c1.pop⟩
  · exact h1.elim)⟩
theorem se_sl {lo hi : Option Expr} {tl th : AO} (he : SE X e te) (hl : SO X lo tl) (hu : SO X hi th) : SE X (.Subscript e (.Slice lo hi none p2) pos) (aSl te tl th) :=
  peTo (pe_slice (sl_list.or (sl_tupA.or sl_str)) he hl hu) fun σ H Q ⟨A, F, env, R, c, h, k⟩ => ev c h fun x e1 v H1 F1 h1 c1 => evo c1 h1 fun l e2 H2 F2 h2 c2 => evo c2 h2 fun u e3 H3 F3 h3 c3 => slO c3 h3 fun z w H4 F4 h4 c4 => k _ _ _ _ _ h4 c4
theorem se_rev {k : Nat} {p1 p2 p3 : Pos} (he : SE X e te) : SE X (.Subscript e (.Slice none none (some (.UnaryOp .USub (.Constant (.int 1) k p1) p2)) p3) pos) (a1 oRev te) :=
  peTo (pe_revL he) fun σ H Q ⟨A, F, env, R, c, h, k⟩ => ev c h fun x e1 v H1 F1 h1 c1 => by
    unfold oRev at h1
    split at h1
    · rename_i xs ex
      obtain ⟨a, ws, rfl, h, l, c2⟩ := c1.lel ex
      refine ⟨a, ws, rfl, .of h, fun p hp => k _ _ _ _ F1 h1 ?_⟩
      have c3 := At.keepSome (ps := (ws.zip xs).reverse) (r := []) c2 l (by simp [List.reverse_perm])
      have e1 : fsts (ws.zip xs).reverse = ws.reverse := by rw [show fsts (ws.zip xs).reverse = (fsts (ws.zip xs)).reverse from List.map_reverse, zip_v l]
      have e2 : snds (ws.zip xs).reverse = xs.reverse := by rw [show snds (ws.zip xs).reverse = (snds (ws.zip xs)).reverse from List.map_reverse, zip_x l]
      rw [e1, e2] at c3
      exact At.make (s := .lst) c3 (by simp [l]) hp ⟨upd_same, rfl⟩
    · exact h1.elim
/-! methods of a list that a name holds -/
theorem lstStart {K : PySem.W.Frag} {A : Addr → Prop} {F0 F : FS} {H0 H : Hp} {vs : List V} {xs : List OV} {σ : L2.St} {env : En} (c : At K A F0 H0 H F vs xs σ env) (h : match env[i]? with | some (some (.n .lst _)) => True | _ => False) : ∃ a, σ[i]? = some (some (.ref a)) ∧ tyV K "list" (.ref a) H := by
  split at h
  · rename_i x ex
    obtain ⟨v, hv, c1⟩ := c.take ex
    obtain ⟨a, ws, ex', rfl, hs, l, c2⟩ := c1.opn
    exact ⟨a, hv, .inl ⟨rfl, ws, .of hs.1⟩⟩
  · exact h.elim
theorem se_mt {name : Str} {r : V → List V → Hp → VK → Prop} {mm : MM} (slot : Slot "list" name id) (hty : typeOf (.builtin id) = pure (.type "method_descriptor")) (hm : MtR X id r) (hl : MtL X.K r mm) (h : PE X o (tVar i)) (ha : SA X (e :: es) tr)
    (hbase : attributeBase o name X.env (eval o X.env) = eval o X.env := by rfl)
    (hfew : ((backTo cpos (starEach (e :: es) X.env)).all (fun x => !x.1) && (backToKw cpos (keywordEach [] X.env)).all (fun x => x.1.isSome)
      && decide ((e :: es).length + ([] : List Keyword).length + (if ([] : List Keyword).isEmpty then 0 else 1) < 30)) = true := by rfl)
    (hline : (apos.endLine == cpos.line) = true := by rfl) (hs : starEach (e :: es) X.env = (false, eval e X.env) :: starEach es X.env := by rfl) (hplain : (backTo cpos (starEach es X.env)).any (·.1) = false := by rfl) :
    SE X (.Call (.Attribute o name apos) (e :: es) [] cpos) (aMt i mm tr) :=
  peTo (pe_bm PySem.F.plainAttrs_list slot hty hm h ha hbase hfew hline hs hplain) fun σ H Q ⟨A, F, env, R, c, h, k⟩ => by
    obtain ⟨h0, h⟩ := h
    obtain ⟨a, hv, ty⟩ := lstStart c h0
    refine ⟨.ref a, hv, ty, evs c h fun xs e1 vs H1 F1 h1 c1 => ?_⟩
    split at h1
    · rename_i ys ey
      obtain ⟨v', hv', c2⟩ := c1.take ey
      rw [hv] at hv'
      cases hv'
      exact hl.run (by simpa using c2) h1 fun z xs' w H2 F2 h2 c3 => k _ _ _ _ _ h2 (by
        have c4 := c3.put hv
        rw [set_set'] at c4
        exact c4)
    · exact h1.elim
theorem se_mt0 {name : Str} {r : V → List V → Hp → VK → Prop} {mm : MM} (slot : Slot "list" name id) (hty : typeOf (.builtin id) = pure (.type "method_descriptor")) (hm : MtR X id r) (hl : MtL X.K r mm) (h : PE X o (tVar i))
    (hbase : attributeBase o name X.env (eval o X.env) = eval o X.env := by rfl) (hline : (apos.endLine == cpos.line) = true := by rfl) :
    SE X (.Call (.Attribute o name apos) [] [] cpos) (aMt i mm aNil) :=
  peTo (pe_bm0 PySem.F.plainAttrs_list slot hty hm h hbase hline) fun σ H Q ⟨A, F, env, R, c, h, k⟩ => by
    obtain ⟨h0, h⟩ := h
    obtain ⟨a, hv, ty⟩ := lstStart c h0
    refine ⟨.ref a, hv, ty, ?_⟩
    change (match env[i]? with | some (some (.n .lst xs)) => mm xs [] fun z xs' => R z (env.set i (some (.n .lst xs'))) | _ => False) at h
    split at h
    · rename_i ys ey
      obtain ⟨v', hv', c2⟩ := c.take ey
      rw [hv] at hv'
      cases hv'
      exact hl.run c2 h fun z xs' w H2 F2 h2 c3 => k _ _ _ _ _ h2 (by
        have c4 := c3.put hv
        rw [set_set'] at c4
        exact c4)
    · exact h.elim
theorem se_append (h : PE X o (tVar i)) (ha : SE X e te) (hbase : attributeBase o "append" X.env (eval o X.env) = eval o X.env := by rfl)
    (hfew : ((backTo cpos (starEach [e] X.env)).all (fun x => !x.1) && (backToKw cpos (keywordEach [] X.env)).all (fun x => x.1.isSome)
      && decide ([e].length + ([] : List Keyword).length + (if ([] : List Keyword).isEmpty then 0 else 1) < 30)) = true := by rfl)
    (hline : (apos.endLine == cpos.line) = true := by rfl) (hs : starEach [e] X.env = [(false, eval e X.env)] := by rfl) (hplain : (backTo cpos (starEach [] X.env)).any (·.1) = false := by rfl) :
    SE X (.Call (.Attribute o "append" apos) [e] [] cpos) (aMt i mAppend (aCons te aNil)) := se_mt PySem.F.slot_list_append PySem.F.type_list_append mt_append mt_ap h (sa_cons ha sa_nil hs) hbase hfew hline hs hplain
/-! texts -/
/-- a text -/
def aTxt (ta : AE) : AE := fun env Q => ta env fun x e1 => (match x with | .d (.str _) => Q x e1 | _ => False)
theorem se_join (ho : SE X o ta) (he : SE X e te) (hs : starEach [e] X.env = [(false, eval e X.env)] := by rfl) (hbase : attributeBase o "join" X.env (eval o X.env) = eval o X.env := by rfl) (hline : (apos.endLine == pos.line) = true := by rfl) :
    SE X (.Call (.Attribute o "join" apos) [e] [] pos) (a2 oJoin (aTxt ta) te) :=
  peTo (pe_join ho he hs hbase hline) fun σ H Q ⟨A, F, env, R, c, h, k⟩ => ev c h fun x e1 v H1 F1 h1 c1 => by
    split at h1
    · rename_i z
      have dx := c1.dp
      cases dx
      refine ⟨⟨_, rfl⟩, ev c1 h1 fun y e2 u H2 F2 h2 c2 => ?_⟩
      change (match (sfz y).bind strsOf with | some ys => (ys.map (·.length)).sum + ys.length * z.length ≤ 16777216 ∧ R (.d (.str (Txt.join z ys))) e2 | none => False) at h2
      split at h2
      · rename_i ys eys
        obtain ⟨ds, e3, e4⟩ := Option.bind_eq_some_iff.mp eys
        obtain ⟨a, ws, F3, rfl, h, dp, c3⟩ := c2.sfz e3
        have e5 := dts_strs dp e4
        subst e5
        exact ⟨z, a, ys, rfl, rfl, h.imp .of (fun q => q), h2.1, k _ _ _ _ _ h2.2 (c3.pop.push (.str _))⟩
      · exact h2.elim
    · exact h1.elim
theorem strs_news {K : PySem.W.Frag} {H : Hp} : ∀ ss : List Str, Dts K H (ss.map V.str) (ss.map PyData.str) := fun ss => strs_dts ss
theorem se_split (ho : SE X o ta) (he : SE X e te) (hs : starEach [e] X.env = [(false, eval e X.env)] := by rfl) (hbase : attributeBase o "split" X.env (eval o X.env) = eval o X.env := by rfl) (hline : (apos.endLine == pos.line) = true := by rfl) :
    SE X (.Call (.Attribute o "split" apos) [e] [] pos) (a2 oSplit (aTxt ta) te) :=
  peTo (pe_split ho he hs hbase hline) fun σ H Q ⟨A, F, env, R, c, h, k⟩ => ev c h fun x e1 v H1 F1 h1 c1 => by
    split at h1
    · rename_i z
      have dx := c1.dp
      cases dx
      refine ⟨⟨_, rfl⟩, ev c1 h1 fun y e2 u H2 F2 h2 c2 => ?_⟩
      unfold oSplit at h2
      split at h2
      · rename_i e3 bz e4
        cases e4
        have dy := c2.dp
        cases dy
        refine ⟨_, _, rfl, rfl, h2.1.1, h2.1.2, fun p hp => k _ _ _ _ F2 h2.2 ?_⟩
        have q := At.newL c2.pop.pop (strs_dts (Txt.split z bz)) hp
        rw [List.map_map] at q
        exact q
      · exact h2.elim
    · exact h1.elim
end
end Ow

/-! a star in targets: a, .., *r = a tuple or a list -/
namespace Grd
open PySem L2
section
open PyProof.Rows
variable {prog : Program} {w : World} {A : Around} {E : Value → Shared → Prop} {s : Shared}
theorem star_tup {t : Addr} {vs : List Value} {n : Nat} {Q : List Value → Shared → Prop} (ht : IsTup s.heap t vs.toArray) (hh : A.handled = none) (hn : n ≤ vs.length) (hz : vs.length ≤ sizeLine)
    (h : ∀ (h' : Heap) (tk : Nat), (∀ b o, s.heap.get? b = some o → h'.get? b = some o) → Q (vs.take n ++ [.ref h'.objs.size]) { s with heap := h'.push (seqObj "list" (vs.drop n).toArray 0), toks := tk }) :
    wpAny (model prog w) A (unpackItems (.ref t) (n + 1) (some n)) Q E s := by
  have ne0 : t ≠ s.heap.objs.size := by obtain ⟨o, ho, _⟩ := ht; exact Nat.ne_of_lt (Heap.lt_size ho)
  have sz0 : vs.toArray.size = vs.length := by simp
  unfold unpackItems
  refine wpAny_bind ?_
  unfold notIterableAtAll
  refine wpAny_bind (wpAny_specialOf ht.typeIs slot_tuple_iter.lookup (wpAny_pure ?_))
  rw [if_neg (by decide)]
  refine wpAny_bind (wpAny_holding (iter_tuple ht ?_))
  refine wpAny_bind (wpAny_holding (draw_tuple ne0 n 0 _ _ ⟨_, Heap.get?_push_size _ rfl, rfl, rfl⟩ (ht.push _) (by omega) fun h1 it1 sb1 => ?_))
  have ht1 : IsTup h1 t vs.toArray := (ht.push _).extBut sb1.extBut ne0
  rw [Nat.zero_add] at it1
  have it1' := it1
  obtain ⟨oi, hoi, _⟩ := it1'
  have ht1' := ht1
  obtain ⟨ol, hol, _⟩ := ht1'
  have fl : (vs.take n).length = n := by rw [List.length_take]; omega
  have e0 : (vs.toArray.toList.drop 0).take n = vs.take n := by simp
  rw [e0, if_neg (show ¬ ((vs.take n).length < n) by rw [fl]; omega)]
  refine wpAny_bind (wpAny_holding (PySem.W.kun_collect (s := { s with heap := h1 }) (T := "tuple_iterator") (.inr (.inr (.inr rfl))) (Walks.tuple (A := A.in1) hh s.heap.objs.size t ne0 vs.toArray) (fun j u st => st.1.typeIs) (k := n) (by omega) ⟨it1, ht1⟩ (Heap.lt_size hoi) (Heap.lt_size hol) (fun h2 tk kp => ?_) (by omega)))
  have e1 : vs.toArray.toList.drop n = vs.drop n := by simp
  rw [e1]
  show wpAny _ _ (if (vs.drop n).length < n + 1 - 1 - n then _ else _) _ _ _
  rw [if_neg (by omega)]
  have e2 : (vs.drop n).length - (n + 1 - 1 - n) = (vs.drop n).length := by omega
  show wpAny _ _ (newList ((vs.drop n).take ((vs.drop n).length - (n + 1 - 1 - n))) >>= fun d => pure (vs.take n ++ [d] ++ (vs.drop n).drop ((vs.drop n).length - (n + 1 - 1 - n)))) _ _ _
  rw [e2, List.take_length, List.drop_length]
  refine wpAny_bind (wpAny_newList (wpAny_pure ?_))
  rw [List.append_nil]
  exact h h2 tk fun b o e => kp b o (Nat.ne_of_lt (Heap.lt_size e)) (sb1.extBut b o (Nat.ne_of_lt (Heap.lt_size e)) (Heap.get?_push_of_some _ e))
end
/-- a, .., *r = a tuple: r a new list -/
def gStar (K : PySem.W.Frag) (n : Nat) (t : TGs) : TG := fun v σ H Q => ∃ a xs, v = .ref a ∧ SqT K H a xs ∧ n ≤ xs.length ∧ ∀ p, H p = none → t (xs.take n ++ [.ref p]) σ (upd H p (.lst (xs.drop n))) Q
section
variable {X : Cx}
theorem pgs_star {e : Expr} {p : Pos} {t : TG} (h1 : PG X e t) (hs : (assignEach [.Starred e p] X.env).map (·.2) = [assign e X.env] := by rfl) : PGs X [.Starred e p] (gCons t gNil) := by
  refine ⟨fun pins s σ H vs us Q I r h => ?_⟩
  obtain ⟨v, vr, e1, h⟩ := h
  subst e1
  cases r with
  | cons r rr =>
    rw [hs]
    refine PyProof.Rows.assignInOrder_cons (thn (h1.run pins s σ H _ _ _ I r h) fun _ s1 ⟨σ1, H1, I1, q1⟩ => ?_)
    exact PyProof.Rows.assignInOrder_nil ⟨σ1, H1, I1, q1.2⟩
theorem pg_star {es : List Expr} {k : Nat} {t : TGs} {n : Nat} {pos : Pos} (hc : X.calm = true) (h : PGs X es t) (hn : (assignEach es X.env).length = n + 1 := by rfl) (hst : (assignEach es X.env).findIdx? (·.1) = some n := by rfl) : PG X (.Tuple es k pos) (gStar X.K n t) := by
  refine ⟨fun pins s σ H v u Q I r hw => ?_⟩
  obtain ⟨a, xs, e1, hq, hl, hw⟩ := hw
  subst e1
  cases r
  obtain ⟨its, rv, ht, hz⟩ := I.tuple hq
  rw [PyProof.Rows.assign_Tuple]
  refine wpAny_bind (wpAny_standAt ?_)
  unfold unpack
  rw [hn, hst]
  have ln := rv.length
  refine wpAny_bind (wpAny_holding (star_tup ht (I.ok.hd hc) (by omega) (by omega) fun h' tk kp => ?_))
  have I1 : Inv X pins σ H { s with heap := h', toks := tk } := I.kept (t' := tk) kp
  have rd : Vals (xs.drop n) (its.drop n) := rv.drop n
  have hf : H h'.objs.size = none := I1.hok.fresh (Nat.le_refl _)
  have I2 := I1.laid (t' := tk) (h' := h'.push (PyProof.Rows.seqObj "list" (its.drop n).toArray 0)) (a := h'.objs.size) (o := .lst (xs.drop n)) (fun b u e => Heap.get?_push_of_some _ e) (Nat.le_refl _) ⟨by rw [List.length_drop]; omega, its.drop n, 0, rd, Heap.get?_push_size _ rfl⟩
  exact h.run pins _ σ _ _ _ Q I2 ((rv.take n).append (.cons (a := V.ref h'.objs.size) (b := Value.ref h'.objs.size) rfl .nil)) (hw _ hf)
end
end Grd

/-! targets of several names, of a list or a tuple -/
namespace Grd
open PySem L2
section
open PyProof.Rows
variable {prog : Program} {w : World} {A : Around} {E : Value → Shared → Prop} {s : Shared}
theorem star_list {t : Addr} {vs : List Value} {n : Nat} {Q : List Value → Shared → Prop} (ht : s.heap.IsList t vs.toArray) (hh : A.handled = none) (hn : n ≤ vs.length) (hz : vs.length ≤ sizeLine)
    (h : ∀ (h' : Heap) (tk : Nat), (∀ b o, s.heap.get? b = some o → h'.get? b = some o) → Q (vs.take n ++ [.ref h'.objs.size]) { s with heap := h'.push (seqObj "list" (vs.drop n).toArray 0), toks := tk }) :
    wpAny (model prog w) A (unpackItems (.ref t) (n + 1) (some n)) Q E s := by
  have ne0 : t ≠ s.heap.objs.size := by obtain ⟨o, ho, _⟩ := ht; exact Nat.ne_of_lt (Heap.lt_size ho)
  have sz0 : vs.toArray.size = vs.length := by simp
  unfold unpackItems
  refine wpAny_bind ?_
  unfold notIterableAtAll
  refine wpAny_bind (wpAny_specialOf ht.typeIs slot_list_iter.lookup (wpAny_pure ?_))
  rw [if_neg (by decide)]
  refine wpAny_bind (wpAny_holding (wpAny_pyIter_list ht ?_))
  refine wpAny_bind (wpAny_holding (PySem.W.kun_draw ne0 n 0 _ _ ⟨_, Heap.get?_push_size _ rfl, rfl, rfl⟩ (ht.push _) (by omega) fun h1 it1 sb1 => ?_))
  have ht1 : h1.IsList t vs.toArray := (ht.push _).extBut sb1.extBut ne0
  rw [Nat.zero_add] at it1
  have it1' := it1
  obtain ⟨oi, hoi, _⟩ := it1'
  have ht1' := ht1
  obtain ⟨ol, hol, _⟩ := ht1'
  have fl : (vs.take n).length = n := by rw [List.length_take]; omega
  have e0 : (vs.toArray.toList.drop 0).take n = vs.take n := by simp
  rw [e0, if_neg (show ¬ ((vs.take n).length < n) by rw [fl]; omega)]
  refine wpAny_bind (wpAny_holding (PySem.W.kun_collect (s := { s with heap := h1 }) (T := "list_iterator") (.inr (.inr (.inl rfl))) (Walks.list (A := A.in1) hh s.heap.objs.size t ne0 vs.toArray) (fun j u st => st.1.typeIs) (k := n) (by omega) ⟨it1, ht1⟩ (Heap.lt_size hoi) (Heap.lt_size hol) (fun h2 tk kp => ?_) (by omega)))
  have e1 : vs.toArray.toList.drop n = vs.drop n := by simp
  rw [e1]
  show wpAny _ _ (if (vs.drop n).length < n + 1 - 1 - n then _ else _) _ _ _
  rw [if_neg (by omega)]
  have e2 : (vs.drop n).length - (n + 1 - 1 - n) = (vs.drop n).length := by omega
  show wpAny _ _ (newList ((vs.drop n).take ((vs.drop n).length - (n + 1 - 1 - n))) >>= fun d => pure (vs.take n ++ [d] ++ (vs.drop n).drop ((vs.drop n).length - (n + 1 - 1 - n)))) _ _ _
  rw [e2, List.take_length, List.drop_length]
  refine wpAny_bind (wpAny_newList (wpAny_pure ?_))
  rw [List.append_nil]
  exact h h2 tk fun b o e => kp b o (Nat.ne_of_lt (Heap.lt_size e)) (sb1.extBut b o (Nat.ne_of_lt (Heap.lt_size e)) (Heap.get?_push_of_some _ e))
end
/-- a, .., *r = a tuple or a list: r a new list -/
def gStarA (K : PySem.W.Frag) (n : Nat) (t : TGs) : TG := fun v σ H Q => ∃ a xs, v = .ref a ∧ (SqL K H a xs ∨ SqT K H a xs) ∧ n ≤ xs.length ∧ ∀ p, H p = none → t (xs.take n ++ [.ref p]) σ (upd H p (.lst (xs.drop n))) Q
def gTupA (K : PySem.W.Frag) (n : Nat) (t : TGs) : TG := fun v σ H Q => ∃ a xs, v = .ref a ∧ (SqL K H a xs ∨ SqT K H a xs) ∧ xs.length = n ∧ t xs σ H Q
section
variable {X : Cx}
theorem pg_starA {es : List Expr} {k : Nat} {t : TGs} {n : Nat} {pos : Pos} (hc : X.calm = true) (h : PGs X es t) (hn : (assignEach es X.env).length = n + 1 := by rfl) (hst : (assignEach es X.env).findIdx? (·.1) = some n := by rfl) : PG X (.Tuple es k pos) (gStarA X.K n t) := by
  refine ⟨fun pins s σ H v u Q I r hw => ?_⟩
  obtain ⟨a, xs, e1, hq, hl, hw⟩ := hw
  subst e1
  cases r
  rw [PyProof.Rows.assign_Tuple]
  refine wpAny_bind (wpAny_standAt ?_)
  unfold unpack
  rw [hn, hst]
  have fin : ∀ {its : List Value}, Vals xs its → xs.length ≤ sizeLine → ∀ (h' : Heap) (tk : Nat), (∀ b o, s.heap.get? b = some o → h'.get? b = some o) →
      wpAny (model X.prog X.w) X.A (assignInOrder ((assignEach es X.env).map (·.2)) (its.take n ++ [.ref h'.objs.size])) (fun _ s' => ∃ σ' H', Inv X pins σ' H' s' ∧ Q σ' H') X.xe { s with heap := h'.push (PyProof.Rows.seqObj "list" (its.drop n).toArray 0), toks := tk } := by
    intro its rv hz h' tk kp
    have I1 : Inv X pins σ H { s with heap := h', toks := tk } := I.kept (t' := tk) kp
    have rd : Vals (xs.drop n) (its.drop n) := rv.drop n
    have hf : H h'.objs.size = none := I1.hok.fresh (Nat.le_refl _)
    have I2 := I1.laid (t' := tk) (h' := h'.push (PyProof.Rows.seqObj "list" (its.drop n).toArray 0)) (a := h'.objs.size) (o := .lst (xs.drop n)) (fun b u e => Heap.get?_push_of_some _ e) (Nat.le_refl _) ⟨by rw [List.length_drop]; omega, its.drop n, 0, rd, Heap.get?_push_size _ rfl⟩
    exact h.run pins _ σ _ _ _ Q I2 ((rv.take n).append (.cons (a := V.ref h'.objs.size) (b := Value.ref h'.objs.size) rfl .nil)) (hw _ hf)
  rcases hq with hq | hq
  · obtain ⟨its, rv, ht, hz⟩ := I.list hq
    have ln := rv.length
    exact wpAny_bind (wpAny_holding (star_list ht.isList (I.ok.hd hc) (by omega) (by omega) fun h' tk kp => fin rv hz h' tk kp))
  · obtain ⟨its, rv, ht, hz⟩ := I.tuple hq
    have ln := rv.length
    exact wpAny_bind (wpAny_holding (star_tup ht (I.ok.hd hc) (by omega) (by omega) fun h' tk kp => fin rv hz h' tk kp))
theorem pg_tupA {es : List Expr} {k : Nat} {t : TGs} {n : Nat} {pos : Pos} (hc : X.calm = true) (h : PGs X es t)
    (hn : (assignEach es X.env).length = n := by rfl) (hst : (assignEach es X.env).findIdx? (·.1) = none := by rfl) : PG X (.Tuple es k pos) (gTupA X.K n t) := by
  refine ⟨fun pins s σ H v u Q I r hw => ?_⟩
  obtain ⟨a, xs, e1, hq, hl, hw⟩ := hw
  rcases hq with hq | hq
  · subst e1
    cases r
    obtain ⟨its, rv, ht, hz⟩ := I.list hq
    rw [PyProof.Rows.assign_Tuple]
    refine wpAny_bind (wpAny_standAt ?_)
    unfold unpack
    rw [hn, hst]
    have ln : n = its.toArray.size := by rw [List.size_toArray, ← rv.length, hl]
    rw [ln]
    refine wpAny_bind (wpAny_holding (PySem.W.kun_itemsOf (I.ok.hd hc) ht.isList fun h' hx => ?_))
    have I1 : Inv X pins σ H { s with heap := h' } := I.kept (t' := s.toks) fun b o e => hx b o (Nat.ne_of_lt (Heap.lt_size e)) e
    exact h.run pins _ σ H xs _ Q I1 (by simpa using rv) hw
  · exact (pg_tup hc h hn hst).run pins s σ H v u Q I r ⟨a, xs, e1, hq, hl, hw⟩
end
end Grd

/-! Ow: targets, statements. -/
namespace Ow
open PySem L2 Grd PyProof.Rows
open Evl (Ex ex_t ex_l ex_rd)
/-- a target: a name, a tuple of targets -/
inductive Tg where
  | n (i : Nat)
  | t (ts : List Tg)
  | st (ts : List Tg) (i : Nat)
mutual
def tgSet : Tg → OV → En → Option En
  | .n i, x, e => if i < e.length then some (e.set i (some x)) else none
  | .t ts, x, e => match sel x with
    | some xs => tgSets ts xs e
    | none => none
  | .st ts i, x, e => match sel x with
    | some xs => if ts.length ≤ xs.length then (tgSets ts (xs.take ts.length) e).bind fun e1 => if i < e1.length then some (e1.set i (some (.n .lst (xs.drop ts.length)))) else none else none
    | none => none
def tgSets : List Tg → List OV → En → Option En
  | [], [], e => some e
  | t :: ts, x :: xs, e => (tgSet t x e).bind fun e1 => tgSets ts xs e1
  | [], _ :: _, _ => none
  | _ :: _, [], _ => none
end
mutual
def Tg.slots : Tg → List Nat
  | .n i => [i]
  | .t ts => slotss ts
  | .st ts i => slotss ts ++ [i]
def slotss : List Tg → List Nat
  | [] => []
  | t :: ts => t.slots ++ slotss ts
end
@[simp] theorem tgSet_n (i : Nat) (x : OV) (e : En) : tgSet (.n i) x e = if i < e.length then some (e.set i (some x)) else none := by simp only [tgSet]
@[simp] theorem tgSet_t (ts : List Tg) (x : OV) (e : En) : tgSet (.t ts) x e = match sel x with | some xs => tgSets ts xs e | none => none := by simp only [tgSet]
@[simp] theorem tgSet_st (ts : List Tg) (i : Nat) (x : OV) (e : En) : tgSet (.st ts i) x e = match sel x with
    | some xs => if ts.length ≤ xs.length then (tgSets ts (xs.take ts.length) e).bind fun e1 => if i < e1.length then some (e1.set i (some (.n .lst (xs.drop ts.length)))) else none else none
    | none => none := by simp only [tgSet]
@[simp] theorem tgSets_nil (e : En) : tgSets [] [] e = some e := by simp only [tgSets]
@[simp] theorem tgSets_cons (t : Tg) (ts : List Tg) (x : OV) (xs : List OV) (e : En) : tgSets (t :: ts) (x :: xs) e = (tgSet t x e).bind fun e1 => tgSets ts xs e1 := by simp only [tgSets]
/-- as σ but for some names -/
structure But (is : List Nat) (σ σ' : L2.St) : Prop where
  len : σ'.length = σ.length
  same : ∀ j, j ∉ is → σ'[j]? = σ[j]?
theorem But.refl (is : List Nat) (σ : L2.St) : But is σ σ := ⟨rfl, fun _ _ => rfl⟩
theorem But.trans {is js : List Nat} {σ σ1 σ2 : L2.St} (a : But is σ σ1) (b : But js σ1 σ2) : But (is ++ js) σ σ2 :=
  ⟨b.len.trans a.len, fun j hj => (b.same j fun z => hj (List.mem_append_right _ z)).trans (a.same j fun z => hj (List.mem_append_left _ z))⟩
theorem But.mono {is js : List Nat} {σ σ1 : L2.St} (a : But is σ σ1) (h : ∀ i ∈ is, i ∈ js) : But js σ σ1 := ⟨a.len, fun j hj => a.same j fun z => hj (h j z)⟩
theorem But.set (σ : L2.St) (i : Nat) (o : Option V) : But [i] σ (σ.set i o) := ⟨by simp, fun j hj => by rw [List.getElem?_set, if_neg (fun e => hj (by simp [e]))]⟩
structure Gt (K : PySem.W.Frag) (g : TG) (tg : Tg) : Prop where
  run : ∀ {A : Addr → Prop} {F0 F : FS} {H0 H : Hp} {σ : L2.St} {env env' : En} {v : V} {x : OV} {vs : List V} {xs : List OV} {Q : L2.St → Hp → Prop},
    At K A F0 H0 H F (v :: vs) (x :: xs) σ env → tgSet tg x env = some env' → (∀ σ' H' F', But tg.slots σ σ' → At K A F0 H0 H' F' vs xs σ' env' → Q σ' H') → g v σ H Q
structure Gts (K : PySem.W.Frag) (g : TGs) (ts : List Tg) : Prop where
  run : ∀ {A : Addr → Prop} {F0 F : FS} {H0 H : Hp} {σ : L2.St} {env env' : En} {us : List V} {ys : List OV} {vs : List V} {xs : List OV} {Q : L2.St → Hp → Prop},
    At K A F0 H0 H F (us ++ vs) (ys ++ xs) σ env → ys.length = us.length → tgSets ts ys env = some env' → (∀ σ' H' F', But (slotss ts) σ σ' → At K A F0 H0 H' F' vs xs σ' env' → Q σ' H') → g us σ H Q
theorem gt_name {K : PySem.W.Frag} (i : Nat) : Gt K (gName i) (.n i) := ⟨fun c h k => by
  rw [tgSet_n] at h
  split at h
  · cases h
    exact k _ _ _ (by simpa [Tg.slots] using But.set _ _ _) (c.store ‹_›)
  · cases h⟩
theorem gts_nil {K : PySem.W.Frag} : Gts K gNil [] := ⟨fun {A F0 F H0 H σ env env' us ys vs xs Q} c l h k => by
  cases ys with
  | nil =>
    rw [tgSets_nil] at h
    cases h
    cases us with
    | nil => exact ⟨rfl, k _ _ _ (But.refl _ _) c⟩
    | cons _ _ => simp at l
  | cons _ _ => simp only [tgSets] at h; cases h⟩
theorem gts_cons {K : PySem.W.Frag} {g : TG} {gs : TGs} {t : Tg} {ts : List Tg} (h1 : Gt K g t) (h2 : Gts K gs ts) : Gts K (gCons g gs) (t :: ts) := ⟨fun {A F0 F H0 H σ env env' us ys vs xs Q} c l h k => by
  cases ys with
  | nil => simp only [tgSets] at h; cases h
  | cons y ys =>
    cases us with
    | nil => simp at l
    | cons u us =>
      rw [tgSets_cons] at h
      obtain ⟨e1, h3, h4⟩ := Option.bind_eq_some_iff.mp h
      exact ⟨u, us, rfl, h1.run (vs := us ++ vs) (xs := ys ++ xs) c h3 fun σ1 H1 F1 b1 c1 => h2.run c1 (by simpa using l) h4 fun σ2 H2 F2 b2 c2 => k _ _ _ (by simpa [slotss] using b1.trans b2) c2⟩⟩
theorem tgSets_len : ∀ {ts : List Tg} {xs : List OV} {e e' : En}, tgSets ts xs e = some e' → xs.length = ts.length
  | [], [], _, _, _ => rfl
  | t :: ts, x :: xs, e, e', h => by
    rw [tgSets_cons] at h
    obtain ⟨e1, h3, h4⟩ := Option.bind_eq_some_iff.mp h
    simp [tgSets_len h4]
  | [], _ :: _, _, _, h => by simp only [tgSets] at h; cases h
  | _ :: _, [], _, _, h => by simp only [tgSets] at h; cases h
theorem gt_tup {K : PySem.W.Frag} {n : Nat} {gs : TGs} {ts : List Tg} (h : Gts K gs ts) (hn : n = ts.length := by rfl) : Gt K (gTupA K n gs) (.t ts) := ⟨fun c e k => by
  rw [tgSet_t] at e
  split at e
  · rename_i ys ey
    obtain ⟨a, ws, rfl, hs, l, c1⟩ := c.sel ey
    refine ⟨a, ws, rfl, hs.imp .of id, by rw [hn, ← l]; exact tgSets_len e, h.run c1 l e fun σ' H' F' b c2 => k σ' H' F' (by simpa [Tg.slots] using b) c2⟩
  · cases e⟩
theorem tgSets_snoc (i : Nat) (y : OV) : ∀ {ts : List Tg} {ys : List OV} {e : En}, ys.length = ts.length → tgSets (ts ++ [.n i]) (ys ++ [y]) e = (tgSets ts ys e).bind fun e1 => if i < e1.length then some (e1.set i (some y)) else none
  | [], [], e, _ => by
    simp only [List.nil_append, tgSets_cons, tgSets_nil, tgSet_n, Option.bind_some]
    split <;> rfl
  | t :: ts, y' :: ys, e, l => by
    simp only [List.cons_append, tgSets_cons]
    cases tgSet t y' e with
    | none => rfl
    | some e1 => exact tgSets_snoc i y (by simpa using l)
  | [], _ :: _, _, l => by simp at l
  | _ :: _, [], _, l => by simp at l
theorem slotss_snoc (i : Nat) : ∀ ts : List Tg, slotss (ts ++ [.n i]) = slotss ts ++ [i]
  | [] => by simp [slotss, Tg.slots]
  | t :: ts => by simp [slotss, slotss_snoc i ts]
theorem gt_star {K : PySem.W.Frag} {n i : Nat} {gs : TGs} {ts : List Tg} (h : Gts K gs (ts ++ [.n i])) (hn : n = ts.length := by rfl) : Gt K (gStarA K n gs) (.st ts i) := ⟨fun {A F0 F H0 H σ env env' v x vs xs Q} c e k => by
  rw [tgSet_st] at e
  split at e
  · rename_i ys ey
    split at e
    · rename_i le
      obtain ⟨a, ws, rfl, hs, l, c1⟩ := c.sel ey
      refine ⟨a, ws, rfl, hs.imp .of id, by rw [hn, ← l]; exact le, fun p hp => ?_⟩
      have lt : (ys.take n).length = (ws.take n).length := by simp [l]
      have ld : (ys.drop n).length = (ws.drop n).length := by simp [l]
      have c2 : At K A F0 H0 H F (ws.take n ++ (ws.drop n ++ vs)) (ys.take n ++ (ys.drop n ++ xs)) σ env := by
        rw [← List.append_assoc, ← List.append_assoc, List.take_append_drop, List.take_append_drop]
        exact c1
      have c3 := At.app_comm lt c2
      rw [List.append_assoc, List.append_assoc] at c3
      have c4 := At.make (s := .lst) c3 ld hp ⟨upd_same, rfl⟩
      have lx : xs.length = vs.length := by have := c.cf.len; simp at this; omega
      have c5 := At.app_comm (vs1 := .ref p :: vs) (xs1 := .n .lst (ys.drop n) :: xs) (vs2 := ws.take n) (xs2 := ys.take n) (by simp [lx]) c4
      have c6 : At K A F0 H0 (upd H p (.lst (ws.drop n))) F ((ws.take n ++ [.ref p]) ++ vs) ((ys.take n ++ [.n .lst (ys.drop n)]) ++ xs) σ env := by
        rw [List.append_assoc, List.append_assoc]
        exact c5
      refine h.run c6 (by simp [l]) ?_ fun σ' H' F' b c7 => k σ' H' F' (by simpa [Tg.slots, slotss_snoc] using b) c7
      rw [tgSets_snoc i _ (by rw [List.length_take, hn]; omega), hn]
      exact e
    · cases e
  · cases e⟩

/-! ### statements -/
structure AD where
  nx : En → Prop
  rt : OV → En → Prop
  bk : En → Prop
  ct : En → Prop
abbrev AS := AD → En → Prop
/-- the parameters that keep what was handed in -/
def PinOk (pn : List (Nat × V)) (σ : L2.St) : Prop := ∀ p ∈ pn, σ[p.1]? = some (some p.2)
theorem PinOk.but {pn : List (Nat × V)} {σ σ' : L2.St} {is : List Nat} (h : PinOk pn σ) (b : But is σ σ') (d : ∀ p ∈ pn, p.1 ∉ is) : PinOk pn σ' := fun p hp => (b.same _ (d p hp)).trans (h p hp)
structure Ends' (K : PySem.W.Frag) (pn : List (Nat × V)) (A : Addr → Prop) (F : FS) (H0 : Hp) (D : Ends) (D' : AD) : Prop where
  nx : ∀ env' σ' H' F', D'.nx env' → PinOk pn σ' → At K A F H0 H' F' [] [] σ' env' → D.nx σ' H'
  rt : ∀ x env' v σ' H' F', D'.rt x env' → PinOk pn σ' → At K A F H0 H' F' [v] [x] σ' env' → D.rt v H'
  bk : ∀ env' σ' H' F', D'.bk env' → PinOk pn σ' → At K A F H0 H' F' [] [] σ' env' → D.bk σ' H'
  ct : ∀ env' σ' H' F', D'.ct env' → PinOk pn σ' → At K A F H0 H' F' [] [] σ' env' → D.ct σ' H'
def LS (K : PySem.W.Frag) (pn : List (Nat × V)) (t : AS) : TS := fun D σ H => ∃ (A : Addr → Prop) (F : FS) (env : En) (D' : AD),
  PinOk pn σ ∧ At K A F H H F [] [] σ env ∧ t D' env ∧ Ends' K pn A F H D D'
def SS (X : Cx) (pn : List (Nat × V)) (st : Stmt) (t : AS) : Prop := PS X st (LS X.K pn t)
def SSs (X : Cx) (pn : List (Nat × V)) (st : List Stmt) (t : AS) : Prop := PSs X st (LS X.K pn t)
theorem pssTo {X : Cx} {e : List Stmt} {t t' : TS} (h : PSs X e t) (i : ∀ D σ H, t' D σ H → t D σ H) : PSs X e t' := ⟨fun pins s σ H D I q => h.run pins s σ H D I (i D σ H q)⟩
section
variable {K : PySem.W.Frag} {pn : List (Nat × V)} {A : Addr → Prop} {F0 F : FS} {H0 H : Hp} {σ : L2.St} {env : En} {D : Ends} {D' : AD}
/-- a statement run from where one stands -/
theorem sv {t : AS} (p : PinOk pn σ) (c : At K A F0 H0 H F [] [] σ env) (h : t D' env) (e : Ends' K pn A F0 H0 D D') : LS K pn t D σ H :=
  ⟨nxt A H0, F, env, D', p, ⟨.refl, c.cf.mono fun _ z => .inl z⟩, h,
    ⟨fun env' σ' H' F' a b z => e.nx _ _ _ _ a b (c.on z.st z.cf), fun x env' v σ' H' F' a b z => e.rt _ _ _ _ _ _ a b (c.on z.st z.cf),
     fun env' σ' H' F' a b z => e.bk _ _ _ _ a b (c.on z.st z.cf), fun env' σ' H' F' a b z => e.ct _ _ _ _ a b (c.on z.st z.cf)⟩⟩
end
def aSeq (t u : AS) : AS := fun D env => t { D with nx := u D } env
def aPass : AS := fun D env => D.nx env
def aDrop (t : AE) : AS := fun D env => t env fun _ e => D.nx e
def aRet (t : AE) : AS := fun D env => t env D.rt
def aRetN : AS := fun D env => D.rt (.d .none) env
def aIfS (c : AT) (t u : AS) : AS := fun D env => c env fun b e => if b = true then t D e else u D e
def aAsg (t : AE) (tg : Tg) : AS := fun D env => t env fun x e => match tgSet tg x e with
  | some e1 => D.nx e1
  | none => False
def aBrk : AS := fun D env => D.bk env
def aCnt : AS := fun D env => D.ct env
/-- xs[i] = e, xs a name -/
def aPut (i : Nat) (tv ti : AE) : AS := fun D env => tv env fun x e1 => (match e1[i]? with | some (some _) => True | _ => False) ∧ ti e1 fun y e2 => match y with
  | .d (.int k) => match e2[i]? with
    | some (some (.n .lst xs)) => match ixN xs.length k with
      | some j => D.nx (e2.set i (some (.n .lst (xs.set j x))))
      | none => False
    | _ => False
  | _ => False
section
variable {X : Cx} {pn : List (Nat × V)} {st : Stmt} {rest ss ss2 : List Stmt} {t u : AS} {e o i' : Expr} {te ti : AE} {tc : AT} {c : Expr} {pos p2 : Pos}
theorem ss_nil : SSs X pn [] aPass := pssTo pss_nil fun D σ H ⟨A, F, env, D', p, c, h, e⟩ => e.nx _ _ _ _ h p c
theorem ss_cons (h1 : SS X pn st t) (h2 : SSs X pn rest u) : SSs X pn (st :: rest) (aSeq t u) := pssTo (pss_cons h1 h2) fun D σ H ⟨A, F, env, D', p, c, h, e⟩ =>
  ⟨A, F, env, { D' with nx := u D' }, p, c, h, ⟨fun env' σ' H' F' a b z => sv b z a e, e.rt, e.bk, e.ct⟩⟩
theorem ss_one (h1 : SS X pn st t) : SSs X pn [st] t := pss_one h1
theorem ss_expr (he : SE X e te) (hs : swapsWith e none pos.line X.env = pure false := by rfl) : SS X pn (.Expr e pos) (aDrop te) := psTo (ps_expr he hs) fun D σ H ⟨A, F, env, D', p, c, h, ed⟩ =>
  ev c h fun x e1 v H1 F1 h1 c1 => ed.nx _ _ _ _ h1 p c1.pop
theorem ss_ret (he : SE X e te) : SS X pn (.Return (some e) pos) (aRet te) := psTo (ps_ret he) fun D σ H ⟨A, F, env, D', p, c, h, ed⟩ =>
  ev c h fun x e1 v H1 F1 h1 c1 => ed.rt _ _ _ _ _ _ h1 p c1
theorem ss_retN : SS X pn (.Return none pos) aRetN := psTo ps_retN fun D σ H ⟨A, F, env, D', p, c, h, ed⟩ => ed.rt _ _ _ _ _ _ h p (c.push .non)
theorem ss_if (hc : ST X c tc) (ha : SSs X pn ss t) (hb : SSs X pn ss2 u) : SS X pn (.If c ss ss2 pos) (aIfS tc t u) := psTo (ps_if hc ha hb) fun D σ H ⟨A, F, env, D', p, c, h, ed⟩ =>
  evt c h fun b e1 H1 F1 h1 c1 => by
    split
    · rename_i z; rw [if_pos z] at h1; exact sv p c1 h1 ed
    · rename_i z; rw [if_neg z] at h1; exact sv p c1 h1 ed
theorem ss_brk : SS X pn (.Break pos) aBrk := psTo ps_break fun D σ H ⟨A, F, env, D', p, c, h, ed⟩ => ed.bk _ _ _ _ h p c
theorem ss_cnt : SS X pn (.Continue pos) aCnt := psTo ps_continue fun D σ H ⟨A, F, env, D', p, c, h, ed⟩ => ed.ct _ _ _ _ h p c
theorem le_asg {K : PySem.W.Frag} {g : TG} {tg : Tg} (hG : Gt K g tg) (hp : ∀ p ∈ pn, p.1 ∉ tg.slots) : ∀ D σ H, LS K pn (aAsg te tg) D σ H → tAsg (LE K te) g D σ H := fun D σ H ⟨A, F, env, D', p, c, h, ed⟩ =>
  ev c h fun x e1 v H1 F1 h1 c1 => by
    split at h1
    · rename_i e2 q
      exact hG.run c1 q fun σ' H' F' b c2 => ed.nx _ _ _ _ h1 (p.but b hp) c2
    · exact h1.elim
theorem ss_set {i : Nat} {x : Str} {pos' : Pos} (hN : X.N.Nodup) (hi : X.N[i]? = some x) (hx : Loc X.env.scope x) (he : SE X e te) (hp : ∀ p ∈ pn, p.1 ≠ i) (hs : swapsWith e (some (.Name x pos')) pos.line X.env = pure false := by rfl)
    (hf : X.fn x = true ∨ X.env.scope.names.lookup x = some .local := by first | exact .inl rfl | exact .inr rfl | assumption) : SS X pn (.Assign [.Name x pos'] e pos) (aAsg te (.n i)) :=
  psTo (ps_set hN hi hx he hs hf) (le_asg (gt_name i) fun p hp' => by simpa [Tg.slots] using hp p hp')
theorem ss_asg {tgE : Expr} {g : TG} {tg : Tg} (he : SE X e te) (hg : PG X tgE g) (hG : Gt X.K g tg) (hp : ∀ p ∈ pn, p.1 ∉ tg.slots) (hs : swapsWithSole [tgE] e pos.line X.env = pure false := by rfl) (hw : swappedStores [tgE] e X.env = pure none := by rfl)
    (h1 : (assignEach [tgE] X.env).map (·.2) = [assign tgE X.env] := by rfl) : SS X pn (.Assign [tgE] e pos) (aAsg te tg) :=
  psTo (ps_asg he hg hs hw h1) (le_asg hG hp)
theorem ss_put {i : Nat} (he : SE X e te) (ho : PE X o (tVar i)) (hi : SE X i' ti) (hs : swapsWithSole [.Subscript o i' p2] e pos.line X.env = pure false := by rfl) (hw : swappedStores [.Subscript o i' p2] e X.env = pure none := by rfl)
    (h1 : (assignEach [.Subscript o i' p2] X.env).map (·.2) = [assign (.Subscript o i' p2) X.env] := by rfl)
    (ha : ∀ v, assign (.Subscript o i' p2) X.env v = (do
      let ov ← holding [v] (eval o X.env)
      let iv ← holding [v, ov] (eval i' X.env)
      standAt p2
      holding [v, ov, iv] (setItem ov iv v)
      release [v, ov, iv] []) := by intro _; rfl) : SS X pn (.Assign [.Subscript o i' p2] e pos) (aPut i te ti) :=
  psTo (ps_asg he (pg_sub ho hi set_list ha) hs hw h1) fun D σ H ⟨A, F, env, D', p, c, h, ed⟩ => ev c h fun x e1 v H1 F1 h1 c1 => by
    obtain ⟨h0, h1⟩ := h1
    obtain ⟨w, hw⟩ := getSome c1 h0
    refine ⟨w, hw, ev c1 h1 fun y e2 u H2 F2 h2 c2 => ?_⟩
    split at h2
    · rename_i kk
      have du := c2.dp
      cases du
      split at h2
      · rename_i xs ex
        split at h2
        · rename_i j ej
          obtain ⟨w', hw', c3⟩ := c2.pop.take ex
          rw [hw] at hw'
          cases hw'
          obtain ⟨a, ws0, ex0, e0, _⟩ := c3.opn
          subst e0
          obtain ⟨ws, ex', ⟨hH, rfl⟩, lw, _, mk⟩ := c3.mut
          refine ⟨a, ws, kk, j, rfl, rfl, hH, by rw [← lw]; exact ej, ed.nx _ _ _ F2 h2 p ?_⟩
          have hj : j < xs.length := (ixN_seq ej).2.1
          have hz : (ws.zip xs)[j]? = some (ws[j]'(by omega), xs[j]) := by
            rw [List.getElem?_zip_eq_some]
            exact ⟨List.getElem?_eq_getElem _, List.getElem?_eq_getElem _⟩
          have e1 : fsts ((ws.zip xs).set j (v, x)) = ws.set j v := by
            rw [show fsts ((ws.zip xs).set j (v, x)) = (fsts (ws.zip xs)).set j v from List.map_set, zip_v lw]
          have e2 : snds ((ws.zip xs).set j (v, x)) = xs.set j x := by
            rw [show snds ((ws.zip xs).set j (v, x)) = (snds (ws.zip xs)).set j x from List.map_set, zip_x lw]
          have hjz : j < (ws.zip xs).length := by simp [lw] at hj ⊢; omega
          have q := mk .lst (.lst (ws.set j v)) ((ws.zip xs).set j (v, x)) [] [(ws[j]'(by omega), xs[j])] ⟨by rw [upd_same, e1], rfl⟩ (by
            simp only [List.append_nil, List.zip_cons_cons, List.zip_nil_right]
            have p1 := perm_at (l := (ws.zip xs).set j (v, x)) (j := j) (a := (v, x)) (by rw [List.getElem?_set_self hjz])
            have p2 := perm_at hz
            rw [List.eraseIdx_set_eq] at p1
            refine (List.Perm.append_right _ p1.symm).trans ?_
            refine List.Perm.trans ?_ (List.Perm.append_right _ p2)
            simp only [List.cons_append]
            refine (List.Perm.cons _ List.perm_append_comm).trans ?_
            simp only [List.cons_append, List.nil_append]
            refine (List.Perm.swap _ _ _).trans ?_
            exact List.Perm.cons _ (List.perm_append_comm (l₁ := [(v, x)])))
          rw [e2] at q
          have c4 := q.put hw
          rw [set_set'] at c4
          exact c4
        · exact h2.elim
      · exact h2.elim
    · exact h2.elim
end
end Ow

/-! Ow: what is walked, loops, comprehensions. -/
namespace Ow
open PySem L2 Grd PyProof.Rows
open Evl (Ex ex_t ex_l ex_rd)
abbrev AI := En → (List PyData → En → Prop) → Prop
structure Iter (K : PySem.W.Frag) (H : Hp) (F : FS) (J : It) (ds : List PyData) : Prop where
  run : ∀ {A : Addr → Prop} {F0 F2 : FS} {H0 H2 : Hp} {vs : List V} {xs : List OV} {σ : L2.St} {env : En}, Ex (rs H F) (rs H2 F2) → At K A F0 H0 H2 F2 vs xs σ env → ∀ i,
    (∀ d, ds[i]? = some d → J.go i H2 ∧ ∀ x H3, J.yld i H2 x H3 → ∃ F3, At K A F0 H0 H3 F3 (x :: vs) (.d d :: xs) σ env) ∧ (i = ds.length → J.stop i H2)
def LI (K : PySem.W.Frag) (t : AI) : TI := fun σ H R => ∃ (A : Addr → Prop) (F : FS) (env : En) (R' : List PyData → En → Prop),
  At K A F H H F [] [] σ env ∧ t env R' ∧ ∀ ds env' J H' F', R' ds env' → At K A F H H' F' [] [] σ env' → Iter K H' F' J ds → R J H'
def SI (X : Cx) (tg iter : Expr) (t : AI) : Prop := PI X tg iter (LI X.K t)
theorem piTo {X : Cx} {tg e : Expr} {t t' : TI} (h : PI X tg e t) (i : ∀ σ H R, t' σ H R → t σ H R) : PI X tg e t' := ⟨fun pins s σ H R I q => h.run pins s σ H R I (i σ H R q)⟩
/-- a text's signs -/
def chD (z : Str) : List PyData := z.cps.toList.map fun c => .str ⟨#[c]⟩
def sit : PyData → Option (List PyData)
  | .list ds => some ds
  | .tuple ds => some ds
  | .str z => some (chD z)
  | _ => none
def aOver (t : AE) : AI := fun env Q => t env fun x e => match (frz x).bind sit with
  | some ds => Q ds e
  | none => False
def aRng (t : AE) : AI := fun env Q => t env fun x e => match x with
  | .d (.int j) => (-(2 ^ 62) ≤ j ∧ j < 2 ^ 62) ∧ Q ((List.range j.toNat).map fun (k : Nat) => .int k) e
  | _ => False
def forW (tg : Tg) (tb : AS) (D : AD) : List PyData → En → Prop
  | [], e => D.nx e
  | d :: ds, e => match tgSet tg (.d d) e with
    | some e1 => tb { D with nx := forW tg tb D ds, ct := forW tg tb D ds, bk := D.nx } e1
    | none => False
def aFor (it : AI) (tg : Tg) (tb : AS) : AS := fun D env => it env fun ds e => forW tg tb D ds e
def whW (c : AT) (tb : AS) (D : AD) : Nat → En → Prop
  | 0, _ => False
  | n + 1, e => c e fun b e1 => if b = true then tb { D with nx := whW c tb D n, ct := whW c tb D n, bk := D.nx } e1 else D.nx e1
def aWhile (c : AT) (tb : AS) : AS := fun D env => ∃ n, whW c tb D n env
def wipeE (e : En) : List Nat → En
  | [] => e
  | v :: vs => (wipeE e vs).set v none
def lcW (tg : Tg) (tt : AT) (te : AE) (vs : List Nat) (Q : OV → En → Prop) : List PyData → List OV → En → Prop
  | [], acc, e => Q (.n .lst acc) e
  | d :: ds, acc, e => match tgSet tg (.d d) e with
    | some e1 => tt e1 fun b e2 => if b = true then te e2 fun y e3 => acc.length < sizeLine ∧ lcW tg tt te vs Q ds (acc ++ [y]) (wipeE e3 vs) else lcW tg tt te vs Q ds acc (wipeE e2 vs)
    | none => False
def aLc (it : AI) (tg : Tg) (tt : AT) (te : AE) (vs : List Nat) : AE := fun env Q => it env fun ds e => lcW tg tt te vs Q ds [] (wipeE e vs)
def aYes : AT := fun env Q => Q true env
section
variable {K : PySem.W.Frag} {A : Addr → Prop} {F0 F F' : FS} {H0 H H' : Hp} {v u : V} {vs us : List V} {x y : OV} {xs ys : List OV} {σ : L2.St} {env : En}
theorem At.re1 (c : At K A F0 H0 H F vs xs σ env) : At K (nxt A H0) F H H F vs xs σ env := ⟨.refl, c.cf.mono fun _ z => .inl z⟩
theorem evi {t : AI} {R : List PyData → En → Prop} {Q : It → Hp → Prop} (c : At K A F0 H0 H F [] [] σ env) (h : t env R)
    (k : ∀ ds env' J H' F', R ds env' → At K A F0 H0 H' F' [] [] σ env' → Iter K H' F' J ds → Q J H') : LI K t σ H Q :=
  ⟨_, F, env, R, c.re1, h, fun ds env' J H' F' r b i => k ds env' J H' F' r (c.on b.st b.cf) i⟩
theorem iter_lst {a : Addr} {ds : List PyData} {ws : List V} (h : rs H F a = some (.lst ws)) (t : Dts K (rs H F) ws ds) : Iter K H F (Itl K a) ds := ⟨fun ex c i => by
  have hs : SqL K _ a ws := .of (rs_ex _ _ (ex _ _ h))
  refine ⟨fun d hd => ?_, fun hl => ⟨ws, hs, by rw [← t.len]; omega⟩⟩
  obtain ⟨w, hw, dw⟩ := t.at hd
  refine ⟨⟨ws, w, hs, hw⟩, fun x H3 y => ?_⟩
  obtain ⟨rfl, y⟩ := y
  have e := y ws hs
  rw [hw] at e
  cases e
  exact ⟨_, c.push (dt_ex ex dw)⟩⟩
theorem iter_tup {a : Addr} {ds : List PyData} {ws : List V} (h : SqT K (rs H F) a ws) (t : Dts K (rs H F) ws ds) : Iter K H F (Itt K a) ds := ⟨fun ex c i => by
  have hs : SqT K _ a ws := ex_t rs_ex (ex_t ex h)
  refine ⟨fun d hd => ?_, fun hl => ⟨ws, hs, by rw [← t.len]; omega⟩⟩
  obtain ⟨w, hw, dw⟩ := t.at hd
  refine ⟨⟨ws, w, hs, hw⟩, fun x H3 y => ?_⟩
  obtain ⟨rfl, y⟩ := y
  have e := y ws hs
  rw [hw] at e
  cases e
  exact ⟨_, c.push (dt_ex ex dw)⟩⟩
theorem iter_str {z : Str} : Iter K H F (Its z) (chD z) := ⟨fun ex c i => by
  refine ⟨fun d hd => ?_, fun hl => ?_⟩
  · unfold chD at hd
    rw [List.getElem?_map] at hd
    obtain ⟨ch, h1, rfl⟩ := Option.map_eq_some_iff.mp hd
    rw [Array.getElem?_toList] at h1
    refine ⟨(Array.getElem?_eq_some_iff.mp h1).1, fun x H3 y => ?_⟩
    obtain ⟨rfl, ch', h2, rfl⟩ := y
    rw [h1] at h2
    cases h2
    exact ⟨_, c.push (.str _)⟩
  · simp only [chD, List.length_map, Array.length_toList] at hl
    exact Nat.le_of_eq hl.symm⟩
theorem iter_rng {n : Nat} : Iter K H F (Itr 0 n) ((List.range n).map fun (k : Nat) => .int k) := ⟨fun ex c i => by
  refine ⟨fun d hd => ?_, fun hl => by simp only [List.length_map, List.length_range] at hl; exact Nat.le_of_eq hl.symm⟩
  rw [List.getElem?_map] at hd
  obtain ⟨k, h1, rfl⟩ := Option.map_eq_some_iff.mp hd
  obtain ⟨h2, h3⟩ := List.getElem?_eq_some_iff.mp h1
  simp only [List.length_range, List.getElem_range] at h2 h3
  subst h3
  refine ⟨h2, fun x H3 y => ?_⟩
  obtain ⟨rfl, rfl⟩ := y
  refine ⟨_, c.push ?_⟩
  have e : (0 : Int) + (i : Int) = (i : Int) := by omega
  rw [e]
  exact .int _⟩
theorem Oe.cong : ∀ {σ σ' : L2.St} {env : En} {as : List Addr}, Oe K H F σ env as → σ'.length = σ.length → (∀ (i : Nat) (x : OV), env[i]? = some (some x) → σ'[i]? = σ[i]?) → Oe K H F σ' env as
  | _, [], _, _, .nil, _, _ => .nil
  | _, _ :: _, _, _, .nil, l, _ => by simp at l
  | _, [], _, _, .skip _, l, _ => by simp at l
  | _, o :: σ', _, _, .skip t, l, h => .skip (Oe.cong t (by simpa using l) fun i x e => by simpa using h (i + 1) x (by simpa using e))
  | _, [], _, _, .cons _ _, l, _ => by simp at l
  | _, o :: σ', _, _, .cons g t, l, h => by
    have e := h 0 _ rfl
    simp only [List.getElem?_cons_zero, Option.some.injEq] at e
    subst e
    exact .cons g (Oe.cong t (by simpa using l) fun i x e => by simpa using h (i + 1) x (by simpa using e))
theorem At.cong (c : At K A F0 H0 H F vs xs σ env) {σ' : L2.St} (l : σ'.length = σ.length) (h : ∀ (i : Nat) (x : OV), env[i]? = some (some x) → σ'[i]? = σ[i]?) : At K A F0 H0 H F vs xs σ' env := by
  obtain ⟨st, ⟨⟨a1, a2, h1, h2, nd, off⟩, fh⟩⟩ := c
  exact ⟨st, ⟨⟨a1, a2, h1, h2.cong l h, nd, off⟩, fh⟩⟩
theorem At.wipes (c : At K A F0 H0 H F vs xs σ env) : ∀ is : List Nat, At K A F0 H0 H F vs xs (wipe σ is) (wipeE env is)
  | [] => c
  | i :: is => (At.wipes c is).wipe1 i none
theorem wipeE_none (e : En) : ∀ (is : List Nat) (i : Nat), i ∈ is → ∀ x, (wipeE e is)[i]? ≠ some (some x)
  | [], i, h, x => by cases h
  | j :: is, i, h, x => by
    unfold wipeE
    rw [List.getElem?_set]
    by_cases ij : j = i
    · rw [if_pos ij]
      split <;> simp
    · rw [if_neg ij]
      exact wipeE_none e is i ((List.mem_cons.mp h).resolve_left fun z => ij z.symm) x
theorem wipe_other (σ : L2.St) : ∀ (is : List Nat) (i : Nat), i ∉ is → (wipe σ is)[i]? = σ[i]?
  | [], i, h => rfl
  | j :: is, i, h => by
    unfold wipe
    rw [List.getElem?_set, if_neg (fun z => h (by simp [z]))]
    exact wipe_other σ is i fun z => h (List.mem_cons_of_mem _ z)
theorem wipe_in (σ : L2.St) : ∀ (is : List Nat) (i : Nat), i ∈ is → (wipe σ is)[i]? = if i < σ.length then some none else none
  | [], i, h => by cases h
  | j :: is, i, h => by
    unfold wipe
    rw [List.getElem?_set]
    by_cases ij : j = i
    · subst ij
      rw [if_pos rfl, wipe_length]
    · rw [if_neg ij]
      exact wipe_in σ is i ((List.mem_cons.mp h).resolve_left fun z => ij z.symm)
theorem wipe_but {is : List Nat} {σ σ' : L2.St} (b : But is σ σ') : wipe σ' is = wipe σ is := by
  refine List.ext_getElem? fun i => ?_
  by_cases h : i ∈ is
  · rw [wipe_in σ' is i h, wipe_in σ is i h, b.len]
  · rw [wipe_other σ' is i h, wipe_other σ is i h, b.same i h]
theorem but_wipe (is : List Nat) (σ : L2.St) : But is σ (wipe σ is) := ⟨wipe_length σ is, fun j hj => wipe_other σ is j hj⟩
theorem At.unwipe {is : List Nat} {e : En} (c : At K A F0 H0 H F vs xs (wipe σ is) (wipeE e is)) : At K A F0 H0 H F vs xs σ (wipeE e is) :=
  c.cong (wipe_length σ is).symm fun i x h => by
    by_cases m : i ∈ is
    · exact absurd h (wipeE_none e is i m x)
    · exact (wipe_other σ is i m).symm
end
section
variable {X : Cx} {pn : List (Nat × V)} {tgE e a l : Expr} {te : AE} {pos p : Pos}
/-- over a list, a tuple, a text -/
def iSeq (K : PySem.W.Frag) (tl : TE) : TI := fun σ H R => tl σ H fun x H1 => (∃ a, x = .ref a ∧ (∃ xs, SqL K H1 a xs) ∧ R (Itl K a) H1) ∨ (∃ a, x = .ref a ∧ (∃ xs, SqT K H1 a xs) ∧ R (Itt K a) H1) ∨ (∃ z, x = .str z ∧ R (Its z) H1)
theorem pi_seq {tl : TE} (hl : PE X l tl) : PI X tgE l (iSeq X.K tl) := by
  refine ⟨fun pins s σ H R I h => ?_⟩
  refine thn (hl.run pins s σ H _ I h) fun v s1 ⟨x, H1, I1, r1, q1⟩ => ?_
  rcases q1 with ⟨a, e, ⟨xs, hq⟩, q⟩ | ⟨a, e, ⟨xs, hq⟩, q⟩ | ⟨z, e, q⟩
  · subst e
    cases r1
    obtain ⟨its, rv, p, hz⟩ := I1.list hq
    refine wpAny_pyIter_list p.isList ?_
    refine ⟨s1.heap.objs.size, [s1.heap.objs.size], _, _, H1, rfl, I1.kept (t' := s1.toks) fun b o e => Heap.get?_push_of_some _ e, turn_list a _, ⟨_, Heap.get?_push_size _ rfl, rfl, rfl⟩, fun b hb => ?_, q⟩
    have e : b = s1.heap.objs.size := by simpa using hb
    subst e
    exact I1.fpOk (Nat.le_refl _) (I1.hok.fresh (Nat.le_refl _))
  · subst e
    cases r1
    obtain ⟨its, rv, p, hz⟩ := I1.tuple hq
    refine wpAny_pyIter_tuple (show s1.heap.IsTuple a its.toArray from p) ?_
    refine ⟨s1.heap.objs.size, [s1.heap.objs.size], _, _, H1, rfl, I1.kept (t' := s1.toks) fun b o e => Heap.get?_push_of_some _ e, turn_tuple a _, ⟨_, Heap.get?_push_size _ rfl, rfl, rfl⟩, fun b hb => ?_, q⟩
    have e : b = s1.heap.objs.size := by simpa using hb
    subst e
    exact I1.fpOk (Nat.le_refl _) (I1.hok.fresh (Nat.le_refl _))
  · subst e
    obtain ⟨t, rfl⟩ := r1
    cases ha : z.cps.all (· < 128)
    · exact wpAny_pyIter_wide ha (pi_one (tk := s1.toks) I1 _ (turn_str _ z t "str_iterator" (.inr rfl)) ⟨_, Heap.get?_push_size _ rfl, rfl, rfl⟩ q)
    · exact wpAny_pyIter_ascii ha (pi_one (tk := s1.toks) I1 _ (turn_str _ z t "str_ascii_iterator" (.inl rfl)) ⟨_, Heap.get?_push_size _ rfl, rfl, rfl⟩ q)
theorem si_over (he : SE X l te) : SI X tgE l (aOver te) := piTo (pi_seq he) fun σ H R ⟨A, F, env, R', c, h, k⟩ => ev c h fun x e1 v H1 F1 h1 c1 => by
  split at h1
  · rename_i ds eds
    obtain ⟨d, e2, e3⟩ := Option.bind_eq_some_iff.mp eds
    obtain ⟨F2, c2⟩ := c1.fix e2
    have dv := c2.dp
    cases dv with
    | lst h t => cases e3; exact .inl ⟨_, rfl, ⟨_, .of (rs_ex _ _ h)⟩, k _ _ _ _ F2 h1 c2.pop (iter_lst h t)⟩
    | tup h t => cases e3; exact .inr (.inl ⟨_, rfl, ⟨_, ex_t rs_ex h⟩, k _ _ _ _ F2 h1 c2.pop (iter_tup h t)⟩)
    | str z => cases e3; exact .inr (.inr ⟨_, rfl, k _ _ _ _ F2 h1 c2.pop iter_str⟩)
    | non => cases e3
    | bl b => cases e3
    | int b => cases e3
  · exact h1.elim
theorem si_rng (hg : Gl X "range") (hm : X.mg "range" = none) (ha : SE X a te) (hs : starEach [a] X.env = [(false, eval a X.env)] := by rfl) : SI X tgE (.Call (.Name "range" p) [a] [] pos) (aRng te) :=
  piTo (pi_range1 hg hm (pa_cons ha pa_nil hs) hs) fun σ H R ⟨A, F, env, R', c, h, k⟩ => ev c h fun x e1 v H1 F1 h1 c1 => by
    split at h1
    · have dv := c1.dp
      cases dv
      exact ⟨_, rfl, h1.1.1, h1.1.2, k _ _ _ _ F1 h1.2 c1.pop iter_rng⟩
    · exact h1.elim
theorem ss_for {iter : Expr} {body : List Stmt} {it : AI} {tb : AS} {g : TG} {tg : Tg} (hc : X.calm = true) (hi : SI X tgE iter it) (hg : PG X tgE g) (hG : Gt X.K g tg) (hb : SSs X pn body tb) (hp : ∀ p ∈ pn, p.1 ∉ tg.slots) (hpo : PassesOwn (model X.prog X.w) X.A X.env X.xe)
    (hs : ∀ x, foldedSetIterable iter X.env x = pure x := by intro _; rfl) : SS X pn (.For tgE iter body [] pos) (aFor it tg tb) :=
  psTo (ps_for hpo hc hi hg hb hs) fun D σ H ⟨A, F, env, D', p, c, h, ed⟩ => evi c h fun ds e1 J H1 F1 h1 c1 it1 => by
    let W : Nat → Nat → L2.St → Hp → Prop := fun i m σ' H' => m = ds.length - i ∧ i ≤ ds.length ∧ PinOk pn σ' ∧ ∃ F' env', At X.K (nxt A H) F1 H1 H' F' [] [] σ' env' ∧ forW tg tb D' (ds.drop i) env'
    refine ⟨W, ⟨ds.length, by simp, Nat.zero_le _, p, F1, e1, c1.re1, h1⟩, fun i m σ2 H2 w => ?_⟩
    obtain ⟨rfl, hi, p2, F2, e2, c2, h2⟩ := w
    obtain ⟨go, stop⟩ := it1.run c2.st.fr c2 i
    by_cases lt : i < ds.length
    · have hd : ds[i]? = some ds[i] := List.getElem?_eq_getElem lt
      obtain ⟨g1, g2⟩ := go _ hd
      rw [List.drop_eq_getElem_cons lt] at h2
      refine .inr ⟨g1, W (i + 1) (ds.length - (i + 1)), fun σ' H' w => ⟨_, by omega, w⟩, fun x H3 y => ?_⟩
      obtain ⟨F3, c3⟩ := g2 x H3 y
      change (match tgSet tg (.d ds[i]) e2 with | some e1 => tb { D' with nx := forW tg tb D' (ds.drop (i + 1)), ct := forW tg tb D' (ds.drop (i + 1)), bk := D'.nx } e1 | none => False) at h2
      split at h2
      · rename_i e3 q
        refine hG.run c3 q fun σ3 H3' F3' b c4 => sv (p2.but b hp) c4 h2 ?_
        have back : ∀ {env' σ' H' F'}, forW tg tb D' (ds.drop (i + 1)) env' → PinOk pn σ' → At X.K (nxt A H) F1 H1 H' F' [] [] σ' env' → W (i + 1) (ds.length - (i + 1)) σ' H' := fun a b z => ⟨rfl, lt, b, _, _, z, a⟩
        exact ⟨fun env' σ' H' F' a b z => back a b z, fun x env' v σ' H' F' a b z => ed.rt _ _ _ _ _ _ a b (c1.on z.st z.cf), fun env' σ' H' F' a b z => ed.nx _ _ _ _ a b (c1.on z.st z.cf), fun env' σ' H' F' a b z => back a b z⟩
      · exact h2.elim
    · have e : i = ds.length := by omega
      subst e
      rw [List.drop_length] at h2
      exact .inl ⟨stop rfl, ed.nx _ _ _ _ h2 p2 (c1.on c2.st c2.cf)⟩
theorem ss_while {cE : Expr} {body : List Stmt} {tc : AT} {tb : AS} (hc : ST X cE tc) (hb : SSs X pn body tb) (hpo : PassesOwn (model X.prog X.w) X.A X.env X.xe) : SS X pn (.While cE body [] pos) (aWhile tc tb) :=
  psTo (ps_while hpo hc hb) fun D σ H ⟨A, F, env, D', p, c, h, ed⟩ => by
    obtain ⟨n, h⟩ := h
    refine ⟨fun m σ' H' => PinOk pn σ' ∧ ∃ F' env', At X.K A F H H' F' [] [] σ' env' ∧ whW tc tb D' m env', ⟨n, p, F, env, c, h⟩, fun m σ2 H2 w => ?_⟩
    obtain ⟨p2, F2, e2, c2, h2⟩ := w
    cases m with
    | zero => exact h2.elim
    | succ m =>
      refine evt c2 h2 fun b e3 H3 F3 h3 c3 => ?_
      split
      · rename_i z
        rw [if_pos z] at h3
        refine ⟨fun σ' H' => PinOk pn σ' ∧ ∃ F' env', At X.K A F H H' F' [] [] σ' env' ∧ whW tc tb D' m env', fun σ' H' w => ⟨m, Nat.lt_succ_self m, w⟩, sv p2 c3 h3 ?_⟩
        exact ⟨fun env' σ' H' F' a b z => ⟨b, _, _, z, a⟩, ed.rt, ed.nx, fun env' σ' H' F' a b z => ⟨b, _, _, z, a⟩⟩
      · rename_i z
        rw [if_neg z] at h3
        exact ed.nx _ _ _ _ h3 p2 c3
theorem le_lc {K : PySem.W.Frag} {it : AI} {g : TG} {tg : Tg} {tt : AT} {te : AE} {vs : List Nat} (hG : Gt K g tg) (hsub : ∀ i ∈ tg.slots, i ∈ vs) : ∀ σ H Q, LE K (aLc it tg tt te vs) σ H Q → tLc (LI K it) g (LT K tt) (LE K te) vs σ H Q :=
  fun σ H Q ⟨A, F, env, R, c, h, k⟩ => evi c h fun ds e1 J H1 F1 h1 c1 it1 => fun D hD => by
    let W : Nat → Nat → Hp → Prop := fun i m H' => m = ds.length - i ∧ i ≤ ds.length ∧ ∃ F' e0 acc, At K (nxt A H) F1 H1 H' F' [.ref D] [.n .lst acc] (wipe σ vs) (wipeE e0 vs) ∧ lcW tg tt te vs R (ds.drop i) acc (wipeE e0 vs)
    have c0 : At K (nxt A H) F1 H1 (upd H1 D (.lst [])) F1 [.ref D] [.n .lst []] (wipe σ vs) (wipeE e1 vs) := At.make (us := []) (ys := []) (s := .lst) (c1.re1.wipes vs) rfl hD ⟨upd_same, rfl⟩
    refine ⟨W, ⟨ds.length, by simp, Nat.zero_le _, F1, e1, [], c0, h1⟩, fun i m H2 w => ?_⟩
    obtain ⟨rfl, hi, F2, e2, acc, c2, h2⟩ := w
    obtain ⟨go, stop⟩ := it1.run c2.st.fr c2 i
    by_cases lt : i < ds.length
    · have hd : ds[i]? = some ds[i] := List.getElem?_eq_getElem lt
      obtain ⟨g1, g2⟩ := go _ hd
      rw [List.drop_eq_getElem_cons lt] at h2
      refine .inr ⟨g1, W (i + 1) (ds.length - (i + 1)), fun H' w => ⟨_, by omega, w⟩, fun x H3 y => ?_⟩
      obtain ⟨F3, c3⟩ := g2 x H3 y
      change (match tgSet tg (.d ds[i]) (wipeE e2 vs) with | some e1 => tt e1 fun b e2 => if b = true then te e2 fun y e3 => acc.length < sizeLine ∧ lcW tg tt te vs R (ds.drop (i + 1)) (acc ++ [y]) (wipeE e3 vs) else lcW tg tt te vs R (ds.drop (i + 1)) acc (wipeE e2 vs) | none => False) at h2
      split at h2
      · rename_i e3 q
        refine hG.run c3 q fun σ3 H3' F3' b c4 => ?_
        have ws : wipe σ3 vs = wipe σ vs := (wipe_but (b.mono hsub)).trans (wipe_but (but_wipe vs σ))
        refine ⟨ws, evt c4 h2 fun bo e4 H4 F4 h4 c5 => ?_⟩
        split
        · rename_i z
          rw [if_pos z] at h4
          refine ev c5 h4 fun y e5 u H5 F5 h5 c6 => ?_
          obtain ⟨accV, ex, ⟨hH, rfl⟩, lw, _, mk⟩ := c6.swap.mut
          refine ⟨accV, hH, by rw [← lw]; exact h5.1, rfl, lt, F5, e5, acc ++ [y], ?_, h5.2⟩
          have q := mk .lst (.lst (accV ++ [u])) (accV.zip acc ++ [(u, y)]) [] [] ⟨by rw [upd_same]; simp [fsts, List.map_fst_zip (show accV.length ≤ acc.length by omega)], rfl⟩ (by simp)
          simp only [snds, List.map_append, List.map_snd_zip (show acc.length ≤ accV.length by omega), List.map_cons, List.map_nil] at q
          rw [← ws]
          exact At.wipes q vs
        · rename_i z
          rw [if_neg z] at h4
          refine ⟨rfl, lt, F4, e4, acc, ?_, h4⟩
          rw [← ws]
          exact At.wipes c5 vs
      · exact h2.elim
    · have e : i = ds.length := by omega
      subst e
      rw [List.drop_length] at h2
      have c3 := c2.unwipe
      exact .inl ⟨stop rfl, k _ _ _ _ _ h2 (c1.on c3.st c3.cf)⟩
section
variable {elt tg' iter : Expr} {ifs : List Expr} {scope : Scope} {own : List (Str × Nat)} {it : AI} {g : TG} {tg : Tg} {tt : AT}
def STs (X : Cx) (ifs : List Expr) (t : AT) : Prop := PTs X ifs (LT X.K t)
theorem sts_nil : STs X [] aYes := ⟨fun pins s σ H Q I ⟨A, F, env, R, c, h, k⟩ => pts_nil.run pins s σ H Q I (k _ _ _ _ h c)⟩
theorem sts_one {cE : Expr} (h : ST X cE tt) : STs X [cE] tt := pts_one h
theorem se_lc (hc : X.calm = true) (hN : X.N.Nodup) (hi : SI X tg' iter it) (ok : BlkOk X.N X.env.scope scope own) (hG : Gt X.K g tg) (hsub : ∀ i ∈ tg.slots, i ∈ own.map (·.2))
    (hg : ∀ (s : Shared) (H : Hp) (C : Addr) (cl : List (Str × Addr)) (fp : List Addr), PG (X.blk s H scope (compEnvC scope cl C X.env) fp) tg' g) (ht : ∀ (s : Shared) (H : Hp) (C : Addr) (cl : List (Str × Addr)) (fp : List Addr), STs (X.blk s H scope (compEnvC scope cl C X.env) fp) ifs tt)
    (he : ∀ (s : Shared) (H : Hp) (C : Addr) (cl : List (Str × Addr)) (fp : List Addr), SE (X.blk s H scope (compEnvC scope cl C X.env) fp) elt te) (hs : ∀ x, foldedSetIterable iter X.env x = pure x := by intro _; rfl) :
    SE X (.ListComp elt [⟨tg', iter, ifs, 0⟩] scope pos) (aLc it tg tt te (own.map (·.2))) := peTo (pe_lc (tt := LT X.K tt) (te := LE X.K te) hc hN hi ok hg ht he hs) (le_lc hG hsub)
theorem ss_setLc {i : Nat} {y : Str} {py spos : Pos} (hc : X.calm = true) (hN : X.N.Nodup) (hy : X.N[i]? = some y) (hyl : X.env.scope.names.lookup y = some .local)
    (hsw : swapsWith (.ListComp elt [⟨tg', iter, ifs, 0⟩] scope pos) (some (.Name y py)) spos.line X.env = pure true) (hi : SI X tg' iter it) (ok : BlkOk X.N X.env.scope scope own) (hG : Gt X.K g tg) (hsub : ∀ i ∈ tg.slots, i ∈ own.map (·.2)) (hp : ∀ p ∈ pn, p.1 ≠ i)
    (hg : ∀ (s : Shared) (H : Hp) (C : Addr) (cl : List (Str × Addr)) (fp : List Addr), PG (X.blk s H scope (compEnvC scope cl C X.env) fp) tg' g) (ht : ∀ (s : Shared) (H : Hp) (C : Addr) (cl : List (Str × Addr)) (fp : List Addr), STs (X.blk s H scope (compEnvC scope cl C X.env) fp) ifs tt)
    (he : ∀ (s : Shared) (H : Hp) (C : Addr) (cl : List (Str × Addr)) (fp : List Addr), SE (X.blk s H scope (compEnvC scope cl C X.env) fp) elt te) (hs : ∀ x, foldedSetIterable iter X.env x = pure x := by intro _; rfl) :
    SS X pn (.Assign [.Name y py] (.ListComp elt [⟨tg', iter, ifs, 0⟩] scope pos) spos) (aAsg (aLc it tg tt te (own.map (·.2))) (.n i)) :=
  psTo (ps_setLc (tt := LT X.K tt) (te := LE X.K te) hc hN hy hyl hsw hi ok hg ht he hs) fun D σ H ⟨A, F, env, D', p, c, h, ed⟩ => le_lc hG hsub _ _ _ (ev c h fun x e1 v H1 F1 h1 c1 => by
    split at h1
    · rename_i e2 q
      exact (gt_name i).run c1 q fun σ' H' F' b c2 => ed.nx _ _ _ _ h1 (p.but b fun p hp' => by simpa [Tg.slots] using hp p hp') c2
    · exact h1.elim)
end
end
end Ow

/-! Ow: defs: their promise over plain data, their call. -/
namespace Ow
open PySem L2 Grd PyProof.Rows
open Evl (Ex ex_t ex_l ex_rd)
/-- an argument: a value, or what a name holds (lent) -/
inductive Ar where
  | v (x : OV)
  | s (i : Nat)
abbrev AR := En → (List Ar → En → Prop) → Prop
inductive ARel (σ : L2.St) : List Ar → List V → List V → List OV → Prop
  | nil : ARel σ [] [] [] []
  | v {x : OV} {v : V} {as : List Ar} {vs ts : List V} {xs : List OV} : ARel σ as vs ts xs → ARel σ (.v x :: as) (v :: vs) (v :: ts) (x :: xs)
  | s {i : Nat} {v : V} {as : List Ar} {vs ts : List V} {xs : List OV} : σ[i]? = some (some v) → ARel σ as vs ts xs → ARel σ (.s i :: as) (v :: vs) ts xs
def LR (K : PySem.W.Frag) (t : AR) : TA := fun σ H Q => ∃ (A : Addr → Prop) (F : FS) (env : En) (R : List Ar → En → Prop),
  At K A F H H F [] [] σ env ∧ t env R ∧ ∀ as env' vs H' F' ts xs, R as env' → ARel σ as vs ts xs → At K A F H H' F' ts xs σ env' → Q vs H'
def SR (X : Cx) (es : List Expr) (t : AR) : Prop := PA X es (LR X.K t)
def aRn : AR := fun env Q => Q [] env
def aRv (te : AE) (t : AR) : AR := fun env Q => te env fun x e1 => t e1 fun as e2 => Q (.v x :: as) e2
def aRs (i : Nat) (t : AR) : AR := fun env Q => (match env[i]? with | some (some _) => True | _ => False) ∧ t env fun as e2 => Q (.s i :: as) e2
def tkA : List Ar → En → Option (List OV × En)
  | [], e => some ([], e)
  | .v x :: as, e => (tkA as e).map fun p => (x :: p.1, p.2)
  | .s i :: as, e => match e[i]? with
    | some (some (.d d)) => (tkA as e).map fun p => (.d d :: p.1, p.2)
    | some (some (.n s ys)) => (tkA as (e.set i none)).map fun p => (.n s ys :: p.1, p.2)
    | _ => none
def ptA : List Ar → List OV → En → En
  | .s i :: as, x :: xs, e => ptA as xs (e.set i (some x))
  | .v _ :: as, _ :: xs, e => ptA as xs e
  | _, _, e => e
abbrev AC := List OV → (OV → List OV → Prop) → Prop
def aCall (C : AC) (t : AR) : AE := fun env Q => t env fun as e => match tkA as e with
  | some p => C p.1 fun z xs' => xs'.length = p.1.length ∧ Q z (ptA as xs' p.2)
  | none => False
def spA (K : PySem.W.Frag) (C : AC) : Sp := fun vs H Q _ => ∃ (A : Addr → Prop) (F : FS) (xs : List OV) (R : OV → List OV → Prop),
  At K A F H H F vs xs [] [] ∧ C xs R ∧ ∀ z xs' w H' F', R z xs' → At K A F H H' F' (w :: vs) (z :: xs') [] [] → Q w H'
section
variable {K : PySem.W.Frag} {A : Addr → Prop} {F0 F F' : FS} {H0 H H' : Hp} {v u : V} {vs us : List V} {x y : OV} {xs ys : List OV} {σ : L2.St} {env : En}
theorem evr {t : AR} {R : List Ar → En → Prop} {Q : List V → Hp → Prop} (c : At K A F0 H0 H F vs xs σ env) (h : t env R)
    (k : ∀ as env' us H' F' ts ys, R as env' → ARel σ as us ts ys → At K A F0 H0 H' F' (ts ++ vs) (ys ++ xs) σ env' → Q us H') : LR K t σ H Q := by
  obtain ⟨a1, a2, h1, nd, off, c2⟩ := startE c
  refine ⟨_, F, env, R, c2, h, fun as env' us H' F' ts ys r ar b => k as env' us H' F' ts ys r ar ?_⟩
  obtain ⟨s, z⟩ := frameE h1 nd off b.st b.cf
  exact c.on s z
theorem ARel.len : ∀ {as : List Ar} {vs ts : List V} {xs : List OV}, ARel σ as vs ts xs → xs.length = ts.length
  | _, _, _, _, .nil => rfl
  | _, _, _, _, .v h => by simp [ARel.len h]
  | _, _, _, _, .s _ h => ARel.len h
theorem tk_len : ∀ {as : List Ar} {vs ts : List V} {xs ys : List OV} {e e' : En}, ARel σ as vs ts xs → tkA as e = some (ys, e') → ys.length = vs.length
  | _, _, _, _, _, _, _, .nil, h => by cases h; rfl
  | _, _, _, _, _, _, _, .v r, h => by
    obtain ⟨p, h1, h2⟩ := Option.map_eq_some_iff.mp h
    cases h2
    simp [tk_len r h1]
  | _, _, _, _, _, _, _, .s hi r, h => by
    unfold tkA at h
    split at h
    · obtain ⟨p, h1, h2⟩ := Option.map_eq_some_iff.mp h
      cases h2
      simp [tk_len r h1]
    · obtain ⟨p, h1, h2⟩ := Option.map_eq_some_iff.mp h
      cases h2
      simp [tk_len r h1]
    · cases h
theorem tk_ok : ∀ {as : List Ar} {vs ts : List V} {xs zs : List OV} {e e' : En} {us : List V} {ys : List OV}, ARel σ as vs ts xs → tkA as e = some (zs, e') → ys.length = us.length → At K A F0 H0 H F (ts ++ us) (xs ++ ys) σ e → At K A F0 H0 H F (vs ++ us) (zs ++ ys) σ e'
  | _, _, _, _, _, _, _, _, _, .nil, h, _, c => by cases h; exact c
  | _, _, _, _, _, _, _, us, ys, .v (x := x) (v := v) (ts := ts) (xs := x0) r, h, l, c => by
    obtain ⟨p, h1, h2⟩ := Option.map_eq_some_iff.mp h
    cases h2
    have c1 := At.app_comm (vs1 := [v]) (xs1 := [x]) (vs2 := ts ++ us) (xs2 := x0 ++ ys) rfl c
    rw [List.append_assoc, List.append_assoc] at c1
    have c2 := tk_ok (us := us ++ [v]) (ys := ys ++ [x]) r h1 (by simp [l]) c1
    rw [← List.append_assoc, ← List.append_assoc] at c2
    exact At.app_comm (vs2 := [v]) (xs2 := [x]) (by have := tk_len r h1; simp [this, l]) c2
  | _, _, _, _, _, _, _, us, ys, .s (v := v) (ts := ts) (xs := x0) hi r, h, l, c => by
    unfold tkA at h
    split at h
    · rename_i d ed
      obtain ⟨p, h1, h2⟩ := Option.map_eq_some_iff.mp h
      cases h2
      obtain ⟨v', hv', dv⟩ := c.look ed
      rw [hi] at hv'
      cases hv'
      exact (tk_ok r h1 l c).push dv
    · rename_i s zs ed
      obtain ⟨p, h1, h2⟩ := Option.map_eq_some_iff.mp h
      cases h2
      obtain ⟨v', hv', c0⟩ := c.take ed
      rw [hi] at hv'
      cases hv'
      have c1 := At.app_comm (vs1 := [v]) (xs1 := [.n s zs]) (vs2 := ts ++ us) (xs2 := x0 ++ ys) rfl c0
      rw [List.append_assoc, List.append_assoc] at c1
      have c2 := tk_ok (us := us ++ [v]) (ys := ys ++ [.n s zs]) r h1 (by simp [l]) c1
      rw [← List.append_assoc, ← List.append_assoc] at c2
      exact At.app_comm (vs2 := [v]) (xs2 := [.n s zs]) (by have := tk_len r h1; simp [this, l]) c2
    · cases h
theorem pt_ok : ∀ {as : List Ar} {vs ts : List V} {xs zs : List OV} {e : En} {us : List V} {ys : List OV}, ARel σ as vs ts xs → zs.length = vs.length → At K A F0 H0 H F (vs ++ us) (zs ++ ys) σ e → At K A F0 H0 H F us ys σ (ptA as zs e)
  | _, _, _, _, [], _, _, _, .nil, _, c => c
  | _, _, _, _, _ :: _, _, _, _, .nil, l, _ => by simp at l
  | _, _, _, _, [], _, _, _, .v _, l, _ => by simp at l
  | _, _, _, _, z :: zs, _, _, _, .v r, l, c => by simp only [ptA]; exact pt_ok r (by simpa using l) c.pop
  | _, _, _, _, [], _, _, _, .s _ _, l, _ => by simp at l
  | _, _, _, _, z :: zs, _, _, _, .s hi r, l, c => by simp only [ptA]; exact pt_ok r (by simpa using l) (c.put hi)
/-- a def is called with what is held; the rest stays -/
theorem call_ok {C : AC} {R : OV → List OV → Prop} {Q : VK} {E : XK} (c : At K A F0 H0 H F vs xs σ env) (h : C xs R) (k : ∀ z xs' w H' F', R z xs' → At K A F0 H0 H' F' (w :: vs) (z :: xs') σ env → Q w H') : spA K C vs H Q E := by
  have c0 := c
  obtain ⟨st, ⟨⟨a1, a2, h1, h2, nd, off⟩, fh⟩⟩ := c
  refine ⟨(· ∈ a1), F, xs, R, ⟨.refl, ⟨a1, [], h1, .nil, by simpa using (List.nodup_append.mp nd).1, fun a ha => ?_⟩, fh⟩, h, fun z xs' w H' F' r b => k z xs' w H' F' r ?_⟩
  · rw [List.append_nil] at ha
    exact ⟨(off a (List.mem_append_left _ ha)).1, .inl ha⟩
  · obtain ⟨s, q⟩ := Cf.frame (σ' := []) (env' := []) (vs := []) (xs := []) (a2 := []) h1 ⟨.nil, h2⟩ nd off fh b.st b.cf
    have q2 := c0.on s q
    simpa using q2
end
section
variable {X : Cx} {e o : Expr} {es : List Expr} {te : AE} {tr : AR} {pos p : Pos} {i k : Nat} {x : Str} {C : AC} {CX : CXT} {f : Addr} {fd : FuncData} {ps : List Str} {E : XK}
theorem sr_nil : SR X [] aRn := paTo pa_nil fun σ H Q ⟨A, F, env, R, c, h, k⟩ => k _ _ _ _ _ _ _ h .nil c
theorem sr_v (ha : SE X e te) (hr : SR X es tr) (hs : starEach (e :: es) X.env = (false, eval e X.env) :: starEach es X.env := by rfl) : SR X (e :: es) (aRv te tr) := paTo (pa_cons ha hr hs) fun σ H Q ⟨A, F, env, R, c, h, k⟩ =>
  ev c h fun x e1 v H1 F1 h1 c1 => evr c1 h1 fun as e2 us H2 F2 ts ys h2 ar c2 => k _ _ _ _ _ _ _ h2 (.v ar) (by
    have := At.front ar.len c2
    simpa using this)
theorem sr_s (h : PE X e (tVar i)) (hr : SR X es tr) (hs : starEach (e :: es) X.env = (false, eval e X.env) :: starEach es X.env := by rfl) : SR X (e :: es) (aRs i tr) := paTo (pa_cons h hr hs) fun σ H Q ⟨A, F, env, R, c, h, k⟩ => by
  obtain ⟨h0, h⟩ := h
  obtain ⟨v, hv⟩ := getSome c h0
  exact ⟨v, hv, evr c h fun as e2 us H2 F2 ts ys h2 ar c2 => k _ _ _ _ _ _ _ h2 (.s hv ar) (by simpa using c2)⟩
theorem se_call (G : Fn X.prog X.w X.K X.mg X.base CX k f fd ps (spA X.K C)) (gd : X.A.guards = some []) (hr : Room k X.A) (hg : Gl X x) (hm : X.mg x = some (.ref f)) (hk : PySem.W.keepIn X.K (.ref f) = true) (hb : Binds X.K fd ps []) (hx : Passes CX X E) (ha : SR X (e :: es) tr)
    (hdb : (x == ("__debug__" : Str)) = false := by decide)
    (he : starEach (e :: es) X.env = (false, eval e X.env) :: starEach es X.env := by rfl)
    (hpl : (backTo pos (starEach es X.env)).any (·.1) = false := by rfl) :
    SE X (.Call (.Name x p) (e :: es) [] pos) (aCall C tr) := peTo (pe_callG G gd hr hg hm hk hb .nil hx ha hdb he hpl) fun σ H Q ⟨A, F, env, R, c, h, k⟩ => evr c h fun as e1 us H1 F1 ts ys h1 ar c1 => by
  split at h1
  · rename_i p ep
    obtain ⟨zs, e2⟩ := p
    have c2 := tk_ok (us := []) (ys := []) ar ep rfl c1
    simp only [List.append_nil] at c2 ⊢
    exact call_ok c2 h1 fun z xs' w H' F' r b => k _ _ _ _ _ r.2 (pt_ok ar (by rw [r.1]; exact tk_len ar ep) (by
      have q := At.app_comm (vs1 := [w]) (xs1 := [z]) rfl b
      exact q))
  · exact h1.elim
theorem se_call0 (G : Fn X.prog X.w X.K X.mg X.base CX k f fd ps (spA X.K C)) (gd : X.A.guards = some []) (hr : Room k X.A) (hg : Gl X x) (hm : X.mg x = some (.ref f)) (hk : PySem.W.keepIn X.K (.ref f) = true) (hb : Binds X.K fd ps []) (hx : Passes CX X E)
    (hdb : (x == ("__debug__" : Str)) = false := by decide) : SE X (.Call (.Name x p) [] [] pos) (aCall C aRn) := peTo (pe_callG0 G gd hr hg hm hk hb .nil hx hdb) fun σ H Q ⟨A, F, env, R, c, h, k⟩ => by
  have h2 : C [] fun z xs' => xs'.length = 0 ∧ R z (ptA [] xs' env) := h
  refine call_ok (E := E) (vs := [] ++ []) c h2 fun z xs' w H' F' r b => k z env w H' F' ?_ ?_
  · exact r.2
  · have e : xs' = [] := List.eq_nil_of_length_eq_zero r.1
    subst e
    exact b
end
/-! ### a def's promise from its body -/
def finA : List Bool → Nat → List OV → En → Option (List OV)
  | [], _, [], _ => some []
  | true :: bs, i, _ :: xs, e => match e[i]? with
    | some (some x) => (finA bs (i + 1) xs e).map (x :: ·)
    | _ => none
  | false :: bs, i, .d d :: xs, e => (finA bs (i + 1) xs e).map (.d d :: ·)
  | _, _, _, _ => none
/-- what follows a def's body: the value told, and what the names handed in hold then -/
def retD (bs : List Bool) (xs : List OV) (R : OV → List OV → Prop) : AD where
  nx := fun e => match finA bs 0 xs e with | some xs' => R (.d .none) xs' | none => False
  rt := fun z e => match finA bs 0 xs e with | some xs' => R z xs' | none => False
  bk := fun _ => False
  ct := fun _ => False
def pinsOf : List Bool → Nat → List V → List (Nat × V)
  | true :: bs, i, v :: vs => (i, v) :: pinsOf bs (i + 1) vs
  | false :: bs, i, _ :: vs => pinsOf bs (i + 1) vs
  | _, _, _ => []
def beg (n : Nat) (xs : List OV) : En := xs.map some ++ List.replicate (n - xs.length) none
section
variable {K : PySem.W.Frag} {A : Addr → Prop} {F0 F F' : FS} {H0 H H' : Hp} {σ : L2.St} {env : En}
theorem pinsOf_mem : ∀ {bs : List Bool} {i : Nat} {vs : List V} {p : Nat × V}, p ∈ pinsOf bs i vs → i ≤ p.1 ∧ bs[p.1 - i]? = some true ∧ vs[p.1 - i]? = some p.2
  | true :: bs, i, v :: vs, p, h => by
    simp only [pinsOf, List.mem_cons] at h
    rcases h with rfl | h
    · simp
    · obtain ⟨h1, h2, h3⟩ := pinsOf_mem h
      have e : p.1 - i = (p.1 - (i + 1)) + 1 := by omega
      exact ⟨by omega, by rw [e]; simpa using h2, by rw [e]; simpa using h3⟩
  | false :: bs, i, v :: vs, p, h => by
    simp only [pinsOf] at h
    obtain ⟨h1, h2, h3⟩ := pinsOf_mem h
    have e : p.1 - i = (p.1 - (i + 1)) + 1 := by omega
    exact ⟨by omega, by rw [e]; simpa using h2, by rw [e]; simpa using h3⟩
  | [], _, _, _, h => by simp [pinsOf] at h
  | true :: _, _, [], _, h => by simp [pinsOf] at h
  | false :: _, _, [], _, h => by simp [pinsOf] at h
theorem fin_ok (ex : Ex (rs H0 F0) (rs H F)) {A' : Addr → Prop} {F1 : FS} {H1 : Hp} : ∀ {bs : List Bool} {i : Nat} {vs : List V} {xs xs' : List OV} {e : En} {us : List V} {ys : List OV} {a1 : List Addr},
    finA bs i xs e = some xs' → Owns K H0 F0 vs xs a1 → PinOk (pinsOf bs i vs) σ → At K A' F1 H1 H F us ys σ e → ∃ e', At K A' F1 H1 H F (vs ++ us) (xs' ++ ys) σ e'
  | [], i, vs, [], xs', e, us, ys, a1, h, o, p, c => by
    simp only [finA] at h
    cases h
    cases o
    exact ⟨e, c⟩
  | true :: bs, i, vs, x :: xs, xs', e, us, ys, a1, h, o, p, c => by
    cases o with
    | cons g t =>
      rename_i v vs' _ _
      simp only [finA] at h
      split at h
      · rename_i z ez
        obtain ⟨zs, h1, rfl⟩ := Option.map_eq_some_iff.mp h
        have hv : σ[i]? = some (some v) := p (i, v) (by simp [pinsOf])
        have p2 : PinOk (pinsOf bs (i + 1) vs') σ := fun q hq => p q (by simp [pinsOf, hq])
        obtain ⟨v', hv', c1⟩ := c.take ez
        rw [hv] at hv'
        cases hv'
        have eq : ∀ {bs : List Bool} {j : Nat} {xs : List OV} {e : En}, i < j → finA bs j xs (e.set i none) = finA bs j xs e := by
          intro bs
          induction bs with
          | nil => intro j xs e hj; cases xs <;> simp only [finA]
          | cons b bs ih =>
            intro j xs e hj
            cases b with
            | true =>
              cases xs with
              | nil => simp only [finA]
              | cons x xs =>
                simp only [finA]
                rw [List.getElem?_set, if_neg (show i ≠ j by omega), ih (by omega)]
            | false =>
              cases xs with
              | nil => simp only [finA]
              | cons x xs =>
                cases x with
                | d d => simp only [finA]; rw [ih (by omega)]
                | n s zs => simp only [finA]
                | h v => simp only [finA]
        have h2 : finA bs (i + 1) xs (e.set i none) = some zs := by rw [eq (Nat.lt_succ_self i)]; exact h1
        have c2 := At.app_comm (vs1 := [v]) (xs1 := [z]) rfl c1
        obtain ⟨e', c3⟩ := fin_ok ex h2 t p2 c2
        rw [← List.append_assoc, ← List.append_assoc] at c3
        have l : (zs ++ ys).length = (vs' ++ us).length := by have := c3.cf.len; simp at this ⊢; omega
        exact ⟨e', At.app_comm (vs2 := [v]) (xs2 := [z]) l c3⟩
      · cases h
  | false :: bs, i, vs, .d d :: xs, xs', e, us, ys, a1, h, o, p, c => by
    cases o with
    | cons g t =>
      simp only [finA] at h
      obtain ⟨zs, h1, rfl⟩ := Option.map_eq_some_iff.mp h
      cases g with
      | d g =>
        obtain ⟨e', c3⟩ := fin_ok ex h1 t (fun q hq => p q (by simpa [pinsOf] using hq)) c
        exact ⟨e', c3.push (dt_ex ex g)⟩
  | false :: bs, i, vs, .n s zs :: xs, xs', e, us, ys, a1, h, o, p, c => by simp only [finA] at h; cases h
  | false :: bs, i, vs, .h _ :: xs, xs', e, us, ys, a1, h, o, p, c => by simp only [finA] at h; cases h
  | [], i, vs, x :: xs, xs', e, us, ys, a1, h, o, p, c => by simp only [finA] at h; cases h
  | true :: bs, i, vs, [], xs', e, us, ys, a1, h, o, p, c => by simp only [finA] at h; cases h
  | false :: bs, i, vs, [], xs', e, us, ys, a1, h, o, p, c => by simp only [finA] at h; cases h
theorem At.forget {vs : List V} {xs : List OV} (c : At K A F0 H0 H F vs xs σ env) : At K A F0 H0 H F vs xs [] [] := by
  obtain ⟨st, ⟨⟨a1, a2, h1, h2, nd, off⟩, fh⟩⟩ := c
  exact ⟨st, ⟨⟨a1, [], h1, .nil, by simpa using (List.nodup_append.mp nd).1, fun a ha => off a (List.mem_append_left _ (by simpa using ha))⟩, fh⟩⟩
theorem Oe.start : ∀ {vs : List V} {xs : List OV} {as : List Addr} (n : Nat), Owns K H F vs xs as → Oe K H F (vs.map some ++ List.replicate n none) (xs.map some ++ List.replicate n none) as
  | _, _, _, n, .nil => by
    induction n with
    | zero => exact .nil
    | succ n ih => exact .skip ih
  | _, _, _, n, .cons h t => .cons h (Oe.start n t)
theorem At.begin {vs : List V} {xs : List OV} (c : At K A F0 H0 H F vs xs [] []) (n : Nat) : At K A F0 H0 H F [] [] (vs.map some ++ List.replicate n none) (xs.map some ++ List.replicate n none) := by
  obtain ⟨st, ⟨⟨a1, a2, h1, h2, nd, off⟩, fh⟩⟩ := c
  cases h2
  rw [List.append_nil] at nd off
  exact ⟨st, ⟨⟨[], a1, .nil, Oe.start n h1, nd, off⟩, fh⟩⟩
end
section
variable {P : Program} {w : World} {K : PySem.W.Frag} {mg : Str → Option Value} {base : Heap} {k : Nat} {f : Addr} {fd : FuncData} {ps : List Str} {C : AC} {x qual : Str} {st : Stmt} {N : List Str}
theorem mkA (F : Fun K x qual st f fd) (S : FnScope N ps (defScope st)) (bs : List Bool) {t : AS}
    (body : ∀ (cdv : Value) (A : Around) (outer : List Env) (s : Shared) (H : Hp) (E : XK) (vs : List V),
      (A.deeper (envOfC qual (defScope st) s.heap.objs.size f cdv)).guards = some [] →
      Room k (A.deeper (envOfC qual (defScope st) s.heap.objs.size f cdv)) →
      SSs (cxOf CX0 P w K mg base N qual (defScope st) f cdv A outer s H E).nox (pinsOf bs 0 vs) (defBody st) t)
    (plain : ∀ xs R, C xs R → xs.length = ps.length ∧ t (retD bs xs R) (beg N.length xs)) : Fn P w K mg base CX0 (k + 1) f fd ps (spA K C) := by
  refine Grd.mk F S (fun vs H Q E h => ?_) (fun cdv A outer s H vs Q E gd hr h => ?_)
  · obtain ⟨A, F, xs, R, c, h, _⟩ := h
    rw [← c.cf.len]
    exact (plain xs R h).1
  · refine ⟨_, body cdv A outer s H E vs gd hr, ?_⟩
    obtain ⟨B, F1, xs, R, c, h, k⟩ := h
    obtain ⟨l, h⟩ := plain xs R h
    have lv := c.cf.len
    have e1 : start N vs = vs.map some ++ List.replicate (N.length - vs.length) none := rfl
    have c1 := c.begin (N.length - xs.length)
    rw [e1, ← lv]
    obtain ⟨a1, a2, o1, o2, nd, off⟩ := c.cf.ex
    have pin : PinOk (pinsOf bs 0 vs) (vs.map some ++ List.replicate (N.length - xs.length) none) := fun p hp => by
      obtain ⟨_, _, h3⟩ := pinsOf_mem hp
      have h3 : vs[p.1]? = some p.2 := h3
      have hl := (List.getElem?_eq_some_iff.mp h3).1
      rw [List.getElem?_append_left (by simpa using hl), List.getElem?_map, h3]
      rfl
    refine ⟨B, F1, _, retD bs xs R, pin, c1, h, ⟨fun env' σ' H' F' a b z => ?_, fun y env' v σ' H' F' a b z => ?_, fun _ _ _ _ a => a.elim, fun _ _ _ _ a => a.elim⟩⟩
    · simp only [retD] at a
      split at a
      · rename_i xs' ex
        obtain ⟨e', q⟩ := fin_ok z.st.fr ex o1 b (z.push .non)
        have q2 := q.forget
        have lx : xs'.length = vs.length := by have := q2.cf.len; simp at this; omega
        exact k _ _ _ _ _ a (At.app_comm (vs2 := [V.non]) (xs2 := [OV.d .none]) lx q2)
      · exact a.elim
    · simp only [retD] at a
      split at a
      · rename_i xs' ex
        obtain ⟨e', q⟩ := fin_ok z.st.fr ex o1 b z
        have q2 := q.forget
        have lx : xs'.length = vs.length := by have := q2.cf.len; simp at this; omega
        exact k _ _ _ _ _ a (At.app_comm (vs2 := [v]) (xs2 := [y]) lx q2)
      · exact a.elim
end
end Ow

/-! Ow: zip and enumerate over lists, tuples, texts in any mix. -/
namespace Ow
open PySem L2 Grd PyProof.Rows
open Evl (Ex ex_t ex_l ex_rd)
inductive Src where
  | lst (a : Addr) | tup (a : Addr) | str (z : Str) (t : Tok)
def Src.fp : Src → List Addr
  | .lst a => [a] | .tup a => [a] | .str _ _ => []
def Src.val : Src → Value
  | .lst a => .ref a | .tup a => .ref a | .str z t => .str z t
def Src.obj : Src → Obj
  | .lst a => { cls := .type "list_iterator", data := .fields #[.ref a, .int 0 0] }
  | .tup a => { cls := .type "tuple_iterator", data := .fields #[.ref a, .int 0 0] }
  | .str z t => { cls := .type (strIterType z), data := .fields #[.str z t, .int 0 0] }
def Src.st (s : Src) (it : Addr) (i : Nat) (h : Heap) : Prop := match s with
  | .lst a => h.IsListIter it a i
  | .tup a => h.IsTupleIter it a i
  | .str z t => h.IsStrIter it (strIterType z) z t i
def Src.has (K : PySem.W.Frag) (H : Hp) (s : Src) (ws : List V) : Prop := match s with
  | .lst a => SqL K H a ws
  | .tup a => SqT K H a ws
  | .str z _ => ws = z.cps.toList.map fun c => .str ⟨#[c]⟩
section
variable {X : Cx} {pins : List (Addr × Obj)} {σ : L2.St} {H : Hp} {s : Shared} {src : Src} {ws : List V}
theorem Src.inj {us : List V} (I : Inv X pins σ H s) (h : src.has X.K H ws) (h' : src.has X.K H us) : ws = us := by
  cases src with
  | lst a => exact I.list_inj h h'
  | tup a => exact I.tuple_inj h h'
  | str z t => exact h.trans h'.symm
theorem Src.st_keep {it : Addr} {i : Nat} {h h' : Heap} (st : src.st it i h) (k : ∀ o, h.get? it = some o → h'.get? it = some o) : src.st it i h' := by
  cases src with
  | lst a => exact Heap.IsListIter.at st k
  | tup a => exact Heap.IsTupleIter.at st k
  | str z t => obtain ⟨o, ho, r⟩ := st; exact ⟨o, k o ho, r⟩
theorem Src.st_obj {it : Addr} {i : Nat} {h : Heap} (st : src.st it i h) : ∃ o, h.get? it = some o ∧ ∀ v, o.data ≠ .cell v := by
  cases src with
  | lst a => obtain ⟨o, e, c, d⟩ := st; exact ⟨o, e, fun v z => by rw [d] at z; cases z⟩
  | tup a => obtain ⟨o, e, c, d⟩ := st; exact ⟨o, e, fun v z => by rw [d] at z; cases z⟩
  | str z t => obtain ⟨o, e, c, d⟩ := st; exact ⟨o, e, fun v z => by rw [d] at z; cases z⟩
theorem Src.fp_lt (I : Inv X pins σ H s) (h : src.has X.K H ws) : ∀ b ∈ src.fp, b < s.heap.objs.size := by
  cases src with
  | lst a =>
    obtain ⟨its, rv, p, _⟩ := I.list h
    intro b hb
    simp only [Src.fp, List.mem_singleton] at hb
    subst hb
    exact p.lt
  | tup a =>
    obtain ⟨its, rv, ⟨o, e, _⟩, _⟩ := I.tuple h
    intro b hb
    simp only [Src.fp, List.mem_singleton] at hb
    subst hb
    exact Heap.lt_size e
  | str z t => intro b hb; simp [Src.fp] at hb
/-- what its iterator draws -/
theorem Src.draws {A : Around} (hh : A.handled = none) (I : Inv X pins σ H s) (h : src.has X.K H ws) (it : Addr) (hne : it ∉ src.fp) : ∃ (P : Nat → Value → Prop) (con : Heap → Prop), con s.heap ∧
    Draws X.prog X.w A it (it :: src.fp) ws.length P (fun i h => src.st it i h ∧ con h) ∧ ∀ i v, P i v → ∃ x, ws[i]? = some x ∧ RelV x v := by
  cases src with
  | lst a =>
    obtain ⟨its, rv, p, _⟩ := I.list h
    refine ⟨fun i v => its.toArray[i]? = some v, fun h => h.IsList a its.toArray, p.isList, ?_, fun i v e => ?_⟩
    · have l : ws.length = its.toArray.size := by rw [List.size_toArray]; exact rv.length
      rw [l]
      exact Draws.list hh it a (fun e => hne (by simp [Src.fp, e])) its.toArray
    · have e : its[i]? = some v := by simpa using e
      have lt : i < ws.length := by rw [rv.length]; exact (List.getElem?_eq_some_iff.mp e).1
      obtain ⟨u, hu, ru⟩ := rv.get (List.getElem?_eq_getElem lt)
      rw [e] at hu
      cases hu
      exact ⟨_, List.getElem?_eq_getElem lt, ru⟩
  | tup a =>
    obtain ⟨its, rv, p, _⟩ := I.tuple h
    refine ⟨fun i v => its.toArray[i]? = some v, fun h => h.IsTuple a its.toArray, p, ?_, fun i v e => ?_⟩
    · have l : ws.length = its.toArray.size := by rw [List.size_toArray]; exact rv.length
      rw [l]
      exact Draws.tuple hh it a (fun e => hne (by simp [Src.fp, e])) its.toArray
    · have e : its[i]? = some v := by simpa using e
      have lt : i < ws.length := by rw [rv.length]; exact (List.getElem?_eq_some_iff.mp e).1
      obtain ⟨u, hu, ru⟩ := rv.get (List.getElem?_eq_getElem lt)
      rw [e] at hu
      cases hu
      exact ⟨_, List.getElem?_eq_getElem lt, ru⟩
  | str z t =>
    have h : ws = z.cps.toList.map fun c => .str ⟨#[c]⟩ := h
    subst h
    refine ⟨fun i v => ∃ c u, z.cps[i]? = some c ∧ v = .str ⟨#[c]⟩ u, fun _ => True, trivial, ?_, fun i v e => ?_⟩
    · have D := Draws.text (prog := X.prog) (w := X.w) hh it z t
      refine ⟨fun i h st => D.live i h st.1, fun i h h' st k => ⟨D.frame i h h' st.1 k, trivial⟩, fun i s Q E hi st hQ => D.item i s Q E (by simpa using hi) st.1 fun x h' tk p st' sb => hQ x h' tk p ⟨st', trivial⟩ sb, fun s Q E st hE => D.done s Q E (by have q := st.1; simp only [Src.st, List.length_map, Array.length_toList] at q; exact q) hE⟩
    · obtain ⟨c, u, e1, rfl⟩ := e
      refine ⟨.str ⟨#[c]⟩, ?_, u, rfl⟩
      rw [List.getElem?_map, Array.getElem?_toList, e1]
      rfl
theorem Src.begins (I : Inv X pins σ H s) (h : src.has X.K H ws) : ∃ Hh : Heap → Prop, Begins src.val src.obj Hh ∧ Hh s.heap := by
  cases src with
  | lst a =>
    obtain ⟨its, rv, p, _⟩ := I.list h
    exact ⟨_, begins_list a its.toArray, p.isList⟩
  | tup a =>
    obtain ⟨its, rv, p, _⟩ := I.tuple h
    exact ⟨_, begins_tuple a its.toArray, p⟩
  | str z t => exact ⟨_, begins_text z t, trivial⟩
theorem Src.st0 {it : Addr} {h : Heap} (e : h.get? it = some src.obj) : src.st it 0 h := by
  cases src with
  | lst a => exact ⟨_, e, rfl, rfl⟩
  | tup a => exact ⟨_, e, rfl, rfl⟩
  | str z t => exact ⟨_, e, rfl, rfl⟩
end
/-! ### zip of two -/
def Itz2 (K : PySem.W.Frag) (a b : Src) : It :=
  ⟨fun i H => ∃ xs ys : List V, a.has K H xs ∧ b.has K H ys ∧ i < xs.length ∧ i < ys.length,
    fun i H v H' => ∃ T x y, v = .ref T ∧ H T = none ∧ H' = upd H T (.tup [x, y]) ∧ (∀ xs, a.has K H xs → xs[i]? = some x) ∧ ∀ ys, b.has K H ys → ys[i]? = some y,
    fun i H => ∃ xs ys : List V, a.has K H xs ∧ b.has K H ys ∧ i ≤ xs.length ∧ i ≤ ys.length ∧ (i = xs.length ∨ i = ys.length)⟩
theorem turn_zip2 {P : Program} {w : World} {K : PySem.W.Frag} {elts : List Expr} {kk : Nat} {tpos : Pos} {a b : Src} {z TI TO i1 i2 : Addr} (D : ZipSep2 z TI TO i1 i2 (i1 :: a.fp) (i2 :: b.fp)) (n1 : i1 ∉ a.fp) (n2 : i2 ∉ b.fp) :
    Turn P w K (.Tuple elts kk tpos) (Itz2 K a b) [z, TI, TO, i1, i2] z (fun i h => IsZip h z TI TO .none ∧ IsTupOf2 h TI (.ref i1) (.ref i2) ∧ (∃ x y, IsTupOf2 h TO x y) ∧ a.st i1 i h ∧ b.st i2 i h) where
  mem := by simp
  obj := fun i h st c hc => by
    obtain ⟨hz, hTI, ⟨x, y, hTO⟩, s1, s2⟩ := st
    have e' : c = z ∨ c = TI ∨ c = TO ∨ c = i1 ∨ c = i2 := by simpa using hc
    rcases e' with q | q | q | q | q
    · rw [q]; exact ⟨_, hz, fun v q => nomatch q⟩
    · rw [q]; exact ⟨_, hTI, fun v q => nomatch q⟩
    · rw [q]; exact ⟨_, hTO, fun v q => nomatch q⟩
    · rw [q]; exact (Src.st_obj s1)
    · rw [q]; exact (Src.st_obj s2)
  keep := fun i h h' st k => by
    obtain ⟨hz, hTI, ⟨x, y, hTO⟩, h1, h2⟩ := st
    exact ⟨k z (by simp) _ hz, k TI (by simp) _ hTI, ⟨x, y, k TO (by simp) _ hTO⟩, Src.st_keep h1 fun o q => k i1 (by simp) o q, Src.st_keep h2 fun o q => k i2 (by simp) o q⟩
  item := by
    intro X hP hw hK hc i pins s σ H E I hf st hg
    subst hP hw hK
    obtain ⟨hz, hTI, ⟨x0, y0, hTO⟩, h1, h2⟩ := st
    obtain ⟨xs, ys, hqx, hqy, l1, l2⟩ := hg
    obtain ⟨P1, c1, k1, D1, r1⟩ := Src.draws (A := X.A.in1) (I.ok.hd hc) I hqx i1 n1
    obtain ⟨P2, c2, k2, D2, r2⟩ := Src.draws (A := X.A.in1) (I.ok.hd hc) I hqy i2 n2
    have hzl : z < s.heap.objs.size := Heap.lt_size hz
    refine wpAny_pyNext_zipD2_item D D1 D2 hz hTI hTO ⟨h1, k1⟩ ⟨h2, k2⟩ l1 l2 fun u1 u2 h' tk p1 p2 z' TO' h1' h2' hT hsz hk => ?_
    refine ⟨_, rfl, wpAny_letOwnedTupleGo_zip (s := { s with heap := h', toks := tk }) z' fun h'' z'' sb => ?_⟩
    obtain ⟨x, hx, ru1⟩ := r1 _ _ p1
    obtain ⟨y, hy, ru2⟩ := r2 _ _ p2
    have hT2 : h''.get? s.heap.objs.size = some { cls := .type "tuple", data := .seq #[u1, u2] } := (sb.2 _ (Nat.ne_of_gt hzl)).trans hT
    have new : ObjOk X.prog X.w (upd H s.heap.objs.size (.tup [x, y])) h'' s.heap.objs.size (.tup [x, y]) :=
      ⟨by show 2 ≤ sizeLine; decide, [u1, u2], .cons ru1 (.cons ru2 .nil), ⟨_, hT2, rfl, _, rfl⟩⟩
    have I1 : Inv X pins σ (upd H s.heap.objs.size (.tup [x, y])) { s with heap := h'', toks := tk } :=
      I.turnedNew (t' := tk) (ch := [z, TI, TO, i1, i2]) (fun c o hb q => (sb.2 c (fun q' => hb (by simp [q']))).trans (hk c o (fun q' => hb (by simp [q'])) (fun q' => hb (by simp [q'])) (fun q' => hb (by simp [q'])) (fun q' => hb (by simp [q'])) q)) hf (Nat.le_refl _) new
    refine ⟨.ref s.heap.objs.size, _, I1, rfl, ⟨_, x, y, rfl, I.hok.fresh (Nat.le_refl _), rfl, fun l hl => by rw [Src.inj I hl hqx]; exact hx, fun l hl => by rw [Src.inj I hl hqy]; exact hy⟩, ⟨z'', ?_, ⟨u1, u2, ?_⟩, ?_, ?_⟩, fun c hcm => ?_⟩
    · exact (sb.2 _ D.TIz).trans (hk _ _ D.TIz D.TITO D.TIi1 D.TIi2 hTI)
    · exact (sb.2 _ D.TOz).trans TO'
    · exact Src.st_keep h1'.1 fun o q => (sb.2 _ (Ne.symm D.zi1)).trans q
    · exact Src.st_keep h2'.1 fun o q => (sb.2 _ (Ne.symm D.zi2)).trans q
    · have hlt : c < s.heap.objs.size := by
        have e' : c = z ∨ c = TI ∨ c = TO ∨ c = i1 ∨ c = i2 := by simpa using hcm
        rcases e' with q | q | q | q | q
        · rw [q]; exact hzl
        · rw [q]; exact Heap.lt_size hTI
        · rw [q]; exact Heap.lt_size hTO
        · rw [q]; obtain ⟨_, e1, _⟩ := (Src.st_obj h1); exact Heap.lt_size e1
        · rw [q]; obtain ⟨_, e2, _⟩ := (Src.st_obj h2); exact Heap.lt_size e2
      rw [upd_ne (Nat.ne_of_lt hlt)]
      exact (hf c hcm).1
  done := by
    intro X hP hw hK hc i pins s σ H E I hf st hg
    subst hP hw hK
    obtain ⟨hz, hTI, ⟨x0, y0, hTO⟩, h1, h2⟩ := st
    obtain ⟨xs, ys, hqx, hqy, l1, l2, hend⟩ := hg
    obtain ⟨P1, c1, k1, D1, r1⟩ := Src.draws (A := X.A.in1) (I.ok.hd hc) I hqx i1 n1
    obtain ⟨P2, c2, k2, D2, r2⟩ := Src.draws (A := X.A.in1) (I.ok.hd hc) I hqy i2 n2
    exact wpAny_pyNext_zipD2_end D D1 D2 hz hTI hTO ⟨h1, k1⟩ ⟨h2, k2⟩ l1 l2 hend fun h' tk hk => ⟨rfl, I.turnedL (t' := tk) (ch := [z, TI, TO, i1, i2]) (fun c o hb q =>
      hk c o (fun q' => hb (by simp [q'])) (fun q' => hb (by simp [q'])) (fun q' => hb (by simp [q'])) (fun q' => hb (by simp [q'])) q) hf⟩
  self := fun A i s Q E st h => wpAny_pyIter_zip st.1 h
def Src.rel (s : Src) (v : V) : Prop := match s with
  | .lst a => v = .ref a | .tup a => v = .ref a | .str z _ => v = .str z
theorem Src.relV {s : Src} {v : V} (h : s.rel v) : (∀ u, RelV v u → ∃ s' : Src, s'.val = u ∧ s'.rel v ∧ ∀ K H ws, s.has K H ws → s'.has K H ws) := by
  intro u r
  cases s with
  | lst a => cases (show v = .ref a from h); exact ⟨.lst a, r.symm, rfl, fun _ _ _ q => q⟩
  | tup a => cases (show v = .ref a from h); exact ⟨.tup a, r.symm, rfl, fun _ _ _ q => q⟩
  | str z t => cases (show v = .str z from h); obtain ⟨t', rfl⟩ := r; exact ⟨.str z t', rfl, rfl, fun _ _ _ q => q⟩
def iZip2 (K : PySem.W.Frag) (ta : TA) : TI := fun σ H R => ta σ H fun vs H1 => ∃ v1 v2, vs = [v1, v2] ∧ ∃ (a b : Src) (xs ys : List V), a.rel v1 ∧ b.rel v2 ∧ a.has K H1 xs ∧ b.has K H1 ys ∧
  ∀ a' b' : Src, (∀ K H ws, a.has K H ws → a'.has K H ws) → (∀ K H ws, b.has K H ws → b'.has K H ws) → R (Itz2 K a' b') H1
theorem pi_zip2 {X : Cx} {e e2 : Expr} {ta : TA} {p pos tpos : Pos} {elts : List Expr} {kk : Nat} (hg : Gl X "zip") (hm : X.mg "zip" = none) (ha : PA X [e, e2] ta)
    (hs : starEach [e, e2] X.env = (false, eval e X.env) :: starEach [e2] X.env := by rfl) (hpl : (backTo pos (starEach [e2] X.env)).any (·.1) = false := by rfl) :
    PI X (.Tuple elts kk tpos) (.Call (.Name "zip" p) [e, e2] [] pos) (iZip2 X.K ta) := by
  refine ⟨fun pins s σ H R I h => ?_⟩
  refine Call_ (ld_blt I hg hm PyProof.Rows.boot_zip (PyProof.Rows.callWith_type1 (thn (ha.run pos pins s σ H _ I h) fun us s1 ⟨vs, H1, I1, r1, q1⟩ => ?_) hs hpl))
  obtain ⟨v1, v2, rfl, a0, b0, xs, ys, e1, e2, hx, hy, q⟩ := q1
  cases r1 with
  | cons r rr =>
    cases rr with
    | cons r' rr =>
      cases rr
      obtain ⟨a, rfl, _, ka⟩ := Src.relV e1 _ r
      obtain ⟨b, rfl, _, kb⟩ := Src.relV e2 _ r'
      have hx := ka _ _ _ hx
      have hy := kb _ _ _ hy
      obtain ⟨Ha, Ba, ha⟩ := Src.begins I1 hx
      obtain ⟨Hb, Bb, hb⟩ := Src.begins I1 hy
      have la := Src.fp_lt I1 hx
      have lb := Src.fp_lt I1 hy
      refine zip_begins2 Ba Bb ha hb fun h' hz hTI hTO g1 g2 hsz hk => wpAny_pyIter_zip hz ?_
      have I2 : Inv X pins σ H1 { s1 with heap := h' } := I1.kept (t' := s1.toks) hk
      refine ⟨s1.heap.objs.size + 4, [s1.heap.objs.size + 4, s1.heap.objs.size + 2, s1.heap.objs.size + 3, s1.heap.objs.size, s1.heap.objs.size + 1], _, _, H1, rfl, I2,
        turn_zip2 (zip_sep2 la lb) (fun z => Nat.lt_irrefl _ (la _ z)) (fun z => Nat.lt_irrefl _ (Nat.lt_of_succ_lt (lb _ z))), ⟨hz, hTI, ⟨_, _, hTO⟩, Src.st0 g1, Src.st0 g2⟩, fun c hcm => ?_, q a b ka kb⟩
      have e' : c = s1.heap.objs.size + 4 ∨ c = s1.heap.objs.size + 2 ∨ c = s1.heap.objs.size + 3 ∨ c = s1.heap.objs.size ∨ c = s1.heap.objs.size + 1 := by simpa using hcm
      have hle : s1.heap.objs.size ≤ c := by
        rcases e' with z | z | z | z | z
        · rw [z]; exact Nat.le_add_right _ _
        · rw [z]; exact Nat.le_add_right _ _
        · rw [z]; exact Nat.le_add_right _ _
        · rw [z]; exact Nat.le_refl _
        · rw [z]; exact Nat.le_add_right _ _
      exact I1.fpOk hle (I1.hok.fresh hle)
/-! ### enumerate -/
set_option maxHeartbeats 1000000 in
theorem meets_enum1 {v : Value} {o : Obj} {H : Heap → Prop} (B : Begins v o H) :
    Meets (Builtin.«enumerate.__new__» ⟨[.type "enumerate", v], []⟩) (fun _ R s => H s.heap ∧
      R (.ok (.ret (.ref (s.heap.push o).objs.size))) { s with heap := (s.heap.push o).push { cls := .type "enumerate", data := .fields #[.none, .bool false, .ref s.heap.objs.size, rawInt 0, .none, .none] } }) :=
  .of_wp fun prog w A R s h => by
    obtain ⟨hp, g, d, tk, os⟩ := s; obtain ⟨h1, h⟩ := h
    have hsub := sub_enumerate
    have q1 : ∀ {A' : Around} {E : Value → Shared → Prop} {Q : Value → Shared → Prop}, Q (.ref hp.objs.size) ⟨hp.push o, g, d, tk, os⟩ → wpAny (model prog w) A' (pyIter v) Q E ⟨hp, g, d, tk, os⟩ :=
      fun q => B.iter prog w _ _ ⟨hp, g, d, tk, os⟩ _ h1 q
    wp_walk using q1
    refine wpAny_stack_any fun st => wpAny_pure ?_
    split
    · rename_i c _ _ _ _ _
      cases (c == Value.type "enumerate")
      · wp_walk using q1
        exact ⟨_, rfl, h⟩
      · wp_walk using q1
        exact ⟨_, rfl, h⟩
    · wp_walk using q1
      exact ⟨_, rfl, h⟩
theorem enum_begins1 {prog : Program} {w : World} {A : Around} {E : Value → Shared → Prop} {s : Shared} {v : Value} {o : Obj} {H : Heap → Prop} {Q : Value → Shared → Prop} (B : Begins v o H) (h1 : H s.heap)
    (h : ∀ h', IsEnum h' (s.heap.objs.size + 1) s.heap.objs.size 0 .none → h'.get? s.heap.objs.size = some o → h'.objs.size = s.heap.objs.size + 2 →
      (∀ b o, s.heap.get? b = some o → h'.get? b = some o) → Q (.ref (s.heap.objs.size + 1)) { s with heap := h' }) :
    wpAny (model prog w) A (call (.type "enumerate") [v]) Q E s := by
  refine callType_new F.called_enumerate (by decide) (F.typeCall_enumerate_1 _) (F.newCall_enumerate_1 _) (fun obj => F.args_object_init_2 obj _) F.entry_enumerate_new
    (meets_enum1 B) ⟨h1, ?_⟩
  have hz : (s.heap.push o).objs.size = s.heap.objs.size + 1 := Heap.size_push ..
  show _ ∧ _
  rw [hz]
  have he : IsEnum ((s.heap.push o).push { cls := .type "enumerate", data := .fields #[.none, .bool false, .ref s.heap.objs.size, rawInt 0, .none, .none] }) (s.heap.objs.size + 1) s.heap.objs.size 0 .none := by
    have := Heap.get?_push_size (s.heap.push o) (o := { cls := .type "enumerate", data := .fields #[.none, .bool false, .ref s.heap.objs.size, rawInt 0, .none, .none] }) rfl
    rw [hz] at this; exact this
  refine ⟨⟨_, he, rfl⟩, h _ he (Heap.get?_push_of_some _ (Heap.get?_push_size _ B.free)) (by rw [Heap.size_push, hz]) fun b o x => Heap.get?_push_of_some _ (Heap.get?_push_of_some _ x)⟩
def ItE (K : PySem.W.Frag) (a : Src) : It :=
  ⟨fun i H => ∃ xs : List V, a.has K H xs ∧ i < xs.length,
    fun i H v H' => ∃ T x, v = .ref T ∧ H T = none ∧ H' = upd H T (.tup [.int (i : Nat), x]) ∧ ∀ xs, a.has K H xs → xs[i]? = some x,
    fun i H => ∃ xs : List V, a.has K H xs ∧ i = xs.length⟩
theorem turn_enumS {P : Program} {w : World} {K : PySem.W.Frag} {elts : List Expr} {kk : Nat} {tpos : Pos} {a : Src} {e it : Addr} (hei : e ≠ it) (hef : e ∉ a.fp) (n1 : it ∉ a.fp) :
    Turn P w K (.Tuple elts kk tpos) (ItE K a) [e, it] e (fun i h => (∃ old, IsEnum h e it ((i : Nat) : Int) old) ∧ a.st it i h) where
  mem := by simp
  obj := fun i h st b hb => by
    obtain ⟨⟨old, he⟩, s1⟩ := st
    have e' : b = e ∨ b = it := by simpa using hb
    rcases e' with z | z
    · rw [z]; exact ⟨_, he, fun v q => nomatch q⟩
    · rw [z]; exact (Src.st_obj s1)
  keep := fun i h h' st k => let ⟨⟨old, he⟩, hi⟩ := st; ⟨⟨old, k e (by simp) _ he⟩, Src.st_keep hi fun o q => k it (by simp) o q⟩
  item := by
    intro X hP hw hK hc i pins s σ H E I hf st hg
    subst hP hw hK
    obtain ⟨⟨old, he⟩, hit⟩ := st
    obtain ⟨xs, hq, hx⟩ := hg
    obtain ⟨P1, c1, k1, D1, r1⟩ := Src.draws (A := X.A.in1) (I.ok.hd hc) I hq it n1
    have hel : e < s.heap.objs.size := Heap.lt_size he
    have hil : it < s.heap.objs.size := by obtain ⟨_, q, _⟩ := (Src.st_obj hit); exact Heap.lt_size q
    have hef2 : e ∉ it :: a.fp := fun z => by
      rcases List.mem_cons.mp z with z | z
      · exact hei z
      · exact hef z
    refine wpAny_pyNext_enum_itemD D1 he ⟨hit, k1⟩ hx hei hef2 fun u h' tk p1 ho hit' hT hsz hk => ?_
    obtain ⟨x, hxi, ru⟩ := r1 _ _ p1
    refine ⟨_, rfl, wpAny_letOwnedTupleGo_enum (s := { s with heap := h', toks := tk + 1 }) ho fun h'' he' sb => ?_⟩
    have hT2 : h''.get? s.heap.objs.size = some { cls := .type "tuple", data := .seq #[.int i tk, u] } := (sb.2 _ (Nat.ne_of_gt hel)).trans hT
    have new : ObjOk X.prog X.w (upd H s.heap.objs.size (.tup [.int (i : Nat), x])) h'' s.heap.objs.size (.tup [.int (i : Nat), x]) :=
      ⟨by show 2 ≤ sizeLine; decide, [.int i tk, u], .cons ⟨_, rfl⟩ (.cons ru .nil), ⟨_, hT2, rfl, _, rfl⟩⟩
    have I1 : Inv X pins σ (upd H s.heap.objs.size (.tup [.int (i : Nat), x])) { s with heap := h'', toks := tk + 1 } :=
      I.turnedNew (ch := [e, it]) (fun b ob hb q => (sb.2 b (fun z => hb (by simp [z]))).trans (hk b ob (fun z => hb (by simp [z])) (fun z => hb (by simp [z])) q)) hf (Nat.le_refl _) new
    refine ⟨.ref s.heap.objs.size, _, I1, rfl, ⟨_, x, rfl, I.hok.fresh (Nat.le_refl _), rfl, fun ys hy => by rw [Src.inj I hy hq]; exact hxi⟩, ⟨⟨u, ?_⟩, Src.st_keep hit'.1 fun o q => (sb.2 it (Ne.symm hei)).trans q⟩, fun b hb => ?_⟩
    · have e1 : ((i + 1 : Nat) : Int) = (i : Int) + 1 := by omega
      rw [e1]; exact he'
    · have hb' : b < s.heap.objs.size := by
        have e' : b = e ∨ b = it := by simpa using hb
        rcases e' with z | z
        · rw [z]; exact hel
        · rw [z]; exact hil
      rw [upd_ne (Nat.ne_of_lt hb')]
      exact (hf b hb).1
  done := by
    intro X hP hw hK hc i pins s σ H E I hf st hg
    subst hP hw hK
    obtain ⟨⟨old, he⟩, hit⟩ := st
    obtain ⟨xs, hq, hx⟩ := hg
    subst hx
    obtain ⟨P1, c1, k1, D1, r1⟩ := Src.draws (A := X.A.in1) (I.ok.hd hc) I hq it n1
    obtain ⟨f0, f1, f2, f3, f4, f5⟩ := hf it (by simp)
    exact wpAny_pyNext_enum_endD D1 he ⟨hit, k1⟩ fun h' eb => ⟨rfl, I.turned (t' := s.toks) (fun b o hb q => eb b o hb q) f0 f1 f3 f4 f5⟩
  self := fun A i s Q E st h => let ⟨⟨_, he⟩, _⟩ := st; wpAny_pyIter_enum he h
def iEnumS (K : PySem.W.Frag) (ta : TA) : TI := fun σ H R => ta σ H fun vs H1 => ∃ v1, vs = [v1] ∧ ∃ (a : Src) (xs : List V), a.rel v1 ∧ a.has K H1 xs ∧
  ∀ a' : Src, (∀ K H ws, a.has K H ws → a'.has K H ws) → R (ItE K a') H1
theorem pi_enumS {X : Cx} {e : Expr} {ta : TA} {p pos tpos : Pos} {elts : List Expr} {kk : Nat} (hg : Gl X "enumerate") (hm : X.mg "enumerate" = none) (ha : PA X [e] ta) (hs : starEach [e] X.env = [(false, eval e X.env)] := by rfl) :
    PI X (.Tuple elts kk tpos) (.Call (.Name "enumerate" p) [e] [] pos) (iEnumS X.K ta) := by
  refine ⟨fun pins s σ H R I h => ?_⟩
  refine Call_ (ld_blt I hg hm boot_enumerate (PyProof.Rows.callWith_type1 (thn (ha.run pos pins s σ H _ I h) fun us s1 ⟨vs, H1, I1, r1, q1⟩ => ?_) hs rfl))
  obtain ⟨v1, rfl, a0, xs, e1, hx, q⟩ := q1
  cases r1 with
  | cons r rr =>
    cases rr
    obtain ⟨a, rfl, _, ka⟩ := Src.relV e1 _ r
    have hx := ka _ _ _ hx
    obtain ⟨Ha, Ba, ha⟩ := Src.begins I1 hx
    have la := Src.fp_lt I1 hx
    refine enum_begins1 Ba ha fun h' he g1 hsz hk => wpAny_pyIter_enum he ?_
    have I2 : Inv X pins σ H1 { s1 with heap := h' } := I1.kept (t' := s1.toks) hk
    refine ⟨s1.heap.objs.size + 1, [s1.heap.objs.size + 1, s1.heap.objs.size], _, _, H1, rfl, I2, turn_enumS (a := a) (Nat.succ_ne_self _) (fun z => Nat.lt_irrefl _ (Nat.lt_of_succ_lt (la _ z))) (fun z => Nat.lt_irrefl _ (la _ z)), ⟨⟨.none, he⟩, Src.st0 g1⟩, fun b hb => ?_, q a ka⟩
    have e' : b = s1.heap.objs.size + 1 ∨ b = s1.heap.objs.size := by simpa using hb
    have hle : s1.heap.objs.size ≤ b := by
      rcases e' with z | z
      · rw [z]; exact Nat.le_add_right _ _
      · rw [z]; exact Nat.le_refl _
    exact I1.fpOk hle (I1.hok.fresh hle)
/-! ### over plain data -/
def sfd (x : OV) : Option (List PyData) := (frz x).bind sit
def zipD (xs ys : List PyData) : List PyData := (xs.zip ys).map fun p => .tuple [p.1, p.2]
def enumD (xs : List PyData) : List PyData := xs.zipIdx.map fun p => .tuple [.int p.2, p.1]
def aZip2 (ta tb : AE) : AI := fun env Q => ta env fun x e1 => tb e1 fun y e2 => match sfd x, sfd y with
  | some xs, some ys => Q (zipD xs ys) e2
  | _, _ => False
def aEnum (ta : AE) : AI := fun env Q => ta env fun x e1 => match sfd x with
  | some xs => Q (enumD xs) e1
  | none => False
section
variable {K : PySem.W.Frag} {A : Addr → Prop} {F0 F F' : FS} {H0 H H' : Hp} {v u : V} {vs us : List V} {x y : OV} {xs ys : List OV} {σ : L2.St} {env : En}
theorem srcOf {d : PyData} {ds : List PyData} (h : Dt K (rs H F) v d) (e : sit d = some ds) : ∃ (a : Src) (ws : List V), a.rel v ∧ a.has K (rs H F) ws ∧ Dts K (rs H F) ws ds := by
  cases h with
  | @lst a ws _ h t => cases e; exact ⟨.lst a, ws, rfl, .of h, t⟩
  | @tup a ws _ h t => cases e; exact ⟨.tup a, ws, rfl, h, t⟩
  | str z =>
    cases e
    refine ⟨.str z 0, _, rfl, rfl, ?_⟩
    unfold chD
    induction z.cps.toList with
    | nil => exact .nil
    | cons c l ih => exact .cons (.str _) ih
  | non => cases e
  | bl b => cases e
  | int i => cases e
theorem Src.ex {a : Src} {H H' : Hp} {ws : List V} (e : Ex H H') (h : a.has K H ws) : a.has K H' ws := by
  cases a with
  | lst a => exact ex_l e h
  | tup a => exact ex_t e h
  | str z t => exact h
theorem iter_zip2 {a b : Src} {w1 w2 : List V} {d1 d2 : List PyData} (ha : a.has K (rs H F) w1) (hb : b.has K (rs H F) w2) (t1 : Dts K (rs H F) w1 d1) (t2 : Dts K (rs H F) w2 d2) : Iter K H F (Itz2 K a b) (zipD d1 d2) := ⟨fun ex c i => by
  have h1 := Src.ex (ex.trans rs_ex) ha
  have h2 := Src.ex (ex.trans rs_ex) hb
  have l1 := t1.len
  have l2 := t2.len
  refine ⟨fun d hd => ?_, fun hl => ?_⟩
  · unfold zipD at hd
    rw [List.getElem?_map] at hd
    obtain ⟨p, h3, rfl⟩ := Option.map_eq_some_iff.mp hd
    obtain ⟨p1, p2⟩ := p
    rw [List.getElem?_zip_eq_some] at h3
    obtain ⟨x1, e1, dx1⟩ := t1.at h3.1
    obtain ⟨x2, e2, dx2⟩ := t2.at h3.2
    refine ⟨⟨w1, w2, h1, h2, (List.getElem?_eq_some_iff.mp e1).1, (List.getElem?_eq_some_iff.mp e2).1⟩, fun x H3 y => ?_⟩
    obtain ⟨T, y1, y2, rfl, hT, rfl, f1, f2⟩ := y
    have g1 := f1 _ h1
    have g2 := f2 _ h2
    rw [e1] at g1
    rw [e2] at g2
    cases g1
    cases g2
    exact c.newT (.cons (dt_ex ex dx1) (.cons (dt_ex ex dx2) .nil)) hT
  · unfold zipD at hl
    rw [List.length_map, List.length_zip] at hl
    exact ⟨w1, w2, h1, h2, by omega, by omega, by omega⟩⟩
theorem iter_enum {a : Src} {w1 : List V} {d1 : List PyData} (ha : a.has K (rs H F) w1) (t1 : Dts K (rs H F) w1 d1) : Iter K H F (ItE K a) (enumD d1) := ⟨fun ex c i => by
  have h1 := Src.ex (ex.trans rs_ex) ha
  have l1 := t1.len
  refine ⟨fun d hd => ?_, fun hl => ?_⟩
  · unfold enumD at hd
    rw [List.getElem?_map] at hd
    obtain ⟨p, h3, rfl⟩ := Option.map_eq_some_iff.mp hd
    rw [List.getElem?_zipIdx] at h3
    obtain ⟨d0, h4, rfl⟩ := Option.map_eq_some_iff.mp h3
    obtain ⟨x1, e1, dx1⟩ := t1.at h4
    refine ⟨⟨w1, h1, (List.getElem?_eq_some_iff.mp e1).1⟩, fun x H3 y => ?_⟩
    obtain ⟨T, y1, rfl, hT, rfl, f1⟩ := y
    have g1 := f1 _ h1
    rw [e1] at g1
    cases g1
    simp only [Nat.zero_add]
    exact c.newT (.cons (.int _) (.cons (dt_ex ex dx1) .nil)) hT
  · unfold enumD at hl
    rw [List.length_map, List.length_zipIdx] at hl
    exact ⟨w1, h1, by omega⟩⟩
end
section
variable {X : Cx} {a b : Expr} {ta tb : AE} {pos p tpos : Pos} {elts : List Expr} {kk : Nat}
theorem si_zip2 (hg : Gl X "zip") (hm : X.mg "zip" = none) (ha : SE X a ta) (hb : SE X b tb) (hs : starEach [a, b] X.env = (false, eval a X.env) :: starEach [b] X.env := by rfl) (hs2 : starEach [b] X.env = [(false, eval b X.env)] := by rfl) (hpl : (backTo pos (starEach [b] X.env)).any (·.1) = false := by rfl) :
    SI X (.Tuple elts kk tpos) (.Call (.Name "zip" p) [a, b] [] pos) (aZip2 ta tb) :=
  piTo (pi_zip2 hg hm (pa_cons ha (pa_cons hb pa_nil hs2) hs) hs hpl) fun σ H R ⟨A, F, env, R', c, h, k⟩ => ev c h fun x e1 v H1 F1 h1 c1 => ev c1 h1 fun y e2 u H2 F2 h2 c2 => by
    split at h2
    · rename_i xs ys ex ey
      obtain ⟨d1, f1, g1⟩ := Option.bind_eq_some_iff.mp ex
      obtain ⟨d2, f2, g2⟩ := Option.bind_eq_some_iff.mp ey
      obtain ⟨F3, c3⟩ := c2.fix2 f2 f1
      obtain ⟨s1, w1, r1, k1, t1⟩ := srcOf c3.swap.dp g1
      obtain ⟨s2, w2, r2, k2, t2⟩ := srcOf c3.dp g2
      exact ⟨v, u, rfl, s1, s2, w1, w2, r1, r2, Src.ex rs_ex k1, Src.ex rs_ex k2, fun a' b' q1 q2 => k _ _ _ _ F3 h2 c3.pop.pop (iter_zip2 (q1 _ _ _ k1) (q2 _ _ _ k2) t1 t2)⟩
    · exact h2.elim
theorem si_enum (hg : Gl X "enumerate") (hm : X.mg "enumerate" = none) (ha : SE X a ta) (hs : starEach [a] X.env = [(false, eval a X.env)] := by rfl) :
    SI X (.Tuple elts kk tpos) (.Call (.Name "enumerate" p) [a] [] pos) (aEnum ta) :=
  piTo (pi_enumS hg hm (pa_cons ha pa_nil hs) hs) fun σ H R ⟨A, F, env, R', c, h, k⟩ => ev c h fun x e1 v H1 F1 h1 c1 => by
    split at h1
    · rename_i xs ex
      obtain ⟨d1, f1, g1⟩ := Option.bind_eq_some_iff.mp ex
      obtain ⟨F3, c3⟩ := c1.fix f1
      obtain ⟨s1, w1, r1, k1, t1⟩ := srcOf c3.dp g1
      exact ⟨v, rfl, s1, w1, r1, Src.ex rs_ex k1, fun a' q1 => k _ _ _ _ F3 h1 c3.pop (iter_enum (q1 _ _ _ k1) t1)⟩
    · exact h1.elim
end
end Ow

/-! max(xs, default=d), sum(xs, start=c) -/
namespace Grd
open PySem L2 PyProof.Rows
section
variable {prog : Program} {w : World} {A : Around} {E : Value → Shared → Prop} {s : Shared} {l : Addr} {its : List Value} {ns : List Int} {Q : Value → Shared → Prop}
theorem maxD_raw {d : Value} (hh : A.handled = none) (hl : s.heap.IsList l its.toArray) (hi : IntsAre its ns)
    (h0 : ns = [] → ∀ (h' : Heap) (tk : Nat), (∀ b o, s.heap.get? b = some o → h'.get? b = some o) → Q d { s with heap := h', toks := tk })
    (h : ∀ (h' : Heap) (tk : Nat) (M : Int) (t' : Tok), (∀ b o, s.heap.get? b = some o → h'.get? b = some o) → M ∈ ns → (∀ a, a ∈ ns → a ≤ M) → Q (.int M t') { s with heap := h', toks := tk }) :
    wpAny (model prog w) A (call (.builtin "max") [.ref l] [(Str.ofString "default", d)]) Q E s := by
  obtain ⟨xs, e⟩ := hi.allInts.items
  have hn : numsOf (intItems xs).toList = ns := by rw [← e]; exact hi.numsOf
  rw [nums_intItems] at hn
  subst hn
  rw [e] at hl
  refine call_max_walkD (iter_intList hl fun s2 es st hfp hlI => ?_)
  subst es
  have fin : ∀ {s' : Shared} {R : Shared → Prop}, Moved [s.heap.objs.size] (fun a b => b = a) { s with heap := s.heap.push { cls := .type "list_iterator", data := .fields #[.ref l, .int 0 0] } } s' →
      (∀ (h' : Heap) (tk : Nat), (∀ b o, s.heap.get? b = some o → h'.get? b = some o) → R { s with heap := h', toks := tk }) → R s' := by
    intro s' R hm hR
    obtain ⟨h', g', d', t', o'⟩ := s'
    obtain ⟨m1, m2, m3, m4, _⟩ := hm
    have m2 : g' = s.gens := m2
    have m3 : d' = s.drawn := m3
    have m4 : o' = s.os := m4
    subst m2 m3 m4
    exact hR h' t' (old_kept fun b o hb eb => m1 b o hb eb)
  refine ⟨_, _, _, _, _, _, _, s.heap, fun i j => decide (numAt xs i > numAt xs j), rfl, (Walks.list (A := A.in1) hh _ l hlI (intItems xs)).toS, st, hfp, fun b o eb hb => ?_, fun b o eb => Heap.get?_push_of_some _ eb, fun hn s' hm => ?_, fun hn => ⟨?_, fun v s' hv hm => ?_⟩⟩
  · rw [List.mem_singleton] at hb
    rw [hb] at eb
    exact absurd (Heap.lt_size eb) (Nat.lt_irrefl _)
  · refine fin (R := Q d) hm (h0 ?_)
    have z : xs.size = 0 := by simpa [intItems] using hn
    have z2 : xs = #[] := Array.eq_empty_of_size_eq_zero z
    rw [z2]
    rfl
  · intro i j vi vj s1 Q1 E1 _ hi hj hq
    exact CmpOf.ints_gt (numAt xs) (fun _ _ => intItems_at) i j vi vj s1 Q1 E1 hi hj hq
  · obtain ⟨t, rfl⟩ := intItems_at hv
    have sz : (intItems xs).size = xs.size := by simp [intItems]
    rw [sz] at hn ⊢
    obtain ⟨h1, h2⟩ := argBest_gt (numAt xs) (xs.size - 1)
    refine fin (R := fun s' => Q _ s') hm fun h' tk kp => h h' tk _ t kp ?_ fun a ha => ?_
    · rw [numAt_eq]; exact PySem.getD_mem (by rw [List.length_map, Array.length_toList]; omega)
    · obtain ⟨j, hj, rfl⟩ := mem_getD ha
      rw [List.length_map, Array.length_toList] at hj
      rw [← numAt_eq]; exact h2 j (by omega)

/-! sum from c on: the walk with one more ahead -/
def upP (c : Int) (P : Nat → Value → Prop) : Nat → Value → Prop
  | 0, v => ∃ t, v = .int c t
  | i + 1, v => P i v
def upS (St : Nat → Heap → Prop) : Nat → Heap → Prop
  | 0, _ => False
  | i + 1, h => St i h
def upV (c : Int) (val : Nat → Int) : Nat → Int
  | 0 => c
  | i + 1 => val i
theorem up_sum (c : Int) (val : Nat → Int) : ∀ n, preSum (upV c val) (n + 1) = c + preSum val n
  | 0 => by simp [preSum, upV]
  | n + 1 => by
    rw [preSum, up_sum c val n]
    show c + preSum val n + val n = c + (preSum val n + val n)
    omega
theorem up_walk {I : Addr} {fp wr : List Addr} {n : Nat} {P : Nat → Value → Prop} {St : Nat → Heap → Prop} (c : Int) (W : Walks prog w A I fp wr n P St) : Walks prog w A I fp wr (n + 1) (upP c P) (upS St) where
  sub := W.sub
  frame := fun i h h' st e => match i, st with
    | i + 1, st => W.frame i h h' st e
  item := fun i s Q E hi st hQ => match i, hi, st, hQ with
    | i + 1, hi, st, hQ => W.item i s Q E (by omega) st fun v h' tk hp hst hb => hQ v h' tk hp hst hb
  done := fun s Q E st hQ => W.done s Q E st hQ
  self := fun i s Q E st hQ => match i, st with
    | i + 1, st => W.self i s Q E st hQ
theorem args_sum_start (a c : Value) : argsOk "sum" ⟨[a], [(Str.ofString "start", c)]⟩ := by unfold argsOk; kernel_rfl
theorem sumS_raw {c : Int} {t0 : Tok} (hh : A.handled = none) (hl : s.heap.IsList l its.toArray) (hi : IntsAre its ns)
    (h : ∀ (h' : Heap) (tk : Nat) (t' : Tok), (∀ b o, s.heap.get? b = some o → h'.get? b = some o) → Q (.int (c + ns.sum) t') { s with heap := h', toks := tk }) :
    wpAny (model prog w) A (call (.builtin "sum") [.ref l] [(Str.ofString "start", .int c t0)]) Q E s := by
  obtain ⟨xs, e⟩ := hi.allInts.items
  have hn : numsOf (intItems xs).toList = ns := by rw [← e]; exact hi.numsOf
  rw [nums_intItems] at hn
  rw [e] at hl
  refine kmk_tree F.kind_sum F.plain_sum F.entry_sum (args_sum_start _ _) ?_
  unfold Builtin.«sum»
  rw [if_neg (by show ¬ (1 + 1 > 2); decide)]
  refine wpAny_bind (wpAny_of_eq (show Builtin.Builtins.bindParams "sum" ["start"] 0 ⟨[], [(Str.ofString "start", .int c t0)]⟩ = pure [some (.int c t0)] from rfl) ?_)
  refine wpAny_bind (iter_intList hl fun s2 es st hfp hlI => ?_)
  have rest : ∀ (t : Tok) (stage : Int) (tk : Nat), (stage = 0 ∨ stage = 2) → wpAny (model prog w) A.in1 (do
      for (ty, what, hint) in [("str", "strings", "''"), ("bytes", "bytes", "b''"), ("bytearray", "bytearray", "b''")] do
        if ← isInstance (Value.int c t) (.type ty) then
          rule "sum.start-refused"; raiseError "TypeError" s!"sum() can't sum {what} [use {hint}.join(seq) instead]"
      again (.builtin "sum.loop" ⟨[.ref s.heap.objs.size, ← newList [.int c t], rawInt stage, rawInt 0], []⟩) : Sem PySem.Fin) (fun fin s' => match fin with
      | .done f => (match (Except.ok f : Result) with | .ok (.ret v) => Q v s' | .ok _ => False | .error e => E e s')
      | .again c' => c'.quiet = true ∧ codeAny (model prog w) A c' (fun r s' => match r with | .ok (.ret v) => Q v s' | .ok _ => False | .error e => E e s') s') E { s2 with toks := tk } := by
    intro t stage tk hst
    simp only [List.forIn_cons, List.forIn_nil]
    refine wpAny_bind (wpAny_bind (wpAny_bind (wpAny_isInstance (T := "int") (b := false) (typeIs_int _ _ _) PySem.sub_int_str ?_))); rw [if_neg (by decide)]
    refine wpAny_pure (wpAny_bind (wpAny_bind (wpAny_isInstance (T := "int") (b := false) (typeIs_int _ _ _) PySem.sub_int_bytes ?_))); rw [if_neg (by decide)]
    refine wpAny_pure (wpAny_bind (wpAny_bind (wpAny_isInstance (T := "int") (b := false) (typeIs_int _ _ _) PySem.sub_int_bytearray ?_))); rw [if_neg (by decide)]
    refine wpAny_pure (wpAny_pure (wpAny_bind (wpAny_newObj_type ?_)))
    have W := up_walk c (Walks.list (prog := prog) (w := w) (A := A.in1) hh s.heap.objs.size l hlI (intItems xs))
    have hSf : s2.heap.objs.size ∉ [s.heap.objs.size, l] := fun hm => Nat.lt_irrefl _ (hfp _ hm)
    refine wpAny_pure ⟨plainId_quiet F.plain_sum_loop _, codeAny_sum_loopG W (upV c (numAt xs)) (fun i v hv => ?_) s2.heap.objs.size hSf _ 1 _ t 0 stage hst rfl (by omega) (W.frame 1 _ _ st fun b _ o eb => Heap.get?_push_of_some _ eb) ?_ fun h' tk' t' hk => ?_⟩
    · match i, hv with
      | 0, hv => exact hv
      | i + 1, hv => exact intItems_at hv
    · have q : preSum (upV c (numAt xs)) 1 = c := by simp [preSum, upV]
      rw [q]
      exact Heap.get?_push_size _ rfl
    · have sz : (intItems xs).size = xs.size := by simp [intItems]
      rw [up_sum, sz, preSum_eq, List.take_of_length_le (by simp), hn]
      subst es
      exact h h' tk' t' (old_kept fun b o hb eb => hk b o hb (fun z => by rw [z] at eb; exact absurd (Heap.lt_size eb) (Nat.lt_irrefl _)) (Heap.get?_push_of_some _ eb))
  have e1 : s2.toks = s2.toks := rfl
  dsimp only
  split
  · refine wpAny_bind (wpAny_rule (wpAny_bind (wpAny_mkInt (wpAny_bind (wpAny_pure ?_)))))
    exact rest _ 0 _ (.inl rfl)
  · refine wpAny_bind (wpAny_pure ?_)
    exact rest _ 2 _ (.inr rfl)
end
end Grd

/-! keywords; s.rpartition(t); max(xs, default=d), sum(xs, start=c) as hand rules -/
namespace Grd
open PySem L2 PyProof.Rows
section
variable {X : Cx}
/-- max(xs, default=d) -/
theorem crK_max (hc : X.calm = true) : CallRK X (.builtin "max") [Str.ofString "default"] (fun vs zs H Q => ∃ (a : Addr) (ns : List Int) (d : Int), vs = [V.ref a] ∧ zs = [V.int d] ∧ SqL X.K H a (ns.map V.int) ∧
    (ns = [] → Q (.int d) H) ∧ ∀ m, m ∈ ns → (∀ y, y ∈ ns → y ≤ m) → Q (.int m) H) := by
  intro pins s σ H vs zs us ws Q I r rz h
  obtain ⟨a, ns, d, rfl, rfl, hs, q0, q⟩ := h
  obtain ⟨its, rv, hl, _⟩ := I.list hs
  obtain rfl := Vals.ref1 r
  obtain ⟨w1, rfl, t1, e1⟩ := vals1 rz
  subst e1
  exact maxD_raw (I.ok.hd hc) hl.isList rv.ints (fun e h' tk kp => ⟨.int d, H, I.kept kp, ⟨_, rfl⟩, q0 e⟩) fun h' tk m t' kp h1 h2 => ⟨.int m, H, I.kept kp, ⟨_, rfl⟩, q m h1 h2⟩
/-- sum(xs, start=c) -/
theorem crK_sum (hc : X.calm = true) : CallRK X (.builtin "sum") [Str.ofString "start"] (fun vs zs H Q => ∃ (a : Addr) (ns : List Int) (c : Int), vs = [V.ref a] ∧ zs = [V.int c] ∧ SqL X.K H a (ns.map V.int) ∧ Q (.int (c + ns.sum)) H) := by
  intro pins s σ H vs zs us ws Q I r rz h
  obtain ⟨a, ns, d, rfl, rfl, hs, q⟩ := h
  obtain ⟨its, rv, hl, _⟩ := I.list hs
  obtain rfl := Vals.ref1 r
  obtain ⟨w1, rfl, t1, e1⟩ := vals1 rz
  subst e1
  exact sumS_raw (I.ok.hd hc) hl.isList rv.ints fun h' tk t' kp => ⟨.int _, H, I.kept kp, ⟨_, rfl⟩, q⟩
/-- x.rpartition(sep) -/
def rpart (a b : Str) : Str × Str × Str := match Builtin.Str.lastOccurrence a b 0 a.length with
  | some i => (Builtin.Str.strSub a 0 i, b, Builtin.Str.strSub a (i + b.length) a.length)
  | none => (Str.empty, Str.empty, a)
def rRpart : V → List V → Hp → VK → Prop := fun x xs H Q => ∃ a b, x = .str a ∧ xs = [.str b] ∧ (b.length == 0) = false ∧ a.length ≤ sizeLine ∧
    ∀ p, H p = none → Q (.ref p) (upd H p (.tup [.str (rpart a b).1, .str (rpart a b).2.1, .str (rpart a b).2.2]))
theorem mt_rpart : MtR X "str.rpartition" rRpart := by
  intro pins s σ H x xs v us Q I rx rs h
  obtain ⟨a, b, rfl, rfl, hb, hz, h⟩ := h
  obtain ⟨t, rfl⟩ := rx
  cases rs with
  | cons r1 rs =>
    cases rs
    obtain ⟨u, rfl⟩ := r1
    refine call_meets PySem.F.slot_str_rpartition (typeIs_str _ _ _) PySem.F.entry_str_rpartition (PySem.F.args_str_rpartition_2 _ _) (meets_str_rpartition a b t u hb hz) ?_
    unfold rpart at h
    revert h
    cases Builtin.Str.lastOccurrence a b 0 a.length with
    | none => intro h; exact laid_parts I h
    | some i => intro h; exact laid_parts I h
theorem pe_rpart {o e : Expr} {to te : TE} {apos pos : Pos} (ho : PE X o to) (he : PE X e te) (hs : starEach [e] X.env = [(false, eval e X.env)] := by rfl) (hbase : attributeBase o "rpartition" X.env (eval o X.env) = eval o X.env := by rfl) (hline : (apos.endLine == pos.line) = true := by rfl) :
    PE X (.Call (.Attribute o "rpartition" apos) [e] [] pos) (tM1 rRpart to te) := pe_m1 PySem.F.slot_str_rpartition PySem.F.type_str_rpartition mt_rpart ho he hs hbase hline
end
section
variable {X : Cx} {CX : CXT} {k : Nat} {f : Addr} {fd : FuncData} {ps ks : List Str} {sp : Sp} {E : XK} {x : Str} {p pos : Pos} {e : Expr} {es : List Expr} {kws : List Keyword} {t tk : TA}
  {g : List Value → List Value → List Value} {gV : List V → List V → List V}
/-- f(e, .., k = v, ..), where no repr goes on -/
theorem pe_callGK (F : Fn X.prog X.w X.K X.mg X.base CX k f fd ps sp) (gd : X.A.guards = some []) (hr : Room k X.A) (hg : Gl X x) (hm : X.mg x = some (.ref f)) (hk : PySem.W.keepIn X.K (.ref f) = true) (hb : KBinds X.K fd ps ks g gV) (hx : Passes CX X E)
    (ha : PA X (e :: es) t) (hkw : PK X kws tk) (hall : (backToKw pos (keywordEach kws X.env)).all (·.1.isSome) = true := by rfl) (hks : (backToKw pos (keywordEach kws X.env)).filterMap (·.1) = ks := by rfl)
    (hdb : (x == ("__debug__" : Str)) = false := by decide) (he : starEach (e :: es) X.env = (false, eval e X.env) :: starEach es X.env := by rfl)
    (hpl : ((backTo pos (starEach (e :: es) X.env)).any (·.1) || (backToKw pos (keywordEach kws X.env)).any (·.1.isNone)) = false := by rfl) :
    PE X (.Call (.Name x p) (e :: es) kws pos) (tCallK sp gV E t tk) := by
  constructor
  intro pins s σ H Q I h
  refine wpAny_Call_Name_kw (ld_glob I hg hm ?_ hdb)
  have z := thn (Q' := fun us s1 => wpAny (model X.prog X.w) X.A (evalAll ((backToKw pos (keywordEach kws X.env)).map (·.2))) (fun ws s2 => X.K.In s2.heap ∧ wpAny (model X.prog X.w) X.A (call (.ref f) us (ks.zip ws)) (EP X pins σ Q) X.xe s2) X.xe s1)
    (ha.run pos pins s σ H _ I h) (by
      rintro us s1 ⟨vs, H1, I1, r, q⟩
      refine thn (hkw.run pos pins s1 σ H1 _ I1 q) ?_
      rintro ws s2 ⟨zs, H2, I2, rz, q2⟩
      refine ⟨I2.kIn, ?_⟩
      have r2 := hb.rel r rz
      have ll : (g us ws).length = ps.length := r2.length.symm.trans (F.len _ _ _ _ q2)
      refine wpAny_call (codeAny_mono (F.run X.A X.stack s2 H2 ⟨us, ks.zip ws⟩ (g us ws) (gV vs zs) Q E gd hr I2.env0 (hb.to s2 us ws I2.kIn ll) r2 q2) ?_)
      intro rr s' hq
      match rr, hq with
      | .error e, hq => exact hx pins σ H2 s2 e s' I2 hq
      | .ok (.ret u), hq => exact I2.after hq
      | .ok .next, hq => exact hq.elim
      | .ok .brk, hq => exact hq.elim
      | .ok .cont, hq => exact hq.elim)
  refine PySem.W.callWith_KW (h₀ := X.base) I.ok.mod.kin hk hall ?_ hpl he
  rw [hks]
  exact z
end
/-! xs[::2] of three -/
def tStep2 (K : PySem.W.Frag) (te : TE) : TE := fun σ H Q => te σ H fun x H1 => ∃ a x0 x1 x2, x = .ref a ∧ SqL K H1 a [x0, x1, x2] ∧ ∀ p, H1 p = none → Q (.ref p) (upd H1 p (.lst [x0, x2]))
theorem pe_step2 {X : Cx} {e : Expr} {te : TE} {k : Nat} {p1 p3 pos : Pos} (he : PE X e te) : PE X (.Subscript e (.Slice none none (some (.Constant (.int 2) k p1)) p3) pos) (tStep2 X.K te) := by
  constructor
  intro pins s σ H Q I h
  refine Subscript_ (thn (he.run pins s σ H _ I h) ?_)
  rintro v s1 ⟨x, H1, I1, r1, a, x0, x1, x2, rfl, hx, q⟩
  cases r1
  have hst : PO X (some (.Constant (.int 2) k p1)) (tPart (tC (.int 2))) := po_some pe_int
  refine wpAny_Slice (thn (po_none.run pins s1 σ H1 (fun o G => o = none ∧ G = H1) I1 ⟨rfl, rfl⟩) ?_)
  rintro vl s2 ⟨l, G2, I2, pl, rfl, rfl⟩
  refine thn (po_none.run pins s2 σ G2 (fun o G => o = none ∧ G = G2) I2 ⟨rfl, rfl⟩) ?_
  rintro vu s3 ⟨u, G3, I3, pu, rfl, rfl⟩
  refine thn (hst.run pins s3 σ G3 (fun o G => o = some 2 ∧ G = G3) I3 ⟨2, rfl, rfl, rfl⟩) ?_
  rintro vs s4 ⟨o, G4, I4, ps, rfl, rfl⟩
  have I5 : Inv X pins σ G4 { s4 with heap := s4.heap.push { cls := .type "slice", data := .fields #[vl, vu, vs] } } := I4.kept (t' := s4.toks) fun b ob z => Heap.get?_push_of_some _ z
  obtain ⟨its, r, ht, hz⟩ := I5.list hx
  refine tail_any (ops := [.ref a, .ref s4.heap.objs.size]) ht.isList.typeIs (PySem.slot_list_getitem.lookup) ?_ (by with_unfolding_all rfl)
  have ln := r.length
  refine wpAny_getItem_list_slice ht.isList (Heap.IsSliceOf.new _ vl vu vs) pl pu ps (by decide) ?_ (by rw [List.size_toArray, ← ln]; exact hz)
  cases r with
  | @cons _ u0 _ _ r0 r =>
    cases r with
    | @cons _ u1 _ _ r1 r =>
      cases r with
      | @cons _ u2 _ _ r2 r =>
        cases r
        have e0 : sliceRange (sliceBounds none none (some 2) 3).1 (sliceBounds none none (some 2) 3).2.1 (sliceBounds none none (some 2) 3).2.2 = [0, 2] := by decide +kernel
        have e : slicePick (List.toArray [u0, u1, u2]) none none (some 2) = #[u0, u2] := by
          unfold slicePick
          rw [show (List.toArray [u0, u1, u2]).size = 3 from rfl, e0]
          rfl
        rw [e]
        refine ⟨.ref _, _, I5.laid (t' := s4.toks) (o := .lst [x0, x2]) (fun b ob z => Heap.get?_push_of_some _ z) (Nat.le_refl _) ?_, rfl, q _ (I5.hok.fresh (Nat.le_refl _))⟩
        exact ⟨by show 2 ≤ sizeLine; decide, [u0, u2], 0, .cons r0 (.cons r2 .nil), Heap.get?_push_size _ rfl⟩
end Grd

/-! Ow: further rules. -/
namespace Ow
open PySem L2 Grd PyProof.Rows
open Evl (Ex ex_t ex_l ex_rd)
abbrev oSub := o2 (fInt (fun _ _ => True) fun i j => .int (i - j))
abbrev oDiv := o2 (fInt CDiv fun i j => .int (i / j))
abbrev oMod := o2 (fInt (fun _ j => 0 < j) fun i j => .int (i % j))
abbrev oPow := o2 (fInt CPow fun i j => .int (i ^ j.toNat))
def fMul (a b : PyData) (k : PyData → Prop) : Prop := match a, b with
  | .int i, .int j => CMulW i j ∧ k (.int (i * j))
  | .str z, .int n => MulOk z n ∧ k (.str (Txt.mul z n))
  | _, _ => False
def oMulA (x y : OV) (R : OV → Prop) : Prop := match lel x with
  | some xs => match y with
    | .d (.int k) => match frzs xs with
      | some ds => (-(2 ^ 63) ≤ k ∧ k < 2 ^ 63 ∧ ds.length * k.toNat ≤ sizeLine) ∧ R (.n .lst ((List.replicate k.toNat ds).flatten.map .d))
      | none => False
    | _ => False
  | none => o2 fMul x y R
/-- xs + e, xs a name: it stays as it is -/
def aAddN (i : Nat) (tb : AE) : AE := fun env Q => (match env[i]? with | some (some _) => True | _ => False) ∧ tb env fun y e => match e[i]? with
  | some (some (.d x)) => oAdd (.d x) y fun z => Q z e
  | some (some (.n .lst xs)) => match dats xs, lel y with
    | some ds, some ys => ds.length + ys.length ≤ sizeLine ∧ Q (.n .lst (ds.map .d ++ ys)) e
    | _, _ => False
  | _ => False
def aPar (is : List Nat) (t : AA) : AS := fun D env => t env fun xs e => match tgSets (is.map Tg.n) xs e with
  | some e1 => D.nx e1
  | none => False
def oKd (tb : List (Str × PyData)) (x : OV) (R : OV → Prop) : Prop := match x with
  | .d (.str z) => match tb.lookup z with | some d => R (.d d) | none => False
  | _ => False
def oSumK (x y : OV) (R : OV → Prop) : Prop := match (lfz x).bind intsOf, y with
  | some ns, .d (.int c) => R (.d (.int (c + ns.sum)))
  | _, _ => False
def oMaxK (x y : OV) (R : OV → Prop) : Prop := match (lfz x).bind intsOf, y with
  | some ns, .d (.int c) => (ns = [] → R (.d (.int c))) ∧ ∀ m, m ∈ ns → (∀ z, z ∈ ns → z ≤ m) → R (.d (.int m))
  | _, _ => False
theorem np1 {bs : List Bool} {vs : List V} {i : Nat} (h : (bs[i]? == some true) = false) : ∀ p ∈ pinsOf bs 0 vs, p.1 ≠ i := fun p hp e => by
  obtain ⟨_, h2, _⟩ := pinsOf_mem hp
  have h2 : bs[p.1]? = some true := h2
  rw [e] at h2
  rw [h2] at h
  simp at h
theorem nps {bs : List Bool} {vs : List V} {is : List Nat} (h : ∀ i ∈ is, (bs[i]? == some true) = false) : ∀ p ∈ pinsOf bs 0 vs, p.1 ∉ is := fun p hp m => np1 (h p.1 m) p hp rfl
theorem un {k : Nat} {A : Around} (r : Room k A) : A.units + 65 < cLine := by have := r.un; omega
section
variable {K : PySem.W.Frag} {A : Addr → Prop} {F0 F F' : FS} {H0 H H' : Hp} {v u : V} {vs us : List V} {x y : OV} {xs ys : List OV} {σ : L2.St} {env : En}
theorem At.junk (c : At K A F0 H0 H F vs xs σ env) {p : Addr} {o : HO} (hp : H p = none) : At K A F0 H0 (upd H p o) F vs xs σ env := by
  have c0 := c
  obtain ⟨st, ⟨⟨a1, a2, h1, h2, nd, off⟩, fh⟩⟩ := c
  have ex : Ex H (upd H p o) := Ex.new hp
  have fr : Ex (rs H F) (rs (upd H p o) F) := fun a u e => by
    rw [rs_some] at e ⊢
    exact ⟨e.1, ex a u e.2⟩
  refine c0.on ⟨fun a u _ h => ex a u h, fr, fun a h => .inl h⟩ ⟨⟨a1, a2, h1.keep fr fun a _ u h => ex a u h, h2.keep fr fun a _ u h => ex a u h, nd, fun a ha => ⟨(off a ha).1, .inl (off a ha).2⟩⟩, fun a h => ?_⟩
  by_cases e : a = p
  · subst e; rw [upd_same]; simp
  · rw [upd_ne e]; exact fh a h
theorem At.dts : ∀ {ws : List V} {ds : List PyData}, At K A F0 H0 H F (ws ++ vs) (ds.map OV.d ++ xs) σ env → ds.length = ws.length → Dts K (rs H F) ws ds
  | [], [], _, _ => .nil
  | w :: ws, d :: ds, c, l => .cons (At.dp (vs := ws ++ vs) (xs := ds.map OV.d ++ xs) c) (At.dts (ws := ws) (ds := ds) (At.pop (vs := ws ++ vs) (xs := ds.map OV.d ++ xs) c) (by simpa using l))
  | [], _ :: _, _, l => by simp at l
  | _ :: _, [], _, l => by simp at l
theorem op_mulS {X : Cx} : OpR X (binaryOp .Mult) (fun x y H Q => ∃ z n, x = .str z ∧ y = .int n ∧ MulOk z n ∧ Q (.str (Txt.mul z n)) H) := by
  intro pins s σ H x y v u Q I rx ry h
  obtain ⟨z, n, rfl, rfl, ok, q⟩ := h
  obtain ⟨t, rfl⟩ := rx
  obtain ⟨t', rfl⟩ := ry
  exact SB.mul ok fun t' k => ⟨.str _, H, I.tok _, ⟨_, rfl⟩, q⟩
theorem op2_mulA : Op2 K (fun x y H Q => rRep x y H Q ∨ rI CMulW (fun i j => .int (i * j)) x y H Q ∨ ∃ z n, x = .str z ∧ y = .int n ∧ MulOk z n ∧ Q (.str (Txt.mul z n)) H) oMulA := by
  constructor
  intro A F0 F H0 H σ env x y ox oy R Q c o k
  unfold oMulA at o
  split at o
  · rename_i xs ex
    split at o
    · rename_i n
      split at o
      · rename_i ds ed
        have dn := c.dp
        cases dn
        obtain ⟨a, ws, rfl, ha, lw, c3⟩ := c.pop.lel ex
        obtain ⟨F1, c4, dp⟩ := At.fixs (vs := []) (xs := []) c3 lw ed
        have ld := dp.len
        refine .inl ⟨a, n, ws, rfl, rfl, ha, o.1.1, o.1.2.1, by rw [← ld]; exact o.1.2.2, fun p hp => k _ _ _ F1 o.2 ?_⟩
        exact (At.pops c4 (by rw [List.length_map]; exact ld)).newL (dp.rep _) hp
      · exact o.elim
    · exact o.elim
  · refine .inr ?_
    have q : Op2 K (fun x y H Q => rI CMulW (fun i j => .int (i * j)) x y H Q ∨ ∃ z n, x = .str z ∧ y = .int n ∧ MulOk z n ∧ Q (.str (Txt.mul z n)) H) (o2 fMul) := Op2.scal fun hx hy o k => by
      unfold fMul at o
      split at o
      · cases hx; cases hy
        exact .inl ⟨_, _, rfl, rfl, o.1, k _ _ o.2 fun _ => .int _⟩
      · cases hx; cases hy
        exact .inr ⟨_, _, rfl, rfl, o.1, k _ _ o.2 fun _ => .str _⟩
      · exact o.elim
    exact q.run c o k
end
section
variable {X : Cx} {pn : List (Nat × V)} {e a b c : Expr} {es : List Expr} {ta tb tc te : AE} {tr : AA} {pos p p1 p2 apos : Pos} {i : Nat} {x : Str} {id T : String}
theorem se_mulA (ha : SE X a ta) (hb : SE X b tb) : SE X (.BinOp a .Mult b pos) (a2 oMulA ta tb) := se_bin (op_rep.or (op_mulW.or op_mulS)) op2_mulA ha hb
theorem se_addN (h : PE X a (tVar i)) (hb : SE X b tb) : SE X (.BinOp a .Add b pos) (aAddN i tb) := peTo (pe_op (op_cat.or ((op_add.or op_add_str).or op_catA)) h hb) fun σ H Q ⟨A, F, env, R, c, h, k⟩ => by
  obtain ⟨h0, h⟩ := h
  obtain ⟨v, hv⟩ := getSome c h0
  refine ⟨v, hv, ev c h fun y e1 u H2 F2 h2 c2 => ?_⟩
  split at h2
  · rename_i x ex
    obtain ⟨v', hv', dv⟩ := c2.look ex
    rw [hv] at hv'
    cases hv'
    exact op2_add.run (c2.push dv).swap h2 fun z w H' F' r c3 => k _ _ _ _ _ r c3
  · rename_i xs ex
    split at h2
    · rename_i ds ys ed ey
      have e0 := dats_frzs ed
      subst e0
      obtain ⟨v', hv', c3⟩ := c2.take ex
      rw [hv] at hv'
      cases hv'
      obtain ⟨a, ws, ex', rfl, hs, l, c4⟩ := c3.opn
      obtain ⟨F5, c5, dp⟩ := At.fixs c4 l (frzs_map ds)
      have dp0 : Dts X.K (rs H2 F2) ws ds := c4.dts (by simpa using l)
      obtain ⟨b, zs, rfl, hb, lz, c6⟩ := c2.lel ey
      refine .inl ⟨a, b, ws, zs, rfl, rfl, hs.1, hb, by rw [← dp.len, ← lz]; exact h2.1, fun p hp => k _ _ _ _ F2 h2.2 ?_⟩
      have c7 : At X.K A F H H2 F2 ((ws ++ zs) ++ []) ((ds.map OV.d ++ ys) ++ []) σ e1 := by
        rw [List.append_assoc, List.append_assoc]
        exact c6.pushs dp0
      exact At.make (s := .lst) c7 (by simp [lz, dp.len]) hp ⟨upd_same, rfl⟩
    · exact h2.elim
  · exact h2.elim
theorem se_isi2 {x1} (ha : SE X a ta) (t1 t2 : Ty) (hb : PE X b (tC (.ty t1.nm))) (hc : PE X c (tC (.ty t2.nm))) (hg : Gl X x) (hm : X.mg x = none) (hv : bootBuiltins x = some (.builtin "isinstance")) (hn : x ≠ "__name__" := by decide) (hdb : (x == ("__debug__" : Str)) = false := by decide)
    (he3 : starEach [b, c] X.env = (false, eval b X.env) :: starEach [c] X.env := by rfl) (he4 : starEach [c] X.env = [(false, eval c X.env)] := by rfl)
    (he : starEach [a, .Tuple [b, c] x1 p1] X.env = (false, eval a X.env) :: starEach [.Tuple [b, c] x1 p1] X.env := by rfl) (he2 : starEach [.Tuple [b, c] x1 p1] X.env = [(false, eval (.Tuple [b, c] x1 p1) X.env)] := by rfl) (hpl : (backTo pos (starEach [.Tuple [b, c] x1 p1] X.env)).any (·.1) = false := by rfl) :
    SE X (.Call (.Name x p) [a, .Tuple [b, c] x1 p1] [] pos) (a1 (oIsi [t1, t2]) ta) :=
  peTo (pe_callB call_isiT hg hm hv (pa_cons ha (pa_cons (pe_tup (pa_cons hb (pa_cons hc pa_nil he4) he3)) pa_nil he2) he) hn hdb he hpl) fun σ H Q ⟨A, F, env, R, c, h, k⟩ => ev c h fun x e1 v H1 F1 h1 c1 => by
    have ni : dull x = false := by
      cases x with
      | d d => rfl
      | n s ys => cases s <;> first | rfl | exact False.elim h1
      | h v => exact False.elim h1
    have h2 : R (.d (.bool ([t1, t2].any fun t => isOf t x))) e1 := by
      cases x with
      | d d => exact h1
      | n s ys => cases s <;> first | exact h1 | exact False.elim h1
      | h v => exact False.elim h1
    refine ⟨(by show 2 ≤ sizeLine; decide), fun p hp => ?_⟩
    have c2 := c1.junk (o := .tup [.ty t1.nm, .ty t2.nm]) hp
    exact ⟨v, p, _, _, _, _, rfl, upd_same, .cons (.ty _) (.cons (.ty _) .nil), ty_of c2 ni, isi_any x ni [t1, t2], k _ _ _ _ F1 h2 (c2.pop.push (.bl _))⟩
theorem ss_par2 {i j : Nat} {x y : Str} {px py pt : Pos} {kt k2 pt2} (hc : X.calm = true) (hN : X.N.Nodup) (hi : X.N[i]? = some x) (hj : X.N[j]? = some y) (hij : i ≠ j)
    (hx : X.env.scope.names.lookup x = some .local) (hy : X.env.scope.names.lookup y = some .local) (ha : SA X [a, b] tr)
    (hw : swappedStores [.Tuple [.Name x px, .Name y py] kt pt] (.Tuple [a, b] k2 pt2) X.env = pure (some [x, y])) (hp1 : ∀ p ∈ pn, p.1 ≠ i) (hp2 : ∀ p ∈ pn, p.1 ≠ j)
    (hs : swapsWithSole [.Tuple [.Name x px, .Name y py] kt pt] (.Tuple [a, b] k2 pt2) pos.line X.env = pure false := by rfl) :
    SS X pn (.Assign [.Tuple [.Name x px, .Name y py] kt pt] (.Tuple [a, b] k2 pt2) pos) (aPar [i, j] tr) :=
  psTo (ps_par hc hN hi hj hij hx hy ha hw hs) fun D σ H ⟨A, F, env, D', p, c, h, ed⟩ => evs c h fun xs e1 vs H1 F1 h1 c1 => by
    split at h1
    · rename_i e2 q
      have l := tgSets_len q
      match xs, l with
      | [z1, z2], _ =>
        obtain ⟨v, u, rfl⟩ := args2 (show At X.K A F H H1 F1 vs [z1, z2] σ e1 by simpa using c1)
        refine ⟨v, u, rfl, ?_⟩
        have g := (gts_cons (K := X.K) (gt_name i) (gts_cons (gt_name j) gts_nil)).run (us := [v, u]) (ys := [z1, z2]) (vs := []) (xs := []) (Q := fun σ' H' => σ' = (σ.set i (some v)).set j (some u) ∧ H' = H1 → D.nx ((σ.set i (some v)).set j (some u)) H1) (by simpa using c1) rfl q fun σ' H' F' b c2 => fun e => by
          obtain ⟨e3, e4⟩ := e
          subst e3 e4
          exact ed.nx _ _ _ _ h1 (p.but b fun p hp m => by
            simp only [slotss, Tg.slots, List.append_nil, List.mem_append, List.mem_singleton, List.mem_cons, List.not_mem_nil, or_false] at m
            rcases m with m | m
            · exact hp1 p hp m
            · exact hp2 p hp m) c2
        obtain ⟨v', r, e3, v'', r', e4, e5, g⟩ := g
        cases e3
        cases e4
        exact g ⟨rfl, rfl⟩
    · exact h1.elim
theorem ss_par3 {i j l : Nat} {x y z : Str} {px py pz pt : Pos} {kt k2 pt2} (hc : X.calm = true) (hN : X.N.Nodup) (hi : X.N[i]? = some x) (hj : X.N[j]? = some y) (hl : X.N[l]? = some z) (hij : i ≠ j) (hil : i ≠ l) (hjl : j ≠ l)
    (hx : X.env.scope.names.lookup x = some .local) (hy : X.env.scope.names.lookup y = some .local) (hz : X.env.scope.names.lookup z = some .local) (ha : SA X [a, b, c] tr)
    (hw : swappedStores [.Tuple [.Name x px, .Name y py, .Name z pz] kt pt] (.Tuple [a, b, c] k2 pt2) X.env = pure (some [x, y, z])) (hp1 : ∀ p ∈ pn, p.1 ≠ i) (hp2 : ∀ p ∈ pn, p.1 ≠ j) (hp3 : ∀ p ∈ pn, p.1 ≠ l)
    (hs : swapsWithSole [.Tuple [.Name x px, .Name y py, .Name z pz] kt pt] (.Tuple [a, b, c] k2 pt2) pos.line X.env = pure false := by rfl) :
    SS X pn (.Assign [.Tuple [.Name x px, .Name y py, .Name z pz] kt pt] (.Tuple [a, b, c] k2 pt2) pos) (aPar [i, j, l] tr) :=
  psTo (ps_par3 hc hN hi hj hl hij hil hjl hx hy hz ha hw hs) fun D σ H ⟨A, F, env, D', p, c, h, ed⟩ => evs c h fun xs e1 vs H1 F1 h1 c1 => by
    split at h1
    · rename_i e2 q
      have ln := tgSets_len q
      match xs, ln with
      | [z1, z2, z3], _ =>
        have c1' : At X.K A F H H1 F1 vs [z1, z2, z3] σ e1 := by simpa using c1
        have lv := c1'.cf.len
        match vs, lv with
        | [v, u, w], _ =>
          refine ⟨v, u, w, rfl, ?_⟩
          have g := (gts_cons (K := X.K) (gt_name i) (gts_cons (gt_name j) (gts_cons (gt_name l) gts_nil))).run (us := [v, u, w]) (ys := [z1, z2, z3]) (vs := []) (xs := []) (Q := fun σ' H' => σ' = ((σ.set i (some v)).set j (some u)).set l (some w) ∧ H' = H1 → D.nx (((σ.set i (some v)).set j (some u)).set l (some w)) H1) (by simpa using c1) rfl q fun σ' H' F' b c2 => fun e => by
            obtain ⟨e3, e4⟩ := e
            subst e3 e4
            exact ed.nx _ _ _ _ h1 (p.but b fun p hp m => by
              simp only [slotss, Tg.slots, List.append_nil, List.mem_append, List.mem_singleton, List.mem_cons, List.not_mem_nil, or_false] at m
              rcases m with m | m | m
              · exact hp1 p hp m
              · exact hp2 p hp m
              · exact hp3 p hp m) c2
          obtain ⟨v', r, e3, v'', r', e4, v3, r3, e5, e6, g⟩ := g
          cases e3
          cases e4
          cases e5
          exact g ⟨rfl, rfl⟩
    · exact h1.elim
/-- a dict of the module whose keys are texts -/
structure KdT (K : PySem.W.Frag) (w : World) (a : Addr) (tb : List (Str × PyData)) : Prop where
  at_ : ∀ z d, tb.lookup z = some d → ∃ v, KDct K w a z v ∧ ∀ H, Dt K H v d
theorem se_kd {tb : List (Str × PyData)} {d : Addr} (k : KdT X.K X.w d tb) (hg : Gl X x) (hm : X.mg x = some (.ref d)) (hb : SE X b tb') (hs : PlainIx b) (hdb : (x == ("__debug__" : Str)) = false := by decide) : SE X (.Subscript (.Name x p) b pos) (a1 (oKd tb) tb') :=
  peTo (pe_ix ix_kdict (pe_glob (v := .ref d) hg hm rfl hdb) hb hs) fun σ H Q ⟨A, F, env, R, c, h, kk⟩ => ev c h fun y e1 u H1 F1 h1 c1 => by
    unfold oKd at h1
    split at h1
    · rename_i z
      have du := c1.dp
      cases du
      split at h1
      · rename_i dd ed
        obtain ⟨v, kd, dv⟩ := k.at_ z dd ed
        exact ⟨d, z, v, rfl, rfl, kd, kk _ _ _ _ F1 h1 (c1.pop.push (dv _))⟩
      · exact h1.elim
    · exact h1.elim
theorem se_sumK {kp : Pos} (ha : SE X a ta) (hb : SE X b tb) (hg : Gl X "sum") (hm : X.mg "sum" = none) (hv : bootBuiltins "sum" = some (.builtin "sum"))
    (he : backTo pos (starEach [a] X.env) = (false, eval a X.env) :: backTo pos (starEach [] X.env) := by rfl) (he2 : starEach [a] X.env = [(false, eval a X.env)] := by rfl) (hpl : (backTo pos (starEach [a] X.env)).any (·.1) = false := by rfl)
    (hall : (backToKw pos (keywordEach [⟨some "start", b, kp⟩] X.env)).all (·.1.isSome) = true := by rfl) (hnone : (backToKw pos (keywordEach [⟨some "start", b, kp⟩] X.env)).any (·.1.isNone) = false := by rfl) (hks : (backToKw pos (keywordEach [⟨some "start", b, kp⟩] X.env)).filterMap (·.1) = [Str.ofString "start"] := by rfl) (hc : X.calm = true := by rfl) :
    SE X (.Call (.Name "sum" p) [a] [⟨some "start", b, kp⟩] pos) (a2 oSumK ta tb) :=
  peTo (pe_callBK (crK_sum hc) hg hm hv (pa_cons ha pa_nil he2) (pk_cons hb pk_nil) (by decide) (by decide) he hpl hall hnone hks) fun σ H Q ⟨A, F, env, R, c, h, k⟩ => ev c h fun x e1 v H1 F1 h1 c1 => ev c1 h1 fun y e2 u H2 F2 h2 c2 => by
    unfold oSumK at h2
    split at h2
    · rename_i ns cc en
      obtain ⟨ds, f1, f2⟩ := Option.bind_eq_some_iff.mp en
      have du := c2.dp
      cases du
      obtain ⟨a, ws, F3, rfl, hH, dp, c3⟩ := c2.pop.lfz f1
      have e3 := dts_ints dp f2
      subst e3
      exact ⟨a, ns, cc, rfl, rfl, .of hH, k _ _ _ _ F3 h2 (c3.push (.int _))⟩
    · exact h2.elim
theorem se_maxK {kp : Pos} (ha : SE X a ta) (hb : SE X b tb) (hg : Gl X "max") (hm : X.mg "max" = none) (hv : bootBuiltins "max" = some (.builtin "max"))
    (he : backTo pos (starEach [a] X.env) = (false, eval a X.env) :: backTo pos (starEach [] X.env) := by rfl) (he2 : starEach [a] X.env = [(false, eval a X.env)] := by rfl) (hpl : (backTo pos (starEach [a] X.env)).any (·.1) = false := by rfl)
    (hall : (backToKw pos (keywordEach [⟨some "default", b, kp⟩] X.env)).all (·.1.isSome) = true := by rfl) (hnone : (backToKw pos (keywordEach [⟨some "default", b, kp⟩] X.env)).any (·.1.isNone) = false := by rfl) (hks : (backToKw pos (keywordEach [⟨some "default", b, kp⟩] X.env)).filterMap (·.1) = [Str.ofString "default"] := by rfl) (hc : X.calm = true := by rfl) :
    SE X (.Call (.Name "max" p) [a] [⟨some "default", b, kp⟩] pos) (a2 oMaxK ta tb) :=
  peTo (pe_callBK (crK_max hc) hg hm hv (pa_cons ha pa_nil he2) (pk_cons hb pk_nil) (by decide) (by decide) he hpl hall hnone hks) fun σ H Q ⟨A, F, env, R, c, h, k⟩ => ev c h fun x e1 v H1 F1 h1 c1 => ev c1 h1 fun y e2 u H2 F2 h2 c2 => by
    unfold oMaxK at h2
    split at h2
    · rename_i ns cc en
      obtain ⟨ds, f1, f2⟩ := Option.bind_eq_some_iff.mp en
      have du := c2.dp
      cases du
      obtain ⟨a, ws, F3, rfl, hH, dp, c3⟩ := c2.pop.lfz f1
      have e3 := dts_ints dp f2
      subst e3
      exact ⟨a, ns, cc, rfl, rfl, .of hH, fun e => k _ _ _ _ F3 (h2.1 e) (c3.push (.int _)), fun m hm hx => k _ _ _ _ F3 (h2.2 m hm hx) (c3.push (.int _))⟩
    · exact h2.elim
/-! f(k = v, ..), all by name, in order -/
def SK (X : Cx) (kws : List Keyword) (t : AR) : Prop := PK X kws (LR X.K t)
theorem pkTo {kws : List Keyword} {t t' : TA} (h : PK X kws t) (i : ∀ σ H Q, t' σ H Q → t σ H Q) : PK X kws t' := ⟨fun pos pins s σ H Q I q => h.run pos pins s σ H Q I (i σ H Q q)⟩
variable {trr : AR} {kws : List Keyword} {nm : Option Str} {kpos : Pos}
theorem sk_nil : SK X [] aRn := pkTo pk_nil fun σ H Q ⟨A, F, env, R, c, h, k⟩ => k _ _ _ _ _ _ _ h .nil c
theorem sk_v (ha : SE X e te) (hr : SK X kws trr) : SK X (⟨nm, e, kpos⟩ :: kws) (aRv te trr) := pkTo (pk_cons ha hr) fun σ H Q ⟨A, F, env, R, c, h, k⟩ =>
  ev c h fun x e1 v H1 F1 h1 c1 => evr c1 h1 fun as e2 us H2 F2 ts ys h2 ar c2 => k _ _ _ _ _ _ _ h2 (.v ar) (by
    have := At.front ar.len c2
    simpa using this)
theorem sk_s (h : PE X e (tVar i)) (hr : SK X kws trr) : SK X (⟨nm, e, kpos⟩ :: kws) (aRs i trr) := pkTo (pk_cons h hr) fun σ H Q ⟨A, F, env, R, c, h, k⟩ => by
  obtain ⟨h0, h⟩ := h
  obtain ⟨v, hv⟩ := getSome c h0
  exact ⟨v, hv, evr c h fun as e2 us H2 F2 ts ys h2 ar c2 => k _ _ _ _ _ _ _ h2 (.s hv ar) (by simpa using c2)⟩
def KwB (K : PySem.W.Frag) (fd : FuncData) (ps : List Str) : Prop := ∀ (s : Shared) (ws : List Value), K.In s.heap → ws.length = ps.length → BindsTo s fd ⟨[], ps.zip ws⟩ (ps.zip ws)
theorem KwB.of {K : PySem.W.Frag} {fd : FuncData} {ps : List Str} (h : ∀ ws : List Value, ws.length = ps.length → bindArgs fd ⟨[], ps.zip ws⟩ = pure (ps.zip ws)) : KwB K fd ps := fun s ws _ l => .of_eq (h ws l)
theorem se_callK {CX : CXT} {f : Addr} {fd : FuncData} {ps : List Str} {E : XK} {C : AC} {k : Nat} (G : Fn X.prog X.w X.K X.mg X.base CX k f fd ps (spA X.K C)) (gd : X.A.guards = some []) (hr : Room k X.A) (hg : Gl X x) (hm : X.mg x = some (.ref f)) (hk : PySem.W.keepIn X.K (.ref f) = true) (hb : KwB X.K fd ps) (hx : Passes CX X E) (ha : SK X kws trr)
    (hdb : (x == ("__debug__" : Str)) = false := by decide) (hall : (backToKw pos (keywordEach kws X.env)).all (·.1.isSome) = true := by rfl) (hks : (backToKw pos (keywordEach kws X.env)).filterMap (·.1) = ps := by rfl)
    (hpl : ((backTo pos (starEach [] X.env)).any (·.1) || (backToKw pos (keywordEach kws X.env)).any (·.1.isNone)) = false := by rfl) :
    SE X (.Call (.Name x p) [] kws pos) (aCall C trr) := by
  constructor
  intro pins s σ H Q I h
  obtain ⟨A, F, env, R, c, h, kk⟩ := h
  refine wpAny_Call_Name_kw (ld_glob I hg hm ?_ hdb)
  refine PySem.W.callWith_KW0 (h₀ := X.base) I.ok.mod.kin hk hall ?_ hpl
  rw [hks]
  have z := ha.run pos pins s σ H (fun vs H1 => spA X.K C vs H1 Q E) I (evr c h fun as e1 us H1 F1 ts ys h1 ar c1 => by
    split at h1
    · rename_i p ep
      obtain ⟨zs, e2⟩ := p
      have c2 := tk_ok (us := []) (ys := []) ar ep rfl c1
      simp only [List.append_nil] at c2
      exact call_ok c2 h1 fun z xs' w H' F' r b => kk _ _ _ _ _ r.2 (pt_ok ar (by rw [r.1]; exact tk_len ar ep) (At.app_comm (vs1 := [w]) (xs1 := [z]) rfl b))
    · exact h1.elim)
  refine thn z ?_
  rintro ws s2 ⟨zs, H2, I2, rz, q2⟩
  refine ⟨I2.kIn, ?_⟩
  have ll : ws.length = ps.length := rz.length.symm.trans (G.len _ _ _ _ q2)
  refine wpAny_call (codeAny_mono (G.run X.A X.stack s2 H2 ⟨[], ps.zip ws⟩ ws zs Q E gd hr I2.env0 (hb s2 ws I2.kIn ll) rz q2) ?_)
  intro rr s' hq
  match rr, hq with
  | .error e, hq => exact hx pins σ H2 s2 e s' I2 hq
  | .ok (.ret u), hq => exact I2.after hq
  | .ok .next, hq => exact hq.elim
  | .ok .brk, hq => exact hq.elim
  | .ok .cont, hq => exact hq.elim
end
end Ow
namespace Ow
open PySem L2 Grd PyProof.Rows
theorem dt_strs {K : PySem.W.Frag} {H : Hp} {a : Addr} {ss : List Str} (h : SqT K H a (ss.map V.str)) : Dt K H (.ref a) (.tuple (ss.map PyData.str)) := .tup h (strs_dts ss)
theorem lookup_mem {tb : List (Str × PyData)} {z : Str} {d : PyData} (h : tb.lookup z = some d) : (z, d) ∈ tb := by
  induction tb with
  | nil => simp at h
  | cons p tb ih =>
    obtain ⟨k, v⟩ := p
    rw [List.lookup_cons] at h
    split at h
    · rename_i e
      cases h
      rw [eq_of_beq e]
      exact List.mem_cons_self
    · exact List.mem_cons_of_mem _ (ih h)
theorem KdT.of {K : PySem.W.Frag} {w : World} {a : Addr} {tb : List (Str × PyData)} (h : ∀ p ∈ tb, ∃ v, KDct K w a p.1 v ∧ ∀ H, Dt K H v p.2) : KdT K w a tb := ⟨fun z d e => h (z, d) (lookup_mem e)⟩
end Ow

/-! Plain parts: how a meaning is gone through. -/
namespace Ow
open PySem L2 Grd PyProof.Rows
theorem e_aAsg (t : AE) (tg : Tg) (D : AD) (env : En) : aAsg t tg D env = (t env fun x e => match tgSet tg x e with
  | some e1 => D.nx e1
  | none => False) := rfl
theorem e_aRet (t : AE) (D : AD) (env : En) : aRet t D env = (t env D.rt) := rfl
theorem e_aRetN (D : AD) (env : En) : aRetN  D env = (D.rt (.d .none) env) := rfl
theorem e_aDrop (t : AE) (D : AD) (env : En) : aDrop t D env = (t env fun _ e => D.nx e) := rfl
theorem e_aPass (D : AD) (env : En) : aPass  D env = (D.nx env) := rfl
theorem e_aBrk (D : AD) (env : En) : aBrk  D env = (D.bk env) := rfl
theorem e_aCnt (D : AD) (env : En) : aCnt  D env = (D.ct env) := rfl
theorem e_aPut (i : Nat) (tv ti : AE) (D : AD) (env : En) : aPut i tv ti D env = (tv env fun x e1 => (match e1[i]? with | some (some _) => True | _ => False) ∧ ti e1 fun y e2 => match y with
  | .d (.int k) => match e2[i]? with
    | some (some (.n .lst xs)) => match ixN xs.length k with
      | some j => D.nx (e2.set i (some (.n .lst (xs.set j x))))
      | none => False
    | _ => False
  | _ => False) := rfl
theorem e_aPar (is : List Nat) (t : AA) (D : AD) (env : En) : aPar is t D env = (t env fun xs e => match tgSets (is.map Tg.n) xs e with
  | some e1 => D.nx e1
  | none => False) := rfl
theorem e_aFor (it : AI) (tg : Tg) (tb : AS) (D : AD) (env : En) : aFor it tg tb D env = (it env fun ds e => forW tg tb D ds e) := rfl
theorem e_aTst (t : AE) (env : En) (Q : Bool → En → Prop) : aTst t env Q = (t env fun x e => match x with
  | .d (.bool b) => Q b e
  | _ => False) := rfl
theorem e_aAnd (t u : AT) (env : En) (Q : Bool → En → Prop) : aAnd t u env Q = (t env fun b e => if b = true then u e Q else Q false e) := rfl
theorem e_aOr (t u : AT) (env : En) (Q : Bool → En → Prop) : aOr t u env Q = (t env fun b e => if b = true then Q true e else u e Q) := rfl
theorem e_aNot (t : AT) (env : En) (Q : Bool → En → Prop) : aNot t env Q = (t env fun b e => Q (!b) e) := rfl
theorem e_aIf (t : AT) (u v : AE) (env : En) (Q : OV → En → Prop) : aIf t u v env Q = (t env fun b e => if b = true then u e Q else v e Q) := rfl
theorem e_aIfT (t u v : AT) (env : En) (Q : Bool → En → Prop) : aIfT t u v env Q = (t env fun b e => if b = true then u e Q else v e Q) := rfl
theorem e_aAndV (t u : AE) (env : En) (Q : OV → En → Prop) : aAndV t u env Q = (t env fun x e => match x with
  | .d (.bool b) => if b = true then u e Q else Q (.d (.bool false)) e
  | _ => False) := rfl
theorem e_aOrV (t u : AE) (env : En) (Q : OV → En → Prop) : aOrV t u env Q = (t env fun x e => match x with
  | .d (.bool b) => if b = true then Q (.d (.bool true)) e else u e Q
  | _ => False) := rfl
theorem e_aYes (env : En) (Q : Bool → En → Prop) : aYes  env Q = (Q true env) := rfl
theorem e_aC (d : PyData) (env : En) (Q : OV → En → Prop) : aC d env Q = (Q (.d d) env) := rfl
theorem e_aName (i : Nat) (env : En) (Q : OV → En → Prop) : aName i env Q = (match env[i]? with
  | some (some (.d x)) => Q (.d x) env
  | some (some x) => match frz x with
    | some y => Q (.d y) (env.set i (some (.d y)))
    | none => False
  | _ => False) := rfl
theorem e_aMove (i : Nat) (env : En) (Q : OV → En → Prop) : aMove i env Q = (match env[i]? with
  | some (some (.d x)) => Q (.d x) env
  | some (some x) => Q x (env.set i none)
  | _ => False) := rfl
theorem e_aIxN (i : Nat) (tb : AE) (env : En) (Q : OV → En → Prop) : aIxN i tb env Q = ((match env[i]? with | some (some _) => True | _ => False) ∧ tb env fun y e => match e[i]? with
  | some (some (.d x)) => oIx (.d x) y fun z => Q z e
  | some (some (.n .lst xs)) => match y with
    | .d (.int k) => match ixN xs.length k with
      | some j => match xs[j]? with
        | some (.d d) => Q (.d d) e
        | some o => match frz o with
          | some d => Q (.d d) (e.set i (some (.n .lst (xs.set j (.d d)))))
          | none => False
        | none => False
      | none => False
    | _ => False
  | _ => False) := rfl
theorem e_aLenN (i : Nat) (env : En) (Q : OV → En → Prop) : aLenN i env Q = (match env[i]? with
  | some (some x) => oLen1 x fun z => Q z env
  | _ => False) := rfl
theorem e_aAddN (i : Nat) (tb : AE) (env : En) (Q : OV → En → Prop) : aAddN i tb env Q = ((match env[i]? with | some (some _) => True | _ => False) ∧ tb env fun y e => match e[i]? with
  | some (some (.d x)) => oAdd (.d x) y fun z => Q z e
  | some (some (.n .lst xs)) => match dats xs, lel y with
    | some ds, some ys => ds.length + ys.length ≤ sizeLine ∧ Q (.n .lst (ds.map .d ++ ys)) e
    | _, _ => False
  | _ => False) := rfl
theorem e_aMt (i : Nat) (mm : MM) (t : AA) (env : En) (Q : OV → En → Prop) : aMt i mm t env Q = ((match env[i]? with | some (some (.n .lst _)) => True | _ => False) ∧ t env fun args e => match e[i]? with
  | some (some (.n .lst xs)) => mm xs args fun z xs' => Q z (e.set i (some (.n .lst xs')))
  | _ => False) := rfl
theorem e_aNil (env : En) (Q : List OV → En → Prop) : aNil  env Q = (Q [] env) := rfl
theorem e_aCons (ta : AE) (tr : AA) (env : En) (Q : List OV → En → Prop) : aCons ta tr env Q = (ta env fun x e1 => tr e1 fun xs e2 => Q (x :: xs) e2) := rfl
theorem e_aLst (t : AA) (env : En) (Q : OV → En → Prop) : aLst t env Q = (t env fun xs e => xs.length ≤ sizeLine ∧ Q (.n .lst xs) e) := rfl
theorem e_aTup (t : AA) (env : En) (Q : OV → En → Prop) : aTup t env Q = (t env fun xs e => xs.length ≤ sizeLine ∧ Q (mkT xs) e) := rfl
theorem e_aSl (te : AE) (tl th : AO) (env : En) (Q : OV → En → Prop) : aSl te tl th env Q = (te env fun x e1 => tl e1 fun lo e2 => th e2 fun hi e3 => oSl x lo hi fun z => Q z e3) := rfl
theorem e_aNoP (env : En) (Q : Option Int → En → Prop) : aNoP  env Q = (Q none env) := rfl
theorem e_aPart (t : AE) (env : En) (Q : Option Int → En → Prop) : aPart t env Q = (t env fun x e => match x with
  | .d (.int i) => Q (some i) e
  | _ => False) := rfl
theorem e_aTxt (ta : AE) (env : En) (Q : OV → En → Prop) : aTxt ta env Q = (ta env fun x e1 => (match x with | .d (.str _) => Q x e1 | _ => False)) := rfl
theorem e_aCall (C : AC) (t : AR) (env : En) (Q : OV → En → Prop) : aCall C t env Q = (t env fun as e => match tkA as e with
  | some p => C p.1 fun z xs' => xs'.length = p.1.length ∧ Q z (ptA as xs' p.2)
  | none => False) := rfl
theorem e_aRn (env : En) (Q : List Ar → En → Prop) : aRn  env Q = (Q [] env) := rfl
theorem e_aRv (te : AE) (t : AR) (env : En) (Q : List Ar → En → Prop) : aRv te t env Q = (te env fun x e1 => t e1 fun as e2 => Q (.v x :: as) e2) := rfl
theorem e_aRs (i : Nat) (t : AR) (env : En) (Q : List Ar → En → Prop) : aRs i t env Q = ((match env[i]? with | some (some _) => True | _ => False) ∧ t env fun as e2 => Q (.s i :: as) e2) := rfl
theorem e_aLc (it : AI) (tg : Tg) (tt : AT) (te : AE) (vs : List Nat) (env : En) (Q : OV → En → Prop) : aLc it tg tt te vs env Q = (it env fun ds e => lcW tg tt te vs Q ds [] (wipeE e vs)) := rfl
theorem e_aOver (t : AE) (env : En) (Q : List PyData → En → Prop) : aOver t env Q = (t env fun x e => match (frz x).bind sit with
  | some ds => Q ds e
  | none => False) := rfl
theorem e_aRng (t : AE) (env : En) (Q : List PyData → En → Prop) : aRng t env Q = (t env fun x e => match x with
  | .d (.int j) => (-(2 ^ 62) ≤ j ∧ j < 2 ^ 62) ∧ Q ((List.range j.toNat).map fun (k : Nat) => .int k) e
  | _ => False) := rfl
theorem e_aEnum (ta : AE) (env : En) (Q : List PyData → En → Prop) : aEnum ta env Q = (ta env fun x e1 => match sfd x with
  | some xs => Q (enumD xs) e1
  | none => False) := rfl
theorem e_aZip2 (ta tb : AE) (env : En) (Q : List PyData → En → Prop) : aZip2 ta tb env Q = (ta env fun x e1 => tb e1 fun y e2 => match sfd x, sfd y with
  | some xs, some ys => Q (zipD xs ys) e2
  | _, _ => False) := rfl
theorem e_a2 (o : OV → OV → (OV → Prop) → Prop) (ta tb : AE) (env : En) (Q : OV → En → Prop) : a2 o ta tb env Q = ta env fun x e1 => tb e1 fun y e2 => o x y fun z => Q z e2 := rfl
theorem e_a1 (o : OV → (OV → Prop) → Prop) (ta : AE) (env : En) (Q : OV → En → Prop) : a1 o ta env Q = ta env fun x e1 => o x fun z => Q z e1 := rfl
theorem e_aCB (o : List OV → (OV → Prop) → Prop) (t : AA) (env : En) (Q : OV → En → Prop) : aCB o t env Q = t env fun xs e => o xs fun z => Q z e := rfl
theorem e_aChain (f g : PyData → PyData → (PyData → Prop) → Prop) (ta tb tc : AE) (env : En) (Q : OV → En → Prop) : aChain f g ta tb tc env Q = ta env fun x e1 => tb e1 fun y e2 => o2 f x y fun z => match z with
  | .d (.bool b) => if b = true then tc e2 fun w e3 => o2 g y w fun q => Q q e3 else Q (.d (.bool false)) e2
  | _ => False := rfl
theorem aSeq_i {t u : AS} {D : AD} {env : En} (h : t { D with nx := u D } env) : aSeq t u D env := h
/-- what comes later, not to be looked into yet -/
def hid (k : En → Prop) : En → Prop := k
theorem hid_i {k : En → Prop} {e : En} (h : k e) : hid k e := h
theorem aSeq_h {t u : AS} {D : AD} {env : En} (h : t { D with nx := hid (u D) } env) : aSeq t u D env := h
/-- which branch -/
def brB (t u : AS) (D : AD) : Bool → En → Prop := fun b e => if b = true then t D e else u D e
theorem aIfS_i {c : AT} {t u : AS} {D : AD} {env : En} (h : c env (brB t u D)) : aIfS c t u D env := h
theorem br_i {t u : AS} {D : AD} {b : Bool} {e : En} (h1 : b = true → t D e) (h2 : b = false → u D e) : brB t u D b e := by
  cases b with
  | true => exact h1 rfl
  | false => exact h2 rfl
theorem br_t {t u : AS} {D : AD} {b : Bool} {e : En} (h : b = true) (h1 : t D e) : brB t u D b e := by subst h; exact h1
theorem br_f {t u : AS} {D : AD} {b : Bool} {e : En} (h : b = false) (h1 : u D e) : brB t u D b e := by subst h; exact h1
theorem ifB {c : Prop} [Decidable c] {p q : Prop} (h1 : c → p) (h2 : ¬ c → q) : if c then p else q := by
  by_cases h : c
  · rw [if_pos h]; exact h1 h
  · rw [if_neg h]; exact h2 h
theorem beg_def (n : Nat) (xs : List OV) : beg n xs = xs.map some ++ List.replicate (n - xs.length) none := rfl
theorem ixN_lit {n : Nat} {k : Nat} (h : k < n) : ixN n (k : Int) = some k := by
  unfold ixN
  rw [if_pos (by omega), if_pos (by omega)]
  simp
theorem lit0 {n : Nat} : ixN (n + 1) 0 = some 0 := ixN_lit (k := 0) (by omega)
theorem lit1 {n : Nat} : ixN (n + 1 + 1) 1 = some 1 := ixN_lit (k := 1) (by omega)
theorem lit2 {n : Nat} : ixN (n + 1 + 1 + 1) 2 = some 2 := ixN_lit (k := 2) (by omega)
theorem lit3 {n : Nat} : ixN (n + 1 + 1 + 1 + 1) 3 = some 3 := ixN_lit (k := 3) (by omega)
theorem lit4 {n : Nat} : ixN (n + 1 + 1 + 1 + 1 + 1) 4 = some 4 := ixN_lit (k := 4) (by omega)
theorem atI_lit {α : Type} {xs : List α} {k : Nat} : atI xs (k : Int) = xs[k]? := by
  unfold atI
  by_cases h : k < xs.length
  · rw [ixN_lit h]; rfl
  · unfold ixN
    rw [if_pos (by omega), if_neg (by omega), List.getElem?_eq_none (by omega)]
    rfl
theorem at0 {α : Type} {a : α} {l : List α} : atI (a :: l) 0 = some a := by rw [show (0 : Int) = ((0 : Nat) : Int) from rfl, atI_lit]; rfl
theorem at1 {α : Type} {a b : α} {l : List α} : atI (a :: b :: l) 1 = some b := by rw [show (1 : Int) = ((1 : Nat) : Int) from rfl, atI_lit]; rfl
theorem at2 {α : Type} {a b c : α} {l : List α} : atI (a :: b :: c :: l) 2 = some c := by rw [show (2 : Int) = ((2 : Nat) : Int) from rfl, atI_lit]; rfl
theorem at3 {α : Type} {a b c d : α} {l : List α} : atI (a :: b :: c :: d :: l) 3 = some d := by rw [show (3 : Int) = ((3 : Nat) : Int) from rfl, atI_lit]; rfl
theorem at4 {α : Type} {a b c d e : α} {l : List α} : atI (a :: b :: c :: d :: e :: l) 4 = some e := by rw [show (4 : Int) = ((4 : Nat) : Int) from rfl, atI_lit]; rfl
theorem cut_to {α : Type} (xs : List α) (k : Nat) : cut xs none (some (k : Int)) = xs.take k := by
  unfold cut
  rw [HT.sIx_none, HT.sIx_nat]
  simp only [List.drop_zero, Nat.sub_zero]
  by_cases h : k ≤ xs.length
  · rw [Nat.min_eq_left h]
  · rw [Nat.min_eq_right (by omega), List.take_of_length_le (Nat.le_refl _), List.take_of_length_le (by omega)]
theorem cut_from {α : Type} (xs : List α) (k : Nat) : cut xs (some (k : Int)) none = xs.drop k := by
  unfold cut
  rw [HT.sIx_none, HT.sIx_nat]
  by_cases h : k ≤ xs.length
  · rw [Nat.min_eq_left h, List.take_of_length_le (by simp)]
  · rw [Nat.min_eq_right (by omega), List.drop_of_length_le (Nat.le_refl _), List.drop_of_length_le (by omega), List.take_nil]
theorem cut_t2 {α : Type} (xs : List α) : cut xs none (some 2) = xs.take 2 := cut_to xs 2
theorem cut_t3 {α : Type} (xs : List α) : cut xs none (some 3) = xs.take 3 := cut_to xs 3
theorem cut_t4 {α : Type} (xs : List α) : cut xs none (some 4) = xs.take 4 := cut_to xs 4
theorem cut_f1 {α : Type} (xs : List α) : cut xs (some 1) none = xs.drop 1 := cut_from xs 1
theorem cut_f3 {α : Type} (xs : List α) : cut xs (some 3) none = xs.drop 3 := cut_from xs 3
theorem cut_f4 {α : Type} (xs : List α) : cut xs (some 4) none = xs.drop 4 := cut_from xs 4
theorem frz_lst (ds : List PyData) : frz (.n .lst (ds.map OV.d)) = some (.list ds) := by simp [frz, frzs_map]
/-- a list that is told by a for, part by part -/
theorem lc_run {tg : Tg} {tt : AT} {te : AE} {vs : List Nat} {Q : OV → En → Prop} (all : List PyData) (J : List PyData → List OV → En → Prop)
    (step : ∀ done d rest acc e, done ++ d :: rest = all → J done acc e → ∀ K : List OV → En → Prop, (∀ acc' e', J (done ++ [d]) acc' e' → K acc' e') →
      match tgSet tg (.d d) e with
      | some e1 => tt e1 fun b e2 => if b = true then te e2 fun y e3 => acc.length < sizeLine ∧ K (acc ++ [y]) (wipeE e3 vs) else K acc (wipeE e2 vs)
      | none => False)
    (fin : ∀ acc e, J all acc e → Q (.n .lst acc) e) : ∀ (rest done : List PyData) (acc : List OV) (e : En), done ++ rest = all → J done acc e → lcW tg tt te vs Q rest acc e
  | [], done, acc, e, h, j => by
    rw [List.append_nil] at h
    subst h
    exact fin acc e j
  | d :: rest, done, acc, e, h, j => by
    unfold lcW
    exact step done d rest acc e h j (fun acc' e' => lcW tg tt te vs Q rest acc' e') fun acc' e' j' => lc_run all J step fin rest (done ++ [d]) acc' e' (by rw [List.append_assoc]; exact h) j'
/-- the same, where nothing else is changed: f tells what comes of one -/
theorem lc_pure {tg : Tg} {tt : AT} {te : AE} {vs : List Nat} {Q : OV → En → Prop} {e0 : En} {ds : List PyData} (f : PyData → Option OV)
    (step : ∀ d, d ∈ ds → ∀ (lim : Prop) (K : Option OV → En → Prop), lim → K (f d) e0 →
      match tgSet tg (.d d) e0 with
      | some e1 => tt e1 fun b e2 => if b = true then te e2 fun y e3 => lim ∧ K (some y) (wipeE e3 vs) else K none (wipeE e2 vs)
      | none => False)
    (len : ds.length ≤ sizeLine) (h : Q (.n .lst (ds.filterMap f)) e0) : lcW tg tt te vs Q ds [] e0 := by
  refine lc_run ds (fun done acc e => e = e0 ∧ acc = done.filterMap f) ?_ ?_ ds [] [] e0 rfl ⟨rfl, rfl⟩
  · rintro done d rest acc e hd ⟨rfl, rfl⟩ K hK
    have hm : d ∈ ds := by rw [← hd]; simp
    have l1 : (done.filterMap f).length ≤ done.length := List.length_filterMap_le _ _
    have l2 : done.length < ds.length := by rw [← hd]; simp
    have g := step d hm ((done.filterMap f).length < sizeLine) (fun o e' => match o with | some y => K (done.filterMap f ++ [y]) e' | none => K (done.filterMap f) e') (by omega) (by
      cases ef : f d with
      | none => exact hK _ _ ⟨rfl, by simp [ef]⟩
      | some y => exact hK _ _ ⟨rfl, by simp [ef]⟩)
    exact g
  · rintro acc e ⟨rfl, rfl⟩
    exact h
theorem for_run {tg : Tg} {tb : AS} {D : AD} (all : List PyData) (J : List PyData → En → Prop)
    (step : ∀ done d rest e, done ++ d :: rest = all → J done e → ∀ K : En → Prop, (∀ e', J (done ++ [d]) e' → K e') →
      match tgSet tg (.d d) e with
      | some e1 => tb { D with nx := K, ct := K, bk := D.nx } e1
      | none => False)
    (fin : ∀ e, J all e → D.nx e) : ∀ (rest done : List PyData) (e : En), done ++ rest = all → J done e → forW tg tb D rest e
  | [], done, e, h, j => by
    rw [List.append_nil] at h
    subst h
    exact fin e j
  | d :: rest, done, e, h, j => by
    unfold forW
    exact step done d rest e h j (fun e' => forW tg tb D rest e') fun e' j' => for_run all J step fin rest (done ++ [d]) e' (by rw [List.append_assoc]; exact h) j'
theorem retD_rt (bs : List Bool) (xs : List OV) (R : OV → List OV → Prop) (z : OV) (e : En) : (retD bs xs R).rt z e = match finA bs 0 xs e with | some xs' => R z xs' | none => False := rfl
theorem retD_nx (bs : List Bool) (xs : List OV) (R : OV → List OV → Prop) (e : En) : (retD bs xs R).nx e = match finA bs 0 xs e with | some xs' => R (.d .none) xs' | none => False := rfl
end Ow

/-! A def's promise where some of what is handed in is fixed at once. -/
namespace Ow
open PySem L2 Grd PyProof.Rows
def fixL : List Bool → List OV → Option (List OV)
  | [], [] => some []
  | false :: bs, x :: xs => (fixL bs xs).map (x :: ·)
  | true :: bs, x :: xs => (frz x).bind fun d => (fixL bs xs).map (.d d :: ·)
  | _, _ => none
def fixC (bs : List Bool) (C : AC) : AC := fun xs R => ∃ ys, fixL bs xs = some ys ∧ C ys R
section
variable {K : PySem.W.Frag} {A : Addr → Prop} {F0 F : FS} {H0 H : Hp} {σ : L2.St} {env : En}
theorem fixL_len : ∀ {bs : List Bool} {xs ys : List OV}, fixL bs xs = some ys → ys.length = xs.length
  | [], [], ys, h => by cases h; rfl
  | false :: bs, x :: xs, ys, h => by
    obtain ⟨zs, h1, rfl⟩ := Option.map_eq_some_iff.mp h
    simp [fixL_len h1]
  | true :: bs, x :: xs, ys, h => by
    obtain ⟨d, h1, h2⟩ := Option.bind_eq_some_iff.mp h
    obtain ⟨zs, h3, rfl⟩ := Option.map_eq_some_iff.mp h2
    simp [fixL_len h3]
  | [], _ :: _, ys, h => by cases h
  | true :: _, [], ys, h => by cases h
  | false :: _, [], ys, h => by cases h
theorem At.fixL : ∀ {bs : List Bool} {us : List V} {ys zs : List OV} {F : FS} {vs : List V} {xs : List OV}, At K A F0 H0 H F (us ++ vs) (ys ++ xs) σ env → ys.length = us.length → fixL bs ys = some zs → ∃ F', At K A F0 H0 H F' (us ++ vs) (zs ++ xs) σ env
  | [], [], [], zs, F, _, _, c, _, e => by cases e; exact ⟨F, c⟩
  | false :: bs, u :: us, y :: ys, zs, F, vs, xs, c, l, e => by
    obtain ⟨ws, h1, rfl⟩ := Option.map_eq_some_iff.mp e
    have l' : ys.length = us.length := by simpa using l
    have c1 := At.app_comm (vs1 := [u]) (xs1 := [y]) (vs2 := us ++ vs) (xs2 := ys ++ xs) rfl c
    rw [List.append_assoc, List.append_assoc] at c1
    obtain ⟨F1, c2⟩ := At.fixL c1 l' h1
    rw [← List.append_assoc, ← List.append_assoc] at c2
    exact ⟨F1, At.app_comm (vs1 := us ++ vs) (xs1 := ws ++ xs) (vs2 := [u]) (xs2 := [y]) (by
      have h5 := c.cf.len
      have h6 := fixL_len h1
      simp only [List.cons_append, List.length_cons, List.length_append] at h5
      simp only [List.length_append]
      omega) c2⟩
  | true :: bs, u :: us, y :: ys, zs, F, vs, xs, c, l, e => by
    obtain ⟨d, h0, h2⟩ := Option.bind_eq_some_iff.mp e
    obtain ⟨ws, h1, rfl⟩ := Option.map_eq_some_iff.mp h2
    have l' : ys.length = us.length := by simpa using l
    obtain ⟨F0', c0⟩ := At.fix c h0
    have c1 := At.app_comm (vs1 := [u]) (xs1 := [.d d]) (vs2 := us ++ vs) (xs2 := ys ++ xs) rfl c0
    rw [List.append_assoc, List.append_assoc] at c1
    obtain ⟨F1, c2⟩ := At.fixL c1 l' h1
    rw [← List.append_assoc, ← List.append_assoc] at c2
    exact ⟨F1, At.app_comm (vs1 := us ++ vs) (xs1 := ws ++ xs) (vs2 := [u]) (xs2 := [.d d]) (by
      have h5 := c.cf.len
      have h6 := fixL_len h1
      simp only [List.cons_append, List.length_cons, List.length_append] at h5
      simp only [List.length_append]
      omega) c2⟩
  | [], [], _ :: _, zs, F, _, _, c, l, e => by simp at l
  | [], _ :: _, [], zs, F, _, _, c, l, e => by simp at l
  | [], _ :: _, _ :: _, zs, F, _, _, c, l, e => by cases e
  | true :: _, _, [], zs, F, _, _, c, l, e => by cases e
  | false :: _, _, [], zs, F, _, _, c, l, e => by cases e
  | true :: _, [], _ :: _, zs, F, _, _, c, l, e => by simp at l
  | false :: _, [], _ :: _, zs, F, _, _, c, l, e => by simp at l
end
theorem Fn.imp {P : Program} {w : World} {K : PySem.W.Frag} {mg : Str → Option Value} {base : Heap} {CX : CXT} {k : Nat} {f : Addr} {fd : FuncData} {ps : List Str} {sp sp' : Sp}
    (G : Fn P w K mg base CX k f fd ps sp) (h : ∀ vs H Q E, sp' vs H Q E → sp vs H Q E) : Fn P w K mg base CX k f fd ps sp' :=
  ⟨fun vs H Q E z => G.len vs H Q E (h vs H Q E z), fun A outer s H args us vs Q E hg hr e0 hb r z => G.run A outer s H args us vs Q E hg hr e0 hb r (h vs H Q E z)⟩
theorem Fn.fixC {P : Program} {w : World} {K : PySem.W.Frag} {mg : Str → Option Value} {base : Heap} {CX : CXT} {k : Nat} {f : Addr} {fd : FuncData} {ps : List Str} {C : AC} (bs : List Bool)
    (G : Fn P w K mg base CX k f fd ps (spA K C)) : Fn P w K mg base CX k f fd ps (spA K (fixC bs C)) := by
  refine Fn.imp G fun vs H Q E => ?_
  rintro ⟨A, F, xs, R, c, ⟨ys, e, h⟩, q⟩
  have l := c.cf.len
  have c0 : At K A F H H F (vs ++ []) (xs ++ []) [] [] := by simpa using c
  obtain ⟨F', c1⟩ := At.fixL c0 l e
  have c2 : At K A F H H F' vs ys [] [] := by simpa using c1
  exact ⟨nxt A H, F', ys, R, ⟨.refl, c2.cf.mono fun _ z => .inl z⟩, h, fun z xs' w H' F'' r a => q z xs' w H' F'' r (c2.on a.st a.cf)⟩
theorem Fn.toC {P : Program} {w : World} {K : PySem.W.Frag} {mg : Str → Option Value} {base : Heap} {CX : CXT} {k : Nat} {f : Addr} {fd : FuncData} {ps : List Str} {C C' : AC}
    (G : Fn P w K mg base CX k f fd ps (spA K C)) (h : ∀ xs R, C' xs R → C xs R) : Fn P w K mg base CX k f fd ps (spA K C') :=
  Fn.imp G fun vs H Q E ⟨A, F, xs, R, c, z, q⟩ => ⟨A, F, xs, R, c, h xs R z, q⟩
end Ow

/-! A def that only looks: what was handed in stays its owner's. -/
namespace Ow
open PySem L2 Grd PyProof.Rows
open Evl (Ex)
def lendC (C : AC) : AC := fun xs R => ∃ ds, frzs xs = some ds ∧ C (ds.map .d) fun z _ => ∃ d, z = .d d ∧ flatD d = true ∧ R (.d d) xs
theorem owns_dts {K : PySem.W.Frag} {H : Hp} {F : FS} : ∀ {vs : List V} {ds : List PyData}, Dts K (rs H F) vs ds → Owns K H F vs (ds.map .d) []
  | _, _, .nil => .nil
  | _, _, .cons h t => .cons (.d h) (owns_dts t)
theorem flat_dt {K : PySem.W.Frag} {H H' : Hp} {v : V} {d : PyData} (h : Dt K H v d) (f : flatD d = true) : Dt K H' v d := by
  cases h with
  | non => exact .non
  | bl b => exact .bl b
  | int i => exact .int i
  | str x => exact .str x
  | lst _ _ => cases f
  | tup _ _ => cases f
theorem Fn.lend {P : Program} {w : World} {K : PySem.W.Frag} {mg : Str → Option Value} {base : Heap} {CX : CXT} {k : Nat} {f : Addr} {fd : FuncData} {ps : List Str} {C : AC}
    (G : Fn P w K mg base CX k f fd ps (spA K C)) : Fn P w K mg base CX k f fd ps (spA K (lendC C)) := by
  refine Fn.imp G fun vs H Q E => ?_
  rintro ⟨A, F, xs, R, c, ⟨ds, e, h⟩, q⟩
  obtain ⟨st, ⟨⟨a1, a2, h1, h2, nd, off⟩, fh⟩⟩ := c
  cases h2
  rw [List.append_nil] at nd off
  have dv : Dts K (rs H (fx F a1)) vs ds := h1.frz fx_le e fun a ha => fx_true.mpr (.inr ha)
  have ol := owns_dts dv
  refine ⟨A, fx F a1, ds.map .d, _, ⟨.refl, ⟨⟨[], [], ol, .nil, by simp, fun a ha => by simp at ha⟩, fun a ha => ?_⟩⟩, h, fun z xs' w H' F' r a => ?_⟩
  · rcases fx_true.mp ha with ha | ha
    · exact fh a ha
    · exact h1.ne a ha
  · obtain ⟨d, rfl, fl, r⟩ := r
    have keepF : ∀ b o, fx F a1 b = true → H b = some o → H' b = some o := fun b o hb ho => by
      have := a.st.fr b o (by rw [rs_some]; exact ⟨hb, ho⟩)
      rw [rs_some] at this
      exact this.2
    have fr : Ex (rs H F) (rs H' F) := fun b o hb => by
      rw [rs_some] at hb ⊢
      exact ⟨hb.1, keepF b o (fx_le b hb.1) hb.2⟩
    have o1 : Owns K H' F vs xs a1 := h1.keep fr fun b hb o ho => keepF b o (fx_true.mpr (.inr hb)) ho
    refine q (.d d) xs w H' F r ⟨⟨a.st.keep, fr, fun b hb => .inl hb⟩, ⟨⟨a1, [], ?_, .nil, by simpa using nd, fun b hb => off b (by simpa using hb)⟩, fun b hb => ?_⟩⟩
    · exact .cons (as := []) (.d (flat_dt a.dp fl)) o1
    · cases ho : H b with
      | none => exact absurd ho (fh b hb)
      | some o =>
        rw [keepF b o (fx_le b hb) ho]
        simp
end Ow

/-! Sets of texts: filled one by one, sorted. -/
namespace Ow
open PySem PySem.Spec L2 Grd PyProof.Rows PySem.Froz
/-- one more -/
def addT (l : List Str) (k : Str) : List Str := if k ∈ l then l else k :: l
/-- at a: a set of just the texts l, that can be walked -/
def TxS (P : Program) (w : World) (a : Addr) (l : List Str) (h : Heap) : Prop :=
  ∃ D : SD, h.get? a = some (sObj "set" D) ∧ TxOk P w D l ∧ l.Nodup ∧ l.length < scanBound ∧ Ris D.2.2.place.toList ∧ (w.params.followText "set-order" = true ∨ D.2.2.led = true)
theorem addT_nodup {l : List Str} (h : l.Nodup) (k : Str) : (addT l k).Nodup := by
  unfold addT
  split
  · exact h
  · exact List.nodup_cons.mpr ⟨‹_›, h⟩
theorem addT_mem {l : List Str} {k x : Str} : x ∈ addT l k ↔ x ∈ l ∨ x = k := by
  unfold addT
  split
  · exact ⟨.inl, fun z => z.elim id fun e => e ▸ ‹k ∈ l›⟩
  · rw [List.mem_cons]; exact Or.comm
theorem addT_len (l : List Str) (k : Str) : (addT l k).length ≤ l.length + 1 := by
  unfold addT
  split
  · omega
  · simp
theorem addTx_keeps (h : Int) (v : Value) (D : SD) (r : Ris D.2.2.place.toList) : Ris (addTx h v D).2.2.place.toList ∧ (addTx h v D).2.2.led = D.2.2.led := by
  have r1 := layNew_ris D.2.2 D.1 h v r
  have l1 := layNew_led D.2.2 D.1 h v
  unfold addTx
  generalize layNew D.2.2 D.1 h v = L at r1 l1 ⊢
  have q : Ris (if L.2.1.plain = true then { L.2.1 with plain := false } else L.2.1).place.toList ∧ (if L.2.1.plain = true then { L.2.1 with plain := false } else L.2.1).led = D.2.2.led := by
    split
    · exact ⟨r1, l1⟩
    · exact ⟨r1, l1⟩
  generalize (if L.2.1.plain = true then { L.2.1 with plain := false } else L.2.1) = t2 at q ⊢
  unfold tailTx
  split
  · exact ⟨relayAll_ris _ _ _, (relayAll_led _ _ _).trans q.2⟩
  · exact q
section
variable {P : Program} {w : World} {A : Around} {E : Value → Shared → Prop} {s : Shared} {a : Addr} {l : List Str} {k : Str} {u : Tok}
theorem TxS.keep {h h' : Heap} (R : TxS P w a l h) (kp : ∀ o, h.get? a = some o → h'.get? a = some o) : TxS P w a l h' := by
  obtain ⟨D, ho, r⟩ := R
  exact ⟨D, kp _ ho, r⟩
theorem tx_fresh {h : Heap} (w : World) : TxS P w h.objs.size [] (h.push { cls := .type "set", dict := none, data := .set #[] 0 (.fresh 0 0 (!w.params.followText "set-order")) }) := by
  refine ⟨(#[], 0, .fresh 0 0 (!w.params.followText "set-order")), Heap.get?_push_size _ rfl, TxOk.nil (by rfl), List.nodup_nil, by decide, List.Pairwise.nil, ?_⟩
  show _ ∨ (!w.params.followText "set-order") = true
  cases w.params.followText "set-order" <;> simp
theorem tx_addH {Q : Bool → Shared → Prop} (R : TxS P w a l s.heap) (room : l.length + 1 < scanBound)
    (hQ : ∀ b h', Heap.SameBut a s.heap h' → TxS P w a (addT l k) h' → Q b { s with heap := h' }) : wpAny (model P w) A (setAddHashed a (.str k u) (hashStr w k)) Q E s := by
  obtain ⟨D, ho, F, nd, hb, hr, hl⟩ := R
  by_cases hk : k ∈ l
  · have e0 : addT l k = l := if_pos hk
    have hd : (sObj "set" D).data = .set D.1 D.2.1 D.2.2 := rfl
    have hbs : D.1.size < scanBound := by rw [F.sz]; exact hb
    obtain ⟨e, he, q⟩ := (F.mem k).mp hk
    unfold setAddHashed setAddHashedIn
    refine wpAny_holding (wpAny_bind (wpAny_setState_of ho hd F.fit ?_))
    dsimp only
    rw [byScan_of (x := .str k u) rfl hbs F.el]
    simp only [↓reduceIte]
    unfold setAddByScan
    refine wpAny_bind (wpAny_bind (wpAny_rule (wpAny_bind (wpAny_setScan_of (knd := strKind P w) (k := k) (is_str k u) ho hd F.fit F.el ?_))))
    cases hf : List.findIdx? (fun e => (strKind P w).is k e.2) D.1.toList with
    | none =>
      have z := List.findIdx?_eq_none_iff.mp hf e he
      rw [q] at z
      cases z
    | some j =>
      dsimp only
      exact wpAny_pure (wpAny_pure (hQ _ s.heap (Heap.SameBut.refl a s.heap) (by rw [e0]; exact ⟨D, ho, F, nd, hb, hr, hl⟩)))
  · have e0 : addT l k = k :: l := if_neg hk
    obtain ⟨r1, r2⟩ := addTx_keeps (hashStr w k) (.str k u) D hr
    refine add_x ho F hk room (hQ _ _ (Heap.SameBut.update s.heap a _) ?_)
    rw [e0]
    exact ⟨_, get_upd _ ho rfl, add_ok u F, List.nodup_cons.mpr ⟨hk, nd⟩, room, r1, hl.imp id fun z => r2.trans z⟩
theorem tx_setAdd {Q : Bool → Shared → Prop} (R : TxS P w a l s.heap) (room : l.length + 1 < scanBound)
    (hQ : ∀ b h', Heap.SameBut a s.heap h' → TxS P w a (addT l k) h' → Q b { s with heap := h', toks := s.toks + 1 }) : wpAny (model P w) A (setAdd a (.str k u)) Q E s := by
  unfold setAdd
  exact wpAny_holding (wpAny_bind ((strKind P w).pyHash (k := k) (is_str k u) (tx_addH (s := { s with toks := s.toks + 1 }) R room hQ)))
theorem tx_call_add {Q : Value → Shared → Prop} (R : TxS P w a l s.heap) (room : l.length + 1 < scanBound)
    (hQ : ∀ h', Heap.SameBut a s.heap h' → TxS P w a (addT l k) h' → Q .none { s with heap := h', toks := s.toks + 1 }) : wpAny (model P w) A (call (.builtin "set.add") [.ref a, .str k u]) Q E s := by
  have ho : s.TypeIs (.ref a) "set" := let ⟨D, ho, _⟩ := R; ⟨_, ho, rfl⟩
  refine wpAny_call_entry F.slot_set_add ho F.entry_set_add ?_ (F.args_set_add_2 _ _)
  unfold Builtin.«set.add» Builtin.Frozenset.oneOther Builtin.Frozenset.addrOf
  simp only [List.isEmpty_nil, bind_assoc]
  refine wpAny_bind (wpAny_pure (wpAny_bind (wpAny_pure ?_)))
  refine wpAny_bind (tx_setAdd R room fun b h' sb r => ?_)
  show wpAny _ _ (ret Value.none) _ _ _
  exact wpAny_pure ⟨_, rfl, hQ h' sb r⟩
/-! sorted -/
def txtOf : Value → Str
  | .str x _ => x
  | _ => Str.empty
theorem strs_txtOf : ∀ (vs : List Value), (∀ v ∈ vs, ∃ x t, v = Value.str x t) → StrsAre vs (vs.map txtOf)
  | [], _ => .nil
  | v :: vs, h => by
    obtain ⟨x, t, rfl⟩ := h v List.mem_cons_self
    exact .cons x t (strs_txtOf vs fun y hy => h y (List.mem_cons_of_mem _ hy))
theorem perm_of_sub : ∀ {l m : List Str}, l.Nodup → (∀ x ∈ l, x ∈ m) → m.length = l.length → m.Perm l
  | [], m, _, _, h => by rw [List.eq_nil_of_length_eq_zero h]
  | x :: l, m, nd, sub, h => by
    obtain ⟨n1, n2⟩ := List.nodup_cons.mp nd
    have hx := sub x List.mem_cons_self
    have p := List.perm_cons_erase hx
    have le := p.length_eq
    simp only [List.length_cons] at le h
    refine p.trans (List.Perm.cons x (perm_of_sub n2 (fun y hy => ?_) (by omega)))
    have ne : y ≠ x := fun e => n1 (e ▸ hy)
    exact (List.mem_erase_of_ne ne).mpr (sub y (List.mem_cons_of_mem _ hy))
theorem tx_sorted {Q : Value → Shared → Prop} (R : TxS P w a l s.heap) (hh : A.handled = none)
    (hQ : ∀ s' p (out : Array Value) (c : Nat) (ss : List Str), (∀ b o, s.heap.get? b = some o → s'.heap.get? b = some o) → s'.gens = s.gens → s'.os = s.os → s.heap.objs.size ≤ p →
      s'.heap.get? p = some (seqObj "list" out c) → StrsAre out.toList ss → ss.Perm l → sortedS ss = true → Q (.ref p) s') : wpAny (model P w) A (call (.builtin "sorted") [.ref a]) Q E s := by
  obtain ⟨D, ho, F, nd, hb, hr, hl⟩ := R
  have hbs : D.1.size < scanBound := by rw [F.sz]; exact hb
  refine Calls.call_function_entry kind_sorted plain_sorted entry_sorted (args_sorted1 _) ?_
  unfold Builtin.«sorted»
  refine wpAny_bind (m := checkCount "sorted" 1 1 _) (wpAny_pure (wpAny_bind ?_))
  refine collect_set (A := A.in1) (es := D.1) (ep := D.2.1) (t := D.2.2) hh ⟨_, ho, rfl, rfl⟩ F.fit hbs hr hl fun s1 vs k1 hz g1 o1 pm => ?_
  have str : ∀ e ∈ D.1.toList, ∃ x t, e.2 = Value.str x t := fun e he => by
    obtain ⟨⟨k, h1, _⟩, _⟩ := F.el e he
    obtain ⟨t, e1⟩ := Value.isStrOf_shape (x := k) (v := e.2) h1
    exact ⟨k, t, e1⟩
  have hS : StrsAre vs (vs.map txtOf) := strs_txtOf vs fun v hv => by
    obtain ⟨e, he, q⟩ := List.mem_map.mp (pm.mem_iff.mp hv)
    obtain ⟨x, t, e1⟩ := str e he
    exact ⟨x, t, by rw [← q, e1]⟩
  have pk : (vs.map txtOf).Perm l := by
    refine (pm.map txtOf).trans (perm_of_sub nd (fun x hx => ?_) (by simp [F.sz]))
    obtain ⟨e, he, q⟩ := (F.mem x).mp hx
    obtain ⟨t, e1⟩ := Value.isStrOf_shape (x := x) (v := e.2) q
    rw [List.map_map]
    exact List.mem_map.mpr ⟨e, he, by show txtOf e.2 = x; rw [e1]; rfl⟩
  have hvl : vs.length ≤ sizeLine := by
    have := pk.length_eq
    rw [List.length_map] at this
    have e1 : scanBound = 4096 := rfl
    rw [sizeLine_eq]
    omega
  refine wpAny_bind (wpAny_newList ?_ hvl)
  have at1 : (s1.heap.push (seqObj "list" vs.toArray 0)).get? s1.heap.objs.size = some (seqObj "list" vs.toArray 0) := Heap.get?_push_size _ rfl
  refine wpAny_bind (wpAny_holding (wpAny_call_entry slot_list_sort ⟨_, at1, rfl⟩ entry_list_sort (list_sort_treeKAny strKind_oneLt at1 hS.keysOf
    (fun v₁ v₂ rest e => keyKind_strs (by rw [← e]; exact hS)) hvl fun st' a1 a2 => ⟨_, rfl, ?_⟩) (args_list_sort _)))
  obtain ⟨ss, q1, q2, q3⟩ := sorted_out_str hS a1 a2
  obtain ⟨c, hc⟩ := sortedHeap_at (vs := vs) (out := _) at1
  refine wpAny_pure ⟨_, rfl, hQ _ s1.heap.objs.size _ c ss (fun b o e => ?_) g1 o1 hz hc q1 (q2.trans pk) q3⟩
  have z := k1 b o e
  have lt := Heap.lt_size z
  show (sortedHeap (s1.heap.push (seqObj "list" vs.toArray 0)) s1.heap.objs.size vs _).get? b = some o
  rw [sortedHeap_old (Nat.ne_of_lt lt) (by rw [size_push']; exact Nat.lt_succ_of_lt lt)]
  exact Heap.get?_push_of_some _ z
end
end Ow

/-! A set that is filled by a comprehension (whatever the set's things are). -/
namespace Ow
open PySem PySem.Spec L2 Grd PyProof.Rows PySem.Froz
/-- how a set of one kind is tracked: what it is at first, what comes of an add -/
structure SKind (P : Program) (w : World) (β : Type) where
  ob : β → Addr → HO
  b0 : β
  ad : V → β → β → Prop
  first : ∀ (H : Hp) (h : Heap), ObjOk P w H (h.push { cls := .type "set", dict := none, data := .set #[] 0 (.fresh 0 0 (!w.params.followText "set-order")) }) h.objs.size (ob b0 h.objs.size)
  more : ∀ {X : Cx} {pins : List (Addr × Obj)} {σ : L2.St} {H : Hp} {s : Shared} {E : Value → Shared → Prop} {D : Addr} {b c : β} {y : V} {u : Value} {Q : Value → Shared → Prop}, X.prog = P → X.w = w → Inv X pins σ H s → H D = some (ob b D) → ad y b c → RelV y u →
    (∀ s', Inv X pins σ (upd H D (ob c D)) s' → Q .none s') → wpAny (model P w) X.A (call (.builtin "set.add") [.ref D, u]) Q E s
section
variable {X : Cx} {β : Type}
/-- {elt for target in iter if ..} -/
def tSK {P : Program} {w : World} (S : SKind P w β) (wi : TI) (g : TG) (tt : TT) (te : TE) (vs : List Nat) : TE := fun σ H Q => wi σ H fun J H1 => ∀ D, H1 D = none → ∃ W : Nat → Nat → Hp → Prop, (∃ m, W 0 m (upd H1 D (S.ob S.b0 D))) ∧
  ∀ i m H, W i m H → (J.stop i H ∧ Q (.ref D) H) ∨ (J.go i H ∧ ∃ Nx : Hp → Prop, (∀ H', Nx H' → ∃ m', m' < m ∧ W (i + 1) m' H') ∧
    ∀ x H', J.yld i H x H' → g x (wipe σ vs) H' fun σ2 H2 => wipe σ2 vs = wipe σ vs ∧ tt σ2 H2 fun b H3 => if b = true then te σ2 H3 fun y H4 => ∃ b c, H4 D = some (S.ob b D) ∧ S.ad y b c ∧ Nx (upd H4 D (S.ob c D)) else Nx H3)
theorem pe_sk (S : SKind X.prog X.w β) {elt tg iter : Expr} {ifs : List Expr} {scope : Scope} {own : List (PySem.Str × Nat)} {pos : Pos} {wi : TI} {g : TG} {tt : TT} {te : TE} (calm : X.calm = true) (hN : X.N.Nodup) (hi : PI X tg iter wi) (ok : BlkOk X.N X.env.scope scope own)
    (hg : ∀ (s : Shared) (H : Hp) (C : Addr) (cl : List (PySem.Str × Addr)) (fp : List Addr), PG (X.blk s H scope (compEnvC scope cl C X.env) fp) tg g)
    (ht : ∀ (s : Shared) (H : Hp) (C : Addr) (cl : List (PySem.Str × Addr)) (fp : List Addr), PTs (X.blk s H scope (compEnvC scope cl C X.env) fp) ifs tt)
    (he : ∀ (s : Shared) (H : Hp) (C : Addr) (cl : List (PySem.Str × Addr)) (fp : List Addr), PE (X.blk s H scope (compEnvC scope cl C X.env) fp) elt te)
    (hs : ∀ x, foldedSetIterable iter X.env x = pure x := by intro _; rfl) : PE X (.SetComp elt [⟨tg, iter, ifs, 0⟩] scope pos) (tSK S wi g tt te (own.map (·.2))) := by
  refine ⟨fun pins s σ H Q I hw => ?_⟩
  rw [PpSet.eval_SetComp]
  have cells : ∀ y ∈ scope.names, y.2 = .free → ∃ c, X.env.cells.lookup y.1 = some c := fun y hy e => (ok.free y hy e).elim (fun k => I.ok.has _ (.inl k)) fun k => I.ok.has _ (.inr k)
  refine wpAny_comprehension_free (use := none) rfl hs (closure_ok cells) ok.kind (fun y hy e => by rw [ok.uniq y hy, e]) (thn (hi.run pins s σ H _ I hw) fun xv s1 hx => thn hx ?_)
  rintro itv s2 ⟨it, fp, tn, J, H2, rfl, I2, T, st2, f2, q⟩
  refine PpSet.newSet_ok (newEnv_comp ?_)
  generalize eD : s2.heap.objs.size = D
  obtain ⟨W, ⟨m0, w0⟩, turn⟩ := q D (I2.hok.fresh (Nat.le_of_eq eD))
  generalize e3 : ({ s2 with heap := s2.heap.push { cls := .type "set", dict := none, data := .set #[] 0 (.fresh 0 0 (!X.w.params.followText "set-order")) } } : Shared) = s3
  have eh3 : s3.heap = s2.heap.push { cls := .type "set", dict := none, data := .set #[] 0 (.fresh 0 0 (!X.w.params.followText "set-order")) } := by rw [← e3]
  have I3 : Inv X pins σ (upd H2 D (S.ob S.b0 D)) s3 := by
    rw [← e3]
    exact I2.laid (t' := s2.toks) (fun b o e => Heap.get?_push_of_some _ e) (Nat.le_of_eq eD) (by rw [← eD]; exact S.first _ _)
  have f3 : ∀ b ∈ fp, FpOk X pins (upd H2 D (S.ob S.b0 D)) b ∧ b < s3.heap.objs.size := by
    intro b hb
    obtain ⟨o, e, _⟩ := T.obj _ _ st2 b hb
    have lt : b < s2.heap.objs.size := Heap.lt_size e
    exact ⟨⟨by rw [upd_ne (by rw [← eD]; exact Nat.ne_of_lt lt)]; exact (f2 b hb).1, (f2 b hb).2⟩, by rw [eh3, Heap.size_push]; exact Nat.lt_succ_of_lt lt⟩
  have st3 : tn 0 s3.heap := T.keep _ _ _ st2 fun b _ o e => eh3 ▸ Heap.get?_push_of_some _ e
  have I4 := block_start I3 ok hN f3
  generalize ecl : cellsFrom (s3.heap.objs.size + 1) scope.names (cloFrom X.env.cells scope.names []) = cl at I4
  generalize eH3 : upd H2 D (S.ob S.b0 D) = H3 at I3 I4 w0 f3
  have pg := hg s3 H3 s3.heap.objs.size cl fp
  have pt := ht s3 H3 s3.heap.objs.size cl fp
  have pe := he s3 H3 s3.heap.objs.size cl fp
  subst ecl
  show codeAny _ _ (.compStart _ 0 (.ref it) (.ref D) (compEnvC scope (cellsFrom (s3.heap.objs.size + 1) scope.names (cloFrom X.env.cells scope.names [])) s3.heap.objs.size X.env)) _ { s3 with heap := pushCells (s3.heap.push { cls := .type "dict", data := .dict #[] }) scope.names }
  have none3 : ∀ b ∈ fp, H3 b = none := fun b hb => (f3 b hb).1.1
  generalize ece : compEnvC scope (cellsFrom (s3.heap.objs.size + 1) scope.names (cloFrom X.env.cells scope.names [])) s3.heap.objs.size X.env = ce at I4 pg pt pe ⊢
  have loc : ce.locals = s3.heap.objs.size := by subst ece; rfl
  generalize e4 : ({ s3 with heap := pushCells (s3.heap.push { cls := .type "dict", data := .dict #[] }) scope.names } : Shared) = s4 at I4 ⊢
  have st4 : tn 0 s4.heap := T.keep _ _ _ st3 fun b _ o e => e4 ▸ pushCells_keeps _ _ _ _ (Heap.get?_push_of_some _ e)
  have fps : ∀ {σ' : L2.St} {H' : Hp} {s' : Shared}, Inv (X.blk s3 H3 scope ce fp) [] σ' H' s' → (∀ b ∈ fp, H' b = none) → ∀ b ∈ fp, FpOk (X.blk s3 H3 scope ce fp) [] H' b := fun J hn b hb =>
    ⟨hn b hb, (J.ok.exf b hb).1, J.ok.exfs b hb, .inl hb, fun x c e => (J.ok.exf b hb).2 x c e, fun p hp => by simp at hp⟩
  refine PpSet.codeAny_compStart_set ?_ (T.self X.A 0 _ _ _ st4 ?_)
  all_goals
    refine PpSet.compLoopS_any (fun n s' => ∃ i H', Inv (X.blk s3 H3 scope ce fp) [] (wipe σ (own.map (·.2))) H' s' ∧ tn i s'.heap ∧ (∀ b ∈ fp, H' b = none) ∧ W i n H') ?_ m0 ⟨0, H3, I4, st4, none3, w0⟩
    rintro n s5 ⟨i, H5, I5, st5, n5, w5⟩
    rcases turn i n H5 w5 with ⟨stop, fin⟩ | ⟨go, Nx, hNx, step⟩
    · refine thnF (T.done (X.blk s3 H3 scope ce fp) rfl rfl rfl calm i [] s5 _ H5 (fun _ _ => False) I5 (fps I5 n5) st5 stop) ?_
      rintro r s6 ⟨rfl, I6⟩
      have I7 : Inv X pins σ H5 s6 := I3.call' (ch := fp) I6.os I6.base I6.hok I6.bare fun b hb => let z := (f3 b hb).1.2; ⟨z.2.2.1, z.1, z.2.2.2.1, z.2.2.2.2⟩
      have nl : H5 s3.heap.objs.size = none := loc ▸ (show H5 ce.locals = none from I6.free)
      obtain ⟨m, hn, _⟩ := I6.loc
      obtain ⟨g0, g1, g2, g3, g4, g5⟩ := I3.fpOk (Nat.le_refl _) nl
      exact ⟨m, loc ▸ (show s6.heap.Ns ce.locals m from hn), fun h'' sb => ⟨.ref D, H5, I7.turned (t' := s6.toks) (fun b o hb e => (sb.2 b hb).trans e) g0 g1 g3 g4 g5, rfl, fin⟩⟩
    · refine thnF (T.item (X.blk s3 H3 scope ce fp) rfl rfl rfl calm i [] s5 _ H5 (fun _ _ => False) I5 (fps I5 n5) st5 go) ?_
      rintro r s6 ⟨u, rfl, h6⟩
      refine thnF h6 ?_
      rintro _ s7 ⟨x, H7, I7, r7, y7, st7, n7⟩
      refine thnF (pg.run _ s7 _ H7 x u _ (I7.pinned (fps I7 n7) (T.obj _ _ st7)) r7 (step x H7 y7)) ?_
      rintro _ s8 ⟨σ8, H8, I8, hw8, q8⟩
      refine thnF (pt.run _ s8 σ8 H8 _ I8 q8) ?_
      rintro b s9 ⟨H9, I9, q9⟩
      have back : ∀ {s' : Shared} {H' : Hp}, Inv (X.blk s3 H3 scope ce fp) ([] ++ pinsAt fp s7.heap) σ8 H' s' → Nx H' → ∃ m, m < n ∧ ∃ i H', Inv (X.blk s3 H3 scope ce fp) [] (wipe σ (own.map (·.2))) H' s' ∧ tn i s'.heap ∧ (∀ b ∈ fp, H' b = none) ∧ W i m H' := by
        intro s' H' J nx
        obtain ⟨m', lt, w'⟩ := hNx H' nx
        have pin' : ∀ b ∈ fp, ∀ o, s7.heap.get? b = some o → s'.heap.get? b = some o ∧ H' b = none := fun b hb o e =>
          ⟨(J.pin (b, o) (List.mem_append_right _ (List.mem_append_right _ (mem_pinsAt hb e)))).1, (J.pin (b, o) (List.mem_append_right _ (List.mem_append_right _ (mem_pinsAt hb e)))).2.1⟩
        refine ⟨m', lt, i + 1, H', (J.unpinned (pins := [])).weak (by rw [← hw8, wipe_length]) (fun j v e => (wipe_some (hw8 ▸ e)).1), T.keep _ _ _ st7 fun b hb o e => (pin' b hb o e).1, fun b hb => ?_, w'⟩
        obtain ⟨o, e, _⟩ := T.obj _ _ st7 b hb
        exact (pin' b hb o e).2
      cases b with
      | false =>
        simp only [Bool.false_eq_true, if_false] at q9 ⊢
        exact back I9 q9
      | true =>
        simp only [if_true] at q9 ⊢
        refine thnF (pe.run _ s9 σ8 H9 _ I9 q9) ?_
        rintro z s10 ⟨y, H10, I10, r10, b0, c0, hD10, ad, nx⟩
        exact S.more (X := X.blk s3 H3 scope ce fp) rfl rfl I10 hD10 ad r10 fun s11 I11 => back I11 nx
end
/-! ### texts -/
def TxO (P : Program) (w : World) (l : List Str) (a : Addr) : HO := .ext (TxS P w a l)
theorem txO_ok {P : Program} {w : World} {H : Hp} {h : Heap} {a : Addr} {l : List Str} (R : TxS P w a l h) : ObjOk P w H h a (TxO P w l a) := by
  obtain ⟨D, ho, r⟩ := R
  exact ⟨⟨D, ho, r⟩, ⟨_, ho⟩, fun h1 h2 p k => p.keep k⟩
def txK (P : Program) (w : World) : SKind P w (List Str) where
  ob := TxO P w
  b0 := []
  ad := fun y l l' => ∃ c : Str, y = .str c ∧ l.length + 1 < scanBound ∧ l' = addT l c
  first := fun H h => txO_ok (tx_fresh w)
  more := by
    rintro X pins σ H s E D l l' y u Q rfl rfl I hD ⟨c, rfl, room, rfl⟩ r h
    obtain ⟨t, rfl⟩ := r
    have R : TxS X.prog X.w D l s.heap := (I.hok D _ hD).1
    refine tx_call_add R room fun h' sb new => h _ ?_
    obtain ⟨D', ho', _⟩ := id new
    exact I.write (e := D) (t' := s.toks + 1) (by rw [hD]; trivial) (.inl rfl) (fun b u hb hu => (sb.2 b hb).trans hu) ⟨_, ho'⟩ (txO_ok new)
/-- sorted of a set of texts -/
def rSortedTx (P : Program) (w : World) : List V → Hp → VK → Prop := fun vs H Q => ∃ (a : Addr) (l : List Str), vs = [V.ref a] ∧ H a = some (TxO P w l a) ∧
  ∀ (ss : List Str) (p : Addr), ss.Perm l → sortedS ss = true → H p = none → Q (.ref p) (upd H p (.lst (ss.map V.str)))
theorem cr_sortedTx {X : Cx} (hc : X.calm = true) : CallR X (.builtin "sorted") (rSortedTx X.prog X.w) := by
  intro pins s σ H vs us Q I r h
  obtain ⟨a, l, rfl, ha, q⟩ := h
  rw [Vals.ref1 r]
  refine tx_sorted (I.hok a _ ha).1 (I.ok.hd hc) fun s' p out c ss kp eg eo hp hg hS pm so => ?_
  have lz : (ss.map V.str).length ≤ sizeLine := by
    obtain ⟨_, _, _, _, lb, _⟩ := (I.hok a _ ha).1
    have e1 : scanBound = 4096 := rfl
    rw [List.length_map, pm.length_eq, sizeLine_eq]
    omega
  have new : H p = none := I.hok.fresh hp
  have J : Inv X pins σ (upd H p (.lst (ss.map V.str))) { s with heap := s'.heap, gens := s'.gens, drawn := s'.drawn, toks := s'.toks } :=
    I.call (ch := []) (Un.laid kp hp new) (I.hok.laid kp hp ⟨lz, out.toList, c, vals_of_strs hS, hg⟩) (by rw [eg]; exact I.bare) (fun _ z => nomatch z)
  have e : s' = { s with heap := s'.heap, gens := s'.gens, drawn := s'.drawn, toks := s'.toks } := by
    cases s'; cases s; cases eo; rfl
  rw [e]
  exact ⟨.ref p, _, J, rfl, q ss p pm so new⟩
/-! ### as data: what is told of a sorted set -/
/-- a set of texts filled one by one -/
def scW (tg : Tg) (tt : AT) (te : AE) (vs : List Nat) (Q : List Str → En → Prop) : List PyData → List Str → En → Prop
  | [], acc, e => Q acc e
  | d :: ds, acc, e => match tgSet tg (.d d) e with
    | some e1 => tt e1 fun b e2 => if b = true then te e2 fun y e3 => (match y with
        | .d (.str z) => acc.length + 1 < scanBound ∧ scW tg tt te vs Q ds (addT acc z) (wipeE e3 vs)
        | _ => False) else scW tg tt te vs Q ds acc (wipeE e2 vs)
    | none => False
def aSortedSc (it : AI) (tg : Tg) (tt : AT) (te : AE) (vs : List Nat) : AE := fun env Q => it env fun ds e => scW tg tt te vs (fun l e2 => ∀ ss : List Str, ss.Perm l → sortedS ss = true → Q (.n .lst ((ss.map PyData.str).map .d)) e2) ds [] (wipeE e vs)
section
variable {X : Cx} {elt tg' iter : Expr} {ifs : List Expr} {scope : Scope} {own : List (Str × Nat)} {it : AI} {g : TG} {tg : Tg} {tt : AT} {te : AE} {pos p pos2 : Pos} {x : Str}
theorem At.newX {K : PySem.W.Frag} {A : Addr → Prop} {F0 F : FS} {H0 H : Hp} {vs : List V} {xs : List OV} {σ : L2.St} {env : En} {o : Addr → HO} {q : Addr} (c : At K A F0 H0 H F vs xs σ env) (hp : H q = none) : At K A F0 H0 (upd H q (o q)) F (.ref q :: vs) (.n (.ext o) [] :: xs) σ env :=
  At.make (us := []) (ys := []) (s := .ext o) c rfl hp ⟨upd_same, rfl, rfl⟩
theorem se_sortedSc (hc : X.calm = true) (hN : X.N.Nodup) (hgl : Gl X "sorted") (hm : X.mg "sorted" = none) (hi : SI X tg' iter it) (ok : BlkOk X.N X.env.scope scope own) (hG : Gt X.K g tg) (hsub : ∀ i ∈ tg.slots, i ∈ own.map (·.2))
    (hg : ∀ (s : Shared) (H : Hp) (C : Addr) (cl : List (Str × Addr)) (fp : List Addr), PG (X.blk s H scope (compEnvC scope cl C X.env) fp) tg' g)
    (ht : ∀ (s : Shared) (H : Hp) (C : Addr) (cl : List (Str × Addr)) (fp : List Addr), STs (X.blk s H scope (compEnvC scope cl C X.env) fp) ifs tt)
    (he : ∀ (s : Shared) (H : Hp) (C : Addr) (cl : List (Str × Addr)) (fp : List Addr), SE (X.blk s H scope (compEnvC scope cl C X.env) fp) elt te) (hs : ∀ x, foldedSetIterable iter X.env x = pure x := by intro _; rfl)
    (hst : starEach [.SetComp elt [⟨tg', iter, ifs, 0⟩] scope pos] X.env = [(false, eval (.SetComp elt [⟨tg', iter, ifs, 0⟩] scope pos) X.env)] := by rfl) (hpl : (backTo pos2 (starEach [] X.env)).any (·.1) = false := by rfl) :
    SE X (.Call (.Name "sorted" p) [.SetComp elt [⟨tg', iter, ifs, 0⟩] scope pos] [] pos2) (aSortedSc it tg tt te (own.map (·.2))) :=
  peTo (pe_callB (cr_sortedTx hc) hgl hm (by decide +kernel) (pa_cons (pe_sk (tt := LT X.K tt) (te := LE X.K te) (txK X.prog X.w) hc hN hi ok hg ht he hs) pa_nil hst) (by decide) (by decide) hst hpl) fun σ H Q ⟨A, F, env, R, c, h, k⟩ => evi c h fun ds e1 J H1 F1 h1 c1 it1 => fun D hD => by
    let W : Nat → Nat → Hp → Prop := fun i m H' => m = ds.length - i ∧ i ≤ ds.length ∧ ∃ F' e0 acc, At X.K (nxt A H) F1 H1 H' F' [.ref D] [.n (.ext (TxO X.prog X.w acc)) []] (wipe σ (own.map (·.2))) (wipeE e0 (own.map (·.2))) ∧
      scW tg tt te (own.map (·.2)) (fun l e2 => ∀ ss : List Str, ss.Perm l → sortedS ss = true → R (.n .lst ((ss.map PyData.str).map .d)) e2) (ds.drop i) acc (wipeE e0 (own.map (·.2)))
    refine ⟨W, ⟨ds.length, by simp, Nat.zero_le _, F1, e1, [], At.newX (c1.re1.wipes _) hD, h1⟩, fun i m H2 w => ?_⟩
    obtain ⟨rfl, hi, F2, e2, acc, c2, h2⟩ := w
    obtain ⟨go, stop⟩ := it1.run c2.st.fr c2 i
    by_cases lt : i < ds.length
    · have hd : ds[i]? = some ds[i] := List.getElem?_eq_getElem lt
      obtain ⟨g1, g2⟩ := go _ hd
      rw [List.drop_eq_getElem_cons lt] at h2
      refine .inr ⟨g1, W (i + 1) (ds.length - (i + 1)), fun H' w => ⟨_, by omega, w⟩, fun x H3 y => ?_⟩
      obtain ⟨F3, c3⟩ := g2 x H3 y
      unfold scW at h2
      split at h2
      · rename_i e3 q
        refine hG.run c3 q fun σ3 H3' F3' b c4 => ?_
        have ws : wipe σ3 (own.map (·.2)) = wipe σ (own.map (·.2)) := (wipe_but (b.mono hsub)).trans (wipe_but (but_wipe _ σ))
        refine ⟨ws, evt c4 h2 fun bo e4 H4 F4 h4 c5 => ?_⟩
        split
        · rename_i z
          rw [if_pos z] at h4
          refine ev c5 h4 fun y e5 u H5 F5 h5 c6 => ?_
          split at h5
          · rename_i zz
            have du := c6.dp
            cases du
            obtain ⟨accV, ex, ⟨hH, rfl, rfl⟩, lw, _, mk⟩ := c6.pop.mut
            refine ⟨acc, addT acc zz, hH, ⟨zz, rfl, h5.1, rfl⟩, rfl, lt, F5, e5, addT acc zz, ?_, h5.2⟩
            have q := mk (.ext (TxO X.prog X.w (addT acc zz))) (TxO X.prog X.w (addT acc zz) D) [] [] [] ⟨upd_same, rfl, rfl⟩ (by simp)
            rw [← ws]
            exact At.wipes q _
          · exact h5.elim
        · rename_i z
          rw [if_neg z] at h4
          refine ⟨rfl, lt, F4, e4, acc, ?_, h4⟩
          rw [← ws]
          exact At.wipes c5 _
      · exact h2.elim
    · have e : i = ds.length := by omega
      subst e
      rw [List.drop_length] at h2
      have c3 := c2.unwipe
      have hD2 : H2 D = some (TxO X.prog X.w acc D) := by
        obtain ⟨accV, ex, ⟨hH, rfl, rfl⟩, lw, _, mk⟩ := c3.mut
        exact hH
      refine .inl ⟨stop rfl, D, acc, rfl, hD2, fun ss p pm so hp => k _ _ _ _ F2 (h2 ss pm so) ?_⟩
      have c4 := At.newL (c1.on c3.st c3.cf).pop (strs_dts ss) hp
      exact c4
end
end Ow

/-! set(a list of texts), sorted. -/
namespace Ow
open PySem PySem.Spec L2 Grd PyProof.Rows PySem.Froz
section
variable {P : Program} {w : World} {A : Around} {E : Value → Shared → Prop} {s : Shared}
theorem tx_update {I : Addr} {fp wr : List Addr} {G : Array GenState → Array GenState → Prop} {n : Nat} {Pv : Nat → Value → Prop} {St : Nat → Shared → Prop} {R : PySem.Result → Shared → Prop}
    (W : WalksS P w A.in1 I fp wr G n Pv St) (S : Addr) (hSf : S ∉ fp) (ss : List Str) (hn : n = ss.length) (hb : ss.length + 1 < scanBound) (hval : ∀ i v, Pv i v → ∃ k t, ss[i]? = some k ∧ v = .str k t) :
    ∀ (k i : Nat) (s : Shared) (l : List Str), n - i = k → i ≤ n → St i s → TxS P w S l s.heap → l.length ≤ i → (∀ x, x ∈ l ↔ x ∈ ss.take i) →
      (∀ s' l', Moved (S :: wr) G s s' → TxS P w S l' s'.heap → l'.length ≤ n → (∀ x, x ∈ l' ↔ x ∈ ss) → R (.ok (.ret .none)) s') →
      codeAny (model P w) A (.builtin "set.update.loop" ⟨[.ref S, .ref I], []⟩) R s := by
  have hSw : S ∉ wr := fun h => hSf (W.sub _ h)
  have sub : ∀ b ∈ wr, b ∈ S :: wr := fun b hb => List.mem_cons_of_mem _ hb
  intro k
  induction k with
  | zero =>
    intro i s l hk hi st R0 hl hm fin
    have ei : i = n := by omega
    refine codeAny_builtin F.entry_set_update_loop ?_
    rw [Around.under_plainId F.plain_set_update_loop _]
    show wpAny _ A.in1 (pyNext (.ref I) >>= _) _ _ s
    refine wpAny_bind (W.done s _ _ (ei ▸ st) fun s' mv => ?_)
    show wpAny _ A.in1 (ret Value.none) _ _ s'
    refine wpAny_pure (fin s' l (mv.mono sub) (R0.keep fun o e => mv.heap S o hSw e) (by omega) fun x => ?_)
    rw [hm x, List.take_of_length_le (by omega)]
  | succ k ih =>
    intro i s l hk hi st R0 hl hm fin
    refine codeAny_builtin F.entry_set_update_loop ?_
    rw [Around.under_plainId F.plain_set_update_loop _]
    show wpAny _ A.in1 (pyNext (.ref I) >>= _) _ _ s
    refine wpAny_bind (W.item i s _ _ (by omega) st fun v s' hP st' mv => ?_)
    obtain ⟨z, t, hz, rfl⟩ := hval i v hP
    have R1 : TxS P w S l s'.heap := R0.keep fun o e => mv.heap S o hSw e
    show wpAny _ A.in1 (holding [Value.str z t] (setAdd S (.str z t)) >>= _) _ _ s'
    refine wpAny_bind (wpAny_holding (tx_setAdd R1 (by omega) fun b h' sb R2 => ?_))
    have le := addT_len l z
    refine wpAny_pure ⟨plainId_quiet F.plain_set_update_loop _, ih (i + 1) _ (addT l z) (by omega) (by omega) (W.frame _ s' _ _ st' (Nat.le_succ _) fun b hb o e => ?_) R2 (by omega) (fun x => ?_) fun s'' l2 mv2 R3 l3 m3 => ?_⟩
    · rw [sb.2 b (fun q : b = S => hSf (q ▸ hb))]; exact e
    · rw [addT_mem, hm x, List.take_add_one, hz]
      simp [List.mem_append]
    · refine fin s'' l2 (Moved.trans W.gtrans ((mv.mono sub).then_heap (Nat.le_succ _) fun b o hb e => ?_) mv2) R3 l3 m3
      rw [sb.2 b (fun q : b = S => hb (by simp [q]))]; exact e
theorem call_set_txs {a : Addr} {items : Array Value} (ss : List Str) {Q : Value → Shared → Prop} (hh : A.handled = none) (hl : s.heap.IsList a items) (hit : StrsAre items.toList ss) (hb : ss.length + 1 < scanBound)
    (h : ∀ (h' : Heap) (tk : Nat) (l : List Str), TxS P w s.heap.objs.size l h' → l.length ≤ ss.length → (∀ x, x ∈ l ↔ x ∈ ss) → (∀ b o, s.heap.get? b = some o → h'.get? b = some o) → Q (.ref s.heap.objs.size) { s with heap := h', toks := tk }) :
    wpAny (model P w) A (call (.type "set") [.ref a]) Q E s := by
  have hsz : items.size = ss.length := by rw [← Array.length_toList]; exact hit.length
  have new := tx_fresh (P := P) (h := s.heap) w
  generalize eh : s.heap.push { cls := .type "set", dict := none, data := .set #[] 0 (.fresh 0 0 (!w.params.followText "set-order")) } = h1 at new
  have hS : h1.get? s.heap.objs.size = some { cls := .type "set", dict := none, data := .set #[] 0 (.fresh 0 0 (!w.params.followText "set-order")) } := by rw [← eh]; exact Heap.get?_push_size _ rfl
  have z1 : h1.objs.size = s.heap.objs.size + 1 := by rw [← eh, Heap.size_push]
  have k1 : ∀ b o, s.heap.get? b = some o → h1.get? b = some o := fun b o e => by rw [← eh]; exact Heap.get?_push_of_some _ e
  obtain ⟨c, tl, hmro⟩ := F.called_set.mro
  have m1 := F.called_set.made
  have m2 := F.called_set.sub
  refine wpAny_call (codeAny_of_tree (show wpAny _ _ (callAny (.type "set") _) _ _ _ from ?_))
  refine wpAny_pure ⟨Code.quiet_builtin _ (by decide +kernel), codeAny_builtin F.entry_type_call ?_⟩
  rw [Around.under_plain (weight_type_call_type "set" [.ref a] []) rfl]
  have m3 := F.called_set.notType
  have m4 := F.called_set.canCreate
  have m5 := F.typeCall_set_1 (.ref a)
  repeat (any_goals (first | assumption | wp_step))
  refine codeAny_mono (code_set_led1 (.ref a) (E := E) (Q₁ := fun obj s₁ => obj = .ref s.heap.objs.size ∧ s₁ = { s with heap := h1 }) ⟨rfl, by rw [← eh]⟩) fun r s₁ hr => ?_
  cases r with
  | error e => exact hr
  | ok fl =>
    cases fl with
    | ret obj =>
      obtain ⟨rfl, rfl⟩ := hr
      have hT : Shared.TypeIs { s with heap := h1 } (.ref s.heap.objs.size) "set" := ⟨_, hS, rfl⟩
      have i1 := F.called_set.init.lookup
      have i2 := F.called_set.init.bind (.ref s.heap.objs.size)
      repeat (any_goals (first | assumption | wp_step))
      refine codeAny_mono (codeAny_call_builtin (R := wants (fun r s₂ => r = .none ∧ ∃ h' tk l, s₂ = { s with heap := h', toks := tk } ∧ TxS P w s.heap.objs.size l h' ∧ l.length ≤ ss.length ∧ (∀ x, x ∈ l ↔ x ∈ ss) ∧ (∀ b o, s.heap.get? b = some o → h'.get? b = some o)) E) F.called_set.init.plain F.entry_set_init (check_set_init_1 hT ?_)) fun r2 s2 hr2 => ?_
      · obtain ⟨ol, hol, hcl, nl, hdl⟩ := id hl
        obtain ⟨oc, od, oda, osl⟩ := ol
        simp only at hcl hdl
        subst hcl; subst hdl
        have hol' := k1 _ _ hol
        have f1 := F.sub_list_set
        have f2 := F.sub_list_frozenset
        have f3 : (Value.type "list" == Value.type "dict") = false := by decide
        have hl1 : h1.IsList a items := ⟨_, hol', rfl, nl, rfl⟩
        unfold Builtin.«set.__init__» noKeywords Builtin.Frozenset.updateFrom
        generalize ePI : pyIter = PI
        wp_walk
        subst ePI
        refine wpAny_pyIter_list (s := { s with heap := h1 }) hl1 ?_
        refine wpAny_bind (wpAny_runValue ?_)
        have la : a < s.heap.objs.size := Heap.lt_size hol
        have ne1 : a ≠ h1.objs.size := by rw [z1]; exact Nat.ne_of_lt (Nat.lt_succ_of_lt la)
        have nf : s.heap.objs.size ∉ [h1.objs.size, a] := by
          rw [z1]
          simp only [List.mem_cons, List.not_mem_nil, or_false, not_or]
          exact ⟨Nat.ne_of_lt (Nat.lt_succ_self _), Nat.ne_of_gt la⟩
        have val : ∀ (i : Nat) (v : Value), items[i]? = some v → ∃ k t, ss[i]? = some k ∧ v = .str k t := fun i v hv => by
          have lt : i < ss.length := by rw [← hsz]; exact (Array.getElem?_eq_some_iff.mp hv).1
          obtain ⟨t, e⟩ := SS.strs_at hit i v (by rw [Array.getElem?_toList]; exact hv)
          refine ⟨ss[i], t, List.getElem?_eq_getElem lt, ?_⟩
          rw [e, List.getD_eq_getElem?_getD, List.getElem?_eq_getElem lt]
          rfl
        have hh3 : A.in1.in1.in1.handled = none := by simp [hh]
        refine tx_update ((Walks.list hh3 _ a ne1 items).toS) s.heap.objs.size nf ss hsz hb val (items.size - 0) 0 _ [] (by omega) (Nat.zero_le _) ⟨⟨_, Heap.get?_push_size _ rfl, rfl, rfl⟩, hl1.push _⟩ (new.keep fun o e => Heap.get?_push_of_some _ e) (Nat.le_refl _) (fun x => by simp) ?_
        intro s' l' mv R' l3 m3
        obtain ⟨h', g2, d', tk', os'⟩ := s'
        have eg : g2 = s.gens := mv.gens
        have ed : d' = s.drawn := mv.drawn
        have eo : os' = s.os := mv.os
        subst eg; subst ed; subst eo
        show wpAny _ _ _ _ _ _
        refine wpAny_pure ?_
        show wpAny _ _ (ret Value.none) _ _ _
        rw [hsz] at l3
        refine wpAny_pure ⟨rfl, h', tk', l', rfl, R', l3, m3, fun b o e => ?_⟩
        have lb : b < s.heap.objs.size := Heap.lt_size e
        refine mv.heap b o ?_ (Heap.get?_push_of_some _ (k1 b o e))
        simp only [List.mem_cons, List.not_mem_nil, or_false, not_or]
        exact ⟨Nat.ne_of_lt lb, by rw [z1]; exact Nat.ne_of_lt (Nat.lt_succ_of_lt lb)⟩
      · cases r2 with
        | error e => exact hr2
        | ok fl2 =>
          cases fl2 with
          | ret r =>
            obtain ⟨rfl, h', tk, l', rfl, R', l3, m3, kp⟩ := hr2
            repeat (any_goals (first | assumption | wp_step))
            exact h _ _ _ R' l3 m3 kp
          | _ => exact hr2.elim
    | _ => exact hr.elim
end
/-- set(xs), xs a list of texts -/
def rSetTx (K : PySem.W.Frag) (P : Program) (w : World) : List V → Hp → VK → Prop := fun vs H Q => ∃ (a : Addr) (ss : List Str), vs = [V.ref a] ∧ SqL K H a (ss.map V.str) ∧ ss.length + 1 < scanBound ∧
  ∀ (l : List Str) (q : Addr), l.Nodup → l.length ≤ ss.length → (∀ x, x ∈ l ↔ x ∈ ss) → H q = none → Q (.ref q) (upd H q (TxO P w l q))
theorem cr_setTx {X : Cx} (hc : X.calm = true) : CallR X (.type "set") (rSetTx X.K X.prog X.w) := by
  intro pins s σ H vs us Q I r h
  obtain ⟨a, ss, rfl, hs, hb, q⟩ := h
  obtain ⟨its, rv, hl, _⟩ := I.list hs
  rw [Vals.ref1 r]
  refine call_set_txs ss (I.ok.hd hc) hl.isList rv.strs hb fun h' tk l R l3 m3 kp => ?_
  have nd : l.Nodup := let ⟨_, _, _, nd, _⟩ := R; nd
  exact ⟨.ref s.heap.objs.size, _, I.laid (t' := tk) kp (Nat.le_refl _) (txO_ok R), rfl, q l _ nd l3 m3 (I.hok.fresh (Nat.le_refl _))⟩
/-- a list of texts -/
def lst (x : OV) : Option (List Str) := ((lel x).bind frzs).bind strsOf
def aSortedSet (te : AE) : AE := fun env Q => te env fun x e => match lst x with
  | some ss => ss.length < 4000 ∧ ∀ us : List Str, us.Nodup → (∀ x, x ∈ us ↔ x ∈ ss) → sortedS us = true → Q (.n .lst ((us.map PyData.str).map .d)) e
  | none => False
theorem se_sortedSet {X : Cx} {e : Expr} {te : AE} {p p2 pos pos2 : Pos} (hc : X.calm = true) (hg : Gl X "sorted") (hm : X.mg "sorted" = none) (hg2 : Gl X "set") (hm2 : X.mg "set" = none) (he : SE X e te)
    (hs : starEach [e] X.env = [(false, eval e X.env)] := by rfl) (hpl : (backTo pos (starEach [] X.env)).any (·.1) = false := by rfl) (na : starEach [.Call (.Name "set" p) [e] [] pos] X.env = [(false, eval (.Call (.Name "set" p) [e] [] pos) X.env)] := by rfl) (hpl2 : (backTo pos2 (starEach [] X.env)).any (·.1) = false := by rfl) :
    SE X (.Call (.Name "sorted" p2) [.Call (.Name "set" p) [e] [] pos] [] pos2) (aSortedSet te) :=
  peTo (pe_callB (id := "sorted") (cr_sortedTx hc) hg hm (by decide +kernel) (pa_cons (pe_callTy (T := "set") (cr_setTx hc) hg2 hm2 (by decide +kernel) (pa_cons he pa_nil hs) (by decide) (by decide) hs hpl) pa_nil na) (by decide) (by decide) na hpl2) fun σ H Q ⟨A, F, env, R, c, h, k⟩ => ev c h fun x e1 v H1 F1 h1 c1 => by
    split at h1
    · rename_i ss es
      obtain ⟨ds, e2, e3⟩ := Option.bind_eq_some_iff.mp es
      obtain ⟨ys, e4, e5⟩ := Option.bind_eq_some_iff.mp e2
      obtain ⟨a, ws, rfl, hH, l, c2⟩ := c1.lel e4
      obtain ⟨F2, c3, dp⟩ := At.fixs c2 l e5
      have e6 := dts_strs dp e3
      subst e6
      have lw : (ds.map OV.d).length = (ss.map V.str).length := by have := c3.cf.len; simpa using this
      have c4 := At.pops c3 lw
      have sb : scanBound = 4096 := rfl
      refine ⟨a, ss, rfl, .of hH, by omega, fun tl q nd ll mm hq => ⟨q, tl, rfl, upd_same, fun us p pm so hp => k _ _ _ _ F2 (h1.2 us (pm.nodup_iff.mpr nd) (fun x => by rw [pm.mem_iff, mm x]) so) ?_⟩⟩
      exact (At.newL (At.newX c4 hq) (strs_dts us) hp).swap.pop
    · exact h1.elim
end Ow

/-! list(zip(a, b)): each pair stays, so the zip makes a new tuple each time. -/
namespace Ow
open PySem L2 Grd PyProof.Rows
open Evl (Ex ex_t ex_l ex_rd)
section
variable {prog : Program} {w : World} {A : Around} {E : Value → Shared → Prop} {s : Shared} {z TI TO T i1 i2 : Addr} {fp1 fp2 : List Addr} {n1 n2 i : Nat} {P1 P2 : Nat → Value → Prop} {St1 St2 : Nat → Heap → Prop} {f : Bool} {oT : Obj}
theorem zipH_item {Q : Value → Shared → Prop} (S : ZipSep2 z TI TO i1 i2 fp1 fp2) (D1 : Draws prog w A i1 fp1 n1 P1 St1) (D2 : Draws prog w A i2 fp2 n2 P2 St2)
    (hz : IsZipHeld s.heap z TI TO T f) (hT : s.heap.get? T = some oT) (hTI : IsTupOf2 s.heap TI (.ref i1) (.ref i2)) (st1 : St1 i s.heap) (st2 : St2 i s.heap) (lt1 : i < n1) (lt2 : i < n2)
    (hQ : ∀ x1 x2 h' tk, P1 i x1 → P2 i x2 → IsZipHeld h' z TI TO T true → St1 (i + 1) h' → St2 (i + 1) h' → IsTupOf2 h' s.heap.objs.size x1 x2 → h'.objs.size = s.heap.objs.size + 1 →
      (∀ c o, c ≠ z → c ≠ i1 → c ≠ i2 → s.heap.get? c = some o → h'.get? c = some o) → Q (.ref s.heap.objs.size) { s with heap := h', toks := tk }) :
    wpAny (model prog w) A (Builtin.«zip.__next__» ⟨[.ref z], []⟩) (fun fin s' => ∃ v, fin = .done (.ret v) ∧ Q v s') E s := by
  obtain ⟨hp, g, d, tk0, os⟩ := s
  show wpAny _ _ (field (.ref z) 2 >>= _) _ _ _
  refine wpAny_bind (wpAny_field hz rfl (x := .bool false) rfl ?_)
  show wpAny _ _ (field (.ref z) 3 >>= _) _ _ _
  refine wpAny_bind (wpAny_field hz rfl (x := .ref TI) rfl (wpAny_bind (wpAny_seqItems hTI rfl ?_)))
  show wpAny _ _ (Builtin.SmallTypes.ownedTupleIsFree (.ref z) >>= _) _ _ _
  refine wpAny_bind (wpAny_tupleHeld_zip hz hT fun g0 hz0 hs0 => ?_)
  replace hs0 : Heap.SameBut z hp g0 := hs0
  simp only [Bool.false_eq_true, if_false]
  refine wpAny_bind ?_
  rw [← Array.forIn_toList]
  simp only [List.forIn_cons, List.forIn_nil]
  refine wpAny_bind (wpAny_bind (wpAny_holding ?_))
  show wpAny _ _ (Builtin.SmallTypes.nextOf (.ref i1) >>= _) _ _ ⟨g0, g, d, tk0, os⟩
  refine wpAny_bind (D1.item i _ _ _ lt1 (D1.over st1 hs0 S.zf1) fun x1 p1 tk1 hx1 sn1 hp1 => wpAny_pure (wpAny_pure ?_))
  replace hp1 : Heap.SameBut i1 g0 p1 := hp1
  refine wpAny_bind (wpAny_bind (wpAny_holding ?_))
  show wpAny _ _ (Builtin.SmallTypes.nextOf (.ref i2) >>= _) _ _ ⟨p1, g, d, tk1, os⟩
  refine wpAny_bind (D2.item i _ _ _ lt2 (D2.over (D2.over st2 hs0 S.zf2) hp1 S.sep1_2) fun x2 p2 tk2 hx2 sn2 hp2 => wpAny_pure (wpAny_pure (wpAny_pure ?_)))
  replace hp2 : Heap.SameBut i2 p1 p2 := hp2
  show wpAny _ _ (newTuple [x1, x2] >>= _) _ _ ⟨p2, g, d, tk2, os⟩
  refine wpAny_bind (wpAny_newTuple (wpAny_pure ⟨_, rfl, ?_⟩))
  have sz : p2.objs.size = hp.objs.size := by rw [hp2.1, hp1.1, hs0.1]
  have kp : ∀ c o, c ≠ z → c ≠ i1 → c ≠ i2 → hp.get? c = some o → p2.get? c = some o := fun c o c1 c2 c3 e => hp2.extBut _ _ c3 (hp1.extBut _ _ c2 (hs0.extBut _ _ c1 e))
  have tp : IsTupOf2 (p2.push { cls := .type "tuple", data := .seq #[x1, x2] }) p2.objs.size x1 x2 := Heap.get?_push_size _ rfl
  have z4 : (p2.push { cls := .type "tuple", data := .seq #[x1, x2] }).objs.size = p2.objs.size + 1 := Heap.size_push ..
  have zz : IsZipHeld p2 z TI TO T true := hp2.extBut _ _ S.zi2 (hp1.extBut _ _ S.zi1 hz0)
  have up : ∀ c o, p2.get? c = some o → (p2.push { cls := .type "tuple", data := .seq #[x1, x2] }).get? c = some o := fun c o e => Heap.get?_push_of_some _ e
  show Q (.ref p2.objs.size) _
  rw [sz] at tp z4 ⊢
  exact hQ x1 x2 _ tk2 hx1 hx2 (up _ _ zz) (D1.frame _ _ _ (D1.over sn1 hp2 S.sep2_1) fun b _ o e => up b o e) (D2.frame _ _ _ sn2 fun b _ o e => up b o e) tp z4 fun c o c1 c2 c3 e => up c o (kp c o c1 c2 c3 e)
theorem zipH_end {Q : PySem.Fin → Shared → Prop} (S : ZipSep2 z TI TO i1 i2 fp1 fp2) (D1 : Draws prog w A i1 fp1 n1 P1 St1) (D2 : Draws prog w A i2 fp2 n2 P2 St2)
    (hz : IsZipHeld s.heap z TI TO T f) (hT : s.heap.get? T = some oT) (hTI : IsTupOf2 s.heap TI (.ref i1) (.ref i2)) (st1 : St1 i s.heap) (st2 : St2 i s.heap) (le1 : i ≤ n1) (le2 : i ≤ n2) (hend : i = n1 ∨ i = n2)
    (hE : ∀ h' tk e, (∀ c o, c ≠ z → c ≠ i1 → c ≠ i2 → s.heap.get? c = some o → h'.get? c = some o) → (∃ o, h'.get? e = some o ∧ o.cls = .type "StopIteration") → E (.ref e) { s with heap := h', toks := tk }) :
    wpAny (model prog w) A (Builtin.«zip.__next__» ⟨[.ref z], []⟩) Q E s := by
  obtain ⟨hp, g, d, tk0, os⟩ := s
  show wpAny _ _ (field (.ref z) 2 >>= _) _ _ _
  refine wpAny_bind (wpAny_field hz rfl (x := .bool false) rfl ?_)
  show wpAny _ _ (field (.ref z) 3 >>= _) _ _ _
  refine wpAny_bind (wpAny_field hz rfl (x := .ref TI) rfl (wpAny_bind (wpAny_seqItems hTI rfl ?_)))
  show wpAny _ _ (Builtin.SmallTypes.ownedTupleIsFree (.ref z) >>= _) _ _ _
  refine wpAny_bind (wpAny_tupleHeld_zip hz hT fun g0 hz0 hs0 => ?_)
  replace hs0 : Heap.SameBut z hp g0 := hs0
  simp only [Bool.false_eq_true, if_false]
  refine wpAny_bind ?_
  rw [← Array.forIn_toList]
  simp only [List.forIn_cons, List.forIn_nil]
  refine wpAny_bind (wpAny_bind (wpAny_holding ?_))
  show wpAny _ _ (Builtin.SmallTypes.nextOf (.ref i1) >>= _) _ _ ⟨g0, g, d, tk0, os⟩
  by_cases lt1 : i < n1
  · refine wpAny_bind (D1.item i _ _ _ lt1 (D1.over st1 hs0 S.zf1) fun x1 p1 tk1 hx1 sn1 hp1 => wpAny_pure (wpAny_pure ?_))
    replace hp1 : Heap.SameBut i1 g0 p1 := hp1
    have e2 : i = n2 := by omega
    refine wpAny_bind (wpAny_bind (wpAny_holding ?_))
    show wpAny _ _ (Builtin.SmallTypes.nextOf (.ref i2) >>= _) _ _ ⟨p1, g, d, tk1, os⟩
    refine wpAny_bind (D2.done ⟨p1, g, d, tk1, os⟩ _ _ (by rw [← e2]; exact D2.over (D2.over st2 hs0 S.zf2) hp1 S.sep1_2) fun q e hq he => ?_)
    replace hq : Heap.ExtBut i2 p1 q := hq
    exact hE q tk1 e (fun c o c1 c2 c3 x => hq _ _ c3 (hp1.extBut _ _ c2 (hs0.extBut _ _ c1 x))) he
  · have e1 : i = n1 := by omega
    refine wpAny_bind (D1.done ⟨g0, g, d, tk0, os⟩ _ _ (by rw [← e1]; exact D1.over st1 hs0 S.zf1) fun q e hq he => ?_)
    replace hq : Heap.ExtBut i1 g0 q := hq
    exact hE q tk0 e (fun c o c1 c2 c3 x => hq _ _ c2 (hs0.extBut _ _ c1 x)) he
/-- a zip, whatever it gave out before -/
structure ZAt (z TI TO i1 i2 : Addr) (St1 St2 : Nat → Heap → Prop) (i : Nat) (h : Heap) : Prop where
  zip : (IsZip h z TI TO .none ∧ ∃ a b, IsTupOf2 h TO a b) ∨ ∃ T f, IsZipHeld h z TI TO T f ∧ (∃ o, h.get? T = some o) ∧ T ≠ z ∧ T ≠ TO ∧ T ≠ i1 ∧ T ≠ i2
  ti : IsTupOf2 h TI (.ref i1) (.ref i2)
  s1 : St1 i h
  s2 : St2 i h
theorem zAt_item {Q : Option Value → Shared → Prop} (S : ZipSep2 z TI TO i1 i2 fp1 fp2) (D1 : Draws prog w A.in1 i1 fp1 n1 P1 St1) (D2 : Draws prog w A.in1 i2 fp2 n2 P2 St2) (Z : ZAt z TI TO i1 i2 St1 St2 i s.heap) (lt1 : i < n1) (lt2 : i < n2)
    (hQ : ∀ x1 x2 h' tk, P1 i x1 → P2 i x2 → ZAt z TI TO i1 i2 St1 St2 (i + 1) h' → IsTupOf2 h' s.heap.objs.size x1 x2 → h'.objs.size = s.heap.objs.size + 1 →
      (∀ c o, c ≠ z → c ≠ TO → c ≠ i1 → c ≠ i2 → s.heap.get? c = some o → h'.get? c = some o) → Q (some (.ref s.heap.objs.size)) { s with heap := h', toks := tk }) :
    wpAny (model prog w) A (pyNext (.ref z)) Q E s := by
  have lt : ∀ {c o}, s.heap.get? c = some o → s.heap.objs.size ≠ c := fun e => Nat.ne_of_gt (Heap.lt_size e)
  have l1 : s.heap.objs.size ≠ i1 := by obtain ⟨_, e⟩ := D1.live _ _ Z.s1; exact lt e
  have l2 : s.heap.objs.size ≠ i2 := by obtain ⟨_, e⟩ := D2.live _ _ Z.s2; exact lt e
  rcases Z.zip with ⟨hz, a, b, hTO⟩ | ⟨T, f, hz, ⟨oT, hT⟩, t1, t2, t3, t4⟩
  · refine wpAny_pyNext_zipD2_item S D1 D2 hz Z.ti hTO Z.s1 Z.s2 lt1 lt2 fun x1 x2 h' tk y1 y2 b1 b2 d1 d2 b5 b6 hk => hQ x1 x2 h' tk y1 y2 ⟨.inr ⟨_, false, b1, ⟨_, b5⟩, lt hz, lt hTO, l1, l2⟩, hk _ _ S.TIz S.TITO S.TIi1 S.TIi2 Z.ti, d1, d2⟩ b5 b6 hk
  · have ty : s.TypeIs (.ref z) "zip" := ⟨_, hz, rfl⟩
    unfold pyNext
    exact wpAny_bind (wpAny_attempt (wpAny_callSpecial?_slot (name := Str.ofString "__next__") ty F.slot_zip_next (wpAny_call_entry F.slot_zip_next ty F.entry_zip_next
      (zipH_item S D1 D2 hz hT Z.ti Z.s1 Z.s2 lt1 lt2 fun x1 x2 h' tk y1 y2 b1 d1 d2 b5 b6 hk => wpAny_pure (hQ x1 x2 h' tk y1 y2 ⟨.inr ⟨T, true, b1, ⟨_, hk _ _ t1 t3 t4 hT⟩, t1, t2, t3, t4⟩, hk _ _ S.TIz S.TIi1 S.TIi2 Z.ti, d1, d2⟩ b5 b6 fun c o c1 _ c3 c4 e => hk c o c1 c3 c4 e)) (F.args_zip_next_1 _))))
theorem zAt_end {Q : Option Value → Shared → Prop} (S : ZipSep2 z TI TO i1 i2 fp1 fp2) (D1 : Draws prog w A.in1 i1 fp1 n1 P1 St1) (D2 : Draws prog w A.in1 i2 fp2 n2 P2 St2) (Z : ZAt z TI TO i1 i2 St1 St2 i s.heap) (le1 : i ≤ n1) (le2 : i ≤ n2) (hend : i = n1 ∨ i = n2)
    (hQ : ∀ h' tk, (∀ c o, c ≠ z → c ≠ TO → c ≠ i1 → c ≠ i2 → s.heap.get? c = some o → h'.get? c = some o) → Q none { s with heap := h', toks := tk }) : wpAny (model prog w) A (pyNext (.ref z)) Q E s := by
  rcases Z.zip with ⟨hz, a, b, hTO⟩ | ⟨T, f, hz, ⟨oT, hT⟩, t1, t2, t3, t4⟩
  · exact wpAny_pyNext_zipD2_end S D1 D2 hz Z.ti hTO Z.s1 Z.s2 le1 le2 hend hQ
  · have ty : s.TypeIs (.ref z) "zip" := ⟨_, hz, rfl⟩
    unfold pyNext
    refine wpAny_bind (wpAny_attempt (wpAny_callSpecial?_slot (name := Str.ofString "__next__") ty F.slot_zip_next (wpAny_call_entry F.slot_zip_next ty F.entry_zip_next
      (zipH_end S D1 D2 hz hT Z.ti Z.s1 Z.s2 le1 le2 hend fun h' tk e hk he => ?_) (F.args_zip_next_1 _))))
    obtain ⟨o, ho, hc⟩ := he
    exact wpAny_bind (wpAny_isInstance (T := "StopIteration") (b := true) ⟨o, ho, hc⟩ isSubtype_stop (wpAny_pure (hQ _ _ fun c o c1 _ c3 c4 e => hk c o c1 c3 c4 e)))
/-- the tuples that stand at Ts -/
def TupsAt (P1 P2 : Nat → Value → Prop) (N : Nat) (Ts : List Addr) (h : Heap) : Prop := ∀ j T, Ts[j]? = some T → N ≤ T ∧ ∃ x1 x2, P1 j x1 ∧ P2 j x2 ∧ IsTupOf2 h T x1 x2
/-- the list's own loop -/
theorem lz_loop {R : PySem.Result → Shared → Prop} {S : Addr} {res : Value} {N : Nat} (D : ZipSep2 z TI TO i1 i2 fp1 fp2) (D1 : Draws prog w A.in1.in1 i1 fp1 n1 P1 St1) (D2 : Draws prog w A.in1.in1 i2 fp2 n2 P2 St2) (low : ∀ b ∈ [z, TO, i1, i2, S], b < N)
    (hn : min n1 n2 ≤ sizeLine) (hS1 : S ∉ fp1) (hS2 : S ∉ fp2) (hSz : S ≠ z) (hST : S ≠ TO) (hSI : S ≠ TI) : ∀ (k i : Nat) (s : Shared) (acc : Array Value) (c : Nat) (Ts : List Addr), min n1 n2 - i = k → i ≤ min n1 n2 → N ≤ s.heap.objs.size → ZAt z TI TO i1 i2 St1 St2 i s.heap →
      s.heap.get? S = some { cls := .type "list", dict := none, data := .seq acc c, slots := #[] } → acc.toList = Ts.map Value.ref → Ts.length = i → Ts.Nodup → TupsAt P1 P2 N Ts s.heap → (∀ T ∈ Ts, T < s.heap.objs.size) →
      (∀ s' acc' c' Ts', (∀ b o, b ∉ [z, TO, i1, i2, S] → s.heap.get? b = some o → s'.heap.get? b = some o) → s'.gens = s.gens → s'.os = s.os → s'.heap.get? S = some { cls := .type "list", dict := none, data := .seq acc' c', slots := #[] } →
        acc'.toList = Ts'.map Value.ref → Ts'.length = min n1 n2 → Ts'.Nodup → TupsAt P1 P2 N Ts' s'.heap → R (.ok (.ret res)) s') →
      codeAny (model prog w) A (.builtin "list.extend.loop" ⟨[.ref S, .ref z, res], []⟩) R s := by
  intro k
  have hSi1 : S ≠ i1 := fun e => hS1 (e ▸ D.mem1)
  have hSi2 : S ≠ i2 := fun e => hS2 (e ▸ D.mem2)
  induction k with
  | zero =>
    intro i s acc c Ts hk hi hN Z hS ha hl nd tp lt fin
    refine codeAny_builtin F.entry_extend_loop ?_
    rw [Around.under_plainId F.plain_extend_loop _]
    show wpAny _ A.in1 (pyNext (.ref z) >>= _) _ _ s
    refine wpAny_bind (zAt_end D D1 D2 Z (by omega) (by omega) (by omega) fun h' tk kp => wpAny_pure ?_)
    have kp' : ∀ b o, b ∉ [z, TO, i1, i2, S] → s.heap.get? b = some o → h'.get? b = some o := fun b o hb e => by
      simp only [List.mem_cons, List.not_mem_nil, or_false, not_or] at hb
      exact kp b o hb.1 hb.2.1 hb.2.2.1 hb.2.2.2.1 e
    refine fin _ acc c Ts kp' rfl rfl (kp S _ hSz hST hSi1 hSi2 hS) ha (by omega) nd fun j T e => ?_
    obtain ⟨l, x1, x2, p1, p2, t⟩ := tp j T e
    refine ⟨l, x1, x2, p1, p2, kp' T _ (fun m => ?_) t⟩
    exact absurd (low T m) (Nat.not_lt.mpr l)
  | succ k ih =>
    intro i s acc c Ts hk hi hN Z hS ha hl nd tp lt fin
    refine codeAny_builtin F.entry_extend_loop ?_
    rw [Around.under_plainId F.plain_extend_loop _]
    show wpAny _ A.in1 (pyNext (.ref z) >>= _) _ _ s
    refine wpAny_bind (zAt_item D D1 D2 Z (by omega) (by omega) fun x1 x2 h' tk p1 p2 Z' tn sz kp => ?_)
    have hS' := kp S _ hSz hST hSi1 hSi2 hS
    have kp' : ∀ b o, b ∉ [z, TO, i1, i2, S] → s.heap.get? b = some o → h'.get? b = some o := fun b o hb e => by
      simp only [List.mem_cons, List.not_mem_nil, or_false, not_or] at hb
      exact kp b o hb.1 hb.2.1 hb.2.2.1 hb.2.2.2.1 e
    have sl : acc.size = i := by rw [← Array.length_toList, ha, List.length_map]; exact hl
    show wpAny _ A.in1 (updateSeq S (·.push (.ref s.heap.objs.size)) >>= _) _ _ _
    refine wpAny_bind (wpAny_updateSeq hS' rfl (wpAny_pure ⟨plainId_quiet F.plain_extend_loop _, ?_⟩) (by rw [sl]; omega) (by rw [Array.size_push, sl]; omega))
    have ot : ∀ b o, b ≠ S → h'.get? b = some o → (h'.update S (Obj.mapSeq (·.push (.ref s.heap.objs.size)))).get? b = some o := fun b o hb e => (Heap.get?_update_other _ _ (Ne.symm hb)).trans e
    have szu : (h'.update S (Obj.mapSeq (·.push (.ref s.heap.objs.size)))).objs.size = s.heap.objs.size + 1 := by rw [Heap.size_update, sz]
    have nS : S < N := low S (by simp)
    refine ih (i + 1) { s with heap := h'.update S (Obj.mapSeq (·.push (.ref s.heap.objs.size))), toks := tk } (acc.push (.ref s.heap.objs.size)) _ (Ts ++ [s.heap.objs.size]) (by omega) (by omega) (Nat.le_trans hN (Nat.le_trans (Nat.le_succ _) (Nat.le_of_eq szu.symm))) ?_ (Heap.get?_update_self _ hS' rfl) (by rw [Array.toList_push, ha]; simp) (by simp [hl]) ?_ ?_ ?_ ?_
    · refine ⟨?_, ot _ _ (Ne.symm hSI) Z'.ti, D1.frame _ _ _ Z'.s1 fun b hb o e => ot b o (fun q => hS1 (q ▸ hb)) e, D2.frame _ _ _ Z'.s2 fun b hb o e => ot b o (fun q => hS2 (q ▸ hb)) e⟩
      rcases Z'.zip with ⟨hz, a, b, hTO⟩ | ⟨T, f, hz, ⟨oT, hT⟩, t1, t2, t3, t4⟩
      · exact .inl ⟨ot _ _ (Ne.symm hSz) hz, a, b, ot _ _ (Ne.symm hST) hTO⟩
      · refine .inr ⟨T, f, ot _ _ (Ne.symm hSz) hz, ?_, t1, t2, t3, t4⟩
        by_cases e : T = S
        · subst e; exact ⟨_, Heap.get?_update_self _ hS' rfl⟩
        · exact ⟨_, ot _ _ e hT⟩
    · rw [List.nodup_append]
      refine ⟨nd, by simp, fun a ha b hb e => ?_⟩
      simp only [List.mem_singleton] at hb
      subst hb
      subst e
      exact Nat.lt_irrefl _ (lt _ ha)
    · intro j T e
      by_cases hj : j < Ts.length
      · rw [List.getElem?_append_left hj] at e
        obtain ⟨l, y1, y2, q1, q2, t⟩ := tp j T e
        exact ⟨l, y1, y2, q1, q2, ot _ _ (fun q => absurd nS (Nat.not_lt.mpr (q ▸ l))) (kp' T _ (fun m => absurd (low T m) (Nat.not_lt.mpr l)) t)⟩
      · rw [List.getElem?_append_right (by omega)] at e
        have e0 : j - Ts.length = 0 := by
          cases h0 : j - Ts.length with
          | zero => rfl
          | succ m => rw [h0] at e; simp at e
        rw [e0] at e
        simp only [List.getElem?_cons_zero, Option.some.injEq] at e
        subst e
        have ej : j = i := by omega
        subst ej
        exact ⟨hN, x1, x2, p1, p2, ot _ _ (fun q => absurd nS (Nat.not_lt.mpr (q ▸ hN))) tn⟩
    · intro T hT
      show T < (h'.update S _).objs.size
      rw [szu]
      rcases List.mem_append.mp hT with hT | hT
      · exact Nat.lt_succ_of_lt (lt T hT)
      · simp only [List.mem_singleton] at hT
        subst hT
        exact Nat.lt_succ_self _
    · intro s' acc' c' Ts' k' g o hS2' a2 l2 nd2 tp2
      exact fin s' acc' c' Ts' (fun b ob hb e => k' b ob hb (ot b ob (fun q => hb (by simp [q])) (kp' b ob hb e))) g o hS2' a2 l2 nd2 tp2
end
end Ow

/-! list(zip(a, b)): the rule. -/
namespace Ow
open PySem L2 Grd PyProof.Rows
open Evl (Ex ex_t ex_l ex_rd)
theorem zip_no_len : typeLookup (.type "zip") "__len__" = pure none := by rw [typeLookup_type, builtinLookup_eq_fast]; kernel_rfl
theorem zip_no_hint : typeLookup (.type "zip") "__length_hint__" = pure none := by rw [typeLookup_type, builtinLookup_eq_fast]; kernel_rfl
section
variable {prog : Program} {w : World} {A : Around} {E : Value → Shared → Prop} {s : Shared} {z TI TO i1 i2 : Addr} {fp1 fp2 : List Addr} {n1 n2 : Nat} {P1 P2 : Nat → Value → Prop} {St1 St2 : Nat → Heap → Prop}
theorem zAt_keep {i : Nat} {h h' : Heap} (D1 : Draws prog w A i1 fp1 n1 P1 St1) (D2 : Draws prog w A i2 fp2 n2 P2 St2) (Z : ZAt z TI TO i1 i2 St1 St2 i h) (k : ∀ b o, h.get? b = some o → h'.get? b = some o) : ZAt z TI TO i1 i2 St1 St2 i h' := by
  refine ⟨?_, k _ _ Z.ti, D1.frame _ _ _ Z.s1 fun b _ o e => k b o e, D2.frame _ _ _ Z.s2 fun b _ o e => k b o e⟩
  rcases Z.zip with ⟨hz, a, b, hTO⟩ | ⟨T, f, hz, ⟨oT, hT⟩, t⟩
  · exact .inl ⟨k _ _ hz, a, b, k _ _ hTO⟩
  · exact .inr ⟨T, f, k _ _ hz, ⟨_, k _ _ hT⟩, t⟩
theorem call_list_zip {a0 b0 : Value} {Q : Value → Shared → Prop} (D : ZipSep2 z TI TO i1 i2 fp1 fp2) (D1 : Draws prog w A.in1.in1.in1 i1 fp1 n1 P1 St1) (D2 : Draws prog w A.in1.in1.in1 i2 fp2 n2 P2 St2) (hz : IsZip s.heap z TI TO .none) (hTI : IsTupOf2 s.heap TI (.ref i1) (.ref i2)) (hTO : IsTupOf2 s.heap TO a0 b0)
    (st1 : St1 0 s.heap) (st2 : St2 0 s.heap) (hn : min n1 n2 ≤ sizeLine) (lf : ∀ b ∈ fp1 ++ fp2, b < s.heap.objs.size)
    (hQ : ∀ s' acc c Ts, (∀ b o, b ∉ [z, TO, i1, i2] → s.heap.get? b = some o → s'.heap.get? b = some o) → s'.gens = s.gens → s'.os = s.os → s'.heap.get? s.heap.objs.size = some { cls := .type "list", dict := none, data := .seq acc c, slots := #[] } →
      acc.toList = Ts.map Value.ref → Ts.length = min n1 n2 → Ts.Nodup → TupsAt P1 P2 (s.heap.objs.size + 1) Ts s'.heap → Q (.ref s.heap.objs.size) s') : wpAny (model prog w) A (call (.type "list") [.ref z]) Q E s := by
  have lz := Heap.lt_size hz
  have lT := Heap.lt_size hTO
  have lI := Heap.lt_size hTI
  generalize eS : s.heap.objs.size = S at lz lT lI lf hQ
  refine callType_codes (Q₁ := fun obj s₁ => obj = .ref S ∧ s₁ = { s with heap := s.heap.push { cls := .type "list", data := .seq #[] } }) F.called_list (F.typeCall_list_1 _) F.entry_list_init (code_list_new _ ⟨by rw [eS], rfl⟩) ?_
  rintro obj s₁ ⟨rfl, rfl⟩
  have hS : (s.heap.push { cls := .type "list", data := .seq #[] }).get? S = some { cls := .type "list", data := .seq #[] } := by rw [← eS]; exact Heap.get?_push_size _ rfl
  have sz : (s.heap.push { cls := .type "list", data := .seq #[] }).objs.size = S + 1 := by rw [Heap.size_push, eS]
  refine ⟨⟨_, hS, rfl⟩, F.args_list_init_2 _ _, ?_⟩
  show wpAny _ A.in1.in1 (do let old ← Builtin.List.listItems (.ref S); Builtin.List.listUpdate (.ref S) (fun _ => #[]); letGo old.toList.reverse; Builtin.List.listExtendWith (.ref S) (.ref z) .none) _ _ _
  refine wpAny_bind ?_
  unfold Builtin.List.listItems
  refine wpAny_bind (wpAny_seqItems hS rfl (wpAny_pure ?_))
  show wpAny _ A.in1.in1 (updateSeq S (fun _ => #[]) >>= fun _ => letGo (#[] : Array Value).toList.reverse >>= fun _ => Builtin.List.listExtendWith (.ref S) (.ref z) .none) _ _ _
  refine wpAny_bind (wpAny_updateSeq hS rfl (wpAny_bind (wpAny_letGo ?_)))
  have hS2 := Heap.get?_update_self (Obj.mapSeq (fun _ => (#[] : Array Value))) hS rfl
  have k1 : ∀ b o, s.heap.get? b = some o → ((s.heap.push { cls := .type "list", data := .seq #[] }).update S (Obj.mapSeq (fun _ => (#[] : Array Value)))).get? b = some o := fun b o e =>
    (Heap.get?_update_other _ _ (fun h : S = b => absurd (Heap.lt_size e) (by rw [eS, h]; exact Nat.lt_irrefl _))).trans (Heap.get?_push_of_some _ e)
  have sz2 : ((s.heap.push { cls := .type "list", data := .seq #[] }).update S (Obj.mapSeq (fun _ => (#[] : Array Value)))).objs.size = S + 1 := by rw [Heap.size_update, sz]
  generalize eh : (s.heap.push { cls := .type "list", data := .seq #[] }).update S (Obj.mapSeq (fun _ => (#[] : Array Value))) = h1 at hS2 k1 sz2 ⊢
  have nSz : S ≠ z := fun e => Nat.lt_irrefl _ (e ▸ lz)
  have nST : S ≠ TO := fun e => Nat.lt_irrefl _ (e ▸ lT)
  have nSI : S ≠ TI := fun e => Nat.lt_irrefl _ (e ▸ lI)
  have n1' : S ∉ fp1 := fun e => Nat.lt_irrefl _ (lf S (List.mem_append_left _ e))
  have n2' : S ∉ fp2 := fun e => Nat.lt_irrefl _ (lf S (List.mem_append_right _ e))
  have tz : Shared.TypeIs { s with heap := h1 } (.ref z) "zip" := ⟨_, k1 _ _ hz, rfl⟩
  unfold Builtin.List.listExtendWith
  refine wpAny_bind (wpAny_typeOf tz ?_)
  have q1 : Builtin.List.listSameRef (.ref S) (.ref z) = false := by simp [Builtin.List.listSameRef, nSz]
  have q2 : (Value.type "zip" == Value.type "list") = false := by decide
  have q3 : (Value.type "zip" == Value.type "tuple") = false := by decide
  simp only [q1, q2, q3, Bool.or_false, Bool.false_eq_true, if_false]
  refine wpAny_bind (wpAny_pyIter_zip (k1 _ _ hz) (wpAny_bind (wpAny_holding ?_)))
  unfold Builtin.List.listLengthHint
  refine wpAny_bind (wpAny_specialOf tz zip_no_len ?_)
  show wpAny _ A.in1.in1 (specialOf (Value.ref z) (Str.ofString "__length_hint__") >>= _) _ _ _
  refine wpAny_bind (wpAny_specialOf tz zip_no_hint (wpAny_pure ?_))
  show wpAny _ A.in1.in1 (rule "list.extend.makes-room" >>= fun _ => Builtin.List.listTouch (.ref S) >>= fun _ => again (.builtin "list.extend.loop" ⟨[.ref S, .ref z, .none], []⟩)) _ _ _
  refine wpAny_bind (wpAny_rule (wpAny_bind ?_))
  show wpAny _ A.in1.in1 (updateSeq S (·.push .none) >>= fun _ => updateSeq S (·.pop)) _ _ _
  refine wpAny_bind (wpAny_updateSeq hS2 rfl ?_)
  have hS3 := Heap.get?_update_self (Obj.mapSeq (·.push Value.none)) hS2 rfl
  refine wpAny_updateSeq (hz := by seq_fits) hS3 rfl ?_
  have hS4 := Heap.get?_update_self (Obj.mapSeq (·.pop)) hS3 rfl
  have k2 : ∀ b o, s.heap.get? b = some o → ((h1.update S (Obj.mapSeq (·.push Value.none))).update S (Obj.mapSeq (·.pop))).get? b = some o := fun b o e => by
    have nb : S ≠ b := fun h => absurd (Heap.lt_size e) (by rw [eS, h]; exact Nat.lt_irrefl _)
    exact (Heap.get?_update_other _ _ nb).trans ((Heap.get?_update_other _ _ nb).trans (k1 b o e))
  have sz4 : ((h1.update S (Obj.mapSeq (·.push Value.none))).update S (Obj.mapSeq (·.pop))).objs.size = S + 1 := by rw [Heap.size_update, Heap.size_update, sz2]
  refine wpAny_pure ⟨plainId_quiet F.plain_extend_loop _, ?_⟩
  refine lz_loop (N := S + 1) D D1 D2 ?_ hn n1' n2' nSz nST nSI (min n1 n2 - 0) 0 _ _ _ [] rfl (Nat.zero_le _) (Nat.le_of_eq sz4.symm) (zAt_keep D1 D2 ⟨.inl ⟨hz, _, _, hTO⟩, hTI, st1, st2⟩ k2) hS4 rfl rfl List.nodup_nil (fun j T e => by simp at e) (fun T hT => by simp at hT) ?_
  · intro b hb
    simp only [List.mem_cons, List.not_mem_nil, or_false] at hb
    rcases hb with rfl | rfl | rfl | rfl | rfl
    · exact Nat.lt_succ_of_lt lz
    · exact Nat.lt_succ_of_lt lT
    · exact Nat.lt_succ_of_lt (lf _ (List.mem_append_left _ D.mem1))
    · exact Nat.lt_succ_of_lt (lf _ (List.mem_append_right _ D.mem2))
    · exact Nat.lt_succ_self _
  · intro s' acc' c' Ts' kp g o hSf ha hl nd tp
    refine ⟨rfl, hQ s' acc' c' Ts' (fun b ob hb e => kp b ob (fun m => ?_) (k2 b ob e)) g o hSf ha hl nd tp⟩
    simp only [List.mem_cons, List.not_mem_nil, or_false] at m hb
    rcases m with m | m | m | m | m
    · exact hb (.inl m)
    · exact hb (.inr (.inl m))
    · exact hb (.inr (.inr (.inl m)))
    · exact hb (.inr (.inr (.inr m)))
    · exact absurd (Heap.lt_size e) (by rw [eS, m]; exact Nat.lt_irrefl _)
end
/-- pairs laid one by one -/
inductive Lays : List (V × V) → Hp → List V → Hp → Prop
  | nil {H : Hp} : Lays [] H [] H
  | cons {x y : V} {ps : List (V × V)} {H H' : Hp} {T : Addr} {vs : List V} : H T = none → Lays ps (upd H T (.tup [x, y])) vs H' → Lays ((x, y) :: ps) H (.ref T :: vs) H'
/-- as they are laid: kept, tracked -/
theorem lays_ok {X : Cx} {H0 : Hp} {s s' : Shared} : ∀ {ps : List (V × V)} {H : Hp} {Ts : List Addr}, Ts.length = ps.length → Ts.Nodup → (∀ T ∈ Ts, s.heap.objs.size ≤ T ∧ H T = none) →
    (∀ (j : Nat) (T : Addr) (p : V × V), Ts[j]? = some T → ps[j]? = some p → ∃ u1 u2, RelV p.1 u1 ∧ RelV p.2 u2 ∧ IsTupOf2 s'.heap T u1 u2) → Un (frs X.stack) [] H0 H s.heap s'.heap → HOk X.prog X.w H s'.heap →
    ∃ H', Lays ps H (Ts.map V.ref) H' ∧ Un (frs X.stack) [] H0 H' s.heap s'.heap ∧ HOk X.prog X.w H' s'.heap ∧ ∀ b, b ∉ Ts → H' b = H b
  | [], H, [], _, _, _, _, u, k => ⟨H, .nil, u, k, fun _ _ => rfl⟩
  | (x, y) :: ps, H, T :: Ts, l, nd, fr, at_, u, k => by
    obtain ⟨n1, n2⟩ := List.nodup_cons.mp nd
    obtain ⟨hT, nT⟩ := fr T List.mem_cons_self
    obtain ⟨u1, u2, r1, r2, t⟩ := at_ 0 T (x, y) rfl rfl
    have new : ObjOk X.prog X.w (upd H T (.tup [x, y])) s'.heap T (.tup [x, y]) := ⟨by show 2 ≤ sizeLine; decide, [u1, u2], .cons r1 (.cons r2 .nil), ⟨_, t, rfl, _, rfl⟩⟩
    have k2 := k.laidN (h' := s'.heap) (fun b v e => e) nT new
    have u2' : Un (frs X.stack) [] H0 (upd H T (.tup [x, y])) s.heap s'.heap :=
      ⟨u.keep, u.slot, fun b o q n hx => by rw [upd_ne (Nat.ne_of_lt (Nat.lt_of_lt_of_le (Heap.lt_size q) hT))]; exact u.free b o q n hx, u.there, fun b xs q => by rw [upd_ne (ne_of_none (u.tups b xs q) nT)]; exact u.tups b xs q,
        fun b o v q => by rw [upd_ne (ne_of_none (u.frzs b o v q) nT)]; exact u.frzs b o v q, fun b v q => by
          obtain ⟨e, he⟩ := u.tbls b v q
          exact ⟨e, by rw [upd_ne (fun z => by rw [z, nT] at he; simp at he)]; exact he⟩⟩
    obtain ⟨H', ly, u3, k3, off⟩ := lays_ok (ps := ps) (H := upd H T (.tup [x, y])) (Ts := Ts) (by simpa using l) n2 (fun b hb => ⟨(fr b (List.mem_cons_of_mem _ hb)).1, by rw [upd_ne (fun (e : b = T) => n1 (by rw [← e]; exact hb))]; exact (fr b (List.mem_cons_of_mem _ hb)).2⟩) (fun j b p h1 h2 => at_ (j + 1) b p h1 h2) u2' k2
    refine ⟨H', .cons nT ly, u3, k3, fun b hb => ?_⟩
    have hb' : b ≠ T ∧ b ∉ Ts := ⟨fun e => hb (by simp [e]), fun e => hb (by simp [e])⟩
    rw [off b hb'.2, upd_ne hb'.1]
  | [], H, _ :: _, l, _, _, _, _, _ => by simp at l
  | _ :: _, H, [], l, _, _, _, _, _ => by simp at l
/-- list(zip(a, b)) -/
def tLz (K : PySem.W.Frag) (ta : TA) : TE := fun σ H Q => ta σ H fun vs H1 => ∃ v1 v2, vs = [v1, v2] ∧ ∃ (a b : Src) (xs ys : List V), a.rel v1 ∧ b.rel v2 ∧ a.has K H1 xs ∧ b.has K H1 ys ∧ xs.length ≤ sizeLine ∧
  ∀ ws H2, Lays (xs.zip ys) H1 ws H2 → ∀ p, H2 p = none → Q (.ref p) (upd H2 p (.lst ws))
theorem vals_refs' : ∀ as : List Addr, Vals (as.map V.ref) (as.map Value.ref)
  | [] => .nil
  | _ :: as => .cons rfl (vals_refs' as)
theorem pe_lz {X : Cx} {e e2 : Expr} {ta : TA} {p p2 pos pos2 : Pos} (hc : X.calm = true) (hgl : Gl X "list") (hml : X.mg "list" = none) (hg : Gl X "zip") (hm : X.mg "zip" = none) (ha : PA X [e, e2] ta)
    (hs : starEach [e, e2] X.env = (false, eval e X.env) :: starEach [e2] X.env := by rfl) (hpl : (backTo pos (starEach [e2] X.env)).any (·.1) = false := by rfl)
    (na : starEach [.Call (.Name "zip" p) [e, e2] [] pos] X.env = (false, eval (.Call (.Name "zip" p) [e, e2] [] pos) X.env) :: starEach [] X.env := by rfl) :
    PE X (.Call (.Name "list" p2) [.Call (.Name "zip" p) [e, e2] [] pos] [] pos2) (tLz X.K ta) := by
  refine ⟨fun pins s σ H Q I h => ?_⟩
  refine Call_ (ld_blt I hgl hml boot_list (PyProof.Rows.callWith_type1 (args_cons ?_ na) na))
  refine Call_ (ld_blt I hg hm PyProof.Rows.boot_zip (PyProof.Rows.callWith_type1 (thn (ha.run pos pins s σ H _ I h) fun us s1 ⟨vs, H1, I1, r1, q1⟩ => ?_) hs hpl))
  obtain ⟨v1, v2, rfl, a0, b0, xs, ys, e1, e2, hx, hy, hlen, q⟩ := q1
  cases r1 with
  | cons r rr =>
    cases rr with
    | cons r' rr =>
      cases rr
      obtain ⟨a, rfl, _, ka⟩ := Src.relV e1 _ r
      obtain ⟨b, rfl, _, kb⟩ := Src.relV e2 _ r'
      have hx := ka _ _ _ hx
      have hy := kb _ _ _ hy
      obtain ⟨Ha, Ba, ha⟩ := Src.begins I1 hx
      obtain ⟨Hb, Bb, hb⟩ := Src.begins I1 hy
      have la := Src.fp_lt I1 hx
      have lb := Src.fp_lt I1 hy
      refine zip_begins2 Ba Bb ha hb fun h' hz hTI hTO g1 g2 hsz hk => args_nil ?_
      have I2 : Inv X pins σ H1 { s1 with heap := h' } := I1.kept (t' := s1.toks) hk
      have no1 : s1.heap.objs.size ∉ a.fp := fun z => Nat.lt_irrefl _ (la _ z)
      have no2 : s1.heap.objs.size + 1 ∉ b.fp := fun z => Nat.lt_irrefl _ (Nat.lt_of_succ_lt (lb _ z))
      obtain ⟨P1, c1, k1, D1, r1⟩ := Src.draws (A := X.A.in1.in1.in1) (I.ok.hd hc) I2 hx s1.heap.objs.size no1
      obtain ⟨P2, c2, k2, D2, r2⟩ := Src.draws (A := X.A.in1.in1.in1) (I.ok.hd hc) I2 hy (s1.heap.objs.size + 1) no2
      refine call_list_zip (s := { s1 with heap := h' }) (zip_sep2 la lb) D1 D2 hz hTI hTO ⟨Src.st0 g1, k1⟩ ⟨Src.st0 g2, k2⟩ (by omega) ?_ fun s' acc c Ts kp eg eo hS hacc hl nd tp => ?_
      · intro x hx'
        have bound : x < s1.heap.objs.size + 2 := by
          rcases List.mem_append.mp hx' with m | m
          · rcases List.mem_cons.mp m with m | m
            · subst m; exact Nat.lt_add_of_pos_right (by decide)
            · exact Nat.lt_of_lt_of_le (la x m) (Nat.le_add_right _ _)
          · rcases List.mem_cons.mp m with m | m
            · subst m; exact Nat.lt_succ_self _
            · exact Nat.lt_of_lt_of_le (lb x m) (Nat.le_add_right _ _)
        show x < h'.objs.size
        rw [hsz]
        exact Nat.lt_of_lt_of_le bound (Nat.add_le_add_left (by decide) _)
      · replace tp : TupsAt P1 P2 (h'.objs.size + 1) Ts s'.heap := tp
        replace hS : s'.heap.get? h'.objs.size = some { cls := .type "list", dict := none, data := .seq acc c, slots := #[] } := hS
        have keep : ∀ b' o, s1.heap.get? b' = some o → s'.heap.get? b' = some o := fun b' o e => by
          have lt := Heap.lt_size e
          refine kp b' o (fun m => ?_) (hk b' o e)
          simp only [List.mem_cons, List.not_mem_nil, or_false] at m
          have le : s1.heap.objs.size ≤ b' := by
            rcases m with m | m | m | m
            · rw [m]; exact Nat.le_add_right _ _
            · rw [m]; exact Nat.le_add_right _ _
            · rw [m]; exact Nat.le_refl _
            · rw [m]; exact Nat.le_add_right _ _
          exact absurd lt (Nat.not_lt.mpr le)
        have above : ∀ T ∈ Ts, h'.objs.size + 1 ≤ T := fun T hT => by
          obtain ⟨j, hj⟩ := List.getElem?_of_mem hT
          exact (tp j T hj).1
        have up : s1.heap.objs.size ≤ h'.objs.size := by rw [hsz]; exact Nat.le_add_right _ _
        have lT : Ts.length = (xs.zip ys).length := by rw [hl, List.length_zip]
        obtain ⟨H2, ly, un, ok, off⟩ := lays_ok (X := X) (H0 := H1) (s := s1) (s' := s') (ps := xs.zip ys) (H := H1) (Ts := Ts) lT nd
          (fun T hT => let le := Nat.le_trans up (Nat.le_of_succ_le (above T hT)); ⟨le, I1.hok.fresh le⟩) (fun j T p h1 h2 => by
            obtain ⟨_, u1, u2, p1, p2, t⟩ := tp j T h1
            obtain ⟨x, hx1, rx⟩ := r1 j u1 p1
            obtain ⟨y, hy1, ry⟩ := r2 j u2 p2
            rw [List.getElem?_zip_eq_some] at h2
            rw [h2.1] at hx1
            rw [h2.2] at hy1
            cases hx1
            cases hy1
            exact ⟨u1, u2, rx, ry, t⟩) (Un.kept keep) (I1.hok.kept keep)
        have nS : H2 h'.objs.size = none := by
          rw [off _ (fun m => absurd (above _ m) (Nat.not_le.mpr (Nat.lt_succ_self _)))]
          exact I1.hok.fresh up
        have lw : (Ts.map V.ref).length ≤ sizeLine := by rw [List.length_map, hl]; omega
        have ok3 := ok.laidN (h' := s'.heap) (a := h'.objs.size) (o := .lst (Ts.map V.ref)) (fun b v e => e) nS ⟨lw, acc.toList, c, by rw [hacc]; exact vals_refs' Ts, by rw [Array.toArray_toList]; exact hS⟩
        have un3 : Un (frs X.stack) [] H1 (upd H2 h'.objs.size (.lst (Ts.map V.ref))) s1.heap s'.heap :=
          ⟨un.keep, un.slot, fun b o q n hx => by rw [upd_ne (Nat.ne_of_lt (Nat.lt_of_lt_of_le (Heap.lt_size q) up))]; exact un.free b o q n hx, un.there, fun b xs q => by rw [upd_ne (ne_of_none (un.tups b xs q) nS)]; exact un.tups b xs q,
            fun b o v q => by rw [upd_ne (ne_of_none (un.frzs b o v q) nS)]; exact un.frzs b o v q, fun b v q => by
              obtain ⟨e, he⟩ := un.tbls b v q
              exact ⟨e, by rw [upd_ne (ne_of_none he nS)]; exact he⟩⟩
        have I3 : Inv X pins σ (upd H2 h'.objs.size (.lst (Ts.map V.ref))) s' := I1.call' (ch := []) eo un3 ok3 (by rw [eg]; exact I1.bare) (fun _ z => nomatch z)
        exact ⟨.ref h'.objs.size, _, I3, rfl, q _ H2 ly _ nS⟩
/-! ### as data -/
def aListZip (ta tb : AE) : AE := fun env Q => ta env fun x e1 => tb e1 fun y e2 => match sfd x, sfd y with
  | some xs, some ys => xs.length ≤ sizeLine ∧ Q (.n .lst ((zipD xs ys).map .d)) e2
  | _, _ => False
theorem lays_at {K : PySem.W.Frag} {A : Addr → Prop} {F0 : FS} {H0 : Hp} {σ : L2.St} {env : En} : ∀ {ps : List (V × V)} {H H' : Hp} {ws : List V}, Lays ps H ws H' → ∀ {F : FS} {ds es : List PyData} {us : List V} {ys : List OV} {xs1 ys1 : List V}, ps = xs1.zip ys1 → Dts K (rs H F) xs1 ds → Dts K (rs H F) ys1 es →
    At K A F0 H0 H F us ys σ env → ys.length = us.length → ∃ F', At K A F0 H0 H' F' (ws ++ us) ((zipD ds es).map .d ++ ys) σ env
  | _, _, _, _, .nil, F, ds, es, us, ys, xs1, ys1, e, d1, d2, c, l => by
    refine ⟨F, ?_⟩
    have : zipD ds es = [] := by
      cases d1 with
      | nil => rfl
      | cons h1 t1 =>
        cases d2 with
        | nil => simp [zipD]
        | cons h2 t2 => simp at e
    rw [this]
    exact c
  | _, _, _, _, .cons (T := T) nT ly, F, ds, es, us, ys, xs1, ys1, e, d1, d2, c, l => by
    cases d1 with
    | nil => simp at e
    | cons h1 t1 =>
      cases d2 with
      | nil => simp at e
      | cons h2 t2 =>
        rw [List.zip_cons_cons] at e
        obtain ⟨e0, e'⟩ := List.cons.inj e
        cases e0
        obtain ⟨F1, c0⟩ := At.newT c.re1 (.cons h1 (.cons h2 .nil)) nT
        have ex := c0.st.fr
        have c1 := c.on c0.st c0.cf
        have c2 := At.app_comm (vs1 := [.ref T]) (xs1 := [_]) rfl c1
        obtain ⟨F2, c3⟩ := lays_at ly e' (dts_ex ex t1) (dts_ex ex t2) c2 (by simp [l])
        refine ⟨F2, ?_⟩
        rw [← List.append_assoc, ← List.append_assoc] at c3
        have lw := c3.cf.len
        have c4 := At.app_comm (vs2 := [.ref T]) (xs2 := [_]) (by simp at lw ⊢; omega) c3
        simpa [zipD] using c4
theorem src_of {K : PySem.W.Frag} {H : Hp} {v : V} {d : PyData} {ds : List PyData} (h : Dt K H v d) (e : sit d = some ds) : ∃ (a : Src) (ws : List V), a.rel v ∧ a.has K H ws ∧ Dts K H ws ds := by
  cases h with
  | @lst a ws _ h t => cases e; exact ⟨.lst a, ws, rfl, .of h, t⟩
  | @tup a ws _ h t => cases e; exact ⟨.tup a, ws, rfl, h, t⟩
  | str z =>
    cases e
    refine ⟨.str z 0, _, rfl, rfl, ?_⟩
    unfold chD
    generalize z.cps.toList = l
    induction l with
    | nil => exact .nil
    | cons c l ih => exact .cons (.str _) ih
  | non => cases e
  | bl b => cases e
  | int b => cases e
theorem Src.mono {K : PySem.W.Frag} {H H' : Hp} {a : Src} {ws : List V} (e : Ex H H') (h : a.has K H ws) : a.has K H' ws := by
  cases a with
  | lst a => exact ex_l e h
  | tup a => exact ex_t e h
  | str z t => exact h
theorem se_listZip {X : Cx} {e e2 : Expr} {ta tb : AE} {p p2 pos pos2 : Pos} (hc : X.calm = true) (hgl : Gl X "list") (hml : X.mg "list" = none) (hg : Gl X "zip") (hm : X.mg "zip" = none) (ha : SE X e ta) (hb : SE X e2 tb)
    (hs : starEach [e, e2] X.env = (false, eval e X.env) :: starEach [e2] X.env := by rfl) (hs2 : starEach [e2] X.env = [(false, eval e2 X.env)] := by rfl) (hpl : (backTo pos (starEach [e2] X.env)).any (·.1) = false := by rfl)
    (na : starEach [.Call (.Name "zip" p) [e, e2] [] pos] X.env = (false, eval (.Call (.Name "zip" p) [e, e2] [] pos) X.env) :: starEach [] X.env := by rfl) :
    SE X (.Call (.Name "list" p2) [.Call (.Name "zip" p) [e, e2] [] pos] [] pos2) (aListZip ta tb) :=
  peTo (pe_lz hc hgl hml hg hm (pa_cons ha (pa_cons hb pa_nil hs2) hs) hs hpl na) fun σ H Q ⟨A, F, env, R, c, h, k⟩ => ev c h fun x e1 v H1 F1 h1 c1 => ev c1 h1 fun y e2 u H2 F2 h2 c2 => by
    split at h2
    · rename_i xs ys ex ey
      obtain ⟨d1, f1, g1⟩ := Option.bind_eq_some_iff.mp ex
      obtain ⟨d2, f2, g2⟩ := Option.bind_eq_some_iff.mp ey
      obtain ⟨F3, c3⟩ := c2.fix2 f2 f1
      obtain ⟨a, ws, ra, ha, ta⟩ := src_of c3.swap.dp g1
      obtain ⟨b, us, rb, hb, tb⟩ := src_of c3.dp g2
      refine ⟨v, u, rfl, a, b, ws, us, ra, rb, Src.mono rs_ex ha, Src.mono rs_ex hb, by rw [← ta.len]; exact h2.1, fun zs H3 ly p hp => ?_⟩
      obtain ⟨F4, c4⟩ := lays_at ly rfl ta tb c3.pop.pop rfl
      have lz : ((zipD xs ys).map OV.d).length = zs.length := by have := c4.cf.len; simpa using this
      exact k _ _ _ _ F4 h2.2 (At.make (s := .lst) c4 lz hp ⟨upd_same, rfl⟩)
    · exact h2.elim
end Ow

/-! Dicts that one name holds; lists within a list or a dict. -/
namespace Ow
open PySem L2 Grd PyProof.Rows
open Evl (Ex ex_t ex_l ex_rd)
def keyD : PyData → Option Key
  | .int i => some (.inl i)
  | .str x => some (.inr x)
  | _ => none
def keyO : OV → Option Key
  | .d d => keyD d
  | _ => none
def dix (ks : List Key) (k : Key) : Option Nat := ks.findIdx? fun q => decide (q = k)
/-- where in it -/
def kix (s : Sh) (n : Nat) (y : OV) : Option Nat := match s with
  | .lst => match y with | .d (.int k) => ixN n k | _ => none
  | .dic ks => (keyO y).bind (dix ks)
  | _ => none
theorem dix_val {α : Type} : ∀ {ks : List Key} {ws : List V} {k : Key}, ks.length = ws.length → valV (ks.zip ws) k = (dix ks k).bind fun j => ws[j]?
  | [], [], k, _ => rfl
  | q :: ks, v :: ws, k, l => by
    have ih := dix_val (α := α) (ks := ks) (ws := ws) (k := k) (by simpa using l)
    unfold dix at ih ⊢
    rw [List.zip_cons_cons, List.findIdx?_cons]
    by_cases e : q = k
    · rw [valV_pos e]; simp [e]
    · rw [valV_neg e, ih]
      simp only [e, decide_false, Bool.false_eq_true, if_false]
      cases List.findIdx? (fun q => decide (q = k)) ks <;> simp
  | [], _ :: _, _, l => by simp at l
  | _ :: _, [], _, l => by simp at l
theorem dix_lt {ks : List Key} {k : Key} {j : Nat} (h : dix ks k = some j) : j < ks.length ∧ ks[j]? = some k := by
  unfold dix at h
  obtain ⟨h1, h2, _⟩ := List.findIdx?_eq_some_iff_getElem.mp h
  refine ⟨h1, ?_⟩
  rw [List.getElem?_eq_getElem h1]
  simpa using h2
theorem dix_none {ks : List Key} {k : Key} (h : dix ks k = none) : k ∉ ks := by
  unfold dix at h
  intro m
  have := List.findIdx?_eq_none_iff.mp h k m
  simp at this
theorem key_v {K : PySem.W.Frag} {H : Hp} {v : V} {d : PyData} {k : Key} (h : Dt K H v d) (e : keyD d = some k) : v = kV k := by
  cases h <;> first | (cases e; rfl) | cases e
section
variable {K : PySem.W.Frag} {A : Addr → Prop} {F0 F F' : FS} {H0 H H' : Hp} {v u : V} {vs us : List V} {x y : OV} {xs ys : List OV} {σ : L2.St} {env : En}
/-! ### an object, and what is in it, apart -/
def Sh.hd : Sh → List V → Option HO
  | .lst, vs => some (.lst vs)
  | .dic ks, vs => if ks.length = vs.length then some (.dK (ks.zip vs)) else none
  | _, _ => none
theorem At.split1 {s : Sh} {a : Addr} (c : At K A F0 H0 H F (.ref a :: vs) (.n s xs :: ys) σ env) (hp : s = .lst ∨ ∃ ks, s = .dic ks) :
    ∃ ws o, s.hd ws = some o ∧ H a = some o ∧ xs.length = ws.length ∧ At K A F0 H0 H F (.ref a :: (ws ++ vs)) (.n (.ext fun _ => o) [] :: (xs ++ ys)) σ env := by
  obtain ⟨st, ⟨⟨a1, a2, h1, h2, nd, off⟩, fh⟩⟩ := c
  cases h1 with
  | @cons _ _ _ _ b1 b2 h t =>
    cases h with
    | @n _ _ ws _ ex as hs hw =>
      obtain ⟨o, e1, e2, e3⟩ : ∃ o, s.hd ws = some o ∧ H a = some o ∧ ex = [] := by
        rcases hp with rfl | ⟨ks, rfl⟩
        · exact ⟨_, rfl, hs.1, hs.2⟩
        · exact ⟨_, if_pos hs.2.1, hs.1, hs.2.2⟩
      subst e3
      refine ⟨ws, o, e1, e2, hw.len, st, ⟨⟨(a :: [] ++ []) ++ (as ++ b2), a2, .cons (.n ⟨e2, rfl, rfl⟩ .nil) (hw.append (a1 := []) (a2 := []) t), h2, ?_, ?_⟩, fh⟩⟩
      · simpa [List.append_assoc] using nd
      · simpa [List.append_assoc] using off
theorem At.join1 {s : Sh} {a : Addr} {ws : List V} {o : HO} (c : At K A F0 H0 H F (.ref a :: (ws ++ vs)) (.n (.ext fun _ => o) [] :: (xs ++ ys)) σ env) (e : s.hd ws = some o) (l : xs.length = ws.length) : At K A F0 H0 H F (.ref a :: vs) (.n s xs :: ys) σ env := by
  obtain ⟨st, ⟨⟨a1, a2, h1, h2, nd, off⟩, fh⟩⟩ := c
  cases h1 with
  | @cons _ _ _ _ b1 b2 h t =>
    cases h with
    | n hs hw =>
      rename_i ex as
      obtain ⟨e1, rfl, rfl⟩ := hs
      cases hw
      obtain ⟨c1, c2, rfl, g1, g2⟩ := Owns.split l t
      have is : s.is H a ws [] := by
        cases s with
        | lst => cases e; exact ⟨e1, rfl⟩
        | tup => cases e
        | dic ks =>
          simp only [Sh.hd] at e
          split at e
          · cases e; exact ⟨e1, ‹_›, rfl⟩
          · cases e
        | ins C ks => cases e
        | ext o => cases e
        | gen _ _ => cases e
      refine ⟨st, ⟨⟨(a :: [] ++ c1) ++ c2, a2, .cons (.n is g1) g2, h2, ?_, ?_⟩, fh⟩⟩
      · simpa [List.append_assoc] using nd
      · simpa [List.append_assoc] using off
theorem zip_eraseK {α β : Type} : ∀ (ws : List α) (xs : List β) (j : Nat), xs.length = ws.length → (ws.zip xs).eraseIdx j = (ws.eraseIdx j).zip (xs.eraseIdx j)
  | [], [], j, _ => by simp
  | w :: ws, x :: xs, 0, _ => by simp
  | w :: ws, x :: xs, j + 1, l => by simp [zip_eraseK ws xs j (by simpa using l)]
  | [], _ :: _, _, l => by simp at l
  | _ :: _, [], _, l => by simp at l
/-- the j-th of some held, taken to the front -/
theorem At.pickKeep {ws : List V} {j : Nat} (c : At K A F0 H0 H F (ws ++ vs) (xs ++ ys) σ env) (l : xs.length = ws.length) (e : xs[j]? = some y) : ∃ w, ws[j]? = some w ∧ At K A F0 H0 H F (w :: (ws.eraseIdx j ++ vs)) (y :: (xs.eraseIdx j ++ ys)) σ env := by
  obtain ⟨w, hw, hz⟩ := zip_at l e
  refine ⟨w, hw, ?_⟩
  have q := At.keepSome (ps := (w, y) :: (ws.zip xs).eraseIdx j) (r := []) c l (by rw [List.append_nil]; exact perm_at hz)
  have le : (xs.eraseIdx j).length = (ws.eraseIdx j).length := by
    have h1 : j < xs.length := (List.getElem?_eq_some_iff.mp e).1
    rw [List.length_eraseIdx_of_lt h1, List.length_eraseIdx_of_lt (by omega), l]
  rw [zip_eraseK ws xs j l] at q
  simp only [List.map_cons, zip_v le, zip_x le] at q
  exact q
/-- and put back -/
theorem At.swapIn {ws : List V} {j : Nat} {w : V} {y' : OV} {H2 : Hp} {F2 : FS} (c : At K A F0 H0 H2 F2 (w :: (ws.eraseIdx j ++ vs)) (y' :: (xs.eraseIdx j ++ ys)) σ env) (l : xs.length = ws.length) (ew : ws[j]? = some w) : At K A F0 H0 H2 F2 (ws ++ vs) (xs.set j y' ++ ys) σ env := by
  have lt : j < ws.length := (List.getElem?_eq_some_iff.mp ew).1
  have ls : (xs.set j y').length = ws.length := by simp [l]
  have ex : (xs.set j y')[j]? = some y' := by rw [List.getElem?_set_self (by omega)]
  obtain ⟨w', hw', hz⟩ := zip_at ls ex
  rw [ew] at hw'
  cases hw'
  have le : (xs.eraseIdx j).length = (ws.eraseIdx j).length := by rw [List.length_eraseIdx_of_lt (by omega), List.length_eraseIdx_of_lt lt, l]
  have e4 : (xs.set j y').eraseIdx j = xs.eraseIdx j := List.eraseIdx_set_eq
  have c0 : At K A F0 H0 H2 F2 ((w :: ws.eraseIdx j) ++ vs) ((y' :: xs.eraseIdx j) ++ ys) σ env := c
  have q := At.keepSome (ps := ws.zip (xs.set j y')) (r := []) c0 (by simp [le]) (by
    rw [List.append_nil, List.zip_cons_cons]
    have p := (perm_at hz).symm
    rw [zip_eraseK ws _ j ls, e4] at p
    exact p)
  rw [zip_v ls, zip_x ls] at q
  exact q
end
/-! ### d[k], xs[i] of a name -/
theorem ix_dk {X : Cx} (hu : X.A.units + 1 < cLine) : IxR X (fun x y H Q => ∃ a v, x = .ref a ∧ DGet H a y (some v) ∧ Q v H) := by
  intro value slice pins s σ H x y v u Q I rx ry h hs
  obtain ⟨a, w, rfl, g, q⟩ := h
  obtain rfl : v = Value.ref a := rx
  have hT := dict_typeIs I g
  unfold subscriptTail
  refine wpAny_bind ?_
  rw [getitemInPython_of_ne hT.not_modules]
  refine wpAny_bind (wpAny_specialOf hT PySem.F.slot_dict_getitem.lookup ?_)
  have fin : wpAny (model X.prog X.w) X.A (subscripted slice false (.ref a) u) (fun r s₃ => wpAny (model X.prog X.w) X.A (letTemporaryGo value (.ref a) r >>= fun _ => pure r) (EP X pins σ Q) X.xe s₃) X.xe s := by
    rw [hs]
    exact wpAny_operating (d_getItem hu I g ry fun w' s3 I3 rw' => wpAny_bind (wpAny_letTemporaryGo (wpAny_pure ⟨w, H, I3, rw', q⟩)))
  first
    | exact wpAny_pure (wpAny_bind fin)
    | exact wpAny_bind (wpAny_pure (wpAny_bind fin))
    | exact wpAny_bind fin
/-- a subscript of a name that holds a list or a dict: what stands there is fixed -/
def aIxK (i : Nat) (tb : AE) : AE := fun env Q => (match env[i]? with | some (some _) => True | _ => False) ∧ tb env fun y e => match e[i]? with
  | some (some (.d x)) => oIx (.d x) y fun z => Q z e
  | some (some (.n s xs)) => match kix s xs.length y with
    | some j => match xs[j]? with
      | some (.d d) => Q (.d d) e
      | some o => match frz o with
        | some d => Q (.d d) (e.set i (some (.n s (xs.set j (.d d)))))
        | none => False
      | none => False
    | none => False
  | _ => False
section
variable {X : Cx} {pn : List (Nat × V)} {e o a b c f i' : Expr} {es : List Expr} {ta tb tc te td tk tv : AE} {tr : AA} {pos p p2 apos cpos : Pos} {i : Nat} {x : Str} {id T : String}
/-- what an index finds -/
theorem kix_ix {K : PySem.W.Frag} {H : Hp} {F : FS} {s : Sh} {a : Addr} {ws : List V} {ex : List Addr} {n j : Nat} {y : OV} {u w : V} {A : Addr → Prop} {F0 : FS} {H0 : Hp} {vs : List V} {xs : List OV} {σ : L2.St} {env : En} {Q : VK}
    (hs : s.is H a ws ex) (ek : kix s n y = some j) (ln : n = ws.length) (c : At K A F0 H0 H F (u :: vs) (y :: xs) σ env) (hw : ws[j]? = some w) (q : Q w H) :
    (rIx K (.ref a) u H Q) ∨ ∃ a' v, V.ref a = .ref a' ∧ DGet H a' u (some v) ∧ Q v H := by
  cases s with
  | lst =>
    simp only [kix] at ek
    split at ek
    · rename_i k
      have du := c.dp
      cases du
      subst ln
      exact .inl (.inl ⟨a, ws, _, w, rfl, rfl, .of hs.1, ix_atI ek hw, q⟩)
    · cases ek
  | dic ks =>
    simp only [kix] at ek
    obtain ⟨k, e1, e2⟩ := Option.bind_eq_some_iff.mp ek
    cases y with
    | d d =>
      have ev := key_v c.dp e1
      subst ev
      refine .inr ⟨a, w, rfl, ?_, q⟩
      have g := DGet.k (k := k) hs.1
      rw [dix_val (α := Unit) hs.2.1, e2] at g
      simp only [Option.bind_some, hw] at g
      exact g
    | n _ _ => cases e1
    | h _ => cases e1
  | tup => cases ek
  | ins C ks => cases ek
  | ext _ => cases ek
  | gen _ _ => cases ek
theorem se_ixK (hu : X.A.units + 1 < cLine) (h : PE X a (tVar i)) (hb : SE X b tb) (hs : PlainIx b) : SE X (.Subscript a b pos) (aIxK i tb) := peTo (pe_ix (ix_seq.or (ix_dk hu)) h hb hs) fun σ H Q ⟨A, F, env, R, c, h, k⟩ => by
  obtain ⟨h0, h⟩ := h
  obtain ⟨v, hv⟩ := getSome c h0
  refine ⟨v, hv, ev c h fun y e1 u H2 F2 h2 c2 => ?_⟩
  split at h2
  · rename_i x ex
    unfold oIx at h2
    split at h2
    · have dw := c2.dp
      cases dw
      obtain ⟨v', hv', dv⟩ := c2.look ex
      rw [hv] at hv'
      cases hv'
      exact .inl (ixD dv h2 fun d' v'' r hd => k _ _ _ _ _ r (c2.pop.push hd))
    · exact h2.elim
  · rename_i s xs ex
    split at h2
    · rename_i j ej
      obtain ⟨v', hv', c3⟩ := c2.pop.take ex
      rw [hv] at hv'
      cases hv'
      split at h2
      · rename_i d ed
        obtain ⟨a, ws, ex', rfl, hs, l, c4⟩ := c3.opn
        obtain ⟨w, h1, c5⟩ := c4.pick l ed
        exact kix_ix hs ej l c2 h1 (k _ _ _ _ _ h2 (c2.pop.push c5.dp))
      · rename_i o _ eo
        split at h2
        · rename_i d ed
          obtain ⟨a, ws, ex', w, F3, rfl, hs, l, h1, dw, c4⟩ := c3.fixAt eo ed
          have c5 := (c4.push dw).swap.put hv
          rw [set_set'] at c5
          exact kix_ix hs ej l c2 h1 (k _ _ _ _ _ h2 c5)
        · exact h2.elim
      · exact h2.elim
    · exact h2.elim
  · exact h2.elim
/-! ### d.get(k, z) of a name; {..}.get(k, z) -/
def aDGet (i : Nat) (tk td : AE) : AE := fun env Q => (match env[i]? with | some (some (.n (.dic _) _)) => True | _ => False) ∧ tk env fun y e1 => td e1 fun z e2 => match e2[i]? with
  | some (some (.n (.dic ks) xs)) => match keyO y with
    | some k => match dix ks k with
      | some j => match xs[j]? with
        | some (.d d) => Q (.d d) e2
        | some o => match frz o with
          | some d => Q (.d d) (e2.set i (some (.n (.dic ks) (xs.set j (.d d)))))
          | none => False
        | none => False
      | none => Q z e2
    | none => False
  | _ => False
theorem isD_of {K : PySem.W.Frag} {A : Addr → Prop} {F0 F : FS} {H0 H : Hp} {v : V} {vs : List V} {ks : List Key} {xs ys : List OV} {σ : L2.St} {env : En} (c : At K A F0 H0 H F (v :: vs) (.n (.dic ks) xs :: ys) σ env) : ∃ a, v = .ref a ∧ IsD H a := by
  obtain ⟨a, ws, ex', rfl, hs, l, c4⟩ := c.opn
  exact ⟨a, rfl, .inl ⟨_, .inl hs.1⟩⟩
theorem se_dget (hu : X.A.units + 1 < cLine) (h : PE X o (tVar i)) (hk : SE X e tk) (hd : SE X f td) (m : M2 X o "get" apos e f cpos) : SE X (.Call (.Attribute o "get" apos) [e, f] [] cpos) (aDGet i tk td) := peTo (pe_dget2 hu h hk hd m) fun σ H Q ⟨A, F, env, R, c, h, k⟩ => by
  obtain ⟨h0, h⟩ := h
  split at h0
  · rename_i ks0 xs0 ex0
    obtain ⟨v, hv, c0⟩ := c.take ex0
    obtain ⟨a, rfl, isd⟩ := isD_of c0
    refine ⟨_, hv, a, rfl, isd, ev c h fun y e1 u H1 F1 h1 c1 => ev c1 h1 fun z e2 w H2 F2 h2 c2 => ?_⟩
    split at h2
    · rename_i ks xs ex
      split at h2
      · rename_i kk ek
        have eu : u = kV kk := by
          cases y with
          | d d => exact key_v c2.swap.dp ek
          | n _ _ => cases ek
          | h _ => cases ek
        subst eu
        obtain ⟨v', hv', c3⟩ := c2.take ex
        rw [hv] at hv'
        cases hv'
        split at h2
        · rename_i j ej
          split at h2
          · rename_i d ed
            obtain ⟨a', ws, ex', e0, hs, l, c4⟩ := c3.opn
            cases e0
            obtain ⟨w', h3, c5⟩ := c4.pick l ed
            refine ⟨some w', ?_, k _ _ _ _ _ h2 (c2.pop.pop.push c5.dp)⟩
            have g := DGet.k (k := kk) hs.1
            rw [dix_val (α := Unit) hs.2.1, ej] at g
            simp only [Option.bind_some, h3] at g
            exact g
          · rename_i o' _ eo
            split at h2
            · rename_i d ed
              obtain ⟨a', ws, ex', w', F3, e0, hs, l, h3, dw, c4⟩ := c3.fixAt eo ed
              cases e0
              have c5 := (c4.push dw).swap.put hv
              rw [set_set'] at c5
              have c6 := At.app_comm (vs1 := [w']) (xs1 := [_]) (vs2 := [w, kV kk]) (xs2 := [z, y]) rfl c5
              refine ⟨some w', ?_, k _ _ _ _ _ h2 c6.pop.pop⟩
              have g := DGet.k (k := kk) hs.1
              rw [dix_val (α := Unit) hs.2.1, ej] at g
              simp only [Option.bind_some, h3] at g
              exact g
            · exact h2.elim
          · exact h2.elim
        · rename_i ej
          obtain ⟨a', ws, ex', e0, hs, l, c4⟩ := c3.opn
          cases e0
          refine ⟨none, ?_, k _ _ _ _ _ h2 c2.swap.pop⟩
          have g := DGet.k (k := kk) hs.1
          rw [dix_val (α := Unit) hs.2.1, ej] at g
          exact g
      · exact h2.elim
    · exact h2.elim
  · exact h0.elim
/-- of a dict just made -/
def aGetE (te tk td : AE) : AE := fun env Q => te env fun x e1 => match x with
  | .n (.dic ks) xs => tk e1 fun y e2 => td e2 fun z e3 => match keyO y with
    | some k => match dix ks k with
      | some j => match xs[j]? with
        | some o => Q o e3
        | none => False
      | none => Q z e3
    | none => False
  | _ => False
theorem se_getE (hu : X.A.units + 1 < cLine) (h : SE X o te) (hk : SE X e tk) (hd : SE X f td) (m : M2 X o "get" apos e f cpos) : SE X (.Call (.Attribute o "get" apos) [e, f] [] cpos) (aGetE te tk td) := peTo (pe_dget2 hu h hk hd m) fun σ H Q ⟨A, F, env, R, c, h, k⟩ => ev c h fun x e1 v H1 F1 h1 c1 => by
  split at h1
  · rename_i ks xs
    obtain ⟨a, rfl, isd⟩ := isD_of c1
    refine ⟨a, rfl, isd, ev c1 h1 fun y e2 u H2 F2 h2 c2 => ev c2 h2 fun z e3 w H3 F3 h3 c3 => ?_⟩
    split at h3
    · rename_i kk ek
      have eu : u = kV kk := by
        cases y with
        | d d => exact key_v c3.swap.dp ek
        | n _ _ => cases ek
        | h _ => cases ek
      subst eu
      have c4 := At.app_comm (vs1 := [w, kV kk]) (xs1 := [z, y]) (vs2 := [.ref a]) (xs2 := [_]) rfl c3
      obtain ⟨a', ws, ex', e0, hs, l, c5⟩ := c4.opn
      cases e0
      have g := DGet.k (k := kk) hs.1
      rw [dix_val (α := Unit) hs.2.1] at g
      split at h3
      · rename_i j ej
        rw [ej] at g
        split at h3
        · rename_i o' eo
          obtain ⟨w', h4, c6⟩ := c5.pick l eo
          simp only [Option.bind_some, h4] at g
          refine ⟨some w', g, k _ _ _ _ F3 h3 ?_⟩
          have c7 := At.app_comm (vs1 := [w']) (xs1 := [_]) (vs2 := [w, kV kk]) (xs2 := [z, y]) rfl c6
          exact c7.pop.pop
        · exact h3.elim
      · rename_i ej
        rw [ej] at g
        exact ⟨none, g, k _ _ _ _ F3 h3 (c3.swap.pop.swap.pop)⟩
    · exact h3.elim
  · exact h1.elim
end
end Ow

/-! Dicts: d[k] = v, dict(d), displays; methods of a list within a list or a dict. -/
namespace Ow
open PySem L2 Grd PyProof.Rows
open Evl (Ex ex_t ex_l ex_rd)
/-- d[k] = v -/
def dput (ks : List Key) (xs : List OV) (k : Key) (x : OV) : OV := match dix ks k with
  | some j => .n (.dic ks) (xs.set j x)
  | none => .n (.dic (ks ++ [k])) (xs ++ [x])
def aDPut (i : Nat) (tv tk : AE) : AS := fun D env => tv env fun x e1 => (match e1[i]? with | some (some (.n (.dic _) _)) => True | _ => False) ∧ tk e1 fun y e2 => match e2[i]? with
  | some (some (.n (.dic ks) xs)) => match keyO y with
    | some k => (ks.Nodup ∧ xs.length < sizeLine) ∧ D.nx (e2.set i (some (dput ks xs k x)))
    | none => False
  | _ => False
theorem map_same {k : Key} {v : V} : ∀ {kvs : List (Key × V)}, k ∉ kvs.map Prod.fst → (kvs.map fun kv => if kv.1 = k then (kv.1, v) else kv) = kvs
  | [], _ => rfl
  | p :: r, h => by
    rw [List.map_cons, List.mem_cons, not_or] at h
    rw [List.map_cons, if_neg (fun z => h.1 z.symm), map_same h.2]
theorem map_dix {k : Key} {v : V} : ∀ {ks : List Key} {ws : List V} {j : Nat}, ks.Nodup → ks.length = ws.length → dix ks k = some j → ((ks.zip ws).map fun kv => if kv.1 = k then (kv.1, v) else kv) = ks.zip (ws.set j v)
  | [], [], j, _, _, h => by simp [dix] at h
  | q :: ks, w :: ws, j, nd, l, h => by
    obtain ⟨n1, n2⟩ := List.nodup_cons.mp nd
    unfold dix at h
    rw [List.findIdx?_cons] at h
    rw [List.zip_cons_cons, List.map_cons]
    by_cases e : q = k
    · simp only [e, decide_true, if_true, Option.some.injEq] at h
      subst h
      subst e
      rw [List.set_cons_zero, List.zip_cons_cons, if_pos rfl, map_same (by rw [List.map_fst_zip (by simp at l; omega)]; exact n1)]
    · simp only [e, decide_false, Bool.false_eq_true, if_false] at h
      obtain ⟨m, hm, rfl⟩ := Option.map_eq_some_iff.mp h
      rw [List.set_cons_succ, List.zip_cons_cons, if_neg e, map_dix n2 (by simpa using l) hm]
  | [], _ :: _, _, _, l, _ => by simp at l
  | _ :: _, [], _, _, l, _ => by simp at l
theorem putK_dix {ks : List Key} {ws : List V} {k : Key} {v : V} (nd : ks.Nodup) (l : ks.length = ws.length) : putK (ks.zip ws) k v = match dix ks k with
    | some j => ks.zip (ws.set j v)
    | none => (ks ++ [k]).zip (ws ++ [v]) := by
  have key := dix_val (α := Unit) (k := k) l
  cases e : dix ks k with
  | none =>
    rw [e] at key
    rw [putK_new v key, List.zip_append l]
    rfl
  | some j =>
    rw [e] at key
    obtain ⟨h1, h2⟩ := dix_lt e
    have lj : j < ws.length := by omega
    simp only [Option.bind_some, List.getElem?_eq_getElem lj] at key
    unfold putK
    rw [valV_any, key]
    simp only [Option.isSome_some, if_true]
    exact map_dix nd l e
section
variable {X : Cx} {pn : List (Nat × V)} {e o a b c f i' : Expr} {es : List Expr} {ta tb tc te td tk tv : AE} {tr : AA} {pos p p2 apos cpos : Pos} {i : Nat} {x : Str} {id T : String}
theorem ss_dput (hu : X.A.units + 1 < cLine) (he : SE X e tv) (ho : PE X o (tVar i)) (hi : SE X i' tk) (hs : swapsWithSole [.Subscript o i' p2] e pos.line X.env = pure false := by rfl) (hw : swappedStores [.Subscript o i' p2] e X.env = pure none := by rfl)
    (h1 : (assignEach [.Subscript o i' p2] X.env).map (·.2) = [assign (.Subscript o i' p2) X.env] := by rfl)
    (ha : ∀ v, assign (.Subscript o i' p2) X.env v = (do
      let ov ← holding [v] (eval o X.env)
      let iv ← holding [v, ov] (eval i' X.env)
      standAt p2
      holding [v, ov, iv] (setItem ov iv v)
      release [v, ov, iv] []) := by intro _; rfl) : SS X pn (.Assign [.Subscript o i' p2] e pos) (aDPut i tv tk) :=
  psTo (ps_asg he (pg_sub ho hi (set_dict hu) ha) hs hw h1) fun D σ H ⟨A, F, env, D', p, c, h, ed⟩ => ev c h fun x e1 v H1 F1 h1 c1 => by
    obtain ⟨h0, h1⟩ := h1
    split at h0
    · rename_i ks0 xs0 ex0
      obtain ⟨w, hw, c0⟩ := c1.take ex0
      obtain ⟨a, rfl, _⟩ := isD_of c0
      refine ⟨.ref a, hw, ev c1 h1 fun y e2 u H2 F2 h2 c2 => ?_⟩
      split at h2
      · rename_i ks xs ex
        split at h2
        · rename_i k ek
          have eu : u = kV k := by
            cases y with
            | d d => exact key_v c2.dp ek
            | n _ _ => cases ek
            | h _ => cases ek
          subst eu
          obtain ⟨w', hw', c3⟩ := c2.pop.take ex
          rw [hw] at hw'
          cases hw'
          obtain ⟨⟨nd, lz⟩, h2⟩ := h2
          obtain ⟨ws, ex', ⟨hH, lk, rfl⟩, lw, lv, mk⟩ := c3.mut
          have zl : (ks.zip ws).length < sizeLine := by rw [List.length_zip]; omega
          refine ⟨a, _, rfl, DPut.k hH zl, ed.nx _ _ _ F2 h2 p ?_⟩
          rw [putK_dix nd lk]
          unfold dput
          cases ej : dix ks k with
          | none =>
            dsimp only
            have q := mk (.dic (ks ++ [k])) (.dK ((ks ++ [k]).zip (ws ++ [v]))) (ws.zip xs ++ [(v, x)]) [] [] ⟨by rw [upd_same]; simp [fsts, List.map_fst_zip (show ws.length ≤ xs.length by omega)], by simp [lk, lw], rfl⟩ (by simp)
            simp only [snds, List.map_append, List.map_snd_zip (show xs.length ≤ ws.length by omega), List.map_cons, List.map_nil] at q
            have c4 := q.put hw
            rw [set_set'] at c4
            exact c4
          | some j =>
            dsimp only
            obtain ⟨lj, _⟩ := dix_lt ej
            have hj : j < xs.length := by omega
            have hz : (ws.zip xs)[j]? = some (ws[j]'(by omega), xs[j]) := by
              rw [List.getElem?_zip_eq_some]
              exact ⟨List.getElem?_eq_getElem _, List.getElem?_eq_getElem _⟩
            have e1 : fsts ((ws.zip xs).set j (v, x)) = ws.set j v := by
              rw [show fsts ((ws.zip xs).set j (v, x)) = (fsts (ws.zip xs)).set j v from List.map_set, zip_v lw]
            have e2 : snds ((ws.zip xs).set j (v, x)) = xs.set j x := by
              rw [show snds ((ws.zip xs).set j (v, x)) = (snds (ws.zip xs)).set j x from List.map_set, zip_x lw]
            have hjz : j < (ws.zip xs).length := by rw [List.length_zip]; omega
            have q := mk (.dic ks) (.dK (ks.zip (ws.set j v))) ((ws.zip xs).set j (v, x)) [] [(ws[j]'(by omega), xs[j])] ⟨by rw [upd_same, e1], by rw [e1]; simp [lk], rfl⟩ (by
              simp only [List.append_nil, List.zip_cons_cons, List.zip_nil_right]
              have p1 := perm_at (l := (ws.zip xs).set j (v, x)) (j := j) (a := (v, x)) (by rw [List.getElem?_set_self hjz])
              have p2 := perm_at hz
              rw [List.eraseIdx_set_eq] at p1
              refine (List.Perm.append_right _ p1.symm).trans ?_
              refine List.Perm.trans ?_ (List.Perm.append_right _ p2)
              simp only [List.cons_append]
              refine (List.Perm.cons _ List.perm_append_comm).trans ?_
              simp only [List.cons_append, List.nil_append]
              refine (List.Perm.swap _ _ _).trans ?_
              exact List.Perm.cons _ (List.perm_append_comm (l₁ := [(v, x)])))
            rw [e2] at q
            have c4 := q.put hw
            rw [set_set'] at c4
            exact c4
        · exact h2.elim
      · exact h2.elim
    · exact h0.elim
/-! ### dict(d) of a name: all that is in it is data -/
def aDCopy (i : Nat) : AE := fun env Q => match env[i]? with
  | some (some (.n (.dic ks) xs)) => match dats xs with
    | some ds => Q (.n (.dic ks) (ds.map .d)) env
    | none => False
  | _ => False
theorem call_dcopy : CallR X (.type "dict") (fun vs H Q => ∃ a kvs, vs = [.ref a] ∧ H a = some (.dK kvs) ∧ ∀ p, H p = none → Q (.ref p) (upd H p (.dK kvs))) := by
  intro pins s σ H vs us Q I r h
  obtain ⟨a, kvs, rfl, ha, q⟩ := h
  rw [Vals.ref1 r]
  exact d_copyOf I (.inl ha) fun p s' hp I' => ⟨.ref p, _, I', rfl, q p hp⟩
theorem se_dcopy (h : PE X e (tVar i)) (hg : Gl X "dict") (hm : X.mg "dict" = none) (hs : starEach [e] X.env = [(false, eval e X.env)] := by rfl) (hpl : (backTo pos (starEach [] X.env)).any (·.1) = false := by rfl) :
    SE X (.Call (.Name "dict" p) [e] [] pos) (aDCopy i) :=
  peTo (pe_callTy (T := "dict") call_dcopy hg hm (by decide +kernel) (pa_cons h pa_nil hs) (by decide) (by decide) hs hpl) fun σ H Q ⟨A, F, env, R, c, h, k⟩ => by
    unfold aDCopy at h
    split at h
    · rename_i ks xs ex
      split at h
      · rename_i ds eds
        obtain ⟨v, hv, c1⟩ := c.take ex
        have e0 := dats_frzs eds
        subst e0
        obtain ⟨a, ws, ex', rfl, hs, l, c2⟩ := c1.opn
        obtain ⟨F2, c3, dp⟩ := At.fixs c2 l (frzs_map ds)
        refine ⟨_, hv, a, _, rfl, hs.1, fun p hp => ?_⟩
        obtain ⟨st, ⟨⟨b1, b2, g1, g2, nd, off⟩, fh⟩⟩ := c
        -- the data that stand in it
        have dpF : Dts X.K (rs H F) ws ds := by
          obtain ⟨_, ⟨⟨d1, d2, o1, o2, _, _⟩, _⟩⟩ := c2
          rw [List.append_nil, List.append_nil] at o1
          clear c3 dp
          have go : ∀ {ds : List PyData} {ws : List V} {as : List Addr}, Owns X.K H F ws (ds.map OV.d) as → Dts X.K (rs H F) ws ds := by
            intro ds
            induction ds with
            | nil => intro ws as o; cases o; exact .nil
            | cons d ds ih =>
              intro ws as o
              rw [List.map_cons] at o
              cases o with
              | cons h t => cases h with | d h => exact .cons h (ih t)
          exact go o1
        have c5 : At X.K A F H H F [] [] σ env := ⟨st, ⟨⟨b1, b2, g1, g2, nd, off⟩, fh⟩⟩
        have lw : (ds.map OV.d).length = ws.length := by rw [List.length_map]; exact dpF.len
        refine k _ _ _ _ F h ?_
        exact At.make (s := .dic ks) (by have := c5.pushs dpF; simpa using this) lw hp ⟨by rw [upd_same], hs.2.1, rfl⟩
      · exact h.elim
    · exact h.elim
/-! ### {} and displays -/
def aDNew : AE := fun env Q => Q (.n (.dic []) []) env
theorem se_dnew : SE X (.Dict [] [] pos) aDNew := peTo pe_dnewK fun σ H Q ⟨A, F, env, R, c, h, k⟩ p hp => k _ _ _ _ F h (At.make (us := []) (ys := []) (s := .dic []) c rfl hp ⟨by rw [upd_same]; rfl, rfl, rfl⟩)
def aPrs : List (AE × AE) → En → (List (Key × OV) → En → Prop) → Prop
  | [], e, Q => Q [] e
  | (tk, tv) :: r, e, Q => tk e fun y e1 => match keyO y with
    | some k => tv e1 fun x e2 => aPrs r e2 fun ps e3 => Q ((k, x) :: ps) e3
    | none => False
def aDisp (prs : List (AE × AE)) : AE := fun env Q => aPrs prs env fun ps e => ((ps.map Prod.fst).Nodup ∧ ps.length ≤ 15) ∧ Q (.n (.dic (ps.map Prod.fst)) (ps.map Prod.snd)) e
theorem evps {K : PySem.W.Frag} {A : Addr → Prop} {F0 : FS} {H0 : Hp} {σ : L2.St} : ∀ {prs : List (AE × AE)} {H : Hp} {F : FS} {vs : List V} {xs : List OV} {env : En} {R : List (Key × OV) → En → Prop} {Q : List (V × V) → Hp → Prop}, At K A F0 H0 H F vs xs σ env → aPrs prs env R →
    (∀ ps e (us : List V) H' F', R ps e → us.length = ps.length → At K A F0 H0 H' F' (us ++ vs) (ps.map Prod.snd ++ xs) σ e → Q (List.zipWith (fun (p : Key × OV) u => (kV p.1, u)) ps us) H') → tPairs (prs.map fun p => (LE K p.1, LE K p.2)) σ H Q
  | [], H, F, vs, xs, env, R, Q, c, h, k => k [] env [] H F h rfl c
  | (tk, tv) :: r, H, F, vs, xs, env, R, Q, c, h, k => ev c h fun y e1 u H1 F1 h1 c1 => by
    split at h1
    · rename_i kk ek
      have eu : u = kV kk := by
        cases y with
        | d d => exact key_v c1.dp ek
        | n _ _ => cases ek
        | h _ => cases ek
      subst eu
      refine ev c1.pop h1 fun x e2 w H2 F2 h2 c2 => evps c2 h2 fun ps e3 us H3 F3 h3 l3 c3 => ?_
      refine k ((kk, x) :: ps) e3 (w :: us) H3 F3 h3 (by simp [l3]) ?_
      have c4 := At.front (by simp [l3]) c3
      exact c4
    · exact h1.elim
theorem merge_new : ∀ (more acc : List (Key × V)), ((acc ++ more).map Prod.fst).Nodup → mergeK acc more = acc ++ more
  | [], acc, _ => by simp [mergeK]
  | p :: r, acc, nd => by
    have hn : valV acc p.1 = none := by
      cases e : valV acc p.1 with
      | none => rfl
      | some v =>
        have m := valV_in e
        rw [List.map_append, List.map_cons] at nd
        exact absurd rfl ((List.nodup_append.mp nd).2.2 _ m _ List.mem_cons_self)
    show mergeK (putK acc p.1 p.2) r = _
    rw [putK_new p.2 hn, merge_new r (acc ++ [(p.1, p.2)]) (by simpa using nd)]
    simp
theorem se_disp {keys : List (Option Expr)} {values : List Expr} {prs : List (AE × AE)} (h : PPs X pos keys values (prs.map fun p => (LE X.K p.1, LE X.K p.2))) (hall : keys.all (·.isSome) = true := by rfl) (hl : keys.length = values.length := by rfl) (h0 : keys ≠ [] := by simp) (h15 : keys.length ≤ 15 := by decide) :
    SE X (.Dict keys values pos) (aDisp prs) := peTo (pe_disp h hall hl h0 h15) fun σ H Q ⟨A, F, env, R, c, h, k⟩ p hp => by
  have c0 := At.make (us := []) (ys := []) (s := .dic []) (o := .dK []) c rfl hp ⟨by rw [upd_same]; rfl, rfl, rfl⟩
  refine evps c0 h fun ps e us H2 F2 h2 l2 c2 => ?_
  have c3 := At.app_comm (by simp [l2]) c2
  have hH : H2 p = some (.dK []) := by
    obtain ⟨a', ws, ex', e0, hs, l, c4⟩ := At.opn c3
    cases e0
    cases ws with
    | nil => exact hs.1
    | cons _ _ => simp at l
  obtain ⟨⟨nd, l15⟩, h2⟩ := h2
  have zz : ∀ (ps : List (Key × OV)) (us : List V), us.length = ps.length → List.zipWith (fun (p : Key × OV) u => (kV p.1, u)) ps us = ((ps.map Prod.fst).zip us).map fun kv => (kV kv.1, kv.2) := by
    intro ps
    induction ps with
    | nil => intro us _; rfl
    | cons q ps ih =>
      intro us l
      cases us with
      | nil => simp at l
      | cons u us => simp [ih us (by simpa using l)]
  refine ⟨hH, (ps.map Prod.fst).zip us, zz ps us l2, by rw [List.length_zip]; simp [l2]; omega, k _ _ _ _ F2 h2 ?_⟩
  rw [merge_new _ [] (by rw [List.nil_append, List.map_fst_zip (by simp [l2])]; exact nd), List.nil_append]
  obtain ⟨ws, ex', hs, lw, lv, mk⟩ := At.mut c3
  have ew : ws = [] := List.eq_nil_of_length_eq_zero (by simpa using lw.symm)
  subst ew
  have ex0 : ex' = [] := hs.2.2
  subst ex0
  have q := mk (.dic (ps.map Prod.fst)) (.dK ((ps.map Prod.fst).zip us)) (us.zip (ps.map Prod.snd)) [] [] ⟨by rw [upd_same, zip_v (by simp [l2])], by rw [zip_v (by simp [l2])]; simp [l2], rfl⟩ (by simp)
  rw [zip_x (by simp [l2])] at q
  exact q
/-! ### a method of a list that stands within a list or a dict held by a name -/
def aMtK (i : Nat) (tk : AE) (mm : MM) (t : AA) : AE := fun env Q => (match env[i]? with | some (some _) => True | _ => False) ∧ tk env fun y e1 => match e1[i]? with
  | some (some (.n s xs)) => match kix s xs.length y with
    | some j => match xs[j]? with
      | some (.n .lst zs) => t (e1.set i none) fun args e2 => mm zs args fun z zs' => Q z (e2.set i (some (.n s (xs.set j (.n .lst zs')))))
      | _ => False
    | none => False
  | _ => False
theorem kix_plain {s : Sh} {n j : Nat} {y : OV} (h : kix s n y = some j) : s = .lst ∨ ∃ ks, s = .dic ks := by
  cases s with
  | lst => exact .inl rfl
  | dic ks => exact .inr ⟨ks, rfl⟩
  | tup => cases h
  | ins C ks => cases h
  | ext _ => cases h
  | gen _ _ => cases h
theorem At.blocks {K : PySem.W.Frag} {A : Addr → Prop} {F0 F : FS} {H0 H : Hp} {σ : L2.St} {env : En} {v1 v2 v3 : List V} {x1 x2 x3 : List OV} (l1 : x1.length = v1.length) (l2 : x2.length = v2.length) (c : At K A F0 H0 H F (v1 ++ (v2 ++ v3)) (x1 ++ (x2 ++ x3)) σ env) : At K A F0 H0 H F (v2 ++ (v1 ++ v3)) (x2 ++ (x1 ++ x3)) σ env := by
  obtain ⟨st, ⟨⟨a1, a2, h1, h2, nd, off⟩, fh⟩⟩ := c
  obtain ⟨b1, b2, rfl, g1, g2⟩ := Owns.split l1 h1
  obtain ⟨d1, d2, rfl, g3, g4⟩ := Owns.split l2 g2
  have p : ((d1 ++ (b1 ++ d2)) ++ a2).Perm ((b1 ++ (d1 ++ d2)) ++ a2) := by
    refine List.Perm.append_right _ ?_
    rw [← List.append_assoc, ← List.append_assoc]
    exact List.Perm.append_right _ List.perm_append_comm
  exact ⟨st, ⟨⟨d1 ++ (b1 ++ d2), a2, g3.append (a1 := []) (a2 := []) (g1.append (a1 := []) (a2 := []) g4), h2, p.nodup_iff.mpr nd, fun z hz => off z (p.mem_iff.mp hz)⟩, fh⟩⟩
theorem mtK_core {r : V → List V → Hp → VK → Prop} {mm : MM} {K : PySem.W.Frag} {A : Addr → Prop} {F0 F : FS} {H0 H : Hp} {σ : L2.St} {e1 : En} {s : Sh} {xs zs : List OV} {j : Nat} {v : V} {t : AA} {R : OV → En → Prop} {Q : VK} (hl : MtL K r mm) (hv : σ[i]? = some (some v))
    (pl : s = .lst ∨ ∃ ks, s = .dic ks) (ez : xs[j]? = some (.n .lst zs)) (c : At K A F0 H0 H F [v] [.n s xs] σ (e1.set i none)) (ht : t (e1.set i none) fun args e2 => mm zs args fun z zs' => R z (e2.set i (some (.n s (xs.set j (.n .lst zs'))))))
    (k : ∀ z e w H' F', R z e → At K A F0 H0 H' F' [w] [z] σ e → Q w H') :
    ∃ a ws ex w, v = .ref a ∧ s.is H a ws ex ∧ xs.length = ws.length ∧ ws[j]? = some w ∧ tyV K "list" w H ∧ LA K t σ H fun us H2 => r w us H2 Q := by
  obtain ⟨a, ws0, ex0, rfl, hs0, l0, _⟩ := c.opn
  obtain ⟨ws, o, eo, hH, l, c1⟩ := c.split1 pl
  have ew0 : ws0 = ws := by
    rcases pl with rfl | ⟨ks, rfl⟩
    · cases eo; rw [hs0.1] at hH; cases hH; rfl
    · simp only [Sh.hd] at eo
      split at eo
      · rename_i lk
        cases eo
        rw [hs0.1] at hH
        have e := HO.dK.inj (Option.some.inj hH)
        have := congrArg (List.map Prod.snd) e
        have lk0 : ks.length = ws0.length := hs0.2.1
        rw [List.map_snd_zip (by omega), List.map_snd_zip (by omega)] at this
        exact this
      · cases eo
  subst ew0
  have c2 : At K A F0 H0 H F (ws0 ++ [.ref a]) (xs ++ [.n (.ext fun _ => o) []]) σ (e1.set i none) := by
    have q := At.blocks (v1 := [.ref a]) (x1 := [.n (.ext fun _ => o) []]) (v2 := ws0) (x2 := xs) (v3 := []) (x3 := []) rfl l0 c1
    simpa using q
  obtain ⟨w, hw, c3⟩ := At.pickKeep c2 l0 ez
  obtain ⟨b, zv, exb, rfl, hb, lb, _⟩ := c3.opn
  refine ⟨a, ws0, ex0, .ref b, rfl, hs0, l0, hw, .inl ⟨rfl, zv, .of hb.1⟩, evs c3 ht fun args e2 us H2 F2 h2 c4 => ?_⟩
  have la : args.length = us.length := by
    have := c4.cf.len
    have l5 := c3.cf.len
    simp only [List.length_append, List.length_cons, List.length_nil] at this l5
    omega
  have c5 : At K A F0 H0 H2 F2 ((.ref b :: us) ++ (ws0.eraseIdx j ++ [.ref a])) ((.n .lst zs :: args) ++ (xs.eraseIdx j ++ [.n (.ext fun _ => o) []])) σ e2 := At.front (vs1 := us) (xs1 := args) la c4
  have c5' := c5
  obtain ⟨st, ⟨⟨a1, a2, h1, h2', nd, off⟩, fh⟩⟩ := c5
  obtain ⟨b1, b2, rfl, g1, g2⟩ := Owns.split (by simp [la]) h1
  rw [List.append_assoc] at nd off
  refine hl.run (A := (· ∈ b1)) (F0 := F2) (H0 := H2) (σ := []) (env := []) ⟨.refl, ⟨⟨b1, [], g1, .nil, by simpa using (List.nodup_append.mp nd).1, fun x hx => ⟨(off x (List.mem_append_left _ (by simpa using hx))).1, .inl (by simpa using hx)⟩⟩, fh⟩⟩ h2 fun z zs' w' H' F' h3 c6 => ?_
  obtain ⟨s1, q⟩ := Cf.frame (σ' := []) (env' := []) g1 ⟨g2, h2'⟩ nd off fh c6.st c6.cf
  have c7 : At K A F0 H0 H' F' ([.ref b] ++ ([w'] ++ (ws0.eraseIdx j ++ [.ref a]))) ([.n .lst zs'] ++ ([z] ++ (xs.eraseIdx j ++ [.n (.ext fun _ => o) []]))) σ e2 := c5'.on s1 q
  have ll : (xs.eraseIdx j).length = (ws0.eraseIdx j).length := by
    have q := c7.cf.len
    simp at q
    exact q
  have c8 : At K A F0 H0 H' F' ([.ref b] ++ (ws0.eraseIdx j ++ ([.ref a] ++ [w']))) ([.n .lst zs'] ++ (xs.eraseIdx j ++ ([.n (.ext fun _ => o) []] ++ [z]))) σ e2 := by
    have q1 := At.blocks (v1 := [.ref b]) (x1 := [.n .lst zs']) (v2 := [w']) (x2 := [z]) rfl rfl c7
    have q2 := At.app_comm (vs1 := [w']) (xs1 := [z]) rfl q1
    simpa [List.append_assoc] using q2
  have c9 := At.swapIn (ws := ws0) (xs := xs) (vs := [.ref a] ++ [w']) (ys := [.n (.ext fun _ => o) []] ++ [z]) c8 l0 hw
  have c10 := At.blocks (v1 := ws0) (x1 := xs.set j (.n .lst zs')) (v2 := [.ref a]) (x2 := [.n (.ext fun _ => o) []]) (by simp [l0]) rfl c9
  have c11 := At.join1 (s := s) (ws := ws0) (vs := [w']) (xs := xs.set j (.n .lst zs')) (ys := [z]) c10 eo (by simp [l0])
  exact k _ _ _ _ F' h3 (c11.put hv)
theorem se_mtK {name : Str} {r : V → List V → Hp → VK → Prop} {mm : MM} (hu : X.A.units + 1 < cLine) (slot : Slot "list" name id) (hty : typeOf (.builtin id) = pure (.type "method_descriptor")) (hm : MtR X id r) (hl : MtL X.K r mm) (h : PE X o (tVar i)) (hk : SE X b tk) (hs' : PlainIx b) (ha : SA X (e :: es) tr)
    (hbase : attributeBase (.Subscript o b p2) name X.env (eval (.Subscript o b p2) X.env) = eval (.Subscript o b p2) X.env := by rfl)
    (hfew : ((backTo cpos (starEach (e :: es) X.env)).all (fun x => !x.1) && (backToKw cpos (keywordEach [] X.env)).all (fun x => x.1.isSome)
      && decide ((e :: es).length + ([] : List Keyword).length + (if ([] : List Keyword).isEmpty then 0 else 1) < 30)) = true := by rfl)
    (hline : (apos.endLine == cpos.line) = true := by rfl) (hs : starEach (e :: es) X.env = (false, eval e X.env) :: starEach es X.env := by rfl) (hplain : (backTo cpos (starEach es X.env)).any (·.1) = false := by rfl) :
    SE X (.Call (.Attribute (.Subscript o b p2) name apos) (e :: es) [] cpos) (aMtK i tk mm tr) :=
  peTo (pe_bm PySem.F.plainAttrs_list slot hty hm (pe_ix (ix_seq.or (ix_dk hu)) h hk hs') ha hbase hfew hline hs hplain) fun σ H Q ⟨A, F, env, R, c, h, k⟩ => by
    obtain ⟨h0, h⟩ := h
    obtain ⟨v, hv⟩ := getSome c h0
    refine ⟨v, hv, ev c h fun y e1 u H2 F2 h2 c2 => ?_⟩
    split at h2
    · rename_i s xs ex
      split at h2
      · rename_i j ej
        split at h2
        · rename_i zs ez
          obtain ⟨v', hv', c3⟩ := c2.pop.take ex
          rw [hv] at hv'
          cases hv'
          obtain ⟨a, ws, ex', w, rfl, hs, l, hw, ty, la⟩ := mtK_core hl hv (kix_plain ej) ez c3 h2 k
          exact kix_ix hs ej l c2 hw ⟨ty, la⟩
        · exact h2.elim
      · exact h2.elim
    · exact h2.elim
theorem se_mtK0 {name : Str} {r : V → List V → Hp → VK → Prop} {mm : MM} (hu : X.A.units + 1 < cLine) (slot : Slot "list" name id) (hty : typeOf (.builtin id) = pure (.type "method_descriptor")) (hm : MtR X id r) (hl : MtL X.K r mm) (h : PE X o (tVar i)) (hk : SE X b tk) (hs' : PlainIx b)
    (hbase : attributeBase (.Subscript o b p2) name X.env (eval (.Subscript o b p2) X.env) = eval (.Subscript o b p2) X.env := by rfl) (hline : (apos.endLine == cpos.line) = true := by rfl) :
    SE X (.Call (.Attribute (.Subscript o b p2) name apos) [] [] cpos) (aMtK i tk mm aNil) :=
  peTo (pe_bm0 PySem.F.plainAttrs_list slot hty hm (pe_ix (ix_seq.or (ix_dk hu)) h hk hs') hbase hline) fun σ H Q ⟨A, F, env, R, c, h, k⟩ => by
    obtain ⟨h0, h⟩ := h
    obtain ⟨v, hv⟩ := getSome c h0
    refine ⟨v, hv, ev c h fun y e1 u H2 F2 h2 c2 => ?_⟩
    split at h2
    · rename_i s xs ex
      split at h2
      · rename_i j ej
        split at h2
        · rename_i zs ez
          obtain ⟨v', hv', c3⟩ := c2.pop.take ex
          rw [hv] at hv'
          cases hv'
          obtain ⟨a, ws, ex', w, rfl, hs, l, hw, ty, la⟩ := mtK_core (t := aNil) hl hv (kix_plain ej) ez c3 h2 k
          refine kix_ix hs ej l c2 hw ⟨ty, ?_⟩
          obtain ⟨A', F', env', R', c', h', k'⟩ := la
          exact k' _ _ _ _ _ h' c'
        · exact h2.elim
      · exact h2.elim
    · exact h2.elim
end
end Ow

/-! Comprehensions of two fors. -/
namespace Ow
open PySem L2 Grd PyProof.Rows
open Evl (Ex ex_t ex_l ex_rd)
def lcI (tg : Tg) (tt : AT) (te : AE) (vs : List Nat) (Q : List OV → En → Prop) : List PyData → List OV → En → Prop
  | [], acc, e => Q acc e
  | d :: ds, acc, e => match tgSet tg (.d d) e with
    | some e1 => tt e1 fun b e2 => if b = true then te e2 fun y e3 => acc.length < sizeLine ∧ lcI tg tt te vs Q ds (acc ++ [y]) (wipeE e3 vs) else lcI tg tt te vs Q ds acc (wipeE e2 vs)
    | none => False
def lc2W (tg : Tg) (tt : AT) (it1 : AI) (tg1 : Tg) (tt1 : AT) (te : AE) (vs vs1 : List Nat) (Q : OV → En → Prop) : List PyData → List OV → En → Prop
  | [], acc, e => Q (.n .lst acc) e
  | d :: ds, acc, e => match tgSet tg (.d d) e with
    | some e1 => tt e1 fun b e2 => if b = true then it1 e2 fun ds1 e3 => lcI tg1 tt1 te vs1 (fun acc' e4 => lc2W tg tt it1 tg1 tt1 te vs vs1 Q ds acc' (wipeE e4 vs)) ds1 acc (wipeE e3 vs1) else lc2W tg tt it1 tg1 tt1 te vs vs1 Q ds acc (wipeE e2 vs)
    | none => False
def aLc2 (it : AI) (tg : Tg) (tt : AT) (it1 : AI) (tg1 : Tg) (tt1 : AT) (te : AE) (vs vs1 : List Nat) : AE := fun env Q => it env fun ds e => lc2W tg tt it1 tg1 tt1 te vs vs1 Q ds [] (wipeE e vs)
theorem eviF {K : PySem.W.Frag} {A : Addr → Prop} {F0 F : FS} {H0 H : Hp} {vs : List V} {xs : List OV} {σ : L2.St} {env : En} {t : AI} {R : List PyData → En → Prop} {Q : It → Hp → Prop} (c : At K A F0 H0 H F vs xs σ env) (h : t env R)
    (k : ∀ ds env' J H' F', R ds env' → At K A F0 H0 H' F' vs xs σ env' → Iter K H' F' J ds → Q J H') : LI K t σ H Q := by
  obtain ⟨a1, a2, h1, nd, off, c2⟩ := startE c
  refine ⟨_, F, env, R, c2, h, fun ds env' J H' F' r b i => k ds env' J H' F' r ?_ i⟩
  obtain ⟨s, z⟩ := frameE (vs' := []) (xs' := []) h1 nd off b.st b.cf
  exact c.on s z
theorem le_lc2 {K : PySem.W.Frag} {it it1 : AI} {g g1 : TG} {tg tg1 : Tg} {tt tt1 : AT} {te : AE} {vs vs1 : List Nat} (hG : Gt K g tg) (hsub : ∀ i ∈ tg.slots, i ∈ vs) (hG1 : Gt K g1 tg1) (hsub1 : ∀ i ∈ tg1.slots, i ∈ vs1) :
    ∀ σ H Q, LE K (aLc2 it tg tt it1 tg1 tt1 te vs vs1) σ H Q → tLc2 (LI K it) g (LT K tt) (LI K it1) g1 (LT K tt1) (LE K te) vs vs1 σ H Q :=
  fun σ H Q ⟨A, F, env, R, c, h, k⟩ => evi c h fun ds e1 J H1 F1 h1 c1 it0 => fun D hD => by
    let W : Nat → Nat → Hp → Prop := fun i m H' => m = ds.length - i ∧ i ≤ ds.length ∧ ∃ F' e0 acc, At K (nxt A H) F1 H1 H' F' [.ref D] [.n .lst acc] (wipe σ vs) (wipeE e0 vs) ∧ lc2W tg tt it1 tg1 tt1 te vs vs1 R (ds.drop i) acc (wipeE e0 vs)
    have c0 : At K (nxt A H) F1 H1 (upd H1 D (.lst [])) F1 [.ref D] [.n .lst []] (wipe σ vs) (wipeE e1 vs) := At.make (us := []) (ys := []) (s := .lst) (c1.re1.wipes vs) rfl hD ⟨upd_same, rfl⟩
    refine ⟨W, ⟨ds.length, by simp, Nat.zero_le _, F1, e1, [], c0, h1⟩, fun i m H2 w => ?_⟩
    obtain ⟨rfl, hi, F2, e2, acc, c2, h2⟩ := w
    obtain ⟨go, stop⟩ := it0.run c2.st.fr c2 i
    by_cases lt : i < ds.length
    · have hd : ds[i]? = some ds[i] := List.getElem?_eq_getElem lt
      obtain ⟨g1', g2'⟩ := go _ hd
      rw [List.drop_eq_getElem_cons lt] at h2
      refine .inr ⟨g1', W (i + 1) (ds.length - (i + 1)), fun H' w => ⟨_, by omega, w⟩, fun x H3 y => ?_⟩
      obtain ⟨F3, c3⟩ := g2' x H3 y
      unfold lc2W at h2
      split at h2
      · rename_i e3 q
        refine hG.run c3 q fun σ3 H3' F3' b c4 => ?_
        have ws : wipe σ3 vs = wipe σ vs := (wipe_but (b.mono hsub)).trans (wipe_but (but_wipe vs σ))
        refine ⟨ws, evt c4 h2 fun bo e4 H4 F4 h4 c5 => ?_⟩
        split
        · rename_i z
          rw [if_pos z] at h4
          refine eviF c5 h4 fun ds1 e5 J1 H5 F5 h5 c6 it1' => ?_
          let W1 : Nat → Nat → Hp → Prop := fun i1 m H' => m = ds1.length - i1 ∧ i1 ≤ ds1.length ∧ ∃ F' e0 acc, (At K (nxt A H) F1 H1 H' F' [.ref D] [.n .lst acc] (wipe σ3 vs1) (wipeE e0 vs1) ∧ Ex (rs H5 F5) (rs H' F')) ∧
            lcI tg1 tt1 te vs1 (fun acc' e4 => lc2W tg tt it1 tg1 tt1 te vs vs1 R (ds.drop (i + 1)) acc' (wipeE e4 vs)) (ds1.drop i1) acc (wipeE e0 vs1)
          refine ⟨W1, ⟨ds1.length, by simp, Nat.zero_le _, F5, e5, acc, ⟨c6.wipes vs1, Ex.refl _⟩, h5⟩, fun i1 m1 H6 w1 => ?_⟩
          obtain ⟨rfl, hi1, F6, e6, acc6, ⟨c7, ex7⟩, h6⟩ := w1
          obtain ⟨go1, stop1⟩ := it1'.run ex7 c7 i1
          by_cases lt1 : i1 < ds1.length
          · have hd1 : ds1[i1]? = some ds1[i1] := List.getElem?_eq_getElem lt1
            obtain ⟨p1, p2⟩ := go1 _ hd1
            rw [List.drop_eq_getElem_cons lt1] at h6
            refine .inr ⟨p1, W1 (i1 + 1) (ds1.length - (i1 + 1)), fun H' w => ⟨_, by omega, w⟩, fun x1 H7 y1 => ?_⟩
            -- what is fixed stays, from here on
            obtain ⟨_, p2r⟩ := (it1'.run ex7 c7.re1 i1).1 _ hd1
            obtain ⟨F7, c8⟩ := p2r x1 H7 y1
            have ex8 : Ex (rs H5 F5) (rs H7 F7) := ex7.trans c8.st.fr
            have c8' := c7.on c8.st c8.cf
            unfold lcI at h6
            split at h6
            · rename_i e7 q7
              refine hG1.run c8'.re1 q7 fun σ4 H8 F8 b4 c9 => ?_
              have ex9 : Ex (rs H5 F5) (rs H8 F8) := ex8.trans c9.st.fr
              have ws1 : wipe σ4 vs1 = wipe σ3 vs1 := (wipe_but (b4.mono hsub1)).trans (wipe_but (but_wipe vs1 σ3))
              refine ⟨ws1, evt c9.re1 h6 fun bo1 e8 H9 F9 h9 c10 => ?_⟩
              have ex10 : Ex (rs H5 F5) (rs H9 F9) := ex9.trans c10.st.fr
              have b10 := c8'.on (c9.on c10.st c10.cf).st (c9.on c10.st c10.cf).cf
              split
              · rename_i z1
                rw [if_pos z1] at h9
                refine ev b10.re1 h9 fun y e9 u H10 F10 h10 c11 => ?_
                have ex11 : Ex (rs H5 F5) (rs H10 F10) := ex10.trans c11.st.fr
                have b11 := b10.on c11.st c11.cf
                obtain ⟨accV, ex', ⟨hH, rfl⟩, lw, _, mk⟩ := b11.swap.mut
                obtain ⟨accV2, ex2, ⟨hH2, rfl⟩, lw2, _, mk2⟩ := b11.swap.re1.mut
                refine ⟨accV, hH, by rw [← lw]; exact h10.1, rfl, lt1, F10, e9, acc6 ++ [y], ?_, h10.2⟩
                have eq : accV2 = accV := by rw [hH] at hH2; cases hH2; rfl
                subst eq
                have q := mk .lst (.lst (accV2 ++ [u])) (accV2.zip acc6 ++ [(u, y)]) [] [] ⟨by rw [upd_same]; simp [fsts, List.map_fst_zip (show accV2.length ≤ acc6.length by omega)], rfl⟩ (by simp)
                have q2 := mk2 .lst (.lst (accV2 ++ [u])) (accV2.zip acc6 ++ [(u, y)]) [] [] ⟨by rw [upd_same]; simp [fsts, List.map_fst_zip (show accV2.length ≤ acc6.length by omega)], rfl⟩ (by simp)
                simp only [snds, List.map_append, List.map_snd_zip (show acc6.length ≤ accV2.length by omega), List.map_cons, List.map_nil] at q
                rw [← ws1]
                exact ⟨At.wipes q vs1, ex11.trans q2.st.fr⟩
              · rename_i z1
                rw [if_neg z1] at h9
                refine ⟨rfl, lt1, F9, e8, acc6, ⟨?_, ex10⟩, h9⟩
                rw [← ws1]
                exact At.wipes b10 vs1
            · exact h6.elim
          · have e : i1 = ds1.length := by omega
            subst e
            rw [List.drop_length] at h6
            refine .inl ⟨stop1 rfl, rfl, lt, F6, wipeE e6 vs1, acc6, ?_, h6⟩
            rw [← ws]
            exact At.wipes c7.unwipe vs
        · rename_i z
          rw [if_neg z] at h4
          refine ⟨rfl, lt, F4, e4, acc, ?_, h4⟩
          rw [← ws]
          exact At.wipes c5 vs
      · exact h2.elim
    · have e : i = ds.length := by omega
      subst e
      rw [List.drop_length] at h2
      have c3 := c2.unwipe
      exact .inl ⟨stop rfl, k _ _ _ _ _ h2 (c1.on c3.st c3.cf)⟩
section
variable {X : Cx} {pn : List (Nat × V)} {elt tg' iter tg1' iter1 : Expr} {ifs ifs1 : List Expr} {scope : Scope} {own : List (Str × Nat)} {vs1 : List Nat} {it it1 : AI} {g g1 : TG} {tg tg1 : Tg} {tt tt1 : AT} {te : AE} {pos : Pos}
theorem se_lc2 (hc : X.calm = true) (hN : X.N.Nodup) (hi : SI X tg' iter it) (ok : BlkOk X.N X.env.scope scope own) (hv : ∀ i ∈ vs1, i ∈ own.map (·.2)) (hG : Gt X.K g tg) (hsub : ∀ i ∈ tg.slots, i ∈ own.map (·.2)) (hG1 : Gt X.K g1 tg1) (hsub1 : ∀ i ∈ tg1.slots, i ∈ vs1)
    (hg : ∀ (s : Shared) (H : Hp) (C : Addr) (cl : List (Str × Addr)) (fp : List Addr), PG (X.blk s H scope (compEnvC scope cl C X.env) fp) tg' g) (ht : ∀ (s : Shared) (H : Hp) (C : Addr) (cl : List (Str × Addr)) (fp : List Addr), STs (X.blk s H scope (compEnvC scope cl C X.env) fp) ifs tt)
    (hi1 : ∀ (s : Shared) (H : Hp) (C : Addr) (cl : List (Str × Addr)) (fp : List Addr), SI (X.blk s H scope (compEnvC scope cl C X.env) fp) tg1' iter1 it1)
    (hg1 : ∀ (s : Shared) (H : Hp) (C : Addr) (cl : List (Str × Addr)) (fp : List Addr), PG (X.blk s H scope (compEnvC scope cl C X.env) fp) tg1' g1) (ht1 : ∀ (s : Shared) (H : Hp) (C : Addr) (cl : List (Str × Addr)) (fp : List Addr), STs (X.blk s H scope (compEnvC scope cl C X.env) fp) ifs1 tt1)
    (he : ∀ (s : Shared) (H : Hp) (C : Addr) (cl : List (Str × Addr)) (fp : List Addr), SE (X.blk s H scope (compEnvC scope cl C X.env) fp) elt te) (hs : ∀ x, foldedSetIterable iter X.env x = pure x := by intro _; rfl) (hs1 : ∀ env x, foldedSetIterable iter1 env x = pure x := by intro _ _; rfl) :
    SE X (.ListComp elt [⟨tg', iter, ifs, 0⟩, ⟨tg1', iter1, ifs1, 0⟩] scope pos) (aLc2 it tg tt it1 tg1 tt1 te (own.map (·.2)) vs1) :=
  peTo (pe_lc2 (tt := LT X.K tt) (tt1 := LT X.K tt1) (wi1 := LI X.K it1) (te := LE X.K te) hc hN hi ok hv hg ht hi1 hg1 ht1 he hs hs1) (le_lc2 hG hsub hG1 hsub1)
theorem ss_setLc2 {i : Nat} {y : Str} {py spos : Pos} (hc : X.calm = true) (hN : X.N.Nodup) (hy : X.N[i]? = some y) (hyl : X.env.scope.names.lookup y = some .local)
    (hsw : swapsWith (.ListComp elt [⟨tg', iter, ifs, 0⟩, ⟨tg1', iter1, ifs1, 0⟩] scope pos) (some (.Name y py)) spos.line X.env = pure true) (hi : SI X tg' iter it) (ok : BlkOk X.N X.env.scope scope own) (hv : ∀ i ∈ vs1, i ∈ own.map (·.2)) (hG : Gt X.K g tg) (hsub : ∀ i ∈ tg.slots, i ∈ own.map (·.2)) (hG1 : Gt X.K g1 tg1) (hsub1 : ∀ i ∈ tg1.slots, i ∈ vs1) (hp : ∀ p ∈ pn, p.1 ≠ i)
    (hg : ∀ (s : Shared) (H : Hp) (C : Addr) (cl : List (Str × Addr)) (fp : List Addr), PG (X.blk s H scope (compEnvC scope cl C X.env) fp) tg' g) (ht : ∀ (s : Shared) (H : Hp) (C : Addr) (cl : List (Str × Addr)) (fp : List Addr), STs (X.blk s H scope (compEnvC scope cl C X.env) fp) ifs tt)
    (hi1 : ∀ (s : Shared) (H : Hp) (C : Addr) (cl : List (Str × Addr)) (fp : List Addr), SI (X.blk s H scope (compEnvC scope cl C X.env) fp) tg1' iter1 it1)
    (hg1 : ∀ (s : Shared) (H : Hp) (C : Addr) (cl : List (Str × Addr)) (fp : List Addr), PG (X.blk s H scope (compEnvC scope cl C X.env) fp) tg1' g1) (ht1 : ∀ (s : Shared) (H : Hp) (C : Addr) (cl : List (Str × Addr)) (fp : List Addr), STs (X.blk s H scope (compEnvC scope cl C X.env) fp) ifs1 tt1)
    (he : ∀ (s : Shared) (H : Hp) (C : Addr) (cl : List (Str × Addr)) (fp : List Addr), SE (X.blk s H scope (compEnvC scope cl C X.env) fp) elt te) (hs : ∀ x, foldedSetIterable iter X.env x = pure x := by intro _; rfl) (hs1 : ∀ env x, foldedSetIterable iter1 env x = pure x := by intro _ _; rfl) :
    SS X pn (.Assign [.Name y py] (.ListComp elt [⟨tg', iter, ifs, 0⟩, ⟨tg1', iter1, ifs1, 0⟩] scope pos) spos) (aAsg (aLc2 it tg tt it1 tg1 tt1 te (own.map (·.2)) vs1) (.n i)) :=
  psTo (ps_setLc2 (tt := LT X.K tt) (tt1 := LT X.K tt1) (wi1 := LI X.K it1) (te := LE X.K te) hc hN hy hyl hsw hi ok hv hg ht hi1 hg1 ht1 he hs hs1) fun D σ H ⟨A, F, env, D', p, c, h, ed⟩ => le_lc2 hG hsub hG1 hsub1 _ _ _ (ev c h fun x e1 v H1 F1 h1 c1 => by
    split at h1
    · rename_i e2 q
      exact (gt_name i).run c1 q fun σ' H' F' b c2 => ed.nx _ _ _ _ h1 (p.but b fun p hp' => by simpa [Tg.slots] using hp p hp') c2
    · exact h1.elim)
end
end Ow

/-! The later meanings, where they are applied; how they are gone through. -/
namespace Ow
open PySem L2 Grd PyProof.Rows
theorem e_aIxK (i : Nat) (tb : AE) (env : En) (Q : OV → En → Prop) : aIxK i tb env Q = ((match env[i]? with | some (some _) => True | _ => False) ∧ tb env fun y e => match e[i]? with
  | some (some (.d x)) => oIx (.d x) y fun z => Q z e
  | some (some (.n s xs)) => match kix s xs.length y with
    | some j => match xs[j]? with
      | some (.d d) => Q (.d d) e
      | some o => match frz o with
        | some d => Q (.d d) (e.set i (some (.n s (xs.set j (.d d)))))
        | none => False
      | none => False
    | none => False
  | _ => False) := rfl
theorem e_aDGet (i : Nat) (tk td : AE) (env : En) (Q : OV → En → Prop) : aDGet i tk td env Q = ((match env[i]? with | some (some (.n (.dic _) _)) => True | _ => False) ∧ tk env fun y e1 => td e1 fun z e2 => match e2[i]? with
  | some (some (.n (.dic ks) xs)) => match keyO y with
    | some k => match dix ks k with
      | some j => match xs[j]? with
        | some (.d d) => Q (.d d) e2
        | some o => match frz o with
          | some d => Q (.d d) (e2.set i (some (.n (.dic ks) (xs.set j (.d d)))))
          | none => False
        | none => False
      | none => Q z e2
    | none => False
  | _ => False) := rfl
theorem e_aGetE (te tk td : AE) (env : En) (Q : OV → En → Prop) : aGetE te tk td env Q = (te env fun x e1 => match x with
  | .n (.dic ks) xs => tk e1 fun y e2 => td e2 fun z e3 => match keyO y with
    | some k => match dix ks k with
      | some j => match xs[j]? with
        | some o => Q o e3
        | none => False
      | none => Q z e3
    | none => False
  | _ => False) := rfl
theorem e_aDPut (i : Nat) (tv tk : AE) (D : AD) (env : En) : aDPut i tv tk D env = (tv env fun x e1 => (match e1[i]? with | some (some (.n (.dic _) _)) => True | _ => False) ∧ tk e1 fun y e2 => match e2[i]? with
  | some (some (.n (.dic ks) xs)) => match keyO y with
    | some k => (ks.Nodup ∧ xs.length < sizeLine) ∧ D.nx (e2.set i (some (dput ks xs k x)))
    | none => False
  | _ => False) := rfl
theorem e_aDCopy (i : Nat) (env : En) (Q : OV → En → Prop) : aDCopy i env Q = (match env[i]? with
  | some (some (.n (.dic ks) xs)) => match dats xs with
    | some ds => Q (.n (.dic ks) (ds.map .d)) env
    | none => False
  | _ => False) := rfl
theorem e_aDNew (env : En) (Q : OV → En → Prop) : aDNew env Q = Q (.n (.dic []) []) env := rfl
theorem e_aDisp (prs : List (AE × AE)) (env : En) (Q : OV → En → Prop) : aDisp prs env Q = (aPrs prs env fun ps e => ((ps.map Prod.fst).Nodup ∧ ps.length ≤ 15) ∧ Q (.n (.dic (ps.map Prod.fst)) (ps.map Prod.snd)) e) := rfl
theorem e_aPrs0 (e : En) (Q : List (Key × OV) → En → Prop) : aPrs [] e Q = Q [] e := rfl
theorem e_aPrs1 (tk tv : AE) (r : List (AE × AE)) (e : En) (Q : List (Key × OV) → En → Prop) : aPrs ((tk, tv) :: r) e Q = (tk e fun y e1 => match keyO y with
    | some k => tv e1 fun x e2 => aPrs r e2 fun ps e3 => Q ((k, x) :: ps) e3
    | none => False) := rfl
theorem e_aListZip (ta tb : AE) (env : En) (Q : OV → En → Prop) : aListZip ta tb env Q = (ta env fun x e1 => tb e1 fun y e2 => match sfd x, sfd y with
  | some xs, some ys => xs.length ≤ sizeLine ∧ Q (.n .lst ((zipD xs ys).map .d)) e2
  | _, _ => False) := rfl
theorem e_aSortedSc (it : AI) (tg : Tg) (tt : AT) (te : AE) (vs : List Nat) (env : En) (Q : OV → En → Prop) : aSortedSc it tg tt te vs env Q = (it env fun ds e => scW tg tt te vs (fun l e2 => ∀ ss : List Str, ss.Perm l → sortedS ss = true → Q (.n .lst ((ss.map PyData.str).map .d)) e2) ds [] (wipeE e vs)) := rfl
theorem e_aSortedSet (te : AE) (env : En) (Q : OV → En → Prop) : aSortedSet te env Q = (te env fun x e => match lst x with
  | some ss => ss.length < 4000 ∧ ∀ us : List Str, us.Nodup → (∀ x, x ∈ us ↔ x ∈ ss) → sortedS us = true → Q (.n .lst ((us.map PyData.str).map .d)) e
  | none => False) := rfl
theorem e_aLc2 (it : AI) (tg : Tg) (tt : AT) (it1 : AI) (tg1 : Tg) (tt1 : AT) (te : AE) (vs vs1 : List Nat) (env : En) (Q : OV → En → Prop) : aLc2 it tg tt it1 tg1 tt1 te vs vs1 env Q = (it env fun ds e => lc2W tg tt it1 tg1 tt1 te vs vs1 Q ds [] (wipeE e vs)) := rfl
theorem e_aMtK (i : Nat) (tk : AE) (mm : MM) (t : AA) (env : En) (Q : OV → En → Prop) : aMtK i tk mm t env Q = ((match env[i]? with | some (some _) => True | _ => False) ∧ tk env fun y e1 => match e1[i]? with
  | some (some (.n s xs)) => match kix s xs.length y with
    | some j => match xs[j]? with
      | some (.n .lst zs) => t (e1.set i none) fun args e2 => mm zs args fun z zs' => Q z (e2.set i (some (.n s (xs.set j (.n .lst zs')))))
      | _ => False
    | none => False
  | _ => False) := rfl
theorem kix_l (n : Nat) (k : Int) : kix .lst n (.d (.int k)) = ixN n k := rfl
theorem kix_d (ks : List Key) (n : Nat) (y : OV) : kix (.dic ks) n y = (keyO y).bind (dix ks) := rfl
theorem keyO_s (x : Str) : keyO (.d (.str x)) = some (.inr x) := rfl
theorem keyO_i (x : Int) : keyO (.d (.int x)) = some (.inl x) := rfl
/-- a set of texts told by a for, of data that are texts -/
theorem sc_texts {tg : Tg} {tt : AT} {te : AE} {vs : List Nat} {Q : List Str → En → Prop} {e0 : En} (step : ∀ (s : Str) (lim : Prop) (K : Option Str → En → Prop), lim → K (some s) e0 →
      match tgSet tg (.d (.str s)) e0 with
      | some e1 => tt e1 fun b e2 => if b = true then te e2 fun y e3 => (match y with | .d (.str z) => lim ∧ K (some z) (wipeE e3 vs) | _ => False) else K none (wipeE e2 vs)
      | none => False) : ∀ (ss acc : List Str), acc.Nodup → acc.length + ss.length < 4000 → (∀ l, l.Nodup → (∀ x, x ∈ l ↔ x ∈ acc ∨ x ∈ ss) → Q l e0) → scW tg tt te vs Q (ss.map PyData.str) acc e0
  | [], acc, nd, hl, q => q acc nd fun x => by simp
  | s :: ss, acc, nd, hl, q => by
    have g := step s (acc.length + 1 < scanBound) (fun o e => match o with | some z => scW tg tt te vs Q (ss.map PyData.str) (addT acc z) e | none => scW tg tt te vs Q (ss.map PyData.str) acc e) (by have : scanBound = 4096 := rfl; simp at hl; omega) (sc_texts step ss (addT acc s) (addT_nodup nd s) (by have := addT_len acc s; simp at hl; omega) fun l ln lm => q l ln fun x => by
      rw [lm x, addT_mem, List.mem_cons]
      constructor
      · rintro ((h | h) | h)
        · exact .inl h
        · exact .inr (.inl h)
        · exact .inr (.inr h)
      · rintro (h | h | h)
        · exact .inl (.inl h)
        · exact .inl (.inr h)
        · exact .inr h)
    exact g
/-- two fors, where nothing else is changed: ws d tells what is gone through for d, f d what comes of it -/
theorem lcI_run {tg : Tg} {tt : AT} {te : AE} {vs : List Nat} {Q : List OV → En → Prop} (f : PyData → Option OV) (e0 : En) : ∀ (ds : List PyData) (acc : List OV),
    (∀ d ∈ ds, ∀ (lim : Prop) (K : Option OV → En → Prop), lim → K (f d) e0 →
      match tgSet tg (.d d) e0 with
      | some e1 => tt e1 fun b e2 => if b = true then te e2 fun y e3 => lim ∧ K (some y) (wipeE e3 vs) else K none (wipeE e2 vs)
      | none => False) → acc.length + ds.length ≤ sizeLine → Q (acc ++ ds.filterMap f) e0 → lcI tg tt te vs Q ds acc e0
  | [], acc, _, _, q => by simpa [lcI] using q
  | d :: ds, acc, st, hl, q => by
    simp only [List.length_cons] at hl
    have g := st d (by simp) (acc.length < sizeLine) (fun o e => match o with | some y => lcI tg tt te vs Q ds (acc ++ [y]) e | none => lcI tg tt te vs Q ds acc e) (by omega) (by
      cases ef : f d with
      | none => exact lcI_run f e0 ds acc (fun d hd => st d (by simp [hd])) (by omega) (by simpa [ef] using q)
      | some y => exact lcI_run f e0 ds (acc ++ [y]) (fun d hd => st d (by simp [hd])) (by simp; omega) (by simpa [ef] using q))
    exact g
theorem nodup_len : ∀ {l m : List Str}, l.Nodup → (∀ x ∈ l, x ∈ m) → l.length ≤ m.length
  | [], m, _, _ => Nat.zero_le _
  | x :: l, m, nd, sub => by
    obtain ⟨n1, n2⟩ := List.nodup_cons.mp nd
    have hx := sub x List.mem_cons_self
    have p := List.perm_cons_erase hx
    have le := p.length_eq
    have ih := nodup_len (m := m.erase x) n2 fun y hy => (List.mem_erase_of_ne (fun (e : y = x) => n1 (e ▸ hy))).mpr (sub y (List.mem_cons_of_mem _ hy))
    simp only [List.length_cons] at le ⊢
    omega
end Ow

/-! name = {k: v for ..} on one line, the name a local -/
namespace Grd
open PySem L2
section
variable {X : Cx}
theorem ps_setDc {i : Nat} {y : Str} {py : Pos} {kx vx tg iter : Expr} {ifs : List Expr} {scope : Scope} {own : List (Str × Nat)} {pos spos : Pos} {wi : TI} {g : TG} {tt : TT} {tk tv : TE}
    (hc : X.calm = true) (hN : X.N.Nodup) (hy : X.N[i]? = some y) (hyl : X.env.scope.names.lookup y = some .local)
    (hsw : swapsWith (.DictComp kx vx [⟨tg, iter, ifs, 0⟩] scope pos) (some (.Name y py)) spos.line X.env = pure true)
    (hi : PI X tg iter wi) (ok : BlkOk X.N X.env.scope scope own)
    (hg : ∀ (s : Shared) (H : Hp) (C : Addr) (cl : List (Str × Addr)) (fp : List Addr), PG (X.blk s H scope (compEnvC scope cl C X.env) fp) tg g)
    (ht : ∀ (s : Shared) (H : Hp) (C : Addr) (cl : List (Str × Addr)) (fp : List Addr), PTs (X.blk s H scope (compEnvC scope cl C X.env) fp) ifs tt)
    (hk : ∀ (s : Shared) (H : Hp) (C : Addr) (cl : List (Str × Addr)) (fp : List Addr), PE (X.blk s H scope (compEnvC scope cl C X.env) fp) kx tk)
    (he : ∀ (s : Shared) (H : Hp) (C : Addr) (cl : List (Str × Addr)) (fp : List Addr), PE (X.blk s H scope (compEnvC scope cl C X.env) fp) vx tv)
    (hs : ∀ x, foldedSetIterable iter X.env x = pure x := by intro _; rfl) :
    PS X (.Assign [.Name y py] (.DictComp kx vx [⟨tg, iter, ifs, 0⟩] scope pos) spos) (tAsg (tDc wi g tt tk tv (own.map (·.2))) (gName i)) := by
  constructor
  intro pins s σ H D I h
  have hh : tDc wi g tt tk tv (own.map (·.2)) σ H (fun x H1 => gName i x σ H1 D.nx) := h
  rw [exec_Assign_Name_used _ _ _ _ hsw]
  refine wpAny_bind (wpAny_standAt (wpAny_bind ?_))
  show wpAny _ X.A (do
    let _ ← comprehension (.DictComp kx vx [⟨tg, iter, ifs, 0⟩] scope pos) scope X.env (firstIterPos [⟨tg, iter, ifs, 0⟩] pos) newDict false (eval iter X.env) (some (assign (.Name y py) X.env))) _ _ s
  refine wpAny_bind (thn (Q := fun _ s' => SP X pins D .next s') ?_ fun _ s' hq => wpAny_pure (wpAny_pure hq))
  refine dc_core hc hN I hi ok hg ht hk he hs hh ?_
  intro L C s' m H' I' q hn f
  show wpAny _ _ (assign (.Name y py) X.env (.ref L)) _ _ _
  refine wpAny_assign_Name (store_ok2 (v := V.ref L) I' hN hy (.inl hyl) rfl ?_ (.inr hyl))
  rintro s2 I2 ⟨a, sb, ha⟩
  obtain ⟨f0, f1, f2, f3, f4, f5⟩ := f
  have nCa : C ≠ a := by
    cases ha with
    | inl z => rw [z]; exact f1
    | inr z => exact fun e => f4 y a z e.symm
  refine ⟨m, hn.sameBut sb nCa, ?_⟩
  intro h3 sb3
  have J := I2.turned (h' := h3) (t' := s2.toks) (fun b o hb e => (sb3.2 b hb).trans e) f0 f1 f3 f4 f5
  exact ⟨_, H', J, q⟩
theorem sw_trueD {kx vx : Expr} {gs : List Comprehension} {scope : Scope} {pos py : Pos} {y : Str} {l : Nat} {env : Env}
    (hk : env.scope.kind = .function) (hy : env.scope.names.lookup y = some .local) (hl : (py.line == pos.line) = true)
    (ha : (scope.names.any fun (n, k) => n == y && (k == .local || k == .cell)) = false) :
    swapsWith (.DictComp kx vx gs scope pos) (some (.Name y py)) l env = pure true := by
  have k1 : env.kindOf y = some .local := hy
  have k2 : env.blockKind = .function := by
    unfold Env.blockKind
    rw [hk]
    rfl
  unfold swapsWith
  simp only [k2, k1, ha, Expr.pos, hl]
  rfl
end
end Grd

/-! name = {k: v for a in x for b in y if ..}, the keys tuples of ints and texts; {k: v}, the key such a tuple -/
namespace L2
open PySem PySem.Spec PyProof.Rows
theorem turnD_out (kx vx t0 i0 t1 i1 : Expr) (ifs1 : List Expr) (scope : Scope) (pos : Pos) (it : Value) (D : Addr) (env : Env) :
    compTurn (.DictComp kx vx [⟨t0, i0, [], 0⟩, ⟨t1, i1, ifs1, 0⟩] scope pos) 0 it (.ref D) env = (do
      standAt i0.pos
      match ← pyNext it with
      | none => pure (.done .next)
      | some v =>
        letOwnedTupleGo t0 it v
        assign t0 env v
        let mut ok := true
        for c in ([] : List Expr) do
          if ok then ok ← isTrue c env (eval c env)
        if ok then
          let x ← eval i1 env
          standAt i1.pos
          let x ← foldedSetIterable i1 env x
          let _ ← runOwn (.compStart (.DictComp kx vx [⟨t0, i0, [], 0⟩, ⟨t1, i1, ifs1, 0⟩] scope pos) 1 (← holding [x] (pyIter x)) (.ref D) env) env
        again (.compLoop (.DictComp kx vx [⟨t0, i0, [], 0⟩, ⟨t1, i1, ifs1, 0⟩] scope pos) 0 it (.ref D) env)) := by rfl
theorem turnD_in (kx vx t0 i0 t1 i1 : Expr) (ifs1 : List Expr) (scope : Scope) (pos : Pos) (it : Value) (D : Addr) (env : Env) :
    compTurn (.DictComp kx vx [⟨t0, i0, [], 0⟩, ⟨t1, i1, ifs1, 0⟩] scope pos) 1 it (.ref D) env = (do
      standAt i1.pos
      match ← pyNext it with
      | none => pure (.done .next)
      | some v =>
        letOwnedTupleGo t1 it v
        assign t1 env v
        let mut ok := true
        for c in ifs1 do
          if ok then ok ← isTrue c env (eval c env)
        if ok then
          (do
            let kv ← eval kx env
            let vv ← holding [kv] (eval vx env)
            standAt { kx.pos with endLine := vx.pos.endLine, endCol := vx.pos.endCol }
            holding [kv, vv] (dictSet D kv vv))
        again (.compLoop (.DictComp kx vx [⟨t0, i0, [], 0⟩, ⟨t1, i1, ifs1, 0⟩] scope pos) 1 it (.ref D) env)) := by rfl
section
variable {prog : Program} {w : World} {A : Around} {R : Result → Shared → Prop} {s : Shared} {kx vx t0 i0 t1 i1 : Expr} {ifs1 : List Expr} {scope : Scope} {pos : Pos} {it : Value} {D : Addr} {env : Env}
theorem loopD_out (hs : ∀ x, foldedSetIterable i1 env x = pure x) (I : Nat → Shared → Prop)
    (turn : ∀ n s, I n s → wpAny (model prog w) A (pyNext it) (fun r s₁ => match r with
      | none => R (.ok .next) s₁
      | some v => wpAny (model prog w) A (letOwnedTupleGo t0 it v) (fun _ s₁' => wpAny (model prog w) A (assign t0 env v) (fun _ s₃ =>
            wpAny (model prog w) A (eval i1 env) (fun x s₄ => wpAny (model prog w) A (pyIter x) (fun it1 s₅ =>
              codeAny (model prog w) A (.compStart (.DictComp kx vx [⟨t0, i0, [], 0⟩, ⟨t1, i1, ifs1, 0⟩] scope pos) 1 it1 (.ref D) env) (fun r s' => match r with
                | .ok _ => ∃ m, m < n ∧ I m s'
                | .error _ => False) s₅) (notedBy (model prog w) A env fun e s' => R (.error e) s') s₄) (notedBy (model prog w) A env fun e s' => R (.error e) s') s₃) (notedBy (model prog w) A env fun e s' => R (.error e) s') s₁') (notedBy (model prog w) A env fun e s' => R (.error e) s') s₁) (notedBy (model prog w) A env fun e s' => R (.error e) s') s)
    (n : Nat) (h : I n s) :
    codeAny (model prog w) A (.compLoop (.DictComp kx vx [⟨t0, i0, [], 0⟩, ⟨t1, i1, ifs1, 0⟩] scope pos) 0 it (.ref D) env) R s := by
  refine codeAny_loop rfl I (fun n s hI => ?_) n h
  show wpAny _ A ((compTurn (.DictComp kx vx [⟨t0, i0, [], 0⟩, ⟨t1, i1, ifs1, 0⟩] scope pos) 0 it (.ref D) env).onRaise (fun x => do noteFrame x env; theTreesLotGoes x)) _ _ s
  refine wpAny_noted ?_
  rw [turnD_out]
  refine wpAny_bind (wpAny_standAt (wpAny_bind (wpAny_mono (turn n s hI) (fun r s₁ h₁ => ?_) fun _ _ h' => h')))
  cases r with
  | none => exact wpAny_pure h₁
  | some v =>
    refine wpAny_bind (wpAny_mono h₁ (fun _ s₁' h₁' => ?_) fun _ _ h' => h')
    refine wpAny_bind (wpAny_mono h₁' (fun _ s₃ h₃ => ?_) fun _ _ h' => h')
    refine wpAny_bind (wpAny_tests_nil ?_)
    refine wpAny_bind (wpAny_mono h₃ (fun x s₄ h₄ => ?_) fun _ _ h' => h')
    refine wpAny_bind (wpAny_standAt (wpAny_bind (wpAny_of_eq (hs x) (wpAny_bind (wpAny_holding (wpAny_mono h₄ (fun it1 s₅ h₅ => ?_) fun _ _ h' => h'))))))
    refine wpAny_bind (wpAny_runOwn ?_)
    rw [Around.mark_none]
    refine codeAny_mono h₅ fun r s' hr => ?_
    cases r with
    | ok f =>
      first
        | exact wpAny_pure ⟨rfl, hr⟩
        | exact wpAny_bind (wpAny_pure (wpAny_pure ⟨rfl, hr⟩))
    | error e => exact hr.elim
theorem loopD_in (I : Nat → Shared → Prop)
    (turn : ∀ n s, I n s → wpAny (model prog w) A (pyNext it) (fun r s₁ => match r with
      | none => R (.ok .next) s₁
      | some v => wpAny (model prog w) A (letOwnedTupleGo t1 it v) (fun _ s₁' => wpAny (model prog w) A (assign t1 env v) (fun _ s₂ =>
          wpAny (model prog w) A (forIn ifs1 true fun c r => if r = true then do let ok ← isTrue c env (eval c env); pure (ForInStep.yield ok) else pure (ForInStep.yield r)) (fun ok s₃ =>
            if ok = true then wpAny (model prog w) A (eval kx env) (fun kv s₄ => wpAny (model prog w) A (eval vx env) (fun vv s₅ =>
              wpAny (model prog w) A (dictSet D kv vv) (fun _ s₆ => ∃ m, m < n ∧ I m s₆) (notedBy (model prog w) A env fun e s' => R (.error e) s') s₅) (notedBy (model prog w) A env fun e s' => R (.error e) s') s₄) (notedBy (model prog w) A env fun e s' => R (.error e) s') s₃
            else ∃ m, m < n ∧ I m s₃) (notedBy (model prog w) A env fun e s' => R (.error e) s') s₂) (notedBy (model prog w) A env fun e s' => R (.error e) s') s₁') (notedBy (model prog w) A env fun e s' => R (.error e) s') s₁) (notedBy (model prog w) A env fun e s' => R (.error e) s') s)
    (n : Nat) (h : I n s) :
    codeAny (model prog w) A (.compLoop (.DictComp kx vx [⟨t0, i0, [], 0⟩, ⟨t1, i1, ifs1, 0⟩] scope pos) 1 it (.ref D) env) R s := by
  refine codeAny_loop rfl I (fun n s hI => ?_) n h
  show wpAny _ A ((compTurn (.DictComp kx vx [⟨t0, i0, [], 0⟩, ⟨t1, i1, ifs1, 0⟩] scope pos) 1 it (.ref D) env).onRaise (fun x => do noteFrame x env; theTreesLotGoes x)) _ _ s
  refine wpAny_noted ?_
  rw [turnD_in]
  refine wpAny_bind (wpAny_standAt (wpAny_bind (wpAny_mono (turn n s hI) (fun r s₁ h₁ => ?_) fun _ _ h' => h')))
  cases r with
  | none => exact wpAny_pure h₁
  | some v =>
    refine wpAny_bind (wpAny_mono h₁ (fun _ s₁' h₁' => ?_) fun _ _ h' => h')
    refine wpAny_bind (wpAny_mono h₁' (fun _ s₂ h₂ => wpAny_bind (wpAny_mono h₂ (fun ok s₃ h₃ => ?_) fun _ _ h' => h')) fun _ _ h' => h')
    cases ok with
    | false => exact wpAny_pure ⟨rfl, h₃⟩
    | true =>
      exact wpAny_bind (wpAny_bind (wpAny_mono h₃ (fun kv s₄ h₄ => wpAny_bind (wpAny_holding (wpAny_mono h₄ (fun vv s₅ h₅ => wpAny_bind (wpAny_standAt (wpAny_holding (wpAny_mono h₅ (fun _ s₆ h₆ => wpAny_pure ⟨rfl, h₆⟩) fun _ _ h' => h')))) fun _ _ h' => h'))) fun _ _ h' => h'))
theorem startD_in (h0 : codeAny (model prog w) A (.compLoop (.DictComp kx vx [⟨t0, i0, [], 0⟩, ⟨t1, i1, ifs1, 0⟩] scope pos) 1 it (.ref D) env) R s)
    (h : wpAny (model prog w) A (pyIter it) (fun it' s' => codeAny (model prog w) A (.compLoop (.DictComp kx vx [⟨t0, i0, [], 0⟩, ⟨t1, i1, ifs1, 0⟩] scope pos) 1 it' (.ref D) env) R s')
      (notedBy (model prog w) A env fun x s' => R (.error x) s') s) :
    codeAny (model prog w) A (.compStart (.DictComp kx vx [⟨t0, i0, [], 0⟩, ⟨t1, i1, ifs1, 0⟩] scope pos) 1 it (.ref D) env) R s := by
  refine codeAny_of_tree ?_
  show wpAny _ _ ((compStart (.DictComp kx vx [⟨t0, i0, [], 0⟩, ⟨t1, i1, ifs1, 0⟩] scope pos) 1 it (.ref D) env).onRaise (fun x => do noteFrame x env; standAt theWindowsPlace)) _ _ s
  refine wpAny_notedAt ?_
  unfold compStart
  show wpAny _ _ (ask >>= _) _ _ s
  refine wpAny_bind (wpAny_askSetting (wpAny_ite ?_))
  split
  · first
      | exact wpAny_bind (wpAny_pure (wpAny_pure (And.intro rfl h0)))
      | exact wpAny_pure (And.intro rfl h0)
  · first
      | exact wpAny_bind (wpAny_rule (wpAny_bind (wpAny_standAt (wpAny_bind (wpAny_mono h (fun it' s' h' => wpAny_pure (And.intro rfl h')) fun _ _ x => x)))))
      | (refine wpAny_bind (wpAny_rule ?_); show wpAny _ _ (standAt i1.pos >>= _) _ _ s; exact wpAny_bind (wpAny_standAt (wpAny_bind (wpAny_mono h (fun it' s' h' => wpAny_pure (And.intro rfl h')) fun _ _ x => x))))
end
section
variable {X : Cx}
/-- d[k] = v by a comprehension, k a tuple -/
theorem d_dictSetT {pins : List (Addr × Obj)} {σ : St} {H : Hp} {s : Shared} {E : Value → Shared → Prop} {D b : Addr} {kvs : List (List Key × V)} {k : List Key} {v : V} {r : Value} {Q : Unit → Shared → Prop} (hu : X.A.units + 1 < cLine) (I : Inv X pins σ H s) (hD : H D = some (.dT kvs)) (hz : kvs.length < sizeLine)
    (eb : H b = some (.tup (k.map kV))) (rv : RelV v r) (h : ∀ s', Inv X pins σ (upd H D (.dT (putK kvs k v))) s' → Q () s') : wpAny (model X.prog X.w) X.A (dictSet D (.ref b) r) Q E s := by
  obtain ⟨z, hd, xs, rel, dd⟩ := dt_of I.hok hD
  have hzv : xs.length ≤ sizeLine := by rw [← Paired.length rel]; exact z
  have hl : (putK kvs k v).length ≤ sizeLine := by have := length_putK kvs k v; omega
  refine wpAny_dictSet_heap (hsz := hzv) (show (tupleKind (mixKind X.prog X.w)).room X.A from Nat.lt_of_le_of_lt (Nat.le_succ _) hu) (key_of I.hok eb) dd fun h' dd' hs => h _ ?_
  obtain ⟨q, es, ep, hq, h2, h3, h4, _, h5⟩ := dd'
  refine d_write I (by rw [hD]; exact True.intro) hs ⟨q, hq⟩ ⟨hl, hd, _, (rel.put k eb rv).keeps fun c ys ec => ?_, q, es, ep, hq, h2, h3, h4, h5⟩
  rw [upd_ne (ne_of ec hD (fun z => nomatch z))]
  exact ec
/-- the two-clause comprehension as a value is made: D the new dict, Nx reached by the second source's own loop; vs: the block's names, vs1: those of the second target -/
def tDc2 (wi : TI) (g : TG) (wi1 : TI) (g1 : TG) (tt1 : TT) (tk tv : TE) (vs vs1 : List Nat) : TE := fun σ H Q => wi σ H fun J H1 => ∀ D, H1 D = none → ∃ W : Nat → Nat → Hp → Prop, (∃ m, W 0 m (upd H1 D (.dT []))) ∧ ∀ i m H, W i m H →
  (J.stop i H ∧ Q (.ref D) H) ∨ (J.go i H ∧ ∃ Nx : Hp → Prop, (∀ H', Nx H' → ∃ m', m' < m ∧ W (i + 1) m' H') ∧ ∀ x H', J.yld i H x H' → g x (wipe σ vs) H' fun σ2 H2 => wipe σ2 vs = wipe σ vs ∧
    wi1 σ2 H2 fun J1 H4 => ∃ W1 : Nat → Nat → Hp → Prop, (∃ m, W1 0 m H4) ∧ ∀ j k H, W1 j k H →
      (J1.stop j H ∧ Nx H) ∨ (J1.go j H ∧ ∃ Nx1 : Hp → Prop, (∀ H', Nx1 H' → ∃ k', k' < k ∧ W1 (j + 1) k' H') ∧ ∀ x H', J1.yld j H x H' → g1 x (wipe σ2 vs1) H' fun σ3 H5 => wipe σ3 vs1 = wipe σ2 vs1 ∧ tt1 σ3 H5 fun b H6 =>
        if b = true then tk σ3 H6 fun y H7 => tv σ3 H7 fun z H8 => ∃ kvs ky b, y = .ref b ∧ H8 b = some (.tup (ky.map kV)) ∧ H8 D = some (.dT kvs) ∧ kvs.length < sizeLine ∧ Nx1 (upd H8 D (.dT (putK kvs ky z))) else Nx1 H6))
theorem dc2_core {pins : List (Addr × Obj)} {s : Shared} {σ : St} {H : Hp} {Q : VK} {kx vx tg iter tg1 iter1 : Expr} {ifs1 : List Expr} {scope : Scope} {own : List (Str × Nat)} {vs1 : List Nat} {pos pos' : Pos} {wi wi1 : TI} {g g1 : TG} {tt1 : TT} {tk tv : TE} {use : Option (Value → Sem Unit)} {Qf : Value → Shared → Prop}
    (hu : X.A.units + 1 < cLine) (hc : X.calm = true) (hN : X.N.Nodup) (I : Inv X pins σ H s) (hi : PI X tg iter wi) (ok : BlkOk X.N X.env.scope scope own) (hv : ∀ i ∈ vs1, i ∈ own.map (·.2))
    (hg : ∀ (s : Shared) (H : Hp) (C : Addr) (cl : List (Str × Addr)) (fp : List Addr), PG (X.blk s H scope (compEnvC scope cl C X.env) fp) tg g) (hk : ∀ (s : Shared) (H : Hp) (C : Addr) (cl : List (Str × Addr)) (fp : List Addr), PE (X.blk s H scope (compEnvC scope cl C X.env) fp) kx tk) (he : ∀ (s : Shared) (H : Hp) (C : Addr) (cl : List (Str × Addr)) (fp : List Addr), PE (X.blk s H scope (compEnvC scope cl C X.env) fp) vx tv) (hs : ∀ x, foldedSetIterable iter X.env x = pure x)
    (hi1 : ∀ (s : Shared) (H : Hp) (C : Addr) (cl : List (Str × Addr)) (fp : List Addr), PI (X.blk s H scope (compEnvC scope cl C X.env) fp) tg1 iter1 wi1) (hg1 : ∀ (s : Shared) (H : Hp) (C : Addr) (cl : List (Str × Addr)) (fp : List Addr), PG (X.blk s H scope (compEnvC scope cl C X.env) fp) tg1 g1) (ht1 : ∀ (s : Shared) (H : Hp) (C : Addr) (cl : List (Str × Addr)) (fp : List Addr), PTs (X.blk s H scope (compEnvC scope cl C X.env) fp) ifs1 tt1)
    (hs1 : ∀ env x, foldedSetIterable iter1 env x = pure x)
    (h : tDc2 wi g wi1 g1 tt1 tk tv (own.map (·.2)) vs1 σ H Q)
    (hRR : ∀ D C s' m H', Inv X pins σ H' s' → Q (.ref D) H' → s'.heap.Ns C m → FpOk X pins H' C → compPost (model X.prog X.w) X.A X.xe use Qf (.ref D) C (.ok .next) s') :
    wpAny (model X.prog X.w) X.A (comprehension (.DictComp kx vx [⟨tg, iter, [], 0⟩, ⟨tg1, iter1, ifs1, 0⟩] scope pos) scope X.env pos' newDict false (eval iter X.env) use) Qf X.xe s := by
  have hfree : ∀ y ∈ scope.names, y.2 = .free → ∃ c, X.env.cells.lookup y.1 = some c := fun y hy e => by
    rcases ok.free y hy e with k | k
    · exact I.ok.has _ (.inl k)
    · exact I.ok.has _ (.inr k)
  refine wpAny_comprehension_free (use := use) rfl hs (closure_ok hfree) ok.kind (fun y hy e => by rw [ok.uniq y hy, e])
    (thn (hi.run pins s σ H _ I h) fun xv s1 hx => thn hx fun itv s2 h2 => ?_)
  obtain ⟨it, fp, tn, J, H2, e, I2, T, st2, f2, q⟩ := h2
  subst e
  refine wpAny_newObj_type (newEnv_comp ?_)
  generalize hD : s2.heap.objs.size = D
  have hDn : H2 D = none := I2.hok.fresh (Nat.le_of_eq hD)
  obtain ⟨W, ⟨m0, w0⟩, turn⟩ := q D hDn
  generalize hs3 : ({ s2 with heap := s2.heap.push { cls := .type "dict", data := .dict #[] } } : Shared) = s3
  have I3 : Inv X pins σ (upd H2 D (.dT [])) s3 := by
    rw [← hs3]
    refine I2.laid (t' := s2.toks) (fun b o e => Heap.get?_push_of_some _ e) (Nat.le_of_eq hD) ?_
    rw [← hD]
    exact dt_empty s2.heap I2.big
  have h3 : s3.heap = s2.heap.push { cls := .type "dict", data := .dict #[] } := by rw [← hs3]
  have sz : ∀ b ∈ fp, b < s2.heap.objs.size := fun b hb => by
    obtain ⟨o, e, _⟩ := T.obj _ _ st2 b hb
    exact Heap.lt_size e
  have f3 : ∀ b ∈ fp, FpOk X pins (upd H2 D (.dT [])) b ∧ b < s3.heap.objs.size := fun b hb => by
    have hlt := sz b hb
    refine ⟨⟨?_, (f2 b hb).2⟩, by rw [h3, Heap.size_push]; exact Nat.lt_succ_of_lt hlt⟩
    rw [upd_ne (by rw [← hD]; exact Nat.ne_of_lt hlt)]
    exact (f2 b hb).1
  have st3 : tn 0 s3.heap := T.keep _ _ _ st2 fun b _ o e => by rw [h3]; exact Heap.get?_push_of_some _ e
  have I4 := block_start I3 ok hN f3
  generalize hcl : cellsFrom (s3.heap.objs.size + 1) scope.names (cloFrom X.env.cells scope.names []) = cl at I4 ⊢
  have pg := hg s3 (upd H2 D (.dT [])) s3.heap.objs.size cl fp
  have pk := hk s3 (upd H2 D (.dT [])) s3.heap.objs.size cl fp
  have pe := he s3 (upd H2 D (.dT [])) s3.heap.objs.size cl fp
  have pi1 := hi1 s3 (upd H2 D (.dT [])) s3.heap.objs.size cl fp
  have pg1 := hg1 s3 (upd H2 D (.dT [])) s3.heap.objs.size cl fp
  have pt1 := ht1 s3 (upd H2 D (.dT [])) s3.heap.objs.size cl fp
  show codeAny _ _ (.compStart (.DictComp kx vx [⟨tg, iter, [], 0⟩, ⟨tg1, iter1, ifs1, 0⟩] scope pos) 0 (.ref it) (.ref D) (compEnvC scope cl s3.heap.objs.size X.env)) (compPost (model X.prog X.w) X.A X.xe use Qf (.ref D) s3.heap.objs.size) { s3 with heap := pushCells (s3.heap.push { cls := .type "dict", data := .dict #[] }) scope.names }
  have nfp : ∀ b ∈ fp, (upd H2 D (.dT [])) b = none := fun b hb => (f3 b hb).1.1
  generalize hce : compEnvC scope cl s3.heap.objs.size X.env = ce at I4 pg pk pe pi1 pg1 pt1 ⊢
  have cL : ce.locals = s3.heap.objs.size := by subst hce; rfl
  generalize hH3 : upd H2 D (.dT []) = H3 at I3 I4 pg pk pe pi1 pg1 pt1 w0 nfp f3
  generalize hs4 : ({ s3 with heap := pushCells (s3.heap.push { cls := .type "dict", data := .dict #[] }) scope.names } : Shared) = s4 at I4 ⊢
  have st4 : tn 0 s4.heap := T.keep _ _ _ st3 fun b _ o e => by rw [← hs4]; exact pushCells_keeps _ _ _ _ (Heap.get?_push_of_some _ e)
  have stat : ∀ {σ' : St} {H' : Hp} {s' : Shared}, Inv (X.blk s3 H3 scope ce fp) [] σ' H' s' → (∀ b ∈ fp, H' b = none) → ∀ b ∈ fp, FpOk (X.blk s3 H3 scope ce fp) [] H' b := fun {σ' H' s'} I' hn b hb =>
    ⟨hn b hb, (I'.ok.exf b hb).1, I'.ok.exfs b hb, .inl hb, fun x c e => (I'.ok.exf b hb).2 x c e, fun p hp => absurd (show p ∈ ([] : List (Addr × Obj)) ++ [] from hp) (by simp)⟩
  have loop : codeAny (model X.prog X.w) X.A (.compLoop (.DictComp kx vx [⟨tg, iter, [], 0⟩, ⟨tg1, iter1, ifs1, 0⟩] scope pos) 0 (.ref it) (.ref D) ce) (compPost (model X.prog X.w) X.A X.xe use Qf (.ref D) s3.heap.objs.size) s4 := by
    refine loopD_out (hs1 ce) (fun n s' => ∃ i H', Inv (X.blk s3 H3 scope ce fp) [] (wipe σ (own.map (·.2))) H' s' ∧ tn i s'.heap ∧ (∀ b ∈ fp, H' b = none) ∧ W i n H') ?_ m0 ⟨0, H3, I4, st4, nfp, w0⟩
    rintro n s5 ⟨i, H5, I5, st5, n5, w5⟩
    rcases turn i n H5 w5 with ⟨stop, qq⟩ | ⟨go, Nx, hNx, step⟩
    · have td := T.done (X.blk s3 H3 scope ce fp) rfl rfl rfl hc i [] s5 _ H5 (fun _ _ => False) I5 (stat I5 n5) st5 stop
      refine thnF td fun r s6 ⟨hr, I6⟩ => ?_
      subst hr
      have I7 : Inv X pins σ H5 s6 := I3.call' (ch := fp) I6.os I6.base I6.hok I6.bare fun b hb => ⟨(f3 b hb).1.2.2.2.1, (f3 b hb).1.2.1, (f3 b hb).1.2.2.2.2.1, (f3 b hb).1.2.2.2.2.2⟩
      have nC : H5 s3.heap.objs.size = none := by
        have z : H5 ce.locals = none := I6.free
        rw [cL] at z
        exact z
      obtain ⟨m, hn, _⟩ := I6.loc
      have hn : s6.heap.Ns ce.locals m := hn
      rw [cL] at hn
      exact hRR D s3.heap.objs.size s6 m H5 I7 qq hn (I3.fpOk (Nat.le_refl _) nC)
    · have ti := T.item (X.blk s3 H3 scope ce fp) rfl rfl rfl hc i [] s5 _ H5 (fun _ _ => False) I5 (stat I5 n5) st5 go
      refine thnF ti fun r s6 ⟨u, hr, h6⟩ => ?_
      subst hr
      refine thnF h6 fun _ s7 ⟨x, H7, I7, r7, y7, st7, n7⟩ => ?_
      have I7' := I7.pinned (stat I7 n7) (T.obj _ _ st7)
      refine thnF (pg.run _ s7 _ H7 x u _ I7' r7 (step x H7 y7)) fun _ s9 ⟨σ8, H9, I9, hw8, q9⟩ => ?_
      have fin : ∀ {σ9 : St} {s' : Shared} {H' : Hp}, Inv (X.blk s3 H3 scope ce fp) ([] ++ pinsAt fp s7.heap) σ9 H' s' → (wipe σ (own.map (·.2))).length = σ9.length → (∀ (j : Nat) v, (wipe σ (own.map (·.2)))[j]? = some (some v) → σ9[j]? = some (some v)) → Nx H' →
          ∃ m, m < n ∧ ∃ i H', Inv (X.blk s3 H3 scope ce fp) [] (wipe σ (own.map (·.2))) H' s' ∧ tn i s'.heap ∧ (∀ b ∈ fp, H' b = none) ∧ W i m H' := fun {σ9 s' H'} I' hl hk nx => by
        obtain ⟨m', hm, w'⟩ := hNx H' nx
        have pin' : ∀ b ∈ fp, ∀ o, s7.heap.get? b = some o → s'.heap.get? b = some o ∧ H' b = none := fun b hb o e =>
          let z := I'.pin (b, o) (List.mem_append_right _ (List.mem_append_right _ (mem_pinsAt hb e)))
          ⟨z.1, z.2.1⟩
        refine ⟨m', hm, i + 1, H', (I'.unpinned (pins := [])).weak hl hk, T.keep _ _ _ st7 fun b hb o e => (pin' b hb o e).1, fun b hb => ?_, w'⟩
        obtain ⟨o, e, _⟩ := T.obj _ _ st7 b hb
        exact (pin' b hb o e).2
      have hl8 : (wipe σ (own.map (·.2))).length = σ8.length := by rw [← hw8, wipe_length]
      have hk9 : ∀ (j : Nat) v, (wipe σ (own.map (·.2)))[j]? = some (some v) → (wipe σ8 vs1)[j]? = some (some v) := fun j v e => by
        rw [← hw8] at e
        obtain ⟨e1, e2⟩ := wipe_some e
        rw [wipe_out fun z => e2 (hv j z)]
        exact e1
      refine thnF (pi1.run _ s9 σ8 H9 _ I9 q9) fun xv s10 hx => thnF hx fun itv s11 h11 => ?_
      obtain ⟨it1, fp1, tn1, J1, H11, e1, I11, T1, st11, f11, W1, ⟨m1, w1⟩, turn1⟩ := h11
      subst e1
      have stat1 : ∀ {H' : Hp}, (∀ b ∈ fp1, H' b = none) → ∀ b ∈ fp1, FpOk (X.blk s3 H3 scope ce fp) ([] ++ pinsAt fp s7.heap) H' b := fun hn b hb => ⟨hn b hb, (f11 b hb).2⟩
      have loop1 : codeAny (model X.prog X.w) X.A (.compLoop (.DictComp kx vx [⟨tg, iter, [], 0⟩, ⟨tg1, iter1, ifs1, 0⟩] scope pos) 1 (.ref it1) (.ref D) ce)
          (fun r s' => match r with
            | .ok _ => ∃ m, m < n ∧ ∃ i H', Inv (X.blk s3 H3 scope ce fp) [] (wipe σ (own.map (·.2))) H' s' ∧ tn i s'.heap ∧ (∀ b ∈ fp, H' b = none) ∧ W i m H'
            | .error _ => False) s11 := by
        refine loopD_in (fun k s' => ∃ j H', Inv (X.blk s3 H3 scope ce fp) ([] ++ pinsAt fp s7.heap) (wipe σ8 vs1) H' s' ∧ tn1 j s'.heap ∧ (∀ b ∈ fp1, H' b = none) ∧ W1 j k H') ?_ m1 ⟨0, H11, I11.weak (wipe_length _ _) (fun j v e => (wipe_some e).1), st11, fun b hb => (f11 b hb).1, w1⟩
        rintro k s12 ⟨j, H12, I12, st12, n12, w12⟩
        rcases turn1 j k H12 w12 with ⟨stop1, nx1⟩ | ⟨go1, Nx1, hNx1, step1⟩
        · refine thnF (T1.done (X.blk s3 H3 scope ce fp) rfl rfl rfl hc j _ s12 (wipe σ8 vs1) H12 (fun _ _ => False) I12 (stat1 n12) st12 stop1) fun r s13 ⟨hr, I13⟩ => ?_
          subst hr
          exact fin I13 (hl8.trans (wipe_length σ8 vs1).symm) hk9 nx1
        · refine thnF (T1.item (X.blk s3 H3 scope ce fp) rfl rfl rfl hc j _ s12 (wipe σ8 vs1) H12 (fun _ _ => False) I12 (stat1 n12) st12 go1) fun r s13 ⟨u1, hr, h13⟩ => ?_
          subst hr
          refine thnF h13 fun _ s14 ⟨x1, H14, I14, r14, y14, st14, n14⟩ => ?_
          have I14' := I14.pinned (stat1 n14) (T1.obj _ _ st14)
          refine thnF (pg1.run _ s14 (wipe σ8 vs1) H14 x1 u1 _ I14' r14 (step1 x1 H14 y14)) fun _ s15 ⟨σ15, H15, I15, hw15, q15⟩ => ?_
          refine thnF (pt1.run _ s15 σ15 H15 _ I15 q15) fun b1 s16 ⟨H16, I16, q16⟩ => ?_
          have fin1 : ∀ {s' : Shared} {H' : Hp}, Inv (X.blk s3 H3 scope ce fp) (([] ++ pinsAt fp s7.heap) ++ pinsAt fp1 s14.heap) σ15 H' s' → Nx1 H' → ∃ m, m < k ∧ ∃ j H', Inv (X.blk s3 H3 scope ce fp) ([] ++ pinsAt fp s7.heap) (wipe σ8 vs1) H' s' ∧ tn1 j s'.heap ∧ (∀ b ∈ fp1, H' b = none) ∧ W1 j m H' := fun {s' H'} I' nx => by
            obtain ⟨m', hm, w'⟩ := hNx1 H' nx
            have pin' : ∀ b ∈ fp1, ∀ o, s14.heap.get? b = some o → s'.heap.get? b = some o ∧ H' b = none := fun b hb o e =>
              let z := I'.pin (b, o) (List.mem_append_right _ (List.mem_append_right _ (mem_pinsAt hb e)))
              ⟨z.1, z.2.1⟩
            refine ⟨m', hm, j + 1, H', I'.unpinned.weak (by rw [← hw15, wipe_length]) (fun j v e => by rw [← hw15] at e; exact (wipe_some e).1), T1.keep _ _ _ st14 fun b hb o e => (pin' b hb o e).1, fun b hb => ?_, w'⟩
            obtain ⟨o, e, _⟩ := T1.obj _ _ st14 b hb
            exact (pin' b hb o e).2
          cases b1 with
          | false =>
            simp only [Bool.false_eq_true, if_false] at q16 ⊢
            exact fin1 I16 q16
          | true =>
            simp only [if_true] at q16 ⊢
            refine thnF (pk.run _ s16 σ15 H16 _ I16 q16) fun z s17 ⟨yk, H17, I17, r17, q17⟩ => ?_
            refine thnF (pe.run _ s17 σ15 H17 _ I17 q17) fun z2 s18 ⟨yv, H18, I18, r18, kvs, ky, bk, ek, hbk, hD18, hz18, nx⟩ => ?_
            subst ek
            obtain rfl : z = Value.ref bk := r17
            exact d_dictSetT (X := X.blk s3 H3 scope ce fp) hu I18 hD18 hz18 hbk r18 fun s19 I19 => fin1 I19 nx
      exact startD_in loop1 (T1.self X.A 0 _ _ _ st11 loop1)
  exact codeAny_compStart_dict loop (T.self X.A 0 _ _ _ st4 loop)
theorem ps_setDc2 {i : Nat} {y : Str} {py : Pos} {kx vx tg iter tg1 iter1 : Expr} {ifs1 : List Expr} {scope : Scope} {own : List (Str × Nat)} {vs1 : List Nat} {pos spos : Pos} {wi wi1 : TI} {g g1 : TG} {tt1 : TT} {tk tv : TE}
    (hu : X.A.units + 1 < cLine) (hc : X.calm = true) (hN : X.N.Nodup) (hy : X.N[i]? = some y) (hyl : X.env.scope.names.lookup y = some .local)
    (hsw : swapsWith (.DictComp kx vx [⟨tg, iter, [], 0⟩, ⟨tg1, iter1, ifs1, 0⟩] scope pos) (some (.Name y py)) spos.line X.env = pure true) (hi : PI X tg iter wi) (ok : BlkOk X.N X.env.scope scope own) (hv : ∀ i ∈ vs1, i ∈ own.map (·.2))
    (hg : ∀ (s : Shared) (H : Hp) (C : Addr) (cl : List (Str × Addr)) (fp : List Addr), PG (X.blk s H scope (compEnvC scope cl C X.env) fp) tg g) (hi1 : ∀ (s : Shared) (H : Hp) (C : Addr) (cl : List (Str × Addr)) (fp : List Addr), PI (X.blk s H scope (compEnvC scope cl C X.env) fp) tg1 iter1 wi1) (hg1 : ∀ (s : Shared) (H : Hp) (C : Addr) (cl : List (Str × Addr)) (fp : List Addr), PG (X.blk s H scope (compEnvC scope cl C X.env) fp) tg1 g1) (ht1 : ∀ (s : Shared) (H : Hp) (C : Addr) (cl : List (Str × Addr)) (fp : List Addr), PTs (X.blk s H scope (compEnvC scope cl C X.env) fp) ifs1 tt1)
    (hk : ∀ (s : Shared) (H : Hp) (C : Addr) (cl : List (Str × Addr)) (fp : List Addr), PE (X.blk s H scope (compEnvC scope cl C X.env) fp) kx tk) (he : ∀ (s : Shared) (H : Hp) (C : Addr) (cl : List (Str × Addr)) (fp : List Addr), PE (X.blk s H scope (compEnvC scope cl C X.env) fp) vx tv) (hs : ∀ x, foldedSetIterable iter X.env x = pure x := by intro _; rfl) (hs1 : ∀ env x, foldedSetIterable iter1 env x = pure x := by intro _ _; rfl) :
    PS X (.Assign [.Name y py] (.DictComp kx vx [⟨tg, iter, [], 0⟩, ⟨tg1, iter1, ifs1, 0⟩] scope pos) spos) (tAsg (tDc2 wi g wi1 g1 tt1 tk tv (own.map (·.2)) vs1) (gName i)) := by
  refine ⟨fun pins s σ H D I h => ?_⟩
  rw [exec_Assign_Name_used _ _ _ _ hsw]
  refine wpAny_bind (wpAny_standAt (wpAny_bind ?_))
  show wpAny _ X.A (do let _ ← comprehension (.DictComp kx vx [⟨tg, iter, [], 0⟩, ⟨tg1, iter1, ifs1, 0⟩] scope pos) scope X.env (firstIterPos [⟨tg, iter, [], 0⟩, ⟨tg1, iter1, ifs1, 0⟩] pos) newDict false (eval iter X.env) (some (assign (.Name y py) X.env))) _ _ s
  have h : tDc2 wi g wi1 g1 tt1 tk tv (own.map (·.2)) vs1 σ H (fun x H1 => gName i x σ H1 D.nx) := h
  refine wpAny_bind (thn (dc2_core (Qf := fun _ s' => SP X pins D .next s') hu hc hN I hi ok hv hg hk he hs hi1 hg1 ht1 hs1 h fun L C s' m H' I' q hn f => ?_) fun _ s' hq => wpAny_pure (wpAny_pure hq))
  show wpAny _ _ (assign (.Name y py) X.env (.ref L)) _ _ _
  refine wpAny_assign_Name (store_ok2 (v := V.ref L) I' hN hy (.inl hyl) rfl (fun s2 I2 ⟨a, sb, ha⟩ => ?_) (.inr hyl))
  obtain ⟨f0, f1, f2, f3, f4, f5⟩ := f
  have haC : C ≠ a := by
    rcases ha with z | z
    · rw [z]; exact f1
    · exact fun e => f4 y a z e.symm
  refine ⟨m, hn.sameBut sb haC, fun h3 sb3 => ?_⟩
  exact ⟨_, H', I2.turned (t' := s2.toks) (fun b o hb e => (sb3.2 b hb).trans e) f0 f1 f3 f4 f5, q⟩
/-- {k: v}, the key a tuple of ints and texts -/
def tDisp1T (tk tv : TE) : TE := fun σ H Q => ∀ p, H p = none → tk σ (upd H p (.dT [])) fun y H1 => tv σ H1 fun z H2 => H2 p = some (.dT []) ∧ ∃ (ky : List Key) (b : Addr), y = .ref b ∧ H2 b = some (.tup (ky.map kV)) ∧ Q (.ref p) (upd H2 p (.dT [(ky, z)]))
theorem pe_disp1T {k v : Expr} {tk tv : TE} {pos : Pos} (hu : X.A.units + 1 < cLine) (hk : PE X k tk) (hv : PE X v tv) : PE X (.Dict [some k] [v] pos) (tDisp1T tk tv) := by
  refine ⟨fun pins s σ H Q I q => ?_⟩
  have hn := I.hok.fresh (Nat.le_refl s.heap.objs.size)
  have I1 := I.laid (a := s.heap.objs.size) (o := .dT []) (h' := s.heap.push { cls := .type "dict", data := .dict #[] }) (t' := s.toks) (fun _ _ q => Heap.get?_push_of_some _ q) (Nat.le_refl _) (dt_empty s.heap I.big)
  let R : List (V × V) → Hp → Prop := fun ps H2 => match ps with
    | [(y, z)] => H2 s.heap.objs.size = some (.dT []) ∧ ∃ (ky : List Key) (b : Addr), y = .ref b ∧ H2 b = some (.tup (ky.map kV)) ∧ Q (.ref s.heap.objs.size) (upd H2 s.heap.objs.size (.dT [(ky, z)]))
    | _ => False
  have hp : tPairs [(tk, tv)] σ (upd H s.heap.objs.size (.dT [])) R := q _ hn
  have pp : PPs X pos [some k] [v] [(tk, tv)] := pps_cons hk hv pps_nil
  rw [arm_eval_Dict, zip_pairTrees [some k] [v] X.env pos rfl rfl, dictDisplay_pairs (pairTrees [some k] [v] X.env pos) (by simp [pairTrees]) (by simp [pairTrees])]
  refine wpAny_bind (wpAny_standAt (wpAny_bind (wpAny_subDictH (knd := tupleKind (mixKind X.prog X.w)) (Q := fun d s' => wpAny (model X.prog X.w) X.A (pure (Value.ref d)) (EP X pins σ Q) X.xe s') (show (tupleKind (mixKind X.prog X.w)).room X.A from Nat.lt_of_le_of_lt (Nat.le_succ _) hu) (by simp [pairTrees]) (thn (pp.run pins _ σ _ R I1 hp) fun ws s2 ⟨ps, H2, I2, rel, hR⟩ => ?_))))
  cases rel with
  | nil => exact False.elim hR
  | @cons a c as cs h t =>
    cases t with
    | cons _ _ => exact False.elim hR
    | nil =>
      obtain ⟨y, z⟩ := a
      obtain ⟨c1, c2⟩ := c
      obtain ⟨e, ky, b, rfl, hb, q2⟩ := hR
      obtain ⟨h1, h2⟩ := h
      obtain rfl : c1 = Value.ref b := h1
      obtain ⟨_, hd, xs, rel, dd⟩ := dt_of I2.hok e
      cases rel
      refine ⟨[(ky, b, c2)], ⟨rfl, rfl, key_of I2.hok hb, trivial⟩, dd, fun h' tk dd' hs => wpAny_pure ?_⟩
      obtain ⟨q, es, ep, hq, g2, g3, g4, _, g5⟩ := dd'
      refine ⟨.ref s.heap.objs.size, _, d_write (ob := .dT [(ky, z)]) I2 (by rw [e]; exact True.intro) hs ⟨q, hq⟩ ⟨by rw [sizeLine_eq]; simp, hd, [(ky, b, c2)], .cons ⟨rfl, ?_, h2⟩ .nil, q, es, ep, hq, g2, g3, g4, g5⟩, rfl, q2⟩
      rw [upd_ne (ne_of hb e (fun z => nomatch z))]
      exact hb
end
end L2


local macro_rules | `(tactic| simp_arith [$ls,*]) => `(tactic| simp (config := { failIfUnchanged := false, maxSteps := 2000000 }) only [↓Ow.e_aAsg, ↓Ow.e_aRet, ↓Ow.e_aRetN, ↓Ow.e_aDrop, ↓Ow.e_aPass, ↓Ow.e_aBrk, ↓Ow.e_aCnt, ↓Ow.e_aPut, ↓Ow.e_aPar, ↓Ow.e_aFor, ↓Ow.e_aTst, ↓Ow.e_aAnd, ↓Ow.e_aOr, ↓Ow.e_aNot, ↓Ow.e_aIf, ↓Ow.e_aIfT, ↓Ow.e_aAndV, ↓Ow.e_aOrV, ↓Ow.e_aChain, ↓Ow.e_aYes, ↓Ow.e_aC, ↓Ow.e_aName, ↓Ow.e_aMove, ↓Ow.e_aIxN, ↓Ow.e_aLenN, ↓Ow.e_aAddN, ↓Ow.e_aMt, ↓Ow.e_a2, ↓Ow.e_a1, ↓Ow.e_aCB, ↓Ow.e_aNil, ↓Ow.e_aCons, ↓Ow.e_aLst, ↓Ow.e_aTup, ↓Ow.e_aSl, ↓Ow.e_aNoP, ↓Ow.e_aPart, ↓Ow.e_aTxt, ↓Ow.e_aCall, ↓Ow.e_aRn, ↓Ow.e_aRv, ↓Ow.e_aRs, Ow.tkA, Ow.ptA, ↓Ow.e_aLc, ↓Ow.e_aOver, ↓Ow.e_aRng, ↓Ow.e_aEnum, ↓Ow.e_aZip2, ↓Ow.e_aIxK, ↓Ow.e_aDGet, ↓Ow.e_aGetE, ↓Ow.e_aDPut, ↓Ow.e_aDCopy, ↓Ow.e_aDNew, ↓Ow.e_aDisp, ↓Ow.e_aPrs0, ↓Ow.e_aPrs1, ↓Ow.e_aListZip, ↓Ow.e_aSortedSc, ↓Ow.e_aSortedSet, ↓Ow.e_aLc2, ↓Ow.e_aMtK, Ow.kix_l, Ow.kix_d, Ow.keyO_s, Ow.keyO_i, Ow.o2_d, Ow.o1_d, Ow.o2, Ow.o1, Ow.fAdd, Ow.fInt, Ow.fNot, Ow.fNeg, Ow.fEq, Ow.fIs, Ow.fIn, Ow.fOrd, Ow.fMul, Ow.oAdd, Ow.oMulA, Ow.oLen, Ow.oLen1, Ow.oAbs, Ow.oInt, Ow.oMax2, Ow.oMin2, Ow.oIx, Ow.ixO, Ow.oSl, Ow.oIsi, Ow.isOf, Ow.tgSet_n, Ow.tgSet_t, Ow.tgSet_st, Ow.tgSets_nil, Ow.tgSets_cons, Ow.dats_nil, Ow.dats_d, Ow.dats_n, Ow.mkT, Ow.lel, Ow.sel, Ow.frz_d, Ow.frzs_map, Ow.frz_lst, Ow.frzs_cons, Ow.frzs_nil, Ow.frz_l, Ow.frz_t, Option.map_some, Option.map_none, Option.bind_some, Option.bind_none, List.getElem?_cons_zero, List.getElem?_cons_succ, List.getElem?_nil, List.set_cons_zero, List.set_cons_succ, List.length_cons, List.length_nil, List.length_set, Ow.beg_def, List.map_cons, List.map_nil, List.replicate, List.cons_append, List.nil_append, List.append_nil, Nat.sub_self, Nat.reduceSub, Nat.reduceAdd, Nat.reduceLT, Nat.reduceLeDiff, Nat.add_zero, Nat.zero_add, if_true, if_false, true_and, and_true, false_and, and_false, reduceIte, Bool.false_eq_true, reduceCtorEq, Ow.wipeE, Ow.retD_rt, Ow.retD_nx, Ow.finA, List.take, List.drop, decide_eq_true_eq, Ow.lit0, Ow.lit1, Ow.lit2, Ow.lit3, Ow.lit4, Ow.at0, Ow.at1, Ow.at2, Ow.at3, Ow.at4, Ow.cut_t2, Ow.cut_t3, Ow.cut_t4, Ow.cut_f1, Ow.cut_f3, Ow.cut_f4, Ow.mAppend, Ow.mExtend, Ow.mClear, Ow.mInsert, List.any_cons, List.any_nil, Bool.or_false, Bool.or_true, Bool.true_or, Bool.false_or, $ls,*])

namespace K49
open PySem L2 Grd Ow PyProof.Rows

/-- weave: 0 turns, 1 picks, 2 going, 3 left, 4 found, 5 at, 6 row -/
def t_p_weave : AS :=
  (aSeq (aPar [2, 3, 4] (aCons (aLc (aOver (aName 0)) (.n 6) aYes (aCB oList (aCons (aName 6) aNil)) [6]) (aCons (a1 oRev (aCB oList (aCons (aName 1) aNil))) (aCons (aLst aNil) aNil))))
    (aSeq (aWhile (aTst (a2 (o2 fGt) (aLenN 2) (aC (.int 0)))) (aSeq (aIfS (aTst (a2 (o2 (fEq false)) (aLenN 3) (aC (.int 0)))) (aRet (aC .none)) aPass)
    (aSeq (aAsg (a2 oMod (aMt 3 mPop aNil) (aLenN 2)) (.n 5))
    (aSeq (aDrop (aMt 4 mExtend (aCons (aMtK 2 (aName 5) mPopAt (aCons (aC (.int 0)) aNil)) aNil)))
    (aAsg (aLc (aOver (aName 2)) (.n 6) (aTst (a2 (o2 fGt) (aLenN 6) (aC (.int 0)))) (aName 6) [6]) (.n 2))))))
    (aRet (aMove 4))))
/-- texts_of: 0 some, 1 one -/
def t_p_texts_of : AS :=
  (aRet (aLc (aOver (aName 0)) (.n 1) aYes (aCB oRepr (aCons (aName 1) aNil)) [1]))
-- NO RULE is_weaving: DictComp(key=BinOp(left=BinOp(left=Subscript(value=Name(id='spot', ctx=Load()),
/-- _law_dip: 0 _law_script, 1 _law_k, 2 _law_cell -/
def t_dip : AS :=
  (aSeq (aAsg (aIf (aTst (a2 (o2 fLt) (aName 1) (aLenN 0))) (aIxN 0 (aName 1)) (aC (.int 0))) (.n 2))
    (aRet (aLst (aCons (a2 oMulA (aCB oAbs (aCons (aName 2) aNil)) (aCB oInt (aCons (a2 (o2 fGe) (aCB oAbs (aCons (aName 2) aNil)) (a2 oPow (aC (.int 10)) (aC (.int 18)))) aNil))) (aCons (a2 oAdd (a2 oAdd (a2 oMod (aName 2) (aC (.int 2305843009213693951))) (a2 oMulA (aC (.int 39373)) (aName 1))) (aC (.int 17))) (aCons (aC (.int 0)) aNil))))))
/-- _law_take: 0 _law_box, 1 _law_many, 2 _law_found, 3 _law_once, 4 _law_twice -/
def t_take : AS :=
  (aSeq (aIfS (aTst (a2 (o2 fGt) (aIxN 0 (aC (.int 0))) (aC (.int 0)))) (aSeq (aAsg (a2 oMod (aIxN 0 (aC (.int 0))) (aName 1)) (.n 2))
    (aSeq (aPut 0 (a2 oDiv (aIxN 0 (aC (.int 0))) (aName 1)) (aC (.int 0)))
    (aRet (aMove 2)))) aPass)
    (aSeq (aPut 0 (a2 oAdd (aIxN 0 (aC (.int 2))) (aC (.int 1))) (aC (.int 2)))
    (aSeq (aAsg (a2 oMod (a2 oPow (a2 oAdd (aIxN 0 (aC (.int 1))) (a2 oMulA (aC (.int 39373)) (aIxN 0 (aC (.int 2))))) (aC (.int 5))) (aC (.int 2147483647))) (.n 3))
    (aSeq (aAsg (a2 oMod (a2 oMulA (a2 oAdd (a2 oAdd (aName 3) (aIxN 0 (aC (.int 2)))) (a2 oDiv (aIxN 0 (aC (.int 1))) (aC (.int 1000003)))) (a2 oAdd (a2 oAdd (a2 oMod (aName 3) (aC (.int 40009))) (aC (.int 7))) (aIxN 0 (aC (.int 2))))) (aC (.int 2147483629))) (.n 4))
    (aRet (a2 oMod (a2 oDiv (a2 oMod (a2 oAdd (a2 oMulA (aName 4) (aC (.int 48271))) (aName 3)) (aC (.int 2147483587))) (aC (.int 64))) (aName 1)))))))
/-- _law_folded: 0 _law_script, 1 _law_size, 2 _law_cells, 3 _law_k, 4 _law_cell -/
def t_folded : AS :=
  (aSeq (aAsg (aCB oList (aCons (aSl (aName 0) aNoP (aPart (aName 1))) aNil)) (.n 2))
    (aSeq (aFor (aEnum (aSl (aName 0) (aPart (aName 1)) (aPart (aC (.int 63))))) (.t [(.n 3), (.n 4)]) (aPut 2 (a2 oAdd (aIxN 2 (a2 oMod (aName 3) (aName 1))) (a2 oMulA (aName 4) (a2 oAdd (aName 3) (aC (.int 2))))) (a2 oMod (aName 3) (aName 1))))
    (aRet (aMove 2))))
/-- _law_one_of: 0 _law_box, 1 _law_some -/
def t_one_of (C_take : AC) : AS :=
  (aRet (aIxN 1 (aCall C_take (aRs 0 (aRv (aLenN 1) aRn)))))
/-- _law_same: 0 _law_found, 1 _law_due, 2 _law_one, 3 _law_other -/
def t_same (C_same : AC) : AS :=
  (aSeq (aIfS (aTst (a1 (oIsi [.list, .tuple]) (aName 1))) (aSeq (aIfS (aOr (aTst (a2 (o2 (fEq true)) (a1 (oIsi [.list]) (aName 0)) (a1 (oIsi [.list]) (aName 1)))) (aTst (a2 (o2 (fEq true)) (a1 (oIsi [.tuple]) (aName 0)) (a1 (oIsi [.tuple]) (aName 1))))) (aRet (aC (.bool false))) aPass)
    (aRet (aAndV (a2 (o2 (fEq false)) (aLenN 0) (aLenN 1)) (aCB (oAll fun l => l.all id) (aCons (aLc (aZip2 (aName 0) (aName 1)) (.t [(.n 2), (.n 3)]) aYes (aCall C_same (aRs 2 (aRs 3 aRn))) [2, 3]) aNil))))) aPass)
    (aSeq (aIfS (aOr (aTst (a2 (o2 (fIs false)) (aName 1) (aC .none))) (aTst (a2 (o2 (fIs false)) (aName 0) (aC .none)))) (aRet (aAndV (a2 (o2 (fIs false)) (aName 1) (aC .none)) (a2 (o2 (fIs false)) (aName 0) (aC .none)))) aPass)
    (aSeq (aIfS (aOr (aTst (a1 (oIsi [.bool]) (aName 1))) (aTst (a1 (oIsi [.str]) (aName 1)))) (aRet (aAndV (a2 (o2 (fEq false)) (a1 (oIsi [.bool]) (aName 0)) (a1 (oIsi [.bool]) (aName 1))) (a2 (o2 (fEq false)) (aName 0) (aName 1)))) aPass)
    (aRet (aAndV (a1 (oIsi [.int]) (aName 0)) (aAndV (a1 (o1 fNot) (a1 (oIsi [.bool]) (aName 0))) (a2 (o2 (fEq false)) (aName 0) (aName 1))))))))
/-- _law_woven_by: 0 _law_rows_here, 1 _law_picks, 2 _law_going, 3 _law_found, 4 _law_used, 5 _law_at, 6 _law_row -/
def t_woven_by : AS :=
  (aSeq (aPar [2, 3, 4] (aCons (aLc (aOver (aName 0)) (.n 6) aYes (aCB oList (aCons (aName 6) aNil)) [6]) (aCons (aLst aNil) (aCons (aC (.int 0)) aNil))))
    (aSeq (aWhile (aTst (a2 (o2 (fEq true)) (aName 2) (aLst aNil))) (aSeq (aIfS (aTst (a2 (o2 (fEq false)) (aName 4) (aLenN 1))) (aRet (aTup (aCons (aC .none) (aCons (aName 4) aNil)))) aPass)
    (aSeq (aAsg (a2 oMod (aIxN 1 (aName 4)) (aLenN 2)) (.n 5))
    (aSeq (aAsg (a2 oAdd (aName 3) (a2 oIx (aIxN 2 (aName 5)) (aC (.int 0)))) (.n 3))
    (aSeq (aPut 2 (aSl (aIxN 2 (aName 5)) (aPart (aC (.int 1))) aNoP) (aName 5))
    (aPar [2, 4] (aCons (aLc (aOver (aName 2)) (.n 6) (aTst (a2 (o2 (fEq true)) (aName 6) (aLst aNil))) (aName 6) [6]) (aCons (a2 oAdd (aName 4) (aC (.int 1))) aNil))))))))
    (aRet (aTup (aCons (aName 3) (aCons (aName 4) aNil))))))
/-- _law_thing: 0 _law_box -/
def t_thing (C_one_of C_take : AC) : AS :=
  (aRet (aCall C_one_of (aRs 0 (aRv (aLst (aCons (aC (.int 0)) (aCons (aC (.int 1)) (aCons (aC (.int 2)) (aCons (aC (.int 996)) (aCons (aTup (aCons (aC (.int 1)) (aCons (aC (.int 2)) aNil))) (aCons (aC (.str "fun")) (aCons (aTup (aCons (aC (.int 1)) (aCons (aTup (aCons (aC (.int 2)) (aCons (aC (.int 1)) aNil))) aNil))) (aCons (aCall C_take (aRs 0 (aRv (aC (.int 3)) aRn))) aNil))))))))) aRn))))
/-- _law_is_woven: 0 _law_rows_here, 1 _law_thing_here, 2 _law_spots, 3 _law_one, 4 _law_found, 5 _law_spot, 6 _law_at, 7 _law_row, 8 _law_more -/
def t_is_woven (C_alike : AC) : AS :=
  (aSeq (aIfS (aOr (aNot (aTst (a1 (oIsi [.list]) (aName 1)))) (aTst (a2 (o2 (fEq true)) (aLenN 1) (aCB oSum (aCons (aLc (aOver (aName 0)) (.n 7) aYes (aLenN 7) [7]) aNil))))) (aRet (aC (.bool false))) aPass)
    (aSeq (aAsg (aLst (aCons (a2 oMulA (aLst (aCons (aC (.int 0)) aNil)) (aLenN 0)) aNil)) (.n 2))
    (aSeq (aFor (aOver (aName 1)) (.n 3) (aSeq (aAsg (aLst aNil) (.n 4))
    (aSeq (aFor (aOver (aName 2)) (.n 5) (aFor (aEnum (aName 0)) (.t [(.n 6), (.n 7)]) (aIfS (aAnd (aTst (a2 (o2 fLt) (aIxN 5 (aName 6)) (aLenN 7))) (aTst (aCall C_alike (aRv (aIxN 7 (aIxN 5 (aName 6))) (aRs 3 aRn))))) (aSeq (aAsg (a2 oAdd (a2 oAdd (aSl (aName 5) aNoP (aPart (aName 6))) (aLst (aCons (a2 oAdd (aIxN 5 (aName 6)) (aC (.int 1))) aNil))) (aSl (aName 5) (aPart (a2 oAdd (aName 6) (aC (.int 1)))) aNoP)) (.n 8))
    (aAsg (a2 oAdd (aName 4) (a2 oMulA (aLst (aCons (aName 8) aNil)) (aCB oInt (aCons (a2 (o2 (fIn true)) (aName 8) (aName 4)) aNil)))) (.n 4))) aPass)))
    (aAsg (aName 4) (.n 2)))))
    (aRet (a2 (o2 (fEq true)) (aName 2) (aLst aNil))))))
/-- _law_alike: 0 _law_one, 1 _law_other -/
def t_alike : AS :=
  (aRet (a2 (o2 (fEq false)) (aCB oRepr (aCons (aName 0) aNil)) (aCB oRepr (aCons (aName 1) aNil))))
/-- _law_otherwise: 0 _law_box, 1 _law_some, 2 _law_at, 3 _law_spot, 4 _law_way, 5 _law_odd, 6 _law_moved -/
def t_otherwise (C_take C_thing : AC) : AS :=
  (aSeq (aPar [2, 3, 4] (aCons (aCall C_take (aRs 0 (aRv (a2 oAdd (aLenN 1) (aC (.int 1))) aRn))) (aCons (aCall C_take (aRs 0 (aRv (a2 oAdd (aLenN 1) (aC (.int 1))) aRn))) (aCons (aCall C_take (aRs 0 (aRv (aC (.int 6)) aRn))) aNil))))
    (aSeq (aIfS (aTst (a2 (o2 (fEq false)) (aName 4) (aC (.int 0)))) (aRet (a2 oAdd (aSl (aName 1) aNoP (aPart (aName 2))) (aSl (aName 1) (aPart (a2 oAdd (aName 2) (aC (.int 1)))) aNoP))) aPass)
    (aSeq (aIfS (aTst (a2 (o2 (fEq false)) (aName 4) (aC (.int 1)))) (aRet (a2 oAdd (a2 oAdd (aSl (aName 1) aNoP (aPart (aName 2))) (aLst (aCons (aCall C_thing (aRs 0 aRn)) aNil))) (aSl (aName 1) (aPart (aName 2)) aNoP))) aPass)
    (aSeq (aIfS (aTst (a2 (o2 (fEq false)) (aName 4) (aC (.int 2)))) (aRet (a2 oAdd (a2 oAdd (aSl (aName 1) aNoP (aPart (aName 2))) (a1 oRev (aSl (aName 1) (aPart (aName 2)) (aPart (a2 oAdd (aName 2) (aC (.int 2))))))) (aSl (aName 1) (aPart (a2 oAdd (aName 2) (aC (.int 2)))) aNoP))) aPass)
    (aSeq (aAsg (aLst (aCons (aC (.bool true)) (aCons (aC .none) (aCons (aC (.str "1")) (aCons (aLst (aCons (aC (.int 1)) (aCons (aC (.int 2)) aNil))) (aCons (aTup aNil) (aCons (aLst aNil) (aCons (aC (.int 1)) (aCons (aC (.int 2)) (aCons (aC (.str "fun")) (aCons (aTup (aCons (aC (.str "fun")) aNil)) aNil))))))))))) (.n 5))
    (aSeq (aIfS (aTst (a2 (o2 (fEq false)) (aName 4) (aC (.int 3)))) (aRet (a2 oAdd (a2 oAdd (aSl (aName 1) aNoP (aPart (aName 2))) (aLst (aCons (aIxN 5 (aCall C_take (aRs 0 (aRv (aC (.int 10)) aRn)))) aNil))) (aSl (aName 1) (aPart (a2 oAdd (aName 2) (aC (.int 1)))) aNoP))) aPass)
    (aSeq (aIfS (aTst (a2 (o2 (fEq false)) (aName 4) (aC (.int 4)))) (aSeq (aAsg (a2 oAdd (aSl (aName 1) (aPart (a2 oAdd (aName 2) (aC (.int 1)))) (aPart (a2 oAdd (aName 3) (aC (.int 1))))) (aSl (aName 1) (aPart (aName 2)) (aPart (a2 oAdd (aName 2) (aC (.int 1)))))) (.n 6))
    (aRet (a2 oAdd (a2 oAdd (aSl (aName 1) aNoP (aPart (aName 2))) (aName 6)) (aSl (aName 1) (aPart (a2 oAdd (aCB oMax2 (aCons (aName 2) (aCons (aName 3) aNil))) (aC (.int 1)))) aNoP)))) aPass)
    (aRet (a2 oIx (aLst (aCons (aCB oTuple (aCons (aName 1) aNil)) (aCons (aC .none) (aCons (a2 oAdd (aName 1) (aName 1)) (aCons (aC (.bool true)) (aCons (aC (.str "fun")) aNil)))))) (aCall C_take (aRs 0 (aRv (aC (.int 5)) aRn))))))))))))
/-- _law_rows: 0 _law_box, 1 _law_rows_here, 2 _law_turn, 3 _law_size, 4 _law_row, 5 _law_at, 6 _law_many, 7 _law_step -/
def t_rows (C_take C_thing : AC) : AS :=
  (aSeq (aAsg (aLst aNil) (.n 1))
    (aSeq (aFor (aRng (a2 oAdd (aC (.int 2)) (aCall C_take (aRs 0 (aRv (aC (.int 3)) aRn))))) (.n 2) (aSeq (aAsg (a2 oAdd (aC (.int 1)) (aCall C_take (aRs 0 (aRv (a2 oIx (aLst (aCons (aC (.int 2)) (aCons (aC (.int 3)) (aCons (aC (.int 8)) aNil)))) (aCall C_take (aRs 0 (aRv (aC (.int 3)) aRn)))) aRn)))) (.n 3))
    (aSeq (aAsg (aLst aNil) (.n 4))
    (aSeq (aFor (aRng (aName 3)) (.n 5) (aSeq (aAsg (aCall C_take (aRs 0 (aRv (a2 oIx (aLst (aCons (aC (.int 2)) (aCons (aC (.int 3)) (aCons (aC (.int 7)) aNil)))) (aCall C_take (aRs 0 (aRv (aC (.int 3)) aRn)))) aRn))) (.n 6))
    (aDrop (aMt 4 mAppend (aCons (aLc (aRng (aName 6)) (.n 7) aYes (aCall C_thing (aRs 0 aRn)) [7]) aNil)))))
    (aDrop (aMt 1 mAppend (aCons (aName 4) aNil)))))))
    (aRet (aMove 1))))
/-- _law_right: 0 _law_box, 1 _law_rows_here, 2 _law_kept, 3 _law_turns, 4 _law_turn, 5 _law_many, 6 _law_picks, 7 _law_step, 8 _law_due, 9 _law_told, 10 _law_row -/
def t_right (C_rows C_take C_woven_by C_same C_p_weave C_woven_right : AC) : AS :=
  (aSeq (aAsg (aCall C_rows (aRs 0 aRn)) (.n 1))
    (aSeq (aPar [2, 3] (aCons (aCB oRepr (aCons (aName 1) aNil)) (aCons (aCB oSum (aCons (aLc (aOver (aName 1)) (.n 10) aYes (aLenN 10) [10]) aNil)) aNil)))
    (aSeq (aFor (aRng (aC (.int 4))) (.n 4) (aSeq (aAsg (aCB oMax2 (aCons (aC (.int 0)) (aCons (aCB oMin2 (aCons (aC (.int 40)) (aCons (a2 oAdd (aName 3) (a2 oIx (aLst (aCons (aC (.int 0)) (aCons (aC (.int 0)) (aCons (aC (.int 1)) (aCons (a1 (o1 fNeg) (aC (.int 1))) (aCons (aC (.int 5)) aNil)))))) (aCall C_take (aRs 0 (aRv (aC (.int 5)) aRn))))) aNil))) aNil))) (.n 5))
    (aSeq (aAsg (aLst aNil) (.n 6))
    (aSeq (aFor (aRng (aName 5)) (.n 7) (aDrop (aMt 6 mAppend (aCons (a2 oIx (aLst (aCons (aCall C_take (aRs 0 (aRv (aC (.int 4)) aRn))) (aCons (aCall C_take (aRs 0 (aRv (aC (.int 997)) aRn))) (aCons (aCall C_take (aRs 0 (aRv (aC (.int 9)) aRn))) aNil)))) (aCall C_take (aRs 0 (aRv (aC (.int 3)) aRn)))) aNil))))
    (aSeq (aAsg (a2 oIx (aCall C_woven_by (aRs 1 (aRs 6 aRn))) (aC (.int 0))) (.n 8))
    (aSeq (aIfS (aNot (aTst (aCall C_same (aRv (aLst (aCons (aCall C_p_weave (aRs 1 (aRs 6 aRn))) (aCons (aCall C_p_weave (aRv (aCB oList (aCons (aName 1) aNil)) (aRv (aCB oList (aCons (aName 6) aNil)) aRn))) aNil))) (aRv (aLst (aCons (aName 8) (aCons (aName 8) aNil))) aRn))))) (aRet (aC (.bool false))) aPass)
    (aIfS (aTst (a2 (o2 (fIs true)) (aName 8) (aC .none))) (aSeq (aAsg (aCall C_p_weave (aRs 1 (aRs 6 aRn))) (.n 9))
    (aSeq (aDrop (aMt 9 mReverse aNil))
    (aDrop (aMt 9 mAppend (aCons (aC (.str "more")) aNil))))) aPass)))))))
    (aRet (aAndV (aCall C_woven_right (aRs 0 (aRs 1 aRn))) (aAndV (a2 (o2 (fEq false)) (aCB oRepr (aCons (aName 1) aNil)) (aName 2)) (a2 (o2 (fEq false)) (aCall C_p_weave (aRv (aLst aNil) (aRv (aLst aNil) aRn))) (aLst aNil))))))))
/-- _law_woven_right: 0 _law_box, 1 _law_rows_here, 2 _law_flat, 3 _law_row, 4 _law_found, 5 _law_one, 6 _law_single, 7 _law_woven_one, 8 _law_turn, 9 _law_thing_here, 10 _law_step -/
def t_woven_right (C_woven_by C_take C_otherwise C_same C_is_woven C_p_is_weaving : AC) : AS :=
  (aSeq (aAsg (aLst aNil) (.n 2))
    (aSeq (aFor (aOver (aName 1)) (.n 3) (aSeq (aAsg (aLst aNil) (.n 4))
    (aSeq (aFor (aOver (aName 3)) (.n 5) (aAsg (a2 oAdd (aName 4) (aName 5)) (.n 4)))
    (aDrop (aMt 2 mAppend (aCons (aSl (aName 4) aNoP (aPart (aC (.int 3)))) aNil))))))
    (aSeq (aAsg (aLst aNil) (.n 6))
    (aSeq (aFor (aOver (aName 2)) (.n 3) (aAsg (a2 oAdd (aName 6) (a2 oMulA (aLst (aCons (aLc (aOver (aName 3)) (.n 5) aYes (aLst (aCons (aName 5) aNil)) [5]) aNil)) (aCB oInt (aCons (a2 (o2 (fEq true)) (aName 3) (aLst aNil)) aNil)))) (.n 6)))
    (aSeq (aAsg (a2 oIx (aCall C_woven_by (aRs 6 (aRv (aLc (aRng (aC (.int 12))) (.n 8) aYes (aCall C_take (aRs 0 (aRv (aC (.int 4)) aRn))) [8]) aRn))) (aC (.int 0))) (.n 7))
    (aSeq (aFor (aRng (aC (.int 10))) (.n 8) (aSeq (aAsg (aName 7) (.n 9))
    (aSeq (aFor (aRng (aCall C_take (aRs 0 (aRv (aC (.int 3)) aRn)))) (.n 10) (aAsg (aIf (aTst (a1 (oIsi [.list]) (aName 9))) (aCall C_otherwise (aRs 0 (aRs 9 aRn))) (aName 9)) (.n 9)))
    (aIfS (aNot (aTst (aCall C_same (aRv (aCall C_p_is_weaving (aRs 2 (aRs 9 aRn))) (aRv (aCall C_is_woven (aRs 2 (aRs 9 aRn))) aRn))))) (aRet (aC (.bool false))) aPass))))
    (aRet (aAndV (a2 (o2 (fIs false)) (aCall C_p_is_weaving (aRv (aLst aNil) (aRv (aLst aNil) aRn))) (aC (.bool true))) (a2 (o2 (fIs false)) (aCall C_p_is_weaving (aRv (aLst (aCons (aLst aNil) (aCons (aLst aNil) aNil))) (aRv (aLst aNil) aRn))) (aC (.bool true)))))))))))
/-- law: 0 _law_script, 1 _law_cells, 2 _law_k -/
def t_law (C_folded C_right C_dip : AC) : AS :=
  (aSeq (aAsg (aCall C_folded (aRs 0 (aRv (aC (.int 3)) aRn))) (.n 1))
    (aRet (aCB (oAll fun l => l.all id) (aCons (aLc (aRng (aCB oMax2 (aCons (aC (.int 1)) (aCons (aLenN 1) aNil)))) (.n 2) aYes (aCall C_right (aRv (aCall C_dip (aRs 1 (aRs 2 aRn))) aRn)) [2]) aNil))))
end K49

namespace K49
open PySem L2 Grd Ow PyProof.Rows
def top (i : Nat) : Stmt := PySem.Challenge.pw_handledeeds_k49_weavings_and_picks.main.body.getD i (.Pass ⟨0, 0, 0, 0⟩)
abbrev s_p_weave : Stmt := top 1
abbrev s_p_texts_of : Stmt := top 2
abbrev s_p_is_weaving : Stmt := top 3
abbrev s_dip : Stmt := top 5
abbrev s_take : Stmt := top 6
abbrev s_folded : Stmt := top 7
abbrev s_one_of : Stmt := top 8
abbrev s_same : Stmt := top 9
abbrev s_woven_by : Stmt := top 10
abbrev s_thing : Stmt := top 11
abbrev s_is_woven : Stmt := top 12
abbrev s_alike : Stmt := top 13
abbrev s_otherwise : Stmt := top 14
abbrev s_rows : Stmt := top 15
abbrev s_right : Stmt := top 16
abbrev s_woven_right : Stmt := top 17
abbrev s_law : Stmt := top 18
theorem scp_weave : FnScope ["turns", "picks", "going", "left", "found", "at", "row"] ["turns", "picks"] (defScope s_p_weave) := ⟨rfl, rfl, rfl, by decide +kernel, rfl, by decide +kernel, by decide +kernel⟩
theorem scp_texts_of : FnScope ["some", "one"] ["some"] (defScope s_p_texts_of) := ⟨rfl, rfl, rfl, by decide +kernel, rfl, by decide +kernel, by decide +kernel⟩
theorem scp_is_weaving : FnScope ["rows", "thing", "texts", "spots", "one", "row", "spot", "at"] ["rows", "thing"] (defScope s_p_is_weaving) := ⟨rfl, rfl, rfl, by decide +kernel, rfl, by decide +kernel, by decide +kernel⟩
theorem scdip : FnScope ["_law_script", "_law_k", "_law_cell"] ["_law_script", "_law_k"] (defScope s_dip) := ⟨rfl, rfl, rfl, by decide +kernel, rfl, by decide +kernel, by decide +kernel⟩
theorem sctake : FnScope ["_law_box", "_law_many", "_law_found", "_law_once", "_law_twice"] ["_law_box", "_law_many"] (defScope s_take) := ⟨rfl, rfl, rfl, by decide +kernel, rfl, by decide +kernel, by decide +kernel⟩
theorem scfolded : FnScope ["_law_script", "_law_size", "_law_cells", "_law_k", "_law_cell"] ["_law_script", "_law_size"] (defScope s_folded) := ⟨rfl, rfl, rfl, by decide +kernel, rfl, by decide +kernel, by decide +kernel⟩
theorem scone_of : FnScope ["_law_box", "_law_some"] ["_law_box", "_law_some"] (defScope s_one_of) := ⟨rfl, rfl, rfl, by decide +kernel, rfl, by decide +kernel, by decide +kernel⟩
theorem scsame : FnScope ["_law_found", "_law_due", "_law_one", "_law_other"] ["_law_found", "_law_due"] (defScope s_same) := ⟨rfl, rfl, rfl, by decide +kernel, rfl, by decide +kernel, by decide +kernel⟩
theorem scwoven_by : FnScope ["_law_rows_here", "_law_picks", "_law_going", "_law_found", "_law_used", "_law_at", "_law_row"] ["_law_rows_here", "_law_picks"] (defScope s_woven_by) := ⟨rfl, rfl, rfl, by decide +kernel, rfl, by decide +kernel, by decide +kernel⟩
theorem scthing : FnScope ["_law_box"] ["_law_box"] (defScope s_thing) := ⟨rfl, rfl, rfl, by decide +kernel, rfl, by decide +kernel, by decide +kernel⟩
theorem scis_woven : FnScope ["_law_rows_here", "_law_thing_here", "_law_spots", "_law_one", "_law_found", "_law_spot", "_law_at", "_law_row", "_law_more"] ["_law_rows_here", "_law_thing_here"] (defScope s_is_woven) := ⟨rfl, rfl, rfl, by decide +kernel, rfl, by decide +kernel, by decide +kernel⟩
theorem scalike : FnScope ["_law_one", "_law_other"] ["_law_one", "_law_other"] (defScope s_alike) := ⟨rfl, rfl, rfl, by decide +kernel, rfl, by decide +kernel, by decide +kernel⟩
theorem scotherwise : FnScope ["_law_box", "_law_some", "_law_at", "_law_spot", "_law_way", "_law_odd", "_law_moved"] ["_law_box", "_law_some"] (defScope s_otherwise) := ⟨rfl, rfl, rfl, by decide +kernel, rfl, by decide +kernel, by decide +kernel⟩
theorem scrows : FnScope ["_law_box", "_law_rows_here", "_law_turn", "_law_size", "_law_row", "_law_at", "_law_many", "_law_step"] ["_law_box"] (defScope s_rows) := ⟨rfl, rfl, rfl, by decide +kernel, rfl, by decide +kernel, by decide +kernel⟩
theorem scright : FnScope ["_law_box", "_law_rows_here", "_law_kept", "_law_turns", "_law_turn", "_law_many", "_law_picks", "_law_step", "_law_due", "_law_told", "_law_row"] ["_law_box"] (defScope s_right) := ⟨rfl, rfl, rfl, by decide +kernel, rfl, by decide +kernel, by decide +kernel⟩
theorem scwoven_right : FnScope ["_law_box", "_law_rows_here", "_law_flat", "_law_row", "_law_found", "_law_one", "_law_single", "_law_woven_one", "_law_turn", "_law_thing_here", "_law_step"] ["_law_box", "_law_rows_here"] (defScope s_woven_right) := ⟨rfl, rfl, rfl, by decide +kernel, rfl, by decide +kernel, by decide +kernel⟩
theorem sclaw : FnScope ["_law_script", "_law_cells", "_law_k"] ["_law_script"] (defScope s_law) := ⟨rfl, rfl, rfl, by decide +kernel, rfl, by decide +kernel, by decide +kernel⟩
structure Txt (w : World) (K : PySem.W.Frag) (mg : Str → Option Value) where
  a_p_weave : Addr
  d_p_weave : FuncData
  F_p_weave : Fun K "weave" "weave" s_p_weave a_p_weave d_p_weave
  b_p_weave : Binds K d_p_weave ["turns", "picks"] []
  g_p_weave : mg "weave" = some (.ref a_p_weave)
  a_p_texts_of : Addr
  d_p_texts_of : FuncData
  F_p_texts_of : Fun K "texts_of" "texts_of" s_p_texts_of a_p_texts_of d_p_texts_of
  b_p_texts_of : Binds K d_p_texts_of ["some"] []
  g_p_texts_of : mg "texts_of" = some (.ref a_p_texts_of)
  a_p_is_weaving : Addr
  d_p_is_weaving : FuncData
  F_p_is_weaving : Fun K "is_weaving" "is_weaving" s_p_is_weaving a_p_is_weaving d_p_is_weaving
  b_p_is_weaving : Binds K d_p_is_weaving ["rows", "thing"] []
  g_p_is_weaving : mg "is_weaving" = some (.ref a_p_is_weaving)
  a_dip : Addr
  d_dip : FuncData
  F_dip : Fun K "_law_dip" "_law_dip" s_dip a_dip d_dip
  b_dip : Binds K d_dip ["_law_script", "_law_k"] []
  g_dip : mg "_law_dip" = some (.ref a_dip)
  a_take : Addr
  d_take : FuncData
  F_take : Fun K "_law_take" "_law_take" s_take a_take d_take
  b_take : Binds K d_take ["_law_box", "_law_many"] []
  g_take : mg "_law_take" = some (.ref a_take)
  a_folded : Addr
  d_folded : FuncData
  F_folded : Fun K "_law_folded" "_law_folded" s_folded a_folded d_folded
  b_folded : Binds K d_folded ["_law_script", "_law_size"] []
  g_folded : mg "_law_folded" = some (.ref a_folded)
  a_one_of : Addr
  d_one_of : FuncData
  F_one_of : Fun K "_law_one_of" "_law_one_of" s_one_of a_one_of d_one_of
  b_one_of : Binds K d_one_of ["_law_box", "_law_some"] []
  g_one_of : mg "_law_one_of" = some (.ref a_one_of)
  a_same : Addr
  d_same : FuncData
  F_same : Fun K "_law_same" "_law_same" s_same a_same d_same
  b_same : Binds K d_same ["_law_found", "_law_due"] []
  g_same : mg "_law_same" = some (.ref a_same)
  a_woven_by : Addr
  d_woven_by : FuncData
  F_woven_by : Fun K "_law_woven_by" "_law_woven_by" s_woven_by a_woven_by d_woven_by
  b_woven_by : Binds K d_woven_by ["_law_rows_here", "_law_picks"] []
  g_woven_by : mg "_law_woven_by" = some (.ref a_woven_by)
  a_thing : Addr
  d_thing : FuncData
  F_thing : Fun K "_law_thing" "_law_thing" s_thing a_thing d_thing
  b_thing : Binds K d_thing ["_law_box"] []
  g_thing : mg "_law_thing" = some (.ref a_thing)
  a_is_woven : Addr
  d_is_woven : FuncData
  F_is_woven : Fun K "_law_is_woven" "_law_is_woven" s_is_woven a_is_woven d_is_woven
  b_is_woven : Binds K d_is_woven ["_law_rows_here", "_law_thing_here"] []
  g_is_woven : mg "_law_is_woven" = some (.ref a_is_woven)
  a_alike : Addr
  d_alike : FuncData
  F_alike : Fun K "_law_alike" "_law_alike" s_alike a_alike d_alike
  b_alike : Binds K d_alike ["_law_one", "_law_other"] []
  g_alike : mg "_law_alike" = some (.ref a_alike)
  a_otherwise : Addr
  d_otherwise : FuncData
  F_otherwise : Fun K "_law_otherwise" "_law_otherwise" s_otherwise a_otherwise d_otherwise
  b_otherwise : Binds K d_otherwise ["_law_box", "_law_some"] []
  g_otherwise : mg "_law_otherwise" = some (.ref a_otherwise)
  a_rows : Addr
  d_rows : FuncData
  F_rows : Fun K "_law_rows" "_law_rows" s_rows a_rows d_rows
  b_rows : Binds K d_rows ["_law_box"] []
  g_rows : mg "_law_rows" = some (.ref a_rows)
  a_right : Addr
  d_right : FuncData
  F_right : Fun K "_law_right" "_law_right" s_right a_right d_right
  b_right : Binds K d_right ["_law_box"] []
  g_right : mg "_law_right" = some (.ref a_right)
  a_woven_right : Addr
  d_woven_right : FuncData
  F_woven_right : Fun K "_law_woven_right" "_law_woven_right" s_woven_right a_woven_right d_woven_right
  b_woven_right : Binds K d_woven_right ["_law_box", "_law_rows_here"] []
  g_woven_right : mg "_law_woven_right" = some (.ref a_woven_right)
  a_law : Addr
  d_law : FuncData
  F_law : Fun K "law" "law" s_law a_law d_law
  b_law : Binds K d_law ["_law_script"] []
  g_law : mg "law" = some (.ref a_law)
  n_abs : mg "abs" = none
  n_all : mg "all" = none
  n_bool : mg "bool" = none
  n_enumerate : mg "enumerate" = none
  n_int : mg "int" = none
  n_isinstance : mg "isinstance" = none
  n_len : mg "len" = none
  n_list : mg "list" = none
  n_max : mg "max" = none
  n_min : mg "min" = none
  n_range : mg "range" = none
  n_repr : mg "repr" = none
  n_str : mg "str" = none
  n_sum : mg "sum" = none
  n_tuple : mg "tuple" = none
  n_zip : mg "zip" = none
end K49

namespace K49
open PySem L2 Grd Ow PyProof.Rows
section
variable {P : Program} {w : World} {K : PySem.W.Frag} {mg : Str → Option Value} {base : Heap}
theorem k_p_weave (T : Txt w K mg) {C : AC} (k : Nat)
    (plain : ∀ xs R, C xs R → xs.length = 2 ∧ t_p_weave (retD [true, true] xs R) (beg 7 xs)) : Fn P w K mg base CX0 (k + 1) T.a_p_weave T.d_p_weave ["turns", "picks"] (spA K C) :=
  mkA T.F_p_weave scp_weave [true, true] (fun cdv A outer s H E vs gd hr =>
    (ss_cons (ss_par3 (i := 2) (j := 3) (l := 4) (by rfl) scp_weave.nd rfl rfl rfl (by decide) (by decide) (by decide) rfl rfl rfl (sa_cons (se_lc (own := [("row", 6)]) (by rfl) scp_weave.nd (si_over (se_name (pv 0))) (blkOk_by (own := [("row", 6)]) (N := ["turns", "picks", "going", "left", "found", "at", "row"]) (sc := defScope s_p_weave) (by decide +kernel)) (gt_name 6) (by simp [Tg.slots, slotss]) (fun _ _ _ _ _ => (pg_name (i := 6) scp_weave.nd rfl (Or.inl rfl))) (fun _ _ _ _ _ => sts_nil) (fun _ _ _ _ _ => (se_callTy call_list_of opa_list (by rfl) T.n_list (by decide +kernel) (sa_cons (se_name (pv 6)) sa_nil)))) (sa_cons (se_rev (se_callTy call_list_of opa_list (by rfl) T.n_list (by decide +kernel) (sa_cons (se_name (pv 1)) sa_nil))) (sa_cons (se_lst sa_nil) sa_nil))) (by rfl) (np1 rfl) (np1 rfl) (np1 rfl))
    (ss_cons (ss_while (st_cmp c_gt (se_lenN (pv 2) (by rfl) T.n_len PySem.boot_len) se_int (nomark _)) (ss_cons (ss_if (st_cmp (c_eq hr.units) (se_lenN (pv 3) (by rfl) T.n_len PySem.boot_len) se_int (nomark _)) (ss_one (ss_ret se_non)) ss_nil)
    (ss_cons (ss_set (i := 5) scp_weave.nd rfl (Or.inl rfl) (se_mod (se_mt0 PySem.F.slot_list_pop PySem.F.type_list_pop mt_pop mt_po (pv 3)) (se_lenN (pv 2) (by rfl) T.n_len PySem.boot_len)) (np1 rfl))
    (ss_cons (ss_expr (se_mt PySem.F.slot_list_extend PySem.F.type_list_extend mt_extend mt_ex (pv 4) (sa_cons (se_mtK (hu_of hr) PySem.F.slot_list_pop PySem.F.type_list_pop mt_popAt mt_pa (pv 2) (se_name (pv 5)) (fun _ _ => rfl) (sa_cons se_int sa_nil)) sa_nil)))
    (ss_one (ss_setLc (own := [("row", 6)]) (i := 2) (by rfl) scp_weave.nd rfl rfl (sw_true rfl rfl rfl (by decide +kernel)) (si_over (se_name (pv 2))) (blkOk_by (own := [("row", 6)]) (N := ["turns", "picks", "going", "left", "found", "at", "row"]) (sc := defScope s_p_weave) (by decide +kernel)) (gt_name 6) (by simp [Tg.slots, slotss]) (np1 rfl) (fun _ _ _ _ _ => (pg_name (i := 6) scp_weave.nd rfl (Or.inl rfl))) (fun _ _ _ _ _ => (sts_one (st_cmp c_gt (se_lenN (pv 6) (by rfl) T.n_len PySem.boot_len) se_int (nomark _)))) (fun _ _ _ _ _ => (se_name (pv 6)))))))) PassesOwn.never)
    (ss_one (ss_ret (se_move (pv 4))))))) plain
theorem k_p_texts_of (T : Txt w K mg) {C : AC} (k : Nat)
    (plain : ∀ xs R, C xs R → xs.length = 1 ∧ t_p_texts_of (retD [true] xs R) (beg 2 xs)) : Fn P w K mg base CX0 (k + 1) T.a_p_texts_of T.d_p_texts_of ["some"] (spA K C) :=
  mkA T.F_p_texts_of scp_texts_of [true] (fun cdv A outer s H E vs gd hr =>
    (ss_one (ss_ret (se_lc (own := [("one", 1)]) (by rfl) scp_texts_of.nd (si_over (se_name (pv 0))) (blkOk_by (own := [("one", 1)]) (N := ["some", "one"]) (sc := defScope s_p_texts_of) (by decide +kernel)) (gt_name 1) (by simp [Tg.slots, slotss]) (fun _ _ _ _ _ => (pg_name (i := 1) scp_texts_of.nd rfl (Or.inl rfl))) (fun _ _ _ _ _ => sts_nil) (fun _ _ _ _ _ => (se_callB (call_reprD gd hr.units) opa_repr (by rfl) T.n_repr (by decide +kernel) (sa_cons (se_name (pv 1)) sa_nil))))))) plain
-- NO RULE is_weaving: DictComp(key=BinOp(left=BinOp(left=Subscript(value=Name(id='spot', ctx=Load()),
theorem k_dip (T : Txt w K mg) {C : AC} (k : Nat)
    (plain : ∀ xs R, C xs R → xs.length = 2 ∧ t_dip (retD [true, true] xs R) (beg 3 xs)) : Fn P w K mg base CX0 (k + 1) T.a_dip T.d_dip ["_law_script", "_law_k"] (spA K C) :=
  mkA T.F_dip scdip [true, true] (fun cdv A outer s H E vs gd hr =>
    (ss_cons (ss_set (i := 2) scdip.nd rfl (Or.inl rfl) (se_if (st_cmp c_lt (se_name (pv 1)) (se_lenN (pv 0) (by rfl) T.n_len PySem.boot_len) (nomark _)) (se_ixN (pv 0) (se_name (pv 1)) (fun _ _ => rfl)) se_int) (np1 rfl))
    (ss_one (ss_ret (se_lst (sa_cons (se_mulA (se_callB call_abs opa_abs (by rfl) T.n_abs (by decide +kernel) (sa_cons (se_name (pv 2)) sa_nil)) (se_callTy call_int1 opa_int (by rfl) T.n_int (by decide +kernel) (sa_cons (se_cmp c_ge (se_callB call_abs opa_abs (by rfl) T.n_abs (by decide +kernel) (sa_cons (se_name (pv 2)) sa_nil)) (se_pow se_int se_int) (nomark _)) sa_nil))) (sa_cons (se_add (se_add (se_mod (se_name (pv 2)) se_int) (se_mulA se_int (se_name (pv 1)))) se_int) (sa_cons se_int sa_nil)))))))) plain
theorem k_take (T : Txt w K mg) {C : AC} (k : Nat)
    (plain : ∀ xs R, C xs R → xs.length = 2 ∧ t_take (retD [true, true] xs R) (beg 5 xs)) : Fn P w K mg base CX0 (k + 1) T.a_take T.d_take ["_law_box", "_law_many"] (spA K C) :=
  mkA T.F_take sctake [true, true] (fun cdv A outer s H E vs gd hr =>
    (ss_cons (ss_if (st_cmp c_gt (se_ixN (pv 0) se_int (fun _ _ => rfl)) se_int (nomark _)) (ss_cons (ss_set (i := 2) sctake.nd rfl (Or.inl rfl) (se_mod (se_ixN (pv 0) se_int (fun _ _ => rfl)) (se_name (pv 1))) (np1 rfl))
    (ss_cons (ss_put (se_fdiv (se_ixN (pv 0) se_int (fun _ _ => rfl)) (se_name (pv 1))) (pv 0) se_int)
    (ss_one (ss_ret (se_move (pv 2)))))) ss_nil)
    (ss_cons (ss_put (se_add (se_ixN (pv 0) se_int (fun _ _ => rfl)) se_int) (pv 0) se_int)
    (ss_cons (ss_set (i := 3) sctake.nd rfl (Or.inl rfl) (se_mod (se_pow (se_add (se_ixN (pv 0) se_int (fun _ _ => rfl)) (se_mulA se_int (se_ixN (pv 0) se_int (fun _ _ => rfl)))) se_int) se_int) (np1 rfl))
    (ss_cons (ss_set (i := 4) sctake.nd rfl (Or.inl rfl) (se_mod (se_mulA (se_add (se_add (se_name (pv 3)) (se_ixN (pv 0) se_int (fun _ _ => rfl))) (se_fdiv (se_ixN (pv 0) se_int (fun _ _ => rfl)) se_int)) (se_add (se_add (se_mod (se_name (pv 3)) se_int) se_int) (se_ixN (pv 0) se_int (fun _ _ => rfl)))) se_int) (np1 rfl))
    (ss_one (ss_ret (se_mod (se_fdiv (se_mod (se_add (se_mulA (se_name (pv 4)) se_int) (se_name (pv 3))) se_int) se_int) (se_name (pv 1)))))))))) plain
theorem k_folded (T : Txt w K mg) {C : AC} (k : Nat)
    (plain : ∀ xs R, C xs R → xs.length = 2 ∧ t_folded (retD [true, true] xs R) (beg 5 xs)) : Fn P w K mg base CX0 (k + 1) T.a_folded T.d_folded ["_law_script", "_law_size"] (spA K C) :=
  mkA T.F_folded scfolded [true, true] (fun cdv A outer s H E vs gd hr =>
    (ss_cons (ss_set (i := 2) scfolded.nd rfl (Or.inl rfl) (se_callTy call_list_of opa_list (by rfl) T.n_list (by decide +kernel) (sa_cons (se_sl (se_name (pv 0)) so_none (so_some (se_name (pv 1)))) sa_nil)) (np1 rfl))
    (ss_cons (ss_for rfl (si_enum (by rfl) T.n_enumerate (se_sl (se_name (pv 0)) (so_some (se_name (pv 1))) (so_some se_int))) (pg_tupA rfl (pgs_cons (pg_name (i := 3) scfolded.nd rfl (Or.inl rfl)) (pgs_cons (pg_name (i := 4) scfolded.nd rfl (Or.inl rfl)) pgs_nil))) (gt_tup (gts_cons (gt_name 3) (gts_cons (gt_name 4) gts_nil))) (ss_one (ss_put (se_add (se_ixN (pv 2) (se_mod (se_name (pv 3)) (se_name (pv 1))) (fun _ _ => rfl)) (se_mulA (se_name (pv 4)) (se_add (se_name (pv 3)) se_int))) (pv 2) (se_mod (se_name (pv 3)) (se_name (pv 1))))) (nps (by simp [Tg.slots, slotss])) PassesOwn.never)
    (ss_one (ss_ret (se_move (pv 2))))))) plain
theorem k_one_of (T : Txt w K mg) {C_take : AC} {C : AC} (k : Nat) {j_take : Nat} (G_take : Fn P w K mg base CX0 j_take T.a_take T.d_take ["_law_box", "_law_many"] (spA K C_take)) (h_take : j_take ≤ k)
    (plain : ∀ xs R, C xs R → xs.length = 2 ∧ t_one_of C_take (retD [true, true] xs R) (beg 2 xs)) : Fn P w K mg base CX0 (k + 1) T.a_one_of T.d_one_of ["_law_box", "_law_some"] (spA K C) :=
  mkA T.F_one_of scone_of [true, true] (fun cdv A outer s H E vs gd hr =>
    (ss_one (ss_ret (se_ixN (pv 1) (se_call G_take gd (hr.mono h_take) rfl T.g_take T.F_take.kp T.b_take pass0 (sr_s (pv 0) (sr_v (se_lenN (pv 1) (by rfl) T.n_len PySem.boot_len) sr_nil))) (fun _ _ => rfl))))) plain
theorem k_same (T : Txt w K mg) {C_same : AC} {C : AC} (k : Nat) {j_same : Nat} (G_same : Fn P w K mg base CX0 j_same T.a_same T.d_same ["_law_found", "_law_due"] (spA K C_same)) (h_same : j_same ≤ k)
    (plain : ∀ xs R, C xs R → xs.length = 2 ∧ t_same C_same (retD [true, true] xs R) (beg 4 xs)) : Fn P w K mg base CX0 (k + 1) T.a_same T.d_same ["_law_found", "_law_due"] (spA K C) :=
  mkA T.F_same scsame [true, true] (fun cdv A outer s H E vs gd hr =>
    (ss_cons (ss_if (st_val (se_isi2 (se_name (pv 1)) .list .tuple (pe_bltn (v := .ty "list") (by rfl) T.n_list (by decide +kernel) rfl) (pe_bltn (v := .ty "tuple") (by rfl) T.n_tuple (by decide +kernel) rfl) (by rfl) T.n_isinstance (by decide +kernel))) (ss_cons (ss_if (st_of (sw_or (st_cmp (c_ne hr.units) (se_isi (se_name (pv 0)) .list (pe_bltn (v := .ty "list") (by rfl) T.n_list (by decide +kernel) rfl) (by rfl) T.n_isinstance (by decide +kernel)) (se_isi (se_name (pv 1)) .list (pe_bltn (v := .ty "list") (by rfl) T.n_list (by decide +kernel) rfl) (by rfl) T.n_isinstance (by decide +kernel)) (nomark _)) (sw_or1 (st_cmp (c_ne hr.units) (se_isi (se_name (pv 0)) .tuple (pe_bltn (v := .ty "tuple") (by rfl) T.n_tuple (by decide +kernel) rfl) (by rfl) T.n_isinstance (by decide +kernel)) (se_isi (se_name (pv 1)) .tuple (pe_bltn (v := .ty "tuple") (by rfl) T.n_tuple (by decide +kernel) rfl) (by rfl) T.n_isinstance (by decide +kernel)) (nomark _))))) (ss_one (ss_ret se_bl)) ss_nil)
    (ss_one (ss_ret (se_and (se_cmp (c_eq hr.units) (se_lenN (pv 0) (by rfl) T.n_len PySem.boot_len) (se_lenN (pv 1) (by rfl) T.n_len PySem.boot_len) (nomark _)) (se_one (se_callB (cr_all rfl) opa_all (by rfl) T.n_all (by decide +kernel) (sa_cons (se_lc (own := [("_law_one", 2), ("_law_other", 3)]) (by rfl) scsame.nd (si_zip2 (by rfl) T.n_zip (se_name (pv 0)) (se_name (pv 1))) (blkOk_by (own := [("_law_one", 2), ("_law_other", 3)]) (N := ["_law_found", "_law_due", "_law_one", "_law_other"]) (sc := defScope s_same) (by decide +kernel)) (gt_tup (gts_cons (gt_name 2) (gts_cons (gt_name 3) gts_nil))) (by simp [Tg.slots, slotss]) (fun _ _ _ _ _ => (pg_tupA rfl (pgs_cons (pg_name (i := 2) scsame.nd rfl (Or.inl rfl)) (pgs_cons (pg_name (i := 3) scsame.nd rfl (Or.inl rfl)) pgs_nil)))) (fun _ _ _ _ _ => sts_nil) (fun _ _ _ _ _ => (se_call G_same gd (hr.mono h_same) rfl T.g_same T.F_same.kp T.b_same pass0 (sr_s (pv 2) (sr_s (pv 3) sr_nil))))) sa_nil))))))) ss_nil)
    (ss_cons (ss_if (st_of (sw_or (st_cmp c_is (se_name (pv 1)) se_non (nomark _)) (sw_or1 (st_cmp c_is (se_name (pv 0)) se_non (nomark _))))) (ss_one (ss_ret (se_and (se_cmp c_is (se_name (pv 1)) se_non (nomark _)) (se_one (se_cmp c_is (se_name (pv 0)) se_non (nomark _)))))) ss_nil)
    (ss_cons (ss_if (st_of (sw_or (st_val (se_isi (se_name (pv 1)) .bool (pe_bltn (v := .ty "bool") (by rfl) T.n_bool (by decide +kernel) rfl) (by rfl) T.n_isinstance (by decide +kernel))) (sw_or1 (st_val (se_isi (se_name (pv 1)) .str (pe_bltn (v := .ty "str") (by rfl) T.n_str (by decide +kernel) rfl) (by rfl) T.n_isinstance (by decide +kernel)))))) (ss_one (ss_ret (se_and (se_cmp (c_eq hr.units) (se_isi (se_name (pv 0)) .bool (pe_bltn (v := .ty "bool") (by rfl) T.n_bool (by decide +kernel) rfl) (by rfl) T.n_isinstance (by decide +kernel)) (se_isi (se_name (pv 1)) .bool (pe_bltn (v := .ty "bool") (by rfl) T.n_bool (by decide +kernel) rfl) (by rfl) T.n_isinstance (by decide +kernel)) (nomark _)) (se_one (se_cmp (c_eq hr.units) (se_name (pv 0)) (se_name (pv 1)) (nomark _)))))) ss_nil)
    (ss_one (ss_ret (se_and (se_isi (se_name (pv 0)) .int (pe_bltn (v := .ty "int") (by rfl) T.n_int (by decide +kernel) rfl) (by rfl) T.n_isinstance (by decide +kernel)) (se_and (se_not (se_isi (se_name (pv 0)) .bool (pe_bltn (v := .ty "bool") (by rfl) T.n_bool (by decide +kernel) rfl) (by rfl) T.n_isinstance (by decide +kernel))) (se_one (se_cmp (c_eq hr.units) (se_name (pv 0)) (se_name (pv 1)) (nomark _))))))))))) plain
theorem k_woven_by (T : Txt w K mg) {C : AC} (k : Nat)
    (plain : ∀ xs R, C xs R → xs.length = 2 ∧ t_woven_by (retD [true, true] xs R) (beg 7 xs)) : Fn P w K mg base CX0 (k + 1) T.a_woven_by T.d_woven_by ["_law_rows_here", "_law_picks"] (spA K C) :=
  mkA T.F_woven_by scwoven_by [true, true] (fun cdv A outer s H E vs gd hr =>
    (ss_cons (ss_par3 (i := 2) (j := 3) (l := 4) (by rfl) scwoven_by.nd rfl rfl rfl (by decide) (by decide) (by decide) rfl rfl rfl (sa_cons (se_lc (own := [("_law_row", 6)]) (by rfl) scwoven_by.nd (si_over (se_name (pv 0))) (blkOk_by (own := [("_law_row", 6)]) (N := ["_law_rows_here", "_law_picks", "_law_going", "_law_found", "_law_used", "_law_at", "_law_row"]) (sc := defScope s_woven_by) (by decide +kernel)) (gt_name 6) (by simp [Tg.slots, slotss]) (fun _ _ _ _ _ => (pg_name (i := 6) scwoven_by.nd rfl (Or.inl rfl))) (fun _ _ _ _ _ => sts_nil) (fun _ _ _ _ _ => (se_callTy call_list_of opa_list (by rfl) T.n_list (by decide +kernel) (sa_cons (se_name (pv 6)) sa_nil)))) (sa_cons (se_lst sa_nil) (sa_cons se_int sa_nil))) (by rfl) (np1 rfl) (np1 rfl) (np1 rfl))
    (ss_cons (ss_while (st_cmp (c_ne hr.units) (se_name (pv 2)) (se_lst sa_nil) (nomark _)) (ss_cons (ss_if (st_cmp (c_eq hr.units) (se_name (pv 4)) (se_lenN (pv 1) (by rfl) T.n_len PySem.boot_len) (nomark _)) (ss_one (ss_ret (se_tup (sa_cons se_non (sa_cons (se_name (pv 4)) sa_nil))))) ss_nil)
    (ss_cons (ss_set (i := 5) scwoven_by.nd rfl (Or.inl rfl) (se_mod (se_ixN (pv 1) (se_name (pv 4)) (fun _ _ => rfl)) (se_lenN (pv 2) (by rfl) T.n_len PySem.boot_len)) (np1 rfl))
    (ss_cons (ss_set (i := 3) scwoven_by.nd rfl (Or.inl rfl) (se_add (se_name (pv 3)) (se_ix (se_ixN (pv 2) (se_name (pv 5)) (fun _ _ => rfl)) se_int (fun _ _ => rfl))) (np1 rfl))
    (ss_cons (ss_put (se_sl (se_ixN (pv 2) (se_name (pv 5)) (fun _ _ => rfl)) (so_some se_int) so_none) (pv 2) (se_name (pv 5)))
    (ss_one (ss_par2 (i := 2) (j := 4) (by rfl) scwoven_by.nd rfl rfl (by decide) rfl rfl (sa_cons (se_lc (own := [("_law_row", 6)]) (by rfl) scwoven_by.nd (si_over (se_name (pv 2))) (blkOk_by (own := [("_law_row", 6)]) (N := ["_law_rows_here", "_law_picks", "_law_going", "_law_found", "_law_used", "_law_at", "_law_row"]) (sc := defScope s_woven_by) (by decide +kernel)) (gt_name 6) (by simp [Tg.slots, slotss]) (fun _ _ _ _ _ => (pg_name (i := 6) scwoven_by.nd rfl (Or.inl rfl))) (fun _ _ _ _ _ => (sts_one (st_cmp (c_ne hr.units) (se_name (pv 6)) (se_lst sa_nil) (nomark _)))) (fun _ _ _ _ _ => (se_name (pv 6)))) (sa_cons (se_add (se_name (pv 4)) se_int) sa_nil)) (by rfl) (np1 rfl) (np1 rfl))))))) PassesOwn.never)
    (ss_one (ss_ret (se_tup (sa_cons (se_name (pv 3)) (sa_cons (se_name (pv 4)) sa_nil)))))))) plain
theorem k_thing (T : Txt w K mg) {C_one_of C_take : AC} {C : AC} (k : Nat) {j_one_of : Nat} (G_one_of : Fn P w K mg base CX0 j_one_of T.a_one_of T.d_one_of ["_law_box", "_law_some"] (spA K C_one_of)) (h_one_of : j_one_of ≤ k) {j_take : Nat} (G_take : Fn P w K mg base CX0 j_take T.a_take T.d_take ["_law_box", "_law_many"] (spA K C_take)) (h_take : j_take ≤ k)
    (plain : ∀ xs R, C xs R → xs.length = 1 ∧ t_thing C_one_of C_take (retD [true] xs R) (beg 1 xs)) : Fn P w K mg base CX0 (k + 1) T.a_thing T.d_thing ["_law_box"] (spA K C) :=
  mkA T.F_thing scthing [true] (fun cdv A outer s H E vs gd hr =>
    (ss_one (ss_ret (se_call G_one_of gd (hr.mono h_one_of) rfl T.g_one_of T.F_one_of.kp T.b_one_of pass0 (sr_s (pv 0) (sr_v (se_lst (sa_cons se_int (sa_cons se_int (sa_cons se_int (sa_cons se_int (sa_cons (se_tup (sa_cons se_int (sa_cons se_int sa_nil))) (sa_cons se_str (sa_cons (se_tup (sa_cons se_int (sa_cons (se_tup (sa_cons se_int (sa_cons se_int sa_nil))) sa_nil))) (sa_cons (se_call G_take gd (hr.mono h_take) rfl T.g_take T.F_take.kp T.b_take pass0 (sr_s (pv 0) (sr_v se_int sr_nil))) sa_nil))))))))) sr_nil)))))) plain
theorem k_is_woven (T : Txt w K mg) {C_alike : AC} {C : AC} (k : Nat) {j_alike : Nat} (G_alike : Fn P w K mg base CX0 j_alike T.a_alike T.d_alike ["_law_one", "_law_other"] (spA K C_alike)) (h_alike : j_alike ≤ k)
    (plain : ∀ xs R, C xs R → xs.length = 2 ∧ t_is_woven C_alike (retD [true, true] xs R) (beg 9 xs)) : Fn P w K mg base CX0 (k + 1) T.a_is_woven T.d_is_woven ["_law_rows_here", "_law_thing_here"] (spA K C) :=
  mkA T.F_is_woven scis_woven [true, true] (fun cdv A outer s H E vs gd hr =>
    (ss_cons (ss_if (st_of (sw_or (st_not (st_val (se_isi (se_name (pv 1)) .list (pe_bltn (v := .ty "list") (by rfl) T.n_list (by decide +kernel) rfl) (by rfl) T.n_isinstance (by decide +kernel)))) (sw_or1 (st_cmp (c_ne hr.units) (se_lenN (pv 1) (by rfl) T.n_len PySem.boot_len) (se_callB (cr_sum rfl) opa_sum (by rfl) T.n_sum (by decide +kernel) (sa_cons (se_lc (own := [("_law_row", 7)]) (by rfl) scis_woven.nd (si_over (se_name (pv 0))) (blkOk_by (own := [("_law_row", 7)]) (N := ["_law_rows_here", "_law_thing_here", "_law_spots", "_law_one", "_law_found", "_law_spot", "_law_at", "_law_row", "_law_more"]) (sc := defScope s_is_woven) (by decide +kernel)) (gt_name 7) (by simp [Tg.slots, slotss]) (fun _ _ _ _ _ => (pg_name (i := 7) scis_woven.nd rfl (Or.inl rfl))) (fun _ _ _ _ _ => sts_nil) (fun _ _ _ _ _ => (se_lenN (pv 7) (by rfl) T.n_len PySem.boot_len))) sa_nil)) (nomark _))))) (ss_one (ss_ret se_bl)) ss_nil)
    (ss_cons (ss_set (i := 2) scis_woven.nd rfl (Or.inl rfl) (se_lst (sa_cons (se_mulA (se_lst (sa_cons se_int sa_nil)) (se_lenN (pv 0) (by rfl) T.n_len PySem.boot_len)) sa_nil)) (np1 rfl))
    (ss_cons (ss_for rfl (si_over (se_name (pv 1))) (pg_name (i := 3) scis_woven.nd rfl (Or.inl rfl)) (gt_name 3) (ss_cons (ss_set (i := 4) scis_woven.nd rfl (Or.inl rfl) (se_lst sa_nil) (np1 rfl))
    (ss_cons (ss_for rfl (si_over (se_name (pv 2))) (pg_name (i := 5) scis_woven.nd rfl (Or.inl rfl)) (gt_name 5) (ss_one (ss_for rfl (si_enum (by rfl) T.n_enumerate (se_name (pv 0))) (pg_tupA rfl (pgs_cons (pg_name (i := 6) scis_woven.nd rfl (Or.inl rfl)) (pgs_cons (pg_name (i := 7) scis_woven.nd rfl (Or.inl rfl)) pgs_nil))) (gt_tup (gts_cons (gt_name 6) (gts_cons (gt_name 7) gts_nil))) (ss_one (ss_if (st_of (sw_and (st_cmp c_lt (se_ixN (pv 5) (se_name (pv 6)) (fun _ _ => rfl)) (se_lenN (pv 7) (by rfl) T.n_len PySem.boot_len) (nomark _)) (sw_and1 (st_val (se_call G_alike gd (hr.mono h_alike) rfl T.g_alike T.F_alike.kp T.b_alike pass0 (sr_v (se_ixN (pv 7) (se_ixN (pv 5) (se_name (pv 6)) (fun _ _ => rfl)) (fun _ _ => rfl)) (sr_s (pv 3) sr_nil))))))) (ss_cons (ss_set (i := 8) scis_woven.nd rfl (Or.inl rfl) (se_add (se_add (se_sl (se_name (pv 5)) so_none (so_some (se_name (pv 6)))) (se_lst (sa_cons (se_add (se_ixN (pv 5) (se_name (pv 6)) (fun _ _ => rfl)) se_int) sa_nil))) (se_sl (se_name (pv 5)) (so_some (se_add (se_name (pv 6)) se_int)) so_none)) (np1 rfl))
    (ss_one (ss_set (i := 4) scis_woven.nd rfl (Or.inl rfl) (se_add (se_name (pv 4)) (se_mulA (se_lst (sa_cons (se_name (pv 8)) sa_nil)) (se_callTy call_int1 opa_int (by rfl) T.n_int (by decide +kernel) (sa_cons (se_cmp (c_notIn (un hr)) (se_name (pv 8)) (se_name (pv 4)) (by rfl)) sa_nil)))) (np1 rfl)))) ss_nil)) (nps (by simp [Tg.slots, slotss])) PassesOwn.never)) (nps (by simp [Tg.slots, slotss])) PassesOwn.never)
    (ss_one (ss_set (i := 2) scis_woven.nd rfl (Or.inl rfl) (se_name (pv 4)) (np1 rfl))))) (nps (by simp [Tg.slots, slotss])) PassesOwn.never)
    (ss_one (ss_ret (se_cmp (c_ne hr.units) (se_name (pv 2)) (se_lst sa_nil) (nomark _)))))))) plain
theorem k_alike (T : Txt w K mg) {C : AC} (k : Nat)
    (plain : ∀ xs R, C xs R → xs.length = 2 ∧ t_alike (retD [true, true] xs R) (beg 2 xs)) : Fn P w K mg base CX0 (k + 1) T.a_alike T.d_alike ["_law_one", "_law_other"] (spA K C) :=
  mkA T.F_alike scalike [true, true] (fun cdv A outer s H E vs gd hr =>
    (ss_one (ss_ret (se_cmp (c_eq hr.units) (se_callB (call_reprD gd hr.units) opa_repr (by rfl) T.n_repr (by decide +kernel) (sa_cons (se_name (pv 0)) sa_nil)) (se_callB (call_reprD gd hr.units) opa_repr (by rfl) T.n_repr (by decide +kernel) (sa_cons (se_name (pv 1)) sa_nil)) (nomark _))))) plain
theorem k_otherwise (T : Txt w K mg) {C_take C_thing : AC} {C : AC} (k : Nat) {j_take : Nat} (G_take : Fn P w K mg base CX0 j_take T.a_take T.d_take ["_law_box", "_law_many"] (spA K C_take)) (h_take : j_take ≤ k) {j_thing : Nat} (G_thing : Fn P w K mg base CX0 j_thing T.a_thing T.d_thing ["_law_box"] (spA K C_thing)) (h_thing : j_thing ≤ k)
    (plain : ∀ xs R, C xs R → xs.length = 2 ∧ t_otherwise C_take C_thing (retD [true, true] xs R) (beg 7 xs)) : Fn P w K mg base CX0 (k + 1) T.a_otherwise T.d_otherwise ["_law_box", "_law_some"] (spA K C) :=
  mkA T.F_otherwise scotherwise [true, true] (fun cdv A outer s H E vs gd hr =>
    (ss_cons (ss_par3 (i := 2) (j := 3) (l := 4) (by rfl) scotherwise.nd rfl rfl rfl (by decide) (by decide) (by decide) rfl rfl rfl (sa_cons (se_call G_take gd (hr.mono h_take) rfl T.g_take T.F_take.kp T.b_take pass0 (sr_s (pv 0) (sr_v (se_add (se_lenN (pv 1) (by rfl) T.n_len PySem.boot_len) se_int) sr_nil))) (sa_cons (se_call G_take gd (hr.mono h_take) rfl T.g_take T.F_take.kp T.b_take pass0 (sr_s (pv 0) (sr_v (se_add (se_lenN (pv 1) (by rfl) T.n_len PySem.boot_len) se_int) sr_nil))) (sa_cons (se_call G_take gd (hr.mono h_take) rfl T.g_take T.F_take.kp T.b_take pass0 (sr_s (pv 0) (sr_v se_int sr_nil))) sa_nil))) (by rfl) (np1 rfl) (np1 rfl) (np1 rfl))
    (ss_cons (ss_if (st_cmp (c_eq hr.units) (se_name (pv 4)) se_int (nomark _)) (ss_one (ss_ret (se_add (se_sl (se_name (pv 1)) so_none (so_some (se_name (pv 2)))) (se_sl (se_name (pv 1)) (so_some (se_add (se_name (pv 2)) se_int)) so_none)))) ss_nil)
    (ss_cons (ss_if (st_cmp (c_eq hr.units) (se_name (pv 4)) se_int (nomark _)) (ss_one (ss_ret (se_add (se_add (se_sl (se_name (pv 1)) so_none (so_some (se_name (pv 2)))) (se_lst (sa_cons (se_call G_thing gd (hr.mono h_thing) rfl T.g_thing T.F_thing.kp T.b_thing pass0 (sr_s (pv 0) sr_nil)) sa_nil))) (se_sl (se_name (pv 1)) (so_some (se_name (pv 2))) so_none)))) ss_nil)
    (ss_cons (ss_if (st_cmp (c_eq hr.units) (se_name (pv 4)) se_int (nomark _)) (ss_one (ss_ret (se_add (se_add (se_sl (se_name (pv 1)) so_none (so_some (se_name (pv 2)))) (se_rev (se_sl (se_name (pv 1)) (so_some (se_name (pv 2))) (so_some (se_add (se_name (pv 2)) se_int))))) (se_sl (se_name (pv 1)) (so_some (se_add (se_name (pv 2)) se_int)) so_none)))) ss_nil)
    (ss_cons (ss_set (i := 5) scotherwise.nd rfl (Or.inl rfl) (se_lst (sa_cons se_bl (sa_cons se_non (sa_cons se_str (sa_cons (se_lst (sa_cons se_int (sa_cons se_int sa_nil))) (sa_cons (se_tup sa_nil) (sa_cons (se_lst sa_nil) (sa_cons se_int (sa_cons se_int (sa_cons se_str (sa_cons (se_tup (sa_cons se_str sa_nil)) sa_nil))))))))))) (np1 rfl))
    (ss_cons (ss_if (st_cmp (c_eq hr.units) (se_name (pv 4)) se_int (nomark _)) (ss_one (ss_ret (se_add (se_add (se_sl (se_name (pv 1)) so_none (so_some (se_name (pv 2)))) (se_lst (sa_cons (se_ixN (pv 5) (se_call G_take gd (hr.mono h_take) rfl T.g_take T.F_take.kp T.b_take pass0 (sr_s (pv 0) (sr_v se_int sr_nil))) (fun _ _ => rfl)) sa_nil))) (se_sl (se_name (pv 1)) (so_some (se_add (se_name (pv 2)) se_int)) so_none)))) ss_nil)
    (ss_cons (ss_if (st_cmp (c_eq hr.units) (se_name (pv 4)) se_int (nomark _)) (ss_cons (ss_set (i := 6) scotherwise.nd rfl (Or.inl rfl) (se_add (se_sl (se_name (pv 1)) (so_some (se_add (se_name (pv 2)) se_int)) (so_some (se_add (se_name (pv 3)) se_int))) (se_sl (se_name (pv 1)) (so_some (se_name (pv 2))) (so_some (se_add (se_name (pv 2)) se_int)))) (np1 rfl))
    (ss_one (ss_ret (se_add (se_add (se_sl (se_name (pv 1)) so_none (so_some (se_name (pv 2)))) (se_name (pv 6))) (se_sl (se_name (pv 1)) (so_some (se_add (se_callB (call_max2 rfl) opa_max2 (by rfl) T.n_max (by decide +kernel) (sa_cons (se_name (pv 2)) (sa_cons (se_name (pv 3)) sa_nil))) se_int)) so_none))))) ss_nil)
    (ss_one (ss_ret (se_ix (se_lst (sa_cons (se_callTy call_tuple_of opa_tuple (by rfl) T.n_tuple (by decide +kernel) (sa_cons (se_name (pv 1)) sa_nil)) (sa_cons se_non (sa_cons (se_add (se_name (pv 1)) (se_name (pv 1))) (sa_cons se_bl (sa_cons se_str sa_nil)))))) (se_call G_take gd (hr.mono h_take) rfl T.g_take T.F_take.kp T.b_take pass0 (sr_s (pv 0) (sr_v se_int sr_nil))) (fun _ _ => rfl)))))))))))) plain
theorem k_rows (T : Txt w K mg) {C_take C_thing : AC} {C : AC} (k : Nat) {j_take : Nat} (G_take : Fn P w K mg base CX0 j_take T.a_take T.d_take ["_law_box", "_law_many"] (spA K C_take)) (h_take : j_take ≤ k) {j_thing : Nat} (G_thing : Fn P w K mg base CX0 j_thing T.a_thing T.d_thing ["_law_box"] (spA K C_thing)) (h_thing : j_thing ≤ k)
    (plain : ∀ xs R, C xs R → xs.length = 1 ∧ t_rows C_take C_thing (retD [true] xs R) (beg 8 xs)) : Fn P w K mg base CX0 (k + 1) T.a_rows T.d_rows ["_law_box"] (spA K C) :=
  mkA T.F_rows scrows [true] (fun cdv A outer s H E vs gd hr =>
    (ss_cons (ss_set (i := 1) scrows.nd rfl (Or.inl rfl) (se_lst sa_nil) (np1 rfl))
    (ss_cons (ss_for rfl (si_rng (by rfl) T.n_range (se_add se_int (se_call G_take gd (hr.mono h_take) rfl T.g_take T.F_take.kp T.b_take pass0 (sr_s (pv 0) (sr_v se_int sr_nil))))) (pg_name (i := 2) scrows.nd rfl (Or.inl rfl)) (gt_name 2) (ss_cons (ss_set (i := 3) scrows.nd rfl (Or.inl rfl) (se_add se_int (se_call G_take gd (hr.mono h_take) rfl T.g_take T.F_take.kp T.b_take pass0 (sr_s (pv 0) (sr_v (se_ix (se_lst (sa_cons se_int (sa_cons se_int (sa_cons se_int sa_nil)))) (se_call G_take gd (hr.mono h_take) rfl T.g_take T.F_take.kp T.b_take pass0 (sr_s (pv 0) (sr_v se_int sr_nil))) (fun _ _ => rfl)) sr_nil)))) (np1 rfl))
    (ss_cons (ss_set (i := 4) scrows.nd rfl (Or.inl rfl) (se_lst sa_nil) (np1 rfl))
    (ss_cons (ss_for rfl (si_rng (by rfl) T.n_range (se_name (pv 3))) (pg_name (i := 5) scrows.nd rfl (Or.inl rfl)) (gt_name 5) (ss_cons (ss_set (i := 6) scrows.nd rfl (Or.inl rfl) (se_call G_take gd (hr.mono h_take) rfl T.g_take T.F_take.kp T.b_take pass0 (sr_s (pv 0) (sr_v (se_ix (se_lst (sa_cons se_int (sa_cons se_int (sa_cons se_int sa_nil)))) (se_call G_take gd (hr.mono h_take) rfl T.g_take T.F_take.kp T.b_take pass0 (sr_s (pv 0) (sr_v se_int sr_nil))) (fun _ _ => rfl)) sr_nil))) (np1 rfl))
    (ss_one (ss_expr (se_mt PySem.F.slot_list_append PySem.F.type_list_append mt_append mt_ap (pv 4) (sa_cons (se_lc (own := [("_law_step", 7)]) (by rfl) scrows.nd (si_rng (by rfl) T.n_range (se_name (pv 6))) (blkOk_by (own := [("_law_step", 7)]) (N := ["_law_box", "_law_rows_here", "_law_turn", "_law_size", "_law_row", "_law_at", "_law_many", "_law_step"]) (sc := defScope s_rows) (by decide +kernel)) (gt_name 7) (by simp [Tg.slots, slotss]) (fun _ _ _ _ _ => (pg_name (i := 7) scrows.nd rfl (Or.inl rfl))) (fun _ _ _ _ _ => sts_nil) (fun _ _ _ _ _ => (se_call G_thing gd (hr.mono h_thing) rfl T.g_thing T.F_thing.kp T.b_thing pass0 (sr_s (pv 0) sr_nil)))) sa_nil))))) (nps (by simp [Tg.slots, slotss])) PassesOwn.never)
    (ss_one (ss_expr (se_mt PySem.F.slot_list_append PySem.F.type_list_append mt_append mt_ap (pv 1) (sa_cons (se_name (pv 4)) sa_nil))))))) (nps (by simp [Tg.slots, slotss])) PassesOwn.never)
    (ss_one (ss_ret (se_move (pv 1))))))) plain
theorem k_right (T : Txt w K mg) {C_rows C_take C_woven_by C_same C_p_weave C_woven_right : AC} {C : AC} (k : Nat) {j_rows : Nat} (G_rows : Fn P w K mg base CX0 j_rows T.a_rows T.d_rows ["_law_box"] (spA K C_rows)) (h_rows : j_rows ≤ k) {j_take : Nat} (G_take : Fn P w K mg base CX0 j_take T.a_take T.d_take ["_law_box", "_law_many"] (spA K C_take)) (h_take : j_take ≤ k) {j_woven_by : Nat} (G_woven_by : Fn P w K mg base CX0 j_woven_by T.a_woven_by T.d_woven_by ["_law_rows_here", "_law_picks"] (spA K C_woven_by)) (h_woven_by : j_woven_by ≤ k) {j_same : Nat} (G_same : Fn P w K mg base CX0 j_same T.a_same T.d_same ["_law_found", "_law_due"] (spA K C_same)) (h_same : j_same ≤ k) {j_p_weave : Nat} (G_p_weave : Fn P w K mg base CX0 j_p_weave T.a_p_weave T.d_p_weave ["turns", "picks"] (spA K C_p_weave)) (h_p_weave : j_p_weave ≤ k) {j_woven_right : Nat} (G_woven_right : Fn P w K mg base CX0 j_woven_right T.a_woven_right T.d_woven_right ["_law_box", "_law_rows_here"] (spA K C_woven_right)) (h_woven_right : j_woven_right ≤ k)
    (plain : ∀ xs R, C xs R → xs.length = 1 ∧ t_right C_rows C_take C_woven_by C_same C_p_weave C_woven_right (retD [true] xs R) (beg 11 xs)) : Fn P w K mg base CX0 (k + 1) T.a_right T.d_right ["_law_box"] (spA K C) :=
  mkA T.F_right scright [true] (fun cdv A outer s H E vs gd hr =>
    (ss_cons (ss_set (i := 1) scright.nd rfl (Or.inl rfl) (se_call G_rows gd (hr.mono h_rows) rfl T.g_rows T.F_rows.kp T.b_rows pass0 (sr_s (pv 0) sr_nil)) (np1 rfl))
    (ss_cons (ss_par2 (i := 2) (j := 3) (by rfl) scright.nd rfl rfl (by decide) rfl rfl (sa_cons (se_callB (call_reprD gd hr.units) opa_repr (by rfl) T.n_repr (by decide +kernel) (sa_cons (se_name (pv 1)) sa_nil)) (sa_cons (se_callB (cr_sum rfl) opa_sum (by rfl) T.n_sum (by decide +kernel) (sa_cons (se_lc (own := [("_law_row", 10)]) (by rfl) scright.nd (si_over (se_name (pv 1))) (blkOk_by (own := [("_law_row", 10)]) (N := ["_law_box", "_law_rows_here", "_law_kept", "_law_turns", "_law_turn", "_law_many", "_law_picks", "_law_step", "_law_due", "_law_told", "_law_row"]) (sc := defScope s_right) (by decide +kernel)) (gt_name 10) (by simp [Tg.slots, slotss]) (fun _ _ _ _ _ => (pg_name (i := 10) scright.nd rfl (Or.inl rfl))) (fun _ _ _ _ _ => sts_nil) (fun _ _ _ _ _ => (se_lenN (pv 10) (by rfl) T.n_len PySem.boot_len))) sa_nil)) sa_nil)) (by rfl) (np1 rfl) (np1 rfl))
    (ss_cons (ss_for rfl (si_rng (by rfl) T.n_range se_int) (pg_name (i := 4) scright.nd rfl (Or.inl rfl)) (gt_name 4) (ss_cons (ss_set (i := 5) scright.nd rfl (Or.inl rfl) (se_callB (call_max2 rfl) opa_max2 (by rfl) T.n_max (by decide +kernel) (sa_cons se_int (sa_cons (se_callB (call_min2 rfl) opa_min2 (by rfl) T.n_min (by decide +kernel) (sa_cons se_int (sa_cons (se_add (se_name (pv 3)) (se_ix (se_lst (sa_cons se_int (sa_cons se_int (sa_cons se_int (sa_cons (se_neg se_int) (sa_cons se_int sa_nil)))))) (se_call G_take gd (hr.mono h_take) rfl T.g_take T.F_take.kp T.b_take pass0 (sr_s (pv 0) (sr_v se_int sr_nil))) (fun _ _ => rfl))) sa_nil))) sa_nil))) (np1 rfl))
    (ss_cons (ss_set (i := 6) scright.nd rfl (Or.inl rfl) (se_lst sa_nil) (np1 rfl))
    (ss_cons (ss_for rfl (si_rng (by rfl) T.n_range (se_name (pv 5))) (pg_name (i := 7) scright.nd rfl (Or.inl rfl)) (gt_name 7) (ss_one (ss_expr (se_mt PySem.F.slot_list_append PySem.F.type_list_append mt_append mt_ap (pv 6) (sa_cons (se_ix (se_lst (sa_cons (se_call G_take gd (hr.mono h_take) rfl T.g_take T.F_take.kp T.b_take pass0 (sr_s (pv 0) (sr_v se_int sr_nil))) (sa_cons (se_call G_take gd (hr.mono h_take) rfl T.g_take T.F_take.kp T.b_take pass0 (sr_s (pv 0) (sr_v se_int sr_nil))) (sa_cons (se_call G_take gd (hr.mono h_take) rfl T.g_take T.F_take.kp T.b_take pass0 (sr_s (pv 0) (sr_v se_int sr_nil))) sa_nil)))) (se_call G_take gd (hr.mono h_take) rfl T.g_take T.F_take.kp T.b_take pass0 (sr_s (pv 0) (sr_v se_int sr_nil))) (fun _ _ => rfl)) sa_nil)))) (nps (by simp [Tg.slots, slotss])) PassesOwn.never)
    (ss_cons (ss_set (i := 8) scright.nd rfl (Or.inl rfl) (se_ix (se_call G_woven_by gd (hr.mono h_woven_by) rfl T.g_woven_by T.F_woven_by.kp T.b_woven_by pass0 (sr_s (pv 1) (sr_s (pv 6) sr_nil))) se_int (fun _ _ => rfl)) (np1 rfl))
    (ss_cons (ss_if (st_not (st_val (se_call G_same gd (hr.mono h_same) rfl T.g_same T.F_same.kp T.b_same pass0 (sr_v (se_lst (sa_cons (se_call G_p_weave gd (hr.mono h_p_weave) rfl T.g_p_weave T.F_p_weave.kp T.b_p_weave pass0 (sr_s (pv 1) (sr_s (pv 6) sr_nil))) (sa_cons (se_call G_p_weave gd (hr.mono h_p_weave) rfl T.g_p_weave T.F_p_weave.kp T.b_p_weave pass0 (sr_v (se_callTy call_list_of opa_list (by rfl) T.n_list (by decide +kernel) (sa_cons (se_name (pv 1)) sa_nil)) (sr_v (se_callTy call_list_of opa_list (by rfl) T.n_list (by decide +kernel) (sa_cons (se_name (pv 6)) sa_nil)) sr_nil))) sa_nil))) (sr_v (se_lst (sa_cons (se_name (pv 8)) (sa_cons (se_name (pv 8)) sa_nil))) sr_nil))))) (ss_one (ss_ret se_bl)) ss_nil)
    (ss_one (ss_if (st_cmp c_isNot (se_name (pv 8)) se_non (nomark _)) (ss_cons (ss_set (i := 9) scright.nd rfl (Or.inl rfl) (se_call G_p_weave gd (hr.mono h_p_weave) rfl T.g_p_weave T.F_p_weave.kp T.b_p_weave pass0 (sr_s (pv 1) (sr_s (pv 6) sr_nil))) (np1 rfl))
    (ss_cons (ss_expr (se_mt0 PySem.F.slot_list_reverse PySem.F.type_list_reverse mt_reverse mt_rev (pv 9)))
    (ss_one (ss_expr (se_mt PySem.F.slot_list_append PySem.F.type_list_append mt_append mt_ap (pv 9) (sa_cons se_str sa_nil)))))) ss_nil))))))) (nps (by simp [Tg.slots, slotss])) PassesOwn.never)
    (ss_one (ss_ret (se_and (se_call G_woven_right gd (hr.mono h_woven_right) rfl T.g_woven_right T.F_woven_right.kp T.b_woven_right pass0 (sr_s (pv 0) (sr_s (pv 1) sr_nil))) (se_and (se_cmp (c_eq hr.units) (se_callB (call_reprD gd hr.units) opa_repr (by rfl) T.n_repr (by decide +kernel) (sa_cons (se_name (pv 1)) sa_nil)) (se_name (pv 2)) (nomark _)) (se_one (se_cmp (c_eq hr.units) (se_call G_p_weave gd (hr.mono h_p_weave) rfl T.g_p_weave T.F_p_weave.kp T.b_p_weave pass0 (sr_v (se_lst sa_nil) (sr_v (se_lst sa_nil) sr_nil))) (se_lst sa_nil) (nomark _))))))))))) plain
theorem k_woven_right (T : Txt w K mg) {C_woven_by C_take C_otherwise C_same C_is_woven C_p_is_weaving : AC} {C : AC} (k : Nat) {j_woven_by : Nat} (G_woven_by : Fn P w K mg base CX0 j_woven_by T.a_woven_by T.d_woven_by ["_law_rows_here", "_law_picks"] (spA K C_woven_by)) (h_woven_by : j_woven_by ≤ k) {j_take : Nat} (G_take : Fn P w K mg base CX0 j_take T.a_take T.d_take ["_law_box", "_law_many"] (spA K C_take)) (h_take : j_take ≤ k) {j_otherwise : Nat} (G_otherwise : Fn P w K mg base CX0 j_otherwise T.a_otherwise T.d_otherwise ["_law_box", "_law_some"] (spA K C_otherwise)) (h_otherwise : j_otherwise ≤ k) {j_same : Nat} (G_same : Fn P w K mg base CX0 j_same T.a_same T.d_same ["_law_found", "_law_due"] (spA K C_same)) (h_same : j_same ≤ k) {j_is_woven : Nat} (G_is_woven : Fn P w K mg base CX0 j_is_woven T.a_is_woven T.d_is_woven ["_law_rows_here", "_law_thing_here"] (spA K C_is_woven)) (h_is_woven : j_is_woven ≤ k) {j_p_is_weaving : Nat} (G_p_is_weaving : Fn P w K mg base CX0 j_p_is_weaving T.a_p_is_weaving T.d_p_is_weaving ["rows", "thing"] (spA K C_p_is_weaving)) (h_p_is_weaving : j_p_is_weaving ≤ k)
    (plain : ∀ xs R, C xs R → xs.length = 2 ∧ t_woven_right C_woven_by C_take C_otherwise C_same C_is_woven C_p_is_weaving (retD [true, true] xs R) (beg 11 xs)) : Fn P w K mg base CX0 (k + 1) T.a_woven_right T.d_woven_right ["_law_box", "_law_rows_here"] (spA K C) :=
  mkA T.F_woven_right scwoven_right [true, true] (fun cdv A outer s H E vs gd hr =>
    (ss_cons (ss_set (i := 2) scwoven_right.nd rfl (Or.inl rfl) (se_lst sa_nil) (np1 rfl))
    (ss_cons (ss_for rfl (si_over (se_name (pv 1))) (pg_name (i := 3) scwoven_right.nd rfl (Or.inl rfl)) (gt_name 3) (ss_cons (ss_set (i := 4) scwoven_right.nd rfl (Or.inl rfl) (se_lst sa_nil) (np1 rfl))
    (ss_cons (ss_for rfl (si_over (se_name (pv 3))) (pg_name (i := 5) scwoven_right.nd rfl (Or.inl rfl)) (gt_name 5) (ss_one (ss_set (i := 4) scwoven_right.nd rfl (Or.inl rfl) (se_add (se_name (pv 4)) (se_name (pv 5))) (np1 rfl))) (nps (by simp [Tg.slots, slotss])) PassesOwn.never)
    (ss_one (ss_expr (se_mt PySem.F.slot_list_append PySem.F.type_list_append mt_append mt_ap (pv 2) (sa_cons (se_sl (se_name (pv 4)) so_none (so_some se_int)) sa_nil)))))) (nps (by simp [Tg.slots, slotss])) PassesOwn.never)
    (ss_cons (ss_set (i := 6) scwoven_right.nd rfl (Or.inl rfl) (se_lst sa_nil) (np1 rfl))
    (ss_cons (ss_for rfl (si_over (se_name (pv 2))) (pg_name (i := 3) scwoven_right.nd rfl (Or.inl rfl)) (gt_name 3) (ss_one (ss_set (i := 6) scwoven_right.nd rfl (Or.inl rfl) (se_add (se_name (pv 6)) (se_mulA (se_lst (sa_cons (se_lc (own := [("_law_one", 5)]) (by rfl) scwoven_right.nd (si_over (se_name (pv 3))) (blkOk_by (own := [("_law_one", 5)]) (N := ["_law_box", "_law_rows_here", "_law_flat", "_law_row", "_law_found", "_law_one", "_law_single", "_law_woven_one", "_law_turn", "_law_thing_here", "_law_step"]) (sc := defScope s_woven_right) (by decide +kernel)) (gt_name 5) (by simp [Tg.slots, slotss]) (fun _ _ _ _ _ => (pg_name (i := 5) scwoven_right.nd rfl (Or.inl rfl))) (fun _ _ _ _ _ => sts_nil) (fun _ _ _ _ _ => (se_lst (sa_cons (se_name (pv 5)) sa_nil)))) sa_nil)) (se_callTy call_int1 opa_int (by rfl) T.n_int (by decide +kernel) (sa_cons (se_cmp (c_ne hr.units) (se_name (pv 3)) (se_lst sa_nil) (nomark _)) sa_nil)))) (np1 rfl))) (nps (by simp [Tg.slots, slotss])) PassesOwn.never)
    (ss_cons (ss_set (i := 7) scwoven_right.nd rfl (Or.inl rfl) (se_ix (se_call G_woven_by gd (hr.mono h_woven_by) rfl T.g_woven_by T.F_woven_by.kp T.b_woven_by pass0 (sr_s (pv 6) (sr_v (se_lc (own := [("_law_turn", 8)]) (by rfl) scwoven_right.nd (si_rng (by rfl) T.n_range se_int) (blkOk_by (own := [("_law_turn", 8)]) (N := ["_law_box", "_law_rows_here", "_law_flat", "_law_row", "_law_found", "_law_one", "_law_single", "_law_woven_one", "_law_turn", "_law_thing_here", "_law_step"]) (sc := defScope s_woven_right) (by decide +kernel)) (gt_name 8) (by simp [Tg.slots, slotss]) (fun _ _ _ _ _ => (pg_name (i := 8) scwoven_right.nd rfl (Or.inl rfl))) (fun _ _ _ _ _ => sts_nil) (fun _ _ _ _ _ => (se_call G_take gd (hr.mono h_take) rfl T.g_take T.F_take.kp T.b_take pass0 (sr_s (pv 0) (sr_v se_int sr_nil))))) sr_nil))) se_int (fun _ _ => rfl)) (np1 rfl))
    (ss_cons (ss_for rfl (si_rng (by rfl) T.n_range se_int) (pg_name (i := 8) scwoven_right.nd rfl (Or.inl rfl)) (gt_name 8) (ss_cons (ss_set (i := 9) scwoven_right.nd rfl (Or.inl rfl) (se_name (pv 7)) (np1 rfl))
    (ss_cons (ss_for rfl (si_rng (by rfl) T.n_range (se_call G_take gd (hr.mono h_take) rfl T.g_take T.F_take.kp T.b_take pass0 (sr_s (pv 0) (sr_v se_int sr_nil)))) (pg_name (i := 10) scwoven_right.nd rfl (Or.inl rfl)) (gt_name 10) (ss_one (ss_set (i := 9) scwoven_right.nd rfl (Or.inl rfl) (se_if (st_val (se_isi (se_name (pv 9)) .list (pe_bltn (v := .ty "list") (by rfl) T.n_list (by decide +kernel) rfl) (by rfl) T.n_isinstance (by decide +kernel))) (se_call G_otherwise gd (hr.mono h_otherwise) rfl T.g_otherwise T.F_otherwise.kp T.b_otherwise pass0 (sr_s (pv 0) (sr_s (pv 9) sr_nil))) (se_name (pv 9))) (np1 rfl))) (nps (by simp [Tg.slots, slotss])) PassesOwn.never)
    (ss_one (ss_if (st_not (st_val (se_call G_same gd (hr.mono h_same) rfl T.g_same T.F_same.kp T.b_same pass0 (sr_v (se_call G_p_is_weaving gd (hr.mono h_p_is_weaving) rfl T.g_p_is_weaving T.F_p_is_weaving.kp T.b_p_is_weaving pass0 (sr_s (pv 2) (sr_s (pv 9) sr_nil))) (sr_v (se_call G_is_woven gd (hr.mono h_is_woven) rfl T.g_is_woven T.F_is_woven.kp T.b_is_woven pass0 (sr_s (pv 2) (sr_s (pv 9) sr_nil))) sr_nil))))) (ss_one (ss_ret se_bl)) ss_nil)))) (nps (by simp [Tg.slots, slotss])) PassesOwn.never)
    (ss_one (ss_ret (se_and (se_cmp c_is (se_call G_p_is_weaving gd (hr.mono h_p_is_weaving) rfl T.g_p_is_weaving T.F_p_is_weaving.kp T.b_p_is_weaving pass0 (sr_v (se_lst sa_nil) (sr_v (se_lst sa_nil) sr_nil))) se_bl (nomark _)) (se_one (se_cmp c_is (se_call G_p_is_weaving gd (hr.mono h_p_is_weaving) rfl T.g_p_is_weaving T.F_p_is_weaving.kp T.b_p_is_weaving pass0 (sr_v (se_lst (sa_cons (se_lst sa_nil) (sa_cons (se_lst sa_nil) sa_nil))) (sr_v (se_lst sa_nil) sr_nil))) se_bl (nomark _))))))))))))) plain
theorem k_law (T : Txt w K mg) {C_folded C_right C_dip : AC} {C : AC} (k : Nat) {j_folded : Nat} (G_folded : Fn P w K mg base CX0 j_folded T.a_folded T.d_folded ["_law_script", "_law_size"] (spA K C_folded)) (h_folded : j_folded ≤ k) {j_right : Nat} (G_right : Fn P w K mg base CX0 j_right T.a_right T.d_right ["_law_box"] (spA K C_right)) (h_right : j_right ≤ k) {j_dip : Nat} (G_dip : Fn P w K mg base CX0 j_dip T.a_dip T.d_dip ["_law_script", "_law_k"] (spA K C_dip)) (h_dip : j_dip ≤ k)
    (plain : ∀ xs R, C xs R → xs.length = 1 ∧ t_law C_folded C_right C_dip (retD [true] xs R) (beg 3 xs)) : Fn P w K mg base CX0 (k + 1) T.a_law T.d_law ["_law_script"] (spA K C) :=
  mkA T.F_law sclaw [true] (fun cdv A outer s H E vs gd hr =>
    (ss_cons (ss_set (i := 1) sclaw.nd rfl (Or.inr rfl) (se_call G_folded gd (hr.mono h_folded) rfl T.g_folded T.F_folded.kp T.b_folded pass0 (sr_s (pv 0) (sr_v se_int sr_nil))) (np1 rfl))
    (ss_one (ss_ret (se_callB (cr_all rfl) opa_all (by rfl) T.n_all (by decide +kernel) (sa_cons (se_lc (own := [("_law_k", 2)]) (by rfl) sclaw.nd (si_rng (by rfl) T.n_range (se_callB (call_max2 rfl) opa_max2 (by rfl) T.n_max (by decide +kernel) (sa_cons se_int (sa_cons (se_lenN (pv 1) (by rfl) T.n_len PySem.boot_len) sa_nil)))) (blkOk_by (own := [("_law_k", 2)]) (N := ["_law_script", "_law_cells", "_law_k"]) (sc := defScope s_law) (by decide +kernel)) (gt_name 2) (by simp [Tg.slots, slotss]) (fun _ _ _ _ _ => (pg_name (i := 2) sclaw.nd rfl (Or.inl rfl))) (fun _ _ _ _ _ => sts_nil) (fun _ _ _ _ _ => (se_call G_right gd (hr.mono h_right) rfl T.g_right T.F_right.kp T.b_right pass0 (sr_v (se_call G_dip gd (hr.mono h_dip) rfl T.g_dip T.F_dip.kp T.b_dip pass0 (sr_s (pv 1) (sr_s (pv 2) sr_nil))) sr_nil)))) sa_nil)))))) plain
end
end K49

/-! spots: how far each row has been told -/
namespace K49
open PySem L2 Grd Ow PyProof.Rows
abbrev Spot := List Nat
def adv (s : Spot) (a : Nat) : Spot := s.take a ++ [s.getD a 0 + 1] ++ s.drop (a + 1)
def ins (l : List Spot) (k : Spot) : List Spot := if k ∈ l then l else l ++ [k]
/-- can row number a tell `one` from here? -/
def tells (tx : List (List Str)) (one : Str) (s : Spot) (a : Nat) : Bool := decide (s.getD a 0 < (tx.getD a []).length) && decide ((tx.getD a []).getD (s.getD a 0) ⟨#[]⟩ = one)
def inn1 (tx : List (List Str)) (one : Str) (s : Spot) (acc : List Spot) (a : Nat) : List Spot := if tells tx one s a = true then ins acc (adv s a) else acc
def inn (tx : List (List Str)) (one : Str) (s : Spot) (n : Nat) (acc : List Spot) : List Spot := (List.range n).foldl (inn1 tx one s) acc
def outs (tx : List (List Str)) (one : Str) (sp : List Spot) : List Spot := sp.foldl (fun acc s => inn tx one s tx.length acc) []
def runs (tx : List (List Str)) (ones : List Str) : List Spot := ones.foldl (fun sp one => outs tx one sp) [List.replicate tx.length 0]
theorem inn_succ (tx : List (List Str)) (one : Str) (s : Spot) (n : Nat) (acc : List Spot) : inn tx one s (n + 1) acc = inn1 tx one s (inn tx one s n acc) n := by
  unfold inn
  rw [List.range_succ, List.foldl_append]
  rfl
theorem fold_take {α β : Type} (f : β → α → β) (b : β) (l : List α) (i : Nat) (x : α) (h : l[i]? = some x) : (l.take (i + 1)).foldl f b = f ((l.take i).foldl f b) x := by
  rw [List.take_add_one, h, List.foldl_append]
  rfl
theorem ins_len (l : List Spot) (k : Spot) : (ins l k).length ≤ l.length + 1 := by
  unfold ins
  split
  · omega
  · simp
theorem inn1_len (tx : List (List Str)) (one : Str) (s : Spot) (acc : List Spot) (a : Nat) : (inn1 tx one s acc a).length ≤ acc.length + 1 := by
  unfold inn1
  split
  · exact ins_len _ _
  · omega
theorem inn_len (tx : List (List Str)) (one : Str) (s : Spot) (acc : List Spot) : ∀ n, (inn tx one s n acc).length ≤ acc.length + n
  | 0 => Nat.le_refl _
  | n + 1 => by
    rw [inn_succ]
    have := inn1_len tx one s (inn tx one s n acc) n
    have := inn_len tx one s acc n
    omega
theorem outs_len' (tx : List (List Str)) (one : Str) : ∀ (sp acc : List Spot), (sp.foldl (fun acc s => inn tx one s tx.length acc) acc).length ≤ acc.length + sp.length * tx.length
  | [], acc => by simp
  | s :: sp, acc => by
    have h1 := outs_len' tx one sp (inn tx one s tx.length acc)
    have h2 := inn_len tx one s acc tx.length
    rw [List.foldl_cons, List.length_cons, Nat.add_mul]
    omega
theorem outs_len (tx : List (List Str)) (one : Str) (sp : List Spot) : (outs tx one sp).length ≤ sp.length * tx.length := by
  have := outs_len' tx one sp []
  simpa [outs] using this
theorem runs_len (tx : List (List Str)) (h4 : tx.length ≤ 4) (ones : List Str) : (runs tx ones).length ≤ 4 ^ ones.length := by
  suffices h : ∀ (ones : List Str) (sp : List Spot), (ones.foldl (fun sp one => outs tx one sp) sp).length ≤ sp.length * 4 ^ ones.length by
    have := h ones [List.replicate tx.length 0]
    simpa [runs] using this
  intro ones
  induction ones with
  | nil => intro sp; simp
  | cons o ones ih =>
    intro sp
    rw [List.foldl_cons, List.length_cons, Nat.pow_succ]
    have h1 := ih (outs tx o sp)
    have h2 := outs_len tx o sp
    have h3 : sp.length * tx.length ≤ sp.length * 4 := Nat.mul_le_mul_left _ h4
    have h5 : (outs tx o sp).length * 4 ^ ones.length ≤ sp.length * 4 * 4 ^ ones.length := Nat.mul_le_mul_right _ (Nat.le_trans h2 h3)
    rw [Nat.mul_comm (4 ^ ones.length) 4, ← Nat.mul_assoc]
    exact Nat.le_trans h1 h5
/-- every spot has as many numbers as there are rows -/
theorem adv_len {s : Spot} {a n : Nat} (h : s.length = n) (ha : a < n) : (adv s a).length = n := by
  unfold adv
  simp only [List.length_append, List.length_take, List.length_drop, List.length_singleton]
  omega
theorem ins_all {l : List Spot} {k : Spot} {n : Nat} (h : ∀ s ∈ l, s.length = n) (hk : k.length = n) : ∀ s ∈ ins l k, s.length = n := by
  unfold ins
  split
  · exact h
  · intro s hs
    rcases List.mem_append.mp hs with hs | hs
    · exact h s hs
    · rw [List.mem_singleton.mp hs]; exact hk
theorem inn_all {tx : List (List Str)} {one : Str} {s : Spot} {acc : List Spot} {n : Nat} (h : ∀ s ∈ acc, s.length = n) (hs : s.length = n) : ∀ j, j ≤ n → ∀ s' ∈ inn tx one s j acc, s'.length = n
  | 0, _ => h
  | j + 1, hj => by
    rw [inn_succ]
    unfold inn1
    split
    · exact ins_all (inn_all h hs j (by omega)) (adv_len hs (by omega))
    · exact inn_all h hs j (by omega)
theorem outs_all {tx : List (List Str)} {one : Str} {sp : List Spot} (h : ∀ s ∈ sp, s.length = tx.length) : ∀ s ∈ outs tx one sp, s.length = tx.length := by
  unfold outs
  suffices g : ∀ (l acc : List Spot), (∀ s ∈ l, s.length = tx.length) → (∀ s ∈ acc, s.length = tx.length) → ∀ s ∈ l.foldl (fun acc s => inn tx one s tx.length acc) acc, s.length = tx.length from g sp [] h (by simp)
  intro l
  induction l with
  | nil => intro acc _ ha; exact ha
  | cons x l ih =>
    intro acc hl ha
    rw [List.foldl_cons]
    exact ih _ (fun s hs => hl s (List.mem_cons_of_mem _ hs)) (inn_all ha (hl x List.mem_cons_self) _ (Nat.le_refl _))
/-- as keys of a dict -/
def keyI (n : Nat) : Key := .inl (n : Int)
def kvsOfS (sp : List Spot) : List (List Key × V) := sp.map fun s => (s.map keyI, V.bl true)
theorem keyI_inj {a b : Nat} (h : keyI a = keyI b) : a = b := by
  unfold keyI at h
  injection h with h
  omega
theorem keys_inj : ∀ {a b : Spot}, a.map keyI = b.map keyI → a = b
  | [], [], _ => rfl
  | [], _ :: _, h => by cases h
  | _ :: _, [], h => by cases h
  | x :: a, y :: b, h => by
    rw [List.map_cons, List.map_cons] at h
    injection h with h1 h2
    rw [keyI_inj h1, keys_inj h2]
theorem kV_keys (s : Spot) : (s.map keyI).map kV = s.map (fun n : Nat => V.int (n : Int)) := by
  rw [List.map_map]; rfl
theorem put_spot (sp : List Spot) (k : Spot) : putK (kvsOfS sp) (k.map keyI) (.bl true) = kvsOfS (ins sp k) := by
  have hv : ∀ l : List Spot, valV (kvsOfS l) (k.map keyI) = if k ∈ l then some (.bl true) else none := by
    intro l
    induction l with
    | nil => rfl
    | cons s l ih =>
      show valV ((s.map keyI, V.bl true) :: kvsOfS l) _ = _
      by_cases e : s = k
      · rw [valV_pos (by rw [e])]
        simp [e]
      · rw [valV_neg (fun z => e (keys_inj z)), ih]
        have : k ∈ s :: l ↔ k ∈ l := by
          rw [List.mem_cons]
          exact ⟨fun z => z.elim (fun z => absurd z.symm e) id, .inr⟩
        simp [this]
  unfold ins
  by_cases h : k ∈ sp
  · rw [if_pos h]
    unfold putK
    have a : ((kvsOfS sp).any fun kv => decide (kv.1 = k.map keyI)) = true := by
      rw [valV_any, hv, if_pos h]; rfl
    rw [if_pos a]
    unfold kvsOfS
    rw [List.map_map]
    refine List.map_congr_left fun s _ => ?_
    simp only [Function.comp]
    split
    · rename_i z
      rw [z]
    · rfl
  · rw [if_neg h, putK_new _ (by rw [hv, if_neg h])]
    unfold kvsOfS
    rw [List.map_append]
    rfl
end K49

/-! is_weaving, step by step -/
namespace K49
open PySem L2 Grd Ow PyProof.Rows
open Evl (Ex ex_t ex_l ex_rd)
section
variable {J J1 : It} {n n1 : Nat} {G G1 : Hp → Prop} {Y Y1 : Nat → Hp → V → Hp → Prop}
theorem dc2_it (w : Walk J n G Y) {g : TG} {wi1 : TI} {g1 : TG} {tt1 : TT} {tk tv : TE} {vs vs1 : List Nat} {σ : L2.St} {H1 : Hp} {D : Addr} {Qd : Hp → Prop} (Pv : Nat → Hp → Prop) (h0 : Pv 0 (upd H1 D (.dT []))) (hG : ∀ i H, i ≤ n → Pv i H → G H)
    (hs : ∀ i x H H', i < n → Pv i H → Y i H x H' → g x (wipe σ vs) H' fun σ2 H2 => wipe σ2 vs = wipe σ vs ∧
      wi1 σ2 H2 fun J1 H4 => ∃ W1 : Nat → Nat → Hp → Prop, (∃ m, W1 0 m H4) ∧ ∀ j k H, W1 j k H →
        (J1.stop j H ∧ Pv (i + 1) H) ∨ (J1.go j H ∧ ∃ Nx1 : Hp → Prop, (∀ H', Nx1 H' → ∃ k', k' < k ∧ W1 (j + 1) k' H') ∧ ∀ x H', J1.yld j H x H' → g1 x (wipe σ2 vs1) H' fun σ3 H5 => wipe σ3 vs1 = wipe σ2 vs1 ∧ tt1 σ3 H5 fun b H6 =>
          if b = true then tk σ3 H6 fun y H7 => tv σ3 H7 fun z H8 => ∃ kvs ky b, y = .ref b ∧ H8 b = some (.tup (ky.map kV)) ∧ H8 D = some (.dT kvs) ∧ kvs.length < sizeLine ∧ Nx1 (upd H8 D (.dT (putK kvs ky z))) else Nx1 H6))
    (hd : ∀ H, Pv n H → Qd H) :
    ∃ W : Nat → Nat → Hp → Prop, (∃ m, W 0 m (upd H1 D (.dT []))) ∧ ∀ i m H, W i m H →
      (J.stop i H ∧ Qd H) ∨ (J.go i H ∧ ∃ Nx : Hp → Prop, (∀ H', Nx H' → ∃ m', m' < m ∧ W (i + 1) m' H') ∧ ∀ x H', J.yld i H x H' → g x (wipe σ vs) H' fun σ2 H2 => wipe σ2 vs = wipe σ vs ∧
        wi1 σ2 H2 fun J1 H4 => ∃ W1 : Nat → Nat → Hp → Prop, (∃ m, W1 0 m H4) ∧ ∀ j k H, W1 j k H →
          (J1.stop j H ∧ Nx H) ∨ (J1.go j H ∧ ∃ Nx1 : Hp → Prop, (∀ H', Nx1 H' → ∃ k', k' < k ∧ W1 (j + 1) k' H') ∧ ∀ x H', J1.yld j H x H' → g1 x (wipe σ2 vs1) H' fun σ3 H5 => wipe σ3 vs1 = wipe σ2 vs1 ∧ tt1 σ3 H5 fun b H6 =>
            if b = true then tk σ3 H6 fun y H7 => tv σ3 H7 fun z H8 => ∃ kvs ky b, y = .ref b ∧ H8 b = some (.tup (ky.map kV)) ∧ H8 D = some (.dT kvs) ∧ kvs.length < sizeLine ∧ Nx1 (upd H8 D (.dT (putK kvs ky z))) else Nx1 H6)) := by
  refine ⟨fun i m H => m = n - i ∧ i ≤ n ∧ Pv i H, ⟨n, by simp, Nat.zero_le _, h0⟩, ?_⟩
  rintro i m H ⟨rfl, hi, p⟩
  have q := hG i H hi p
  by_cases hlt : i < n
  · exact .inr ⟨w.goes i H hlt q, Pv (i + 1), fun H' p' => ⟨n - (i + 1), by omega, rfl, hlt, p'⟩, fun x H' y => hs i x H H' hlt p (w.yields i H x H' hlt q y)⟩
  · have e : i = n := by omega
    subst e
    exact .inl ⟨w.stops H q, hd H p⟩
theorem dc2_in (w : Walk J1 n1 G1 Y1) {g1 : TG} {tt1 : TT} {tk tv : TE} {vs1 : List Nat} {σ2 : L2.St} {H4 : Hp} {D : Addr} {Qd : Hp → Prop} (Pv : Nat → Hp → Prop) (h0 : Pv 0 H4) (hG : ∀ i H, i ≤ n1 → Pv i H → G1 H)
    (hs : ∀ j x H H', j < n1 → Pv j H → Y1 j H x H' → g1 x (wipe σ2 vs1) H' fun σ3 H5 => wipe σ3 vs1 = wipe σ2 vs1 ∧ tt1 σ3 H5 fun b H6 =>
          if b = true then tk σ3 H6 fun y H7 => tv σ3 H7 fun z H8 => ∃ kvs ky b, y = .ref b ∧ H8 b = some (.tup (ky.map kV)) ∧ H8 D = some (.dT kvs) ∧ kvs.length < sizeLine ∧ Pv (j + 1) (upd H8 D (.dT (putK kvs ky z))) else Pv (j + 1) H6)
    (hd : ∀ H, Pv n1 H → Qd H) :
    ∃ W1 : Nat → Nat → Hp → Prop, (∃ m, W1 0 m H4) ∧ ∀ j k H, W1 j k H →
        (J1.stop j H ∧ Qd H) ∨ (J1.go j H ∧ ∃ Nx1 : Hp → Prop, (∀ H', Nx1 H' → ∃ k', k' < k ∧ W1 (j + 1) k' H') ∧ ∀ x H', J1.yld j H x H' → g1 x (wipe σ2 vs1) H' fun σ3 H5 => wipe σ3 vs1 = wipe σ2 vs1 ∧ tt1 σ3 H5 fun b H6 =>
          if b = true then tk σ3 H6 fun y H7 => tv σ3 H7 fun z H8 => ∃ kvs ky b, y = .ref b ∧ H8 b = some (.tup (ky.map kV)) ∧ H8 D = some (.dT kvs) ∧ kvs.length < sizeLine ∧ Nx1 (upd H8 D (.dT (putK kvs ky z))) else Nx1 H6) := by
  refine ⟨fun i m H => m = n1 - i ∧ i ≤ n1 ∧ Pv i H, ⟨n1, by simp, Nat.zero_le _, h0⟩, ?_⟩
  rintro i m H ⟨rfl, hi, p⟩
  have q := hG i H hi p
  by_cases hlt : i < n1
  · exact .inr ⟨w.goes i H hlt q, Pv (i + 1), fun H' p' => ⟨n1 - (i + 1), by omega, rfl, hlt, p'⟩, fun x H' y => hs i x H H' hlt p (w.yields i H x H' hlt q y)⟩
  · have e : i = n1 := by omega
    subst e
    exact .inl ⟨w.stops H q, hd H p⟩
end
section
variable {P : Program} {w : World} {K : PySem.W.Frag} {mg : Str → Option Value} {base : Heap}
/-- what repr takes -/
def Shw (d : PyData) : Prop := d.showable = true ∧ d.depth ≤ 60 ∧ d.shown.length ≤ sizeLine
/-- texts_of: it looks -/
def C_texts_of : AC := fun xs R => ∃ x ds, xs = [x] ∧ frz x = some (.list ds) ∧ (∀ d ∈ ds, Shw d) ∧ ds.length ≤ 1000 ∧ R (.n .lst ((ds.map fun d => PyData.str d.shown).map .d)) [.d (.list ds)]
def isW (rows : List (List PyData)) (thing : PyData) : Bool := match thing with
  | .list ds => if ds.length = (rows.map (·.length)).sum then !(runs (rows.map (·.map (·.shown))) (ds.map (·.shown))).isEmpty else false
  | _ => false
/-- is_weaving: it looks -/
def C_is_weaving : AC := fun xs R => ∃ x y rows thing, xs = [x, y] ∧ frz x = some (.list (rows.map .list)) ∧ frz y = some thing ∧ rows.length ≤ 4 ∧ (rows.map (·.length)).sum ≤ 12 ∧ (∀ r ∈ rows, ∀ d ∈ r, Shw d) ∧ (∀ ds, thing = .list ds → ∀ d ∈ ds, Shw d) ∧ R (.d (.bool (isW rows thing))) xs
theorem At.grow {A : Addr → Prop} {F : FS} {H H' : Hp} {vs : List V} {xs : List OV} (c : At K A F H H F vs xs [] []) (e : Ex H H') : At K A F H H' F vs xs [] [] := by
  have er : Ex (rs H F) (rs H' F) := fun a o h => by
    rw [rs_some] at h ⊢
    exact ⟨h.1, e _ _ h.2⟩
  obtain ⟨⟨a1, a2, h1, h2, nd, off⟩, fh⟩ := c.cf
  exact ⟨⟨fun a o _ h => e a o h, er, fun a h => .inl h⟩, ⟨⟨a1, a2, h1.keep er fun a _ o h => e a o h, h2.keep er fun a _ o h => e a o h, nd, off⟩, fun a ha z => by
    cases h : H a with
    | none => exact fh a ha h
    | some o => rw [e _ _ h] at z; cases z⟩⟩
theorem tx_call {H : Hp} {F : FS} {v : V} {ds : List PyData} {Q : VK} {E : XK} (hv : Dt K (rs H F) v (.list ds)) (fF : ∀ a, F a = true → H a ≠ none) (sh : ∀ d ∈ ds, Shw d) (hl : ds.length ≤ 1000)
    (q : ∀ l H', Ex H H' → H l = none → H' l = some (.lst (ds.map fun d => V.str d.shown)) → Q (.ref l) H') : spA K C_texts_of [v] H Q E := by
  refine ⟨fun _ => False, F, [.d (.list ds)], fun z xs' => z = .n .lst ((ds.map fun d => PyData.str d.shown).map .d), ⟨.refl, ⟨⟨[], [], ?_, .nil, by simp, fun a ha => by cases ha⟩, fF⟩⟩, ⟨_, ds, rfl, by rw [frz_d], sh, hl, rfl⟩, fun z xs' w' H' F' r c => ?_⟩
  · exact .cons (as := []) (bs := []) (.d hv) .nil
  · subst r
    obtain ⟨⟨a1, a2, ho, he, nd, off⟩, fh⟩ := c.cf
    cases ho with
    | cons h1 t =>
      cases h1 with
      | @n a s vs xs ex as hs hv =>
        have e : vs = ds.map fun d => V.str d.shown := by
          have g : ∀ {es : List PyData} {us : List V} {as : List Addr}, Owns K H' F' us ((es.map fun d => PyData.str d.shown).map .d) as → us = es.map fun d => V.str d.shown := by
            intro es
            induction es with
            | nil => intro us as h; cases h; rfl
            | cons s ss ih =>
              intro us as h
              cases h with
              | cons h1 h2 => cases h1 with
                | d h1 => cases h1; rw [ih h2]; rfl
          exact g hv
        subst e
        have ha := (off a (by simp)).2
        have hn : H a = none := by
          rcases ha with z | z
          · exact z.elim
          · exact z
        exact q a H' (fun b o e => c.st.keep b o (fun z => z) e) hn hs.1
/-- a list of flat lists, laid since H1 -/
structure Fl (H1 H : Hp) (D : Addr) (n : Nat) (fv : Nat → List V) : Prop where
  ex : Ex H1 H
  at_ : ∃ ps : List Addr, H D = some (.lst (ps.map V.ref)) ∧ ps.length = n ∧ ∀ j p, ps[j]? = some p → p ≠ D ∧ H p = some (.lst (fv j))
theorem Fl.start {H1 : Hp} {D : Addr} {fv : Nat → List V} (h : H1 D = none) : Fl H1 (upd H1 D (.lst [])) D 0 fv := ⟨Ex.new h, [], upd_same, rfl, fun j p e => by simp at e⟩
theorem Fl.more {H1 H H' : Hp} {D p : Addr} {n : Nat} {fv : Nat → List V} (f : Fl H1 H D n fv) (hD : H1 D = none) (hp : H p = none) (e : Ex H H') (h : H' p = some (.lst (fv n))) (hn : n < 1000) :
    ∃ acc, H' D = some (.lst acc) ∧ acc.length < sizeLine ∧ Fl H1 (upd H' D (.lst (acc ++ [V.ref p]))) D (n + 1) fv := by
  obtain ⟨ex, ps, h1, h2, h3⟩ := f
  have npD : p ≠ D := fun z => by rw [z] at hp; rw [hp] at h1; cases h1
  refine ⟨_, e _ _ h1, by rw [List.length_map, h2]; exact Nat.lt_trans hn (by decide), (ex.trans e).mut hD, ps ++ [p], by rw [upd_same, List.map_append]; rfl, by simp [h2], fun j q hj => ?_⟩
  by_cases l : j < ps.length
  · rw [List.getElem?_append_left l] at hj
    obtain ⟨a, b⟩ := h3 j q hj
    exact ⟨a, by rw [upd_ne a]; exact e _ _ b⟩
  · rw [List.getElem?_append_right (by omega)] at hj
    have li : j - ps.length < 1 := by
      have := List.getElem?_eq_some_iff.mp hj
      simpa using this.1
    have e0 : j = n := by omega
    subst e0
    rw [h2, Nat.sub_self] at hj
    cases hj
    exact ⟨npD, by rw [upd_ne npD]; exact h⟩
theorem dts_get {H : Hp} : ∀ {vs : List V} {ds : List PyData} {i : Nat} {v : V}, Dts K H vs ds → vs[i]? = some v → ∃ d, ds[i]? = some d ∧ Dt K H v d
  | _, _, i, v, .nil, h => by simp at h
  | _, _, 0, v, .cons a t, h => by simp at h; subst h; exact ⟨_, rfl, a⟩
  | _, _, i + 1, v, .cons a t, h => by
    obtain ⟨d, e, x⟩ := dts_get t (by simpa using h)
    exact ⟨d, by simpa using e, x⟩
theorem len_le_sum : ∀ {rows : List (List PyData)} {r : List PyData}, r ∈ rows → r.length ≤ (rows.map (·.length)).sum
  | x :: rows, r, h => by
    rw [List.map_cons, List.sum_cons]
    rcases List.mem_cons.mp h with e | h
    · rw [e]; omega
    · have := len_le_sum h
      omega
abbrev teLen (K : PySem.W.Frag) : TE := tCB (fun xs H Q => ∃ p ys, xs = [.ref p] ∧ (SqL K H p ys ∨ SqT K H p ys) ∧ Q (.int ys.length) H) (tCons (tVar 5) tNil)
abbrev wi1K (K : PySem.W.Frag) : TI := iEnum K (tCons (tVar 2) tNil)
abbrev tt1K (K : PySem.W.Frag) : TT := tAnd (tTest (tOp (rI0 fun i j => .bl (decide (i < j))) (tOp (rIxT K) (tVar 6) (tVar 7)) (tCB (fun xs H Q => ∃ p ys, xs = [.ref p] ∧ (SqL K H p ys ∨ SqT K H p ys) ∧ Q (.int ys.length) H) (tCons (tVar 5) tNil)))) (tTest (tOp rEq (tOp (rIxL K) (tVar 5) (tOp (rIxT K) (tVar 6) (tVar 7))) (tVar 4)))
abbrev tkK (K : PySem.W.Frag) : TE := tOp (rCatA K) (tOp (rCatA K) (tSl (rSlA K) (tVar 6) tNoPart (tPart (tVar 7))) (tTup (tCons (tOp (rI0 fun i j => .int (i + j)) (tOp (rIxT K) (tVar 6) (tVar 7)) (tC (.int 1))) tNil))) (tSl (rSlA K) (tVar 6) (tPart (tOp (rI0 fun i j => .int (i + j)) (tVar 7) (tC (.int 1)))) tNoPart)
def iV (s : Spot) : List V := s.map fun n : Nat => V.int (n : Int)
theorem iV_len (s : Spot) : (iV s).length = s.length := by unfold iV; rw [List.length_map]
theorem sl_new {H : Hp} {a : Addr} {xs : List V} {lo hi : Option Int} {Q : VK} (hx : SqT K H a xs) (nw : ¬ (HT.sIx xs.length 0 lo = 0 ∧ HT.sIx xs.length xs.length hi = xs.length)) (q : ∀ p H', Ex H H' → H' p = some (.tup (cutV xs lo hi)) → Q (.ref p) H') : rSlA K (.ref a) lo hi H Q :=
  ⟨a, xs, rfl, hx, fun z => absurd z nw, fun _ p hp => q p _ (Ex.new hp) upd_same⟩
theorem cat_l {H : Hp} {a b : Addr} {xs ys : List V} {Q : VK} (ha : SqT K H a xs) (hb : H b = some (.tup ys)) (hy : ys ≠ []) (hz : xs.length + ys.length ≤ sizeLine) (q : ∀ p H', Ex H H' → H' p = some (.tup (xs ++ ys)) → Q (.ref p) H') : rCatA K (.ref a) (.ref b) H Q := by
  refine ⟨a, b, xs, ys, rfl, rfl, ha, .of hb, hz, fun e => ?_, fun _ e => absurd e hy, fun _ _ p hp => q p _ (Ex.new hp) upd_same⟩
  subst e
  exact q b H (Ex.refl _) hb
theorem cat_r {H : Hp} {a b : Addr} {xs ys : List V} {Q : VK} (ha : H a = some (.tup xs)) (hb : SqT K H b ys) (hx : xs ≠ []) (hz : xs.length + ys.length ≤ sizeLine) (q : ∀ p H', Ex H H' → H' p = some (.tup (xs ++ ys)) → Q (.ref p) H') : rCatA K (.ref a) (.ref b) H Q := by
  refine ⟨a, b, xs, ys, rfl, rfl, .of ha, hb, hz, fun e => absurd e hx, fun _ e => ?_, fun _ _ p hp => q p _ (Ex.new hp) upd_same⟩
  subst e
  exact q a H (Ex.refl _) (by rw [List.append_nil]; exact ha)
theorem cut_lo (s : Spot) (a : Nat) : cutV (iV s) none (some (a : Int)) = iV (s.take a) := by
  unfold cutV iV
  rw [HT.sIx_none, HT.sIx_nat, List.length_map, List.drop_zero, ← List.map_take]
  congr 1
  rw [Nat.sub_zero]
  rcases Nat.le_total a s.length with h | h
  · rw [Nat.min_eq_left h]
  · rw [Nat.min_eq_right h, List.take_of_length_le (Nat.le_refl _), List.take_of_length_le h]
theorem cut_hi (s : Spot) (a : Nat) : cutV (iV s) (some ((a : Int) + 1)) none = iV (s.drop (a + 1)) := by
  unfold cutV iV
  rw [HT.sIx_none, show ((a : Int) + 1) = ((a + 1 : Nat) : Int) by omega, HT.sIx_nat, List.length_map, ← List.map_drop, ← List.map_take]
  congr 1
  rcases Nat.le_total (a + 1) s.length with h | h
  · rw [Nat.min_eq_left h, List.take_of_length_le (by rw [List.length_drop]; omega)]
  · rw [Nat.min_eq_right h, List.drop_of_length_le h, List.drop_of_length_le (Nat.le_refl _), List.take_nil]
theorem at_spot {s : Spot} {a : Nat} (h : a < s.length) : atI (iV s) (a : Int) = some (.int ((s.getD a 0 : Nat) : Int)) := atI_nat (by
  unfold iV
  rw [List.getElem?_map, List.getElem?_eq_getElem h, List.getD_eq_getElem?_getD, List.getElem?_eq_getElem h]
  rfl)
theorem iV_adv (s : Spot) (a : Nat) : iV (s.take a) ++ [V.int (((s.getD a 0 : Nat) : Int) + 1)] ++ iV (s.drop (a + 1)) = iV (adv s a) := by
  unfold iV adv
  rw [List.map_append, List.map_append]
  simp
theorem tk_ok {H : Hp} {q : Addr} {s : Spot} {a : Nat} {σ : L2.St} {Q : VK} (h6 : σ[6]? = some (some (.ref q))) (h7 : σ[7]? = some (some (.int (a : Int)))) (hq : H q = some (.tup (iV s))) (ha : a < s.length) (h4 : s.length ≤ 4)
    (k : ∀ p H', Ex H H' → H' p = some (.tup (((adv s a).map keyI).map kV)) → Q (.ref p) H') : tkK K σ H Q := by
  refine ⟨_, h6, _, h7, _, rfl, sl_new (.of hq) (fun z => ?_) fun p1 H1 e1 hp1 => ?_⟩
  · have z2 := z.2
    rw [HT.sIx_nat, iV_len] at z2
    omega
  rw [cut_lo] at hp1
  refine ⟨_, h6, _, h7, ⟨q, _, _, _, rfl, rfl, .of (e1 _ _ hq), at_spot ha, _, _, rfl, rfl, (by show (1 : Nat) ≤ sizeLine; decide), fun p2 hp2 => ?_⟩⟩
  have e2 : Ex H1 (upd H1 p2 (.tup [.int (((s.getD a 0 : Nat) : Int) + 1)])) := Ex.new hp2
  refine cat_l (.of (e2 _ _ hp1)) upd_same (by simp) (by rw [iV_len, List.length_take, List.length_singleton, sizeLine_eq]; omega) fun p3 H3 e3 hp3 => ?_
  have hq3 := e3 _ _ (e2 _ _ (e1 _ _ hq))
  refine ⟨_, h6, _, h7, _, _, rfl, rfl, _, rfl, ?_⟩
  show rSlA K (.ref q) (some ((a : Int) + 1)) none H3 fun y H2 => rCatA K (.ref p3) y H2 Q
  refine sl_new (lo := some ((a : Int) + 1)) (hi := none) (.of hq3) (fun z => ?_) fun p4 H4 e4 hp4 => ?_
  · have z1 := z.1
    rw [show ((a : Int) + 1) = ((a + 1 : Nat) : Int) by omega, HT.sIx_nat, iV_len] at z1
    omega
  rw [cut_hi] at hp4
  refine cat_r (e4 _ _ hp3) (.of hp4) (by simp) (by rw [List.length_append, iV_len, iV_len, List.length_take, List.length_singleton, List.length_drop, sizeLine_eq]; omega) fun p5 H5 e5 hp5 => ?_
  refine k p5 H5 (((e1.trans e2).trans e3).trans (e4.trans e5)) ?_
  rw [kV_keys]
  rw [iV_adv] at hp5
  exact hp5
theorem tt_ok {H : Hp} {q r : Addr} {s : Spot} {a : Nat} {σ : L2.St} {tx : List (List Str)} {one : Str} {Q : Bool → Hp → Prop} (h4 : σ[4]? = some (some (.str one))) (h5 : σ[5]? = some (some (.ref r))) (h6 : σ[6]? = some (some (.ref q))) (h7 : σ[7]? = some (some (.int (a : Int))))
    (hq : H q = some (.tup (iV s))) (hr : H r = some (.lst ((tx.getD a []).map V.str))) (ha : a < s.length) (k : Q (tells tx one s a) H) : tt1K K σ H Q := by
  refine ⟨_, h6, _, h7, q, _, _, _, rfl, rfl, .of hq, at_spot ha, _, h5, r, _, rfl, .inl (.of hr), _, _, rfl, rfl, _, rfl, ?_⟩
  rw [List.length_map]
  unfold tells at k
  by_cases hl : s.getD a 0 < (tx.getD a []).length
  · have d1 : decide (((s.getD a 0 : Nat) : Int) < (((tx.getD a []).length : Nat) : Int)) = true := decide_eq_true (by omega)
    rw [d1]
    rw [decide_eq_true hl, Bool.true_and] at k
    refine ⟨_, h5, _, h6, _, h7, q, _, _, _, rfl, rfl, .of hq, at_spot ha, r, _, _, _, rfl, rfl, .of hr, atI_nat (v := .str ((tx.getD a []).getD (s.getD a 0) ⟨#[]⟩)) ?_, _, h4, rfl, _, rfl, ?_⟩
    · have g : ∀ (row : List Str) (i : Nat), i < row.length → (row.map V.str)[i]? = some (V.str (row.getD i ⟨#[]⟩)) := fun row i h => by
        rw [List.getElem?_map, List.getElem?_eq_getElem h, List.getD_eq_getElem?_getD, List.getElem?_eq_getElem h]; rfl
      exact g _ _ hl
    · have e : decide (V.str ((tx.getD a []).getD (s.getD a 0) ⟨#[]⟩) = V.str one) = decide ((tx.getD a []).getD (s.getD a 0) ⟨#[]⟩ = one) := by
        rw [Bool.eq_iff_iff]; simp
      rw [e]
      exact k
  · have d1 : decide (((s.getD a 0 : Nat) : Int) < (((tx.getD a []).length : Nat) : Int)) = false := decide_eq_false (by omega)
    rw [d1]
    rw [decide_eq_false hl, Bool.false_and] at k
    exact k
theorem ok_p_is_weaving (T : Txt w K mg) (G_p_texts_of : Fn P w K mg base CX0 1 T.a_p_texts_of T.d_p_texts_of ["some"] (spA K C_texts_of)) : Fn P w K mg base CX0 2 T.a_p_is_weaving T.d_p_is_weaving ["rows", "thing"] (spA K C_is_weaving) := by
  refine Grd.mk T.F_p_is_weaving scp_is_weaving (fun vs H Q E h => ?_) (fun cdv A outer st H vs Q E gd hr h => ?_)
  · obtain ⟨A, F, xs, R, c, ⟨x, y, rows, thing, rfl, _⟩, _⟩ := h
    obtain ⟨⟨_, _, ho, _⟩, _⟩ := c.cf
    cases ho with
    | cons _ t => cases t with
      | cons _ t => cases t; rfl
  obtain ⟨A0, F, xs, R, c, ⟨x, y, rows, thing, rfl, ex, ey, r4, r12, shr, sht, hR⟩, q⟩ := h
  obtain ⟨v1, v2, rfl⟩ : ∃ v1 v2, vs = [v1, v2] := by
    obtain ⟨⟨_, _, ho, _⟩, _⟩ := c.cf
    cases ho with
    | cons _ t => cases t with
      | cons _ t => cases t; exact ⟨_, _, rfl⟩
  obtain ⟨F', c'⟩ := c.fix2 ex ey
  have t1 : Dt K (rs H F') v1 (.list (rows.map .list)) := c'.dp
  have t2 : Dt K (rs H F') v2 thing := c'.pop.dp
  have fF : ∀ a, F' a = true → H a ≠ none := c'.cf.fh
  have ty2 : TyX K H v2 (.type (tyO (.d thing))) := ty_of c'.pop (by cases thing <;> simp [dull])
  have fin : ∀ H', Ex H H' → Q (.bl (isW rows thing)) H' := fun H' e => q _ _ _ H' F hR ((At.grow c e).push (.bl _))
  clear c c' q hR ex ey
  refine ⟨_, (pss_cons (ps_if (PW.pt (pw_or (pt_not (pt_val (pe_callB call_isi (by rfl) T.n_isinstance (by decide +kernel) (pa_cons (pv 1) (pa_cons (pe_bltn (v := .ty "list") (by rfl) T.n_list (by decide +kernel) rfl) pa_nil))))) (pw_or1 (pt_cmpR op_ne (pe_callB call_len (by rfl) T.n_len PySem.boot_len (pa_cons (pv 1) pa_nil)) (pe_callB (cr_sum rfl) (by rfl) T.n_sum (by decide +kernel) (pa_cons (pe_lc (own := [("row", 5)]) (te := teLen K) (by rfl) scp_is_weaving.nd (pi_list (pv 0)) (blkOk_by (own := [("row", 5)]) (N := ["rows", "thing", "texts", "spots", "one", "row", "spot", "at"]) (sc := defScope s_p_is_weaving) (by decide +kernel)) (fun _ _ _ _ _ => (pg_name (i := 5) scp_is_weaving.nd rfl (Or.inl rfl))) (fun _ _ _ _ _ => pts_nil) (fun _ _ _ _ _ => (pe_callB call_len_seq (by rfl) T.n_len PySem.boot_len (pa_cons (pv 5) pa_nil)))) pa_nil)) (nomark _))))) (pss_one (ps_ret pe_bl)) pss_nil)
      (pss_cons (ps_set (i := 2) scp_is_weaving.nd rfl (Or.inr rfl) (pe_lc (own := [("row", 5)]) (by rfl) scp_is_weaving.nd (pi_list (pv 0)) (blkOk_by (own := [("row", 5)]) (N := ["rows", "thing", "texts", "spots", "one", "row", "spot", "at"]) (sc := defScope s_p_is_weaving) (by decide +kernel)) (fun _ _ _ _ _ => (pg_name (i := 5) scp_is_weaving.nd rfl (Or.inl rfl))) (fun _ _ _ _ _ => pts_nil) (fun _ _ _ _ _ => (pe_callG G_p_texts_of gd (hr.mono (by first | decide | omega)) rfl T.g_p_texts_of T.F_p_texts_of.kp T.b_p_texts_of .nil pass0 (pa_cons (pv 5) pa_nil)))))
      (pss_cons (ps_set (i := 3) scp_is_weaving.nd rfl (Or.inl rfl) (pe_disp1T (hu_of hr) (pe_callTy call_tuple_of (by rfl) T.n_tuple (by decide +kernel) (pa_cons (pe_op op_rep (pe_lst (pa_cons pe_int pa_nil)) (pe_callB call_len_seq (by rfl) T.n_len PySem.boot_len (pa_cons (pv 0) pa_nil))) pa_nil)) pe_bl))
      (pss_cons (ps_for PassesOwn.never rfl (pi_list (pe_callG G_p_texts_of gd (hr.mono (by first | decide | omega)) rfl T.g_p_texts_of T.F_p_texts_of.kp T.b_p_texts_of .nil pass0 (pa_cons (pv 1) pa_nil))) (pg_name (i := 4) scp_is_weaving.nd rfl (Or.inr rfl)) (pss_one (ps_lock (ps_setDc2 (i := 3) (own := [("spot", 6), ("at", 7), ("row", 5)]) (vs1 := [7, 5]) (g1 := (gTup K 2 (gCons (gName 7) (gCons (gName 5) gNil)))) (wi1 := wi1K K) (tt1 := tt1K K) (tk := tkK K) (tv := tC (.bl true)) (hu_of hr) (by rfl) scp_is_weaving.nd rfl rfl (sw_trueD rfl rfl rfl (by decide +kernel)) (pi_keys (pv 3)) (blkOk_by (own := [("spot", 6), ("at", 7), ("row", 5)]) (N := ["rows", "thing", "texts", "spots", "one", "row", "spot", "at"]) (sc := defScope s_p_is_weaving) (by decide +kernel)) (by decide) (fun _ _ _ _ _ => (pg_name (i := 6) scp_is_weaving.nd rfl (Or.inl rfl))) (fun _ _ _ _ _ => (pi_enum (by rfl) T.n_enumerate (pa_cons (pv 2) pa_nil))) (fun _ _ _ _ _ => (pg_tup rfl (pgs_cons (pg_name (i := 7) scp_is_weaving.nd rfl (Or.inl rfl)) (pgs_cons (pg_name (i := 5) scp_is_weaving.nd rfl (Or.inl rfl)) pgs_nil)))) (fun _ _ _ _ _ => (pts_one (PW.pt (pw_and (pt_cmpR op_lt (pe_ix ix_tup (pv 6) (pv 7) (fun _ _ => rfl)) (pe_callB call_len_seq (by rfl) T.n_len PySem.boot_len (pa_cons (pv 5) pa_nil)) (nomark _)) (pw_and1 (pt_cmpR op_eq (pe_ix ix_list (pv 5) (pe_ix ix_tup (pv 6) (pv 7) (fun _ _ => rfl)) (fun _ _ => rfl)) (pv 4) (nomark _))))))) (fun _ _ _ _ _ => (pe_op op_catA (pe_op op_catA (pe_slice sl_tupA (pv 6) po_none (po_some (pv 7))) (pe_tup (pa_cons (pe_op op_add (pe_ix ix_tup (pv 6) (pv 7) (fun _ _ => rfl)) pe_int) pa_nil))) (pe_slice sl_tupA (pv 6) (po_some (pe_op op_add (pv 7) pe_int)) po_none))) (fun _ _ _ _ _ => pe_bl)))))
      (pss_one (ps_ret (pe_cmpR op_gt (pe_callB call_len_dT (by rfl) T.n_len PySem.boot_len (pa_cons (pv 3) pa_nil)) pe_int (nomark _)))))))), ?_⟩
  by_cases hL : ∃ ds, thing = .list ds
  case neg =>
    have hb : isOf .list (.d thing) = false := by
      cases thing <;> first | rfl | exact absurd ⟨_, rfl⟩ hL
    have hw : isW rows thing = false := by
      cases thing <;> first | rfl | exact absurd ⟨_, rfl⟩ hL
    rw [hw] at fin
    exact ⟨_, rfl, v2, .ty "list", _, .type "list", false, rfl, .ty _, ty2, by rw [← hb]; exact isi_of .list (.d thing) (by cases thing <;> rfl), _, rfl, fin H (Ex.refl _)⟩
  obtain ⟨ds, rfl⟩ := hL
  obtain ⟨a1, vs, rfl, h1, d1⟩ : ∃ a1 vs, v1 = .ref a1 ∧ (rs H F') a1 = some (.lst vs) ∧ Dts K (rs H F') vs (rows.map .list) := by
    cases t1 with | lst a b => exact ⟨_, _, rfl, a, b⟩
  obtain ⟨a2, us, rfl, h2, d2⟩ : ∃ a2 us, v2 = .ref a2 ∧ (rs H F') a2 = some (.lst us) ∧ Dts K (rs H F') us ds := by
    cases t2 with | lst a b => exact ⟨_, _, rfl, a, b⟩
  have H1 := (rs_some.mp h1).2
  have H2 := (rs_some.mp h2).2
  have lvs : vs.length = rows.length := by have := d1.len; rw [List.length_map] at this; omega
  have lus : us.length = ds.length := by have := d2.len; omega
  have row_at : ∀ (i : Nat) (v : V), vs[i]? = some v → ∃ p ws r, v = .ref p ∧ rows[i]? = some r ∧ (rs H F') p = some (.lst ws) ∧ Dts K (rs H F') ws r := by
    intro i v hv
    obtain ⟨d, e, x⟩ := dts_get d1 hv
    rw [List.getElem?_map] at e
    obtain ⟨r, er, rfl⟩ := Option.map_eq_some_iff.mp e
    cases x with
    | lst a b => exact ⟨_, _, r, rfl, er, a, b⟩
  refine ⟨_, rfl, .ref a2, .ty "list", _, .type "list", true, rfl, .ty _, ty2, isi_of .list (.d (.list ds)) rfl, _, rfl, ?_⟩
  refine ⟨_, rfl, .ref a2, us.length, rfl, .inl ⟨us, .of H2, rfl⟩, _, rfl, a1, rfl, ⟨vs, .of H1⟩, fun D hD => ?_⟩
  refine lc_list (xs := vs) (fun i H' => Ex H H' ∧ H' D = some (.lst ((rows.take i).map fun r => V.int (r.length : Int)))) ⟨Ex.new hD, upd_same⟩ (fun i H' _ p => .of (p.1 _ _ H1)) ?_ ?_
  · rintro i v H' hv ⟨e, hd⟩
    obtain ⟨p, ws, r, rfl, er, hp, dp⟩ := row_at i v hv
    have lr : ws.length = r.length := by have := dp.len; omega
    refine ⟨rfl, _, rfl, p, ws, rfl, .inl (.of (e _ _ (rs_some.mp hp).2)), _, hd, ?_, e.mut hD, ?_⟩
    · rw [List.length_map, List.length_take, sizeLine_eq]; omega
    · rw [upd_same, List.take_add_one, er, List.map_append, lr]; rfl
  rintro H3 ⟨e3, hd3⟩
  have hmap : (rows.take vs.length).map (fun r => V.int (r.length : Int)) = (rows.map fun r => (r.length : Int)).map V.int := by
    rw [lvs, List.take_length, List.map_map]; rfl
  rw [hmap] at hd3
  refine ⟨D, _, rfl, .of hd3, rfl, ?_⟩
  have hsum : ∀ rs : List (List PyData), (rs.map fun r => (r.length : Int)).sum = (((rs.map (·.length)).sum : Nat) : Int) := by
    intro rs
    induction rs with
    | nil => rfl
    | cons r rs ih => rw [List.map_cons, List.map_cons, List.sum_cons, List.sum_cons, ih]; omega
  have hdec : decide (V.int (us.length : Int) = V.int (rows.map fun r => (r.length : Int)).sum) = decide (ds.length = (rows.map (·.length)).sum) := by
    rw [hsum, lus, Bool.eq_iff_iff]
    simp
    omega
  rw [hdec]
  by_cases hn : ds.length = (rows.map (·.length)).sum
  case neg =>
    rw [decide_eq_false hn]
    have hw : isW rows (.list ds) = false := by simp only [isW, if_neg hn]
    rw [hw] at fin
    exact ⟨_, rfl, fin H3 e3⟩
  rw [decide_eq_true hn]
  refine ⟨_, rfl, ?_⟩
  have hw : isW rows (.list ds) = !(runs (rows.map (·.map (·.shown))) (ds.map (·.shown))).isEmpty := by simp only [isW, if_pos hn]
  rw [hw] at fin
  generalize etx : rows.map (·.map (·.shown)) = tx at fin
  have ltx : tx.length = rows.length := by rw [← etx, List.length_map]
  -- texts
  refine ⟨_, rfl, a1, rfl, ⟨vs, .of (e3 _ _ H1)⟩, fun X hX => ?_⟩
  refine lc_list (xs := vs) (fun i H' => Fl H3 H' X i fun j => (tx.getD j []).map V.str) (Fl.start hX) (fun i H' _ p => .of (p.ex _ _ (e3 _ _ H1))) ?_ ?_
  · rintro i v H' hv f
    obtain ⟨p, ws, r, rfl, er, hp, dp⟩ := row_at i v hv
    have hi : i < rows.length := (List.getElem?_eq_some_iff.mp er).1
    have hmem : r ∈ rows := List.mem_of_getElem? er
    have up : Ex (rs H F') (rs H' F') := fun a o h => by
      rw [rs_some] at h ⊢
      exact ⟨h.1, f.ex _ _ (e3 _ _ h.2)⟩
    have lr : r.length ≤ 12 := Nat.le_trans (len_le_sum hmem) r12
    refine ⟨rfl, _, rfl, tx_call (E := E0) (ds := r) (.lst (up _ _ hp) (dts_ex up dp)) (fun a h => fun z => ?_) (shr r hmem) (by omega) fun l H4 e4 hl0 hl => ?_⟩
    · cases h' : H a with
      | none => exact fF a h h'
      | some o => rw [f.ex _ _ (e3 _ _ h')] at z; cases z
    · refine f.more hX hl0 e4 ?_ (by omega)
      rw [hl, ← etx, List.getD_eq_getElem?_getD, List.getElem?_map, er]
      simp
  rintro H5 f5
  rw [lvs] at f5
  obtain ⟨e5, ps, hX5, lps, hps⟩ := f5
  -- the first spot
  refine fun S hS => ⟨(by show (1 : Nat) ≤ sizeLine; decide), fun z1 hz1 => ?_⟩
  have x1 : Ex H3 (upd H5 S (.dT [])) := e5.trans (Ex.new hS)
  have x2 : Ex H3 (upd (upd H5 S (.dT [])) z1 (.lst [V.int 0])) := x1.trans (Ex.new hz1)
  have s1 : (upd (upd H5 S (.dT [])) z1 (.lst [V.int 0])) S = some (.dT []) := by rw [upd_ne (ne_of_none upd_same hz1)]; exact upd_same
  refine ⟨_, rfl, a1, vs, rfl, .inl (.of (x2 _ _ (e3 _ _ H1))), z1, _, _, rfl, rfl, upd_same, by omega, by omega, ?_, fun z2 hz2 => ?_⟩
  · rw [List.length_singleton, sizeLine_eq]; omega
  refine ⟨z2, _, rfl, .inl ⟨.of upd_same, fun z3 hz3 => ?_⟩⟩
  have s2 : (upd (upd (upd H5 S (.dT [])) z1 (.lst [V.int 0])) z2 (.lst (List.replicate (vs.length : Int).toNat [V.int 0]).flatten)) S = some (.dT []) := by rw [upd_ne (ne_of_none s1 hz2)]; exact s1
  refine ⟨by rw [upd_ne (ne_of_none s2 hz3)]; exact s2, (List.replicate tx.length 0).map keyI, z3, rfl, ?_, ?_⟩
  · rw [upd_same, kV_keys, lvs, ltx, Int.toNat_natCast]
    congr 2
    induction rows.length with
    | zero => rfl
    | succ n ih => rw [List.replicate_succ, List.replicate_succ, List.flatten_cons, ih]; rfl
  have e6 : Ex H5 (upd (upd (upd (upd (upd H5 S (.dT [])) z1 (.lst [V.int 0])) z2 (.lst (List.replicate (vs.length : Int).toNat [V.int 0]).flatten)) z3 (.tup (List.replicate (vs.length : Int).toNat [V.int 0]).flatten)) S (.dT [((List.replicate tx.length 0).map keyI, V.bl true)])) :=
    ((((Ex.new hS).trans (Ex.new hz1)).trans (Ex.new hz2)).trans (Ex.new hz3)).mut hS
  have s6 : (upd (upd (upd (upd (upd H5 S (.dT [])) z1 (.lst [V.int 0])) z2 (.lst (List.replicate (vs.length : Int).toNat [V.int 0]).flatten)) z3 (.tup (List.replicate (vs.length : Int).toNat [V.int 0]).flatten)) S (.dT [((List.replicate tx.length 0).map keyI, V.bl true)])) S = some (.dT (kvsOfS (runs tx []))) := upd_same
  generalize upd (upd (upd (upd (upd H5 S (.dT [])) z1 (.lst [V.int 0])) z2 (.lst (List.replicate (vs.length : Int).toNat [V.int 0]).flatten)) z3 (.tup (List.replicate (vs.length : Int).toNat [V.int 0]).flatten)) S (.dT [((List.replicate tx.length 0).map keyI, V.bl true)]) = H6 at e6 s6 ⊢
  clear s2 s1 x2 x1 hz1 hz2 hz3
  have e06 : Ex H H6 := (e3.trans e5).trans e6
  have up6 : Ex (rs H F') (rs H6 F') := fun a o h => by
    rw [rs_some] at h ⊢
    exact ⟨h.1, e06 _ _ h.2⟩
  refine ⟨_, rfl, tx_call (E := E0) (ds := ds) (.lst (up6 _ _ h2) (dts_ex up6 d2)) (fun a h => fun z => ?_) (sht ds rfl) (by omega) fun L H7 e7 hL0 hL7 => ?_⟩
  · cases h' : H a with
    | none => exact fF a h h'
    | some o => rw [e06 _ _ h'] at z; cases z
  generalize eo : ds.map (·.shown) = ones at fin
  have hL7' : H7 L = some (.lst (ones.map V.str)) := by rw [hL7, ← eo, List.map_map]; rfl
  have l12 : ones.length ≤ 12 := by rw [← eo, List.length_map]; omega
  refine ⟨L, rfl, ⟨_, .of hL7'⟩, for_it (walk_list (xs := ones.map V.str)) (fun i σ H' => ∃ (S : Addr) (u4 u5 u6 u7 : Option V), σ = [some (.ref a1), some (.ref a2), some (.ref X), some (.ref S), u4, u5, u6, u7] ∧ H5 S = none ∧ Ex H5 H' ∧ H' L = some (.lst (ones.map V.str)) ∧ H' S = some (.dT (kvsOfS (runs tx (ones.take i)))))
    ⟨S, none, none, none, none, rfl, hS, e6.trans e7, hL7', e7 _ _ s6⟩ (fun i σ H' _ ⟨_, _, _, _, _, _, _, _, h, _⟩ => .of h) ?_ ?_⟩
  · rintro i x σ H8 H9 hi ⟨S, u4, u5, u6, u7, rfl, nS, e8, hL8, hS8⟩ ⟨rfl, hx⟩
    rw [List.length_map] at hi
    obtain ⟨one, ho, rfl⟩ : ∃ one, ones[i]? = some one ∧ x = .str one := by
      rw [List.getElem?_map] at hx
      obtain ⟨o, a, b⟩ := Option.map_eq_some_iff.mp hx
      exact ⟨o, a, b.symm⟩
    have hruns : runs tx (ones.take (i + 1)) = outs tx one (runs tx (ones.take i)) := fold_take _ _ _ _ _ ho
    have hall : ∀ s ∈ runs tx (ones.take i), s.length = tx.length := by
      suffices g : ∀ (os : List Str) (sp : List Spot), (∀ s ∈ sp, s.length = tx.length) → ∀ s ∈ os.foldl (fun sp one => outs tx one sp) sp, s.length = tx.length from
        g (ones.take i) _ (by intro s hs; rw [List.mem_singleton.mp hs, List.length_replicate])
      intro os
      induction os with
      | nil => intro sp h; exact h
      | cons o os ih => intro sp h; exact ih _ (outs_all h)
    have hlen : (runs tx (ones.take i)).length ≤ 4 ^ i := by
      have := runs_len tx (by omega) (ones.take i)
      rw [List.length_take, Nat.min_eq_left (by omega)] at this
      exact this
    generalize runs tx (ones.take i) = sp at hS8 hruns hall hlen
    have hLS : L ≠ S := fun z => by rw [z, hS8] at hL8; cases hL8
    refine ⟨S, _, hS8, trivial, fun od => ?_⟩
    refine ⟨_, rfl, S, od, rfl, .inr ⟨_, upd_same, fun D hD => ?_⟩⟩
    have ef : Ex H5 (upd H9 S (.frz od (.dT (kvsOfS sp)))) := e8.mut nS
    have nD : H5 D = none := Evl.fresh_back ef hD
    have nDS : D ≠ S := fun z => by rw [z, upd_same] at hD; cases hD
    have nDL : L ≠ D := fun z => by
      rw [← z, upd_ne hLS, hL8] at hD; cases hD
    refine dc2_it walk_keysT (fun i2 H' => Ex H5 H' ∧ H' L = some (.lst (ones.map V.str)) ∧ H' S = some (.frz od (.dT (kvsOfS sp))) ∧ H' D = some (.dT (kvsOfS ((sp.take i2).foldl (fun acc s => inn tx one s tx.length acc) []))))
      ⟨ef.trans (Ex.new hD), by rw [upd_ne nDL, upd_ne hLS]; exact hL8, by rw [upd_ne nDS.symm]; exact upd_same, upd_same⟩ (fun i2 H' _ p => p.2.2.1) ?_ ?_
    · rintro i2 x H' H'' hi2 ⟨eA, hLA, hSA, hDA⟩ ⟨rfl, ky, v, q, hk, rfl, hq⟩
      obtain ⟨s, hs, rfl⟩ : ∃ s, sp[i2]? = some s ∧ ky = s.map keyI := by
        unfold kvsOfS at hk
        rw [List.getElem?_map] at hk
        obtain ⟨s, a, b⟩ := Option.map_eq_some_iff.mp hk
        cases b
        exact ⟨s, a, rfl⟩
      rw [kV_keys] at hq
      have hsl : s.length = tx.length := hall s (List.mem_of_getElem? hs)
      have hi2' : i2 < sp.length := (List.getElem?_eq_some_iff.mp hs).1
      have hacc : ((sp.take i2).foldl (fun acc s => inn tx one s tx.length acc) []).length ≤ i2 * 4 := by
        have := outs_len' tx one (sp.take i2) []
        rw [List.length_nil, List.length_take, Nat.min_eq_left (by omega), Nat.zero_add] at this
        exact Nat.le_trans this (Nat.mul_le_mul_left _ (by omega))
      have hnext : (sp.take (i2 + 1)).foldl (fun acc s => inn tx one s tx.length acc) [] = inn tx one s tx.length ((sp.take i2).foldl (fun acc s => inn tx one s tx.length acc) []) := fold_take _ _ _ _ _ hs
      rw [hnext]
      generalize (sp.take i2).foldl (fun acc s => inn tx one s tx.length acc) [] = acc at hDA hacc
      have big : i2 * 4 + 4 ≤ 16777216 := by
        have h1 : i2 + 1 ≤ 4 ^ i := by omega
        have h2 : 4 ^ i ≤ 4 ^ 11 := Nat.pow_le_pow_right (by decide) (by omega)
        have h3 : (4 : Nat) ^ 11 = 4194304 := by decide
        omega
      refine ⟨rfl, ?_⟩
      refine ⟨_, rfl, X, _, rfl, .of (eA _ _ hX5), ?_⟩
      refine dc2_in (walk_enum (xs := ps.map V.ref)) (fun j H' => Ex H5 H' ∧ H' L = some (.lst (ones.map V.str)) ∧ H' S = some (.frz od (.dT (kvsOfS sp))) ∧ H' q = some (.tup (iV s)) ∧ H' D = some (.dT (kvsOfS (inn tx one s j acc))))
        ⟨eA, hLA, hSA, hq, hDA⟩ (fun j H' _ p => .of (p.1 _ _ hX5)) ?_ ?_
      · rintro j x H3' H4' hj ⟨eB, hLB, hSB, hqB, hDB⟩ ⟨t, y, z, rfl, ht, rfl, ey, ez⟩
        cases ey
        rw [List.length_map, lps] at hj
        obtain ⟨p, hp, rfl⟩ : ∃ p, ps[j]? = some p ∧ z = .ref p := by
          have ez' : (ps.map V.ref)[j]? = some z := ez
          rw [List.getElem?_map] at ez'
          obtain ⟨o, a, b⟩ := Option.map_eq_some_iff.mp ez'
          exact ⟨o, a, b.symm⟩
        have eC : Ex H3' (upd H3' t (.tup [V.int ((j : Nat) : Int), V.ref p])) := Ex.new ht
        refine ⟨t, _, rfl, .of upd_same, rfl, _, _, rfl, _, _, rfl, rfl, rfl, ?_⟩
        have hj' : j < s.length := by omega
        refine tt_ok (tx := tx) (one := one) rfl rfl rfl rfl (eC _ _ hqB) (eC _ _ (eB _ _ (hps j p hp).2)) hj' ?_
        rw [inn_succ]
        unfold inn1
        by_cases ht1 : tells tx one s j = true
        · rw [if_pos ht1, if_pos ht1]
          refine tk_ok rfl rfl (eC _ _ hqB) hj' (by omega) fun p2 H6' e6' hp2 => ?_
          have eD := eC.trans e6'
          refine ⟨_, (adv s j).map keyI, p2, rfl, hp2, eD _ _ hDB, ?_, ?_⟩
          · unfold kvsOfS
            rw [List.length_map, sizeLine_eq]
            have := inn_len tx one s acc j
            omega
          · refine ⟨(eB.trans eD).mut nD, by rw [upd_ne nDL]; exact eD _ _ hLB, by rw [upd_ne nDS.symm]; exact eD _ _ hSB, ?_, by rw [upd_same, put_spot]⟩
            rw [upd_ne (ne_of (eD _ _ hqB) (eD _ _ hDB) (fun z => nomatch z))]
            exact eD _ _ hqB
        · rw [if_neg ht1, if_neg ht1]
          exact ⟨eB.trans eC, eC _ _ hLB, eC _ _ hSB, eC _ _ hqB, eC _ _ hDB⟩
      · rintro H3' ⟨eB, hLB, hSB, hqB, hDB⟩
        rw [List.length_map, lps, ← ltx] at hDB
        exact ⟨eB, hLB, hSB, hDB⟩
    · rintro H' ⟨eA, hLA, hSA, hDA⟩
      have hfull : (kvsOfS sp).length = sp.length := by unfold kvsOfS; rw [List.length_map]
      rw [hfull, List.take_length] at hDA
      refine ⟨hSA, D, _, _, _, _, rfl, nD, eA.mut nS, by rw [upd_ne hLS]; exact hLA, ?_⟩
      rw [upd_ne nDS, hruns]
      exact hDA
  · rintro σ H8 ⟨S, u4, u5, u6, u7, rfl, nS, e8, hL8, hS8⟩
    rw [List.length_map, List.take_length] at hS8
    refine ⟨_, rfl, S, _, rfl, hS8, _, _, rfl, rfl, ?_⟩
    have e : decide ((0 : Int) < (((kvsOfS (runs tx ones)).length : Nat) : Int)) = !(runs tx ones).isEmpty := by
      unfold kvsOfS
      rw [List.length_map]
      cases runs tx ones with
      | nil => rfl
      | cons a l => simp
    show Q (.bl (decide ((0 : Int) < (((kvsOfS (runs tx ones)).length : Nat) : Int)))) H8
    rw [e]
    exact fin H8 ((e3.trans e5).trans e8)
end
end K49

/-! weave, step by step -/
namespace K49
open PySem L2 Grd Ow PyProof.Rows
open Evl (Ex ex_t ex_l ex_rd)
abbrev Row := List (List PyData)
def wstep (g : List Row) (a : Nat) : List Row := (g.set a (g.getD a []).tail).filter fun r => !r.isEmpty
/-- what is woven -/
def wv : List Int → List Row → List PyData → Option (List PyData)
  | [], g, fd => if g.isEmpty = true then some fd else none
  | k :: ks, g, fd => if g.isEmpty = true then some fd else wv ks (wstep g (k % (g.length : Int)).toNat) (fd ++ (g.getD (k % (g.length : Int)).toNat []).headD [])
theorem wv_cons {k : Int} {ks : List Int} {g : List Row} {fd : List PyData} (h : g.isEmpty = false) : wv (k :: ks) g fd = wv ks (wstep g (k % (g.length : Int)).toNat) (fd ++ (g.getD (k % (g.length : Int)).toNat []).headD []) := by
  conv => lhs; unfold wv
  rw [if_neg (by rw [h]; decide)]
def tot (g : List Row) : Nat := (g.map fun r => (r.map (·.length)).sum).sum
def rowD (r : Row) : PyData := .list (r.map .list)
def wres : Option (List PyData) → OV
  | none => .d .none
  | some ds => .n .lst (ds.map .d)
def C_weave : AC := fun xs R => ∃ x y rows picks, xs = [x, y] ∧ frz x = some (.list (rows.map rowD)) ∧ frz y = some (.list (picks.map .int)) ∧ (∀ r ∈ rows, r ≠ []) ∧ tot rows ≤ 1000 ∧ rows.length ≤ 1000 ∧ picks.length ≤ 1000 ∧ R (wres (wv picks rows [])) [.d (.list (rows.map rowD)), .d (.list (picks.map .int))]
section
variable {P : Program} {w : World} {K : PySem.W.Frag} {mg : Str → Option Value} {base : Heap}
abbrev teList (K : PySem.W.Frag) : TE := tCB (fun xs H Q => ∃ p ys, xs = [.ref p] ∧ (SqL K H p ys ∨ SqT K H p ys) ∧ ∀ l, H l = none → Q (.ref l) (upd H l (.lst ys))) (tCons (tVar 6) tNil)
abbrev ttGo (K : PySem.W.Frag) : TT := tTest (tOp (rI0 fun i j => .bl (decide (j < i))) (tCB (fun xs H Q => ∃ p ys, xs = [.ref p] ∧ (SqL K H p ys ∨ SqT K H p ys) ∧ Q (.int ys.length) H) (tCons (tVar 6) tNil)) (tC (.int 0)))
theorem At.grow2 {A : Addr → Prop} {F0 F : FS} {H0 H H' : Hp} {vs : List V} {xs : List OV} (c : At K A F0 H0 H F vs xs [] []) (e : Ex H H') : At K A F0 H0 H' F vs xs [] [] := by
  have er : Ex (rs H F) (rs H' F) := fun a o h => by
    rw [rs_some] at h ⊢
    exact ⟨h.1, e _ _ h.2⟩
  obtain ⟨⟨a1, a2, h1, h2, nd, off⟩, fh⟩ := c.cf
  exact c.on ⟨fun a o _ h => e a o h, er, fun a h => .inl h⟩ ⟨⟨a1, a2, h1.keep er fun a _ o h => e a o h, h2.keep er fun a _ o h => e a o h, nd, fun a ha => ⟨(off a ha).1, .inl (off a ha).2⟩⟩, fun a ha z => by
    cases h : H a with
    | none => exact fh a ha h
    | some o => rw [e _ _ h] at z; cases z⟩
theorem owns_dts {H : Hp} {F : FS} : ∀ {us : List V} {ds : List PyData}, Dts K (rs H F) us ds → Owns K H F us (ds.map .d) []
  | _, _, .nil => .nil
  | _, _, .cons a t => .cons (as := []) (.d a) (owns_dts t)
theorem At.own {A : Addr → Prop} {F0 F : FS} {H0 H H' : Hp} {vs us : List V} {xs : List OV} {p : Addr} {ds : List PyData} (c : At K A F0 H0 H F vs xs [] []) (e : Ex H H') (hp : H p = none) (hp0 : H0 p = none) (h : H' p = some (.lst us)) (d : Dts K (rs H' F) us ds) : At K A F0 H0 H' F (.ref p :: vs) (.n .lst (ds.map .d) :: xs) [] [] := by
  have c2 := At.grow2 c e
  obtain ⟨⟨a1, a2, h1, h2, nd, off⟩, fh⟩ := c.cf
  cases h2
  have er : Ex (rs H F) (rs H' F) := fun a o h => by
    rw [rs_some] at h ⊢
    exact ⟨h.1, e _ _ h.2⟩
  have nF : F p = false := by
    cases z : F p with
    | false => rfl
    | true => exact absurd hp (fh p z)
  have nin : p ∉ a1 := fun z => (Owns.ne h1 p z) hp
  have ow : Own K H' F (.ref p) (.n .lst (ds.map .d)) (p :: [] ++ []) := .n (ex := []) (as := []) ⟨h, rfl⟩ (owns_dts d)
  refine ⟨c2.st, ⟨⟨(p :: [] ++ []) ++ a1, [], .cons ow (h1.keep er fun a _ o h => e a o h), .nil, ?_, fun a ha => ?_⟩, c2.cf.fh⟩⟩
  · simp only [List.append_nil, List.nil_append, List.cons_append, List.nodup_cons]
    exact ⟨nin, by simpa using nd⟩
  · simp only [List.append_nil, List.nil_append, List.cons_append, List.mem_cons] at ha
    rcases ha with rfl | ha
    · exact ⟨nF, .inr hp0⟩
    · exact off a (by simpa using ha)
/-- how weave stands: zs the rows that still go on, lf the picks left, fd what was found -/
structure WvI (K : PySem.W.Frag) (H H' : Hp) (F : FS) (G L D : Addr) (zs : List (Addr × Row)) (lf : List Int) (fd : List PyData) : Prop where
  ex : Ex H H'
  hG : H' G = some (.lst (zs.map fun z => V.ref z.1))
  nG : H G = none
  nd : (zs.map (·.1)).Nodup
  rw_ : ∀ z ∈ zs, H z.1 = none ∧ z.1 ≠ G ∧ z.1 ≠ L ∧ z.1 ≠ D ∧ z.2 ≠ [] ∧ ∃ ws, H' z.1 = some (.lst ws) ∧ Dts K (rs H F) ws (z.2.map .list)
  hL : H' L = some (.lst (lf.reverse.map V.int))
  nL : H L = none
  hD : ∃ us, H' D = some (.lst us) ∧ Dts K (rs H F) us fd
  nD : H D = none
  gl : G ≠ L
  gd : G ≠ D
  ld : L ≠ D
  sz : fd.length + tot (zs.map (·.2)) ≤ 1000
  zl : zs.length ≤ 1000
theorem ok_p_weave (T : Txt w K mg) : Fn P w K mg base CX0 1 T.a_p_weave T.d_p_weave ["turns", "picks"] (spA K C_weave) := by
  refine Grd.mk T.F_p_weave scp_weave (fun vs H Q E h => ?_) (fun cdv A outer st H vs Q E gd hr h => ?_)
  · obtain ⟨A, F, xs, R, c, ⟨x, y, rows, picks, rfl, _⟩, _⟩ := h
    obtain ⟨⟨_, _, ho, _⟩, _⟩ := c.cf
    cases ho with
    | cons _ t => cases t with
      | cons _ t => cases t; rfl
  obtain ⟨A0, F, xs, R, c, ⟨x, y, rows, picks, rfl, ex, ey, hne, ht, hl1, hl2, hR⟩, q⟩ := h
  obtain ⟨v1, v2, rfl⟩ : ∃ v1 v2, vs = [v1, v2] := by
    obtain ⟨⟨_, _, ho, _⟩, _⟩ := c.cf
    cases ho with
    | cons _ t => cases t with
      | cons _ t => cases t; exact ⟨_, _, rfl⟩
  obtain ⟨F', c'⟩ := c.fix2 ex ey
  have t1 : Dt K (rs H F') v1 (.list (rows.map rowD)) := c'.dp
  have t2 : Dt K (rs H F') v2 (.list (picks.map .int)) := c'.pop.dp
  have fF : ∀ a, F' a = true → H a ≠ none := c'.cf.fh
  refine ⟨_, (pss_cons (ps_par3 (i := 2) (j := 3) (l := 4) (by rfl) scp_weave.nd rfl rfl rfl (by decide) (by decide) (by decide) rfl rfl rfl (pa_cons (pe_lc (own := [("row", 6)]) (te := teList K) (by rfl) scp_weave.nd (pi_list (pv 0)) (blkOk_by (own := [("row", 6)]) (N := ["turns", "picks", "going", "left", "found", "at", "row"]) (sc := defScope s_p_weave) (by decide +kernel)) (fun _ _ _ _ _ => (pg_name (i := 6) scp_weave.nd rfl (Or.inl rfl))) (fun _ _ _ _ _ => pts_nil) (fun _ _ _ _ _ => (pe_callTy call_list_of (by rfl) T.n_list (by decide +kernel) (pa_cons (pv 6) pa_nil)))) (pa_cons (pe_revL (pe_callTy call_list_of (by rfl) T.n_list (by decide +kernel) (pa_cons (pv 1) pa_nil))) (pa_cons (pe_lst pa_nil) pa_nil))) (by rfl))
      (pss_cons (ps_while PassesOwn.never (pt_cmpR op_gt (pe_callB call_len_seq (by rfl) T.n_len PySem.boot_len (pa_cons (pv 2) pa_nil)) pe_int (nomark _)) (pss_cons (ps_if (pt_cmpR op_eq (pe_callB call_len_seq (by rfl) T.n_len PySem.boot_len (pa_cons (pv 3) pa_nil)) pe_int (nomark _)) (pss_one (ps_ret pe_non)) pss_nil)
      (pss_cons (ps_set (i := 5) scp_weave.nd rfl (Or.inl rfl) (pe_op op_mod (pe_bm0 PySem.F.plainAttrs_list PySem.F.slot_list_pop PySem.F.type_list_pop mt_pop (pv 3)) (pe_callB call_len_seq (by rfl) T.n_len PySem.boot_len (pa_cons (pv 2) pa_nil))))
      (pss_cons (ps_expr (pe_bm PySem.F.plainAttrs_list PySem.F.slot_list_extend PySem.F.type_list_extend mt_extend (pv 4) (pa_cons (pe_bm PySem.F.plainAttrs_list PySem.F.slot_list_pop PySem.F.type_list_pop mt_popAt (pe_ix ix_list (pv 2) (pv 5) (fun _ _ => rfl)) (pa_cons pe_int pa_nil)) pa_nil)))
      (pss_one (ps_setLc (i := 2) (own := [("row", 6)]) (tt := ttGo K) (by rfl) scp_weave.nd rfl rfl (sw_true rfl rfl rfl (by decide +kernel)) (pi_list (pv 2)) (blkOk_by (own := [("row", 6)]) (N := ["turns", "picks", "going", "left", "found", "at", "row"]) (sc := defScope s_p_weave) (by decide +kernel)) (fun _ _ _ _ _ => (pg_name (i := 6) scp_weave.nd rfl (Or.inl rfl))) (fun _ _ _ _ _ => pts_one (pt_cmpR op_gt (pe_callB call_len_seq (by rfl) T.n_len PySem.boot_len (pa_cons (pv 6) pa_nil)) pe_int (nomark _))) (fun _ _ _ _ _ => (pv 6))))))))
      (pss_one (ps_ret (pv 4))))), ?_⟩
  obtain ⟨a1, vs, rfl, h1, d1⟩ : ∃ a1 vs, v1 = .ref a1 ∧ (rs H F') a1 = some (.lst vs) ∧ Dts K (rs H F') vs (rows.map rowD) := by
    cases t1 with | lst a b => exact ⟨_, _, rfl, a, b⟩
  obtain ⟨a2, us, rfl, h2, d2⟩ : ∃ a2 us, v2 = .ref a2 ∧ (rs H F') a2 = some (.lst us) ∧ Dts K (rs H F') us (picks.map .int) := by
    cases t2 with | lst a b => exact ⟨_, _, rfl, a, b⟩
  have H1 := (rs_some.mp h1).2
  have H2 := (rs_some.mp h2).2
  have lvs : vs.length = rows.length := by have := d1.len; rw [List.length_map] at this; omega
  have hus : us = picks.map V.int := by
    have g : ∀ {us : List V} {ps : List Int}, Dts K (rs H F') us (ps.map .int) → us = ps.map V.int := by
      intro us ps
      induction ps generalizing us with
      | nil => intro h; cases h; rfl
      | cons p ps ih => intro h; cases h with | cons a t => cases a; rw [ih t]; rfl
    exact g d2
  subst hus
  have row_at : ∀ (i : Nat) (v : V), vs[i]? = some v → ∃ p ws r, v = .ref p ∧ rows[i]? = some r ∧ (rs H F') p = some (.lst ws) ∧ Dts K (rs H F') ws (r.map .list) := by
    intro i v hv
    obtain ⟨d, e, x⟩ := dts_get d1 hv
    rw [List.getElem?_map] at e
    obtain ⟨r, er, rfl⟩ := Option.map_eq_some_iff.mp e
    cases x with
    | lst a b => exact ⟨_, _, r, rfl, er, a, b⟩
  refine ⟨_, rfl, a1, rfl, ⟨vs, .of H1⟩, fun G hG => ?_⟩
  refine lc_list (xs := vs) (fun i H' => Ex H H' ∧ ∃ zs : List (Addr × Row), H' G = some (.lst (zs.map fun z => V.ref z.1)) ∧ (zs.map (·.1)).Nodup ∧ zs.map (·.2) = rows.take i ∧ ∀ z ∈ zs, H z.1 = none ∧ z.1 ≠ G ∧ ∃ ws, H' z.1 = some (.lst ws) ∧ Dts K (rs H F') ws (z.2.map .list))
    ⟨Ex.new hG, [], upd_same, by simp, by simp, by simp⟩ (fun i H' _ p => .of (p.1 _ _ H1)) ?_ ?_
  · rintro i v H' hv ⟨e, zs, hz, nd, hr, hz2⟩
    obtain ⟨p, ws, r, rfl, er, hp, dp⟩ := row_at i v hv
    have hi : i < rows.length := (List.getElem?_eq_some_iff.mp er).1
    have lzs : zs.length = i := by
      have := congrArg List.length hr
      rw [List.length_map, List.length_take] at this
      omega
    refine ⟨rfl, _, rfl, p, ws, rfl, .inl (.of (e _ _ (rs_some.mp hp).2)), fun l hl => ?_⟩
    have hlG : l ≠ G := fun z => by rw [z, hz] at hl; cases hl
    have hl0 : H l = none := Evl.fresh_back e hl
    refine ⟨_, by rw [upd_ne hlG.symm]; exact hz, by rw [List.length_map, lzs, sizeLine_eq]; omega, (e.trans (Ex.new hl)).mut hG, zs ++ [(l, r)], by rw [upd_same, List.map_append]; rfl, ?_, ?_, ?_⟩
    · rw [List.map_append, List.nodup_append]
      refine ⟨nd, by simp, fun a ha b hb => ?_⟩
      simp at hb
      subst hb
      obtain ⟨z, hz', rfl⟩ := List.mem_map.mp ha
      obtain ⟨_, _, ws', hw, _⟩ := hz2 z hz'
      exact fun q => by rw [q, hl] at hw; cases hw
    · rw [List.map_append, hr, List.take_add_one, er]; rfl
    · intro z hz'
      rcases List.mem_append.mp hz' with hz' | hz'
      · obtain ⟨b1, b2, ws', b3, b4⟩ := hz2 z hz'
        exact ⟨b1, b2, ws', by rw [upd_ne b2, upd_ne (ne_of_none b3 hl)]; exact b3, b4⟩
      · rw [List.mem_singleton.mp hz']
        exact ⟨hl0, hlG, ws, by rw [upd_ne hlG, upd_same], dp⟩
  rintro H3 ⟨e3, zs, hz, nd, hr, hz2⟩
  rw [lvs, List.take_length] at hr
  refine ⟨_, rfl, a2, _, rfl, .inl (.of (e3 _ _ H2)), fun l1 hl1' => ⟨l1, _, rfl, .of upd_same, fun L hL => ⟨(by show (0 : Nat) ≤ sizeLine; decide), fun D hD => ?_⟩⟩⟩
  have e4 : Ex H3 (upd H3 l1 (.lst (picks.map V.int))) := Ex.new hl1'
  have e5 : Ex H3 (upd (upd H3 l1 (.lst (picks.map V.int))) L (.lst (picks.map V.int).reverse)) := e4.trans (Ex.new hL)
  have e6 : Ex H3 (upd (upd (upd H3 l1 (.lst (picks.map V.int))) L (.lst (picks.map V.int).reverse)) D (.lst [])) := e5.trans (Ex.new hD)
  have nL3 : H3 L = none := Evl.fresh_back e4 hL
  have nD3 : H3 D = none := Evl.fresh_back e5 hD
  have LD : L ≠ D := ne_of_none upd_same hD
  refine ⟨_, _, _, rfl, ?_⟩
  have st : WvI K H (upd (upd (upd H3 l1 (.lst (picks.map V.int))) L (.lst (picks.map V.int).reverse)) D (.lst [])) F' G L D zs picks [] := by
    refine ⟨e3.trans e6, e6 _ _ hz, hG, nd, fun z hz' => ?_, ?_, Evl.fresh_back e3 nL3, ⟨[], upd_same, .nil⟩, Evl.fresh_back e3 nD3, ne_of_none hz nL3, ne_of_none hz nD3, LD, ?_, ?_⟩
    · obtain ⟨b1, b2, ws', b3, b4⟩ := hz2 z hz'
      refine ⟨b1, b2, ne_of_none b3 nL3, ne_of_none b3 nD3, hne _ ?_, ws', e6 _ _ b3, b4⟩
      rw [← hr]
      exact List.mem_map.mpr ⟨z, hz', rfl⟩
    · rw [upd_ne LD, upd_same, List.map_reverse]
    · rw [hr]; simpa using ht
    · have := congrArg List.length hr
      rw [List.length_map] at this
      omega
  have ea : wv picks (zs.map (·.2)) [] = wv picks rows [] := by rw [hr]
  generalize upd (upd (upd H3 l1 (.lst (picks.map V.int))) L (.lst (picks.map V.int).reverse)) D (.lst []) = H4 at st ⊢
  refine ⟨fun m σ H' => ∃ (G : Addr) (zs : List (Addr × Row)) (lf : List Int) (fd : List PyData) (u5 u6 : Option V), m = lf.length ∧ σ = [some (.ref a1), some (.ref a2), some (.ref G), some (.ref L), some (.ref D), u5, u6] ∧ WvI K H H' F' G L D zs lf fd ∧ wv lf (zs.map (·.2)) fd = wv picks rows [],
    ⟨_, G, zs, picks, [], none, none, rfl, rfl, st, ea⟩, ?_⟩
  clear st ea hz hz2 hr nd e6 e5 e4 hD hL hl1' hG
  rintro m σ H5 ⟨G, zs, lf, fd, u5, u6, rfl, rfl, s, ew⟩
  have up5 : Ex (rs H F') (rs H5 F') := fun a o h => by
    rw [rs_some] at h ⊢
    exact ⟨h.1, s.ex _ _ h.2⟩
  refine ⟨_, rfl, G, _, rfl, .inl (.of s.hG), _, _, rfl, rfl, _, rfl, ?_⟩
  rw [List.length_map]
  by_cases hz : zs = []
  · subst hz
    obtain ⟨us, hus, dus⟩ := s.hD
    have e1 : wv picks rows [] = some fd := by
      rw [← ew]
      cases lf <;> rfl
    rw [e1] at hR
    refine iteF ⟨_, rfl, q _ _ _ H5 F' hR (At.own c' s.ex s.nD s.nD hus (dts_ex up5 dus))⟩
  have hp : 0 < zs.length := List.length_pos_iff.mpr hz
  have d1 : decide ((0 : Int) < ((zs.length : Nat) : Int)) = true := decide_eq_true (by omega)
  rw [d1]
  refine iteT ⟨fun σ' H' => ∃ m', m' < lf.length ∧ ∃ (G : Addr) (zs : List (Addr × Row)) (lf : List Int) (fd : List PyData) (u5 u6 : Option V), m' = lf.length ∧ σ' = [some (.ref a1), some (.ref a2), some (.ref G), some (.ref L), some (.ref D), u5, u6] ∧ WvI K H H' F' G L D zs lf fd ∧ wv lf (zs.map (·.2)) fd = wv picks rows [], fun _ _ h => h, ?_⟩
  have hge : (zs.map (·.2)).isEmpty = false := by
    cases zs with
    | nil => exact absurd rfl hz
    | cons a l => rfl
  refine ⟨_, rfl, L, _, rfl, .inl (.of s.hL), rfl, _, rfl, ?_⟩
  cases lf with
  | nil =>
    have e1 : wv picks rows [] = none := by
      rw [← ew]
      simp [wv, hge]
    rw [e1] at hR
    exact q _ _ _ H5 F' hR ((At.grow2 c' s.ex).push .non)
  | cons k ks =>
    have hd : decide (V.int ((((k :: ks).reverse.map V.int).length : Nat) : Int) = V.int 0) = false := by
      simp
      omega
    rw [hd]
    refine iteF ?_
    have hlast : ((k :: ks).reverse.map V.int)[((k :: ks).reverse.map V.int).length - 1]? = some (.int k) := by
      rw [List.reverse_cons, List.map_append]
      simp
    have hdrop : ((k :: ks).reverse.map V.int).dropLast = ks.reverse.map V.int := by
      rw [List.reverse_cons, List.map_append]
      simp
    have hG6 : (upd H5 L (.lst (ks.reverse.map V.int))) G = some (.lst (zs.map fun z => V.ref z.1)) := by rw [upd_ne s.gl]; exact s.hG
    generalize en : zs.length = n at hp
    have npos : (0 : Int) < (n : Int) := by omega
    have a0 : 0 ≤ k % (n : Int) := Int.emod_nonneg _ (by omega)
    have a1' : k % (n : Int) < (n : Int) := Int.emod_lt_of_pos _ npos
    obtain ⟨a, ea⟩ : ∃ a : Nat, k % (n : Int) = (a : Int) := ⟨(k % (n : Int)).toNat, by omega⟩
    have an : a < n := by omega
    obtain ⟨z, hza⟩ : ∃ z, zs[a]? = some z := ⟨zs[a]'(by omega), List.getElem?_eq_getElem (by omega)⟩
    have zm : z ∈ zs := List.mem_of_getElem? hza
    obtain ⟨n0, nG, nL, nD, ne, ws, hw, dw⟩ := s.rw_ z zm
    obtain ⟨t, ts, et⟩ : ∃ t ts, z.2 = t :: ts := by
      cases e : z.2 with
      | nil => exact absurd e ne
      | cons t ts => exact ⟨t, ts, rfl⟩
    obtain ⟨w, ws', rfl, dw1, dw2⟩ : ∃ w ws', ws = w :: ws' ∧ Dt K (rs H F') w (.list t) ∧ Dts K (rs H F') ws' (ts.map .list) := by
      rw [et] at dw
      cases dw with
      | cons x y => exact ⟨_, _, rfl, x, y⟩
    obtain ⟨b, bs, rfl, hb, db⟩ : ∃ b bs, w = .ref b ∧ (rs H F') b = some (.lst bs) ∧ Dts K (rs H F') bs t := by
      cases dw1 with | lst x y => exact ⟨_, _, rfl, x, y⟩
    have hbH := (rs_some.mp hb).2
    obtain ⟨us, hus, dus⟩ := s.hD
    have lbs : bs.length = t.length := by have := db.len; omega
    have lus : us.length = fd.length := by have := dus.len; omega
    have tot_t : t.length ≤ tot (zs.map (·.2)) := by
      have g : ∀ (g : List Row) (r : Row), r ∈ g → (r.map (·.length)).sum ≤ tot g := by
        intro g
        induction g with
        | nil => intro r h; cases h
        | cons x g ih =>
          intro r h
          unfold tot at *
          rw [List.map_cons, List.sum_cons]
          rcases List.mem_cons.mp h with e | h
          · rw [e]; omega
          · have := ih r h; omega
      have := g (zs.map (·.2)) z.2 (List.mem_map.mpr ⟨z, zm, rfl⟩)
      rw [et, List.map_cons, List.sum_cons] at this
      omega
    have sz := s.sz
    refine ⟨_, rfl, .inl ⟨rfl, _, .of s.hL⟩, L, _, _, rfl, rfl, s.hL, hlast, _, rfl, G, (zs.map fun z => V.ref z.1), rfl, ?_⟩
    rw [hdrop]
    refine ⟨.inl (.of hG6), _, _, rfl, rfl, by rw [List.length_map]; omega, ?_⟩
    rw [List.length_map, en]
    have hw6 : (upd H5 L (.lst (ks.reverse.map V.int))) z.1 = some (.lst (.ref b :: ws')) := by rw [upd_ne nL]; exact hw
    have hD6 : (upd H5 L (.lst (ks.reverse.map V.int))) D = some (.lst us) := by rw [upd_ne s.ld.symm]; exact hus
    have e6 : Ex H (upd H5 L (.lst (ks.reverse.map V.int))) := s.ex.mut s.nL
    have hL6 : (upd H5 L (.lst (ks.reverse.map V.int))) L = some (.lst (ks.reverse.map V.int)) := upd_same
    have rw6 : ∀ y ∈ zs, ∃ ws, (upd H5 L (.lst (ks.reverse.map V.int))) y.1 = some (.lst ws) ∧ Dts K (rs H F') ws (y.2.map .list) := fun y hy => by
      obtain ⟨_, _, q2, _, _, ws, q4, q5⟩ := s.rw_ y hy
      exact ⟨ws, by rw [upd_ne q2]; exact q4, q5⟩
    generalize upd H5 L (.lst (ks.reverse.map V.int)) = H6 at hG6 hw6 hD6 e6 hL6 rw6 ⊢
    refine ⟨_, rfl, .inl ⟨rfl, _, .of hD6⟩, _, rfl, _, rfl, G, _, _, _, rfl, rfl, .of hG6, (show atI (zs.map fun z => V.ref z.1) (k % (n : Int)) = some (V.ref z.1) by rw [ea]; exact atI_nat (by rw [List.getElem?_map, hza]; rfl)), .inl ⟨rfl, _, .of hw6⟩, z.1, _, _, 0, _, rfl, rfl, hw6, by decide, by decide, ?_, rfl, ?_⟩
    · rw [List.length_cons]
      show (if (decide ((0 : Int) ≤ 0) && decide ((0 : Int) < ((ws'.length + 1 : Nat) : Int))) = true then some (0 : Nat) else none) = some 0
      rw [if_pos (by simp)]
    rw [show (V.ref b :: ws').eraseIdx 0 = ws' from rfl]
    have hD7 : (upd H6 z.1 (.lst ws')) D = some (.lst us) := by rw [upd_ne nD.symm]; exact hD6
    have hb7 : (upd H6 z.1 (.lst ws')) b = some (.lst bs) := by rw [upd_ne (fun q => by rw [q, n0] at hbH; cases hbH)]; exact e6 _ _ hbH
    refine ⟨D, b, us, bs, rfl, rfl, hD7, hb7, by rw [lus, lbs, sizeLine_eq]; omega, ?_⟩
    have e8 : Ex H (upd (upd H6 z.1 (.lst ws')) D (.lst (us ++ bs))) := (e6.mut n0).mut s.nD
    have hG8 : (upd (upd H6 z.1 (.lst ws')) D (.lst (us ++ bs))) G = some (.lst (zs.map fun z => V.ref z.1)) := by rw [upd_ne s.gd, upd_ne nG.symm]; exact hG6
    have hD8 : (upd (upd H6 z.1 (.lst ws')) D (.lst (us ++ bs))) D = some (.lst (us ++ bs)) := upd_same
    have hL8 : (upd (upd H6 z.1 (.lst ws')) D (.lst (us ++ bs))) L = some (.lst (ks.reverse.map V.int)) := by rw [upd_ne s.ld, upd_ne nL.symm]; exact hL6
    have rw8 : ∀ y ∈ zs.set a (z.1, ts), ∃ ws, (upd (upd H6 z.1 (.lst ws')) D (.lst (us ++ bs))) y.1 = some (.lst ws) ∧ Dts K (rs H F') ws (y.2.map .list) := fun y hy => by
      obtain ⟨j, hj⟩ := List.mem_iff_getElem?.mp hy
      rw [List.getElem?_set] at hj
      by_cases q : a = j
      · rw [if_pos q, if_pos (by omega)] at hj
        cases hj
        exact ⟨ws', by rw [upd_ne nD, upd_same], dw2⟩
      · rw [if_neg q] at hj
        have ym := List.mem_of_getElem? hj
        obtain ⟨_, _, _, q3, _⟩ := s.rw_ y ym
        obtain ⟨us', q4, q5⟩ := rw6 y ym
        have yz : y.1 ≠ z.1 := fun c => q ((List.getElem?_inj (i := a) (j := j) (l := zs.map (·.1)) (by rw [List.length_map]; omega) s.nd).mp (by rw [List.getElem?_map, List.getElem?_map, hza, hj]; exact congrArg some c.symm))
        exact ⟨us', by rw [upd_ne q3, upd_ne yz]; exact q4, q5⟩
    have hset : (zs.set a (z.1, ts)).map (fun z => z.1) = zs.map fun z => z.1 := by
      rw [List.map_set]
      refine List.ext_getElem? fun j => ?_
      rw [List.getElem?_set]
      split
      · rename_i q
        subst q
        rw [List.length_map, if_pos (by omega), List.getElem?_map, hza]
        rfl
      · rfl
    have hG9 : (zs.map fun z => V.ref z.1) = (zs.set a (z.1, ts)).map fun z => V.ref z.1 := by
      have := congrArg (List.map V.ref) hset
      rw [List.map_map, List.map_map] at this
      exact this.symm
    rw [hG9] at hG8
    generalize upd (upd H6 z.1 (.lst ws')) D (.lst (us ++ bs)) = H8 at e8 hG8 hD8 hL8 rw8 ⊢
    have hsnd : (zs.set a (z.1, ts)).map (·.2) = (zs.map (·.2)).set a ts := by rw [List.map_set]
    have hz2 : (zs.map (·.2))[a]? = some (t :: ts) := by rw [List.getElem?_map, hza, ← et]; rfl
    have ew2 : wv ks (((zs.set a (z.1, ts)).filter fun y => !y.2.isEmpty).map (·.2)) (fd ++ t) = wv picks rows [] := by
      rw [← ew]
      show _ = wv (k :: ks) (zs.map (·.2)) fd
      rw [wv_cons hge, List.length_map, en, ea, Int.toNat_natCast, List.getD_eq_getElem?_getD, hz2]
      show _ = wv ks (wstep (zs.map (·.2)) a) (fd ++ t)
      congr 1
      unfold wstep
      rw [List.getD_eq_getElem?_getD, hz2]
      show _ = ((zs.map (·.2)).set a ts).filter _
      rw [← hsnd, List.filter_map]
      rfl
    have sz2 : (fd ++ t).length + tot (((zs.set a (z.1, ts)).filter fun y => !y.2.isEmpty).map (·.2)) ≤ 1000 := by
      have g1 : ∀ l : List (Addr × Row), tot ((l.filter fun y => !y.2.isEmpty).map (·.2)) ≤ tot (l.map (·.2)) := by
        intro l
        induction l with
        | nil => exact Nat.le_refl _
        | cons y l ih =>
          rw [List.filter_cons]
          unfold tot at *
          split
          · simp only [List.map_cons, List.sum_cons]; omega
          · simp only [List.map_cons, List.sum_cons]; omega
      have g2 : ∀ (g : List Row) (a : Nat), g[a]? = some (t :: ts) → tot (g.set a ts) + t.length = tot g := by
        intro g
        induction g with
        | nil => intro a h; simp at h
        | cons y g ih =>
          intro a h
          unfold tot at *
          cases a with
          | zero =>
            simp at h
            subst h
            simp only [List.set_cons_zero, List.map_cons, List.sum_cons]; omega
          | succ a =>
            have := ih a (by simpa using h)
            simp only [List.set_cons_succ, List.map_cons, List.sum_cons]; omega
      have h1 := g1 (zs.set a (z.1, ts))
      rw [hsnd] at h1
      have h2 := g2 _ a hz2
      rw [List.length_append]
      omega
    have keep1 : ∀ y ∈ zs.set a (z.1, ts), H y.1 = none ∧ y.1 ≠ L ∧ y.1 ≠ D := fun y hy => by
      have m : y.1 ∈ zs.map fun z => z.1 := by rw [← hset]; exact List.mem_map.mpr ⟨y, hy, rfl⟩
      obtain ⟨u, hu, e⟩ := List.mem_map.mp m
      obtain ⟨q1, _, q2, q3, _⟩ := s.rw_ u hu
      rw [← e]
      exact ⟨q1, q2, q3⟩
    have nd2 : ((zs.set a (z.1, ts)).map (·.1)).Nodup := by rw [hset]; exact s.nd
    have yl : (zs.set a (z.1, ts)).length ≤ 1000 := by rw [List.length_set]; exact s.zl
    generalize zs.set a (z.1, ts) = ys at hG8 rw8 ew2 sz2 keep1 nd2 yl
    refine ⟨_, rfl, G, rfl, ⟨_, .of hG8⟩, fun G2 hG2 => ?_⟩
    refine lc_list (xs := ys.map fun z => V.ref z.1) (fun i H' => (∀ b, b ≠ G2 → H' b = H8 b) ∧ H' G2 = some (.lst (((ys.take i).filter fun y => !y.2.isEmpty).map fun z => V.ref z.1))) ⟨fun b hb => upd_ne hb, upd_same⟩ (fun i H' _ p => .of ?_) ?_ ?_
    · rw [p.1 G (ne_of_none hG8 hG2)]; exact hG8
    · rintro i v H' hv ⟨fr, hg⟩
      rw [List.getElem?_map] at hv
      obtain ⟨y, hy, rfl⟩ := Option.map_eq_some_iff.mp hv
      have ym := List.mem_of_getElem? hy
      obtain ⟨ws2, q1, q2⟩ := rw8 y ym
      have l2 : ws2.length = y.2.length := by have := q2.len; rw [List.length_map] at this; omega
      have hi : i < ys.length := (List.getElem?_eq_some_iff.mp hy).1
      have ny : y.1 ≠ G2 := ne_of_none q1 hG2
      refine ⟨rfl, _, rfl, y.1, ws2, rfl, .inl (.of (by rw [fr _ ny]; exact q1)), _, _, rfl, rfl, _, rfl, ?_⟩
      have ht2 : (ys.take (i + 1)).filter (fun y => !y.2.isEmpty) = (ys.take i).filter (fun y => !y.2.isEmpty) ++ if (!y.2.isEmpty) = true then [y] else [] := by
        rw [List.take_add_one, hy, List.filter_append]
        congr 1
        simp [List.filter_cons]
      rw [ht2, l2]
      have dd : decide ((0 : Int) < ((y.2.length : Nat) : Int)) = !y.2.isEmpty := by
        cases y.2 with
        | nil => rfl
        | cons c d => simp
      show if decide ((0 : Int) < ((y.2.length : Nat) : Int)) = true then _ else _
      rw [dd]
      refine ite2 (fun c => ?_) (fun c => ?_)
      · rw [if_pos c]
        refine ⟨_, rfl, _, hg, ?_, fun b hb => by rw [upd_ne hb]; exact fr b hb, by rw [upd_same, List.map_append]; rfl⟩
        rw [List.length_map]
        have := List.length_filter_le (fun y : Addr × Row => !y.2.isEmpty) (ys.take i)
        rw [List.length_take] at this
        rw [sizeLine_eq]
        omega
      · rw [if_neg c, List.append_nil]
        exact ⟨fr, hg⟩
    rintro H9 ⟨fr, hg⟩
    rw [List.length_map, List.take_length] at hg
    have nG2 : H G2 = none := Evl.fresh_back e8 hG2
    refine ⟨ks.length, by simp, G2, _, ks, fd ++ t, _, _, rfl, rfl, ⟨fun b o h => ?_, hg, nG2, ?_, fun y hy => ?_, ?_, s.nL, ⟨us ++ bs, ?_, ?_⟩, s.nD, (ne_of_none hL8 hG2).symm, (ne_of_none hD8 hG2).symm, s.ld, sz2, Nat.le_trans (List.length_filter_le _ _) yl⟩, ew2⟩
    · rw [fr b (fun q => by rw [q, nG2] at h; cases h)]
      exact e8 _ _ h
    · exact List.Nodup.sublist (List.Sublist.map _ List.filter_sublist) nd2
    · obtain ⟨ym, yn⟩ := List.mem_filter.mp hy
      obtain ⟨q1, q2, q3⟩ := keep1 y ym
      obtain ⟨ws2, q4, q5⟩ := rw8 y ym
      have ny : y.1 ≠ G2 := ne_of_none q4 hG2
      exact ⟨q1, ny, q2, q3, by simpa using yn, ws2, by rw [fr _ ny]; exact q4, q5⟩
    · rw [fr L (ne_of_none hL8 hG2)]; exact hL8
    · rw [fr D (ne_of_none hD8 hG2)]; exact hD8
    · have g : ∀ {us bs : List V} {a b : List PyData}, Dts K (rs H F') us a → Dts K (rs H F') bs b → Dts K (rs H F') (us ++ bs) (a ++ b) := by
        intro us
        induction us with
        | nil => intro bs a b h1 h2; cases h1; exact h2
        | cons u us ih => intro bs a b h1 h2; cases h1 with | cons x y => exact .cons x (ih y h2)
      exact g dus db
end
end K49

/-! woven by the law's own way, step by step -/
namespace K49
open PySem L2 Grd Ow PyProof.Rows
open Evl (Ex ex_t ex_l ex_rd)
def Wd (n : Nat) (d : PyData) : Prop := d.canLay0 = true ∧ d.depth ≤ n
theorem wd_all {n : Nat} : ∀ {xs : List PyData}, (∀ x ∈ xs, Wd n x) → PyData.canLayAll0 xs = true ∧ PyData.depthAll xs ≤ n
  | [], _ => ⟨by simp [PyData.canLayAll0], by simp [PyData.depthAll]⟩
  | x :: xs, h => by
    have h1 := h x List.mem_cons_self
    have h2 := wd_all fun y hy => h y (List.mem_cons_of_mem _ hy)
    refine ⟨?_, ?_⟩
    · unfold PyData.canLayAll0; rw [h1.1, h2.1]; rfl
    · unfold PyData.depthAll; have := h1.2; have := h2.2; omega
theorem Wd.list {n : Nat} {xs : List PyData} (h : ∀ x ∈ xs, Wd n x) : Wd (n + 1) (.list xs) := by
  obtain ⟨a, b⟩ := wd_all h
  exact ⟨by unfold PyData.canLay0; exact a, by unfold PyData.depth; omega⟩
theorem Wd.shaped {n : Nat} {d : PyData} (h : Wd n d) (l : n ≤ 64) : SeqAt.shaped d = true := by
  unfold SeqAt.shaped
  rw [h.1, decide_eq_true (Nat.le_trans h.2 l)]; rfl
theorem wd_row {r : Row} (h : ∀ t ∈ r, ∀ d ∈ t, Wd 10 d) : Wd 12 (rowD r) := .list fun x hx => by
  obtain ⟨t, ht, rfl⟩ := List.mem_map.mp hx
  exact .list (h t ht)
theorem wd_rows {g : List Row} (h : ∀ r ∈ g, ∀ t ∈ r, ∀ d ∈ t, Wd 10 d) : Wd 13 (.list (g.map rowD)) := .list fun x hx => by
  obtain ⟨r, hr, rfl⟩ := List.mem_map.mp hx
  exact wd_row (h r hr)
theorem eqv_nil (xs : List PyData) : PyData.eqv (.list xs) (.list []) = xs.isEmpty := by
  cases xs <;> simp [PyData.eqv, PyData.eqvAll]
def wresD : Option (List PyData) → PyData
  | none => .none
  | some ds => .list ds
/-- woven by hand: what is woven, and how many picks were used -/
def C_woven_by : AC := fun xs R => ∃ x y rows picks, xs = [x, y] ∧ frz x = some (.list (rows.map rowD)) ∧ frz y = some (.list (picks.map .int)) ∧ (∀ r ∈ rows, r ≠ []) ∧ tot rows ≤ 1000 ∧ rows.length ≤ 1000 ∧ picks.length ≤ 1000 ∧ (∀ r ∈ rows, ∀ t ∈ r, ∀ d ∈ t, Wd 10 d) ∧
  ∀ u : Int, R (.d (.tuple [wresD (wv picks rows []), .int u])) [.d (.list (rows.map rowD)), .d (.list (picks.map .int))]
section
variable {P : Program} {w : World} {K : PySem.W.Frag} {mg : Str → Option Value} {base : Heap}
abbrev ttNe (K : PySem.W.Frag) : TT := tTest (tOp (rNeD K) (tVar 6) (tLst tNil))
structure WbI (K : PySem.W.Frag) (H H' : Hp) (F : FS) (G D : Addr) (zs : List (Addr × Row)) (fd : List PyData) : Prop where
  ex : Ex H H'
  hG : H' G = some (.lst (zs.map fun z => V.ref z.1))
  nG : H G = none
  rw_ : ∀ z ∈ zs, z.1 ≠ G ∧ z.2 ≠ [] ∧ (∃ ws, H' z.1 = some (.lst ws) ∧ Dts K (rs H F) ws (z.2.map .list)) ∧ ∀ t ∈ z.2, ∀ d ∈ t, Wd 10 d
  hD : ∃ us, H' D = some (.lst us) ∧ Dts K (rs H F) us fd
  nD : H D = none
  sz : fd.length + tot (zs.map (·.2)) ≤ 1000
  zl : zs.length ≤ 1000
theorem dp_rows {H : Hp} : ∀ {zs : List (Addr × Row)}, (∀ z ∈ zs, ∃ ws, H z.1 = some (.lst ws) ∧ Dts K H ws (z.2.map .list)) → DpAll K H (zs.map fun z => V.ref z.1) (zs.map fun z => rowD z.2)
  | [], _ => .nil
  | z :: zs, h => by
    obtain ⟨ws, a, b⟩ := h z List.mem_cons_self
    exact .cons (.lst (.of a) b.dp) (dp_rows fun y hy => h y (List.mem_cons_of_mem _ hy))
theorem WbI.more {H H' H2 : Hp} {F : FS} {G D : Addr} {zs : List (Addr × Row)} {fd : List PyData} (s : WbI K H H' F G D zs fd) (e : Ex H' H2) : WbI K H H2 F G D zs fd :=
  ⟨s.ex.trans e, e _ _ s.hG, s.nG, fun z hz => let ⟨a, b, ⟨ws, c, d⟩, f⟩ := s.rw_ z hz; ⟨a, b, ⟨ws, e _ _ c, d⟩, f⟩, let ⟨us, a, b⟩ := s.hD; ⟨us, e _ _ a, b⟩, s.nD, s.sz, s.zl⟩
theorem ok_woven_by (T : Txt w K mg) : Fn P w K mg base CX0 1 T.a_woven_by T.d_woven_by ["_law_rows_here", "_law_picks"] (spA K C_woven_by) := by
  refine Grd.mk T.F_woven_by scwoven_by (fun vs H Q E h => ?_) (fun cdv A outer st H vs Q E gd hr h => ?_)
  · obtain ⟨A, F, xs, R, c, ⟨x, y, rows, picks, rfl, _⟩, _⟩ := h
    obtain ⟨⟨_, _, ho, _⟩, _⟩ := c.cf
    cases ho with
    | cons _ t => cases t with
      | cons _ t => cases t; rfl
  obtain ⟨A0, F, xs, R, c, ⟨x, y, rows, picks, rfl, ex, ey, hne, ht, hl1, hl2, hwd, hR⟩, q⟩ := h
  obtain ⟨v1, v2, rfl⟩ : ∃ v1 v2, vs = [v1, v2] := by
    obtain ⟨⟨_, _, ho, _⟩, _⟩ := c.cf
    cases ho with
    | cons _ t => cases t with
      | cons _ t => cases t; exact ⟨_, _, rfl⟩
  obtain ⟨F', c'⟩ := c.fix2 ex ey
  have t1 : Dt K (rs H F') v1 (.list (rows.map rowD)) := c'.dp
  have t2 : Dt K (rs H F') v2 (.list (picks.map .int)) := c'.pop.dp
  have fF : ∀ a, F' a = true → H a ≠ none := c'.cf.fh
  refine ⟨_, (pss_cons (ps_par3 (i := 2) (j := 3) (l := 4) (by rfl) scwoven_by.nd rfl rfl rfl (by decide) (by decide) (by decide) rfl rfl rfl (pa_cons (pe_lc (own := [("_law_row", 6)]) (te := teList K) (by rfl) scwoven_by.nd (pi_list (pv 0)) (blkOk_by (own := [("_law_row", 6)]) (N := ["_law_rows_here", "_law_picks", "_law_going", "_law_found", "_law_used", "_law_at", "_law_row"]) (sc := defScope s_woven_by) (by decide +kernel)) (fun _ _ _ _ _ => (pg_name (i := 6) scwoven_by.nd rfl (Or.inl rfl))) (fun _ _ _ _ _ => pts_nil) (fun _ _ _ _ _ => (pe_callTy call_list_of (by rfl) T.n_list (by decide +kernel) (pa_cons (pv 6) pa_nil)))) (pa_cons (pe_lst pa_nil) (pa_cons pe_int pa_nil))) (by rfl))
      (pss_cons (ps_while PassesOwn.never (pt_cmpR (op_neD hr.units) (pv 2) (pe_lst pa_nil) (nomark _)) (pss_cons (ps_if (pt_cmpR op_eq (pv 4) (pe_callB call_len_seq (by rfl) T.n_len PySem.boot_len (pa_cons (pv 1) pa_nil)) (nomark _)) (pss_one (ps_ret (pe_tup (pa_cons pe_non (pa_cons (pv 4) pa_nil))))) pss_nil)
      (pss_cons (ps_set (i := 5) scwoven_by.nd rfl (Or.inl rfl) (pe_op op_mod (pe_ix ix_list (pv 1) (pv 4) (fun _ _ => rfl)) (pe_callB call_len_seq (by rfl) T.n_len PySem.boot_len (pa_cons (pv 2) pa_nil))))
      (pss_cons (ps_set (i := 3) scwoven_by.nd rfl (Or.inl rfl) (pe_op op_cat (pv 3) (pe_ix ix_list (pe_ix ix_list (pv 2) (pv 5) (fun _ _ => rfl)) pe_int (fun _ _ => rfl))))
      (pss_cons (ps_asg (pe_slice sl_list (pe_ix ix_list (pv 2) (pv 5) (fun _ _ => rfl)) (po_some pe_int) po_none) (pg_sub (pv 2) (pv 5) set_list))
      (pss_one (ps_par (i := 2) (j := 4) (by rfl) scwoven_by.nd rfl rfl (by decide) rfl rfl (pa_cons (pe_lc (own := [("_law_row", 6)]) (tt := ttNe K) (by rfl) scwoven_by.nd (pi_list (pv 2)) (blkOk_by (own := [("_law_row", 6)]) (N := ["_law_rows_here", "_law_picks", "_law_going", "_law_found", "_law_used", "_law_at", "_law_row"]) (sc := defScope s_woven_by) (by decide +kernel)) (fun _ _ _ _ _ => (pg_name (i := 6) scwoven_by.nd rfl (Or.inl rfl))) (fun _ _ _ _ _ => pts_one (pt_cmpR (op_neD hr.units) (pv 6) (pe_lst pa_nil) (nomark _))) (fun _ _ _ _ _ => (pv 6))) (pa_cons (pe_op op_add (pv 4) pe_int) pa_nil)) (by rfl))))))))
      (pss_one (ps_ret (pe_tup (pa_cons (pv 3) (pa_cons (pv 4) pa_nil))))))), ?_⟩
  obtain ⟨a1, vs, rfl, h1, d1⟩ : ∃ a1 vs, v1 = .ref a1 ∧ (rs H F') a1 = some (.lst vs) ∧ Dts K (rs H F') vs (rows.map rowD) := by
    cases t1 with | lst a b => exact ⟨_, _, rfl, a, b⟩
  obtain ⟨a2, us, rfl, h2, d2⟩ : ∃ a2 us, v2 = .ref a2 ∧ (rs H F') a2 = some (.lst us) ∧ Dts K (rs H F') us (picks.map .int) := by
    cases t2 with | lst a b => exact ⟨_, _, rfl, a, b⟩
  have H1 := (rs_some.mp h1).2
  have H2 := (rs_some.mp h2).2
  have lvs : vs.length = rows.length := by have := d1.len; rw [List.length_map] at this; omega
  have hus : us = picks.map V.int := by
    have g : ∀ {us : List V} {ps : List Int}, Dts K (rs H F') us (ps.map .int) → us = ps.map V.int := by
      intro us ps
      induction ps generalizing us with
      | nil => intro h; cases h; rfl
      | cons p ps ih => intro h; cases h with | cons a t => cases a; rw [ih t]; rfl
    exact g d2
  subst hus
  have row_at : ∀ (i : Nat) (v : V), vs[i]? = some v → ∃ p ws r, v = .ref p ∧ rows[i]? = some r ∧ (rs H F') p = some (.lst ws) ∧ Dts K (rs H F') ws (r.map .list) := by
    intro i v hv
    obtain ⟨d, e, x⟩ := dts_get d1 hv
    rw [List.getElem?_map] at e
    obtain ⟨r, er, rfl⟩ := Option.map_eq_some_iff.mp e
    cases x with
    | lst a b => exact ⟨_, _, r, rfl, er, a, b⟩
  refine ⟨_, rfl, a1, rfl, ⟨vs, .of H1⟩, fun G hG => ?_⟩
  refine lc_list (xs := vs) (fun i H' => Ex H H' ∧ ∃ zs : List (Addr × Row), H' G = some (.lst (zs.map fun z => V.ref z.1)) ∧ (zs.map (·.1)).Nodup ∧ zs.map (·.2) = rows.take i ∧ ∀ z ∈ zs, H z.1 = none ∧ z.1 ≠ G ∧ ∃ ws, H' z.1 = some (.lst ws) ∧ Dts K (rs H F') ws (z.2.map .list))
    ⟨Ex.new hG, [], upd_same, by simp, by simp, by simp⟩ (fun i H' _ p => .of (p.1 _ _ H1)) ?_ ?_
  · rintro i v H' hv ⟨e, zs, hz, nd, hr, hz2⟩
    obtain ⟨p, ws, r, rfl, er, hp, dp⟩ := row_at i v hv
    have hi : i < rows.length := (List.getElem?_eq_some_iff.mp er).1
    have lzs : zs.length = i := by
      have := congrArg List.length hr
      rw [List.length_map, List.length_take] at this
      omega
    refine ⟨rfl, _, rfl, p, ws, rfl, .inl (.of (e _ _ (rs_some.mp hp).2)), fun l hl => ?_⟩
    have hlG : l ≠ G := fun z => by rw [z, hz] at hl; cases hl
    have hl0 : H l = none := Evl.fresh_back e hl
    refine ⟨_, by rw [upd_ne hlG.symm]; exact hz, by rw [List.length_map, lzs, sizeLine_eq]; omega, (e.trans (Ex.new hl)).mut hG, zs ++ [(l, r)], by rw [upd_same, List.map_append]; rfl, ?_, ?_, ?_⟩
    · rw [List.map_append, List.nodup_append]
      refine ⟨nd, by simp, fun a ha b hb => ?_⟩
      simp at hb
      subst hb
      obtain ⟨z, hz', rfl⟩ := List.mem_map.mp ha
      obtain ⟨_, _, ws', hw, _⟩ := hz2 z hz'
      exact fun q => by rw [q, hl] at hw; cases hw
    · rw [List.map_append, hr, List.take_add_one, er]; rfl
    · intro z hz'
      rcases List.mem_append.mp hz' with hz' | hz'
      · obtain ⟨b1, b2, ws', b3, b4⟩ := hz2 z hz'
        exact ⟨b1, b2, ws', by rw [upd_ne b2, upd_ne (ne_of_none b3 hl)]; exact b3, b4⟩
      · rw [List.mem_singleton.mp hz']
        exact ⟨hl0, hlG, ws, by rw [upd_ne hlG, upd_same], dp⟩
  rintro H3 ⟨e3, zs, hz, nd, hr, hz2⟩
  rw [lvs, List.take_length] at hr
  refine ⟨(by show (0 : Nat) ≤ sizeLine; decide), fun D hD => ⟨_, _, _, rfl, ?_⟩⟩
  have e6 : Ex H3 (upd H3 D (.lst [])) := Ex.new hD
  have st : WbI K H (upd H3 D (.lst [])) F' G D zs [] := by
    refine ⟨e3.trans e6, e6 _ _ hz, hG, fun z hz' => ?_, ⟨[], upd_same, .nil⟩, Evl.fresh_back e3 hD, ?_, ?_⟩
    · obtain ⟨b1, b2, ws', b3, b4⟩ := hz2 z hz'
      have zr : z.2 ∈ rows := by rw [← hr]; exact List.mem_map.mpr ⟨z, hz', rfl⟩
      exact ⟨b2, hne _ zr, ⟨ws', e6 _ _ b3, b4⟩, hwd _ zr⟩
    · rw [hr]; simpa using ht
    · have := congrArg List.length hr
      rw [List.length_map] at this
      omega
  have ea : wv picks (zs.map (·.2)) [] = wv picks rows [] := by rw [hr]
  generalize upd H3 D (.lst []) = H4 at st ⊢
  refine ⟨fun m σ H' => ∃ (G D : Addr) (zs : List (Addr × Row)) (dn lf : List Int) (fd : List PyData) (u5 u6 : Option V), m = lf.length ∧ picks = dn ++ lf ∧ σ = [some (.ref a1), some (.ref a2), some (.ref G), some (.ref D), some (.int (dn.length : Int)), u5, u6] ∧ WbI K H H' F' G D zs fd ∧ wv lf (zs.map (·.2)) fd = wv picks rows [],
    ⟨_, G, D, zs, [], picks, [], none, none, rfl, rfl, rfl, st, ea⟩, ?_⟩
  clear st ea hz hz2 hr nd e6 hD hG
  rintro m σ H5 ⟨G, D, zs, dn, lf, fd, u5, u6, rfl, epk, rfl, s, ew⟩
  refine ⟨_, rfl, (by show (0 : Nat) ≤ sizeLine; decide), fun em hem => ?_⟩
  have s6 := s.more (Ex.new (o := .lst []) hem)
  have hem6 : (upd H5 em (.lst [])) em = some (.lst []) := upd_same
  generalize upd H5 em (.lst []) = H6 at s6 hem6 ⊢
  have up6 : Ex (rs H F') (rs H6 F') := fun a o h => by
    rw [rs_some] at h ⊢
    exact ⟨h.1, s6.ex _ _ h.2⟩
  have upH : Ex (rs H F') H6 := fun a o h => s6.ex _ _ (rs_some.mp h).2
  refine ⟨.list (zs.map fun z => rowD z.2), .list [], .lst (.of s6.hG) (dp_rows fun z hz => ?_), .lst (.of hem6) .nil, ?_, rfl, _, rfl, ?_⟩
  · obtain ⟨_, _, ⟨ws, q1, q2⟩, _⟩ := s6.rw_ z hz
    exact ⟨ws, q1, dts_ex upH q2⟩
  · have := wd_rows (g := zs.map (·.2)) fun r hr => by
      obtain ⟨z, hz, rfl⟩ := List.mem_map.mp hr
      exact (s6.rw_ z hz).2.2.2
    rw [List.map_map] at this
    exact this.shaped (by decide)
  rw [eqv_nil]
  obtain ⟨us, hus, dus⟩ := s6.hD
  by_cases hz : zs = []
  · subst hz
    have e1 : wv picks rows [] = some fd := by
      rw [← ew]
      cases lf <;> rfl
    rw [e1] at hR
    refine iteF ⟨_, rfl, _, rfl, (by show (2 : Nat) ≤ sizeLine; decide), fun p hp => ?_⟩
    have c1 := At.own c' s6.ex s6.nD s6.nD hus (dts_ex up6 dus)
    obtain ⟨F2, c2⟩ := c1.fix (d := .list fd) (frz_lst fd)
    obtain ⟨F3, c3⟩ := c2.pop.newT (us := [.ref D, .int (dn.length : Int)]) (ds := [.list fd, .int (dn.length : Int)]) (.cons c2.dp (.cons (.int _) .nil)) hp
    exact q _ _ _ _ F3 (hR _) c3
  have hp : 0 < zs.length := List.length_pos_iff.mpr hz
  have hge : (zs.map (·.2)).isEmpty = false := by
    cases zs with
    | nil => exact absurd rfl hz
    | cons a l => rfl
  have hge2 : (zs.map fun z => rowD z.2).isEmpty = false := by
    cases zs with
    | nil => exact absurd rfl hz
    | cons a l => rfl
  rw [hge2]
  refine iteT ⟨fun σ' H' => ∃ m', m' < lf.length ∧ ∃ (G D : Addr) (zs : List (Addr × Row)) (dn lf : List Int) (fd : List PyData) (u5 u6 : Option V), m' = lf.length ∧ picks = dn ++ lf ∧ σ' = [some (.ref a1), some (.ref a2), some (.ref G), some (.ref D), some (.int (dn.length : Int)), u5, u6] ∧ WbI K H H' F' G D zs fd ∧ wv lf (zs.map (·.2)) fd = wv picks rows [], fun _ _ h => h, ?_⟩
  refine ⟨_, rfl, _, rfl, a2, _, rfl, .inl (.of (s6.ex _ _ H2)), rfl, _, rfl, ?_⟩
  have hdec : decide (V.int (dn.length : Int) = V.int (((picks.map V.int).length : Nat) : Int)) = lf.isEmpty := by
    rw [List.length_map, epk, List.length_append]
    cases lf with
    | nil => simp
    | cons a l => simp; omega
  rw [hdec]
  cases lf with
  | nil =>
    have e1 : wv picks rows [] = none := by
      rw [← ew]
      simp [wv, hge]
    rw [e1] at hR
    refine iteT ⟨_, rfl, (by show (2 : Nat) ≤ sizeLine; decide), fun p hp => ?_⟩
    obtain ⟨F3, c3⟩ := (At.grow2 c' s6.ex).newT (us := [.non, .int (dn.length : Int)]) (ds := [.none, .int (dn.length : Int)]) (.cons .non (.cons (.int _) .nil)) hp
    exact q _ _ _ _ F3 (hR _) c3
  | cons k ks =>
    refine iteF ?_
    generalize en : zs.length = n at hp
    have npos : (0 : Int) < (n : Int) := by omega
    have a0 : 0 ≤ k % (n : Int) := Int.emod_nonneg _ (by omega)
    have a1' : k % (n : Int) < (n : Int) := Int.emod_lt_of_pos _ npos
    obtain ⟨a, ea⟩ : ∃ a : Nat, k % (n : Int) = (a : Int) := ⟨(k % (n : Int)).toNat, by omega⟩
    have an : a < n := by omega
    obtain ⟨z, hza⟩ : ∃ z, zs[a]? = some z := ⟨zs[a]'(by omega), List.getElem?_eq_getElem (by omega)⟩
    have zm : z ∈ zs := List.mem_of_getElem? hza
    obtain ⟨nG, ne, ⟨ws, hw, dw⟩, zwd⟩ := s6.rw_ z zm
    obtain ⟨t, ts, et⟩ : ∃ t ts, z.2 = t :: ts := by
      cases e : z.2 with
      | nil => exact absurd e ne
      | cons t ts => exact ⟨t, ts, rfl⟩
    obtain ⟨w, ws', rfl, dw1, dw2⟩ : ∃ w ws', ws = w :: ws' ∧ Dt K (rs H F') w (.list t) ∧ Dts K (rs H F') ws' (ts.map .list) := by
      rw [et] at dw
      cases dw with
      | cons x y => exact ⟨_, _, rfl, x, y⟩
    obtain ⟨b, bs, rfl, hb, db⟩ : ∃ b bs, w = .ref b ∧ (rs H F') b = some (.lst bs) ∧ Dts K (rs H F') bs t := by
      cases dw1 with | lst x y => exact ⟨_, _, rfl, x, y⟩
    have hbH := (rs_some.mp hb).2
    have lbs : bs.length = t.length := by have := db.len; omega
    have lus : us.length = fd.length := by have := dus.len; omega
    have g1 : ∀ l : List (Addr × Row), tot ((l.filter fun y => !y.2.isEmpty).map (·.2)) ≤ tot (l.map (·.2)) := by
      intro l
      induction l with
      | nil => exact Nat.le_refl _
      | cons y l ih =>
        rw [List.filter_cons]
        unfold tot at *
        split
        · simp only [List.map_cons, List.sum_cons]; omega
        · simp only [List.map_cons, List.sum_cons]; omega
    have g2 : ∀ (g : List Row) (a : Nat), g[a]? = some (t :: ts) → tot (g.set a ts) + t.length = tot g := by
      intro g
      induction g with
      | nil => intro a h; simp at h
      | cons y g ih =>
        intro a h
        unfold tot at *
        cases a with
        | zero =>
          simp at h
          subst h
          simp only [List.set_cons_zero, List.map_cons, List.sum_cons]; omega
        | succ a =>
          have := ih a (by simpa using h)
          simp only [List.set_cons_succ, List.map_cons, List.sum_cons]; omega
    have hz2 : (zs.map (·.2))[a]? = some (t :: ts) := by rw [List.getElem?_map, hza, ← et]; rfl
    have tt := g2 _ a hz2
    have sz := s6.sz
    have hat : atI (zs.map fun z => V.ref z.1) (k % (n : Int)) = some (V.ref z.1) := by rw [ea]; exact atI_nat (by rw [List.getElem?_map, hza]; rfl)
    refine ⟨_, rfl, _, rfl, a2, _, _, _, rfl, rfl, .of (s6.ex _ _ H2), atI_nat (j := dn.length) (v := .int k) (by rw [List.getElem?_map, epk, List.getElem?_append_right (Nat.le_refl _), Nat.sub_self]; rfl), _, rfl, G, (zs.map fun z => V.ref z.1), rfl, .inl (.of s6.hG), _, _, rfl, rfl, by rw [List.length_map]; omega, ?_⟩
    rw [List.length_map, en]
    refine ⟨_, rfl, _, rfl, _, rfl, G, _, _, _, rfl, rfl, .of s6.hG, hat, z.1, _, _, _, rfl, rfl, .of hw, Ow.at0, D, b, us, bs, rfl, rfl, hus, s6.ex _ _ hbH, by rw [lus, lbs, sizeLine_eq]; omega, fun D2 hD2 => ?_⟩
    have e7 : Ex H6 (upd H6 D2 (.lst (us ++ bs))) := Ex.new hD2
    have hD7 : (upd H6 D2 (.lst (us ++ bs))) D2 = some (.lst (us ++ bs)) := upd_same
    have nD2 : H D2 = none := Evl.fresh_back s6.ex hD2
    generalize upd H6 D2 (.lst (us ++ bs)) = H7 at e7 hD7 ⊢
    refine ⟨_, rfl, _, rfl, G, _, _, _, rfl, rfl, .of (e7 _ _ s6.hG), hat, _, rfl, z.1, _, rfl, .of (e7 _ _ hw), fun n2 hn2 => ?_⟩
    have hcut : cutV (V.ref b :: ws') (some 1) none = ws' := by
      unfold cutV
      rw [HT.sIx_none, show (1 : Int) = ((1 : Nat) : Int) from rfl, HT.sIx_nat, List.length_cons, Nat.min_eq_left (by omega)]
      simp
    rw [hcut]
    have e8 : Ex H7 (upd H7 n2 (.lst ws')) := Ex.new hn2
    have hw8 : (upd H7 n2 (.lst ws')) n2 = some (.lst ws') := upd_same
    have nn2 : H n2 = none := Evl.fresh_back (s6.ex.trans e7) hn2
    have hz8 : ∀ y ∈ zs, y.1 ≠ n2 := fun y hy => by
      obtain ⟨_, _, ⟨_, q, _⟩, _⟩ := s6.rw_ y hy
      exact ne_of_none (e7 _ _ q) hn2
    have nG2 : n2 ≠ G := fun q => by rw [q, e7 _ _ s6.hG] at hn2; cases hn2
    generalize upd H7 n2 (.lst ws') = H8 at e8 hw8 ⊢
    have hix : ixN (zs.map fun z => V.ref z.1).length (k % (n : Int)) = some a := by
      rw [ea, List.length_map]
      exact Evl.ixN_nat (by omega)
    refine ⟨_, rfl, _, rfl, G, _, _, _, rfl, rfl, e8 _ _ (e7 _ _ s6.hG), hix, ?_⟩
    have e9 : Ex H (upd H8 G (.lst ((zs.map fun z => V.ref z.1).set a (.ref n2)))) := (((s6.ex.trans e7).trans e8)).mut s6.nG
    have hset : (zs.map fun z => V.ref z.1).set a (.ref n2) = (zs.set a (n2, ts)).map fun z => V.ref z.1 := by rw [List.map_set]
    have hG9 : (upd H8 G (.lst ((zs.map fun z => V.ref z.1).set a (.ref n2)))) G = some (.lst ((zs.set a (n2, ts)).map fun z => V.ref z.1)) := by rw [upd_same, hset]
    have nGD : D2 ≠ G := fun q => by rw [q, s6.hG] at hD2; cases hD2
    have hD9 : (upd H8 G (.lst ((zs.map fun z => V.ref z.1).set a (.ref n2)))) D2 = some (.lst (us ++ bs)) := by rw [upd_ne nGD]; exact e8 _ _ hD7
    have rw9 : ∀ y ∈ zs.set a (n2, ts), y.1 ≠ G ∧ (∃ ws, (upd H8 G (.lst ((zs.map fun z => V.ref z.1).set a (.ref n2)))) y.1 = some (.lst ws) ∧ Dts K (rs H F') ws (y.2.map .list)) ∧ ∀ t ∈ y.2, ∀ d ∈ t, Wd 10 d := fun y hy => by
      rcases List.mem_or_eq_of_mem_set hy with hy | rfl
      · obtain ⟨q1, _, ⟨ws2, q2, q3⟩, q4⟩ := s6.rw_ y hy
        exact ⟨q1, ⟨ws2, by rw [upd_ne q1]; exact e8 _ _ (e7 _ _ q2), q3⟩, q4⟩
      · exact ⟨nG2, ⟨ws', by rw [upd_ne nG2]; exact hw8, dw2⟩, fun t' ht' => zwd t' (by rw [et]; exact List.mem_cons_of_mem _ ht')⟩
    generalize upd H8 G (.lst ((zs.map fun z => V.ref z.1).set a (.ref n2))) = H9 at e9 hG9 hD9 rw9 ⊢
    have hsnd : (zs.set a (n2, ts)).map (·.2) = (zs.map (·.2)).set a ts := by rw [List.map_set]
    have ew2 : wv ks (((zs.set a (n2, ts)).filter fun y => !y.2.isEmpty).map (·.2)) (fd ++ t) = wv picks rows [] := by
      rw [← ew]
      show _ = wv (k :: ks) (zs.map (·.2)) fd
      rw [wv_cons hge, List.length_map, en, ea, Int.toNat_natCast, List.getD_eq_getElem?_getD, hz2]
      show _ = wv ks (wstep (zs.map (·.2)) a) (fd ++ t)
      congr 1
      unfold wstep
      rw [List.getD_eq_getElem?_getD, hz2]
      show _ = ((zs.map (·.2)).set a ts).filter _
      rw [← hsnd, List.filter_map]
      rfl
    have sz2 : (fd ++ t).length + tot (((zs.set a (n2, ts)).filter fun y => !y.2.isEmpty).map (·.2)) ≤ 1000 := by
      have h1 := g1 (zs.set a (n2, ts))
      rw [hsnd] at h1
      rw [List.length_append]
      omega
    have yl : (zs.set a (n2, ts)).length ≤ 1000 := by rw [List.length_set]; exact s6.zl
    generalize zs.set a (n2, ts) = ys at hG9 rw9 ew2 sz2 yl
    refine ⟨_, rfl, G, rfl, ⟨_, .of hG9⟩, fun G2 hG2 => ?_⟩
    refine lc_list (xs := ys.map fun z => V.ref z.1) (fun i H' => (∀ b o, b ≠ G2 → H9 b = some o → H' b = some o) ∧ H' G2 = some (.lst (((ys.take i).filter fun y => !y.2.isEmpty).map fun z => V.ref z.1))) ⟨fun b o hb h => by rw [upd_ne hb]; exact h, upd_same⟩ (fun i H' _ p => .of (p.1 G _ (ne_of_none hG9 hG2) hG9)) ?_ ?_
    · rintro i v H' hv ⟨fr, hg⟩
      rw [List.getElem?_map] at hv
      obtain ⟨y, hy, rfl⟩ := Option.map_eq_some_iff.mp hv
      have ym := List.mem_of_getElem? hy
      obtain ⟨_, ⟨ws2, q1, q2⟩, q3⟩ := rw9 y ym
      have ny : y.1 ≠ G2 := ne_of_none q1 hG2
      refine ⟨rfl, _, rfl, (by show (0 : Nat) ≤ sizeLine; decide), fun em2 hem2 => ?_⟩
      have nem : em2 ≠ G2 := fun q => by rw [q, hg] at hem2; cases hem2
      have fr2 : ∀ b o, b ≠ G2 → H9 b = some o → (upd H' em2 (.lst [])) b = some o := fun b o hb h => by
        have := fr b o hb h
        rw [upd_ne (ne_of_none this hem2)]
        exact this
      have hg2 : (upd H' em2 (.lst [])) G2 = some (.lst (((ys.take i).filter fun y => !y.2.isEmpty).map fun z => V.ref z.1)) := by rw [upd_ne nem.symm]; exact hg
      have hem9 : (upd H' em2 (.lst [])) em2 = some (.lst []) := upd_same
      generalize upd H' em2 (.lst []) = H10 at fr2 hg2 hem9 ⊢
      have up10 : Ex (rs H F') H10 := fun c o h => fr2 _ _ (fun q => by
        have := (rs_some.mp h).2
        rw [q, Evl.fresh_back e9 hG2] at this
        cases this) (e9 _ _ (rs_some.mp h).2)
      refine ⟨rowD y.2, .list [], .lst (.of (fr2 _ _ ny q1)) (dts_ex up10 q2).dp, .lst (.of hem9) .nil, (wd_row q3).shaped (by decide), rfl, _, rfl, ?_⟩
      have ht2 : (ys.take (i + 1)).filter (fun y => !y.2.isEmpty) = (ys.take i).filter (fun y => !y.2.isEmpty) ++ if (!y.2.isEmpty) = true then [y] else [] := by
        rw [List.take_add_one, hy, List.filter_append]
        congr 1
        simp [List.filter_cons]
      rw [ht2]
      have dd : (!PyData.eqv (rowD y.2) (.list [])) = !y.2.isEmpty := by
        unfold rowD
        rw [eqv_nil]
        cases y.2 <;> rfl
      rw [dd]
      refine ite2 (fun c => ?_) (fun c => ?_)
      · rw [if_pos c]
        refine ⟨_, rfl, _, hg2, ?_, fun b o hb h => by rw [upd_ne hb]; exact fr2 b o hb h, by rw [upd_same, List.map_append]; rfl⟩
        rw [List.length_map]
        have := List.length_filter_le (fun y : Addr × Row => !y.2.isEmpty) (ys.take i)
        rw [List.length_take] at this
        rw [sizeLine_eq]
        omega
      · rw [if_neg c, List.append_nil]
        exact ⟨fr2, hg2⟩
    rintro H10 ⟨fr, hg⟩
    rw [List.length_map, List.take_length] at hg
    have nG3 : H G2 = none := Evl.fresh_back e9 hG2
    refine ⟨_, rfl, _, _, rfl, rfl, _, _, rfl, ks.length, by simp, G2, D2, _, dn ++ [k], ks, fd ++ t, some (.int (k % (n : Int))), u6, rfl, by rw [epk]; simp, ?_, ⟨fun b o h => ?_, hg, nG3, fun y hy => ?_, ⟨us ++ bs, ?_, ?_⟩, nD2, sz2, Nat.le_trans (List.length_filter_le _ _) yl⟩, ew2⟩
    · rw [List.length_append]; rfl
    · exact fr b _ (fun q => by rw [q, nG3] at h; cases h) (e9 _ _ h)
    · obtain ⟨ym, yn⟩ := List.mem_filter.mp hy
      obtain ⟨_, ⟨ws2, q4, q5⟩, q6⟩ := rw9 y ym
      have ny : y.1 ≠ G2 := ne_of_none q4 hG2
      exact ⟨ny, by simpa using yn, ⟨ws2, fr _ _ ny q4, q5⟩, q6⟩
    · exact fr D2 _ (ne_of_none hD9 hG2) hD9
    · have g : ∀ {us bs : List V} {a b : List PyData}, Dts K (rs H F') us a → Dts K (rs H F') bs b → Dts K (rs H F') (us ++ bs) (a ++ b) := by
        intro us
        induction us with
        | nil => intro bs a b h1 h2; cases h1; exact h2
        | cons u us ih => intro bs a b h1 h2; cases h1 with | cons x y => exact .cons x (ih y h2)
      exact g dus db
end
end K49

/-! draws, the same, things -/
namespace K49
open PySem L2 Grd Ow PyProof.Rows
/-- the box of draws: c bounds how often it was mixed -/
def Box (c : Nat) (ys : List OV) : Prop := ∃ x y z : Int, ys = [.d (.int x), .d (.int y), .d (.int z)] ∧ 0 ≤ y ∧ y < 2305843010000000000 ∧ 0 ≤ z ∧ z ≤ (c : Int)
theorem Box.mono {c d : Nat} {ys : List OV} (h : Box c ys) (l : c ≤ d) : Box d ys := by
  obtain ⟨x, y, z, e, h1, h2, h3, h4⟩ := h
  exact ⟨x, y, z, e, h1, h2, h3, by omega⟩
def C_take : AC := fun xs R => ∃ (c : Nat) (ys : List OV) (m : Int), xs = [.n .lst ys, .d (.int m)] ∧ Box c ys ∧ c < 1000000000000 ∧ 0 < m ∧ m < 1073741824 ∧
  ∀ r ys', 0 ≤ r → r < m → Box (c + 1) ys' → R (.d (.int r)) [.n .lst ys', .d (.int m)]
theorem small {i : Int} {n : Nat} (h : i.natAbs < 2 ^ n) : i.natAbs.log2 ≤ n := by
  by_cases z : i.natAbs = 0
  · rw [z]; exact Nat.zero_le _
  · exact Nat.le_of_lt ((Nat.log2_lt z).mpr h)
theorem mul_small {i j : Int} (h1 : i.natAbs < 2 ^ 1000) (h2 : j.natAbs < 2 ^ 1000) : CMulW i j := by
  have := small h1
  have := small h2
  show _ + _ < _
  omega
theorem p_take : ∀ xs R, C_take xs R → xs.length = 2 ∧ t_take (retD [true, true] xs R) (beg 5 xs) := by
  rintro xs R ⟨c, ys, m, rfl, ⟨x, y, z, rfl, y0, y1, z0, z1⟩, hc, m0, m1, q⟩
  refine ⟨rfl, ?_⟩
  unfold t_take
  refine aSeq_i (aIfS_i ?_)
  simp_arith []
  refine br_i (fun h => ?_) (fun h => ?_)
  · refine aSeq_i ?_
    simp_arith []
    refine ⟨m0, aSeq_i ?_⟩
    simp_arith []
    refine ⟨⟨m0, m1⟩, ?_⟩
    exact q _ _ (Int.emod_nonneg _ (by omega)) (Int.emod_lt_of_pos _ m0) ⟨_, y, z, rfl, y0, y1, z0, by omega⟩
  · simp_arith []
    refine aSeq_i ?_
    simp_arith []
    refine aSeq_i ?_
    simp_arith []
    have b1 : (y + 39373 * (z + 1)).natAbs < 2 ^ 64 := by omega
    refine ⟨mul_small (by omega) (by omega), ⟨by omega, by omega, b1⟩, by omega, aSeq_i ?_⟩
    generalize e1 : (y + 39373 * (z + 1)) ^ Int.toNat 5 % 2147483647 = w1
    have w0 : 0 ≤ w1 ∧ w1 < 2147483647 := by subst e1; exact ⟨Int.emod_nonneg _ (by omega), Int.emod_lt_of_pos _ (by omega)⟩
    simp_arith []
    refine ⟨⟨by omega, by omega⟩, by omega, mul_small (by omega) (by omega), by omega, ?_⟩
    generalize e2 : (w1 + (z + 1) + y / 1000003) * (w1 % 40009 + 7 + (z + 1)) % 2147483629 = w2
    have w3 : 0 ≤ w2 ∧ w2 < 2147483629 := by subst e2; exact ⟨Int.emod_nonneg _ (by omega), Int.emod_lt_of_pos _ (by omega)⟩
    refine ⟨mul_small (by omega) (by omega), by omega, ⟨by omega, by omega⟩, m0, ?_⟩
    exact q _ _ (Int.emod_nonneg _ (by omega)) (Int.emod_lt_of_pos _ m0) ⟨x, y, z + 1, rfl, y0, y1, by omega, by omega⟩
/-- one of some, by a draw -/
def C_one_of : AC := fun xs R => ∃ (c : Nat) (ys : List OV) (x : OV), xs = [.n .lst ys, x] ∧ Box c ys ∧ c < 1000000000000 ∧
  ((∃ ds : List PyData, (x = .n .lst (ds.map .d) ∨ x = .d (.list ds)) ∧ 0 < ds.length ∧ ds.length < 1073741824 ∧ ∀ (d : PyData) (ys' : List OV), d ∈ ds → Box (c + 1) ys' → R (.d d) [.n .lst ys', x])
  ∨ (∃ z : Str, x = .d (.str z) ∧ 0 < z.length ∧ z.length ≤ 1000 ∧ ∀ (u : Nat) (ys' : List OV), u ∈ z.cps.toList → Box (c + 1) ys' → R (.d (.str ⟨#[u]⟩)) [.n .lst ys', .d (.str z)]))
theorem p_one_of : ∀ xs R, C_one_of xs R → xs.length = 2 ∧ t_one_of C_take (retD [true, true] xs R) (beg 2 xs) := by
  rintro xs R ⟨c, ys, x, rfl, hb, hc, q⟩
  refine ⟨rfl, ?_⟩
  unfold t_one_of
  rcases q with ⟨ds, rfl | rfl, h0, h1, q⟩ | ⟨z, rfl, h0, h1, q⟩
  · simp_arith []
    refine ⟨c, ys, (ds.map OV.d).length, rfl, hb, hc, by simp; omega, by simp; omega, fun r ys' r0 r1 hb' => ⟨rfl, ?_⟩⟩
    simp_arith []
    obtain ⟨k, rfl⟩ := Int.eq_ofNat_of_zero_le r0
    have r2 : k < ds.length := by simp at r1; omega
    rw [ixN_lit (by simp; omega)]
    have e : (ds.map OV.d)[k]? = some (.d ds[k]) := by simp [r2]
    simp only [e]
    exact q _ _ (List.getElem_mem _) hb'
  · simp_arith []
    refine ⟨c, ys, ds.length, rfl, hb, hc, by omega, by omega, fun r ys' r0 r1 hb' => ⟨rfl, ?_⟩⟩
    simp_arith []
    obtain ⟨k, rfl⟩ := Int.eq_ofNat_of_zero_le r0
    have r2 : k < ds.length := by omega
    rw [atI_lit]
    have e := List.getElem?_eq_getElem (l := ds) (i := k) r2
    simp only [e]
    exact q _ _ (List.getElem_mem _) hb'
  · simp_arith []
    refine ⟨by have : sizeLine = 16777216 := rfl; omega, c, ys, z.length, rfl, hb, hc, by omega, by omega, fun r ys' r0 r1 hb' => ⟨rfl, ?_⟩⟩
    simp_arith []
    obtain ⟨k, rfl⟩ := Int.eq_ofNat_of_zero_le r0
    have r2 : k < z.cps.toList.length := by have : z.cps.toList.length = z.length := by simp [Str.length]; 
                                            omega
    rw [atI_lit]
    have e := List.getElem?_eq_getElem (l := z.cps.toList) (i := k) r2
    simp only [e]
    exact ⟨by have : sizeLine = 16777216 := rfl; omega, q _ _ (List.getElem_mem _) hb'⟩
theorem sl_eq : sizeLine = 16777216 := rfl
/-! the same thing -/
def Pd : Nat → PyData → Prop
  | _, .none => True
  | _, .bool _ => True
  | _, .int _ => True
  | _, .str _ => True
  | n + 1, .list xs => xs.length ≤ 10000000 ∧ ∀ x ∈ xs, Pd n x
  | n + 1, .tuple xs => xs.length ≤ 10000000 ∧ ∀ x ∈ xs, Pd n x
  | _, _ => False
def C_same (n : Nat) : AC := fun xs R => ∃ (x y : OV) (d : PyData), xs = [x, y] ∧ frz x = some d ∧ frz y = some d ∧ Pd n d ∧ R (.d (.bool true)) [.d d, .d d]
theorem zip_same {xs : List PyData} {d : PyData} (h : d ∈ zipD xs xs) : ∃ x, x ∈ xs ∧ d = .tuple [x, x] := by
  unfold zipD at h
  obtain ⟨p, hp, rfl⟩ := List.mem_map.mp h
  have : p.1 = p.2 ∧ p.1 ∈ xs := by
    rw [List.mem_iff_getElem?] at hp
    obtain ⟨i, hi⟩ := hp
    rw [List.getElem?_zip_eq_some] at hi
    refine ⟨?_, List.mem_of_getElem? hi.1⟩
    have := hi.1.symm.trans hi.2
    exact Option.some.inj this
  exact ⟨p.1, this.2, by rw [this.1]⟩
theorem bools_all : ∀ (l : List PyData), boolsOf (l.map fun _ => PyData.bool true) = some (l.map fun _ => true)
  | [] => rfl
  | x :: l => by simp only [List.map_cons, boolsOf, bools_all l, Option.map_some]
theorem fm_const {α β : Type} (b : β) : ∀ l : List α, l.filterMap (fun _ => some b) = l.map fun _ => b
  | [] => rfl
  | x :: l => by simp [fm_const b l]
/-- what a name holds that is fixed when it is read -/
theorem nm_frz {env : En} {i : Nat} {x : OV} {d : PyData} {Q : OV → En → Prop} (h : env[i]? = some (some x)) (f : frz x = some d) (q : Q (.d d) (env.set i (some (.d d)))) : aName i env Q := by
  unfold aName
  rw [h]
  cases x with
  | d y =>
    rw [frz_d] at f
    cases f
    have : env.set i (some (.d d)) = env := by
      refine List.ext_getElem? fun j => ?_
      rw [List.getElem?_set]
      split
      · rename_i e
        subst e
        split
        · exact h.symm
        · rename_i l
          rw [List.getElem?_eq_none (by omega)] at h
          cases h
      · rfl
    rw [this] at q
    exact q
  | n s ys =>
    dsimp only
    rw [f]
    exact q
  | h v => simp [frz] at f
theorem frz_own {s : Sh} {ys : List OV} {d : PyData} (h : frz (.n s ys) = some d) : (∃ xs, d = .list xs) ∨ ∃ xs, d = .tuple xs := by
  cases s with
  | lst =>
    rw [frz_l] at h
    obtain ⟨xs, _, rfl⟩ := Option.map_eq_some_iff.mp h
    exact .inl ⟨xs, rfl⟩
  | tup =>
    rw [frz_t] at h
    obtain ⟨xs, _, rfl⟩ := Option.map_eq_some_iff.mp h
    exact .inr ⟨xs, rfl⟩
  | dic ks => simp [frz] at h
  | ins C ks => simp [frz] at h
  | ext o => simp [frz] at h
  | gen _ _ => simp [frz] at h
theorem frz_sc {x : OV} {d : PyData} (h : frz x = some d) (n : (∀ xs, d ≠ .list xs) ∧ ∀ xs, d ≠ .tuple xs) : x = .d d := by
  cases x with
  | d y => rw [frz_d] at h; cases h; rfl
  | n s ys =>
    rcases frz_own h with ⟨xs, e⟩ | ⟨xs, e⟩
    · exact (n.1 xs e).elim
    · exact (n.2 xs e).elim
  | h v => simp [frz] at h
theorem p_same {n : Nat} {C' : AC} (hC : ∀ m, n = m + 1 → C' = C_same m) : ∀ xs R, C_same n xs R → xs.length = 2 ∧ t_same C' (retD [true, true] xs R) (beg 4 xs) := by
  rintro xs R ⟨x, y, d, rfl, fx, fy, pd, q⟩
  refine ⟨rfl, ?_⟩
  unfold t_same
  have l0 : (beg 4 [x, y])[1]? = some (some y) := rfl
  refine aSeq_h (aIfS_i ?_)
  simp only [↓e_aTst, ↓e_a1]
  refine nm_frz l0 fy ?_
  cases d with
  | dict kvs => cases n <;> exact pd.elim
  | list ds =>
    obtain ⟨m, rfl⟩ : ∃ m, n = m + 1 := by
      cases n with
      | zero => exact pd.elim
      | succ m => exact ⟨m, rfl⟩
    obtain rfl := hC m rfl
    obtain ⟨hl, hp⟩ := pd
    simp_arith []
    refine br_t rfl (aSeq_h (aIfS_i ?_))
    simp only [↓e_aOr, ↓e_aTst, ↓e_a2, ↓e_a1]
    refine nm_frz rfl fx ?_
    simp_arith [sc2, PyData.eqv, beq_self_eq_true, Bool.not_true]
    refine ⟨.inl trivial, .inl trivial, br_f rfl ?_⟩
    simp_arith []
    refine hid_i ?_
    simp_arith [sc2, PyData.eqv, beq_self_eq_true, Bool.not_true, sfd, sit]
    refine ⟨.inl trivial, ?_⟩
    have hz : (zipD ds ds).length = ds.length := by unfold zipD; simp
    refine lc_pure (fun _ => some (.d (.bool true))) (fun d hd lim K hlim hk => ?_) (by have := sl_eq; omega) ?_
    · obtain ⟨a, ha, rfl⟩ := zip_same hd
      simp_arith []
      refine ⟨_, _, a, rfl, frz_d a, frz_d a, hp a ha, rfl, ?_⟩
      simp_arith []
      exact ⟨hlim, hk⟩
    · rw [fm_const]
      have e : (zipD ds ds).map (fun _ => OV.d (.bool true)) = ((zipD ds ds).map (fun _ => PyData.bool true)).map OV.d := by rw [List.map_map]; rfl
      rw [e]
      simp_arith [oAll, lfz, bools_all]
      have e2 : ((zipD ds ds).map fun _ => true).all id = true := by simp
      rw [e2]
      exact q
  | tuple ds =>
    obtain ⟨m, rfl⟩ : ∃ m, n = m + 1 := by
      cases n with
      | zero => exact pd.elim
      | succ m => exact ⟨m, rfl⟩
    obtain rfl := hC m rfl
    obtain ⟨hl, hp⟩ := pd
    simp_arith []
    refine br_t rfl (aSeq_h (aIfS_i ?_))
    simp only [↓e_aOr, ↓e_aTst, ↓e_a2, ↓e_a1]
    refine nm_frz rfl fx ?_
    simp_arith [sc2, PyData.eqv, beq_self_eq_true, Bool.not_true]
    refine ⟨.inl trivial, .inl trivial, br_f rfl ?_⟩
    simp_arith []
    refine hid_i ?_
    simp_arith [sc2, PyData.eqv, beq_self_eq_true, Bool.not_true, sfd, sit]
    refine ⟨.inl trivial, ?_⟩
    have hz : (zipD ds ds).length = ds.length := by unfold zipD; simp
    refine lc_pure (fun _ => some (.d (.bool true))) (fun d hd lim K hlim hk => ?_) (by have := sl_eq; omega) ?_
    · obtain ⟨a, ha, rfl⟩ := zip_same hd
      simp_arith []
      refine ⟨_, _, a, rfl, frz_d a, frz_d a, hp a ha, rfl, ?_⟩
      simp_arith []
      exact ⟨hlim, hk⟩
    · rw [fm_const]
      have e : (zipD ds ds).map (fun _ => OV.d (.bool true)) = ((zipD ds ds).map (fun _ => PyData.bool true)).map OV.d := by rw [List.map_map]; rfl
      rw [e]
      simp_arith [oAll, lfz, bools_all]
      have e2 : ((zipD ds ds).map fun _ => true).all id = true := by simp
      rw [e2]
      exact q
  | none =>
    obtain rfl := frz_sc fx ⟨fun _ e => by (cases e), fun _ e => by (cases e)⟩
    simp_arith []
    refine br_f rfl ?_
    simp_arith []
    refine hid_i (aSeq_h (aIfS_i ?_))
    simp_arith []
    refine br_t rfl ?_
    simp_arith []
    exact q
  | bool b =>
    obtain rfl := frz_sc fx ⟨fun _ e => by (cases e), fun _ e => by (cases e)⟩
    simp_arith []
    refine br_f rfl ?_
    simp_arith []
    refine hid_i (aSeq_h (aIfS_i ?_))
    simp_arith []
    refine br_f rfl ?_
    simp_arith []
    refine hid_i (aSeq_h (aIfS_i ?_))
    simp_arith []
    refine br_t rfl ?_
    simp_arith [sc2, PyData.eqv, beq_self_eq_true]
    exact ⟨.inl trivial, .inl trivial, q⟩
  | str b =>
    obtain rfl := frz_sc fx ⟨fun _ e => by (cases e), fun _ e => by (cases e)⟩
    simp_arith []
    refine br_f rfl ?_
    simp_arith []
    refine hid_i (aSeq_h (aIfS_i ?_))
    simp_arith []
    refine br_f rfl ?_
    simp_arith []
    refine hid_i (aSeq_h (aIfS_i ?_))
    simp_arith []
    refine br_t rfl ?_
    simp_arith [sc2, PyData.eqv, beq_self_eq_true]
    exact ⟨.inl trivial, .inl trivial, q⟩
  | int b =>
    obtain rfl := frz_sc fx ⟨fun _ e => by (cases e), fun _ e => by (cases e)⟩
    simp_arith []
    refine br_f rfl ?_
    simp_arith []
    refine hid_i (aSeq_h (aIfS_i ?_))
    simp_arith []
    refine br_f rfl ?_
    simp_arith []
    refine hid_i (aSeq_h (aIfS_i ?_))
    simp_arith []
    refine br_f rfl ?_
    simp_arith []
    refine hid_i ?_
    simp_arith [sc2, PyData.eqv, beq_self_eq_true, Bool.not_false]
    exact ⟨.inl trivial, q⟩


/-- the things that are woven -/
def thS : List PyData := [.int 0, .int 1, .int 2, .int 996, .tuple [.int 1, .int 2], .str "fun", .tuple [.int 1, .tuple [.int 2, .int 1]]]
def odS : List PyData := [.bool true, .none, .str "1", .list [.int 1, .int 2], .tuple [], .list [], .int 1, .int 2, .str "fun", .tuple [.str "fun"]]
def elS : List PyData := thS ++ odS
def C_thing : AC := fun xs R => ∃ (c : Nat) (ys : List OV), xs = [.n .lst ys] ∧ Box c ys ∧ c < 100000000000 ∧ ∀ (d : PyData) (ys' : List OV), d ∈ thS → Box (c + 2) ys' → R (.d d) [.n .lst ys']
theorem p_thing : ∀ xs R, C_thing xs R → xs.length = 1 ∧ t_thing C_one_of C_take (retD [true] xs R) (beg 1 xs) := by
  rintro xs R ⟨c, ys, rfl, hb, hc, q⟩
  refine ⟨rfl, ?_⟩
  unfold t_thing
  have sl := sl_eq
  simp_arith []
  repeat ((with_reducible refine And.intro ?_ ?_); · omega)
  refine ⟨c, ys, 3, rfl, hb, by omega, by decide, by decide, fun r ys1 r0 r1 hb1 => ⟨rfl, ?_⟩⟩
  simp_arith []
  repeat ((with_reducible refine And.intro ?_ ?_); · omega)
  refine ⟨c + 1, ys1, _, rfl, hb1, by omega, .inl ⟨[.int 0, .int 1, .int 2, .int 996, .tuple [.int 1, .int 2], .str "fun", .tuple [.int 1, .tuple [.int 2, .int 1]], .int r], .inl rfl, by simp, by simp, fun d ys2 hd hb2 => ⟨rfl, ?_⟩⟩⟩
  simp_arith []
  refine q d ys2 ?_ hb2
  simp only [List.mem_cons, List.not_mem_nil, or_false] at hd
  have hr : r = 0 ∨ r = 1 ∨ r = 2 := by omega
  unfold thS
  rcases hd with rfl | rfl | rfl | rfl | rfl | rfl | rfl | rfl
  · simp
  · simp
  · simp
  · simp
  · simp
  · simp
  · simp
  · rcases hr with rfl | rfl | rfl <;> simp
end K49

/-! texts, alike, the law's own look -/
namespace K49
open PySem L2 Grd Ow PyProof.Rows
theorem p_p_texts_of : ∀ xs R, C_texts_of xs R → xs.length = 1 ∧ t_p_texts_of (retD [true] xs R) (beg 2 xs) := by
  rintro xs R ⟨x, ds, rfl, fx, sh, hl, q⟩
  refine ⟨rfl, ?_⟩
  unfold t_p_texts_of
  simp only [↓e_aRet, ↓e_aLc, ↓e_aOver]
  refine nm_frz rfl fx ?_
  simp_arith [sit]
  refine lc_pure (fun d => some (.d (.str d.shown))) (fun d hd lim K hlim hk => ?_) (by have := sl_eq; omega) ?_
  · obtain ⟨a, b, c⟩ := sh d hd
    simp_arith [oRepr]
    exact ⟨⟨a, b, c⟩, hlim, hk⟩
  · have e : ds.filterMap (fun d => some (OV.d (.str d.shown))) = (ds.map fun d => PyData.str d.shown).map OV.d := by
      rw [List.map_map]
      rw [← List.filterMap_eq_map]; rfl
    rw [e]
    simp_arith []
    exact q
/-- alike: the texts of two data are the same -/
def C_alike : AC := fun xs R => ∃ d e, xs = [.d d, .d e] ∧ Shw d ∧ Shw e ∧ R (.d (.bool (decide (d.shown = e.shown)))) [.d d, .d e]
theorem p_alike : ∀ xs R, C_alike xs R → xs.length = 2 ∧ t_alike (retD [true, true] xs R) (beg 2 xs) := by
  rintro xs R ⟨d, e, rfl, ⟨a1, a2, a3⟩, ⟨b1, b2, b3⟩, q⟩
  refine ⟨rfl, ?_⟩
  unfold t_alike
  simp_arith [oRepr]
  refine ⟨⟨a1, a2, a3⟩, ⟨b1, b2, b3⟩, .inl rfl, ?_⟩
  have h : (PyData.str d.shown).eqv (PyData.str e.shown) = decide (d.shown = e.shown) := by
    simp only [PyData.eqv]
    rw [Bool.eq_iff_iff]
    simp
  rw [h]
  exact q
def spD (s : Spot) : PyData := .list (s.map fun n : Nat => .int (n : Int))
def C_is_woven : AC := fun xs R => ∃ rows thing, xs = [.d (.list (rows.map .list)), .d thing] ∧ rows.length ≤ 4 ∧ (rows.map (·.length)).sum ≤ 12 ∧ (∀ r ∈ rows, ∀ d ∈ r, Shw d) ∧ (∀ ds, thing = .list ds → ∀ d ∈ ds, Shw d) ∧ (∀ kvs, thing ≠ .dict kvs) ∧ R (.d (.bool (isW rows thing))) xs
def lenF (d : PyData) : Option OV := match d with
  | .list r => some (.d (.int (r.length : Int)))
  | _ => none
theorem lenF_map : ∀ rows : List (List PyData), (rows.map PyData.list).filterMap lenF = (rows.map fun r => PyData.int (r.length : Int)).map OV.d
  | [] => rfl
  | r :: rows => by
    rw [List.map_cons, List.filterMap_cons]
    simp only [lenF, List.map_cons]
    rw [lenF_map rows]
theorem ints_len : ∀ rows : List (List PyData), intsOf (rows.map fun r => PyData.int (r.length : Int)) = some (rows.map fun r => (r.length : Int))
  | [] => rfl
  | r :: rows => by simp only [List.map_cons, intsOf, ints_len rows, Option.map_some]
theorem idx_of {α : Type} {done rest all : List α} {d : α} (h : done ++ d :: rest = all) : all[done.length]? = some d := by
  rw [← h, List.getElem?_append_right (Nat.le_refl _), Nat.sub_self]; rfl
theorem enum_at {xs : List PyData} {j : Nat} {d : PyData} (h : (enumD xs)[j]? = some d) : ∃ r, xs[j]? = some r ∧ d = .tuple [.int (j : Int), r] := by
  unfold enumD at h
  rw [List.getElem?_map, List.getElem?_zipIdx] at h
  cases e : xs[j]? with
  | none => rw [e] at h; cases h
  | some r =>
    rw [e] at h
    simp at h
    exact ⟨r, rfl, h.symm⟩
theorem sp_ix {s : Spot} {j : Nat} (h : j < s.length) : (s.map fun n : Nat => PyData.int (n : Int))[j]? = some (.int ((s.getD j 0 : Nat) : Int)) := by
  rw [List.getElem?_map, List.getElem?_eq_getElem h, List.getD_eq_getElem?_getD, List.getElem?_eq_getElem h]
  rfl
theorem cut_from1 {α : Type} (xs : List α) (k : Nat) : cut xs (some ((k : Int) + 1)) none = xs.drop (k + 1) := by
  rw [show ((k : Int) + 1) = ((k + 1 : Nat) : Int) by omega]
  exact cut_from xs (k + 1)
theorem eqvAll_ints : ∀ a b : Spot, PyData.eqvAll (a.map fun n : Nat => .int (n : Int)) (b.map fun n : Nat => .int (n : Int)) = decide (a = b)
  | [], [] => by simp [PyData.eqvAll]
  | [], _ :: _ => by simp [PyData.eqvAll]
  | _ :: _, [] => by simp [PyData.eqvAll]
  | x :: a, y :: b => by
    have ih := eqvAll_ints a b
    simp only [List.map_cons, PyData.eqvAll, PyData.eqv, ih]
    rw [Bool.eq_iff_iff]
    simp
    intro _
    omega
theorem any_sp (l : List Spot) (k : Spot) : ((l.map spD).any fun z => PyData.eqv z (spD k)) = decide (k ∈ l) := by
  induction l with
  | nil => simp
  | cons s l ih =>
    rw [List.map_cons, List.any_cons, ih]
    have h : PyData.eqv (spD s) (spD k) = decide (s = k) := by
      unfold spD
      simp only [PyData.eqv]
      exact eqvAll_ints s k
    rw [h, Bool.eq_iff_iff]
    simp only [Bool.or_eq_true, decide_eq_true_eq, List.mem_cons]
    exact ⟨fun h => h.elim (fun e => .inl e.symm) .inr, fun h => h.elim (fun e => .inl e.symm) .inr⟩
theorem any_sp' (l : List Spot) (k : Spot) : ((l.map spD).any fun z => PyData.eqv z (.list (k.map fun n : Nat => .int (n : Int)))) = decide (k ∈ l) := any_sp l k
theorem wd_sp (s : Spot) : Wd 1 (spD s) := .list fun x hx => by
  obtain ⟨n, _, rfl⟩ := List.mem_map.mp hx
  exact ⟨by simp [PyData.canLay0], by simp [PyData.depth]⟩
theorem wd_sps (l : List Spot) : Wd 2 (.list (l.map spD)) := .list fun x hx => by
  obtain ⟨s, _, rfl⟩ := List.mem_map.mp hx
  exact wd_sp s
theorem p_is_woven : ∀ xs R, C_is_woven xs R → xs.length = 2 ∧ t_is_woven C_alike (retD [true, true] xs R) (beg 9 xs) := by
  rintro xs R ⟨rows, thing, rfl, r4, r12, shr, sht, nd, q⟩
  refine ⟨rfl, ?_⟩
  unfold t_is_woven
  refine aSeq_h (aIfS_i ?_)
  by_cases hL : ∃ ds, thing = .list ds
  case neg =>
    have hw : isW rows thing = false := by
      cases thing <;> first | rfl | exact absurd ⟨_, rfl⟩ hL
    rw [hw] at q
    cases thing with
    | list ds => exact absurd ⟨_, rfl⟩ hL
    | dict kvs => exact absurd rfl (nd kvs)
    | none => simp_arith [Bool.not_false]; exact br_t rfl (by simp_arith []; exact q)
    | bool b => simp_arith [Bool.not_false]; exact br_t rfl (by simp_arith []; exact q)
    | int i => simp_arith [Bool.not_false]; exact br_t rfl (by simp_arith []; exact q)
    | str s => simp_arith [Bool.not_false]; exact br_t rfl (by simp_arith []; exact q)
    | tuple ds => simp_arith [Bool.not_false]; exact br_t rfl (by simp_arith []; exact q)
  obtain ⟨ds, rfl⟩ := hL
  simp_arith [Bool.not_true]
  simp only [sit]
  have sl := sl_eq
  refine lc_pure lenF (fun d hd lim K hlim hk => ?_) (by rw [List.length_map]; omega) ?_
  · obtain ⟨r, hr, rfl⟩ := List.mem_map.mp hd
    simp_arith []
    exact ⟨hlim, hk⟩
  rw [lenF_map]
  simp_arith [oSum, lfz, ints_len]
  have hsum : ∀ rs : List (List PyData), (rs.map fun r => (r.length : Int)).sum = (((rs.map (·.length)).sum : Nat) : Int) := by
    intro rs
    induction rs with
    | nil => rfl
    | cons r rs ih => rw [List.map_cons, List.map_cons, List.sum_cons, List.sum_cons, ih]; omega
  rw [hsum]
  refine ⟨.inl rfl, ?_⟩
  have hdec : (!(PyData.int (ds.length : Int)).eqv (.int (((rows.map (·.length)).sum : Nat) : Int))) = !decide (ds.length = (rows.map (·.length)).sum) := by
    simp only [PyData.eqv]
    congr 1
    rw [Bool.eq_iff_iff]
    simp
    omega
  rw [hdec]
  by_cases hn : ds.length = (rows.map (·.length)).sum
  case neg =>
    rw [decide_eq_false hn]
    have hw : isW rows (.list ds) = false := by simp only [isW, if_neg hn]
    rw [hw] at q
    exact br_t rfl (by simp_arith []; exact q)
  rw [decide_eq_true hn]
  refine br_f rfl ?_
  have hw : isW rows (.list ds) = !(runs (rows.map (·.map (·.shown))) (ds.map (·.shown))).isEmpty := by simp only [isW, if_pos hn]
  rw [hw] at q
  simp_arith []
  refine hid_i (aSeq_h ?_)
  simp_arith []
  refine ⟨by omega, ⟨by omega, by rw [List.length_map]; omega, by rw [List.length_map]; omega⟩, by omega, hid_i (aSeq_h ?_)⟩
  generalize etx : rows.map (·.map (·.shown)) = tx at q
  have ltx : tx.length = rows.length := by rw [← etx, List.length_map]
  have fx2 : frz (.n .lst [.n .lst ((List.replicate (((rows.map PyData.list).length : Nat) : Int).toNat [PyData.int 0]).flatten.map OV.d)]) = some (.list ((runs tx (([] : List PyData).map (·.shown))).map spD)) := by
    have e : (List.replicate (((rows.map PyData.list).length : Nat) : Int).toNat [PyData.int 0]).flatten = (List.replicate tx.length 0).map (fun n : Nat => PyData.int (n : Int)) := by
      rw [List.length_map, Int.toNat_natCast, ltx]
      induction rows.length with
      | zero => rfl
      | succ n ih => rw [List.replicate_succ, List.replicate_succ, List.flatten_cons, ih]; rfl
    rw [e]
    simp only [frz_l, frzs_cons, frzs_map, frzs_nil, Option.map_some, Option.bind_some]
    rfl
  simp only [↓e_aFor, ↓e_aOver, ↓e_aName]
  simp_arith [sit]
  refine for_run ds (fun done e => ∃ (x2 : OV) (u3 u4 u5 u6 u7 u8 : Option OV), e = [some (.d (.list (rows.map .list))), some (.d (.list ds)), some x2, u3, u4, u5, u6, u7, u8] ∧ frz x2 = some (.list ((runs tx (done.map (·.shown))).map spD))) ?_ ?_ ds [] _ rfl ⟨_, _, _, _, _, _, _, rfl, fx2⟩
  · rintro done d rest e hd ⟨x2, u3, u4, u5, u6, u7, u8, rfl, fx⟩ K2 hK
    have dm : d ∈ ds := by rw [← hd]; simp
    have hruns : runs tx ((done ++ [d]).map (·.shown)) = outs tx d.shown (runs tx (done.map (·.shown))) := by
      unfold runs
      rw [List.map_append, List.foldl_append]
      rfl
    rw [hruns] at hK
    generalize esp : runs tx (done.map (·.shown)) = sp at fx hK
    simp_arith []
    refine aSeq_h ?_
    simp_arith []
    refine ⟨by omega, hid_i (aSeq_h ?_)⟩
    simp only [↓e_aFor, ↓e_aOver]
    refine nm_frz rfl fx ?_
    simp_arith [sit]
    have l12 : ds.length ≤ 12 := by omega
    have ldone : done.length < ds.length := by rw [← hd]; simp
    have hlen : sp.length ≤ 4 ^ done.length := by
      have := runs_len tx (by omega) (done.map (·.shown))
      rw [List.length_map, esp] at this
      exact this
    have hall : ∀ s ∈ sp, s.length = tx.length := by
      rw [← esp]
      suffices g : ∀ (os : List Str) (sp : List Spot), (∀ s ∈ sp, s.length = tx.length) → ∀ s ∈ os.foldl (fun sp one => outs tx one sp) sp, s.length = tx.length from
        g _ _ (by intro s hs; rw [List.mem_singleton.mp hs, List.length_replicate])
      intro os
      induction os with
      | nil => intro sp h; exact h
      | cons o os ih => intro sp h; exact ih _ (outs_all h)
    refine for_run (sp.map spD) (fun done2 e => ∃ (x4 : OV) (u5 u6 u7 u8 : Option OV), e = [some (.d (.list (rows.map .list))), some (.d (.list ds)), some (.d (.list (sp.map spD))), some (.d d), some x4, u5, u6, u7, u8] ∧ frz x4 = some (.list (((sp.take done2.length).foldl (fun acc s => inn tx d.shown s tx.length acc) []).map spD))) ?_ ?_ (sp.map spD) [] _ rfl ⟨_, _, _, _, _, rfl, rfl⟩
    · rintro done2 d2 rest2 e hd2 ⟨x4, u5, u6, u7, u8, rfl, fx4⟩ K3 hK3
      have h2 := idx_of hd2
      rw [List.getElem?_map] at h2
      obtain ⟨s, hs, rfl⟩ := Option.map_eq_some_iff.mp h2
      have hsl : s.length = tx.length := hall s (List.mem_of_getElem? hs)
      have hi2 : done2.length < sp.length := (List.getElem?_eq_some_iff.mp hs).1
      rw [List.length_append, List.length_singleton, fold_take _ _ _ _ _ hs] at hK3
      have hacc : ((sp.take done2.length).foldl (fun acc s => inn tx d.shown s tx.length acc) []).length ≤ done2.length * 4 := by
        have := outs_len' tx d.shown (sp.take done2.length) []
        rw [List.length_nil, List.length_take, Nat.min_eq_left (by omega), Nat.zero_add] at this
        exact Nat.le_trans this (Nat.mul_le_mul_left _ (by omega))
      generalize (sp.take done2.length).foldl (fun acc s => inn tx d.shown s tx.length acc) [] = acc at fx4 hK3 hacc
      have big : done2.length * 4 + 4 ≤ 16777216 := by
        have h1 : done2.length + 1 ≤ 4 ^ done.length := by omega
        have h2 : 4 ^ done.length ≤ 4 ^ 11 := Nat.pow_le_pow_right (by decide) (by omega)
        have h3 : (4 : Nat) ^ 11 = 4194304 := by decide
        omega
      simp_arith []
      simp_arith [sfd, sit]
      refine for_run (enumD (rows.map .list)) (fun done3 e => ∃ (x4 : OV) (u6 u7 u8 : Option OV), e = [some (.d (.list (rows.map .list))), some (.d (.list ds)), some (.d (.list (sp.map spD))), some (.d d), some x4, some (.d (spD s)), u6, u7, u8] ∧ frz x4 = some (.list ((inn tx d.shown s done3.length acc).map spD))) ?_ ?_ (enumD (rows.map .list)) [] _ rfl ⟨_, _, _, _, rfl, fx4⟩
      · rintro done3 d3 rest3 e hd3 ⟨x4, u6, u7, u8, rfl, fx5⟩ K4 hK4
        obtain ⟨r', hr', rfl⟩ := enum_at (idx_of hd3)
        rw [List.getElem?_map] at hr'
        obtain ⟨r, hr, rfl⟩ := Option.map_eq_some_iff.mp hr'
        have hj : done3.length < rows.length := (List.getElem?_eq_some_iff.mp hr).1
        have hjs : done3.length < s.length := by omega
        rw [List.length_append, List.length_singleton, inn_succ] at hK4
        have hil := inn_len tx d.shown s acc done3.length
        generalize inn tx d.shown s done3.length acc = acc2 at fx5 hK4 hil
        simp_arith []
        refine aIfS_i ?_
        unfold spD
        simp_arith [atI_lit, sp_ix hjs]
        have hrow : tx.getD done3.length [] = r.map (·.shown) := by
          rw [← etx, List.getD_eq_getElem?_getD, List.getElem?_map, hr]; rfl
        have rm : r ∈ rows := List.mem_of_getElem? hr
        by_cases hl : s.getD done3.length 0 < r.length
        · rw [if_pos (by omega), List.getElem?_eq_getElem hl]
          have ht : tells tx d.shown s done3.length = decide ((r[s.getD done3.length 0]'hl).shown = d.shown) := by
            unfold tells
            rw [hrow, List.length_map, decide_eq_true hl, Bool.true_and, List.getD_eq_getElem?_getD, List.getElem?_map, List.getElem?_eq_getElem hl]
            rfl
          refine ⟨_, d, rfl, shr r rm _ (List.getElem_mem hl), sht ds rfl d dm, rfl, ?_⟩
          simp_arith []
          refine br_i (fun hb => ?_) (fun hb => ?_)
          · have hin : inn1 tx d.shown s acc2 done3.length = ins acc2 (adv s done3.length) := by
              unfold inn1
              rw [if_pos (ht.trans hb)]
            rw [hin] at hK4
            refine aSeq_h ?_
            simp_arith [cut_to, cut_from1, atI_lit, sp_ix hjs]
            have e8 : (List.map OV.d (List.take done3.length (List.map (fun n : Nat => PyData.int (n : Int)) s)) ++ [OV.d (PyData.int (((s.getD done3.length 0 : Nat) : Int) + 1))] ++ List.map OV.d (List.drop (done3.length + 1) (List.map (fun n : Nat => PyData.int (n : Int)) s))) = ((adv s done3.length).map fun n : Nat => PyData.int (n : Int)).map OV.d := by
              unfold adv
              simp [List.map_append, List.map_take, List.map_drop]
            refine ⟨by omega, by simp only [List.length_map, List.length_take]; omega, by simp only [List.length_map, List.length_take, List.length_append, List.length_drop, List.length_singleton]; omega, hid_i ?_⟩
            rw [e8]
            simp only [↓e_aAsg, ↓e_a2]
            refine nm_frz rfl fx5 ?_
            simp_arith [any_sp', oInt]
            refine ⟨by omega, .inr ⟨(wd_sp _).shaped (by decide), (wd_sps _).shaped (by decide)⟩, ?_⟩
            by_cases hm : adv s done3.length ∈ acc2
            · have hi : ins acc2 (adv s done3.length) = acc2 := by unfold ins; rw [if_pos hm]
              rw [hi] at hK4
              rw [decide_eq_true hm]
              refine ⟨⟨by decide, by decide, by decide⟩, ?_, ?_⟩
              · simp only [List.length_map]
                show acc2.length + 0 ≤ sizeLine
                omega
              · refine hK4 _ ⟨_, _, _, _, rfl, ?_⟩
                show frz (.n .lst (List.map OV.d (List.map spD acc2) ++ [])) = _
                rw [List.append_nil]
                exact frz_lst _
            · have hi : ins acc2 (adv s done3.length) = acc2 ++ [adv s done3.length] := by unfold ins; rw [if_neg hm]
              rw [hi] at hK4
              rw [decide_eq_false hm]
              refine ⟨⟨by decide, by decide, ?_⟩, ?_, ?_⟩
              · show 1 ≤ sizeLine
                omega
              · simp only [List.length_map]
                show acc2.length + 1 ≤ sizeLine
                omega
              · refine hK4 _ ⟨_, _, _, _, rfl, ?_⟩
                show frz (.n .lst (List.map OV.d (List.map spD acc2) ++ [OV.d (spD (adv s done3.length))])) = _
                rw [show List.map OV.d (List.map spD acc2) ++ [OV.d (spD (adv s done3.length))] = List.map OV.d (List.map spD (acc2 ++ [adv s done3.length])) by simp]
                exact frz_lst _
          · have hin : inn1 tx d.shown s acc2 done3.length = acc2 := by
              unfold inn1
              rw [if_neg (by rw [ht, hb]; decide)]
            rw [hin] at hK4
            simp_arith []
            exact hK4 _ ⟨_, _, _, _, rfl, fx5⟩
        · rw [if_neg (by omega)]
          have hin : inn1 tx d.shown s acc2 done3.length = acc2 := by
            unfold inn1
            rw [if_neg (by unfold tells; rw [hrow, List.length_map, decide_eq_false hl]; simp)]
          rw [hin] at hK4
          refine br_f rfl ?_
          simp_arith []
          exact hK4 _ ⟨_, _, _, _, rfl, fx5⟩
      · rintro e ⟨x4, u6, u7, u8, rfl, fx5⟩
        have hlen3 : (enumD (rows.map PyData.list)).length = tx.length := by
          unfold enumD
          rw [List.length_map, List.length_zipIdx, List.length_map, ltx]
        rw [hlen3] at fx5
        simp_arith []
        exact hK3 _ ⟨_, _, _, _, _, rfl, fx5⟩
    · rintro e ⟨x4, u5, u6, u7, u8, rfl, fx4⟩
      rw [List.length_map, List.take_length] at fx4
      simp_arith []
      refine hid_i ?_
      simp only [↓e_aAsg]
      refine nm_frz rfl fx4 ?_
      simp_arith []
      exact hK _ ⟨_, _, _, _, _, _, _, rfl, frz_d _⟩
  · rintro e ⟨x2, u3, u4, u5, u6, u7, u8, rfl, fx⟩
    simp_arith []
    refine hid_i ?_
    simp only [↓e_aRet, ↓e_a2]
    refine nm_frz rfl fx ?_
    simp_arith [eqv_nil]
    refine ⟨by omega, .inr ⟨(wd_sps _).shaped (by decide), by decide⟩, ?_⟩
    have e : (runs tx (ds.map (·.shown)) |>.map spD).isEmpty = (runs tx (ds.map (·.shown))).isEmpty := by cases runs tx (ds.map (·.shown)) <;> rfl
    rw [e]
    exact q
end K49

/-! otherwise, rows -/
namespace K49
open PySem L2 Grd Ow PyProof.Rows
def OkT (n : Nat) (d : PyData) : Prop := (∀ es, d = .list es → (∀ e ∈ es, e ∈ elS) ∧ es.length ≤ n) ∧ ∀ kvs, d ≠ .dict kvs
theorem OkT.lst {n : Nat} {es : List PyData} (h : ∀ e ∈ es, e ∈ elS) (l : es.length ≤ n) : OkT n (.list es) := ⟨fun es' e => by cases e; exact ⟨h, l⟩, fun kvs e => by cases e⟩
def C_otherwise : AC := fun xs R => ∃ (c : Nat) (ys : List OV) (ds : List PyData), xs = [.n .lst ys, .d (.list ds)] ∧ Box c ys ∧ c < 10000000000 ∧ (∀ e ∈ ds, e ∈ elS) ∧ ds.length ≤ 100 ∧
  ∀ (z : OV) (d : PyData) (ys' : List OV), frz z = some d → OkT (4 * ds.length + 1) d → Box (c + 6) ys' → R z [.n .lst ys', .d (.list ds)]
theorem mem_cut {ds : List PyData} {lo hi : Option Int} (h : ∀ e ∈ ds, e ∈ elS) : ∀ e ∈ cut ds lo hi, e ∈ elS := fun e he => h e (by
  unfold cut at he
  exact List.mem_of_mem_drop (List.mem_of_mem_take he))
theorem cut_len (ds : List PyData) (lo hi : Option Int) : (cut ds lo hi).length ≤ ds.length := by
  unfold cut
  rw [List.length_take, List.length_drop]
  omega
theorem th_el {d : PyData} (h : d ∈ thS) : d ∈ elS := List.mem_append_left _ h
theorem p_otherwise : ∀ xs R, C_otherwise xs R → xs.length = 2 ∧ t_otherwise C_take C_thing (retD [true, true] xs R) (beg 7 xs) := by
  rintro xs R ⟨c, ys, ds, rfl, hb, hc, hel, hl, q⟩
  refine ⟨rfl, ?_⟩
  unfold t_otherwise
  have sl := sl_eq
  refine aSeq_h ?_
  simp_arith []
  repeat ((with_reducible refine And.intro ?_ ?_); · omega)
  refine ⟨c, ys, _, rfl, hb, by omega, by omega, by omega, fun i ys1 i0 i1 hb1 => ⟨rfl, ?_⟩⟩
  simp_arith []
  repeat ((with_reducible refine And.intro ?_ ?_); · omega)
  refine ⟨_, ys1, _, rfl, hb1, by omega, by omega, by omega, fun j ys2 j0 j1 hb2 => ⟨rfl, ?_⟩⟩
  simp_arith []
  refine ⟨_, ys2, 6, rfl, hb2, by omega, by decide, by decide, fun w ys3 w0 w1 hb3 => ⟨rfl, ?_⟩⟩
  simp_arith []
  obtain ⟨a, rfl⟩ := Int.eq_ofNat_of_zero_le i0
  obtain ⟨b, rfl⟩ := Int.eq_ofNat_of_zero_le j0
  have q1 : ∀ (es : List PyData) (ys' : List OV), (∀ e ∈ es, e ∈ elS) → es.length ≤ 4 * ds.length + 1 → Box (c + 6) ys' → R (.n .lst (es.map .d)) [.n .lst ys', .d (.list ds)] := fun es ys' h1 h2 h3 => q _ _ ys' (frz_lst es) (.lst h1 h2) h3
  refine hid_i (aSeq_h (aIfS_i ?_))
  simp_arith []
  refine ⟨.inl rfl, br_i (fun hw => ?_) (fun hw => ?_)⟩
  · simp_arith []
    have l1 := cut_len ds none (some (a : Int))
    have l2 := cut_len ds (some ((a : Int) + 1)) none
    refine ⟨by rw [List.length_map, List.length_map]; omega, ?_⟩
    rw [← List.map_append]
    refine q1 _ _ (fun e he => ?_) (by rw [List.length_append]; omega) (hb3.mono (by omega))
    rcases List.mem_append.mp he with he | he <;> exact mem_cut hel e he
  simp_arith []
  refine hid_i (aSeq_h (aIfS_i ?_))
  simp_arith []
  refine ⟨.inl rfl, br_i (fun hw2 => ?_) (fun hw2 => ?_)⟩
  · simp_arith []
    have l1 := cut_len ds none (some (a : Int))
    have l2 := cut_len ds (some (a : Int)) none
    refine ⟨_, ys3, rfl, hb3, by omega, fun t ys4 ht hb4 => ⟨rfl, by omega, by rw [List.length_map]; omega, ?_⟩⟩
    simp_arith []
    refine ⟨by rw [List.length_append, List.length_map, List.length_map, List.length_singleton]; omega, ?_⟩
    rw [show [OV.d t] = [t].map OV.d from rfl, ← List.map_append, ← List.map_append]
    refine q1 _ _ (fun e he => ?_) (by rw [List.length_append, List.length_append, List.length_singleton]; omega) (hb4.mono (by omega))
    rcases List.mem_append.mp he with he | he
    · rcases List.mem_append.mp he with he | he
      · exact mem_cut hel e he
      · rw [List.mem_singleton.mp he]; exact th_el ht
    · exact mem_cut hel e he
  simp_arith []
  refine hid_i (aSeq_h (aIfS_i ?_))
  simp_arith []
  refine ⟨.inl rfl, br_i (fun hw3 => ?_) (fun hw3 => ?_)⟩
  · simp_arith [oRev]
    have l1 := cut_len ds none (some (a : Int))
    have l2 := cut_len ds (some (a : Int)) (some ((a : Int) + 2))
    have l3 := cut_len ds (some ((a : Int) + 2)) none
    refine ⟨by rw [List.length_reverse, List.length_map, List.length_map]; omega, by rw [List.length_append, List.length_reverse, List.length_map, List.length_map, List.length_map]; omega, ?_⟩
    rw [← List.map_reverse, ← List.map_append, ← List.map_append]
    refine q1 _ _ (fun e he => ?_) (by rw [List.length_append, List.length_append, List.length_reverse]; omega) (hb3.mono (by omega))
    rcases List.mem_append.mp he with he | he
    · rcases List.mem_append.mp he with he | he
      · exact mem_cut hel e he
      · exact mem_cut hel e (List.mem_reverse.mp he)
    · exact mem_cut hel e he
  simp_arith []
  refine hid_i (aSeq_h ?_)
  simp_arith []
  repeat ((with_reducible refine And.intro ?_ ?_); · omega)
  refine hid_i (aSeq_h (aIfS_i ?_))
  simp_arith []
  refine ⟨.inl rfl, br_i (fun hw4 => ?_) (fun hw4 => ?_)⟩
  · simp_arith []
    have l1 := cut_len ds none (some (a : Int))
    have l2 := cut_len ds (some ((a : Int) + 1)) none
    refine ⟨_, ys3, 10, rfl, hb3, by omega, by decide, by decide, fun r ys4 r0 r1 hb4 => ⟨rfl, ?_⟩⟩
    obtain ⟨k, rfl⟩ := Int.eq_ofNat_of_zero_le r0
    have fin3 : ∀ t, t ∈ odS → (List.map OV.d (cut ds none (some (a : Int)))).length + 1 ≤ sizeLine ∧ (List.map OV.d (cut ds none (some (a : Int))) ++ [OV.d t]).length + (List.map OV.d (cut ds (some ((a : Int) + 1)) none)).length ≤ sizeLine ∧ R (.n .lst (List.map OV.d (cut ds none (some (a : Int))) ++ [OV.d t] ++ List.map OV.d (cut ds (some ((a : Int) + 1)) none))) [.n .lst ys4, .d (.list ds)] := fun t ht => by
      refine ⟨by rw [List.length_map]; omega, by rw [List.length_append, List.length_map, List.length_map, List.length_singleton]; omega, ?_⟩
      rw [show [OV.d t] = [t].map OV.d from rfl, ← List.map_append, ← List.map_append]
      refine q1 _ _ (fun e he => ?_) (by rw [List.length_append, List.length_append, List.length_singleton]; omega) (hb4.mono (by omega))
      rcases List.mem_append.mp he with he | he
      · rcases List.mem_append.mp he with he | he
        · exact mem_cut hel e he
        · rw [List.mem_singleton.mp he]; exact List.mem_append_right _ ht
      · exact mem_cut hel e he
    have hk : k < 10 := by omega
    simp_arith [ixN_lit hk]
    match k, hk with
    | 0, _ => (simp_arith []; refine ⟨by omega, fin3 _ ?_⟩; simp [odS])
    | 1, _ => (simp_arith []; refine ⟨by omega, fin3 _ ?_⟩; simp [odS])
    | 2, _ => (simp_arith []; refine ⟨by omega, fin3 _ ?_⟩; simp [odS])
    | 3, _ => (simp_arith []; refine ⟨by omega, fin3 _ ?_⟩; simp [odS])
    | 4, _ => (simp_arith []; refine ⟨by omega, fin3 _ ?_⟩; simp [odS])
    | 5, _ => (simp_arith []; refine ⟨by omega, fin3 _ ?_⟩; simp [odS])
    | 6, _ => (simp_arith []; refine ⟨by omega, fin3 _ ?_⟩; simp [odS])
    | 7, _ => (simp_arith []; refine ⟨by omega, fin3 _ ?_⟩; simp [odS])
    | 8, _ => (simp_arith []; refine ⟨by omega, fin3 _ ?_⟩; simp [odS])
    | 9, _ => (simp_arith []; refine ⟨by omega, fin3 _ ?_⟩; simp [odS])
    | k + 10, hk => omega
  simp_arith []
  refine hid_i (aSeq_h (aIfS_i ?_))
  simp_arith []
  refine ⟨.inl rfl, br_i (fun hw5 => ?_) (fun hw5 => ?_)⟩
  · refine aSeq_h ?_
    simp_arith []
    have l1 := cut_len ds none (some (a : Int))
    have l2 := cut_len ds (some ((a : Int) + 1)) (some ((b : Int) + 1))
    have l3 := cut_len ds (some (a : Int)) (some ((a : Int) + 1))
    refine ⟨by rw [List.length_map, List.length_map]; omega, hid_i ?_⟩
    rw [← List.map_append]
    simp_arith []
    have l4 := cut_len ds (some ((if (b : Int) > (a : Int) then (b : Int) else (a : Int)) + 1)) none
    refine ⟨by simp only [List.length_map, List.length_append]; omega, by simp only [List.length_map, List.length_append]; omega, ?_⟩
    rw [← List.map_append, ← List.map_append]
    refine q1 _ _ (fun e he => ?_) (by simp only [List.length_append]; omega) (hb3.mono (by omega))
    rcases List.mem_append.mp he with he | he
    · rcases List.mem_append.mp he with he | he
      · exact mem_cut hel e he
      · rcases List.mem_append.mp he with he | he <;> exact mem_cut hel e he
    · exact mem_cut hel e he
  simp_arith []
  refine hid_i ?_
  simp_arith [oTuple]
  refine ⟨by rw [List.length_map]; omega, by omega, _, ys3, 5, rfl, hb3, by omega, by decide, by decide, fun r ys4 r0 r1 hb4 => ⟨rfl, ?_⟩⟩
  obtain ⟨k, rfl⟩ := Int.eq_ofNat_of_zero_le r0
  have hk : k < 5 := by omega
  simp_arith [atI_lit]
  rw [dats_map]
  have okS : ∀ d : PyData, (∀ es, d ≠ .list es) → (∀ kvs, d ≠ .dict kvs) → OkT (4 * ds.length + 1) d := fun d h1 h2 => ⟨fun es e => absurd e (h1 es), h2⟩
  have hb5 : Box (c + 6) ys4 := hb4.mono (by omega)
  match k, hk with
  | 0, _ => exact q _ _ ys4 (frz_d _) (okS _ (fun es e => by cases e) (fun es e => by cases e)) hb5
  | 1, _ => exact q _ _ ys4 (frz_d _) (okS _ (fun es e => by cases e) (fun es e => by cases e)) hb5
  | 2, _ =>
    show R (.n .lst (List.map OV.d ds ++ List.map OV.d ds)) _
    rw [← List.map_append]
    exact q1 _ _ (fun e he => by rcases List.mem_append.mp he with he | he <;> exact hel e he) (by rw [List.length_append]; omega) hb5
  | 3, _ => exact q _ _ ys4 (frz_d _) (okS _ (fun es e => by cases e) (fun es e => by cases e)) hb5
  | 4, _ => exact q _ _ ys4 (frz_d _) (okS _ (fun es e => by cases e) (fun es e => by cases e)) hb5
  | k + 5, hk => omega
/-- rows of turns of things -/
def RowsOk (rows : List Row) : Prop := 2 ≤ rows.length ∧ rows.length ≤ 4 ∧ ∀ r ∈ rows, r ≠ [] ∧ r.length ≤ 8 ∧ ∀ t ∈ r, t.length ≤ 6 ∧ ∀ d ∈ t, d ∈ thS
theorem frzs_row : ∀ r : Row, frzs (r.map fun t => OV.n .lst (t.map .d)) = some (r.map .list)
  | [] => by simp
  | t :: r => by rw [List.map_cons, frzs_cons, frz_lst, frzs_row r]; rfl
theorem frz_row (r : Row) : frz (.n .lst (r.map fun t => OV.n .lst (t.map .d))) = some (rowD r) := by
  rw [frz_l, frzs_row]; rfl
def C_rows : AC := fun xs R => ∃ (c : Nat) (ys : List OV), xs = [.n .lst ys] ∧ Box c ys ∧ c < 10000000000 ∧ ∀ (rows : List Row) (z : OV) (ys' : List OV), frz z = some (.list (rows.map rowD)) → RowsOk rows → Box (c + 1000) ys' → R z [.n .lst ys']
theorem p_rows : ∀ xs R, C_rows xs R → xs.length = 1 ∧ t_rows C_take C_thing (retD [true] xs R) (beg 8 xs) := by
  rintro xs R ⟨c, ys, rfl, hb, hc, q⟩
  refine ⟨rfl, ?_⟩
  unfold t_rows
  have sl := sl_eq
  refine aSeq_h ?_
  simp_arith []
  refine ⟨by omega, hid_i (aSeq_h ?_)⟩
  simp_arith []
  refine ⟨c, ys, 3, rfl, hb, by omega, by decide, by decide, fun n ys1 n0 n1 hb1 => ⟨rfl, ?_⟩⟩
  simp_arith []
  refine ⟨by omega, ?_⟩
  refine for_run ((List.range (2 + n).toNat).map fun (k : Nat) => PyData.int k) (fun done e => ∃ (rows : List Row) (ys' : List OV) (u2 u3 u4 u5 u6 u7 : Option OV), rows.length = done.length ∧ Box (c + 1 + 200 * done.length) ys' ∧ e = [some (.n .lst ys'), some (.n .lst ((rows.map rowD).map .d)), u2, u3, u4, u5, u6, u7] ∧ ∀ r ∈ rows, r ≠ [] ∧ r.length ≤ 8 ∧ ∀ t ∈ r, t.length ≤ 6 ∧ ∀ d ∈ t, d ∈ thS) ?_ ?_ _ [] _ rfl ⟨[], ys1, _, _, _, _, _, _, rfl, hb1, rfl, by simp⟩
  · rintro done d rest e hd ⟨rows, ys', u2, u3, u4, u5, u6, u7, lr, hb2, rfl, hok⟩ K2 hK
    have ld : done.length < 4 := by
      have := congrArg List.length hd
      simp at this
      omega
    simp_arith []
    refine aSeq_h ?_
    simp_arith []
    refine ⟨by omega, _, ys', 3, rfl, hb2, by omega, by decide, by decide, fun i ys2 i0 i1 hb3 => ⟨rfl, ?_⟩⟩
    obtain ⟨m, em, hm⟩ : ∃ m : Int, atI [OV.d (.int 2), OV.d (.int 3), OV.d (.int 8)] i = some (.d (.int m)) ∧ 0 < m ∧ m ≤ 8 := by
      have : i = 0 ∨ i = 1 ∨ i = 2 := by omega
      rcases this with rfl | rfl | rfl
      · exact ⟨2, rfl, by omega, by omega⟩
      · exact ⟨3, rfl, by omega, by omega⟩
      · exact ⟨8, rfl, by omega, by omega⟩
    simp_arith [em]
    refine ⟨_, ys2, m, rfl, hb3, by omega, hm.1, by omega, fun g ys3 g0 g1 hb4 => ⟨rfl, ?_⟩⟩
    simp_arith []
    refine hid_i (aSeq_h ?_)
    simp_arith []
    refine ⟨Nat.zero_le _, hid_i (aSeq_h ?_)⟩
    simp_arith []
    refine ⟨by omega, ?_⟩
    have hb5 : Box (c + 1 + 200 * done.length + 2 + 16 * 0) ys3 := hb4
    refine for_run ((List.range (1 + g).toNat).map fun (k : Nat) => PyData.int k) (fun done2 e => ∃ (r : Row) (y4 : List OV) (u5 u6 u7 : Option OV), r.length = done2.length ∧ Box (c + 1 + 200 * done.length + 2 + 16 * done2.length) y4 ∧ e = [some (.n .lst y4), some (.n .lst ((rows.map rowD).map .d)), some (.d d), some (.d (.int (1 + g))), some (.n .lst (r.map fun t => .n .lst (t.map .d))), u5, u6, u7] ∧ ∀ t ∈ r, t.length ≤ 6 ∧ ∀ d ∈ t, d ∈ thS) ?_ ?_ _ [] _ rfl ⟨[], ys3, _, _, _, rfl, hb5, rfl, by simp⟩
    · rintro done2 d2 rest2 e hd2 ⟨r, y4, u5, u6, u7, lr2, hb6, rfl, hok2⟩ K3 hK3
      have ld2 : done2.length < 8 := by
        have := congrArg List.length hd2
        simp at this
        omega
      simp_arith []
      refine aSeq_h ?_
      simp_arith []
      refine ⟨by omega, _, y4, 3, rfl, hb6, by omega, by decide, by decide, fun i ys5 i0 i1 hb7 => ⟨rfl, ?_⟩⟩
      obtain ⟨m2, em2, hm2⟩ : ∃ m : Int, atI [OV.d (.int 2), OV.d (.int 3), OV.d (.int 7)] i = some (.d (.int m)) ∧ 0 < m ∧ m ≤ 7 := by
        have : i = 0 ∨ i = 1 ∨ i = 2 := by omega
        rcases this with rfl | rfl | rfl
        · exact ⟨2, rfl, by omega, by omega⟩
        · exact ⟨3, rfl, by omega, by omega⟩
        · exact ⟨7, rfl, by omega, by omega⟩
      simp_arith [em2]
      refine ⟨_, ys5, m2, rfl, hb7, by omega, hm2.1, by omega, fun p ys6 p0 p1 hb8 => ⟨rfl, ?_⟩⟩
      simp_arith []
      refine hid_i ?_
      simp_arith []
      refine ⟨by omega, ?_⟩
      have hb9 : Box (c + 1 + 200 * done.length + 2 + 16 * done2.length + 2 + 2 * 0) ys6 := hb8
      refine lc_run ((List.range p.toNat).map fun (k : Nat) => PyData.int k) (fun done3 acc e => ∃ (t : List PyData) (y5 : List OV), acc = t.map .d ∧ t.length = done3.length ∧ Box (c + 1 + 200 * done.length + 2 + 16 * done2.length + 2 + 2 * done3.length) y5 ∧ (∀ x ∈ t, x ∈ thS) ∧ e = [some (.n .lst y5), some (.n .lst ((rows.map rowD).map .d)), some (.d d), some (.d (.int (1 + g))), some (.n .lst (r.map fun t => .n .lst (t.map .d))), some (.d d2), some (.d (.int p)), none]) ?_ ?_ _ [] _ _ rfl ⟨[], ys6, rfl, rfl, hb9, by simp, rfl⟩
      · rintro done3 d3 rest3 acc e hd3 ⟨t, y5, rfl, lt, hb10, ht, rfl⟩ K4 hK4
        have ld3 : done3.length < 7 := by
          have := congrArg List.length hd3
          simp at this
          omega
        simp_arith []
        refine ⟨_, y5, rfl, hb10, by omega, fun x y6 hx hb11 => ⟨rfl, ?_⟩⟩
        simp_arith []
        refine ⟨by rw [List.length_map]; omega, hK4 _ _ ⟨t ++ [x], y6, by rw [List.map_append]; rfl, by rw [List.length_append, List.length_append, lt]; rfl, hb11.mono (by rw [List.length_append, List.length_singleton]; omega), fun z hz => ?_, rfl⟩⟩
        rcases List.mem_append.mp hz with hz | hz
        · exact ht z hz
        · rw [List.mem_singleton.mp hz]; exact hx
      · rintro acc e ⟨t, y5, rfl, lt, hb10, ht, rfl⟩
        have ll : ((List.range p.toNat).map fun (k : Nat) => PyData.int k).length = p.toNat := by simp
        rw [ll] at lt hb10
        simp_arith []
        refine ⟨by rw [List.length_map]; omega, hK3 _ ⟨r ++ [t], y5, _, _, _, by rw [List.length_append, List.length_append, lr2]; rfl, hb10.mono (by rw [List.length_append, List.length_singleton]; omega), by rw [List.map_append]; rfl, fun x hx => ?_⟩⟩
        rcases List.mem_append.mp hx with hx | hx
        · exact hok2 x hx
        · rw [List.mem_singleton.mp hx]; exact ⟨by omega, ht⟩
    · rintro e ⟨r, y4, u5, u6, u7, lr2, hb6, rfl, hok2⟩
      have ll : ((List.range (1 + g).toNat).map fun (k : Nat) => PyData.int k).length = (1 + g).toNat := by simp
      rw [ll] at lr2 hb6
      simp_arith []
      refine hid_i ?_
      simp only [↓e_aDrop, ↓e_aMt, ↓e_aCons]
      refine ⟨trivial, ?_⟩
      refine nm_frz rfl (frz_row r) ?_
      simp_arith []
      refine ⟨by rw [List.length_map, List.length_map]; omega, hK _ ⟨rows ++ [r], y4, _, _, _, _, _, _, by rw [List.length_append, List.length_append, lr]; rfl, hb6.mono (by rw [List.length_append, List.length_singleton]; omega), by rw [List.map_append, List.map_append]; rfl, fun x hx => ?_⟩⟩
      rcases List.mem_append.mp hx with hx | hx
      · exact hok x hx
      · rw [List.mem_singleton.mp hx]
        exact ⟨fun e => by rw [e] at lr2; simp at lr2; omega, by omega, hok2⟩
  · rintro e ⟨rows, ys', u2, u3, u4, u5, u6, u7, lr, hb2, rfl, hok⟩
    simp_arith []
    refine hid_i ?_
    simp_arith []
    have ll : ((List.range (2 + n).toNat).map fun (k : Nat) => PyData.int k).length = (2 + n).toNat := by simp
    rw [ll] at lr hb2
    exact q rows _ ys' (frz_lst _) ⟨by omega, by omega, hok⟩ (hb2.mono (by omega))
end K49

/-! woven, looked at; all right -/
namespace K49
open PySem L2 Grd Ow PyProof.Rows
def flF (rows : List Row) : List (List PyData) := rows.map fun r => r.flatten.take 3
def sgF (fl : List (List PyData)) : List Row := (fl.filter fun t => !t.isEmpty).map fun t => t.map fun x => [x]
theorem wv_mem : ∀ {lf : List Int} {g : List Row} {fd ds : List PyData}, wv lf g fd = some ds → ∀ x ∈ ds, x ∈ fd ∨ ∃ r ∈ g, ∃ t ∈ r, x ∈ t
  | [], g, fd, ds, h, x, hx => by
    unfold wv at h
    split at h
    · cases h; exact .inl hx
    · cases h
  | k :: ks, g, fd, ds, h, x, hx => by
    by_cases hg : g.isEmpty = true
    · unfold wv at h
      rw [if_pos hg] at h
      cases h; exact .inl hx
    rw [wv_cons (by simpa using hg)] at h
    generalize (k % (g.length : Int)).toNat = a at h
    have hin : ∀ t, t ∈ g.getD a [] → ∃ r ∈ g, t ∈ r := fun t ht => by
      rw [List.getD_eq_getElem?_getD] at ht
      cases e : g[a]? with
      | none => rw [e] at ht; cases ht
      | some r => rw [e] at ht; exact ⟨r, List.mem_of_getElem? e, ht⟩
    rcases wv_mem h x hx with h1 | ⟨r, hr, t, ht, h1⟩
    · rcases List.mem_append.mp h1 with h1 | h1
      · exact .inl h1
      · cases e : g.getD a [] with
        | nil => rw [e] at h1; cases h1
        | cons t ts =>
          rw [e] at h1
          obtain ⟨r, hr, ht⟩ := hin t (by rw [e]; exact List.mem_cons_self)
          exact .inr ⟨r, hr, t, ht, h1⟩
    · unfold wstep at hr
      have hr1 := (List.mem_filter.mp hr).1
      rcases List.mem_or_eq_of_mem_set hr1 with hr1 | rfl
      · exact .inr ⟨r, hr1, t, ht, h1⟩
      · obtain ⟨r, hr, ht'⟩ := hin t (List.mem_of_mem_tail ht)
        exact .inr ⟨r, hr, t, ht', h1⟩
theorem wv_len : ∀ {lf : List Int} {g : List Row} {fd ds : List PyData}, wv lf g fd = some ds → ds.length ≤ fd.length + tot g
  | [], g, fd, ds, h => by
    unfold wv at h
    split at h
    · cases h; omega
    · cases h
  | k :: ks, g, fd, ds, h => by
    by_cases hg : g.isEmpty = true
    · unfold wv at h
      rw [if_pos hg] at h
      cases h; omega
    rw [wv_cons (by simpa using hg)] at h
    generalize (k % (g.length : Int)).toNat = a at h
    have ih := wv_len h
    have g1 : ∀ l : List Row, tot (l.filter fun r => !r.isEmpty) ≤ tot l := by
      intro l
      induction l with
      | nil => exact Nat.le_refl _
      | cons y l ih =>
        rw [List.filter_cons]
        unfold tot at *
        split
        · simp only [List.map_cons, List.sum_cons]; omega
        · simp only [List.map_cons, List.sum_cons]; omega
    have g2 : ∀ (g : List Row) (a : Nat), tot (g.set a (g.getD a []).tail) + ((g.getD a []).headD []).length ≤ tot g := by
      intro g
      induction g with
      | nil => intro a; simp [tot]
      | cons y g ih =>
        intro a
        unfold tot at *
        cases a with
        | zero =>
          cases y with
          | nil => simp
          | cons t ts => simp; omega
        | succ a =>
          have := ih a
          simp only [List.set_cons_succ, List.map_cons, List.sum_cons, List.getD_cons_succ]; omega
    have h1 := g1 (g.set a (g.getD a []).tail)
    have h2 := g2 g a
    unfold wstep at ih
    rw [List.length_append] at ih
    omega
theorem flat_len : ∀ {r : Row}, (∀ t ∈ r, t.length ≤ 6) → r.flatten.length ≤ 6 * r.length
  | [], _ => by simp
  | t :: r, h => by
    have h1 := h t List.mem_cons_self
    have h2 := flat_len fun x hx => h x (List.mem_cons_of_mem _ hx)
    rw [List.flatten_cons, List.length_append, List.length_cons]
    omega
theorem th_wd {x : PyData} (h : x ∈ thS) : Wd 10 x := by
  unfold thS at h
  simp only [List.mem_cons, List.not_mem_nil, or_false] at h
  rcases h with rfl | rfl | rfl | rfl | rfl | rfl | rfl <;> exact ⟨by decide +kernel, by decide +kernel⟩
theorem fm_one (t : List PyData) : t.filterMap (fun d => some (OV.n .lst [OV.d d])) = (t.map fun x => [x]).map fun u => OV.n .lst (u.map .d) := by
  rw [List.map_map, ← List.filterMap_eq_map]; rfl
theorem el_sh {x : PyData} (h : x ∈ elS) : Shw x := by
  unfold elS thS odS at h
  simp only [List.cons_append, List.nil_append, List.mem_cons, List.not_mem_nil, or_false] at h
  rcases h with rfl | rfl | rfl | rfl | rfl | rfl | rfl | rfl | rfl | rfl | rfl | rfl | rfl | rfl | rfl | rfl | rfl <;> exact ⟨by decide +kernel, by decide +kernel, by decide +kernel⟩
theorem one_sum : ∀ t : List PyData, ((t.map fun x => [x]).map (·.length)).sum = t.length
  | [] => rfl
  | x :: t => by rw [List.map_cons, List.map_cons, List.sum_cons, one_sum t, List.length_cons]; show 1 + t.length = t.length + 1; omega
theorem take_at {α : Type} {l : List α} {k : Nat} {x : α} (h : l[k]? = some x) : l.take (k + 1) = l.take k ++ [x] := by
  rw [List.take_add_one, h]; rfl
def C_woven_right : AC := fun xs R => ∃ (c : Nat) (ys : List OV) (rows : List Row), xs = [.n .lst ys, .d (.list (rows.map rowD))] ∧ Box c ys ∧ c < 1000000000 ∧ RowsOk rows ∧ ∀ ys', Box (c + 1000) ys' → R (.d (.bool true)) [.n .lst ys', .d (.list (rows.map rowD))]
def bnd : Nat → Nat
  | 0 => 12
  | 1 => 49
  | _ => 197
theorem p_woven_right : ∀ xs R, C_woven_right xs R → xs.length = 2 ∧ t_woven_right C_woven_by C_take (fixC [false, true] C_otherwise) (C_same 1) (fixC [true, true] C_is_woven) C_is_weaving (retD [true, true] xs R) (beg 11 xs) := by
  rintro xs R ⟨c, ys, rows, rfl, hb, hc, ⟨k2, k4, hok⟩, q⟩
  refine ⟨rfl, ?_⟩
  unfold t_woven_right
  have sl := sl_eq
  refine aSeq_h ?_
  simp_arith []
  refine ⟨by omega, hid_i (aSeq_h ?_)⟩
  simp_arith [sit]
  refine for_run (rows.map rowD) (fun done e => ∃ (u3 u4 u5 : Option OV), e = [some (.n .lst ys), some (.d (.list (rows.map rowD))), some (.n .lst ((flF (rows.take done.length)).map fun t => .n .lst (t.map .d))), u3, u4, u5, none, none, none, none, none]) ?_ ?_ _ [] _ rfl ⟨none, none, none, rfl⟩
  · rintro done d rest e hd ⟨u3, u4, u5, rfl⟩ K2 hK
    have h0 := idx_of hd
    rw [List.getElem?_map] at h0
    obtain ⟨r, hr, rfl⟩ := Option.map_eq_some_iff.mp h0
    have ld : done.length < rows.length := (List.getElem?_eq_some_iff.mp hr).1
    obtain ⟨_, r8, rt⟩ := hok r (List.mem_of_getElem? hr)
    have hfl : flF (rows.take (done.length + 1)) = flF (rows.take done.length) ++ [r.flatten.take 3] := by
      unfold flF
      rw [take_at hr, List.map_append]; rfl
    rw [List.length_append, List.length_singleton, hfl] at hK
    simp_arith []
    refine aSeq_h ?_
    simp_arith []
    refine ⟨by omega, hid_i (aSeq_h ?_)⟩
    unfold rowD
    simp_arith [sit]
    refine for_run (r.map .list) (fun done2 e => ∃ (u5 : Option OV), e = [some (.n .lst ys), some (.d (.list (rows.map rowD))), some (.n .lst ((flF (rows.take done.length)).map fun t => .n .lst (t.map .d))), some (.d (rowD r)), some (.n .lst ((r.take done2.length).flatten.map .d)), u5, none, none, none, none, none]) ?_ ?_ _ [] _ rfl ⟨_, rfl⟩
    · rintro done2 d2 rest2 e hd2 ⟨u5, rfl⟩ K3 hK3
      have h1 := idx_of hd2
      rw [List.getElem?_map] at h1
      obtain ⟨t, ht, rfl⟩ := Option.map_eq_some_iff.mp h1
      rw [List.length_append, List.length_singleton, take_at ht, List.flatten_append] at hK3
      have l1 := flat_len (r := r.take done2.length) fun x hx => (rt x (List.mem_of_mem_take hx)).1
      have l2 := (rt t (List.mem_of_getElem? ht)).1
      have l3 : (r.take done2.length).length ≤ 8 := by rw [List.length_take]; omega
      simp_arith []
      refine ⟨by rw [List.length_map, List.length_map]; omega, hK3 _ ⟨some (.d (.list t)), ?_⟩⟩
      rw [← List.map_append, List.flatten_cons, List.flatten_nil, List.append_nil]
    · rintro e ⟨u5, rfl⟩
      rw [List.length_map, List.take_length]
      simp_arith []
      refine hid_i ?_
      simp_arith []
      refine ⟨by unfold flF; rw [List.length_map, List.length_map, List.length_take]; omega, ?_⟩
      rw [show (flF (rows.take done.length)).map (fun t => OV.n .lst (t.map .d)) ++ [OV.n .lst ((r.flatten.take 3).map .d)] = (flF (rows.take done.length) ++ [r.flatten.take 3]).map (fun t => OV.n .lst (t.map .d)) by rw [List.map_append]; rfl]
      exact hK _ ⟨_, _, _, rfl⟩
  · rintro e ⟨u3, u4, u5, rfl⟩
    rw [List.length_map, List.take_length]
    simp_arith []
    refine hid_i (aSeq_h ?_)
    simp_arith []
    refine ⟨by omega, hid_i (aSeq_h ?_)⟩
    simp_arith []
    rw [show frzs ((flF rows).map fun t => OV.n .lst (t.map .d)) = some ((flF rows).map .list) from frzs_row (flF rows)]
    generalize efl : flF rows = fl
    have fl4 : fl.length ≤ 4 := by rw [← efl]; unfold flF; rw [List.length_map]; exact k4
    have flt : ∀ t ∈ fl, t.length ≤ 3 ∧ ∀ x ∈ t, x ∈ thS := fun t ht => by
      rw [← efl] at ht
      unfold flF at ht
      obtain ⟨r, hr, rfl⟩ := List.mem_map.mp ht
      refine ⟨by rw [List.length_take]; omega, fun x hx => ?_⟩
      obtain ⟨t', ht', hx'⟩ := List.mem_flatten.mp (List.mem_of_mem_take hx)
      exact ((hok r hr).2.2 t' ht').2 x hx'
    simp_arith [sit]
    refine for_run (fl.map .list) (fun done e => ∃ (u3 u4 u5 : Option OV), e = [some (.n .lst ys), some (.d (.list (rows.map rowD))), some (.d (.list (fl.map .list))), u3, u4, u5, some (.n .lst (((sgF (fl.take done.length)).map rowD).map .d)), none, none, none, none]) ?_ ?_ _ [] _ rfl ⟨_, _, _, rfl⟩
    · rintro done d rest e hd ⟨u3, u4, u5, rfl⟩ K2 hK
      have h0 := idx_of hd
      rw [List.getElem?_map] at h0
      obtain ⟨t, ht, rfl⟩ := Option.map_eq_some_iff.mp h0
      obtain ⟨t3, tt⟩ := flt t (List.mem_of_getElem? ht)
      have hsg : sgF (fl.take (done.length + 1)) = sgF (fl.take done.length) ++ (if t.isEmpty = true then [] else [t.map fun x => [x]]) := by
        unfold sgF
        rw [take_at ht, List.filter_append, List.map_append]
        congr 1
        cases t <;> rfl
      rw [List.length_append, List.length_singleton, hsg] at hK
      have lsg : (sgF (fl.take done.length)).length ≤ 4 := by
        unfold sgF
        rw [List.length_map]
        have := List.length_filter_le (fun t : List PyData => !t.isEmpty) (fl.take done.length)
        rw [List.length_take] at this
        omega
      generalize sgF (fl.take done.length) = sg at hK lsg
      simp_arith [sit]
      refine lc_pure (fun d => some (.n .lst [.d d])) (fun d hd lim K hlim hk => ?_) (by omega) ?_
      · simp_arith []
        exact ⟨by omega, hlim, hk⟩
      rw [fm_one]
      have fr := frz_row (t.map fun x => [x])
      generalize OV.n .lst ((t.map fun x => [x]).map fun u => OV.n .lst (u.map .d)) = X at fr ⊢
      simp_arith [fr, eqv_nil]
      refine ⟨by omega, by omega, .inr ⟨(Wd.list fun x hx => th_wd (tt x hx)).shaped (by decide), by decide⟩, ?_⟩
      cases t with
      | nil =>
        rw [if_pos (show ([] : List PyData).isEmpty = true from rfl), List.append_nil] at hK
        refine ⟨⟨by show (-2 ^ 63 : Int) ≤ 0; decide, by show (0 : Int) < 2 ^ 63; decide, by show 0 ≤ sizeLine; omega⟩, by rw [List.length_map, List.length_map]; show sg.length + 0 ≤ sizeLine; omega, ?_⟩
        show K2 [_, _, _, _, _, _, some (OV.n .lst (((sg.map rowD).map .d) ++ [])), _, _, _, _]
        rw [List.append_nil]
        exact hK _ ⟨_, _, _, rfl⟩
      | cons x t' =>
        rw [if_neg (show ¬ (x :: t').isEmpty = true by simp)] at hK
        refine ⟨⟨by show (-2 ^ 63 : Int) ≤ 1; decide, by show (1 : Int) < 2 ^ 63; decide, by show 1 ≤ sizeLine; omega⟩, by rw [List.length_map, List.length_map]; show sg.length + 1 ≤ sizeLine; omega, ?_⟩
        show K2 [_, _, _, _, _, _, some (OV.n .lst (((sg.map rowD).map .d) ++ [rowD ((x :: t').map fun x => [x])].map .d)), _, _, _, _]
        rw [← List.map_append, show sg.map rowD ++ [rowD ((x :: t').map fun x => [x])] = (sg ++ [(x :: t').map fun x => [x]]).map rowD by rw [List.map_append]; rfl]
        exact hK _ ⟨_, _, _, rfl⟩
    · rintro e ⟨u3, u4, u5, rfl⟩
      rw [List.length_map, List.take_length]
      have sgok : ∀ r ∈ sgF fl, r ≠ [] ∧ ∀ t ∈ r, t.length = 1 ∧ ∀ x ∈ t, x ∈ thS := fun r hr => by
        unfold sgF at hr
        obtain ⟨t, ht, rfl⟩ := List.mem_map.mp hr
        obtain ⟨ht1, ht2⟩ := List.mem_filter.mp ht
        refine ⟨fun e => ?_, fun u hu => ?_⟩
        · rw [List.map_eq_nil_iff] at e
          rw [e] at ht2
          cases ht2
        · obtain ⟨x, hx, rfl⟩ := List.mem_map.mp hu
          exact ⟨rfl, fun y hy => by rw [List.mem_singleton.mp hy]; exact (flt t ht1).2 x hx⟩
      have sgtot : tot (sgF fl) ≤ 12 := by
        have g : ∀ l : List (List PyData), (∀ t ∈ l, t.length ≤ 3) → tot (sgF l) ≤ 3 * l.length := by
          intro l
          induction l with
          | nil => intro _; exact Nat.le_refl _
          | cons t l ih =>
            intro h
            have h1 := h t List.mem_cons_self
            have h2 := ih fun x hx => h x (List.mem_cons_of_mem _ hx)
            have h3 := one_sum t
            unfold sgF tot at *
            rw [List.filter_cons]
            split
            · rw [List.map_cons, List.map_cons, List.sum_cons, h3, List.length_cons]; omega
            · rw [List.length_cons]; omega
        have := g fl fun t ht => (flt t ht).1
        omega
      have sglen : (sgF fl).length ≤ 4 := by
        unfold sgF
        rw [List.length_map]
        have := List.length_filter_le (fun t : List PyData => !t.isEmpty) fl
        omega
      generalize sgF fl = sg at sgok sgtot sglen ⊢
      simp_arith []
      refine hid_i (aSeq_h ?_)
      simp_arith []
      refine ⟨by decide, ?_⟩
      refine lc_run ((List.range (12 : Int).toNat).map fun (k : Nat) => PyData.int k) (fun done acc e => ∃ (ps : List Int) (y' : List OV), acc = (ps.map .int).map .d ∧ ps.length = done.length ∧ Box (c + done.length) y' ∧ e = [some (.n .lst y'), some (.d (.list (rows.map rowD))), some (.d (.list (fl.map .list))), u3, u4, u5, some (.n .lst ((sg.map rowD).map .d)), none, none, none, none]) ?_ ?_ _ [] _ _ rfl ⟨[], ys, rfl, rfl, hb, rfl⟩
      · rintro done d rest acc e hd ⟨ps, y', rfl, lp, hb2, rfl⟩ K2 hK
        have ld : done.length < 12 := by
          have := congrArg List.length hd
          simp at this
          omega
        simp_arith []
        refine ⟨_, y', 4, rfl, hb2, by omega, by decide, by decide, fun r y2 r0 r1 hb3 => ⟨rfl, ?_⟩⟩
        simp_arith []
        exact ⟨by rw [List.length_map, List.length_map]; omega, hK _ _ ⟨ps ++ [r], y2, by rw [List.map_append, List.map_append]; rfl, by rw [List.length_append, List.length_append, lp]; rfl, hb3.mono (by rw [List.length_append, List.length_singleton]; omega), rfl⟩⟩
      · rintro acc e ⟨ps, y1, rfl, lp, hb1, rfl⟩
        have ll : ((List.range (12 : Int).toNat).map fun (k : Nat) => PyData.int k).length = 12 := by simp
        rw [ll] at lp hb1
        simp_arith []
        refine ⟨_, _, sg, ps, rfl, frz_lst _, frz_lst _, fun r hr => (sgok r hr).1, by omega, by omega, by omega, fun r hr t ht x hx => th_wd (((sgok r hr).2 t ht).2 x hx), fun u => ⟨rfl, ?_⟩⟩
        have hth : OkT 12 (wresD (wv ps sg [])) := by
          cases e : wv ps sg [] with
          | none => exact ⟨fun es h => (by cases h), fun kvs h => (by cases h)⟩
          | some ds =>
            refine .lst (fun x hx => ?_) ?_
            · rcases wv_mem e x hx with h | ⟨r, hr, t, ht, h⟩
              · cases h
              · exact th_el (((sgok r hr).2 t ht).2 x h)
            · have := wv_len e
              simp at this
              omega
        generalize wresD (wv ps sg []) = th at hth ⊢
        simp_arith []
        refine hid_i (aSeq_h ?_)
        simp_arith []
        refine ⟨by decide, ?_⟩
        have hb2 : Box (c + 12 + 20 * 0) y1 := hb1
        refine for_run ((List.range (10 : Int).toNat).map fun (k : Nat) => PyData.int k) (fun done e => ∃ (y2 : List OV) (u3 u4 u5 u8 u9 u10 : Option OV), Box (c + 12 + 20 * done.length) y2 ∧ e = [some (.n .lst y2), some (.d (.list (rows.map rowD))), some (.d (.list (fl.map .list))), u3, u4, u5, some (.d (.list (sg.map rowD))), some (.d th), u8, u9, u10]) ?_ ?_ _ [] _ rfl ⟨y1, _, _, _, _, _, _, hb2, rfl⟩
        · rintro done d rest e hd ⟨y2, u3, u4, u5, u8, u9, u10, hb3, rfl⟩ K2 hK
          have ld : done.length < 10 := by
            have := congrArg List.length hd
            simp at this
            omega
          simp_arith []
          refine aSeq_h ?_
          simp_arith []
          refine hid_i (aSeq_h ?_)
          simp_arith []
          refine ⟨_, y2, 3, rfl, hb3, by omega, by decide, by decide, fun r y3 r0 r1 hb4 => ⟨rfl, ?_⟩⟩
          simp_arith []
          refine ⟨by omega, ?_⟩
          have hb5 : Box (c + 12 + 20 * done.length + 1 + 6 * 0) y3 := hb4
          refine for_run ((List.range r.toNat).map fun (k : Nat) => PyData.int k) (fun done2 e => ∃ (x9 : OV) (d9 : PyData) (y4 : List OV) (u10 : Option OV), frz x9 = some d9 ∧ OkT (bnd done2.length) d9 ∧ Box (c + 12 + 20 * done.length + 1 + 6 * done2.length) y4 ∧ e = [some (.n .lst y4), some (.d (.list (rows.map rowD))), some (.d (.list (fl.map .list))), u3, u4, u5, some (.d (.list (sg.map rowD))), some (.d th), some (.d d), some x9, u10]) ?_ ?_ _ [] _ rfl ⟨_, th, y3, _, frz_d _, hth, hb5, rfl⟩
          · rintro done2 d2 rest2 e hd2 ⟨x9, d9, y4, u10, fx, ok9, hb6, rfl⟩ K3 hK3
            have ld2 : done2.length < 2 := by
              have := congrArg List.length hd2
              simp at this
              omega
            have ok2 : OkT (bnd (done2.length + 1)) d9 := ⟨fun es e => ⟨((ok9.1 es e).1), by
              have := (ok9.1 es e).2
              have h : done2.length = 0 ∨ done2.length = 1 := by omega
              rcases h with h | h <;> (rw [h] at this ⊢; simp only [bnd] at this ⊢; omega)⟩, ok9.2⟩
            have hK' : ∀ (x9 : OV) (d9 : PyData) (y4 : List OV) (u10 : Option OV), frz x9 = some d9 → OkT (bnd (done2.length + 1)) d9 → Box (c + 12 + 20 * done.length + 1 + 6 * (done2.length + 1)) y4 → K3 [some (.n .lst y4), some (.d (.list (rows.map rowD))), some (.d (.list (fl.map .list))), u3, u4, u5, some (.d (.list (sg.map rowD))), some (.d th), some (.d d), some x9, u10] := fun x9 d9 y4 u10 h1 h2 h3 => hK3 _ ⟨x9, d9, y4, u10, h1, by rw [List.length_append]; exact h2, by rw [List.length_append]; exact h3, rfl⟩
            simp only [tgSet_n, List.length_cons, List.length_nil, Nat.reduceAdd, Nat.reduceLT, if_true, reduceIte, List.set_cons_succ, List.set_cons_zero, ↓e_aAsg, ↓e_aIf, ↓e_aTst, ↓e_a1]
            refine nm_frz rfl fx ?_
            by_cases hL : ∃ es, d9 = .list es
            · obtain ⟨es, rfl⟩ := hL
              obtain ⟨h1, h2⟩ := ok9.1 es rfl
              have b49 : bnd done2.length ≤ 49 := by
                have h : done2.length = 0 ∨ done2.length = 1 := by omega
                rcases h with h | h <;> (rw [h]; decide)
              simp_arith []
              refine ⟨_, rfl, _, y4, es, rfl, hb6, by omega, h1, by omega, fun z d' y5 fz okz hb7 => ⟨rfl, ?_⟩⟩
              simp_arith []
              refine hK' z d' y5 _ fz ⟨fun es' e => ⟨(okz.1 es' e).1, ?_⟩, okz.2⟩ (hb7.mono (by omega))
              have := (okz.1 es' e).2
              have h : done2.length = 0 ∨ done2.length = 1 := by omega
              rcases h with h | h <;> (rw [h] at h2 ⊢; simp only [bnd] at h2 ⊢; omega)
            · have fin : K3 [some (.n .lst y4), some (.d (.list (rows.map rowD))), some (.d (.list (fl.map .list))), u3, u4, u5, some (.d (.list (sg.map rowD))), some (.d th), some (.d d), some (.d d9), some (.d d2)] := hK' _ d9 y4 _ (frz_d _) ok2 (hb6.mono (by omega))
              cases d9 with
              | list es => exact absurd ⟨_, rfl⟩ hL
              | dict kvs => exact absurd rfl (ok9.2 kvs)
              | none => simp_arith []; exact fin
              | bool b => simp_arith []; exact fin
              | int b => simp_arith []; exact fin
              | str b => simp_arith []; exact fin
              | tuple b => simp_arith []; exact fin
          · rintro e ⟨x9, d9, y4, u10, fx, ok9, hb6, rfl⟩
            have ll2 : ((List.range r.toNat).map fun (k : Nat) => PyData.int k).length = r.toNat := by simp
            rw [ll2] at hb6
            have fsum : (fl.map (·.length)).sum ≤ 12 := by
              have g : ∀ l : List (List PyData), (∀ t ∈ l, t.length ≤ 3) → (l.map (·.length)).sum ≤ 3 * l.length := by
                intro l
                induction l with
                | nil => intro _; exact Nat.le_refl _
                | cons t l ih =>
                  intro h
                  have h1 := h t List.mem_cons_self
                  have h2 := ih fun x hx => h x (List.mem_cons_of_mem _ hx)
                  rw [List.map_cons, List.sum_cons, List.length_cons]; omega
              have := g fl fun t ht => (flt t ht).1
              omega
            have fsh : ∀ t ∈ fl, ∀ x ∈ t, Shw x := fun t ht x hx => el_sh (th_el ((flt t ht).2 x hx))
            have dsh : ∀ es, d9 = .list es → ∀ x ∈ es, Shw x := fun es e x hx => el_sh ((ok9.1 es e).1 x hx)
            cases x9 with
            | h v => simp [frz] at fx
            | d d' =>
              simp_arith []
              refine hid_i (aIfS_i ?_)
              simp_arith []
              refine ⟨_, _, fl, d9, rfl, frz_d _, fx, fl4, fsum, fsh, dsh, rfl, ?_⟩
              simp_arith []
              refine ⟨[.d (.list (fl.map .list)), .d d9], by simp only [fixL, frz_d, fx, Option.bind_some, Option.map_some], fl, d9, rfl, fl4, fsum, fsh, dsh, ok9.2, rfl, ?_⟩
              simp_arith []
              refine ⟨_, _, .bool (isW fl d9), rfl, frz_d _, frz_d _, trivial, rfl, ?_⟩
              simp_arith [Bool.not_true]
              refine br_f rfl ?_
              simp_arith []
              exact hK _ ⟨y4, _, _, _, _, _, _, hb6.mono (by rw [List.length_append, List.length_singleton]; omega), rfl⟩
            | n s zs =>
              simp_arith []
              refine hid_i (aIfS_i ?_)
              simp_arith []
              refine ⟨_, _, fl, d9, rfl, frz_d _, fx, fl4, fsum, fsh, dsh, rfl, ?_⟩
              simp_arith []
              refine ⟨[.d (.list (fl.map .list)), .d d9], by simp only [fixL, frz_d, fx, Option.bind_some, Option.map_some], fl, d9, rfl, fl4, fsum, fsh, dsh, ok9.2, rfl, ?_⟩
              simp_arith []
              refine ⟨_, _, .bool (isW fl d9), rfl, frz_d _, frz_d _, trivial, rfl, ?_⟩
              simp_arith [Bool.not_true]
              refine br_f rfl ?_
              simp_arith []
              exact hK _ ⟨y4, _, _, _, _, _, _, hb6.mono (by rw [List.length_append, List.length_singleton]; omega), rfl⟩
        · rintro e ⟨y2, u3, u4, u5, u8, u9, u10, hb3, rfl⟩
          have ll10 : ((List.range (10 : Int).toNat).map fun (k : Nat) => PyData.int k).length = 10 := by simp
          rw [ll10] at hb3
          simp_arith []
          refine hid_i ?_
          simp_arith []
          have w1 : isW [] (.list []) = true := by decide +kernel
          have w2 : isW [[], []] (.list []) = true := by decide +kernel
          refine ⟨by omega, by omega, _, _, [], .list [], rfl, by simp, by simp, by decide, by decide, (fun r hr => by cases hr), (fun es e x hx => by cases e; cases hx), rfl, ?_⟩
          rw [w1]
          simp_arith []
          refine ⟨by omega, by omega, by omega, by omega, _, _, [[], []], .list [], rfl, by simp, by simp, by decide, by decide, (fun r hr x hx => by simp at hr; rw [hr] at hx; cases hx), (fun es e x hx => by cases e; cases hx), rfl, ?_⟩
          rw [w2]
          simp_arith []
          exact q _ (hb3.mono (by omega))
end K49

/-! all right -/
namespace K49
open PySem L2 Grd Ow PyProof.Rows
structure Fine (d : PyData) (w n : Nat) : Prop where
  sh : d.showable = true
  le : d.leavesShort 13 = true
  cl : d.canLay0 = true
  we : d.weight ≤ w
  de : d.depth ≤ n
structure FineA (ds : List PyData) (w n : Nat) : Prop where
  sh : PyData.showableAll ds = true
  le : PyData.leavesShortAll 13 ds = true
  cl : PyData.canLayAll0 ds = true
  we : PyData.weightAll ds ≤ w
  de : PyData.depthAll ds ≤ n
theorem Fine.mono {d : PyData} {w n v m : Nat} (h : Fine d w n) (a : w ≤ v) (b : n ≤ m) : Fine d v m := ⟨h.sh, h.le, h.cl, Nat.le_trans h.we a, Nat.le_trans h.de b⟩
theorem FineA.mono {d : List PyData} {w n v m : Nat} (h : FineA d w n) (a : w ≤ v) (b : n ≤ m) : FineA d v m := ⟨h.sh, h.le, h.cl, Nat.le_trans h.we a, Nat.le_trans h.de b⟩
theorem fine_nil {n : Nat} : FineA [] 0 n := ⟨by simp only [PyData.showableAll], by simp only [PyData.leavesShortAll], by simp only [PyData.canLayAll0], by simp only [PyData.weightAll]; omega, by simp only [PyData.depthAll]; omega⟩
theorem fine_cons {d : PyData} {ds : List PyData} {w v n : Nat} (h : Fine d w n) (k : FineA ds v n) : FineA (d :: ds) (w + 1 + v) n := by
  have a := h.we
  have b := k.we
  have a' := h.de
  have b' := k.de
  refine ⟨by simp only [PyData.showableAll, h.sh, k.sh, Bool.and_self], by simp only [PyData.leavesShortAll, h.le, k.le, Bool.and_self], by simp only [PyData.canLayAll0, h.cl, k.cl, Bool.and_self], by simp only [PyData.weightAll]; omega, by simp only [PyData.depthAll]; omega⟩
theorem fine_lst {ds : List PyData} {w n : Nat} (k : FineA ds w n) : Fine (.list ds) w (n + 1) :=
  ⟨by simp only [PyData.showable]; exact k.sh, by simp only [PyData.leavesShort]; exact k.le, by simp only [PyData.canLay0]; exact k.cl, by simp only [PyData.weight]; exact k.we, by simp only [PyData.depth]; have := k.de; omega⟩
theorem fine_all {w n : Nat} : ∀ {ds : List PyData}, (∀ d ∈ ds, Fine d w n) → FineA ds ((w + 1) * ds.length) n
  | [], _ => fine_nil.mono (Nat.zero_le _) (Nat.le_refl _)
  | d :: ds, h => (fine_cons (h d List.mem_cons_self) (fine_all fun x hx => h x (List.mem_cons_of_mem _ hx))).mono (by rw [List.length_cons, Nat.mul_add]; omega) (Nat.le_refl _)
theorem th_fine {x : PyData} (h : x ∈ thS) : Fine x 40 3 := by
  unfold thS at h
  simp only [List.mem_cons, List.not_mem_nil, or_false] at h
  rcases h with rfl | rfl | rfl | rfl | rfl | rfl | rfl <;> exact ⟨by decide +kernel, by decide +kernel, by decide +kernel, by decide +kernel, by decide +kernel⟩
theorem rows_shw {rows : List Row} (h : RowsOk rows) : Shw (.list (rows.map rowD)) := by
  obtain ⟨_, k4, hok⟩ := h
  have f : Fine (.list (rows.map rowD)) 16000 6 := by
    refine (fine_lst (fine_all (w := 2200) (n := 5) fun d hd => ?_)).mono (by rw [List.length_map]; have := Nat.mul_le_mul_left (2200 + 1) k4; omega) (by omega)
    obtain ⟨r, hr, rfl⟩ := List.mem_map.mp hd
    obtain ⟨_, r8, rt⟩ := hok r hr
    refine (fine_lst (fine_all (w := 260) (n := 4) fun d hd => ?_)).mono (by rw [List.length_map]; have := Nat.mul_le_mul_left (260 + 1) r8; omega) (by omega)
    obtain ⟨t, ht, rfl⟩ := List.mem_map.mp hd
    obtain ⟨t6, tt⟩ := rt t ht
    exact (fine_lst (fine_all (w := 40) (n := 3) fun d hd => th_fine (tt d hd))).mono (by have := Nat.mul_le_mul_left (40 + 1) t6; omega) (by omega)
  exact ⟨f.sh, Nat.le_trans f.de (by decide), PyData.shown_fits (B := 13) (by decide) (by decide) f.le (Nat.le_trans f.we (by decide))⟩
theorem Pd.mono : ∀ {n m : Nat} {d : PyData}, Pd n d → n ≤ m → Pd m d
  | _, _, .none, _, _ => by simp [Pd]
  | _, _, .bool _, _, _ => by simp [Pd]
  | _, _, .int _, _, _ => by simp [Pd]
  | _, _, .str _, _, _ => by simp [Pd]
  | 0, _, .list _, h, _ => by simp [Pd] at h
  | 0, _, .tuple _, h, _ => by simp [Pd] at h
  | n + 1, m, .list xs, h, l => by
    obtain ⟨m, rfl⟩ : ∃ k, m = k + 1 := ⟨m - 1, by omega⟩
    exact ⟨h.1, fun x hx => Pd.mono (h.2 x hx) (by omega)⟩
  | n + 1, m, .tuple xs, h, l => by
    obtain ⟨m, rfl⟩ : ∃ k, m = k + 1 := ⟨m - 1, by omega⟩
    exact ⟨h.1, fun x hx => Pd.mono (h.2 x hx) (by omega)⟩
  | 0, _, .dict _, h, _ => by simp [Pd] at h
  | n + 1, _, .dict _, h, _ => by simp [Pd] at h
theorem th_pd {x : PyData} (h : x ∈ thS) : Pd 3 x := by
  unfold thS at h
  simp only [List.mem_cons, List.not_mem_nil, or_false] at h
  rcases h with rfl | rfl | rfl | rfl | rfl | rfl | rfl <;> simp [Pd]
theorem rows_tot {rows : List Row} (h : RowsOk rows) : tot rows ≤ 1000 := by
  obtain ⟨_, k4, hok⟩ := h
  have g1 : ∀ r : Row, (∀ t ∈ r, t.length ≤ 6) → (r.map (·.length)).sum ≤ 6 * r.length := by
    intro r
    induction r with
    | nil => intro _; exact Nat.le_refl _
    | cons t r ih =>
      intro h
      have h1 := h t List.mem_cons_self
      have h2 := ih fun x hx => h x (List.mem_cons_of_mem _ hx)
      rw [List.map_cons, List.sum_cons, List.length_cons]; omega
  have g2 : ∀ l : List Row, (∀ r ∈ l, r.length ≤ 8 ∧ ∀ t ∈ r, t.length ≤ 6) → tot l ≤ 48 * l.length := by
    intro l
    induction l with
    | nil => intro _; exact Nat.le_refl _
    | cons r l ih =>
      intro h
      obtain ⟨h1, h1'⟩ := h r List.mem_cons_self
      have h2 := ih fun x hx => h x (List.mem_cons_of_mem _ hx)
      have h3 := g1 r h1'
      unfold tot at *
      rw [List.map_cons, List.sum_cons, List.length_cons]; omega
  have := g2 rows fun r hr => ⟨(hok r hr).2.1, fun t ht => ((hok r hr).2.2 t ht).1⟩
  omega
def C_right : AC := fun xs R => ∃ (c : Nat) (ys : List OV), xs = [.n .lst ys] ∧ Box c ys ∧ c < 1000 ∧ ∀ ys', R (.d (.bool true)) [.n .lst ys']
theorem p_right : ∀ xs R, C_right xs R → xs.length = 1 ∧ t_right C_rows C_take C_woven_by (C_same 6) C_weave (fixC [false, true] C_woven_right) (retD [true] xs R) (beg 11 xs) := by
  rintro xs R ⟨c, ys, rfl, hb, hc, q⟩
  refine ⟨rfl, ?_⟩
  unfold t_right
  have sl := sl_eq
  refine aSeq_h ?_
  simp_arith []
  refine ⟨c, ys, rfl, hb, by omega, fun rows z ys1 fz hok hb1 => ⟨rfl, ?_⟩⟩
  simp_arith []
  refine hid_i (aSeq_h ?_)
  simp only [↓e_aPar, ↓e_aCons, ↓e_aCB]
  refine nm_frz rfl fz ?_
  simp_arith [oRepr]
  refine ⟨rows_shw hok, ?_⟩
  simp only [sit]
  refine lc_pure lenF (fun d hd lim K hlim hk => ?_) (by rw [List.length_map]; have := hok.2.1; omega) ?_
  · obtain ⟨r, hr, rfl⟩ := List.mem_map.mp hd
    unfold rowD
    simp_arith []
    exact ⟨hlim, hk⟩
  have elen : (rows.map rowD).filterMap lenF = ((rows.map fun r => r.map PyData.list).map fun r => PyData.int (r.length : Int)).map OV.d := by
    rw [← lenF_map, List.map_map]; rfl
  rw [elen]
  simp_arith [oSum, lfz, ints_len]
  have hN : 0 ≤ ((rows.map fun r => r.map PyData.list).map fun r => (r.length : Int)).sum ∧ ((rows.map fun r => r.map PyData.list).map fun r => (r.length : Int)).sum ≤ 32 := by
    obtain ⟨_, k4, hk⟩ := hok
    have g : ∀ l : List Row, (∀ r ∈ l, r.length ≤ 8) → 0 ≤ ((l.map fun r => r.map PyData.list).map fun r => (r.length : Int)).sum ∧ ((l.map fun r => r.map PyData.list).map fun r => (r.length : Int)).sum ≤ 8 * (l.length : Int) := by
      intro l
      induction l with
      | nil => intro _; simp
      | cons r l ih =>
        intro h
        have h1 := h r List.mem_cons_self
        have h2 := ih fun x hx => h x (List.mem_cons_of_mem _ hx)
        simp only [List.map_cons, List.sum_cons, List.length_cons, List.length_map] at h2 ⊢
        omega
    have := g rows fun r hr => (hk r hr).2.1
    omega
  generalize ((rows.map fun r => r.map PyData.list).map fun r => (r.length : Int)).sum = N at hN ⊢
  have hb2 : Box (c + 1000 + 200 * 0) ys1 := hb1
  refine hid_i (aSeq_h ?_)
  simp_arith []
  refine ⟨by decide, ?_⟩
  refine for_run ((List.range (4 : Int).toNat).map fun (k : Nat) => PyData.int k) (fun done e => ∃ (y : List OV) (u4 u5 u6 u7 u8 u9 u10 : Option OV), Box (c + 1000 + 200 * done.length) y ∧ e = [some (.n .lst y), some (.d (.list (rows.map rowD))), some (.d (.str (PyData.list (rows.map rowD)).shown)), some (.d (.int N)), u4, u5, u6, u7, u8, u9, u10]) ?_ ?_ _ [] _ rfl ⟨ys1, _, _, _, _, _, _, _, hb2, rfl⟩
  · rintro done d rest e hd ⟨y, u4, u5, u6, u7, u8, u9, u10, hb3, rfl⟩ K2 hK
    have ld : done.length < 4 := by
      have := congrArg List.length hd
      simp at this
      omega
    simp_arith []
    refine aSeq_h ?_
    simp_arith []
    refine ⟨by omega, _, y, 5, rfl, hb3, by omega, by decide, by decide, fun i y2 i0 i1 hb4 => ⟨rfl, ?_⟩⟩
    obtain ⟨m, em, hm⟩ : ∃ m : Int, atI [OV.d (.int 0), OV.d (.int 0), OV.d (.int 1), OV.d (.int (-1)), OV.d (.int 5)] i = some (.d (.int m)) ∧ -1 ≤ m ∧ m ≤ 5 := by
      have : i = 0 ∨ i = 1 ∨ i = 2 ∨ i = 3 ∨ i = 4 := by omega
      rcases this with rfl | rfl | rfl | rfl | rfl
      · exact ⟨0, rfl, by omega, by omega⟩
      · exact ⟨0, rfl, by omega, by omega⟩
      · exact ⟨1, rfl, by omega, by omega⟩
      · exact ⟨-1, rfl, by omega, by omega⟩
      · exact ⟨5, rfl, by omega, by omega⟩
    simp_arith [em]
    have hM : 0 ≤ (if (if N + m < 40 then N + m else 40) > 0 then if N + m < 40 then N + m else 40 else 0) ∧ (if (if N + m < 40 then N + m else 40) > 0 then if N + m < 40 then N + m else 40 else 0) ≤ 40 := by
      split <;> split <;> omega
    generalize (if (if N + m < 40 then N + m else 40) > 0 then if N + m < 40 then N + m else 40 else 0) = M at hM ⊢
    refine hid_i (aSeq_h ?_)
    simp_arith []
    refine ⟨by omega, hid_i (aSeq_h ?_)⟩
    simp_arith []
    refine ⟨by omega, ?_⟩
    have hb5 : Box (c + 1000 + 200 * done.length + 1 + 4 * 0) y2 := hb4
    refine for_run ((List.range M.toNat).map fun (k : Nat) => PyData.int k) (fun done2 e => ∃ (ps : List Int) (y3 : List OV) (u7 : Option OV), ps.length = done2.length ∧ Box (c + 1000 + 200 * done.length + 1 + 4 * done2.length) y3 ∧ e = [some (.n .lst y3), some (.d (.list (rows.map rowD))), some (.d (.str (PyData.list (rows.map rowD)).shown)), some (.d (.int N)), some (.d d), some (.d (.int M)), some (.n .lst ((ps.map .int).map .d)), u7, u8, u9, u10]) ?_ ?_ _ [] _ rfl ⟨[], y2, _, rfl, hb5, rfl⟩
    · rintro done2 d2 rest2 e hd2 ⟨ps, y3, u7, lp, hb6, rfl⟩ K3 hK3
      have ld2 : done2.length < 40 := by
        have := congrArg List.length hd2
        simp at this
        omega
      simp_arith []
      refine ⟨_, y3, 4, rfl, hb6, by omega, by decide, by decide, fun v1 y4 v1a v1b hb7 => ⟨rfl, ?_⟩⟩
      simp_arith []
      refine ⟨_, y4, 997, rfl, hb7, by omega, by decide, by decide, fun v2 y5 v2a v2b hb8 => ⟨rfl, ?_⟩⟩
      simp_arith []
      refine ⟨_, y5, 9, rfl, hb8, by omega, by decide, by decide, fun v3 y6 v3a v3b hb9 => ⟨rfl, ?_⟩⟩
      simp_arith []
      refine ⟨by omega, _, y6, 3, rfl, hb9, by omega, by decide, by decide, fun i y7 i0 i1 hb10 => ⟨rfl, ?_⟩⟩
      obtain ⟨m2, em2⟩ : ∃ m : Int, atI [OV.d (.int v1), OV.d (.int v2), OV.d (.int v3)] i = some (.d (.int m)) := by
        have : i = 0 ∨ i = 1 ∨ i = 2 := by omega
        rcases this with rfl | rfl | rfl
        · exact ⟨v1, rfl⟩
        · exact ⟨v2, rfl⟩
        · exact ⟨v3, rfl⟩
      simp_arith [em2]
      refine ⟨by rw [List.length_map, List.length_map]; omega, ?_⟩
      exact hK3 _ ⟨ps ++ [m2], y7, _, by rw [List.length_append, List.length_append, lp]; rfl, hb10.mono (by rw [List.length_append, List.length_singleton]; omega), by rw [List.map_append, List.map_append]; rfl⟩
    · rintro e ⟨ps, y3, u7, lp, hb6, rfl⟩
      have ll : ((List.range M.toNat).map fun (k : Nat) => PyData.int k).length = M.toNat := by simp
      rw [ll] at lp hb6
      simp_arith []
      refine hid_i (aSeq_h ?_)
      simp_arith []
      have l40 : ps.length ≤ 40 := by omega
      have hne : ∀ r ∈ rows, r ≠ [] := fun r hr => (hok.2.2 r hr).1
      have hwd : ∀ r ∈ rows, ∀ t ∈ r, ∀ x ∈ t, Wd 10 x := fun r hr t ht x hx => th_wd (((hok.2.2 r hr).2.2 t ht).2 x hx)
      have htot : tot rows ≤ 1000 := rows_tot hok
      have hr4 : rows.length ≤ 1000 := by have := hok.2.1; omega
      refine ⟨_, _, rows, ps, rfl, frz_d _, frz_lst _, hne, htot, hr4, by omega, hwd, fun u => ⟨rfl, ?_⟩⟩
      simp_arith []
      refine hid_i (aSeq_h (aIfS_i ?_))
      simp_arith []
      refine ⟨_, _, rows, ps, rfl, frz_d _, frz_d _, hne, htot, hr4, by omega, rfl, ?_⟩
      simp_arith [oList]
      refine ⟨_, _, rows, ps, rfl, frz_lst _, frz_lst _, hne, htot, hr4, by omega, rfl, by omega, ?_⟩
      simp_arith []
      have hw : frz (wres (wv ps rows [])) = some (wresD (wv ps rows [])) := by
        cases wv ps rows [] with
        | none => exact frz_d _
        | some ds => exact frz_lst _
      have hpd : Pd 4 (wresD (wv ps rows [])) := by
        cases e : wv ps rows [] with
        | none => trivial
        | some ds =>
          refine ⟨?_, fun x hx => ?_⟩
          · have := wv_len e
            simp at this
            omega
          · rcases wv_mem e x hx with h | ⟨r, hr, t, ht, h⟩
            · cases h
            · exact th_pd (((hok.2.2 r hr).2.2 t ht).2 x h)
      have hfr : ∀ X : OV, frz X = some (wresD (wv ps rows [])) → frz (.n .lst [X, X]) = some (.list [wresD (wv ps rows []), wresD (wv ps rows [])]) := fun X h => by
        simp only [frz_l, frzs_cons, frzs_nil, h, Option.bind_some, Option.map_some]
      refine ⟨by omega, _, _, _, rfl, hfr _ hw, hfr _ (frz_d _), ⟨by simp, fun x hx => ?_⟩, rfl, ?_⟩
      · simp only [List.mem_cons, List.not_mem_nil, or_false] at hx
        rcases hx with rfl | rfl <;> exact hpd.mono (by decide)
      simp_arith [Bool.not_true]
      refine br_f rfl ?_
      simp_arith []
      refine hid_i (aIfS_i ?_)
      simp_arith []
      have hbK : Box (c + 1000 + 200 * (done ++ [d]).length) y3 := hb6.mono (by rw [List.length_append, List.length_singleton]; omega)
      cases e : wv ps rows [] with
      | none =>
        refine br_f rfl ?_
        simp_arith []
        exact hK _ ⟨y3, _, _, _, _, _, _, _, hbK, rfl⟩
      | some ds =>
        have lds : ds.length ≤ 1000 := by
          have := wv_len e
          simp at this
          omega
        refine br_t rfl (aSeq_h ?_)
        simp_arith []
        refine ⟨_, _, rows, ps, rfl, frz_d _, frz_d _, hne, htot, hr4, by omega, ?_⟩
        rw [e]
        refine ⟨rfl, ?_⟩
        have ew : wres (some ds) = .n .lst (ds.map .d) := rfl
        rw [ew]
        simp_arith []
        refine hid_i (aSeq_h ?_)
        simp_arith [mReverse]
        refine hid_i ?_
        simp_arith []
        refine ⟨by rw [List.length_reverse, List.length_map]; omega, ?_⟩
        exact hK _ ⟨y3, _, _, _, _, _, _, _, hbK, rfl⟩
  · rintro e ⟨y, u4, u5, u6, u7, u8, u9, u10, hb3, rfl⟩
    have ll : ((List.range (4 : Int).toNat).map fun (k : Nat) => PyData.int k).length = 4 := by simp
    rw [ll] at hb3
    simp_arith []
    refine hid_i ?_
    simp_arith [oRepr]
    refine ⟨_, rfl, _, y, rows, rfl, hb3, by omega, hok, fun ys' hb4 => ⟨rfl, ?_⟩⟩
    simp_arith [oRepr]
    refine ⟨rows_shw hok, .inl rfl, ?_⟩
    rw [show (PyData.str (PyData.list (rows.map rowD)).shown).eqv (.str (PyData.list (rows.map rowD)).shown) = true by simp [PyData.eqv]]
    simp_arith []
    refine ⟨by omega, by omega, _, _, [], [], rfl, by simp, by simp, (fun r hr => by cases hr), by decide, by decide, by decide, rfl, ?_⟩
    have e0 : wres (wv [] [] []) = .n .lst [] := rfl
    rw [e0]
    simp_arith [eqv_nil, List.isEmpty_nil]
    exact ⟨by omega, .inr ⟨by decide, by decide⟩, q _⟩
end K49

/-! boxes, folded cells, the law -/
namespace K49
open PySem L2 Grd
open Evl (Ex ex_t ex_l ex_rd)
section
variable {P : Program} {w : World} {K : PySem.W.Frag} {mg : Str → Option Value} {base : Heap}
theorem Fn.vac {CX : CXT} {k : Nat} {f : Addr} {fd : FuncData} {ps : List Str} {C : Ow.AC} (h : ∀ xs R, ¬ C xs R) : Fn P w K mg base CX k f fd ps (Ow.spA K C) :=
  ⟨fun vs H Q E ⟨A, F, xs, R, _, z, _⟩ => (h xs R z).elim, fun A outer s H args us vs Q E _ _ _ _ _ ⟨_, _, xs, R, _, z, _⟩ => (h xs R z).elim⟩
abbrev noC : Ow.AC := fun _ _ => False
theorem g_take (T : Txt w K mg) : Fn P w K mg base CX0 1 T.a_take T.d_take ["_law_box", "_law_many"] (Ow.spA K C_take) := k_take T 0 p_take
theorem g_one_of (T : Txt w K mg) : Fn P w K mg base CX0 2 T.a_one_of T.d_one_of ["_law_box", "_law_some"] (Ow.spA K C_one_of) := k_one_of T 1 (g_take T) (Nat.le_refl _) p_one_of
theorem g_same (T : Txt w K mg) : ∀ n : Nat, Fn P w K mg base CX0 (n + 1) T.a_same T.d_same ["_law_found", "_law_due"] (Ow.spA K (C_same n))
  | 0 => k_same T 0 (Fn.vac (k := 0) fun _ _ z => z) (by decide) (p_same (C' := noC) fun m e => by cases e)
  | n + 1 => k_same T (n + 1) (g_same T n) (Nat.le_refl _) (p_same fun m e => by cases e; rfl)
theorem g_thing (T : Txt w K mg) : Fn P w K mg base CX0 3 T.a_thing T.d_thing ["_law_box"] (Ow.spA K C_thing) := k_thing T 2 (g_one_of T) (by decide) (g_take T) (by decide) p_thing
theorem g_is_weaving (T : Txt w K mg) : Fn P w K mg base CX0 2 T.a_p_is_weaving T.d_p_is_weaving ["rows", "thing"] (Ow.spA K C_is_weaving) := ok_p_is_weaving T (k_p_texts_of T 0 p_p_texts_of)
theorem g_is_woven (T : Txt w K mg) : Fn P w K mg base CX0 2 T.a_is_woven T.d_is_woven ["_law_rows_here", "_law_thing_here"] (Ow.spA K C_is_woven) := k_is_woven T 1 (k_alike T 0 p_alike) (by decide) p_is_woven
theorem g_otherwise (T : Txt w K mg) : Fn P w K mg base CX0 4 T.a_otherwise T.d_otherwise ["_law_box", "_law_some"] (Ow.spA K C_otherwise) := k_otherwise T 3 (g_take T) (by decide) (g_thing T) (by decide) p_otherwise
theorem g_rows (T : Txt w K mg) : Fn P w K mg base CX0 4 T.a_rows T.d_rows ["_law_box"] (Ow.spA K C_rows) := k_rows T 3 (g_take T) (by decide) (g_thing T) (by decide) p_rows
theorem g_woven_right (T : Txt w K mg) : Fn P w K mg base CX0 5 T.a_woven_right T.d_woven_right ["_law_box", "_law_rows_here"] (Ow.spA K C_woven_right) :=
  k_woven_right T 4 (ok_woven_by T) (by decide) (g_take T) (by decide) (Ow.Fn.fixC [false, true] (g_otherwise T)) (by decide) (g_same T 1) (by decide) (Ow.Fn.fixC [true, true] (g_is_woven T)) (by decide) (g_is_weaving T) (by decide) p_woven_right
theorem g_right (T : Txt w K mg) : Fn P w K mg base CX0 8 T.a_right T.d_right ["_law_box"] (Ow.spA K C_right) :=
  k_right T 7 (g_rows T) (by decide) (g_take T) (by decide) (ok_woven_by T) (by decide) (g_same T 6) (by decide) (ok_p_weave T) (by decide) (Ow.Fn.fixC [false, true] (g_woven_right T)) (by decide) p_right
def Bx (H : Hp) (b : Addr) (c : Nat) : Prop := ∃ x y z : Int, H b = some (.lst [.int x, .int y, .int z]) ∧ 0 ≤ y ∧ y < 2305843010000000000 ∧ 0 ≤ z ∧ z ≤ (c : Int)
def sp_dip (K : PySem.W.Frag) : Sp := fun vs H Q _ => ∃ (a : Addr) (ns : List Int) (k : Int), vs = [.ref a, .int k] ∧ SqL K H a (ns.map V.int) ∧ 0 ≤ k ∧ k ≤ 100 ∧
  ∀ p H', H p = none → Ex H H' → Bx H' p 0 → Q (.ref p) H'
theorem dip_end {Q : VK} {H : Hp} {c k : Int} (k0 : 0 ≤ k) (k1 : k ≤ 100) (q : ∀ p H', H p = none → Ex H H' → Bx H' p 0 → Q (.ref p) H') (p : Addr) (hp : H p = none) (x : Int) :
    Q (.ref p) (upd H p (.lst [.int x, .int (c % 2305843009213693951 + 39373 * k + 17), .int 0])) := by
  have h0 : 0 ≤ c % 2305843009213693951 := Int.emod_nonneg _ (by decide)
  have h1 : c % 2305843009213693951 < 2305843009213693951 := Int.emod_lt_of_pos _ (by decide)
  exact q p _ hp (Ex.new hp) ⟨_, _, _, upd_same, by omega, by omega, by decide, by decide⟩
theorem b01 (b : Bool) : -(2 ^ 64) < (if b = true then 1 else 0 : Int) ∧ (if b = true then 1 else 0 : Int) < 2 ^ 64 := by cases b <;> decide
theorem ok_dip (T : Txt w K mg) : Fn P w K mg base CX0 1 T.a_dip T.d_dip ["_law_script", "_law_k"] (sp_dip K) := by
  refine Grd.mk T.F_dip scdip (fun vs H Q E h => ?_) (fun cdv A outer s H vs Q E gd hr h => ?_)
  · obtain ⟨a, ns, k, rfl, _⟩ := h
    rfl
  obtain ⟨a, ns, k, rfl, hS, k0, k1, q⟩ := h
  refine ⟨_, (pss_cons (ps_set (i := 2) scdip.nd rfl (Or.inl rfl) (pe_ifExp (pt_cmpR op_lt (pv 1) (pe_callB call_len_seq (by rfl) T.n_len PySem.boot_len (pa_cons (pv 0) pa_nil)) (nomark _)) (pe_ix ix_list (pv 0) (pv 1) (fun _ _ => rfl)) pe_int))
      (pss_one (ps_ret (pe_lst (pa_cons (pe_op op_mul (pe_callB call_abs (by rfl) T.n_abs (by decide +kernel) (pa_cons (pv 2) pa_nil)) (pe_callTy call_int1 (by rfl) T.n_int (by decide +kernel) (pa_cons (pe_cmpR op_ge (pe_callB call_abs (by rfl) T.n_abs (by decide +kernel) (pa_cons (pv 2) pa_nil)) (pe_op op_pow pe_int pe_int) (nomark _)) pa_nil))) (pa_cons (pe_op op_add (pe_op op_add (pe_op op_mod (pv 2) pe_int) (pe_op op_mul pe_int (pv 1))) pe_int) (pa_cons pe_int pa_nil))))))), ?_⟩
  have rest : ∀ c : Int, tRet (tLst (tCons (tOp (rI CMul fun i j => .int (i * j)) (tCB (fun xs H Q => ∃ i, xs = [.int i] ∧ Q (.int (if i < 0 then -i else i)) H) (tCons (tVar 2) tNil))
      (tCB (fun xs H Q => (∃ i, xs = [.int i] ∧ Q (.int i) H) ∨ ∃ k, xs = [.bl k] ∧ Q (.int (if k then 1 else 0)) H)
        (tCons (tOp (rI0 fun i j => .bl (decide (j ≤ i))) (tCB (fun xs H Q => ∃ i, xs = [.int i] ∧ Q (.int (if i < 0 then -i else i)) H) (tCons (tVar 2) tNil)) (tOp (rI CPow fun i j => .int (i ^ j.toNat)) (tC (.int 10)) (tC (.int 18)))) tNil)))
      (tCons (tOp (rI0 fun i j => .int (i + j)) (tOp (rI0 fun i j => .int (i + j)) (tOp (rI (fun _ j => 0 < j) fun i j => .int (i % j)) (tVar 2) (tC (.int 2305843009213693951)))
        (tOp (rI CMul fun i j => .int (i * j)) (tC (.int 39373)) (tVar 1))) (tC (.int 17))) (tCons (tC (.int 0)) tNil)))) { nx := fun _ H' => Q .non H', rt := Q }
      [some (.ref a), some (.int k), some (.int c)] H := by
    intro c
    refine ⟨_, rfl, _, rfl, _, rfl, _, rfl, _, _, rfl, rfl, ⟨by decide, by decide, by decide⟩, _, _, rfl, rfl, .inr ⟨_, rfl, _, _, rfl, rfl, .inr ?_, _, rfl, _, _, rfl, rfl, (by show (0 : Int) < 2305843009213693951; decide), _, rfl, _, _, rfl, rfl, .inl ⟨by decide, by decide⟩, _, _, rfl, rfl, _, _, rfl, rfl, (by show 3 ≤ sizeLine; decide), fun p hp => ?_⟩⟩
    · exact b01 _
    · exact dip_end k0 k1 q p hp _
  refine ⟨_, rfl, _, rfl, a, _, rfl, .inl hS, _, _, rfl, rfl, _, rfl, ?_⟩
  refine ite2 (fun t => ?_) (fun t => ?_)
  · have t' : k < ((ns.map V.int).length : Int) := of_decide_eq_true t
    rw [List.length_map] at t'
    have hk : k.toNat < ns.length := by omega
    have at_ : atI (ns.map V.int) k = some (.int ns[k.toNat]) := at_of (j := k.toNat) (by omega) (by rw [List.getElem?_map, List.getElem?_eq_getElem hk]; rfl)
    exact ⟨_, rfl, _, rfl, a, _, _, _, rfl, rfl, hS, at_, rest _⟩
  · exact rest 0

/-- the first numbers, the rest added on -/
def sp_folded (K : PySem.W.Frag) : Sp := fun vs H Q _ => ∃ (a : Addr) (ns : List Int) (n : Nat), vs = [.ref a, .int (n : Int)] ∧ SqL K H a (ns.map V.int) ∧ ns.length ≤ 63 ∧ 0 < n ∧ n ≤ 62 ∧
  ∀ p H' (ms : List Int), H p = none → Ex H H' → ms.length ≤ n → H' p = some (.lst (ms.map V.int)) → Q (.ref p) H'
theorem cut_pre (ns : List Int) (n : Nat) : cutV (ns.map V.int) none (some (n : Int)) = (ns.take n).map V.int := by
  unfold cutV
  rw [HT.sIx_none, HT.sIx_nat, List.length_map, List.drop_zero, ← List.map_take]
  congr 1
  rw [Nat.sub_zero]
  rcases Nat.le_total n ns.length with h | h
  · rw [Nat.min_eq_left h]
  · rw [Nat.min_eq_right h, List.take_of_length_le (Nat.le_refl _), List.take_of_length_le h]
theorem cut_ints (ns : List Int) (lo hi : Option Int) : ∃ ms : List Int, cutV (ns.map V.int) lo hi = ms.map V.int ∧ ms.length ≤ ns.length := by
  have h := cutV_length (ns.map V.int) lo hi
  unfold cutV at *
  rw [← List.map_drop, ← List.map_take] at *
  exact ⟨_, rfl, by simpa using h⟩
theorem cut_midI (ns : List Int) (n : Nat) (h : ns.length ≤ n) : cutV (ns.map V.int) (some (n : Int)) (some 63) = [] := by
  unfold cutV
  rw [HT.sIx_nat, List.length_map, Nat.min_eq_right h, List.drop_of_length_le (by simp), List.take_nil]
theorem getI {ns : List Int} {i : Nat} {x : V} (h : (ns.map V.int)[i]? = some x) : ∃ m, ns[i]? = some m ∧ x = .int m := by
  rw [List.getElem?_map] at h
  cases e : ns[i]? with
  | none => rw [e] at h; cases h
  | some m => rw [e] at h; cases h; exact ⟨m, rfl, rfl⟩
theorem ok_folded (T : Txt w K mg) : Fn P w K mg base CX0 1 T.a_folded T.d_folded ["_law_script", "_law_size"] (sp_folded K) := by
  refine Grd.mk T.F_folded scfolded (fun vs H Q E h => ?_) (fun cdv A outer s H vs Q E gd hr h => ?_)
  · obtain ⟨a, ns, n, rfl, _⟩ := h
    rfl
  obtain ⟨a, ns, n, rfl, hS, h63, n0, n1, q⟩ := h
  refine ⟨_, (pss_cons (ps_set (i := 2) scfolded.nd rfl (Or.inl rfl) (pe_callTy call_list_of (by rfl) T.n_list (by decide +kernel) (pa_cons (pe_slice sl_list (pv 0) po_none (po_some (pv 1))) pa_nil)))
      (pss_cons (ps_for PassesOwn.never rfl (pi_enum (by rfl) T.n_enumerate (pa_cons (pe_slice sl_list (pv 0) (po_some (pv 1)) (po_some pe_int)) pa_nil)) (pg_tup rfl (pgs_cons (pg_name (i := 3) scfolded.nd rfl (Or.inl rfl)) (pgs_cons (pg_name (i := 4) scfolded.nd rfl (Or.inl rfl)) pgs_nil))) (pss_one (ps_asg (pe_op op_add (pe_ix ix_list (pv 2) (pe_op op_mod (pv 3) (pv 1)) (fun _ _ => rfl)) (pe_op op_mul (pv 4) (pe_op op_add (pv 3) pe_int))) (pg_sub (pv 2) (pe_op op_mod (pv 3) (pv 1)) set_list))))
      (pss_one (ps_ret (pv 2))))), ?_⟩
  refine ⟨_, rfl, _, rfl, _, rfl, a, _, rfl, hS, fun p hp => ?_⟩
  refine ⟨p, _, rfl, .inl (SqL.of upd_same), fun c hc => ?_⟩
  have e1 : Ex H (upd (upd H p (.lst (cutV (ns.map V.int) none (some (n : Int))))) c (.lst (cutV (ns.map V.int) none (some (n : Int))))) := (Ex.new hp).trans (Ex.new hc)
  have hc0 : H c = none := Evl.fresh_back (Ex.new hp) hc
  have hcv : (upd (upd H p (.lst (cutV (ns.map V.int) none (some (n : Int))))) c (.lst (cutV (ns.map V.int) none (some (n : Int))))) c = some (.lst ((ns.take n).map V.int)) := by rw [upd_same, cut_pre]
  generalize upd (upd H p (.lst (cutV (ns.map V.int) none (some (n : Int))))) c (.lst (cutV (ns.map V.int) none (some (n : Int)))) = H1 at e1 hcv ⊢
  refine ⟨_, rfl, _, rfl, _, rfl, _, rfl, a, _, rfl, ex_l e1 hS, fun d hd => ?_⟩
  obtain ⟨ms, em, lm⟩ := cut_ints ns (some (n : Int)) (some 63)
  have ed : (upd H1 d (.lst (cutV (ns.map V.int) (some (n : Int)) (some 63)))) d = some (.lst (ms.map V.int)) := by rw [upd_same, em]
  have ncd : c ≠ d := ne_of_none hcv hd
  have hcv2 : (upd H1 d (.lst (cutV (ns.map V.int) (some (n : Int)) (some 63)))) c = some (.lst ((ns.take n).map V.int)) := by rw [upd_ne ncd]; exact hcv
  have e2 : Ex H (upd H1 d (.lst (cutV (ns.map V.int) (some (n : Int)) (some 63)))) := e1.trans (Ex.new hd)
  have hd0 : H d = none := Evl.fresh_back e1 hd
  generalize upd H1 d (.lst (cutV (ns.map V.int) (some (n : Int)) (some 63))) = H2 at ed hcv2 e2 ⊢
  refine ⟨d, _, rfl, SqL.of ed, for_it (walk_enum (xs := ms.map V.int)) (fun i σ H' => ∃ (u v : Option V) (cs : List Int), σ = [some (.ref a), some (.int (n : Int)), some (.ref c), u, v] ∧ Ex H H' ∧ H' d = some (.lst (ms.map V.int)) ∧ H' c = some (.lst (cs.map V.int)) ∧ cs.length = (ns.take n).length)
    ⟨none, none, _, rfl, e2, ed, hcv2, rfl⟩ (fun i σ H' _ ⟨_, _, _, _, _, h, _⟩ => SqL.of h) ?_ ?_⟩
  · rintro i x σ H3 H4 hi ⟨u, v, cs, rfl, e3, hd3, hc3, lc⟩ ⟨t, y, z, rfl, ht, rfl, ey, ez⟩
    cases ey
    obtain ⟨m, em2, rfl⟩ := getI (show (ms.map V.int)[i]? = some z from ez)
    · have full : n ≤ ns.length := by
        rcases Nat.lt_or_ge ns.length n with h | h
        · have z := cut_midI ns n (Nat.le_of_lt h)
          rw [em] at z
          rw [List.map_eq_nil_iff] at z
          rw [z] at hi
          simp at hi
        · exact h
      have lcs : cs.length = n := by rw [lc, List.length_take]; omega
      have hlt : i % n < cs.length := by rw [lcs]; exact Nat.mod_lt _ n0
      have im : ((i : Nat) : Int) % (n : Int) = ((i % n : Nat) : Int) := by simp
      have nct : c ≠ t := ne_of_none hc3 ht
      have ndt : d ≠ t := ne_of_none hd3 ht
      have hc4 : (upd H3 t (.tup [.int ((i : Nat) : Int), .int m])) c = some (.lst (cs.map V.int)) := by rw [upd_ne nct]; exact hc3
      have hd4 : (upd H3 t (.tup [.int ((i : Nat) : Int), .int m])) d = some (.lst (ms.map V.int)) := by rw [upd_ne ndt]; exact hd3
      have e4 : Ex H (upd H3 t (.tup [.int ((i : Nat) : Int), .int m])) := e3.trans (Ex.new ht)
      have at_ : atI (cs.map V.int) (((i : Nat) : Int) % (n : Int)) = some (.int cs[i % n]) := at_of (j := i % n) im (by rw [List.getElem?_map, List.getElem?_eq_getElem hlt]; rfl)
      have ix_ : ixN (cs.map V.int).length (((i : Nat) : Int) % (n : Int)) = some (i % n) := by
        rw [im, List.length_map]
        exact Evl.ixN_nat hlt
      have i63 : i < 63 := by
        have : ms.length ≤ 63 := by omega
        rw [List.length_map] at hi
        omega
      refine ⟨t, _, rfl, SqT.of upd_same, rfl, _, _, rfl, _, _, rfl, rfl, ?_⟩
      refine ⟨_, rfl, _, rfl, _, rfl, _, _, rfl, rfl, (by show (0 : Int) < (n : Int); omega), c, _, _, _, rfl, rfl, SqL.of hc4, at_, _, rfl, _, rfl, _, _, rfl, rfl, _, _, rfl, rfl, .inr ⟨by omega, by omega⟩, _, _, rfl, rfl,
        _, rfl, _, rfl, _, rfl, _, _, rfl, rfl, (by show (0 : Int) < (n : Int); omega), c, _, _, _, rfl, rfl, hc4, ix_, ?_⟩
      refine ⟨_, _, cs.set (i % n) (cs[i % n] + m * (((i : Nat) : Int) + 2)), rfl, e4.mut hc0, ?_, ?_, by rw [List.length_set]; exact lc⟩
      · rw [upd_ne ncd.symm]
        exact hd4
      · rw [upd_same, List.map_set]
  · rintro σ H3 ⟨u, v, cs, rfl, e3, hd3, hc3, lc⟩
    exact ⟨_, rfl, q c H3 cs hc0 e3 (by rw [lc, List.length_take]; omega) hc3⟩

theorem right_call {H : Hp} {b : Addr} {Q : VK} {E : XK} (bx : Bx H b 0) (q : ∀ H', (∀ a o, a ≠ b → H a = some o → H' a = some o) → Q (.bl true) H') : Ow.spA K C_right [.ref b] H Q E := by
  obtain ⟨x, y, z, hb, y0, y1, z0, z1⟩ := bx
  refine ⟨(· = b), fun _ => false, [.n .lst [.d (.int x), .d (.int y), .d (.int z)]], fun z _ => z = .d (.bool true), ⟨.refl, ⟨⟨[b], [], ?_, .nil, by simp, fun a ha => ?_⟩, fun a ha => by cases ha⟩⟩, ⟨0, _, rfl, ⟨x, y, z, rfl, y0, y1, z0, z1⟩, by decide, fun _ => rfl⟩, fun z xs' v H' F' r c => ?_⟩
  · exact .cons (as := [b]) (bs := []) (.n (ex := []) (as := []) ⟨hb, rfl⟩ (.cons (as := []) (.d (.int _)) (.cons (as := []) (.d (.int _)) (.cons (as := []) (.d (.int _)) .nil)))) .nil
  · have : a = b := by simpa using ha
    exact ⟨rfl, .inl this⟩
  · subst r
    have dv := c.dp
    cases dv
    exact q H' fun a o na ho => c.st.keep a o na ho
def sp_law (K : PySem.W.Frag) : Sp := fun vs H Q _ => ∃ (a : Addr) (ns : List Int), vs = [.ref a] ∧ SqL K H a (ns.map V.int) ∧ ns.length ≤ 63 ∧ ∀ H', Q (.bl true) H'
theorem all_true (j : Nat) : (List.replicate j true).all id = true := by simp
theorem ok_law (T : Txt w K mg) : Fn P w K mg base CX0 9 T.a_law T.d_law ["_law_script"] (sp_law K) := by
  have G_folded := ok_folded (P := P) (w := w) (base := base) T
  have G_dip := ok_dip (P := P) (w := w) (base := base) T
  have G_right := g_right (P := P) (w := w) (base := base) T
  refine Grd.mk T.F_law sclaw (fun vs H Q E h => ?_) (fun cdv A outer st H vs Q E gd hr h => ?_)
  · obtain ⟨a, ns, rfl, _⟩ := h
    rfl
  obtain ⟨a, ns, rfl, hS, ln, q⟩ := h
  refine ⟨_, (pss_cons (ps_set (i := 1) sclaw.nd rfl (Or.inr rfl) (pe_callG G_folded gd (hr.mono (by first | decide | omega)) rfl T.g_folded T.F_folded.kp T.b_folded .nil pass0 (pa_cons (pv 0) (pa_cons pe_int pa_nil))))
      (pss_one (ps_ret (pe_callB (cr_all rfl) (by rfl) T.n_all (by decide +kernel) (pa_cons (pe_lc (own := [("_law_k", 2)]) (by rfl) sclaw.nd (pi_range1 (by rfl) T.n_range (pa_cons (pe_callB (call_max2 rfl) (by rfl) T.n_max (by decide +kernel) (pa_cons pe_int (pa_cons (pe_callB call_len_seq (by rfl) T.n_len PySem.boot_len (pa_cons (pv 1) pa_nil)) pa_nil))) pa_nil)) (blkOk_by (own := [("_law_k", 2)]) (N := ["_law_script", "_law_cells", "_law_k"]) (sc := defScope s_law) (by decide +kernel)) (fun _ _ _ _ _ => (pg_name (i := 2) sclaw.nd rfl (Or.inl rfl))) (fun _ _ _ _ _ => pts_nil) (fun _ _ _ _ _ => (pe_callG G_right gd (hr.mono (by first | decide | omega)) rfl T.g_right T.F_right.kp T.b_right .nil pass0 (pa_cons (pe_callG G_dip gd (hr.mono (by first | decide | omega)) rfl T.g_dip T.F_dip.kp T.b_dip .nil pass0 (pa_cons (pv 1) (pa_cons (pv 2) pa_nil))) pa_nil)))) pa_nil))))), ?_⟩
  refine ⟨_, rfl, a, ns, 3, rfl, hS, ln, by decide, by decide, fun p H1 ms hp e1 lm hpv => ?_⟩
  refine ⟨_, rfl, p, _, rfl, .inl (SqL.of hpv), _, _, rfl, _, rfl, ?_, ?_, fun D hD => ?_⟩
  · rw [List.length_map]; split <;> omega
  · rw [List.length_map]; split <;> omega
  have nD : p ≠ D := ne_of_none hpv hD
  refine lc_range (fun j H' => H' D = some (.lst ((List.replicate j true).map V.bl)) ∧ H' p = some (.lst (ms.map V.int))) ⟨upd_same, by rw [upd_ne nD]; exact hpv⟩ ?_ ?_
  · rintro j H2 hj ⟨hD2, hp2⟩
    have hj3 : (j : Int) < 4 := by
      rw [List.length_map] at hj
      split at hj <;> omega
    refine ⟨rfl, ?_⟩
    refine ⟨_, rfl, _, rfl, p, ms, _, rfl, SqL.of hp2, by omega, by omega, fun b H3 hb e3 bx => ?_⟩
    refine right_call (E := fun _ _ _ => False) bx fun H4 bu => ?_
    have nbD : D ≠ b := ne_of_none hD2 hb
    have nbp : p ≠ b := ne_of_none hp2 hb
    refine ⟨_, bu _ _ nbD (e3 _ _ hD2), by rw [List.length_map, List.length_replicate]; exact Evl.sz_lt (by omega), ?_, ?_⟩
    · rw [upd_same, List.replicate_succ', List.map_append]; rfl
    · rw [upd_ne nD]; exact bu _ _ nbp (e3 _ _ hp2)
  rintro H2 ⟨hD2, hp2⟩
  exact ⟨D, _, rfl, SqL.of hD2, by rw [all_true]; exact q _⟩
end
end K49

namespace K49
open PySem L2 Grd Ow PyProof.Rows
theorem all_mk {l : PySem.W.OpenLaw} {w : World} {K : PySem.W.Frag} {h : Heap} {mg : Str → Option Value} {fa f1 f2 f3 f4 f5 f6 f7 f8 f9 f10 f11 f12 f13 f14 f15 f16 f17 : Addr} (X : K.In h) (G : h.Ns mainGlobals mg) (hfa : mg "law" = some (.ref fa))
    {od1 an1 od2 an2 od3 an3 od4 an4 od5 an5 od6 an6 od7 an7 od8 an8 od9 an9 od10 an10 od11 an11 od12 an12 od13 an13 od14 an14 od15 an15 od16 an16 od17 an17 : Option Addr} {sl1 sl2 sl3 sl4 sl5 sl6 sl7 sl8 sl9 sl10 sl11 sl12 sl13 sl14 sl15 sl16 sl17 : Array (Option Value)}
    {oc1 dc1 pm1 cd1 ct1 kV1 oc2 dc2 pm2 cd2 ct2 kV2 oc3 dc3 pm3 cd3 ct3 kV3 oc4 dc4 pm4 cd4 ct4 kV4 oc5 dc5 pm5 cd5 ct5 kV5 oc6 dc6 pm6 cd6 ct6 kV6 oc7 dc7 pm7 cd7 ct7 kV7 oc8 dc8 pm8 cd8 ct8 kV8 oc9 dc9 pm9 cd9 ct9 kV9 oc10 dc10 pm10 cd10 ct10 kV10 oc11 dc11 pm11 cd11 ct11 kV11 oc12 dc12 pm12 cd12 ct12 kV12 oc13 dc13 pm13 cd13 ct13 kV13 oc14 dc14 pm14 cd14 ct14 kV14 oc15 dc15 pm15 cd15 ct15 kV15 oc16 dc16 pm16 cd16 ct16 kV16 oc17 dc17 pm17 cd17 ct17 kV17 : Value}
    (a1 : PySem.W.nsIn K mainGlobals "weave" = some (some (.ref f1)))
    (l1 : K.lookup f1 = some ⟨oc1, od1, .func (PySem.W.fnOf "weave" "weave" (defArgs s_p_weave) (defBody s_p_weave) (defScope s_p_weave) .none (kV1) dc1 pm1 an1 cd1 ct1), sl1⟩)
    (c1 : PySem.W.codeIn K cd1 "weave" = true) (k1 : PySem.W.keepIn K (.ref f1) = true)
    (a2 : PySem.W.nsIn K mainGlobals "texts_of" = some (some (.ref f2)))
    (l2 : K.lookup f2 = some ⟨oc2, od2, .func (PySem.W.fnOf "texts_of" "texts_of" (defArgs s_p_texts_of) (defBody s_p_texts_of) (defScope s_p_texts_of) .none (kV2) dc2 pm2 an2 cd2 ct2), sl2⟩)
    (c2 : PySem.W.codeIn K cd2 "texts_of" = true) (k2 : PySem.W.keepIn K (.ref f2) = true)
    (a3 : PySem.W.nsIn K mainGlobals "is_weaving" = some (some (.ref f3)))
    (l3 : K.lookup f3 = some ⟨oc3, od3, .func (PySem.W.fnOf "is_weaving" "is_weaving" (defArgs s_p_is_weaving) (defBody s_p_is_weaving) (defScope s_p_is_weaving) .none (kV3) dc3 pm3 an3 cd3 ct3), sl3⟩)
    (c3 : PySem.W.codeIn K cd3 "is_weaving" = true) (k3 : PySem.W.keepIn K (.ref f3) = true)
    (a4 : PySem.W.nsIn K mainGlobals "_law_dip" = some (some (.ref f4)))
    (l4 : K.lookup f4 = some ⟨oc4, od4, .func (PySem.W.fnOf "_law_dip" "_law_dip" (defArgs s_dip) (defBody s_dip) (defScope s_dip) .none (kV4) dc4 pm4 an4 cd4 ct4), sl4⟩)
    (c4 : PySem.W.codeIn K cd4 "_law_dip" = true) (k4 : PySem.W.keepIn K (.ref f4) = true)
    (a5 : PySem.W.nsIn K mainGlobals "_law_take" = some (some (.ref f5)))
    (l5 : K.lookup f5 = some ⟨oc5, od5, .func (PySem.W.fnOf "_law_take" "_law_take" (defArgs s_take) (defBody s_take) (defScope s_take) .none (kV5) dc5 pm5 an5 cd5 ct5), sl5⟩)
    (c5 : PySem.W.codeIn K cd5 "_law_take" = true) (k5 : PySem.W.keepIn K (.ref f5) = true)
    (a6 : PySem.W.nsIn K mainGlobals "_law_folded" = some (some (.ref f6)))
    (l6 : K.lookup f6 = some ⟨oc6, od6, .func (PySem.W.fnOf "_law_folded" "_law_folded" (defArgs s_folded) (defBody s_folded) (defScope s_folded) .none (kV6) dc6 pm6 an6 cd6 ct6), sl6⟩)
    (c6 : PySem.W.codeIn K cd6 "_law_folded" = true) (k6 : PySem.W.keepIn K (.ref f6) = true)
    (a7 : PySem.W.nsIn K mainGlobals "_law_one_of" = some (some (.ref f7)))
    (l7 : K.lookup f7 = some ⟨oc7, od7, .func (PySem.W.fnOf "_law_one_of" "_law_one_of" (defArgs s_one_of) (defBody s_one_of) (defScope s_one_of) .none (kV7) dc7 pm7 an7 cd7 ct7), sl7⟩)
    (c7 : PySem.W.codeIn K cd7 "_law_one_of" = true) (k7 : PySem.W.keepIn K (.ref f7) = true)
    (a8 : PySem.W.nsIn K mainGlobals "_law_same" = some (some (.ref f8)))
    (l8 : K.lookup f8 = some ⟨oc8, od8, .func (PySem.W.fnOf "_law_same" "_law_same" (defArgs s_same) (defBody s_same) (defScope s_same) .none (kV8) dc8 pm8 an8 cd8 ct8), sl8⟩)
    (c8 : PySem.W.codeIn K cd8 "_law_same" = true) (k8 : PySem.W.keepIn K (.ref f8) = true)
    (a9 : PySem.W.nsIn K mainGlobals "_law_woven_by" = some (some (.ref f9)))
    (l9 : K.lookup f9 = some ⟨oc9, od9, .func (PySem.W.fnOf "_law_woven_by" "_law_woven_by" (defArgs s_woven_by) (defBody s_woven_by) (defScope s_woven_by) .none (kV9) dc9 pm9 an9 cd9 ct9), sl9⟩)
    (c9 : PySem.W.codeIn K cd9 "_law_woven_by" = true) (k9 : PySem.W.keepIn K (.ref f9) = true)
    (a10 : PySem.W.nsIn K mainGlobals "_law_thing" = some (some (.ref f10)))
    (l10 : K.lookup f10 = some ⟨oc10, od10, .func (PySem.W.fnOf "_law_thing" "_law_thing" (defArgs s_thing) (defBody s_thing) (defScope s_thing) .none (kV10) dc10 pm10 an10 cd10 ct10), sl10⟩)
    (c10 : PySem.W.codeIn K cd10 "_law_thing" = true) (k10 : PySem.W.keepIn K (.ref f10) = true)
    (a11 : PySem.W.nsIn K mainGlobals "_law_is_woven" = some (some (.ref f11)))
    (l11 : K.lookup f11 = some ⟨oc11, od11, .func (PySem.W.fnOf "_law_is_woven" "_law_is_woven" (defArgs s_is_woven) (defBody s_is_woven) (defScope s_is_woven) .none (kV11) dc11 pm11 an11 cd11 ct11), sl11⟩)
    (c11 : PySem.W.codeIn K cd11 "_law_is_woven" = true) (k11 : PySem.W.keepIn K (.ref f11) = true)
    (a12 : PySem.W.nsIn K mainGlobals "_law_alike" = some (some (.ref f12)))
    (l12 : K.lookup f12 = some ⟨oc12, od12, .func (PySem.W.fnOf "_law_alike" "_law_alike" (defArgs s_alike) (defBody s_alike) (defScope s_alike) .none (kV12) dc12 pm12 an12 cd12 ct12), sl12⟩)
    (c12 : PySem.W.codeIn K cd12 "_law_alike" = true) (k12 : PySem.W.keepIn K (.ref f12) = true)
    (a13 : PySem.W.nsIn K mainGlobals "_law_otherwise" = some (some (.ref f13)))
    (l13 : K.lookup f13 = some ⟨oc13, od13, .func (PySem.W.fnOf "_law_otherwise" "_law_otherwise" (defArgs s_otherwise) (defBody s_otherwise) (defScope s_otherwise) .none (kV13) dc13 pm13 an13 cd13 ct13), sl13⟩)
    (c13 : PySem.W.codeIn K cd13 "_law_otherwise" = true) (k13 : PySem.W.keepIn K (.ref f13) = true)
    (a14 : PySem.W.nsIn K mainGlobals "_law_rows" = some (some (.ref f14)))
    (l14 : K.lookup f14 = some ⟨oc14, od14, .func (PySem.W.fnOf "_law_rows" "_law_rows" (defArgs s_rows) (defBody s_rows) (defScope s_rows) .none (kV14) dc14 pm14 an14 cd14 ct14), sl14⟩)
    (c14 : PySem.W.codeIn K cd14 "_law_rows" = true) (k14 : PySem.W.keepIn K (.ref f14) = true)
    (a15 : PySem.W.nsIn K mainGlobals "_law_right" = some (some (.ref f15)))
    (l15 : K.lookup f15 = some ⟨oc15, od15, .func (PySem.W.fnOf "_law_right" "_law_right" (defArgs s_right) (defBody s_right) (defScope s_right) .none (kV15) dc15 pm15 an15 cd15 ct15), sl15⟩)
    (c15 : PySem.W.codeIn K cd15 "_law_right" = true) (k15 : PySem.W.keepIn K (.ref f15) = true)
    (a16 : PySem.W.nsIn K mainGlobals "_law_woven_right" = some (some (.ref f16)))
    (l16 : K.lookup f16 = some ⟨oc16, od16, .func (PySem.W.fnOf "_law_woven_right" "_law_woven_right" (defArgs s_woven_right) (defBody s_woven_right) (defScope s_woven_right) .none (kV16) dc16 pm16 an16 cd16 ct16), sl16⟩)
    (c16 : PySem.W.codeIn K cd16 "_law_woven_right" = true) (k16 : PySem.W.keepIn K (.ref f16) = true)
    (a17 : PySem.W.nsIn K mainGlobals "law" = some (some (.ref f17)))
    (l17 : K.lookup f17 = some ⟨oc17, od17, .func (PySem.W.fnOf "law" "law" (defArgs s_law) (defBody s_law) (defScope s_law) .none (kV17) dc17 pm17 an17 cd17 ct17), sl17⟩)
    (c17 : PySem.W.codeIn K cd17 "law" = true) (k17 : PySem.W.keepIn K (.ref f17) = true)
    (z1 : PySem.W.nsIn K mainGlobals "abs" = some none)
    (z2 : PySem.W.nsIn K mainGlobals "all" = some none)
    (z3 : PySem.W.nsIn K mainGlobals "bool" = some none)
    (z4 : PySem.W.nsIn K mainGlobals "enumerate" = some none)
    (z5 : PySem.W.nsIn K mainGlobals "int" = some none)
    (z6 : PySem.W.nsIn K mainGlobals "isinstance" = some none)
    (z7 : PySem.W.nsIn K mainGlobals "len" = some none)
    (z8 : PySem.W.nsIn K mainGlobals "list" = some none)
    (z9 : PySem.W.nsIn K mainGlobals "max" = some none)
    (z10 : PySem.W.nsIn K mainGlobals "min" = some none)
    (z11 : PySem.W.nsIn K mainGlobals "range" = some none)
    (z12 : PySem.W.nsIn K mainGlobals "repr" = some none)
    (z13 : PySem.W.nsIn K mainGlobals "str" = some none)
    (z14 : PySem.W.nsIn K mainGlobals "sum" = some none)
    (z15 : PySem.W.nsIn K mainGlobals "tuple" = some none)
    (z16 : PySem.W.nsIn K mainGlobals "zip" = some none)
    : ∃ fd : FuncData, (∀ (s : Shared) (v : Value), BindsTo s fd ⟨[v], []⟩ [("_law_script", v)]) ∧ ∀ base : Heap, K.In base → base.Ns mainGlobals mg → Grd.Fn l.prog w K mg base CX0 9 fa fd ["_law_script"] (sp_law K) := by
  have e := hfa.symm.trans (PySem.W.mg_of X G a17)
  cases e
  have F1 := fun_mk (st := s_p_weave) l1 c1 k1
  have b1 := F1.binds (ps := ["turns", "picks"]) fun _ _ _ _ _ _ us hl => match us, hl with | [_, _], _ => rfl
  have F2 := fun_mk (st := s_p_texts_of) l2 c2 k2
  have b2 := F2.binds (ps := ["some"]) fun _ _ _ _ _ _ us hl => match us, hl with | [_], _ => rfl
  have F3 := fun_mk (st := s_p_is_weaving) l3 c3 k3
  have b3 := F3.binds (ps := ["rows", "thing"]) fun _ _ _ _ _ _ us hl => match us, hl with | [_, _], _ => rfl
  have F4 := fun_mk (st := s_dip) l4 c4 k4
  have b4 := F4.binds (ps := ["_law_script", "_law_k"]) fun _ _ _ _ _ _ us hl => match us, hl with | [_, _], _ => rfl
  have F5 := fun_mk (st := s_take) l5 c5 k5
  have b5 := F5.binds (ps := ["_law_box", "_law_many"]) fun _ _ _ _ _ _ us hl => match us, hl with | [_, _], _ => rfl
  have F6 := fun_mk (st := s_folded) l6 c6 k6
  have b6 := F6.binds (ps := ["_law_script", "_law_size"]) fun _ _ _ _ _ _ us hl => match us, hl with | [_, _], _ => rfl
  have F7 := fun_mk (st := s_one_of) l7 c7 k7
  have b7 := F7.binds (ps := ["_law_box", "_law_some"]) fun _ _ _ _ _ _ us hl => match us, hl with | [_, _], _ => rfl
  have F8 := fun_mk (st := s_same) l8 c8 k8
  have b8 := F8.binds (ps := ["_law_found", "_law_due"]) fun _ _ _ _ _ _ us hl => match us, hl with | [_, _], _ => rfl
  have F9 := fun_mk (st := s_woven_by) l9 c9 k9
  have b9 := F9.binds (ps := ["_law_rows_here", "_law_picks"]) fun _ _ _ _ _ _ us hl => match us, hl with | [_, _], _ => rfl
  have F10 := fun_mk (st := s_thing) l10 c10 k10
  have b10 := F10.binds (ps := ["_law_box"]) fun _ _ _ _ _ _ us hl => match us, hl with | [_], _ => rfl
  have F11 := fun_mk (st := s_is_woven) l11 c11 k11
  have b11 := F11.binds (ps := ["_law_rows_here", "_law_thing_here"]) fun _ _ _ _ _ _ us hl => match us, hl with | [_, _], _ => rfl
  have F12 := fun_mk (st := s_alike) l12 c12 k12
  have b12 := F12.binds (ps := ["_law_one", "_law_other"]) fun _ _ _ _ _ _ us hl => match us, hl with | [_, _], _ => rfl
  have F13 := fun_mk (st := s_otherwise) l13 c13 k13
  have b13 := F13.binds (ps := ["_law_box", "_law_some"]) fun _ _ _ _ _ _ us hl => match us, hl with | [_, _], _ => rfl
  have F14 := fun_mk (st := s_rows) l14 c14 k14
  have b14 := F14.binds (ps := ["_law_box"]) fun _ _ _ _ _ _ us hl => match us, hl with | [_], _ => rfl
  have F15 := fun_mk (st := s_right) l15 c15 k15
  have b15 := F15.binds (ps := ["_law_box"]) fun _ _ _ _ _ _ us hl => match us, hl with | [_], _ => rfl
  have F16 := fun_mk (st := s_woven_right) l16 c16 k16
  have b16 := F16.binds (ps := ["_law_box", "_law_rows_here"]) fun _ _ _ _ _ _ us hl => match us, hl with | [_, _], _ => rfl
  have F17 := fun_mk (st := s_law) l17 c17 k17
  have b17 := F17.binds (ps := ["_law_script"]) fun _ _ _ _ _ _ us hl => match us, hl with | [_], _ => rfl
  let T : Txt w K mg := {
    a_p_weave := f1, d_p_weave := _, F_p_weave := F1, b_p_weave := b1, g_p_weave := PySem.W.mg_of X G a1,
    a_p_texts_of := f2, d_p_texts_of := _, F_p_texts_of := F2, b_p_texts_of := b2, g_p_texts_of := PySem.W.mg_of X G a2,
    a_p_is_weaving := f3, d_p_is_weaving := _, F_p_is_weaving := F3, b_p_is_weaving := b3, g_p_is_weaving := PySem.W.mg_of X G a3,
    a_dip := f4, d_dip := _, F_dip := F4, b_dip := b4, g_dip := PySem.W.mg_of X G a4,
    a_take := f5, d_take := _, F_take := F5, b_take := b5, g_take := PySem.W.mg_of X G a5,
    a_folded := f6, d_folded := _, F_folded := F6, b_folded := b6, g_folded := PySem.W.mg_of X G a6,
    a_one_of := f7, d_one_of := _, F_one_of := F7, b_one_of := b7, g_one_of := PySem.W.mg_of X G a7,
    a_same := f8, d_same := _, F_same := F8, b_same := b8, g_same := PySem.W.mg_of X G a8,
    a_woven_by := f9, d_woven_by := _, F_woven_by := F9, b_woven_by := b9, g_woven_by := PySem.W.mg_of X G a9,
    a_thing := f10, d_thing := _, F_thing := F10, b_thing := b10, g_thing := PySem.W.mg_of X G a10,
    a_is_woven := f11, d_is_woven := _, F_is_woven := F11, b_is_woven := b11, g_is_woven := PySem.W.mg_of X G a11,
    a_alike := f12, d_alike := _, F_alike := F12, b_alike := b12, g_alike := PySem.W.mg_of X G a12,
    a_otherwise := f13, d_otherwise := _, F_otherwise := F13, b_otherwise := b13, g_otherwise := PySem.W.mg_of X G a13,
    a_rows := f14, d_rows := _, F_rows := F14, b_rows := b14, g_rows := PySem.W.mg_of X G a14,
    a_right := f15, d_right := _, F_right := F15, b_right := b15, g_right := PySem.W.mg_of X G a15,
    a_woven_right := f16, d_woven_right := _, F_woven_right := F16, b_woven_right := b16, g_woven_right := PySem.W.mg_of X G a16,
    a_law := fa, d_law := _, F_law := F17, b_law := b17, g_law := PySem.W.mg_of X G a17,
    n_abs := PySem.W.mg_none_of X G z1,
    n_all := PySem.W.mg_none_of X G z2,
    n_bool := PySem.W.mg_none_of X G z3,
    n_enumerate := PySem.W.mg_none_of X G z4,
    n_int := PySem.W.mg_none_of X G z5,
    n_isinstance := PySem.W.mg_none_of X G z6,
    n_len := PySem.W.mg_none_of X G z7,
    n_list := PySem.W.mg_none_of X G z8,
    n_max := PySem.W.mg_none_of X G z9,
    n_min := PySem.W.mg_none_of X G z10,
    n_range := PySem.W.mg_none_of X G z11,
    n_repr := PySem.W.mg_none_of X G z12,
    n_str := PySem.W.mg_none_of X G z13,
    n_sum := PySem.W.mg_none_of X G z14,
    n_tuple := PySem.W.mg_none_of X G z15,
    n_zip := PySem.W.mg_none_of X G z16 }
  exact ⟨_, fun s v => .of_eq rfl, fun base _ _ => ok_law (P := l.prog) (w := w) (base := base) T⟩
end K49

open PySem PySem.W PyProof.Rows in
set_option maxRecDepth 100000 in
set_option maxHeartbeats 0 in
theorem PySem.Challenge.cw_handledeeds_k49_weavings_and_picks_holds : PySem.Challenge.rw_handledeeds_k49_weavings_and_picks.Holds := by
  w_on; o_law; k_head; (case hw => w_witness2)
  k_fill
  refine Grd.walkG (l := PySem.Challenge.rw_handledeeds_k49_weavings_and_picks) (n := 63) (k := 9) (x := "_law_script") (CX := fun _ => L2.CX0) (sp := fun w => K49.sp_law _) rfl (by decide) rfl ⟨rfl, by decide, by decide⟩ (fun w h Y => PySem.W.kIn_of Y) ?F (fun _ _ a ns hl _ hS => ⟨a, ns, rfl, hS, hl, fun _ => rfl⟩) (fun _ _ _ _ _ z => z)
  case F =>
    intro w mg fa h KX G hmg
    refine' K49.all_mk KX G hmg ?a1 ?l1 ?c1 ?k1 ?a2 ?l2 ?c2 ?k2 ?a3 ?l3 ?c3 ?k3 ?a4 ?l4 ?c4 ?k4 ?a5 ?l5 ?c5 ?k5 ?a6 ?l6 ?c6 ?k6 ?a7 ?l7 ?c7 ?k7 ?a8 ?l8 ?c8 ?k8 ?a9 ?l9 ?c9 ?k9 ?a10 ?l10 ?c10 ?k10 ?a11 ?l11 ?c11 ?k11 ?a12 ?l12 ?c12 ?k12 ?a13 ?l13 ?c13 ?k13 ?a14 ?l14 ?c14 ?k14 ?a15 ?l15 ?c15 ?k15 ?a16 ?l16 ?c16 ?k16 ?a17 ?l17 ?c17 ?k17 ?z1 ?z2 ?z3 ?z4 ?z5 ?z6 ?z7 ?z8 ?z9 ?z10 ?z11 ?z12 ?z13 ?z14 ?z15 ?z16
    (case a1 => k_is)
    (case l1 => k_is)
    (case c1 => k_is)
    (case k1 => k_is)
    (case a2 => k_is)
    (case l2 => k_is)
    (case c2 => k_is)
    (case k2 => k_is)
    (case a3 => k_is)
    (case l3 => k_is)
    (case c3 => k_is)
    (case k3 => k_is)
    (case a4 => k_is)
    (case l4 => k_is)
    (case c4 => k_is)
    (case k4 => k_is)
    (case a5 => k_is)
    (case l5 => k_is)
    (case c5 => k_is)
    (case k5 => k_is)
    (case a6 => k_is)
    (case l6 => k_is)
    (case c6 => k_is)
    (case k6 => k_is)
    (case a7 => k_is)
    (case l7 => k_is)
    (case c7 => k_is)
    (case k7 => k_is)
    (case a8 => k_is)
    (case l8 => k_is)
    (case c8 => k_is)
    (case k8 => k_is)
    (case a9 => k_is)
    (case l9 => k_is)
    (case c9 => k_is)
    (case k9 => k_is)
    (case a10 => k_is)
    (case l10 => k_is)
    (case c10 => k_is)
    (case k10 => k_is)
    (case a11 => k_is)
    (case l11 => k_is)
    (case c11 => k_is)
    (case k11 => k_is)
    (case a12 => k_is)
    (case l12 => k_is)
    (case c12 => k_is)
    (case k12 => k_is)
    (case a13 => k_is)
    (case l13 => k_is)
    (case c13 => k_is)
    (case k13 => k_is)
    (case a14 => k_is)
    (case l14 => k_is)
    (case c14 => k_is)
    (case k14 => k_is)
    (case a15 => k_is)
    (case l15 => k_is)
    (case c15 => k_is)
    (case k15 => k_is)
    (case a16 => k_is)
    (case l16 => k_is)
    (case c16 => k_is)
    (case k16 => k_is)
    (case a17 => k_is)
    (case l17 => k_is)
    (case c17 => k_is)
    (case k17 => k_is)
    (case z1 => k_is)
    (case z2 => k_is)
    (case z3 => k_is)
    (case z4 => k_is)
    (case z5 => k_is)
    (case z6 => k_is)
    (case z7 => k_is)
    (case z8 => k_is)
    (case z9 => k_is)
    (case z10 => k_is)
    (case z11 => k_is)
    (case z12 => k_is)
    (case z13 => k_is)
    (case z14 => k_is)
    (case z15 => k_is)
    (case z16 => k_is)
