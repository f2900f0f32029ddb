import PyProof.Rows.All
import Wide.All
import OpenK.AllK
import Wide.FinOn
import HandS.ForMost
import HandS.Wide
import HandS.WideBits
import HandS.IsInst
import HandS.Slots
import HandS.SlotsOwn
import HandS.Defaults
import PyProof.ReprRoads
import HandS.Conv
import HandS.SetFor
import HandS.Strs
import HandS.Lambda
import HandS.Exc
import HandS.Property
import HandS.Text
import HandS.EndTab
import HandS.ExcInit
import KE.KExcSuper
import HandS.ExcField
import HandS.ExcIs
import HandS.FStr
import HandS.Dict
import HandS.ClsMeth
import HandS.MakeKw
import PyProof.Rows.StrJoinMade
import PyProof.ReprLen
import PySem.Challenge.RW_howmanyeach_k17_ratios_made
set_option Elab.async false
set_option linter.all false
set_option maxRecDepth 100000
set_option maxHeartbeats 4000000
namespace G58
open L2 PyProof.Rows PySem.Spec PySem

/-- a def's promise where it is known that no repr is under way -/
structure FnG (P : Program) (w : World) (K : PySem.W.Frag) (mg : Str → Option Value) (base : Heap) (CX : CXT) (k : Nat) (f : Addr) (fd : FuncData) (ps : List Str) (sp : Sp) : Prop where
  len : ∀ vs H Q E, sp vs H Q E → vs.length = ps.length
  run : ∀ (A : Around) (outer : List Env) (s : Shared) (H : Hp) (args : Args) (us : List Value) (vs : List V) (Q : VK) (E : XK),
    A.guards = some [] → Room k A → Env0 P w K mg base A outer s H → BindsTo s fd args (ps.zip us) → Vals vs us → sp vs H Q E →
      codeAny (model P w) A (.call (.ref f) args) (CR CX outer P w H s Q E) s

section
variable {P : Program} {w : World} {K : PySem.W.Frag} {mg : Str → Option Value} {base : Heap} {CX : CXT} {j k : Nat} {f : Addr} {fd : FuncData} {ps : List Str} {sp : Sp}
theorem FnG.mono (F : FnG P w K mg base CX j f fd ps sp) (h : j ≤ k) : FnG P w K mg base CX k f fd ps sp :=
  ⟨F.len, fun A o s H ar us vs Q E g hr => F.run A o s H ar us vs Q E g (hr.mono h)⟩
theorem fnG_ok (F : FnOk P w K mg base CX k f fd ps sp) : FnG P w K mg base CX k f fd ps sp :=
  ⟨F.len, fun A o s H ar us vs Q E _ => F.run A o s H ar us vs Q E⟩
/-- the rule of a def by its body -/
theorem fnG_of {name qual : Str} {params : Arguments} {body : List Stmt} {scope : Scope} {dV kV doc pm cdv ct oc : Value} {an od : Option Addr} {osl : Array (Option Value)} {N : List Str}
    (lk : K.lookup f = some ⟨oc, od, .func (PySem.W.fnOf name qual params body scope dV kV doc pm an cdv ct), osl⟩)
    (hcd : PySem.W.codeIn K cdv qual = true) (S : FnScope N ps scope) (len : ∀ vs H Q E, sp vs H Q E → vs.length = ps.length)
    (hbody : ∀ (A : Around) (outer : List Env) (s : Shared) (H : Hp) (vs : List V) (Q : VK) (E : XK),
      A.guards = some [] → Room k (A.deeper (envOfC qual scope s.heap.objs.size f cdv)) → sp vs H Q E →
      ∃ t, PSs (cxOf CX P w K mg base N qual scope f cdv A outer s H E) body t ∧ t { nx := fun _ H' => Q .non H', rt := Q } (start N vs) H) :
    FnG P w K mg base CX (k + 1) f (PySem.W.fnOf name qual params body scope dV kV doc pm an cdv ct) ps sp where
  len := len
  run := by
    intro A outer s H args us vs Q E hg hr e0 hb r hsp
    have kept : ∀ b o, base.get? b = some o → s.heap.get? b = some o := fun b o e => (e0.bs b o e).1
    have KX : K.In s.heap := e0.mod.kin.keeps kept
    refine codeAny_call_function hr.depth (KX _ _ lk) rfl S.co S.gen rfl (PySem.W.codeRec_of KX hcd) (hb _ _ _ _ ?_)
    refine wpAny_newFunctionEnv_cells S.kind (fun y hy => ?_) ?_
    · obtain ⟨n, v⟩ := y
      cases S.par n (List.of_mem_zip hy).1 with
      | inl q => exact .inl q
      | inr q => exact .inr ⟨q, PySem.W.cellsFrom_some _ _ _ (.inl q)⟩
    · intro env he s1 x
      subst he
      refine ⟨(e0.mod.nolimit.keeps kept).keeps x.toInCall.keep, codeAny_func ?_⟩
      obtain ⟨t, ht, hq⟩ := hbody A outer s H vs Q E hg (hr.deeper _) hsp
      have I := inv_start (CX := CX) (E := E) S hr.hd e0 (len _ _ _ _ hsp) r x
      refine wpAny_mono (ht.run [] s1 (start N vs) H _ I hq) (fun fl s' hs => ?_) fun _ _ z => z
      match fl, hs with
      | .ret u, ⟨v, σ', H', J, rv, q⟩ => exact ⟨v, H', J.os, J.bare, J.base, J.hok, rv, q⟩
      | .next, ⟨σ', H', J, q⟩ => exact ⟨V.non, H', J.os, J.bare, J.base, J.hok, rfl, q⟩
      | .brk, ⟨_, _, _, q⟩ => exact False.elim q
      | .cont, ⟨_, _, _, q⟩ => exact False.elim q
/-- the same over Fun, where no exception leaves -/
theorem okG {x qual : Str} {st : Stmt} {N : List Str} (F : Fun K x qual st f fd) (S : FnScope N ps (defScope st)) (len : ∀ vs H Q E, sp vs H Q E → vs.length = ps.length)
    (hbody : ∀ (cdv : Value) (A : Around) (outer : List Env) (s : Shared) (H : Hp) (vs : List V) (Q : VK) (E : XK),
      A.guards = some [] → Room k (A.deeper (envOfC qual (defScope st) s.heap.objs.size f cdv)) → sp vs H Q E →
      ∃ t, PSs (cxOf CX0 P w K mg base N qual (defScope st) f cdv A outer s H E).nox (defBody st) t ∧ t { nx := fun _ H' => Q .non H', rt := Q } (start N vs) H) :
    FnG P w K mg base CX0 (k + 1) f fd ps sp := by
  obtain ⟨oc, od, kV, doc, pm, an, cdv, ct, osl, rfl, lk, hcd⟩ := F.ex
  exact fnG_of lk hcd S len fun A outer s H vs Q E hg hr hsp => let ⟨t, h, q⟩ := hbody cdv A outer s H vs Q E hg hr hsp; ⟨t, h.nox, q⟩
end

section
variable {X : Cx} {CX : CXT} {k : Nat} {f : Addr} {fd : FuncData} {ps : List Str} {sp : Sp} {dvs : List V} {ds : List Value} {E : XK} {x : Str} {p pos : Pos} {e : Expr} {es : List Expr} {t : TA}
theorem run_fnG {pins : List (Addr × Obj)} {σ : L2.St} {H : Hp} {s : Shared} {Q : VK} {us : List Value} {vs : List V} (F : FnG X.prog X.w X.K X.mg X.base CX k f fd ps sp) (hg : X.A.guards = some []) (hr : Room k X.A)
    (hb : Binds X.K fd ps ds) (hd : Vals dvs ds) (hx : Passes CX X E) (I : Inv X pins σ H s) (r : Vals vs us) (h : sp (vs ++ dvs) H Q E) :
    wpAny (model X.prog X.w) X.A (call (.ref f) us) (EP X pins σ Q) X.xe s := by
  have r2 := r.append hd
  have hl : (us ++ ds).length = ps.length := r2.length.symm.trans (F.len _ _ _ _ h)
  refine wpAny_call (codeAny_mono (F.run X.A X.stack s H ⟨us, []⟩ (us ++ ds) (vs ++ dvs) Q E hg hr I.env0 (hb s us I.kIn hl) r2 h) fun r s' hq => ?_)
  match r, hq with
  | .error e, hq => exact hx pins σ H s e s' I hq
  | .ok (.ret u), hq => exact I.after hq
  | .ok .next, hq => exact False.elim hq
  | .ok .brk, hq => exact False.elim hq
  | .ok .cont, hq => exact False.elim hq
/-- f(e, ..) of such a def -/
theorem pe_callG (F : FnG X.prog X.w X.K X.mg X.base CX k f fd ps sp) (hgd : X.A.guards = some []) (hr : Room k X.A) (hg : Gl X x) (hm : X.mg x = some (.ref f)) (hk : PySem.W.keepIn X.K (.ref f) = true)
    (hb : Binds X.K fd ps ds) (hd : Vals dvs ds) (hx : Passes CX X E) (ha : PA X (e :: es) t) (hdb : (x == ("__debug__" : Str)) = false := by decide)
    (he : starEach (e :: es) X.env = (false, eval e X.env) :: starEach es X.env := by rfl) (hpl : (backTo pos (starEach es X.env)).any (·.1) = false := by rfl) :
    PE X (.Call (.Name x p) (e :: es) [] pos) (tCall sp dvs E t) where
  run := fun pins s σ H Q I h => wpAny_Call_Name_kw (ld_glob I hg hm
    (PySem.W.callWith_K (h₀ := X.base) I.ok.mod.kin hk (thn (ha.run pos pins s σ H _ I h) fun us s1 z => let ⟨vs, H1, I1, r, q⟩ := z; ⟨I1.kIn, run_fnG F hgd hr hb hd hx I1 r q⟩) he hpl) hdb)
theorem pe_callG0 (F : FnG X.prog X.w X.K X.mg X.base CX k f fd ps sp) (hgd : X.A.guards = some []) (hr : Room k X.A) (hg : Gl X x) (hm : X.mg x = some (.ref f)) (hk : PySem.W.keepIn X.K (.ref f) = true)
    (hb : Binds X.K fd ps ds) (hd : Vals dvs ds) (hx : Passes CX X E) (hdb : (x == ("__debug__" : Str)) = false := by decide) :
    PE X (.Call (.Name x p) [] [] pos) (tCall sp dvs E tNil) where
  run := fun pins s σ H Q I h => wpAny_Call_Name_kw (ld_glob I hg hm (PySem.W.callWith_K0 I.kIn hk (run_fnG (us := []) F hgd hr hb hd hx I .nil h)) hdb)

/-- repr of data: its text is a function of the data alone -/
def rReprD (K : PySem.W.Frag) : List V → Hp → VK → Prop := fun xs H Q => ∃ x d, xs = [x] ∧ Dp K H x d ∧ d.showable = true ∧ d.hasDict = false ∧ d.depth ≤ 60 ∧ d.shown.length ≤ sizeLine ∧ Q (.str d.shown) H
end
end G58

set_option Elab.async false
set_option linter.all false
set_option maxRecDepth 100000
set_option maxHeartbeats 4000000
namespace G58
open L2 PyProof.Rows PySem.Spec PySem
section
variable {X : Cx}
theorem call_reprD (hg : X.A.guards = some []) (hu : X.A.units + 64 < cLine) : CallR X (.builtin "repr") (rReprD X.K) := by
  intro pins s σ H xs us Q I r h
  obtain ⟨x, d, rfl, hd, hs, hn, hp, hz, q⟩ := h
  obtain ⟨u, rfl, ru⟩ := r.one
  obtain ⟨as, rd⟩ := Dp.reads I d x u hd ru
  have big : ∀ a, u = .ref a → wpAny (model X.prog X.w) X.A (call (.builtin "repr") [u]) (EP X pins σ Q) X.xe s := by
    intro a e
    subst e
    refine repr_of_reads' rd hs (fun z => by rw [hn] at z; cases z) hg (by omega) (fun _ _ e => e) (fun h' u' tk hk => ?_) hz
    exact ⟨.str d.shown, H, I.kept hk, ⟨_, rfl⟩, q⟩
  cases hd with
  | non =>
    cases ru
    exact PySem.P.repr_of_none ⟨.str _, H, I.tok _, ⟨_, rfl⟩, q⟩
  | bl b =>
    cases ru
    exact PySem.P.repr_of_bool ⟨.str _, H, I.tok _, ⟨_, rfl⟩, q⟩
  | int i =>
    obtain ⟨t, rfl⟩ := ru
    exact PySem.P.repr_of_int (of_decide_eq_true hs) ⟨.str _, H, I.tok _, ⟨_, rfl⟩, q⟩
  | str z =>
    obtain ⟨t, rfl⟩ := ru
    exact PySem.P.repr_of_str ⟨.str _, H, I.tok _, ⟨_, rfl⟩, q⟩ hz
  | lst a b => exact big _ ru
  | tup a b => exact big _ ru
end
end G58

set_option Elab.async false
set_option linter.all false
set_option maxRecDepth 100000
set_option maxHeartbeats 4000000
namespace G58
open L2 PyProof.Rows PySem.Spec PySem
/-- the law's call from a heap in which at most the script is tracked -/
theorem callG_core {P : Program} {w : World} {K : PySem.W.Frag} {mg mb : Str → Option Value} {CX : CXT} {k : Nat} {fa a : Addr} {fd : FuncData} {x : Str} {sp : Sp} {s1 : Shared} {vs : List Value}
    (KX : K.In s1.heap) (hns : s1.heap.Ns mainGlobals mg) (hb : s1.heap.Ns builtinsNs mb) (hbb : ∀ x : Str, x ≠ "__name__" → mb x = bootBuiltins x) (hlim : s1.heap.NoLimit) (hg : s1.gens = #[])
    (ha : s1.heap.get? a = some { cls := .type "list", data := .seq vs.toArray }) (hr : Room k callerA)
    (F : ∀ base : Heap, K.In base → base.Ns mainGlobals mg → FnG P w K mg base CX k fa fd [x] sp) (hbind : ∀ (s : Shared) (u : Value), BindsTo s fd ⟨[u], []⟩ [(x, u)])
    (hCX : ∀ H e s', CX [] H s1 (fun _ _ _ => False) e s' → False)
    (H : Hp) (hO : Only H) (hok : HOk P w H s1.heap) (hA : ∀ b, H b ≠ none → b = a) (hK : H a ≠ none → K.lookup a = none)
    (hsp : sp [.ref a] H (fun v _ => v = .bl true) fun _ _ _ => False) :
    codeAny (model P w) callerA (.call (.ref fa) ⟨[.ref a], []⟩) (fun r s' => r = .ok (.ret (.bool true)) ∧ OldK s1.heap s'.heap ∧ s'.os = s1.os ∧ AllBare s'.gens) s1 := by
  have only : ∀ {b u}, H b = some u → b = a := fun {b u} z => hA b (fun n => by rw [z] at n; cases n)
  have free : ∀ {b : Addr} {o : Obj} {es : Array DictEntry} {ep : Nat}, s1.heap.get? b = some o → o.data = .dict es ep → H b = none := by
    intro b o es ep e d
    match q : H b with
    | none => rfl
    | some u =>
      have z := only q
      subst z
      rw [ha] at e
      injection e with e
      subst e
      injection d
  have nsB : ∀ {b : Addr} {m : Str → Option Value}, s1.heap.Ns b m → (hidT s1.heap H).Ns b m := by
    rintro b m ⟨o, es, ep, e, d, r⟩
    exact ⟨o, es, ep, hidT_get e (free e d), d, r⟩
  have inB : K.In (hidT s1.heap H) := by
    intro b o e
    refine hidT_get (KX b o e) ?_
    match q : H b with
    | none => rfl
    | some u =>
      have z := only q
      subst z
      rw [hK (by rw [q]; exact fun n => nomatch n)] at e
      cases e
  have e0 : Env0 P w K mg (hidT s1.heap H) callerA [] s1 H :=
    ⟨rfl, ⟨inB, nsB hns, ⟨mb, nsB hb, hbb⟩, let ⟨mc, z1, z2⟩ := hlim; ⟨mc, nsB z1, z2⟩⟩, fun _ _ e => of_hidT e, Nat.le_of_eq (hidT_size _ _), trivial, (fun _ z => (List.not_mem_nil z).elim), hok, .of_eq hg⟩
  refine codeAny_mono ((F _ inB (nsB hns)).run callerA [] s1 H ⟨[.ref a], []⟩ [.ref a] [.ref a] _ _ rfl hr e0 (hbind s1 (.ref a)) (.cons rfl .nil) hsp) fun r s' h => ?_
  match r, h with
  | .error e, h => exact (hCX H e s' h).elim
  | .ok .next, h => exact False.elim h
  | .ok .brk, h => exact False.elim h
  | .ok .cont, h => exact False.elim h
  | .ok (.ret u), ⟨v, H', os, bare, un, hok', r', q⟩ =>
    have q' : v = .bl true := q
    subst q'
    have r'' : u = Value.bool true := r'
    subst r''
    refine ⟨rfl, OldK.of_keep fun b o e => ?_, os, bare⟩
    match z : H b with
    | none => exact un.keep b o e z (fun n => (List.not_mem_nil n).elim) (fun n => (List.not_mem_nil n).elim)
    | some u =>
      cases hO b with
      | inl n => rw [z] at n; cases n
      | inr n =>
        obtain ⟨ob, ys, n⟩ := n
        obtain ⟨e1, _⟩ := hok b _ n
        obtain ⟨e2, _⟩ := hok' b _ (un.frzs b ob _ n)
        rw [e] at e1
        cases e1
        exact e2
/-- the law's call -/
theorem callG {P : Program} {w : World} {K : PySem.W.Frag} {mg mb : Str → Option Value} {CX : CXT} {k : Nat} {fa a : Addr} {fd : FuncData} {x : Str} {sp : Sp} {s1 : Shared} {vs : List Value} {ns : List Int}
    (KX : K.In s1.heap) (hns : s1.heap.Ns mainGlobals mg) (hb : s1.heap.Ns builtinsNs mb) (hbb : ∀ x : Str, x ≠ "__name__" → mb x = bootBuiltins x) (hlim : s1.heap.NoLimit) (hg : s1.gens = #[])
    (ha : s1.heap.get? a = some { cls := .type "list", data := .seq vs.toArray }) (hi : IntsAre vs ns) (hl : ns.length ≤ sizeLine) (hr : Room k callerA)
    (F : ∀ base : Heap, K.In base → base.Ns mainGlobals mg → FnG P w K mg base CX k fa fd [x] sp) (hbind : ∀ (s : Shared) (u : Value), BindsTo s fd ⟨[u], []⟩ [(x, u)])
    (hsp : ∀ H : Hp, Only H → SqL K H a (ns.map V.int) → sp [.ref a] H (fun v _ => v = .bl true) fun _ _ _ => False)
    (hCX : ∀ H e s', CX [] H s1 (fun _ _ _ => False) e s' → False) :
    codeAny (model P w) callerA (.call (.ref fa) ⟨[.ref a], []⟩) (fun r s' => r = .ok (.ret (.bool true)) ∧ OldK s1.heap s'.heap ∧ s'.os = s1.os ∧ AllBare s'.gens) s1 := by
  have core := callG_core KX hns hb hbb hlim hg ha hr F hbind hCX
  have rv := vals_ints hi
  match hk : K.lookup a with
  | some o =>
    have e := KX a o hk
    rw [ha] at e
    injection e with e
    subst e
    have only : Only fun _ => none := fun _ => .inl rfl
    refine core (fun _ => none) only (fun _ _ z => nomatch z) (fun _ z => absurd rfl z) (fun z => absurd rfl z) (hsp _ only (.inr ⟨_, vs.toArray, _, hk, rfl, rfl, rfl, ?_, by simpa using rv⟩))
    rw [List.size_toArray, hi.length]
    exact hl
  | none =>
    have at1 : ∀ b, (fun b => if b = a then some (HO.frz { cls := .type "list", data := .seq vs.toArray } (.lst (ns.map V.int))) else none : Hp) b ≠ none → b = a := by
      intro b z
      by_cases q : b = a
      · exact q
      · exact absurd (if_neg q) z
    have only : Only fun b => if b = a then some (HO.frz { cls := .type "list", data := .seq vs.toArray } (.lst (ns.map V.int))) else none := by
      intro b
      by_cases q : b = a
      · exact .inr ⟨_, _, if_pos q⟩
      · exact .inl (if_neg q)
    refine core _ only (fun b u z => ?_) at1 (fun _ => hk) (hsp _ only (.inl (.inr ⟨_, if_pos rfl⟩)))
    have q := at1 b (fun n => nomatch (z.symm.trans n))
    subst q
    have z2 := (if_pos rfl).symm.trans z
    injection z2 with z2
    subst z2
    exact ⟨ha, by rw [List.length_map]; exact hl, vs, _, rv, ha⟩
/-- what the head leaves, from the law's promise -/
theorem walkG {l : PySem.W.OpenLaw} {n k : Nat} {q : Program} {loose : List Str} {XP : (Str → Option Value) → Heap → Prop} {YP : World → Heap → Prop} {d : DefRec} {K : Params → PySem.W.Frag} {sp : PySem.W.Frag → Sp} {x : Str}
    (hn : l.most = some n) (hn2 : n ≤ sizeLine) (hdf : d.params.defaults = []) (hr : Room k callerA) (hY : ∀ (w : World) (h : Heap), YP w h → (K w.params).In h)
    (F : ∀ (w : World) (mg : Str → Option Value) (fa : Addr) (h : Heap), (K w.params).In h → h.Ns mainGlobals mg → mg d.name = some (.ref fa) →
      ∃ fd : FuncData, (∀ (s : Shared) (u : Value), BindsTo s fd ⟨[u], []⟩ [(x, u)]) ∧
        ∀ base : Heap, (K w.params).In base → base.Ns mainGlobals mg → FnG l.prog w (K w.params) mg base CX0 k fa fd [x] (sp (K w.params)))
    (hsp : ∀ (K : PySem.W.Frag) (H : Hp) (a : Addr) (ns : List Int), ns.length ≤ n → Only H → SqL K H a (ns.map V.int) → sp K [.ref a] H (fun v _ => v = .bl true) fun _ _ _ => False) :
    PySem.W.WalkO q loose XP YP l.row.toRowW d [] (fun f vs => PySem.call f vs) := by
  refine Att.attach_call hn hdf ?_
  intro w s0 s1 mg mb fa o pm cd doc a vs ns G Y ho hd hcd hmg hobj hints hlen hg
  have KX := hY w _ Y
  obtain ⟨fd, hb, hF⟩ := F w mg fa _ KX G.T.g hmg
  exact callG KX G.T.g G.T.b G.T.builtins G.T.nolimit hg hobj hints (Nat.le_trans hlen hn2) hr hF hb (fun H hO hS => hsp _ H a ns hlen hO hS) fun _ _ _ z => z
end G58

set_option Elab.async false
set_option linter.all false
set_option maxRecDepth 100000
set_option maxHeartbeats 4000000
namespace G58
open L2 PyProof.Rows PySem.Spec PySem
/-- a def of the module by its name, and what it promises -/
structure Dn (P : Program) (w : World) (K : PySem.W.Frag) (mg : Str → Option Value) (base : Heap) (k : Nat) (x : Str) (sp : Sp) : Prop where
  ex : ∃ (f : Addr) (fd : FuncData) (ps : List Str), mg x = some (.ref f) ∧ PySem.W.keepIn K (.ref f) = true ∧ Binds K fd ps [] ∧ FnOk P w K mg base CX0 k f fd ps sp
structure DnG (P : Program) (w : World) (K : PySem.W.Frag) (mg : Str → Option Value) (base : Heap) (k : Nat) (x : Str) (sp : Sp) : Prop where
  ex : ∃ (f : Addr) (fd : FuncData) (ps : List Str), mg x = some (.ref f) ∧ PySem.W.keepIn K (.ref f) = true ∧ Binds K fd ps [] ∧ FnG P w K mg base CX0 k f fd ps sp
section
variable {X : Cx} {k : Nat} {sp : Sp} {x : Str} {p pos : Pos} {e : Expr} {es : List Expr} {t : TA}
theorem pe_cl (D : Dn X.prog X.w X.K X.mg X.base k x sp) (hr : Room k X.A) (ha : PA X (e :: es) t) (hg : Gl X x := by rfl) (hdb : (x == ("__debug__" : Str)) = false := by decide)
    (he : starEach (e :: es) X.env = (false, eval e X.env) :: starEach es X.env := by rfl) (hpl : (backTo pos (starEach es X.env)).any (·.1) = false := by rfl) :
    PE X (.Call (.Name x p) (e :: es) [] pos) (tCall sp [] E0 t) := by
  obtain ⟨f, fd, ps, hm, hk, hb, F⟩ := D.ex
  exact pe_call F hr hg hm hk hb .nil pass0 ha hdb he hpl
theorem pe_clG (D : DnG X.prog X.w X.K X.mg X.base k x sp) (hgd : X.A.guards = some []) (hr : Room k X.A) (ha : PA X (e :: es) t) (hg : Gl X x := by rfl) (hdb : (x == ("__debug__" : Str)) = false := by decide)
    (he : starEach (e :: es) X.env = (false, eval e X.env) :: starEach es X.env := by rfl) (hpl : (backTo pos (starEach es X.env)).any (·.1) = false := by rfl) :
    PE X (.Call (.Name x p) (e :: es) [] pos) (tCall sp [] E0 t) := by
  obtain ⟨f, fd, ps, hm, hk, hb, F⟩ := D.ex
  exact pe_callG F hgd hr hg hm hk hb .nil pass0 ha hdb he hpl
end
/-! steps of a reading -/
section
variable {σ : L2.St} {H : Hp} {i j : Nat} {v x y : V} {ta tb te tc : TE} {c d : TT} {Q : VK} {QT : Bool → Hp → Prop} {QA : List V → Hp → Prop} {tl : TA} {nx bk ct : L2.St → Hp → Prop} {rt : VK} {t1 t2 : TS} {D : Ends}
theorem i_var (h : σ[i]? = some (some v)) (q : Q v H) : tVar i σ H Q := ⟨v, h, q⟩
theorem i_c (q : Q v H) : tC v σ H Q := q
theorem i_op {r : R2} (h : ta σ H fun x H1 => tb σ H1 fun y H2 => r x y H2 Q) : tOp r ta tb σ H Q := h
theorem i_un {r : V → Hp → VK → Prop} (h : ta σ H fun x H1 => r x H1 Q) : tUn r ta σ H Q := h
theorem i_I0 {g : Int → Int → V} {a b : Int} (q : Q (g a b) H) : rI0 g (.int a) (.int b) H Q := ⟨a, b, rfl, rfl, q⟩
theorem i_I {C : Int → Int → Prop} {g : Int → Int → V} {a b : Int} (hc : C a b) (q : Q (g a b) H) : rI C g (.int a) (.int b) H Q := ⟨a, b, rfl, rfl, hc, q⟩
theorem i_U {g : Int → V} {a : Int} (q : Q (g a) H) : rU g (.int a) H Q := ⟨a, rfl, q⟩
theorem i_eq (h : scal x y = true) (q : Q (.bl (decide (x = y))) H) : rEq x y H Q := ⟨h, q⟩
theorem i_ne (h : scal x y = true) (q : Q (.bl (!decide (x = y))) H) : rNe x y H Q := ⟨h, q⟩
theorem i_isN (h : ta σ H fun x H1 => Q (.bl (decide (x = .non))) H1) : tIsN ta σ H Q := h
theorem i_notN (h : ta σ H fun x H1 => Q (.bl (!decide (x = .non))) H1) : tNotN ta σ H Q := h
theorem i_B (h : ta σ H fun x H1 => ∃ c, x = .bl c ∧ QT c H1) : tB ta σ H QT := h
theorem i_test (h : ta σ H fun x H1 => ∃ c, x = .bl c ∧ QT c H1) : tTest ta σ H QT := h
theorem i_bl {b : Bool} {R : Bool → Prop} (q : R b) : ∃ c, V.bl b = .bl c ∧ R c := ⟨b, rfl, q⟩
theorem i_and (h : c σ H fun b H1 => if b = true then d σ H1 QT else QT false H1) : tAnd c d σ H QT := h
theorem i_or (h : c σ H fun b H1 => if b = true then QT true H1 else d σ H1 QT) : tOr c d σ H QT := h
theorem i_not (h : c σ H fun b H1 => QT (!b) H1) : tNot c σ H QT := h
theorem i_andV (h : ta σ H fun x H1 => ∃ c, x = .bl c ∧ if c = true then tb σ H1 Q else Q (.bl false) H1) : tAndV ta tb σ H Q := h
theorem i_orV (h : ta σ H fun x H1 => ∃ c, x = .bl c ∧ if c = true then Q (.bl true) H1 else tb σ H1 Q) : tOrV ta tb σ H Q := h
theorem i_notV (h : ta σ H fun x H1 => ∃ c, x = .bl c ∧ Q (.bl (!c)) H1) : tNotV ta σ H Q := h
theorem i_if (h : c σ H fun b H1 => if b = true then ta σ H1 Q else tb σ H1 Q) : tIf c ta tb σ H Q := h
theorem i_nil (q : QA [] H) : tNil σ H QA := q
theorem i_cons (h : ta σ H fun x H1 => tl σ H1 fun xs H2 => QA (x :: xs) H2) : tCons ta tl σ H QA := h
theorem i_cb {r : List V → Hp → VK → Prop} (h : tl σ H fun vs H1 => r vs H1 Q) : tCB r tl σ H Q := h
theorem i_call {sp : Sp} {E : XK} (h : tl σ H fun vs H1 => sp (vs ++ []) H1 Q E) : tCall sp [] E tl σ H Q := h
/-- a new object, told by what stays -/
abbrev New (H : Hp) (o : HO) (Q : VK) : Prop := ∀ p H', H p = none → Same H H' → H' p = some o → Q (.ref p) H'
theorem same_new {o : HO} {p : Addr} (n : H p = none) : Same H (upd H p o) := fun b o e => by rw [upd_ne (ne_of_none e n)]; exact e
theorem New.to {o : HO} (k : New H o Q) : ∀ p, H p = none → Q (.ref p) (upd H p o) := fun p n => k p _ n (same_new n) upd_same
abbrev NewS (xs : List V) (H : Hp) (o : HO) (Q : VK) : Prop := xs.length ≤ sizeLine ∧ New H o Q
/-- a reading of arguments, made monotone in what follows -/
def moA (t : TA) : TA := fun σ H Q' => ∃ Q0, t σ H Q0 ∧ ∀ vs H1, Q0 vs H1 → Q' vs H1
def tTupN (t : TA) : TE := tTup (moA t)
def tLstN (t : TA) : TE := tLst (moA t)
theorem i_tup (h : tl σ H fun xs H1 => NewS xs H1 (.tup xs) Q) : tTupN tl σ H Q := ⟨_, h, fun _ _ z => ⟨z.1, z.2.to⟩⟩
theorem i_lst (h : tl σ H fun xs H1 => NewS xs H1 (.lst xs) Q) : tLstN tl σ H Q := ⟨_, h, fun _ _ z => ⟨z.1, z.2.to⟩⟩
theorem i_new {o : HO} {xs : List V} (h : decide (xs.length ≤ 1000) = true) (k : New H o Q) : NewS xs H o Q := ⟨Nat.le_trans (of_decide_eq_true h) (by decide), k⟩
def rDm : List V → Hp → VK → Prop := fun xs H Q => ∃ a b, xs = [.int a, .int b] ∧ 0 < b ∧ b.natAbs.log2 < 9000 ∧ New H (.tup [.int (a / b), .int (a % b)]) Q
theorem i_seq (h : t1 (Ends.mk (t2 (Ends.mk nx rt bk ct)) rt bk ct) σ H) : tSeq t1 t2 (Ends.mk nx rt bk ct) σ H := h
theorem i_set (h : te σ H fun x H1 => nx (σ.set i (some x)) H1) : tAsg te (gName i) (Ends.mk nx rt bk ct) σ H := h
theorem i_asg {g : TG} (h : te σ H fun x H1 => g x σ H1 nx) : tAsg te g (Ends.mk nx rt bk ct) σ H := h
theorem i_par (h : tl σ H fun vs H1 => ∃ v w, vs = [v, w] ∧ nx ((σ.set i (some v)).set j (some w)) H1) : tPar i j tl (Ends.mk nx rt bk ct) σ H := h
theorem i_par2 {y : V} {R : V → V → Prop} (q : R x y) : ∃ v w, [x, y] = [v, w] ∧ R v w := ⟨x, y, rfl, q⟩
theorem i_drop (h : te σ H fun _ H1 => nx σ H1) : tDrop te (Ends.mk nx rt bk ct) σ H := h
theorem i_ret (h : te σ H rt) : tRet te (Ends.mk nx rt bk ct) σ H := h
theorem i_retN (h : rt .non H) : tRetN (Ends.mk nx rt bk ct) σ H := h
theorem i_next (h : nx σ H) : tNext (Ends.mk nx rt bk ct) σ H := h
theorem i_ifS (h : c σ H fun b H1 => if b = true then t1 D σ H1 else t2 D σ H1) : tIfS c t1 t2 D σ H := h
theorem i_iteT {A B : Prop} (h : A) : if true = true then A else B := iteT h
theorem i_iteF {A B : Prop} (h : B) : if false = true then A else B := iteF h
/-- new objects, told by what stays -/
theorem newO0 {o : HO} {Q : Addr → Hp → Prop} (k : ∀ p H', H p = none → Same H H' → H' p = some o → (∀ b, b ≠ p → H' b = H b) → Q p H') : ∀ p, H p = none → Q p (upd H p o) := fun p n =>
  k p _ n (fun b o e => by rw [upd_ne (ne_of_none e n)]; exact e) upd_same fun b h => upd_ne h
theorem i_len2 {xs : List V} {A : Prop} (h : xs.length ≤ 1000) (a : A) : xs.length ≤ sizeLine ∧ A := ⟨Nat.le_trans h (by decide), a⟩
end
theorem i_isi {K : PySem.W.Frag} {H : Hp} {Q : VK} {x c : V} {t u : Value} {b : Bool} (k : ClsV c u) (ty : TyX K H x t) (e : PySem.W.kitOne K t u = some b) (q : Q (.bl b) H) : rIsi K [x, c] H Q := ⟨x, c, t, u, b, rfl, k, ty, e, q⟩
section
variable {K : PySem.W.Frag} {H : Hp} {Q : VK} {i : Int}
theorem i_isiII (q : Q (.bl true) H) : rIsi K [.int i, .ty "int"] H Q := i_isi (.ty _) (.base (.int i)) (kit_ty (by decide +kernel)) q
theorem i_isiIB (q : Q (.bl false) H) : rIsi K [.int i, .ty "bool"] H Q := i_isi (.ty _) (.base (.int i)) (kit_ty (by decide +kernel)) q
theorem i_nT {A B : Prop} (h : B) : if (!true) = true then A else B := iteF h
theorem i_nF {A B : Prop} (h : A) : if (!false) = true then A else B := iteT h
end
section
variable {X : Cx} {es : List Expr} {t : TA} {pos : Pos}
theorem pa_mo (h : PA X es t) : PA X es (moA t) := ⟨fun pos pins s σ H Q I z => let ⟨Q0, h0, k⟩ := z; thn (h.run pos pins s σ H Q0 I h0) fun us s1 y => let ⟨vs, H1, I1, r, q⟩ := y; ⟨vs, H1, I1, r, k _ _ q⟩⟩
theorem pe_tupN {x1} (h : PA X es t) : PE X (.Tuple es x1 pos) (tTupN t) := pe_tup (pa_mo h)
theorem pe_lstN (h : PA X es t) : PE X (.List es pos) (tLstN t) := pe_lst (pa_mo h)
theorem call_dm : CallR X (.builtin "divmod") rDm := fun pins s σ H xs us Q I r h => let ⟨a, b, e, h1, h2, k⟩ := h; call_divmodW pins s σ H xs us Q I r ⟨a, b, e, ⟨h1, PyProof.noPylong_of_log2 h2⟩, k.to⟩
end
/-! values in the form of built-in calls -/
section
variable {K : PySem.W.Frag} {σ : L2.St} {H : Hp} {Q : VK} {a b : Int} {p : Addr} {xs : List V} {v : V}
theorem i_ex1 {R : Int → Prop} (q : R a) : ∃ i, [V.int a] = [V.int i] ∧ R i := ⟨a, rfl, q⟩
theorem i_ex2 {R : Int → Int → Prop} (q : R a b) : ∃ i j, [V.int a, V.int b] = [V.int i, V.int j] ∧ R i j := ⟨a, b, rfl, q⟩
theorem i_toI {R : Int → Prop} {R' : Bool → Prop} (q : R a) : (∃ i, [V.int a] = [V.int i] ∧ R i) ∨ ∃ k, [V.int a] = [V.bl k] ∧ R' k := .inl ⟨a, rfl, q⟩
theorem i_toB {R : Int → Prop} {R' : Bool → Prop} {c : Bool} (q : R' c) : (∃ i, [V.bl c] = [V.int i] ∧ R i) ∨ ∃ k, [V.bl c] = [V.bl k] ∧ R' k := .inr ⟨c, rfl, q⟩
theorem i_lenL {R : List V → Prop} (h : SqL K H p xs) (q : R xs) : ∃ p' ys, [V.ref p] = [V.ref p'] ∧ (SqL K H p' ys ∨ SqT K H p' ys) ∧ R ys := ⟨p, xs, rfl, .inl h, q⟩
theorem i_ixL {i : Int} (h : SqL K H p xs) (ha : atI xs i = some v) (q : Q v H) : rIxL K (.ref p) (.int i) H Q := ⟨p, xs, i, v, rfl, rfl, h, ha, q⟩
theorem i_ixT {i : Int} (h : SqT K H p xs) (ha : atI xs i = some v) (q : Q v H) : rIxT K (.ref p) (.int i) H Q := ⟨p, xs, i, v, rfl, rfl, h, ha, q⟩
theorem i_mulR {g : Int → Int → V} (h : (-(2 ^ 64) < b ∧ b < 2 ^ 64)) (q : Q (g a b) H) : rI CMul g (.int a) (.int b) H Q := i_I (.inr h) q
theorem i_mulL {g : Int → Int → V} (h : (-(2 ^ 64) < a ∧ a < 2 ^ 64)) (q : Q (g a b) H) : rI CMul g (.int a) (.int b) H Q := i_I (.inl h) q
theorem i_mod {g : Int → Int → V} (h : 0 < b) (q : Q (g a b) H) : rI (fun _ j => 0 < j) g (.int a) (.int b) H Q := i_I h q
theorem i_div {g : Int → Int → V} (h : 0 < b ∧ b < 1073741824) (q : Q (g a b) H) : rI CDiv g (.int a) (.int b) H Q := i_I h q
theorem i_gtup {n : Nat} {t : TGs} {R : L2.St → Hp → Prop} (h : SqT K H p xs) (l : xs.length = n) (q : t xs σ H R) : gTup K n t (.ref p) σ H R := ⟨p, xs, rfl, h, l, q⟩
theorem i_gcons {t : TG} {u : TGs} {r : List V} {R : L2.St → Hp → Prop} (q : t v σ H fun σ' H' => u r σ' H' R) : gCons t u (v :: r) σ H R := ⟨v, r, rfl, q⟩
theorem i_gnil {R : L2.St → Hp → Prop} (q : R σ H) : gNil [] σ H R := ⟨rfl, q⟩
theorem i_gname {i : Nat} {R : L2.St → Hp → Prop} (q : R (σ.set i (some v)) H) : gName i v σ H R := q
theorem i_gsub {to ti : TE} {t : TSet} {R : L2.St → Hp → Prop} (q : to σ H fun o H1 => ti σ H1 fun i H2 => t o i v H2 fun H3 => R σ H3) : gSub to ti t v σ H R := q
theorem i_setL {k : Int} {j : Nat} {R : Hp → Prop} (h : H p = some (.lst xs)) (e : ixN xs.length k = some j) (q : R (upd H p (.lst (xs.set j v)))) : rSetL (.ref p) (.int k) v H R := ⟨p, xs, k, j, rfl, rfl, h, e, q⟩
end
theorem i_p10_4 {H : Hp} {Q : VK} (q : Q (.int 10000) H) : rI CPow (fun i j => .int (i ^ j.toNat)) (.int 10) (.int 4) H Q := i_I ⟨by decide, by decide, by decide⟩ (show Q (.int ((10 : Int) ^ (4 : Int).toNat)) H by rw [show ((10 : Int) ^ (4 : Int).toNat) = 10000 from by decide +kernel]; exact q)
theorem i_p10_9 {H : Hp} {Q : VK} (q : Q (.int 1000000000) H) : rI CPow (fun i j => .int (i ^ j.toNat)) (.int 10) (.int 9) H Q := i_I ⟨by decide, by decide, by decide⟩ (show Q (.int ((10 : Int) ^ (9 : Int).toNat)) H by rw [show ((10 : Int) ^ (9 : Int).toNat) = 1000000000 from by decide +kernel]; exact q)
theorem i_p10_18 {H : Hp} {Q : VK} (q : Q (.int 1000000000000000000) H) : rI CPow (fun i j => .int (i ^ j.toNat)) (.int 10) (.int 18) H Q := i_I ⟨by decide, by decide, by decide⟩ (show Q (.int ((10 : Int) ^ (18 : Int).toNat)) H by rw [show ((10 : Int) ^ (18 : Int).toNat) = 1000000000000000000 from by decide +kernel]; exact q)
theorem i_p10_20 {H : Hp} {Q : VK} (q : Q (.int 100000000000000000000) H) : rI CPow (fun i j => .int (i ^ j.toNat)) (.int 10) (.int 20) H Q := i_I ⟨by decide, by decide, by decide⟩ (show Q (.int ((10 : Int) ^ (20 : Int).toNat)) H by rw [show ((10 : Int) ^ (20 : Int).toNat) = 100000000000000000000 from by decide +kernel]; exact q)
theorem i_p10_30 {H : Hp} {Q : VK} (q : Q (.int 1000000000000000000000000000000) H) : rI CPow (fun i j => .int (i ^ j.toNat)) (.int 10) (.int 30) H Q := i_I ⟨by decide, by decide, by decide⟩ (show Q (.int ((10 : Int) ^ (30 : Int).toNat)) H by rw [show ((10 : Int) ^ (30 : Int).toNat) = 1000000000000000000000000000000 from by decide +kernel]; exact q)
theorem i_p10_40 {H : Hp} {Q : VK} (q : Q (.int 10000000000000000000000000000000000000000) H) : rI CPow (fun i j => .int (i ^ j.toNat)) (.int 10) (.int 40) H Q := i_I ⟨by decide, by decide, by decide⟩ (show Q (.int ((10 : Int) ^ (40 : Int).toNat)) H by rw [show ((10 : Int) ^ (40 : Int).toNat) = 10000000000000000000000000000000000000000 from by decide +kernel]; exact q)
theorem i_p10_58 {H : Hp} {Q : VK} (q : Q (.int 10000000000000000000000000000000000000000000000000000000000) H) : rI CPow (fun i j => .int (i ^ j.toNat)) (.int 10) (.int 58) H Q := i_I ⟨by decide, by decide, by decide⟩ (show Q (.int ((10 : Int) ^ (58 : Int).toNat)) H by rw [show ((10 : Int) ^ (58 : Int).toNat) = 10000000000000000000000000000000000000000000000000000000000 from by decide +kernel]; exact q)
theorem i_p10_60 {H : Hp} {Q : VK} (q : Q (.int 1000000000000000000000000000000000000000000000000000000000000) H) : rI CPow (fun i j => .int (i ^ j.toNat)) (.int 10) (.int 60) H Q := i_I ⟨by decide, by decide, by decide⟩ (show Q (.int ((10 : Int) ^ (60 : Int).toNat)) H by rw [show ((10 : Int) ^ (60 : Int).toNat) = 1000000000000000000000000000000000000000000000000000000000000 from by decide +kernel]; exact q)
theorem i_p10_61 {H : Hp} {Q : VK} (q : Q (.int 10000000000000000000000000000000000000000000000000000000000000) H) : rI CPow (fun i j => .int (i ^ j.toNat)) (.int 10) (.int 61) H Q := i_I ⟨by decide, by decide, by decide⟩ (show Q (.int ((10 : Int) ^ (61 : Int).toNat)) H by rw [show ((10 : Int) ^ (61 : Int).toNat) = 10000000000000000000000000000000000000000000000000000000000000 from by decide +kernel]; exact q)
theorem i_p10_64 {H : Hp} {Q : VK} (q : Q (.int 10000000000000000000000000000000000000000000000000000000000000000) H) : rI CPow (fun i j => .int (i ^ j.toNat)) (.int 10) (.int 64) H Q := i_I ⟨by decide, by decide, by decide⟩ (show Q (.int ((10 : Int) ^ (64 : Int).toNat)) H by rw [show ((10 : Int) ^ (64 : Int).toNat) = 10000000000000000000000000000000000000000000000000000000000000000 from by decide +kernel]; exact q)
/-! heaps -/
/-- all but the object at p is as it was -/
def Ext (p : Addr) (H H' : Hp) : Prop := ∀ b o, b ≠ p → H b = some o → H' b = some o
theorem Ext.refl (p : Addr) (H : Hp) : Ext p H H := fun _ _ _ h => h
theorem Ext.trans {p : Addr} {H H1 H2 : Hp} (a : Ext p H H1) (b : Ext p H1 H2) : Ext p H H2 := fun c o n h => b c o n (a c o n h)
theorem Ext.same {p : Addr} {H H' : Hp} (s : Same H H') : Ext p H H' := fun b o _ h => s b o h
theorem Ext.put {p : Addr} {H : Hp} {o : HO} : Ext p H (L2.upd H p o) := fun b _ n h => by rw [upd_ne n]; exact h
theorem Ext.tup {p t : Addr} {H H' : Hp} {xs ys : List V} (e : Ext p H H') (hp : H p = some (.lst ys)) (h : H t = some (.tup xs)) : H' t = some (.tup xs) :=
  e t _ (fun z => by rw [z, hp] at h; cases h) h
theorem Same.new {H : Hp} {p : Addr} {o : HO} (n : H p = none) : Same H (L2.upd H p o) := fun b o e => by rw [upd_ne (ne_of_none e n)]; exact e
theorem Same.tup {K : PySem.W.Frag} {H H' : Hp} {a : Addr} {xs : List V} (e : Same H H') (h : SqT K H a xs) : SqT K H' a xs := by
  rcases h with (h | ⟨o, h⟩) | h
  · exact .inl (.inl (e _ _ h))
  · exact .inl (.inr ⟨o, e _ _ h⟩)
  · exact .inr h
theorem abs_eq (i : Int) : (if i < 0 then -i else i) = (i.natAbs : Int) := by split <;> omega
theorem i_setH {H : Hp} {p : Addr} {xs ys : List V} {v : V} {k : Int} {j : Nat} {R : Hp → Prop} (h : H p = some (.lst xs)) (e : ixN xs.length k = some j) (ey : xs.set j v = ys)
    (q : ∀ H', Ext p H H' → H' p = some (.lst ys) → R H') : rSetL (.ref p) (.int k) v H R := i_setL h e (q _ Ext.put (by rw [ey]; exact upd_same))
theorem atI_in {α : Type} {xs : List α} {d : Int} (h0 : 0 ≤ d) (h : d.toNat < xs.length) : atI xs d = some (xs[d.toNat]'h) := by
  have e : ((d.toNat : Nat) : Int) = d := by omega
  have z := atI_nat (xs := xs) (j := d.toNat) (v := xs[d.toNat]'h) (List.getElem?_eq_getElem h)
  rw [e] at z
  exact z
/-! an if by the answer of its test -/
section
variable {σ : L2.St} {H : Hp} {c : TT} {t1 t2 : TS} {D : Ends} {ta tb : TE} {Q : VK}
theorem i_ifT (b : Bool) (h : ∀ QT : Bool → Hp → Prop, QT b H → c σ H QT) (h1 : b = true → t1 D σ H) (h2 : b = false → t2 D σ H) : tIfS c t1 t2 D σ H := by
  refine h _ ?_
  cases b with
  | true => exact iteT (h1 rfl)
  | false => exact iteF (h2 rfl)
theorem i_ifE (b : Bool) (h : ∀ QT : Bool → Hp → Prop, QT b H → c σ H QT) (h1 : b = true → ta σ H Q) (h2 : b = false → tb σ H Q) : tIf c ta tb σ H Q := by
  refine h _ ?_
  cases b with
  | true => exact iteT (h1 rfl)
  | false => exact iteF (h2 rfl)
/-- the same where the test leaves new objects -/
theorem i_ifN (b : Bool) (h : ∀ QT : Bool → Hp → Prop, (∀ H', Same H H' → QT b H') → c σ H QT) (h1 : b = true → ∀ H', Same H H' → t1 D σ H') (h2 : b = false → ∀ H', Same H H' → t2 D σ H') : tIfS c t1 t2 D σ H := by
  refine h _ fun H' s => ?_
  cases b with
  | true => exact iteT (h1 rfl H' s)
  | false => exact iteF (h2 rfl H' s)
end
section
variable {K : PySem.W.Frag} {σ : L2.St} {H : Hp} {c : TT} {t1 t2 : TS} {nx bk ct : L2.St → Hp → Prop} {rt : VK} {Q : VK} {l : Addr} {xs : List V} {y : V}
/-- an if whose ways meet -/
theorem i_ifJ (b : Bool) (R : Hp → Prop) (h : ∀ QT : Bool → Hp → Prop, QT b H → c σ H QT) (h1 : b = true → ∀ nx', (∀ H', R H' → nx' σ H') → t1 (Ends.mk nx' rt bk ct) σ H)
    (h2 : b = false → ∀ nx', (∀ H', R H' → nx' σ H') → t2 (Ends.mk nx' rt bk ct) σ H) (k : ∀ H', R H' → nx σ H') : tIfS c t1 t2 (Ends.mk nx rt bk ct) σ H :=
  i_ifT b h (fun e => h1 e nx k) (fun e => h2 e nx k)
theorem i_bm {T : String} {r : V → List V → Hp → VK → Prop} {to : TE} {t : TA} (h : to σ H fun x H1 => tyV K T x H1 ∧ t σ H1 fun xs H2 => r x xs H2 Q) : tBM K T r to t σ H Q := h
theorem i_bm0 {T : String} {r : V → List V → Hp → VK → Prop} {to : TE} (h : to σ H fun x H1 => tyV K T x H1 ∧ r x [] H1 Q) : tBM0 K T r to σ H Q := h
theorem i_tyL {A : Prop} (h : H l = some (.lst xs)) (k : A) : tyV K "list" (.ref l) H ∧ A := ⟨.inl ⟨rfl, _, SqL.of h⟩, k⟩
theorem i_append (h : H l = some (.lst xs)) (hz : xs.length ≤ 1000) (q : ∀ H', Ext l H H' → H' l = some (.lst (xs ++ [y])) → Q .non H') : rAppend (.ref l) [y] H Q :=
  ⟨l, xs, y, rfl, rfl, h, Nat.lt_of_le_of_lt hz (by decide), q _ Ext.put upd_same⟩
theorem i_extend {b : Addr} {zs : List V} (h : H l = some (.lst xs)) (hb : H b = some (.lst zs)) (hz : xs.length + zs.length ≤ 1000) (q : ∀ H', Ext l H H' → H' l = some (.lst (xs ++ zs)) → Q .non H') : rExtend (.ref l) [.ref b] H Q :=
  ⟨l, b, xs, zs, rfl, rfl, h, hb, Nat.le_trans hz (by decide), q _ Ext.put upd_same⟩
theorem same_ext {H1 H2 : Hp} (s1 : Same H H1) (nl : H l = none) (e : Ext l H1 H2) : Same H H2 := fun b o z => e b o (ne_of_none z nl) (s1 b o z)
end
section
variable {K : PySem.W.Frag} {σ : L2.St} {H : Hp} {g : TG} {tb : TS} {D : Ends} {wi : TI} {tl : TE} {ta : TA} {R : It → Hp → Prop} {tt : TT} {te : TE} {vs : List Nat} {Q : VK}
theorem i_for {nx bk ct : L2.St → Hp → Prop} {rt : VK} (h : wi σ H fun J H1 => ∃ W : Nat → Nat → L2.St → Hp → Prop, (∃ m, W 0 m σ H1) ∧ ∀ i m σ H, W i m σ H →
  (J.stop i H ∧ nx σ H) ∨ (J.go i H ∧ ∃ N : L2.St → Hp → Prop, (∀ σ' H', N σ' H' → ∃ m', m' < m ∧ W (i + 1) m' σ' H') ∧ ∀ x H', J.yld i H x H' → g x σ H' fun σ2 H2 => tb (Ends.mk N rt nx N) σ2 H2)) : tFor wi g tb (Ends.mk nx rt bk ct) σ H := h
theorem fTup {a : Addr} {xs : List V} {nx : L2.St → Hp → Prop} {rt : VK} (Pv : Nat → L2.St → Hp → Prop) (h0 : Pv 0 σ H) (hl : ∀ i σ H, i ≤ xs.length → Pv i σ H → SqT K H a xs)
    (hs : ∀ i x σ H, xs[i]? = some x → Pv i σ H → g x σ H fun σ2 H2 => tb (Ends.mk (Pv (i + 1)) rt nx (Pv (i + 1))) σ2 H2) (hd : ∀ σ H, Pv xs.length σ H → nx σ H) :
    ∃ W : Nat → Nat → L2.St → Hp → Prop, (∃ m, W 0 m σ H) ∧ ∀ i m σ H, W i m σ H →
      ((Itt K a).stop i H ∧ nx σ H) ∨ ((Itt K a).go i H ∧ ∃ N : L2.St → Hp → Prop, (∀ σ' H', N σ' H' → ∃ m', m' < m ∧ W (i + 1) m' σ' H') ∧ ∀ x H', (Itt K a).yld i H x H' → g x σ H' fun σ2 H2 => tb (Ends.mk N rt nx N) σ2 H2) :=
  for_tup (D := Ends.mk nx rt nx nx) Pv h0 hl hs hd
theorem fList {a : Addr} {xs : List V} {nx : L2.St → Hp → Prop} {rt : VK} (Pv : Nat → L2.St → Hp → Prop) (h0 : Pv 0 σ H) (hl : ∀ i σ H, i ≤ xs.length → Pv i σ H → SqL K H a xs)
    (hs : ∀ i x σ H, xs[i]? = some x → Pv i σ H → g x σ H fun σ2 H2 => tb (Ends.mk (Pv (i + 1)) rt nx (Pv (i + 1))) σ2 H2) (hd : ∀ σ H, Pv xs.length σ H → nx σ H) :
    ∃ W : Nat → Nat → L2.St → Hp → Prop, (∃ m, W 0 m σ H) ∧ ∀ i m σ H, W i m σ H →
      ((Itl K a).stop i H ∧ nx σ H) ∨ ((Itl K a).go i H ∧ ∃ N : L2.St → Hp → Prop, (∀ σ' H', N σ' H' → ∃ m', m' < m ∧ W (i + 1) m' σ' H') ∧ ∀ x H', (Itl K a).yld i H x H' → g x σ H' fun σ2 H2 => tb (Ends.mk N rt nx N) σ2 H2) :=
  for_list (D := Ends.mk nx rt nx nx) Pv h0 hl hs hd
theorem fRng {lo : Int} {n : Nat} {nx : L2.St → Hp → Prop} {rt : VK} (Pv : Nat → L2.St → Hp → Prop) (h0 : Pv 0 σ H)
    (hs : ∀ i σ H, i < n → Pv i σ H → g (.int (lo + i)) σ H fun σ2 H2 => tb (Ends.mk (Pv (i + 1)) rt nx (Pv (i + 1))) σ2 H2) (hd : ∀ σ H, Pv n σ H → nx σ H) :
    ∃ W : Nat → Nat → L2.St → Hp → Prop, (∃ m, W 0 m σ H) ∧ ∀ i m σ H, W i m σ H →
      ((Itr lo n).stop i H ∧ nx σ H) ∨ ((Itr lo n).go i H ∧ ∃ N : L2.St → Hp → Prop, (∀ σ' H', N σ' H' → ∃ m', m' < m ∧ W (i + 1) m' σ' H') ∧ ∀ x H', (Itr lo n).yld i H x H' → g x σ H' fun σ2 H2 => tb (Ends.mk N rt nx N) σ2 H2) :=
  for_range (D := Ends.mk nx rt nx nx) Pv h0 hs hd
theorem i_itup (h : tl σ H fun x H1 => ∃ a, x = .ref a ∧ (∃ xs, SqT K H1 a xs) ∧ R (Itt K a) H1) : iTup K tl σ H R := h
theorem i_ilist (h : tl σ H fun x H1 => ∃ a, x = .ref a ∧ (∃ xs, SqL K H1 a xs) ∧ R (Itl K a) H1) : iList K tl σ H R := h
theorem i_irng1 (h : ta σ H fun vs H1 => ∃ j : Int, vs = [.int j] ∧ -(2 ^ 62) ≤ j ∧ j < 2 ^ 62 ∧ R (Itr 0 j.toNat) H1) : iRng1 ta σ H R := h
theorem i_irng2 (h : ta σ H fun vs H1 => ∃ i j : Int, vs = [.int i, .int j] ∧ (-(2 ^ 62) ≤ i ∧ i < 2 ^ 62 ∧ -(2 ^ 62) ≤ j ∧ j < 2 ^ 62) ∧ R (Itr i (j - i).toNat) H1) : iRng2 ta σ H R := h
theorem i_rng {j : Int} {R' : Int → Prop} (h0 : -(2 ^ 62) ≤ j) (h1 : j < 2 ^ 62) (q : R' j) : ∃ i : Int, [V.int j] = [.int i] ∧ -(2 ^ 62) ≤ i ∧ i < 2 ^ 62 ∧ R' i := ⟨j, rfl, h0, h1, q⟩
/-- what a comprehension asks after its first iterable is made -/
def LcW (J : It) (g : TG) (tt : TT) (te : TE) (vs : List Nat) (σ : L2.St) (H1 : Hp) (Q : VK) : Prop := ∀ D, H1 D = none → ∃ W : Nat → Nat → Hp → Prop, (∃ m, W 0 m (upd H1 D (.lst []))) ∧ ∀ i m H, W i m H →
  (J.stop i H ∧ Q (.ref D) H) ∨ (J.go i H ∧ ∃ Nx : Hp → Prop, (∀ H', Nx H' → ∃ m', m' < m ∧ W (i + 1) m' H') ∧ ∀ x H', J.yld i H x H' → g x (wipe σ vs) H' fun σ2 H2 => wipe σ2 vs = wipe σ vs ∧ tt σ2 H2 fun b H3 =>
    if b = true then te σ2 H3 fun y H4 => ∃ acc, H4 D = some (.lst acc) ∧ acc.length < sizeLine ∧ Nx (upd H4 D (.lst (acc ++ [y]))) else Nx H3)
theorem i_lc (h : wi σ H fun J H1 => LcW J g tt te vs σ H1 Q) : tLc wi g tt te vs σ H Q := h
theorem i_yes {QT : Bool → Hp → Prop} (q : QT true H) : tYes σ H QT := q
end
section
variable {σ : L2.St} {H : Hp} {c d : TT}
/-- a test has one answer and leaves the heap -/
def Tst (c : TT) (σ : L2.St) (H : Hp) (b : Bool) : Prop := ∀ QT : Bool → Hp → Prop, QT b H → c σ H QT
theorem Tst.or {b1 b2 : Bool} (h1 : Tst c σ H b1) (h2 : Tst d σ H b2) : Tst (tOr c d) σ H (b1 || b2) := fun QT q => by
  refine h1 _ ?_
  cases b1 with
  | true => exact iteT q
  | false => exact iteF (h2 _ q)
theorem Tst.and {b1 b2 : Bool} (h1 : Tst c σ H b1) (h2 : b1 = true → Tst d σ H b2) : Tst (tAnd c d) σ H (b1 && b2) := fun QT q => by
  refine h1 _ ?_
  cases b1 with
  | true => exact iteT (h2 rfl _ q)
  | false => exact iteF q
theorem Tst.not {b : Bool} (h : Tst c σ H b) : Tst (tNot c) σ H (!b) := fun QT q => h _ q
end
/-- a statement with what follows hidden -/
theorem i_seqA {t1 t2 : TS} {nx bk ct : L2.St → Hp → Prop} {rt : VK} {σ : L2.St} {H : Hp} (h : ∀ n, n = t2 (Ends.mk nx rt bk ct) → t1 (Ends.mk n rt bk ct) σ H) : tSeq t1 t2 (Ends.mk nx rt bk ct) σ H := h _ rfl
end G58

set_option Elab.async false
set_option linter.all false
set_option maxRecDepth 100000
set_option maxHeartbeats 4000000
namespace G58
open L2 PyProof.Rows PySem.Spec PySem
/-! an attribute as a target -/
def gFld (K : PySem.W.Frag) (to : TE) (f : Str) : TG := fun v σ H Q => to σ H fun x H1 => ∃ a C dx fs, x = .ref a ∧ H1 a = some (.ins C dx fs) ∧ Cls K C ∧ NoAttr K C f ∧ fs.length < 1000 ∧ Q σ (upd H1 a (.ins C dx (putF f v fs)))
section
variable {X : Cx} {o : Expr} {to : TE} {f : Str} {pos : Pos}
theorem pg_fld (ho : PE X o to)
    (ha : ∀ v, assign (.Attribute o f pos) X.env v = (do
      let ov ← holding [v] (eval o X.env)
      standAt pos.atName
      holding [v, ov] (setAttr ov f v)
      release [v, ov] []) := by intro _; rfl) : PG X (.Attribute o f pos) (gFld X.K to f) where
  run := fun pins s σ H v u Q I r h => by
    rw [ha]
    refine wpAny_bind (wpAny_holding (thn (ho.run pins s σ H _ I h) ?_))
    rintro ov s1 ⟨x, H1, I1, rx, a, C, dx, fs, rfl, ea, c, n, l, q⟩
    have e : ov = Value.ref a := rx
    subst e
    exact wpAny_bind (wpAny_standAt (wpAny_bind (wpAny_holding (setattr_ok I1 ea c n l r fun s3 I3 => wpAny_release ⟨σ, _, I3, q⟩))))
end
/-! set(l) of a list of ints -/
abbrev fset (w : World) : Obj := { cls := .type "set", dict := none, data := .set #[] 0 (.fresh 0 0 (!w.params.followText "set-order")) }
section
variable {P : Program} {w : World} {A : Around} {E : Value → Shared → Prop} {s : Shared}
/-- what the set's __init__ leaves -/
def SetL (w : World) (ns : List Int) (s s2 : Shared) : Prop := ∃ h' tk c, s2 = { s with heap := h', toks := tk } ∧ SetR w h' s.heap.objs.size (fun j => decide (j ∈ ns)) c ∧ c ≤ ns.length ∧ ∀ b o, s.heap.get? b = some o → h'.get? b = some o
theorem set_init_list {l : Addr} {items : Array Value} {ns : List Int} (hh : A.handled = none) (hl : s.heap.IsList l items) (hit : IntsAre items.toList ns) (hb : ns.length + 1 < scanBound)
    (hT : Shared.TypeIs { s with heap := s.heap.push (fset w) } (.ref s.heap.objs.size) "set") (hS : (s.heap.push (fset w)).get? s.heap.objs.size = some (fset w)) :
    codeAny (model P w) A (.call (.builtin "set.__init__") ⟨[.ref s.heap.objs.size, .ref l], []⟩) (wants (fun r s2 => r = .none ∧ SetL w ns s s2) E) { s with heap := s.heap.push (fset w) } := by
  have hisz : items.size = ns.length := (Array.length_toList (xs := items)).symm.trans (IntsAre.length hit)
  refine codeAny_call_builtin F.called_set.init.plain F.entry_set_init (check_set_init_1 hT ?_)
  obtain ⟨⟨oc, od, odt, osl⟩, hol, hcl, nl, hdl⟩ := hl
  simp only at hcl hdl
  subst hcl hdl
  have hlS : l < s.heap.objs.size := Heap.lt_size hol
  have hol' : (s.heap.push (fset w)).get? l = some { cls := .type "list", dict := od, data := .seq items nl, slots := osl } := Heap.get?_push_of_some _ hol
  have q1 := F.sub_list_set
  have q2 := F.sub_list_frozenset
  have q3 : (Value.type "list" == Value.type "dict") = false := by decide
  have hl1 : (s.heap.push (fset w)).IsList l items := ⟨_, hol', rfl, nl, rfl⟩
  unfold Builtin.«set.__init__» noKeywords Builtin.Frozenset.updateFrom
  generalize gI : pyIter = PI
  wp_walk
  subst gI
  refine wpAny_pyIter_list hl1 (wpAny_bind (wpAny_runValue ?_))
  have hh3 : A.in1.in1.handled = none := hh
  have z1 : (s.heap.push (fset w)).objs.size = s.heap.objs.size + 1 := Heap.size_push ..
  have n1 : l ≠ (s.heap.push (fset w)).objs.size := by rw [z1]; exact Nat.ne_of_lt (Nat.lt_succ_of_lt hlS)
  have n2 : s.heap.objs.size ∉ [(s.heap.push (fset w)).objs.size, l] := by
    rw [z1]
    intro z
    rcases List.mem_cons.mp z with z | z
    · exact absurd z (Nat.ne_of_lt (Nat.lt_succ_self _))
    · exact absurd (List.mem_singleton.mp z) (Nat.ne_of_gt hlS)
  have val : ∀ (i : Nat) (v : Value), items[i]? = some v → ∃ k t, ns[i]? = some k ∧ v = .int k t := by
    intro i v hv
    have hi : i < ns.length := hisz ▸ (Array.getElem?_eq_some_iff.mp hv).1
    obtain ⟨t, e⟩ := IntsAre.int_at hit i v ((Array.getElem?_toList ..).trans hv)
    exact ⟨ns[i], t, List.getElem?_eq_getElem hi, by rw [e, List.getD_eq_getElem?_getD, List.getElem?_eq_getElem hi]; rfl⟩
  refine set_update_ints (Walks.list hh3 _ l n1 items).toS s.heap.objs.size n2 ns hisz hb val (items.size - 0) 0 _ (by omega) (Nat.zero_le _) ?hW0 ?hS0 ?_
  case hW0 => exact ⟨⟨_, Heap.get?_push_size _ rfl, rfl, rfl⟩, hl1.push _⟩
  case hS0 => exact ⟨0, Nat.le_refl 0, setR_new_at (Heap.get?_push_of_some _ hS)⟩
  rintro ⟨h', g2, d', tk', os'⟩ c' hm hc' hS'
  have eg : g2 = s.gens := hm.gens
  have ed : d' = s.drawn := hm.drawn
  have eo : os' = s.os := hm.os
  subst eg ed eo
  refine wpAny_pure (show wpAny _ _ (ret Value.none) _ _ _ from wpAny_pure ⟨rfl, h', tk', c', rfl, hS', hisz ▸ hc', fun b o e => ?_⟩)
  have b0 : b < s.heap.objs.size := Heap.lt_size e
  refine hm.heap b o (fun z => ?_) (Heap.get?_push_of_some _ (Heap.get?_push_of_some _ e))
  rcases List.mem_cons.mp z with z | z
  · exact absurd z (Nat.ne_of_lt b0)
  · refine absurd (List.mem_singleton.mp z) ?_
    rw [z1]
    exact Nat.ne_of_lt (Nat.lt_succ_of_lt b0)
theorem call_set_ints {l : Addr} {items : Array Value} (ns : List Int) {Q : Value → Shared → Prop} (hh : A.handled = none) (hl : s.heap.IsList l items) (hit : IntsAre items.toList ns) (hb : ns.length + 1 < scanBound)
    (h : ∀ s2, SetL w ns s s2 → Q (.ref s.heap.objs.size) s2) : wpAny (model P w) A (call (.type "set") [.ref l]) Q E s := by
  obtain ⟨c, tl, q0⟩ := F.called_set.mro
  have q1 := F.called_set.made
  have q2 := F.called_set.sub
  refine wpAny_call (codeAny_of_tree (show wpAny _ _ (callAny (.type "set") _) _ _ _ from wpAny_pure ⟨Code.quiet_builtin _ (by decide +kernel), codeAny_builtin F.entry_type_call ?_⟩))
  rw [Around.under_plain (weight_type_call_type "set" [.ref l] []) rfl]
  have q3 := F.called_set.notType
  have q4 := F.called_set.canCreate
  have q5 := F.typeCall_set_1 (.ref l)
  repeat (any_goals (first | assumption | wp_step))
  refine codeAny_mono (code_set_led1 (.ref l) (E := E) (Q₁ := fun obj s1 => obj = .ref s.heap.objs.size ∧ s1 = { s with heap := s.heap.push (fset w) }) ⟨rfl, rfl⟩) ?_
  intro r s1 hr
  match r, hr with
  | .error e, hr => exact hr
  | .ok .next, hr => exact hr.elim
  | .ok .brk, hr => exact hr.elim
  | .ok .cont, hr => exact hr.elim
  | .ok (.ret obj), hr =>
    obtain ⟨rfl, rfl⟩ := hr
    have hS : (s.heap.push (fset w)).get? s.heap.objs.size = some (fset w) := Heap.get?_push_size _ rfl
    have hT : Shared.TypeIs { s with heap := s.heap.push (fset w) } (.ref s.heap.objs.size) "set" := ⟨_, hS, rfl⟩
    have q6 := F.called_set.init.lookup
    have q7 := F.called_set.init.bind (.ref s.heap.objs.size)
    repeat (any_goals (first | assumption | wp_step))
    refine codeAny_mono (set_init_list (E := E) hh hl hit hb hT hS) ?_
    intro r2 s2 hr2
    match r2, hr2 with
    | .error e, hr2 => exact hr2
    | .ok .next, hr2 => exact hr2.elim
    | .ok .brk, hr2 => exact hr2.elim
    | .ok .cont, hr2 => exact hr2.elim
    | .ok (.ret r), hr2 =>
      obtain ⟨rfl, z⟩ := hr2
      repeat (any_goals (first | assumption | wp_step))
      exact h _ z
end
theorem nodup_len : ∀ (m : Nat) (l : List Int), l.Nodup → (∀ k ∈ l, 0 ≤ k ∧ k < m) → l.length ≤ m
  | 0, [], _, _ => Nat.le_refl _
  | 0, x :: t, _, h => by
    have := h x List.mem_cons_self
    omega
  | m + 1, l, hn, h => by
    by_cases c : (m : Int) ∈ l
    · have ih := nodup_len m (l.erase (m : Int)) (hn.erase _) fun k hk => by
        obtain ⟨h1, h2⟩ := hn.mem_erase_iff.mp hk
        have := h k h2
        omega
      rw [List.length_erase_of_mem c] at ih
      omega
    · have ih := nodup_len m l hn fun k hk => by
        have h1 := h k hk
        have h2 : k ≠ m := fun z => c (z ▸ hk)
        omega
      omega
theorem setR_len {w : World} {h : Heap} {a : Addr} {ns : List Int} {c : Nat} (R : SetR w h a (fun j => decide (j ∈ ns)) c) (m : Nat) (hm : ∀ k ∈ ns, 0 ≤ k ∧ k < (m : Int)) : c ≤ m := by
  obtain ⟨o, es, ep, t, ho, _, _, _, nd, mem, _, _, sz, _⟩ := R
  have l := nodup_len m _ nd fun k hk => hm k (by simpa using (mem k).mpr hk)
  rw [List.length_map, Array.length_toList, sz] at l
  exact l
def rSetI (K : PySem.W.Frag) (w : World) : List V → Hp → VK → Prop := fun xs H Q => ∃ (l : Addr) (ns : List Int), xs = [.ref l] ∧ SqL K H l (ns.map V.int) ∧ ns.length ≤ 4000 ∧
  ∀ p c H', H p = none → Same H H' → (∀ m : Nat, (∀ k ∈ ns, 0 ≤ k ∧ k < (m : Int)) → c ≤ m) → H' p = some (SetO w p (fun j => decide (j ∈ ns)) c) → Q (.ref p) H'
theorem cr_setI {X : Cx} (hc : X.calm = true) : CallR X (.type "set") (rSetI X.K X.w) := by
  intro pins s σ H xs us Q I r h
  obtain ⟨l, ns, rfl, hS, hn, q⟩ := h
  obtain ⟨u, rfl, ru⟩ := r.one
  have e : u = Value.ref l := ru
  subst e
  obtain ⟨its, rv, pl, hz⟩ := I.list hS
  have hit : IntsAre its.toArray.toList ns := by
    rw [List.toList_toArray]
    exact ints_of_vals rv
  refine call_set_ints ns (I.ok.hd hc) pl.isList hit (by unfold scanBound; omega) ?_
  rintro s2 ⟨h', tk, c, rfl, R, hc', k⟩
  have fr : H s.heap.objs.size = none := I.hok.fresh (Nat.le_refl _)
  exact ⟨.ref _, upd H s.heap.objs.size (SetO X.w s.heap.objs.size (fun j => decide (j ∈ ns)) c), I.laid (t' := tk) k (Nat.le_refl _) (setO_new R), rfl, q _ c _ fr (same_new fr) (setR_len R) upd_same⟩
/-! a comprehension within a comprehension -/
def relS (scope sc0 : Scope) : Scope :=
  { scope with names := scope.names.map fun y => if (y.2 == .free && sc0.kind == .function && sc0.names.lookup y.1 == some .cell) then (y.1, .cell) else (y.1, y.2) }
theorem blkOk_in {N : List Str} {sc0 scO scope : Scope} {own : List (Str × Nat)} {env : Env} (e : env.scope = sc0) (h : blkC N (relS scO sc0) scope own = true) : BlkOk N (relabel scO env) scope own := by
  subst e
  exact blkOk_by h
theorem i_itB {A B : Prop} (b : Bool) (h1 : b = true → A) (h2 : b = false → B) : if b = true then A else B := by
  cases b with
  | true => exact iteT (h1 rfl)
  | false => exact iteF (h2 rfl)
/-! attributes of an own object -/
section
variable {K : PySem.W.Frag} {σ : L2.St} {H : Hp} {Q : VK} {ta tv : TE} {f : Str} {nx bk ct : L2.St → Hp → Prop} {rt : VK} {a C dx : Addr} {fs gs : List (Str × V)} {v y : V} {R : Hp → Prop}
/-- the reading of an attribute -/
def Fld (K : PySem.W.Frag) (f : Str) (x : V) (H : Hp) (Q : VK) : Prop := ∃ a C dx fs v, x = .ref a ∧ H a = some (.ins C dx fs) ∧ Cls K C ∧ NoAttr K C f ∧ fs.lookup f = some v ∧ Q v H
theorem i_fld (h : ta σ H fun x H1 => Fld K f x H1 Q) : tFld K ta f σ H Q := h
theorem i_fldA (h : H a = some (.ins C dx fs)) (c : Cls K C) (n : NoAttr K C f) (l : fs.lookup f = some v) (q : Q v H) : Fld K f (.ref a) H Q := ⟨a, C, dx, fs, v, rfl, h, c, n, l, q⟩
/-- the store of an attribute -/
def Put (K : PySem.W.Frag) (f : Str) (y x : V) (H : Hp) (R : Hp → Prop) : Prop := ∃ a C dx fs, x = .ref a ∧ H a = some (.ins C dx fs) ∧ Cls K C ∧ NoAttr K C f ∧ fs.length < 1000 ∧ R (upd H a (.ins C dx (putF f y fs)))
theorem i_sfld (h : tv σ H fun y H1 => ta σ H1 fun x H2 => Put K f y x H2 fun H3 => nx σ H3) : sFld K ta tv f (Ends.mk nx rt bk ct) σ H := h
theorem i_gfld {R : L2.St → Hp → Prop} (h : ta σ H fun x H1 => Put K f v x H1 fun H2 => R σ H2) : gFld K ta f v σ H R := h
theorem i_put (h : H a = some (.ins C dx fs)) (c : Cls K C) (n : NoAttr K C f) (e : putF f y fs = gs) (l : decide (fs.length < 1000) = true) (q : ∀ H', Ext a H H' → H' a = some (.ins C dx gs) → R H') : Put K f y (.ref a) H R :=
  ⟨a, C, dx, fs, rfl, h, c, n, of_decide_eq_true l, q _ Ext.put (by rw [e]; exact upd_same)⟩
/-- the object of a method -/
def MAt (C : Addr) (m : Str) (x : V) (H : Hp) (A : Prop) : Prop := ∃ a dx fs, x = .ref a ∧ H a = some (.ins C dx fs) ∧ fs.lookup m = none ∧ A
theorem i_methR {sp : Sp} {E : XK} {m : Str} {t : TA} (h : ta σ H fun x H1 => MAt C m x H1 (t σ H1 fun vs H2 => sp (x :: vs) H2 Q E)) : tMethR C m sp E ta t σ H Q := h
theorem i_mAt {m : Str} {A : Prop} (h : H a = some (.ins C dx fs)) (l : fs.lookup m = none) (q : A) : MAt C m (.ref a) H A := ⟨a, dx, fs, rfl, h, l, q⟩
theorem i_fdivW {g : Int → Int → V} {i j : Int} {n : Nat} (h0 : 0 < j) (h1 : j.natAbs < 2 ^ n) (q : Q (g i j) H) (b : decide (0 < n ∧ n ≤ 9000) = true := by rfl) : rI CDivW g (.int i) (.int j) H Q :=
  i_I (wide_div h0 h1 (of_decide_eq_true b).1 (of_decide_eq_true b).2) q
theorem i_eqS {x y : Str} (q : Q (.bl (decide (V.str x = V.str y))) H) : rEq (.str x) (.str y) H Q := i_eq rfl q
theorem i_isiSS {x : Str} (q : Q (.bl true) H) : rIsi K [.str x, .ty "str"] H Q := i_isi (.ty _) (.base (.str x)) (kit_ty (by decide +kernel)) q
theorem i_inT {x : V} {p : Addr} {xs : List V} (h : SqT K H p xs) (fx : flatV x = true) (fs : xs.all flatV = true) (q : Q (.bl (inV x xs)) H) : rIn K false x (.ref p) H Q := ⟨p, xs, rfl, .inr h, fx, fs, q⟩
theorem i_inL {x : V} {p : Addr} {xs : List V} (h : SqL K H p xs) (fx : flatV x = true) (fs : xs.all flatV = true) (q : Q (.bl (inV x xs)) H) : rIn K false x (.ref p) H Q := ⟨p, xs, rfl, .inl h, fx, fs, q⟩
end
/-! comprehensions by what their new list holds -/
/-- what a turn of a comprehension must leave -/
def Nxt (D : Addr) (N : Hp → Prop) (y : V) (H : Hp) : Prop := ∃ acc, H D = some (.lst acc) ∧ acc.length < sizeLine ∧ N (upd H D (.lst (acc ++ [y])))
theorem ite_t {A B : Prop} (h : if true = true then A else B) : A := by simpa using h
theorem ite_f {A B : Prop} (h : if false = true then A else B) : B := by simpa using h
theorem put_same {H1 H : Hp} {D : Addr} {o : HO} (s : Same H1 H) (n : H1 D = none) : Same H1 (upd H D o) := fun b p z => by rw [upd_ne (ne_of_none z n)]; exact s b p z
section
variable {K : PySem.W.Frag} {lo : Int} {n : Nat} {g : TG} {tt : TT} {te : TE} {vs : List Nat} {σ : L2.St} {H1 : Hp} {Q : VK} {a : Addr} {xs : List V}
theorem lcR (R : Addr → Nat → Hp → List V → Prop) (hn : n ≤ 40000) (hR : ∀ D i H H' ys zs, H D = some (.lst ys) → Ext D H H' → R D i H zs → R D i H' zs) (h0 : ∀ D H, R D 0 H [])
    (hs : ∀ D i H ys N, H1 D = none → i < n → ys.length ≤ i → Same H1 H → H D = some (.lst ys) → R D i H ys → (∀ y H4, Same H H4 → R D (i + 1) H4 (ys ++ [y]) → Nxt D N y H4) → (∀ H3, Same H H3 → R D (i + 1) H3 ys → N H3) → g (.int (lo + i)) (wipe σ vs) H fun σ2 H2 => wipe σ2 vs = wipe σ vs ∧ tt σ2 H2 fun b H3 =>
      if b = true then te σ2 H3 fun y H4 => Nxt D N y H4 else N H3)
    (hd : ∀ D H ys, H1 D = none → Same H1 H → H D = some (.lst ys) → ys.length ≤ n → R D n H ys → Q (.ref D) H) :
    LcW (Itr lo n) g tt te vs σ H1 Q := by
  intro D nD
  refine lc_range (Qd := fun H => Q (.ref D) H) (fun i H => i ≤ n ∧ Same H1 H ∧ ∃ ys, H D = some (.lst ys) ∧ ys.length ≤ i ∧ R D i H ys) ⟨Nat.zero_le _, same_new nD, [], upd_same, Nat.le_refl _, h0 D _⟩ ?_ ?_
  · rintro i H hi ⟨_, s, ys, hD, hl, r⟩
    refine hs D i H ys _ nD hi hl s hD r (fun v H4 s4 r4 => ?_) (fun H3 s3 r3 => ?_)
    · have hD4 := s4 _ _ hD
      exact ⟨ys, hD4, Nat.lt_of_le_of_lt (m := 40000) (by omega) (by decide), by omega, put_same (s.trans s4) nD, ys ++ [v], upd_same, by rw [List.length_append]; simp; omega, hR D _ _ _ _ _ hD4 Ext.put r4⟩
    · exact ⟨by omega, s.trans s3, ys, s3 _ _ hD, by omega, r3⟩
  · rintro H ⟨_, s, ys, hD, hl, r⟩
    exact hd D H ys nD s hD hl r
theorem lcL (R : Addr → Nat → Hp → List V → Prop) (hn : xs.length ≤ 40000) (hx : SqL K H1 a xs) (hR : ∀ D i H H' ys zs, H D = some (.lst ys) → Ext D H H' → R D i H zs → R D i H' zs) (h0 : ∀ D H, R D 0 H [])
    (hs : ∀ D i x H ys N, H1 D = none → xs[i]? = some x → ys.length ≤ i → Same H1 H → H D = some (.lst ys) → R D i H ys → (∀ y H4, Same H H4 → R D (i + 1) H4 (ys ++ [y]) → Nxt D N y H4) → (∀ H3, Same H H3 → R D (i + 1) H3 ys → N H3) → g x (wipe σ vs) H fun σ2 H2 => wipe σ2 vs = wipe σ vs ∧ tt σ2 H2 fun b H3 =>
      if b = true then te σ2 H3 fun y H4 => Nxt D N y H4 else N H3)
    (hd : ∀ D H ys, H1 D = none → Same H1 H → H D = some (.lst ys) → ys.length ≤ xs.length → R D xs.length H ys → Q (.ref D) H) :
    LcW (Itl K a) g tt te vs σ H1 Q := by
  intro D nD
  refine lc_list (Qd := fun H => Q (.ref D) H) (xs := xs) (fun i H => i ≤ xs.length ∧ Same H1 H ∧ ∃ ys, H D = some (.lst ys) ∧ ys.length ≤ i ∧ R D i H ys) ⟨Nat.zero_le _, same_new nD, [], upd_same, Nat.le_refl _, h0 D _⟩ (fun i H _ z => z.2.1.seq hx) ?_ ?_
  · rintro i x H hx' ⟨_, s, ys, hD, hl, r⟩
    have hi : i < xs.length := (List.getElem?_eq_some_iff.mp hx').1
    refine hs D i x H ys _ nD hx' hl s hD r (fun v H4 s4 r4 => ?_) (fun H3 s3 r3 => ?_)
    · have hD4 := s4 _ _ hD
      exact ⟨ys, hD4, Nat.lt_of_le_of_lt (m := 40000) (by omega) (by decide), by omega, put_same (s.trans s4) nD, ys ++ [v], upd_same, by rw [List.length_append]; simp; omega, hR D _ _ _ _ _ hD4 Ext.put r4⟩
    · exact ⟨by omega, s.trans s3, ys, s3 _ _ hD, by omega, r3⟩
  · rintro H ⟨_, s, ys, hD, hl, r⟩
    exact hd D H ys nD s hD hl r
end
end G58

set_option Elab.async false
set_option linter.all false
set_option maxRecDepth 100000
set_option maxHeartbeats 4000000
set_option autoImplicit false
/-! values as trees, without addresses; what of a def's frame is known by them -/
namespace DL
open L2 PyProof.Rows PySem.Spec PySem G58 SlX
/-- a value as a tree -/
inductive D where
  | non | bl (b : Bool) | int (i : Int) | str (x : Str) | ty (n : String) | gl (x : Str)
  | tup (xs : List D) | lst (xs : List D) | fl (xs : List D) | ins (c : Str) (fs : List (Str × D)) | slt (c : Str) (fs : List D)
  | dct (es : List (Key × D)) | exc (c : Str) (fs : List (Str × D)) | opq
/-- a thing that its frame may change -/
inductive MO where
  | lst (ds : List D) | ins (c : Str) (fs : List (Str × D)) | slt (c : Str) (vs : List (Option D)) | dct (es : List (Key × D))
inductive S where
  | v (d : D) | m (o : MO)
structure Exc where
  c : Str
  fs : List (Str × D)
abbrev Ds := List (Option S)
/-- the sets of addresses -/
abbrev As := Addr → Prop
/-- code objects and their tables, by name -/
abbrev TTb := List (Addr × Str)
/-- the tables of a program, by name -/
class TbL where
  t : List (Addr × Str)
variable [TbL]
/-- tables by name, code objects by name -/
def TabC (T : TTb) (H : Hp) : Prop := LamX.Tabs TbL.t H ∧ ∀ p ∈ T, H p.1 = some (LamX.CodeO p.1 p.2)
theorem TabC.ext {T : TTb} {H H' : Hp} (t : TabC T H) (e : ∀ b o, H b = some o → H' b = some o) : TabC T H' := ⟨t.1.ext e, fun p hp => e _ _ (t.2 p hp)⟩
/-- what stays the same in a run -/
structure GG where
  K : PySem.W.Frag
  mg : Str → Option Value
  P : Program
  w : World
  base : Heap
  T : TTb
abbrev gg (X : Cx) (T : TTb) : GG := ⟨X.K, X.mg, X.prog, X.w, X.base, T⟩
/-- no table -/
def NT (o : HO) : Prop := ∀ ps, o ≠ .tbl ps
/-- no table, no code object -/
def Plain (o : HO) : Prop := NT o ∧ ∀ c q, o ≠ LamX.CodeO c q
structure Le (A : As) (H H' : Hp) : Prop where
  keep : ∀ b o, ¬ A b → NT o → H b = some o → H' b = some o
  al : ∀ b, H b ≠ none → H' b ≠ none
  tb : ∀ T : TTb, TabC T H → TabC T H'
/-- an exception that was caught -/
def ExO (a C dx : Addr) : HO := .ext fun h => ∃ oe vs, h.get? a = some oe ∧ oe.cls = .ref C ∧ oe.dict = some dx ∧ oe.data = .fields vs
def TupAt (K : PySem.W.Frag) (H : Hp) (W : As) (a : Addr) (xs : List V) : Prop := (Rd H a (.tup xs) ∧ ¬ W a) ∨ SqT K (fun _ => none) a xs
def LstAt (H : Hp) (W : As) (a : Addr) (xs : List V) : Prop := H a = some (.lst xs) ∧ ¬ W a
/-- a list that is read alone -/
def FlAt (K : PySem.W.Frag) (H : Hp) (W : As) (a : Addr) (xs : List V) : Prop := (Rd H a (.lst xs) ∧ ¬ W a) ∨ SqL K (fun _ => none) a xs
mutual
inductive Rep (Γ : GG) (H : Hp) (W : As) : V → D → Prop
  | non : Rep Γ H W .non .non
  | bl (b : Bool) : Rep Γ H W (.bl b) (.bl b)
  | int (i : Int) : Rep Γ H W (.int i) (.int i)
  | str (x : Str) : Rep Γ H W (.str x) (.str x)
  | ty (n : String) : Rep Γ H W (.ty n) (.ty n)
  | gl {x : Str} {a : Addr} : Γ.mg x = some (.ref a) → Rep Γ H W (.ref a) (.gl x)
  | tup {a : Addr} {xs : List V} {ds : List D} : TupAt Γ.K H W a xs → Reps Γ H W xs ds → Rep Γ H W (.ref a) (.tup ds)
  | lst {a : Addr} {xs : List V} {ds : List D} : LstAt H W a xs → Reps Γ H W xs ds → Rep Γ H W (.ref a) (.lst ds)
  | fl {a : Addr} {xs : List V} {ds : List D} : FlAt Γ.K H W a xs → Reps Γ H W xs ds → Rep Γ H W (.ref a) (.fl ds)
  | ins {a C dx : Addr} {c : Str} {gs : List (Str × V)} {fs : List (Str × D)} : Γ.mg c = some (.ref C) → H a = some (.ins C dx gs) → ¬ W a → RepF Γ H W gs fs → Rep Γ H W (.ref a) (.ins c fs)
  | slt {a C dx : Addr} {c : Str} {vs : List (Option V)} {fs : List D} : Γ.mg c = some (.ref C) → Slt H a C dx vs → ¬ W a → ¬ W dx → H dx ≠ none → RepS Γ H W vs fs → Rep Γ H W (.ref a) (.slt c fs)
  | dct {a : Addr} {kvs : List (Key × V)} {es : List (Key × D)} : H a = some (.dK kvs) → ¬ W a → RepK Γ H W kvs es → Rep Γ H W (.ref a) (.dct es)
  | exc {a C dx : Addr} {c : Str} {gs : List (Str × V)} {fs : List (Str × D)} : Γ.mg c = some (.ref C) → H a = some (ExO a C dx) → ¬ W a → H dx = some (.xd gs) → ¬ W dx → RepF Γ H W gs fs → Rep Γ H W (.ref a) (.exc c fs)
  | opq {a : Addr} : Rep Γ H W (.ref a) .opq
inductive Reps (Γ : GG) (H : Hp) (W : As) : List V → List D → Prop
  | nil : Reps Γ H W [] []
  | cons {v : V} {d : D} {vs : List V} {ds : List D} : Rep Γ H W v d → Reps Γ H W vs ds → Reps Γ H W (v :: vs) (d :: ds)
inductive RepF (Γ : GG) (H : Hp) (W : As) : List (Str × V) → List (Str × D) → Prop
  | nil : RepF Γ H W [] []
  | cons {f : Str} {v : V} {d : D} {vs : List (Str × V)} {ds : List (Str × D)} : Rep Γ H W v d → RepF Γ H W vs ds → RepF Γ H W ((f, v) :: vs) ((f, d) :: ds)
inductive RepS (Γ : GG) (H : Hp) (W : As) : List (Option V) → List D → Prop
  | nil : RepS Γ H W [] []
  | cons {v : V} {d : D} {vs : List (Option V)} {ds : List D} : Rep Γ H W v d → RepS Γ H W vs ds → RepS Γ H W (some v :: vs) (d :: ds)
inductive RepK (Γ : GG) (H : Hp) (W : As) : List (Key × V) → List (Key × D) → Prop
  | nil : RepK Γ H W [] []
  | cons {f : Key} {v : V} {d : D} {vs : List (Key × V)} {ds : List (Key × D)} : Rep Γ H W v d → RepK Γ H W vs ds → RepK Γ H W ((f, v) :: vs) ((f, d) :: ds)
end
/-- slots, some not stored yet -/
inductive RepO (Γ : GG) (H : Hp) (W : As) : List (Option V) → List (Option D) → Prop
  | nil : RepO Γ H W [] []
  | no {vs : List (Option V)} {ds : List (Option D)} : RepO Γ H W vs ds → RepO Γ H W (none :: vs) (none :: ds)
  | cons {v : V} {d : D} {vs : List (Option V)} {ds : List (Option D)} : Rep Γ H W v d → RepO Γ H W vs ds → RepO Γ H W (some v :: vs) (some d :: ds)
section
variable {Γ : GG} {H H' H2 : Hp} {W W' A B : As} {a dx : Addr}
theorem Le.refl : Le A H H := ⟨fun _ _ _ _ h => h, fun _ h => h, fun _ h => h⟩
theorem Le.trans (h1 : Le A H H') (h2 : Le A H' H2) : Le A H H2 := ⟨fun b o n t h => h2.keep b o n t (h1.keep b o n t h), fun b h => h2.al b (h1.al b h), fun T h => h2.tb T (h1.tb T h)⟩
theorem Le.mono (h : Le A H H') (s : ∀ b, A b → B b) : Le B H H' := ⟨fun b o n t z => h.keep b o (fun y => n (s b y)) t z, h.al, h.tb⟩
theorem same_al (s : Same H H') : ∀ b, H b ≠ none → H' b ≠ none := fun b y => by
  cases e : H b with
  | none => exact absurd e y
  | some o => rw [s _ _ e]; exact fun z => nomatch z
theorem Le.same (h : Same H H') : Le A H H' := ⟨fun b o _ _ z => h b o z, same_al h, fun _ t => t.ext h⟩
theorem nt_lst {xs : List V} : NT (.lst xs) := fun _ z => nomatch z
theorem nt_tup {xs : List V} : NT (.tup xs) := fun _ z => nomatch z
theorem nt_ins {C dx : Addr} {gs : List (Str × V)} : NT (.ins C dx gs) := fun _ z => nomatch z
theorem nt_dK {kvs : List (Key × V)} : NT (.dK kvs) := fun _ z => nomatch z
theorem nt_xd {gs : List (Str × V)} : NT (.xd gs) := fun _ z => nomatch z
theorem nt_frz {o : Obj} {u : HO} : NT (.frz o u) := fun _ z => nomatch z
theorem nt_ext {p : Heap → Prop} : NT (.ext p) := fun _ z => nomatch z
theorem nt_own {x : Addr} : NT (.own x) := fun _ z => nomatch z
theorem nt_slO {a C dx : Addr} {vs : List (Option V)} : NT (SlO a C dx vs) := fun ps z => by
  unfold SlO at z
  cases z
theorem nt_exO {a C dx : Addr} : NT (ExO a C dx) := fun _ z => nomatch z
theorem Le.rd {u : HO} (h : Le A H H') (n : ¬ A a) (t : NT u) (r : Rd H a u) : Rd H' a u := by
  rcases r with r | ⟨o, r⟩
  · exact .inl (h.keep _ _ n t r)
  · exact .inr ⟨o, h.keep _ _ n nt_frz r⟩
theorem rd_al {u : HO} (r : Rd H a u) : H a ≠ none := by
  rcases r with r | ⟨o, r⟩ <;> rw [r] <;> exact fun z => nomatch z
theorem Le.slt {C : Addr} {vs : List (Option V)} (h : Le A H H') (n1 : ¬ A a) (n2 : ¬ A dx) (r : Slt H a C dx vs) : Slt H' a C dx vs := by
  rcases r with ⟨z1, z2⟩ | ⟨z1, z2⟩
  · exact .inl ⟨h.keep _ _ n1 nt_ins z1, z2⟩
  · exact .inr ⟨h.keep _ _ n1 nt_slO z1, h.keep _ _ n2 nt_xd z2⟩
theorem Slt.al {C : Addr} {vs : List (Option V)} (r : Slt H a C dx vs) : H a ≠ none := by
  rcases r with ⟨z1, z2⟩ | ⟨z1, z2⟩ <;> rw [z1] <;> exact fun z => nomatch z
theorem TupAt.sq {K : PySem.W.Frag} {xs : List V} (h : TupAt K H W a xs) : SqT K H a xs := by
  rcases h with ⟨h, _⟩ | (h | h)
  · exact .inl h
  · rcases h with h | ⟨o, h⟩ <;> cases h
  · exact .inr h
theorem LstAt.sq {K : PySem.W.Frag} {xs : List V} (h : LstAt H W a xs) : SqL K H a xs := SqL.of h.1
theorem FlAt.sq {K : PySem.W.Frag} {xs : List V} (h : FlAt K H W a xs) : SqL K H a xs := by
  rcases h with ⟨h, _⟩ | (h | h)
  · exact .inl h
  · rcases h with h | ⟨o, h⟩ <;> cases h
  · exact .inr h
/-- from one heap to another, from one forbidden set to another -/
structure Mv (A W W' : As) (H H' : Hp) : Prop where
  le : Le A H H'
  sub : ∀ b, A b → W b
  w : ∀ b, W' b → W b ∨ H b = none
theorem Mv.no (m : Mv A W W' H H') (n : ¬ W a) (h : H a ≠ none) : ¬ W' a := fun z => (m.w a z).elim n h
theorem Mv.na (m : Mv A W W' H H') (n : ¬ W a) : ¬ A a := fun z => n (m.sub a z)
theorem Mv.al {b : Addr} (m : Mv A W W' H H') (n : ¬ W b) (h : H b ≠ none) : H' b ≠ none := by
  exact m.le.al b h
theorem Mv.tup {K : PySem.W.Frag} {xs : List V} (m : Mv A W W' H H') (h : TupAt K H W a xs) : TupAt K H' W' a xs := by
  rcases h with ⟨h, n⟩ | h
  · exact .inl ⟨m.le.rd (m.na n) (by first | exact nt_tup | exact nt_lst) h, m.no n (rd_al h)⟩
  · exact .inr h
theorem Mv.lst {xs : List V} (m : Mv A W W' H H') (h : LstAt H W a xs) : LstAt H' W' a xs := ⟨m.le.keep _ _ (m.na h.2) nt_lst h.1, m.no h.2 (by rw [h.1]; exact fun z => nomatch z)⟩
theorem Mv.fl {K : PySem.W.Frag} {xs : List V} (m : Mv A W W' H H') (h : FlAt K H W a xs) : FlAt K H' W' a xs := by
  rcases h with ⟨h, n⟩ | h
  · exact .inl ⟨m.le.rd (m.na n) (by first | exact nt_tup | exact nt_lst) h, m.no n (rd_al h)⟩
  · exact .inr h
mutual
theorem Rep.mv (m : Mv A W W' H H') : ∀ {v : V} {d : D}, Rep Γ H W v d → Rep Γ H' W' v d
  | _, _, .non => .non
  | _, _, .bl b => .bl b
  | _, _, .int i => .int i
  | _, _, .str x => .str x
  | _, _, .ty n => .ty n
  | _, _, .gl h => .gl h
  | _, _, .tup h r => .tup (m.tup h) (Reps.mv m r)
  | _, _, .lst h r => .lst (m.lst h) (Reps.mv m r)
  | _, _, .fl h r => .fl (m.fl h) (Reps.mv m r)
  | _, _, .opq => .opq
  | _, _, .dct h2 h3 r => .dct (m.le.keep _ _ (m.na h3) nt_dK h2) (m.no h3 (by rw [h2]; exact fun z => nomatch z)) (RepK.mv m r)
  | _, _, .exc h1 h2 h3 h4 h5 r => .exc h1 (m.le.keep _ _ (m.na h3) nt_exO h2) (m.no h3 (by rw [h2]; exact fun z => nomatch z)) (m.le.keep _ _ (m.na h5) nt_xd h4) (m.no h5 (by rw [h4]; exact fun z => nomatch z)) (RepF.mv m r)
  | _, _, .ins h1 h2 h3 r => .ins h1 (m.le.keep _ _ (m.na h3) nt_ins h2) (m.no h3 (by rw [h2]; exact fun z => nomatch z)) (RepF.mv m r)
  | _, _, .slt h1 h2 h3 h4 h5 r => .slt h1 (m.le.slt (m.na h3) (m.na h4) h2) (m.no h3 (Slt.al h2)) (m.no h4 h5) (m.al h4 h5) (RepS.mv m r)
theorem Reps.mv (m : Mv A W W' H H') : ∀ {v : List V} {d : List D}, Reps Γ H W v d → Reps Γ H' W' v d
  | _, _, .nil => .nil
  | _, _, .cons h r => .cons (Rep.mv m h) (Reps.mv m r)
theorem RepF.mv (m : Mv A W W' H H') : ∀ {v : List (Str × V)} {d : List (Str × D)}, RepF Γ H W v d → RepF Γ H' W' v d
  | _, _, .nil => .nil
  | _, _, .cons h r => .cons (Rep.mv m h) (RepF.mv m r)
theorem RepS.mv (m : Mv A W W' H H') : ∀ {v : List (Option V)} {d : List D}, RepS Γ H W v d → RepS Γ H' W' v d
  | _, _, .nil => .nil
  | _, _, .cons h r => .cons (Rep.mv m h) (RepS.mv m r)
theorem RepK.mv (m : Mv A W W' H H') : ∀ {v : List (Key × V)} {d : List (Key × D)}, RepK Γ H W v d → RepK Γ H' W' v d
  | _, _, .nil => .nil
  | _, _, .cons h r => .cons (Rep.mv m h) (RepK.mv m r)
end
theorem RepO.mv (m : Mv A W W' H H') : ∀ {v : List (Option V)} {d : List (Option D)}, RepO Γ H W v d → RepO Γ H' W' v d
  | _, _, .nil => .nil
  | _, _, .no r => .no (RepO.mv m r)
  | _, _, .cons h r => .cons (Rep.mv m h) (RepO.mv m r)
theorem Mv.le' (h : Le A H H') (s : ∀ b, A b → W b) : Mv A W W H H' := ⟨h, s, fun _ z => .inl z⟩
theorem Mv.wk (s : ∀ b, W' b → W b) : Mv (fun _ => False) W W' H H := ⟨Le.refl, fun _ z => z.elim, fun b z => .inl (s b z)⟩
theorem Mv.fr (s : ∀ b, W' b → W b ∨ H b = none) : Mv (fun _ => False) W W' H H := ⟨Le.refl, fun _ z => z.elim, s⟩
theorem Reps.len : ∀ {v : List V} {d : List D}, Reps Γ H W v d → v.length = d.length
  | _, _, .nil => rfl
  | _, _, .cons _ r => by simp [Reps.len r]
theorem Reps.get : ∀ {v : List V} {d : List D} {i : Nat} {x : V}, Reps Γ H W v d → v[i]? = some x → ∃ y, d[i]? = some y ∧ Rep Γ H W x y
  | _, _, _, _, .nil, h => by simp at h
  | _, _, 0, _, .cons h r, e => by simp at e; subst e; exact ⟨_, rfl, h⟩
  | _, _, i + 1, x, .cons h r, e => by
    obtain ⟨y, h1, h2⟩ := Reps.get (i := i) (x := x) r (by simpa using e)
    exact ⟨y, by simpa using h1, h2⟩
theorem Reps.getD : ∀ {v : List V} {d : List D} {i : Nat} {y : D}, Reps Γ H W v d → d[i]? = some y → ∃ x, v[i]? = some x ∧ Rep Γ H W x y
  | _, _, _, _, .nil, h => by simp at h
  | _, _, 0, _, .cons h r, e => by simp at e; subst e; exact ⟨_, rfl, h⟩
  | _, _, i + 1, x, .cons h r, e => by
    obtain ⟨y, h1, h2⟩ := Reps.getD (i := i) (y := x) r (by simpa using e)
    exact ⟨y, by simpa using h1, h2⟩
theorem Reps.app : ∀ {v w : List V} {d e : List D}, Reps Γ H W v d → Reps Γ H W w e → Reps Γ H W (v ++ w) (d ++ e)
  | _, _, _, _, .nil, h => h
  | _, _, _, _, .cons h r, h2 => .cons h (Reps.app r h2)
theorem Reps.set {x : V} {y : D} (h : Rep Γ H W x y) : ∀ {v : List V} {d : List D} (j : Nat), Reps Γ H W v d → Reps Γ H W (v.set j x) (d.set j y)
  | _, _, _, .nil => .nil
  | _, _, 0, .cons _ r => .cons h r
  | _, _, j + 1, .cons h1 r => .cons h1 (Reps.set h j r)
theorem Reps.one {x : V} {d : D} (h : Rep Γ H W x d) : Reps Γ H W [x] [d] := .cons h .nil
end
/-! things that change, and the slots of a frame -/
/-- the region of a thing that changes -/
abbrev Rg := Option (Addr × Addr)
def regs (ms : List Rg) : As := fun b => ∃ a dx, some (a, dx) ∈ ms ∧ (b = a ∨ b = dx)
def MAt (Γ : GG) (H : Hp) (W : As) (a dx : Addr) : MO → Prop
  | .lst ds => dx = a ∧ ∃ xs, H a = some (.lst xs) ∧ Reps Γ H W xs ds
  | .ins c fs => dx = a ∧ ∃ C d gs, Γ.mg c = some (.ref C) ∧ H a = some (.ins C d gs) ∧ RepF Γ H W gs fs
  | .slt c vs => ∃ C ws, Γ.mg c = some (.ref C) ∧ dx ≠ a ∧ (∃ u, H dx = some u ∧ Plain u) ∧ Slt H a C dx ws ∧ RepO Γ H W ws vs
  | .dct es => dx = a ∧ ∃ kvs, H a = some (.dK kvs) ∧ RepK Γ H W kvs es
inductive SlotR (Γ : GG) (H : Hp) (W : As) : Rg → Option S → Option V → Prop
  | no {x : Option V} : SlotR Γ H W none none x
  | v {x : V} {d : D} : Rep Γ H W x d → SlotR Γ H W none (some (.v d)) (some x)
  | m {a dx : Addr} {o : MO} : MAt Γ H W a dx o → SlotR Γ H W (some (a, dx)) (some (.m o)) (some (.ref a))
inductive SlotsR (Γ : GG) (H : Hp) (W : As) : List Rg → Ds → L2.St → Prop
  | nil : SlotsR Γ H W [] [] []
  | cons {r : Rg} {s : Option S} {x : Option V} {rs : List Rg} {ss : Ds} {xs : L2.St} : SlotR Γ H W r s x → SlotsR Γ H W rs ss xs → SlotsR Γ H W (r :: rs) (s :: ss) (x :: xs)
section
variable {Γ : GG} {H H' : Hp} {W W' A : As} {a dx : Addr} {o : MO} {ms : List Rg} {δ : Ds} {σ : L2.St}
theorem pl_lst {xs : List V} : Plain (.lst xs) := ⟨nt_lst, fun _ _ z => nomatch z⟩
theorem pl_ins {C dx : Addr} {gs : List (Str × V)} : Plain (.ins C dx gs) := ⟨nt_ins, fun _ _ z => nomatch z⟩
theorem pl_dK {kvs : List (Key × V)} : Plain (.dK kvs) := ⟨nt_dK, fun _ _ z => nomatch z⟩
theorem pl_xd {gs : List (Str × V)} : Plain (.xd gs) := ⟨nt_xd, fun _ _ z => nomatch z⟩
theorem pl_own {x : Addr} : Plain (.own x) := ⟨nt_own, fun _ _ z => nomatch z⟩
theorem pl_slO {a C dx : Addr} {vs : List (Option V)} : Plain (SlO a C dx vs) := ⟨nt_slO, fun c q z => by
  unfold SlO LamX.CodeO at z
  injection z with z
  have e := congrFun z ⟨Array.replicate (c + 1) ⟨.none, none, .fields #[.none, .str q 0], #[]⟩, {}⟩
  have g : (⟨Array.replicate (c + 1) ⟨.none, none, .fields #[.none, .str q 0], #[]⟩, {}⟩ : Heap).get? c = some ⟨.none, none, .fields #[.none, .str q 0], #[]⟩ := by
    unfold Heap.get?
    rw [Array.getElem?_replicate, if_pos (Nat.lt_succ_self c)]
  have y := e.mpr ⟨_, _, _, g, rfl, rfl⟩
  obtain ⟨sl, y, _⟩ := y
  have hz : ∀ b o, (⟨Array.replicate (c + 1) ⟨.none, none, .fields #[.none, .str q 0], #[]⟩, {}⟩ : Heap).get? b = some o → o.data = .fields #[.none, .str q 0] := fun b o h => by
    unfold Heap.get? at h
    rw [Array.getElem?_replicate] at h
    by_cases l : b < c + 1
    · rw [if_pos l] at h
      cases h
      rfl
    · rw [if_neg l] at h
      cases h
  have := hz _ _ y
  cases this⟩
theorem MAt.at {o : MO} (h : MAt Γ H W a dx o) : (∃ u, H a = some u ∧ Plain u) ∧ ∃ u, H dx = some u ∧ Plain u := by
  match o, h with
  | .lst ds, ⟨e, xs, h, _⟩ => subst e; exact ⟨⟨_, h, pl_lst⟩, ⟨_, h, pl_lst⟩⟩
  | .ins c fs, ⟨e, C, d, gs, _, h, _⟩ => subst e; exact ⟨⟨_, h, pl_ins⟩, ⟨_, h, pl_ins⟩⟩
  | .slt c vs, ⟨C, ws, _, _, h1, h2, _⟩ =>
    refine ⟨?_, h1⟩
    rcases h2 with ⟨z1, z2⟩ | ⟨z1, z2⟩
    · exact ⟨_, z1, pl_ins⟩
    · exact ⟨_, z1, pl_slO⟩
  | .dct es, ⟨e, kvs, h, _⟩ => subst e; exact ⟨⟨_, h, pl_dK⟩, ⟨_, h, pl_dK⟩⟩
theorem MAt.al (h : MAt Γ H W a dx o) : H a ≠ none ∧ H dx ≠ none := by
  obtain ⟨⟨u, e, _⟩, v, e', _⟩ := h.at
  rw [e, e']
  exact ⟨(fun z => nomatch z), (fun z => nomatch z)⟩
theorem MAt.mv (m : Mv A W W' H H') (n1 : ¬ A a) (n2 : ¬ A dx) (h : MAt Γ H W a dx o) : MAt Γ H' W' a dx o := by
  match o, h with
  | .lst ds, ⟨e, xs, h, r⟩ => exact ⟨e, xs, m.le.keep _ _ n1 nt_lst h, r.mv m⟩
  | .ins c fs, ⟨e, C, d, gs, h0, h, r⟩ => exact ⟨e, C, d, gs, h0, m.le.keep _ _ n1 nt_ins h, r.mv m⟩
  | .slt c vs, ⟨C, ws, h0, h1, ⟨u, h2, h2'⟩, h3, r⟩ => exact ⟨C, ws, h0, h1, ⟨u, m.le.keep _ _ n2 h2'.1 h2, h2'⟩, m.le.slt n1 n2 h3, r.mv m⟩
  | .dct es, ⟨e, kvs, h, r⟩ => exact ⟨e, kvs, m.le.keep _ _ n1 nt_dK h, r.mv m⟩
/-- two addresses alone are written, no table's and no code object's -/
theorem tabs_two {T : TTb} {u v : HO} (ha : H a = some u) (pa : Plain u) (hd : H dx = some v) (pd : Plain v) (keep : ∀ b o, b ≠ a → b ≠ dx → H b = some o → H' b = some o) (t : TabC T H) : TabC T H' := by
  have ne : ∀ b o, H b = some o → o ≠ u → o ≠ v → H' b = some o := fun b o e n1 n2 => keep b o (fun z => n1 (by rw [z, ha] at e; exact (Option.some.inj e).symm)) (fun z => n2 (by rw [z, hd] at e; exact (Option.some.inj e).symm)) e
  have co : ∀ c q, H c = some (LamX.CodeO c q) → H' c = some (LamX.CodeO c q) := fun c q e => ne _ _ e (fun z => pa.2 _ _ z.symm) (fun z => pd.2 _ _ z.symm)
  refine ⟨fun p hp => ?_, fun p hp => co _ _ (t.2 p hp)⟩
  obtain ⟨ps, h1, h2, h3⟩ := t.1 p hp
  refine ⟨ps, ne _ _ h1 (fun z => pa.1 _ z.symm) (fun z => pd.1 _ z.symm), h2, fun pos cv hc => ?_⟩
  obtain ⟨c, e1, e2⟩ := h3 pos cv hc
  exact ⟨c, e1, co _ _ e2⟩
theorem SlotsR.len (h : SlotsR Γ H W ms δ σ) : ms.length = δ.length ∧ σ.length = δ.length := by
  induction h with
  | nil => exact ⟨rfl, rfl⟩
  | cons _ _ ih => exact ⟨by simp [ih.1], by simp [ih.2]⟩
theorem SlotsR.get (h : SlotsR Γ H W ms δ σ) {i : Nat} {s : Option S} (e : δ[i]? = some s) : ∃ r x, ms[i]? = some r ∧ σ[i]? = some x ∧ SlotR Γ H W r s x := by
  induction h generalizing i with
  | nil => simp at e
  | cons h1 _ ih =>
    cases i with
    | zero => simp at e; subst e; exact ⟨_, _, rfl, rfl, h1⟩
    | succ i => obtain ⟨r, x, a, b, c⟩ := ih (i := i) (by simpa using e); exact ⟨r, x, by simpa using a, by simpa using b, c⟩
theorem SlotsR.getM (h : SlotsR Γ H W ms δ σ) {i : Nat} {a dx : Addr} (e : ms[i]? = some (some (a, dx))) : ∃ o, δ[i]? = some (some (.m o)) ∧ σ[i]? = some (some (.ref a)) ∧ MAt Γ H W a dx o := by
  induction h generalizing i with
  | nil => simp at e
  | cons h1 _ ih =>
    cases i with
    | zero =>
      simp at e
      subst e
      cases h1 with
      | m h => exact ⟨_, rfl, rfl, h⟩
    | succ i => obtain ⟨o, a, b, c⟩ := ih (i := i) (by simpa using e); exact ⟨o, by simpa using a, by simpa using b, c⟩
theorem SlotsR.set (h : SlotsR Γ H W ms δ σ) {r : Rg} {s : Option S} {x : Option V} (h2 : SlotR Γ H W r s x) (i : Nat) : SlotsR Γ H W (ms.set i r) (δ.set i s) (σ.set i x) := by
  induction h generalizing i with
  | nil => exact .nil
  | cons h1 h3 ih =>
    cases i with
    | zero => exact .cons h2 h3
    | succ i => exact .cons h1 (ih i)
theorem SlotsR.app {ms' : List Rg} {δ' : Ds} {σ' : L2.St} (h : SlotsR Γ H W ms δ σ) (h' : SlotsR Γ H W ms' δ' σ') : SlotsR Γ H W (ms ++ ms') (δ ++ δ') (σ ++ σ') := by
  induction h with
  | nil => exact h'
  | cons h1 _ ih => exact .cons h1 ih
theorem SlotsR.imp (h : SlotsR Γ H W ms δ σ) (f : ∀ r s x, r ∈ ms → SlotR Γ H W r s x → SlotR Γ H' W' r s x) : SlotsR Γ H' W' ms δ σ := by
  induction h with
  | nil => exact .nil
  | cons h1 _ ih => exact .cons (f _ _ _ List.mem_cons_self h1) (ih fun r s x hr => f r s x (List.mem_cons_of_mem _ hr))
/-- all slots, where no thing of theirs is changed -/
theorem SlotsR.mv (m : Mv A W W' H H') (n : ∀ b, regs ms b → ¬ A b) (h : SlotsR Γ H W ms δ σ) : SlotsR Γ H' W' ms δ σ := by
  refine h.imp fun r s x hr z => ?_
  cases z with
  | no => exact .no
  | v z => exact .v (z.mv m)
  | m z => exact .m (z.mv m (n _ ⟨_, _, hr, .inl rfl⟩) (n _ ⟨_, _, hr, .inr rfl⟩))
end
/-- later -/
def Fut (W : As) (H : Hp) (W' : As) (H' : Hp) : Prop := ∃ A, Mv A W W' H H'
section
variable {H H' H2 : Hp} {W W' W2 A : As}
theorem Fut.refl : Fut W H W H := ⟨fun _ => False, Mv.wk fun _ z => z⟩
theorem Fut.trans (a : Fut W H W' H') (b : Fut W' H' W2 H2) : Fut W H W2 H2 := by
  obtain ⟨A, a⟩ := a
  obtain ⟨B, b⟩ := b
  have back : ∀ c, H' c = none → H c = none := fun c h => by
    cases e : H c with
    | none => rfl
    | some o => exact absurd h (a.le.al c (by rw [e]; exact fun z => nomatch z))
  refine ⟨fun c => A c ∨ (B c ∧ W c), ⟨⟨fun c o n t h => b.le.keep c o (fun z => ?_) t (a.le.keep c o (fun z => n (.inl z)) t h), fun c h => b.le.al c (a.le.al c h), fun T t => b.le.tb T (a.le.tb T t)⟩, fun c z => z.elim (a.sub c) (·.2), fun c z => ?_⟩⟩
  · rcases a.w c (b.sub c z) with y | y
    · exact n (.inr ⟨z, y⟩)
    · rw [h] at y; cases y
  · rcases b.w c z with y | y
    · exact a.w c y
    · exact .inr (back c y)
theorem Mv.fut (m : Mv A W W' H H') : Fut W H W' H' := ⟨A, m⟩
end
/-- a slot that stays, since when -/
structure Fx where
  i : Nat
  v : V
  H0 : Hp
  W0 : As
abbrev FX := Option Fx
/-- what is known of a frame's entry: what may not be met in values, what may be changed, the heap, the regions of the parameters -/
structure Gh (fx : FX) where
  W0 : As
  A0 : As
  H0 : Hp
  rs : List Rg
def Wt {fx : FX} (g : Gh fx) (ms : List Rg) : As := fun b => g.W0 b ∨ regs ms b
/-- the frame by trees -/
structure Sim (Γ : GG) {fx : FX} (g : Gh fx) (ms : List Rg) (δ : Ds) (σ : L2.St) (H : Hp) : Prop where
  sl : SlotsR Γ H (Wt g ms) ms δ σ
  dis : ∀ (i j : Nat) (a dx b dy : Addr), ms[i]? = some (some (a, dx)) → ms[j]? = some (some (b, dy)) → i ≠ j → a ≠ b ∧ a ≠ dy ∧ dx ≠ b ∧ dx ≠ dy
  par : ∀ (i : Nat) (r : Addr × Addr), g.rs[i]? = some (some r) → ms[i]? = some (some r)
  loc : ∀ (i : Nat) (a dx : Addr), g.rs.length ≤ i → ms[i]? = some (some (a, dx)) → g.H0 a = none ∧ g.H0 dx = none
  prg : ∀ (i : Nat) (a dx : Addr), i < g.rs.length → ms[i]? = some (some (a, dx)) → g.A0 a ∧ g.A0 dx
  rsl : g.rs.length ≤ ms.length
  a0 : ∀ b, g.A0 b → g.W0 b
  w0 : ∀ b, g.W0 b → g.H0 b ≠ none
  le : Le g.A0 g.H0 H
  tab : TabC Γ.T H
  fix : ∀ f, fx = some f → σ[f.i]? = some (some f.v) ∧ δ[f.i]? = some (some (.v .opq)) ∧ Fut f.W0 f.H0 (Wt g ms) H
def Kp (fx : FX) (δ δ' : Ds) : Prop := ∀ f, fx = some f → δ[f.i]? = some (some (.v .opq)) → δ'[f.i]? = some (some (.v .opq))
theorem Kp.rfl {fx : FX} {δ : Ds} : Kp fx δ δ := fun _ _ h => h
section
variable {Γ : GG} {fx : FX} {g : Gh fx} {ms : List Rg} {δ : Ds} {σ : L2.St} {H H' : Hp}
theorem Sim.alR (h : Sim Γ g ms δ σ H) {b : Addr} (z : regs ms b) : H b ≠ none := by
  obtain ⟨a, dx, hm, e⟩ := z
  obtain ⟨i, hi⟩ := List.mem_iff_getElem?.mp hm
  obtain ⟨o, _, _, h2⟩ := h.sl.getM hi
  rcases e with e | e <;> rw [e]
  · exact h2.al.1
  · exact h2.al.2
theorem Sim.alW (h : Sim Γ g ms δ σ H) {b : Addr} (z : Wt g ms b) : H b ≠ none := by
  rcases z with z | z
  · exact h.le.al _ (h.w0 _ z)
  · exact h.alR z
theorem Sim.fresh (h : Sim Γ g ms δ σ H) {p : Addr} (z : H p = none) : ¬ Wt g ms p := fun y => h.alW y z
/-- a step in which things of the frame alone change -/
theorem Sim.step {δ' : Ds} (h : Sim Γ g ms δ σ H) (sl : SlotsR Γ H' (Wt g ms) ms δ' σ) (l : Le (regs ms) H H') (kp : Kp fx δ δ') : Sim Γ g ms δ' σ H' := by
  refine ⟨sl, h.dis, h.par, h.loc, h.prg, h.rsl, h.a0, h.w0, ⟨fun b o n t z => l.keep b o (fun y => ?_) t (h.le.keep b o n t z), fun b z => l.al b (h.le.al b z), fun T t => l.tb T (h.le.tb T t)⟩, l.tb _ h.tab, fun f e => ?_⟩
  · obtain ⟨a, dx, hm, e⟩ := y
    obtain ⟨i, hi⟩ := List.mem_iff_getElem?.mp hm
    by_cases c : i < g.rs.length
    · have q := h.prg i a dx c hi
      rcases e with e | e <;> rw [e] at n
      · exact n q.1
      · exact n q.2
    · have q := h.loc i a dx (Nat.le_of_not_lt c) hi
      rcases e with e | e <;> rw [e] at z
      · rw [q.1] at z; cases z
      · rw [q.2] at z; cases z
  · obtain ⟨h1, h2, h3⟩ := h.fix f e
    exact ⟨h1, kp f e h2, h3.trans (Mv.le' l fun _ z => .inr z).fut⟩
/-- only new things -/
theorem Sim.grow (h : Sim Γ g ms δ σ H) (s : Same H H') : Sim Γ g ms δ σ H' :=
  h.step (h.sl.mv (Mv.le' (A := fun _ => False) (Le.same s) fun _ z => z.elim) (fun _ _ z => z)) (Le.same s) Kp.rfl
end
end DL

set_option Elab.async false
set_option linter.all false
set_option maxRecDepth 100000
set_option maxHeartbeats 4000000
set_option autoImplicit false
/-! readings by trees: expressions -/
namespace DL
open L2 PyProof.Rows PySem.Spec PySem G58 SlX
variable [TbL]
/-- a wish about exceptions, the tables, a slot that stays -/
structure WT where
  wx : WX
  T : TTb
  fx : FX
inductive Out (α : Type) where
  | ok (a : α) (δ : Ds) | ex (x : Exc) (δ : Ds) | bad
abbrev ME (α : Type) := Ds → Out α
def bnd {α β : Type} (c : ME α) (f : α → ME β) : ME β := fun δ => match c δ with
  | .ok a δ' => f a δ'
  | .ex x δ' => .ex x δ'
  | .bad => .bad
def rtn {α : Type} (a : α) : ME α := fun δ => .ok a δ
def opt {α : Type} (o : Option α) : ME α := fun δ => match o with
  | some a => .ok a δ
  | none => .bad
/-- an exception by its class and what it keeps -/
def XRep (Γ : GG) (H : Hp) (W : As) (x : Exc) (cls : Value) (dd : Option Addr) : Prop :=
  ∃ C dx gs, Γ.mg x.c = some (.ref C) ∧ cls = .ref C ∧ dd = some dx ∧ H dx = some (.xd gs) ∧ ¬ W dx ∧ RepF Γ H W gs x.fs
section
variable (Γ : GG) (Wx : WT)
def Post {α : Type} {fx : FX} (g : Gh fx) (ms : List Rg) (σ : L2.St) (H : Hp) (Q : α → Ds → Hp → Prop) : Out α → Prop
  | .ok a δ' => ∀ H', Sim Γ g ms δ' σ H' → Le (regs ms) H H' → Q a δ' H'
  | .ex x δ' => ∀ cls dd H', Sim Γ g ms δ' σ H' → Le (regs ms) H H' → XRep Γ H' (Wt g ms) x cls dd → Wx.wx cls dd σ H'
  | .bad => False
def liftE (F : ME D) : TE := fun σ H Q => ∃ (g : Gh Wx.fx) (ms : List Rg) (δ : Ds), Sim Γ g ms δ σ H ∧ Post Γ Wx g ms σ H (fun d _ H' => ∀ v, Rep Γ H' (Wt g ms) v d → Q v H') (F δ)
def liftT (F : ME Bool) : TT := fun σ H Q => ∃ (g : Gh Wx.fx) (ms : List Rg) (δ : Ds), Sim Γ g ms δ σ H ∧ Post Γ Wx g ms σ H (fun b _ H' => Q b H') (F δ)
def liftA (F : ME (List D)) : TA := fun σ H Q => ∃ (g : Gh Wx.fx) (ms : List Rg) (δ : Ds), Sim Γ g ms δ σ H ∧ Post Γ Wx g ms σ H (fun ds _ H' => ∀ vs, Reps Γ H' (Wt g ms) vs ds → Q vs H') (F δ)
end
theorem Rep.up {Γ : GG} {fx : FX} {g : Gh fx} {ms : List Rg} {H H' : Hp} {v : V} {d : D} (r : Rep Γ H (Wt g ms) v d) (l : Le (regs ms) H H') : Rep Γ H' (Wt g ms) v d := r.mv (Mv.le' l fun _ z => .inr z)
theorem Reps.up {Γ : GG} {fx : FX} {g : Gh fx} {ms : List Rg} {H H' : Hp} {v : List V} {d : List D} (r : Reps Γ H (Wt g ms) v d) (l : Le (regs ms) H H') : Reps Γ H' (Wt g ms) v d := r.mv (Mv.le' l fun _ z => .inr z)
section
variable {Γ : GG} {Wx : WT} {g : Gh Wx.fx} {ms : List Rg} {δ : Ds} {σ : L2.St} {H H' : Hp} {α β : Type} {Q : β → Ds → Hp → Prop}
theorem Post.up {r : Out β} (h : Post Γ Wx g ms σ H Q r) (l : Le (regs ms) H H') : Post Γ Wx g ms σ H' Q r := by
  match r, h with
  | .ok a δ', h => exact fun H2 s l2 => h H2 s (l.trans l2)
  | .ex x δ', h => exact fun c d H2 s l2 => h c d H2 s (l.trans l2)
/-- the first part of two -/
theorem post_bnd {F : ME α} {G : α → ME β} {R : α → Ds → Hp → Prop} (h : Post Γ Wx g ms σ H Q (bnd F G δ))
    (k : ∀ a δ' H', Sim Γ g ms δ' σ H' → Le (regs ms) H H' → Post Γ Wx g ms σ H' Q (G a δ') → R a δ' H') : Post Γ Wx g ms σ H R (F δ) := by
  unfold bnd at h
  cases e : F δ with
  | ok a δ' => rw [e] at h; exact fun H' s l => k a δ' H' s l (Post.up h l)
  | ex x δ' => rw [e] at h; exact h
  | bad => rw [e] at h; exact h
theorem lift_bnd {F : ME D} {G : D → ME β} {R : V → Hp → Prop} (s : Sim Γ g ms δ σ H) (h : Post Γ Wx g ms σ H Q (bnd F G δ))
    (k : ∀ d δ' H' v, Sim Γ g ms δ' σ H' → Le (regs ms) H H' → Rep Γ H' (Wt g ms) v d → Post Γ Wx g ms σ H' Q (G d δ') → R v H') : liftE Γ Wx F σ H R :=
  ⟨g, ms, δ, s, post_bnd h fun a δ' H' s l p v r => k a δ' H' v s l r p⟩
theorem liftT_bnd {F : ME Bool} {G : Bool → ME β} {R : Bool → Hp → Prop} (s : Sim Γ g ms δ σ H) (h : Post Γ Wx g ms σ H Q (bnd F G δ))
    (k : ∀ b δ' H', Sim Γ g ms δ' σ H' → Le (regs ms) H H' → Post Γ Wx g ms σ H' Q (G b δ') → R b H') : liftT Γ Wx F σ H R :=
  ⟨g, ms, δ, s, post_bnd h k⟩
theorem liftA_bnd {F : ME (List D)} {G : List D → ME β} {R : List V → Hp → Prop} (s : Sim Γ g ms δ σ H) (h : Post Γ Wx g ms σ H Q (bnd F G δ))
    (k : ∀ d δ' H' v, Sim Γ g ms δ' σ H' → Le (regs ms) H H' → Reps Γ H' (Wt g ms) v d → Post Γ Wx g ms σ H' Q (G d δ') → R v H') : liftA Γ Wx F σ H R :=
  ⟨g, ms, δ, s, post_bnd h fun a δ' H' s l p v r => k a δ' H' v s l r p⟩
/-- the last part -/
theorem post_opt {o : Option α} {R : α → Ds → Hp → Prop} (s : Sim Γ g ms δ σ H) (h : Post Γ Wx g ms σ H R (opt o δ)) : ∃ a, o = some a ∧ R a δ H := by
  cases o with
  | none => exact h.elim
  | some a => exact ⟨a, rfl, h H s Le.refl⟩
theorem post_rtn {a : α} {R : α → Ds → Hp → Prop} (s : Sim Γ g ms δ σ H) (h : Post Γ Wx g ms σ H R (rtn a δ)) : R a δ H := h H s Le.refl
/-- the last part, which makes new things -/
theorem post_optN {o : Option α} {R : α → Ds → Hp → Prop} (s : Sim Γ g ms δ σ H) (h : Post Γ Wx g ms σ H R (opt o δ)) : ∃ a, o = some a ∧ ∀ H', Same H H' → R a δ H' := by
  cases o with
  | none => exact h.elim
  | some a => exact ⟨a, rfl, fun H' e => h H' (s.grow e) (Le.same e)⟩
end
/-- a judgement by a weaker reading -/
theorem pe_of {X : Cx} {e : Expr} {t t' : TE} (h : PE X e t) (w : ∀ σ H Q, t' σ H Q → t σ H Q) : PE X e t' := ⟨fun p s σ H Q I z => h.run p s σ H Q I (w σ H Q z)⟩
theorem pt_of {X : Cx} {e : Expr} {t t' : TT} (h : PT X e t) (w : ∀ σ H Q, t' σ H Q → t σ H Q) : PT X e t' := ⟨fun p s σ H Q I z => h.run p s σ H Q I (w σ H Q z)⟩
theorem pw_of {X : Cx} {e : Expr} {t t' : TT} (h : PW X e t) (w : ∀ σ H Q, t' σ H Q → t σ H Q) : PW X e t' := ⟨fun wh p s σ H Q I z => h.run wh p s σ H Q I (w σ H Q z)⟩
theorem pa_of {X : Cx} {e : List Expr} {t t' : TA} (h : PA X e t) (w : ∀ σ H Q, t' σ H Q → t σ H Q) : PA X e t' := ⟨fun ps p s σ H Q I z => h.run ps p s σ H Q I (w σ H Q z)⟩
/-! the readings -/
def eVar (i : Nat) : ME D := fun δ => match δ[i]? with
  | some (some (.v d)) => .ok d δ
  | _ => .bad
def eC (d : D) : ME D := rtn d
def eBin (f : D → D → Option D) (a b : ME D) : ME D := bnd a fun x => bnd b fun y => opt (f x y)
def eUn (f : D → Option D) (a : ME D) : ME D := bnd a fun x => opt (f x)
def isNon : D → Bool
  | .non => true
  | _ => false
def eIsN (a : ME D) : ME D := bnd a fun x => rtn (.bl (isNon x))
def eNotN (a : ME D) : ME D := bnd a fun x => rtn (.bl (!isNon x))
def asB : D → Option Bool
  | .bl b => some b
  | _ => none
def tVal (a : ME D) : ME Bool := bnd a fun x => opt (asB x)
def eAnd (a b : ME D) : ME D := bnd a fun x => bnd (opt (asB x)) fun c => match c with | true => b | false => rtn (.bl false)
def eOr (a b : ME D) : ME D := bnd a fun x => bnd (opt (asB x)) fun c => match c with | true => rtn (.bl true) | false => b
def eNot (a : ME D) : ME D := bnd a fun x => bnd (opt (asB x)) fun c => rtn (.bl (!c))
def tAndD (a b : ME Bool) : ME Bool := bnd a fun c => match c with | true => b | false => rtn false
def tOrD (a b : ME Bool) : ME Bool := bnd a fun c => match c with | true => rtn true | false => b
def tNotD (a : ME Bool) : ME Bool := bnd a fun c => rtn (!c)
def eIte (c : ME Bool) (a b : ME D) : ME D := bnd c fun x => match x with | true => a | false => b
def aNil : ME (List D) := rtn []
def aCons (a : ME D) (r : ME (List D)) : ME (List D) := bnd a fun x => bnd r fun xs => rtn (x :: xs)
/-- a size that a list may have here -/
def szOk (n : Nat) : Bool := decide (n ≤ 16000000)
def eTup (a : ME (List D)) : ME D := bnd a fun xs => opt (if szOk xs.length then some (.tup xs) else none)
def eLst (a : ME (List D)) : ME D := bnd a fun xs => opt (if szOk xs.length then some (.lst xs) else none)
section
variable {X : Cx} {Wx : WT} {e a b : Expr} {es : List Expr} {pos : Pos} {Fa Fb : ME D} {Ta Tb : ME Bool} {As' : ME (List D)}
/-- the judgements by trees -/
abbrev DE (X : Cx) (Wx : WT) (e : Expr) (F : ME D) : Prop := PE X e (liftE (gg X Wx.T) Wx F)
abbrev DT (X : Cx) (Wx : WT) (e : Expr) (F : ME Bool) : Prop := PT X e (liftT (gg X Wx.T) Wx F)
abbrev DW (X : Cx) (Wx : WT) (e : Expr) (F : ME Bool) : Prop := PW X e (liftT (gg X Wx.T) Wx F)
abbrev DA (X : Cx) (Wx : WT) (es : List Expr) (F : ME (List D)) : Prop := PA X es (liftA (gg X Wx.T) Wx F)
theorem de_var {i : Nat} (h : PE X e (tVar i)) : DE X Wx e (eVar i) := by
  refine pe_of h fun σ H Q z => ?_
  obtain ⟨g, ms, δ, s, p⟩ := z
  unfold eVar at p
  split at p
  · rename_i d hd
    obtain ⟨r, x, _, h2, h3⟩ := s.sl.get hd
    cases h3 with
    | v h3 => exact ⟨_, h2, p H s Le.refl _ h3⟩
  · exact p.elim
theorem de_c {v : V} {d : D} (h : PE X e (tC v)) (r : ∀ H W, Rep (gg X Wx.T) H W v d) : DE X Wx e (eC d) := by
  refine pe_of h fun σ H Q z => ?_
  obtain ⟨g, ms, δ, s, p⟩ := z
  exact p H s Le.refl _ (r _ _)
theorem de_int {i : Int} {j pos} : DE X Wx (.Constant (.int i) j pos) (eC (.int i)) := de_c pe_int fun _ _ => .int i
theorem de_bl {i : Bool} {j pos} : DE X Wx (.Constant (.bool i) j pos) (eC (.bl i)) := de_c pe_bl fun _ _ => .bl i
theorem de_non {j pos} : DE X Wx (.Constant .none j pos) (eC .non) := de_c pe_non fun _ _ => .non
theorem de_str {i : Str} {j pos} : DE X Wx (.Constant (.str i) j pos) (eC (.str i)) := de_c pe_str fun _ _ => .str i
/-- what a rule of two values asks of a function on trees -/
structure Op2 (X : Cx) (r : R2) (f : D → D → Option D) : Prop where
  go : ∀ (T : TTb) (fx : FX) (g : Gh fx) (ms : List Rg) (δ : Ds) (σ : L2.St) (H : Hp) (x y : V) (d e z : D) (Q : VK), Sim (gg X T) g ms δ σ H → Rep (gg X T) H (Wt g ms) x d → Rep (gg X T) H (Wt g ms) y e → f d e = some z →
    (∀ H', Same H H' → ∀ v, Rep (gg X T) H' (Wt g ms) v z → Q v H') → r x y H Q
theorem de_bin {op : Operator} {r : R2} {f : D → D → Option D} (ho : OpR X (binaryOp op) r) (F : Op2 X r f) (ha : DE X Wx a Fa) (hb : DE X Wx b Fb) : DE X Wx (.BinOp a op b pos) (eBin f Fa Fb) := by
  refine pe_of (pe_op ho ha hb) fun σ H Q z => ?_
  obtain ⟨g, ms, δ, s, p⟩ := z
  refine lift_bnd s p fun d1 δ1 H1 x s1 l1 r1 p1 => lift_bnd s1 p1 fun d2 δ2 H2 y s2 l2 r2 p2 => ?_
  obtain ⟨z, e, k⟩ := post_optN s2 p2
  exact F.go _ _ g ms δ2 σ H2 x y d1 d2 z Q s2 (r1.up l2) r2 e k
theorem de_cmp {op : CmpOp} {r : R2} {f : D → D → Option D} (ho : OpR X (compareOp op) r) (F : Op2 X r f) (ha : DE X Wx a Fa) (hb : DE X Wx b Fb) (hm : behindInMarks op b = false) : DE X Wx (.Compare a [op] [b] pos) (eBin f Fa Fb) := by
  refine pe_of (pe_cmpR ho ha hb hm) fun σ H Q z => ?_
  obtain ⟨g, ms, δ, s, p⟩ := z
  refine lift_bnd s p fun d1 δ1 H1 x s1 l1 r1 p1 => lift_bnd s1 p1 fun d2 δ2 H2 y s2 l2 r2 p2 => ?_
  obtain ⟨z, e, k⟩ := post_optN s2 p2
  exact F.go _ _ g ms δ2 σ H2 x y d1 d2 z Q s2 (r1.up l2) r2 e k
theorem rep_bl {Γ : GG} {H : Hp} {W : As} {v : V} {b : Bool} (h : Rep Γ H W v (.bl b)) : v = .bl b := by
  cases h
  rfl
theorem rep_non {Γ : GG} {H : Hp} {W : As} {v : V} {d : D} (h : Rep Γ H W v d) : decide (v = .non) = isNon d := by
  cases h <;> simp [isNon]
theorem asB_some {d : D} {c : Bool} (h : asB d = some c) : d = .bl c := by
  cases d <;> simp [asB] at h
  rw [h]
theorem de_isN {j pos'} (ha : DE X Wx a Fa) : DE X Wx (.Compare a [.Is] [.Constant .none j pos'] pos) (eIsN Fa) := by
  refine pe_of (pe_cmp (pc_isN ha)) fun σ H Q z => ?_
  obtain ⟨g, ms, δ, s, p⟩ := z
  refine lift_bnd s p fun d1 δ1 H1 x s1 l1 r1 p1 => ?_
  have k := post_rtn s1 p1
  rw [rep_non r1]
  exact k _ (.bl _)
theorem de_notN {j pos'} (ha : DE X Wx a Fa) : DE X Wx (.Compare a [.IsNot] [.Constant .none j pos'] pos) (eNotN Fa) := by
  refine pe_of (pe_cmp (pc_notN ha)) fun σ H Q z => ?_
  obtain ⟨g, ms, δ, s, p⟩ := z
  refine lift_bnd s p fun d1 δ1 H1 x s1 l1 r1 p1 => ?_
  have k := post_rtn s1 p1
  rw [rep_non r1]
  exact k _ (.bl _)
theorem dt_val (ha : PT X e (tB (liftE (gg X Wx.T) Wx Fa))) : DT X Wx e (tVal Fa) := by
  refine pt_of ha fun σ H Q z => ?_
  obtain ⟨g, ms, δ, s, p⟩ := z
  refine lift_bnd s p fun d1 δ1 H1 x s1 l1 r1 p1 => ?_
  obtain ⟨c, e, k⟩ := post_opt s1 p1
  cases asB_some e
  exact ⟨c, rep_bl r1, k⟩
theorem de_one {op} (h : DE X Wx a Fa) : DE X Wx (.BoolOp op [a] pos) Fa := pe_one h
theorem de_and (ha : DE X Wx a Fa) (hb : DE X Wx (.BoolOp .And (b :: es) pos) Fb) : DE X Wx (.BoolOp .And (a :: b :: es) pos) (eAnd Fa Fb) := by
  refine pe_of (pe_and ha hb) fun σ H Q z => ?_
  obtain ⟨g, ms, δ, s, p⟩ := z
  refine lift_bnd s p fun d1 δ1 H1 x s1 l1 r1 p1 => ?_
  unfold bnd at p1
  cases e : asB d1 with
  | none => rw [e] at p1; exact p1.elim
  | some c =>
    rw [e] at p1
    cases asB_some e
    refine ⟨c, rep_bl r1, ?_⟩
    cases c with
    | true => exact iteT ⟨g, ms, δ1, s1, p1⟩
    | false => exact iteF (post_rtn s1 p1 _ (.bl _))
theorem de_or (ha : DE X Wx a Fa) (hb : DE X Wx (.BoolOp .Or (b :: es) pos) Fb) : DE X Wx (.BoolOp .Or (a :: b :: es) pos) (eOr Fa Fb) := by
  refine pe_of (pe_or ha hb) fun σ H Q z => ?_
  obtain ⟨g, ms, δ, s, p⟩ := z
  refine lift_bnd s p fun d1 δ1 H1 x s1 l1 r1 p1 => ?_
  unfold bnd at p1
  cases e : asB d1 with
  | none => rw [e] at p1; exact p1.elim
  | some c =>
    rw [e] at p1
    cases asB_some e
    refine ⟨c, rep_bl r1, ?_⟩
    cases c with
    | false => exact iteF ⟨g, ms, δ1, s1, p1⟩
    | true => exact iteT (post_rtn s1 p1 _ (.bl _))
theorem de_not (ha : DE X Wx a Fa) : DE X Wx (.UnaryOp .Not a pos) (eNot Fa) := by
  refine pe_of (pe_not ha) fun σ H Q z => ?_
  obtain ⟨g, ms, δ, s, p⟩ := z
  refine lift_bnd s p fun d1 δ1 H1 x s1 l1 r1 p1 => ?_
  unfold bnd at p1
  cases e : asB d1 with
  | none => rw [e] at p1; exact p1.elim
  | some c =>
    rw [e] at p1
    cases asB_some e
    exact ⟨c, rep_bl r1, post_rtn s1 p1 _ (.bl _)⟩
theorem dw_and1 (ha : DT X Wx a Ta) : DW X Wx (.BoolOp .And [a] pos) Ta := pw_and1 ha
theorem dw_or1 (ha : DT X Wx a Ta) : DW X Wx (.BoolOp .Or [a] pos) Ta := pw_or1 ha
theorem dw_and (ha : DT X Wx a Ta) (hb : DW X Wx (.BoolOp .And (b :: es) pos) Tb) : DW X Wx (.BoolOp .And (a :: b :: es) pos) (tAndD Ta Tb) := by
  refine pw_of (pw_and ha hb) fun σ H Q z => ?_
  obtain ⟨g, ms, δ, s, p⟩ := z
  refine liftT_bnd s p fun c δ1 H1 s1 l1 p1 => ?_
  cases c with
  | true => exact iteT ⟨g, ms, δ1, s1, p1⟩
  | false => exact iteF (post_rtn s1 p1)
theorem dw_or (ha : DT X Wx a Ta) (hb : DW X Wx (.BoolOp .Or (b :: es) pos) Tb) : DW X Wx (.BoolOp .Or (a :: b :: es) pos) (tOrD Ta Tb) := by
  refine pw_of (pw_or ha hb) fun σ H Q z => ?_
  obtain ⟨g, ms, δ, s, p⟩ := z
  refine liftT_bnd s p fun c δ1 H1 s1 l1 p1 => ?_
  cases c with
  | false => exact iteF ⟨g, ms, δ1, s1, p1⟩
  | true => exact iteT (post_rtn s1 p1)
theorem dt_not (ha : DT X Wx a Ta) : DT X Wx (.UnaryOp .Not a pos) (tNotD Ta) := by
  refine pt_of (pt_not ha) fun σ H Q z => ?_
  obtain ⟨g, ms, δ, s, p⟩ := z
  exact liftT_bnd s p fun c δ1 H1 s1 l1 p1 => post_rtn s1 p1
theorem de_ifE {c : Expr} (hc : DT X Wx c Ta) (ha : DE X Wx a Fa) (hb : DE X Wx b Fb) : DE X Wx (.IfExp c a b pos) (eIte Ta Fa Fb) := by
  refine pe_of (pe_ifExp hc ha hb) fun σ H Q z => ?_
  obtain ⟨g, ms, δ, s, p⟩ := z
  refine liftT_bnd s p fun c δ1 H1 s1 l1 p1 => ?_
  cases c with
  | true => exact iteT ⟨g, ms, δ1, s1, p1⟩
  | false => exact iteF ⟨g, ms, δ1, s1, p1⟩
theorem da_nil : DA X Wx [] aNil := by
  refine pa_of pa_nil fun σ H Q z => ?_
  obtain ⟨g, ms, δ, s, p⟩ := z
  exact post_rtn s p _ .nil
theorem da_cons (ha : DE X Wx a Fa) (hb : DA X Wx es As') (hs : starEach (a :: es) X.env = (false, eval a X.env) :: starEach es X.env := by rfl) : DA X Wx (a :: es) (aCons Fa As') := by
  refine pa_of (pa_cons ha hb hs) fun σ H Q z => ?_
  obtain ⟨g, ms, δ, s, p⟩ := z
  refine lift_bnd s p fun d1 δ1 H1 x s1 l1 r1 p1 => liftA_bnd s1 p1 fun d2 δ2 H2 y s2 l2 r2 p2 => ?_
  exact post_rtn s2 p2 _ (.cons (r1.up l2) r2)
theorem sz_line {n : Nat} (h : szOk n = true) : n ≤ sizeLine := Nat.le_trans (of_decide_eq_true h) (by decide)
theorem de_tup {x1} (ha : DA X Wx es As') : DE X Wx (.Tuple es x1 pos) (eTup As') := by
  refine pe_of (pe_tup ha) fun σ H Q z => ?_
  obtain ⟨g, ms, δ, s, p⟩ := z
  refine liftA_bnd s p fun d1 δ1 H1 x s1 l1 r1 p1 => ?_
  obtain ⟨z, e, k⟩ := post_optN s1 p1
  split at e
  · rename_i hz
    cases e
    refine ⟨by rw [r1.len]; exact sz_line hz, fun p np => ?_⟩
    have sm : Same H1 (upd H1 p (.tup x)) := same_new np
    exact k _ sm _ (.tup (.inl ⟨.inl upd_same, s1.fresh np⟩) (r1.up (Le.same sm)))
  · cases e
theorem de_lst (ha : DA X Wx es As') : DE X Wx (.List es pos) (eLst As') := by
  refine pe_of (pe_lst ha) fun σ H Q z => ?_
  obtain ⟨g, ms, δ, s, p⟩ := z
  refine liftA_bnd s p fun d1 δ1 H1 x s1 l1 r1 p1 => ?_
  obtain ⟨z, e, k⟩ := post_optN s1 p1
  split at e
  · rename_i hz
    cases e
    refine ⟨by rw [r1.len]; exact sz_line hz, fun p np => ?_⟩
    have sm : Same H1 (upd H1 p (.lst x)) := same_new np
    exact k _ sm _ (.lst ⟨upd_same, s1.fresh np⟩ (r1.up (Le.same sm)))
  · cases e
end
end DL

set_option Elab.async false
set_option linter.all false
set_option maxRecDepth 100000
set_option maxHeartbeats 4000000
set_option autoImplicit false
/-! readings by trees: operators and built-in functions -/
namespace DL
open L2 PyProof.Rows PySem.Spec PySem G58 SlX
variable [TbL]
/-- an int that is not too long -/
def fit (i : Int) : Bool := decide (i.natAbs.log2 < 8000)
theorem fit_of {i : Int} {k : Nat} (h : i.natAbs < 2 ^ k) (hk : k ≤ 8000 := by decide) (h0 : 0 < k := by decide) : fit i = true := decide_eq_true (Nat.lt_of_lt_of_le (PySem.Flt.log2_lt_of h0 h) hk)
def opAdd : D → D → Option D
  | .int i, .int j => some (.int (i + j))
  | .str x, .str y => if szOk (x.length + y.length) then some (.str (x ++ y)) else none
  | .lst x, .lst y => if szOk (x.length + y.length) then some (.lst (x ++ y)) else none
  | _, _ => none
def opSub : D → D → Option D
  | .int i, .int j => some (.int (i - j))
  | _, _ => none
def opMul : D → D → Option D
  | .int i, .int j => if fit i && fit j then some (.int (i * j)) else none
  | _, _ => none
def opDiv : D → D → Option D
  | .int i, .int j => if decide (0 < j) && fit j then some (.int (i / j)) else none
  | _, _ => none
def opMod : D → D → Option D
  | .int i, .int j => if decide (0 < j) then some (.int (i % j)) else none
  | _, _ => none
def opPow : D → D → Option D
  | .int i, .int j => if decide (0 ≤ j ∧ j ≤ 100000) && decide (i.natAbs < 1000000) then some (.int (i ^ j.toNat)) else none
  | _, _ => none
def opLt : D → D → Option D
  | .int i, .int j => some (.bl (decide (i < j)))
  | _, _ => none
def opLe : D → D → Option D
  | .int i, .int j => some (.bl (decide (i ≤ j)))
  | _, _ => none
def opGt : D → D → Option D
  | .int i, .int j => some (.bl (decide (j < i)))
  | _, _ => none
def opGe : D → D → Option D
  | .int i, .int j => some (.bl (decide (j ≤ i)))
  | _, _ => none
/-- data without own things -/
def toPy : D → Option PyData
  | .non => some .none
  | .bl b => some (.bool b)
  | .int i => some (.int i)
  | .str x => some (.str x)
  | .tup xs => (toPys xs).map .tuple
  | .lst xs => (toPys xs).map .list
  | _ => none
where toPys : List D → Option (List PyData)
  | [] => some []
  | x :: xs => match toPy x, toPys xs with
    | some y, some ys => some (y :: ys)
    | _, _ => none
def eqD (d e : D) : Option Bool := match toPy d, toPy e with
  | some p, some q => if SeqAt.shaped p && SeqAt.shaped q then some (PyData.eqv p q) else none
  | _, _ => none
def opEq : D → D → Option D
  | .int i, .int j => some (.bl (decide (i = j)))
  | .str x, .str y => some (.bl (decide (x = y)))
  | d, e => (eqD d e).map .bl
def opNe : D → D → Option D
  | .int i, .int j => some (.bl (!decide (i = j)))
  | .str x, .str y => some (.bl (!decide (x = y)))
  | d, e => (eqD d e).map fun b => .bl (!b)
def flatD : D → Bool
  | .non | .bl _ | .int _ | .str _ => true
  | _ => false
def eqF : D → D → Bool
  | .non, .non => true
  | .bl a, .bl b => a == b
  | .bl a, .int b => (if a then 1 else 0) == b
  | .int a, .bl b => a == (if b then 1 else 0)
  | .int a, .int b => a == b
  | .str a, .str b => a == b
  | _, _ => false
def inF (x : D) (xs : List D) : Option Bool := if flatD x && xs.all flatD then some (xs.any fun y => eqF y x) else none
def opIn : D → D → Option D
  | x, .lst xs => (inF x xs).map .bl
  | x, .tup xs => (inF x xs).map .bl
  | _, _ => none
def opNotIn : D → D → Option D
  | x, .lst xs => (inF x xs).map fun b => .bl (!b)
  | x, .tup xs => (inF x xs).map fun b => .bl (!b)
  | _, _ => none
def opIx : D → D → Option D
  | .lst xs, .int i => atI xs i
  | .tup xs, .int i => atI xs i
  | .fl xs, .int i => atI xs i
  | .str x, .int i => if szOk x.length then (atI x.cps.toList i).map fun c => .str ⟨#[c]⟩ else none
  | _, _ => none
section
variable {X : Cx} {Γ : GG} {H : Hp} {W : As}
theorem rep_int {v : V} {i : Int} (h : Rep Γ H W v (.int i)) : v = .int i := by
  cases h
  rfl
theorem rep_str {v : V} {i : Str} (h : Rep Γ H W v (.str i)) : v = .str i := by
  cases h
  rfl
mutual
theorem Rep.dp : ∀ {v : V} {d : D} {p : PyData}, Rep Γ H W v d → toPy d = some p → Dp Γ.K H v p
  | _, _, _, .non, e => by
    cases e
    exact .non
  | _, _, _, .bl b, e => by
    cases e
    exact .bl b
  | _, _, _, .int b, e => by
    cases e
    exact .int b
  | _, _, _, .str b, e => by
    cases e
    exact .str b
  | _, _, _, .ty _, e => by cases e
  | _, _, _, .gl _, e => by cases e
  | _, _, _, .fl _ _, e => by cases e
  | _, _, _, .ins _ _ _ _, e => by cases e
  | _, _, _, .opq, e => by cases e
  | _, _, _, .dct _ _ _, e => by cases e
  | _, _, _, .exc _ _ _ _ _ _, e => by cases e
  | _, _, _, .slt _ _ _ _ _ _, e => by cases e
  | _, .tup ds, _, .tup h r, e => by
    unfold toPy at e
    cases q : toPy.toPys ds with
    | none => rw [q] at e; cases e
    | some ps =>
      rw [q] at e
      cases e
      exact .tup h.sq (Reps.dp r q)
  | _, .lst ds, _, .lst h r, e => by
    unfold toPy at e
    cases q : toPy.toPys ds with
    | none => rw [q] at e; cases e
    | some ps =>
      rw [q] at e
      cases e
      exact .lst h.sq (Reps.dp r q)
theorem Reps.dp : ∀ {v : List V} {d : List D} {p : List PyData}, Reps Γ H W v d → toPy.toPys d = some p → DpAll Γ.K H v p
  | _, _, _, .nil, e => by
    cases e
    exact .nil
  | _, d :: ds, _, .cons h r, e => by
    unfold toPy.toPys at e
    split at e
    · rename_i y ys e1 e2
      cases e
      exact .cons (Rep.dp h e1) (Reps.dp r e2)
    · cases e
end
theorem Rep.flat {v : V} {d : D} (h : Rep Γ H W v d) : flatD d = true → flatV v = true := by
  cases h <;> simp [flatD, flatV]
theorem Rep.eqf {v w : V} {d e : D} (h : Rep Γ H W v d) (h' : Rep Γ H W w e) (f : flatD d = true) (f' : flatD e = true) : eqV v w = eqF d e := by
  cases h <;> cases h' <;> simp [flatD] at f f' <;> rfl
theorem Reps.inV {x : V} {d : D} (hx : Rep Γ H W x d) (fx : flatD d = true) : ∀ {xs : List V} {ds : List D}, Reps Γ H W xs ds → ds.all flatD = true → xs.all flatV = true ∧ L2.inV x xs = ds.any fun y => eqF y d
  | _, _, .nil, _ => ⟨rfl, rfl⟩
  | _, _, .cons h r, f => by
    rw [List.all_cons, Bool.and_eq_true] at f
    obtain ⟨i1, i2⟩ := Reps.inV hx fx r f.2
    refine ⟨by rw [List.all_cons, h.flat f.1, i1]; rfl, ?_⟩
    unfold L2.inV at i2 ⊢
    rw [List.any_cons, List.any_cons, i2, h.eqf hx f.1 fx]
theorem inF_some {d : D} {ds : List D} {b : Bool} (e : inF d ds = some b) : flatD d = true ∧ ds.all flatD = true ∧ b = ds.any fun y => eqF y d := by
  unfold inF at e
  split at e
  · rename_i h
    rw [Bool.and_eq_true] at h
    exact ⟨h.1, h.2, (Option.some.inj e).symm⟩
  · cases e
theorem Reps.atI {xs : List V} {ds : List D} {i : Int} {d : D} (h : Reps Γ H W xs ds) (e : L2.atI ds i = some d) : ∃ v, L2.atI xs i = some v ∧ Rep Γ H W v d := by
  unfold L2.atI at e ⊢
  rw [h.len]
  cases q : ixN ds.length i with
  | none => rw [q] at e; cases e
  | some j =>
    rw [q] at e
    exact Reps.getD h e
end
end DL

set_option Elab.async false
set_option linter.all false
set_option maxRecDepth 100000
set_option maxHeartbeats 4000000
set_option autoImplicit false
namespace DL
open L2 PyProof.Rows PySem.Spec PySem G58 SlX
variable [TbL]
section
variable {X : Cx}
theorem o2_sub : Op2 X (rI0 fun i j => .int (i - j)) opSub := ⟨fun T fx g ms δ σ H x y d e z Q s r1 r2 h k => by
  unfold opSub at h
  split at h <;> cases h
  rw [rep_int r1, rep_int r2]
  exact i_I0 (k H (Same.refl _) _ (.int _))⟩
theorem o2_lt : Op2 X (rI0 fun i j => .bl (decide (i < j))) opLt := ⟨fun T fx g ms δ σ H x y d e z Q s r1 r2 h k => by
  unfold opLt at h
  split at h <;> cases h
  rw [rep_int r1, rep_int r2]
  exact i_I0 (k H (Same.refl _) _ (.bl _))⟩
theorem o2_le : Op2 X (rI0 fun i j => .bl (decide (i ≤ j))) opLe := ⟨fun T fx g ms δ σ H x y d e z Q s r1 r2 h k => by
  unfold opLe at h
  split at h <;> cases h
  rw [rep_int r1, rep_int r2]
  exact i_I0 (k H (Same.refl _) _ (.bl _))⟩
theorem o2_gt : Op2 X (rI0 fun i j => .bl (decide (j < i))) opGt := ⟨fun T fx g ms δ σ H x y d e z Q s r1 r2 h k => by
  unfold opGt at h
  split at h <;> cases h
  rw [rep_int r1, rep_int r2]
  exact i_I0 (k H (Same.refl _) _ (.bl _))⟩
theorem o2_ge : Op2 X (rI0 fun i j => .bl (decide (j ≤ i))) opGe := ⟨fun T fx g ms δ σ H x y d e z Q s r1 r2 h k => by
  unfold opGe at h
  split at h <;> cases h
  rw [rep_int r1, rep_int r2]
  exact i_I0 (k H (Same.refl _) _ (.bl _))⟩
theorem o2_mul : Op2 X (rI CMulW fun i j => .int (i * j)) opMul := ⟨fun T fx g ms δ σ H x y d e z Q s r1 r2 h k => by
  unfold opMul at h
  split at h
  · split at h
    · rename_i i j c
      cases h
      rw [Bool.and_eq_true] at c
      have c1 := of_decide_eq_true c.1
      have c2 := of_decide_eq_true c.2
      rw [rep_int r1, rep_int r2]
      exact i_I (show CMulW i j by unfold CMulW; omega) (k H (Same.refl _) _ (.int _))
    · cases h
  · cases h⟩
theorem o2_div : Op2 X (rI CDivW fun i j => .int (i / j)) opDiv := ⟨fun T fx g ms δ σ H x y d e z Q s r1 r2 h k => by
  unfold opDiv at h
  split at h
  · split at h
    · rename_i i j c
      cases h
      rw [Bool.and_eq_true] at c
      have c1 := of_decide_eq_true c.1
      have c2 := of_decide_eq_true c.2
      rw [rep_int r1, rep_int r2]
      exact i_I (show CDivW i j from ⟨c1, by omega⟩) (k H (Same.refl _) _ (.int _))
    · cases h
  · cases h⟩
theorem o2_mod : Op2 X (rI (fun _ j => 0 < j) fun i j => .int (i % j)) opMod := ⟨fun T fx g ms δ σ H x y d e z Q s r1 r2 h k => by
  unfold opMod at h
  split at h
  · split at h
    · rename_i i j c
      cases h
      rw [rep_int r1, rep_int r2]
      exact i_I (of_decide_eq_true c) (k H (Same.refl _) _ (.int _))
    · cases h
  · cases h⟩
theorem o2_pow : Op2 X (rI CPow fun i j => .int (i ^ j.toNat)) opPow := ⟨fun T fx g ms δ σ H x y d e z Q s r1 r2 h k => by
  unfold opPow at h
  split at h
  · split at h
    · rename_i i j c
      cases h
      rw [Bool.and_eq_true] at c
      have c1 := of_decide_eq_true c.1
      have c2 := of_decide_eq_true c.2
      rw [rep_int r1, rep_int r2]
      exact i_I (show CPow i j from ⟨by omega, by omega, by omega⟩) (k H (Same.refl _) _ (.int _))
    · cases h
  · cases h⟩
abbrev rAddAll : R2 := fun x y H Q => rI0 (fun i j => .int (i + j)) x y H Q ∨ (∃ i j, x = .str i ∧ y = .str j ∧ i.length + j.length ≤ sizeLine ∧ Q (.str (i ++ j)) H) ∨ rCat x y H Q
theorem op_addAll : OpR X (binaryOp .Add) rAddAll := OpR.or op_add (OpR.or op_add_str op_cat)
theorem o2_add : Op2 X rAddAll opAdd := ⟨fun T fx g ms δ σ H x y d e z Q s r1 r2 h k => by
  unfold opAdd at h
  split at h
  · cases h
    rw [rep_int r1, rep_int r2]
    exact .inl (i_I0 (k H (Same.refl _) _ (.int _)))
  · split at h
    · rename_i c
      cases h
      rw [rep_str r1, rep_str r2]
      exact .inr (.inl ⟨_, _, rfl, rfl, sz_line c, k H (Same.refl _) _ (.str _)⟩)
    · cases h
  · split at h
    · rename_i c
      cases h
      cases r1 with
      | lst a1 q1 =>
        cases r2 with
        | lst a2 q2 =>
          refine .inr (.inr ⟨_, _, _, _, rfl, rfl, a1.1, a2.1, by rw [q1.len, q2.len]; exact sz_line c, fun p np => ?_⟩)
          exact k _ (same_new np) _ (.lst ⟨upd_same, s.fresh np⟩ ((q1.up (Le.same (same_new np))).app (q2.up (Le.same (same_new np)))))
    · cases h
  · cases h⟩
abbrev rEqAll (K : PySem.W.Frag) : R2 := fun x y H Q => rEq x y H Q ∨ rEqD K x y H Q
abbrev rNeAll (K : PySem.W.Frag) : R2 := fun x y H Q => rNe x y H Q ∨ rNeD K x y H Q
theorem op_eqAll (hu : X.A.units + 64 < cLine) : OpR X (compareOp .Eq) (rEqAll X.K) := OpR.or op_eq (op_eqD hu)
theorem op_neAll (hu : X.A.units + 64 < cLine) : OpR X (compareOp .NotEq) (rNeAll X.K) := OpR.or op_ne (op_neD hu)
theorem eqD_some {d e : D} {b : Bool} (h : eqD d e = some b) : ∃ p q, toPy d = some p ∧ toPy e = some q ∧ SeqAt.shaped p = true ∧ SeqAt.shaped q = true ∧ b = PyData.eqv p q := by
  unfold eqD at h
  split at h
  · rename_i p q e1 e2
    split at h
    · rename_i c
      rw [Bool.and_eq_true] at c
      exact ⟨p, q, e1, e2, c.1, c.2, (Option.some.inj h).symm⟩
    · cases h
  · cases h
theorem o2_eq : Op2 X (rEqAll X.K) opEq := ⟨fun T fx g ms δ σ H x y d e z Q s r1 r2 h k => by
  unfold opEq at h
  split at h
  · rename_i i j
    cases h
    rw [rep_int r1, rep_int r2]
    refine .inl ⟨rfl, ?_⟩
    have q := k H (Same.refl _) _ (.bl (decide (i = j)))
    have e : decide (V.int i = V.int j) = decide (i = j) := by by_cases c : i = j <;> simp [c]
    rw [e]
    exact q
  · rename_i i j
    cases h
    rw [rep_str r1, rep_str r2]
    refine .inl ⟨rfl, ?_⟩
    have q := k H (Same.refl _) _ (.bl (decide (i = j)))
    have e : decide (V.str i = V.str j) = decide (i = j) := by by_cases c : i = j <;> simp [c]
    rw [e]
    exact q
  · cases q : eqD d e with
    | none => rw [q] at h; cases h
    | some b =>
      rw [q] at h
      cases h
      obtain ⟨p1, p2, e1, e2, s1, s2, rfl⟩ := eqD_some q
      exact .inr ⟨p1, p2, r1.dp e1, r2.dp e2, s1, s2, k H (Same.refl _) _ (.bl _)⟩⟩
theorem o2_ne : Op2 X (rNeAll X.K) opNe := ⟨fun T fx g ms δ σ H x y d e z Q s r1 r2 h k => by
  unfold opNe at h
  split at h
  · rename_i i j
    cases h
    rw [rep_int r1, rep_int r2]
    refine .inl ⟨rfl, ?_⟩
    have q := k H (Same.refl _) _ (.bl (!decide (i = j)))
    have e : decide (V.int i = V.int j) = decide (i = j) := by by_cases c : i = j <;> simp [c]
    rw [e]
    exact q
  · rename_i i j
    cases h
    rw [rep_str r1, rep_str r2]
    refine .inl ⟨rfl, ?_⟩
    have q := k H (Same.refl _) _ (.bl (!decide (i = j)))
    have e : decide (V.str i = V.str j) = decide (i = j) := by by_cases c : i = j <;> simp [c]
    rw [e]
    exact q
  · cases q : eqD d e with
    | none => rw [q] at h; cases h
    | some b =>
      rw [q] at h
      cases h
      obtain ⟨p1, p2, e1, e2, s1, s2, rfl⟩ := eqD_some q
      exact .inr ⟨p1, p2, r1.dp e1, r2.dp e2, s1, s2, k H (Same.refl _) _ (.bl _)⟩⟩
theorem o2_in : Op2 X (rIn X.K false) opIn := ⟨fun T fx g ms δ σ H x y d e z Q s r1 r2 h k => by
  unfold opIn at h
  split at h
  · rename_i xs
    cases q : inF d xs with
    | none => rw [q] at h; cases h
    | some b =>
      rw [q] at h
      cases h
      obtain ⟨f1, f2, rfl⟩ := inF_some q
      cases r2 with
      | lst a2 q2 =>
        obtain ⟨i1, i2⟩ := q2.inV r1 f1 f2
        refine ⟨_, _, rfl, .inl a2.sq, r1.flat f1, i1, ?_⟩
        rw [i2]
        exact k H (Same.refl _) _ (.bl _)
  · rename_i xs
    cases q : inF d xs with
    | none => rw [q] at h; cases h
    | some b =>
      rw [q] at h
      cases h
      obtain ⟨f1, f2, rfl⟩ := inF_some q
      cases r2 with
      | tup a2 q2 =>
        obtain ⟨i1, i2⟩ := q2.inV r1 f1 f2
        refine ⟨_, _, rfl, .inr a2.sq, r1.flat f1, i1, ?_⟩
        rw [i2]
        exact k H (Same.refl _) _ (.bl _)
  · cases h⟩
theorem o2_notIn : Op2 X (rIn X.K true) opNotIn := ⟨fun T fx g ms δ σ H x y d e z Q s r1 r2 h k => by
  unfold opNotIn at h
  split at h
  · rename_i xs
    cases q : inF d xs with
    | none => rw [q] at h; cases h
    | some b =>
      rw [q] at h
      cases h
      obtain ⟨f1, f2, rfl⟩ := inF_some q
      cases r2 with
      | lst a2 q2 =>
        obtain ⟨i1, i2⟩ := q2.inV r1 f1 f2
        refine ⟨_, _, rfl, .inl a2.sq, r1.flat f1, i1, ?_⟩
        rw [i2]
        exact k H (Same.refl _) _ (.bl _)
  · rename_i xs
    cases q : inF d xs with
    | none => rw [q] at h; cases h
    | some b =>
      rw [q] at h
      cases h
      obtain ⟨f1, f2, rfl⟩ := inF_some q
      cases r2 with
      | tup a2 q2 =>
        obtain ⟨i1, i2⟩ := q2.inV r1 f1 f2
        refine ⟨_, _, rfl, .inr a2.sq, r1.flat f1, i1, ?_⟩
        rw [i2]
        exact k H (Same.refl _) _ (.bl _)
  · cases h⟩
/-- an item by its place -/
abbrev rIxAll (K : PySem.W.Frag) : R2 := fun x y H Q => rIxL K x y H Q ∨ rIxT K x y H Q ∨ rIxS x y H Q
theorem ix_all : IxR X (rIxAll X.K) := fun vl sl pins s σ H x y v u Q I rx ry h hs => by
  rcases h with h | h | h
  · exact ix_list vl sl pins s σ H x y v u Q I rx ry h hs
  · exact ix_tup vl sl pins s σ H x y v u Q I rx ry h hs
  · exact ix_str vl sl pins s σ H x y v u Q I rx ry h hs
theorem o2_ix : Op2 X (rIxAll X.K) opIx := ⟨fun T fx g ms δ σ H x y d e z Q s r1 r2 h k => by
  unfold opIx at h
  split at h
  · cases r1 with
    | lst a1 q1 =>
      obtain ⟨v, e1, e2⟩ := q1.atI h
      rw [rep_int r2]
      exact .inl ⟨_, _, _, v, rfl, rfl, a1.sq, e1, k H (Same.refl _) _ e2⟩
  · cases r1 with
    | tup a1 q1 =>
      obtain ⟨v, e1, e2⟩ := q1.atI h
      rw [rep_int r2]
      exact .inr (.inl ⟨_, _, _, v, rfl, rfl, a1.sq, e1, k H (Same.refl _) _ e2⟩)
  · cases r1 with
    | fl a1 q1 =>
      obtain ⟨v, e1, e2⟩ := q1.atI h
      rw [rep_int r2]
      exact .inl ⟨_, _, _, v, rfl, rfl, a1.sq, e1, k H (Same.refl _) _ e2⟩
  · split at h
    · rename_i x' i c
      cases q : atI x'.cps.toList i with
      | none => rw [q] at h; cases h
      | some cc =>
        rw [q] at h
        cases h
        rw [rep_str r1, rep_int r2]
        exact .inr (.inr ⟨_, _, cc, rfl, rfl, sz_line c, q, k H (Same.refl _) _ (.str _)⟩)
    · cases h
  · cases h⟩
variable {Wx : WT} {a b : Expr} {pos : Pos} {Fa Fb : ME D}
theorem de_ix (ha : DE X Wx a Fa) (hb : DE X Wx b Fb) (hs : PlainIx b) : DE X Wx (.Subscript a b pos) (eBin opIx Fa Fb) := by
  refine pe_of (pe_ix ix_all ha hb hs) fun σ H Q z => ?_
  obtain ⟨g, ms, δ, s, p⟩ := z
  refine lift_bnd s p fun d1 δ1 H1 x s1 l1 r1 p1 => lift_bnd s1 p1 fun d2 δ2 H2 y s2 l2 r2 p2 => ?_
  obtain ⟨z, e, k⟩ := post_optN s2 p2
  exact o2_ix.go _ _ g ms δ2 σ H2 x y d1 d2 z Q s2 (r1.up l2) r2 e k
end
end DL

set_option Elab.async false
set_option linter.all false
set_option maxRecDepth 100000
set_option maxHeartbeats 4000000
set_option autoImplicit false
/-! what a def promises, by trees; calls -/
namespace DL
open L2 PyProof.Rows PySem.Spec PySem G58 SlX
variable [TbL]
inductive FOut where
  | ok (r : S) (ss : List S) | ex (x : Exc) (ss : List S) | bad
abbrev FnD := List S → FOut
structure ArgsR (Γ : GG) (H : Hp) (W : As) (rs : List Rg) (vs : List V) (ss : List S) : Prop where
  sl : SlotsR Γ H W rs (ss.map some) (vs.map some)
  dis : ∀ (i j : Nat) (a dx b dy : Addr), rs[i]? = some (some (a, dx)) → rs[j]? = some (some (b, dy)) → i ≠ j → a ≠ b ∧ a ≠ dy ∧ dx ≠ b ∧ dx ≠ dy
  sub : ∀ b, regs rs b → W b
  al : ∀ b, W b → H b ≠ none
  tab : TabC Γ.T H
def OutR (Γ : GG) (H : Hp) (W : As) (rs : List Rg) (ss : List S) : Prop := ∀ (i : Nat) (a dx : Addr), rs[i]? = some (some (a, dx)) → ∃ o, ss[i]? = some (.m o) ∧ MAt Γ H W a dx o
def with2 (W : As) (p dx : Addr) : As := fun b => W b ∨ b = p ∨ b = dx
def FPost (Γ : GG) (W : As) (rs : List Rg) (H : Hp) (Q : VK) (E : XK) : FOut → Prop
  | .ok (.v d) ss => ∀ v H', OutR Γ H' W rs ss → Rep Γ H' W v d → Le (regs rs) H H' → Q v H'
  | .ok (.m o) ss => ∀ p dx H', H p = none → H dx = none → OutR Γ H' (with2 W p dx) rs ss → MAt Γ H' (with2 W p dx) p dx o → Le (regs rs) H H' → Q (.ref p) H'
  | .ex x ss => ∀ cls dd H', OutR Γ H' W rs ss → XRep Γ H' W x cls dd → Le (regs rs) H H' → E cls dd H'
  | .bad => False
def liftSp (Γ : GG) (n : Nat) (F : FnD) : Sp := fun vs H Q E => ∃ W rs ss, ss.length = n ∧ ArgsR Γ H W rs vs ss ∧ FPost Γ W rs H Q E (F ss)
theorem liftSp_len {Γ : GG} {n : Nat} {F : FnD} {vs : List V} {H : Hp} {Q : VK} {E : XK} (h : liftSp Γ n F vs H Q E) : vs.length = n := by
  obtain ⟨W, rs, ss, e, a, _⟩ := h
  have := a.sl.len
  simp only [List.length_map] at this
  omega
/-! arguments -/
inductive AV where
  | v (d : D) | r (i : Nat)
def refsOf : List AV → List Nat
  | [] => []
  | .v _ :: r => refsOf r
  | .r i :: r => i :: refsOf r
def getA (δ : Ds) : AV → Option S
  | .v d => some (.v d)
  | .r i => match δ[i]? with
    | some (some (.m o)) => some (.m o)
    | _ => none
def getArgs (δ : Ds) : List AV → Option (List S)
  | [] => some []
  | x :: xs => match getA δ x, getArgs δ xs with
    | some s, some ss => some (s :: ss)
    | _, _ => none
def putArgs : Ds → List AV → List S → Option Ds
  | δ, [], _ => some δ
  | δ, .v _ :: xs, ss => putArgs δ xs ss.tail
  | δ, .r i :: xs, ss => match ss with
    | .m o :: r => putArgs (δ.set i (some (.m o))) xs r
    | _ => none
def nodupB : List Nat → Bool
  | [] => true
  | i :: r => !r.contains i && nodupB r
def callD (n : Nat) (f : FnD) (xs : List AV) : ME D := fun δ => match getArgs δ xs with
  | none => .bad
  | some ss => if decide (xs.length = n) && nodupB (refsOf xs) then (match f ss with
    | .ok (.v d) ss' => (match putArgs δ xs ss' with
      | some δ' => .ok d δ'
      | none => .bad)
    | .ok (.m _) _ => .bad
    | .ex x ss' => (match putArgs δ xs ss' with
      | some δ' => .ex x δ'
      | none => .bad)
    | .bad => .bad) else .bad
def eCall (n : Nat) (f : FnD) (xs : ME (List AV)) : ME D := bnd xs fun a => callD n f a
def vNil : ME (List AV) := rtn []
def vCons (a : ME D) (r : ME (List AV)) : ME (List AV) := bnd a fun x => bnd r fun xs => rtn (.v x :: xs)
def mRef (i : Nat) : ME Unit := fun δ => match δ[i]? with
  | some (some (.m _)) => .ok () δ
  | _ => .bad
def vRef (i : Nat) (r : ME (List AV)) : ME (List AV) := bnd (mRef i) fun _ => bnd r fun xs => rtn (.r i :: xs)
inductive RepV (Γ : GG) (H : Hp) {fx : FX} (g : Gh fx) (ms : List Rg) : V → AV → Prop
  | v {x : V} {d : D} : Rep Γ H (Wt g ms) x d → RepV Γ H g ms x (.v d)
  | r {i : Nat} {a dx : Addr} : ms[i]? = some (some (a, dx)) → RepV Γ H g ms (.ref a) (.r i)
inductive RepsV (Γ : GG) (H : Hp) {fx : FX} (g : Gh fx) (ms : List Rg) : List V → List AV → Prop
  | nil : RepsV Γ H g ms [] []
  | cons {x : V} {a : AV} {xs : List V} {as : List AV} : RepV Γ H g ms x a → RepsV Γ H g ms xs as → RepsV Γ H g ms (x :: xs) (a :: as)
def liftV (Γ : GG) (Wx : WT) (F : ME (List AV)) : TA := fun σ H Q => ∃ (g : Gh Wx.fx) (ms : List Rg) (δ : Ds), Sim Γ g ms δ σ H ∧ Post Γ Wx g ms σ H (fun ds _ H' => ∀ vs, RepsV Γ H' g ms vs ds → Q vs H') (F δ)
section
variable {Γ : GG} {fx : FX} {g : Gh fx} {ms : List Rg} {δ : Ds} {σ : L2.St} {H H' : Hp}
theorem RepV.up {x : V} {a : AV} (h : RepV Γ H g ms x a) (l : Le (regs ms) H H') : RepV Γ H' g ms x a := by
  cases h with
  | v h => exact .v (h.up l)
  | r h => exact .r h
theorem liftV_bnd {Wx : WT} {g : Gh Wx.fx} {β : Type} {Q : β → Ds → Hp → Prop} {F : ME (List AV)} {G : List AV → ME β} {R : List V → Hp → Prop} (s : Sim Γ g ms δ σ H) (h : Post Γ Wx g ms σ H Q (bnd F G δ))
    (k : ∀ d δ' H' v, Sim Γ g ms δ' σ H' → Le (regs ms) H H' → RepsV Γ H' g ms v d → Post Γ Wx g ms σ H' Q (G d δ') → R v H') : liftV Γ Wx F σ H R :=
  ⟨g, ms, δ, s, post_bnd h fun a δ' H' s l p v r => k a δ' H' v s l r p⟩
/-- the regions of the arguments -/
def argRegs (ms : List Rg) : List AV → List Rg
  | [] => []
  | .v _ :: r => none :: argRegs ms r
  | .r i :: r => (ms[i]?.getD none) :: argRegs ms r
theorem args_slots (s : SlotsR Γ H (Wt g ms) ms δ σ) : ∀ {vs : List V} {xs : List AV} {ss : List S}, RepsV Γ H g ms vs xs → getArgs δ xs = some ss → SlotsR Γ H (Wt g ms) (argRegs ms xs) (ss.map some) (vs.map some)
  | _, _, _, .nil, e => by
    cases e
    exact .nil
  | _, x :: xs, _, .cons h r, e => by
    unfold getArgs at e
    split at e
    · rename_i t ts e1 e2
      cases e
      have ih := args_slots s r e2
      cases h with
      | v h =>
        cases e1
        exact .cons (.v h) ih
      | r h =>
        obtain ⟨o, q1, q2, q3⟩ := s.getM h
        simp only [getA, q1] at e1
        cases e1
        unfold argRegs
        rw [h]
        exact .cons (.m q3) ih
    · cases e
theorem argRegs_at {vs : List V} : ∀ {xs : List AV}, RepsV Γ H g ms vs xs → ∀ {j : Nat} {a dx : Addr}, (argRegs ms xs)[j]? = some (some (a, dx)) → ∃ i, xs[j]? = some (.r i) ∧ ms[i]? = some (some (a, dx)) := by
  intro xs h
  induction h with
  | nil => intro j a dx e; simp [argRegs] at e
  | cons h r ih =>
    intro j a dx e
    cases h with
    | v h =>
      cases j with
      | zero => simp [argRegs] at e
      | succ j => obtain ⟨i, h1, h2⟩ := ih (j := j) (by simpa [argRegs] using e); exact ⟨i, by simpa using h1, h2⟩
    | @r i0 a0 d0 h =>
      cases j with
      | zero =>
        simp only [argRegs, h, List.getElem?_cons_zero, Option.getD_some, Option.some.injEq, Prod.mk.injEq] at e
        exact ⟨i0, rfl, by rw [h, e.1, e.2]⟩
      | succ j => obtain ⟨i, h1, h2⟩ := ih (j := j) (by simpa [argRegs] using e); exact ⟨i, by simpa using h1, h2⟩
theorem refs_mem : ∀ {xs : List AV} {j i : Nat}, xs[j]? = some (.r i) → i ∈ refsOf xs
  | [], _, _, e => by simp at e
  | .v _ :: xs, 0, _, e => by simp at e
  | .r k :: xs, 0, _, e => by
    simp at e
    subst e
    exact List.mem_cons_self
  | .v _ :: xs, j + 1, _, e => refs_mem (xs := xs) (j := j) (by simpa using e)
  | .r k :: xs, j + 1, _, e => List.mem_cons_of_mem _ (refs_mem (xs := xs) (j := j) (by simpa using e))
theorem refs_inj : ∀ {xs : List AV} {j k i : Nat}, nodupB (refsOf xs) = true → xs[j]? = some (.r i) → xs[k]? = some (.r i) → j = k
  | [], _, _, _, _, e, _ => by simp at e
  | .v _ :: xs, 0, _, _, _, e, _ => by simp at e
  | .v _ :: xs, _ + 1, 0, _, _, _, e => by simp at e
  | .v _ :: xs, j + 1, k + 1, i, n, e1, e2 => by rw [refs_inj (xs := xs) (j := j) (k := k) (i := i) n (by simpa using e1) (by simpa using e2)]
  | .r m :: xs, 0, 0, _, _, _, _ => rfl
  | .r m :: xs, 0, k + 1, i, n, e1, e2 => by
    simp at e1
    subst e1
    have q := refs_mem (xs := xs) (j := k) (by simpa using e2)
    simp [refsOf, nodupB] at n
    exact absurd q n.1
  | .r m :: xs, j + 1, 0, i, n, e1, e2 => by
    simp at e2
    subst e2
    have q := refs_mem (xs := xs) (j := j) (by simpa using e1)
    simp [refsOf, nodupB] at n
    exact absurd q n.1
  | .r m :: xs, j + 1, k + 1, i, n, e1, e2 => by
    simp [refsOf, nodupB] at n
    rw [refs_inj (xs := xs) (j := j) (k := k) (i := i) n.2 (by simpa using e1) (by simpa using e2)]
theorem argRegs_sub {vs : List V} {xs : List AV} (r : RepsV Γ H g ms vs xs) : ∀ b, regs (argRegs ms xs) b → regs ms b := by
  rintro b ⟨a, dx, hm, e⟩
  obtain ⟨j, hj⟩ := List.mem_iff_getElem?.mp hm
  obtain ⟨i, _, h2⟩ := argRegs_at r hj
  exact ⟨a, dx, List.mem_of_getElem? h2, e⟩
theorem args_ok {vs : List V} {xs : List AV} {ss : List S} (s : Sim Γ g ms δ σ H) (r : RepsV Γ H g ms vs xs) (e : getArgs δ xs = some ss) (n : nodupB (refsOf xs) = true) : ArgsR Γ H (Wt g ms) (argRegs ms xs) vs ss := by
  refine ⟨args_slots s.sl r e, fun i j a dx b dy h1 h2 ne => ?_, fun b z => .inr (argRegs_sub r b z), fun b z => s.alW z, s.tab⟩
  obtain ⟨i1, q1, q2⟩ := argRegs_at r h1
  obtain ⟨i2, q3, q4⟩ := argRegs_at r h2
  refine s.dis i1 i2 a dx b dy q2 q4 fun z => ?_
  subst z
  exact ne (refs_inj n q1 q3)
theorem put_len : ∀ {xs : List AV} {δ δ' : Ds} {ss : List S}, putArgs δ xs ss = some δ' → δ'.length = δ.length
  | [], _, _, _, e => by
    cases e
    rfl
  | .v _ :: xs, _, _, _, e => put_len (xs := xs) e
  | .r i :: xs, δ, _, .m o :: r, e => by
    have := put_len (xs := xs) (δ := δ.set i (some (.m o))) (ss := r) e
    simpa using this
  | .r i :: xs, _, _, [], e => by cases e
  | .r i :: xs, _, _, .v _ :: _, e => by cases e
theorem put_ne {i : Nat} : ∀ {xs : List AV} {δ δ' : Ds} {ss : List S}, putArgs δ xs ss = some δ' → i ∉ refsOf xs → δ'[i]? = δ[i]?
  | [], _, _, _, e, _ => by
    cases e
    rfl
  | .v _ :: xs, _, _, _, e, n => put_ne (xs := xs) e n
  | .r k :: xs, δ, _, .m o :: r, e, n => by
    have h := put_ne (xs := xs) (δ := δ.set k (some (.m o))) (ss := r) e fun z => n (List.mem_cons_of_mem _ z)
    rw [h, List.getElem?_set_ne fun z => n (by rw [z]; exact List.mem_cons_self)]
  | .r k :: xs, _, _, [], e, _ => by cases e
  | .r k :: xs, _, _, .v _ :: _, e, _ => by cases e
theorem put_at {i : Nat} : ∀ {xs : List AV} {δ δ' : Ds} {ss : List S} {j : Nat}, putArgs δ xs ss = some δ' → nodupB (refsOf xs) = true → xs[j]? = some (.r i) → i < δ.length → ∃ o, ss[j]? = some (.m o) ∧ δ'[i]? = some (some (.m o))
  | [], _, _, _, _, _, _, e, _ => by simp at e
  | .v _ :: xs, _, _, ss, 0, _, _, e, _ => by simp at e
  | .v _ :: xs, δ, _, ss, j + 1, e, n, h, l => by
    obtain ⟨o, h1, h2⟩ := put_at (xs := xs) (δ := δ) (ss := ss.tail) (j := j) e n (by simpa using h) l
    exact ⟨o, by rw [← h1, List.getElem?_tail], h2⟩
  | .r k :: xs, δ, _, .m o :: r, 0, e, n, h, l => by
    simp at h
    subst h
    simp [refsOf, nodupB] at n
    refine ⟨o, rfl, ?_⟩
    rw [put_ne (xs := xs) (δ := δ.set k (some (.m o))) (ss := r) e n.1, List.getElem?_set_self l]
  | .r k :: xs, δ, _, .m o :: r, j + 1, e, n, h, l => by
    simp [refsOf, nodupB] at n
    obtain ⟨q, h1, h2⟩ := put_at (xs := xs) (δ := δ.set k (some (.m o))) (ss := r) (j := j) e n.2 (by simpa using h) (by simpa using l)
    exact ⟨q, by simpa using h1, h2⟩
  | .r k :: xs, _, _, [], _, e, _, _, _ => by cases e
  | .r k :: xs, _, _, .v _ :: _, _, e, _, _, _ => by cases e
theorem slots_of {W : As} : ∀ {ms : List Rg} {δ : Ds} {σ : L2.St}, ms.length = δ.length → σ.length = δ.length → (∀ (i : Nat) r s x, ms[i]? = some r → δ[i]? = some s → σ[i]? = some x → SlotR Γ H W r s x) → SlotsR Γ H W ms δ σ
  | [], [], [], _, _, _ => .nil
  | r :: ms, s :: δ, x :: σ, h1, h2, h => .cons (h 0 r s x rfl rfl rfl) (slots_of (by simpa using h1) (by simpa using h2) fun i r s x a b c => h (i + 1) r s x (by simpa using a) (by simpa using b) (by simpa using c))
  | [], _ :: _, _, h1, _, _ => by simp at h1
  | _ :: _, [], _, h1, _, _ => by simp at h1
  | [], [], _ :: _, _, h2, _ => by simp at h2
  | _ :: _, _ :: _, [], _, h2, _ => by simp at h2
theorem argRegs_of {i : Nat} {a dx : Addr} (hi : ms[i]? = some (some (a, dx))) : ∀ {xs : List AV} {j : Nat}, xs[j]? = some (.r i) → (argRegs ms xs)[j]? = some (some (a, dx))
  | [], _, h => by simp at h
  | .v _ :: xs, 0, h => by simp at h
  | .r k :: xs, 0, h => by
    simp at h
    subst h
    simp [argRegs, hi]
  | .v _ :: xs, j + 1, h => by simpa [argRegs] using argRegs_of hi (xs := xs) (j := j) (by simpa using h)
  | .r k :: xs, j + 1, h => by simpa [argRegs] using argRegs_of hi (xs := xs) (j := j) (by simpa using h)
theorem mem_refs : ∀ {xs : List AV} {i : Nat}, i ∈ refsOf xs → ∃ j : Nat, xs[j]? = some (AV.r i)
  | [], _, h => by simp [refsOf] at h
  | .v _ :: xs, _, h => by
    obtain ⟨j, e⟩ := mem_refs (xs := xs) h
    exact ⟨j + 1, by simpa using e⟩
  | .r k :: xs, i, h => by
    rcases List.mem_cons.mp h with e | h
    · exact ⟨0, by simp [e]⟩
    · obtain ⟨j, e⟩ := mem_refs (xs := xs) h
      exact ⟨j + 1, by simpa using e⟩
theorem ref_reg {i : Nat} : ∀ {vs : List V} {xs : List AV} {j : Nat}, RepsV Γ H g ms vs xs → xs[j]? = some (.r i) → ∃ a dx, ms[i]? = some (some (a, dx))
  | _, _, _, .nil, h => by simp at h
  | _, _, 0, .cons hx _, h => by
    simp at h
    subst h
    cases hx with
    | r hx => exact ⟨_, _, hx⟩
  | _, _, j + 1, .cons _ r, h => ref_reg (j := j) r (by simpa using h)
/-- the slots of the caller behind a call: those handed over by what the callee leaves, the others kept; W' is wider where the callee gave something new -/
theorem slots_after {W' : As} {vs : List V} {xs : List AV} {ss : List S} {δ' : Ds} (s : Sim Γ g ms δ σ H) (r : RepsV Γ H g ms vs xs) (n : nodupB (refsOf xs) = true) (o : OutR Γ H' W' (argRegs ms xs) ss) (l : Le (regs (argRegs ms xs)) H H') (w : ∀ b, W' b → Wt g ms b ∨ H b = none) (e : putArgs δ xs ss = some δ') :
    SlotsR Γ H' W' ms δ' σ := by
  have mv : Mv (regs (argRegs ms xs)) (Wt g ms) W' H H' := ⟨l, fun b z => .inr (argRegs_sub r b z), w⟩
  have ln := s.sl.len
  have pl := put_len e
  refine slots_of (by omega) (by omega) fun i rg t x h1 h2 h3 => ?_
  by_cases c : i ∈ refsOf xs
  · obtain ⟨j, hj⟩ := mem_refs c
    have il : i < δ.length := by
      have := (List.getElem?_eq_some_iff.mp h2).1
      omega
    obtain ⟨q, q1, q2⟩ := put_at e n hj il
    rw [h2] at q2
    cases q2
    obtain ⟨a, dx, hm⟩ := ref_reg r hj
    rw [h1] at hm
    cases hm
    obtain ⟨q', z1, z2⟩ := o j a dx (argRegs_of h1 hj)
    rw [q1] at z1
    cases z1
    obtain ⟨_, _, y, _⟩ := s.sl.getM h1
    rw [h3] at y
    cases y
    exact .m z2
  · rw [put_ne e c] at h2
    obtain ⟨r', x', q1, q2, q3⟩ := s.sl.get h2
    rw [h1] at q1
    cases q1
    rw [h3] at q2
    cases q2
    cases q3 with
    | no => exact .no
    | v h => exact .v (h.mv mv)
    | @m a dx ob h =>
      refine .m (h.mv mv ?_ ?_)
      · rintro ⟨a', d', hm, e'⟩
        obtain ⟨j, hj⟩ := List.mem_iff_getElem?.mp hm
        obtain ⟨i', z1, z2⟩ := argRegs_at r hj
        have ne : i ≠ i' := fun z => c (by rw [z]; exact refs_mem z1)
        have q := s.dis i i' a dx a' d' h1 z2 ne
        rcases e' with e' | e'
        · exact q.1 e'
        · exact q.2.1 e'
      · rintro ⟨a', d', hm, e'⟩
        obtain ⟨j, hj⟩ := List.mem_iff_getElem?.mp hm
        obtain ⟨i', z1, z2⟩ := argRegs_at r hj
        have ne : i ≠ i' := fun z => c (by rw [z]; exact refs_mem z1)
        have q := s.dis i i' a dx a' d' h1 z2 ne
        rcases e' with e' | e'
        · exact q.2.2.1 e'
        · exact q.2.2.2 e'
theorem put_kp {xs : List AV} {δ' : Ds} {ss ss' : List S} (e : getArgs δ xs = some ss) (p : putArgs δ xs ss' = some δ') : Kp fx δ δ' := fun f _ h => by
  have no : ∀ {xs : List AV} {ss : List S}, getArgs δ xs = some ss → f.i ∉ refsOf xs := by
    intro xs
    induction xs with
    | nil => intro ss e; simp [refsOf]
    | cons x xs ih =>
      intro ss e
      unfold getArgs at e
      split at e
      · rename_i t ts e1 e2
        cases x with
        | v d => exact ih e2
        | r i =>
          refine fun z => ?_
          rcases List.mem_cons.mp z with y | y
          · rw [← y] at e1
            simp only [getA, h] at e1
            cases e1
          · exact ih e2 y
      · cases e
  rw [put_ne p (no e)]
  exact h
end
end DL

set_option Elab.async false
set_option linter.all false
set_option maxRecDepth 100000
set_option maxHeartbeats 4000000
set_option autoImplicit false
/-! calls, statements, bodies -/
namespace DL
open L2 PyProof.Rows PySem.Spec PySem G58 SlX
variable [TbL]
/-- a call of a def that lets no exception out -/
def callD0 (n : Nat) (f : FnD) (xs : List AV) : ME D := fun δ => match callD n f xs δ with
  | .ex _ _ => .bad
  | r => r
def eCall0 (n : Nat) (f : FnD) (xs : ME (List AV)) : ME D := bnd xs fun a => callD0 n f a
theorem getArgs_len {δ : Ds} : ∀ {xs : List AV} {ss : List S}, getArgs δ xs = some ss → ss.length = xs.length
  | [], _, e => by
    cases e
    rfl
  | x :: xs, _, e => by
    unfold getArgs at e
    split at e
    · rename_i s ss e1 e2
      cases e
      simp [getArgs_len e2]
    · cases e
section
variable {Γ : GG} {Wx : WT} {g : Gh Wx.fx} {ms : List Rg} {δ : Ds} {σ : L2.St} {H H' : Hp} {n : Nat} {f : FnD} {xs : List AV} {vs : List V} {Q : VK}
theorem call_lift (s : Sim Γ g ms δ σ H) (r : RepsV Γ H g ms vs xs) (p : Post Γ Wx g ms σ H (fun d _ H' => ∀ v, Rep Γ H' (Wt g ms) v d → Q v H') (callD n f xs δ)) :
    liftSp Γ n f vs H Q (fun c d H' => Wx.wx c d σ H') := by
  unfold callD at p
  split at p
  · exact p.elim
  · rename_i ss e
    split at p
    · rename_i c
      rw [Bool.and_eq_true] at c
      have hl : ss.length = n := (getArgs_len e).trans (of_decide_eq_true c.1)
      refine ⟨Wt g ms, argRegs ms xs, ss, hl, args_ok s r e c.2, ?_⟩
      cases q : f ss with
      | bad => rw [q] at p; exact p.elim
      | ok t ss' =>
        rw [q] at p
        cases t with
        | m o => exact p.elim
        | v d =>
          intro v H' o rp l
          cases e2 : putArgs δ xs ss' with
          | none => simp only [e2] at p; exact p.elim
          | some δ' =>
            simp only [e2] at p
            have l' : Le (regs ms) H H' := l.mono (argRegs_sub r)
            exact p H' (s.step (slots_after s r c.2 o l (fun b z => .inl z) e2) l' (put_kp e e2)) l' v rp
      | ex x ss' =>
        rw [q] at p
        intro cls dd H' o rp l
        cases e2 : putArgs δ xs ss' with
        | none => simp only [e2] at p; exact p.elim
        | some δ' =>
          simp only [e2] at p
          have l' : Le (regs ms) H H' := l.mono (argRegs_sub r)
          exact p cls dd H' (s.step (slots_after s r c.2 o l (fun b z => .inl z) e2) l' (put_kp e e2)) l' rp
    · exact p.elim
theorem call_lift0 (s : Sim Γ g ms δ σ H) (r : RepsV Γ H g ms vs xs) (p : Post Γ Wx g ms σ H (fun d _ H' => ∀ v, Rep Γ H' (Wt g ms) v d → Q v H') (callD0 n f xs δ)) :
    liftSp Γ n f vs H Q E0 := by
  refine call_lift (Wx := ⟨fun _ _ _ _ => False, Wx.T, Wx.fx⟩) s r ?_
  unfold callD0 at p
  cases e : callD n f xs δ with
  | ok d δ' => rw [e] at p; exact p
  | ex x δ' => rw [e] at p; exact p.elim
  | bad => rw [e] at p; exact p.elim
end
section
variable {X : Cx} {Wx : WT} {k n : Nat} {f : FnD} {x : Str} {p pos : Pos} {e a : Expr} {es : List Expr} {Fa : ME D} {As' : ME (List AV)}
abbrev DV (X : Cx) (Wx : WT) (es : List Expr) (F : ME (List AV)) : Prop := PA X es (liftV (gg X Wx.T) Wx F)
theorem dv_nil : DV X Wx [] vNil := by
  refine pa_of pa_nil fun σ H Q z => ?_
  obtain ⟨g, ms, δ, s, p⟩ := z
  exact post_rtn s p _ .nil
theorem RepsV.up {Γ : GG} {fx : FX} {g : Gh fx} {ms : List Rg} {H H' : Hp} : ∀ {vs : List V} {xs : List AV}, RepsV Γ H g ms vs xs → Le (regs ms) H H' → RepsV Γ H' g ms vs xs
  | _, _, .nil, _ => .nil
  | _, _, .cons h r, l => .cons (h.up l) (RepsV.up r l)
theorem dv_cons (ha : DE X Wx a Fa) (hb : DV X Wx es As') (hs : starEach (a :: es) X.env = (false, eval a X.env) :: starEach es X.env := by rfl) : DV X Wx (a :: es) (vCons Fa As') := by
  refine pa_of (pa_cons ha hb hs) fun σ H Q z => ?_
  obtain ⟨g, ms, δ, s, p⟩ := z
  refine lift_bnd s p fun d1 δ1 H1 x s1 l1 r1 p1 => liftV_bnd s1 p1 fun d2 δ2 H2 y s2 l2 r2 p2 => ?_
  exact post_rtn s2 p2 _ (.cons (.v (r1.up l2)) r2)
theorem dv_ref {i : Nat} (ha : PE X a (tVar i)) (hb : DV X Wx es As') (hs : starEach (a :: es) X.env = (false, eval a X.env) :: starEach es X.env := by rfl) : DV X Wx (a :: es) (vRef i As') := by
  refine pa_of (pa_cons ha hb hs) fun σ H Q z => ?_
  obtain ⟨g, ms, δ, s, p⟩ := z
  unfold vRef bnd mRef at p
  split at p
  · rename_i u δ' e
    split at e
    · rename_i o hd
      cases e
      obtain ⟨r, x, h1, h2, h3⟩ := s.sl.get hd
      cases h3 with
      | m h3 =>
        refine ⟨_, h2, ?_⟩
        exact liftV_bnd s p fun d2 δ2 H2 y s2 l2 r2 p2 => post_rtn s2 p2 _ (.cons (.r h1) r2)
    · cases e
  · rename_i e
    split at e <;> cases e
  · exact p.elim
theorem de_call0 (D' : Dn X.prog X.w X.K X.mg X.base k x (liftSp (gg X Wx.T) n f)) (hr : Room k X.A) (ha : DV X Wx (e :: es) As') (hg : Gl X x := by rfl) (hdb : (x == ("__debug__" : Str)) = false := by decide)
    (he : starEach (e :: es) X.env = (false, eval e X.env) :: starEach es X.env := by rfl) (hpl : (backTo pos (starEach es X.env)).any (·.1) = false := by rfl) :
    DE X Wx (.Call (.Name x p) (e :: es) [] pos) (eCall0 n f As') := by
  refine pe_of (pe_cl D' hr ha hg hdb he hpl) fun σ H Q z => ?_
  obtain ⟨g, ms, δ, s, p⟩ := z
  refine liftV_bnd s p fun d1 δ1 H1 vs s1 l1 r1 p1 => ?_
  rw [List.append_nil]
  exact call_lift0 s1 r1 p1
theorem de_callG0 (D' : DnG X.prog X.w X.K X.mg X.base k x (liftSp (gg X Wx.T) n f)) (hgd : X.A.guards = some []) (hr : Room k X.A) (ha : DV X Wx (e :: es) As') (hg : Gl X x := by rfl) (hdb : (x == ("__debug__" : Str)) = false := by decide)
    (he : starEach (e :: es) X.env = (false, eval e X.env) :: starEach es X.env := by rfl) (hpl : (backTo pos (starEach es X.env)).any (·.1) = false := by rfl) :
    DE X Wx (.Call (.Name x p) (e :: es) [] pos) (eCall0 n f As') := by
  refine pe_of (pe_clG D' hgd hr ha hg hdb he hpl) fun σ H Q z => ?_
  obtain ⟨g, ms, δ, s, p⟩ := z
  refine liftV_bnd s p fun d1 δ1 H1 vs s1 l1 r1 p1 => ?_
  rw [List.append_nil]
  exact call_lift0 s1 r1 p1
end
/-! statements -/
inductive SOut where
  | nx (δ : Ds) | rt (s : S) (δ : Ds) | bk (δ : Ds) | ct (δ : Ds) | ex (x : Exc) (δ : Ds) | bad
abbrev MS := Ds → SOut
structure Ev (ms : List Rg) (H : Hp) (ms' : List Rg) (H' : Hp) : Prop where
  le : Le (regs ms) H H'
  nw : ∀ b, regs ms' b → regs ms b ∨ H b = none
section
variable {ms ms1 ms2 : List Rg} {H H1 H2 : Hp} {Γ : GG} {fx : FX} {g : Gh fx}
theorem Ev.refl : Ev ms H ms H := ⟨Le.refl, fun _ z => .inl z⟩
theorem Ev.of (l : Le (regs ms) H H1) : Ev ms H ms H1 := ⟨l, fun _ z => .inl z⟩
theorem Ev.trans (a : Ev ms H ms1 H1) (b : Ev ms1 H1 ms2 H2) : Ev ms H ms2 H2 := by
  have back : ∀ c, H1 c = none → H c = none := fun c h => by
    cases e : H c with
    | none => rfl
    | some o => exact absurd h (a.le.al c (by rw [e]; exact fun z => nomatch z))
  refine ⟨⟨fun c o n t h => b.le.keep c o (fun z => ?_) t (a.le.keep c o n t h), fun c h => b.le.al c (a.le.al c h), fun T t => b.le.tb T (a.le.tb T t)⟩, fun c z => ?_⟩
  · rcases a.nw c z with y | y
    · exact n y
    · rw [h] at y; cases y
  · rcases b.nw c z with y | y
    · exact a.nw c y
    · exact .inr (back c y)
theorem Ev.mv (a : Ev ms H ms1 H1) : Mv (regs ms) (Wt g ms) (Wt g ms1) H H1 := ⟨a.le, fun _ z => .inr z, fun b z => by
  rcases z with z | z
  · exact .inl (.inl z)
  · rcases a.nw b z with y | y
    · exact .inl (.inr y)
    · exact .inr y⟩
end
section
variable (Γ : GG) (n : Nat) (Wx : WT)
def SPost {fx : FX} (g : Gh fx) (ms : List Rg) (H : Hp) (E : Ends) : SOut → Prop
  | .nx δ' => ∀ ms' σ' H', Sim Γ g ms' δ' σ' H' → Ev ms H ms' H' → E.nx σ' H'
  | .rt (.v d) δ' => ∀ ms' σ' H' v, Sim Γ g ms' δ' σ' H' → Ev ms H ms' H' → Rep Γ H' (Wt g ms') v d → E.rt v H'
  | .rt (.m o) δ' => ∀ p dx ms' σ' H', ms'.length = δ'.length → σ'.length = δ'.length → g.rs.length ≤ δ'.length → Sim Γ g (ms' ++ [some (p, dx)]) (δ' ++ [some (.m o)]) (σ' ++ [some (.ref p)]) H' → Ev ms H (ms' ++ [some (p, dx)]) H' → E.rt (.ref p) H'
  | .bk δ' => ∀ ms' σ' H', Sim Γ g ms' δ' σ' H' → Ev ms H ms' H' → E.bk σ' H'
  | .ct δ' => ∀ ms' σ' H', Sim Γ g ms' δ' σ' H' → Ev ms H ms' H' → E.ct σ' H'
  | .ex x δ' => ∀ ms' σ' H' cls dd, Sim Γ g ms' δ' σ' H' → Ev ms H ms' H' → XRep Γ H' (Wt g ms') x cls dd → Wx.wx cls dd σ' H'
  | .bad => False
def liftS (F : MS) : TS := fun E σ H => ∃ (g : Gh Wx.fx) (ms : List Rg) (δ : Ds), g.rs.length = n ∧ Sim Γ g ms δ σ H ∧ SPost Γ Wx g ms H E (F δ)
end
section
variable {Γ : GG} {n : Nat} {Wx : WT} {g : Gh Wx.fx} {ms ms1 : List Rg} {δ : Ds} {σ : L2.St} {H H1 : Hp} {E : Ends}
theorem SPost.up {r : SOut} (h : SPost Γ Wx g ms H E r) (v : Ev ms H ms1 H1) : SPost Γ Wx g ms1 H1 E r := by
  match r, h with
  | .nx δ', h => exact fun a b c s e => h a b c s (v.trans e)
  | .rt (.v d) δ', h => exact fun a b c d s e => h a b c d s (v.trans e)
  | .rt (.m o) δ', h => exact fun a b c d f l1 l2 l3 s e => h a b c d f l1 l2 l3 s (v.trans e)
  | .bk δ', h => exact fun a b c s e => h a b c s (v.trans e)
  | .ct δ', h => exact fun a b c s e => h a b c s (v.trans e)
  | .ex x δ', h => exact fun a b c d f s e => h a b c d f s (v.trans e)
end
theorem ps_of {X : Cx} {e : Stmt} {t t' : TS} (h : PS X e t) (w : ∀ D σ H, t' D σ H → t D σ H) : PS X e t' := ⟨fun p s σ H D I z => h.run p s σ H D I (w D σ H z)⟩
theorem pss_of {X : Cx} {e : List Stmt} {t t' : TS} (h : PSs X e t) (w : ∀ D σ H, t' D σ H → t D σ H) : PSs X e t' := ⟨fun p s σ H D I z => h.run p s σ H D I (w D σ H z)⟩
abbrev DSt (X : Cx) (n : Nat) (Wx : WT) (st : Stmt) (F : MS) : Prop := PS X st (liftS (gg X Wx.T) n Wx F)
abbrev DSs (X : Cx) (n : Nat) (Wx : WT) (st : List Stmt) (F : MS) : Prop := PSs X st (liftS (gg X Wx.T) n Wx F)
def sNx : MS := fun δ => .nx δ
def sSeq (F G : MS) : MS := fun δ => match F δ with
  | .nx δ' => G δ'
  | r => r
/-- an expression's outcome ahead of a statement's -/
def sBnd {α : Type} (c : ME α) (f : α → MS) : MS := fun δ => match c δ with
  | .ok a δ' => f a δ'
  | .ex x δ' => .ex x δ'
  | .bad => .bad
def sIf (c : ME Bool) (F G : MS) : MS := sBnd c fun b => match b with
  | true => F
  | false => G
def sRet (F : ME D) : MS := sBnd F fun d δ => .rt (.v d) δ
def sRetN : MS := fun δ => .rt (.v .non) δ
def sDrop (F : ME D) : MS := sBnd F fun _ δ => .nx δ
def sBad : MS := fun _ => .bad
/-- may the slot be stored anew (n: the number of the parameters) -/
def canSet (n : Nat) (δ : Ds) (i : Nat) : Bool := match δ[i]? with
  | some (some (.m _)) => decide (n ≤ i)
  | some (some (.v .opq)) => false
  | some _ => true
  | none => false
def setV (n : Nat) (i : Nat) (d : D) : MS := fun δ => if canSet n δ i then .nx (δ.set i (some (.v d))) else .bad
def sSet (n i : Nat) (F : ME D) : MS := sBnd F fun d => setV n i d
section
variable {Γ : GG} {n : Nat} {Wx : WT} {g : Gh Wx.fx} {ms ms1 : List Rg} {δ : Ds} {σ : L2.St} {H H1 : Hp} {E : Ends}
theorem spost_bnd {α : Type} {c : ME α} {f : α → MS} {R : α → Ds → Hp → Prop} (h : SPost Γ Wx g ms H E (sBnd c f δ)) (k : ∀ a δ' H', Sim Γ g ms δ' σ H' → Le (regs ms) H H' → SPost Γ Wx g ms H' E (f a δ') → R a δ' H') : Post Γ Wx g ms σ H R (c δ) := by
  unfold sBnd at h
  cases e : c δ with
  | ok a δ' => rw [e] at h; exact fun H' s l => k a δ' H' s l (h.up (Ev.of l))
  | ex x δ' => rw [e] at h; exact fun cls dd H' s l r => h ms σ H' cls dd s (Ev.of l) r
  | bad => rw [e] at h; exact h
theorem liftE_s {c : ME D} {f : D → MS} {R : V → Hp → Prop} (s : Sim Γ g ms δ σ H) (h : SPost Γ Wx g ms H E (sBnd c f δ)) (k : ∀ d δ' H' v, Sim Γ g ms δ' σ H' → Le (regs ms) H H' → Rep Γ H' (Wt g ms) v d → SPost Γ Wx g ms H' E (f d δ') → R v H') : liftE Γ Wx c σ H R :=
  ⟨g, ms, δ, s, spost_bnd h fun a δ' H' s l p v r => k a δ' H' v s l r p⟩
theorem liftT_s {c : ME Bool} {f : Bool → MS} {R : Bool → Hp → Prop} (s : Sim Γ g ms δ σ H) (h : SPost Γ Wx g ms H E (sBnd c f δ)) (k : ∀ b δ' H', Sim Γ g ms δ' σ H' → Le (regs ms) H H' → SPost Γ Wx g ms H' E (f b δ') → R b H') : liftT Γ Wx c σ H R :=
  ⟨g, ms, δ, s, spost_bnd h k⟩
/-- a slot stored anew -/
theorem regs_set_none {ms : List Rg} {i : Nat} {b : Addr} (h : regs (ms.set i none) b) : regs ms b := by
  obtain ⟨a, dx, hm, e⟩ := h
  exact ⟨a, dx, (List.mem_or_eq_of_mem_set hm).resolve_right (fun z => nomatch z), e⟩
theorem Sim.setV {v : V} {d : D} {i : Nat} (s : Sim Γ g ms δ σ H) (c : canSet g.rs.length δ i = true) (r : Rep Γ H (Wt g ms) v d) : Sim Γ g (ms.set i none) (δ.set i (some (.v d))) (σ.set i (some v)) H := by
  have sub : ∀ b, Wt g (ms.set i none) b → Wt g ms b := fun b z => z.imp id regs_set_none
  have mv : Mv (fun _ => False) (Wt g ms) (Wt g (ms.set i none)) H H := Mv.wk sub
  have at_ : ∀ (j : Nat) (q : Addr × Addr), (ms.set i none)[j]? = some (some q) → j ≠ i ∧ ms[j]? = some (some q) := fun j q h => by
    by_cases z : i = j
    · subst z
      by_cases l : i < ms.length
      · rw [List.getElem?_set_self l] at h
        cases h
      · rw [List.getElem?_eq_none (by simpa using l)] at h
        cases h
    · rw [List.getElem?_set_ne z] at h
      exact ⟨fun y => z y.symm, h⟩
  refine ⟨(s.sl.mv mv fun _ _ z => z).set (.v (r.mv mv)) i, fun j k a dx b dy h1 h2 ne => s.dis j k a dx b dy (at_ _ _ h1).2 (at_ _ _ h2).2 ne, fun j q h => ?_, fun j a dx h1 h2 => s.loc j a dx h1 (at_ _ _ h2).2, fun j a dx h1 h2 => s.prg j a dx h1 (at_ _ _ h2).2, by simpa using s.rsl, s.a0, s.w0, s.le, s.tab, fun f e => ?_⟩
  rotate_left
  · obtain ⟨h1, h2, h3⟩ := s.fix f e
    have ne : i ≠ f.i := fun z => by
      subst z
      unfold canSet at c
      rw [h2] at c
      cases c
    exact ⟨by rw [List.getElem?_set_ne ne]; exact h1, by rw [List.getElem?_set_ne ne]; exact h2, h3.trans mv.fut⟩
  have q1 := s.par j q h
  by_cases z : i = j
  · subst z
    obtain ⟨o, e1, _, _⟩ := s.sl.getM q1
    unfold canSet at c
    rw [e1] at c
    have c' := of_decide_eq_true c
    have := (List.getElem?_eq_some_iff.mp h).1
    omega
  · rw [List.getElem?_set_ne z]
    exact q1
theorem Ev.setN {i : Nat} : Ev ms H (ms.set i none) H := ⟨Le.refl, fun _ z => .inl (regs_set_none z)⟩
end
section
variable {X : Cx} {n : Nat} {Wx : WT} {st : Stmt} {rest sa sb : List Stmt} {F G : MS} {e c : Expr} {Fe : ME D} {Fc : ME Bool} {pos pos' : Pos}
theorem dss_nil : DSs X n Wx [] sNx := pss_of pss_nil fun D σ H ⟨g, ms, δ, e, s, p⟩ => p ms σ H s Ev.refl
theorem dss_cons (h1 : DSt X n Wx st F) (h2 : DSs X n Wx rest G) : DSs X n Wx (st :: rest) (sSeq F G) := by
  refine pss_of (pss_cons h1 h2) fun D σ H ⟨g, ms, δ, e, s, p⟩ => ⟨g, ms, δ, e, s, ?_⟩
  unfold sSeq at p
  cases q : F δ with
  | nx δ' => rw [q] at p; exact fun ms' σ' H' s' v => ⟨g, ms', δ', e, s', p.up v⟩
  | rt t δ' => rw [q] at p; cases t <;> exact p
  | bk δ' => rw [q] at p; exact p
  | ct δ' => rw [q] at p; exact p
  | ex x δ' => rw [q] at p; exact p
  | bad => rw [q] at p; exact p
theorem dss_one (h1 : DSt X n Wx st F) : DSs X n Wx [st] F := pss_one h1
theorem ds_if (hc : DT X Wx c Fc) (ha : DSs X n Wx sa F) (hb : DSs X n Wx sb G) : DSt X n Wx (.If c sa sb pos) (sIf Fc F G) := by
  refine ps_of (ps_if hc ha hb) fun D σ H ⟨g, ms, δ, e, s, p⟩ => ?_
  refine liftT_s s p fun b δ1 H1 s1 l1 p1 => ?_
  cases b with
  | true => exact iteT ⟨g, ms, δ1, e, s1, p1⟩
  | false => exact iteF ⟨g, ms, δ1, e, s1, p1⟩
theorem ds_ret (he : DE X Wx e Fe) : DSt X n Wx (.Return (some e) pos) (sRet Fe) := by
  refine ps_of (ps_ret he) fun D σ H ⟨g, ms, δ, e, s, p⟩ => ?_
  exact liftE_s s p fun d δ1 H1 v s1 l1 r1 p1 => p1 ms σ H1 v s1 Ev.refl r1
theorem ds_retN : DSt X n Wx (.Return none pos) sRetN := ps_of ps_retN fun D σ H ⟨g, ms, δ, e, s, p⟩ => p ms σ H .non s Ev.refl .non
theorem ds_expr (he : DE X Wx e Fe) (hs : swapsWith e none pos.line X.env = pure false := by rfl) : DSt X n Wx (.Expr e pos) (sDrop Fe) := by
  refine ps_of (ps_expr he hs) fun D σ H ⟨g, ms, δ, e, s, p⟩ => ?_
  exact liftE_s s p fun d δ1 H1 v s1 l1 r1 p1 => p1 ms σ H1 s1 Ev.refl
theorem ds_doc {x j pos pos'} : DSt X n Wx (.Expr (.Constant (.str x) j pos) pos') sNx := ps_of ps_doc fun D σ H ⟨g, ms, δ, e, s, p⟩ => p ms σ H s Ev.refl
theorem ds_pass : DSt X n Wx (.Pass pos) sNx := ps_of ps_pass fun D σ H ⟨g, ms, δ, e, s, p⟩ => p ms σ H s Ev.refl
theorem ds_never : DSt X n Wx st sBad := ps_of ps_never fun D σ H ⟨g, ms, δ, e, s, p⟩ => p
theorem ds_set {i : Nat} {x : Str} (hN : X.N.Nodup) (hi : X.N[i]? = some x) (hx : Loc X.env.scope x) (he : DE X Wx e Fe) (hs : swapsWith e (some (.Name x pos')) pos.line X.env = pure false := by rfl) (hf : X.fn x = true ∨ X.env.scope.names.lookup x = some .local := by first | exact .inl rfl | exact .inr rfl | assumption) :
    DSt X n Wx (.Assign [.Name x pos'] e pos) (sSet n i Fe) := by
  refine ps_of (ps_set hN hi hx he hs hf) fun D σ H ⟨g, ms, δ, e, s, p⟩ => ?_
  refine liftE_s s p fun d δ1 H1 v s1 l1 r1 p1 => ?_
  unfold setV at p1
  split at p1
  · rename_i c
    rw [← e] at c
    exact p1 _ _ H1 (s1.setV c r1) Ev.setN
  · exact p1.elim
end
/-! a body -/
def outs (n : Nat) (δ : Ds) : List S := (δ.take n).map fun o => o.getD (.v .non)
def runBody (n N : Nat) (B : MS) : FnD := fun ss => match B (ss.map some ++ List.replicate (N - n) none) with
  | .rt s δ => .ok s (outs n δ)
  | .nx δ => .ok (.v .non) (outs n δ)
  | .ex x δ => .ex x (outs n δ)
  | _ => .bad
section
variable {Γ : GG} {n : Nat} {vs : List V} {H : Hp} {Q : VK} {E : XK} {B : MS} {N : List Str}
theorem regs_app {ms ms' : List Rg} {b : Addr} : regs (ms ++ ms') b ↔ regs ms b ∨ regs ms' b := by
  constructor
  · rintro ⟨a, dx, hm, e⟩
    rcases List.mem_append.mp hm with z | z
    · exact .inl ⟨a, dx, z, e⟩
    · exact .inr ⟨a, dx, z, e⟩
  · rintro (⟨a, dx, z, e⟩ | ⟨a, dx, z, e⟩)
    · exact ⟨a, dx, List.mem_append_left _ z, e⟩
    · exact ⟨a, dx, List.mem_append_right _ z, e⟩
theorem regs_rep {k : Nat} {b : Addr} : ¬ regs (List.replicate k none) b := by
  rintro ⟨a, dx, hm, _⟩
  cases (List.mem_replicate.mp hm).2
theorem slots_none {W : As} : ∀ k : Nat, SlotsR Γ H W (List.replicate k none) (List.replicate k none) (List.replicate k none)
  | 0 => .nil
  | k + 1 => .cons .no (slots_none k)
theorem outs_at {δ : Ds} {i : Nat} {s : S} (h : δ[i]? = some (some s)) (l : i < n) : (outs n δ)[i]? = some s := by
  unfold outs
  rw [List.getElem?_map, List.getElem?_take_of_lt l, h]
  rfl
theorem body_lift (h : liftSp Γ n (runBody n N.length B) vs H Q E) (hn : n ≤ N.length) : liftS Γ n ⟨fun c d _ H' => E c d H', Γ.T, none⟩ B { nx := fun _ H' => Q .non H', rt := Q } (L2.start N vs) H := by
  obtain ⟨W, rs, ss, hl, ar, p⟩ := h
  have ln := ar.sl.len
  simp only [List.length_map] at ln
  have wsub : ∀ b, Wt (fx := none) ⟨W, regs rs, H, rs⟩ (rs ++ List.replicate (N.length - n) none) b → W b := by
    rintro b (z | z)
    · exact z
    · rcases regs_app.mp z with y | y
      · exact ar.sub b y
      · exact absurd y regs_rep
  have at_ : ∀ (j : Nat) (q : Addr × Addr), (rs ++ List.replicate (N.length - n) none)[j]? = some (some q) → rs[j]? = some (some q) ∧ j < rs.length := fun j q e => by
    by_cases c : j < rs.length
    · rw [List.getElem?_append_left c] at e
      exact ⟨e, c⟩
    · rw [List.getElem?_append_right (Nat.le_of_not_lt c), List.getElem?_replicate] at e
      split at e <;> cases e
  have sim : Sim Γ (fx := none) ⟨W, regs rs, H, rs⟩ (rs ++ List.replicate (N.length - n) none) (ss.map some ++ List.replicate (N.length - n) none) (L2.start N vs) H := by
    refine ⟨?_, fun i j a dx b dy h1 h2 ne => ar.dis i j a dx b dy (at_ _ _ h1).1 (at_ _ _ h2).1 ne, fun i r e => ?_, fun i a dx h1 h2 => ?_, fun i a dx h1 h2 => ⟨⟨a, dx, List.mem_of_getElem? (at_ _ _ h2).1, .inl rfl⟩, ⟨a, dx, List.mem_of_getElem? (at_ _ _ h2).1, .inr rfl⟩⟩, by simp, ar.sub, ar.al, Le.refl, ar.tab, fun _ z => nomatch z⟩
    · unfold L2.start
      have e1 : N.length - vs.length = N.length - n := by omega
      rw [e1]
      exact (ar.sl.mv (Mv.wk wsub) fun _ _ z => z).app (slots_none _)
    · show (rs ++ _)[i]? = _
      rw [List.getElem?_append_left (List.getElem?_eq_some_iff.mp e).1]
      exact e
    · have := (at_ _ _ h2).2
      have h1' : rs.length ≤ i := h1
      omega
  refine ⟨⟨W, regs rs, H, rs⟩, _, _, by show rs.length = n; omega, sim, ?_⟩
  have out : ∀ {ms' : List Rg} {δ' : Ds} {σ' : L2.St} {H' : Hp}, Sim Γ (fx := none) ⟨W, regs rs, H, rs⟩ ms' δ' σ' H' → OutR Γ H' W rs (outs n δ') := by
    intro ms' δ' σ' H' s i a dx e
    obtain ⟨o, q1, q2, q3⟩ := s.sl.getM (s.par i (a, dx) e)
    refine ⟨o, outs_at q1 (by have := (List.getElem?_eq_some_iff.mp e).1; omega), q3.mv (Mv.wk fun b z => .inl z) (fun z => z) fun z => z⟩
  unfold runBody at p
  cases q : B (ss.map some ++ List.replicate (N.length - n) none) with
  | bad => rw [q] at p; exact p
  | bk δ' => rw [q] at p; exact p.elim
  | ct δ' => rw [q] at p; exact p.elim
  | nx δ' =>
    rw [q] at p
    exact fun ms' σ' H' s v => p .non H' (out s) .non s.le
  | ex x δ' =>
    rw [q] at p
    intro ms' σ' H' cls dd s v r
    obtain ⟨C, dx, gs, h1, h2, h3, h4, h5, h6⟩ := r
    exact p cls dd H' (out s) ⟨C, dx, gs, h1, h2, h3, h4, fun z => h5 (.inl z), h6.mv (Mv.wk fun b z => .inl z)⟩ s.le
  | rt t δ' =>
    rw [q] at p
    cases t with
    | v d => exact fun ms' σ' H' v s ev r => p v H' (out s) (r.mv (Mv.wk fun b z => .inl z)) s.le
    | m o =>
      intro pp dx ms' σ' H' l1 l2 l3 s ev
      have hat : (ms' ++ [some (pp, dx)])[ms'.length]? = some (some (pp, dx)) := by simp
      have l4 : rs.length ≤ ms'.length := by rw [l1]; exact l3
      obtain ⟨z1, z2⟩ := s.loc _ _ _ l4 hat
      obtain ⟨o', y1, y2, y3⟩ := s.sl.getM hat
      have eo : o' = o := by
        rw [l1] at y1
        simp at y1
        exact y1.symm
      subst eo
      have wk : ∀ b, with2 W pp dx b → Wt (fx := none) ⟨W, regs rs, H, rs⟩ (ms' ++ [some (pp, dx)]) b := fun b z => by
        rcases z with z | z
        · exact .inl z
        · exact .inr ⟨pp, dx, by simp, z⟩
      refine p pp dx H' z1 z2 (fun i a dy e => ?_) (y3.mv (Mv.wk wk) (fun z => z) fun z => z) s.le
      obtain ⟨o2, q1, q2, q3⟩ := s.sl.getM (s.par i (a, dy) e)
      have il := (List.getElem?_eq_some_iff.mp e).1
      have il2 : i < rs.length := il
      refine ⟨o2, outs_at ?_ (by omega), q3.mv (Mv.wk wk) (fun z => z) fun z => z⟩
      rw [List.getElem?_append_left (by omega)] at q1
      exact q1
end
end DL

set_option Elab.async false
set_option linter.all false
set_option maxRecDepth 100000
set_option maxHeartbeats 4000000
set_option autoImplicit false
/-! lists that change; targets; loops -/
namespace DL
open L2 PyProof.Rows PySem.Spec PySem G58 SlX
variable [TbL]
section
variable {Γ : GG} {n : Nat} {fx : FX} {g : Gh fx} {ms ms1 : List Rg} {δ : Ds} {σ : L2.St} {H H1 : Hp} {E : Ends}
/-- a thing of a slot is changed -/
theorem Sim.mut {i : Nat} {a dx : Addr} {o : MO} {H' : Hp} (s : Sim Γ g ms δ σ H) (hi : ms[i]? = some (some (a, dx))) (keep : ∀ b u, b ≠ a → b ≠ dx → H b = some u → H' b = some u) (h1 : H' a ≠ none) (h2 : H' dx ≠ none) (new : MAt Γ H' (Wt g ms) a dx o) :
    Sim Γ g ms (δ.set i (some (.m o))) σ H' ∧ Le (regs ms) H H' := by
  have hm : some (a, dx) ∈ ms := List.mem_of_getElem? hi
  obtain ⟨o0, e0, _, m0⟩ := s.sl.getM hi
  obtain ⟨⟨u1, a1, a2⟩, u2, a3, a4⟩ := m0.at
  have tb : ∀ T : TTb, TabC T H → TabC T H' := fun T t => tabs_two a1 a2 a3 a4 keep t
  have l : Le (regs ms) H H' := ⟨fun b u n _ h => keep b u (fun z => n ⟨a, dx, hm, .inl z⟩) (fun z => n ⟨a, dx, hm, .inr z⟩) h, fun b h => by
    by_cases c1 : b = a
    · rw [c1]; exact h1
    · by_cases c2 : b = dx
      · rw [c2]; exact h2
      · cases e : H b with
        | none => exact absurd e h
        | some u => rw [keep b u c1 c2 e]; exact (fun z => nomatch z), tb⟩
  have mv : Mv (fun b => b = a ∨ b = dx) (Wt g ms) (Wt g ms) H H' := ⟨⟨fun b u n _ h => keep b u (fun z => n (.inl z)) (fun z => n (.inr z)) h, l.al, tb⟩, fun b z => .inr ⟨a, dx, hm, z⟩, fun b z => .inl z⟩
  have kp : Kp fx δ (δ.set i (some (.m o))) := fun f _ h => by
    rw [List.getElem?_set_ne fun z => by rw [z, h] at e0; cases e0]
    exact h
  refine ⟨s.step ?_ l kp, l⟩
  have ln := s.sl.len
  refine slots_of (by simpa using ln.1) (by simpa using ln.2) fun j r t x e1 e2 e3 => ?_
  by_cases c : i = j
  · subst c
    have il : i < δ.length := by
      have := (List.getElem?_eq_some_iff.mp hi).1
      omega
    rw [List.getElem?_set_self il] at e2
    cases e2
    rw [hi] at e1
    cases e1
    obtain ⟨_, _, y, _⟩ := s.sl.getM hi
    rw [e3] at y
    cases y
    exact .m new
  · rw [List.getElem?_set_ne c] at e2
    obtain ⟨r', x', q1, q2, q3⟩ := s.sl.get e2
    rw [e1] at q1
    cases q1
    rw [e3] at q2
    cases q2
    cases q3 with
    | no => exact .no
    | v h => exact .v (h.mv mv)
    | @m b dy ob h =>
      have q := s.dis j i b dy a dx e1 hi fun z => c z.symm
      exact .m (h.mv mv (fun z => z.elim q.1 q.2.1) fun z => z.elim q.2.2.1 q.2.2.2)
theorem Sim.list {i : Nat} {ds : List D} (s : Sim Γ g ms δ σ H) (hi : δ[i]? = some (some (.m (.lst ds)))) :
    ∃ a xs, ms[i]? = some (some (a, a)) ∧ σ[i]? = some (some (.ref a)) ∧ H a = some (.lst xs) ∧ Reps Γ H (Wt g ms) xs ds ∧
      ∀ ys ds', Reps Γ H (Wt g ms) ys ds' → Sim Γ g ms (δ.set i (some (.m (.lst ds')))) σ (upd H a (.lst ys)) ∧ Le (regs ms) H (upd H a (.lst ys)) := by
  obtain ⟨r, x, q1, q2, q3⟩ := s.sl.get hi
  cases q3 with
  | @m a dx ob h =>
    obtain ⟨e, xs, h1, h2⟩ := h
    subst e
    refine ⟨_, xs, q1, q2, h1, h2, fun ys ds' r' => ?_⟩
    have keep : ∀ b u, b ≠ dx → b ≠ dx → H b = some u → upd H dx (.lst ys) b = some u := fun b u n _ h => by rw [upd_ne n]; exact h
    have mv : Mv (fun b => b = dx) (Wt g ms) (Wt g ms) H (upd H dx (.lst ys)) := ⟨⟨fun b u n _ h => keep b u n n h, fun b h => by
      by_cases c : b = dx
      · rw [c, upd_same]; exact fun z => nomatch z
      · rw [upd_ne c]; exact h, fun T t => tabs_two h1 pl_lst h1 pl_lst keep t⟩, fun b z => .inr ⟨dx, dx, List.mem_of_getElem? q1, .inl z⟩, fun b z => .inl z⟩
    exact s.mut q1 keep (by rw [upd_same]; exact fun z => nomatch z) (by rw [upd_same]; exact fun z => nomatch z) ⟨rfl, ys, upd_same, r'.mv mv⟩
end
/-! append, extend, x[k] = v -/
def appD (i : Nat) (d : D) : ME D := fun δ => match δ[i]? with
  | some (some (.m (.lst ds))) => if szOk (ds.length + 1) then .ok .non (δ.set i (some (.m (.lst (ds ++ [d]))))) else .bad
  | _ => .bad
def isML (i : Nat) (δ : Ds) : Bool := match δ[i]? with
  | some (some (.m (.lst _))) => true
  | _ => false
def eAppend (i : Nat) (F : ME D) : ME D := fun δ => if isML i δ then bnd F (fun d => appD i d) δ else .bad
def extD (i : Nat) (d : D) : ME D := fun δ => match δ[i]?, d with
  | some (some (.m (.lst ds))), .lst es => if szOk (ds.length + es.length) then .ok .non (δ.set i (some (.m (.lst (ds ++ es))))) else .bad
  | _, _ => .bad
def eExtend (i : Nat) (F : ME D) : ME D := fun δ => if isML i δ then bnd F (fun d => extD i d) δ else .bad
theorem isML_some {i : Nat} {δ : Ds} (h : isML i δ = true) : ∃ ds, δ[i]? = some (some (.m (.lst ds))) := by
  unfold isML at h
  split at h
  · exact ⟨_, by assumption⟩
  · cases h
section
variable {X : Cx} {Wx : WT} {o a : Expr} {pos apos : Pos} {Fa : ME D} {i : Nat}
theorem de_append (ho : PE X o (tVar i)) (ha : DE X Wx a Fa) (h : ∀ {to : TE} {t : TA}, PE X o to → PA X [a] t → PE X (.Call (.Attribute o "append" apos) [a] [] pos) (tBM X.K "list" rAppend to t))
    (hs : starEach [a] X.env = (false, eval a X.env) :: starEach [] X.env := by rfl) : DE X Wx (.Call (.Attribute o "append" apos) [a] [] pos) (eAppend i Fa) := by
  refine pe_of (h ho (pa_cons ha pa_nil hs)) fun σ H Q z => ?_
  obtain ⟨g, ms, δ, s, p⟩ := z
  unfold eAppend at p
  split at p
  · rename_i c
    obtain ⟨ds, hd⟩ := isML_some c
    obtain ⟨l, xs, q1, q2, q3, q4, q5⟩ := s.list hd
    refine ⟨_, q2, .inl ⟨rfl, _, SqL.of q3⟩, ?_⟩
    refine lift_bnd s p fun d1 δ1 H1 x s1 l1 r1 p1 => ?_
    unfold appD at p1
    split at p1
    · rename_i ds1 e1
      split at p1
      · rename_i cz
        obtain ⟨l', xs1, w1, w2, w3, w4, w5⟩ := s1.list e1
        rw [q2] at w2
        cases w2
        obtain ⟨u1, u2⟩ := w5 (xs1 ++ [x]) (ds1 ++ [d1]) (w4.app (.one r1))
        have hz : xs1.length < sizeLine := by
          rw [w4.len]
          have := sz_line cz
          omega
        exact ⟨_, _, _, rfl, rfl, w3, hz, p1 _ u1 u2 _ .non⟩
      · exact p1.elim
    · exact p1.elim
  · exact p.elim
theorem de_extend (ho : PE X o (tVar i)) (ha : DE X Wx a Fa) (h : ∀ {to : TE} {t : TA}, PE X o to → PA X [a] t → PE X (.Call (.Attribute o "extend" apos) [a] [] pos) (tBM X.K "list" rExtend to t))
    (hs : starEach [a] X.env = (false, eval a X.env) :: starEach [] X.env := by rfl) : DE X Wx (.Call (.Attribute o "extend" apos) [a] [] pos) (eExtend i Fa) := by
  refine pe_of (h ho (pa_cons ha pa_nil hs)) fun σ H Q z => ?_
  obtain ⟨g, ms, δ, s, p⟩ := z
  unfold eExtend at p
  split at p
  · rename_i c
    obtain ⟨ds, hd⟩ := isML_some c
    obtain ⟨l, xs, q1, q2, q3, q4, q5⟩ := s.list hd
    refine ⟨_, q2, .inl ⟨rfl, _, SqL.of q3⟩, ?_⟩
    refine lift_bnd s p fun d1 δ1 H1 x s1 l1 r1 p1 => ?_
    unfold extD at p1
    split at p1
    · rename_i ds1 es1 e1
      split at p1
      · rename_i cz
        obtain ⟨l', xs1, w1, w2, w3, w4, w5⟩ := s1.list e1
        rw [q2] at w2
        cases w2
        cases r1 with
        | lst a1 r1 =>
          obtain ⟨u1, u2⟩ := w5 _ (ds1 ++ es1) (w4.app r1)
          exact ⟨_, _, _, _, rfl, rfl, w3, a1.1, by rw [w4.len, r1.len]; exact sz_line cz, p1 _ u1 u2 _ .non⟩
      · exact p1.elim
    · exact p1.elim
  · exact p.elim
end
/-! targets -/
abbrev Tg := D → Ds → Option Ds
def notM (δ : Ds) (i : Nat) : Bool := match δ[i]? with
  | some (some (.m _)) => false
  | some (some (.v .opq)) => false
  | some _ => true
  | none => false
def tgName (i : Nat) : Tg := fun d δ => if notM δ i then some (δ.set i (some (.v d))) else none
def tgSub (i : Nat) (k : Int) : Tg := fun d δ => match δ[i]? with
  | some (some (.m (.lst ds))) => (ixN ds.length k).map fun j => δ.set i (some (.m (.lst (ds.set j d))))
  | _ => none
def tgs : List Tg → List D → Ds → Option Ds
  | [], [], δ => some δ
  | t :: ts, d :: ds, δ => match t d δ with
    | some δ' => tgs ts ds δ'
    | none => none
  | _, _, _ => none
def tgTup (ts : List Tg) : Tg := fun d δ => match d with
  | .tup ds => tgs ts ds δ
  | _ => none
def GPost (Γ : GG) {fx : FX} (g : Gh fx) (ms : List Rg) (H : Hp) (Q : L2.St → Hp → Prop) : Option Ds → Prop
  | some δ' => ∀ ms' σ' H', Sim Γ g ms' δ' σ' H' → Ev ms H ms' H' → Q σ' H'
  | none => False
def liftG (Γ : GG) (fx : FX) (f : Tg) : TG := fun v σ H Q => ∃ (g : Gh fx) (ms : List Rg) (δ : Ds) (d : D), Sim Γ g ms δ σ H ∧ Rep Γ H (Wt g ms) v d ∧ GPost Γ g ms H Q (f d δ)
def liftGs (Γ : GG) (fx : FX) (f : List Tg) : TGs := fun vs σ H Q => ∃ (g : Gh fx) (ms : List Rg) (δ : Ds) (ds : List D), Sim Γ g ms δ σ H ∧ Reps Γ H (Wt g ms) vs ds ∧ GPost Γ g ms H Q (tgs f ds δ)
theorem GPost.up {Γ : GG} {fx : FX} {g : Gh fx} {ms ms1 : List Rg} {H H1 : Hp} {Q : L2.St → Hp → Prop} {r : Option Ds} (h : GPost Γ g ms H Q r) (v : Ev ms H ms1 H1) : GPost Γ g ms1 H1 Q r := by
  cases r with
  | none => exact h
  | some δ' => exact fun a b c s e => h a b c s (v.trans e)
theorem notM_can {n : Nat} {δ : Ds} {i : Nat} (h : notM δ i = true) : canSet n δ i = true := by
  unfold notM at h
  unfold canSet
  split
  · rename_i o e
    rw [e] at h
    cases h
  · rename_i e
    rw [e] at h
    cases h
  · rfl
  · rename_i e
    rw [e] at h
    cases h
theorem pg_of {X : Cx} {e : Expr} {t t' : TG} (h : PG X e t) (w : ∀ v σ H Q, t' v σ H Q → t v σ H Q) : PG X e t' := ⟨fun p s σ H v u Q I r z => h.run p s σ H v u Q I r (w v σ H Q z)⟩
theorem pgs_of {X : Cx} {e : List Expr} {t t' : TGs} (h : PGs X e t) (w : ∀ v σ H Q, t' v σ H Q → t v σ H Q) : PGs X e t' := ⟨fun p s σ H v u Q I r z => h.run p s σ H v u Q I r (w v σ H Q z)⟩
section
variable {X : Cx} {Wx : WT} {n : Nat} {e : Expr} {es : List Expr} {pos : Pos} {T : Tg} {Ts : List Tg} {Fe : ME D}
abbrev DG (X : Cx) (Wx : WT) (e : Expr) (f : Tg) : Prop := PG X e (liftG (gg X Wx.T) Wx.fx f)
abbrev DGs (X : Cx) (Wx : WT) (e : List Expr) (f : List Tg) : Prop := PGs X e (liftGs (gg X Wx.T) Wx.fx f)
theorem dg_name {i : Nat} (h : PG X e (gName i)) : DG X Wx e (tgName i) := by
  refine pg_of h fun v σ H Q ⟨g, ms, δ, d, s, r, p⟩ => ?_
  unfold tgName at p
  split at p
  · rename_i c
    exact p _ _ H (s.setV (notM_can c) r) Ev.setN
  · exact p.elim
theorem dgs_nil : DGs X Wx [] [] := by
  refine pgs_of pgs_nil fun v σ H Q ⟨g, ms, δ, d, s, r, p⟩ => ?_
  cases r with
  | nil => exact ⟨rfl, p ms σ H s Ev.refl⟩
  | cons _ _ => exact p.elim
theorem dgs_cons (h1 : DG X Wx e T) (h2 : DGs X Wx es Ts) (hs : (assignEach (e :: es) X.env).map (·.2) = assign e X.env :: (assignEach es X.env).map (·.2) := by rfl) : DGs X Wx (e :: es) (T :: Ts) := by
  refine pgs_of (pgs_cons h1 h2 hs) fun v σ H Q ⟨g, ms, δ, d, s, r, p⟩ => ?_
  cases r with
  | nil => exact p.elim
  | cons r rr =>
    refine ⟨_, _, rfl, g, ms, δ, _, s, r, ?_⟩
    unfold tgs at p
    split at p
    · rename_i δ' e
      rw [e]
      exact fun ms' σ' H' s' v => ⟨g, ms', δ', _, s', rr.mv v.mv, p.up v⟩
    · exact p.elim
theorem dg_tup {k m : Nat} (hc : X.calm = true) (h : DGs X Wx es Ts) (hn : (assignEach es X.env).length = m := by rfl) (hst : (assignEach es X.env).findIdx? (·.1) = none := by rfl) (hl : Ts.length = m := by rfl) : DG X Wx (.Tuple es k pos) (tgTup Ts) := by
  refine pg_of (pg_tup hc h hn hst) fun v σ H Q ⟨g, ms, δ, d, s, r, p⟩ => ?_
  unfold tgTup at p
  split at p
  · rename_i ds
    cases r with
    | tup a1 r =>
      refine ⟨_, _, rfl, a1.sq, ?_, g, ms, δ, ds, s, r, p⟩
      rw [r.len, ← hl]
      clear r s hl hn
      have go : ∀ (Ts : List Tg) (ds : List D) (δ : Ds) (z : GPost (gg X Wx.T) g ms H Q (tgs Ts ds δ)), ds.length = Ts.length := by
        intro Ts
        induction Ts with
        | nil =>
          intro ds δ z
          cases ds with
          | nil => rfl
          | cons _ _ => exact z.elim
        | cons t ts ih =>
          intro ds δ z
          cases ds with
          | nil => exact z.elim
          | cons d ds =>
            unfold tgs at z
            split at z
            · simp [ih _ _ z]
            · exact z.elim
      exact go _ _ _ p
  · exact p.elim
theorem dg_sub {o : Expr} {i : Nat} {k : Int} {j pk} (ho : PE X o (tVar i)) (h : ∀ {to ti : TE}, PE X o to → PE X (.Constant (.int k) j pk) ti → PG X (.Subscript o (.Constant (.int k) j pk) pos) (gSub to ti rSetL)) : DG X Wx (.Subscript o (.Constant (.int k) j pk) pos) (tgSub i k) := by
  refine pg_of (h ho pe_int) fun v σ H Q ⟨g, ms, δ, d, s, r, p⟩ => ?_
  unfold tgSub at p
  split at p
  · rename_i ds e
    obtain ⟨a, xs, q1, q2, q3, q4, q5⟩ := s.list e
    cases q : ixN ds.length k with
    | none => rw [q] at p; exact p.elim
    | some jj =>
      rw [q] at p
      have rr : Reps (gg X Wx.T) H (Wt g ms) (xs.set jj v) (ds.set jj d) := q4.set r jj
      obtain ⟨u1, u2⟩ := q5 _ _ rr
      exact ⟨_, q2, _, _, _, jj, rfl, rfl, q3, by rw [q4.len]; exact q, p _ _ _ u1 (Ev.of u2)⟩
  · exact p.elim
def sAsg (F : ME D) (t : Tg) : MS := sBnd F fun d δ => match t d δ with
  | some δ' => .nx δ'
  | none => .bad
theorem ds_asg {tg : Expr} (he : DE X Wx e Fe) (hg : DG X Wx tg T) (hs : swapsWithSole [tg] e pos.line X.env = pure false := by rfl) (hw : swappedStores [tg] e X.env = pure none := by rfl)
    (h1 : (assignEach [tg] X.env).map (·.2) = [assign tg X.env] := by rfl) : DSt X n Wx (.Assign [tg] e pos) (sAsg Fe T) := by
  refine ps_of (ps_asg he hg hs hw h1) fun D σ H ⟨g, ms, δ, e, s, p⟩ => ?_
  refine liftE_s s p fun d δ1 H1 v s1 l1 r1 p1 => ⟨g, ms, δ1, d, s1, r1, ?_⟩
  cases q : T d δ1 with
  | none => simp only [q] at p1; exact p1.elim
  | some δ' => simp only [q] at p1; exact fun ms' σ' H' s' v => p1 ms' σ' H' s' v
end
end DL

set_option Elab.async false
set_option linter.all false
set_option maxRecDepth 100000
set_option maxHeartbeats 4000000
set_option autoImplicit false
/-! loops -/
namespace DL
open L2 PyProof.Rows PySem.Spec PySem G58 SlX
variable [TbL]
/-- an iterator that hands out known values one after another -/
def WalkJ (Γ : GG) (J : It) (W : As) (ds : List D) (H : Hp) : Prop := ∀ A W' H', Mv A W W' H H' → ∀ i : Nat,
  (∀ d, ds[i]? = some d → J.go i H' ∧ ∀ x H3, J.yld i H' x H3 → Same H' H3 ∧ Rep Γ H3 W' x d) ∧ (ds.length ≤ i → J.stop i H')
def liftI (Γ : GG) (Wx : WT) (F : ME (List D)) : TI := fun σ H R => ∃ (g : Gh Wx.fx) (ms : List Rg) (δ : Ds), Sim Γ g ms δ σ H ∧ Post Γ Wx g ms σ H (fun ds _ H' => ∀ J, WalkJ Γ J (Wt g ms) ds H' → R J H') (F δ)
theorem pi_of {X : Cx} {tg e : Expr} {t t' : TI} (h : PI X tg e t) (w : ∀ σ H Q, t' σ H Q → t σ H Q) : PI X tg e t' := ⟨fun p s σ H Q I z => h.run p s σ H Q I (w σ H Q z)⟩
abbrev DI (X : Cx) (Wx : WT) (tg e : Expr) (F : ME (List D)) : Prop := PI X tg e (liftI (gg X Wx.T) Wx F)
def asItems : D → Option (List D)
  | .lst ds => some ds
  | .tup ds => some ds
  | _ => none
def iSeq (F : ME D) : ME (List D) := bnd F fun d => opt (asItems d)
def asLst : D → Option (List D)
  | .lst ds => some ds
  | _ => none
def asTup : D → Option (List D)
  | .tup ds => some ds
  | _ => none
def iLst (F : ME D) : ME (List D) := bnd F fun d => opt (asLst d)
def iTupD (F : ME D) : ME (List D) := bnd F fun d => opt (asTup d)
def rgD (lo hi : Int) : List D := (List.range (hi - lo).toNat).map fun i => D.int (lo + (i : Nat))
def asRg1 : List D → Option (List D)
  | [.int j] => if decide (j ≤ 1000000) && decide (-1000000 ≤ j) then some (rgD 0 j) else none
  | _ => none
def asRg2 : List D → Option (List D)
  | [.int i, .int j] => if (decide (i ≤ 1000000) && decide (-1000000 ≤ i)) && (decide (j ≤ 1000000) && decide (-1000000 ≤ j)) then some (rgD i j) else none
  | _ => none
def iRg1 (F : ME (List D)) : ME (List D) := bnd F fun d => opt (asRg1 d)
def iRg2 (F : ME (List D)) : ME (List D) := bnd F fun d => opt (asRg2 d)
section
variable {Γ : GG} {W : As} {H : Hp} {a : Addr} {xs : List V} {ds : List D}
theorem walk_lst (h : LstAt H W a xs) (r : Reps Γ H W xs ds) : WalkJ Γ (Itl Γ.K a) W ds H := by
  intro A W' H' v i
  have h' : SqL Γ.K H' a xs := (v.lst h).sq
  have r' := r.mv v
  refine ⟨fun d hd => ?_, fun hl => ⟨xs, h', by rw [r.len]; exact hl⟩⟩
  obtain ⟨x, e1, e2⟩ := r'.getD hd
  refine ⟨⟨xs, x, h', e1⟩, fun y H3 z => ?_⟩
  obtain ⟨e, z⟩ := z
  subst e
  have := z xs h'
  rw [e1] at this
  cases this
  exact ⟨Same.refl _, e2⟩
theorem walk_tup (h : TupAt Γ.K H W a xs) (r : Reps Γ H W xs ds) : WalkJ Γ (Itt Γ.K a) W ds H := by
  intro A W' H' v i
  have h' : SqT Γ.K H' a xs := (v.tup h).sq
  have r' := r.mv v
  refine ⟨fun d hd => ?_, fun hl => ⟨xs, h', by rw [r.len]; exact hl⟩⟩
  obtain ⟨x, e1, e2⟩ := r'.getD hd
  refine ⟨⟨xs, x, h', e1⟩, fun y H3 z => ?_⟩
  obtain ⟨e, z⟩ := z
  subst e
  have := z xs h'
  rw [e1] at this
  cases this
  exact ⟨Same.refl _, e2⟩
theorem rgD_at {lo hi : Int} {i : Nat} {d : D} (h : (rgD lo hi)[i]? = some d) : i < (hi - lo).toNat ∧ d = .int (lo + i) := by
  unfold rgD at h
  rw [List.getElem?_map] at h
  by_cases c : i < (hi - lo).toNat
  · rw [List.getElem?_range c] at h
    exact ⟨c, (Option.some.inj h).symm⟩
  · rw [List.getElem?_eq_none (by simpa using c)] at h
    cases h
theorem rgD_len {lo hi : Int} : (rgD lo hi).length = (hi - lo).toNat := by simp [rgD]
theorem walk_rng {lo hi : Int} : WalkJ Γ (Itr lo (hi - lo).toNat) W (rgD lo hi) H := by
  intro A W' H' v i
  refine ⟨fun d hd => ?_, fun hl => by rw [rgD_len] at hl; exact hl⟩
  obtain ⟨c, rfl⟩ := rgD_at hd
  refine ⟨c, fun y H3 z => ?_⟩
  obtain ⟨e, rfl⟩ := z
  subst e
  exact ⟨Same.refl _, .int _⟩
end
section
variable {X : Cx} {Wx : WT} {tg e a b : Expr} {Fe : ME D} {Fa : ME (List D)} {p pos : Pos}
theorem di_lst (h : DE X Wx e Fe) : DI X Wx tg e (iLst Fe) := by
  refine pi_of (pi_list h) fun σ H R ⟨g, ms, δ, s, p⟩ => ?_
  refine lift_bnd s p fun d δ1 H1 v s1 l1 r1 p1 => ?_
  obtain ⟨ds, e, k⟩ := post_opt s1 p1
  unfold asLst at e
  split at e <;> cases e
  cases r1 with
  | lst h1 h2 => exact ⟨_, rfl, ⟨_, h1.sq⟩, k _ (walk_lst h1 h2)⟩
theorem di_tup (h : DE X Wx e Fe) : DI X Wx tg e (iTupD Fe) := by
  refine pi_of (pi_tup h) fun σ H R ⟨g, ms, δ, s, p⟩ => ?_
  refine lift_bnd s p fun d δ1 H1 v s1 l1 r1 p1 => ?_
  obtain ⟨ds, e, k⟩ := post_opt s1 p1
  unfold asTup at e
  split at e <;> cases e
  cases r1 with
  | tup h1 h2 => exact ⟨_, rfl, ⟨_, h1.sq⟩, k _ (walk_tup h1 h2)⟩
theorem di_rg1 (hg : Gl X "range") (hm : X.mg "range" = none) (ha : DA X Wx [a] Fa) (hs : starEach [a] X.env = [(false, eval a X.env)] := by rfl) : DI X Wx tg (.Call (.Name "range" p) [a] [] pos) (iRg1 Fa) := by
  refine pi_of (pi_range1 hg hm ha hs) fun σ H R ⟨g, ms, δ, s, p⟩ => ?_
  refine liftA_bnd s p fun d δ1 H1 v s1 l1 r1 p1 => ?_
  obtain ⟨ds, e, k⟩ := post_opt s1 p1
  unfold asRg1 at e
  split at e
  · split at e
    · rename_i j c
      cases e
      rw [Bool.and_eq_true] at c
      have c1 := of_decide_eq_true c.1
      have c2 := of_decide_eq_true c.2
      cases r1 with
      | cons h r =>
        cases r
        cases h
        refine ⟨j, rfl, by omega, by omega, ?_⟩
        have w := walk_rng (Γ := gg X Wx.T) (W := Wt g ms) (H := H1) (lo := 0) (hi := j)
        rw [Int.sub_zero] at w
        exact k _ w
    · cases e
  · cases e
theorem di_rg2 (hg : Gl X "range") (hm : X.mg "range" = none) (ha : DA X Wx [a, b] Fa) (hs : starEach [a, b] X.env = (false, eval a X.env) :: starEach [b] X.env := by rfl) (hp : (backTo pos (starEach [b] X.env)).any (·.1) = false := by rfl)
    (h : ∀ {ta : TA}, PA X [a, b] ta → PI X tg (.Call (.Name "range" p) [a, b] [] pos) (iRng2 ta)) : DI X Wx tg (.Call (.Name "range" p) [a, b] [] pos) (iRg2 Fa) := by
  refine pi_of (h ha) fun σ H R ⟨g, ms, δ, s, p⟩ => ?_
  refine liftA_bnd s p fun d δ1 H1 v s1 l1 r1 p1 => ?_
  obtain ⟨ds, e, k⟩ := post_opt s1 p1
  unfold asRg2 at e
  split at e
  · split at e
    · rename_i i j c
      cases e
      rw [Bool.and_eq_true, Bool.and_eq_true, Bool.and_eq_true] at c
      have c1 := of_decide_eq_true c.1.1
      have c2 := of_decide_eq_true c.1.2
      have c3 := of_decide_eq_true c.2.1
      have c4 := of_decide_eq_true c.2.2
      cases r1 with
      | cons h r =>
        cases r with
        | cons h' r =>
          cases r
          cases h
          cases h'
          exact ⟨i, j, rfl, ⟨by omega, by omega, by omega, by omega⟩, k _ walk_rng⟩
    · cases e
  · cases e
end
/-! for -/
def forL (t : Tg) (B : MS) : List D → MS
  | [] => fun δ => .nx δ
  | d :: ds => fun δ => match t d δ with
    | none => .bad
    | some δ1 => match B δ1 with
      | .nx δ2 => forL t B ds δ2
      | .ct δ2 => forL t B ds δ2
      | .bk δ2 => .nx δ2
      | r => r
def sFor (I : ME (List D)) (t : Tg) (B : MS) : MS := sBnd I fun ds => forL t B ds
def whileN (c : ME Bool) (B : MS) : Nat → MS
  | 0 => fun _ => .bad
  | k + 1 => sBnd c fun b => match b with
    | true => fun δ => match B δ with
      | .nx δ2 => whileN c B k δ2
      | .ct δ2 => whileN c B k δ2
      | .bk δ2 => .nx δ2
      | r => r
    | false => fun δ => .nx δ
section
variable {X : Cx} {n : Nat} {Wx : WT} {tg iter c : Expr} {I : ME (List D)} {T : Tg} {B : MS} {body : List Stmt} {pos : Pos} {Fc : ME Bool}
theorem ds_for (hp : PassesOwn (model X.prog X.w) X.A X.env X.xe) (hc : X.calm = true) (hi : DI X Wx tg iter I) (hg : DG X Wx tg T) (hb : DSs X n Wx body B) (hs : ∀ x, foldedSetIterable iter X.env x = pure x := by intro _; rfl) :
    DSt X n Wx (.For tg iter body [] pos) (sFor I T B) := by
  refine ps_of (ps_for hp hc hi hg hb hs) fun D σ H ⟨g, ms, δ, e, s, p⟩ => ?_
  refine ⟨g, ms, δ, s, spost_bnd p fun ds δ1 H1 s1 l1 p1 J w => ?_⟩
  refine ⟨fun i m σ' H' => m = ds.length - i ∧ i ≤ ds.length ∧ ∃ ms' δ', Sim (gg X Wx.T) g ms' δ' σ' H' ∧ Ev ms H1 ms' H' ∧ SPost (gg X Wx.T) Wx g ms' H' D (forL T B (ds.drop i) δ'), ⟨ds.length, by simp, Nat.zero_le _, ms, δ1, s1, Ev.refl, by simpa using p1⟩, ?_⟩
  rintro i m σ' H' ⟨rfl, hi, ms', δ', s', v', p'⟩
  obtain ⟨w1, w2⟩ := w _ _ H' (v'.mv (g := g)) i
  by_cases hlt : i < ds.length
  · have ed : ds[i]? = some ds[i] := List.getElem?_eq_getElem hlt
    obtain ⟨g1, g2⟩ := w1 _ ed
    refine .inr ⟨g1, fun σ2 H2 => ∃ ms2 δ2, Sim (gg X Wx.T) g ms2 δ2 σ2 H2 ∧ Ev ms H1 ms2 H2 ∧ SPost (gg X Wx.T) Wx g ms2 H2 D (forL T B (ds.drop (i + 1)) δ2), fun σ2 H2 z => ⟨ds.length - (i + 1), by omega, rfl, by omega, z⟩, fun x H3 y => ?_⟩
    obtain ⟨sm, rx⟩ := g2 x H3 y
    have s3 := s'.grow sm
    have v3 : Ev ms' H' ms' H3 := Ev.of (Le.same sm)
    rw [List.drop_eq_getElem_cons hlt] at p'
    unfold forL at p'
    refine ⟨g, ms', δ', ds[i], s3, rx, ?_⟩
    cases q : T ds[i] δ' with
    | none => simp only [q] at p'; exact p'.elim
    | some δ4 =>
      simp only [q] at p'
      intro ms4 σ4 H4 s4 v4
      refine ⟨g, ms4, δ4, e, s4, ?_⟩
      have v14 : Ev ms' H' ms4 H4 := v3.trans v4
      cases q2 : B δ4 with
      | nx δ5 => simp only [q2] at p'; exact fun ms5 σ5 H5 s5 v5 => ⟨ms5, δ5, s5, v'.trans (v14.trans v5), p'.up (v14.trans v5)⟩
      | ct δ5 => simp only [q2] at p'; exact fun ms5 σ5 H5 s5 v5 => ⟨ms5, δ5, s5, v'.trans (v14.trans v5), p'.up (v14.trans v5)⟩
      | bk δ5 => simp only [q2] at p'; exact fun ms5 σ5 H5 s5 v5 => p' ms5 σ5 H5 s5 (v14.trans v5)
      | rt t δ5 =>
        simp only [q2] at p'
        cases t with
        | v d => exact fun a b c d s5 v5 => p' a b c d s5 (v14.trans v5)
        | m o => exact fun a b c d f l1 l2 l3 s5 v5 => p' a b c d f l1 l2 l3 s5 (v14.trans v5)
      | ex x δ5 => simp only [q2] at p'; exact fun a b c d f s5 v5 => p' a b c d f s5 (v14.trans v5)
      | bad => simp only [q2] at p'; exact p'
  · have ei : i = ds.length := by omega
    subst ei
    rw [List.drop_length] at p'
    exact .inl ⟨w2 (Nat.le_refl _), p' ms' σ' H' s' Ev.refl⟩
theorem ds_while {k : Nat} (hp : PassesOwn (model X.prog X.w) X.A X.env X.xe) (hc : DT X Wx c Fc) (hb : DSs X n Wx body B) : DSt X n Wx (.While c body [] pos) (whileN Fc B k) := by
  refine ps_of (ps_while hp hc hb) fun D σ H ⟨g, ms, δ, e, s, p⟩ => ?_
  refine ⟨fun m σ' H' => ∃ ms' δ', Sim (gg X Wx.T) g ms' δ' σ' H' ∧ SPost (gg X Wx.T) Wx g ms' H' D (whileN Fc B m δ'), ⟨k, ms, δ, s, p⟩, ?_⟩
  rintro m σ' H' ⟨ms', δ', s', p'⟩
  cases m with
  | zero => exact p'.elim
  | succ m =>
    unfold whileN at p'
    refine liftT_s s' p' fun b δ1 H1 s1 l1 p1 => ?_
    cases b with
    | false => exact iteF (p1 ms' σ' H1 s1 Ev.refl)
    | true =>
      refine iteT ⟨fun σ2 H2 => ∃ ms2 δ2, Sim (gg X Wx.T) g ms2 δ2 σ2 H2 ∧ SPost (gg X Wx.T) Wx g ms2 H2 D (whileN Fc B m δ2), fun σ2 H2 z => ⟨m, Nat.lt_succ_self _, z⟩, g, ms', δ1, e, s1, ?_⟩
      cases q2 : B δ1 with
      | nx δ5 => simp only [q2] at p1; exact fun ms5 σ5 H5 s5 v5 => ⟨ms5, δ5, s5, p1.up v5⟩
      | ct δ5 => simp only [q2] at p1; exact fun ms5 σ5 H5 s5 v5 => ⟨ms5, δ5, s5, p1.up v5⟩
      | bk δ5 => simp only [q2] at p1; exact p1
      | rt t δ5 => simp only [q2] at p1; cases t <;> exact p1
      | ex x δ5 => simp only [q2] at p1; exact p1
      | bad => simp only [q2] at p1; exact p1
end
end DL

set_option Elab.async false
set_option linter.all false
set_option maxRecDepth 100000
set_option maxHeartbeats 4000000
set_option autoImplicit false
/-! comprehensions; new lists that change; freezing -/
namespace DL
open L2 PyProof.Rows PySem.Spec PySem G58 SlX
variable [TbL]
def wipeD (δ : Ds) : List Nat → Ds
  | [] => δ
  | v :: vs => (wipeD δ vs).set v none
/-- the slots of own names as they were -/
def backD (δ0 : Ds) : List Nat → Ds → Ds
  | [], δ => δ
  | v :: vs, δ => match δ0[v]? with
    | some s => (backD δ0 vs δ).set v s
    | none => backD δ0 vs δ
/-- the targets of a comprehension: one name, or a tuple of names -/
inductive CT where
  | one (i : Nat) | tup (is : List Nat)
def setNs : List Nat → List D → Ds → Option Ds
  | [], [], δ => some δ
  | i :: is, d :: ds, δ => setNs is ds (δ.set i (some (.v d)))
  | _, _, _ => none
def ctD : CT → D → Ds → Option Ds
  | .one i, d, δ => some (δ.set i (some (.v d)))
  | .tup is, .tup ds, δ => setNs is ds δ
  | _, _, _ => none
def ctVs : CT → List Nat
  | .one i => [i]
  | .tup is => is
def lcL (t : CT) (tt : ME Bool) (te : ME D) : List D → List D → ME (List D)
  | [], acc => fun δ => .ok acc δ
  | d :: ds, acc => fun δ => match ctD t d δ with
    | none => .bad
    | some δ1 => match tt δ1 with
      | .ok true δ2 => (match te δ2 with
        | .ok y δ3 => if szOk (acc.length + 1) then lcL t tt te ds (acc ++ [y]) (wipeD δ3 (ctVs t)) else .bad
        | _ => .bad)
      | .ok false δ2 => lcL t tt te ds acc (wipeD δ2 (ctVs t))
      | _ => .bad
def allNotM (δ : Ds) (vs : List Nat) : Bool := vs.all fun v => notM δ v
def lcD (t : CT) (tt : ME Bool) (te : ME D) (ds : List D) : ME D := fun δ => if allNotM δ (ctVs t) then (match lcL t tt te ds [] (wipeD δ (ctVs t)) with
  | .ok acc δ' => .ok (.lst acc) (backD δ (ctVs t) δ')
  | _ => .bad) else .bad
def eLc (I : ME (List D)) (t : CT) (tt : ME Bool) (te : ME D) : ME D := bnd I fun ds => lcD t tt te ds
def tYesD : ME Bool := rtn true
section
variable {Γ : GG} {fx : FX} {g : Gh fx} {ms : List Rg} {δ : Ds} {σ : L2.St} {H : Hp}
theorem wipeD_len : ∀ vs : List Nat, (wipeD δ vs).length = δ.length
  | [] => rfl
  | v :: vs => by simp [wipeD, wipeD_len vs]
theorem wipeD_at : ∀ (vs : List Nat) (i : Nat), (wipeD δ vs)[i]? = if i ∈ vs ∧ i < δ.length then some none else δ[i]?
  | [], i => by simp [wipeD]
  | v :: vs, i => by
    unfold wipeD
    by_cases c : v = i
    · subst c
      by_cases l : v < δ.length
      · rw [List.getElem?_set_self (by rw [wipeD_len]; exact l), if_pos ⟨List.mem_cons_self, l⟩]
      · rw [List.getElem?_eq_none (by rw [List.length_set, wipeD_len]; omega), if_neg (fun z => l z.2), List.getElem?_eq_none (by omega)]
    · rw [List.getElem?_set_ne c, wipeD_at vs i]
      have : i ∈ v :: vs ↔ i ∈ vs := by simp [Ne.symm c]
      simp only [this]
theorem wipe_at : ∀ (vs : List Nat) (i : Nat), (wipe σ vs)[i]? = if i ∈ vs ∧ i < σ.length then some none else σ[i]?
  | [], i => by simp [wipe]
  | v :: vs, i => by
    unfold wipe
    by_cases c : v = i
    · subst c
      by_cases l : v < σ.length
      · rw [List.getElem?_set_self (by rw [wipe_length]; exact l), if_pos ⟨List.mem_cons_self, l⟩]
      · rw [List.getElem?_eq_none (by rw [List.length_set, wipe_length]; omega), if_neg (fun z => l z.2), List.getElem?_eq_none (by omega)]
    · rw [List.getElem?_set_ne c, wipe_at vs i]
      have : i ∈ v :: vs ↔ i ∈ vs := by simp [Ne.symm c]
      simp only [this]
theorem wipe_set {v : Nat} {vs : List Nat} {x : Option V} (h : v ∈ vs) : wipe (σ.set v x) vs = wipe σ vs := by
  apply List.ext_getElem?
  intro i
  rw [wipe_at, wipe_at, List.length_set]
  by_cases c : i ∈ vs ∧ i < σ.length
  · rw [if_pos c, if_pos c]
  · rw [if_neg c, if_neg c]
    by_cases e : v = i
    · subst e
      have l := Nat.le_of_not_lt fun z => c ⟨h, z⟩
      rw [List.getElem?_eq_none (by simp; omega), List.getElem?_eq_none (by omega)]
    · rw [List.getElem?_set_ne e]
theorem wipe_wipe {vs : List Nat} : wipe (wipe σ vs) vs = wipe σ vs := by
  apply List.ext_getElem?
  intro i
  rw [wipe_at, wipe_at, wipe_length]
  split <;> rfl
theorem backD_len {δ0 : Ds} : ∀ (vs : List Nat), (backD δ0 vs δ).length = δ.length
  | [] => rfl
  | v :: vs => by
    unfold backD
    split
    · simp [backD_len vs]
    · exact backD_len vs
theorem backD_at {δ0 : Ds} (hl : δ0.length = δ.length) : ∀ (vs : List Nat) (i : Nat), (backD δ0 vs δ)[i]? = if i ∈ vs then δ0[i]? else δ[i]?
  | [], i => by simp [backD]
  | v :: vs, i => by
    have ih := backD_at hl vs i
    unfold backD
    by_cases c : v = i
    · subst c
      rw [if_pos List.mem_cons_self]
      cases e : δ0[v]? with
      | some s =>
        have l := (List.getElem?_eq_some_iff.mp e).1
        simp only []
        rw [List.getElem?_set_self (by rw [backD_len]; omega)]
      | none =>
        simp only []
        rw [ih]
        have l := List.getElem?_eq_none_iff.mp e
        split
        · exact e
        · exact List.getElem?_eq_none (by omega)
    · have m : i ∈ v :: vs ↔ i ∈ vs := by simp [Ne.symm c]
      simp only [m]
      split
      · rw [List.getElem?_set_ne c]
        exact ih
      · exact ih
/-- the slots of own names are forgotten -/
theorem Sim.wipe {vs : List Nat} (s : Sim Γ g ms δ σ H) (h : ∀ v ∈ vs, ∀ q, ms[v]? ≠ some (some q)) (hx : ∀ f, fx = some f → f.i ∉ vs) : Sim Γ g ms (wipeD δ vs) (L2.wipe σ vs) H := by
  refine ⟨?_, s.dis, s.par, s.loc, s.prg, s.rsl, s.a0, s.w0, s.le, s.tab, fun f e => ?_⟩
  rotate_left
  · obtain ⟨h1, h2, h3⟩ := s.fix f e
    exact ⟨by rw [wipe_at, if_neg fun z => hx f e z.1]; exact h1, by rw [wipeD_at, if_neg fun z => hx f e z.1]; exact h2, h3⟩
  have ln := s.sl.len
  refine slots_of (by rw [wipeD_len]; omega) (by rw [wipeD_len, wipe_length]; omega) fun i r t x e1 e2 e3 => ?_
  rw [wipeD_at] at e2
  rw [wipe_at] at e3
  by_cases c : i ∈ vs ∧ i < δ.length
  · rw [if_pos c] at e2
    cases e2
    cases r with
    | none => exact .no
    | some q => exact absurd e1 (h i c.1 q)
  · rw [if_neg c] at e2
    rw [if_neg (by rw [ln.2]; exact c)] at e3
    obtain ⟨r', x', q1, q2, q3⟩ := s.sl.get e2
    rw [e1] at q1
    cases q1
    rw [e3] at q2
    cases q2
    exact q3
theorem notM_reg {v : Nat} (s : Sim Γ g ms δ σ H) (h : notM δ v = true) : ∀ q, ms[v]? ≠ some (some q) := by
  intro q e
  obtain ⟨o, e1, _, _⟩ := s.sl.getM (a := q.1) (dx := q.2) e
  unfold notM at h
  rw [e1] at h
  cases h
/-- the ghost of a part in which p may not be met: every slot is a parameter -/
def inner {fx : FX} (g : Gh fx) (ms : List Rg) (H : Hp) (p : Addr) : Gh fx := ⟨fun b => Wt g ms b ∨ b = p, fun b => regs ms b ∨ b = p, H, ms⟩
theorem Sim.inner (s : Sim Γ g ms δ σ H) {p : Addr} {H' : Hp} (hp : H p = none) (sm : Same H H') (hp' : H' p ≠ none) : Sim Γ (DL.inner g ms H' p) ms δ σ H' := by
  have w : ∀ b, Wt (DL.inner g ms H' p) ms b → Wt g ms b ∨ b = p := fun b z => by
    rcases z with z | z
    · exact z
    · exact .inl (.inr z)
  refine ⟨?_, s.dis, fun i r e => e, fun i a dx h1 h2 => ?_, fun i a dx h1 h2 => ⟨.inl ⟨a, dx, List.mem_of_getElem? h2, .inl rfl⟩, .inl ⟨a, dx, List.mem_of_getElem? h2, .inr rfl⟩⟩, Nat.le_refl _, fun b z => z.imp .inr id, fun b z => ?_, Le.refl, s.tab.ext sm, fun f e => ?_⟩
  · refine s.sl.mv (A := fun _ => False) ⟨Le.same sm, fun _ z => z.elim, fun b z => ?_⟩ fun _ _ z => z
    rcases w b z with y | y
    · exact .inl y
    · exact .inr (by rw [y]; exact hp)
  · have := (List.getElem?_eq_some_iff.mp h2).1
    have h1' : ms.length ≤ i := h1
    omega
  · rcases z with z | z
    · exact same_al sm b (s.alW z)
    · rw [z]; exact hp'
  · obtain ⟨h1, h2, h3⟩ := s.fix f e
    refine ⟨h1, h2, h3.trans (Mv.fut (A := fun _ => False) ⟨Le.same sm, fun _ z => z.elim, fun b z => ?_⟩)⟩
    rcases w b z with y | y
    · exact .inl y
    · exact .inr (by rw [y]; exact hp)
theorem Sim.setC {v : V} {d : D} {i : Nat} (s : Sim Γ g ms δ σ H) (h : ∀ q, ms[i]? ≠ some (some q)) (hx : ∀ f, fx = some f → f.i ≠ i) (r : Rep Γ H (Wt g ms) v d) : Sim Γ g ms (δ.set i (some (.v d))) (σ.set i (some v)) H := by
  refine ⟨?_, s.dis, s.par, s.loc, s.prg, s.rsl, s.a0, s.w0, s.le, s.tab, fun f e => ?_⟩
  rotate_left
  · obtain ⟨h1, h2, h3⟩ := s.fix f e
    exact ⟨by rw [List.getElem?_set_ne (Ne.symm (hx f e))]; exact h1, by rw [List.getElem?_set_ne (Ne.symm (hx f e))]; exact h2, h3⟩
  have z := s.sl.set (SlotR.v r) i
  have e : ms.set i none = ms := by
    apply List.ext_getElem?
    intro k
    by_cases c : i = k
    · subst c
      cases q : ms[i]? with
      | none => rw [List.getElem?_eq_none (by simpa using List.getElem?_eq_none_iff.mp q)]
      | some r =>
        rw [List.getElem?_set_self (List.getElem?_eq_some_iff.mp q).1]
        cases r with
        | none => rfl
        | some y => exact absurd q (h y)
    · rw [List.getElem?_set_ne c]
  rw [e] at z
  exact z
end
/-! the targets of a comprehension, as they are read -/
def gNames : List Nat → TGs
  | [] => gNil
  | i :: is => gCons (gName i) (gNames is)
def ctG (K : PySem.W.Frag) : CT → TG
  | .one i => gName i
  | .tup is => gTup K is.length (gNames is)
section
variable {Γ : GG} {fx : FX} {g : Gh fx} {ms : List Rg} {δ δ' : Ds} {σ : L2.St} {H : Hp} {x : V} {d : D} {t : CT} {Q : L2.St → Hp → Prop}
theorem gNames_go {vs0 : List Nat} : ∀ {is : List Nat} {xs : List V} {ds : List D} {δ : Ds} {σ : L2.St}, Sim Γ g ms δ σ H → (∀ v ∈ vs0, ∀ q, ms[v]? ≠ some (some q)) → (∀ f, fx = some f → f.i ∉ vs0) → (∀ i ∈ is, i ∈ vs0) → Reps Γ H (Wt g ms) xs ds → setNs is ds δ = some δ' →
    (∀ σ', Sim Γ g ms δ' σ' H → wipe σ' vs0 = wipe σ vs0 → Q σ' H) → gNames is xs σ H Q ∧ xs.length = is.length
  | [], _, _, _, _, s, _, _, _, .nil, e, k => by
    cases e
    exact ⟨⟨rfl, k _ s rfl⟩, rfl⟩
  | [], _, _, _, _, s, _, _, _, .cons _ _, e, k => by cases e
  | i :: is, _, _, _, _, s, h, hx, m, .nil, e, k => by cases e
  | i :: is, _, _, δ, σ, s, h, hx, m, .cons r rr, e, k => by
    have hi := m i List.mem_cons_self
    obtain ⟨h1, h2⟩ := gNames_go (is := is) (s.setC (h i hi) (fun f e z => hx f e (by rw [z]; exact hi)) r) h hx (fun j hj => m j (List.mem_cons_of_mem _ hj)) rr e fun σ' s' e' => k σ' s' (e'.trans (wipe_set hi))
    exact ⟨⟨_, _, rfl, h1⟩, by simp [h2]⟩
theorem ct_go (s : Sim Γ g ms δ σ H) (h : ∀ v ∈ ctVs t, ∀ q, ms[v]? ≠ some (some q)) (hx : ∀ f, fx = some f → f.i ∉ ctVs t) (r : Rep Γ H (Wt g ms) x d) (e : ctD t d δ = some δ') (k : ∀ σ', Sim Γ g ms δ' σ' H → wipe σ' (ctVs t) = wipe σ (ctVs t) → Q σ' H) : ctG Γ.K t x σ H Q := by
  match t, d, e, r with
  | .one i, d, e, r =>
    cases e
    exact k _ (s.setC (h i (by simp [ctVs])) (fun f e z => hx f e (by simp [ctVs, z])) r) (wipe_set (by simp [ctVs]))
  | .tup is, .tup ds, e, r =>
    cases r with
    | tup h1 h2 =>
      obtain ⟨q1, q2⟩ := gNames_go (vs0 := is) (is := is) s h hx (fun _ z => z) h2 e k
      exact ⟨_, _, rfl, h1.sq, q2, q1⟩
end
section
variable {X : Cx} {Wx : WT} {elt tg iter : Expr} {ifs : List Expr} {scope : Scope} {own : List (Str × Nat)} {pos : Pos} {I : ME (List D)} {t : CT} {Ft : ME Bool} {Fe : ME D}
/-- what the reading of a comprehension asks -/
theorem lc_lift {σ : L2.St} {H : Hp} {Q : VK} (z : liftE (gg X Wx.T) Wx (eLc I t Ft Fe) σ H Q) :
    tLc (liftI (gg X Wx.T) Wx I) (ctG X.K t) (liftT (gg X Wx.T) ⟨fun _ _ _ _ => False, Wx.T, Wx.fx⟩ Ft) (liftE (gg X Wx.T) ⟨fun _ _ _ _ => False, Wx.T, Wx.fx⟩ Fe) (ctVs t) σ H Q := by
  obtain ⟨g, ms, δ, s, p⟩ := z
  refine ⟨g, ms, δ, s, post_bnd p fun ds δ1 H1 s1 l1 p1 J w => ?_⟩
  unfold lcD at p1
  split at p1
  rotate_left
  · exact p1.elim
  rename_i cm
  have nm : ∀ v ∈ ctVs t, ∀ q, ms[v]? ≠ some (some q) := fun v hv => notM_reg s1 (List.all_eq_true.mp cm v hv)
  have nx : ∀ f, Wx.fx = some f → f.i ∉ ctVs t := fun f e z => by
    have y := List.all_eq_true.mp cm _ z
    unfold notM at y
    rw [(s1.fix f e).2.1] at y
    cases y
  cases q : lcL t Ft Fe ds [] (wipeD δ1 (ctVs t)) with
  | ex _ _ => rw [q] at p1; exact p1.elim
  | bad => rw [q] at p1; exact p1.elim
  | ok acc0 δ9 =>
  rw [q] at p1
  intro P hP
  have sP : Same H1 (upd H1 P (.lst [])) := same_new hP
  have aP : upd H1 P (.lst []) P ≠ none := by rw [upd_same]; exact fun z => nomatch z
  have wS := s1.wipe nm nx
  let g' := inner g ms (upd H1 P (.lst [])) P
  have nPr : ¬ regs ms P := fun z => s1.alR z hP
  have wsub : ∀ b, Wt g ms b → Wt g' ms b := fun b z => .inl (.inl z)
  have wP : Wt g' ms P := .inl (.inr rfl)
  -- what holds ahead of each turn
  refine ⟨fun i m H' => m = ds.length - i ∧ i ≤ ds.length ∧ ∃ δ' acc xs, Sim (gg X Wx.T) g' ms δ' (wipe σ (ctVs t)) H' ∧ Le (regs ms) H1 H' ∧ H' P = some (.lst xs) ∧ Reps (gg X Wx.T) H' (Wt g' ms) xs acc ∧ lcL t Ft Fe (ds.drop i) acc δ' = .ok acc0 δ9,
    ⟨ds.length, by simp, Nat.zero_le _, _, [], [], wS.inner hP sP aP, Le.same sP, upd_same, .nil, by simpa using q⟩, ?_⟩
  rintro i m H' ⟨rfl, hi, δ', acc, xs, s', l', hl, ra, e'⟩
  have l1' : Ev ms H1 ms H' := Ev.of l'
  have mvP : Mv (regs ms) (Wt g ms) (Wt g' ms) H1 H' := ⟨l', fun b z => .inr z, fun b z => by
    rcases z with (z | z) | z
    · exact .inl z
    · exact .inr (by rw [z]; exact hP)
    · exact .inl (.inr z)⟩
  obtain ⟨w1, w2⟩ := w _ _ H' mvP i
  by_cases hlt : i < ds.length
  · obtain ⟨g1, g2⟩ := w1 _ (List.getElem?_eq_getElem hlt)
    refine .inr ⟨g1, fun H2 => ∃ δ' acc xs, Sim (gg X Wx.T) g' ms δ' (wipe σ (ctVs t)) H2 ∧ Le (regs ms) H1 H2 ∧ H2 P = some (.lst xs) ∧ Reps (gg X Wx.T) H2 (Wt g' ms) xs acc ∧ lcL t Ft Fe (ds.drop (i + 1)) acc δ' = .ok acc0 δ9, fun H2 z => ⟨ds.length - (i + 1), by omega, rfl, by omega, z⟩, fun x H3 y => ?_⟩
    obtain ⟨sm, rx⟩ := g2 x H3 y
    have s3 := s'.grow sm
    rw [List.drop_eq_getElem_cons hlt] at e'
    unfold lcL at e'
    split at e'
    · cases e'
    rename_i δ4 q4
    refine ct_go s3 nm nx rx q4 fun σ2 s4 ew => ?_
    rw [wipe_wipe] at ew
    refine ⟨ew, g', ms, δ4, s4, ?_⟩
    split at e'
    · -- taken
      rename_i δ5 q5
      rw [q5]
      intro H5 s5 l5
      refine iteT ⟨g', ms, δ5, s5, ?_⟩
      split at e'
      · rename_i yv δ6 q6
        rw [q6]
        intro H6 s6 l6 v rv
        split at e'
        · rename_i cz
          have l36 : Le (regs ms) H' H6 := (Le.same sm).trans (l5.trans l6)
          have hl6 : H6 P = some (.lst xs) := l36.keep P _ nPr nt_lst hl
          have ra6 : Reps (gg X Wx.T) H6 (Wt g' ms) xs acc := ra.mv (Mv.le' l36 fun b z => .inr z)
          have hz : xs.length < sizeLine := by
            rw [ra6.len]
            have := sz_line cz
            omega
          have s7 : Sim (gg X Wx.T) g' ms (wipeD δ6 (ctVs t)) (wipe σ (ctVs t)) H6 := by
            rw [← ew]
            exact s6.wipe nm nx
          have kp : ∀ b o, b ≠ P → H6 b = some o → upd H6 P (.lst (xs ++ [v])) b = some o := fun b o n h => by rw [upd_ne n]; exact h
          have al : ∀ b, H6 b ≠ none → upd H6 P (.lst (xs ++ [v])) b ≠ none := fun b h => by
            by_cases c : b = P
            · rw [c, upd_same]; exact fun z => nomatch z
            · rw [upd_ne c]; exact h
          have tbP : ∀ T : TTb, TabC T H6 → TabC T (upd H6 P (.lst (xs ++ [v]))) := fun T => tabs_two hl6 pl_lst hl6 pl_lst fun b o n _ h => kp b o n h
          have mv8 : Mv (fun b => b = P) (Wt g' ms) (Wt g' ms) H6 (upd H6 P (.lst (xs ++ [v]))) := ⟨⟨fun b o n _ h => kp b o n h, al, tbP⟩, fun b z => by rw [z]; exact wP, fun b z => .inl z⟩
          refine ⟨xs, hl6, hz, wipeD δ6 (ctVs t), acc ++ [yv], xs ++ [v], ?_, ?_, upd_same, (ra6.app (.one rv)).mv mv8, e'⟩
          · refine ⟨s7.sl.mv mv8 (fun b z y => nPr (by rw [← y]; exact z)), s7.dis, s7.par, s7.loc, s7.prg, s7.rsl, s7.a0, s7.w0, ⟨fun b o n t h => ?_, fun b h => al b (s7.le.al b h), fun T t => tbP T (s7.le.tb T t)⟩, tbP _ s7.tab, fun f e => let ⟨h1, h2, h3⟩ := s7.fix f e; ⟨h1, h2, h3.trans mv8.fut⟩⟩
            exact kp b o (fun z => n (.inr z)) (s7.le.keep b o n t h)
          · have l16 : Le (regs ms) H1 H6 := l'.trans l36
            exact ⟨fun b o n t h => kp b o (ne_of_none h hP) (l16.keep b o n t h), fun b h => al b (l16.al b h), fun T t => tbP T (l16.tb T t)⟩
        · cases e'
      · cases e'
    · -- left out
      rename_i δ5 q5
      rw [q5]
      intro H5 s5 l5
      have l35 : Le (regs ms) H' H5 := (Le.same sm).trans l5
      refine iteF ⟨wipeD δ5 (ctVs t), acc, xs, ?_, l'.trans l35, l35.keep P _ nPr nt_lst hl, ra.mv (Mv.le' l35 fun b z => .inr z), e'⟩
      rw [← ew]
      exact s5.wipe nm nx
    · cases e'
  · have ei : i = ds.length := by omega
    subst ei
    rw [List.drop_length] at e'
    unfold lcL at e'
    cases e'
    refine .inl ⟨w2 (Nat.le_refl _), ?_⟩
    have kpB : Kp Wx.fx δ1 (backD δ1 (ctVs t) δ9) := fun f e _ => by
      have ln1 := s1.sl.len
      have ln' := s'.sl.len
      rw [wipe_length] at ln'
      rw [backD_at (by omega), if_neg (nx f e)]
      exact (s'.fix f e).2.1
    refine p1 H' (s1.step ?_ l' kpB) l' _ (.lst ⟨hl, s1.fresh hP⟩ (ra.mv (Mv.wk wsub)))
    have ln1 := s1.sl.len
    have ln' := s'.sl.len
    rw [wipe_length] at ln'
    have dl : δ1.length = δ9.length := by omega
    refine slots_of (by rw [backD_len]; omega) (by rw [backD_len]; omega) fun j r tt x e1 e2 e3 => ?_
    rw [backD_at dl] at e2
    by_cases c : j ∈ ctVs t
    · rw [if_pos c] at e2
      obtain ⟨r', x', q1, q2, q3⟩ := s1.sl.get e2
      rw [e1] at q1
      cases q1
      rw [e3] at q2
      cases q2
      cases q3 with
      | no => exact .no
      | v h => exact .v (h.up l')
      | m h => exact absurd e1 (nm j c _)
    · rw [if_neg c] at e2
      obtain ⟨r', x', q1, q2, q3⟩ := s'.sl.get e2
      rw [e1] at q1
      cases q1
      rw [wipe_at, if_neg (fun z => c z.1), e3] at q2
      cases q2
      cases q3 with
      | no => exact .no
      | v h => exact .v (h.mv (Mv.wk wsub))
      | m h => exact .m (h.mv (Mv.wk wsub) (fun z => z) fun z => z)
theorem pts_of {X : Cx} {e : List Expr} {t t' : TT} (h : PTs X e t) (w : ∀ σ H Q, t' σ H Q → t σ H Q) : PTs X e t' := ⟨fun p s σ H Q I z => h.run p s σ H Q I (w σ H Q z)⟩
theorem de_lc (hc : X.calm = true) (hN : X.N.Nodup) (hi : DI X Wx tg iter I) (ok : BlkOk X.N X.env.scope scope own)
    (hg : ∀ (s : Shared) (H : Hp) (C : Addr) (cl : List (Str × Addr)) (fp : List Addr), PG (X.blk s H scope (compEnvC scope cl C X.env) fp) tg (ctG X.K t))
    (ht : ∀ (s : Shared) (H : Hp) (C : Addr) (cl : List (Str × Addr)) (fp : List Addr), PTs (X.blk s H scope (compEnvC scope cl C X.env) fp) ifs (liftT (gg X Wx.T) ⟨fun _ _ _ _ => False, Wx.T, Wx.fx⟩ Ft))
    (he : ∀ (s : Shared) (H : Hp) (C : Addr) (cl : List (Str × Addr)) (fp : List Addr), PE (X.blk s H scope (compEnvC scope cl C X.env) fp) elt (liftE (gg X Wx.T) ⟨fun _ _ _ _ => False, Wx.T, Wx.fx⟩ Fe)) (ev : own.map (·.2) = ctVs t := by rfl) (hs : ∀ x, foldedSetIterable iter X.env x = pure x := by intro _; rfl) :
    DE X Wx (.ListComp elt [⟨tg, iter, ifs, 0⟩] scope pos) (eLc I t Ft Fe) := by
  refine pe_of (pe_lc hc hN hi ok hg ht he hs) fun σ H Q z => ?_
  rw [ev]
  exact lc_lift z
theorem ds_setLc {n i : Nat} {y : Str} {py spos : Pos} (hc : X.calm = true) (hN : X.N.Nodup) (hy : X.N[i]? = some y) (hyl : X.env.scope.names.lookup y = some .local)
    (hsw : swapsWith (.ListComp elt [⟨tg, iter, ifs, 0⟩] scope pos) (some (.Name y py)) spos.line X.env = pure true) (hi : DI X Wx tg iter I) (ok : BlkOk X.N X.env.scope scope own)
    (hg : ∀ (s : Shared) (H : Hp) (C : Addr) (cl : List (Str × Addr)) (fp : List Addr), PG (X.blk s H scope (compEnvC scope cl C X.env) fp) tg (ctG X.K t))
    (ht : ∀ (s : Shared) (H : Hp) (C : Addr) (cl : List (Str × Addr)) (fp : List Addr), PTs (X.blk s H scope (compEnvC scope cl C X.env) fp) ifs (liftT (gg X Wx.T) ⟨fun _ _ _ _ => False, Wx.T, Wx.fx⟩ Ft))
    (he : ∀ (s : Shared) (H : Hp) (C : Addr) (cl : List (Str × Addr)) (fp : List Addr), PE (X.blk s H scope (compEnvC scope cl C X.env) fp) elt (liftE (gg X Wx.T) ⟨fun _ _ _ _ => False, Wx.T, Wx.fx⟩ Fe)) (ev : own.map (·.2) = ctVs t := by rfl) (hs : ∀ x, foldedSetIterable iter X.env x = pure x := by intro _; rfl) :
    DSt X n Wx (.Assign [.Name y py] (.ListComp elt [⟨tg, iter, ifs, 0⟩] scope pos) spos) (sSet n i (eLc I t Ft Fe)) := by
  refine ps_of (ps_setLc hc hN hy hyl hsw hi ok hg ht he hs) fun D σ H ⟨g, ms, δ, e, s, p⟩ => ?_
  show tLc _ _ _ _ _ σ H _
  rw [ev]
  refine lc_lift (liftE_s s p fun d δ1 H1 v s1 l1 r1 p1 => ?_)
  unfold setV at p1
  split at p1
  · rename_i c
    rw [← e] at c
    exact p1 _ _ H1 (s1.setV c r1) Ev.setN
  · exact p1.elim
theorem dts_nil : PTs X [] (liftT (gg X Wx.T) Wx tYesD) := pts_of pts_nil fun σ H Q ⟨g, ms, δ, s, p⟩ => post_rtn s p
theorem dts_one {a : Expr} (h : DT X Wx a Ft) : PTs X [a] (liftT (gg X Wx.T) Wx Ft) := pts_one h
end
end DL

set_option Elab.async false
set_option linter.all false
set_option maxRecDepth 100000
set_option maxHeartbeats 4000000
set_option autoImplicit false
/-! new things that change; freezing -/
namespace DL
open L2 PyProof.Rows PySem.Spec PySem G58 SlX
variable [TbL]
section
variable (Γ : GG) (Wx : WT)
def NPost {fx : FX} (g : Gh fx) (ms : List Rg) (σ : L2.St) (H : Hp) (Q : VK) : Out MO → Prop
  | .ok o δ' => ∀ p dx H', H p = none → H dx = none → Sim Γ g (ms ++ [some (p, dx)]) (δ' ++ [some (.m o)]) (σ ++ [some (.ref p)]) H' → ms.length = δ'.length → Le (regs ms) H H' → Q (.ref p) H'
  | .ex x δ' => ∀ cls dd H', Sim Γ g ms δ' σ H' → Le (regs ms) H H' → XRep Γ H' (Wt g ms) x cls dd → Wx.wx cls dd σ H'
  | .bad => False
def liftN (F : ME MO) : TE := fun σ H Q => ∃ (g : Gh Wx.fx) (ms : List Rg) (δ : Ds), Sim Γ g ms δ σ H ∧ NPost Γ Wx g ms σ H Q (F δ)
end
section
variable {Γ : GG} {fx : FX} {g : Gh fx} {ms : List Rg} {δ δ' : Ds} {σ : L2.St} {H H' : Hp} {p dx : Addr} {o : MO}
theorem wt_with {b : Addr} : Wt g (ms ++ [some (p, dx)]) b ↔ with2 (Wt g ms) p dx b := by
  constructor
  · rintro (z | z)
    · exact .inl (.inl z)
    · rcases regs_app.mp z with y | ⟨a, d, hm, e⟩
      · exact .inl (.inr y)
      · cases List.mem_singleton.mp hm
        exact .inr e
  · rintro ((z | z) | z)
    · exact .inl z
    · exact .inr (regs_app.mpr (.inl z))
    · exact .inr (regs_app.mpr (.inr ⟨p, dx, by simp, z⟩))
theorem Sim.extN (s : Sim Γ g ms δ σ H) (hp : H p = none) (hd : H dx = none) (sl : SlotsR Γ H' (with2 (Wt g ms) p dx) ms δ' σ) (m : MAt Γ H' (with2 (Wt g ms) p dx) p dx o) (l : Le (regs ms) H H') (kp : Kp fx δ δ') :
    Sim Γ g (ms ++ [some (p, dx)]) (δ' ++ [some (.m o)]) (σ ++ [some (.ref p)]) H' := by
  have s' : Sim Γ g ms δ' σ H' := s.step (sl.mv (Mv.wk fun b z => .inl z) fun _ _ z => z) l kp
  have h0 : ∀ b, H b = none → g.H0 b = none := fun b h => by
    cases e : g.H0 b with
    | none => rfl
    | some u => exact absurd h (s.le.al b (by rw [e]; exact fun z => nomatch z))
  have at_ : ∀ (j : Nat) (q : Addr × Addr), (ms ++ [some (p, dx)])[j]? = some (some q) → (j < ms.length ∧ ms[j]? = some (some q)) ∨ (j = ms.length ∧ q = (p, dx)) := fun j q e => by
    by_cases c : j < ms.length
    · rw [List.getElem?_append_left c] at e
      exact .inl ⟨c, e⟩
    · rw [List.getElem?_append_right (Nat.le_of_not_lt c)] at e
      have : j - ms.length = 0 := by
        have := (List.getElem?_eq_some_iff.mp e).1
        simp at this
        omega
      rw [this] at e
      simp at e
      exact .inr ⟨by omega, e.symm⟩
  have far : ∀ (j : Nat) (a d : Addr), ms[j]? = some (some (a, d)) → (a ≠ p ∧ a ≠ dx) ∧ d ≠ p ∧ d ≠ dx := fun j a d e => by
    have ha : H a ≠ none := s.alR ⟨a, d, List.mem_of_getElem? e, .inl rfl⟩
    have hb : H d ≠ none := s.alR ⟨a, d, List.mem_of_getElem? e, .inr rfl⟩
    exact ⟨⟨fun z => ha (by rw [z]; exact hp), fun z => ha (by rw [z]; exact hd)⟩, fun z => hb (by rw [z]; exact hp), fun z => hb (by rw [z]; exact hd)⟩
  refine ⟨?_, fun i j a d b e h1 h2 ne => ?_, fun i r e => ?_, fun i a d h1 h2 => ?_, fun i a d h1 h2 => ?_, by have := s.rsl; simp; omega, s.a0, s.w0, s'.le, s'.tab, fun f e => ?_⟩
  rotate_right
  · obtain ⟨_, _, h3⟩ := s.fix f e
    obtain ⟨h1, h2, _⟩ := s'.fix f e
    refine ⟨by rw [List.getElem?_append_left (List.getElem?_eq_some_iff.mp h1).1]; exact h1, by rw [List.getElem?_append_left (List.getElem?_eq_some_iff.mp h2).1]; exact h2, h3.trans (Mv.fut (A := regs ms) ⟨l, fun b z => .inr z, fun b z => ?_⟩)⟩
    rcases wt_with.mp z with z | z
    · exact .inl z
    · exact .inr (by rcases z with z | z <;> rw [z] <;> assumption)
  · have mv : Mv (fun _ => False) (with2 (Wt g ms) p dx) (Wt g (ms ++ [some (p, dx)])) H' H' := Mv.wk fun b z => wt_with.mp z
    exact (sl.mv mv fun _ _ z => z).app (.cons (.m (m.mv mv (fun z => z) fun z => z)) .nil)
  · rcases at_ _ _ h1 with ⟨_, h1⟩ | ⟨e1, h1⟩ <;> rcases at_ _ _ h2 with ⟨_, h2⟩ | ⟨e2, h2⟩
    · exact s.dis i j a d b e h1 h2 ne
    · cases h2
      have f := far i a d h1
      exact ⟨f.1.1, f.1.2, f.2.1, f.2.2⟩
    · cases h1
      have f := far j b e h2
      exact ⟨Ne.symm f.1.1, Ne.symm f.2.1, Ne.symm f.1.2, Ne.symm f.2.2⟩
    · omega
  · have z := s.par i r e
    rw [List.getElem?_append_left (List.getElem?_eq_some_iff.mp z).1]
    exact z
  · rcases at_ _ _ h2 with ⟨_, h2⟩ | ⟨_, h2⟩
    · exact s.loc i a d h1 h2
    · cases h2
      exact ⟨h0 _ hp, h0 _ hd⟩
  · rcases at_ _ _ h2 with ⟨_, h2⟩ | ⟨e2, h2⟩
    · exact s.prg i a d h1 h2
    · have := s.rsl
      omega
theorem Sim.kpN (s : Sim Γ g (ms ++ [some (p, dx)]) (δ ++ [some (.m o)]) (σ ++ [some (.ref p)]) H) {f : Fx} (e : fx = some f) : δ[f.i]? = some (some (.v .opq)) := by
  obtain ⟨_, h2, _⟩ := s.fix f e
  by_cases c : f.i < δ.length
  · rw [List.getElem?_append_left c] at h2
    exact h2
  · rw [List.getElem?_append_right (Nat.le_of_not_lt c)] at h2
    have l := (List.getElem?_eq_some_iff.mp h2).1
    simp at l
    have z : f.i - δ.length = 0 := by omega
    rw [z] at h2
    simp at h2
/-- a new thing gets a name -/
theorem Sim.store {i : Nat} (s : Sim Γ g (ms ++ [some (p, dx)]) (δ ++ [some (.m o)]) (σ ++ [some (.ref p)]) H) (hl : ms.length = δ.length) (h1 : g.rs.length ≤ i) (h2 : i < δ.length) (hx : ∀ f, fx = some f → f.i ≠ i) :
    Sim Γ g (ms.set i (some (p, dx))) (δ.set i (some (.m o))) (σ.set i (some (.ref p))) H := by
  have ln := s.sl.len
  simp only [List.length_append, List.length_singleton] at ln
  have at_ : ∀ (j : Nat) (q : Addr × Addr), (ms.set i (some (p, dx)))[j]? = some (some q) → ∃ k, (ms ++ [some (p, dx)])[k]? = some (some q) ∧ ((j ≠ i ∧ k = j) ∨ (j = i ∧ k = ms.length)) := fun j q e => by
    by_cases c : i = j
    · subst c
      rw [List.getElem?_set_self (by omega)] at e
      cases e
      exact ⟨ms.length, by simp, .inr ⟨rfl, rfl⟩⟩
    · rw [List.getElem?_set_ne c] at e
      exact ⟨j, by rw [List.getElem?_append_left (List.getElem?_eq_some_iff.mp e).1]; exact e, .inl ⟨fun z => c z.symm, rfl⟩⟩
  have rsub : ∀ b, regs (ms.set i (some (p, dx))) b → regs (ms ++ [some (p, dx)]) b := by
    rintro b ⟨a, d, hm, e⟩
    obtain ⟨j, hj⟩ := List.mem_iff_getElem?.mp hm
    obtain ⟨k, hk, _⟩ := at_ _ _ hj
    exact ⟨a, d, List.mem_of_getElem? hk, e⟩
  have mv : Mv (fun _ => False) (Wt g (ms ++ [some (p, dx)])) (Wt g (ms.set i (some (p, dx)))) H H := Mv.wk fun b z => z.imp id (rsub b)
  refine ⟨?_, fun j k a d b e q1 q2 ne => ?_, fun j r e => ?_, fun j a d q1 q2 => ?_, fun j a d q1 q2 => ?_, by have := s.rsl; simp; omega, s.a0, s.w0, s.le, s.tab, fun f e => ?_⟩
  rotate_right
  · obtain ⟨w1, w2, w3⟩ := s.fix f e
    have q2 := s.kpN e
    have fl := (List.getElem?_eq_some_iff.mp q2).1
    rw [List.getElem?_append_left (by omega)] at w1
    exact ⟨by rw [List.getElem?_set_ne (Ne.symm (hx f e))]; exact w1, by rw [List.getElem?_set_ne (Ne.symm (hx f e))]; exact q2, w3.trans mv.fut⟩
  · have z := s.sl.mv mv fun _ _ z => z
    refine slots_of (by simpa using hl) (by simp; omega) fun j r t x e1 e2 e3 => ?_
    by_cases c : i = j
    · subst c
      rw [List.getElem?_set_self (by omega)] at e1 e2 e3
      cases e1
      cases e2
      cases e3
      obtain ⟨o', y1, y2, y3⟩ := z.getM (i := ms.length) (a := p) (dx := dx) (by simp)
      rw [hl] at y1
      simp at y1
      subst y1
      exact .m y3
    · rw [List.getElem?_set_ne c] at e1 e2 e3
      have jl := (List.getElem?_eq_some_iff.mp e2).1
      obtain ⟨r', x', w1, w2, w3⟩ := z.get (i := j) (s := t) (by rw [List.getElem?_append_left jl]; exact e2)
      rw [List.getElem?_append_left (by omega), e1] at w1
      cases w1
      rw [List.getElem?_append_left (by omega), e3] at w2
      cases w2
      exact w3
  · obtain ⟨j', h1', w1⟩ := at_ _ _ q1
    obtain ⟨k', h2', w2⟩ := at_ _ _ q2
    refine s.dis j' k' a d b e h1' h2' ?_
    have jl := (List.getElem?_eq_some_iff.mp q1).1
    have kl := (List.getElem?_eq_some_iff.mp q2).1
    simp at jl kl
    omega
  · have z := s.par j r e
    have jl := (List.getElem?_eq_some_iff.mp e).1
    have ne : i ≠ j := by omega
    rw [List.getElem?_set_ne ne]
    rw [List.getElem?_append_left (by omega)] at z
    exact z
  · obtain ⟨k', h2', w2⟩ := at_ _ _ q2
    refine s.loc k' a d ?_ h2'
    omega
  · obtain ⟨k', h2', w2⟩ := at_ _ _ q2
    refine s.prg k' a d ?_ h2'
    omega
/-- a list of a slot that will not change any more -/
theorem Sim.frz {i : Nat} {ds : List D} (s : Sim Γ g ms δ σ H) (h1 : g.rs.length ≤ i) (hi : δ[i]? = some (some (.m (.lst ds)))) : Sim Γ g (ms.set i none) (δ.set i (some (.v (.lst ds)))) σ H := by
  obtain ⟨a, xs, q1, q2, q3, q4, _⟩ := s.list hi
  have il := (List.getElem?_eq_some_iff.mp q1).1
  have ln := s.sl.len
  have at_ : ∀ (j : Nat) (q : Addr × Addr), (ms.set i none)[j]? = some (some q) → j ≠ i ∧ ms[j]? = some (some q) := fun j q h => by
    by_cases z : i = j
    · subst z
      rw [List.getElem?_set_self il] at h
      cases h
    · rw [List.getElem?_set_ne z] at h
      exact ⟨fun y => z y.symm, h⟩
  have na : ¬ Wt g (ms.set i none) a := by
    rintro (z | ⟨b, d, hm, e⟩)
    · exact s.w0 a z (s.loc i a a h1 q1).1
    · obtain ⟨j, hj⟩ := List.mem_iff_getElem?.mp hm
      obtain ⟨ne, hj⟩ := at_ _ _ hj
      have q := s.dis i j a a b d q1 hj (Ne.symm ne)
      rcases e with e | e
      · exact q.1 e
      · exact q.2.1 e
  have mv : Mv (fun _ => False) (Wt g ms) (Wt g (ms.set i none)) H H := Mv.wk fun b z => z.imp id regs_set_none
  refine ⟨?_, fun j k a dx b dy w1 w2 ne => s.dis j k a dx b dy (at_ _ _ w1).2 (at_ _ _ w2).2 ne, fun j q h => ?_, fun j a dx w1 w2 => s.loc j a dx w1 (at_ _ _ w2).2, fun j a dx w1 w2 => s.prg j a dx w1 (at_ _ _ w2).2, by simpa using s.rsl, s.a0, s.w0, s.le, s.tab, fun f e => ?_⟩
  rotate_right
  · obtain ⟨h1', h2', h3'⟩ := s.fix f e
    exact ⟨h1', by rw [List.getElem?_set_ne fun z => by rw [z, h2'] at hi; cases hi]; exact h2', h3'.trans mv.fut⟩
  · have z := (s.sl.mv mv fun _ _ z => z).set (SlotR.v (.lst ⟨q3, na⟩ (q4.mv mv))) i
    have es : σ.set i (some (.ref a)) = σ := by
      apply List.ext_getElem?
      intro k
      by_cases c : i = k
      · subst c
        rw [List.getElem?_set_self (List.getElem?_eq_some_iff.mp q2).1, q2]
      · rw [List.getElem?_set_ne c]
    rw [es] at z
    exact z
  · have jl := (List.getElem?_eq_some_iff.mp h).1
    rw [List.getElem?_set_ne (show i ≠ j by omega)]
    exact s.par j q h
end
/-! readings -/
def nLst (a : ME (List D)) : ME MO := bnd a fun xs => opt (if szOk xs.length then some (.lst xs) else none)
def callDN (n : Nat) (f : FnD) (xs : List AV) : ME MO := fun δ => match getArgs δ xs with
  | none => .bad
  | some ss => if decide (xs.length = n) && nodupB (refsOf xs) then (match f ss with
    | .ok (.m o) ss' => (match putArgs δ xs ss' with
      | some δ' => .ok o δ'
      | none => .bad)
    | _ => .bad) else .bad
def nCall (n : Nat) (f : FnD) (xs : ME (List AV)) : ME MO := bnd xs fun a => callDN n f a
def sSetM (n i : Nat) (F : ME MO) : MS := sBnd F fun o δ => if decide (n ≤ i) && canSet n δ i then .nx (δ.set i (some (.m o))) else .bad
def sRetM (F : ME MO) : MS := sBnd F fun o δ => .rt (.m o) δ
/-- f(x) of a new thing x that no other name has -/
def call1N (f : FnD) (o : MO) : ME D := fun δ => match f [.m o] with
  | .ok (.v d) _ => .ok d δ
  | _ => .bad
def eCall1N (f : FnD) (F : ME MO) : ME D := bnd F fun o => call1N f o
def frzD (n i : Nat) (δ : Ds) : Option Ds := match δ[i]? with
  | some (some (.m (.lst ds))) => if decide (n ≤ i) then some (δ.set i (some (.v (.lst ds)))) else none
  | _ => none
def sFrz (n i : Nat) (F : MS) : MS := fun δ => match frzD n i δ with
  | some δ' => F δ'
  | none => .bad
section
variable {X : Cx} {n k : Nat} {Wx : WT} {f : FnD} {x : Str} {p pos pos' : Pos} {e : Expr} {es : List Expr} {As' : ME (List D)} {Av : ME (List AV)} {Fn : ME MO} {rest : List Stmt} {F : MS}
abbrev DN (X : Cx) (Wx : WT) (e : Expr) (F : ME MO) : Prop := PE X e (liftN (gg X Wx.T) Wx F)
theorem npost_bnd {α : Type} {Γ : GG} {fx : FX} {g : Gh fx} {ms : List Rg} {σ : L2.St} {H : Hp} {δ : Ds} {Q : VK} {c : ME α} {G : α → ME MO} {R : α → Ds → Hp → Prop} (h : NPost Γ Wx g ms σ H Q (bnd c G δ))
    (j : ∀ a δ' H', Sim Γ g ms δ' σ H' → Le (regs ms) H H' → NPost Γ Wx g ms σ H' Q (G a δ') → R a δ' H') : Post Γ Wx g ms σ H R (c δ) := by
  unfold bnd at h
  cases e : c δ with
  | ok a δ' =>
    rw [e] at h
    refine fun H' s l => j a δ' H' s l ?_
    have back : ∀ b, H' b = none → H b = none := fun b z => by
      cases q : H b with
      | none => rfl
      | some u => exact absurd z (l.al b (by rw [q]; exact fun z => nomatch z))
    cases q : G a δ' with
    | ok o δ2 => simp only [q] at h; exact fun p dx H2 h1 h2 s2 l0 l2 => h p dx H2 (back _ h1) (back _ h2) s2 l0 (l.trans l2)
    | ex x δ2 => simp only [q] at h; exact fun cls dd H2 s2 l2 => h cls dd H2 s2 (l.trans l2)
    | bad => simp only [q] at h; exact h
  | ex x δ' => rw [e] at h; exact h
  | bad => rw [e] at h; exact h
theorem dn_lst (ha : DA X Wx es As') : DN X Wx (.List es pos) (nLst As') := by
  refine pe_of (pe_lst ha) fun σ H Q ⟨g, ms, δ, s, p⟩ => ?_
  refine ⟨g, ms, δ, s, npost_bnd p fun ds δ1 H1 s1 l1 p1 xs r1 => ?_⟩
  split at p1
  · rename_i hz
    refine ⟨by rw [r1.len]; exact sz_line hz, fun q nq => ?_⟩
    have sm : Same H1 (upd H1 q (.lst xs)) := same_new nq
    have mv : Mv (fun _ => False) (Wt g ms) (with2 (Wt g ms) q q) H1 (upd H1 q (.lst xs)) := ⟨Le.same sm, fun _ z => z.elim, fun b z => by
      rcases z with z | z
      · exact .inl z
      · exact .inr (by rcases z with z | z <;> rw [z] <;> exact nq)⟩
    exact p1 q q _ nq nq (s1.extN nq nq (s1.sl.mv mv fun _ _ z => z) ⟨rfl, xs, upd_same, r1.mv mv⟩ (Le.same sm) Kp.rfl) s1.sl.len.1 (Le.same sm)
  · exact p1.elim
theorem callN_lift {Γ : GG} {fx : FX} {g : Gh fx} {ms : List Rg} {σ : L2.St} {H : Hp} {δ : Ds} {Q : VK} {xs : List AV} {vs : List V} (s : Sim Γ g ms δ σ H) (r : RepsV Γ H g ms vs xs) (p : NPost Γ Wx g ms σ H Q (callDN n f xs δ)) : liftSp Γ n f vs H Q E0 := by
  unfold callDN at p
  split at p
  · exact p.elim
  · rename_i ss e
    split at p
    · rename_i c
      rw [Bool.and_eq_true] at c
      have hl : ss.length = n := (getArgs_len e).trans (of_decide_eq_true c.1)
      refine ⟨Wt g ms, argRegs ms xs, ss, hl, args_ok s r e c.2, ?_⟩
      cases q : f ss with
      | bad => rw [q] at p; exact p.elim
      | ex x ss' => rw [q] at p; exact p.elim
      | ok t ss' =>
        rw [q] at p
        cases t with
        | v d => exact p.elim
        | m o =>
          intro pp dx H' hp hd ou ma l
          cases e2 : putArgs δ xs ss' with
          | none => simp only [e2] at p; exact p.elim
          | some δ' =>
            simp only [e2] at p
            have l' : Le (regs ms) H H' := l.mono (argRegs_sub r)
            have sl := slots_after s r c.2 ou l (fun b z => by
              rcases z with z | z
              · exact .inl z
              · exact .inr (by rcases z with z | z <;> rw [z] <;> assumption)) e2
            exact p pp dx H' hp hd (s.extN hp hd sl ma l' (put_kp e e2)) sl.len.1 l'
    · exact p.elim
theorem dn_call0 (D' : Dn X.prog X.w X.K X.mg X.base k x (liftSp (gg X Wx.T) n f)) (hr : Room k X.A) (ha : DV X Wx (e :: es) Av) (hg : Gl X x := by rfl) (hdb : (x == ("__debug__" : Str)) = false := by decide)
    (he : starEach (e :: es) X.env = (false, eval e X.env) :: starEach es X.env := by rfl) (hpl : (backTo pos (starEach es X.env)).any (·.1) = false := by rfl) :
    DN X Wx (.Call (.Name x p) (e :: es) [] pos) (nCall n f Av) := by
  refine pe_of (pe_cl D' hr ha hg hdb he hpl) fun σ H Q ⟨g, ms, δ, s, p⟩ => ?_
  refine ⟨g, ms, δ, s, npost_bnd p fun ds δ1 H1 s1 l1 p1 vs r1 => ?_⟩
  show liftSp (gg X Wx.T) n f (vs ++ []) H1 Q E0
  rw [List.append_nil]
  exact callN_lift s1 r1 p1
theorem dn_callG0 (D' : DnG X.prog X.w X.K X.mg X.base k x (liftSp (gg X Wx.T) n f)) (hgd : X.A.guards = some []) (hr : Room k X.A) (ha : DV X Wx (e :: es) Av) (hg : Gl X x := by rfl) (hdb : (x == ("__debug__" : Str)) = false := by decide)
    (he : starEach (e :: es) X.env = (false, eval e X.env) :: starEach es X.env := by rfl) (hpl : (backTo pos (starEach es X.env)).any (·.1) = false := by rfl) :
    DN X Wx (.Call (.Name x p) (e :: es) [] pos) (nCall n f Av) := by
  refine pe_of (pe_clG D' hgd hr ha hg hdb he hpl) fun σ H Q ⟨g, ms, δ, s, p⟩ => ?_
  refine ⟨g, ms, δ, s, npost_bnd p fun ds δ1 H1 s1 l1 p1 vs r1 => ?_⟩
  show liftSp (gg X Wx.T) n f (vs ++ []) H1 Q E0
  rw [List.append_nil]
  exact callN_lift s1 r1 p1
/-- behind a part that gives a new thing -/
theorem liftN_bnd {β : Type} {Γ : GG} {g : Gh Wx.fx} {ms : List Rg} {σ : L2.St} {H : Hp} {δ : Ds} {Q : β → Ds → Hp → Prop} {c : ME MO} {G : MO → ME β} {R : VK} (s : Sim Γ g ms δ σ H) (h : Post Γ Wx g ms σ H Q (bnd c G δ))
    (j : ∀ o δ' p dx H', H p = none → H dx = none → Sim Γ g (ms ++ [some (p, dx)]) (δ' ++ [some (.m o)]) (σ ++ [some (.ref p)]) H' → ms.length = δ'.length → Le (regs ms) H H' → Post Γ Wx g ms σ H Q (G o δ') → R (.ref p) H') : liftN Γ Wx c σ H R := by
  refine ⟨g, ms, δ, s, ?_⟩
  unfold bnd at h
  cases e : c δ with
  | ok a δ' => rw [e] at h; exact fun p dx H' h1 h2 s' l0 l => j a δ' p dx H' h1 h2 s' l0 l h
  | ex x δ' => rw [e] at h; exact h
  | bad => rw [e] at h; exact h
theorem liftN_s {Γ : GG} {g : Gh Wx.fx} {ms : List Rg} {σ : L2.St} {H : Hp} {δ : Ds} {E : Ends} {c : ME MO} {G : MO → MS} {R : VK} (s : Sim Γ g ms δ σ H) (h : SPost Γ Wx g ms H E (sBnd c G δ))
    (j : ∀ o δ' p dx H', H p = none → H dx = none → Sim Γ g (ms ++ [some (p, dx)]) (δ' ++ [some (.m o)]) (σ ++ [some (.ref p)]) H' → ms.length = δ'.length → Le (regs ms) H H' → SPost Γ Wx g ms H E (G o δ') → R (.ref p) H') : liftN Γ Wx c σ H R := by
  refine ⟨g, ms, δ, s, ?_⟩
  unfold sBnd at h
  cases e : c δ with
  | ok a δ' => rw [e] at h; exact fun p dx H' h1 h2 s' l0 l => j a δ' p dx H' h1 h2 s' l0 l h
  | ex x δ' => rw [e] at h; exact fun cls dd H' s' l r => h ms σ H' cls dd s' (Ev.of l) r
  | bad => rw [e] at h; exact h
theorem Ev.new {ms : List Rg} {H H' : Hp} {p dx : Addr} {ms' : List Rg} (l : Le (regs ms) H H') (hp : H p = none) (hd : H dx = none) (sub : ∀ b, regs ms' b → regs ms b ∨ b = p ∨ b = dx) : Ev ms H ms' H' := ⟨l, fun b z => by
  rcases sub b z with y | y | y
  · exact .inl y
  · exact .inr (by rw [y]; exact hp)
  · exact .inr (by rw [y]; exact hd)⟩
theorem ds_setM {i : Nat} (hN : X.N.Nodup) (hi : X.N[i]? = some x) (hx : Loc X.env.scope x) (he : DN X Wx e Fn) (hs : swapsWith e (some (.Name x pos')) pos.line X.env = pure false := by rfl) (hf : X.fn x = true ∨ X.env.scope.names.lookup x = some .local := by first | exact .inl rfl | exact .inr rfl | assumption) :
    DSt X n Wx (.Assign [.Name x pos'] e pos) (sSetM n i Fn) := by
  refine ps_of (ps_set hN hi hx he hs hf) fun D σ H ⟨g, ms, δ, e, s, p⟩ => ?_
  refine liftN_s s p fun o δ' q dx H' h1 h2 s' l0 l p1 => ?_
  split at p1
  · rename_i c
    rw [Bool.and_eq_true] at c
    have c1 := of_decide_eq_true c.1
    have c2 : i < δ'.length := by
      rcases Nat.lt_or_ge i δ'.length with z | z
      · exact z
      · have c2 := c.2
        unfold canSet at c2
        rw [List.getElem?_eq_none z] at c2
        cases c2
    have nx : ∀ f, Wx.fx = some f → f.i ≠ i := fun f e z => by
      have y := s'.kpN e
      rw [z] at y
      have c2 := c.2
      unfold canSet at c2
      rw [y] at c2
      cases c2
    refine p1 _ _ _ (s'.store l0 (by omega) c2 nx) (Ev.new l h1 h2 fun b z => ?_)
    obtain ⟨a, d, hm, e⟩ := z
    rcases List.mem_or_eq_of_mem_set hm with y | y
    · exact .inl ⟨a, d, y, e⟩
    · cases y
      exact .inr e
  · exact p1.elim
theorem ds_retM (he : DN X Wx e Fn) : DSt X n Wx (.Return (some e) pos) (sRetM Fn) := by
  refine ps_of (ps_ret he) fun D σ H ⟨g, ms, δ, e, s, p⟩ => ?_
  refine liftN_s s p fun o δ' q dx H' h1 h2 s' l0 l p1 => ?_
  have ln := s'.sl.len
  simp only [List.length_append, List.length_singleton] at ln
  refine p1 q dx ms σ H' l0 (by omega) (by have := s.rsl; omega) s' (Ev.new l h1 h2 fun b z => ?_)
  rcases regs_app.mp z with y | ⟨a, d, hm, e⟩
  · exact .inl y
  · cases List.mem_singleton.mp hm
    exact .inr e
theorem call1_lift {Γ : GG} {fx : FX} {g : Gh fx} {ms : List Rg} {σ : L2.St} {H H' : Hp} {δ' : Ds} {Q : VK} {o : MO} {pp dx : Addr} (h1 : H pp = none) (h2 : H dx = none)
    (s' : Sim Γ g (ms ++ [some (pp, dx)]) (δ' ++ [some (.m o)]) (σ ++ [some (.ref pp)]) H') (s : ∀ {H2 : Hp}, SlotsR Γ H2 (Wt g ms) ms δ' σ → Le (regs ms) H H2 → Sim Γ g ms δ' σ H2) (l0 : ms.length = δ'.length) (l : Le (regs ms) H H')
    (p : Post Γ Wx g ms σ H (fun d _ H' => ∀ v, Rep Γ H' (Wt g ms) v d → Q v H') (call1N f o δ')) : liftSp Γ 1 f [.ref pp] H' Q E0 := by
  have ln := s'.sl.len
  simp only [List.length_append, List.length_singleton] at ln
  obtain ⟨o', y1, y2, y3⟩ := s'.sl.getM (i := ms.length) (a := pp) (dx := dx) (by simp)
  rw [l0] at y1
  simp at y1
  subst y1
  unfold call1N at p
  refine ⟨Wt g (ms ++ [some (pp, dx)]), [some (pp, dx)], [.m o], rfl, ⟨.cons (.m y3) .nil, fun i j a d b e q1 q2 ne => ?_, fun b z => .inr (regs_app.mpr (.inr z)), fun b z => s'.alW z, s'.tab⟩, ?_⟩
  · have := (List.getElem?_eq_some_iff.mp q1).1
    have := (List.getElem?_eq_some_iff.mp q2).1
    simp at *
    omega
  · cases q : f [.m o] with
    | bad => rw [q] at p; exact p.elim
    | ex x ss' => rw [q] at p; exact p.elim
    | ok t ss' =>
      rw [q] at p
      cases t with
      | m _ => exact p.elim
      | v d =>
        intro v H2 _ rv l2
        have mv : Mv (regs [some (pp, dx)]) (Wt g (ms ++ [some (pp, dx)])) (Wt g ms) H' H2 := ⟨l2, fun b z => .inr (regs_app.mpr (.inr z)), fun b z => .inl (z.imp id fun y => regs_app.mpr (.inl y))⟩
        have l3 : Le (regs ms) H H2 := by
          refine ⟨fun b u n t z => l2.keep b u (fun y => ?_) t (l.keep b u n t z), fun b z => l2.al b (l.al b z), fun T t => l2.tb T (l.tb T t)⟩
          obtain ⟨a, d, hm, e⟩ := y
          cases List.mem_singleton.mp hm
          rcases e with e | e <;> rw [e] at z
          · rw [h1] at z; cases z
          · rw [h2] at z; cases z
        refine p H2 (s ?_ l3) l3 v (rv.mv (Mv.wk fun b z => z.imp id fun y => regs_app.mpr (.inl y)))
        refine slots_of l0 (by omega) fun i r t x e1 e2 e3 => ?_
        have il := (List.getElem?_eq_some_iff.mp e2).1
        obtain ⟨r', x', w1, w2, w3⟩ := s'.sl.get (i := i) (s := t) (by rw [List.getElem?_append_left il]; exact e2)
        rw [List.getElem?_append_left (by omega), e1] at w1
        cases w1
        rw [List.getElem?_append_left (by omega), e3] at w2
        cases w2
        cases w3 with
        | no => exact .no
        | v h => exact .v (h.mv mv)
        | @m a d ob h =>
          have ds := s'.dis i ms.length a d pp dx (by rw [List.getElem?_append_left (by omega)]; exact e1) (by simp) (by omega)
          refine .m (h.mv mv ?_ ?_)
          · rintro ⟨a', d', hm, e⟩
            cases List.mem_singleton.mp hm
            rcases e with e | e
            · exact ds.1 e
            · exact ds.2.1 e
          · rintro ⟨a', d', hm, e⟩
            cases List.mem_singleton.mp hm
            rcases e with e | e
            · exact ds.2.2.1 e
            · exact ds.2.2.2 e
theorem de_call1N (D' : DnG X.prog X.w X.K X.mg X.base k x (liftSp (gg X Wx.T) 1 f)) (hgd : X.A.guards = some []) (hr : Room k X.A) (ha : DN X Wx e Fn) (hg : Gl X x := by rfl) (hdb : (x == ("__debug__" : Str)) = false := by decide)
    (he : starEach [e] X.env = (false, eval e X.env) :: starEach [] X.env := by rfl) (hpl : (backTo pos (starEach [] X.env)).any (·.1) = false := by rfl) :
    DE X Wx (.Call (.Name x p) [e] [] pos) (eCall1N f Fn) := by
  refine pe_of (pe_clG D' hgd hr (pa_cons ha pa_nil he) hg hdb he hpl) fun σ H Q ⟨g, ms, δ, s, p⟩ => ?_
  refine liftN_bnd s p fun o δ' q dx H' h1 h2 s' l0 l p1 => ?_
  exact call1_lift h1 h2 s' (fun sl l => s.step sl l fun f e _ => s'.kpN e) l0 l p1
theorem dss_frz {i : Nat} (h : DSs X n Wx rest F) : DSs X n Wx rest (sFrz n i F) := by
  refine pss_of h fun D σ H ⟨g, ms, δ, e, s, p⟩ => ?_
  unfold sFrz frzD at p
  split at p
  · rename_i δ' q
    split at q
    · rename_i ds e1
      split at q
      · rename_i c
        cases q
        refine ⟨g, ms.set i none, _, e, s.frz (by rw [e]; exact of_decide_eq_true c) e1, p.up Ev.setN⟩
      · cases q
    · cases q
  · exact p.elim
end
end DL

set_option Elab.async false
set_option linter.all false
set_option maxRecDepth 100000
set_option maxHeartbeats 4000000
set_option autoImplicit false
/-! built-in functions by trees -/
namespace DL
open L2 PyProof.Rows PySem.Spec PySem G58 SlX
variable [TbL]
/-- what a rule of a list of values asks of a function on trees -/
structure OpL (X : Cx) (r : List V → Hp → VK → Prop) (f : List D → Option D) : Prop where
  go : ∀ (T : TTb) (fx : FX) (g : Gh fx) (ms : List Rg) (δ : Ds) (σ : L2.St) (H : Hp) (vs : List V) (ds : List D) (z : D) (Q : VK), Sim (gg X T) g ms δ σ H → Reps (gg X T) H (Wt g ms) vs ds → f ds = some z →
    (∀ H', Same H H' → ∀ v, Rep (gg X T) H' (Wt g ms) v z → Q v H') → r vs H Q
def eB (f : List D → Option D) (a : ME (List D)) : ME D := bnd a fun ds => opt (f ds)
section
variable {X : Cx} {Wx : WT} {x : Str} {p pos : Pos} {e : Expr} {es : List Expr} {As' : ME (List D)} {r r' : List V → Hp → VK → Prop} {f : List D → Option D} {id T : String} {c : Value}
theorem callR_or (h : CallR X c r) (h' : CallR X c r') : CallR X c (fun xs H Q => r xs H Q ∨ r' xs H Q) := fun pins s σ H xs us Q I rv z => z.elim (h pins s σ H xs us Q I rv) (h' pins s σ H xs us Q I rv)
theorem de_B (hc : CallR X (.builtin id) r) (F : OpL X r f) (hg : Gl X x) (hm : X.mg x = none) (hv : bootBuiltins x = some (.builtin id)) (ha : DA X Wx (e :: es) As') (hn : x ≠ "__name__" := by decide) (hdb : (x == ("__debug__" : Str)) = false := by decide)
    (he : starEach (e :: es) X.env = (false, eval e X.env) :: starEach es X.env := by rfl) (hpl : (backTo pos (starEach es X.env)).any (·.1) = false := by rfl) : DE X Wx (.Call (.Name x p) (e :: es) [] pos) (eB f As') := by
  refine pe_of (pe_callB hc hg hm hv ha hn hdb he hpl) fun σ H Q ⟨g, ms, δ, s, p⟩ => ?_
  refine liftA_bnd s p fun d1 δ1 H1 vs s1 l1 r1 p1 => ?_
  obtain ⟨z, e, k⟩ := post_optN s1 p1
  exact F.go _ _ g ms δ1 σ H1 vs d1 z Q s1 r1 e k
theorem de_Ty (hc : CallR X (.type T) r) (F : OpL X r f) (hg : Gl X x) (hm : X.mg x = none) (hv : bootBuiltins x = some (.type T)) (ha : DA X Wx (e :: es) As') (hn : x ≠ "__name__" := by decide) (hdb : (x == ("__debug__" : Str)) = false := by decide)
    (he : starEach (e :: es) X.env = (false, eval e X.env) :: starEach es X.env := by rfl) (hpl : (backTo pos (starEach es X.env)).any (·.1) = false := by rfl) : DE X Wx (.Call (.Name x p) (e :: es) [] pos) (eB f As') := by
  refine pe_of (pe_callTy hc hg hm hv ha hn hdb he hpl) fun σ H Q ⟨g, ms, δ, s, p⟩ => ?_
  refine liftA_bnd s p fun d1 δ1 H1 vs s1 l1 r1 p1 => ?_
  obtain ⟨z, e, k⟩ := post_optN s1 p1
  exact F.go _ _ g ms δ1 σ H1 vs d1 z Q s1 r1 e k
end
def fLen : List D → Option D
  | [.lst ds] => some (.int ds.length)
  | [.tup ds] => some (.int ds.length)
  | [.fl ds] => some (.int ds.length)
  | [.str x] => if szOk x.length then some (.int x.length) else none
  | _ => none
def fAbs : List D → Option D
  | [.int i] => some (.int (if i < 0 then -i else i))
  | _ => none
def asInts : List D → Option (List Int)
  | [] => some []
  | .int i :: r => (asInts r).map (i :: ·)
  | _ => none
def asBls : List D → Option (List Bool)
  | [] => some []
  | .bl i :: r => (asBls r).map (i :: ·)
  | _ => none
def mxl : List Int → Int
  | [] => 0
  | x :: [] => x
  | x :: y :: r => if mxl (y :: r) > x then mxl (y :: r) else x
def mnl : List Int → Int
  | [] => 0
  | x :: [] => x
  | x :: y :: r => if mnl (y :: r) < x then mnl (y :: r) else x
def fMax : List D → Option D
  | [.int i, .int j] => some (.int (if j > i then j else i))
  | _ => none
def fMin : List D → Option D
  | [.int i, .int j] => some (.int (if j < i then j else i))
  | _ => none
def fMaxL : List D → Option D
  | [.lst ds] => match asInts ds with
    | some (n :: ns) => some (.int (mxl (n :: ns)))
    | _ => none
  | _ => none
def fMinL : List D → Option D
  | [.lst ds] => match asInts ds with
    | some (n :: ns) => some (.int (mnl (n :: ns)))
    | _ => none
  | _ => none
def fAll : List D → Option D
  | [.lst ds] => (asBls ds).map fun bs => .bl (bs.all id)
  | _ => none
def fAny : List D → Option D
  | [.lst ds] => (asBls ds).map fun bs => .bl (bs.any id)
  | _ => none
def fSum : List D → Option D
  | [.lst ds] => (asInts ds).map fun bs => .int bs.sum
  | _ => none
def fInt : List D → Option D
  | [.int i] => some (.int i)
  | [.bl b] => some (.int (if b then 1 else 0))
  | _ => none
def fBool : List D → Option D
  | [.int i] => some (.bl (i != 0))
  | [.bl b] => some (.bl b)
  | _ => none
def fDm : List D → Option D
  | [.int a, .int b] => if decide (0 < b) && fit b then some (.tup [.int (a / b), .int (a % b)]) else none
  | _ => none
def fStrI : List D → Option D
  | [.int i] => if decide (i.natAbs.log2 < 1920) then some (.str (toString i)) else none
  | _ => none
def fRepr : List D → Option D
  | [d] => match toPy d with
    | some p => if p.showable && (!p.hasDict && (decide (p.depth ≤ 60) && szOk p.shown.length)) then some (.str p.shown) else none
    | none => none
  | _ => none
section
variable {X : Cx} {Γ : GG} {H : Hp} {W : As}
theorem Reps.ints : ∀ {vs : List V} {ds : List D} {ns : List Int}, Reps Γ H W vs ds → asInts ds = some ns → vs = ns.map V.int
  | _, _, _, .nil, e => by
    cases e
    rfl
  | _, .int i :: ds, _, .cons h r, e => by
    unfold asInts at e
    cases q : asInts ds with
    | none => rw [q] at e; cases e
    | some ms =>
      rw [q] at e
      cases e
      rw [rep_int h, Reps.ints r q]
      rfl
  | _, .non :: _, _, .cons _ _, e => by cases e
  | _, .bl _ :: _, _, .cons _ _, e => by cases e
  | _, .str _ :: _, _, .cons _ _, e => by cases e
  | _, .ty _ :: _, _, .cons _ _, e => by cases e
  | _, .gl _ :: _, _, .cons _ _, e => by cases e
  | _, .tup _ :: _, _, .cons _ _, e => by cases e
  | _, .lst _ :: _, _, .cons _ _, e => by cases e
  | _, .fl _ :: _, _, .cons _ _, e => by cases e
  | _, .ins _ _ :: _, _, .cons _ _, e => by cases e
  | _, .slt _ _ :: _, _, .cons _ _, e => by cases e
  | _, .dct _ :: _, _, .cons _ _, e => by cases e
  | _, .exc _ _ :: _, _, .cons _ _, e => by cases e
  | _, .opq :: _, _, .cons _ _, e => by cases e
theorem Reps.bls : ∀ {vs : List V} {ds : List D} {ns : List Bool}, Reps Γ H W vs ds → asBls ds = some ns → vs = ns.map V.bl
  | _, _, _, .nil, e => by
    cases e
    rfl
  | _, .bl i :: ds, _, .cons h r, e => by
    unfold asBls at e
    cases q : asBls ds with
    | none => rw [q] at e; cases e
    | some ms =>
      rw [q] at e
      cases e
      rw [rep_bl h, Reps.bls r q]
      rfl
  | _, .non :: _, _, .cons _ _, e => by cases e
  | _, .int _ :: _, _, .cons _ _, e => by cases e
  | _, .str _ :: _, _, .cons _ _, e => by cases e
  | _, .ty _ :: _, _, .cons _ _, e => by cases e
  | _, .gl _ :: _, _, .cons _ _, e => by cases e
  | _, .tup _ :: _, _, .cons _ _, e => by cases e
  | _, .lst _ :: _, _, .cons _ _, e => by cases e
  | _, .fl _ :: _, _, .cons _ _, e => by cases e
  | _, .ins _ _ :: _, _, .cons _ _, e => by cases e
  | _, .slt _ _ :: _, _, .cons _ _, e => by cases e
  | _, .dct _ :: _, _, .cons _ _, e => by cases e
  | _, .exc _ _ :: _, _, .cons _ _, e => by cases e
  | _, .opq :: _, _, .cons _ _, e => by cases e
theorem reps1 {vs : List V} {d : D} (h : Reps Γ H W vs [d]) : ∃ v, vs = [v] ∧ Rep Γ H W v d := by
  cases h with
  | cons h r =>
    cases r
    exact ⟨_, rfl, h⟩
theorem reps2 {vs : List V} {d e : D} (h : Reps Γ H W vs [d, e]) : ∃ v w, vs = [v, w] ∧ Rep Γ H W v d ∧ Rep Γ H W w e := by
  cases h with
  | cons h r =>
    cases r with
    | cons h' r =>
      cases r
      exact ⟨_, _, rfl, h, h'⟩
theorem mxl_mem : ∀ (x : Int) (l : List Int), mxl (x :: l) ∈ x :: l
  | x, [] => by simp [mxl]
  | x, y :: r => by
    have ih := mxl_mem y r
    unfold mxl
    split
    · exact List.mem_cons_of_mem _ ih
    · exact List.mem_cons_self
theorem mxl_le : ∀ (x : Int) (l : List Int), ∀ y ∈ x :: l, y ≤ mxl (x :: l)
  | x, [], y, h => by
    simp at h
    subst h
    exact Int.le_refl _
  | x, y :: r, z, h => by
    have ih := mxl_le y r
    unfold mxl
    rcases List.mem_cons.mp h with e | h
    · subst e
      split <;> omega
    · have := ih z h
      split <;> omega
theorem mnl_mem : ∀ (x : Int) (l : List Int), mnl (x :: l) ∈ x :: l
  | x, [] => by simp [mnl]
  | x, y :: r => by
    have ih := mnl_mem y r
    unfold mnl
    split
    · exact List.mem_cons_of_mem _ ih
    · exact List.mem_cons_self
theorem mnl_le : ∀ (x : Int) (l : List Int), ∀ y ∈ x :: l, mnl (x :: l) ≤ y
  | x, [], y, h => by
    simp at h
    subst h
    exact Int.le_refl _
  | x, y :: r, z, h => by
    have ih := mnl_le y r
    unfold mnl
    rcases List.mem_cons.mp h with e | h
    · subst e
      split <;> omega
    · have := ih z h
      split <;> omega
abbrev rLenAll (K : PySem.W.Frag) : List V → Hp → VK → Prop := fun xs H Q => (∃ p ys, xs = [V.ref p] ∧ (SqL K H p ys ∨ SqT K H p ys) ∧ Q (.int ys.length) H) ∨ (∃ z : Str, xs = [.str z] ∧ z.length ≤ sizeLine ∧ Q (.int z.length) H)
theorem call_lenAll : CallR X (.builtin "len") (rLenAll X.K) := callR_or call_len_seq call_len_str
theorem ol_len : OpL X (rLenAll X.K) fLen := ⟨fun T fx g ms δ σ H vs ds z Q s r0 h k => by
  unfold fLen at h
  split at h
  · cases h
    obtain ⟨v, rfl, r⟩ := reps1 r0
    cases r with
    | lst h1 h2 => exact .inl ⟨_, _, rfl, .inl h1.sq, by rw [h2.len]; exact k H (Same.refl _) _ (.int _)⟩
  · cases h
    obtain ⟨v, rfl, r⟩ := reps1 r0
    cases r with
    | tup h1 h2 => exact .inl ⟨_, _, rfl, .inr h1.sq, by rw [h2.len]; exact k H (Same.refl _) _ (.int _)⟩
  · cases h
    obtain ⟨v, rfl, r⟩ := reps1 r0
    cases r with
    | fl h1 h2 => exact .inl ⟨_, _, rfl, .inl h1.sq, by rw [h2.len]; exact k H (Same.refl _) _ (.int _)⟩
  · split at h
    · rename_i c
      cases h
      obtain ⟨v, rfl, r⟩ := reps1 r0
      rw [rep_str r]
      exact .inr ⟨_, rfl, sz_line c, k H (Same.refl _) _ (.int _)⟩
    · cases h
  · cases h⟩
theorem ol_abs : OpL X (fun xs H Q => ∃ i, xs = [.int i] ∧ Q (.int (if i < 0 then -i else i)) H) fAbs := ⟨fun T fx g ms δ σ H vs ds z Q s r0 h k => by
  unfold fAbs at h
  split at h <;> cases h
  obtain ⟨v, rfl, r⟩ := reps1 r0
  rw [rep_int r]
  exact ⟨_, rfl, k H (Same.refl _) _ (.int _)⟩⟩
theorem ol_max : OpL X (fun xs H Q => ∃ i j, xs = [.int i, .int j] ∧ Q (.int (if j > i then j else i)) H) fMax := ⟨fun T fx g ms δ σ H vs ds z Q s r0 h k => by
  unfold fMax at h
  split at h <;> cases h
  obtain ⟨v, w, rfl, r, r'⟩ := reps2 r0
  rw [rep_int r, rep_int r']
  exact ⟨_, _, rfl, k H (Same.refl _) _ (.int _)⟩⟩
theorem ol_min : OpL X (fun xs H Q => ∃ i j, xs = [.int i, .int j] ∧ Q (.int (if j < i then j else i)) H) fMin := ⟨fun T fx g ms δ σ H vs ds z Q s r0 h k => by
  unfold fMin at h
  split at h <;> cases h
  obtain ⟨v, w, rfl, r, r'⟩ := reps2 r0
  rw [rep_int r, rep_int r']
  exact ⟨_, _, rfl, k H (Same.refl _) _ (.int _)⟩⟩
theorem ol_maxL : OpL X (rMax X.K) fMaxL := ⟨fun T fx g ms δ σ H vs ds z Q s r0 h k => by
  unfold fMaxL at h
  split at h
  · split at h
    · rename_i ds n ns e
      cases h
      obtain ⟨v, rfl, r⟩ := reps1 r0
      cases r with
      | lst h1 h2 =>
        have e2 := h2.ints e
        subst e2
        refine ⟨_, n :: ns, rfl, h1.sq, by simp, fun m hm1 hm2 => ?_⟩
        have a := mxl_le n ns m hm1
        have b := hm2 _ (mxl_mem n ns)
        have em : m = mxl (n :: ns) := by omega
        rw [em]
        exact k H (Same.refl _) _ (.int _)
    · cases h
  · cases h⟩
theorem ol_minL : OpL X (rMin X.K) fMinL := ⟨fun T fx g ms δ σ H vs ds z Q s r0 h k => by
  unfold fMinL at h
  split at h
  · split at h
    · rename_i ds n ns e
      cases h
      obtain ⟨v, rfl, r⟩ := reps1 r0
      cases r with
      | lst h1 h2 =>
        have e2 := h2.ints e
        subst e2
        refine ⟨_, n :: ns, rfl, h1.sq, by simp, fun m hm1 hm2 => ?_⟩
        have a := mnl_le n ns m hm1
        have b := hm2 _ (mnl_mem n ns)
        have em : m = mnl (n :: ns) := by omega
        rw [em]
        exact k H (Same.refl _) _ (.int _)
    · cases h
  · cases h⟩
theorem ol_all : OpL X (rAll X.K) fAll := ⟨fun T fx g ms δ σ H vs ds z Q s r0 h k => by
  unfold fAll at h
  split at h
  · rename_i ds
    cases e : asBls ds with
    | none => rw [e] at h; cases h
    | some bs =>
      rw [e] at h
      cases h
      obtain ⟨v, rfl, r⟩ := reps1 r0
      cases r with
      | lst h1 h2 =>
        have e2 := h2.bls e
        subst e2
        exact ⟨_, bs, rfl, h1.sq, k H (Same.refl _) _ (.bl _)⟩
  · cases h⟩
theorem ol_any : OpL X (rAny X.K) fAny := ⟨fun T fx g ms δ σ H vs ds z Q s r0 h k => by
  unfold fAny at h
  split at h
  · rename_i ds
    cases e : asBls ds with
    | none => rw [e] at h; cases h
    | some bs =>
      rw [e] at h
      cases h
      obtain ⟨v, rfl, r⟩ := reps1 r0
      cases r with
      | lst h1 h2 =>
        have e2 := h2.bls e
        subst e2
        exact ⟨_, bs, rfl, h1.sq, k H (Same.refl _) _ (.bl _)⟩
  · cases h⟩
theorem ol_sum : OpL X (rSum X.K) fSum := ⟨fun T fx g ms δ σ H vs ds z Q s r0 h k => by
  unfold fSum at h
  split at h
  · rename_i ds
    cases e : asInts ds with
    | none => rw [e] at h; cases h
    | some bs =>
      rw [e] at h
      cases h
      obtain ⟨v, rfl, r⟩ := reps1 r0
      cases r with
      | lst h1 h2 =>
        have e2 := h2.ints e
        subst e2
        exact ⟨_, bs, rfl, h1.sq, k H (Same.refl _) _ (.int _)⟩
  · cases h⟩
theorem ol_int : OpL X (fun xs H Q => (∃ i, xs = [.int i] ∧ Q (.int i) H) ∨ ∃ k, xs = [.bl k] ∧ Q (.int (if k then 1 else 0)) H) fInt := ⟨fun T fx g ms δ σ H vs ds z Q s r0 h k => by
  unfold fInt at h
  split at h <;> cases h
  · obtain ⟨v, rfl, r⟩ := reps1 r0
    rw [rep_int r]
    exact .inl ⟨_, rfl, k H (Same.refl _) _ (.int _)⟩
  · obtain ⟨v, rfl, r⟩ := reps1 r0
    rw [rep_bl r]
    exact .inr ⟨_, rfl, k H (Same.refl _) _ (.int _)⟩⟩
theorem ol_bool : OpL X (fun xs H Q => (∃ i, xs = [.int i] ∧ Q (.bl (i != 0)) H) ∨ ∃ k, xs = [.bl k] ∧ Q (.bl k) H) fBool := ⟨fun T fx g ms δ σ H vs ds z Q s r0 h k => by
  unfold fBool at h
  split at h <;> cases h
  · obtain ⟨v, rfl, r⟩ := reps1 r0
    rw [rep_int r]
    exact .inl ⟨_, rfl, k H (Same.refl _) _ (.bl _)⟩
  · obtain ⟨v, rfl, r⟩ := reps1 r0
    rw [rep_bl r]
    exact .inr ⟨_, rfl, k H (Same.refl _) _ (.bl _)⟩⟩
theorem ol_dm : OpL X rDm fDm := ⟨fun T fx g ms δ σ H vs ds z Q s r0 h k => by
  unfold fDm at h
  split at h
  · split at h
    · rename_i a b c
      cases h
      rw [Bool.and_eq_true] at c
      have c1 := of_decide_eq_true c.1
      have c2 := of_decide_eq_true c.2
      obtain ⟨v, w, rfl, r, r'⟩ := reps2 r0
      rw [rep_int r, rep_int r']
      refine ⟨_, _, rfl, c1, by omega, fun q H1 nq sm hq => ?_⟩
      exact k H1 sm _ (.tup (.inl ⟨.inl hq, s.fresh nq⟩) (.cons (.int _) (.cons (.int _) .nil)))
    · cases h
  · cases h⟩
theorem ol_strI : OpL X (fun xs H Q => ∃ i : Int, xs = [.int i] ∧ i.natAbs.log2 < 1920 ∧ Q (.str (toString i)) H) fStrI := ⟨fun T fx g ms δ σ H vs ds z Q s r0 h k => by
  unfold fStrI at h
  split at h
  · split at h
    · rename_i c
      cases h
      obtain ⟨v, rfl, r⟩ := reps1 r0
      rw [rep_int r]
      exact ⟨_, rfl, of_decide_eq_true c, k H (Same.refl _) _ (.str _)⟩
    · cases h
  · cases h⟩
theorem ol_repr : OpL X (rReprD X.K) fRepr := ⟨fun T fx g ms δ σ H vs ds z Q s r0 h k => by
  unfold fRepr at h
  split at h
  · split at h
    · rename_i d p e
      split at h
      · rename_i c
        cases h
        simp only [Bool.and_eq_true, Bool.not_eq_true'] at c
        obtain ⟨v, rfl, r⟩ := reps1 r0
        exact ⟨v, p, rfl, r.dp e, c.1, c.2.1, of_decide_eq_true c.2.2.1, sz_line c.2.2.2, k H (Same.refl _) _ (.str _)⟩
      · cases h
    · cases h
  · cases h⟩
end
end DL

set_option Elab.async false
set_option linter.all false
set_option maxRecDepth 100000
set_option maxHeartbeats 4000000
set_option autoImplicit false
/-! own things by trees: attributes, properties, methods, making -/
namespace DL
open L2 PyProof.Rows PySem.Spec PySem G58 SlX
variable [TbL]
def getF (c f : Str) : D → Option D
  | .ins c' fs => if c' = c then fs.lookup f else none
  | _ => none
def getS (c : Str) (i : Nat) : D → Option D
  | .slt c' fs => if c' = c then fs[i]? else none
  | _ => none
def eFld (c f : Str) (F : ME D) : ME D := bnd F fun d => opt (getF c f d)
def eSl (c : Str) (i : Nat) (F : ME D) : ME D := bnd F fun d => opt (getS c i d)
/-- self.f of a thing that is being made -/
def eFldM (i : Nat) (c f : Str) : ME D := fun δ => match δ[i]? with
  | some (some (.m (.ins c' fs))) => if c' = c then (match fs.lookup f with
    | some d => .ok d δ
    | none => .bad) else .bad
  | _ => .bad
def putFD (f : Str) (v : D) : List (Str × D) → List (Str × D)
  | [] => [(f, v)]
  | (g, x) :: r => if g = f then (g, v) :: r else (g, x) :: putFD f v r
def tgFld (i : Nat) (c f : Str) : Tg := fun d δ => match δ[i]? with
  | some (some (.m (.ins c' fs))) => if decide (c' = c) && decide (fs.length < 900) then some (δ.set i (some (.m (.ins c (putFD f d fs))))) else none
  | _ => none
def sSetF (i : Nat) (c f : Str) (F : ME D) : MS := sBnd F fun d δ => match tgFld i c f d δ with
  | some δ' => .nx δ'
  | none => .bad
def putSD (i : Nat) (v : D) (vs : List (Option D)) : List (Option D) := (vs ++ List.replicate (i + 1 - vs.length) Option.none).set i (some v)
def sSetSl (i : Nat) (c : Str) (j : Nat) (F : ME D) : MS := sBnd F fun d δ => match δ[i]? with
  | some (some (.m (.slt c' vs))) => if c' = c then .nx (δ.set i (some (.m (.slt c (putSD j d vs))))) else .bad
  | _ => .bad
def allS : List (Option D) → Option (List D)
  | [] => some []
  | some d :: r => (allS r).map (d :: ·)
  | none :: _ => none
def frzO : MO → Option D
  | .ins c fs => some (.ins c fs)
  | .slt c vs => (allS vs).map (.slt c ·)
  | _ => none
def new0 (sl : Bool) (c : Str) : MO := match sl with
  | true => .slt c []
  | false => .ins c []
def mkD (sl : Bool) (c : Str) (n : Nat) (f : FnD) (xs : List D) : Option D := if decide (xs.length + 1 = n) then (match f (.m (new0 sl c) :: xs.map .v) with
  | .ok (.v .non) (.m o :: _) => frzO o
  | _ => none) else none
def eMake (sl : Bool) (c : Str) (n : Nat) (f : FnD) (A : ME (List D)) (dv : List D) : ME D := bnd A fun xs => opt (mkD sl c n f (xs ++ dv))
def isI (c : Str) : D → Bool
  | .ins c' _ => decide (c' = c)
  | _ => false
def isS (c : Str) : D → Bool
  | .slt c' _ => decide (c' = c)
  | _ => false
def callM (n : Nat) (f : FnD) (o : D) (xs : List AV) : ME D := callD0 n f (.v o :: xs)
def hasNo (m : Str) : D → Bool
  | .ins _ fs => (fs.lookup m).isNone
  | _ => false
def eMethI (c m : Str) (n : Nat) (f : FnD) (O : ME D) (A : ME (List AV)) : ME D := bnd O fun o => if isI c o && hasNo m o then bnd A (fun xs => callM n f o xs) else fun _ => .bad
def eMethS (c : Str) (n : Nat) (f : FnD) (O : ME D) (A : ME (List AV)) : ME D := bnd O fun o => if isS c o then bnd A (fun xs => callM n f o xs) else fun _ => .bad
def ePropS (c : Str) (f : FnD) (O : ME D) : ME D := bnd O fun o => if isS c o then callD0 1 f [.v o] else fun _ => .bad
def ePropI (c : Str) (f : FnD) (O : ME D) : ME D := bnd O fun o => if isI c o then callD0 1 f [.v o] else fun _ => .bad
section
variable {Γ : GG} {H : Hp} {W : As}
theorem RepF.lookup {f : Str} {d : D} : ∀ {gs : List (Str × V)} {fs : List (Str × D)}, RepF Γ H W gs fs → fs.lookup f = some d → ∃ v, gs.lookup f = some v ∧ Rep Γ H W v d
  | _, _, .nil, e => by cases e
  | _, (g, y) :: _, .cons h r, e => by
    unfold List.lookup at e ⊢
    cases q : f == g with
    | true =>
      rw [q] at e
      cases e
      exact ⟨_, rfl, h⟩
    | false =>
      rw [q] at e
      exact RepF.lookup r e
theorem RepF.none {f : Str} : ∀ {gs : List (Str × V)} {fs : List (Str × D)}, RepF Γ H W gs fs → (fs.lookup f).isNone = true → gs.lookup f = none
  | _, _, .nil, e => rfl
  | _, (g, y) :: _, .cons h r, e => by
    unfold List.lookup at e ⊢
    cases q : f == g with
    | true =>
      rw [q] at e
      cases e
    | false =>
      rw [q] at e
      exact RepF.none r e
theorem RepF.put {f : Str} {v : V} {d : D} (h : Rep Γ H W v d) : ∀ {gs : List (Str × V)} {fs : List (Str × D)}, RepF Γ H W gs fs → RepF Γ H W (putF f v gs) (putFD f d fs)
  | _, _, .nil => .cons h .nil
  | (g, _) :: _, _, .cons h1 r => by
    unfold putF putFD
    split
    · exact .cons h r
    · exact .cons h1 (RepF.put h r)
theorem RepF.len : ∀ {gs : List (Str × V)} {fs : List (Str × D)}, RepF Γ H W gs fs → gs.length = fs.length
  | _, _, .nil => rfl
  | _, _, .cons _ r => by simp [RepF.len r]
theorem RepS.getD : ∀ {v : List (Option V)} {d : List D} {i : Nat} {y : D}, RepS Γ H W v d → d[i]? = some y → ∃ x, v[i]? = some (some x) ∧ Rep Γ H W x y
  | _, _, _, _, .nil, h => by simp at h
  | _, _, 0, _, .cons h r, e => by simp at e; subst e; exact ⟨_, rfl, h⟩
  | _, _, i + 1, x, .cons h r, e => by
    obtain ⟨y, h1, h2⟩ := RepS.getD (i := i) (y := x) r (by simpa using e)
    exact ⟨y, by simpa using h1, h2⟩
theorem RepO.len : ∀ {v : List (Option V)} {d : List (Option D)}, RepO Γ H W v d → v.length = d.length
  | _, _, .nil => rfl
  | _, _, .no r => by simp [RepO.len r]
  | _, _, .cons _ r => by simp [RepO.len r]
theorem RepO.nones : ∀ k : Nat, RepO Γ H W (List.replicate k none) (List.replicate k none)
  | 0 => .nil
  | k + 1 => .no (RepO.nones k)
theorem RepO.app : ∀ {v w : List (Option V)} {d e : List (Option D)}, RepO Γ H W v d → RepO Γ H W w e → RepO Γ H W (v ++ w) (d ++ e)
  | _, _, _, _, .nil, h => h
  | _, _, _, _, .no r, h2 => .no (RepO.app r h2)
  | _, _, _, _, .cons h r, h2 => .cons h (RepO.app r h2)
theorem RepO.set {x : V} {y : D} (h : Rep Γ H W x y) : ∀ {v : List (Option V)} {d : List (Option D)} (j : Nat), RepO Γ H W v d → RepO Γ H W (v.set j (some x)) (d.set j (some y))
  | _, _, _, .nil => .nil
  | _, _, 0, .no r => .cons h r
  | _, _, 0, .cons _ r => .cons h r
  | _, _, j + 1, .no r => .no (RepO.set h j r)
  | _, _, j + 1, .cons h1 r => .cons h1 (RepO.set h j r)
theorem RepO.put {x : V} {y : D} (h : Rep Γ H W x y) {v : List (Option V)} {d : List (Option D)} (j : Nat) (r : RepO Γ H W v d) : RepO Γ H W (putS j x v) (putSD j y d) := by
  unfold putS putSD
  rw [r.len]
  exact RepO.set h j (r.app (RepO.nones _))
theorem RepO.all : ∀ {v : List (Option V)} {d : List (Option D)} {ds : List D}, RepO Γ H W v d → allS d = some ds → RepS Γ H W v ds
  | _, _, _, .nil, e => by
    cases e
    exact .nil
  | _, _, _, .no r, e => by cases e
  | _, some d :: ds, _, .cons h r, e => by
    unfold allS at e
    cases q : allS ds with
    | none => rw [q] at e; cases e
    | some ms =>
      rw [q] at e
      cases e
      exact .cons h (RepO.all r q)
theorem isI_rep {c : Str} {C : Addr} {v : V} {d : D} (hm : Γ.mg c = some (.ref C)) (h : isI c d = true) (r : Rep Γ H W v d) : ∃ a dx gs fs, v = .ref a ∧ d = .ins c fs ∧ H a = some (.ins C dx gs) ∧ RepF Γ H W gs fs := by
  cases r <;> first | exact absurd h Bool.false_ne_true | skip
  rename_i a C' dx c' gs fs h1 h2 h3 h4
  have e : c' = c := of_decide_eq_true h
  subst e
  cases hm.symm.trans h1
  exact ⟨_, _, _, _, rfl, rfl, h2, h4⟩
theorem isS_rep {c : Str} {C : Addr} {v : V} {d : D} (hm : Γ.mg c = some (.ref C)) (h : isS c d = true) (r : Rep Γ H W v d) : ∃ a dx vs fs, v = .ref a ∧ d = .slt c fs ∧ Slt H a C dx vs ∧ RepS Γ H W vs fs := by
  cases r <;> first | exact absurd h Bool.false_ne_true | skip
  rename_i a C' dx c' gs fs h1 h2 h3 h4 h5 h6
  have e : c' = c := of_decide_eq_true h
  subst e
  cases hm.symm.trans h1
  exact ⟨_, _, _, _, rfl, rfl, h2, h6⟩
end
section
variable {X : Cx} {Wx : WT} {n k : Nat} {c f m : Str} {C p g0 fI : Addr} {e o a : Expr} {es : List Expr} {pos apos pos' : Pos} {Fe Fo : ME D} {As' : ME (List D)} {Av : ME (List AV)} {F : FnD}
theorem de_fld (he : DE X Wx e Fe) (hm : X.mg c = some (.ref C)) (cl : Cls X.K C) (na : NoAttr X.K C f) (hb : attributeBase e f X.env (eval e X.env) = eval e X.env := by rfl) : DE X Wx (.Attribute e f pos) (eFld c f Fe) := by
  refine pe_of (pe_fld he hb) fun σ H Q ⟨g, ms, δ, s, p⟩ => ?_
  refine lift_bnd s p fun d δ1 H1 v s1 l1 r1 p1 => ?_
  obtain ⟨z, e, k⟩ := post_opt s1 p1
  unfold getF at e
  split at e
  · split at e
    · rename_i c' fs ec
      subst ec
      cases r1 with
      | ins h1 h2 h3 h4 =>
        cases hm.symm.trans h1
        obtain ⟨v, e1, e2⟩ := h4.lookup e
        exact ⟨_, _, _, _, v, rfl, h2, cl, na, e1, k _ e2⟩
    · cases e
  · cases e
theorem de_sl {i : Nat} (he : DE X Wx e Fe) (hm : X.mg c = some (.ref C)) (cl : SCls X.K C) (sl : Slot1 X.K C f p i) (hb : attributeBase e f X.env (eval e X.env) = eval e X.env := by rfl) : DE X Wx (.Attribute e f pos) (eSl c i Fe) := by
  refine pe_of (pe_sl he hb) fun σ H Q ⟨g, ms, δ, s, p⟩ => ?_
  refine lift_bnd s p fun d δ1 H1 v s1 l1 r1 p1 => ?_
  obtain ⟨z, e, k⟩ := post_opt s1 p1
  unfold getS at e
  split at e
  · split at e
    · rename_i c' fs ec
      subst ec
      cases r1 with
      | slt h1 h2 h3 h4 h5 h6 =>
        cases hm.symm.trans h1
        obtain ⟨v, e1, e2⟩ := h6.getD e
        exact ⟨_, _, _, _, _, _, v, rfl, h2, cl, sl, e1, k _ e2⟩
    · cases e
  · cases e
theorem Sim.own {Γ : GG} {fx : FX} {g : Gh fx} {ms : List Rg} {δ : Ds} {σ : L2.St} {H : Hp} {i : Nat} {c : Str} {fs : List (Str × D)} {C : Addr} (s : Sim Γ g ms δ σ H) (hm : Γ.mg c = some (.ref C)) (hi : δ[i]? = some (some (.m (.ins c fs)))) :
    ∃ a dx gs, σ[i]? = some (some (.ref a)) ∧ H a = some (.ins C dx gs) ∧ RepF Γ H (Wt g ms) gs fs ∧
      ∀ ys fs', RepF Γ H (Wt g ms) ys fs' → Sim Γ g ms (δ.set i (some (.m (.ins c fs')))) σ (upd H a (.ins C dx ys)) ∧ Le (regs ms) H (upd H a (.ins C dx ys)) := by
  obtain ⟨r, x, q1, q2, q3⟩ := s.sl.get hi
  cases q3 with
  | @m a dx ob h =>
    obtain ⟨e, C', d, gs, h0, h1, h2⟩ := h
    subst e
    cases hm.symm.trans h0
    refine ⟨_, d, gs, q2, h1, h2, fun ys ds' r' => ?_⟩
    have keep : ∀ b u, b ≠ dx → b ≠ dx → H b = some u → upd H dx (.ins C d ys) b = some u := fun b u n _ h => by rw [upd_ne n]; exact h
    have mv : Mv (fun b => b = dx) (Wt g ms) (Wt g ms) H (upd H dx (.ins C d ys)) := ⟨⟨fun b u n _ h => keep b u n n h, fun b h => by
      by_cases c : b = dx
      · rw [c, upd_same]; exact fun z => nomatch z
      · rw [upd_ne c]; exact h, fun T t => tabs_two h1 pl_ins h1 pl_ins keep t⟩, fun b z => .inr ⟨dx, dx, List.mem_of_getElem? q1, .inl z⟩, fun b z => .inl z⟩
    exact s.mut q1 keep (by rw [upd_same]; exact fun z => nomatch z) (by rw [upd_same]; exact fun z => nomatch z) ⟨rfl, C, d, ys, hm, upd_same, r'.mv mv⟩
theorem de_fldM {i : Nat} (ho : PE X o (tVar i)) (hm : X.mg c = some (.ref C)) (cl : Cls X.K C) (na : NoAttr X.K C f) (hb : attributeBase o f X.env (eval o X.env) = eval o X.env := by rfl) : DE X Wx (.Attribute o f pos) (eFldM i c f) := by
  refine pe_of (pe_fld ho hb) fun σ H Q ⟨g, ms, δ, s, p⟩ => ?_
  unfold eFldM at p
  split at p
  · split at p
    · rename_i c' fs e ec
      subst ec
      split at p
      · rename_i d ed
        obtain ⟨a, dx, gs, q2, q3, q4, q5⟩ := s.own hm e
        obtain ⟨v, e1, e2⟩ := q4.lookup ed
        exact ⟨_, q2, _, _, _, _, v, rfl, q3, cl, na, e1, p H s Le.refl _ e2⟩
      · exact p.elim
    · exact p.elim
  · exact p.elim
theorem dg_fld {i : Nat} (ho : PE X o (tVar i)) (hm : X.mg c = some (.ref C)) (cl : Cls X.K C) (na : NoAttr X.K C f)
    (ha : ∀ v, assign (.Attribute o f pos) X.env v = (do
      let ov ← holding [v] (eval o X.env)
      standAt pos.atName
      holding [v, ov] (setAttr ov f v)
      release [v, ov] []) := by intro _; rfl) : DG X Wx (.Attribute o f pos) (tgFld i c f) := by
  refine pg_of (pg_fld ho ha) fun v σ H Q ⟨g, ms, δ, d, s, r, p⟩ => ?_
  unfold tgFld at p
  split at p
  · rename_i c' fs e
    split at p
    · rename_i cc
      rw [Bool.and_eq_true] at cc
      have ec := of_decide_eq_true cc.1
      have cl2 := of_decide_eq_true cc.2
      subst ec
      obtain ⟨a, dx, gs, q2, q3, q4, q5⟩ := s.own hm e
      obtain ⟨u1, u2⟩ := q5 _ _ (q4.put (f := f) r)
      exact ⟨_, q2, _, _, _, _, rfl, q3, cl, na, by rw [q4.len]; omega, p _ _ _ u1 (Ev.of u2)⟩
    · exact p.elim
  · exact p.elim
theorem ds_setF {i : Nat} (ho : PE X o (tVar i)) (hv : DE X Wx e Fe) (hm : X.mg c = some (.ref C)) (cl : Cls X.K C) (na : NoAttr X.K C f) (hs : swapsWith e (some (.Attribute o f pos')) pos.line X.env = pure false := by rfl) :
    DSt X n Wx (.Assign [.Attribute o f pos'] e pos) (sSetF i c f Fe) := by
  refine ps_of (ps_fld ho hv hs) fun D σ H ⟨g, ms, δ, e, s, p⟩ => ?_
  refine liftE_s s p fun d δ1 H1 v s1 l1 r1 p1 => ?_
  unfold tgFld at p1
  split at p1
  · rename_i δ' q
    split at q
    · rename_i c' fs e
      split at q
      · rename_i cc
        rw [Bool.and_eq_true] at cc
        have ec := of_decide_eq_true cc.1
        have cl2 := of_decide_eq_true cc.2
        subst ec
        cases q
        obtain ⟨a, dx, gs, q2, q3, q4, q5⟩ := s1.own hm e
        obtain ⟨u1, u2⟩ := q5 _ _ (q4.put (f := f) r1)
        exact ⟨_, q2, _, _, _, _, rfl, q3, cl, na, by rw [q4.len]; omega, p1 _ _ _ u1 (Ev.of u2)⟩
      · cases q
    · cases q
  · exact p1.elim
theorem ds_setSl {i j : Nat} (ho : PE X o (tVar i)) (hv : DE X Wx e Fe) (hm : X.mg c = some (.ref C)) (cl : SCls X.K C) (sl : Slot1 X.K C f p j) (hs : swapsWith e (some (.Attribute o f pos')) pos.line X.env = pure false := by rfl) :
    DSt X n Wx (.Assign [.Attribute o f pos'] e pos) (sSetSl i c j Fe) := by
  refine ps_of (ps_sl ho hv hs) fun D σ H ⟨g, ms, δ, e, s, p⟩ => ?_
  refine liftE_s s p fun d δ1 H1 v s1 l1 r1 p1 => ?_
  split at p1
  · rename_i c' vs hi
    split at p1
    · rename_i ec
      subst ec
      obtain ⟨r, x, q1, q2, q3⟩ := s1.sl.get hi
      cases q3 with
      | @m a dx ob h =>
        obtain ⟨⟨u1', p1', p2'⟩, u2', p3', p4'⟩ := h.at
        obtain ⟨C', ws, h0, ne, al, sw, ro⟩ := h
        cases hm.symm.trans h0
        refine ⟨_, q2, _, _, _, _, _, _, rfl, sw, cl, sl, ?_⟩
        have keep : ∀ b u, b ≠ a → b ≠ dx → H1 b = some u → slH H1 a C dx (putS j v ws) b = some u := fun b u n1 n2 h => by rw [slH_ne n1 n2]; exact h
        have ha : slH H1 a C dx (putS j v ws) a ≠ none := by unfold slH; rw [upd_same]; exact fun z => nomatch z
        have hd : slH H1 a C dx (putS j v ws) dx ≠ none := by unfold slH; rw [upd_ne ne, upd_same]; exact fun z => nomatch z
        have mv : Mv (fun b => b = a ∨ b = dx) (Wt g ms) (Wt g ms) H1 (slH H1 a C dx (putS j v ws)) := ⟨⟨fun b u n _ h => keep b u (fun z => n (.inl z)) (fun z => n (.inr z)) h, fun b h => by
          by_cases c1 : b = a
          · rw [c1]; exact ha
          · by_cases c2 : b = dx
            · rw [c2]; exact hd
            · rw [slH_ne c1 c2]; exact h, fun T t => tabs_two p1' p2' p3' p4' keep t⟩, fun b z => .inr ⟨a, dx, List.mem_of_getElem? q1, z⟩, fun b z => .inl z⟩
        obtain ⟨u1, u2⟩ := s1.mut (o := .slt c' (putSD j d vs)) q1 keep ha hd ⟨C, putS j v ws, hm, ne, ⟨.xd [], by unfold slH; rw [upd_ne ne, upd_same], pl_xd⟩, slH_slt ne, (RepO.put r1 j ro).mv mv⟩
        exact p1 _ _ _ u1 (Ev.of u2)
    · exact p1.elim
  · exact p1.elim
/-! making -/
theorem make_lift {Γ : GG} {fx : FX} {g : Gh fx} {ms : List Rg} {δ : Ds} {σ : L2.St} {H : Hp} {Q : VK} {sl : Bool} {xs : List D} {vs : List V} {x dx : Addr} {z : D} (s : Sim Γ g ms δ σ H) (hm : Γ.mg c = some (.ref C)) (r : Reps Γ H (Wt g ms) vs xs) (e : mkD sl c n F xs = some z)
    (hx : H x = none) (hd : H dx = none) (ne : dx ≠ x) (k : ∀ H', Sim Γ g ms δ σ H' → Le (regs ms) H H' → ∀ v, Rep Γ H' (Wt g ms) v z → Q v H') :
    liftSp Γ n F (.ref x :: vs) (upd (upd H dx (.own x)) x (.ins C dx [])) (fun v H2 => v = .non ∧ Q (.ref x) H2) E0 := by
  have sm : Same H (upd (upd H dx (.own x)) x (.ins C dx [])) := fun b o h => by rw [upd_ne (ne_of_none h hx), upd_ne (ne_of_none h hd)]; exact h
  generalize hH2 : upd (upd H dx (.own x)) x (.ins C dx []) = H2 at *
  have ax : H2 x = some (.ins C dx []) := by rw [← hH2, upd_same]
  have ad : H2 dx = some (.own x) := by rw [← hH2, upd_ne ne, upd_same]
  unfold mkD at e
  split at e
  rotate_left
  · cases e
  rename_i hl
  have hl := of_decide_eq_true hl
  let rx : Addr := match sl with | true => dx | false => x
  have hrx : H rx = none := by cases sl <;> assumption
  have arx : H2 rx ≠ none := by cases sl <;> (first | (show H2 dx ≠ none; rw [ad]; exact fun z => nomatch z) | (show H2 x ≠ none; rw [ax]; exact fun z => nomatch z))
  have mv : Mv (fun _ => False) (Wt g ms) (with2 (Wt g ms) x rx) H H2 := ⟨Le.same sm, fun _ z => z.elim, fun b z => by
    rcases z with z | z | z
    · exact .inl z
    · exact .inr (by rw [z]; exact hx)
    · exact .inr (by rw [z]; exact hrx)⟩
  have m0 : MAt Γ H2 (with2 (Wt g ms) x rx) x rx (new0 sl c) := by
    cases sl with
    | true => exact ⟨C, [], hm, ne, ⟨_, ad, pl_own⟩, .inl ⟨ax, rfl⟩, .nil⟩
    | false => exact ⟨rfl, C, dx, [], hm, ax, .nil⟩
  have rsV : ∀ {vs : List V} {xs : List D}, Reps Γ H (Wt g ms) vs xs → SlotsR Γ H2 (with2 (Wt g ms) x rx) (List.replicate xs.length none) ((xs.map S.v).map some) (vs.map some) := by
    intro vs xs r
    induction xs generalizing vs with
    | nil =>
      cases r
      exact .nil
    | cons y ys ih =>
      cases r with
      | cons h r => exact .cons (.v (h.mv mv)) (ih r)
  have at0 : ∀ (j : Nat) (q : Addr × Addr), (some (x, rx) :: List.replicate xs.length none)[j]? = some (some q) → j = 0 ∧ q = (x, rx) := fun j q h => by
    cases j with
    | zero =>
      simp at h
      exact ⟨rfl, h.symm⟩
    | succ j =>
      simp only [List.getElem?_cons_succ, List.getElem?_replicate] at h
      split at h <;> cases h
  have rgs : ∀ b, regs (some (x, rx) :: List.replicate xs.length none) b → b = x ∨ b = rx := by
    rintro b ⟨a, d, hmm, e⟩
    obtain ⟨j, hj⟩ := List.mem_iff_getElem?.mp hmm
    obtain ⟨_, q⟩ := at0 j (a, d) hj
    cases q
    exact e
  refine ⟨with2 (Wt g ms) x rx, some (x, rx) :: List.replicate xs.length none, .m (new0 sl c) :: xs.map .v, by simpa using hl, ⟨.cons (.m m0) (rsV r), fun i j a d b d' h1 h2 nij => ?_, fun b z => .inr (rgs b z), fun b z => ?_, s.tab.ext sm⟩, ?_⟩
  · obtain ⟨z1, _⟩ := at0 _ _ h1
    obtain ⟨z2, _⟩ := at0 _ _ h2
    omega
  · rcases z with z | z | z
    · exact same_al sm b (s.alW z)
    · rw [z, ax]; exact fun y => nomatch y
    · rw [z]; exact arx
  · split at e
    · rename_i o rest q
      rw [q]
      intro v H' ou rv l
      obtain ⟨o', y1, y2⟩ := ou 0 x rx rfl
      simp at y1
      subst y1
      refine ⟨by cases rv; rfl, ?_⟩
      have l2 : Le (fun b => b = x ∨ b = rx) H H' := (Le.same sm).trans (l.mono rgs)
      have lm : Le (regs ms) H H' := ⟨fun b u n t h => l2.keep b u (fun y => by rcases y with y | y <;> rw [y] at h <;> (first | (rw [hx] at h; cases h) | (rw [hrx] at h; cases h))) t h, l2.al, l2.tb⟩
      have mv2 : Mv (fun b => b = x ∨ b = rx) (with2 (Wt g ms) x rx) (Wt g ms) H H' := ⟨l2, fun b y => .inr y, fun b y => .inl (.inl y)⟩
      have mv1 : Mv (fun _ => False) (Wt g ms) (with2 (Wt g ms) x rx) H H := Mv.fr fun b z => by
        rcases z with z | z | z
        · exact .inl z
        · exact .inr (by rw [z]; exact hx)
        · exact .inr (by rw [z]; exact hrx)
      refine k H' (s.step ((s.sl.mv mv1 fun _ _ z => z).mv mv2 fun b z y => ?_) lm Kp.rfl) lm _ ?_
      · have := s.alR z
        rcases y with y | y <;> rw [y] at this
        · exact this hx
        · exact this hrx
      · have wk : Mv (fun _ => False) (with2 (Wt g ms) x rx) (Wt g ms) H' H' := Mv.wk fun b z => .inl z
        match sl, o, e, y2 with
        | _, .ins c' fs, e, ⟨_, C', d', gs, h1, h2, h3⟩ =>
          cases e
          exact .ins h1 h2 (s.fresh hx) (h3.mv wk)
        | _, .slt c' vs', e, ⟨C', ws, h1, h2, h3, h4, h5⟩ =>
          replace e : (allS vs').map (D.slt c' ·) = some z := e
          cases qa : allS vs' with
          | none => rw [qa] at e; cases e
          | some ds =>
            rw [qa] at e
            cases e
            exact .slt h1 h4 (s.fresh hx) (s.fresh hrx) (by obtain ⟨u, e, _⟩ := h3; rw [e]; exact fun z => nomatch z) ((h5.all qa).mv wk)
        | _, .lst _, e, _ => cases e
    · cases e
theorem Reps.const {Γ : GG} : ∀ {vs : List V} {ds : List D}, (∀ H W, Reps Γ H W vs ds) → ∀ {H : Hp} {W : As} {us : List V} {es : List D}, Reps Γ H W us es → Reps Γ H W (us ++ vs) (es ++ ds) := fun h => fun r => r.app (h _ _)
theorem de_make {sl : Bool} {dvs : List V} {dds : List D} {ds : List Value} {fd : FuncData} {ps : List Str} {p pos : Pos} (M : Mk X.K C fI) (FO : FnOk X.prog X.w X.K X.mg X.base CX0 k fI fd ps (liftSp (gg X Wx.T) n F)) (hr : Room (k + 1) X.A) (hm : X.mg c = some (.ref C)) (hb : Binds X.K fd ps ds) (hd : Vals dvs ds) (hdv : ∀ H W, Reps (gg X Wx.T) H W dvs dds)
    (ha : DA X Wx (e :: es) As') (hg : Gl X c := by rfl) (hdb : (c == ("__debug__" : Str)) = false := by decide)
    (he : starEach (e :: es) X.env = (false, eval e X.env) :: starEach es X.env := by rfl) (hpl : (backTo pos (starEach es X.env)).any (·.1) = false := by rfl) : DE X Wx (.Call (.Name c p) (e :: es) [] pos) (eMake sl c n F As' dds) := by
  refine pe_of (pe_make M FO hr hg hm hb hd pass0 ha hdb he hpl) fun σ H Q ⟨g, ms, δ, s, p⟩ => ?_
  refine liftA_bnd s p fun d1 δ1 H1 vs s1 l1 r1 p1 => ?_
  intro x dx hx hd ne
  cases q : mkD sl c n F (d1 ++ dds) with
  | none => rw [q] at p1; exact p1.elim
  | some z =>
    rw [q] at p1
    exact make_lift s1 hm (r1.app (hdv _ _)) q hx hd ne p1
/-! methods, properties -/
theorem de_methI (ho : DE X Wx o Fo) (hm : X.mg c = some (.ref C)) (cl : Cls X.K C) (me : Meth X.K C m g0) (FO : FnR X.prog X.w X.K X.mg X.base CX0 k g0 (liftSp (gg X Wx.T) n F)) (hr : Room k X.A) (ha : DV X Wx (e :: es) Av)
    (h : ∀ {ta : TE} {t : TA} {sp : Sp}, PE X o ta → FnR X.prog X.w X.K X.mg X.base CX0 k g0 sp → PA X (e :: es) t → PE X (.Call (.Attribute o m apos) (e :: es) [] pos) (tMethR C m sp E0 ta t)) :
    DE X Wx (.Call (.Attribute o m apos) (e :: es) [] pos) (eMethI c m n F Fo Av) := by
  refine pe_of (h ho FO ha) fun σ H Q ⟨g, ms, δ, s, p⟩ => ?_
  refine lift_bnd s p fun d δ1 H1 v s1 l1 r1 p1 => ?_
  split at p1
  · rename_i cc
    rw [Bool.and_eq_true] at cc
    obtain ⟨a, dx, gs, fs, rfl, rfl, h2, h3⟩ := isI_rep hm cc.1 r1
    refine ⟨a, dx, gs, rfl, h2, h3.none cc.2, ?_⟩
    refine liftV_bnd s1 p1 fun d2 δ2 H2 vs s2 l2 r2 p2 => ?_
    exact call_lift0 s2 (.cons (.v (r1.up l2)) r2) p2
  · exact p1.elim
theorem de_methS (ho : DE X Wx o Fo) (hm : X.mg c = some (.ref C)) (FO : FnR X.prog X.w X.K X.mg X.base CX0 k g0 (liftSp (gg X Wx.T) n F)) (ha : DV X Wx (e :: es) Av)
    (h : ∀ {ta : TE} {t : TA} {sp : Sp}, PE X o ta → FnR X.prog X.w X.K X.mg X.base CX0 k g0 sp → PA X (e :: es) t → PE X (.Call (.Attribute o m apos) (e :: es) [] pos) (tMethSl C sp E0 ta t)) :
    DE X Wx (.Call (.Attribute o m apos) (e :: es) [] pos) (eMethS c n F Fo Av) := by
  refine pe_of (h ho FO ha) fun σ H Q ⟨g, ms, δ, s, p⟩ => ?_
  refine lift_bnd s p fun d δ1 H1 v s1 l1 r1 p1 => ?_
  split at p1
  · rename_i cc
    obtain ⟨a, dx, gs, fs, rfl, rfl, h2, h3⟩ := isS_rep hm cc r1
    refine ⟨a, dx, gs, rfl, h2, ?_⟩
    refine liftV_bnd s1 p1 fun d2 δ2 H2 vs s2 l2 r2 p2 => ?_
    exact call_lift0 s2 (.cons (.v (r1.up l2)) r2) p2
  · exact p1.elim
theorem de_propS (ho : DE X Wx o Fo) (hm : X.mg c = some (.ref C)) (FO : FnR X.prog X.w X.K X.mg X.base CX0 k g0 (liftSp (gg X Wx.T) 1 F))
    (h : ∀ {ta : TE} {sp : Sp}, PE X o ta → FnR X.prog X.w X.K X.mg X.base CX0 k g0 sp → PE X (.Attribute o f pos) (tPropSl C sp E0 ta)) :
    DE X Wx (.Attribute o f pos) (ePropS c F Fo) := by
  refine pe_of (h ho FO) fun σ H Q ⟨g, ms, δ, s, p⟩ => ?_
  refine lift_bnd s p fun d δ1 H1 v s1 l1 r1 p1 => ?_
  split at p1
  · rename_i cc
    obtain ⟨a, dx, gs, fs, rfl, rfl, h2, h3⟩ := isS_rep hm cc r1
    exact ⟨a, dx, gs, rfl, h2, call_lift0 s1 (.cons (.v r1) .nil) p1⟩
  · exact p1.elim
end
end DL

set_option Elab.async false
set_option linter.all false
set_option maxRecDepth 100000
set_option maxHeartbeats 4000000
set_option autoImplicit false
/-! isinstance by trees -/
namespace DL
open L2 PyProof.Rows PySem.Spec PySem G58 SlX
variable [TbL]
inductive Tag where
  | b (n : String) | o (c : Str)
  deriving DecidableEq
abbrev Tab := List ((Tag × Tag) × Bool)
def tagOf (sl il : List Str) : D → Option Tag
  | .non => some (.b "NoneType")
  | .bl _ => some (.b "bool")
  | .int _ => some (.b "int")
  | .str _ => some (.b "str")
  | .tup _ => some (.b "tuple")
  | .lst _ => some (.b "list")
  | .dct _ => some (.b "dict")
  | .slt c _ => if sl.contains c then some (.o c) else none
  | .ins c _ => if il.contains c then some (.o c) else none
  | _ => none
def clsTag : D → Option Tag
  | .ty n => some (.b n)
  | .gl c => some (.o c)
  | _ => none
def tabAt (t u : Tag) : Tab → Option Bool
  | [] => none
  | ((t', u'), b) :: r => if t' = t ∧ u' = u then some b else tabAt t u r
def fIsi (sl il : List Str) (tab : Tab) : List D → Option D
  | [d, k] => match tagOf sl il d, clsTag k with
    | some t, some u => (tabAt t u tab).map .bl
    | _, _ => none
  | _ => none
def TagV (mg : Str → Option Value) : Tag → Value → Prop
  | .b n, v => v = .type n
  | .o c, v => ∃ C, v = .ref C ∧ mg c = some (.ref C)
structure TabOk (K : PySem.W.Frag) (mg : Str → Option Value) (sl il : List Str) (tab : Tab) : Prop where
  kit : ∀ t u b, ((t, u), b) ∈ tab → ∀ tv uv, TagV mg t tv → TagV mg u uv → PySem.W.kitOne K tv uv = some b
  sls : ∀ c C, c ∈ sl → mg c = some (.ref C) → SCls K C ∧ SIsi K C
  ils : ∀ c C, c ∈ il → mg c = some (.ref C) → Cls K C ∧ SIsi K C
theorem tabAt_mem {t u : Tag} {b : Bool} : ∀ {tab : Tab}, tabAt t u tab = some b → ((t, u), b) ∈ tab
  | [], h => by cases h
  | ((t', u'), b') :: r, h => by
    unfold tabAt at h
    split at h
    · rename_i c
      cases h
      rw [c.1, c.2]
      exact List.mem_cons_self
    · exact List.mem_cons_of_mem _ (tabAt_mem h)
section
variable {X : Cx}
abbrev rIsiAll (K : PySem.W.Frag) : List V → Hp → VK → Prop := fun xs H Q => rIsi K xs H Q ∨ ∃ u, rIsiSl K u xs H Q
theorem call_isiAll : CallR X (.builtin "isinstance") (rIsiAll X.K) := fun pins s σ H xs us Q I rv z => by
  rcases z with z | ⟨u, z⟩
  · exact call_isi pins s σ H xs us Q I rv z
  · exact call_isiSl u pins s σ H xs us Q I rv z
theorem ol_isi {sl il : List Str} {tab : Tab} (T : TabOk X.K X.mg sl il tab) : OpL X (rIsiAll X.K) (fIsi sl il tab) := ⟨fun T' fx g ms δ σ H vs ds z Q s r0 h k => by
  unfold fIsi at h
  split at h
  rotate_left
  · cases h
  rename_i d kk
  obtain ⟨v, w, rfl, r1, r2⟩ := reps2 r0
  split at h
  rotate_left
  · cases h
  rename_i t u et eu
  cases q : tabAt t u tab with
  | none => rw [q] at h; cases h
  | some b =>
  rw [q] at h
  cases h
  have kt := T.kit t u b (tabAt_mem q)
  -- the class
  obtain ⟨uv, hu1, hu2⟩ : ∃ uv, TagV X.mg u uv ∧ ClsV w uv := by
    unfold clsTag at eu
    split at eu <;> cases eu
    · cases r2
      exact ⟨_, rfl, .ty _⟩
    · cases r2 with
      | gl hg => exact ⟨_, ⟨_, rfl, hg⟩, .own _⟩
  have fin := k H (Same.refl _) _ (.bl b)
  have base : ∀ tv, TagV X.mg t tv → TyX X.K H v tv → rIsiAll X.K [v, w] H Q := fun tv h1 h2 => .inl ⟨v, w, tv, uv, b, rfl, hu2, h2, kt tv uv h1 hu1, fin⟩
  unfold tagOf at et
  split at et
  · cases et; cases r1; exact base _ rfl (.base .non)
  · cases et; cases r1; exact base _ rfl (.base (.bl _))
  · cases et; cases r1; exact base _ rfl (.base (.int _))
  · cases et; cases r1; exact base _ rfl (.base (.str _))
  · cases et
    cases r1 with
    | tup h1 _ =>
      rcases h1 with ⟨(h1 | ⟨o, h1⟩), _⟩ | h1
      · exact base _ rfl (.base (.tup h1))
      · exact base _ rfl (.fTuple h1)
      · rcases h1 with (h1 | ⟨o, h1⟩) | ⟨o, its, n, e1, e2, _⟩
        · cases h1
        · cases h1
        · exact base _ rfl (.kTuple e1 e2)
  · cases et
    cases r1 with
    | lst h1 _ => exact base _ rfl (.base (.lst h1.1))
  · cases et
    cases r1 with
    | dct h1 _ _ => exact base _ rfl (.base (.dK h1))
  · split at et
    · rename_i hc
      cases et
      cases r1 with
      | slt h1 h2 h3 h4 h5 h6 =>
        obtain ⟨q1, q2⟩ := T.sls _ _ (by simpa using hc) h1
        exact .inr ⟨uv, _, _, _, _, w, b, rfl, (by cases hu2 <;> rfl), fun w' hw => hu2.eq hw, h2, q1, q2, kt _ _ ⟨_, rfl, h1⟩ hu1, fin⟩
    · cases et
  · split at et
    · rename_i hc
      cases et
      cases r1 with
      | ins h1 h2 h3 h4 =>
        obtain ⟨q1, q2⟩ := T.ils _ _ (by simpa using hc) h1
        exact base _ ⟨_, rfl, h1⟩ (.base (.ins h2 q1 q2.ca q2.cn q2.ct q2.cm))
    · cases et
  · cases et⟩
end
end DL

set_option Elab.async false
set_option linter.all false
set_option maxRecDepth 100000
set_option maxHeartbeats 4000000
set_option autoImplicit false
/-! what the generator leans on -/
namespace DL
open L2 PyProof.Rows PySem.Spec PySem G58 SlX
variable [TbL]
/-- a class and how it is made, with so many defaults -/
structure MkC (Γ : GG) (C : Addr) (k n : Nat) (F : FnD) (dd : List D) : Prop where
  ex : ∃ (fI : Addr) (fd : FuncData) (ps : List Str) (ds : List Value) (dvs : List V), Mk Γ.K C fI ∧ FnOk Γ.P Γ.w Γ.K Γ.mg Γ.base CX0 k fI fd ps (liftSp Γ n F) ∧ Binds Γ.K fd ps ds ∧ Vals dvs ds ∧ ∀ H W, Reps Γ H W dvs dd
section
variable {X : Cx} {Wx : WT} {n k : Nat} {c m f : Str} {C g0 p0 : Addr} {e o : Expr} {es : List Expr} {p pos apos : Pos} {As' : ME (List D)} {Av : ME (List AV)} {F : FnD} {dd : List D} {sl : Bool} {Fo : ME D}
theorem de_mk (sl : Bool) (M : MkC (gg X Wx.T) C k n F dd) (hr : Room (k + 1) X.A) (hm : X.mg c = some (.ref C)) (ha : DA X Wx (e :: es) As') (hg : Gl X c := by rfl) (hdb : (c == ("__debug__" : Str)) = false := by decide)
    (he : starEach (e :: es) X.env = (false, eval e X.env) :: starEach es X.env := by rfl) (hpl : (backTo pos (starEach es X.env)).any (·.1) = false := by rfl) : DE X Wx (.Call (.Name c p) (e :: es) [] pos) (eMake sl c n F As' dd) := by
  obtain ⟨fI, fd, ps, ds, dvs, mk, FO, b, v, r⟩ := M.ex
  exact de_make mk FO hr hm b v r ha hg hdb he hpl
theorem de_mI {pl : Sem Bool} (ho : DE X Wx o Fo) (hm : X.mg c = some (.ref C)) (cl : Cls X.K C) (me : Meth X.K C m g0) (FO : FnR X.prog X.w X.K X.mg X.base CX0 k g0 (liftSp (gg X Wx.T) n F)) (hr : Room k X.A) (ha : DV X Wx (e :: es) Av)
    (hst : starEach (e :: es) X.env = (false, eval e X.env) :: starEach es X.env := by rfl) (hpl : (backTo pos (starEach es X.env)).any (·.1) = false := by rfl)
    (ht : eval (.Call (.Attribute o m apos) (e :: es) [] pos) X.env = (do
      let ov ← eval o X.env
      standAt apos.atName
      let (f, first) ← holding [ov] (getMethod ov m pl)
      callWith pos f first (backTo pos (starEach (e :: es) X.env)) (backToKw pos (keywordEach [] X.env))) := by rfl) :
    DE X Wx (.Call (.Attribute o m apos) (e :: es) [] pos) (eMethI c m n F Fo Av) :=
  de_methI ho hm cl me FO hr ha fun h1 h2 h3 => pe_methR (pl := pl) h1 cl me h2 hr pass0 h3 hst hpl ht
theorem de_mS {pl : Sem Bool} (ho : DE X Wx o Fo) (hm : X.mg c = some (.ref C)) (cl : SCls X.K C) (me : Meth X.K C m g0) (FO : FnR X.prog X.w X.K X.mg X.base CX0 k g0 (liftSp (gg X Wx.T) n F)) (hr : Room k X.A) (ha : DV X Wx (e :: es) Av)
    (hst : starEach (e :: es) X.env = (false, eval e X.env) :: starEach es X.env := by rfl) (hpl : (backTo pos (starEach es X.env)).any (·.1) = false := by rfl)
    (ht : eval (.Call (.Attribute o m apos) (e :: es) [] pos) X.env = (do
      let ov ← eval o X.env
      standAt apos.atName
      let (f, first) ← holding [ov] (getMethod ov m pl)
      callWith pos f first (backTo pos (starEach (e :: es) X.env)) (backToKw pos (keywordEach [] X.env))) := by rfl) :
    DE X Wx (.Call (.Attribute o m apos) (e :: es) [] pos) (eMethS c n F Fo Av) :=
  de_methS ho hm FO ha fun h1 h2 h3 => pe_methSl (pl := pl) h1 cl me h2 hr pass0 h3 hst hpl ht
/-- what of the written part a property of a class with slots must have -/
structure PropS (K : PySem.W.Frag) (C : Addr) (f : Str) (p g : Addr) : Prop where
  at_ : PySem.W.findIn K (.ref C) f = some (some (.ref p))
  get : PySem.W.specialIn K (.ref p) "__get__" = some (some (.builtin "property.__get__"))
  tak : PySem.W.takesIn K (.ref p) = some true
  rec_ : ∃ rest, PySem.W.recIn K p "property" = some (.ref g :: rest)
theorem de_pS (ho : DE X Wx o Fo) (hm : X.mg c = some (.ref C)) (cl : SCls X.K C) (pr : PropS X.K C f p0 g0) (FO : FnR X.prog X.w X.K X.mg X.base CX0 k g0 (liftSp (gg X Wx.T) 1 F)) (hr : Room (k + 1) X.A) (hb : attributeBase o f X.env (eval o X.env) = eval o X.env := by rfl) :
    DE X Wx (.Attribute o f pos) (ePropS c F Fo) :=
  de_propS ho hm FO fun h1 h2 => pe_propSl h1 cl pr.at_ pr.get pr.tak pr.rec_ h2 hr (fun _ _ _ _ z => z) hb
end
/-! a list or a tuple walked -/
section
variable {X : Cx} {Wx : WT} {tg e : Expr} {Fe : ME D}
def iAny (K : PySem.W.Frag) (tl : TE) : TI := fun σ H R => tl σ H fun x H1 => (∃ a, x = .ref a ∧ (∃ xs, SqL K H1 a xs) ∧ R (Itl K a) H1) ∨ (∃ a, x = .ref a ∧ (∃ xs, SqT K H1 a xs) ∧ R (Itt K a) H1)
theorem pi_any {l : Expr} {tl : TE} (hl : PE X l tl) : PI X tg l (iAny X.K tl) := by
  refine ⟨fun pins s σ H R I h => ?_⟩
  refine thn (hl.run pins s σ H _ I h) fun v s1 ⟨x, H1, I1, r1, q1⟩ => ?_
  rcases q1 with ⟨a, e, ⟨xs, hq⟩, q⟩ | ⟨a, e, ⟨xs, hq⟩, q⟩
  · subst e
    cases r1
    obtain ⟨its, rv, p, hz⟩ := I1.list hq
    refine wpAny_pyIter_list p.isList ?_
    refine ⟨s1.heap.objs.size, [s1.heap.objs.size], _, _, H1, rfl, I1.kept (t' := s1.toks) fun b o e => Heap.get?_push_of_some _ e, turn_list a _, ⟨_, Heap.get?_push_size _ rfl, rfl, rfl⟩, fun b hb => ?_, q⟩
    have e : b = s1.heap.objs.size := by simpa using hb
    subst e
    exact I1.fpOk (Nat.le_refl _) (I1.hok.fresh (Nat.le_refl _))
  · subst e
    cases r1
    obtain ⟨its, rv, p, hz⟩ := I1.tuple hq
    refine wpAny_pyIter_tuple (show s1.heap.IsTuple a its.toArray from p) ?_
    refine ⟨s1.heap.objs.size, [s1.heap.objs.size], _, _, H1, rfl, I1.kept (t' := s1.toks) fun b o e => Heap.get?_push_of_some _ e, turn_tuple a _, ⟨_, Heap.get?_push_size _ rfl, rfl, rfl⟩, fun b hb => ?_, q⟩
    have e : b = s1.heap.objs.size := by simpa using hb
    subst e
    exact I1.fpOk (Nat.le_refl _) (I1.hok.fresh (Nat.le_refl _))
theorem di_seq (h : DE X Wx e Fe) : DI X Wx tg e (iSeq Fe) := by
  refine pi_of (pi_any h) fun σ H R ⟨g, ms, δ, s, p⟩ => ?_
  refine lift_bnd s p fun d δ1 H1 v s1 l1 r1 p1 => ?_
  obtain ⟨ds, e, k⟩ := post_opt s1 p1
  unfold asItems at e
  split at e <;> cases e
  · cases r1 with
    | lst h1 h2 => exact .inl ⟨_, rfl, ⟨_, h1.sq⟩, k _ (walk_lst h1 h2)⟩
  · cases r1 with
    | tup h1 h2 => exact .inr ⟨_, rfl, ⟨_, h1.sq⟩, k _ (walk_tup h1 h2)⟩
end
/-! slices -/
def cutD (xs : List D) (lo hi : Option Int) : List D := (xs.drop (HT.sIx xs.length 0 lo)).take (HT.sIx xs.length xs.length hi - HT.sIx xs.length 0 lo)
def slD (lo hi : Option Int) : D → Option D
  | .lst xs => some (.lst (cutD xs lo hi))
  | .tup xs => if HT.sIx xs.length 0 lo = 0 ∧ HT.sIx xs.length xs.length hi = xs.length then none else some (.tup (cutD xs lo hi))
  | .str x => if szOk x.length then some (.str (cutS x lo hi)) else none
  | _ => none
def oNone : ME (Option Int) := rtn none
def asI : D → Option (Option Int)
  | .int i => some (some i)
  | _ => none
def oSome (F : ME D) : ME (Option Int) := bnd F fun d => opt (asI d)
def eSlice (F : ME D) (l h : ME (Option Int)) : ME D := bnd F fun x => bnd l fun lo => bnd h fun hi => opt (slD lo hi x)
def liftO (Γ : GG) (Wx : WT) (F : ME (Option Int)) : L2.St → Hp → (Option Int → Hp → Prop) → Prop := fun σ H Q => ∃ (g : Gh Wx.fx) (ms : List Rg) (δ : Ds), Sim Γ g ms δ σ H ∧ Post Γ Wx g ms σ H (fun b _ H' => Q b H') (F δ)
section
variable {X : Cx} {Wx : WT} {e a : Expr} {lo hi : Option Expr} {p2 pos : Pos} {Fe Fa : ME D} {Fl Fh : ME (Option Int)}
theorem po_of {t t' : TO} (h : PO X lo t) (w : ∀ σ H Q, t' σ H Q → t σ H Q) : PO X lo t' := ⟨fun p s σ H Q I z => h.run p s σ H Q I (w σ H Q z)⟩
abbrev DOp (X : Cx) (Wx : WT) (e : Option Expr) (F : ME (Option Int)) : Prop := PO X e (liftO (gg X Wx.T) Wx F)
theorem do_none : DOp X Wx none oNone := po_of po_none fun σ H Q ⟨g, ms, δ, s, p⟩ => post_rtn s p
theorem do_some (h : DE X Wx a Fa) : DOp X Wx (some a) (oSome Fa) := by
  refine po_of (po_some h) fun σ H Q ⟨g, ms, δ, s, p⟩ => ?_
  refine lift_bnd s p fun d δ1 H1 v s1 l1 r1 p1 => ?_
  obtain ⟨z, e, k⟩ := post_opt s1 p1
  unfold asI at e
  split at e <;> cases e
  rw [rep_int r1]
  exact ⟨_, rfl, k⟩
theorem Reps.drop {Γ : GG} {H : Hp} {W : As} : ∀ {v : List V} {d : List D} (j : Nat), Reps Γ H W v d → Reps Γ H W (v.drop j) (d.drop j)
  | _, _, 0, r => r
  | _, _, _ + 1, .nil => .nil
  | _, _, j + 1, .cons _ r => Reps.drop j r
theorem Reps.take {Γ : GG} {H : Hp} {W : As} : ∀ {v : List V} {d : List D} (j : Nat), Reps Γ H W v d → Reps Γ H W (v.take j) (d.take j)
  | _, _, 0, r => .nil
  | _, _, _ + 1, .nil => .nil
  | _, _, j + 1, .cons h r => .cons h (Reps.take j r)
theorem Reps.cut {Γ : GG} {H : Hp} {W : As} {v : List V} {d : List D} {lo hi : Option Int} (r : Reps Γ H W v d) : Reps Γ H W (cutV v lo hi) (cutD d lo hi) := by
  unfold cutV cutD
  rw [r.len]
  exact (r.drop _).take _
theorem de_slice (he : DE X Wx e Fe) (hl : DOp X Wx lo Fl) (hh : DOp X Wx hi Fh) : DE X Wx (.Subscript e (.Slice lo hi none p2) pos) (eSlice Fe Fl Fh) := by
  refine pe_of (pe_slice (SlR.or sl_list (SlR.or sl_tup sl_str)) he hl hh) fun σ H Q ⟨g, ms, δ, s, p⟩ => ?_
  refine lift_bnd s p fun d δ1 H1 v s1 l1 r1 p1 => ⟨g, ms, δ1, s1, post_bnd p1 fun l δ2 H2 s2 l2 p2 => ⟨g, ms, δ2, s2, post_bnd p2 fun h δ3 H3 s3 l3 p3 => ?_⟩⟩
  obtain ⟨z, e, k⟩ := post_optN s3 p3
  have r3 := r1.up (l2.trans l3)
  unfold slD at e
  split at e
  · cases e
    cases r3 with
    | lst h1 h2 => exact .inl ⟨_, _, rfl, h1.sq, fun p np => k _ (same_new np) _ (.lst ⟨upd_same, s3.fresh np⟩ (h2.cut.up (Le.same (same_new np))))⟩
  · split at e
    · cases e
    · rename_i c
      cases e
      cases r3 with
      | tup h1 h2 => exact .inr (.inl ⟨_, _, rfl, h1.sq, by rw [h2.len]; exact c, fun p np => k _ (same_new np) _ (.tup (.inl ⟨.inl upd_same, s3.fresh np⟩) (h2.cut.up (Le.same (same_new np))))⟩)
  · split at e
    · rename_i c
      cases e
      rw [rep_str r3]
      exact .inr (.inr ⟨_, rfl, sz_line c, k H3 (Same.refl _) _ (.str _)⟩)
    · cases e
  · cases e
end
/-! tests, an item of a list that changes, pairs -/
def opNeg : D → Option D
  | .int i => some (.int (-i))
  | _ => none
def ixM (i : Nat) (d : D) : ME D := fun δ => match δ[i]?, d with
  | some (some (.m (.lst ds))), .int k => (match atI ds k with
    | some x => .ok x δ
    | none => .bad)
  | _, _ => .bad
def eIxM (i : Nat) (F : ME D) : ME D := fun δ => if isML i δ then bnd F (fun d => ixM i d) δ else .bad
def sPar (n i j : Nat) (A : ME (List D)) : MS := sBnd A fun ds δ => match ds with
  | [x, y] => if canSet n δ i && canSet n (δ.set i (some (.v x))) j then .nx ((δ.set i (some (.v x))).set j (some (.v y))) else .bad
  | _ => .bad
section
variable {X : Cx} {Wx : WT} {n : Nat} {a b : Expr} {pos : Pos} {Fa Fb : ME D}
theorem de_neg (ha : DE X Wx a Fa) : DE X Wx (.UnaryOp .USub a pos) (eUn opNeg Fa) := by
  refine pe_of (pe_un un_neg ha) fun σ H Q ⟨g, ms, δ, s, p⟩ => ?_
  refine lift_bnd s p fun d δ1 H1 v s1 l1 r1 p1 => ?_
  obtain ⟨z, e, k⟩ := post_opt s1 p1
  unfold opNeg at e
  split at e <;> cases e
  rw [rep_int r1]
  exact ⟨_, rfl, k _ (.int _)⟩
theorem dt_cmpR {op : CmpOp} {r : R2} {f : D → D → Option D} (ho : OpR X (compareOp op) r) (F : Op2 X r f) (ha : DE X Wx a Fa) (hb : DE X Wx b Fb) (hm : behindInMarks op b = false) : DT X Wx (.Compare a [op] [b] pos) (tVal (eBin f Fa Fb)) := by
  refine pt_of (pt_cmpR ho ha hb hm) fun σ H Q ⟨g, ms, δ, s, p⟩ => ?_
  have p' : Post (gg X Wx.T) Wx g ms σ H (fun b _ H' => Q b H') (bnd Fa (fun x => bnd Fb fun y => bnd (opt (f x y)) fun z => opt (asB z)) δ) := by
    have e : bnd Fa (fun x => bnd Fb fun y => bnd (opt (f x y)) fun z => opt (asB z)) δ = tVal (eBin f Fa Fb) δ := by
      unfold tVal eBin bnd
      cases Fa δ with
      | ok a δ1 =>
        simp only []
        cases Fb δ1 <;> rfl
      | ex x δ1 => rfl
      | bad => rfl
    rw [e]
    exact p
  refine lift_bnd s p' fun d1 δ1 H1 x s1 l1 r1 p1 => lift_bnd s1 p1 fun d2 δ2 H2 y s2 l2 r2 p2 => ?_
  unfold bnd at p2
  cases q : f d1 d2 with
  | none => rw [q] at p2; exact p2.elim
  | some z =>
    rw [q] at p2
    refine F.go _ _ g ms δ2 σ H2 x y d1 d2 z _ s2 (r1.up l2) r2 q fun H' sm v rv => ?_
    obtain ⟨c, e, k⟩ := post_optN s2 p2
    cases asB_some e
    exact ⟨c, rep_bl rv, k H' sm⟩
theorem dt_isN {j pos'} (ha : DE X Wx a Fa) : DT X Wx (.Compare a [.Is] [.Constant .none j pos'] pos) (tVal (eIsN Fa)) := by
  refine pt_of (pt_cmp (pc_isN ha)) fun σ H Q ⟨g, ms, δ, s, p⟩ => ?_
  have p' : Post (gg X Wx.T) Wx g ms σ H (fun b _ H' => Q b H') (bnd Fa (fun x => rtn (isNon x)) δ) := by
    have e : bnd Fa (fun x => rtn (isNon x)) δ = tVal (eIsN Fa) δ := by
      unfold tVal eIsN bnd
      cases Fa δ <;> rfl
    rw [e]
    exact p
  refine lift_bnd s p' fun d1 δ1 H1 x s1 l1 r1 p1 => ?_
  exact ⟨_, by rw [rep_non r1], post_rtn s1 p1⟩
theorem dt_notN {j pos'} (ha : DE X Wx a Fa) : DT X Wx (.Compare a [.IsNot] [.Constant .none j pos'] pos) (tVal (eNotN Fa)) := by
  refine pt_of (pt_cmp (pc_notN ha)) fun σ H Q ⟨g, ms, δ, s, p⟩ => ?_
  have p' : Post (gg X Wx.T) Wx g ms σ H (fun b _ H' => Q b H') (bnd Fa (fun x => rtn (!isNon x)) δ) := by
    have e : bnd Fa (fun x => rtn (!isNon x)) δ = tVal (eNotN Fa) δ := by
      unfold tVal eNotN bnd
      cases Fa δ <;> rfl
    rw [e]
    exact p
  refine lift_bnd s p' fun d1 δ1 H1 x s1 l1 r1 p1 => ?_
  exact ⟨_, by rw [rep_non r1], post_rtn s1 p1⟩
theorem de_ixM {i : Nat} (ho : PE X a (tVar i)) (hb : DE X Wx b Fb) (hs : PlainIx b) : DE X Wx (.Subscript a b pos) (eIxM i Fb) := by
  refine pe_of (pe_ix ix_list ho hb hs) fun σ H Q ⟨g, ms, δ, s, p⟩ => ?_
  unfold eIxM at p
  split at p
  · rename_i c
    obtain ⟨ds, hd⟩ := isML_some c
    obtain ⟨l, xs, q1, q2, q3, q4, q5⟩ := s.list hd
    refine ⟨_, q2, ?_⟩
    refine lift_bnd s p fun d1 δ1 H1 x s1 l1 r1 p1 => ?_
    unfold ixM at p1
    split at p1
    · rename_i ds1 k e1
      split at p1
      · rename_i y ey
        obtain ⟨l', xs1, w1, w2, w3, w4, w5⟩ := s1.list e1
        rw [q2] at w2
        cases w2
        obtain ⟨v, e1, e2⟩ := w4.atI ey
        rw [rep_int r1]
        exact ⟨_, _, _, v, rfl, rfl, SqL.of w3, e1, p1 H1 s1 Le.refl _ e2⟩
      · exact p1.elim
    · exact p1.elim
  · exact p.elim
theorem ds_par {i j : Nat} {x y : Str} {As' : ME (List D)} {px py pt : Pos} {kt k2 pt2} (hc : X.calm = true) (hN : X.N.Nodup) (hi : X.N[i]? = some x) (hj : X.N[j]? = some y) (hij : i ≠ j)
    (hx : X.env.scope.names.lookup x = some .local) (hy : X.env.scope.names.lookup y = some .local) (ha : DA X Wx [a, b] As')
    (hw : swappedStores [.Tuple [.Name x px, .Name y py] kt pt] (.Tuple [a, b] k2 pt2) X.env = pure (some [x, y]))
    (hs : swapsWithSole [.Tuple [.Name x px, .Name y py] kt pt] (.Tuple [a, b] k2 pt2) pos.line X.env = pure false := by rfl) :
    DSt X n Wx (.Assign [.Tuple [.Name x px, .Name y py] kt pt] (.Tuple [a, b] k2 pt2) pos) (sPar n i j As') := by
  refine ps_of (ps_par hc hN hi hj hij hx hy ha hw hs) fun D σ H ⟨g, ms, δ, e, s, p⟩ => ?_
  refine ⟨g, ms, δ, s, spost_bnd p fun ds δ1 H1 s1 l1 p1 vs r1 => ?_⟩
  split at p1
  · split at p1
    · rename_i d1 d2 c
      rw [Bool.and_eq_true, ← e] at c
      obtain ⟨v, w, rfl, r1, r2⟩ := reps2 r1
      refine ⟨v, w, rfl, ?_⟩
      have s2 := s1.setV c.1 r1
      have s3 := s2.setV c.2 (r2.mv (Mv.wk fun b z => z.imp id regs_set_none))
      exact p1 _ _ H1 s3 (Ev.setN.trans Ev.setN)
    · exact p1.elim
  · exact p1.elim
end
/-! the table of isinstance -/
def KitE (K : PySem.W.Frag) (mg : Str → Option Value) (e : (Tag × Tag) × Bool) : Prop := ∀ tv uv, TagV mg e.1.1 tv → TagV mg e.1.2 uv → PySem.W.kitOne K tv uv = some e.2
def TabK (K : PySem.W.Frag) (mg : Str → Option Value) : Tab → Prop
  | [] => True
  | e :: r => KitE K mg e ∧ TabK K mg r
section
variable {K : PySem.W.Frag} {mg : Str → Option Value} {a b : String} {c d : Str} {C E : Addr} {r : Bool}
theorem kitE_bb (h : kitB a b = some r) : KitE K mg ((.b a, .b b), r) := fun tv uv h1 h2 => by
  cases (show tv = .type a from h1)
  cases (show uv = .type b from h2)
  exact kit_ty h
theorem kitE_bo (hm : mg c = some (.ref C)) (h : PySem.W.kitOne K (.type a) (.ref C) = some r) : KitE K mg ((.b a, .o c), r) := fun tv uv h1 h2 => by
  cases (show tv = .type a from h1)
  obtain ⟨C', rfl, h2'⟩ := (show ∃ C', uv = .ref C' ∧ mg c = some (.ref C') from h2)
  rw [hm] at h2'
  cases h2'
  exact h
theorem kitE_ob (hm : mg c = some (.ref C)) (h : PySem.W.kitOne K (.ref C) (.type a) = some r) : KitE K mg ((.o c, .b a), r) := fun tv uv h1 h2 => by
  cases (show uv = .type a from h2)
  obtain ⟨C', rfl, h1'⟩ := (show ∃ C', tv = .ref C' ∧ mg c = some (.ref C') from h1)
  rw [hm] at h1'
  cases h1'
  exact h
theorem kitE_oo (hm : mg c = some (.ref C)) (hm' : mg d = some (.ref E)) (h : PySem.W.kitOne K (.ref C) (.ref E) = some r) : KitE K mg ((.o c, .o d), r) := fun tv uv h1 h2 => by
  obtain ⟨C', rfl, h1'⟩ := (show ∃ C', tv = .ref C' ∧ mg c = some (.ref C') from h1)
  obtain ⟨E', rfl, h2'⟩ := (show ∃ C', uv = .ref C' ∧ mg d = some (.ref C') from h2)
  rw [hm] at h1'
  rw [hm'] at h2'
  cases h1'
  cases h2'
  exact h
theorem TabK.kit : ∀ {tab : Tab}, TabK K mg tab → ∀ t u b, ((t, u), b) ∈ tab → ∀ tv uv, TagV mg t tv → TagV mg u uv → PySem.W.kitOne K tv uv = some b
  | [], _, _, _, _, h => by cases h
  | e :: r, ⟨h1, h2⟩, t, u, b, h => by
    rcases List.mem_cons.mp h with z | z
    · subst z
      exact h1
    · exact TabK.kit h2 t u b z
end
end DL

set_option Elab.async false
set_option linter.all false
set_option maxRecDepth 100000
set_option maxHeartbeats 4000000
set_option autoImplicit false
/-! what is read off the written part; the walk's end -/
namespace DL
open L2 PyProof.Rows PySem.Spec PySem G58 SlX
variable [TbL]
abbrev Gm (K : PySem.W.Frag) (mg : Str → Option Value) (P : Program) (w : World) (base : Heap) (T : TTb) : GG := ⟨K, mg, P, w, base, T⟩
/-- a def of the top as the written part has it -/
def HasDef (K : PySem.W.Frag) (x : Str) (st : Stmt) : Prop := ∃ (f : Addr) (oc : Value) (od : Option Addr) (kV dc pm : Value) (an : Option Addr) (cd ct : Value) (sl : Array (Option Value)),
  PySem.W.nsIn K mainGlobals x = some (some (.ref f)) ∧ K.lookup f = some ⟨oc, od, .func (PySem.W.fnOf x x (defArgs st) (defBody st) (defScope st) .none kV dc pm an cd ct), sl⟩ ∧ PySem.W.codeIn K cd x = true ∧ PySem.W.keepIn K (.ref f) = true
theorem hasDef {K : PySem.W.Frag} {x : Str} {st : Stmt} {f : Addr} {oc : Value} {od : Option Addr} {kV dc pm : Value} {an : Option Addr} {cd ct : Value} {sl : Array (Option Value)}
    (a : PySem.W.nsIn K mainGlobals x = some (some (.ref f))) (l : K.lookup f = some ⟨oc, od, .func (PySem.W.fnOf x x (defArgs st) (defBody st) (defScope st) .none kV dc pm an cd ct), sl⟩) (c : PySem.W.codeIn K cd x = true) (k : PySem.W.keepIn K (.ref f) = true) : HasDef K x st :=
  ⟨f, oc, od, kV, dc, pm, an, cd, ct, sl, a, l, c, k⟩
/-- a method at f -/
def HasMeth (K : PySem.W.Frag) (x qual : Str) (st : Stmt) (f : Addr) : Prop := ∃ (oc : Value) (od : Option Addr) (kV dc pm : Value) (an : Option Addr) (cd ct : Value) (sl : Array (Option Value)),
  K.lookup f = some ⟨oc, od, .func (PySem.W.fnOf x qual (defArgs st) (defBody st) (defScope st) .none kV dc pm an cd ct), sl⟩ ∧ PySem.W.codeIn K cd qual = true ∧ PySem.W.keepIn K (.ref f) = true
theorem hasMeth {K : PySem.W.Frag} {x qual : Str} {st : Stmt} {f : Addr} {oc : Value} {od : Option Addr} {kV dc pm : Value} {an : Option Addr} {cd ct : Value} {sl : Array (Option Value)}
    (l : K.lookup f = some ⟨oc, od, .func (PySem.W.fnOf x qual (defArgs st) (defBody st) (defScope st) .none kV dc pm an cd ct), sl⟩) (c : PySem.W.codeIn K cd qual = true) (k : PySem.W.keepIn K (.ref f) = true) : HasMeth K x qual st f :=
  ⟨oc, od, kV, dc, pm, an, cd, ct, sl, l, c, k⟩
section
variable {P : Program} {w : World} {K : PySem.W.Frag} {mg : Str → Option Value} {base h : Heap} {k : Nat} {x : Str} {st : Stmt} {ps : List Str} {sp : Sp}
theorem dn_mk (X : K.In h) (G : h.Ns mainGlobals mg) (d : HasDef K x st)
    (hb : ∀ (kV doc pm : Value) (an : Option Addr) (cdv ct : Value) (us : List Value), us.length = ps.length → bindArgs (PySem.W.fnOf x x (defArgs st) (defBody st) (defScope st) .none kV doc pm an cdv ct) ⟨us, []⟩ = pure (ps.zip us))
    (ok : ∀ f fd, Fun K x x st f fd → FnOk P w K mg base CX0 k f fd ps sp) : Dn P w K mg base k x sp := by
  obtain ⟨f, oc, od, kV, dc, pm, an, cd, ct, sl, a, l, c, kp⟩ := d
  have F := fun_mk (st := st) l c kp
  exact ⟨f, _, ps, PySem.W.mg_of X G a, kp, F.binds hb, ok f _ F⟩
theorem dnG_mk (X : K.In h) (G : h.Ns mainGlobals mg) (d : HasDef K x st)
    (hb : ∀ (kV doc pm : Value) (an : Option Addr) (cdv ct : Value) (us : List Value), us.length = ps.length → bindArgs (PySem.W.fnOf x x (defArgs st) (defBody st) (defScope st) .none kV doc pm an cdv ct) ⟨us, []⟩ = pure (ps.zip us))
    (ok : ∀ f fd, Fun K x x st f fd → FnG P w K mg base CX0 k f fd ps sp) : DnG P w K mg base k x sp := by
  obtain ⟨f, oc, od, kV, dc, pm, an, cd, ct, sl, a, l, c, kp⟩ := d
  have F := fun_mk (st := st) l c kp
  exact ⟨f, _, ps, PySem.W.mg_of X G a, kp, F.binds hb, ok f _ F⟩
end
theorem hasInit {K : PySem.W.Frag} {x qual : Str} {st : Stmt} {f T : Addr} {oc oc' : Value} {od od' : Option Addr} {kV dc pm : Value} {an : Option Addr} {cd ct : Value} {sl sl' : Array (Option Value)} {its : List Value} {n : Nat}
    (l : K.lookup f = some ⟨oc, od, .func (PySem.W.fnOf x qual (defArgs st) (defBody st) (defScope st) (.ref T) kV dc pm an cd ct), sl⟩) (c : PySem.W.codeIn K cd qual = true) (k : PySem.W.keepIn K (.ref f) = true)
    (lT : K.lookup T = some ⟨oc', od', .seq its.toArray n, sl'⟩) {dd : List V} (r : Vals dd its) (hne : dd ≠ []) : ∃ fd, FunD K x qual (defArgs st) (defBody st) (defScope st) dd [] f fd :=
  ⟨_, ⟨oc, od, .ref T, kV, dc, pm, an, cd, ct, sl, rfl, l, c, .inr ⟨hne, T, _, its, n, rfl, lT, rfl, r⟩, .inl rfl⟩, k⟩
theorem hasRec {K : PySem.W.Frag} {p g : Addr} {rest : List Value} (h : PySem.W.recIn K p "property" = some (.ref g :: rest)) : ∃ rest, PySem.W.recIn K p "property" = some (.ref g :: rest) := ⟨rest, h⟩

section
variable {P : Program} {w : World} {K : PySem.W.Frag} {mg mb : Str → Option Value} {CX : CXT} {k : Nat} {fa a : Addr} {fd : FuncData} {x : Str} {sp : Heap → Sp} {s1 : Shared} {vs : List Value} {ns : List Int} {cs : List (Addr × Addr)}
/-- what is tracked at first: the script, and the tables of code objects -/
def First (a : Addr) (cs : List (Addr × Addr)) (H : Hp) : Prop := ∀ b u, H b = some u → (b = a ∧ ∃ o ys, u = .frz o (.lst ys)) ∨ (b ∈ cs.map (·.2) ∧ u = .tbl #[])
theorem tabB_of {h : Heap} {H : Hp} {c t : Addr} (fr : ∀ {b : Addr} {o : Obj}, h.get? b = some o → (∀ xs n, o.data ≠ .seq xs n) → o.data ≠ .fields #[] → H b = none) (hns : h.Ns mainGlobals mg) (ht : h.get? t = some { cls := .none, data := .fields #[] }) (C : PySem.W.CodeHd h c t)
    (hbm : ∃ (bm : Addr) (ob : Obj), mg "__builtins__" = some (.ref bm) ∧ bm ≠ builtinsNs ∧ h.get? bm = some ob ∧ ob.cls = .type "module" ∧ ob.dict = some builtinsNs ∧ ob.data = .plain) : LamX.TabB (hidT h H) mg c t := by
  obtain ⟨og, es, ep, eg, dg, _⟩ := hns
  obtain ⟨bm, ob, b1, b2, b3, b4, b5, b6⟩ := hbm
  have n1 : bm ≠ mainGlobals := fun z => by
    subst z
    cases b3.symm.trans eg
    cases b6.symm.trans dg
  have n2 : bm ≠ t := fun z => by
    subst z
    cases b3.symm.trans ht
    cases b6
  have n3 : mainGlobals ≠ t := fun z => by
    subst z
    cases eg.symm.trans ht
    cases dg
  refine ⟨?_, ⟨bm, ob, b1, b2, n1, n2, hidT_get b3 (fr b3 (by rw [b6]; exact fun _ _ z => nomatch z) (by rw [b6]; exact fun z => nomatch z)), b4, b5, b6⟩, n3⟩
  obtain ⟨oc, us, file, tf, flags, tg, inF, text, tt, e1, r1, r2, r3, rest⟩ := C
  exact ⟨oc, us, file, tf, flags, tg, inF, text, tt, hidT_get e1 (fr e1 (by rw [r2]; exact fun _ _ z => nomatch z) (by rw [r2]; intro z; cases z; simp at r3)), r1, r2, r3, rest⟩
theorem callT_core (KX : K.In s1.heap) (hns : s1.heap.Ns mainGlobals mg) (hb : s1.heap.Ns builtinsNs mb) (hbb : ∀ x : Str, x ≠ "__name__" → mb x = bootBuiltins x) (hlim : s1.heap.NoLimit) (hg : s1.gens = #[])
    (hT : ∀ p ∈ cs, s1.heap.get? p.2 = some { cls := .none, data := .fields #[] }) (C : ∀ p ∈ cs, PySem.W.CodeHd s1.heap p.1 p.2)
    (hbm : ∃ (bm : Addr) (ob : Obj), mg "__builtins__" = some (.ref bm) ∧ bm ≠ builtinsNs ∧ s1.heap.get? bm = some ob ∧ ob.cls = .type "module" ∧ ob.dict = some builtinsNs ∧ ob.data = .plain)
    (ha : s1.heap.get? a = some { cls := .type "list", data := .seq vs.toArray }) (hr : Room k callerA)
    (F : ∀ base : Heap, K.In base → base.Ns mainGlobals mg → (∀ p ∈ cs, LamX.TabB base mg p.1 p.2) → FnG P w K mg base CX k fa fd [x] (sp base)) (hbind : ∀ (s : Shared) (u : Value), BindsTo s fd ⟨[u], []⟩ [(x, u)])
    (hCX : ∀ H e s', CX [] H s1 (fun _ _ _ => False) e s' → False)
    (H : Hp) (hO : First a cs H) (hok : HOk P w H s1.heap) (hK : ∀ b, H b ≠ none → K.lookup b = none) (hH : ∀ p ∈ cs, H p.2 = some (.tbl #[]))
    (hsp : ∀ base, sp base [.ref a] H (fun v _ => v = .bl true) fun _ _ _ => False) :
    codeAny (model P w) callerA (.call (.ref fa) ⟨[.ref a], []⟩) (fun r s' => r = .ok (.ret (.bool true)) ∧ OldK s1.heap s'.heap ∧ s'.os = s1.os ∧ AllBare s'.gens) s1 := by
  have tabO : ∀ {b : Addr}, b ∈ cs.map (·.2) → ∃ p ∈ cs, p.2 = b := fun {b} z => by
    obtain ⟨p, h1, h2⟩ := List.mem_map.mp z
    exact ⟨p, h1, h2⟩
  have fr : ∀ {b : Addr} {o : Obj}, s1.heap.get? b = some o → (∀ xs n, o.data ≠ .seq xs n) → o.data ≠ .fields #[] → H b = none := fun {b o} e h1 h2 => by
    cases q : H b with
    | none => rfl
    | some u =>
      rcases hO b u q with ⟨z, _⟩ | ⟨z, _⟩
      · subst z
        cases e.symm.trans ha
        exact absurd rfl (h1 _ _)
      · obtain ⟨p, hp, z⟩ := tabO z
        subst z
        cases e.symm.trans (hT p hp)
        exact absurd rfl h2
  have nsB : ∀ {b : Addr} {m : Str → Option Value}, s1.heap.Ns b m → (hidT s1.heap H).Ns b m := by
    rintro b m ⟨o, es, ep, e, d, r⟩
    exact ⟨o, es, ep, hidT_get e (fr e (by rw [d]; exact fun _ _ z => nomatch z) (by rw [d]; exact fun z => nomatch z)), d, r⟩
  have inB : K.In (hidT s1.heap H) := fun b o e => hidT_get (KX b o e) (by
    cases q : H b with
    | none => rfl
    | some u => cases (hK b (by rw [q]; exact fun z => nomatch z)).symm.trans e)
  have e0 : Env0 P w K mg (hidT s1.heap H) callerA [] s1 H :=
    ⟨rfl, ⟨inB, nsB hns, ⟨mb, nsB hb, hbb⟩, let ⟨mc, z1, z2⟩ := hlim; ⟨mc, nsB z1, z2⟩⟩, fun _ _ e => of_hidT e, Nat.le_of_eq (hidT_size _ _), trivial, (fun _ z => (List.not_mem_nil z).elim), hok, .of_eq hg⟩
  refine codeAny_mono ((F _ inB (nsB hns) fun p hp => tabB_of fr hns (hT p hp) (C p hp) hbm).run callerA [] s1 H ⟨[.ref a], []⟩ [.ref a] [.ref a] _ _ rfl hr e0 (hbind s1 (.ref a)) (.cons rfl .nil) (hsp _)) fun r s' h => ?_
  match r, h with
  | .error e, h => exact (hCX H e s' h).elim
  | .ok .next, h => exact False.elim h
  | .ok .brk, h => exact False.elim h
  | .ok .cont, h => exact False.elim h
  | .ok (.ret u), ⟨v, H', os, bare, un, hok', r', q⟩ =>
    have q' : v = .bl true := q
    subst q'
    have r'' : u = Value.bool true := r'
    subst r''
    have each : ∀ b o, s1.heap.get? b = some o → s'.heap.get? b = some o ∨ ∃ p ∈ cs, p.2 = b ∧ ∃ more : Array Value, s'.heap.get? b = some { cls := .none, data := .fields more } := fun b o e => by
      cases z : H b with
      | none => exact .inl (un.keep b o e z (fun n => (List.not_mem_nil n).elim) (fun n => (List.not_mem_nil n).elim))
      | some u =>
        rcases hO b u z with ⟨_, ob, ys, y⟩ | ⟨y, y'⟩
        · subst y
          obtain ⟨e1, _⟩ := hok b _ z
          obtain ⟨e2, _⟩ := hok' b _ (un.frzs b ob _ z)
          cases e.symm.trans e1
          exact .inl e2
        · subst y'
          obtain ⟨p, hp, y⟩ := tabO y
          obtain ⟨more, y2⟩ := un.tbls b #[] z
          exact .inr ⟨p, hp, y, _, hok' b _ y2⟩
    refine ⟨rfl, ⟨fun b o e => ?_, fun b o e => ?_⟩, os, bare⟩
    · rcases each b o e with y | ⟨p, hp, y, more, y2⟩
      · exact .inl y
      · subst y
        cases e.symm.trans (hT p hp)
        exact .inr (.inl ⟨((C p hp).tab (hT p hp)).isCodeTable, rfl, #[], more, rfl, by rw [Array.empty_append]; exact y2⟩)
    · rcases each b o e with y | ⟨_, _, _, _, y⟩
      · exact ⟨_, y⟩
      · exact ⟨_, y⟩
/-- the law's call, with tables -/
theorem callTs (KX : K.In s1.heap) (hns : s1.heap.Ns mainGlobals mg) (hb : s1.heap.Ns builtinsNs mb) (hbb : ∀ x : Str, x ≠ "__name__" → mb x = bootBuiltins x) (hlim : s1.heap.NoLimit) (hg : s1.gens = #[])
    (hT : ∀ p ∈ cs, s1.heap.get? p.2 = some { cls := .none, data := .fields #[] }) (nT : ∀ p ∈ cs, K.lookup p.2 = none) (C : ∀ p ∈ cs, PySem.W.CodeHd s1.heap p.1 p.2)
    (hbm : ∃ (bm : Addr) (ob : Obj), mg "__builtins__" = some (.ref bm) ∧ bm ≠ builtinsNs ∧ s1.heap.get? bm = some ob ∧ ob.cls = .type "module" ∧ ob.dict = some builtinsNs ∧ ob.data = .plain)
    (ha : s1.heap.get? a = some { cls := .type "list", data := .seq vs.toArray }) (hi : IntsAre vs ns) (hl : ns.length ≤ sizeLine) (hr : Room k callerA)
    (F : ∀ base : Heap, K.In base → base.Ns mainGlobals mg → (∀ p ∈ cs, LamX.TabB base mg p.1 p.2) → FnG P w K mg base CX k fa fd [x] (sp base)) (hbind : ∀ (s : Shared) (u : Value), BindsTo s fd ⟨[u], []⟩ [(x, u)])
    (hsp : ∀ (base : Heap) (H : Hp), (∀ p ∈ cs, H p.2 = some (.tbl #[])) → SqL K H a (ns.map V.int) → sp base [.ref a] H (fun v _ => v = .bl true) fun _ _ _ => False)
    (hCX : ∀ H e s', CX [] H s1 (fun _ _ _ => False) e s' → False) :
    codeAny (model P w) callerA (.call (.ref fa) ⟨[.ref a], []⟩) (fun r s' => r = .ok (.ret (.bool true)) ∧ OldK s1.heap s'.heap ∧ s'.os = s1.os ∧ AllBare s'.gens) s1 := by
  have core := callT_core KX hns hb hbb hlim hg hT C hbm ha hr F hbind hCX
  have rv := vals_ints hi
  have aT : ∀ p ∈ cs, p.2 ≠ a := fun p hp z => by
    have y := hT p hp
    rw [z, ha] at y
    cases y
  have tb : ∀ p ∈ cs, p.2 ∈ cs.map (·.2) := fun p hp => List.mem_map.mpr ⟨p, hp, rfl⟩
  let T0 : Hp := fun b => if b ∈ cs.map (·.2) then some (.tbl #[]) else none
  have t0 : ∀ {b u}, T0 b = some u → b ∈ cs.map (·.2) ∧ u = .tbl #[] := fun {b u} z => by
    by_cases m : b ∈ cs.map (·.2)
    · exact ⟨m, (Option.some.inj ((if_pos m).symm.trans z)).symm⟩
    · cases (if_neg m).symm.trans z
  have t1 : ∀ p ∈ cs, T0 p.2 = some (.tbl #[]) := fun p hp => if_pos (tb p hp)
  have tok : ∀ {b u}, T0 b = some u → ∀ H : Hp, ObjOk P w H s1.heap b u := fun {b u} z H => by
    obtain ⟨m, e⟩ := t0 z
    subst e
    obtain ⟨p, hp, e⟩ := List.mem_map.mp m
    subst e
    exact hT p hp
  have tK : ∀ {b u}, T0 b = some u → K.lookup b = none := fun {b u} z => by
    obtain ⟨p, hp, e⟩ := List.mem_map.mp (t0 z).1
    subst e
    exact nT p hp
  cases hk : K.lookup a with
  | some o =>
    have e := KX a o hk
    rw [ha] at e
    cases e
    refine core T0 (fun b u z => .inr (t0 z)) (fun b u z => tok z _) (fun b z => ?_) t1 fun base => hsp base _ t1 (.inr ⟨_, vs.toArray, _, hk, rfl, rfl, rfl, by rw [List.size_toArray, hi.length]; exact hl, by simpa using rv⟩)
    cases q : T0 b with
    | none => exact absurd q z
    | some u => exact tK q
  | none =>
    let S0 : Hp := upd T0 a (.frz { cls := .type "list", data := .seq vs.toArray } (.lst (ns.map V.int)))
    have s1' : ∀ p ∈ cs, S0 p.2 = some (.tbl #[]) := fun p hp => (upd_ne (aT p hp)).trans (t1 p hp)
    refine core S0 (fun b u z => ?_) (fun b u z => ?_) (fun b z => ?_) s1' fun base => hsp base _ s1' (.inl (.inr ⟨_, upd_same⟩))
    · by_cases q : b = a
      · subst q
        exact .inl ⟨rfl, _, _, (Option.some.inj (upd_same.symm.trans z)).symm⟩
      · exact .inr (t0 ((upd_ne q).symm.trans z))
    · by_cases q : b = a
      · subst q
        cases Option.some.inj (upd_same.symm.trans z)
        exact ⟨ha, by rw [List.length_map]; exact hl, vs, _, rv, ha⟩
      · exact tok ((upd_ne q).symm.trans z) _
    · by_cases q : b = a
      · rw [q]; exact hk
      · cases y : T0 b with
        | none => exact absurd ((upd_ne q).trans y) z
        | some u => exact tK y
end
end DL

set_option Elab.async false
set_option linter.all false
set_option maxRecDepth 100000
set_option maxHeartbeats 4000000
set_option autoImplicit false
/-! an own error's __init__ : super().__init__(text), then its fields -/
namespace DL
open L2 PyProof.Rows PySem.Spec PySem G58 SlX
variable [TbL]
/-- what of the written part is known of an error's class at C whose __init__ stands at fI -/
structure XI (K : PySem.W.Frag) (C fI cc cda : Addr) (qual : Str) (st : Stmt) (P : Program) : Prop where
  ox : OexC K C
  fn : ∃ (oc : Value) (od : Option Addr) (kV doc pm : Value) (an : Option Addr) (ct : Value) (osl : Array (Option Value)), K.lookup fI = some ⟨oc, od, .func (PySem.W.ksFn "__init__" qual (defArgs st) (defBody st) (defScope st) .none kV doc pm an (.ref cda) ct cc), osl⟩
  cd : PySem.W.codeIn K (.ref cda) qual = true
  co : ∃ (ccl : Value) (cdd : Option Addr) (vs : Array Value) (ccs : Array (Option Value)) (file : Str) (tf : Tok), K.lookup cda = some ⟨ccl, cdd, .fields vs, ccs⟩ ∧ vs[2]? = some (.str file tf) ∧ ((P.main.file : Str) == file) = true
  ce : ∃ (cl : Value) (cld : Option Addr) (csl : Array (Option Value)), K.lookup cc = some ⟨cl, cld, .cell (some (.ref C)), csl⟩
  mr : PySem.W.mroIn K C (.ref C) = some true
  th : PySem.W.nsIn K cStatics "thirdparty.any" = some none
  sp : PySem.W.ks_superIn K C C "__init__" = some (some (.builtin "ValueError.__init__"))
  sb : PySem.W.subIn K (.ref C) (.type "ValueError") = some true
  ini : PySem.W.findIn K (.ref C) "__init__" = some (some (.ref fI))
  ty : PySem.W.typeIn K (.ref fI) = some (.type "function")
  top : (P.main.scope.names.lookup ("super" : Str)).isSome = false
/-- the scope of such a def -/
structure XScope (ps : List Str) (sc : Scope) : Prop where
  kind : sc.kind = .function
  co : sc.isCoroutine = false
  gen : sc.isGenerator = false
  par : ∀ x ∈ ps, sc.names.lookup x = some .local
  nd : ps.Nodup
  cls : sc.names.lookup ("__class__" : Str) = some .free
  sup : sc.names.lookup ("super" : Str) = some .globalImplicit
  nocell : ∀ y ∈ sc.names, y.2 ≠ .cell
  free : ∀ y ∈ sc.names, y.2 = .free → y.1 = "__class__"
def xiCx (P : Program) (w : World) (K : PySem.W.Frag) (mg : Str → Option Value) (base : Heap) (ps : List Str) (qual : Str) (sc : Scope) (f cda cc : Addr) (A : Around) (outer : List Env) (s : Shared) (H : Hp) : Cx where
  prog := P
  w := w
  K := K
  mg := mg
  base := base
  A := A.deeper (PySem.W.ksEnv qual sc s.heap.objs.size f (.ref cda) cc)
  N := ps
  s_0 := s
  H_0 := H
  env := PySem.W.ksEnv qual sc s.heap.objs.size f (.ref cda) cc
  outer := outer
  stack := PySem.W.ksEnv qual sc s.heap.objs.size f (.ref cda) cc :: outer
  ex := []
  fn := fun _ => false
  calm := true
  pn := []
  xe := fun _ _ => False
section
variable {P : Program} {w : World} {K : PySem.W.Frag} {mg : Str → Option Value} {base : Heap} {ps : List Str} {qual : Str} {sc : Scope} {f cda cc C : Addr} {A : Around} {outer : List Env} {s : Shared} {H : Hp}
theorem lookup_zip_rev {us : List Value} : ∀ {ps : List Str}, ps.Nodup → us.length = ps.length → ∀ (i : Nat) (x : Str) (u : Value), ps[i]? = some x → us[i]? = some u → (ps.zip us).reverse.lookup x = some u := by
  intro ps hn hl i x u h1 h2
  have hz : (ps.zip us)[i]? = some (x, u) := by rw [List.getElem?_zip_eq_some]; exact ⟨h1, h2⟩
  have mem : (x, u) ∈ (ps.zip us).reverse := List.mem_reverse.mpr (List.mem_of_getElem? hz)
  have nd : ((ps.zip us).reverse.map (·.1)).Nodup := by
    rw [List.map_reverse, List.map_fst_zip (by omega)]
    exact List.pairwise_reverse.mpr (hn.imp fun h => Ne.symm h)
  have key : ∀ {l : List (Str × Value)}, (l.map (·.1)).Nodup → (x, u) ∈ l → l.lookup x = some u := by
    intro l
    induction l with
    | nil => intro _ h; cases h
    | cons p l ih =>
      intro nd h
      rw [List.map_cons, List.nodup_cons] at nd
      rcases List.mem_cons.mp h with e | h
      · subst e
        simp [List.lookup]
      · have ne : x ≠ p.1 := fun z => nd.1 (by rw [← z]; exact List.mem_map.mpr ⟨_, h, rfl⟩)
        have : (x == p.1) = false := by simpa using ne
        simp only [List.lookup, this]
        exact ih nd.2 h
  exact key nd mem
theorem xi_start {us : List Value} {vs : List V} {h₁ : Heap} {tk : Nat} (e0 : Env0 P w K mg base A outer s H) (hd : A.handled = none) (S : XScope ps sc) (hl : vs.length = ps.length) (r : Vals vs us) (ce : ∃ (cl : Value) (cld : Option Addr) (csl : Array (Option Value)), K.lookup cc = some ⟨cl, cld, .cell (some (.ref C)), csl⟩)
    (hns : h₁.Ns s.heap.objs.size fun y => (ps.zip us).reverse.lookup y) (kp : ∀ b o, s.heap.get? b = some o → h₁.get? b = some o) :
    Inv (xiCx P w K mg base ps qual sc f cda cc A outer s H) [] (vs.map some) H { s with heap := h₁, toks := tk } := by
  obtain ⟨cl, cld, csl, hce⟩ := ce
  have hceB := e0.mod.kin _ _ hce
  obtain ⟨hce1, hce2⟩ := e0.bs _ _ hceB
  have one : ∀ {y : Str} {c : Addr}, ([("__class__", cc)] : List (Str × Addr)).lookup y = some c → y = "__class__" ∧ c = cc := fun {y c} e => by
    by_cases q : y = "__class__"
    · subst q
      simp [List.lookup] at e
      exact ⟨rfl, e.symm⟩
    · have : (y == ("__class__" : Str)) = false := by simpa using q
      simp [List.lookup, this] at e
  have noA : ∀ b : Addr, b ∉ (xiCx P w K mg base ps qual sc f cda cc A outer s H).ex := fun b z => absurd (show b ∈ ([] : List Addr) from z) (by simp)
  refine ⟨⟨e0.mod, S.kind, rfl, rfl, Nat.le_refl _, fun y z c e1 e2 => (one e1).1.trans (one e2).1.symm, fun y hy => ?_, fun y c z _ => ?_, fun _ => hd, Around.frames_deeper e0.frames, .inr ⟨rfl, rfl⟩, fun b z => absurd z (noA b), e0.bs, e0.bsz, fun b _ _ => noA b, fun b z => absurd z (noA b), e0.funs, e0.frf⟩,
    rfl, e0.bare, Un.kept kp, ⟨_, hns, fun i y v e1 e2 e3 => ?_⟩, fun y c e => ?_, e0.hok.fresh (Nat.le_refl _), fun y c e => ?_, fun q hq => absurd (show q ∈ ([] : List (Addr × Obj)) ++ [] from hq) (by simp), e0.hok.kept kp, by show (vs.map some).length = ps.length; rw [List.length_map, hl]⟩
  · have hy : sc.names.lookup y = some .cell ∨ sc.names.lookup y = some .free := hy
    rcases hy with hy | hy
    · exact absurd rfl (S.nocell _ (PySem.mem_of_lookup hy))
    · have e := S.free _ (PySem.mem_of_lookup hy) rfl
      exact ⟨cc, by show ([("__class__", cc)] : List (Str × Addr)).lookup y = some cc; rw [show y = "__class__" from e]; rfl⟩
  · have z : false = true := z
    cases z
  · have e1 : ps[i]? = some y := e1
    rw [List.getElem?_map] at e2
    cases q : vs[i]? with
    | none => rw [q] at e2; cases e2
    | some v' =>
      rw [q] at e2
      cases e2
      obtain ⟨u, hu, ru⟩ := r.get q
      exact ⟨u, ru, .inl ⟨S.par _ (List.mem_of_getElem? e1), lookup_zip_rev S.nd (by rw [← r.length]; exact hl) i y u e1 hu⟩⟩
  · obtain ⟨rfl, rfl⟩ := one e
    exact ⟨_, _, kp _ _ hce1, rfl⟩
  · obtain ⟨rfl, rfl⟩ := one e
    exact hce2
end
section
variable {P : Program} {w : World} {K : PySem.W.Frag} {mg : Str → Option Value} {base : Heap} {ps : List Str} {qual : Str} {st : Stmt} {fI cda cc C e : Addr} {A : Around} {outer : List Env} {s s1 : Shared} {H0 H : Hp} {pins : List (Addr × Obj)} {σ : L2.St} {ar : Arg} {body : List Stmt} {p0 p1 p2 p3 p4 p5 : Pos} {j : Nat} {txt : Str} {E : Value → Shared → Prop}
open PySem.W in
/-- super().__init__(text) -/
theorem super_init (T : XI K C fI cc cda qual st P) (S : XScope ps (defScope st)) (hsu : mg "super" = none) (hp : ((defArgs st).posonlyargs ++ (defArgs st).args).head? = some ar) (har : ps[0]? = some ar.arg)
    (I : Inv (xiCx P w K mg base ps qual (defScope st) fI cda cc A outer s H0) pins σ H s1) (h0 : σ[0]? = some (some (.ref e))) (he : H e = some (exo e C none)) {pl : Sem Bool}
    (hev : eval (.Call (.Attribute (.Call (.Name "super" p0) [] [] p1) "__init__" p2) [.Constant (.str txt) j p3] [] p4) (ksEnv qual (defScope st) s.heap.objs.size fI (.ref cda) cc) = (do
      let ov ← attributeBase (.Call (.Name "super" p0) [] [] p1) "__init__" (ksEnv qual (defScope st) s.heap.objs.size fI (.ref cda) cc) (eval (.Call (.Name "super" p0) [] [] p1) (ksEnv qual (defScope st) s.heap.objs.size fI (.ref cda) cc))
      standAt p2.atName
      let (f, first) ← holding [ov] (getMethod ov "__init__" pl)
      callWith p4 f first (backTo p4 (starEach [.Constant (.str txt) j p3] (ksEnv qual (defScope st) s.heap.objs.size fI (.ref cda) cc))) [])) {Q : Flow → Shared → Prop} (hQ : ∀ s', Inv (xiCx P w K mg base ps qual (defScope st) fI cda cc A outer s H0) pins σ H s' → Q .next s') :
    PySem.wpAt (model P w) (A.deeper (ksEnv qual (defScope st) s.heap.objs.size fI (.ref cda) cc)) (.func body (ksEnv qual (defScope st) s.heap.objs.size fI (.ref cda) cc))
      (exec (.Expr (.Call (.Attribute (.Call (.Name "super" p0) [] [] p1) "__init__" p2) [.Constant (.str txt) j p3] [] p4) p5) (ksEnv qual (defScope st) s.heap.objs.size fI (.ref cda) cc)) Q E s1 := by
  obtain ⟨oc, od, kV, doc, pm, an, ct, osl, lf⟩ := T.fn
  obtain ⟨ccl, cdd, vs, ccs, file, tf, lc, hvs, hfile⟩ := T.co
  obtain ⟨cl, cld, csl, lcc⟩ := T.ce
  obtain ⟨nm, q, N, bs, bm, sn, sub, ab, col, dd, k0, k1, k2, k3, k5, hC, hbm⟩ := T.ox.cls
  have hcl : clsIn K C = some { name := nm, bases := bs, mro := .ref C :: bm, ns := N, qualname := q, hasDict := true, slotNames := sn, subclasses := sub, abstract := ab, collection := col, hasDel := false } := by unfold clsIn; rw [hC] <;> rfl
  obtain ⟨t1, ho⟩ := exo_at I.hok he
  obtain ⟨m, hm, hlk⟩ := I.loc
  obtain ⟨u, ru, lu⟩ := hlk 0 ar.arg (.ref e) har h0 (.inl (S.par _ (List.mem_of_getElem? har)))
  cases ru
  have hva : m ar.arg = some (.ref e) := by
    rcases lu with ⟨_, h⟩ | ⟨h, _⟩
    · exact h
    · have z := S.par _ (List.mem_of_getElem? har)
      rcases h with h | h <;> (cases (show (defScope st).names.lookup ar.arg = _ from z).symm.trans h)
  have KX := I.kIn
  obtain ⟨mb, hmb, hbb⟩ := I.ok.mod.blt
  have iI : ∀ {h : Heap}, (∀ b o, s1.heap.get? b = some o → h.get? b = some o) → InstAt h e { cls := .ref C, dict := none, data := .fields #[.ref t1, .none, .none, .none, .bool false, .none] } C none := fun k => ⟨k _ _ ho, rfl, rfl, trivial⟩
  have HI : interactive (ksEnv qual (defScope st) s.heap.objs.size fI (.ref cda) cc) = false := by
    unfold interactive
    rw [show (ksEnv qual (defScope st) s.heap.objs.size fI (.ref cda) cc).scope.kind = .function from S.kind]
    rfl
  refine ks_wpAt_Expr_any (hi := HI) ?_
  refine ks_wpAt_MethodCall (pl := pl) (he := hev) ?_
  refine ks_wpAt_super_base (env := ksEnv qual (defScope st) s.heap.objs.size fI (.ref cda) cc) S.sup S.cls (by decide) rfl (KX _ _ lf) rfl hp rfl (KX _ _ lc) rfl hvs hfile T.top ?_
  refine ks_loadName_global S.kind S.sup (Calls.loadGlobal_builtin (env := ksEnv qual (defScope st) s.heap.objs.size fI (.ref cda) cc) (I.ok.mod.glob.keeps I.bk) hsu (hmb.keeps I.bk) ((hbb _ (by decide +kernel)).trans (show bootBuiltins "super" = some (.type "super") by decide +kernel)) ⟨rfl, ?_⟩)
  refine wpAny_loadName_free S.kind S.cls rfl ⟨_, KX _ _ lcc, rfl⟩ ?_
  refine wpAny_loadName_local S.kind (S.par _ (List.mem_of_getElem? har)) hm hva ?_
  refine ks_wpAny_isType_cls (KX _ _ hC) rfl ⟨rfl, ?_⟩
  obtain ⟨hp1, g, d, tk, os⟩ := s1
  refine ks_wpAny_call_super (KX _ _ hC) rfl ho rfl (fun c z => nomatch z) (looks_mroIn KX T.mr) (fun h' e1 kk => ?_)
  have KX' : K.In h' := KX.keeps kk
  have hsp := T.sp
  unfold ks_superIn at hsp
  rw [hcl, Option.bind_some] at hsp
  refine kxs_getMethod kxs_ValueError e1 (looks_opaque KX' T.th) (l₀ := .ref C :: bm) (fun A Q E s k q => wpAny_bind ((looks_clsIn KX' hcl) A _ E s k (wpAny_pure q))) rfl KX' hsp ((iI kk).type.andThen (looks_subIn KX' T.sb)) (ks_ne KX' (iI kk) hcl) (by decide) ?_
  refine kxs_callWith (i := "ValueError.__init__") (x := e) (by rfl) ?_
  refine Calls.evalArgs_plain (Calls.spliced_cons (Calls.Constant_str (k := j) (pos := p3) (Calls.spliced_nil ⟨Heap.get?_push_at rfl rfl, ?_⟩)))
  have k2' : ∀ b o, hp1.get? b = some o → (h'.push (kxs_mw "ValueError.__init__" e)).get? b = some o := fun b o z => Heap.get?_push_of_some _ (kk b o z)
  have hu : (h'.push (kxs_mw "ValueError.__init__" e)).get? h'.objs.size = some (kxs_mw "ValueError.__init__" e) := Heap.get?_push_at rfl rfl
  refine wpAny_call (codeAny_of_tree ?_)
  show wpAny _ _ (callAny (.ref h'.objs.size) ⟨[.str txt (tk + 1)], []⟩) _ _ _
  simp only [callAny]
  refine wpAny_bind (wpAny_load hu ?_)
  simp only [kxs_mw, show (Value.type "method-wrapper" == Value.type "method" || Value.type "method-wrapper" == Value.type "builtin_function_or_method" || Value.type "method-wrapper" == Value.type "method-wrapper") = true by decide, if_true]
  refine KFB.if_so (by decide) ?_
  refine wpAny_bind (check_bound_init F.excBase_ValueError.toExcCallFacts (k2' _ _ (KX _ _ hC)) (k2' _ _ ho) rfl ?_)
  refine wpAny_bind (wpAny_pure (wpAny_pure ?_))
  refine ⟨plainId_quiet F.excBase_ValueError.init.plain _, codeAny_builtin F.excBase_ValueError.initEntry ?_⟩
  refine exc_init_tree (cls := .ref C) (t0 := t1) (dv := none) (c2 := .none) (c3 := .none) (b4 := .bool false) (k2' _ _ ho) (by simp [sizeLine_eq]) fun h3 k3 e3 _ => hQ _ ?_
  have J : Inv (xiCx P w K mg base ps qual (defScope st) fI cda cc A outer s H0) pins σ H ⟨h'.push (kxs_mw "ValueError.__init__" e), g, d, tk + 1 + 1, os⟩ := I.kept (t' := tk + 1 + 1) k2'
  have J2 := J.write (t' := tk + 1 + 1) (x := e) (e := e) (o := exo e C none) (by rw [he]; exact True.intro) (.inl rfl) k3 ⟨_, e3⟩ (exo_ok e3)
  have eu : upd H e (exo e C none) = H := by
    funext b
    by_cases hb : b = e
    · rw [hb, upd_same, he]
    · rw [upd_ne hb]
  rw [eu] at J2
  exact J2
end
/-! the fields -/
def addF (σ : L2.St) : List (Str × Nat) → List (Str × V) → Option (List (Str × V))
  | [], fs => some fs
  | (f, i) :: js, fs => match σ[i]? with
    | some (some v) => addF σ js ((f, v) :: fs)
    | _ => none
inductive Sets (K : PySem.W.Frag) (C : Addr) (ps : List Str) (self : Str) : List Stmt → List (Str × Nat) → Prop
  | nil : Sets K C ps self [] []
  | cons {f x : Str} {i : Nat} {p1 p2 p3 pos : Pos} {sts : List Stmt} {js : List (Str × Nat)} : ps[i]? = some x → (x == ("__debug__" : Str)) = false → (x == ("__classdict__" : Str)) = false → PySem.W.findIn K (.ref C) f = some none →
      (∀ env, swapsWith (.Name x p3) (some (.Attribute (.Name self p1) f p2)) pos.line env = pure false) → Sets K C ps self sts js → Sets K C ps self (.Assign [.Attribute (.Name self p1) f p2] (.Name x p3) pos :: sts) ((f, i) :: js)
section
variable {X : Cx} {C : Addr} {self : Str}
theorem upd_id {H : Hp} {a : Addr} {o : HO} (h : H a = some o) : upd H a o = H := by
  funext b
  by_cases hb : b = a
  · rw [hb, upd_same, h]
  · rw [upd_ne hb]
theorem pss_old (T : OexC X.K C) (h0 : X.N[0]? = some self) (hv : ∀ x ∈ X.N, Vis X.env.scope x) (hd : (self == ("__debug__" : Str)) = false) (hcd : (self == ("__classdict__" : Str)) = false) : ∀ {sts : List Stmt} {js : List (Str × Nat)}, Sets X.K C X.N self sts js →
    PSs X sts (fun D σ H => ∃ a dx fs gs, σ[0]? = some (some (.ref a)) ∧ H a = some (exo a C (some dx)) ∧ H dx = some (exd dx fs) ∧ dx ≠ a ∧ fs.length + js.length ≤ 900 ∧ addF σ js fs = some gs ∧ D.nx σ (upd H dx (exd dx gs)))
  | _, _, .nil => pss_of pss_nil fun D σ H ⟨a, dx, fs, gs, h1, h2, h3, _, h4, h5, q⟩ => by
    cases h5
    rw [upd_id h3] at q
    exact q
  | _, _, .cons (f := f) (i := i) (js := js) e1 e2 e3 e4 e5 r => by
    have ih := pss_old T h0 hv hd hcd r
    refine pss_of (pss_cons (ps_ost (pe_var (i := 0) h0 (hv _ (List.mem_of_getElem? h0)) hd hcd) (pe_var (i := i) e1 (hv _ (List.mem_of_getElem? e1)) e2 e3) (e5 _)) ih) fun D σ H ⟨a, dx, fs, gs, h1, h2, h3, hn, h4, h5, q⟩ => ?_
    unfold addF at h5
    split at h5
    · rename_i v hv'
      refine ⟨v, hv', .ref a, h1, a, C, rfl, T, e4, .inr ⟨dx, fs, h2, h3, by simp at h4; omega, a, dx, (f, v) :: fs, gs, h1, ?_, upd_same, hn, by simp at h4 ⊢; omega, h5, ?_⟩⟩
      · rw [upd_ne (Ne.symm hn)]; exact h2
      · rw [upd_upd]; exact q
    · cases h5
theorem pss_new (T : OexC X.K C) (h0 : X.N[0]? = some self) (hv : ∀ x ∈ X.N, Vis X.env.scope x) (hd : (self == ("__debug__" : Str)) = false) (hcd : (self == ("__classdict__" : Str)) = false) {sts : List Stmt} {f : Str} {i : Nat} {js : List (Str × Nat)} (r : Sets X.K C X.N self sts ((f, i) :: js)) :
    PSs X sts (fun D σ H => ∃ a gs, σ[0]? = some (some (.ref a)) ∧ H a = some (exo a C none) ∧ js.length ≤ 800 ∧ addF σ ((f, i) :: js) [] = some gs ∧ ∀ dx, H dx = none → dx ≠ a → D.nx σ (upd (upd H dx (exd dx gs)) a (exo a C (some dx)))) := by
  cases r with
  | cons e1 e2 e3 e4 e5 r =>
    refine pss_of (pss_cons (ps_ost (pe_var (i := 0) h0 (hv _ (List.mem_of_getElem? h0)) hd hcd) (pe_var (i := i) e1 (hv _ (List.mem_of_getElem? e1)) e2 e3) (e5 _)) (pss_old T h0 hv hd hcd r)) fun D σ H ⟨a, gs, h1, h2, h4, h5, q⟩ => ?_
    unfold addF at h5
    split at h5
    · rename_i v hv'
      refine ⟨v, hv', .ref a, h1, a, C, rfl, T, e4, .inl ⟨h2, fun dx hx hn => ⟨a, dx, [(f, v)], gs, h1, upd_same, by rw [upd_ne hn, upd_same], hn, by simp; omega, h5, ?_⟩⟩⟩
      have z := q dx hx hn
      have e : upd (upd (upd H dx (exd dx [(f, v)])) a (exo a C (some dx))) dx (exd dx gs) = upd (upd H dx (exd dx gs)) a (exo a C (some dx)) := by
        funext b
        by_cases c1 : b = dx
        · rw [c1, upd_same, upd_ne hn, upd_same]
        · rw [upd_ne c1]
          by_cases c2 : b = a
          · rw [c2, upd_same, upd_same]
          · rw [upd_ne c2, upd_ne c2, upd_ne c1, upd_ne c1]
      rw [e]
      exact z
    · cases h5
end
/-- what an error's __init__ promises -/
def spX (C : Addr) (js : List (Str × Nat)) (n : Nat) : Sp := fun vs H Q _ => ∃ a ws gs, vs = .ref a :: ws ∧ vs.length = n ∧ H a = some (exo a C none) ∧ addF (vs.map some) js [] = some gs ∧ ∀ dx, H dx = none → dx ≠ a → Q .non (upd (upd H dx (exd dx gs)) a (exo a C (some dx)))
section
variable {P : Program} {w : World} {K : PySem.W.Frag} {mg : Str → Option Value} {base : Heap} {ps : List Str} {qual : Str} {st : Stmt} {fI cda cc C : Addr} {ar : Arg} {sts : List Stmt} {p0 p1 p2 p3 p4 p5 : Pos} {j k : Nat} {txt f : Str} {i : Nat} {js : List (Str × Nat)} {kV doc pm ct oc : Value} {an od : Option Addr} {osl : Array (Option Value)}
open PySem.W in
theorem xinit_ok (T : XI K C fI cc cda qual st P) (lk : K.lookup fI = some ⟨oc, od, .func (ksFn "__init__" qual (defArgs st) (defBody st) (defScope st) .none kV doc pm an (.ref cda) ct cc), osl⟩) (S : XScope ps (defScope st)) (hsu : mg "super" = none) (hp : ((defArgs st).posonlyargs ++ (defArgs st).args).head? = some ar) (har : ps[0]? = some ar.arg)
    (hd : (ar.arg == ("__debug__" : Str)) = false) (hcd : (ar.arg == ("__classdict__" : Str)) = false) (hbd : defBody st = .Expr (.Call (.Attribute (.Call (.Name "super" p0) [] [] p1) "__init__" p2) [.Constant (.str txt) j p3] [] p4) p5 :: sts) (r : Sets K C ps ar.arg sts ((f, i) :: js)) (hjs : js.length ≤ 800) {pl : Sem Bool}
    (hev : ∀ L : Addr, eval (.Call (.Attribute (.Call (.Name "super" p0) [] [] p1) "__init__" p2) [.Constant (.str txt) j p3] [] p4) (ksEnv qual (defScope st) L fI (.ref cda) cc) = (do
      let ov ← attributeBase (.Call (.Name "super" p0) [] [] p1) "__init__" (ksEnv qual (defScope st) L fI (.ref cda) cc) (eval (.Call (.Name "super" p0) [] [] p1) (ksEnv qual (defScope st) L fI (.ref cda) cc))
      standAt p2.atName
      let (f, first) ← holding [ov] (getMethod ov "__init__" pl)
      callWith p4 f first (backTo p4 (starEach [.Constant (.str txt) j p3] (ksEnv qual (defScope st) L fI (.ref cda) cc))) [])) :
    FnOk P w K mg base CX0 (k + 1) fI (ksFn "__init__" qual (defArgs st) (defBody st) (defScope st) .none kV doc pm an (.ref cda) ct cc) ps (spX C ((f, i) :: js) ps.length) := by
  refine ⟨fun vs H Q E ⟨a, ws, gs, h1, h2, _⟩ => h2, fun A outer s H args us vs Q E hr e0 hb rv hsp => ?_⟩
  obtain ⟨a, ws, gs, e1, e2, e3, e4, hq⟩ := hsp
  have KX : K.In s.heap := e0.mod.kin.keeps fun b o e => (e0.bs b o e).1
  have lim : s.heap.NoLimit := e0.mod.nolimit.keeps fun b o e => (e0.bs b o e).1
  refine ks_codeAny_call_defAt (fd := ksFn "__init__" qual (defArgs st) (defBody st) (defScope st) .none kV doc pm an (.ref cda) ct cc) (body := defBody st) (binds := ps.zip us) hr.depth (KX _ _ lk) rfl lim (codeRec_of KX T.cd) rfl hb S.nocell (fun y hy => S.par _ (List.of_mem_zip hy).1) (fun h₀ hns kp => ?_) S.co S.gen S.kind
  have I := xi_start (qual := qual) (f := fI) (cda := cda) (tk := s.toks + (ps.zip us).length) e0 hr.hd S e2 rv T.ce hns kp
  have h0 : (vs.map some)[0]? = some (some (.ref a)) := by rw [e1]; rfl
  show PySem.wpAt (model P w) (A.deeper (ksEnv qual (defScope st) s.heap.objs.size fI (.ref cda) cc)) (.func (defBody st) (ksEnv qual (defScope st) s.heap.objs.size fI (.ref cda) cc)) (execs (defBody st) (ksEnv qual (defScope st) s.heap.objs.size fI (.ref cda) cc)) _ _ _
  generalize hbody : Code.func (defBody st) (ksEnv qual (defScope st) s.heap.objs.size fI (.ref cda) cc) = cf
  rw [hbd]
  rw [← hbody]
  refine ks_wpAt_execs_cons (super_init T S hsu hp har I h0 e3 (hev _) fun s' J => ?_)
  refine wpAt_of_wpAny (wpAny_mono ((pss_new (X := xiCx P w K mg base ps qual (defScope st) fI cda cc A outer s H) T.ox har (fun x hx => .inl (S.par x hx)) hd hcd r).run [] s' _ H { nx := fun _ H' => Q .non H', rt := Q } J ⟨a, gs, h0, e3, hjs, e4, fun dx h1 h2 => hq dx h1 h2⟩) (fun fl s2 hs => ?_) fun e s2 hs => False.elim hs)
  cases fl with
  | next =>
    obtain ⟨σ', H', J', q⟩ := hs
    exact ⟨.non, H', J'.os, J'.bare, J'.base, J'.hok, rfl, q⟩
  | ret u =>
    obtain ⟨v, σ', H', J', rv', q⟩ := hs
    exact ⟨v, H', J'.os, J'.bare, J'.base, J'.hok, rv', q⟩
  | brk =>
    obtain ⟨_, _, _, q⟩ := hs
    exact False.elim q
  | cont =>
    obtain ⟨_, _, _, q⟩ := hs
    exact False.elim q
end
end DL

set_option Elab.async false
set_option linter.all false
set_option maxRecDepth 100000
set_option maxHeartbeats 4000000
set_option autoImplicit false
/-! defs that may let an error out: their promises, and how they are called -/
namespace DL
open L2 PyProof.Rows PySem.Spec PySem G58 SlX
variable [TbL]
/-- room for calls; ht: an error may be handled just now -/
structure RoomQ (ht : Bool) (k : Nat) (A : Around) : Prop where
  hd : ht = false → A.handled = none
  dp : A.depth + 3 * k + 5 < recursionLimit
  un : A.units + 16 * k + 200 < cLine
section
variable {ht ht' : Bool} {j k : Nat} {A : Around}
theorem RoomQ.of (r : Room k A) : RoomQ ht k A := ⟨fun _ => r.hd, r.dp, r.un⟩
theorem RoomQ.room (r : RoomQ false k A) : Room k A := ⟨r.hd rfl, r.dp, r.un⟩
theorem RoomQ.to (r : RoomQ ht k A) (h : j ≤ k) (q : ht = true → ht' = true) : RoomQ ht' j A := ⟨fun z => r.hd (by cases ht with | false => rfl | true => cases (q rfl).symm.trans z), by have := r.dp; omega, by have := r.un; omega⟩
theorem RoomQ.deeper (r : RoomQ ht (k + 1) A) (env : Env) : RoomQ ht k (A.deeper env) := ⟨r.hd, by have := r.dp; show A.depth + 1 + 3 * k + 5 < _; omega, by have := r.un; show A.units + 3 + 16 * k + 200 < _; omega⟩
theorem RoomQ.in1 (r : RoomQ ht (k + 1) A) : RoomQ ht k A.in1 := ⟨r.hd, by have := r.dp; show A.depth + 3 * k + 5 < _; omega, by have := r.un; show A.units + 1 + 16 * k + 200 < _; omega⟩
theorem RoomQ.depth (r : RoomQ ht k A) : A.depth < recursionLimit := by have := r.dp; omega
theorem RoomQ.units (r : RoomQ ht k A) : A.units + 64 < cLine := by have := r.un; omega
theorem RoomQ.mark {e : Option Value} (r : RoomQ ht k A) : RoomQ true k (A.mark e) := ⟨(fun z => nomatch z), r.dp, r.un⟩
end
/-- a def's promise; gd: it may ask that no repr is under way; ht: an error may be handled where it is called -/
structure FnX (Γ : GG) (gd ht : Bool) (k : Nat) (f : Addr) (fd : FuncData) (ps : List Str) (sp : Sp) : Prop where
  len : ∀ vs H Q E, sp vs H Q E → vs.length = ps.length
  run : ∀ (A : Around) (outer : List Env) (s : Shared) (H : Hp) (args : Args) (us : List Value) (vs : List V) (Q : VK) (E : XK),
    (gd = true → A.guards = some []) → RoomQ ht k A → Env0 Γ.P Γ.w Γ.K Γ.mg Γ.base A outer s H → BindsTo s fd args (ps.zip us) → Vals vs us → sp vs H Q E →
      codeAny (model Γ.P Γ.w) A (.call (.ref f) args) (CR (L2.CX Γ.P Γ.w) outer Γ.P Γ.w H s Q E) s
/-- the same for values in their places -/
def FnRX (Γ : GG) (gd ht : Bool) (k : Nat) (f : Addr) (sp : Sp) : Prop := ∀ (A : Around) (outer : List Env) (s : Shared) (H : Hp) (us : List Value) (vs : List V) (Q : VK) (E : XK),
  (gd = true → A.guards = some []) → RoomQ ht k A → Env0 Γ.P Γ.w Γ.K Γ.mg Γ.base A outer s H → Vals vs us → sp vs H Q E →
    codeAny (model Γ.P Γ.w) A (.call (.ref f) ⟨us, []⟩) (CR (L2.CX Γ.P Γ.w) outer Γ.P Γ.w H s Q E) s
/-- a def of the top, by its name -/
structure DnX (Γ : GG) (gd ht : Bool) (k : Nat) (x : Str) (sp : Sp) : Prop where
  ex : ∃ (f : Addr) (fd : FuncData) (ps : List Str), Γ.mg x = some (.ref f) ∧ PySem.W.keepIn Γ.K (.ref f) = true ∧ Binds Γ.K fd ps [] ∧ FnX Γ gd ht k f fd ps sp
/-- a class and how it is made, with so many defaults -/
structure MkX (Γ : GG) (C : Addr) (gd ht : Bool) (k n : Nat) (F : FnD) (dd : List D) : Prop where
  ex : ∃ (fI : Addr) (fd : FuncData) (ps : List Str) (ds : List Value) (dvs : List V), Mk Γ.K C fI ∧ FnX Γ gd ht k fI fd ps (liftSp Γ n F) ∧ Binds Γ.K fd ps ds ∧ Vals dvs ds ∧ ∀ H W, Reps Γ H W dvs dd
section
variable {Γ : GG} {gd ht : Bool} {k : Nat} {f : Addr} {fd : FuncData} {ps : List Str} {sp : Sp}
theorem FnX.raw (F : FnX Γ gd ht k f fd ps sp) (hb : Binds Γ.K fd ps []) : FnRX Γ gd ht k f sp := fun A outer s H us vs Q E hg hr e0 r h => by
  have KX : Γ.K.In s.heap := e0.mod.kin.keeps fun b o e => (e0.bs b o e).1
  have hl : us.length = ps.length := by rw [← r.length]; exact F.len _ _ _ _ h
  have b := hb s us KX (by rw [List.append_nil]; exact hl)
  rw [List.append_nil] at b
  exact F.run A outer s H ⟨us, []⟩ us vs Q E hg hr e0 b r h
theorem FnRX.fnR (F : FnRX Γ false ht k f sp) : FnR Γ.P Γ.w Γ.K Γ.mg Γ.base (L2.CX Γ.P Γ.w) k f sp := fun A outer s H us vs Q E hr e0 r h => F A outer s H us vs Q E (fun z => nomatch z) (.of hr) e0 r h
variable {P : Program} {w : World} {K : PySem.W.Frag} {mg : Str → Option Value} {base : Heap} {T : TTb} {N : List Str} {x qual : Str}
theorem okX {st : Stmt} (F : Fun K x qual st f fd) (S : FnScope N ps (defScope st)) (len : ∀ vs H Q E, sp vs H Q E → vs.length = ps.length)
    (hbody : ∀ (cdv : Value) (A : Around) (outer : List Env) (s : Shared) (H : Hp) (vs : List V) (Q : VK) (E : XK), (gd = true → A.guards = some []) → Room k (A.deeper (envOfC qual (defScope st) s.heap.objs.size f cdv)) → sp vs H Q E →
      ∃ t, PSs (cxOf (L2.CX P w) P w K mg base N qual (defScope st) f cdv A outer s H E) (defBody st) t ∧ t { nx := fun _ H' => Q .non H', rt := Q } (L2.start N vs) H) :
    FnX (Gm K mg P w base T) gd false (k + 1) f fd ps sp := by
  obtain ⟨oc, od, kV, doc, pm, an, cdv, ct, osl, rfl, lk, hcd⟩ := F.ex
  cases gd with
  | true =>
    have z := fnG_of (CX := L2.CX P w) (P := P) (w := w) (mg := mg) (base := base) lk hcd S len fun A outer s H vs Q E hg hr hsp => hbody cdv A outer s H vs Q E (fun _ => hg) hr hsp
    exact ⟨z.len, fun A o s H ar us vs Q E hg hr => z.run A o s H ar us vs Q E (hg rfl) hr.room⟩
  | false =>
    have z := fn_of (CX := L2.CX P w) (P := P) (w := w) (mg := mg) (base := base) lk hcd S len fun A outer s H vs Q E hr hsp => hbody cdv A outer s H vs Q E (fun z => nomatch z) hr hsp
    exact ⟨z.len, fun A o s H ar us vs Q E _ hr => z.run A o s H ar us vs Q E hr.room⟩
theorem okXD {params : Arguments} {body : List Stmt} {scope : Scope} {dvs : List V} {kws : List (Str × V)} (F : FunD K x qual params body scope dvs kws f fd) (S : FnScope N ps scope) (len : ∀ vs H Q E, sp vs H Q E → vs.length = ps.length)
    (hbody : ∀ (cdv : Value) (A : Around) (outer : List Env) (s : Shared) (H : Hp) (vs : List V) (Q : VK) (E : XK), (gd = true → A.guards = some []) → Room k (A.deeper (envOfC qual scope s.heap.objs.size f cdv)) → sp vs H Q E →
      ∃ t, PSs (cxOf (L2.CX P w) P w K mg base N qual scope f cdv A outer s H E) body t ∧ t { nx := fun _ H' => Q .non H', rt := Q } (L2.start N vs) H) :
    FnX (Gm K mg P w base T) gd false (k + 1) f fd ps sp := by
  obtain ⟨oc, od, dV, kV, doc, pm, an, cdv, ct, osl, rfl, lk, hcd, _, _⟩ := F.ex
  cases gd with
  | true =>
    have z := fnG_of (CX := L2.CX P w) (P := P) (w := w) (mg := mg) (base := base) lk hcd S len fun A outer s H vs Q E hg hr hsp => hbody cdv A outer s H vs Q E (fun _ => hg) hr hsp
    exact ⟨z.len, fun A o s H ar us vs Q E hg hr => z.run A o s H ar us vs Q E (hg rfl) hr.room⟩
  | false =>
    have z := fn_of (CX := L2.CX P w) (P := P) (w := w) (mg := mg) (base := base) lk hcd S len fun A outer s H vs Q E hr hsp => hbody cdv A outer s H vs Q E (fun z => nomatch z) hr hsp
    exact ⟨z.len, fun A o s H ar us vs Q E _ hr => z.run A o s H ar us vs Q E hr.room⟩
end
/-! running -/
section
variable {X : Cx} {T : TTb} {W : WX} {gd ht : Bool} {k : Nat} {f C : Addr} {fd : FuncData} {ps : List Str} {sp : Sp} {pins : List (Addr × Obj)} {σ : L2.St} {H : Hp} {s : Shared} {Q : VK} {us : List Value} {vs : List V} {ds : List Value} {dvs : List V}
theorem runR (F : FnRX (gg X T) gd ht k f sp) (hg : gd = true → X.A.guards = some []) (hr : RoomQ ht k X.A) (tk : Takes X W) (I : Inv X pins σ H s) (r : Vals vs us) (h : sp vs H Q (fun c d H' => W c d σ H')) :
    codeAny (model X.prog X.w) X.A (.call (.ref f) ⟨us, []⟩) (fun r s' => match r with | .ok (.ret v) => EP X pins σ Q v s' | .ok _ => False | .error e => X.xe e s') s := by
  refine codeAny_mono (F X.A X.stack s H us vs Q _ hg hr I.env0 r h) fun r s' hq => ?_
  match r, hq with
  | .error e, hq => exact tk e s' (XE.of_call I (fun _ _ _ h => h) hq)
  | .ok (.ret u), hq => exact I.after hq
  | .ok .next, hq => exact False.elim hq
  | .ok .brk, hq => exact False.elim hq
  | .ok .cont, hq => exact False.elim hq
theorem runX (F : FnX (gg X T) gd ht k f fd ps sp) (hg : gd = true → X.A.guards = some []) (hr : RoomQ ht k X.A) (hb : Binds X.K fd ps ds) (hd : Vals dvs ds) (tk : Takes X W) (I : Inv X pins σ H s) (r : Vals vs us) (h : sp (vs ++ dvs) H Q (fun c d H' => W c d σ H')) :
    wpAny (model X.prog X.w) X.A (call (.ref f) us) (EP X pins σ Q) X.xe s := by
  have r2 := r.append hd
  have hl : (us ++ ds).length = ps.length := r2.length.symm.trans (F.len _ _ _ _ h)
  refine wpAny_call (codeAny_mono (F.run X.A X.stack s H ⟨us, []⟩ (us ++ ds) (vs ++ dvs) Q _ hg hr I.env0 (hb s us I.kIn hl) r2 h) fun r s' hq => ?_)
  match r, hq with
  | .error e, hq => exact tk e s' (XE.of_call I (fun _ _ _ h => h) hq)
  | .ok (.ret u), hq => exact I.after hq
  | .ok .next, hq => exact False.elim hq
  | .ok .brk, hq => exact False.elim hq
  | .ok .cont, hq => exact False.elim hq
theorem runMk (M : Mk X.K C f) (F : FnX (gg X T) gd ht k f fd ps sp) (hg : gd = true → X.A.guards = some []) (hr : RoomQ ht (k + 1) X.A) (hb : Binds X.K fd ps ds) (hd : Vals dvs ds) (tk : Takes X W) (I : Inv X pins σ H s) (r : Vals vs us)
    (h : ∀ x dx, H x = none → H dx = none → dx ≠ x → sp (.ref x :: (vs ++ dvs)) (upd (upd H dx (.own x)) x (.ins C dx [])) (fun v H2 => v = .non ∧ Q (.ref x) H2) (fun c d H' => W c d σ H')) :
    wpAny (model X.prog X.w) X.A (call (.ref C) us) (EP X pins σ Q) X.xe s := by
  have hrm : ∀ (C : Addr) (us : List Value), (X.A.under (.builtin "type.__call__" ⟨.ref C :: us, []⟩)).depth + 3 * k + 5 < recursionLimit ∧ (X.A.under (.builtin "type.__call__" ⟨.ref C :: us, []⟩)).units + 16 * k + 200 < cLine := fun C us =>
    ⟨by have := hr.dp; rw [make_depth]; omega, by have := hr.un; rw [make_units]; omega⟩
  have hq := h (s.heap.objs.size + 1) s.heap.objs.size (I.hok.fresh (Nat.le_succ _)) (I.hok.fresh (Nat.le_refl _)) (Nat.ne_of_lt (Nat.lt_succ_self _))
  have J := Inv.made (C := C) I
  have r2 : Vals (V.ref (s.heap.objs.size + 1) :: (vs ++ dvs)) (Value.ref (s.heap.objs.size + 1) :: (us ++ ds)) := .cons rfl (r.append hd)
  have hl : (Value.ref (s.heap.objs.size + 1) :: us ++ ds).length = ps.length := r2.length.symm.trans (F.len _ _ _ _ hq)
  refine wpAny_call (make_map (f := f) I.kIn M.makes M.init (beq_iff_eq.mp M.fn) (codeAny_mono (F.run _ X.stack _ _ ⟨Value.ref (s.heap.objs.size + 1) :: us, []⟩ _ _ _ _ (fun z => hg z) ⟨hr.hd, (hrm C us).1, (hrm C us).2⟩ (J.env0.make C us []) (hb _ (Value.ref (s.heap.objs.size + 1) :: us) J.kIn hl) r2 hq) fun r s' hq' => ?_))
  match r, hq' with
  | .error e, hq' => exact tk e s' (XE.of_call J (fun _ _ _ h => h) hq')
  | .ok (.ret u), hq' =>
    obtain ⟨v, H', J3, rv, ev, q3⟩ := J.after hq'
    subst ev
    exact ⟨rv, ⟨V.ref (s.heap.objs.size + 1), H', J3, rfl, q3⟩⟩
  | .ok .next, hq' => exact False.elim hq'
  | .ok .brk, hq' => exact False.elim hq'
  | .ok .cont, hq' => exact False.elim hq'
end
end DL

set_option Elab.async false
set_option linter.all false
set_option maxRecDepth 100000
set_option maxHeartbeats 4000000
set_option autoImplicit false
/-! calls by trees, errors let through -/
namespace DL
open L2 PyProof.Rows PySem.Spec PySem G58 SlX
variable [TbL]
def tCallX (W : WX) (sp : Sp) (dvs : List V) (t : TA) : TE := fun σ H Q => t σ H fun vs H1 => sp (vs ++ dvs) H1 Q (fun c d H' => W c d σ H')
def tMakeX (W : WX) (C : Addr) (sp : Sp) (dvs : List V) (t : TA) : TE := fun σ H Q => t σ H fun vs H1 => ∀ x dx, H1 x = none → H1 dx = none → dx ≠ x → sp (.ref x :: (vs ++ dvs)) (upd (upd H1 dx (.own x)) x (.ins C dx [])) (fun v H2 => v = .non ∧ Q (.ref x) H2) (fun c d H' => W c d σ H')
def tMethIX (W : WX) (C : Addr) (m : Str) (sp : Sp) (ta : TE) (t : TA) : TE := fun σ H Q => ta σ H fun x H1 => ∃ a dx fs, x = .ref a ∧ H1 a = some (.ins C dx fs) ∧ fs.lookup m = none ∧ t σ H1 fun vs H2 => sp (x :: vs) H2 Q (fun c d H' => W c d σ H')
def tMethSX (W : WX) (C : Addr) (sp : Sp) (ta : TE) (t : TA) : TE := fun σ H Q => ta σ H fun x H1 => ∃ a dx vs, x = .ref a ∧ Slt H1 a C dx vs ∧ t σ H1 fun ws H2 => sp (x :: ws) H2 Q (fun c d H' => W c d σ H')
section
variable {X : Cx} {T : TTb} {W : WX} {gd ht : Bool} {k : Nat} {f C : Addr} {fd : FuncData} {ps : List Str} {sp : Sp} {ds : List Value} {dvs : List V} {x m : Str} {p pos apos : Pos} {e o : Expr} {es : List Expr} {ta : TE} {t : TA}
theorem pe_callX (F : FnX (gg X T) gd ht k f fd ps sp) (hgd : gd = true → X.A.guards = some []) (hr : RoomQ ht k X.A) (tk : Takes X W) (hm : X.mg x = some (.ref f)) (hk : PySem.W.keepIn X.K (.ref f) = true) (hb : Binds X.K fd ps ds) (hd : Vals dvs ds) (ha : PA X (e :: es) t) (hg : Gl X x) (hdb : (x == ("__debug__" : Str)) = false)
    (he : starEach (e :: es) X.env = (false, eval e X.env) :: starEach es X.env) (hpl : (backTo pos (starEach es X.env)).any (·.1) = false) : PE X (.Call (.Name x p) (e :: es) [] pos) (tCallX W sp dvs t) where
  run := fun pins s σ H Q I h => wpAny_Call_Name_kw (ld_glob I hg hm (PySem.W.callWith_K (h₀ := X.base) I.ok.mod.kin hk (thn (ha.run pos pins s σ H _ I h) fun us s1 z => let ⟨vs, H1, I1, r, q⟩ := z; ⟨I1.kIn, runX F hgd hr hb hd tk I1 r q⟩) he hpl) hdb)
theorem pe_callX0 (F : FnX (gg X T) gd ht k f fd ps sp) (hgd : gd = true → X.A.guards = some []) (hr : RoomQ ht k X.A) (tk : Takes X W) (hm : X.mg x = some (.ref f)) (hk : PySem.W.keepIn X.K (.ref f) = true) (hb : Binds X.K fd ps ds) (hd : Vals dvs ds) (hg : Gl X x) (hdb : (x == ("__debug__" : Str)) = false) :
    PE X (.Call (.Name x p) [] [] pos) (tCallX W sp dvs tNil) where
  run := fun pins s σ H Q I h => wpAny_Call_Name_kw (ld_glob I hg hm (PySem.W.callWith_K0 I.kIn hk (runX (us := []) F hgd hr hb hd tk I .nil h)) hdb)
theorem pe_makeX (M : Mk X.K C f) (F : FnX (gg X T) gd ht k f fd ps sp) (hgd : gd = true → X.A.guards = some []) (hr : RoomQ ht (k + 1) X.A) (tk : Takes X W) (hm : X.mg x = some (.ref C)) (hb : Binds X.K fd ps ds) (hd : Vals dvs ds) (ha : PA X (e :: es) t) (hg : Gl X x) (hdb : (x == ("__debug__" : Str)) = false)
    (he : starEach (e :: es) X.env = (false, eval e X.env) :: starEach es X.env) (hpl : (backTo pos (starEach es X.env)).any (·.1) = false) : PE X (.Call (.Name x p) (e :: es) [] pos) (tMakeX W C sp dvs t) where
  run := fun pins s σ H Q I h => wpAny_Call_Name_kw (ld_glob I hg hm (PySem.W.callWith_K (h₀ := X.base) I.ok.mod.kin M.kp (thn (ha.run pos pins s σ H _ I h) fun us s1 z => let ⟨vs, H1, I1, r, q⟩ := z; ⟨I1.kIn, runMk M F hgd hr hb hd tk I1 r q⟩) he hpl) hdb)
theorem pe_methIX {pl : Sem Bool} (ho : PE X o ta) (c : Cls X.K C) (hm : Meth X.K C m f) (F : FnRX (gg X T) gd ht k f sp) (hgd : gd = true → X.A.guards = some []) (hr : RoomQ ht k X.A) (tk : Takes X W) (ha : PA X (e :: es) t)
    (hst : starEach (e :: es) X.env = (false, eval e X.env) :: starEach es X.env) (hpl : (backTo pos (starEach es X.env)).any (·.1) = false)
    (ht : eval (.Call (.Attribute o m apos) (e :: es) [] pos) X.env = (do
      let ov ← eval o X.env
      standAt apos.atName
      let (f, first) ← holding [ov] (getMethod ov m pl)
      callWith pos f first (backTo pos (starEach (e :: es) X.env)) (backToKw pos (keywordEach [] X.env)))) : PE X (.Call (.Attribute o m apos) (e :: es) [] pos) (tMethIX W C m sp ta t) := by
  refine ⟨fun pins s σ H Q I h => PySem.W.methodCall_KW (pl := pl) (thn (ho.run pins s σ H _ I h) fun u s1 z => ?_) ht⟩
  obtain ⟨x, H1, I1, rx, a, dx, fs, ex, ea, l, q⟩ := z
  subst ex
  cases (show u = Value.ref a from rx)
  exact getmeth_ok I1 ea c hm l (PySem.W.callWith_K (first := [.ref a]) (h₀ := X.base) I.ok.mod.kin hm.kp (thn (ha.run pos pins s1 σ H1 _ I1 q) fun us s2 z => let ⟨vs, H2, I2, r, q2⟩ := z; ⟨I2.kIn, wpAny_call (runR (us := .ref a :: us) (vs := .ref a :: vs) F hgd hr tk I2 (.cons rfl r) q2)⟩) hst hpl)
theorem pe_methIX0 {pl : Sem Bool} (ho : PE X o ta) (c : Cls X.K C) (hm : Meth X.K C m f) (F : FnRX (gg X T) gd ht k f sp) (hgd : gd = true → X.A.guards = some []) (hr : RoomQ ht k X.A) (tk : Takes X W)
    (ht : eval (.Call (.Attribute o m apos) [] [] pos) X.env = (do
      let ov ← eval o X.env
      standAt apos.atName
      let (f, first) ← holding [ov] (getMethod ov m pl)
      callWith pos f first (backTo pos (starEach [] X.env)) (backToKw pos (keywordEach [] X.env)))) : PE X (.Call (.Attribute o m apos) [] [] pos) (tMethIX W C m sp ta tNil) := by
  refine ⟨fun pins s σ H Q I h => PySem.W.methodCall_KW (pl := pl) (thn (ho.run pins s σ H _ I h) fun u s1 z => ?_) ht⟩
  obtain ⟨x, H1, I1, rx, a, dx, fs, ex, ea, l, q⟩ := z
  subst ex
  cases (show u = Value.ref a from rx)
  exact getmeth_ok I1 ea c hm l (PySem.W.callWith_K0 (first := [.ref a]) I1.kIn hm.kp (wpAny_call (runR (us := [.ref a]) (vs := [.ref a]) F hgd hr tk I1 (.cons rfl .nil) q)))
theorem pe_methSX {pl : Sem Bool} (ho : PE X o ta) (c : SCls X.K C) (hm : Meth X.K C m f) (F : FnRX (gg X T) gd ht k f sp) (hgd : gd = true → X.A.guards = some []) (hr : RoomQ ht k X.A) (tk : Takes X W) (ha : PA X (e :: es) t)
    (hst : starEach (e :: es) X.env = (false, eval e X.env) :: starEach es X.env) (hpl : (backTo pos (starEach es X.env)).any (·.1) = false)
    (ht : eval (.Call (.Attribute o m apos) (e :: es) [] pos) X.env = (do
      let ov ← eval o X.env
      standAt apos.atName
      let (f, first) ← holding [ov] (getMethod ov m pl)
      callWith pos f first (backTo pos (starEach (e :: es) X.env)) (backToKw pos (keywordEach [] X.env)))) : PE X (.Call (.Attribute o m apos) (e :: es) [] pos) (tMethSX W C sp ta t) := by
  refine ⟨fun pins s σ H Q I h => PySem.W.methodCall_KW (pl := pl) (thn (ho.run pins s σ H _ I h) fun u s1 z => ?_) ht⟩
  obtain ⟨x, H1, I1, rx, a, dx, vs, ex, hsl, q⟩ := z
  subst ex
  cases (show u = Value.ref a from rx)
  exact getmethsl_ok I1 hsl c hm (PySem.W.callWith_K (first := [.ref a]) (h₀ := X.base) I.ok.mod.kin hm.kp (thn (ha.run pos pins s1 σ H1 _ I1 q) fun us s2 z => let ⟨ws, H2, I2, r, q2⟩ := z; ⟨I2.kIn, wpAny_call (runR (us := .ref a :: us) (vs := .ref a :: ws) F hgd hr tk I2 (.cons rfl r) q2)⟩) hst hpl)
theorem pe_methSX0 {pl : Sem Bool} (ho : PE X o ta) (c : SCls X.K C) (hm : Meth X.K C m f) (F : FnRX (gg X T) gd ht k f sp) (hgd : gd = true → X.A.guards = some []) (hr : RoomQ ht k X.A) (tk : Takes X W)
    (ht : eval (.Call (.Attribute o m apos) [] [] pos) X.env = (do
      let ov ← eval o X.env
      standAt apos.atName
      let (f, first) ← holding [ov] (getMethod ov m pl)
      callWith pos f first (backTo pos (starEach [] X.env)) (backToKw pos (keywordEach [] X.env)))) : PE X (.Call (.Attribute o m apos) [] [] pos) (tMethSX W C sp ta tNil) := by
  refine ⟨fun pins s σ H Q I h => PySem.W.methodCall_KW (pl := pl) (thn (ho.run pins s σ H _ I h) fun u s1 z => ?_) ht⟩
  obtain ⟨x, H1, I1, rx, a, dx, vs, ex, hsl, q⟩ := z
  subst ex
  cases (show u = Value.ref a from rx)
  exact getmethsl_ok I1 hsl c hm (PySem.W.callWith_K0 (first := [.ref a]) I1.kIn hm.kp (wpAny_call (runR (us := [.ref a]) (vs := [.ref a]) F hgd hr tk I1 (.cons rfl .nil) q)))
end
/-! readings -/
def callDNX (n : Nat) (f : FnD) (xs : List AV) : ME MO := fun δ => match getArgs δ xs with
  | none => .bad
  | some ss => if decide (xs.length = n) && nodupB (refsOf xs) then (match f ss with
    | .ok (.m o) ss' => (match putArgs δ xs ss' with
      | some δ' => .ok o δ'
      | none => .bad)
    | .ex x ss' => (match putArgs δ xs ss' with
      | some δ' => .ex x δ'
      | none => .bad)
    | _ => .bad) else .bad
def nCallX (n : Nat) (f : FnD) (xs : ME (List AV)) : ME MO := bnd xs fun a => callDNX n f a
def call1X (f : FnD) (o : MO) : ME D := fun δ => match f [.m o] with
  | .ok (.v d) _ => .ok d δ
  | .ex x _ => .ex x δ
  | _ => .bad
def eCall1X (f : FnD) (F : ME MO) : ME D := bnd F fun o => call1X f o
def mkX (sl : Bool) (c : Str) (n : Nat) (f : FnD) (xs : List D) : ME D := fun δ => if decide (xs.length + 1 = n) then (match f (.m (new0 sl c) :: xs.map .v) with
  | .ok (.v .non) (.m o :: _) => (match frzO o with
    | some d => .ok d δ
    | none => .bad)
  | .ex x _ => .ex x δ
  | _ => .bad) else .bad
def eMakeX (sl : Bool) (c : Str) (n : Nat) (f : FnD) (A : ME (List D)) (dv : List D) : ME D := bnd A fun xs => mkX sl c n f (xs ++ dv)
def eMethIX (c m : Str) (n : Nat) (f : FnD) (O : ME D) (A : ME (List AV)) : ME D := bnd O fun o => if isI c o && hasNo m o then bnd A (fun xs => callD n f (.v o :: xs)) else fun _ => .bad
def eMethSX (c : Str) (n : Nat) (f : FnD) (O : ME D) (A : ME (List AV)) : ME D := bnd O fun o => if isS c o then bnd A (fun xs => callD n f (.v o :: xs)) else fun _ => .bad
section
variable {X : Cx} {Wx : WT} {gd ht : Bool} {k n : Nat} {F : FnD} {x c m f : Str} {C g0 p0 : Addr} {p pos apos : Pos} {e o : Expr} {es : List Expr} {As' : ME (List D)} {Av : ME (List AV)} {dd : List D} {Fo : ME D} {Fn : ME MO}
theorem de_callX (D' : DnX (gg X Wx.T) gd ht k x (liftSp (gg X Wx.T) n F)) (hgd : gd = true → X.A.guards = some []) (hr : RoomQ ht k X.A) (tk : Takes X Wx.wx) (ha : DV X Wx (e :: es) Av) (hg : Gl X x := by rfl) (hdb : (x == ("__debug__" : Str)) = false := by decide)
    (he : starEach (e :: es) X.env = (false, eval e X.env) :: starEach es X.env := by rfl) (hpl : (backTo pos (starEach es X.env)).any (·.1) = false := by rfl) : DE X Wx (.Call (.Name x p) (e :: es) [] pos) (eCall n F Av) := by
  obtain ⟨fa, fd, ps, hm, hk, hb, FX⟩ := D'.ex
  refine pe_of (pe_callX FX hgd hr tk hm hk hb .nil ha hg hdb he hpl) fun σ H Q ⟨g, ms, δ, s, p⟩ => ?_
  refine liftV_bnd s p fun d1 δ1 H1 vs s1 l1 r1 p1 => ?_
  rw [List.append_nil]
  exact call_lift s1 r1 p1
theorem de_callX0 (D' : DnX (gg X Wx.T) gd ht k x (liftSp (gg X Wx.T) 0 F)) (hgd : gd = true → X.A.guards = some []) (hr : RoomQ ht k X.A) (tk : Takes X Wx.wx) (hg : Gl X x := by rfl) (hdb : (x == ("__debug__" : Str)) = false := by decide) :
    DE X Wx (.Call (.Name x p) [] [] pos) (eCall 0 F vNil) := by
  obtain ⟨fa, fd, ps, hm, hk, hb, FX⟩ := D'.ex
  refine pe_of (pe_callX0 FX hgd hr tk hm hk hb .nil hg hdb) fun σ H Q ⟨g, ms, δ, s, p⟩ => ?_
  exact call_lift s .nil p
theorem callNX_lift {Γ : GG} {g : Gh Wx.fx} {ms : List Rg} {σ : L2.St} {H : Hp} {δ : Ds} {Q : VK} {xs : List AV} {vs : List V} (s : Sim Γ g ms δ σ H) (r : RepsV Γ H g ms vs xs) (p : NPost Γ Wx g ms σ H Q (callDNX n F xs δ)) : liftSp Γ n F vs H Q (fun c d H' => Wx.wx c d σ H') := by
  unfold callDNX at p
  split at p
  · exact p.elim
  · rename_i ss e
    split at p
    · rename_i c
      rw [Bool.and_eq_true] at c
      have hl : ss.length = n := (getArgs_len e).trans (of_decide_eq_true c.1)
      refine ⟨Wt g ms, argRegs ms xs, ss, hl, args_ok s r e c.2, ?_⟩
      cases q : F ss with
      | bad => rw [q] at p; exact p.elim
      | ex x ss' =>
        rw [q] at p
        intro cls dd H' ou rp l
        cases e2 : putArgs δ xs ss' with
        | none => simp only [e2] at p; exact p.elim
        | some δ' =>
          simp only [e2] at p
          have l' : Le (regs ms) H H' := l.mono (argRegs_sub r)
          exact p cls dd H' (s.step (slots_after s r c.2 ou l (fun b z => .inl z) e2) l' (put_kp e e2)) l' rp
      | ok t ss' =>
        rw [q] at p
        cases t with
        | v d => exact p.elim
        | m o =>
          intro pp dx H' hp hd ou ma l
          cases e2 : putArgs δ xs ss' with
          | none => simp only [e2] at p; exact p.elim
          | some δ' =>
            simp only [e2] at p
            have l' : Le (regs ms) H H' := l.mono (argRegs_sub r)
            have sl := slots_after s r c.2 ou l (fun b z => by
              rcases z with z | z
              · exact .inl z
              · exact .inr (by rcases z with z | z <;> rw [z] <;> assumption)) e2
            exact p pp dx H' hp hd (s.extN hp hd sl ma l' (put_kp e e2)) sl.len.1 l'
    · exact p.elim
theorem dn_callX (D' : DnX (gg X Wx.T) gd ht k x (liftSp (gg X Wx.T) n F)) (hgd : gd = true → X.A.guards = some []) (hr : RoomQ ht k X.A) (tk : Takes X Wx.wx) (ha : DV X Wx (e :: es) Av) (hg : Gl X x := by rfl) (hdb : (x == ("__debug__" : Str)) = false := by decide)
    (he : starEach (e :: es) X.env = (false, eval e X.env) :: starEach es X.env := by rfl) (hpl : (backTo pos (starEach es X.env)).any (·.1) = false := by rfl) : DN X Wx (.Call (.Name x p) (e :: es) [] pos) (nCallX n F Av) := by
  obtain ⟨fa, fd, ps, hm, hk, hb, FX⟩ := D'.ex
  refine pe_of (pe_callX FX hgd hr tk hm hk hb .nil ha hg hdb he hpl) fun σ H Q ⟨g, ms, δ, s, p⟩ => ?_
  refine ⟨g, ms, δ, s, npost_bnd p fun ds δ1 H1 s1 l1 p1 vs r1 => ?_⟩
  show liftSp (gg X Wx.T) n F (vs ++ []) H1 Q _
  rw [List.append_nil]
  exact callNX_lift s1 r1 p1
theorem call1X_lift {Γ : GG} {g : Gh Wx.fx} {ms : List Rg} {σ : L2.St} {H H' : Hp} {δ' : Ds} {Q : VK} {o : MO} {pp dx : Addr} (h1 : H pp = none) (h2 : H dx = none)
    (s' : Sim Γ g (ms ++ [some (pp, dx)]) (δ' ++ [some (.m o)]) (σ ++ [some (.ref pp)]) H') (s : ∀ {H2 : Hp}, SlotsR Γ H2 (Wt g ms) ms δ' σ → Le (regs ms) H H2 → Sim Γ g ms δ' σ H2) (l0 : ms.length = δ'.length) (l : Le (regs ms) H H')
    (p : Post Γ Wx g ms σ H (fun d _ H' => ∀ v, Rep Γ H' (Wt g ms) v d → Q v H') (call1X F o δ')) : liftSp Γ 1 F [.ref pp] H' Q (fun c d H' => Wx.wx c d σ H') := by
  have ln := s'.sl.len
  simp only [List.length_append, List.length_singleton] at ln
  obtain ⟨o', y1, y2, y3⟩ := s'.sl.getM (i := ms.length) (a := pp) (dx := dx) (by simp)
  rw [l0] at y1
  simp at y1
  subst y1
  unfold call1X at p
  refine ⟨Wt g (ms ++ [some (pp, dx)]), [some (pp, dx)], [.m o], rfl, ⟨.cons (.m y3) .nil, fun i j a d b e q1 q2 ne => ?_, fun b z => .inr (regs_app.mpr (.inr z)), fun b z => s'.alW z, s'.tab⟩, ?_⟩
  · have := (List.getElem?_eq_some_iff.mp q1).1
    have := (List.getElem?_eq_some_iff.mp q2).1
    simp at *
    omega
  -- the slots behind the call
  have after : ∀ {H2 : Hp}, Le (regs [some (pp, dx)]) H' H2 → Le (regs ms) H H2 ∧ Sim Γ g ms δ' σ H2 := by
    intro H2 l2
    have mv : Mv (regs [some (pp, dx)]) (Wt g (ms ++ [some (pp, dx)])) (Wt g ms) H' H2 := ⟨l2, fun b z => .inr (regs_app.mpr (.inr z)), fun b z => .inl (z.imp id fun y => regs_app.mpr (.inl y))⟩
    have l3 : Le (regs ms) H H2 := by
      refine ⟨fun b u n t z => l2.keep b u (fun y => ?_) t (l.keep b u n t z), fun b z => l2.al b (l.al b z), fun T t => l2.tb T (l.tb T t)⟩
      obtain ⟨a, d, hm, e⟩ := y
      cases List.mem_singleton.mp hm
      rcases e with e | e <;> rw [e] at z
      · rw [h1] at z; cases z
      · rw [h2] at z; cases z
    refine ⟨l3, s ?_ l3⟩
    refine slots_of l0 (by omega) fun i r t x e1 e2 e3 => ?_
    have il := (List.getElem?_eq_some_iff.mp e2).1
    obtain ⟨r', x', w1, w2, w3⟩ := s'.sl.get (i := i) (s := t) (by rw [List.getElem?_append_left il]; exact e2)
    rw [List.getElem?_append_left (by omega), e1] at w1
    cases w1
    rw [List.getElem?_append_left (by omega), e3] at w2
    cases w2
    cases w3 with
    | no => exact .no
    | v h => exact .v (h.mv mv)
    | @m a d ob h =>
      have ds := s'.dis i ms.length a d pp dx (by rw [List.getElem?_append_left (by omega)]; exact e1) (by simp) (by omega)
      refine .m (h.mv mv ?_ ?_)
      · rintro ⟨a', d', hm, e⟩
        cases List.mem_singleton.mp hm
        rcases e with e | e
        · exact ds.1 e
        · exact ds.2.1 e
      · rintro ⟨a', d', hm, e⟩
        cases List.mem_singleton.mp hm
        rcases e with e | e
        · exact ds.2.2.1 e
        · exact ds.2.2.2 e
  have wk : ∀ {H2 : Hp}, Mv (fun _ => False) (Wt g (ms ++ [some (pp, dx)])) (Wt g ms) H2 H2 := fun {H2} => Mv.wk fun b z => z.imp id fun y => regs_app.mpr (.inl y)
  cases q : F [.m o] with
  | bad => rw [q] at p; exact p.elim
  | ex x ss' =>
    rw [q] at p
    intro cls dd H2 _ xr l2
    obtain ⟨l3, s3⟩ := after l2
    obtain ⟨C, dx', gs, z1, z2, z3, z4, z5, z6⟩ := xr
    exact p cls dd H2 s3 l3 ⟨C, dx', gs, z1, z2, z3, z4, fun y => z5 (y.imp id fun y => regs_app.mpr (.inl y)), z6.mv wk⟩
  | ok t ss' =>
    rw [q] at p
    cases t with
    | m _ => exact p.elim
    | v d =>
      intro v H2 _ rv l2
      obtain ⟨l3, s3⟩ := after l2
      exact p H2 s3 l3 v (rv.mv wk)
theorem de_call1X (D' : DnX (gg X Wx.T) gd ht k x (liftSp (gg X Wx.T) 1 F)) (hgd : gd = true → X.A.guards = some []) (hr : RoomQ ht k X.A) (tk : Takes X Wx.wx) (ha : DN X Wx e Fn) (hg : Gl X x := by rfl) (hdb : (x == ("__debug__" : Str)) = false := by decide)
    (he : starEach [e] X.env = (false, eval e X.env) :: starEach [] X.env := by rfl) (hpl : (backTo pos (starEach [] X.env)).any (·.1) = false := by rfl) : DE X Wx (.Call (.Name x p) [e] [] pos) (eCall1X F Fn) := by
  obtain ⟨fa, fd, ps, hm, hk, hb, FX⟩ := D'.ex
  refine pe_of (pe_callX FX hgd hr tk hm hk hb .nil (pa_cons ha pa_nil he) hg hdb he hpl) fun σ H Q ⟨g, ms, δ, s, p⟩ => ?_
  refine liftN_bnd s p fun o δ' q dx H' h1 h2 s' l0 l p1 => ?_
  exact call1X_lift h1 h2 s' (fun sl l => s.step sl l fun f e _ => s'.kpN e) l0 l p1
/-! making -/
theorem makeX_lift {Γ : GG} {g : Gh Wx.fx} {ms : List Rg} {δ : Ds} {σ : L2.St} {H : Hp} {Q : VK} {sl : Bool} {xs : List D} {vs : List V} {x dx : Addr} (s : Sim Γ g ms δ σ H) (hm : Γ.mg c = some (.ref C)) (r : Reps Γ H (Wt g ms) vs xs)
    (hx : H x = none) (hd : H dx = none) (ne : dx ≠ x) (p : Post Γ Wx g ms σ H (fun d _ H' => ∀ v, Rep Γ H' (Wt g ms) v d → Q v H') (mkX sl c n F xs δ)) :
    liftSp Γ n F (.ref x :: vs) (upd (upd H dx (.own x)) x (.ins C dx [])) (fun v H2 => v = .non ∧ Q (.ref x) H2) (fun c d H' => Wx.wx c d σ H') := by
  have sm : Same H (upd (upd H dx (.own x)) x (.ins C dx [])) := fun b o h => by rw [upd_ne (ne_of_none h hx), upd_ne (ne_of_none h hd)]; exact h
  generalize hH2 : upd (upd H dx (.own x)) x (.ins C dx []) = H2 at *
  have ax : H2 x = some (.ins C dx []) := by rw [← hH2, upd_same]
  have ad : H2 dx = some (.own x) := by rw [← hH2, upd_ne ne, upd_same]
  unfold mkX at p
  split at p
  rotate_left
  · exact p.elim
  rename_i hl
  have hl := of_decide_eq_true hl
  let rx : Addr := match sl with | true => dx | false => x
  have hrx : H rx = none := by cases sl <;> assumption
  have arx : H2 rx ≠ none := by cases sl <;> (first | (show H2 dx ≠ none; rw [ad]; exact fun z => nomatch z) | (show H2 x ≠ none; rw [ax]; exact fun z => nomatch z))
  have mv : Mv (fun _ => False) (Wt g ms) (with2 (Wt g ms) x rx) H H2 := ⟨Le.same sm, fun _ z => z.elim, fun b z => by
    rcases z with z | z | z
    · exact .inl z
    · exact .inr (by rw [z]; exact hx)
    · exact .inr (by rw [z]; exact hrx)⟩
  have m0 : MAt Γ H2 (with2 (Wt g ms) x rx) x rx (new0 sl c) := by
    cases sl with
    | true => exact ⟨C, [], hm, ne, ⟨_, ad, pl_own⟩, .inl ⟨ax, rfl⟩, .nil⟩
    | false => exact ⟨rfl, C, dx, [], hm, ax, .nil⟩
  have rsV : ∀ {vs : List V} {xs : List D}, Reps Γ H (Wt g ms) vs xs → SlotsR Γ H2 (with2 (Wt g ms) x rx) (List.replicate xs.length none) ((xs.map S.v).map some) (vs.map some) := by
    intro vs xs r
    induction xs generalizing vs with
    | nil =>
      cases r
      exact .nil
    | cons y ys ih =>
      cases r with
      | cons h r => exact .cons (.v (h.mv mv)) (ih r)
  have at0 : ∀ (j : Nat) (q : Addr × Addr), (some (x, rx) :: List.replicate xs.length none)[j]? = some (some q) → j = 0 ∧ q = (x, rx) := fun j q h => by
    cases j with
    | zero =>
      simp at h
      exact ⟨rfl, h.symm⟩
    | succ j =>
      simp only [List.getElem?_cons_succ, List.getElem?_replicate] at h
      split at h <;> cases h
  have rgs : ∀ b, regs (some (x, rx) :: List.replicate xs.length none) b → b = x ∨ b = rx := by
    rintro b ⟨a, d, hmm, e⟩
    obtain ⟨j, hj⟩ := List.mem_iff_getElem?.mp hmm
    obtain ⟨_, q⟩ := at0 j (a, d) hj
    cases q
    exact e
  have after : ∀ {H' : Hp}, Le (regs (some (x, rx) :: List.replicate xs.length none)) H2 H' → Le (regs ms) H H' ∧ Sim Γ g ms δ σ H' := by
    intro H' l
    have l2 : Le (fun b => b = x ∨ b = rx) H H' := (Le.same sm).trans (l.mono rgs)
    have lm : Le (regs ms) H H' := ⟨fun b u n t h => l2.keep b u (fun y => by rcases y with y | y <;> rw [y] at h <;> (first | (rw [hx] at h; cases h) | (rw [hrx] at h; cases h))) t h, l2.al, l2.tb⟩
    have mv2 : Mv (fun b => b = x ∨ b = rx) (with2 (Wt g ms) x rx) (Wt g ms) H H' := ⟨l2, fun b y => .inr y, fun b y => .inl (.inl y)⟩
    have mv1 : Mv (fun _ => False) (Wt g ms) (with2 (Wt g ms) x rx) H H := Mv.fr fun b z => by
      rcases z with z | z | z
      · exact .inl z
      · exact .inr (by rw [z]; exact hx)
      · exact .inr (by rw [z]; exact hrx)
    refine ⟨lm, s.step ((s.sl.mv mv1 fun _ _ z => z).mv mv2 fun b z y => ?_) lm Kp.rfl⟩
    have := s.alR z
    rcases y with y | y <;> rw [y] at this
    · exact this hx
    · exact this hrx
  have wk : ∀ {H' : Hp}, Mv (fun _ => False) (with2 (Wt g ms) x rx) (Wt g ms) H' H' := fun {H'} => Mv.wk fun b z => .inl z
  refine ⟨with2 (Wt g ms) x rx, some (x, rx) :: List.replicate xs.length none, .m (new0 sl c) :: xs.map .v, by simpa using hl, ⟨.cons (.m m0) (rsV r), fun i j a d b d' h1 h2 nij => ?_, fun b z => .inr (rgs b z), fun b z => ?_, s.tab.ext sm⟩, ?_⟩
  · obtain ⟨z1, _⟩ := at0 _ _ h1
    obtain ⟨z2, _⟩ := at0 _ _ h2
    omega
  · rcases z with z | z | z
    · exact same_al sm b (s.alW z)
    · rw [z, ax]; exact fun y => nomatch y
    · rw [z]; exact arx
  · split at p
    · rename_i o rest q
      rw [q]
      intro v H' ou rv l
      obtain ⟨o', y1, y2⟩ := ou 0 x rx rfl
      simp at y1
      subst y1
      refine ⟨by cases rv; rfl, ?_⟩
      obtain ⟨lm, s3⟩ := after l
      cases qf : frzO o with
      | none => rw [qf] at p; exact p.elim
      | some z =>
        rw [qf] at p
        refine p H' s3 lm _ ?_
        match sl, o, qf, y2 with
        | _, .ins c' fs, e, ⟨_, C', d', gs, h1, h2, h3⟩ =>
          cases e
          exact .ins h1 h2 (s.fresh hx) (h3.mv wk)
        | _, .slt c' vs', e, ⟨C', ws, h1, h2, h3, h4, h5⟩ =>
          replace e : (allS vs').map (D.slt c' ·) = some z := e
          cases qa : allS vs' with
          | none => rw [qa] at e; cases e
          | some ds =>
            rw [qa] at e
            cases e
            exact .slt h1 h4 (s.fresh hx) (s.fresh hrx) (by obtain ⟨u, e, _⟩ := h3; rw [e]; exact fun z => nomatch z) ((h5.all qa).mv wk)
        | _, .lst _, e, _ => cases e
        | _, .dct _, e, _ => cases e
    · rename_i y rest q
      rw [q]
      intro cls dd H' _ xr l
      obtain ⟨lm, s3⟩ := after l
      obtain ⟨C', dx', gs, z1, z2, z3, z4, z5, z6⟩ := xr
      exact p cls dd H' s3 lm ⟨C', dx', gs, z1, z2, z3, z4, fun y => z5 (.inl y), z6.mv wk⟩
    · exact p.elim
theorem de_mkX (sl : Bool) (M : MkX (gg X Wx.T) C gd ht k n F dd) (hgd : gd = true → X.A.guards = some []) (hr : RoomQ ht (k + 1) X.A) (tk : Takes X Wx.wx) (hm : X.mg c = some (.ref C)) (ha : DA X Wx (e :: es) As') (hg : Gl X c := by rfl) (hdb : (c == ("__debug__" : Str)) = false := by decide)
    (he : starEach (e :: es) X.env = (false, eval e X.env) :: starEach es X.env := by rfl) (hpl : (backTo pos (starEach es X.env)).any (·.1) = false := by rfl) : DE X Wx (.Call (.Name c p) (e :: es) [] pos) (eMakeX sl c n F As' dd) := by
  obtain ⟨fI, fd, ps, ds, dvs, mk, FX, b, v, rr⟩ := M.ex
  refine pe_of (pe_makeX mk FX hgd hr tk hm b v ha hg hdb he hpl) fun σ H Q ⟨g, ms, δ, s, p⟩ => ?_
  refine liftA_bnd s p fun d1 δ1 H1 vs s1 l1 r1 p1 => ?_
  intro x dx hx hd ne
  exact makeX_lift s1 hm (r1.app (rr _ _)) hx hd ne p1
/-! methods -/
theorem de_mIX {pl : Sem Bool} (ho : DE X Wx o Fo) (hm : X.mg c = some (.ref C)) (cl : Cls X.K C) (me : Meth X.K C m g0) (FO : FnRX (gg X Wx.T) gd ht k g0 (liftSp (gg X Wx.T) n F)) (hgd : gd = true → X.A.guards = some []) (hr : RoomQ ht k X.A) (tk : Takes X Wx.wx) (ha : DV X Wx (e :: es) Av)
    (hst : starEach (e :: es) X.env = (false, eval e X.env) :: starEach es X.env := by rfl) (hpl : (backTo pos (starEach es X.env)).any (·.1) = false := by rfl)
    (ht : eval (.Call (.Attribute o m apos) (e :: es) [] pos) X.env = (do
      let ov ← eval o X.env
      standAt apos.atName
      let (f, first) ← holding [ov] (getMethod ov m pl)
      callWith pos f first (backTo pos (starEach (e :: es) X.env)) (backToKw pos (keywordEach [] X.env))) := by rfl) : DE X Wx (.Call (.Attribute o m apos) (e :: es) [] pos) (eMethIX c m n F Fo Av) := by
  refine pe_of (pe_methIX (pl := pl) ho cl me FO hgd hr tk ha hst hpl ht) fun σ H Q ⟨g, ms, δ, s, p⟩ => ?_
  refine lift_bnd s p fun d δ1 H1 v s1 l1 r1 p1 => ?_
  split at p1
  · rename_i cc
    rw [Bool.and_eq_true] at cc
    obtain ⟨a, dx, gs, fs, rfl, rfl, h2, h3⟩ := isI_rep hm cc.1 r1
    refine ⟨a, dx, gs, rfl, h2, h3.none cc.2, ?_⟩
    refine liftV_bnd s1 p1 fun d2 δ2 H2 vs s2 l2 r2 p2 => ?_
    exact call_lift s2 (.cons (.v (r1.up l2)) r2) p2
  · exact p1.elim
theorem de_mIX0 {pl : Sem Bool} (ho : DE X Wx o Fo) (hm : X.mg c = some (.ref C)) (cl : Cls X.K C) (me : Meth X.K C m g0) (FO : FnRX (gg X Wx.T) gd ht k g0 (liftSp (gg X Wx.T) 1 F)) (hgd : gd = true → X.A.guards = some []) (hr : RoomQ ht k X.A) (tk : Takes X Wx.wx)
    (ht : eval (.Call (.Attribute o m apos) [] [] pos) X.env = (do
      let ov ← eval o X.env
      standAt apos.atName
      let (f, first) ← holding [ov] (getMethod ov m pl)
      callWith pos f first (backTo pos (starEach [] X.env)) (backToKw pos (keywordEach [] X.env))) := by rfl) : DE X Wx (.Call (.Attribute o m apos) [] [] pos) (eMethIX c m 1 F Fo vNil) := by
  refine pe_of (pe_methIX0 (pl := pl) ho cl me FO hgd hr tk ht) fun σ H Q ⟨g, ms, δ, s, p⟩ => ?_
  refine lift_bnd s p fun d δ1 H1 v s1 l1 r1 p1 => ?_
  split at p1
  · rename_i cc
    rw [Bool.and_eq_true] at cc
    obtain ⟨a, dx, gs, fs, rfl, rfl, h2, h3⟩ := isI_rep hm cc.1 r1
    exact ⟨a, dx, gs, rfl, h2, h3.none cc.2, call_lift s1 (.cons (.v r1) .nil) p1⟩
  · exact p1.elim
theorem de_mSX {pl : Sem Bool} (ho : DE X Wx o Fo) (hm : X.mg c = some (.ref C)) (cl : SCls X.K C) (me : Meth X.K C m g0) (FO : FnRX (gg X Wx.T) gd ht k g0 (liftSp (gg X Wx.T) n F)) (hgd : gd = true → X.A.guards = some []) (hr : RoomQ ht k X.A) (tk : Takes X Wx.wx) (ha : DV X Wx (e :: es) Av)
    (hst : starEach (e :: es) X.env = (false, eval e X.env) :: starEach es X.env := by rfl) (hpl : (backTo pos (starEach es X.env)).any (·.1) = false := by rfl)
    (ht : eval (.Call (.Attribute o m apos) (e :: es) [] pos) X.env = (do
      let ov ← eval o X.env
      standAt apos.atName
      let (f, first) ← holding [ov] (getMethod ov m pl)
      callWith pos f first (backTo pos (starEach (e :: es) X.env)) (backToKw pos (keywordEach [] X.env))) := by rfl) : DE X Wx (.Call (.Attribute o m apos) (e :: es) [] pos) (eMethSX c n F Fo Av) := by
  refine pe_of (pe_methSX (pl := pl) ho cl me FO hgd hr tk ha hst hpl ht) fun σ H Q ⟨g, ms, δ, s, p⟩ => ?_
  refine lift_bnd s p fun d δ1 H1 v s1 l1 r1 p1 => ?_
  split at p1
  · rename_i cc
    obtain ⟨a, dx, gs, fs, rfl, rfl, h2, h3⟩ := isS_rep hm cc r1
    refine ⟨a, dx, gs, rfl, h2, ?_⟩
    refine liftV_bnd s1 p1 fun d2 δ2 H2 vs s2 l2 r2 p2 => ?_
    exact call_lift s2 (.cons (.v (r1.up l2)) r2) p2
  · exact p1.elim
theorem de_mSX0 {pl : Sem Bool} (ho : DE X Wx o Fo) (hm : X.mg c = some (.ref C)) (cl : SCls X.K C) (me : Meth X.K C m g0) (FO : FnRX (gg X Wx.T) gd ht k g0 (liftSp (gg X Wx.T) 1 F)) (hgd : gd = true → X.A.guards = some []) (hr : RoomQ ht k X.A) (tk : Takes X Wx.wx)
    (ht : eval (.Call (.Attribute o m apos) [] [] pos) X.env = (do
      let ov ← eval o X.env
      standAt apos.atName
      let (f, first) ← holding [ov] (getMethod ov m pl)
      callWith pos f first (backTo pos (starEach [] X.env)) (backToKw pos (keywordEach [] X.env))) := by rfl) : DE X Wx (.Call (.Attribute o m apos) [] [] pos) (eMethSX c 1 F Fo vNil) := by
  refine pe_of (pe_methSX0 (pl := pl) ho cl me FO hgd hr tk ht) fun σ H Q ⟨g, ms, δ, s, p⟩ => ?_
  refine lift_bnd s p fun d δ1 H1 v s1 l1 r1 p1 => ?_
  split at p1
  · rename_i cc
    obtain ⟨a, dx, gs, fs, rfl, rfl, h2, h3⟩ := isS_rep hm cc r1
    exact ⟨a, dx, gs, rfl, h2, call_lift s1 (.cons (.v r1) .nil) p1⟩
  · exact p1.elim
/-! properties: nothing may be let out -/
theorem cx_no {P : Program} {w : World} {outer : List Env} {H : Hp} {s : Shared} {e : Value} {s' : Shared} (h : L2.CX P w outer H s E0 e s') : False := by
  obtain ⟨a, B, H', cls, d, _, _, _, _, _, _, _, z⟩ := h
  exact z
theorem de_pSX (ho : DE X Wx o Fo) (hm : X.mg c = some (.ref C)) (cl : SCls X.K C) (pr : PropS X.K C f p0 g0) (FO : FnRX (gg X Wx.T) false ht k g0 (liftSp (gg X Wx.T) 1 F)) (hr : RoomQ ht (k + 1) X.A) (hb : attributeBase o f X.env (eval o X.env) = eval o X.env := by rfl) :
    DE X Wx (.Attribute o f pos) (ePropS c F Fo) := by
  refine ⟨fun pins s σ H Q I h => attr_of hb (thn (ho.run pins s σ H (fun x H1 => ∃ a dx vs, x = .ref a ∧ Slt H1 a C dx vs ∧ liftSp (gg X Wx.T) 1 F [x] H1 Q E0) I ?_) fun u s1 z => ?_)⟩
  · obtain ⟨g, ms, δ, s, p⟩ := h
    refine lift_bnd s p fun d δ1 H1 v s1 l1 r1 p1 => ?_
    split at p1
    · rename_i cc
      obtain ⟨a, dx, gs, fs, rfl, rfl, h2, h3⟩ := isS_rep hm cc r1
      exact ⟨a, dx, gs, rfl, h2, call_lift0 s1 (.cons (.v r1) .nil) p1⟩
    · exact p1.elim
  · obtain ⟨x, H1, I1, rx, a, dx, vs, ex, hs, q⟩ := z
    subst ex
    cases (show u = Value.ref a from rx)
    obtain ⟨sl, od, _, J, _⟩ := slt_inst I1 hs
    obtain ⟨rest, hrec⟩ := pr.rec_
    have I2 : Inv X pins σ H1 { s1 with toks := s1.toks + 1 } := I1.tok (s1.toks + 1)
    refine PySem.W.get_bind I1.kIn J (PySem.W.plainGet_of (cl.get f)).1 (PySem.W.findObj_data cl.ic pr.at_ pr.get pr.tak) (PySem.W.plainGet_of (cl.get f)).2 (wpAny_call (PySem.W.prop_get (s := { s1 with toks := s1.toks + 1 }) I1.kIn hrec ?_))
    refine codeAny_mono (FO X.A.in1 X.stack { s1 with toks := s1.toks + 1 } H1 [.ref a] [.ref a] Q E0 (fun z => nomatch z) hr.in1 I2.env0.in1 (.cons rfl .nil) q) fun r s' hq => ?_
    match r, hq with
    | .error e, hq => exact (cx_no hq).elim
    | .ok (.ret u), hq =>
      obtain ⟨v, H', I3, rv, q⟩ := I2.after hq
      exact wpAny_of_eq (PySem.W.handedOut_of (handed_of rv)) ⟨v, H', I3, rv, q⟩
    | .ok .next, hq => exact False.elim hq
    | .ok .brk, hq => exact False.elim hq
    | .ok .cont, hq => exact False.elim hq
end
end DL

set_option Elab.async false
set_option linter.all false
set_option maxRecDepth 100000
set_option maxHeartbeats 4000000
set_option autoImplicit false
/-! raise -/
namespace DL
open L2 PyProof.Rows PySem.Spec PySem G58 SlX
variable [TbL]
/-- an error's class and how it is made: js, the fields and the places of their parameters -/
structure ExC (Γ : GG) (c : Str) (js : List (Str × Nat)) (n k : Nat) : Prop where
  ex : ∃ (C fI : Addr) (fd : FuncData) (ps : List Str), Γ.mg c = some (.ref C) ∧ OexC Γ.K C ∧ PySem.W.findIn Γ.K (.ref C) "__init__" = some (some (.ref fI)) ∧ PySem.W.typeIn Γ.K (.ref fI) = some (.type "function") ∧
    FnOk Γ.P Γ.w Γ.K Γ.mg Γ.base CX0 k fI fd ps (spX C js n) ∧ Binds Γ.K fd ps []
def addD (ds : List D) : List (Str × Nat) → List (Str × D) → Option (List (Str × D))
  | [], fs => some fs
  | (f, i + 1) :: js, fs => match ds[i]? with
    | some d => addD ds js ((f, d) :: fs)
    | none => none
  | (_, 0) :: _, _ => none
def sRaise (c : Str) (js : List (Str × Nat)) (n : Nat) (A : ME (List D)) : MS := sBnd A fun ds δ => if decide (ds.length + 1 = n) && decide (n ≤ 900) then (match addD ds js [] with
  | some fs => .ex ⟨c, fs⟩ δ
  | none => .bad) else .bad
theorem addD_rep {Γ : GG} {H : Hp} {W : As} {a : Addr} {vs : List V} {ds : List D} (r : Reps Γ H W vs ds) : ∀ {js : List (Str × Nat)} {gs : List (Str × V)} {fs fs' : List (Str × D)}, RepF Γ H W gs fs → addD ds js fs = some fs' → ∃ gs', addF ((V.ref a :: vs).map some) js gs = some gs' ∧ RepF Γ H W gs' fs'
  | [], gs, fs, fs', rf, e => by
    cases e
    exact ⟨gs, rfl, rf⟩
  | (f, 0) :: js, _, _, _, _, e => by cases e
  | (f, i + 1) :: js, gs, fs, fs', rf, e => by
    unfold addD at e
    split at e
    · rename_i d hd
      obtain ⟨v, hv, rv⟩ := r.getD hd
      obtain ⟨gs', h1, h2⟩ := addD_rep r (js := js) (.cons (f := f) rv rf) e
      refine ⟨gs', ?_, h2⟩
      unfold addF
      have q : ((V.ref a :: vs).map some)[i + 1]? = some (some v) := by simp [hv]
      rw [q]
      exact h1
    · cases e
section
variable {X : Cx} {Wx : WT} {m n k : Nat} {c : Str} {js : List (Str × Nat)} {e : Expr} {es : List Expr} {As' : ME (List D)} {p pos' pos : Pos}
theorem ds_raise (tk : Takes X Wx.wx) (hc : X.calm = true) (M : ExC (gg X Wx.T) c js n k) (hr : Room (k + 1) X.A) (ha : DA X Wx (e :: es) As') (hg : Gl X c := by rfl) (hdb : (c == ("__debug__" : Str)) = false := by decide)
    (he : starEach (e :: es) X.env = (false, eval e X.env) :: starEach es X.env := by rfl) (hpl : (backTo pos' (starEach es X.env)).any (·.1) = false := by rfl) :
    DSt X m Wx (.Raise (some (.Call (.Name c p) (e :: es) [] pos')) none pos) (sRaise c js n As') := by
  obtain ⟨C, fI, fd, ps, hm, ox, iC, tI, F1, hb⟩ := M.ex
  refine ps_of (ps_raise hc tk (pmk_oex ox iC tI F1 hr hb .nil pass0 hg hm ha hdb he hpl)) fun D σ H ⟨g, ms, δ, e, s, p⟩ => ?_
  refine ⟨g, ms, δ, s, spost_bnd p fun ds δ1 H1 s1 l1 p1 vs r1 => ?_⟩
  split at p1
  rotate_left
  · exact p1.elim
  rename_i cc
  rw [Bool.and_eq_true] at cc
  have c1 := of_decide_eq_true cc.1
  have c2 := of_decide_eq_true cc.2
  cases q : addD ds js [] with
  | none => rw [q] at p1; exact p1.elim
  | some fs =>
    rw [q] at p1
    refine ⟨by rw [r1.len]; omega, fun a ha0 => ?_⟩
    rw [List.append_nil]
    obtain ⟨gs, h1, h2⟩ := addD_rep (a := a) r1 (js := js) .nil q
    refine ⟨a, vs, gs, rfl, by simp [r1.len, c1], upd_same, h1, fun dx hdx hne => ?_⟩
    have hdx1 : H1 dx = none := by rw [upd_ne hne] at hdx; exact hdx
    refine ⟨rfl, dx, gs, upd_same, by rw [upd_ne hne, upd_same], hdx1, ?_⟩
    have sm : Same H1 (upd (del (upd (upd (upd H1 a (exo a C none)) dx (exd dx gs)) a (exo a C (some dx))) a) dx (.xd gs)) := fun b o hb => by
      have n1 := ne_of_none hb ha0
      have n2 := ne_of_none hb hdx1
      rw [upd_ne n2, del_ne n1, upd_ne n1, upd_ne n2, upd_ne n1]
      exact hb
    exact p1 ms σ _ (.ref C) (some dx) (s1.grow sm) (Ev.of (Le.same sm)) ⟨C, dx, gs, hm, rfl, rfl, upd_same, s1.fresh hdx1, h2.mv (Mv.le' (A := fun _ => False) (Le.same sm) fun _ z => z.elim)⟩
end
end DL

set_option Elab.async false
set_option linter.all false
set_option maxRecDepth 100000
set_option maxHeartbeats 4000000
set_option autoImplicit false
/-! try .. except -/
namespace DL
open L2 PyProof.Rows PySem.Spec PySem G58 SlX
variable [TbL]
/-- an except suite; the error that is handled is tracked -/
abbrev sx (X : Cx) (a : Addr) (pn : List (Addr × Obj)) : Cx := { X with A := X.A.mark (some (.ref a)), calm := false, pn := pn, xe := fun _ _ => False }
section
variable {X : Cx} {pins : List (Addr × Obj)} {σ : L2.St} {H : Hp} {s : Shared} {a C dx : Addr} {oe : Obj} {vs : Array Value}
theorem sx_in (I : Inv X pins σ H s) (ha : s.heap.get? a = some oe) (hc : oe.cls = .ref C) (hdx : oe.dict = some dx) (hd : oe.data = .fields vs) (na : H a = none) (n0 : X.s_0.heap.get? a = none) (nL : a ≠ X.env.locals) (np : ∀ p ∈ X.pn ++ pins, p.1 ≠ a) :
    Inv (sx X a (X.pn ++ pins)) [] σ (upd H a (ExO a C dx)) s := by
  have ok := I.ok
  have up : ∀ {b : Addr} {o : HO}, H b = some o → upd H a (ExO a C dx) b = some o := fun {b o} h => by rw [upd_ne (ne_of_none h na)]; exact h
  refine ⟨⟨ok.mod, ok.kind, ok.glob, ok.blt, ok.above, ok.inj, ok.has, ok.cab, (fun z => nomatch (show false = true from z)), ok.frames, ok.stk, ok.exf, ok.bs, ok.bsz, ok.noex, ok.exfs, ok.funs, ok.frf⟩, I.os, I.bare, ?_, I.loc, I.cell, ?_, ?_, ?_, ?_, I.len⟩
  · refine ⟨I.base.keep, I.base.slot, fun b o e n x => ?_, I.base.there, fun b xs e => up (I.base.tups b xs e), fun b o u e => up (I.base.frzs b o u e), fun b ps e => ?_⟩
    · rw [upd_ne fun z => by rw [z, n0] at e; cases e]
      exact I.base.free b o e n x
    · obtain ⟨more, z⟩ := I.base.tbls b ps e
      exact ⟨more, up z⟩
  · exact (upd_ne (Ne.symm nL)).trans I.free
  · intro x c e
    have ne : c ≠ a := fun z => by
      obtain ⟨v, o, h1, h2⟩ := I.cell x c e
      rw [z, ha] at h1
      cases h1
      rw [hd] at h2
      cases h2
    exact (upd_ne ne).trans (I.freeC x c e)
  · intro p hp
    have hp' : p ∈ X.pn ++ pins := by simpa using hp
    obtain ⟨h1, h2, h3, h4, h5⟩ := I.pin p hp'
    exact ⟨h1, (upd_ne (np p hp')).trans h2, h3, h4, h5⟩
  · intro b o e
    by_cases c : b = a
    · subst c
      rw [upd_same] at e
      cases e
      exact ⟨⟨oe, vs, ha, hc, hdx, hd⟩, ⟨oe, ha⟩, fun h1 h2 ⟨oe, vs, z1, z2, z3, z4⟩ k => ⟨oe, vs, k _ z1, z2, z3, z4⟩⟩
    · rw [upd_ne c] at e
      exact (I.hok b o e).stay (fun c u _ z => z) (fun c z => up z) fun c xs z => up z
theorem sx_out {pn' : List (Addr × Obj)} (ok : X.Ok) (I : Inv (sx X a (X.pn ++ pins)) pn' σ H s) : Inv X pins σ H s :=
  ⟨ok, I.os, I.bare, I.base, I.loc, I.cell, I.free, I.freeC, fun p hp => I.pin p (List.mem_append_left _ hp), I.hok, I.len⟩
end
/-- a clause: its class, the slot of its name, its suite's reading -/
structure Hd where
  c : Value
  i : Option Nat
  ts : Addr → Addr → Addr → TS
def offI : Option Nat → Ends → Ends
  | none, D => D
  | some i, D => { nx := fun σ H => D.nx (σ.set i none) H, rt := D.rt, bk := fun σ H => D.bk (σ.set i none) H, ct := fun σ H => D.ct (σ.set i none) H }
def onI : Option Nat → Addr → L2.St → L2.St
  | none, _, σ => σ
  | some i, a, σ => σ.set i (some (.ref a))
def wHs (K : PySem.W.Frag) (Wout : WX) (D : Ends) : List Hd → WX
  | [] => Wout
  | h :: r => fun cls d σ H => ∃ C dx b, cls = .ref C ∧ d = some dx ∧ PySem.W.exmOne K cls h.c = some b ∧ (b = true → ∀ a, H a = none → h.ts a C dx (offI h.i D) (onI h.i a σ) (upd H a (ExO a C dx))) ∧ (b = false → wHs K Wout D r cls d σ H)
inductive HsOk (X : Cx) : List ExceptHandler → List Hd → Prop
  | nil : HsOk X [] []
  | as {x n : Str} {c : Value} {i : Nat} {ts : Addr → Addr → Addr → TS} {b₀ : Stmt} {su : List Stmt} {np pos : Pos} {hds : List ExceptHandler} {l : List Hd} : Names X x c → X.N[i]? = some n → X.env.kindOf n = some .local → (∀ a C dx pn, PSs (sx X a pn) (b₀ :: su) (ts a C dx)) → HsOk X hds l →
      HsOk X (.ExceptHandler (some (.Name x np)) (some n) (b₀ :: su) pos :: hds) (⟨c, some i, ts⟩ :: l)
  | no {x : Str} {c : Value} {ts : Addr → Addr → Addr → TS} {b₀ : Stmt} {su : List Stmt} {np pos : Pos} {hds : List ExceptHandler} {l : List Hd} : Names X x c → (∀ a C dx pn, PSs (sx X a pn) (b₀ :: su) (ts a C dx)) → HsOk X hds l →
      HsOk X (.ExceptHandler (some (.Name x np)) none (b₀ :: su) pos :: hds) (⟨c, none, ts⟩ :: l)
section
variable {X : Cx} {body : List Stmt} {h₀ : ExceptHandler} {hds : List ExceptHandler} {l : List Hd} {pos : Pos} {tb : WX → TS} {Wout : WX}
theorem handX {pins : List (Addr × Obj)} {σ : L2.St} {H : Hp} {sI s : Shared} {B h3 : Heap} {a : Addr} {cls : Value} {d : Option Addr} {D : Ends} (hs : X.stack = X.env :: X.outer) (hf : X.env.frame = some X.env.locals) (hex : X.ex = []) (hN : X.N.Nodup) (tk : Takes X Wout)
    (J : Inv X pins σ H sI) (nb : ∀ b o, sI.heap.get? b = some o → b ∉ frs X.stack → B.get? b = some o) (up : sI.heap.UpToSlots h3) (na : H a = none) (os : s.os = sI.os) (ag : AllBare s.gens) (fl : HandSPX.FlyingZ B (X.env :: X.outer) a (Zc cls d) h3) :
    ∀ {hds : List ExceptHandler} {l : List Hd}, HsOk X hds l → wHs X.K Wout D l cls d σ H → wpAny (model X.prog X.w) X.A (handleBy (.ref a) X.env hds) (SP X pins D) X.xe { s with heap := h3 } := by
  have ok := J.ok
  have land : ∀ {h : Heap}, HandSPX.FlyingZ B (X.env :: X.outer) a (Zc cls d) h → sI.heap.UpToSlots h → Inv X pins σ H { s with heap := h } := fun {h} f u => J.landed (s' := { s with heap := h }) nb f.1 u os ag
  have nB : B.get? a = none := fl.2.1
  obtain ⟨oe, vs, he, hz, hd⟩ := fl.there
  have nfr : a ∉ frs (X.env :: X.outer) := fun z => by
    obtain ⟨_, o', e', hnf⟩ := fl.2.2.1.mem z
    cases he.symm.trans e'
    exact hnf _ hd
  have nL : a ≠ X.env.locals := fun z => nfr (List.mem_filterMap.mpr ⟨X.env, List.mem_cons_self, by rw [hf, z]⟩)
  have far : ∀ b o, sI.heap.get? b = some o → b ∉ frs X.stack → b ≠ a := fun b o e n z => by
    have y := nb b o e n
    rw [z, nB] at y
    cases y
  have n0 : X.s_0.heap.get? a = none := by
    cases q : X.s_0.heap.get? a with
    | none => rfl
    | some o =>
      obtain ⟨o', e⟩ := J.base.there a o q (by rw [hex]; simp)
      exact absurd rfl (far a o' e (by rw [hs]; exact nfr))
  have np : ∀ p ∈ X.pn ++ pins, p.1 ≠ a := fun p hp => by
    obtain ⟨h1, _, h3', h4, _⟩ := J.pin p hp
    refine far p.1 p.2 h1 fun z => ?_
    rcases List.mem_cons.mp (J.stkSub _ z) with y | y
    · exact h3' y
    · exact h4 y
  intro hds l hk
  induction hk with
  | nil =>
    intro wish
    refine wpAny_handleBy_nil ?_
    obtain ⟨_, _, _, oe1, vs1, T, oT, ts1, z1, z2, z3, z4, _⟩ := id fl
    unfold PySem.passOn
    refine wpAny_bind (wpAny_field z1 z3 z4 ?_)
    rw [if_neg (show ¬ ((Value.ref T == Value.none) = true) by simp)]
    have fin : wpAny (model X.prog X.w) X.A (setFlight (.ref a) X.env.frame) (fun _ s4 => wpAny (model X.prog X.w) X.A (throw (.ref a) : Sem Flow) (SP X pins D) X.xe s4) X.xe { s with heap := h3 } := by
      rw [hf]
      exact HandSPX.setFlight_upZ fl fun h4 hh4 up4 => wpAny_throw (tk _ _ ⟨a, B, sI, pins, σ, H, cls, d, rfl, J, nb, up.trans up4, .inr (.inr (by rw [hs]; exact hh4)), na, os, ag, wish⟩)
    first
      | exact wpAny_bind (wpAny_pure (wpAny_bind fin))
      | exact wpAny_bind fin
  | @as x n c i ts b₀ su np' pos' hds2 l2 hc hi hln hsu r ih =>
    rintro ⟨C, dx, b, e1, e2, hb1, hyes, hno⟩
    subst e1
    subst e2
    have S3 := sx_in (land fl up) he hz.1 hz.2 hd na n0 nL np
    refine wpAny_handleBy_cons (codeAny_handlers_test ?_) (fun q => nomatch q)
    have LT : PySem.W.Looks (model X.prog X.w) h3 (typeOf (.ref a)) (.ref C) := fun A Q E s k q => wpAny_typeOf_ref (k _ _ he) (by rw [hz.1]; exact q)
    have LM := PySem.W.exm_one (M := model X.prog X.w) (land fl up).kIn LT hb1
    have test : ∀ {Q : Value → Shared → Prop} {E : Value → Shared → Prop}, Q c { s with heap := h3 } → wpAny (model X.prog X.w) (X.A.mark (some (.ref a))) (eval (.Name x np') X.env) Q E { s with heap := h3 } := fun {Q E} q => by
      obtain ⟨hg, hdb, hm | ⟨hm, hv, hnn⟩⟩ := hc
      · exact ld_glob (X := sx X a (X.pn ++ pins)) S3 hg hm q hdb
      · exact ld_blt (X := sx X a (X.pn ++ pins)) S3 hg hm hv q hnn hdb
    refine test (LM.here ?_)
    cases b with
    | false => exact ih (hno rfl)
    | true =>
      refine codeAny_handlers_suite_as (HandSPX.lands_againZ fl fun h4 fl4 up4 => ?_)
      obtain ⟨oe4, vs4, he4, hz4, hd4⟩ := fl4.there
      have S4 := sx_in (land fl4 (up.trans up4)) he4 hz4.1 hz4.2 hd4 na n0 nL np
      refine store_ok (X := sx X a (X.pn ++ pins)) (v := .ref a) S4 hN hi (.inl hln) rfl (fun s5 S5 => ?_) (.inr hln)
      refine wpAny_mono ((hsu a C dx (X.pn ++ pins)).run [] s5 _ _ _ S5 (hyes rfl a na)) (fun f s6 q => ?_) fun _ _ z => False.elim z
      match f, q with
      | .next, ⟨σ6, H6, S6, q6⟩ => exact gone_ok (sx_out ok S6) hN hi hln fun s7 J7 => ⟨_, _, J7, q6⟩
      | .brk, ⟨σ6, H6, S6, q6⟩ => exact gone_ok (sx_out ok S6) hN hi hln fun s7 J7 => ⟨_, _, J7, q6⟩
      | .cont, ⟨σ6, H6, S6, q6⟩ => exact gone_ok (sx_out ok S6) hN hi hln fun s7 J7 => ⟨_, _, J7, q6⟩
      | .ret u, ⟨v6, σ6, H6, S6, r6, q6⟩ => exact gone_ok (sx_out ok S6) hN hi hln fun s7 J7 => ⟨_, _, _, J7, r6, q6⟩
  | @no x c ts b₀ su np' pos' hds2 l2 hc hsu r ih =>
    rintro ⟨C, dx, b, e1, e2, hb1, hyes, hno⟩
    subst e1
    subst e2
    have S3 := sx_in (land fl up) he hz.1 hz.2 hd na n0 nL np
    refine wpAny_handleBy_cons (codeAny_handlers_test ?_) (fun q => nomatch q)
    have LT : PySem.W.Looks (model X.prog X.w) h3 (typeOf (.ref a)) (.ref C) := fun A Q E s k q => wpAny_typeOf_ref (k _ _ he) (by rw [hz.1]; exact q)
    have LM := PySem.W.exm_one (M := model X.prog X.w) (land fl up).kIn LT hb1
    have test : ∀ {Q : Value → Shared → Prop} {E : Value → Shared → Prop}, Q c { s with heap := h3 } → wpAny (model X.prog X.w) (X.A.mark (some (.ref a))) (eval (.Name x np') X.env) Q E { s with heap := h3 } := fun {Q E} q => by
      obtain ⟨hg, hdb, hm | ⟨hm, hv, hnn⟩⟩ := hc
      · exact ld_glob (X := sx X a (X.pn ++ pins)) S3 hg hm q hdb
      · exact ld_blt (X := sx X a (X.pn ++ pins)) S3 hg hm hv q hnn hdb
    refine test (LM.here ?_)
    cases b with
    | false => exact ih (hno rfl)
    | true =>
      refine codeAny_handlers_suite (HandSPX.lands_againZ fl fun h4 fl4 up4 => ?_)
      obtain ⟨oe4, vs4, he4, hz4, hd4⟩ := fl4.there
      have S4 := sx_in (land fl4 (up.trans up4)) he4 hz4.1 hz4.2 hd4 na n0 nL np
      refine wpAny_mono ((hsu a C dx (X.pn ++ pins)).run [] _ _ _ _ S4 (hyes rfl a na)) (fun f s6 q => ?_) fun _ _ z => False.elim z
      match f, q with
      | .next, ⟨σ6, H6, S6, q6⟩ => exact ⟨_, _, sx_out ok S6, q6⟩
      | .brk, ⟨σ6, H6, S6, q6⟩ => exact ⟨_, _, sx_out ok S6, q6⟩
      | .cont, ⟨σ6, H6, S6, q6⟩ => exact ⟨_, _, sx_out ok S6, q6⟩
      | .ret u, ⟨v6, σ6, H6, S6, r6, q6⟩ => exact ⟨_, _, _, sx_out ok S6, r6, q6⟩
theorem ps_tryX (hs : X.stack = X.env :: X.outer) (hf : X.env.frame = some X.env.locals) (hex : X.ex = []) (hN : X.N.Nodup) (tk : Takes X Wout)
    (hb : ∀ (W : WX) (pn : List (Addr × Obj)) (xe : Value → Shared → Prop), Takes (X.tr pn xe) W → PassesOwn (model X.prog X.w) X.A X.env xe → PSs (X.tr pn xe) body (tb W)) (hh : HsOk X (h₀ :: hds) l) :
    PS X (.Try body (h₀ :: hds) [] [] pos) (fun D σ H => tb (wHs X.K Wout D l) D σ H) := by
  refine ⟨fun pins s σ H D I h => wpAny_Try_except ?_⟩
  have ok := I.ok
  have hfr : X.A.frames = some (X.env :: X.outer) := by rw [ok.frames, hs]
  have back : ∀ {xe : Value → Shared → Prop} {f : Flow} {s1 : Shared}, SP (X.tr (X.pn ++ pins) xe) [] D f s1 → SP X pins D f s1 := fun {xe f s1} q => by
    match f, q with
    | .next, ⟨σ', H', J, q⟩ => exact ⟨σ', H', J.ofTry ok, q⟩
    | .brk, ⟨σ', H', J, q⟩ => exact ⟨σ', H', J.ofTry ok, q⟩
    | .cont, ⟨σ', H', J, q⟩ => exact ⟨σ', H', J.ofTry ok, q⟩
    | .ret u, ⟨v, σ', H', J, r, q⟩ => exact ⟨v, σ', H', J.ofTry ok, r, q⟩
  refine wpAny_mono ((hb (wHs X.K Wout D l) (X.pn ++ pins) (fun e s₁ => wpAny (model X.prog X.w) X.A (noteFrame e X.env) (fun _ s₂ => wpAny (model X.prog X.w) X.A (setFlight e none) (fun _ s₃ =>
    wpAny (model X.prog X.w) X.A (handleBy e X.env (h₀ :: hds)) (SP X pins D) X.xe s₃) X.xe s₂) X.xe s₁) (fun u s' xx => ?_) PassesOwn.looking).run [] s σ H D (I.toTry _) h) (fun f s1 hsp => ?_) fun _ _ z => z
  · obtain ⟨a, B, sI, pins', σ', H', cls, d, rfl, J', nb, up, sky, na, os, ag, wish⟩ := xx
    show wpAny (model X.prog X.w) X.A (noteFrame (.ref a) X.env) _ _ _
    refine Sky.land Zc.steady hfr hf (by rw [← hs]; exact sky) fun h3 fl3 up3 => ?_
    exact handX hs hf hex hN tk (J'.ofTry ok) nb (up.trans up3) na os ag fl3 hh wish
  · have q := back hsp
    match f, q with
    | .next, ⟨σ', H', J, q⟩ => exact wpAny_execs_nil ⟨σ', H', J, q⟩
    | .brk, q => exact q
    | .cont, q => exact q
    | .ret u, q => exact q
end
end DL

set_option Elab.async false
set_option linter.all false
set_option maxRecDepth 100000
set_option maxHeartbeats 4000000
set_option autoImplicit false
/-! try by trees; what an error keeps -/
namespace DL
open L2 PyProof.Rows PySem.Spec PySem G58 SlX
variable [TbL]
abbrev XT := List ((Str × Str) × Bool)
def xtAt (c h : Str) : XT → Option Bool
  | [] => none
  | ((c', h'), b) :: r => if c' = c ∧ h' = h then some b else xtAt c h r
def clr : Option Nat → SOut → SOut
  | some i, .nx δ => if notM δ i then .nx (δ.set i none) else .bad
  | some i, .bk δ => if notM δ i then .bk (δ.set i none) else .bad
  | some i, .ct δ => if notM δ i then .ct (δ.set i none) else .bad
  | _, .ex _ _ => .bad
  | _, r => r
def putX (i : Option Nat) (d : D) (δ : Ds) : Option Ds := match i with
  | none => some δ
  | some i => if notM δ i then some (δ.set i (some (.v d))) else none
def tryH (xt : XT) : List (Str × Option Nat × MS) → Exc → MS
  | [], x => fun δ => .ex x δ
  | (h, i, F) :: r, x => fun δ => match xtAt x.c h xt with
    | some true => (match putX i (.exc x.c x.fs) δ with
      | some δ' => clr i (F δ')
      | none => .bad)
    | some false => tryH xt r x δ
    | none => .bad
def sTry (xt : XT) (B : MS) (hs : List (Str × Option Nat × MS)) : MS := fun δ => match B δ with
  | .ex x δ' => tryH xt hs x δ'
  | r => r
/-- the table of the classes that are raised and those that clauses name (by their values) -/
def XtOk (K : PySem.W.Frag) (mg : Str → Option Value) (vs : List (Str × Value)) (xt : XT) : Prop := ∀ c h b, ((c, h), b) ∈ xt → ∀ C v, mg c = some (.ref C) → vs.lookup h = some v → PySem.W.exmOne K (.ref C) v = some b
theorem xtAt_mem {c h : Str} {b : Bool} : ∀ {xt : XT}, xtAt c h xt = some b → ((c, h), b) ∈ xt
  | [], e => by cases e
  | ((c', h'), b') :: r, e => by
    unfold xtAt at e
    split at e
    · rename_i q
      cases e
      rw [q.1, q.2]
      exact List.mem_cons_self
    · exact List.mem_cons_of_mem _ (xtAt_mem e)
section
variable {Γ : GG} {fx : FX} {g : Gh fx} {ms : List Rg} {δ : Ds} {σ : L2.St} {H : Hp}
theorem Sim.clr {i : Nat} (s : Sim Γ g ms δ σ H) (h : notM δ i = true) : Sim Γ g ms (δ.set i none) (σ.set i none) H := by
  have hm := notM_reg s h
  refine ⟨?_, s.dis, s.par, s.loc, s.prg, s.rsl, s.a0, s.w0, s.le, s.tab, fun f e => ?_⟩
  · have z := s.sl.set (SlotR.no (x := none)) i
    have e : ms.set i none = ms := by
      apply List.ext_getElem?
      intro k
      by_cases c : i = k
      · subst c
        cases q : ms[i]? with
        | none => rw [List.getElem?_eq_none (by simpa using List.getElem?_eq_none_iff.mp q)]
        | some r =>
          rw [List.getElem?_set_self (List.getElem?_eq_some_iff.mp q).1]
          cases r with
          | none => rfl
          | some y => exact absurd q (hm y)
      · rw [List.getElem?_set_ne c]
    rw [e] at z
    exact z
  · obtain ⟨h1, h2, h3⟩ := s.fix f e
    have ne : i ≠ f.i := fun z => by
      unfold notM at h
      rw [z, h2] at h
      cases h
    exact ⟨by rw [List.getElem?_set_ne ne]; exact h1, by rw [List.getElem?_set_ne ne]; exact h2, h3⟩
end
section
variable {Γ : GG} {Wx : WT} {g : Gh Wx.fx} {ms ms1 : List Rg} {H H1 : Hp} {E : Ends}
theorem clr_post {i : Option Nat} {r : SOut} (p : SPost Γ Wx g ms H E (clr i r)) : SPost Γ ⟨fun _ _ _ _ => False, Wx.T, Wx.fx⟩ g ms H (offI i E) r := by
  match i, r, p with
  | none, .nx δ, p => exact p
  | none, .bk δ, p => exact p
  | none, .ct δ, p => exact p
  | none, .rt (.v d) δ, p => exact p
  | none, .rt (.m o) δ, p => exact p
  | none, .ex x δ, p => exact p.elim
  | none, .bad, p => exact p
  | some i, .nx δ, p =>
    have p' : SPost Γ Wx g ms H E (if notM δ i then .nx (δ.set i none) else .bad) := p
    by_cases h : notM δ i = true
    · rw [if_pos h] at p'
      exact fun ms' σ' H' s v => p' ms' _ H' (s.clr h) v
    · rw [if_neg h] at p'
      exact p'.elim
  | some i, .bk δ, p =>
    have p' : SPost Γ Wx g ms H E (if notM δ i then .bk (δ.set i none) else .bad) := p
    by_cases h : notM δ i = true
    · rw [if_pos h] at p'
      exact fun ms' σ' H' s v => p' ms' _ H' (s.clr h) v
    · rw [if_neg h] at p'
      exact p'.elim
  | some i, .ct δ, p =>
    have p' : SPost Γ Wx g ms H E (if notM δ i then .ct (δ.set i none) else .bad) := p
    by_cases h : notM δ i = true
    · rw [if_pos h] at p'
      exact fun ms' σ' H' s v => p' ms' _ H' (s.clr h) v
    · rw [if_neg h] at p'
      exact p'.elim
  | some i, .rt (.v d) δ, p => exact p
  | some i, .rt (.m o) δ, p => exact p
  | some i, .ex x δ, p => exact p.elim
  | some i, .bad, p => exact p
end
/-- the clauses: what is written and what is read -/
inductive DHs (X : Cx) (n : Nat) (Wx : WT) (vs : List (Str × Value)) : List ExceptHandler → List (Str × Option Nat × MS) → List Hd → Prop
  | nil : DHs X n Wx vs [] [] []
  | as {x y : Str} {c : Value} {i : Nat} {F : MS} {b₀ : Stmt} {su : List Stmt} {np pos : Pos} {hds : List ExceptHandler} {l : List (Str × Option Nat × MS)} {k : List Hd} : Names X x c → vs.lookup x = some c → X.N[i]? = some y → X.env.kindOf y = some .local →
      (∀ a pn, DSs (sx X a pn) n ⟨fun _ _ _ _ => False, Wx.T, Wx.fx⟩ (b₀ :: su) F) → DHs X n Wx vs hds l k → DHs X n Wx vs (.ExceptHandler (some (.Name x np)) (some y) (b₀ :: su) pos :: hds) ((x, some i, F) :: l) (⟨c, some i, fun _ _ _ => liftS (gg X Wx.T) n ⟨fun _ _ _ _ => False, Wx.T, Wx.fx⟩ F⟩ :: k)
  | no {x : Str} {c : Value} {F : MS} {b₀ : Stmt} {su : List Stmt} {np pos : Pos} {hds : List ExceptHandler} {l : List (Str × Option Nat × MS)} {k : List Hd} : Names X x c → vs.lookup x = some c →
      (∀ a pn, DSs (sx X a pn) n ⟨fun _ _ _ _ => False, Wx.T, Wx.fx⟩ (b₀ :: su) F) → DHs X n Wx vs hds l k → DHs X n Wx vs (.ExceptHandler (some (.Name x np)) none (b₀ :: su) pos :: hds) ((x, none, F) :: l) (⟨c, none, fun _ _ _ => liftS (gg X Wx.T) n ⟨fun _ _ _ _ => False, Wx.T, Wx.fx⟩ F⟩ :: k)
section
variable {X : Cx} {n : Nat} {Wx : WT} {vs : List (Str × Value)} {xt : XT} {body : List Stmt} {h₀ : ExceptHandler} {hds : List ExceptHandler} {l : List (Str × Option Nat × MS)} {k : List Hd} {B : MS} {pos : Pos}
theorem DHs.ok (h : DHs X n Wx vs hds l k) : HsOk X hds k := by
  induction h with
  | nil => exact .nil
  | as h1 _ h3 h4 h5 _ ih => exact .as h1 h3 h4 (fun a _ _ pn => h5 a pn) ih
  | no h1 _ h5 _ ih => exact .no h1 (fun a _ _ pn => h5 a pn) ih
theorem tryH_wish {D : Ends} (XO : XtOk X.K X.mg vs xt) (h : DHs X n Wx vs hds l k) {g : Gh Wx.fx} (eg : g.rs.length = n) {x : Exc} {δ : Ds} {ms : List Rg} {σ : L2.St} {H : Hp} {cls : Value} {dd : Option Addr} (s : Sim (gg X Wx.T) g ms δ σ H) (xr : XRep (gg X Wx.T) H (Wt g ms) x cls dd)
    (p : SPost (gg X Wx.T) Wx g ms H D (tryH xt l x δ)) : wHs X.K Wx.wx D k cls dd σ H := by
  have one : ∀ {x' : Str} {c : Value} {i : Option Nat} {F : MS} {l2 : List (Str × Option Nat × MS)} {k2 : List Hd}, vs.lookup x' = some c → SPost (gg X Wx.T) Wx g ms H D (tryH xt ((x', i, F) :: l2) x δ) → (SPost (gg X Wx.T) Wx g ms H D (tryH xt l2 x δ) → wHs X.K Wx.wx D k2 cls dd σ H) →
      wHs X.K Wx.wx D (⟨c, i, fun _ _ _ => liftS (gg X Wx.T) n ⟨fun _ _ _ _ => False, Wx.T, Wx.fx⟩ F⟩ :: k2) cls dd σ H := by
    intro x' c i F l2 k2 hv p ih
    obtain ⟨C, dx, gs, z1, z2, z3, z4, z5, z6⟩ := xr
    subst z2
    subst z3
    unfold tryH at p
    cases q : xtAt x.c x' xt with
    | none => rw [q] at p; exact p.elim
    | some b =>
      rw [q] at p
      refine ⟨C, dx, b, rfl, rfl, XO _ _ _ (xtAt_mem q) C c z1 hv, fun hb a na => ?_, fun hb => ?_⟩
      · subst hb
        simp only at p
        cases q2 : putX i (.exc x.c x.fs) δ with
        | none => rw [q2] at p; exact p.elim
        | some δ2 =>
          rw [q2] at p
          have sm : Same H (upd H a (ExO a C dx)) := same_new na
          have s1 := s.grow sm
          have l1 : Le (regs ms) H (upd H a (ExO a C dx)) := Le.same sm
          have rx : Rep (gg X Wx.T) (upd H a (ExO a C dx)) (Wt g ms) (.ref a) (.exc x.c x.fs) := .exc z1 upd_same (s.fresh na) (sm _ _ z4) z5 (z6.mv (Mv.le' l1 fun _ z => .inr z))
          unfold putX at q2
          split at q2
          · cases q2
            exact ⟨g, ms, δ, eg, s1, clr_post (p.up (Ev.of l1))⟩
          · rename_i i
            split at q2
            · rename_i hm
              cases q2
              exact ⟨g, ms.set i none, _, eg, s1.setV (notM_can hm) rx, clr_post (p.up ((Ev.of l1).trans Ev.setN))⟩
            · cases q2
      · subst hb
        exact ih p
  induction h with
  | nil => exact p ms σ H cls dd s Ev.refl xr
  | as h1 h2 h3 h4 h5 r ih => exact one h2 p ih
  | no h1 h2 h5 r ih => exact one h2 p ih
theorem ds_try (hs : X.stack = X.env :: X.outer) (hf : X.env.frame = some X.env.locals) (hex : X.ex = []) (hN : X.N.Nodup) (tk : Takes X Wx.wx) (XO : XtOk X.K X.mg vs xt)
    (hb : ∀ (W : WX) (pn : List (Addr × Obj)) (xe : Value → Shared → Prop), Takes (X.tr pn xe) W → PassesOwn (model X.prog X.w) X.A X.env xe → DSs (X.tr pn xe) n ⟨W, Wx.T, Wx.fx⟩ body B) (hh : DHs X n Wx vs (h₀ :: hds) l k) :
    DSt X n Wx (.Try body (h₀ :: hds) [] [] pos) (sTry xt B l) := by
  refine ps_of (ps_tryX (tb := fun W => liftS (gg X Wx.T) n ⟨W, Wx.T, Wx.fx⟩ B) hs hf hex hN tk hb hh.ok) fun D σ H ⟨g, ms, δ, e, s, p⟩ => ⟨g, ms, δ, e, s, ?_⟩
  unfold sTry at p
  cases q : B δ with
  | ex x δ' =>
    rw [q] at p
    exact fun ms' σ' H' cls dd s' v xr => tryH_wish XO hh e s' xr (p.up v)
  | nx δ' => rw [q] at p; exact p
  | rt t δ' => rw [q] at p; cases t <;> exact p
  | bk δ' => rw [q] at p; exact p
  | ct δ' => rw [q] at p; exact p
  | bad => rw [q] at p; exact p
end
end DL

set_option Elab.async false
set_option linter.all false
set_option maxRecDepth 100000
set_option maxHeartbeats 4000000
set_option autoImplicit false
/-! a caught error: its fields, isinstance -/
namespace DL
open L2 PyProof.Rows PySem.Spec PySem G58 SlX
variable [TbL]
def getX (xs : List Str) (f : Str) : D → Option D
  | .exc c fs => if xs.contains c then fs.lookup f else none
  | _ => none
def eXf (xs : List Str) (f : Str) (F : ME D) : ME D := bnd F fun d => opt (getX xs f d)
def XfOk (K : PySem.W.Frag) (mg : Str → Option Value) (xs : List Str) (f : Str) : Prop := ∀ c C, c ∈ xs → mg c = some (.ref C) → XfC K C ∧ PySem.W.findIn K (.ref C) f = some none
section
variable {X : Cx} {Wx : WT} {xs : List Str} {f : Str} {e : Expr} {Fe : ME D} {pos : Pos}
theorem exO_inst {pins : List (Addr × Obj)} {σ : L2.St} {H : Hp} {s : Shared} {a C dx : Addr} {gs : List (Str × V)} (I : Inv X pins σ H s) (ha : H a = some (ExO a C dx)) (hd : H dx = some (.xd gs)) :
    ∃ (oe od : Obj) (mA : Str → Option Value), PySem.W.InstAt s.heap a oe C (some od) ∧ (∀ n, PySem.W.lookIn n od = some (mA n)) ∧ ∀ n, RelO (gs.lookup n) (mA n) := by
  have x1 : ObjOk X.prog X.w H s.heap a (ExO a C dx) := I.hok a _ ha
  obtain ⟨⟨oe, vs, h1, h2, h3, h4⟩, _, _⟩ := x1
  have x2 : ObjOk X.prog X.w H s.heap dx (.xd gs) := I.hok dx _ hd
  obtain ⟨mA, hns, hr⟩ := x2
  obtain ⟨od, ho, hl⟩ := lookIn_ns hns
  exact ⟨oe, od, mA, ⟨h1, h2, by unfold PySem.W.notCls; rw [h4] <;> rfl, by rw [h3]; exact ho⟩, hl, hr⟩
theorem de_xf (T : XfOk X.K X.mg xs f) (he : DE X Wx e Fe) (hb : attributeBase e f X.env (eval e X.env) = eval e X.env := by rfl) : DE X Wx (.Attribute e f pos) (eXf xs f Fe) := by
  refine ⟨fun pins s σ H Q I h => attr_of hb (thn (he.run pins s σ H (fun x H1 => ∃ a C dx gs v, x = .ref a ∧ H1 a = some (ExO a C dx) ∧ H1 dx = some (.xd gs) ∧ XfC X.K C ∧ PySem.W.findIn X.K (.ref C) f = some none ∧ gs.lookup f = some v ∧ Q v H1) I ?_) fun u s1 z => ?_)⟩
  · obtain ⟨g, ms, δ, s, p⟩ := h
    refine lift_bnd s p fun d δ1 H1 v s1 l1 r1 p1 => ?_
    obtain ⟨z, e, k⟩ := post_opt s1 p1
    unfold getX at e
    split at e
    · split at e
      · rename_i c fs hc
        cases r1 with
        | exc h1 h2 h3 h4 h5 h6 =>
          obtain ⟨v, e1, e2⟩ := h6.lookup e
          obtain ⟨t1, t2⟩ := T _ _ (by simpa using hc) h1
          exact ⟨_, _, _, _, v, rfl, h2, h4, t1, t2, e1, k _ e2⟩
      · cases e
    · cases e
  · obtain ⟨x, H1, I1, rx, a, C, dx, gs, v, ex, ha, hd, t1, t2, l, q⟩ := z
    subst ex
    cases (show u = Value.ref a from rx)
    obtain ⟨oe, od, mA, J, hl, hr⟩ := exO_inst I1 ha hd
    obtain ⟨u, hu, ru⟩ := RelO.some_of (v := v) (o := mA f) (by rw [← l]; exact hr f)
    exact HandSPX.exc_get I1.kIn J t1.ga t1.gg t1.exC (PySem.W.findObj_own t1.hdC t2 rfl (by rw [hl, hu])) (handed_of ru) ⟨v, H1, I1.tok _, ru, q⟩
end
end DL

set_option Elab.async false
set_option linter.all false
set_option maxRecDepth 100000
set_option maxHeartbeats 4000000
set_option autoImplicit false
/-! isinstance of a caught error -/
namespace DL
open L2 PyProof.Rows PySem.Spec PySem G58 SlX
variable [TbL]
section
open PySem.W
variable {prog : Program} {w : World} {A : Around} {E : Value → Shared → Prop} {s : Shared} {K : Frag} {x C : Addr} {ox od : Obj}
/-- e.__class__ of an error with fields -/
theorem classX {Q : Option Value → Shared → Prop} (c : ExcC K C) (X : K.In s.heap) (I : InstAt s.heap x ox C (some od)) (h : Q (some (.ref C)) { s with toks := s.toks + 1 }) : wpAny (model prog w) A (getAttr? (.ref x) "__class__") Q E s := by
  have hf : findObj K C (some od) "__class__" = some (.bind (.builtin "getset_descriptor.__get__") (.builtin "object.__class__")) := findObj_data (by obtain ⟨cd, hc, _⟩ := any_some c.hd; rw [hc]; rfl) c.ha c.hn c.ht
  obtain ⟨hp, g, d, t, os⟩ := s
  have lt := I.type (M := model prog w)
  have lg := looks_findIn (M := model prog w) X c.hg
  have lk := looks_findIn (M := model prog w) X c.hk
  have lf := looks_find (M := model prog w) X I hf
  have isB : Looks (model prog w) hp (isInstance (.ref x) (.type "BaseException")) true := lt.andThen (looks_subIn X c.hs)
  have nob : (Value.builtin "BaseException.__getattribute__" == Value.builtin "object.__getattribute__") = false := by decide +kernel
  unfold getAttr? getAttrBy? getAttrBy
  refine wpAny_bind (wpAny_mkText (wpAny_bind (wpAny_attempt (wpAny_holding (wpAny_bind (lt.at (wpAny_bind (lg.at ?_))))))))
  show wpAny _ _ (if (onTheHeap (Value.ref C) && Value.builtin "BaseException.__getattribute__" == Value.builtin "object.__getattribute__") = true then _ else _) _ _ _
  rw [nob, if_neg (by simp)]
  unfold getAttrByItsOwn hookBefore
  refine wpAny_bind ?_
  rw [if_pos (show onTheHeap (Value.ref C) = true from rfl)]
  refine lk.at (wpAny_bind (wpAny_attempt (wpAny_holding ?_)))
  unfold callGetattribute
  rw [show (false && onTheHeap (Value.builtin "BaseException.__getattribute__")) = false from rfl, if_neg Bool.false_ne_true]
  unfold boundAndCalled
  rw [PySem.F.excAttr_ValueError.ga.bind (.ref x)]
  refine wpAny_bind (wpAny_pure ?_)
  show wpAny _ _ (call (.builtin "BaseException.__getattribute__") [.ref x, .str "__class__" t]) _ _ _
  refine wpAny_call (codeAny_call_builtin PySem.F.excAttr_ValueError.ga.plain PySem.F.entry_bexc_ga ?_)
  refine @check_slot (model prog w) _ _ ⟨hp, g, d, t + 1, os⟩ "BaseException.__getattribute__" "BaseException" "__getattribute__" (.ref x) [.str "__class__" t] [] _ (by decide +kernel) (by decide +kernel) isB (PySem.F.args_bexc_ga (.ref x) (.str "__class__" t)) ?_
  unfold Builtin.«object.__getattribute__»
  refine wpAny_bind (wpAny_of_eq (a := ((Value.ref x : Value), [Value.str "__class__" t])) (by first | rfl | (simp only [slotArgs]; rfl)) ?_)
  refine wpAny_bind (wpAny_pure (wpAny_bind (lt.at (wpAny_bind (lf.at ?_)))))
  show wpAny _ _ (holding [Value.builtin "object.__class__"] (call (.builtin "getset_descriptor.__get__") [.builtin "object.__class__", .ref x, .ref C]) >>= ret) _ _ _
  refine wpAny_bind (wpAny_holding (wpAny_call (class_get (s := ⟨hp, g, d, t + 1, os⟩) (ox := ox) (od := some od) X I c.hm ?_)))
  refine wpAny_pure ?_
  show wpAny _ _ (handedOut (.ref C)) _ _ _
  rw [handedOut_of (v := .ref C) rfl]
  first
    | exact wpAny_pure (wpAny_pure h)
    | exact wpAny_pure h
    | exact wpAny_pure (wpAny_bind (wpAny_pure (wpAny_pure h)))
theorem kitX_exc (c : ExcC K C) : KitX K (.ref x) (.ref C) (fun h => InstAt h x ox C (some od)) where
  ty := fun _ _ _ I => I.type
  it := fun M h X _ => by
    obtain ⟨cd, hc, _⟩ := any_some c.hd
    unfold clsIn at hc
    split at hc
    · rename_i ho
      intro A' Q' E' s' k q
      unfold isType loadHead
      exact wpAny_bind (wpAny_loadPart (k _ _ (X _ _ ho)) (wpAny_pure q))
    · cases hc
  ne := fun h tp dd its n sl X htp => Bool.eq_false_iff.mpr fun q => by
    obtain ⟨cd, hc, _⟩ := any_some c.hd
    have e : C = tp := Value.ref.inj (beq_iff_eq.mp q)
    subst e
    unfold clsIn at hc
    split at hc
    · rename_i ho
      cases (X _ _ ho).symm.trans htp
    · cases hc
  ca := fun X I k => classX c X I k
end
def tagX (sl il xl : List Str) : D → Option Tag
  | .exc c _ => if xl.contains c then some (.o c) else none
  | d => tagOf sl il d
def fIsiX (sl il xl : List Str) (tab : Tab) : List D → Option D
  | [d, k] => match tagX sl il xl d, clsTag k with
    | some t, some u => (tabAt t u tab).map .bl
    | _, _ => none
  | _ => none
structure TabX (K : PySem.W.Frag) (mg : Str → Option Value) (sl il xl : List Str) (tab : Tab) : Prop where
  ok : TabOk K mg sl il tab
  xls : ∀ c C, c ∈ xl → mg c = some (.ref C) → ExcC K C
section
variable {X : Cx}
def rIsX (K : PySem.W.Frag) : List V → Hp → VK → Prop := fun xs H Q => ∃ (a C dx : Addr) (gs : List (Str × V)) (c : V) (cv : Value) (b : Bool), xs = [.ref a, c] ∧ H a = some (ExO a C dx) ∧ H dx = some (.xd gs) ∧ ExcC K C ∧ (∀ u, RelV c u → u = cv) ∧ PySem.W.kitOne K (.ref C) cv = some b ∧ Q (.bl b) H
theorem call_isX : CallR X (.builtin "isinstance") (rIsX X.K) := by
  intro pins s σ H xs us Q I r h
  obtain ⟨a, C, dx, gs, c, cv, b, rfl, ha, hd, ec, hcv, e, q⟩ := h
  cases r with
  | cons rx rr =>
    cases rr with
    | cons rt rr =>
      cases rr
      cases rx
      cases hcv _ rt
      obtain ⟨oe, od, mA, J, _, _⟩ := exO_inst I ha hd
      exact PySem.W.kia_one (kitX_exc ec) I.kIn J e (fun z => nomatch z) fun tk => ⟨.bl b, H, I.kept (t' := tk) fun _ _ z => z, rfl, q⟩
abbrev rIsiX (K : PySem.W.Frag) : List V → Hp → VK → Prop := fun xs H Q => rIsiAll K xs H Q ∨ rIsX K xs H Q
theorem call_isiX : CallR X (.builtin "isinstance") (rIsiX X.K) := callR_or call_isiAll call_isX
theorem ol_isiX {sl il xl : List Str} {tab : Tab} (T : TabX X.K X.mg sl il xl tab) : OpL X (rIsiX X.K) (fIsiX sl il xl tab) := ⟨fun T' fx g ms δ σ H vs ds z Q s r0 h k => by
  have old : ∀ {d kk : D}, ds = [d, kk] → tagX sl il xl d = tagOf sl il d → rIsiX X.K vs H Q := fun {d kk} e1 e2 => by
    subst e1
    refine .inl ((ol_isi T.ok).go T' fx g ms δ σ H vs _ z Q s r0 ?_ k)
    have h' : (match tagX sl il xl d, clsTag kk with | some t, some u => (tabAt t u tab).map D.bl | _, _ => none) = some z := h
    rw [e2] at h'
    exact h'
  match ds, h, r0 with
  | [d, kk], h, r0 =>
    by_cases hx : ∃ c fs, d = .exc c fs
    · obtain ⟨c, fs, e⟩ := hx
      subst e
      obtain ⟨v, w, rfl, r1, r2⟩ := reps2 r0
      replace h : (match tagX sl il xl (.exc c fs), clsTag kk with | some t, some u => (tabAt t u tab).map D.bl | _, _ => none) = some z := h
      cases et : tagX sl il xl (.exc c fs) with
      | none => rw [et] at h; cases h
      | some t =>
        cases eu : clsTag kk with
        | none => rw [et, eu] at h; cases h
        | some u =>
          rw [et, eu] at h
          cases q : tabAt t u tab with
          | none => simp only [q] at h; cases h
          | some b =>
            simp only [q] at h
            cases h
            unfold tagX at et
            split at et
            · split at et
              · rename_i c' fs' e' hc
                cases e'
                cases et
                cases r1 with
                | exc h1 h2 h3 h4 h5 h6 =>
                  obtain ⟨uv, hu1, hu2⟩ : ∃ uv, TagV X.mg u uv ∧ ClsV w uv := by
                    unfold clsTag at eu
                    split at eu <;> cases eu
                    · cases r2
                      exact ⟨_, rfl, .ty _⟩
                    · cases r2 with
                      | gl hg => exact ⟨_, ⟨_, rfl, hg⟩, .own _⟩
                  exact .inr ⟨_, _, _, _, w, uv, b, rfl, h2, h4, T.xls _ _ (by simpa using hc) h1, fun w' hw => hu2.eq hw, T.ok.kit _ _ _ (tabAt_mem q) _ _ ⟨_, rfl, h1⟩ hu1, k H (Same.refl _) _ (.bl b)⟩
              · cases et
            · rename_i n
              exact absurd rfl (n c fs)
    · refine old rfl ?_
      unfold tagX
      split
      · rename_i c fs
        exact absurd ⟨c, fs, rfl⟩ hx
      · rfl⟩
end
end DL

set_option Elab.async false
set_option linter.all false
set_option maxRecDepth 100000
set_option maxHeartbeats 4000000
set_option autoImplicit false
/-! defs that are called while an error is handled -/
namespace DL
open L2 PyProof.Rows PySem.Spec PySem G58 SlX
variable [TbL]
/-- the context of such a def's body -/
abbrev hotC (X : Cx) : Cx := { X with calm := false }
section
variable {P : Program} {w : World} {K : PySem.W.Frag} {mg : Str → Option Value} {base : Heap} {T : TTb} {gd : Bool} {k : Nat} {f : Addr} {fd : FuncData} {N ps : List Str} {sp : Sp} {x qual : Str}
theorem hot_core {name : Str} {params : Arguments} {body : List Stmt} {scope : Scope} {dV kV doc pm cdv ct oc : Value} {an od : Option Addr} {osl : Array (Option Value)}
    (lk : K.lookup f = some ⟨oc, od, .func (PySem.W.fnOf name qual params body scope dV kV doc pm an cdv ct), osl⟩) (hcd : PySem.W.codeIn K cdv qual = true) (S : FnScope N ps scope) (len : ∀ vs H Q E, sp vs H Q E → vs.length = ps.length)
    (hbody : ∀ (A : Around) (outer : List Env) (s : Shared) (H : Hp) (vs : List V) (Q : VK) (E : XK), (gd = true → A.guards = some []) → RoomQ true k (A.deeper (envOfC qual scope s.heap.objs.size f cdv)) → sp vs H Q E →
      ∃ t, PSs (hotC (cxOf (L2.CX P w) P w K mg base N qual scope f cdv A outer s H E)) body t ∧ t { nx := fun _ H' => Q .non H', rt := Q } (L2.start N vs) H) :
    FnX (Gm K mg P w base T) gd true (k + 1) f (PySem.W.fnOf name qual params body scope dV kV doc pm an cdv ct) ps sp := by
  refine ⟨len, fun A outer s H args us vs Q E hg hr e0 hb r hsp => ?_⟩
  have kept : ∀ b o, base.get? b = some o → s.heap.get? b = some o := fun b o e => (e0.bs b o e).1
  have KX : K.In s.heap := e0.mod.kin.keeps kept
  refine codeAny_call_function hr.depth (KX _ _ lk) rfl S.co S.gen rfl (PySem.W.codeRec_of KX hcd) (hb _ _ _ _ ?_)
  refine wpAny_newFunctionEnv_cells S.kind (fun y hy => ?_) fun env he s1 x => ?_
  · rcases S.par y.1 (List.of_mem_zip hy).1 with q | q
    · exact .inl q
    · exact .inr ⟨q, PySem.W.cellsFrom_some _ _ _ (.inl q)⟩
  · subst he
    refine ⟨(e0.mod.nolimit.keeps kept).keeps x.toInCall.keep, codeAny_func ?_⟩
    obtain ⟨t, ht, hq⟩ := hbody A outer s H vs Q E hg (hr.deeper _) hsp
    have e1 : Env0 P w K mg base { A with handled := none } outer s H := ⟨e0.frames, e0.mod, e0.bs, e0.bsz, e0.funs, e0.frf, e0.hok, e0.bare⟩
    have J := inv_start (CX := L2.CX P w) (E := E) S (A := { A with handled := none }) rfl e1 (len _ _ _ _ hsp) r x
    have ok := J.ok
    have I : Inv (hotC (cxOf (L2.CX P w) P w K mg base N qual scope f cdv A outer s H E)) [] (L2.start N vs) H s1 :=
      ⟨⟨ok.mod, ok.kind, ok.glob, ok.blt, ok.above, ok.inj, ok.has, ok.cab, (fun z => nomatch (show false = true from z)), Around.frames_deeper e0.frames, ok.stk, ok.exf, ok.bs, ok.bsz, ok.noex, ok.exfs, ok.funs, ok.frf⟩, J.os, J.bare, J.base, J.loc, J.cell, J.free, J.freeC, J.pin, J.hok, J.len⟩
    refine wpAny_mono (ht.run [] s1 (L2.start N vs) H _ I hq) (fun fl s' hs => ?_) fun _ _ z => z
    match fl, hs with
    | .ret u, ⟨v, σ', H', J, rv, q⟩ => exact ⟨v, H', J.os, J.bare, J.base, J.hok, rv, q⟩
    | .next, ⟨σ', H', J, q⟩ => exact ⟨V.non, H', J.os, J.bare, J.base, J.hok, rfl, q⟩
    | .brk, ⟨_, _, _, q⟩ => exact False.elim q
    | .cont, ⟨_, _, _, q⟩ => exact False.elim q
theorem okXH {st : Stmt} (F : Fun K x qual st f fd) (S : FnScope N ps (defScope st)) (len : ∀ vs H Q E, sp vs H Q E → vs.length = ps.length)
    (hbody : ∀ (cdv : Value) (A : Around) (outer : List Env) (s : Shared) (H : Hp) (vs : List V) (Q : VK) (E : XK), (gd = true → A.guards = some []) → RoomQ true k (A.deeper (envOfC qual (defScope st) s.heap.objs.size f cdv)) → sp vs H Q E →
      ∃ t, PSs (hotC (cxOf (L2.CX P w) P w K mg base N qual (defScope st) f cdv A outer s H E)) (defBody st) t ∧ t { nx := fun _ H' => Q .non H', rt := Q } (L2.start N vs) H) :
    FnX (Gm K mg P w base T) gd true (k + 1) f fd ps sp := by
  obtain ⟨oc, od, kV, doc, pm, an, cdv, ct, osl, rfl, lk, hcd⟩ := F.ex
  exact hot_core lk hcd S len fun A outer s H vs Q E hg hr h => hbody cdv A outer s H vs Q E hg hr h
theorem FnX.cool {Γ : GG} (F : FnX Γ gd true k f fd ps sp) : FnX Γ gd false k f fd ps sp := ⟨F.len, fun A o s H ar us vs Q E hg hr => F.run A o s H ar us vs Q E hg (hr.to (Nat.le_refl _) fun z => nomatch z)⟩
end
end DL

set_option Elab.async false
set_option linter.all false
set_option maxRecDepth 100000
set_option maxHeartbeats 4000000
set_option autoImplicit false
/-! what the printed texts lean on -/
namespace DL
open L2 PyProof.Rows PySem.Spec PySem G58 SlX
variable [TbL]
section
variable {P : Program} {w : World} {K : PySem.W.Frag} {mg : Str → Option Value} {base : Heap} {N : List Str} {qual : Str} {scope : Scope} {f : Addr} {cdv : Value} {A : Around} {outer : List Env} {s : Shared} {H : Hp} {E : XK}
theorem tk_of : Takes (cxOf (L2.CX P w) P w K mg base N qual scope f cdv A outer s H E) (fun c d _ H' => E c d H') := takes_of rfl rfl rfl rfl
theorem tk_hot : Takes (hotC (cxOf (L2.CX P w) P w K mg base N qual scope f cdv A outer s H E)) (fun c d _ H' => E c d H') := takes_of rfl rfl rfl rfl
theorem own_of : PassesOwn (model P w) (cxOf (L2.CX P w) P w K mg base N qual scope f cdv A outer s H E).A (cxOf (L2.CX P w) P w K mg base N qual scope f cdv A outer s H E).env (cxOf (L2.CX P w) P w K mg base N qual scope f cdv A outer s H E).xe := passes_of (X := cxOf (L2.CX P w) P w K mg base N qual scope f cdv A outer s H E) rfl
theorem tk_no {X : Cx} : Takes X (fun _ _ _ _ => False) := LamX.takes0
end
section
variable {P : Program} {w : World} {K : PySem.W.Frag} {mg : Str → Option Value} {base h : Heap} {T : TTb} {gd ht : Bool} {k : Nat} {x : Str} {st : Stmt} {ps : List Str} {sp : Sp}
theorem dnX_mk (X : K.In h) (G : h.Ns mainGlobals mg) (d : HasDef K x st)
    (hb : ∀ (kV doc pm : Value) (an : Option Addr) (cdv ct : Value) (us : List Value), us.length = ps.length → bindArgs (PySem.W.fnOf x x (defArgs st) (defBody st) (defScope st) .none kV doc pm an cdv ct) ⟨us, []⟩ = pure (ps.zip us))
    (ok : ∀ f fd, Fun K x x st f fd → FnX (Gm K mg P w base T) gd ht k f fd ps sp) : DnX (Gm K mg P w base T) gd ht k x sp := by
  obtain ⟨f, oc, od, kV, dc, pm, an, cd, ct, sl, a, l, c, kp⟩ := d
  have F := fun_mk (st := st) l c kp
  exact ⟨f, _, ps, PySem.W.mg_of X G a, kp, F.binds hb, ok f _ F⟩
theorem fnX_G {f : Addr} {fd : FuncData} (F : FnX (Gm K mg P w base T) true false k f fd ps sp) : FnG P w K mg base (L2.CX P w) k f fd ps sp :=
  ⟨F.len, fun A o s H ar us vs Q E hg hr => F.run A o s H ar us vs Q E (fun _ => hg) (.of hr)⟩
end
omit [TbL] in
/-- the walk, from the reading of the law; cs: the code objects of the defs in which lambdas are made, their tables, the lambdas' names -/
theorem walkX {l : PySem.W.OpenLaw} {n k : Nat} {q : Program} {loose : List Str} {XP : (Str → Option Value) → Heap → Prop} {YP : World → Heap → Prop} {d : DefRec} {K : Params → PySem.W.Frag} {rd : FnD} {x : Str}
    (hn : l.most = some n) (hn2 : n ≤ sizeLine) (hdf : d.params.defaults = []) (hr : Room k callerA) (hY : ∀ (w : World) (h : Heap), YP w h → (K w.params).In h)
    (F : ∀ (w : World) (mg : Str → Option Value) (fa : Addr) (h : Heap), YP w h → (K w.params).In h → h.Ns mainGlobals mg → mg d.name = some (.ref fa) →
      ∃ (fd : FuncData) (cs : List ((Addr × Addr) × Str)), (∀ p ∈ cs, ∃ (y : Str) (d' : DefRec), (recsOf q).find? (fun e => e.name == y) = some d' ∧ PySem.W.tabIn (K w.params) y = some p.1) ∧ (∀ p ∈ cs, (K w.params).lookup p.1.2 = none) ∧ (∀ (s : Shared) (u : Value), BindsTo s fd ⟨[u], []⟩ [(x, u)]) ∧
        ∀ base : Heap, (K w.params).In base → base.Ns mainGlobals mg → (∀ p ∈ cs, LamX.TabB base mg p.1.1 p.1.2) → FnX (Gm (K w.params) mg l.prog w base []) true false k fa fd [x] (@liftSp ⟨cs.map fun p => (p.1.2, p.2)⟩ (Gm (K w.params) mg l.prog w base []) 1 rd))
    (law : ∀ ns : List Int, ns.length ≤ n → ∃ ss, rd [.v (.fl (ns.map D.int))] = .ok (.v (.bl true)) ss) :
    PySem.W.WalkO q loose XP YP l.row.toRowW d [] (fun f vs => PySem.call f vs) := by
  refine Att.attach_call hn hdf ?_
  intro w s0 s1 mg mb fa o pm cd doc a vs ns G Y ho hd hcd hmg hobj hints hlen hg
  have KX := hY w _ Y
  obtain ⟨fd, cs, hC, nT, hb, hF⟩ := F w mg fa _ Y KX G.T.g hmg
  have tabs : ∀ p ∈ cs, PySem.W.CodeHd s1.heap p.1.1 p.1.2 ∧ s1.heap.get? p.1.2 = some { cls := .none, data := .fields #[] } := fun p hp => by
    obtain ⟨y, d', h1, h2⟩ := hC p hp
    exact PySem.W.tab_of G.T KX h1 h2
  letI : TbL := ⟨cs.map fun p => (p.1.2, p.2)⟩
  refine callTs (cs := cs.map (·.1)) (sp := fun base => liftSp ⟨K w.params, mg, l.prog, w, base, []⟩ 1 rd) KX G.T.g G.T.b G.T.builtins G.T.nolimit hg (fun p hp => ?_) (fun p hp => ?_) (fun p hp => ?_) G.T.bmain hobj hints (Nat.le_trans hlen hn2) hr (fun base k1 k2 k3 => fnX_G (hF base k1 k2 fun p hp => k3 p.1 (List.mem_map.mpr ⟨p, hp, rfl⟩))) hb (fun base H hH hS => ?_) fun _ _ _ z => cx_no z
  · obtain ⟨p', hp', rfl⟩ := List.mem_map.mp hp
    exact (tabs p' hp').2
  · obtain ⟨p', hp', rfl⟩ := List.mem_map.mp hp
    exact nT p' hp'
  · obtain ⟨p', hp', rfl⟩ := List.mem_map.mp hp
    exact (tabs p' hp').1
  obtain ⟨ss, e⟩ := law ns hlen
  have rp : Reps ⟨K w.params, mg, l.prog, w, base, []⟩ H (fun _ => False) (ns.map V.int) (ns.map D.int) := by
    clear hS e hints hlen hobj
    induction ns with
    | nil => exact .nil
    | cons i ns ih => exact .cons (.int i) ih
  have fl : FlAt (K w.params) H (fun _ => False) a (ns.map V.int) := by
    rcases hS with hS | hS
    · exact .inl ⟨hS, fun z => z⟩
    · exact .inr (.inr hS)
  refine ⟨fun _ => False, [none], [.v (.fl (ns.map D.int))], rfl, ⟨.cons (.v (.fl fl rp)) .nil, ?_, ?_, fun _ z => z.elim, ⟨fun p hp => ?_, fun p hp => nomatch hp⟩⟩, ?_⟩
  · intro i j a1 d1 b1 d2 h1
    cases i with
    | zero => simp at h1
    | succ i => simp at h1
  · rintro b ⟨a1, d1, hm, _⟩
    simp at hm
  · obtain ⟨p', hp', rfl⟩ := List.mem_map.mp hp
    exact LamX.TabS.nil (hH p'.1 (List.mem_map.mpr ⟨p', hp', rfl⟩))
  · rw [e]
    exact fun v H' _ hv _ => rep_bl hv
/-- how an error's __init__ binds -/
theorem binds_ks {K : PySem.W.Frag} {fd : FuncData} {ps : List Str} (h : ∀ us : List Value, us.length = ps.length → bindArgs fd ⟨us, []⟩ = pure (ps.zip us)) : Binds K fd ps [] := fun s us _ hl => by
  rw [List.append_nil] at hl ⊢
  exact .of_eq (h us hl)
open PySem.W in
theorem xi_mk {K : Frag} {C fI cc cda : Addr} {qual : Str} {st : Stmt} {P : Program} {nm q : Str} {N : Addr} {bs bm : List Value} {sn : List Str} {sub : List Value} {ab : Bool} {col : Option Bool} {dd : Option Addr} {k0 k1 k2 k3 k5 : Option Value}
    {oc : Value} {od : Option Addr} {kV doc pm : Value} {an : Option Addr} {ct : Value} {osl : Array (Option Value)} {ccl : Value} {cdd : Option Addr} {vs : Array Value} {ccs : Array (Option Value)} {file : Str} {tf : Tok} {cl : Value} {cld : Option Addr} {csl : Array (Option Value)}
    (x1 : K.lookup C = some (excClassObj nm q C N bs bm true sn sub ab col dd k0 k1 k2 k3 k5 "ValueError.__new__")) (x2 : PySem.HandSPX.refsVE bm = true) (x3 : findIn K (.ref C) "__setattr__" = some (some (.builtin "object.__setattr__"))) (x4 : subIn K (.ref C) (.type "BaseException") = some true) (x5 : typeIn K (.ref C) = some (.type "type")) (x6 : keepIn K (.ref C) = true)
    (x17 : findIn K (.ref C) "__init__" = some (some (.ref fI))) (x7 : K.lookup fI = some ⟨oc, od, .func (ksFn "__init__" qual (defArgs st) (defBody st) (defScope st) .none kV doc pm an (.ref cda) ct cc), osl⟩) (x8 : codeIn K (.ref cda) qual = true)
    (x9 : K.lookup cda = some ⟨ccl, cdd, .fields vs, ccs⟩) (x10 : vs[2]? = some (.str file tf)) (x11 : ((P.main.file : Str) == file) = true) (x12 : K.lookup cc = some ⟨cl, cld, .cell (some (.ref C)), csl⟩) (x13 : mroIn K C (.ref C) = some true) (x14 : nsIn K cStatics "thirdparty.any" = some none)
    (x15 : ks_superIn K C C "__init__" = some (some (.builtin "ValueError.__init__"))) (x16 : subIn K (.ref C) (.type "ValueError") = some true) (x18 : typeIn K (.ref fI) = some (.type "function")) (x19 : (P.main.scope.names.lookup ("super" : Str)).isSome = false) : XI K C fI cc cda qual st P :=
  ⟨⟨⟨nm, q, N, bs, bm, sn, sub, ab, col, dd, k0, k1, k2, k3, k5, x1, x2⟩, x3, x4, x5, x6⟩, ⟨oc, od, kV, doc, pm, an, ct, osl, x7⟩, x8, ⟨ccl, cdd, vs, ccs, file, tf, x9, x10, x11⟩, ⟨cl, cld, csl, x12⟩, x13, x14, x15, x16, x17, x18, x19⟩
/-! the table of clauses, entry by entry -/
def XtE (K : PySem.W.Frag) (mg : Str → Option Value) (vs : List (Str × Value)) (e : (Str × Str) × Bool) : Prop := ∀ C v, mg e.1.1 = some (.ref C) → vs.lookup e.1.2 = some v → PySem.W.exmOne K (.ref C) v = some e.2
def XtK (K : PySem.W.Frag) (mg : Str → Option Value) (vs : List (Str × Value)) : XT → Prop
  | [] => True
  | e :: r => XtE K mg vs e ∧ XtK K mg vs r
theorem xtE_mk {K : PySem.W.Frag} {mg : Str → Option Value} {vs : List (Str × Value)} {c h : Str} {b : Bool} {C D : Addr} (h1 : mg c = some (.ref C)) (h2 : vs.lookup h = some (.ref D)) (h3 : PySem.W.exmOne K (.ref C) (.ref D) = some b) : XtE K mg vs ((c, h), b) := fun C' v e1 e2 => by
  cases h1.symm.trans e1
  cases h2.symm.trans e2
  exact h3
theorem XtK.ok {K : PySem.W.Frag} {mg : Str → Option Value} {vs : List (Str × Value)} : ∀ {xt : XT}, XtK K mg vs xt → XtOk K mg vs xt
  | [], _, _, _, _, h => by cases h
  | e :: r, ⟨h1, h2⟩, c, h, b, hm => by
    rcases List.mem_cons.mp hm with z | z
    · subst z
      exact h1
    · exact XtK.ok h2 c h b z
theorem xf_mk {K : PySem.W.Frag} {mg : Str → Option Value} {xs : List Str} {f : Str} (h : ∀ c C, c ∈ xs → mg c = some (.ref C) → ExcC K C ∧ PySem.W.findIn K (.ref C) f = some none) : XfOk K mg xs f := fun c C h1 h2 =>
  let ⟨e, n⟩ := h c C h1 h2
  ⟨⟨e.hg, e.hk, e.hs, e.hd⟩, n⟩
end DL

set_option Elab.async false
set_option linter.all false
set_option maxRecDepth 100000
set_option maxHeartbeats 4000000
set_option autoImplicit false
/-! f-strings of texts and numbers -/
namespace DL
open L2 PyProof.Rows PySem.Spec PySem G58 SlX
variable [TbL]
def fmtD : D → Option Str
  | .str x => if szOk x.length then some x else none
  | .int i => if decide (i.natAbs.log2 < 1920) then some (toString i) else none
  | _ => none
def eFmt (F : ME D) : ME D := bnd F fun d => opt ((fmtD d).map .str)
def joinD : List (ME D) → Str → ME D
  | [], acc => rtn (.str acc)
  | F :: r, acc => bnd F fun d => match d with
    | .str x => if szOk (acc.length + x.length) then joinD r (acc ++ x) else fun _ => .bad
    | _ => fun _ => .bad
section
variable {X : Cx} {Wx : WT} {e : Expr} {Fe : ME D} {pos : Pos}
theorem de_fmt (he : DE X Wx e Fe) : DE X Wx (.FormattedValue e (-1) none pos) (eFmt Fe) := by
  refine pe_of (pe_fmt he) fun σ H Q ⟨g, ms, δ, s, p⟩ => ?_
  refine lift_bnd s p fun d δ1 H1 v s1 l1 r1 p1 => ?_
  obtain ⟨z, e, k⟩ := post_opt s1 p1
  unfold fmtD at e
  split at e
  · split at e
    · rename_i c
      cases e
      rw [rep_str r1]
      exact .inl ⟨_, rfl, sz_line c, k _ (.str _)⟩
    · cases e
  · split at e
    · rename_i c
      cases e
      rw [rep_int r1]
      exact .inr ⟨_, rfl, of_decide_eq_true c, k _ (.str _)⟩
    · cases e
  · cases e
/-- the parts and their readings -/
inductive DJ (X : Cx) (Wx : WT) : List Expr → List (ME D) → Prop
  | nil : DJ X Wx [] []
  | cons {e : Expr} {F : ME D} {es : List Expr} {Fs : List (ME D)} : DE X Wx e F → DJ X Wx es Fs → DJ X Wx (e :: es) (F :: Fs)
theorem DJ.pj {es : List Expr} {Fs : List (ME D)} (h : DJ X Wx es Fs) : PJ X es (Fs.map fun F => liftE (gg X Wx.T) Wx F) := by
  induction h with
  | nil => exact .nil
  | cons h _ ih => exact .cons h ih
theorem join_lift {g : Gh Wx.fx} {ms : List Rg} {σ : L2.St} {Q : VK} : ∀ {Fs : List (ME D)} {acc : Str} {δ : Ds} {H : Hp}, Sim (gg X Wx.T) g ms δ σ H → Post (gg X Wx.T) Wx g ms σ H (fun d _ H' => ∀ v, Rep (gg X Wx.T) H' (Wt g ms) v d → Q v H') (joinD Fs acc δ) →
    tJs (Fs.map fun F => liftE (gg X Wx.T) Wx F) acc σ H fun out H1 => Q (.str out) H1
  | [], acc, δ, H, s, p => post_rtn s p _ (.str _)
  | F :: Fs, acc, δ, H, s, p => by
    unfold joinD at p
    refine lift_bnd s p fun d δ1 H1 v s1 l1 r1 p1 => ?_
    split at p1
    · split at p1
      · rename_i x c
        rw [rep_str r1]
        refine ⟨x, rfl, ?_, join_lift s1 p1⟩
        have z : (acc ++ x).length = acc.length + x.length := by
          show (acc.cps ++ x.cps).size = _
          rw [Array.size_append]
          rfl
        rw [z]
        exact sz_line c
      · exact p1.elim
    · exact p1.elim
theorem de_join {v1 v2 : Expr} {rest : List Expr} {Fs : List (ME D)} (h : DJ X Wx (v1 :: v2 :: rest) Fs) : DE X Wx (.JoinedStr (v1 :: v2 :: rest) pos) (joinD Fs Str.empty) :=
  pe_of (pe_joined h.pj) fun σ H Q ⟨g, ms, δ, s, p⟩ => join_lift s p
theorem de_join1 (h : DE X Wx e Fe) : DE X Wx (.JoinedStr [e] pos) Fe := pe_joined1 h
end
end DL

set_option Elab.async false
set_option linter.all false
set_option maxRecDepth 100000
set_option maxHeartbeats 4000000
set_option autoImplicit false
/-! dicts -/
namespace DL
open L2 PyProof.Rows PySem.Spec PySem G58 SlX
variable [TbL]
def eDct0 : ME D := rtn (.dct [])
section
variable {X : Cx} {Wx : WT} {pos : Pos}
theorem de_dct0 : DE X Wx (.Dict [] [] pos) eDct0 := by
  refine pe_of pe_dnewK fun σ H Q ⟨g, ms, δ, s, p⟩ => ?_
  intro q nq
  have sm : Same H (upd H q (.dK [])) := same_new nq
  exact p _ (s.grow sm) (Le.same sm) _ (.dct upd_same (s.fresh nq) .nil)
end
end DL

set_option Elab.async false
set_option linter.all false
set_option maxRecDepth 100000
set_option maxHeartbeats 4000000
set_option autoImplicit false
/-! a lambda without parameters handed to a def, by trees -/
namespace DL
open L2 PyProof.Rows PySem.Spec PySem G58 SlX
variable [TbL]
/-- what a lambda comes to -/
inductive LO where
  | ok (d : D) | ex (x : Exc) | bad
def loOf : Out D → LO
  | .ok d _ => .ok d
  | .ex x _ => .ex x
  | .bad => .bad
def hideO : Option S → Option S
  | some (.v d) => some (.v d)
  | _ => none
/-- the slots without the things that change -/
def hideM (δ : Ds) : Ds := δ.map hideO
def LPost (Γ : GG) (W : As) (H : Hp) (Q : VK) (E : XK) : LO → Prop
  | .ok d => ∀ v H', Rep Γ H' W v d → Le (fun _ => False) H H' → Q v H'
  | .ex x => ∀ cls dd H', XRep Γ H' W x cls dd → Le (fun _ => False) H H' → E cls dd H'
  | .bad => False
/-- the function at f comes to L from now on -/
def Acts (Γ : GG) (gd : Bool) (k : Nat) (fr : List Env) (f : Addr) (s : Shared) (H : Hp) (W : As) (L : LO) : Prop :=
  ∀ (A : Around) (outer : List Env) (s' : Shared) (H' : Hp) (W' : As) (Q : VK) (E : XK), (gd = true → A.guards = some []) → Room k A → Env0 Γ.P Γ.w Γ.K Γ.mg Γ.base A outer s' H' → Un (frs fr) [] H H' s.heap s'.heap → Fut W H W' H' → (∀ b, W' b → H' b ≠ none) → TabC Γ.T H' →
    LPost Γ W' H' Q E L → codeAny (model Γ.P Γ.w) A (.call (.ref f) ⟨[], []⟩) (CR (L2.CX Γ.P Γ.w) outer Γ.P Γ.w H' s' Q E) s'
/-- it is still the function at f -/
def FunAt (fr : List Env) (f : Addr) (s : Shared) (H : Hp) : Prop := (∃ (oc : Value) (od : Option Addr) (fd : FuncData) (sl : Array (Option Value)), s.heap.get? f = some ⟨oc, od, .func fd, sl⟩) ∧ H f = none ∧ f ∉ frs fr
/-- a def of the top that is handed such a function -/
structure LamFn (Γ : GG) (gd : Bool) (j k : Nat) (x : Str) (N : Nat) (B : LO → MS) : Prop where
  ex : ∃ g : Addr, Γ.mg x = some (.ref g) ∧ PySem.W.keepIn Γ.K (.ref g) = true ∧ ∀ (A : Around) (outer : List Env) (s : Shared) (H : Hp) (f : Addr) (W : As) (L : LO) (Q : VK) (E : XK),
    (gd = true → A.guards = some []) → Room k A → Env0 Γ.P Γ.w Γ.K Γ.mg Γ.base A outer s H → (∀ b, W b → H b ≠ none) → TabC Γ.T H → FunAt outer f s H → Acts Γ gd j outer f s H W L →
      FPost Γ W [none] H Q E (runBody 1 N (B L) [.v .opq]) → codeAny (model Γ.P Γ.w) A (.call (.ref g) ⟨[.ref f], []⟩) (CR (L2.CX Γ.P Γ.w) outer Γ.P Γ.w H s Q E) s
/-! the def's side -/
section
variable {Γ : GG} {N : List Str} {H : Hp} {Q : VK} {E : XK} {B : MS} {W : As} {f : Addr}
theorem lam_body (hw : ∀ b, W b → H b ≠ none) (ht : TabC Γ.T H) (p : FPost Γ W [none] H Q E (runBody 1 N.length B [.v .opq])) (hn : 1 ≤ N.length) :
    liftS Γ 1 ⟨fun c d _ H' => E c d H', Γ.T, some ⟨0, .ref f, H, W⟩⟩ B { nx := fun _ H' => Q .non H', rt := Q } (L2.start N [.ref f]) H := by
  let fx : FX := some ⟨0, .ref f, H, W⟩
  have nr : ∀ b, ¬ regs (none :: List.replicate (N.length - 1) none) b := fun b z => by
    rcases (regs_app (ms := [none]) (ms' := List.replicate (N.length - 1) none)).mp z with ⟨a, d, y, _⟩ | y
    · simp at y
    · exact regs_rep y
  have noM : ∀ (j : Nat) (q : Addr × Addr), (none :: List.replicate (N.length - 1) none : List Rg)[j]? = some (some q) → False := fun j q e => nr q.1 ⟨q.1, q.2, List.mem_of_getElem? e, .inl rfl⟩
  have sim : Sim Γ (fx := fx) ⟨W, fun _ => False, H, [none]⟩ (none :: List.replicate (N.length - 1) none) (some (.v .opq) :: List.replicate (N.length - 1) none) (L2.start N [.ref f]) H := by
    refine ⟨?_, fun i j a dx b dy h1 => (noM _ _ h1).elim, fun i r e => ?_, fun i a dx h1 h2 => (noM _ _ h2).elim, fun i a dx h1 h2 => (noM _ _ h2).elim, by simp, fun _ z => z.elim, hw, Le.refl, ht, fun f' e => ?_⟩
    · unfold L2.start
      exact .cons (.v .opq) (slots_none _)
    · cases i with
      | zero => simp at e
      | succ i => simp at e
    · replace e : some (⟨0, .ref f, H, W⟩ : Fx) = some f' := e
      cases e
      exact ⟨rfl, rfl, (Mv.wk (W := W) (H := H) fun b z => by
        rcases z with z | z
        · exact z
        · exact (nr b z).elim).fut⟩
  refine ⟨⟨W, fun _ => False, H, [none]⟩, _, _, rfl, sim, ?_⟩
  have le : ∀ {ms' : List Rg} {δ' : Ds} {σ' : L2.St} {H' : Hp}, Sim Γ (fx := fx) ⟨W, fun _ => False, H, [none]⟩ ms' δ' σ' H' → Le (regs [none]) H H' := fun s => s.le.mono fun _ z => z.elim
  have out : ∀ {H' : Hp} {W' : As} {ss : List S}, OutR Γ H' W' [none] ss := by
    intro H' W' ss i a dx e
    cases i with
    | zero => simp at e
    | succ i => simp at e
  unfold runBody at p
  simp only [List.map_cons, List.map_nil, List.cons_append, List.nil_append] at p
  cases q : B (some (.v .opq) :: List.replicate (N.length - 1) none) with
  | bad => rw [q] at p; exact p
  | bk δ' => rw [q] at p; exact p.elim
  | ct δ' => rw [q] at p; exact p.elim
  | nx δ' =>
    rw [q] at p
    exact fun ms' σ' H' s v => p .non H' out .non (le s)
  | ex x δ' =>
    rw [q] at p
    intro ms' σ' H' cls dd s v r
    obtain ⟨C, dx, gs, h1, h2, h3, h4, h5, h6⟩ := r
    exact p cls dd H' out ⟨C, dx, gs, h1, h2, h3, h4, fun z => h5 (.inl z), h6.mv (Mv.wk fun b z => .inl z)⟩ (le s)
  | rt t δ' =>
    rw [q] at p
    cases t with
    | v d => exact fun ms' σ' H' v s ev r => p v H' out (r.mv (Mv.wk fun b z => .inl z)) (le s)
    | m o =>
      intro pp dx ms' σ' H' l1 l2 l3 s ev
      have hat : (ms' ++ [some (pp, dx)])[ms'.length]? = some (some (pp, dx)) := by simp
      obtain ⟨z1, z2⟩ := s.loc _ _ _ (by rw [l1]; exact l3) hat
      obtain ⟨o', y1, y2, y3⟩ := s.sl.getM hat
      have eo : o' = o := by
        rw [l1] at y1
        simp at y1
        exact y1.symm
      subst eo
      have wk : ∀ b, with2 W pp dx b → Wt (fx := fx) ⟨W, fun _ => False, H, [none]⟩ (ms' ++ [some (pp, dx)]) b := fun b z => by
        rcases z with z | z
        · exact .inl z
        · exact .inr ⟨pp, dx, by simp, z⟩
      exact p pp dx H' z1 z2 out (y3.mv (Mv.wk wk) (fun z => z) fun z => z) (le s)
end
section
variable {P : Program} {w : World} {K : PySem.W.Frag} {mg : Str → Option Value} {base h : Heap} {T : TTb} {gd : Bool} {j k : Nat} {x a : Str} {st : Stmt} {N : List Str} {B : LO → MS}
theorem okLam (X : K.In h) (G : h.Ns mainGlobals mg) (d : HasDef K x st) (S : FnScope N [a] (defScope st)) (hn : 1 ≤ N.length)
    (hb : ∀ (kV doc pm : Value) (an : Option Addr) (cdv ct : Value) (us : List Value), us.length = 1 → bindArgs (PySem.W.fnOf x x (defArgs st) (defBody st) (defScope st) .none kV doc pm an cdv ct) ⟨us, []⟩ = pure ([a].zip us))
    (hbody : ∀ (cdv : Value) (A : Around) (outer : List Env) (s : Shared) (H : Hp) (g f : Addr) (W : As) (L : LO) (E : XK), (gd = true → A.guards = some []) → Room k (A.deeper (envOfC x (defScope st) s.heap.objs.size g cdv)) → FunAt outer f s H → Acts (Gm K mg P w base T) gd j outer f s H W L →
      DSs (cxOf (L2.CX P w) P w K mg base N x (defScope st) g cdv A outer s H E) 1 ⟨fun c d _ H' => E c d H', T, some ⟨0, .ref f, H, W⟩⟩ (defBody st) (B L)) : LamFn (Gm K mg P w base T) gd j (k + 1) x N.length B := by
  obtain ⟨g, oc, od, kV, dc, pm, an, cd, ct, sl, a1, l, c, kp⟩ := d
  refine ⟨g, PySem.W.mg_of X G a1, kp, fun A outer s H f W L Q E hg hr e0 hw ht hf hA p => ?_⟩
  have KX : K.In s.heap := e0.mod.kin.keeps fun b o e => (e0.bs b o e).1
  have F := fun_mk (st := st) l c kp
  have b1 := (F.binds (ps := [a]) hb) s [.ref f] KX rfl
  rw [List.append_nil] at b1
  exact LamX.run_ofS (N := N) (ps := [a]) (us := [.ref f]) (vs := [.ref f]) l c S hr e0 b1 (.cons rfl .nil) rfl fun hr' => ⟨_, hbody cd A outer s H g f W L E hg hr' hf hA, lam_body hw ht p hn⟩
end
/-! the call of what was handed over -/
def actD (L : LO) : ME D := fun δ => match L with
  | .ok d => .ok d δ
  | .ex x => .ex x δ
  | .bad => .bad
section
variable {P : Program} {w : World} {K : PySem.W.Frag} {mg : Str → Option Value} {base : Heap} {T : TTb} {gd : Bool} {j k : Nat} {x a : Str} {sg : Scope} {Ng : List Str} {g f : Addr} {cdg : Value} {A : Around} {outer : List Env} {s : Shared} {H : Hp} {E : XK} {W : As} {L : LO} {Wz : WX} {pn : List (Addr × Obj)} {xe : Value → Shared → Prop} {p1 p2 : Pos}
theorem act_lift {Γ : GG} {fx : FX} {Wx : WT} (hx : Wx.fx = fx) {g : Gh fx} {ms : List Rg} {δ : Ds} {σ : L2.St} {H : Hp} {Q : VK} (s : Sim Γ g ms δ σ H) (p : Post Γ Wx g ms σ H (fun d _ H' => ∀ v, Rep Γ H' (Wt g ms) v d → Q v H') (actD L δ)) : LPost Γ (Wt g ms) H Q (fun c d H' => Wx.wx c d σ H') L := by
  have go : ∀ {H' : Hp}, Le (fun _ => False) H H' → Sim Γ g ms δ σ H' ∧ Le (regs ms) H H' := fun {H'} l => ⟨s.step (s.sl.mv (Mv.le' l fun _ z => z.elim) fun _ _ z => z) (l.mono fun _ z => z.elim) Kp.rfl, l.mono fun _ z => z.elim⟩
  cases L with
  | ok d => exact fun v H' r l => p H' (go l).1 (go l).2 v r
  | ex x => exact fun cls dd H' r l => p cls dd H' (go l).1 (go l).2 r
  | bad => exact p.elim
/-- in the body of the def, or of a try in it -/
theorem de_act (i0 : Ng[0]? = some a) (hv : Vis sg a) (hf : FunAt outer f s H) (hA : Acts (Gm K mg P w base T) gd j outer f s H W L) (hg : gd = true → A.guards = some []) (hr : Room j (A.deeper (envOfC x sg s.heap.objs.size g cdg)))
    (tk : Takes ((cxOf (L2.CX P w) P w K mg base Ng x sg g cdg A outer s H E).tr pn xe) Wz) (hd : (a == ("__debug__" : Str)) = false := by decide) (hcd : (a == ("__classdict__" : Str)) = false := by decide) :
    DE ((cxOf (L2.CX P w) P w K mg base Ng x sg g cdg A outer s H E).tr pn xe) ⟨Wz, T, some ⟨0, .ref f, H, W⟩⟩ (.Call (.Name a p1) [] [] p2) (actD L) := by
  refine ⟨fun pinsZ sZ σZ HZ Q IZ ⟨g', ms, δ, sim, p⟩ => ?_⟩
  obtain ⟨q1, q2, q3⟩ := sim.fix _ rfl
  refine wpAny_Call_Name_kw (thn ((pe_var (pos := p1) (i := 0) i0 hv hd hcd).run pinsZ sZ σZ HZ (fun v H1 => v = .ref f ∧ H1 = HZ) IZ ⟨.ref f, q1, rfl, rfl⟩) fun u s1 ⟨v, H1, I1, r1, e1, eH⟩ => ?_)
  subst e1
  rw [eH] at I1
  obtain rfl : u = Value.ref f := r1
  obtain ⟨⟨oc, od, fd, sl, of0⟩, hfn, hfr⟩ := hf
  have of1 := I1.base.keep f _ of0 hfn hfr (fun z => nomatch (show f ∈ ([] : List Addr) from z))
  refine PySem.W.callWith_F0 ⟨_, _, _, _, of1⟩ ?_
  have un : Un (frs outer) [] H HZ s.heap s1.heap := I1.base
  refine wpAny_call (codeAny_mono (hA (A.deeper (envOfC x sg s.heap.objs.size g cdg)) (envOfC x sg s.heap.objs.size g cdg :: outer) s1 HZ (Wt g' ms) Q (fun c d H' => Wz c d σZ H') (fun z => hg z) hr I1.env0 un q3 (fun b z => sim.alW z) sim.tab (act_lift rfl sim p)) fun r s' hq => ?_)
  match r, hq with
  | .error e, hq => exact tk e s' (XE.of_call I1 (fun _ _ _ h => h) hq)
  | .ok (.ret u), hq => exact I1.after hq
  | .ok .next, hq => exact False.elim hq
  | .ok .brk, hq => exact False.elim hq
  | .ok .cont, hq => exact False.elim hq
end
/-! the maker's side -/
/-- what becomes of the tracked things when a lambda is made -/
def Made (P c' : Addr) (q : Str) (H H1 : Hp) : Prop := H1 = H ∨ ∃ (ps more : Array Value), H P = some (.tbl ps) ∧ H c' = none ∧ H1 = upd (upd H P (.tbl (ps ++ more))) c' (LamX.CodeO c' q)
theorem Made.le {P c' : Addr} {q : Str} {H H1 : Hp} {A : As} (m : Made P c' q H H1) (t : LamX.Tabs TbL.t H1) : Le A H H1 := by
  rcases m with e | ⟨ps, more, hP, hc, e⟩
  · subst e
    exact Le.refl
  have keep : ∀ b o, NT o → H b = some o → H1 b = some o := fun b o n h => by
    rw [e, upd_ne (ne_of_none h hc), upd_ne fun z => n ps (by rw [z, hP] at h; exact (Option.some.inj h).symm)]
    exact h
  refine ⟨fun b o _ n h => keep b o n h, fun b n => ?_, fun T tc => ⟨t, fun p hp => keep _ _ (LamX.codeO_ne) (tc.2 p hp)⟩⟩
  rw [e]
  by_cases h1 : b = c'
  · rw [h1, upd_same]; exact fun z => nomatch z
  · rw [upd_ne h1]
    by_cases h2 : b = P
    · rw [h2, upd_same]; exact fun z => nomatch z
    · rw [upd_ne h2]; exact n
section
variable {X : Cx} {pins : List (Addr × Obj)} {σ : L2.St} {H : Hp} {s : Shared}
theorem lam_made {T : List (Addr × Str)} {c P : Addr} {params : Arguments} {body : Expr} {scope : Scope} {pos : Pos} {E : Value → Shared → Prop} {Q : Value → Shared → Prop} (I : Inv X pins σ H s) (TB : LamX.TabB X.base X.mg c P) (hcode : X.env.code = .ref c)
    (hm : (P, X.env.qual ++ "<lambda>") ∈ T) (hu : ∀ p ∈ T, p.1 = P → p.2 = X.env.qual ++ "<lambda>") (hT : LamX.Tabs T H) (hdef : defaultsOf params X.env = ([], [])) (hfree : ∀ y ∈ scope.names, y.2 = .free → ∃ c, X.env.cells.lookup y.1 = some c)
    (k : ∀ (f c' : Addr) (pm ctv : Value) (H1 : Hp) (s1 : Shared), Inv X pins σ H1 s1 → Made P c' (X.env.qual ++ "<lambda>") H H1 → LamX.Tabs T H1 →
      s1.heap.get? f = some (PySem.W.kla_obj "<lambda>" (X.env.qual ++ "<lambda>") params body scope (cloFrom X.env.cells scope.names []) pm c' ctv) → H1 f = none → f ∉ frs X.stack → H1 c' = some (LamX.CodeO c' (X.env.qual ++ "<lambda>")) → Q (.ref f) s1) :
    wpAny (model X.prog X.w) X.A (eval (.Lambda params body scope pos) X.env) Q E s := by
  obtain ⟨tb, tP, tok, tcd⟩ := hT _ hm
  have gP : s.heap.get? P = some { cls := .none, data := .fields tb } := I.hok P _ tP
  have new : ∀ f, s.heap.objs.size ≤ f → f ∉ frs X.stack := fun f hf z => by
    rcases List.mem_cons.mp (I.stkSub _ z) with e | e
    · have l1 := I.lt
      rw [← e] at l1
      exact absurd (Nat.lt_of_lt_of_le l1 hf) (Nat.lt_irrefl _)
    · exact I.nofs hf e
  refine PySem.W.kla_eval hdef ?_
  cases hc : codeAmong pos tb.toList with
  | some cv =>
    obtain ⟨c', rfl, hco⟩ := tcd pos cv hc
    refine PySem.W.kla_makeFunctionHit (closure_ok hfree) I.ok.glob (I.mod.glob.keeps I.bk) hcode (TB.code.keeps I.bk) gP tok hc (TB.bm.keeps I.bk) fun ctv h' tk hx sz => ?_
    exact k _ c' _ ctv H _ (I.kept fun b o e => Heap.get?_push_of_some _ (hx b o e)) (.inl rfl) hT (Heap.get?_push_size _ rfl) (I.hok.fresh sz) (new _ sz) hco
  | none =>
    refine PySem.W.kla_makeFunction (closure_ok hfree) I.ok.glob (I.mod.glob.keeps I.bk) hcode (TB.code.keeps I.bk) gP tok hc TB.gP (TB.bm.keeps I.bk) fun c' ctv h' tk hx ge lt rc tbl => ?_
    obtain ⟨c2, oc, vs, t, e2, q1, q2, q3⟩ := rc
    cases e2
    have sz : s.heap.objs.size ≤ h'.objs.size := Nat.le_trans ge (Nat.le_of_lt lt)
    have nc : H c' = none := I.hok.fresh ge
    have mk : Made P c' (X.env.qual ++ "<lambda>") H (upd (upd H P (.tbl (tb ++ #[rawInt pos.line, rawInt pos.col, .ref c']))) c' (LamX.CodeO c' (X.env.qual ++ "<lambda>"))) := .inr ⟨tb, _, tP, nc, rfl⟩
    have kc : ∀ c0 q0, H c0 = some (LamX.CodeO c0 q0) → upd (upd H P (.tbl (tb ++ #[rawInt pos.line, rawInt pos.col, .ref c']))) c' (LamX.CodeO c' (X.env.qual ++ "<lambda>")) c0 = some (LamX.CodeO c0 q0) := fun c0 q0 e => by
      rw [upd_ne (ne_of_none e nc), upd_ne fun z => LamX.codeO_ne tb (by rw [z, tP] at e; exact (Option.some.inj e).symm)]
      exact e
    refine k h'.objs.size c' _ ctv _ _ (LamX.inv_table (t' := tk) I tP (fun b o n e => Heap.get?_push_of_some _ (hx b o n e)) (Heap.get?_push_of_some _ tbl) ge ⟨oc, vs, t, Heap.get?_push_of_some _ q1, q2, q3⟩) mk (fun p hp => ?_) (Heap.get?_push_size _ rfl) ?_ (new _ sz) upd_same
    · have el : (tb ++ #[rawInt pos.line, rawInt pos.col, .ref c']).toList = tb.toList ++ [rawInt pos.line, rawInt pos.col, .ref c'] := by simp
      by_cases hb : p.1 = P
      · rw [hu p hp hb, hb]
        refine ⟨_, by rw [upd_ne (ne_of_none tP nc), upd_same], by rw [el]; exact PySem.TriplesOk_snoc _ _ _ _ tok, fun p' cv e => ?_⟩
        rw [el] at e
        rcases LamX.among_app _ tok e with z | z
        · obtain ⟨c0, e1, e2⟩ := tcd p' cv z
          exact ⟨c0, e1, kc _ _ e2⟩
        · exact ⟨c', z, upd_same⟩
      · obtain ⟨us, a1, a2, a3⟩ := hT p hp
        refine ⟨us, by rw [upd_ne (ne_of_none a1 nc), upd_ne hb]; exact a1, a2, fun p' cv e => ?_⟩
        obtain ⟨c0, e1, e2⟩ := a3 p' cv e
        exact ⟨c0, e1, kc _ _ e2⟩
    · rw [upd_ne (Nat.ne_of_gt lt), upd_ne (Nat.ne_of_gt (Nat.lt_of_lt_of_le (Heap.lt_size gP) sz))]
      exact I.hok.fresh sz
end
def eLam (B : LO → MS) (N : Nat) (Fe : ME D) : ME D := fun δ => match runBody 1 N (B (loOf (Fe (hideM δ)))) [.v .opq] with
  | .ok (.v d) _ => .ok d δ
  | .ex x _ => .ex x δ
  | _ => .bad
section
variable {Γ : GG} {fx : FX} {g : Gh fx} {ms : List Rg} {δ : Ds} {σ : L2.St} {H H' : Hp} {W' : As}
theorem hide_slots {W W' : As} {A : As} (m : Mv A W W' H H') : ∀ {ms : List Rg} {δ : Ds} {σ : L2.St}, SlotsR Γ H W ms δ σ → SlotsR Γ H' W' (List.replicate δ.length none) (hideM δ) σ
  | _, _, _, .nil => .nil
  | _, _, _, .cons h r => by
    refine .cons ?_ (hide_slots m r)
    cases h with
    | no => exact .no
    | v h => exact .v (h.mv m)
    | m h => exact .no
/-- the maker's frame as the lambda sees it later -/
theorem Sim.lam (s : Sim Γ g ms δ σ H) (f : Fut (Wt g ms) H W' H') (hw : ∀ b, W' b → H' b ≠ none) (ht : TabC Γ.T H') : Sim Γ (fx := none) ⟨W', fun _ => False, H', []⟩ (List.replicate δ.length none) (hideM δ) σ H' := by
  obtain ⟨A, m⟩ := f
  have wk : Mv (fun _ => False) W' (Wt (fx := none) ⟨W', fun _ => False, H', []⟩ (List.replicate δ.length none)) H' H' := Mv.wk fun b z => by
    rcases z with z | z
    · exact z
    · exact (regs_rep z).elim
  have noM : ∀ (j : Nat) (q : Addr × Addr), (List.replicate δ.length none : List Rg)[j]? = some (some q) → False := fun j q e => regs_rep (k := δ.length) (b := q.1) ⟨q.1, q.2, List.mem_of_getElem? e, .inl rfl⟩
  exact ⟨(hide_slots m s.sl).mv wk (fun _ _ z => z), fun i j a dx b dy h1 => (noM _ _ h1).elim, fun i r e => by simp at e, fun i a dx h1 h2 => (noM _ _ h2).elim, fun i a dx h1 h2 => (noM _ _ h2).elim, by simp, fun _ z => z.elim, hw, Le.refl, ht, fun _ z => nomatch z⟩
end
section
variable {X : Cx} {Wx : WT} {gd : Bool} {j k NN : Nat} {x : Str} {B : LO → MS} {params : Arguments} {body : Expr} {scope : Scope} {p lpos pos : Pos} {Fe : ME D} {c P : Addr} {q : Str}
theorem acts_lam {pins : List (Addr × Obj)} {σ : L2.St} {H : Hp} {s : Shared} {g : Gh Wx.fx} {ms : List Rg} {δ : Ds} {f c' : Addr} {pm ctv : Value} (I : Inv X pins σ H s) (sim : Sim (gg X Wx.T) g ms δ σ H) (L : LamX.LamS X.env.scope scope)
    (hf : s.heap.get? f = some (PySem.W.kla_obj "<lambda>" (X.env.qual ++ "<lambda>") params body scope (cloFrom X.env.cells scope.names []) pm c' ctv)) (hfn : H f = none) (hfr : f ∉ frs X.stack) (hco : H c' = some (LamX.CodeO c' (X.env.qual ++ "<lambda>")))
    (hbind : ∀ (q : Str) (cl : List (Str × Addr)) (pm cv ctv : Value), bindArgs (PySem.W.kla_fn "<lambda>" q params body scope cl pm cv ctv) ⟨[], []⟩ = pure [])
    (hbody : ∀ (A : Around) (outer : List Env) (s : Shared) (H : Hp) (E : XK) (f c' : Addr), (gd = true → A.guards = some []) → RoomQ false j (A.deeper (LamX.lamEnv X scope s.heap.objs.size f c')) → DE (LamX.lamCx X A outer s H E scope f c') ⟨fun c d _ H' => E c d H', Wx.T, none⟩ body Fe) :
    Acts (gg X Wx.T) gd (j + 1) X.stack f s H (Wt g ms) (loOf (Fe (hideM δ))) := by
  intro A outer s1 H1 W1 Q E hg hr e0 un fut hw ht pst
  obtain ⟨M0, m⟩ := fut
  have of1 := un.keep f _ hf hfn hfr (fun z => nomatch (show f ∈ ([] : List Addr) from z))
  have hc1 : H1 c' = some (LamX.CodeO c' (X.env.qual ++ "<lambda>")) := (m.le.tb [(c', X.env.qual ++ "<lambda>")] ⟨sim.tab.1, fun p hp => by cases List.mem_singleton.mp hp; exact hco⟩).2 _ (List.mem_singleton.mpr rfl)
  obtain ⟨⟨oc, vs, t, o1, o2, o3⟩, _, _⟩ := e0.hok c' _ hc1
  have lim : s1.heap.NoLimit := e0.mod.nolimit.keeps fun b o e => (e0.bs b o e).1
  refine PySem.W.kla_callFunE hr.depth of1 rfl L.co L.gen rfl ⟨c', oc, vs, t, rfl, o1, o2, o3⟩ ?_
  rw [hbind]
  refine wpAny_pure (wpAny_newFunctionEnv (fun y hy => (L.own y hy).2) (fun y hy => absurd hy (by simp)) (fun h₁ hns hsb => ⟨lim.fresh _ hsb, ?_⟩) L.kind)
  show codeAny _ _ (.expr body (LamX.lamEnv X scope s1.heap.objs.size f c')) _ _
  have kp : ∀ b o, s1.heap.get? b = some o → h₁.get? b = some o := fun b o e => hsb.extBut b o (Nat.ne_of_lt (Heap.lt_size e)) (Heap.get?_push_of_some _ e)
  have J : Inv (LamX.lamCx X A outer s1 H1 E scope f c') [] σ H1 { s1 with heap := h₁, toks := s1.toks + ([] : List (Str × Value)).length } := LamX.lam_start2 I L e0 hr.hd un hns kp
  have sl := sim.lam ⟨M0, m⟩ hw ht
  refine PySem.W.kla_codeExpr (wpAny_mono ((hbody A outer s1 H1 E f c' hg (RoomQ.of (hr.deeper _))).run [] _ σ H1 Q J ⟨_, _, _, sl, ?_⟩) (fun v s' hq => ?_) fun e s' hq => hq)
  · have nr : ∀ b, regs (List.replicate δ.length none) b → False := fun b z => regs_rep z
    have wk : ∀ {H2 : Hp}, Mv (fun _ => False) (Wt (fx := none) ⟨W1, fun _ => False, H1, []⟩ (List.replicate δ.length none)) W1 H2 H2 := fun {H2} => Mv.wk fun b z => .inl z
    cases e : Fe (hideM δ) with
    | bad => rw [e] at pst; exact pst
    | ok d δ' =>
      rw [e] at pst
      exact fun H2 _ l v r => pst v H2 (r.mv wk) (l.mono fun b z => (nr b z).elim)
    | ex x δ' =>
      rw [e] at pst
      rintro cls dd H2 _ l ⟨C, dx, gs, z1, z2, z3, z4, z5, z6⟩
      exact pst cls dd H2 ⟨C, dx, gs, z1, z2, z3, z4, fun y => z5 (.inl y), z6.mv wk⟩ (l.mono fun b z => (nr b z).elim)
  · obtain ⟨w', H', J', rv, q⟩ := hq
    exact ⟨w', H', J'.os, J'.bare, J'.base, J'.hok, rv, q⟩
theorem de_lam (LM : LamFn (gg X Wx.T) gd (j + 1) k x NN B) (hgd : gd = true → X.A.guards = some []) (hr : Room k X.A) (tk : Takes X Wx.wx)
    (TB : LamX.TabB X.base X.mg c P) (hcode : X.env.code = .ref c) (hmT : (P, X.env.qual ++ "<lambda>") ∈ TbL.t) (hu : ∀ p ∈ TbL.t, p.1 = P → p.2 = X.env.qual ++ "<lambda>") (L : LamX.LamS X.env.scope scope)
    (hbody : ∀ (A : Around) (outer : List Env) (s : Shared) (H : Hp) (E : XK) (f c' : Addr), (gd = true → A.guards = some []) → RoomQ false j (A.deeper (LamX.lamEnv X scope s.heap.objs.size f c')) → DE (LamX.lamCx X A outer s H E scope f c') ⟨fun c d _ H' => E c d H', Wx.T, none⟩ body Fe)
    (hdef : defaultsOf params X.env = ([], []) := by rfl)
    (hbind : ∀ (q : Str) (cl : List (Str × Addr)) (pm cv ctv : Value), bindArgs (PySem.W.kla_fn "<lambda>" q params body scope cl pm cv ctv) ⟨[], []⟩ = pure [] := by intros; rfl)
    (hg : Gl X x := by rfl) (hdb : (x == ("__debug__" : Str)) = false := by decide) :
    DE X Wx (.Call (.Name x p) [.Lambda params body scope lpos] [] pos) (eLam B NN Fe) := by
  obtain ⟨g, hm, hk, hF⟩ := LM.ex
  refine ⟨fun pins s σ H Q I ⟨gh, ms, δ, sim, pst⟩ => ?_⟩
  refine wpAny_Call_Name_kw (ld_glob I hg hm ?_ hdb)
  refine PySem.W.callWith_K (h₀ := X.base) I.ok.mod.kin hk ?_ (by rfl) (by rfl)
  show wpAny _ _ (spliced ((false, eval (.Lambda params body scope lpos) X.env) :: backTo pos (starEach [] X.env))) _ _ s
  refine Calls.spliced_cons (lam_made I TB hcode hmT hu sim.tab.1 hdef (L.has I.ok) fun f c' pm' ctv H1 s' I1 md T1 hf hfn hfr hco => ?_)
  refine Calls.spliced_nil ⟨I1.kIn, ?_⟩
  have le : Le (fun _ => False) H H1 := md.le T1
  have sim1 : Sim (gg X Wx.T) gh ms δ σ H1 := sim.step (sim.sl.mv (Mv.le' le fun _ z => z.elim) fun _ _ z => z) (le.mono fun _ z => z.elim) Kp.rfl
  have back : ∀ {H2 : Hp}, Le (regs [none]) H1 H2 → Sim (gg X Wx.T) gh ms δ σ H2 ∧ Le (regs ms) H H2 := fun {H2} l => by
    have l2 : Le (fun _ => False) H1 H2 := l.mono fun b z => by
      obtain ⟨_, _, y, _⟩ := z
      simp at y
    exact ⟨sim1.step (sim1.sl.mv (Mv.le' l2 fun _ z => z.elim) fun _ _ z => z) (l2.mono fun _ z => z.elim) Kp.rfl, (le.trans l2).mono fun _ z => z.elim⟩
  have fp : FPost (gg X Wx.T) (Wt gh ms) [none] H1 Q (fun c d H' => Wx.wx c d σ H') (runBody 1 NN (B (loOf (Fe (hideM δ)))) [.v .opq]) := by
    unfold eLam at pst
    cases e : runBody 1 NN (B (loOf (Fe (hideM δ)))) [.v .opq] with
    | bad => rw [e] at pst; exact pst.elim
    | ex x ss =>
      rw [e] at pst
      exact fun cls dd H2 _ xr l => pst cls dd H2 (back l).1 (back l).2 xr
    | ok r ss =>
      rw [e] at pst
      cases r with
      | m o => exact pst.elim
      | v d => exact fun v H2 _ rv l => pst H2 (back l).1 (back l).2 v rv
  have ac : Acts (gg X Wx.T) gd (j + 1) X.stack f s' H1 (Wt gh ms) (loOf (Fe (hideM δ))) := acts_lam I1 sim1 L hf hfn hfr hco hbind hbody
  refine wpAny_call (codeAny_mono (hF X.A X.stack s' H1 f (Wt gh ms) _ Q (fun c d H' => Wx.wx c d σ H') hgd hr I1.env0 (fun b z => sim1.alW z) sim1.tab ⟨⟨_, _, _, _, hf⟩, hfn, hfr⟩ ac fp) fun r s2 hq => ?_)
  match r, hq with
  | .error e, hq => exact tk e s2 (XE.of_call I1 (fun _ _ _ h => h) hq)
  | .ok (.ret u), hq => exact I1.after hq
  | .ok .next, hq => exact False.elim hq
  | .ok .brk, hq => exact False.elim hq
  | .ok .cont, hq => exact False.elim hq
end
end DL

set_option Elab.async false
set_option linter.all false
set_option maxRecDepth 100000
set_option maxHeartbeats 4000000
set_option autoImplicit false
/-! repr of trees in which own things stand -/
namespace DL
open L2 PyProof.Rows PySem.Spec PySem G58 SlX
variable [TbL]
/-- own methods by class and name: how many parameters, the reading -/
abbrev OwT := List ((Str × Str) × (Nat × FnD))
def owAt (c m : Str) : OwT → Option (Nat × FnD)
  | [] => none
  | ((c', m'), F) :: r => if c' = c ∧ m' = m then some F else owAt c m r
theorem owAt_mem {c m : Str} {F : Nat × FnD} : ∀ {ow : OwT}, owAt c m ow = some F → ((c, m), F) ∈ ow
  | [], h => by cases h
  | ((c', m'), F') :: r, h => by
    unfold owAt at h
    split at h
    · rename_i q
      cases h
      rw [q.1, q.2]
      exact List.mem_cons_self
    · exact List.mem_cons_of_mem _ (owAt_mem h)
/-- what such a table promises -/
def OwOk (Γ : GG) (k : Nat) (ow : OwT) : Prop := ∀ c m n F, ((c, m), (n, F)) ∈ ow → ∀ C, Γ.mg c = some (.ref C) → ∃ g : Addr, PySem.W.findIn Γ.K (.ref C) m = some (some (.ref g)) ∧ PySem.W.isFn Γ.K (.ref g) = true ∧ FnRX Γ false true k g (liftSp Γ n F)
/-- the class of an own thing -/
def clsD : D → Option Str
  | .slt c _ => some c
  | .ins c _ => some c
  | _ => none
/-- an own method without further parameters -/
def ownV (ow : OwT) (m : Str) (d : D) : Option D := match clsD d with
  | some c => (match owAt c m ow with
    | some (1, F) => (match F [.v d] with
      | .ok (.v r) _ => some r
      | _ => none)
    | _ => none)
  | none => none
def asStr : D → Option Str
  | .str x => some x
  | _ => none
/-- how deep -/
def dep : D → Nat
  | .lst xs => deps xs + 1
  | .tup xs => deps xs + 1
  | _ => 0
where deps : List D → Nat
  | [] => 0
  | x :: xs => max (dep x) (deps xs)
def shT : D → Bool
  | .lst xs => shTs xs
  | .tup xs => shTs xs
  | .non | .bl _ | .int _ | .str _ | .slt _ _ | .ins _ _ | .dct [] => true
  | _ => false
where shTs : List D → Bool
  | [] => true
  | x :: xs => shT x && shTs xs
def reprT (ow : OwT) : D → Option Str
  | .non => some "None"
  | .bl b => some (if b then "True" else "False")
  | .int i => if decide (i.natAbs.log2 < 1920) then some (toString i) else none
  | .str x => if szOk (reprText x).length then some (reprText x) else none
  | .lst xs => (reprTs ow xs).bind fun ts => if szOk (listText ts).length then some (listText ts) else none
  | .tup xs => (reprTs ow xs).bind fun ts => if szOk (tupleText ts).length then some (tupleText ts) else none
  | .dct [] => some "{}"
  | .slt c fs => (ownV ow "__repr__" (.slt c fs)).bind asStr
  | .ins c fs => (ownV ow "__repr__" (.ins c fs)).bind asStr
  | _ => none
where reprTs (ow : OwT) : List D → Option (List Str)
  | [] => some []
  | x :: xs => match reprT ow x, reprTs ow xs with
    | some t, some ts => some (t :: ts)
    | _, _ => none
/-- where one stands: the frame's state, and that what is forbidden is there -/
structure At (X : Cx) (T : TTb) (W : As) (pins : List (Addr × Obj)) (σ : L2.St) (H : Hp) (s : Shared) : Prop where
  inv : Inv X pins σ H s
  al : ∀ b, W b → H b ≠ none
  tab : TabC T H
abbrev LE0 (H H' : Hp) : Prop := Le (fun _ => False) H H'
section
variable {X : Cx} {T : TTb} {W : As} {pins : List (Addr × Obj)} {σ : L2.St} {H H' : Hp} {s s' : Shared}
theorem At.go (a : At X T W pins σ H s) (I : Inv X pins σ H' s') (l : LE0 H H') : At X T W pins σ H' s' := ⟨I, fun b z => l.al b (a.al b z), l.tb _ a.tab⟩
theorem At.same (a : At X T W pins σ H s) (I : Inv X pins σ H s') : At X T W pins σ H s' := ⟨I, a.al, a.tab⟩
theorem Rep.le0 {Γ : GG} {v : V} {d : D} (r : Rep Γ H W v d) (l : LE0 H H') : Rep Γ H' W v d := r.mv (Mv.le' l fun _ z => z.elim)
theorem Reps.le0 {Γ : GG} {v : List V} {d : List D} (r : Reps Γ H W v d) (l : LE0 H H') : Reps Γ H' W v d := r.mv (Mv.le' l fun _ z => z.elim)
/-- own things as instances -/
theorem rep_inst {c : Str} {a : Addr} {d : D} (I : Inv X pins σ H s) (r : Rep (gg X T) H W (.ref a) d) (e : clsD d = some c) : ∃ (C : Addr) (ox od : Obj), X.mg c = some (.ref C) ∧ PySem.W.InstAt s.heap a ox C (some od) := by
  cases r with
  | slt h1 h2 h3 h4 h5 h6 =>
    cases e
    obtain ⟨sl, od, _, J, _⟩ := slt_inst I h2
    exact ⟨_, _, _, h1, J⟩
  | ins h1 h2 h3 h4 =>
    cases e
    obtain ⟨_, _, ne, q1, mA, q2, q3, q4⟩ := I.hok _ _ h2
    obtain ⟨od, J, _⟩ := ObjM.look (mA := mA) ⟨q1, q2, ne⟩
    exact ⟨_, _, _, h1, J⟩
  | _ => cases e
end
/-! calling an own method -/
section
variable {X : Cx} {T : TTb} {W : As} {pins : List (Addr × Obj)} {σ : L2.St} {H : Hp} {s : Shared} {A : Around} {k : Nat} {g0 a : Addr} {d e r : D} {F : FnD} {ss : List S} {E : Value → Shared → Prop} {R : Value → Shared → Prop}
theorem env_at (I : Inv X pins σ H s) (hA : A.frames = some X.stack) : Env0 X.prog X.w X.K X.mg X.base A X.stack s H := let e := I.env0; ⟨hA, e.mod, e.bs, e.bsz, e.funs, e.frf, e.hok, e.bare⟩
theorem own_run {vs : List V} {us : List Value} {ds : List D} (FO : FnRX (gg X T) false true k g0 (liftSp (gg X T) ds.length F)) (hA : A.frames = some X.stack) (hr : RoomQ true k A) (P : At X T W pins σ H s) (rv : Reps (gg X T) H W vs ds) (ru : Vals vs us) (q : F (ds.map .v) = .ok (.v r) ss)
    (h : ∀ v u s' H', At X T W pins σ H' s' → LE0 H H' → Rep (gg X T) H' W v r → RelV v u → R u s') : wpAny (model X.prog X.w) A (call (.ref g0) us) R E s := by
  have I := P.inv
  have nr : ∀ n b, ¬ regs (List.replicate n none) b := fun n b z => regs_rep z
  have sl : ∀ {vs : List V} {ds : List D}, Reps (gg X T) H W vs ds → SlotsR (gg X T) H W (List.replicate ds.length none) ((ds.map S.v).map some) (vs.map some) := by
    intro vs ds r
    induction ds generalizing vs with
    | nil => cases r; exact .nil
    | cons y ys ih => cases r with
      | cons h r => exact .cons (.v h) (ih r)
  have noM : ∀ (j : Nat) (q : Addr × Addr), (List.replicate ds.length none : List Rg)[j]? = some (some q) → False := fun j q e => nr ds.length q.1 ⟨q.1, q.2, List.mem_of_getElem? e, .inl rfl⟩
  refine wpAny_call (codeAny_mono (FO A X.stack s H us vs (fun v H' => Rep (gg X T) H' W v r ∧ LE0 H H') (fun _ _ _ => False) (fun z => nomatch z) hr (env_at I hA) ru
    ⟨W, List.replicate ds.length none, ds.map .v, by simp, ⟨sl rv, fun i j a dx b dy h1 => (noM _ _ h1).elim, fun b z => (nr _ b z).elim, P.al, P.tab⟩, ?_⟩) fun r' s' hq => ?_)
  · rw [q]
    exact fun v H' _ rr l => ⟨rr, l.mono fun b z => (nr _ b z).elim⟩
  · match r', hq with
    | .error e, hq => exact (cx_no hq).elim
    | .ok (.ret u), hq =>
      obtain ⟨v, H', I', ru', rr, l⟩ := I.after hq
      exact h v u s' H' (P.go I' l) l rr ru'
    | .ok .next, hq => exact False.elim hq
    | .ok .brk, hq => exact False.elim hq
    | .ok .cont, hq => exact False.elim hq
end
/-! trees at one place are equally deep -/
section
variable {X : Cx} {T : TTb} {W : As} {pins : List (Addr × Obj)} {σ : L2.St} {H : Hp} {s : Shared}
def tagC : D → Nat
  | .lst _ => 1
  | .tup _ => 2
  | .dct _ => 3
  | _ => 4
def tagV : Value → Nat
  | .type "list" => 1
  | .type "tuple" => 2
  | .type "dict" => 3
  | _ => 4
theorem rep_tag {a : Addr} {d : D} (I : Inv X pins σ H s) (r : Rep (gg X T) H W (.ref a) d) (e : shT d = true) : ∃ o, s.heap.get? a = some o ∧ tagV o.cls = tagC d := by
  cases r with
  | lst h _ =>
    obtain ⟨its, _, ⟨o, n, q1, q2, _⟩, _⟩ := I.list (LstAt.sq (K := X.K) h)
    exact ⟨o, q1, by rw [q2]; rfl⟩
  | tup h _ =>
    obtain ⟨its, _, ⟨o, q1, q2, _⟩, _⟩ := I.tuple h.sq
    exact ⟨o, q1, by rw [q2]; rfl⟩
  | slt h1 h2 _ _ _ _ =>
    obtain ⟨sl, od, _, J, _⟩ := slt_inst I h2
    exact ⟨_, J.at_, by rw [J.cls]; rfl⟩
  | ins h1 h2 h3 h4 =>
    obtain ⟨_, _, ne, q1, mA, q2, q3, q4⟩ := I.hok _ _ h2
    obtain ⟨od, J, _⟩ := ObjM.look (mA := mA) ⟨q1, q2, ne⟩
    exact ⟨_, J.at_, by rw [J.cls]; rfl⟩
  | dct h2 h3 _ =>
    obtain ⟨_, _, vs, _, o, es, ep, q1, q2, q3⟩ := I.hok _ _ h2
    exact ⟨o, q1, by rw [q2.1]; rfl⟩
  | _ => cases e
mutual
theorem rep_dep (I : Inv X pins σ H s) : ∀ {v : V} {d d' : D}, Rep (gg X T) H W v d → shT d = true → Rep (gg X T) H W v d' → shT d' = true → dep d = dep d'
  | _, _, _, .non, _, r, _ => by cases r; rfl
  | _, _, _, .bl b, _, r, _ => by cases r; rfl
  | _, _, _, .int i, _, r, _ => by cases r; rfl
  | _, _, _, .str x, _, r, _ => by cases r; rfl
  | _, _, _, .ty n, e, _, _ => by cases e
  | _, _, _, .gl h, e, _, _ => by cases e
  | _, _, _, .fl _ _, e, _, _ => by cases e
  | _, _, _, .opq, e, _, _ => by cases e
  | _, _, _, .exc _ _ _ _ _ _, e, _, _ => by cases e
  | _, _, d', .lst h r, e, r', e' => by
    obtain ⟨o, q1, q2⟩ := rep_tag I (.lst h r) e
    obtain ⟨o', q3, q4⟩ := rep_tag I r' e'
    cases q1.symm.trans q3
    rw [q2] at q4
    cases r' with
    | lst h' r2 =>
      cases I.list_inj (LstAt.sq (K := X.K) h) (LstAt.sq (K := X.K) h')
      exact congrArg (· + 1) (reps_dep I r e r2 e')
    | _ => cases q4
  | _, _, d', .tup h r, e, r', e' => by
    obtain ⟨o, q1, q2⟩ := rep_tag I (.tup h r) e
    obtain ⟨o', q3, q4⟩ := rep_tag I r' e'
    cases q1.symm.trans q3
    rw [q2] at q4
    cases r' with
    | tup h' r2 =>
      cases I.tuple_inj h.sq h'.sq
      exact congrArg (· + 1) (reps_dep I r e r2 e')
    | _ => cases q4
  | _, _, d', .slt h1 h2 h3 h4 h5 h6, e, r', e' => by
    obtain ⟨o, q1, q2⟩ := rep_tag I (.slt h1 h2 h3 h4 h5 h6) e
    obtain ⟨o', q3, q4⟩ := rep_tag I r' e'
    cases q1.symm.trans q3
    rw [q2] at q4
    cases d' <;> first | rfl | cases q4
  | _, _, d', .ins h1 h2 h3 h4, e, r', e' => by
    obtain ⟨o, q1, q2⟩ := rep_tag I (.ins h1 h2 h3 h4) e
    obtain ⟨o', q3, q4⟩ := rep_tag I r' e'
    cases q1.symm.trans q3
    rw [q2] at q4
    cases d' <;> first | rfl | cases q4
  | _, _, d', .dct h1 h2 h3, e, r', e' => by
    obtain ⟨o, q1, q2⟩ := rep_tag I (.dct h1 h2 h3) e
    obtain ⟨o', q3, q4⟩ := rep_tag I r' e'
    cases q1.symm.trans q3
    rw [q2] at q4
    cases d' <;> first | rfl | cases q4
theorem reps_dep (I : Inv X pins σ H s) : ∀ {v : List V} {d d' : List D}, Reps (gg X T) H W v d → shT.shTs d = true → Reps (gg X T) H W v d' → shT.shTs d' = true → dep.deps d = dep.deps d'
  | _, _, _, .nil, _, r, _ => by cases r; rfl
  | _, _, _, .cons h r, e, r', e' => by
    cases r' with
    | cons h2 r2 =>
      unfold shT.shTs at e e'
      rw [Bool.and_eq_true] at e e'
      unfold dep.deps
      rw [rep_dep I h e.1 h2 e'.1, reps_dep I r e.2 r2 e'.2]
end
end
end DL

set_option Elab.async false
set_option linter.all false
set_option maxRecDepth 100000
set_option maxHeartbeats 4000000
set_option autoImplicit false
/-! repr, going on -/
namespace DL
open L2 PyProof.Rows PySem.Spec PySem G58 SlX
variable [TbL]
/-- the reprs under way are of deeper trees -/
def GOk (Γ : GG) (H : Hp) (W : As) (g : List Code) (n : Nat) : Prop := ∀ id v rest kw, Code.builtin id ⟨v :: rest, kw⟩ ∈ g → ∃ b d', v = .ref b ∧ shT d' = true ∧ Rep Γ H W (.ref b) d' ∧ n < dep d'
structure Rm (k n : Nat) (A : Around) : Prop where
  dp : A.depth + (3 * k + 5 + n) < recursionLimit
  un : A.units + (16 * k + 200 + n) < cLine
theorem Rm.q {k n : Nat} {A : Around} (r : Rm k n A) : RoomQ true k A := ⟨(fun z => nomatch z), by have := r.dp; omega, by have := r.un; omega⟩
/-- the repr of v, a thing like d, is t -/
def RpI (X : Cx) (T : TTb) (W : As) (σ : L2.St) (k : Nat) (v : V) (d : D) (t : Str) : Prop := ∀ (base : Nat), base + t.length ≤ sizeLine → ∀ (pins : List (Addr × Obj)) (A : Around) (g : List Code) (E : Value → Shared → Prop) (s : Shared) (H : Hp) (u : Value) (Q : Str → Shared → Prop),
  At X T W pins σ H s → Rep (gg X T) H W v d → RelV v u → A.frames = some X.stack → A.guards = some g → GOk (gg X T) H W g (dep d) → Rm k (dep d) A → (∀ s' H', At X T W pins σ H' s' → LE0 H H' → Q t s') → wpAny (model X.prog X.w) A (pyReprUnder base u) Q E s
section
variable {X : Cx} {T : TTb} {W : As} {σ : L2.St} {k : Nat}
theorem rp_of_is {v : V} {d : D} {t : Str} (h : ∀ u, RelV v u → ReprIs X.prog X.w u t) : RpI X T W σ k v d t := fun base hb pins A g E s H u Q P _ ru _ _ _ _ q =>
  h u ru base hb A E s Q fun tk => q _ H (P.same (P.inv.tok tk)) Le.refl
theorem by_own {M : Model} {last : Value → List Value → Sem Value} {K : PySem.W.Frag} {A : Around} {s : Shared} {E : Value → Shared → Prop} {x C f : Addr} {ox : Obj} {od : Option Obj} {name : Str} {Q : Option Value → Shared → Prop} (KX : K.In s.heap) (I : PySem.W.InstAt s.heap x ox C od) (hs : PySem.W.findIn K (.ref C) name = some (some (.ref f))) (hf : PySem.W.isFn K (.ref f) = true)
    (h : wpAny M A (last (.ref f) [.ref x]) (fun v => Q (some v)) E s) : wpAny M A (callSpecialIfBoundBy? last (.ref x) name) Q E s := by
  simp only [callSpecialIfBoundBy?, bindSpecialIfBound?]
  refine wpAny_holding (wpAny_bind (wpAny_bind (wpAny_bind (I.type.here ((PySem.W.looks_findIn KX hs).here ?_)))))
  refine wpAny_bind (wpAny_askSetting (wpAny_ite ?_))
  have fin : wpAny M A (last (.ref f) [.ref x] >>= fun v => pure (some v)) Q E s := wpAny_bind (wpAny_mono h (fun v s' z => wpAny_pure z) fun _ _ z => z)
  split
  · exact wpAny_bind ((PySem.W.bind_fn KX _ (beq_iff_eq.mp hf)).here (wpAny_pure (by exact fin)))
  · exact wpAny_tryCatch (wpAny_bind ((PySem.W.bind_fn KX _ (beq_iff_eq.mp hf)).here (wpAny_pure (by exact fin))))
theorem asStr_some {d : D} {t : Str} (h : asStr d = some t) : d = .str t := by
  cases d <;> simp [asStr] at h
  rw [h]
theorem rp_own {ow : OwT} {v : V} {d : D} {c t : Str} (OK : OwOk (gg X T) k ow) (hc : clsD d = some c) (h : (ownV ow "__repr__" d).bind asStr = some t) : RpI X T W σ k v d t := by
  intro base hb pins A g E s H u Q P r ru hA _ _ rm q
  obtain ⟨a, rfl⟩ : ∃ a, v = .ref a := by cases r <;> first | exact ⟨_, rfl⟩ | cases hc
  cases (show u = Value.ref a from ru)
  obtain ⟨C, ox, od, hm, J⟩ := rep_inst P.inv r hc
  unfold ownV at h
  rw [hc] at h
  simp only at h
  split at h
  · rename_i F hF
    split at h
    · rename_i r' ss hr
      obtain ⟨g0, h1, h2, FO⟩ := OK _ _ _ _ (owAt_mem hF) C hm
      have hu : A.units < cLine := by have := rm.un; omega
      refine wpAny_pyReprUnder_ref (by omega) ?_
      unfold pyReprObjUnder pyReprObjBy
      refine wpAny_bind (wpAny_cRoomFor hu ?_)
      refine wpAny_bind (wpAny_bind (J.type.here ((PySem.W.looks_findIn P.inv.kIn h1).here ?_)))
      show wpAny _ _ (if (some (Value.ref g0)).isNone = true then _ else _) _ _ _
      rw [if_neg (by simp)]
      refine wpAny_bind (by_own P.inv.kIn J h1 h2 ?_)
      show wpAny _ _ (call (.ref g0) ([.ref a] ++ [])) _ _ _
      refine own_run (ds := [d]) FO hA rm.q P (.one r) (.cons rfl .nil) hr fun v' u' s' H' P' l rr ru' => ?_
      have h : asStr r' = some t := h
      cases asStr_some h
      cases rep_str rr
      obtain ⟨tk, rfl⟩ := (show ∃ tk, u' = Value.str t tk from ru')
      exact wpAny_bind (wpAny_isInstance (T := "str") (b := true) rfl isSubtype_str_str (wpAny_pure ⟨t, tk, rfl, q s' H' P' l⟩))
    · cases h
  · cases h
theorem clear_of {pins : List (Addr × Obj)} {H : Hp} {s : Shared} {g : List Code} {a : Addr} {d : D} (I : Inv X pins σ H s) (r : Rep (gg X T) H W (.ref a) d) (e : shT d = true) (G : GOk (gg X T) H W g (dep d)) : Clear g a := by
  intro id v rest kw hm z
  obtain ⟨b, d', e1, e2, e3, e4⟩ := G id v rest kw hm
  rw [z] at e1
  cases e1
  have := rep_dep I r e e3 e2
  omega
theorem GOk.le {Γ : GG} {H H' : Hp} {g : List Code} {n : Nat} (G : GOk Γ H W g n) (l : LE0 H H') : GOk Γ H' W g n := fun id v rest kw hm => by
  obtain ⟨b, d', e1, e2, e3, e4⟩ := G id v rest kw hm
  exact ⟨b, d', e1, e2, e3.le0 l, e4⟩
theorem GOk.more {Γ : GG} {H : Hp} {g : List Code} {n m : Nat} {id : String} {a : Addr} {rest : List Value} {kw : List (Str × Value)} {d : D} (G : GOk Γ H W g n) (r : Rep Γ H W (.ref a) d) (e : shT d = true) (h1 : m < dep d) (h2 : dep d = n) : GOk Γ H W (.builtin id ⟨.ref a :: rest, kw⟩ :: g) m := fun id' v rest' kw' hm => by
  rcases List.mem_cons.mp hm with z | z
  · cases z
    exact ⟨a, d, rfl, e, r, h1⟩
  · obtain ⟨b, d', e1, e2, e3, e4⟩ := G id' v rest' kw' z
    exact ⟨b, d', e1, e2, e3, by omega⟩
/-- all of a row -/
def RpA (X : Cx) (T : TTb) (W : As) (σ : L2.St) (k n : Nat) (xs : List V) (ds : List D) (ts : List Str) : Prop := ts.length = xs.length ∧ ∀ (i : Nat) (x : V) (d : D), xs[i]? = some x → ds[i]? = some d → ∃ t, ts[i]? = some t ∧ RpI X T W σ k x d t ∧ dep d < n
theorem under_frames {A : Around} {id : String} {args : Args} : (A.under (.builtin id args)).frames = A.frames := by
  first | rfl | simp [Around.under, Code.frames, Code.isFrame]
theorem under_depth {A : Around} {id : String} {args : Args} (h : id = "list.__repr__.loop" ∨ id = "tuple.__repr__" ∨ id = "tuple.__repr__.under" := by decide) : (A.under (.builtin id args)).depth = A.depth + 1 := by
  rcases h with rfl | rfl | rfl <;> first | rfl | simp [Around.under, Code.weight, Code.isCreation, Code.isGuard, Code.isCaller, Code.frames, Code.isFrame, guardIds]
theorem new_nofr {pins : List (Addr × Obj)} {H : Hp} {s : Shared} (I : Inv X pins σ H s) {f : Addr} (hf : s.heap.objs.size ≤ f) : f ∉ frs X.stack := fun z => by
  rcases List.mem_cons.mp (I.stkSub _ z) with e | e
  · have l1 := I.lt
    rw [← e] at l1
    exact absurd (Nat.lt_of_lt_of_le l1 hf) (Nat.lt_irrefl _)
  · exact I.nofs hf e
theorem rp_loop {a P : Addr} {xs : List V} {ds : List D} {ts : List Str} {base : Nat} {A : Around} {g : List Code} {R : Result → Shared → Prop} {pins : List (Addr × Obj)} (hT : RpA X T W σ k (dep (.lst ds)) xs ds ts) (hsh : shT (.lst ds) = true) (hA : A.frames = some X.stack) (hg : A.guards = some g) (rm : Rm k (dep (.lst ds)) A)
    (hsz : base + (listText ts).length ≤ sizeLine) :
    ∀ (n i : Nat) (s : Shared) (H : Hp) (acc : Array Value) (c : Nat) (done : List (Str × Tok)), xs.length - i = n → i ≤ xs.length → At X T W pins σ H s → LstAt H W a xs → Reps (gg X T) H W xs ds → GOk (gg X T) H W g (dep (.lst ds)) → FpOk X pins H P →
    s.heap.get? P = some { cls := .type "list", dict := none, data := .seq acc c, slots := #[] } → acc.toList = strValues done → done.map (·.1) = ts.take i →
    (∀ u s' H', At X T W pins σ H' s' → LE0 H H' → R (.ok (.ret (.str (listText ts) u))) s') →
    codeAny (model X.prog X.w) A (.builtin "list.__repr__.loop" ⟨[.ref a, rawInt i, .ref P, rawInt ((base + piled (ts.take i) : Nat) : Int)], []⟩) R s := by
  obtain ⟨hlen, hT⟩ := hT
  have hX : (listText ts).length = (textFrom 0 "[" ts).length + 1 := by
    show (textFrom 0 "[" ts ++ "]").length = _
    rw [strLen_append]; rfl
  have hL := textFrom_len ts 0 "["
  have z1 : xs.length ≤ sizeLine := by
    have q := hL.1
    rw [if_neg (Nat.lt_irrefl 0)] at q
    omega
  have z2 : ∀ t ∈ ts, t.length ≤ sizeLine := fun t ht => by
    have q := hL.2.1 t ht
    omega
  have z3 := piled_le_listText ts
  intro n
  induction n with
  | zero =>
    intro i s H acc c done hk hi P0 la rs G fp gP hacc hdone hR
    have hin : i = xs.length := by omega
    obtain ⟨its, rv, ⟨oa, na, q1, _, _, q2⟩, _⟩ := P0.inv.list (LstAt.sq (K := X.K) la)
    refine codeAny_builtin F.entry_list_repr_loop ?_
    show wpAny _ _ (Builtin.«list.__repr__.loop» ⟨[.ref a, .int i 0, .ref P, .int ((base + piled (ts.take i) : Nat) : Int) 0], []⟩) _ _ s
    rw [repr_loop_tree]
    refine wpAny_bind (wpAny_listItems q1 q2 ?_)
    have hnone : its.toArray[(i : Int).toNat]? = none := by simp [hin, rv.length]
    simp only [hnone]
    unfold reprEnd
    refine wpAny_bind (wpAny_listItems gP rfl ?_)
    rw [hacc, repr_fold]
    refine wpAny_bind (wpAny_pure ?_)
    have hall : done.map (·.1) = ts := by rw [hdone, hin, ← hlen, List.take_length]
    rw [hall]
    refine wpAny_bind (wpAny_mkStr (wpAny_pure ?_) (by show (listText ts).length ≤ sizeLine; omega))
    exact hR _ _ H (P0.same (P0.inv.tok _)) Le.refl
  | succ n ih =>
    intro i s H acc c done hk hi P0 la rs G fp gP hacc hdone hR
    have hlt : i < xs.length := by omega
    obtain ⟨its, rv, ⟨oa, na, q1, _, _, q2⟩, _⟩ := P0.inv.list (LstAt.sq (K := X.K) la)
    have hx : xs[i]? = some xs[i] := by simp [hlt]
    obtain ⟨dd, hd, rd⟩ := rs.get hx
    obtain ⟨t, ht, hrep, hdp⟩ := hT i xs[i] dd hx hd
    obtain ⟨y, hy, ry⟩ := rv.get hx
    have p1 := piled_take_succ ht
    have p2 := piled_take_le ts (i + 1)
    refine codeAny_builtin F.entry_list_repr_loop ?_
    show wpAny _ _ (Builtin.«list.__repr__.loop» ⟨[.ref a, .int i 0, .ref P, .int ((base + piled (ts.take i) : Nat) : Int) 0], []⟩) _ _ s
    rw [repr_loop_tree]
    refine wpAny_bind (wpAny_listItems q1 q2 ?_)
    have hsome : its.toArray[(i : Int).toNat]? = some y := by simpa using hy
    simp only [hsome]
    rw [Int.toNat_natCast]
    have PP : At X T W (pins ++ [(P, { cls := .type "list", dict := none, data := .seq acc c, slots := #[] })]) σ H s := ⟨P0.inv.pins_of fun p hp => by
      rcases List.mem_append.mp hp with z | z
      · exact P0.inv.pin p (List.mem_append_right _ z)
      · cases List.mem_singleton.mp z
        exact ⟨gP, fp.1, fp.2.1, fp.2.2.1, fun v z => nomatch z⟩, P0.al, P0.tab⟩
    refine wpAny_bind (wpAny_holding (hrep (base + piled (ts.take i) + 1) (by omega) _ _ _ _ s H y _ PP rd ry (by rw [under_frames]; exact hA) (guards_under_guard (isGuard_list_loop _) hg) (G.more (.lst la rs) hsh hdp rfl) ⟨by rw [under_depth]; have := rm.dp; omega, by rw [units_under_list_loop]; have := rm.un; omega⟩ fun s1 H1 P1 l1 => ?_))
    have pin1 := P1.inv.pin (P, { cls := .type "list", dict := none, data := .seq acc c, slots := #[] }) (List.mem_append_right _ (List.mem_append_right _ (List.mem_singleton.mpr rfl)))
    have I1 : Inv X pins σ H1 s1 := P1.inv.pins_of fun p hp => P1.inv.pin p (List.mem_append_right _ (List.mem_append_left _ hp))
    refine wpAny_bind (wpAny_mkStr ?_ (z2 t (List.mem_of_getElem? ht)))
    refine wpAny_bind ?_
    show wpAny _ _ (updateSeq P _) _ _ _
    have hasz : acc.size ≤ sizeLine := by
      have e1 : acc.toList.length = acc.size := by simp
      have e2 : (strValues done).length = done.length := by simp [strValues]
      have e3 : done.length = (ts.take i).length := by rw [← hdone, List.length_map]
      have e4 : (ts.take i).length ≤ i := by rw [List.length_take]; omega
      rw [hacc] at e1; omega
    refine wpAny_updateSeq pin1.1 rfl (wpAny_pure ⟨F.quiet_list_repr_loop _, ?_⟩) hasz
    have e1 : ((i : Int) + 1) = ((i + 1 : Nat) : Int) := by omega
    have e2 : base + piled (ts.take i) + (t.length + 2) = base + piled (ts.take (i + 1)) := by omega
    rw [e1, e2]
    have fp1 : FpOk X pins H1 P := ⟨pin1.2.1, fp.2⟩
    refine ih (i + 1) _ H1 (acc.push (.str t s1.toks)) _ (done ++ [(t, s1.toks)]) (by omega) hlt ⟨(I1.tok (s1.toks + 1)).turnedL (ch := [P]) (fun b o hb e => (Heap.get?_update_other _ _ (fun h : P = b => hb (by simp [h]))).trans e) (fun b hb => by cases List.mem_singleton.mp hb; exact fp1), P1.al, P1.tab⟩
      (Mv.lst (Mv.le' (W := W) l1 fun _ z => z.elim) la) (rs.le0 l1) (G.le l1) fp1 (Heap.get?_update_self _ pin1.1 rfl) (by simp [hacc, strValues]) (by simp [List.take_add_one, ht, hdone]) fun u s2 H2 P2 l2 => hR u s2 H2 P2 (l1.trans l2)
end
end DL

set_option Elab.async false
set_option linter.all false
set_option maxRecDepth 100000
set_option maxHeartbeats 4000000
set_option autoImplicit false
/-! repr: rows, trees, the rule -/
namespace DL
open L2 PyProof.Rows PySem.Spec PySem G58 SlX
variable [TbL]
section
variable {X : Cx} {T : TTb} {W : As} {σ : L2.St} {k : Nat} {pins : List (Addr × Obj)} {A : Around} {g : List Code} {E : Value → Shared → Prop}
theorem rp_fold {n0 : Nat} (hA : A.frames = some X.stack) (hg : A.guards = some g) (rm : Rm k n0 A) : ∀ (us : List Value) (xs : List V) (ds : List D) (ts : List Str) (acc : Array Str) (n : Nat) (s : Shared) (H : Hp) (Q : (Array Str × Nat) → Shared → Prop), Vals xs us → Reps (gg X T) H W xs ds → RpA X T W σ k (n0 + 1) xs ds ts → n + piled ts ≤ sizeLine →
    At X T W pins σ H s → (∀ d ∈ ds, GOk (gg X T) H W g (dep d)) → (∀ s' H', At X T W pins σ H' s' → LE0 H H' → Q ⟨acc ++ ts.toArray, n + piled ts⟩ s') → wpAny (model X.prog X.w) A (forIn us (⟨acc, n⟩ : (Array Str × Nat)) tupBody) Q E s := by
  intro us
  induction us with
  | nil =>
    intro xs ds ts acc n s H Q rv rs hT _ P _ h
    cases rv
    obtain ⟨hl, _⟩ := hT
    cases List.length_eq_zero_iff.mp hl
    simp only [List.forIn_nil]
    exact wpAny_pure (by simpa [piled] using h s H P Le.refl)
  | cons u us ih =>
    intro xs ds ts acc n s H Q rv rs hT hn P G h
    cases rv with
    | cons ru rv =>
      rename_i x xs
      cases rs with
      | cons rd rs =>
        rename_i d ds
        obtain ⟨hl, hT⟩ := hT
        obtain ⟨t, ht, hrep, hdp⟩ := hT 0 x d rfl rfl
        cases ts with
        | nil => simp at ht
        | cons t' ts =>
          simp at ht
          subst ht
          rw [piled_cons] at hn
          rw [List.forIn_cons]
          refine wpAny_bind (wpAny_bind (hrep (n + 1) (by omega) pins A g _ s H u _ P rd ru hA hg (G d List.mem_cons_self) ⟨by have := rm.dp; omega, by have := rm.un; omega⟩ fun s1 H1 P1 l1 => wpAny_pure ?_))
          refine ih xs ds ts (acc.push t') (n + (t'.length + 2)) s1 H1 Q rv (rs.le0 l1) ⟨by simpa using hl, fun i x d h1 h2 => by simpa using hT (i + 1) x d (by simpa using h1) (by simpa using h2)⟩ (by omega) P1 (fun d hd => (G d (List.mem_cons_of_mem _ hd)).le l1) fun s2 H2 P2 l2 => ?_
          have q := h s2 H2 P2 (l1.trans l2)
          have e : n + piled (t' :: ts) = n + (t'.length + 2) + piled ts := by rw [piled_cons]; omega
          rw [e] at q
          simpa using q
theorem dep_mem {ds : List D} {d : D} (h : d ∈ ds) : dep d ≤ dep.deps ds := by
  induction ds with
  | nil => cases h
  | cons x xs ih =>
    unfold dep.deps
    rcases List.mem_cons.mp h with z | z
    · rw [z]; exact Nat.le_max_left _ _
    · exact Nat.le_trans (ih z) (Nat.le_max_right _ _)
/-- list.__repr__, entered at any count of signs -/
theorem rp_listAt {a : Addr} {xs : List V} {ds : List D} {ts : List Str} {base : Nat} {s : Shared} {H : Hp} {R : Result → Shared → Prop} (hT : RpA X T W σ k (dep (.lst ds)) xs ds ts) (hsh : shT (.lst ds) = true) (hA : A.frames = some X.stack) (hg : A.guards = some g) (rm : Rm k (dep (.lst ds)) A)
    (hsz : base + (listText ts).length ≤ sizeLine) (P : At X T W pins σ H s) (la : LstAt H W a xs) (rs : Reps (gg X T) H W xs ds) (G : GOk (gg X T) H W g (dep (.lst ds)))
    (hR : ∀ u s' H', At X T W pins σ H' s' → LE0 H H' → R (.ok (.ret (.str (listText ts) u))) s') :
    wpAny (model X.prog X.w) A.in1 (Builtin.listReprAt base ⟨[.ref a], []⟩) (fun fin s' => match fin with | .done f => R (.ok f) s' | .again c' => c'.quiet = true ∧ codeAny (model X.prog X.w) A c' R s') (fun e s' => R (.error e) s') s := by
  obtain ⟨its, rv, ⟨oa, na, q1, _, _, q2⟩, _⟩ := P.inv.list (LstAt.sq (K := X.K) la)
  cases its with
  | nil =>
    cases rv
    obtain ⟨hl, _⟩ := hT
    cases List.length_eq_zero_iff.mp hl
    exact wpAny_list_repr_empty q1 q2 (hR _ _ H (P.same (P.inv.tok _)) Le.refl)
  | cons y ys =>
    have ca := clear_of P.inv (.lst la rs) hsh G
    refine wpAny_list_repr_head (A := A.in1) hg (fun v rest kw hm => listSameRef_of_ne (ca _ _ _ _ hm)) q1 q2 ?_
    refine wpAny_bind (m := newList []) (wpAny_newObj_type ?_)
    refine wpAny_pure ⟨F.quiet_list_repr_loop _, ?_⟩
    have I1 : Inv X pins σ H { s with heap := s.heap.push { cls := .type "list", data := .seq #[] } } := P.inv.kept (t' := s.toks) fun b o e => Heap.get?_push_of_some _ e
    exact rp_loop (P := s.heap.objs.size) hT hsh hA hg rm hsz _ 0 _ H #[] _ [] rfl (Nat.zero_le _) (P.same I1) la rs G (P.inv.fpOk (Nat.le_refl _) (P.inv.hok.fresh (Nat.le_refl _))) (Heap.get?_push_size _ rfl) rfl (by simp) hR
/-- tuple.__repr__ -/
theorem rp_tupAt {a : Addr} {xs : List V} {ds : List D} {ts : List Str} {base : Nat} {s : Shared} {H : Hp} {R : Result → Shared → Prop} {id : String} {rest : List Value} (hid : id = "list.__repr__.loop" ∨ id = "tuple.__repr__" ∨ id = "tuple.__repr__.under") (hcg : (Code.builtin id ⟨.ref a :: rest, []⟩).isGuard = true) (hcu : (A.under (.builtin id ⟨.ref a :: rest, []⟩)).units = A.units + 1)
    (hT : RpA X T W σ k (dep (.tup ds)) xs ds ts) (hsh : shT (.tup ds) = true) (hA : A.frames = some X.stack) (hg : A.guards = some g) (rm : Rm k (dep (.tup ds)) A)
    (hsz : base + (tupleText ts).length ≤ sizeLine) (P : At X T W pins σ H s) (la : TupAt X.K H W a xs) (rs : Reps (gg X T) H W xs ds) (G : GOk (gg X T) H W g (dep (.tup ds)))
    (hR : ∀ u s' H', At X T W pins σ H' s' → LE0 H H' → R (.ok (.ret (.str (tupleText ts) u))) s') :
    wpOwn (model X.prog X.w) A (.builtin id ⟨.ref a :: rest, []⟩) (Builtin.tupleReprAt base ⟨[.ref a], []⟩) (fun fin s' => match fin with | .done f => R (.ok f) s' | .again c' => c'.quiet = true ∧ codeAny (model X.prog X.w) A c' R s') (fun e s' => R (.error e) s') s := by
  obtain ⟨its, rv, ⟨oa, q1, q2, na, q3⟩, _⟩ := P.inv.tuple la.sq
  have ca := clear_of P.inv (.tup la rs) hsh G
  have hp := piled_le_tupleText ts
  have hz : (tupleText ts).length ≤ sizeLine := by omega
  have hlen : ts.length = its.length := by rw [hT.1, rv.length]
  rw [tuple_repr_tree, tupleReprUnderWay_eq]
  refine wpOwn_bind (wpOwn_stackTailAny hg (tupGuardF_off _) (tupGuardF_pos _) ?_)
  have hn : (g.any fun c => tupGuardF (.ref a) (c, default)) = false := by
    rw [List.any_eq_false]
    intro c hm
    rw [tupGuardF_of_clear ca c hm]
    exact Bool.false_ne_true
  rw [hn]
  refine wpOwn_of_wpAny ?_
  show wpAny _ _ (tupleReprRest base (.ref a)) _ _ s
  unfold tupleReprRest Builtin.Tuple.tupleItemsOf
  refine wpAny_bind (wpAny_bind (wpAny_seqItems q1 q3 (wpAny_pure ?_)))
  rw [← Array.forIn_toList]
  refine wpAny_bind (rp_fold (n0 := dep.deps ds) (by rw [under_frames]; exact hA) (guards_under_guard hcg hg) ⟨by rw [under_depth hid]; have := rm.dp; unfold dep at this; omega, by rw [hcu]; have := rm.un; unfold dep at this; omega⟩ _ xs ds ts _ _ s H _ (by simpa using rv) rs ⟨hT.1, hT.2⟩ (by omega) P
    (fun d hd => G.more (.tup la rs) hsh (by have := dep_mem hd; show dep d < dep.deps ds + 1; omega) rfl) fun s1 H1 P1 l1 => ?_)
  refine wpAny_bind (wpAny_mkStr (wpAny_pure ?_) (by simpa [tupleText, hlen] using hz))
  have q := hR s1.toks _ H1 (P1.same (P1.inv.tok (s1.toks + 1))) l1
  simpa [tupleText, hlen] using q
end
/-! trees -/
theorem shT_of {ow : OwT} : ∀ (d : D) (t : Str), reprT ow d = some t → shT d = true
  | .non, _, _ => rfl
  | .bl _, _, _ => rfl
  | .int _, _, _ => rfl
  | .str _, _, _ => rfl
  | .slt _ _, _, _ => rfl
  | .ins _ _, _, _ => rfl
  | .dct [], _, _ => rfl
  | .dct (_ :: _), _, h => by cases h
  | .ty _, _, h => by cases h
  | .gl _, _, h => by cases h
  | .fl _, _, h => by cases h
  | .exc _ _, _, h => by cases h
  | .opq, _, h => by cases h
  | .lst xs, _, h => by
    unfold reprT at h
    cases e : reprT.reprTs ow xs with
    | none => rw [e] at h; cases h
    | some ts => exact shTs_of xs ts e
  | .tup xs, _, h => by
    unfold reprT at h
    cases e : reprT.reprTs ow xs with
    | none => rw [e] at h; cases h
    | some ts => exact shTs_of xs ts e
where shTs_of {ow : OwT} : ∀ (ds : List D) (ts : List Str), reprT.reprTs ow ds = some ts → shT.shTs ds = true
  | [], _, _ => rfl
  | d :: ds, _, h => by
    unfold reprT.reprTs at h
    split at h
    · rename_i t ts e1 e2
      unfold shT.shTs
      rw [shT_of d t e1, shTs_of ds ts e2]
      rfl
    · cases h
theorem reprTs_len {ow : OwT} : ∀ (ds : List D) (ts : List Str), reprT.reprTs ow ds = some ts → ts.length = ds.length
  | [], _, h => by cases h; rfl
  | d :: ds, _, h => by
    unfold reprT.reprTs at h
    split at h
    · rename_i t ts e1 e2
      cases h
      simp [reprTs_len ds ts e2]
    · cases h
theorem szOk_le {n : Nat} (h : szOk n = true) : n ≤ sizeLine := by
  have := of_decide_eq_true h
  have e : (16000000 : Nat) ≤ sizeLine := by decide
  omega
section
variable {X : Cx} {T : TTb} {W : As} {σ : L2.St} {k : Nat} {ow : OwT}
theorem rp_row {xs : List V} {ds : List D} {ts : List Str} {Γ : GG} {H : Hp} (h : ∀ (i : Nat) (d : D), ds[i]? = some d → ∃ t, ts[i]? = some t ∧ ∀ v, RpI X T W σ k v d t) (hl : ts.length = ds.length) (rs : Reps Γ H W xs ds) : RpA X T W σ k (dep.deps ds + 1) xs ds ts :=
  ⟨by rw [hl, rs.len], fun i x d _ hd => by
    obtain ⟨t, e, q⟩ := h i d hd
    exact ⟨t, e, q x, by have := dep_mem (List.mem_of_getElem? hd); omega⟩⟩
theorem rp_tree (OK : OwOk (gg X T) k ow) : ∀ (d : D) (t : Str), reprT ow d = some t → ∀ v : V, RpI X T W σ k v d t
  | .non, t, h, v => by
    cases h
    intro base hb pins A g E s H u Q P r ru hA hg G rm q
    cases r
    cases (show u = Value.none from ru)
    exact ReprIs.none base hb A E s Q fun tk => q _ H (P.same (P.inv.tok tk)) Le.refl
  | .bl b, t, h, v => by
    cases h
    intro base hb pins A g E s H u Q P r ru hA hg G rm q
    cases r
    cases (show u = Value.bool b from ru)
    exact ReprIs.bool b base hb A E s Q fun tk => q _ H (P.same (P.inv.tok tk)) Le.refl
  | .int i, t, h, v => by
    unfold reprT at h
    split at h
    · rename_i hz
      cases h
      intro base hb pins A g E s H u Q P r ru hA hg G rm q
      cases r
      obtain ⟨t', rfl⟩ := (show ∃ t, u = Value.int i t from ru)
      exact ReprIs.int t' (of_decide_eq_true hz) base hb A E s Q fun tk => q _ H (P.same (P.inv.tok tk)) Le.refl
    · cases h
  | .str x, t, h, v => by
    unfold reprT at h
    split at h
    · rename_i hz
      cases h
      intro base hb pins A g E s H u Q P r ru hA hg G rm q
      cases r
      obtain ⟨t', rfl⟩ := (show ∃ t, u = Value.str x t from ru)
      exact ReprIs.str x t' (szOk_le hz) base hb A E s Q fun tk => q _ H (P.same (P.inv.tok tk)) Le.refl
    · cases h
  | .slt c fs, t, h, v => rp_own OK rfl h
  | .ins c fs, t, h, v => rp_own OK rfl h
  | .dct (_ :: _), _, h, _ => by cases h
  | .ty _, _, h, _ => by cases h
  | .gl _, _, h, _ => by cases h
  | .fl _, _, h, _ => by cases h
  | .exc _ _, _, h, _ => by cases h
  | .opq, _, h, _ => by cases h
  | .dct [], t, h, v => by
    cases h
    intro base hb pins A g E s H u Q P r ru hA hg G rm q
    have r0 := r
    cases r with
    | dct h1 h2 h3 =>
      cases h3
      cases (show u = Value.ref _ from ru)
      have ca := clear_of P.inv r0 rfl G
      obtain ⟨_, hs, vs, kv, o, es, ep, q1, q2, q3, _, pr, _⟩ := P.inv.hok _ _ h1
      cases kv
      have e0 : es.toList = [] := by
        generalize es.toList = l at pr
        cases pr
        rfl
      exact ReprK.dict (as := []) (d := 0) (ps := []) q1 q2.1 q3 hs (by simp) (by rw [e0]; exact .nil) base hb A g E s Q hg (fun b hb => by cases List.mem_singleton.mp hb; exact ca) (by have := rm.un; omega) (fun _ _ e => e) fun h' tk hk => q _ H (P.same (P.inv.kept hk)) Le.refl
  | .lst ds, t, h, v => by
    have hsh := shT_of (.lst ds) t h
    unfold reprT at h
    cases e : reprT.reprTs ow ds with
    | none => rw [e] at h; cases h
    | some ts =>
      rw [e] at h
      simp only [Option.bind_some] at h
      split at h
      · cases h
        intro base hb pins A g E s H u Q P r ru hA hg G rm q
        cases r with
        | lst la rs =>
          rename_i a xs
          cases (show u = Value.ref a from ru)
          have hT := rp_row (X := X) (T := T) (σ := σ) (k := k) (rp_trees OK ds ts e) (reprTs_len ds ts e) rs
          obtain ⟨its, _, ⟨oa, na, q1, q2, _⟩, _⟩ := P.inv.list (LstAt.sq (K := X.K) la)
          refine wpAny_pyReprUnder_ref (by omega) (wpAny_pyReprObjUnder_twin (twin := "list.__repr__.under") ⟨oa, q1, q2⟩ F.slot_list_repr.toG rfl (by have := rm.un; omega) ?_)
          exact call_twin_plain F.plain_list_repr_under F.entry_list_repr_under F.check_list_repr_under ⟨oa, q1, q2⟩ F.slot_list_repr.toG (F.args_list_repr_1 _)
            (rp_listAt (R := callEnd _ E) hT hsh hA hg rm hb P la rs G fun u' s' H' P' l => ⟨⟨_, _, rfl⟩, _, _, rfl, q s' H' P' l⟩)
      · cases h
  | .tup ds, t, h, v => by
    have hsh := shT_of (.tup ds) t h
    unfold reprT at h
    cases e : reprT.reprTs ow ds with
    | none => rw [e] at h; cases h
    | some ts =>
      rw [e] at h
      simp only [Option.bind_some] at h
      split at h
      · cases h
        intro base hb pins A g E s H u Q P r ru hA hg G rm q
        cases r with
        | tup la rs =>
          rename_i a xs
          cases (show u = Value.ref a from ru)
          have hT := rp_row (X := X) (T := T) (σ := σ) (k := k) (rp_trees OK ds ts e) (reprTs_len ds ts e) rs
          obtain ⟨its, _, ⟨oa, q1, q2, _⟩, _⟩ := P.inv.tuple la.sq
          refine wpAny_pyReprUnder_ref (by omega) (wpAny_pyReprObjUnder_twin (twin := "tuple.__repr__.under") ⟨oa, q1, q2⟩ F.slot_tuple_repr rfl (by have := rm.un; omega) ?_)
          exact call_twin_own (F.quiet_tuple_repr_under _) F.entry_tuple_repr_under F.check_tuple_repr_under ⟨oa, q1, q2⟩ F.slot_tuple_repr (F.args_tuple_repr_1 _)
            (rp_tupAt (R := callEnd _ E) (.inr (.inr rfl)) (isGuard_tuple_repr_under _) (units_under_tuple_repr_under _ _) hT hsh hA hg rm hb P la rs G fun u' s' H' P' l => ⟨⟨_, _, rfl⟩, _, _, rfl, q s' H' P' l⟩)
      · cases h
where rp_trees (OK : OwOk (gg X T) k ow) : ∀ (ds : List D) (ts : List Str), reprT.reprTs ow ds = some ts → ∀ (i : Nat) (d : D), ds[i]? = some d → ∃ t, ts[i]? = some t ∧ ∀ v : V, RpI X T W σ k v d t
  | [], _, _, _, _, h => by simp at h
  | d :: ds, _, h, i, d', hd => by
    unfold reprT.reprTs at h
    split at h
    · rename_i t ts e1 e2
      cases h
      cases i with
      | zero =>
        simp at hd
        subst hd
        exact ⟨t, rfl, rp_tree OK d t e1⟩
      | succ i =>
        obtain ⟨t', q1, q2⟩ := rp_trees OK ds ts e2 i d' (by simpa using hd)
        exact ⟨t', by simpa using q1, q2⟩
    · cases h
end
end DL

set_option Elab.async false
set_option linter.all false
set_option maxRecDepth 100000
set_option maxHeartbeats 4000000
set_option autoImplicit false
/-! operators and calls whose answers may be errors, or take own methods -/
namespace DL
open L2 PyProof.Rows PySem.Spec PySem G58 SlX
variable [TbL]
def loD : Option D → LO
  | some d => .ok d
  | none => .bad
/-- an operator on trees -/
def Op2D (X : Cx) (T : TTb) (wx : WX) (f : Value → Value → Sem Value) (F : D → D → LO) : Prop := ∀ (W : As) (pins : List (Addr × Obj)) (s : Shared) (σ : L2.St) (H : Hp) (x y : V) (u v : Value) (d e : D) (Q : VK), At X T W pins σ H s → Rep (gg X T) H W x d → Rep (gg X T) H W y e → RelV x u → RelV y v →
  LPost (gg X T) W H Q (fun c d H' => wx c d σ H') (F d e) → wpAny (model X.prog X.w) X.A (f u v) (EP X pins σ Q) X.xe s
/-- a call of a value that is known -/
def CallD (X : Cx) (T : TTb) (wx : WX) (f : Value) (F : List D → LO) : Prop := ∀ (W : As) (pins : List (Addr × Obj)) (s : Shared) (σ : L2.St) (H : Hp) (xs : List V) (us : List Value) (ds : List D) (Q : VK), At X T W pins σ H s → Reps (gg X T) H W xs ds → Vals xs us →
  LPost (gg X T) W H Q (fun c d H' => wx c d σ H') (F ds) → wpAny (model X.prog X.w) X.A (call f us) (EP X pins σ Q) X.xe s
def eBinL (F : D → D → LO) (a b : ME D) : ME D := bnd a fun x => bnd b fun y => actD (F x y)
def eCL (F : List D → LO) (a : ME (List D)) : ME D := bnd a fun ds => actD (F ds)
section
variable {X : Cx} {T : TTb} {W : As} {pins : List (Addr × Obj)} {σ : L2.St} {H : Hp} {s : Shared} {wx : WX}
theorem At.sim (P : At X T W pins σ H s) : Sim (gg X T) (fx := none) ⟨W, fun _ => False, H, []⟩ (List.replicate σ.length none) (List.replicate σ.length none) σ H := by
  have noM : ∀ (j : Nat) (q : Addr × Addr), (List.replicate σ.length none : List Rg)[j]? = some (some q) → False := fun j q e => regs_rep (k := σ.length) (b := q.1) ⟨q.1, q.2, List.mem_of_getElem? e, .inl rfl⟩
  have sl : ∀ {W' : As} (σ : L2.St), SlotsR (gg X T) H W' (List.replicate σ.length none) (List.replicate σ.length none) σ := by
    intro W' σ
    induction σ with
    | nil => exact .nil
    | cons x σ ih => exact .cons .no ih
  exact ⟨sl σ, fun i j a dx b dy h1 => (noM _ _ h1).elim, fun i r e => by simp at e, fun i a dx h1 h2 => (noM _ _ h2).elim, fun i a dx h1 h2 => (noM _ _ h2).elim, by simp, fun _ z => z.elim, P.al, Le.refl, P.tab, fun _ z => nomatch z⟩
theorem wt_wk {n : Nat} {H2 : Hp} : Mv (fun _ => False) W (Wt (fx := none) ⟨W, fun _ => False, H, []⟩ (List.replicate n none)) H2 H2 := Mv.wk fun b z => by
  rcases z with z | z
  · exact z
  · exact (regs_rep z).elim
theorem wt_kw {n : Nat} {H2 : Hp} : Mv (fun _ => False) (Wt (fx := none) ⟨W, fun _ => False, H, []⟩ (List.replicate n none)) W H2 H2 := Mv.wk fun b z => .inl z
theorem op2D_of {op : Value → Value → Sem Value} {r : R2} {f : D → D → Option D} (ho : OpR X op r) (F : Op2 X r f) : Op2D X T wx op (fun d e => loD (f d e)) := by
  intro W pins s σ H x y u v d e Q P rx ry ru rv p
  cases h : f d e with
  | none => simp only [h] at p; exact p.elim
  | some z =>
    simp only [h] at p
    exact ho pins s σ H x y u v Q P.inv ru rv (F.go _ _ _ _ _ σ H x y d e z Q P.sim (rx.mv wt_wk) (ry.mv wt_wk) h fun H' sm w rw => p w H' (rw.mv wt_kw) (Le.same sm))
theorem callD_of {c : Value} {r : List V → Hp → VK → Prop} {f : List D → Option D} (hc : CallR X c r) (F : OpL X r f) : CallD X T wx c (fun ds => loD (f ds)) := by
  intro W pins s σ H xs us ds Q P rx ru p
  cases h : f ds with
  | none => simp only [h] at p; exact p.elim
  | some z =>
    simp only [h] at p
    exact hc pins s σ H xs us Q P.inv ru (F.go _ _ _ _ _ σ H xs ds z Q P.sim (rx.mv wt_wk) h fun H' sm w rw => p w H' (rw.mv wt_kw) (Le.same sm))
end
section
variable {X : Cx} {Wx : WT} {a b e : Expr} {es : List Expr} {Fa Fb : ME D} {As' : ME (List D)} {pos p : Pos} {x : Str} {id Ty : String}
/-- for the library's rules: what such an operator asks of values -/
def rOp (X : Cx) (T : TTb) (wx : WX) (F : D → D → LO) (σ : L2.St) : R2 := fun x y H Q => ∃ W d e, (∀ b, W b → H b ≠ none) ∧ TabC T H ∧ Rep (gg X T) H W x d ∧ Rep (gg X T) H W y e ∧ LPost (gg X T) W H Q (fun c d H' => wx c d σ H') (F d e)
theorem two_lift {F : D → D → LO} {g : Gh Wx.fx} {ms : List Rg} {δ : Ds} {σ : L2.St} {H : Hp} {Q : VK} (sim : Sim (gg X Wx.T) g ms δ σ H) (p : Post (gg X Wx.T) Wx g ms σ H (fun d _ H' => ∀ v, Rep (gg X Wx.T) H' (Wt g ms) v d → Q v H') (eBinL F Fa Fb δ)) :
    liftE (gg X Wx.T) Wx Fa σ H fun x H1 => liftE (gg X Wx.T) Wx Fb σ H1 fun y H2 => rOp X Wx.T Wx.wx F σ x y H2 Q := by
  refine lift_bnd sim p fun d1 δ1 H1 x s1 l1 r1 p1 => lift_bnd s1 p1 fun d2 δ2 H2 y s2 l2 r2 p2 => ?_
  exact ⟨Wt g ms, d1, d2, fun b z => s2.alW z, s2.tab, r1.up l2, r2, act_lift rfl s2 p2⟩
theorem de_binL {op : Operator} {F : D → D → LO} (O : Op2D X Wx.T Wx.wx (binaryOp op) F) (ha : DE X Wx a Fa) (hb : DE X Wx b Fb) : DE X Wx (.BinOp a op b pos) (eBinL F Fa Fb) :=
  ⟨fun pins s σ H Q I ⟨g, ms, δ, sim, p⟩ => wpAny_BinOp (binT ha hb I (two_lift sim p) fun v u s2 x y H2 I2 rx ry ⟨W, d, e, al, tb, r1, r2, q⟩ => O W pins s2 σ H2 x y v u d e Q ⟨I2, al, tb⟩ r1 r2 rx ry q)⟩
theorem de_cmpL {op : CmpOp} {F : D → D → LO} (O : Op2D X Wx.T Wx.wx (compareOp op) F) (ha : DE X Wx a Fa) (hb : DE X Wx b Fb) (hm : behindInMarks op b = false) : DE X Wx (.Compare a [op] [b] pos) (eBinL F Fa Fb) :=
  ⟨fun pins s σ H Q I ⟨g, ms, δ, sim, p⟩ => wpAny_Compare1 (binT ha hb I (two_lift sim p) fun v u s2 x y H2 I2 rx ry ⟨W, d, e, al, tb, r1, r2, q⟩ => O W pins s2 σ H2 x y v u d e Q ⟨I2, al, tb⟩ r1 r2 rx ry q) hm⟩
theorem dt_cmpL {op : CmpOp} {F : D → D → LO} (O : Op2D X Wx.T Wx.wx (compareOp op) F) (ha : DE X Wx a Fa) (hb : DE X Wx b Fb) (hm : behindInMarks op b = false) : DT X Wx (.Compare a [op] [b] pos) (tVal (eBinL F Fa Fb)) := by
  refine ⟨fun pins s σ H Q I ⟨g, ms, δ, sim, p⟩ => ?_⟩
  have p1 : Post (gg X Wx.T) Wx g ms σ H (fun d _ H' => ∀ v, Rep (gg X Wx.T) H' (Wt g ms) v d → (fun (v : V) H' => ∃ k, v = .bl k ∧ Q k H') v H') (eBinL F Fa Fb δ) := post_bnd p fun d δ1 H1 s1 l1 q v rv => by
    obtain ⟨c, e, k⟩ := post_opt s1 q
    cases asB_some e
    exact ⟨c, rep_bl rv, k⟩
  refine wpAny_isTrue_Compare1 (thn (ha.run pins s σ H _ I (two_lift sim p1)) fun v s1 ⟨x, H1, I1, r1, q1⟩ => thn (hb.run pins s1 σ H1 _ I1 q1) fun u s2 ⟨y, H2, I2, r2, W, d, e, al, tb, z1, z2, q⟩ =>
    thn (O W pins s2 σ H2 x y v u d e _ ⟨I2, al, tb⟩ z1 z2 r1 r2 q) fun c s3 ⟨z, H3, I3, r3, k, e, q3⟩ => ?_) hm
  subst e
  cases r3
  exact wpAny_truthy_bool ⟨H3, I3, q3⟩
/-- a call by name -/
theorem callL_lift {F : List D → LO} {g : Gh Wx.fx} {ms : List Rg} {δ : Ds} {σ : L2.St} {H : Hp} {Q : VK} (sim : Sim (gg X Wx.T) g ms δ σ H) (p : Post (gg X Wx.T) Wx g ms σ H (fun d _ H' => ∀ v, Rep (gg X Wx.T) H' (Wt g ms) v d → Q v H') (eCL F As' δ)) :
    liftA (gg X Wx.T) Wx As' σ H fun xs H1 => ∃ W ds, (∀ b, W b → H1 b ≠ none) ∧ TabC Wx.T H1 ∧ Reps (gg X Wx.T) H1 W xs ds ∧ LPost (gg X Wx.T) W H1 Q (fun c d H' => Wx.wx c d σ H') (F ds) := by
  refine liftA_bnd sim p fun d1 δ1 H1 x s1 l1 r1 p1 => ?_
  exact ⟨Wt g ms, d1, fun b z => s1.alW z, s1.tab, r1, act_lift rfl s1 p1⟩
theorem de_BL {F : List D → LO} (C : CallD X Wx.T Wx.wx (.builtin id) F) (hg : Gl X x) (hm : X.mg x = none) (hv : bootBuiltins x = some (.builtin id)) (ha : DA X Wx (e :: es) As') (hn : x ≠ "__name__" := by decide) (hdb : (x == ("__debug__" : Str)) = false := by decide)
    (he : starEach (e :: es) X.env = (false, eval e X.env) :: starEach es X.env := by rfl) (hpl : (backTo pos (starEach es X.env)).any (·.1) = false := by rfl) : DE X Wx (.Call (.Name x p) (e :: es) [] pos) (eCL F As') :=
  ⟨fun pins s σ H Q I ⟨g, ms, δ, sim, p⟩ => wpAny_Call_Name_kw (ld_blt I hg hm hv (PyProof.Rows.callWith_builtin1 (thn (ha.run pos pins s σ H _ I (callL_lift sim p)) fun us s1 ⟨vs, H1, I1, r1, W, ds, al, tb, rr, q⟩ => C W pins s1 σ H1 vs us ds Q ⟨I1, al, tb⟩ rr r1 q) he hpl) hn hdb)⟩
theorem de_TyL {F : List D → LO} (C : CallD X Wx.T Wx.wx (.type Ty) F) (hg : Gl X x) (hm : X.mg x = none) (hv : bootBuiltins x = some (.type Ty)) (ha : DA X Wx (e :: es) As') (hn : x ≠ "__name__" := by decide) (hdb : (x == ("__debug__" : Str)) = false := by decide)
    (he : starEach (e :: es) X.env = (false, eval e X.env) :: starEach es X.env := by rfl) (hpl : (backTo pos (starEach es X.env)).any (·.1) = false := by rfl) : DE X Wx (.Call (.Name x p) (e :: es) [] pos) (eCL F As') :=
  ⟨fun pins s σ H Q I ⟨g, ms, δ, sim, p⟩ => wpAny_Call_Name_kw (ld_blt I hg hm hv (PyProof.Rows.callWith_type1 (thn (ha.run pos pins s σ H _ I (callL_lift sim p)) fun us s1 ⟨vs, H1, I1, r1, W, ds, al, tb, rr, q⟩ => C W pins s1 σ H1 vs us ds Q ⟨I1, al, tb⟩ rr r1 q) he hpl) hn hdb)⟩
end
/-! repr, str, bool -/
def fReprX (ow : OwT) : List D → LO
  | [d] => if dep d ≤ 8 then loD ((reprT ow d).map .str) else .bad
  | _ => .bad
section
variable {X : Cx} {T : TTb} {wx : WX} {k : Nat} {ow : OwT} {ht : Bool}
/-- repr of an own thing -/
theorem own_repr {W : As} {pins : List (Addr × Obj)} {s : Shared} {σ : L2.St} {H : Hp} {v : V} {u : Value} {d : D} {c t : Str} {R : Value → Shared → Prop} {E : Value → Shared → Prop} (OK : OwOk (gg X T) k ow) (hc : clsD d = some c) (h : (ownV ow "__repr__" d).bind asStr = some t) (P : At X T W pins σ H s) (r : Rep (gg X T) H W v d) (ru : RelV v u) (hr : RoomQ true (k + 1) X.A)
    (fin : ∀ tk s' H', At X T W pins σ H' s' → LE0 H H' → R (.str t tk) s') : wpAny (model X.prog X.w) X.A (call (.builtin "repr") [u]) R E s := by
  obtain ⟨a, rfl⟩ : ∃ a, v = .ref a := by cases r <;> first | exact ⟨_, rfl⟩ | cases hc
  cases (show u = Value.ref a from ru)
  obtain ⟨C, ox, od, hm, J⟩ := rep_inst P.inv r hc
  obtain ⟨m, hF0⟩ := P.inv.fr
  unfold ownV at h
  rw [hc] at h
  simp only at h
  split at h
  · rename_i F hF
    split at h
    · rename_i r' ss hr'
      have h : asStr r' = some t := h
      cases asStr_some h
      obtain ⟨g0, h1, h2, FO⟩ := OK _ _ _ _ (owAt_mem hF) C hm
      refine PySem.W.repr_K (by have := hr.un; show X.A.units + 1 < _; omega) hF0 P.inv.ok.mod.kin J h1 h2 ?_
      refine own_run (A := X.A.in1) (ds := [d]) FO P.inv.ok.frames hr.in1 P (.one r) (.cons rfl .nil) hr' fun v' u' s' H' P' l rr ru' => ?_
      cases rep_str rr
      obtain ⟨tk, rfl⟩ := (show ∃ tk, u' = Value.str t tk from ru')
      exact fin tk s' H' P' l
    · cases h
  · cases h
theorem call_reprX (OK : OwOk (gg X T) k ow) (hg : X.A.guards = some []) (hr : RoomQ ht (k + 4) X.A) : CallD X T wx (.builtin "repr") (fReprX ow) := by
  intro W pins s σ H xs us ds Q P rx ru p
  cases rx with
  | nil => exact p.elim
  | @cons v d vs ds r rr =>
    cases rr with
    | cons _ _ => exact p.elim
    | nil =>
      replace p : LPost (gg X T) W H Q (fun c d H' => wx c d σ H') (if dep d ≤ 8 then loD ((reprT ow d).map .str) else .bad) := p
      by_cases h8 : dep d ≤ 8
      rotate_left
      · rw [if_neg h8] at p; exact p.elim
      rw [if_pos h8] at p
      cases h : reprT ow d with
      | none => rw [h] at p; exact p.elim
      | some t =>
        rw [h] at p
        replace p : ∀ v H', Rep (gg X T) H' W v (.str t) → LE0 H H' → Q v H' := p
        obtain ⟨u, rfl, ru1⟩ := ru.one
        have fr : X.A.in1.frames = some X.stack := P.inv.ok.frames
        have rm : Rm k (dep d) X.A.in1 := ⟨by have := hr.dp; show X.A.depth + (3 * k + 5 + dep d) < _; omega, by have := hr.un; show X.A.units + 1 + (16 * k + 200 + dep d) < _; omega⟩
        have G0 : GOk (gg X T) H W [] (dep d) := fun _ _ _ _ z => nomatch z
        have fin : ∀ {s' : Shared} {H' : Hp} (tk : Tok), At X T W pins σ H' s' → LE0 H H' → EP X pins σ Q (.str t tk) s' := fun {s' H'} tk P' l => ⟨.str t, H', P'.inv, ⟨tk, rfl⟩, p _ H' (.str t) l⟩
        have hsh := shT_of d t h
        cases d with
        | non =>
          cases h
          cases r
          cases (show u = Value.none from ru1)
          exact PySem.P.repr_of_none (fin _ (P.same (P.inv.tok _)) Le.refl)
        | bl b =>
          cases h
          cases r
          cases (show u = Value.bool b from ru1)
          exact PySem.P.repr_of_bool (fin _ (P.same (P.inv.tok _)) Le.refl)
        | int i =>
          unfold reprT at h
          split at h
          · rename_i hz
            cases h
            cases r
            obtain ⟨t', rfl⟩ := (show ∃ t, u = Value.int i t from ru1)
            exact PySem.P.repr_of_int (of_decide_eq_true hz) (fin _ (P.same (P.inv.tok _)) Le.refl)
          · cases h
        | str x =>
          unfold reprT at h
          split at h
          · rename_i hz
            cases h
            cases r
            obtain ⟨t', rfl⟩ := (show ∃ t, u = Value.str x t from ru1)
            exact PySem.P.repr_of_str (fin _ (P.same (P.inv.tok _)) Le.refl) (szOk_le hz)
          · cases h
        | lst dl =>
          have h0 := h
          unfold reprT at h
          cases e : reprT.reprTs ow dl with
          | none => rw [e] at h; cases h
          | some ts =>
            rw [e] at h
            simp only [Option.bind_some] at h
            split at h
            · rename_i hz
              cases h
              cases r with
              | @lst a xl _ la rs =>
                cases (show u = Value.ref a from ru1)
                obtain ⟨its, _, ⟨oa, na, q1, q2, _⟩, _⟩ := P.inv.list (LstAt.sq (K := X.K) la)
                have hT := rp_row (X := X) (T := T) (σ := σ) (k := k) (rp_tree.rp_trees OK dl ts e) (reprTs_len dl ts e) rs
                refine call_repr_slot (T := "list") (idr := "list.__repr__") (by have := hr.un; omega) ⟨oa, q1, q2⟩ F.slot_list_repr.toG ?_
                exact wpAny_call (codeAny_call_builtin F.slot_list_repr.plain F.entry_list_repr (F.slot_list_repr.check _ _ _ _ _ _ _ _ ⟨oa, q1, q2⟩ (F.args_list_repr_1 _)
                  (rp_listAt (base := 0) (A := X.A.in1) (R := callEnd _ X.xe) hT hsh fr hg rm (by have := szOk_le hz; omega) P la rs G0 fun u' s' H' P' l => ⟨_, _, rfl, fin _ P' l⟩)))
            · cases h
        | tup dl =>
          have h0 := h
          unfold reprT at h
          cases e : reprT.reprTs ow dl with
          | none => rw [e] at h; cases h
          | some ts =>
            rw [e] at h
            simp only [Option.bind_some] at h
            split at h
            · rename_i hz
              cases h
              cases r with
              | @tup a xl _ la rs =>
                cases (show u = Value.ref a from ru1)
                obtain ⟨its, _, ⟨oa, q1, q2, _⟩, _⟩ := P.inv.tuple la.sq
                have hT := rp_row (X := X) (T := T) (σ := σ) (k := k) (rp_tree.rp_trees OK dl ts e) (reprTs_len dl ts e) rs
                refine call_repr_slot (T := "tuple") (idr := "tuple.__repr__") (by have := hr.un; omega) ⟨oa, q1, q2⟩ F.slot_tuple_repr ?_
                exact wpAny_call (codeAny_call_builtin_own (Code.quiet_builtin _ (by decide +kernel)) F.entry_tuple_repr (F.slot_tuple_repr.check _ _ _ _ _ _ _ _ ⟨oa, q1, q2⟩ (F.args_tuple_repr_1 _)
                  (rp_tupAt (base := 0) (A := X.A.in1) (R := callEnd _ X.xe) (.inr (.inl rfl)) (isGuard_tuple_repr _) (units_under_tuple_repr _ _) hT hsh fr hg rm (by have := szOk_le hz; omega) P la rs G0 fun u' s' H' P' l => ⟨_, _, rfl, fin _ P' l⟩)))
            · cases h
        | slt c fs => exact own_repr OK rfl h P r ru1 (hr.to (by omega) fun z => rfl) fun tk s' H' P' l => fin tk P' l
        | ins c fs => exact own_repr OK rfl h P r ru1 (hr.to (by omega) fun z => rfl) fun tk s' H' P' l => fin tk P' l
        | dct es =>
          cases es with
          | cons _ _ => cases hsh
          | nil =>
            cases h
            have r0 := r
            cases r with
            | dct h1 h2 h3 =>
              cases h3
              cases (show u = Value.ref _ from ru1)
              obtain ⟨_, hs, vs, kv, o, es, ep, q1, q2, q3, _, pr, _⟩ := P.inv.hok _ _ h1
              cases kv
              have e0 : es.toList = [] := by
                generalize es.toList = l at pr
                cases pr
                rfl
              refine call_repr_slot (T := "dict") (idr := "dict.__repr__") (by have := hr.un; omega) ⟨o, q1, q2.1⟩ F.slot_dict_repr ?_
              exact call_dict_reprK (as := []) (d := 0) (ps := []) q1 q2.1 q3 hs (by simp) (by rw [e0]; exact .nil) (A := X.A.in1) hg (fun b _ => Clear.nil b) (by have := hr.un; show X.A.units + 1 + (0 + 1) < cLine; omega) (fun _ _ e => e) (fun h' u tk hk => ⟨_, _, rfl, fin _ (P.same (P.inv.kept hk)) Le.refl⟩) (by decide)
        | _ => cases hsh
end
end DL

set_option Elab.async false
set_option linter.all false
set_option maxRecDepth 100000
set_option maxHeartbeats 4000000
set_option autoImplicit false
/-! own comparisons, which may answer NotImplemented -/
namespace DL
open L2 PyProof.Rows PySem.Spec PySem G58 SlX
variable [TbL]
/-- what a comparison's def comes to: none, NotImplemented -/
def cmF (N : Nat) (t : ME Bool) (F : FnD) (d e : D) : Option (Option D) := match t (some (.v d) :: some (.v e) :: List.replicate (N - 2) none) with
  | .ok true _ => some none
  | .ok false _ => (match F [.v d, .v e] with
    | .ok (.v r) _ => some (some r)
    | _ => none)
  | _ => none
abbrev CmT := List ((Str × Str) × (D → D → Option (Option D)))
def cmAt (c m : Str) : CmT → Option (D → D → Option (Option D))
  | [] => none
  | ((c', m'), F) :: r => if c' = c ∧ m' = m then some F else cmAt c m r
theorem cmAt_mem {c m : Str} {F : D → D → Option (Option D)} : ∀ {cm : CmT}, cmAt c m cm = some F → ((c, m), F) ∈ cm
  | [], h => by cases h
  | ((c', m'), F') :: r, h => by
    unfold cmAt at h
    split at h
    · rename_i q
      cases h
      rw [q.1, q.2]
      exact List.mem_cons_self
    · exact List.mem_cons_of_mem _ (cmAt_mem h)
/-- such a def's promise -/
def CmFn (Γ : GG) (k : Nat) (g : Addr) (G : D → D → Option (Option D)) : Prop := ∀ (A : Around) (outer : List Env) (s : Shared) (H : Hp) (W : As) (us : List Value) (vs : List V) (d e : D) (o : Option D), RoomQ true k A → Env0 Γ.P Γ.w Γ.K Γ.mg Γ.base A outer s H → Vals vs us → Reps Γ H W vs [d, e] → (∀ b, W b → H b ≠ none) → TabC Γ.T H → G d e = some o →
  codeAny (model Γ.P Γ.w) A (.call (.ref g) ⟨us, []⟩) (fun r s' => ∃ H', s'.os = s.os ∧ AllBare s'.gens ∧ Un (frs outer) [] H H' s.heap s'.heap ∧ HOk Γ.P Γ.w H' s'.heap ∧ LE0 H H' ∧ match o with
    | none => r = .ok (.ret .notImplemented)
    | some z => ∃ v u, r = .ok (.ret u) ∧ RelV v u ∧ Rep Γ H' W v z) s
section
variable {P : Program} {w : World} {K : PySem.W.Frag} {mg : Str → Option Value} {base : Heap} {T : TTb} {k : Nat} {f : Addr} {fd : FuncData} {N : List Str} {p1 p2 x qual : Str}
theorem cm_of {st : Stmt} {F : FnD} {Ft : ME Bool} {c : Expr} {rest : List Stmt} {q1 q2 q3 : Pos} (FF : Fun K x qual st f fd) (S : FnScope N [p1, p2] (defScope st)) (hN : 2 ≤ N.length) (FO : FnRX (Gm K mg P w base T) false true (k + 1) f (liftSp (Gm K mg P w base T) 2 F))
    (hbd : defBody st = .If c [.Return (some (.Name "NotImplemented" q1)) q2] [] q3 :: rest) (hni : mg "NotImplemented" = none) (hgl : (defScope st).names.lookup ("NotImplemented" : Str) = some .globalImplicit)
    (hbnd : ∀ (kV doc pm : Value) (an : Option Addr) (cdv ct : Value) (us : List Value), us.length = 2 → bindArgs (PySem.W.fnOf x qual (defArgs st) (defBody st) (defScope st) .none kV doc pm an cdv ct) ⟨us, []⟩ = pure ([p1, p2].zip us))
    (ht : ∀ (cdv : Value) (A : Around) (outer : List Env) (s : Shared) (H : Hp), RoomQ true k (A.deeper (envOfC qual (defScope st) s.heap.objs.size f cdv)) → DT (hotC (cxOf (L2.CX P w) P w K mg base N qual (defScope st) f cdv A outer s H (fun _ _ _ => False))) ⟨fun _ _ _ _ => False, T, none⟩ c Ft) :
    CmFn (Gm K mg P w base T) (k + 1) f (cmF N.length Ft F) := by
  intro A outer s H W us vs d e o hr e0 rv rs al tab hG
  unfold cmF at hG
  split at hG
  rotate_left
  · split at hG
    rotate_left
    · cases hG
    rename_i r ss hF
    cases hG
    have nr : ∀ b, ¬ regs [none, none] b := fun b ⟨a, dx, hm, _⟩ => by simp at hm
    have noM : ∀ (j : Nat) (q : Addr × Addr), ([none, none] : List Rg)[j]? = some (some q) → False := fun j q e => nr q.1 ⟨q.1, q.2, List.mem_of_getElem? e, .inl rfl⟩
    refine codeAny_mono (FO A outer s H us vs (fun v H' => Rep (Gm K mg P w base T) H' W v r ∧ LE0 H H') (fun _ _ _ => False) (fun z => nomatch z) hr e0 rv ⟨W, [none, none], [.v d, .v e], rfl, ⟨?_, fun i j a dx b dy h1 => (noM _ _ h1).elim, fun b z => (nr b z).elim, al, tab⟩, ?_⟩) fun r' s' hq => ?_
    · cases rs with
      | cons h1 rs => cases rs with
        | cons h2 rs => cases rs; exact .cons (.v h1) (.cons (.v h2) .nil)
    · rw [hF]
      exact fun v H' _ rr l => ⟨rr, l.mono fun b z => (nr b z).elim⟩
    · match r', hq with
      | .error e, hq => exact (cx_no hq).elim
      | .ok (.ret u), ⟨v, H', os, bare, un, hok, ru, rr, l⟩ => exact ⟨H', os, bare, un, hok, l, v, u, rfl, ru, rr⟩
      | .ok .next, hq => exact False.elim hq
      | .ok .brk, hq => exact False.elim hq
      | .ok .cont, hq => exact False.elim hq
  · cases hG
  rename_i δ' ht'
  cases hG
  have hl2 : vs.length = 2 := by rw [rs.len]; rfl
  obtain ⟨oc, od, kV, doc, pm, an, cdv, ct, osl, rfl, lk, hcd⟩ := FF.ex
  have kept : ∀ b o, base.get? b = some o → s.heap.get? b = some o := fun b o e => (e0.bs b o e).1
  have KX : K.In s.heap := e0.mod.kin.keeps kept
  have hb := (FF.binds (ps := [p1, p2]) hbnd) s us KX (by rw [List.append_nil, ← rv.length, hl2]; rfl)
  rw [List.append_nil] at hb
  refine codeAny_call_function hr.depth (KX _ _ lk) rfl S.co S.gen rfl (PySem.W.codeRec_of KX hcd) (hb _ _ _ _ ?_)
  refine wpAny_newFunctionEnv_cells S.kind (fun y hy => ?_) fun env he s1 xx => ?_
  · rcases S.par y.1 (List.of_mem_zip hy).1 with q | q
    · exact .inl q
    · exact .inr ⟨q, PySem.W.cellsFrom_some _ _ _ (.inl q)⟩
  · subst he
    refine ⟨(e0.mod.nolimit.keeps kept).keeps xx.toInCall.keep, codeAny_func ?_⟩
    have e1 : Env0 P w K mg base { A with handled := none } outer s H := ⟨e0.frames, e0.mod, e0.bs, e0.bsz, e0.funs, e0.frf, e0.hok, e0.bare⟩
    have J := inv_start (CX := L2.CX P w) (E := fun _ _ _ => False) S (A := { A with handled := none }) rfl e1 (by rw [hl2]; rfl) rv xx
    have ok := J.ok
    have I : Inv (hotC (cxOf (L2.CX P w) P w K mg base N qual (defScope st) f cdv A outer s H (fun _ _ _ => False))) [] (L2.start N vs) H s1 :=
      ⟨⟨ok.mod, ok.kind, ok.glob, ok.blt, ok.above, ok.inj, ok.has, ok.cab, (fun z => nomatch (show false = true from z)), Around.frames_deeper e0.frames, ok.stk, ok.exf, ok.bs, ok.bsz, ok.noex, ok.exfs, ok.funs, ok.frf⟩, J.os, J.bare, J.base, J.loc, J.cell, J.free, J.freeC, J.pin, J.hok, J.len⟩
    have noM : ∀ (j : Nat) (q : Addr × Addr), (List.replicate N.length none : List Rg)[j]? = some (some q) → False := fun j q e => regs_rep (k := N.length) (b := q.1) ⟨q.1, q.2, List.mem_of_getElem? e, .inl rfl⟩
    have sim : Sim (Gm K mg P w base T) (fx := none) ⟨W, fun _ => False, H, []⟩ (List.replicate N.length none) (some (.v d) :: some (.v e) :: List.replicate (N.length - 2) none) (L2.start N vs) H := by
      refine ⟨?_, fun i j a dx b dy h1 => (noM _ _ h1).elim, fun i r e => by simp at e, fun i a dx h1 h2 => (noM _ _ h2).elim, fun i a dx h1 h2 => (noM _ _ h2).elim, by simp, fun _ z => z.elim, al, Le.refl, tab, fun _ z => nomatch z⟩
      obtain ⟨m, hm⟩ : ∃ m, N.length = m + 2 := ⟨N.length - 2, by omega⟩
      cases rs with
      | cons h1 rs => cases rs with
        | cons h2 rs =>
          cases rs
          unfold L2.start
          rw [hm]
          exact .cons (.v (h1.mv wt_wk)) (.cons (.v (h2.mv wt_wk)) (slots_none _))
    have main : wpAny (model P w) (hotC (cxOf (L2.CX P w) P w K mg base N qual (defScope st) f cdv A outer s H (fun _ _ _ => False))).A (execs (.If c [.Return (some (.Name "NotImplemented" q1)) q2] [] q3 :: rest) (hotC (cxOf (L2.CX P w) P w K mg base N qual (defScope st) f cdv A outer s H (fun _ _ _ => False))).env)
        (fun fl s' => fl = .ret .notImplemented ∧ ∃ H', Inv (hotC (cxOf (L2.CX P w) P w K mg base N qual (defScope st) f cdv A outer s H (fun _ _ _ => False))) [] (L2.start N vs) H' s' ∧ LE0 H H') (hotC (cxOf (L2.CX P w) P w K mg base N qual (defScope st) f cdv A outer s H (fun _ _ _ => False))).xe s1 := ?main
    · rw [← hbd] at main
      refine wpAny_mono main (fun fl s' hs => ?_) fun _ _ z => ?_
      · obtain ⟨rfl, H', I', l⟩ := hs
        exact ⟨H', I'.os, I'.bare, I'.base, I'.hok, l, rfl⟩
      · exact wpAny_mono z (fun _ _ q => (cx_no q).elim) fun _ _ q => (cx_no q).elim
    case main =>
    refine wpAny_execs_cons (wpAny_If (thn ((ht cdv A outer s H (hr.deeper _)).run [] s1 (L2.start N vs) H (fun b H' => b = true ∧ LE0 H H') I ⟨_, _, _, sim, ?_⟩) fun b s2 ⟨H2, I2, eb, l2⟩ => ?_))
    · rw [ht']
      exact fun H' _ l => ⟨rfl, l.mono fun b z => (regs_rep z).elim⟩
    · subst eb
      refine wpAny_execs_cons (wpAny_Return_some (ld_blt (u := .notImplemented) I2 hgl hni (by decide +kernel) ?_))
      exact ⟨rfl, H2, I2, l2⟩
end
end DL

set_option Elab.async false
set_option linter.all false
set_option maxRecDepth 100000
set_option maxHeartbeats 4000000
set_option autoImplicit false
/-! == and != where own things stand -/
namespace DL
open L2 PyProof.Rows PySem.Spec PySem G58 SlX
open PySem.AutoSeq1 (wpAny_loadPart')
/-! built-in things beside an own one: NotImplemented -/
section
variable {M : Model} {A : Around} {E : Value → Shared → Prop} {s : Shared} {y : Addr} {C : Addr} {dd : Option Addr} {sl : Array (Option Value)} {Q : Fin → Shared → Prop}
abbrev insO (C : Addr) (dd : Option Addr) (sl : Array (Option Value)) : Obj := { cls := .ref C, dict := dd, data := .plain, slots := sl }
theorem nb_int {i : Int} {t : Tok} (hy : s.heap.get? y = some (insO C dd sl)) (q : Q (.done (.ret .notImplemented)) s) : wpAny M A (Builtin.«int.__eq__» ⟨[.int i t, .ref y], []⟩) Q E s ∧ wpAny M A (Builtin.«int.__ne__» ⟨[.int i t, .ref y], []⟩) Q E s := by
  obtain ⟨hp, g, d, tk, os⟩ := s
  constructor
  · unfold Builtin.«int.__eq__»
    wp_walk using wpAny_loadPart' hy
    exact q
  · unfold Builtin.«int.__ne__»
    wp_walk using wpAny_loadPart' hy
    exact q
theorem nb_bool {i : Bool} (hy : s.heap.get? y = some (insO C dd sl)) (q : Q (.done (.ret .notImplemented)) s) : wpAny M A (Builtin.«int.__eq__» ⟨[.bool i, .ref y], []⟩) Q E s ∧ wpAny M A (Builtin.«int.__ne__» ⟨[.bool i, .ref y], []⟩) Q E s := by
  obtain ⟨hp, g, d, tk, os⟩ := s
  constructor
  · unfold Builtin.«int.__eq__»
    wp_walk using wpAny_loadPart' hy
    exact q
  · unfold Builtin.«int.__ne__»
    wp_walk using wpAny_loadPart' hy
    exact q
theorem nb_str {i : Str} {t : Tok} (hy : s.heap.get? y = some (insO C dd sl)) (q : Q (.done (.ret .notImplemented)) s) : wpAny M A (Builtin.«str.__eq__» ⟨[.str i t, .ref y], []⟩) Q E s ∧ wpAny M A (Builtin.«str.__ne__» ⟨[.str i t, .ref y], []⟩) Q E s := by
  obtain ⟨hp, g, d, tk, os⟩ := s
  constructor
  · unfold Builtin.«str.__eq__»
    wp_walk using wpAny_loadPart' hy
    exact q
  · unfold Builtin.«str.__ne__»
    wp_walk using wpAny_loadPart' hy
    exact q
theorem nb_none (q : Q (.done (.ret .notImplemented)) s) : wpAny M A (Builtin.«NoneType.__eq__» ⟨[.none, .ref y], []⟩) Q E s ∧ wpAny M A (Builtin.«NoneType.__ne__» ⟨[.none, .ref y], []⟩) Q E s := by
  obtain ⟨hp, g, d, tk, os⟩ := s
  constructor
  · unfold Builtin.«NoneType.__eq__»
    wp_walk
    exact q
  · unfold Builtin.«NoneType.__ne__»
    wp_walk
    exact q
theorem nb_tup {x : Addr} (hi : PySem.W.Looks M s.heap (isInstance (.ref y) (.type "tuple")) false) (q : Q (.done (.ret .notImplemented)) s) : wpAny M A (Builtin.«tuple.__eq__» ⟨[.ref x, .ref y], []⟩) Q E s ∧ wpAny M A (Builtin.«tuple.__ne__» ⟨[.ref x, .ref y], []⟩) Q E s := by
  obtain ⟨hp, g, d, tk, os⟩ := s
  constructor
  · unfold Builtin.«tuple.__eq__»
    wp_walk using hi.here
    exact q
  · unfold Builtin.«tuple.__ne__»
    wp_walk using hi.here
    exact q
theorem nb_lst {x : Addr} (hi : PySem.W.Looks M s.heap (isInstance (.ref y) (.type "list")) false) (q : Q (.done (.ret .notImplemented)) s) : wpAny M A (Builtin.«list.__eq__» ⟨[.ref x, .ref y], []⟩) Q E s ∧ wpAny M A (Builtin.«list.__ne__» ⟨[.ref x, .ref y], []⟩) Q E s := by
  obtain ⟨hp, g, d, tk, os⟩ := s
  constructor
  · unfold Builtin.«list.__eq__»
    wp_walk using hi.here
    exact q
  · unfold Builtin.«list.__ne__»
    wp_walk using hi.here
    exact q
theorem nb_dct {x : Addr} {ox : Obj} (hx : s.heap.get? x = some ox) (hc : ox.cls = .type "dict") (hi : PySem.W.Looks M s.heap (isInstance (.ref y) (.type "dict")) false) (q : Q (.done (.ret .notImplemented)) s) : wpAny M A (Builtin.«dict.__eq__» ⟨[.ref x, .ref y], []⟩) Q E s ∧ wpAny M A (Builtin.«dict.__ne__» ⟨[.ref x, .ref y], []⟩) Q E s := by
  obtain ⟨hp, g, d, tk, os⟩ := s
  constructor
  · unfold Builtin.«dict.__eq__»
    wp_walk using hi.here
    exact q
  · unfold Builtin.«dict.__ne__»
    wp_walk using hi.here
    exact q
end
/-- a comparison's name -/
def isCmp (op : CmpOp) : Bool := match op with
  | .Eq | .NotEq => true
  | _ => false
section
variable {prog : Program} {w : World} {A : Around} {E : Value → Shared → Prop} {s : Shared} {y : Addr} {Q : Option Value → Shared → Prop}
theorem tb_slot {u : Value} {T id : String} {name : Str} {B : Builtin} (hT : s.TypeIs u T) (S : Slot T name id) (hent : entryFor table id = some B) (ha : argsOk id ⟨[u, .ref y], []⟩)
    (hb : ∀ (Q : Fin → Shared → Prop) (E : Value → Shared → Prop), Q (.done (.ret .notImplemented)) s → wpAny (model prog w) A.in1 (B ⟨[u, .ref y], []⟩) Q E s) (q : Q none s) : wpAny (model prog w) A (tryCompare u name (.ref y)) Q E s := by
  unfold tryCompare
  refine wpAny_bind (wpAny_callSpecialIfBound?_slot hT S (wpAny_call (codeAny_call_builtin S.plain hent (S.check _ _ _ _ _ _ _ _ hT ha (hb _ _ ?_)))))
  exact wpAny_pure q
end
namespace CF
theorem e_int_eq : entryFor table "int.__eq__" = some Builtin.«int.__eq__» := entryFor_of_tree (by kernel_rfl)
theorem e_int_ne : entryFor table "int.__ne__" = some Builtin.«int.__ne__» := entryFor_of_tree (by kernel_rfl)
theorem e_str_eq : entryFor table "str.__eq__" = some Builtin.«str.__eq__» := entryFor_of_tree (by kernel_rfl)
theorem e_str_ne : entryFor table "str.__ne__" = some Builtin.«str.__ne__» := entryFor_of_tree (by kernel_rfl)
theorem e_non_eq : entryFor table "NoneType.__eq__" = some Builtin.«NoneType.__eq__» := entryFor_of_tree (by kernel_rfl)
theorem e_non_ne : entryFor table "NoneType.__ne__" = some Builtin.«NoneType.__ne__» := entryFor_of_tree (by kernel_rfl)
theorem e_tup_eq : entryFor table "tuple.__eq__" = some Builtin.«tuple.__eq__» := entryFor_of_tree (by kernel_rfl)
theorem e_tup_ne : entryFor table "tuple.__ne__" = some Builtin.«tuple.__ne__» := entryFor_of_tree (by kernel_rfl)
theorem e_lst_eq : entryFor table "list.__eq__" = some Builtin.«list.__eq__» := entryFor_of_tree (by kernel_rfl)
theorem e_lst_ne : entryFor table "list.__ne__" = some Builtin.«list.__ne__» := entryFor_of_tree (by kernel_rfl)
theorem e_dct_eq : entryFor table "dict.__eq__" = some Builtin.«dict.__eq__» := entryFor_of_tree (by kernel_rfl)
theorem e_dct_ne : entryFor table "dict.__ne__" = some Builtin.«dict.__ne__» := entryFor_of_tree (by kernel_rfl)
theorem a_int_eq (a b : Value) : argsOk "int.__eq__" ⟨[a, b], []⟩ := by unfold argsOk; kernel_rfl
theorem a_int_ne (a b : Value) : argsOk "int.__ne__" ⟨[a, b], []⟩ := by unfold argsOk; kernel_rfl
theorem a_str_eq (a b : Value) : argsOk "str.__eq__" ⟨[a, b], []⟩ := by unfold argsOk; kernel_rfl
theorem a_str_ne (a b : Value) : argsOk "str.__ne__" ⟨[a, b], []⟩ := by unfold argsOk; kernel_rfl
theorem a_non_eq (a b : Value) : argsOk "NoneType.__eq__" ⟨[a, b], []⟩ := by unfold argsOk; kernel_rfl
theorem a_non_ne (a b : Value) : argsOk "NoneType.__ne__" ⟨[a, b], []⟩ := by unfold argsOk; kernel_rfl
theorem a_tup_eq (a b : Value) : argsOk "tuple.__eq__" ⟨[a, b], []⟩ := by unfold argsOk; kernel_rfl
theorem a_tup_ne (a b : Value) : argsOk "tuple.__ne__" ⟨[a, b], []⟩ := by unfold argsOk; kernel_rfl
theorem a_lst_eq (a b : Value) : argsOk "list.__eq__" ⟨[a, b], []⟩ := by unfold argsOk; kernel_rfl
theorem a_lst_ne (a b : Value) : argsOk "list.__ne__" ⟨[a, b], []⟩ := by unfold argsOk; kernel_rfl
theorem a_dct_eq (a b : Value) : argsOk "dict.__eq__" ⟨[a, b], []⟩ := by unfold argsOk; kernel_rfl
theorem a_dct_ne (a b : Value) : argsOk "dict.__ne__" ⟨[a, b], []⟩ := by unfold argsOk; kernel_rfl
end CF
end DL

set_option Elab.async false
set_option linter.all false
set_option maxRecDepth 100000
set_option maxHeartbeats 4000000
set_option autoImplicit false
/-! == and != where own things stand, going on -/
namespace DL
open L2 PyProof.Rows PySem.Spec PySem G58 SlX
section
variable {prog : Program} {w : World} {A : Around} {E : Value → Shared → Prop} {s : Shared} {a b ta tb : Value} {Q : Value → Shared → Prop}
theorem rc_eq (hu : A.units < cLine) (h1 : oneThing? .Eq a b = none) (La : PySem.W.Looks (model prog w) s.heap (typeOf a) ta) (Lb : PySem.W.Looks (model prog w) s.heap (typeOf b) tb) (hn : ta ≠ tb → PySem.W.Looks (model prog w) s.heap (isSubtype tb ta) false)
    (h : wpAny (model prog w) A (tryCompare a "__eq__" b) (fun r s1 => match r with
      | some v => Q v s1
      | none => wpAny (model prog w) A (tryCompare b "__eq__" a) (fun r2 s2 => match r2 with
        | some v => Q v s2
        | none => wpAny (model prog w) A (isSame a b) (fun z s3 => Q (.bool z) s3) E s2) E s1) E s) : wpAny (model prog w) A (richCompare .Eq a b) Q E s := by
  have tail : wpAny (model prog w) A (do
      if let some v ← tryCompare a "__eq__" b then return v
      if let some v ← tryCompare b "__eq__" a then return v
      rule "compare.eq-identity"; return Value.bool (← isSame a b)) Q E s := by
    refine wpAny_bind (wpAny_mono h (fun r s1 q => ?_) fun _ _ z => z)
    cases r with
    | some v => exact wpAny_pure q
    | none =>
      refine wpAny_bind (wpAny_mono q (fun r2 s2 q2 => ?_) fun _ _ z => z)
      cases r2 with
      | some v => exact wpAny_pure q2
      | none => exact wpAny_bind (wpAny_rule (wpAny_bind (wpAny_mono q2 (fun z s3 q3 => wpAny_pure q3) fun _ _ z => z)))
  unfold richCompare
  simp only [h1, cmpInfo_Eq]
  refine wpAny_holding (wpAny_bind (wpAny_cRoomFor hu ?_))
  refine wpAny_bind (La.here (wpAny_bind (Lb.here ?_)))
  by_cases c : ta = tb
  · subst c
    rw [if_neg (by simp)]
    refine wpAny_bind (wpAny_pure ?_)
    simp only [Bool.false_eq_true, if_false, Bool.not_false, if_true]
    exact tail
  · rw [if_pos (by simp [c])]
    refine wpAny_bind ((hn c).here ?_)
    simp only [Bool.false_eq_true, if_false, Bool.not_false, if_true]
    exact tail
theorem rc_ne (hu : A.units < cLine) (h1 : oneThing? .NotEq a b = none) (La : PySem.W.Looks (model prog w) s.heap (typeOf a) ta) (Lb : PySem.W.Looks (model prog w) s.heap (typeOf b) tb) (hn : ta ≠ tb → PySem.W.Looks (model prog w) s.heap (isSubtype tb ta) false)
    (h : wpAny (model prog w) A (tryCompare a "__ne__" b) (fun r s1 => match r with
      | some v => Q v s1
      | none => wpAny (model prog w) A (tryCompare b "__ne__" a) (fun r2 s2 => match r2 with
        | some v => Q v s2
        | none => wpAny (model prog w) A (isSame a b) (fun z s3 => Q (.bool (!z)) s3) E s2) E s1) E s) : wpAny (model prog w) A (richCompare .NotEq a b) Q E s := by
  have tail : wpAny (model prog w) A (do
      if let some v ← tryCompare a "__ne__" b then return v
      if let some v ← tryCompare b "__ne__" a then return v
      rule "compare.ne-identity"; return Value.bool (!(← isSame a b))) Q E s := by
    refine wpAny_bind (wpAny_mono h (fun r s1 q => ?_) fun _ _ z => z)
    cases r with
    | some v => exact wpAny_pure q
    | none =>
      refine wpAny_bind (wpAny_mono q (fun r2 s2 q2 => ?_) fun _ _ z => z)
      cases r2 with
      | some v => exact wpAny_pure q2
      | none => exact wpAny_bind (wpAny_rule (wpAny_bind (wpAny_mono q2 (fun z s3 q3 => wpAny_pure q3) fun _ _ z => z)))
  unfold richCompare
  simp only [h1, cmpInfo_NotEq]
  refine wpAny_holding (wpAny_bind (wpAny_cRoomFor hu ?_))
  refine wpAny_bind (La.here (wpAny_bind (Lb.here ?_)))
  by_cases c : ta = tb
  · subst c
    rw [if_neg (by simp)]
    refine wpAny_bind (wpAny_pure ?_)
    simp only [Bool.false_eq_true, if_false, Bool.not_false, if_true]
    exact tail
  · rw [if_pos (by simp [c])]
    refine wpAny_bind ((hn c).here ?_)
    simp only [Bool.false_eq_true, if_false, Bool.not_false, if_true]
    exact tail
end
/-! an own class's side -/
section
variable {M : Model} {prog : Program} {w : World} {A : Around} {E : Value → Shared → Prop} {s : Shared} {K : PySem.W.Frag} {x C f : Addr} {ox : Obj} {od : Option Obj} {b : Value} {name : Str}
theorem ifb_blt {id : String} {args : List Value} {Q : Option Value → Shared → Prop} (X : K.In s.heap) (I : PySem.W.InstAt s.heap x ox C od) (hs : PySem.W.findIn K (.ref C) name = some (some (.builtin id))) (hb : ∀ self, bindSpecial (.builtin id) self = pure (.builtin id, [self]))
    (h : wpAny M A (call (.builtin id) (.ref x :: args)) (fun v => Q (some v)) E s) : wpAny M A (callSpecialIfBound? (.ref x) name args) Q E s := by
  simp only [callSpecialIfBound?, bindSpecialIfBound?]
  refine wpAny_holding (wpAny_bind (wpAny_bind (wpAny_bind (I.type.here ((PySem.W.looks_findIn X hs).here ?_)))))
  refine wpAny_bind (wpAny_askSetting (wpAny_ite ?_))
  have fin : wpAny M A (call (.builtin id) ([.ref x] ++ args) >>= fun v => pure (some v)) Q E s := wpAny_bind (wpAny_mono h (fun v s' z => wpAny_pure z) fun _ _ z => z)
  split
  · exact wpAny_bind ((PySem.W.Looks.of_pure (hb _)).here (wpAny_pure (by exact fin)))
  · exact wpAny_tryCatch (wpAny_bind ((PySem.W.Looks.of_pure (hb _)).here (wpAny_pure (by exact fin))))
/-- NotImplemented, or an answer -/
def Ans (Q : Option Value → Shared → Prop) (v : Value) (s' : Shared) : Prop := match v with
  | .notImplemented => Q none s'
  | v => Q (some v) s'
theorem try_own {Q : Option Value → Shared → Prop} (X : K.In s.heap) (I : PySem.W.InstAt s.heap x ox C od) (hs : PySem.W.findIn K (.ref C) name = some (some (.ref f))) (hf : PySem.W.isFn K (.ref f) = true) (h : wpAny M A (call (.ref f) [.ref x, b]) (Ans Q) E s) : wpAny M A (tryCompare (.ref x) name b) Q E s := by
  unfold tryCompare
  refine wpAny_bind (PySem.W.ifBound_K X I hs hf (wpAny_mono h (fun v s' hv => ?_) fun _ _ e => e))
  cases v <;> exact wpAny_pure hv
/-- an answer of == turned round -/
def AnsN (Q : Option Value → Shared → Prop) (v : Value) (s' : Shared) : Prop := match v with
  | .notImplemented => Q none s'
  | .bool z => Q (some (.bool (!z))) s'
  | _ => False
theorem try_ne {Q : Option Value → Shared → Prop} (hu : A.units + 1 < cLine) (X : K.In s.heap) (I : PySem.W.InstAt s.heap x ox C od) (hm : PySem.W.mroIn K C (.type "object") = some true) (hn : PySem.W.findIn K (.ref C) "__ne__" = some (some (.builtin "object.__ne__"))) (hs : PySem.W.findIn K (.ref C) "__eq__" = some (some (.ref f))) (hf : PySem.W.isFn K (.ref f) = true)
    (h : wpAny (model prog w) A.in1 (call (.ref f) [.ref x, b]) (AnsN Q) E s) : wpAny (model prog w) A (tryCompare (.ref x) "__ne__" b) Q E s := by
  unfold tryCompare
  refine wpAny_bind (ifb_blt X I hn PySem.F.cmp_object.ne.bind (wpAny_call (codeAny_call_builtin PySem.F.cmp_object.ne.plain PySem.F.cmpEntry_ne (PySem.W.check_slot PySem.F.cmpKind_ne PySem.F.cmpSplit_ne (I.type.andThen (PySem.W.looks_mroIn X hm)) (PySem.F.cmpArgs_ne _ _) ?_))))
  unfold Builtin.«object.__ne__»
  refine wpAny_bind (m := slotArgs "__ne__" 1 _) (wpAny_pure ?_)
  refine wpAny_bind (wpAny_cRoomFor hu ?_)
  refine wpAny_bind (m := callSpecialIfBound? (.ref x) (Str.ofString "__eq__") _) (PySem.W.ifBound_K X I hs hf (wpAny_mono h (fun v s' hv => ?_) fun _ _ e => e))
  cases v <;> first | exact hv.elim | skip
  · exact wpAny_pure (wpAny_pure hv)
  · exact wpAny_bind (wpAny_truthy_bool (wpAny_pure (wpAny_pure hv)))
end
end DL

set_option Elab.async false
set_option linter.all false
set_option maxRecDepth 100000
set_option maxHeartbeats 4000000
set_option autoImplicit false
/-! == and != on trees -/
namespace DL
open L2 PyProof.Rows PySem.Spec PySem G58 SlX
variable [TbL]
def btT : D → Option String
  | .non => some "NoneType"
  | .bl _ => some "bool"
  | .int _ => some "int"
  | .str _ => some "str"
  | .tup _ => some "tuple"
  | .lst _ => some "list"
  | .dct _ => some "dict"
  | _ => none
def btL : List String := ["NoneType", "bool", "int", "str", "tuple", "list", "dict"]
/-- what is asked of the classes -/
structure CmK (K : PySem.W.Frag) (mg : Str → Option Value) (cm : CmT) : Prop where
  cl : ∀ c G C, ((c, ("__eq__" : Str)), G) ∈ cm → mg c = some (.ref C) → PySem.W.mroIn K C (.type "object") = some true ∧ PySem.W.findIn K (.ref C) "__ne__" = some (some (.builtin "object.__ne__")) ∧ ∀ T ∈ btL, PySem.W.subIn K (.type T) (.ref C) = some false ∧ PySem.W.subIn K (.ref C) (.type T) = some false
  cc : ∀ c c' G G' C C', ((c, ("__eq__" : Str)), G) ∈ cm → ((c', ("__eq__" : Str)), G') ∈ cm → mg c = some (.ref C) → mg c' = some (.ref C') → c ≠ c' → PySem.W.subIn K (.ref C') (.ref C) = some false ∧ C ≠ C'
def CmOk (Γ : GG) (k : Nat) (cm : CmT) : Prop := ∀ c m G, ((c, m), G) ∈ cm → ∀ C, Γ.mg c = some (.ref C) → ∃ g : Addr, PySem.W.findIn Γ.K (.ref C) m = some (some (.ref g)) ∧ PySem.W.isFn Γ.K (.ref g) = true ∧ CmFn Γ k g G
def eqO (cm : CmT) (d e : D) : Option Bool := match clsD d, clsD e with
  | some c, some c' => (cmAt c "__eq__" cm).bind fun G => (cmAt c' "__eq__" cm).bind fun G' => match G d e with
    | some (some (.bl b)) => some b
    | some none => if c = c' then none else (match G' e d with
      | some none => some false
      | _ => none)
    | _ => none
  | some c, none => (cmAt c "__eq__" cm).bind fun G => (btT e).bind fun _ => match G d e with
    | some none => some false
    | _ => none
  | none, some c' => (cmAt c' "__eq__" cm).bind fun G => (btT d).bind fun _ => match G e d with
    | some none => some false
    | _ => none
  | none, none => none
def fEqX (cm : CmT) (d e : D) : LO := match clsD d, clsD e with
  | none, none => loD (opEq d e)
  | _, _ => loD ((eqO cm d e).map .bl)
def fNeX (cm : CmT) (d e : D) : LO := match clsD d, clsD e with
  | none, none => loD (opNe d e)
  | _, _ => loD ((eqO cm d e).map fun b => .bl (!b))
section
variable {X : Cx} {T : TTb} {W : As} {pins : List (Addr × Obj)} {σ : L2.St} {H : Hp} {s : Shared} {A : Around} {k : Nat} {g0 a : Addr} {E : Value → Shared → Prop} {cm : CmT}
theorem cm_run {G : D → D → Option (Option D)} {x y : V} {u v : Value} {d e : D} {o : Option D} {R : Value → Shared → Prop} (C : CmFn (gg X T) k g0 G) (hA : A.frames = some X.stack) (hr : RoomQ true k A) (P : At X T W pins σ H s) (rx : Rep (gg X T) H W x d) (ry : Rep (gg X T) H W y e) (ru : RelV x u) (rv : RelV y v) (hG : G d e = some o)
    (h : ∀ r s' H', At X T W pins σ H' s' → LE0 H H' → (match o with | none => r = Value.notImplemented | some z => ∃ v, RelV v r ∧ Rep (gg X T) H' W v z) → R r s') : wpAny (model X.prog X.w) A (call (.ref g0) [u, v]) R E s := by
  refine wpAny_call (codeAny_mono (C A X.stack s H W [u, v] [x, y] d e o hr (env_at P.inv hA) (.cons ru (.cons rv .nil)) (.cons rx (.cons ry .nil)) P.al P.tab hG) fun r s' hq => ?_)
  obtain ⟨H', os, bare, un, hok, l, hz⟩ := hq
  have I' : Inv X pins σ H' s' := P.inv.call' os un hok bare (fun _ z => nomatch z)
  cases o with
  | none =>
    subst hz
    exact h _ s' H' (P.go I' l) l rfl
  | some z =>
    obtain ⟨v', u', rfl, ru', rr⟩ := hz
    exact h u' s' H' (P.go I' l) l ⟨v', ru', rr⟩
theorem own_obj {c : Str} {a : Addr} {d : D} (I : Inv X pins σ H s) (r : Rep (gg X T) H W (.ref a) d) (e : clsD d = some c) : ∃ (C : Addr) (dd : Option Addr) (sl : Array (Option Value)) (od : Obj), X.mg c = some (.ref C) ∧ PySem.W.InstAt s.heap a (insO C dd sl) C (some od) := by
  cases r with
  | slt h1 h2 h3 h4 h5 h6 =>
    cases e
    obtain ⟨sl, od, _, J, _⟩ := slt_inst I h2
    exact ⟨_, _, sl, od, h1, J⟩
  | ins h1 h2 h3 h4 =>
    cases e
    obtain ⟨_, _, ne, q1, mA, q2, q3, q4⟩ := I.hok _ _ h2
    obtain ⟨od, J, _⟩ := ObjM.look (mA := mA) ⟨q1, q2, ne⟩
    exact ⟨_, _, _, od, h1, J⟩
  | _ => cases e
theorem own_ref {c : Str} {v : V} {d : D} (r : Rep (gg X T) H W v d) (e : clsD d = some c) : ∃ a, v = .ref a := by
  cases r <;> first | exact ⟨_, rfl⟩ | cases e
theorem data_ty {x : V} {u : Value} {d : D} {Ty : String} (I : Inv X pins σ H s) (r : Rep (gg X T) H W x d) (ru : RelV x u) (e : btT d = some Ty) : s.TypeIs u Ty := by
  cases r with
  | non => cases e; cases (show u = Value.none from ru); rfl
  | bl b => cases e; cases (show u = Value.bool b from ru); rfl
  | int i => cases e; obtain ⟨t, rfl⟩ := (show ∃ t, u = Value.int i t from ru); rfl
  | str x => cases e; obtain ⟨t, rfl⟩ := (show ∃ t, u = Value.str x t from ru); rfl
  | tup h _ =>
    cases e
    cases (show u = Value.ref _ from ru)
    obtain ⟨its, _, ⟨o, q1, q2, _⟩, _⟩ := I.tuple h.sq
    exact ⟨o, q1, q2⟩
  | lst h _ =>
    cases e
    cases (show u = Value.ref _ from ru)
    obtain ⟨its, _, ⟨o, n, q1, q2, _⟩, _⟩ := I.list (LstAt.sq (K := X.K) h)
    exact ⟨o, q1, q2⟩
  | dct h2 _ _ =>
    cases e
    cases (show u = Value.ref _ from ru)
    obtain ⟨_, _, vs, _, o, es, ep, q1, q2, q3⟩ := I.hok _ _ h2
    exact ⟨o, q1, q2.1⟩
  | _ => cases e
/-- data beside an own thing -/
theorem tb_data {x : V} {u : Value} {d : D} {Ty : String} {y C : Addr} {dd : Option Addr} {sl : Array (Option Value)} {od : Option Obj} {Q : Option Value → Shared → Prop} (I : Inv X pins σ H s) (r : Rep (gg X T) H W x d) (ru : RelV x u) (e : btT d = some Ty) (J : PySem.W.InstAt s.heap y (insO C dd sl) C od)
    (hb : ∀ T ∈ btL, PySem.W.subIn X.K (.type T) (.ref C) = some false ∧ PySem.W.subIn X.K (.ref C) (.type T) = some false) (q : Q none s) : wpAny (model X.prog X.w) A (tryCompare u "__eq__" (.ref y)) Q E s ∧ wpAny (model X.prog X.w) A (tryCompare u "__ne__" (.ref y)) Q E s := by
  have ty := data_ty I r ru e
  have no : ∀ T ∈ btL, PySem.W.Looks (model X.prog X.w) s.heap (isInstance (.ref y) (.type T)) false := fun T hT => J.type.andThen (PySem.W.looks_subIn I.kIn (hb T hT).2)
  cases r with
  | non =>
    cases e; cases (show u = Value.none from ru)
    exact ⟨tb_slot ty PySem.F.slot_NoneType_eq CF.e_non_eq (CF.a_non_eq _ _) (fun Q E q => (nb_none q).1) q, tb_slot ty PySem.F.slot_NoneType_ne CF.e_non_ne (CF.a_non_ne _ _) (fun Q E q => (nb_none q).2) q⟩
  | bl b =>
    cases e; cases (show u = Value.bool b from ru)
    exact ⟨tb_slot ty PySem.F.slot_bool_eq CF.e_int_eq (CF.a_int_eq _ _) (fun Q E q => (nb_bool J.at_ q).1) q, tb_slot ty PySem.F.slot_bool_ne CF.e_int_ne (CF.a_int_ne _ _) (fun Q E q => (nb_bool J.at_ q).2) q⟩
  | int i =>
    cases e; obtain ⟨t, rfl⟩ := (show ∃ t, u = Value.int i t from ru)
    exact ⟨tb_slot ty PySem.F.slot_int_eq CF.e_int_eq (CF.a_int_eq _ _) (fun Q E q => (nb_int J.at_ q).1) q, tb_slot ty PySem.F.slot_int_ne CF.e_int_ne (CF.a_int_ne _ _) (fun Q E q => (nb_int J.at_ q).2) q⟩
  | str x =>
    cases e; obtain ⟨t, rfl⟩ := (show ∃ t, u = Value.str x t from ru)
    exact ⟨tb_slot ty PySem.F.slot_str_eq CF.e_str_eq (CF.a_str_eq _ _) (fun Q E q => (nb_str J.at_ q).1) q, tb_slot ty PySem.F.slot_str_ne CF.e_str_ne (CF.a_str_ne _ _) (fun Q E q => (nb_str J.at_ q).2) q⟩
  | tup h _ =>
    cases e
    cases (show u = Value.ref _ from ru)
    exact ⟨tb_slot ty PySem.F.slot_tuple_eq CF.e_tup_eq (CF.a_tup_eq _ _) (fun Q E q => (nb_tup (no _ (by decide)) q).1) q, tb_slot ty PySem.F.slot_tuple_ne CF.e_tup_ne (CF.a_tup_ne _ _) (fun Q E q => (nb_tup (no _ (by decide)) q).2) q⟩
  | lst h _ =>
    cases e
    cases (show u = Value.ref _ from ru)
    exact ⟨tb_slot ty PySem.F.slot_list_eq CF.e_lst_eq (CF.a_lst_eq _ _) (fun Q E q => (nb_lst (no _ (by decide)) q).1) q, tb_slot ty PySem.F.slot_list_ne CF.e_lst_ne (CF.a_lst_ne _ _) (fun Q E q => (nb_lst (no _ (by decide)) q).2) q⟩
  | dct h2 _ _ =>
    cases e
    cases (show u = Value.ref _ from ru)
    obtain ⟨o, q1, q2⟩ := ty
    exact ⟨tb_slot ⟨o, q1, q2⟩ PySem.F.slot_dict_eq CF.e_dct_eq (CF.a_dct_eq _ _) (fun Q E q => (nb_dct q1 q2 (no _ (by decide)) q).1) q, tb_slot ⟨o, q1, q2⟩ PySem.F.slot_dict_ne CF.e_dct_ne (CF.a_dct_ne _ _) (fun Q E q => (nb_dct q1 q2 (no _ (by decide)) q).2) q⟩
  | _ => cases e
end
end DL

set_option Elab.async false
set_option linter.all false
set_option maxRecDepth 100000
set_option maxHeartbeats 4000000
set_option autoImplicit false
/-! == and != on trees: the rules -/
namespace DL
open L2 PyProof.Rows PySem.Spec PySem G58 SlX
variable [TbL]
section
variable {X : Cx} {T : TTb} {W : As} {pins : List (Addr × Obj)} {σ : L2.St} {H : Hp} {s : Shared} {A : Around} {k : Nat} {E : Value → Shared → Prop} {cm : CmT} {wx : WX} {ht : Bool}
theorem ty_looks {u : Value} {Ty : String} (h : s.TypeIs u Ty) : PySem.W.Looks (model X.prog X.w) s.heap (typeOf u) (.type Ty) := by
  intro A Q E s' kp q
  have h' : s'.TypeIs u Ty := by
    cases u <;> first | exact h | skip
    obtain ⟨o, q1, q2⟩ := h
    exact ⟨o, kp _ _ q1, q2⟩
  exact wpAny_typeOf h' q
theorem same_no {x : V} {u : Value} {d : D} {Ty : String} {y C : Addr} {dd : Option Addr} {sl : Array (Option Value)} {od : Option Obj} {R : Bool → Shared → Prop} (I : Inv X pins σ H s) (r : Rep (gg X T) H W x d) (ru : RelV x u) (e : btT d = some Ty) (J : PySem.W.InstAt s.heap y (insO C dd sl) C od) (q : R false s) :
    wpAny (model X.prog X.w) A (isSame u (.ref y)) R E s ∧ wpAny (model X.prog X.w) A (isSame (.ref y) u) R E s := by
  have ty := data_ty I r ru e
  have big : ∀ a, u = .ref a → wpAny (model X.prog X.w) A (isSame u (.ref y)) R E s ∧ wpAny (model X.prog X.w) A (isSame (.ref y) u) R E s := fun a ea => by
    subst ea
    obtain ⟨o, q1, q2⟩ := ty
    have ne : a ≠ y := fun z => by
      subst z
      cases q1.symm.trans J.at_
      cases q2
    exact ⟨PySem.SeqAt.wpAny_isSame_ref_other' ne q1 J.at_ (by rw [J.cls]; exact fun z => nomatch z) q, wpAny_isSame_ref_other ne.symm J.at_ q1 (by rw [J.cls]; exact fun z => nomatch z) q⟩
  cases r with
  | non => cases (show u = Value.none from ru); exact ⟨wpAny_pure q, wpAny_pure q⟩
  | bl b => cases (show u = Value.bool b from ru); exact ⟨wpAny_pure q, wpAny_pure q⟩
  | int i => obtain ⟨t, rfl⟩ := (show ∃ t, u = Value.int i t from ru); exact ⟨wpAny_pure q, wpAny_pure q⟩
  | str x => obtain ⟨t, rfl⟩ := (show ∃ t, u = Value.str x t from ru); exact ⟨wpAny_pure q, wpAny_pure q⟩
  | tup h _ => exact big _ ru
  | lst h _ => exact big _ ru
  | dct h2 _ _ => exact big _ ru
  | _ => cases e
theorem bt_mem {d : D} {Ty : String} (h : btT d = some Ty) : Ty ∈ btL := by
  cases d <;> cases h <;> decide
theorem one_no {x : V} {u : Value} {d : D} {Ty : String} {op : CmpOp} {b : Value} (I : Inv X pins σ H s) (r : Rep (gg X T) H W x d) (ru : RelV x u) (e : btT d = some Ty) : oneThing? op u b = none := (data_ty I r ru e).oneThing_none op b
/-- own beside own, own beside data, data beside own: what == says -/
theorem op_eqX (OK : CmOk (gg X T) k cm) (CK : CmK X.K X.mg cm) (hr : RoomQ ht (k + 1) X.A) : Op2D X T wx (compareOp .Eq) (fEqX cm) := by
  intro W pins s σ H x y u v d e Q P rx ry ru rv p
  have hu : X.A.units < cLine := by have := hr.un; omega
  have fr : X.A.frames = some X.stack := P.inv.ok.frames
  have hk : RoomQ true k X.A := hr.to (by omega) fun _ => rfl
  show wpAny _ _ (richCompare .Eq u v) _ _ _
  unfold fEqX at p
  have bl_of : ∀ {b : Bool} {v' : V} {r : Value} {H' : Hp}, RelV v' r → Rep (gg X T) H' W v' (.bl b) → r = .bool b := fun {b v' r H'} h1 h2 => by
    cases h2
    exact h1
  cases hd : clsD d with
  | none =>
    cases he : clsD e with
    | none =>
      rw [hd, he] at p
      exact op2D_of (wx := wx) (op_eqAll (hr.units)) o2_eq W pins s σ H x y u v d e Q P rx ry ru rv p
    | some c' =>
      rw [hd, he] at p
      replace p : LPost (gg X T) W H Q (fun c d H' => wx c d σ H') (loD ((eqO cm d e).map .bl)) := p
      unfold eqO at p
      rw [hd, he] at p
      simp only at p
      cases hG : cmAt c' "__eq__" cm with
      | none => rw [hG] at p; exact p.elim
      | some G =>
        cases hT : btT d with
        | none => rw [hG, hT] at p; exact p.elim
        | some Ty =>
          rw [hG, hT] at p
          simp only [Option.bind_some] at p
          split at p
          rotate_left
          · exact p.elim
          rename_i hg
          obtain ⟨b, rfl⟩ := own_ref ry he
          cases (show v = Value.ref b from rv)
          obtain ⟨C, dd, sl, od, hm, J⟩ := own_obj P.inv ry he
          obtain ⟨_, _, hb⟩ := CK.cl _ _ _ (cmAt_mem hG) hm
          obtain ⟨g0, h1, h2, CF0⟩ := OK _ _ _ (cmAt_mem hG) C hm
          refine rc_eq hu (one_no P.inv rx ru hT) (ty_looks (data_ty P.inv rx ru hT)) J.type (fun _ => PySem.W.looks_subIn P.inv.kIn (hb Ty (bt_mem hT)).2) ?_
          refine (tb_data P.inv rx ru hT J hb ?_).1
          refine try_own P.inv.kIn J h1 h2 (cm_run CF0 fr hk P ry rx rv ru hg fun r s1 H1 P1 l1 hz => ?_)
          subst hz
          obtain ⟨C1, dd1, sl1, od1, hm1, J1⟩ := own_obj P1.inv (ry.le0 l1) he
          exact (same_no P1.inv (rx.le0 l1) ru hT J1 ⟨.bl false, H1, P1.inv, rfl, p _ H1 (.bl false) l1⟩).1
  | some c =>
    obtain ⟨a, rfl⟩ := own_ref rx hd
    cases (show u = Value.ref a from ru)
    obtain ⟨C, dd, sl, od, hm, J⟩ := own_obj P.inv rx hd
    rw [hd] at p
    replace p : LPost (gg X T) W H Q (fun c d H' => wx c d σ H') (loD ((eqO cm d e).map .bl)) := p
    unfold eqO at p
    rw [hd] at p
    cases he : clsD e with
    | none =>
      rw [he] at p
      simp only at p
      cases hG : cmAt c "__eq__" cm with
      | none => rw [hG] at p; exact p.elim
      | some G =>
        cases hT : btT e with
        | none => rw [hG, hT] at p; exact p.elim
        | some Ty =>
          rw [hG, hT] at p
          simp only [Option.bind_some] at p
          split at p
          rotate_left
          · exact p.elim
          rename_i hg
          obtain ⟨_, _, hb⟩ := CK.cl _ _ _ (cmAt_mem hG) hm
          obtain ⟨g0, h1, h2, CF0⟩ := OK _ _ _ (cmAt_mem hG) C hm
          refine rc_eq hu (oneThing_ref _ _ _) J.type (ty_looks (data_ty P.inv ry rv hT)) (fun _ => PySem.W.looks_subIn P.inv.kIn (hb Ty (bt_mem hT)).1) ?_
          refine try_own P.inv.kIn J h1 h2 (cm_run CF0 fr hk P rx ry ru rv hg fun r s1 H1 P1 l1 hz => ?_)
          subst hz
          obtain ⟨C1, dd1, sl1, od1, hm1, J1⟩ := own_obj P1.inv (rx.le0 l1) hd
          cases hm.symm.trans hm1
          refine (tb_data P1.inv (ry.le0 l1) rv hT J1 hb ?_).1
          exact (same_no P1.inv (ry.le0 l1) rv hT J1 ⟨.bl false, H1, P1.inv, rfl, p _ H1 (.bl false) l1⟩).2
    | some c' =>
      rw [he] at p
      simp only at p
      obtain ⟨b, rfl⟩ := own_ref ry he
      cases (show v = Value.ref b from rv)
      obtain ⟨C', dd', sl', od', hm', J'⟩ := own_obj P.inv ry he
      cases hG : cmAt c "__eq__" cm with
      | none => rw [hG] at p; exact p.elim
      | some G =>
        cases hG' : cmAt c' "__eq__" cm with
        | none => rw [hG, hG'] at p; exact p.elim
        | some G' =>
          rw [hG, hG'] at p
          simp only [Option.bind_some] at p
          obtain ⟨g0, h1, h2, CF0⟩ := OK _ _ _ (cmAt_mem hG) C hm
          obtain ⟨g1, h1', h2', CF1⟩ := OK _ _ _ (cmAt_mem hG') C' hm'
          have hn : (Value.ref C) ≠ (Value.ref C') → PySem.W.Looks (model X.prog X.w) s.heap (isSubtype (.ref C') (.ref C)) false := fun ne => by
            have cne : c ≠ c' := fun z => by
              subst z
              cases hm.symm.trans hm'
              exact ne rfl
            exact PySem.W.looks_subIn P.inv.kIn (CK.cc _ _ _ _ _ _ (cmAt_mem hG) (cmAt_mem hG') hm hm' cne).1
          refine rc_eq hu (oneThing_ref _ _ _) J.type J'.type hn ?_
          cases hg : G d e with
          | none => rw [hg] at p; exact p.elim
          | some o =>
            rw [hg] at p
            refine try_own P.inv.kIn J h1 h2 (cm_run CF0 fr hk P rx ry ru rv hg fun r s1 H1 P1 l1 hz => ?_)
            cases o with
            | some z =>
              cases z <;> first | exact p.elim | skip
              rename_i bb
              obtain ⟨v', q1, q2⟩ := hz
              cases bl_of q1 q2
              exact ⟨.bl bb, H1, P1.inv, rfl, p _ H1 (.bl bb) l1⟩
            | none =>
              subst hz
              simp only at p
              split at p
              · exact p.elim
              rename_i cne
              split at p
              rotate_left
              · exact p.elim
              rename_i hg'
              obtain ⟨C1, dd1, sl1, od1, hm1, J1⟩ := own_obj P1.inv (ry.le0 l1) he
              cases hm'.symm.trans hm1
              refine try_own P1.inv.kIn J1 h1' h2' (cm_run CF1 fr hk P1 (ry.le0 l1) (rx.le0 l1) rv ru hg' fun r s2 H2 P2 l2 hz => ?_)
              subst hz
              obtain ⟨C3, dd3, sl3, od3, hm3, J3⟩ := own_obj P2.inv ((rx.le0 l1).le0 l2) hd
              obtain ⟨C4, dd4, sl4, od4, hm4, J4⟩ := own_obj P2.inv ((ry.le0 l1).le0 l2) he
              cases hm.symm.trans hm3
              cases hm'.symm.trans hm4
              have ne : a ≠ b := fun z => by
                subst z
                have y1 := J3.at_
                rw [J4.at_] at y1
                injection y1 with y1
                have : C' = C := Value.ref.inj (congrArg Obj.cls y1)
                exact (CK.cc _ _ _ _ _ _ (cmAt_mem hG) (cmAt_mem hG') hm hm' cne).2 this.symm
              exact wpAny_isSame_ref_other ne J3.at_ J4.at_ (by exact fun z => nomatch z) ⟨.bl false, H2, P2.inv, rfl, p _ H2 (.bl false) (l1.trans l2)⟩
/-- own beside own, own beside data, data beside own: what != says -/
theorem op_neX (OK : CmOk (gg X T) k cm) (CK : CmK X.K X.mg cm) (hr : RoomQ ht (k + 1) X.A) : Op2D X T wx (compareOp .NotEq) (fNeX cm) := by
  intro W pins s σ H x y u v d e Q P rx ry ru rv p
  have hu : X.A.units < cLine := by have := hr.un; omega
  have fr : X.A.frames = some X.stack := P.inv.ok.frames
  have hk : RoomQ true k X.A.in1 := (hr.to (ht' := true) (Nat.le_refl _) fun _ => rfl).in1
  have hu1 : X.A.units + 1 < cLine := by have := hr.un; omega
  show wpAny _ _ (richCompare .NotEq u v) _ _ _
  unfold fNeX at p
  have bl_of : ∀ {b : Bool} {v' : V} {r : Value} {H' : Hp}, RelV v' r → Rep (gg X T) H' W v' (.bl b) → r = .bool b := fun {b v' r H'} h1 h2 => by
    cases h2
    exact h1
  cases hd : clsD d with
  | none =>
    cases he : clsD e with
    | none =>
      rw [hd, he] at p
      exact op2D_of (wx := wx) (op_neAll (hr.units)) o2_ne W pins s σ H x y u v d e Q P rx ry ru rv p
    | some c' =>
      rw [hd, he] at p
      replace p : LPost (gg X T) W H Q (fun c d H' => wx c d σ H') (loD ((eqO cm d e).map fun b => .bl (!b))) := p
      unfold eqO at p
      rw [hd, he] at p
      simp only at p
      cases hG : cmAt c' "__eq__" cm with
      | none => rw [hG] at p; exact p.elim
      | some G =>
        cases hT : btT d with
        | none => rw [hG, hT] at p; exact p.elim
        | some Ty =>
          rw [hG, hT] at p
          simp only [Option.bind_some] at p
          split at p
          rotate_left
          · exact p.elim
          rename_i hg
          obtain ⟨b, rfl⟩ := own_ref ry he
          cases (show v = Value.ref b from rv)
          obtain ⟨C, dd, sl, od, hm, J⟩ := own_obj P.inv ry he
          obtain ⟨y1, y2, hb⟩ := CK.cl _ _ _ (cmAt_mem hG) hm
          obtain ⟨g0, h1, h2, CF0⟩ := OK _ _ _ (cmAt_mem hG) C hm
          refine rc_ne hu (one_no P.inv rx ru hT) (ty_looks (data_ty P.inv rx ru hT)) J.type (fun _ => PySem.W.looks_subIn P.inv.kIn (hb Ty (bt_mem hT)).2) ?_
          refine (tb_data P.inv rx ru hT J hb ?_).2
          refine try_ne hu1 P.inv.kIn J y1 y2 h1 h2 (cm_run (A := X.A.in1) CF0 fr hk P ry rx rv ru hg fun r s1 H1 P1 l1 hz => ?_)
          subst hz
          obtain ⟨C1, dd1, sl1, od1, hm1, J1⟩ := own_obj P1.inv (ry.le0 l1) he
          exact (same_no P1.inv (rx.le0 l1) ru hT J1 ⟨.bl true, H1, P1.inv, rfl, p _ H1 (.bl true) l1⟩).1
  | some c =>
    obtain ⟨a, rfl⟩ := own_ref rx hd
    cases (show u = Value.ref a from ru)
    obtain ⟨C, dd, sl, od, hm, J⟩ := own_obj P.inv rx hd
    rw [hd] at p
    replace p : LPost (gg X T) W H Q (fun c d H' => wx c d σ H') (loD ((eqO cm d e).map fun b => .bl (!b))) := p
    unfold eqO at p
    rw [hd] at p
    cases he : clsD e with
    | none =>
      rw [he] at p
      simp only at p
      cases hG : cmAt c "__eq__" cm with
      | none => rw [hG] at p; exact p.elim
      | some G =>
        cases hT : btT e with
        | none => rw [hG, hT] at p; exact p.elim
        | some Ty =>
          rw [hG, hT] at p
          simp only [Option.bind_some] at p
          split at p
          rotate_left
          · exact p.elim
          rename_i hg
          obtain ⟨y1, y2, hb⟩ := CK.cl _ _ _ (cmAt_mem hG) hm
          obtain ⟨g0, h1, h2, CF0⟩ := OK _ _ _ (cmAt_mem hG) C hm
          refine rc_ne hu (oneThing_ref _ _ _) J.type (ty_looks (data_ty P.inv ry rv hT)) (fun _ => PySem.W.looks_subIn P.inv.kIn (hb Ty (bt_mem hT)).1) ?_
          refine try_ne hu1 P.inv.kIn J y1 y2 h1 h2 (cm_run (A := X.A.in1) CF0 fr hk P rx ry ru rv hg fun r s1 H1 P1 l1 hz => ?_)
          subst hz
          obtain ⟨C1, dd1, sl1, od1, hm1, J1⟩ := own_obj P1.inv (rx.le0 l1) hd
          cases hm.symm.trans hm1
          refine (tb_data P1.inv (ry.le0 l1) rv hT J1 hb ?_).2
          exact (same_no P1.inv (ry.le0 l1) rv hT J1 ⟨.bl true, H1, P1.inv, rfl, p _ H1 (.bl true) l1⟩).2
    | some c' =>
      rw [he] at p
      simp only at p
      obtain ⟨b, rfl⟩ := own_ref ry he
      cases (show v = Value.ref b from rv)
      obtain ⟨C', dd', sl', od', hm', J'⟩ := own_obj P.inv ry he
      cases hG : cmAt c "__eq__" cm with
      | none => rw [hG] at p; exact p.elim
      | some G =>
        cases hG' : cmAt c' "__eq__" cm with
        | none => rw [hG, hG'] at p; exact p.elim
        | some G' =>
          rw [hG, hG'] at p
          simp only [Option.bind_some] at p
          obtain ⟨g0, h1, h2, CF0⟩ := OK _ _ _ (cmAt_mem hG) C hm
          obtain ⟨y1, y2, hb⟩ := CK.cl _ _ _ (cmAt_mem hG) hm
          obtain ⟨z1, z2, hb'⟩ := CK.cl _ _ _ (cmAt_mem hG') hm'
          obtain ⟨g1, h1', h2', CF1⟩ := OK _ _ _ (cmAt_mem hG') C' hm'
          have hn : (Value.ref C) ≠ (Value.ref C') → PySem.W.Looks (model X.prog X.w) s.heap (isSubtype (.ref C') (.ref C)) false := fun ne => by
            have cne : c ≠ c' := fun z => by
              subst z
              cases hm.symm.trans hm'
              exact ne rfl
            exact PySem.W.looks_subIn P.inv.kIn (CK.cc _ _ _ _ _ _ (cmAt_mem hG) (cmAt_mem hG') hm hm' cne).1
          refine rc_ne hu (oneThing_ref _ _ _) J.type J'.type hn ?_
          cases hg : G d e with
          | none => rw [hg] at p; exact p.elim
          | some o =>
            rw [hg] at p
            refine try_ne hu1 P.inv.kIn J y1 y2 h1 h2 (cm_run (A := X.A.in1) CF0 fr hk P rx ry ru rv hg fun r s1 H1 P1 l1 hz => ?_)
            cases o with
            | some z =>
              cases z <;> first | exact p.elim | skip
              rename_i bb
              obtain ⟨v', q1, q2⟩ := hz
              cases bl_of q1 q2
              exact ⟨.bl (!bb), H1, P1.inv, rfl, p _ H1 (.bl (!bb)) l1⟩
            | none =>
              subst hz
              simp only at p
              split at p
              · exact p.elim
              rename_i cne
              split at p
              rotate_left
              · exact p.elim
              rename_i hg'
              obtain ⟨C1, dd1, sl1, od1, hm1, J1⟩ := own_obj P1.inv (ry.le0 l1) he
              cases hm'.symm.trans hm1
              refine try_ne hu1 P1.inv.kIn J1 z1 z2 h1' h2' (cm_run (A := X.A.in1) CF1 fr hk P1 (ry.le0 l1) (rx.le0 l1) rv ru hg' fun r s2 H2 P2 l2 hz => ?_)
              subst hz
              obtain ⟨C3, dd3, sl3, od3, hm3, J3⟩ := own_obj P2.inv ((rx.le0 l1).le0 l2) hd
              obtain ⟨C4, dd4, sl4, od4, hm4, J4⟩ := own_obj P2.inv ((ry.le0 l1).le0 l2) he
              cases hm.symm.trans hm3
              cases hm'.symm.trans hm4
              have ne : a ≠ b := fun z => by
                subst z
                have w1 := J3.at_
                rw [J4.at_] at w1
                injection w1 with w1
                have : C' = C := Value.ref.inj (congrArg Obj.cls w1)
                exact (CK.cc _ _ _ _ _ _ (cmAt_mem hG) (cmAt_mem hG') hm hm' cne).2 this.symm
              exact wpAny_isSame_ref_other ne J3.at_ J4.at_ (by exact fun z => nomatch z) ⟨.bl true, H2, P2.inv, rfl, p _ H2 (.bl true) (l1.trans l2)⟩
end
end DL

set_option Elab.async false
set_option linter.all false
set_option maxRecDepth 100000
set_option maxHeartbeats 4000000
set_option autoImplicit false
/-! calls by the names of parameters; static methods; a class's constants -/
namespace DL
open L2 PyProof.Rows PySem.Spec PySem G58 SlX
variable [TbL]
/-- picks out of values and defaults, by places -/
def pkL {α : Type} (js : List (Nat ⊕ Nat)) (as ds : List α) : List α := js.filterMap fun j => match j with
  | .inl i => as[i]?
  | .inr i => ds[i]?
theorem vals_get? {vs : List V} {us : List Value} (r : Vals vs us) (i : Nat) : (vs[i]? = none ∧ us[i]? = none) ∨ ∃ v u, vs[i]? = some v ∧ us[i]? = some u ∧ RelV v u := by
  cases e : vs[i]? with
  | none => exact .inl ⟨rfl, by
      have l := r.length
      have := List.getElem?_eq_none_iff.mp e
      exact List.getElem?_eq_none_iff.mpr (by omega)⟩
  | some v =>
    obtain ⟨u, h1, h2⟩ := r.get e
    exact .inr ⟨v, u, rfl, h1, h2⟩
theorem reps_get? {Γ : GG} {H : Hp} {W : As} {vs : List V} {ds : List D} (r : Reps Γ H W vs ds) (i : Nat) : (vs[i]? = none ∧ ds[i]? = none) ∨ ∃ v d, vs[i]? = some v ∧ ds[i]? = some d ∧ Rep Γ H W v d := by
  cases e : vs[i]? with
  | none => exact .inl ⟨rfl, by
      have l := r.len
      have := List.getElem?_eq_none_iff.mp e
      exact List.getElem?_eq_none_iff.mpr (by omega)⟩
  | some v =>
    obtain ⟨u, h1, h2⟩ := r.get e
    exact .inr ⟨v, u, rfl, h1, h2⟩
theorem vals_pk {vs zs : List V} {us ws : List Value} (r : Vals vs us) (r2 : Vals zs ws) : ∀ js : List (Nat ⊕ Nat), Vals (pkL js vs zs) (pkL js us ws)
  | [] => .nil
  | .inl i :: js => by
    have ih := vals_pk r r2 js
    unfold pkL at ih ⊢
    rcases vals_get? r i with ⟨e1, e2⟩ | ⟨v, u, e1, e2, q⟩
    · simp only [List.filterMap_cons, e1, e2]; exact ih
    · simp only [List.filterMap_cons, e1, e2]; exact .cons q ih
  | .inr i :: js => by
    have ih := vals_pk r r2 js
    unfold pkL at ih ⊢
    rcases vals_get? r2 i with ⟨e1, e2⟩ | ⟨v, u, e1, e2, q⟩
    · simp only [List.filterMap_cons, e1, e2]; exact ih
    · simp only [List.filterMap_cons, e1, e2]; exact .cons q ih
theorem reps_pk {Γ : GG} {H : Hp} {W : As} {vs zs : List V} {us ws : List D} (r : Reps Γ H W vs us) (r2 : Reps Γ H W zs ws) : ∀ js : List (Nat ⊕ Nat), Reps Γ H W (pkL js vs zs) (pkL js us ws)
  | [] => .nil
  | .inl i :: js => by
    have ih := reps_pk r r2 js
    unfold pkL at ih ⊢
    rcases reps_get? r i with ⟨e1, e2⟩ | ⟨v, u, e1, e2, q⟩
    · simp only [List.filterMap_cons, e1, e2]; exact ih
    · simp only [List.filterMap_cons, e1, e2]; exact .cons q ih
  | .inr i :: js => by
    have ih := reps_pk r r2 js
    unfold pkL at ih ⊢
    rcases reps_get? r2 i with ⟨e1, e2⟩ | ⟨v, u, e1, e2, q⟩
    · simp only [List.filterMap_cons, e1, e2]; exact ih
    · simp only [List.filterMap_cons, e1, e2]; exact .cons q ih
/-- how n values in their places and values by the names ks come to the parameters -/
structure KwB (K : PySem.W.Frag) (fd : FuncData) (ps : List Str) (n : Nat) (ks : List Str) (js : List (Nat ⊕ Nat)) (dus : List Value) : Prop where
  to : ∀ (s : Shared) (us ws : List Value), K.In s.heap → us.length = n → ws.length = ks.length → BindsTo s fd ⟨us, ks.zip ws⟩ (ps.zip (pkL js (us ++ ws) dus))
theorem KwB.ofD {K : PySem.W.Frag} {x qual : Str} {params : Arguments} {body : List Stmt} {scope : Scope} {dvs : List V} {f : Addr} {fd : FuncData} {ps : List Str} (F : FunD K x qual params body scope dvs [] f fd) (n : Nat) (ks : List Str) (js : List (Nat ⊕ Nat)) (hd : dvs ≠ [])
    (h : ∀ (T : Addr) (kV doc pm : Value) (an : Option Addr) (cdv ct : Value) (us its ws : List Value), us.length = n → its.length = dvs.length → ws.length = ks.length →
      ∃ k, bindArgs (PySem.W.fnOf x qual params body scope (.ref T) kV doc pm an cdv ct) ⟨us, ks.zip ws⟩ = seqItems? (.ref T) >>= k ∧ k (some its.toArray) = pure (ps.zip (pkL js (us ++ ws) its))) :
    ∃ dus : List Value, Vals dvs dus ∧ KwB K fd ps n ks js dus := by
  obtain ⟨oc, od, dV, kV, doc, pm, an, cdv, ct, osl, rfl, lk, hcd, hD, hK⟩ := F.ex
  rcases hD with ⟨e, _⟩ | ⟨_, T, o, its, m, rfl, lT, oT, rT⟩
  · exact absurd e hd
  · refine ⟨its, rT, ⟨fun s us ws X l1 l2 => ?_⟩⟩
    obtain ⟨k, e1, e2⟩ := h T kV doc pm an cdv ct us its ws l1 rT.length.symm l2
    refine BindsTo.of_looks fun M => ?_
    rw [e1]
    exact looks_items X lT oT (.of_pure e2)
theorem KwB.ofF {K : PySem.W.Frag} {x qual : Str} {st : Stmt} {f : Addr} {fd : FuncData} {ps : List Str} (F : Fun K x qual st f fd) (n : Nat) (ks : List Str) (js : List (Nat ⊕ Nat))
    (h : ∀ (kV doc pm : Value) (an : Option Addr) (cdv ct : Value) (us ws : List Value), us.length = n → ws.length = ks.length →
      bindArgs (PySem.W.fnOf x qual (defArgs st) (defBody st) (defScope st) .none kV doc pm an cdv ct) ⟨us, ks.zip ws⟩ = pure (ps.zip (pkL js (us ++ ws) []))) : KwB K fd ps n ks js [] := by
  obtain ⟨oc, od, kV, doc, pm, an, cdv, ct, osl, rfl, lk, hcd⟩ := F.ex
  exact ⟨fun s us ws X l1 l2 => .of_eq (h kV doc pm an cdv ct us ws l1 l2)⟩
/-- a def, called by names -/
structure DnK (Γ : GG) (gd ht : Bool) (k : Nat) (x : Str) (ks : List Str) (js : List (Nat ⊕ Nat)) (dd : List D) (n : Nat) (F : FnD) : Prop where
  ex : ∃ (f : Addr) (fd : FuncData) (ps : List Str) (dus : List Value) (dvs : List V), Γ.mg x = some (.ref f) ∧ PySem.W.keepIn Γ.K (.ref f) = true ∧ KwB Γ.K fd ps 0 ks js dus ∧ Vals dvs dus ∧ (∀ H W, Reps Γ H W dvs dd) ∧ FnX Γ gd ht k f fd ps (liftSp Γ n F)
/-- a class, made by names -/
structure MkK (Γ : GG) (C : Addr) (gd ht : Bool) (k : Nat) (ks : List Str) (js : List (Nat ⊕ Nat)) (dd : List D) (n : Nat) (F : FnD) : Prop where
  ex : ∃ (fI : Addr) (fd : FuncData) (ps : List Str) (dus : List Value) (dvs : List V), Mk Γ.K C fI ∧ KwB Γ.K fd ps 1 ks (.inl 0 :: js) dus ∧ Vals dvs dus ∧ (∀ H W, Reps Γ H W dvs dd) ∧ FnX Γ gd ht k fI fd ps (liftSp Γ n F)
/-- a method, called by names -/
structure MtK (Γ : GG) (g0 : Addr) (gd ht : Bool) (k : Nat) (ks : List Str) (js : List (Nat ⊕ Nat)) (n : Nat) (F : FnD) : Prop where
  ex : ∃ (fd : FuncData) (ps : List Str), KwB Γ.K fd ps 1 ks (.inl 0 :: js) [] ∧ FnX Γ gd ht k g0 fd ps (liftSp Γ n F)
/-- a static method's def -/
structure StK (Γ : GG) (g0 : Addr) (gd ht : Bool) (k : Nat) (ks : List Str) (js : List (Nat ⊕ Nat)) (n : Nat) (F : FnD) : Prop where
  ex : ∃ (fd : FuncData) (ps : List Str), KwB Γ.K fd ps 0 ks js [] ∧ FnX Γ gd ht k g0 fd ps (liftSp Γ n F)
structure Stat (K : PySem.W.Frag) (C : Addr) (mc : Value) (m : Str) (p g : Addr) : Prop where
  rd : ClX.CRead K C mc
  at_ : PySem.W.findCls K (.ref C) mc m = some (.get (.builtin "staticmethod.__get__") (.ref p) .none (.ref C))
  rc : ∃ rest, PySem.W.recIn K p "staticmethod" = some (.ref g :: rest)
  kp : PySem.W.keepIn K (.ref g) = true
def callV (n : Nat) (F : FnD) (ds : List D) : ME D := callD n F (ds.map .v)
def badE {α : Type} : ME α := fun _ => .bad
def eCallK (m n : Nat) (F : FnD) (js : List (Nat ⊕ Nat)) (dd : List D) (A : ME (List D)) : ME D := bnd A fun ds => if ds.length = m then callV n F (pkL js ds dd) else badE
def eMakeK (m : Nat) (sl : Bool) (c : Str) (n : Nat) (F : FnD) (js : List (Nat ⊕ Nat)) (dd : List D) (A : ME (List D)) : ME D := bnd A fun ds => if ds.length = m then mkX sl c n F (pkL js (D.non :: ds) dd) else badE
def eMethK (m : Nat) (c : Str) (n : Nat) (F : FnD) (js : List (Nat ⊕ Nat)) (Fo : ME D) (A : ME (List D)) : ME D := bnd Fo fun d => if isS c d then bnd A fun ds => if ds.length = m then callV n F (pkL (.inl 0 :: js) (d :: ds) []) else badE else badE
section
variable {X : Cx} {T : TTb} {W : WX} {gd ht : Bool} {k n : Nat} {f C : Addr} {fd : FuncData} {ps ks : List Str} {js : List (Nat ⊕ Nat)} {sp : Sp} {pins : List (Addr × Obj)} {σ : L2.St} {H : Hp} {s : Shared} {Q : VK} {us ws : List Value} {vs zs : List V} {dus : List Value} {dvs : List V}
theorem runKX (F : FnX (gg X T) gd ht k f fd ps sp) (hg : gd = true → X.A.guards = some []) (hr : RoomQ ht k X.A) (hb : KwB X.K fd ps n ks js dus) (hd : Vals dvs dus) (tk : Takes X W) (I : Inv X pins σ H s) (r : Vals vs us) (rz : Vals zs ws) (l1 : us.length = n) (l2 : ws.length = ks.length) (h : sp (pkL js (vs ++ zs) dvs) H Q (fun c d H' => W c d σ H')) :
    wpAny (model X.prog X.w) X.A (call (.ref f) us (ks.zip ws)) (EP X pins σ Q) X.xe s := by
  have r2 := vals_pk (r.append rz) hd js
  refine wpAny_call (codeAny_mono (F.run X.A X.stack s H ⟨us, ks.zip ws⟩ _ _ Q _ hg hr I.env0 (hb.to s us ws I.kIn l1 l2) r2 h) fun r s' hq => ?_)
  match r, hq with
  | .error e, hq => exact tk e s' (XE.of_call I (fun _ _ _ h => h) hq)
  | .ok (.ret u), hq => exact I.after hq
  | .ok .next, hq => exact False.elim hq
  | .ok .brk, hq => exact False.elim hq
  | .ok .cont, hq => exact False.elim hq
theorem runMkK (M : Mk X.K C f) (F : FnX (gg X T) gd ht k f fd ps sp) (hg : gd = true → X.A.guards = some []) (hr : RoomQ ht (k + 1) X.A) (hb : KwB X.K fd ps 1 ks (.inl 0 :: js) dus) (hd : Vals dvs dus) (tk : Takes X W) (I : Inv X pins σ H s) (rz : Vals zs ws) (l2 : ws.length = ks.length)
    (h : ∀ x dx, H x = none → H dx = none → dx ≠ x → sp (.ref x :: pkL js (V.non :: zs) dvs) (upd (upd H dx (.own x)) x (.ins C dx [])) (fun v H2 => v = .non ∧ Q (.ref x) H2) (fun c d H' => W c d σ H')) (hj : ∀ j ∈ js, j ≠ .inl 0) :
    wpAny (model X.prog X.w) X.A (call (.ref C) [] (ks.zip ws)) (EP X pins σ Q) X.xe s := by
  have hrm : ∀ (C : Addr) (us : List Value) (kw : List (Str × Value)), (X.A.under (.builtin "type.__call__" ⟨.ref C :: us, kw⟩)).depth + 3 * k + 5 < recursionLimit ∧ (X.A.under (.builtin "type.__call__" ⟨.ref C :: us, kw⟩)).units + 16 * k + 200 < cLine := fun C us kw =>
    ⟨by have := hr.dp; rw [make_depth]; omega, by have := hr.un; rw [make_units]; omega⟩
  have hq := h (s.heap.objs.size + 1) s.heap.objs.size (I.hok.fresh (Nat.le_succ _)) (I.hok.fresh (Nat.le_refl _)) (Nat.ne_of_lt (Nat.lt_succ_self _))
  have J := Inv.made (C := C) I
  have same : ∀ {x : V} (js : List (Nat ⊕ Nat)), (∀ j ∈ js, j ≠ .inl 0) → pkL js (x :: zs) dvs = pkL js (V.non :: zs) dvs := by
    intro x js hj
    induction js with
    | nil => rfl
    | cons j js ih =>
      have ih := ih fun j h => hj j (List.mem_cons_of_mem _ h)
      unfold pkL at ih ⊢
      rw [List.filterMap_cons, List.filterMap_cons, ih]
      match j, hj j List.mem_cons_self with
      | .inl 0, z => exact absurd rfl z
      | .inl (i + 1), _ => rfl
      | .inr i, _ => rfl
  have r2 : Vals (V.ref (s.heap.objs.size + 1) :: pkL js (V.non :: zs) dvs) (pkL (.inl 0 :: js) ([Value.ref (s.heap.objs.size + 1)] ++ ws) dus) := by
    have q := vals_pk (vs := V.ref (s.heap.objs.size + 1) :: zs) (us := Value.ref (s.heap.objs.size + 1) :: ws) (.cons rfl rz) hd (.inl 0 :: js)
    rw [← same (x := V.ref (s.heap.objs.size + 1)) js hj]
    exact q
  refine wpAny_call (make_map (f := f) I.kIn M.makes M.init (beq_iff_eq.mp M.fn) (codeAny_mono (F.run _ X.stack _ _ ⟨[Value.ref (s.heap.objs.size + 1)], ks.zip ws⟩ _ _ _ _ (fun z => hg z) ⟨hr.hd, (hrm C [] _).1, (hrm C [] _).2⟩ (J.env0.make C [] _) (hb.to _ [Value.ref (s.heap.objs.size + 1)] ws J.kIn rfl l2) r2 hq) fun r s' hq' => ?_))
  match r, hq' with
  | .error e, hq' => exact tk e s' (XE.of_call J (fun _ _ _ h => h) hq')
  | .ok (.ret u), hq' =>
    obtain ⟨v, H', J3, rv, ev, q3⟩ := J.after hq'
    subst ev
    exact ⟨rv, ⟨V.ref (s.heap.objs.size + 1), H', J3, rfl, q3⟩⟩
  | .ok .next, hq' => exact False.elim hq'
  | .ok .brk, hq' => exact False.elim hq'
  | .ok .cont, hq' => exact False.elim hq'
end
/-! the rules -/
section
variable {X : Cx} {Wx : WT} {gd ht : Bool} {k n : Nat} {x c m : Str} {C g0 : Addr} {ks : List Str} {js : List (Nat ⊕ Nat)} {dd : List D} {F : FnD} {e o : Expr} {es : List Expr} {kws : List Keyword} {p pos apos kpos : Pos} {Fe Fo : ME D} {As' : ME (List D)} {nm : Option Str}
abbrev DKs (X : Cx) (Wx : WT) (kws : List Keyword) (F : ME (List D)) : Prop := PK X kws (liftA (gg X Wx.T) Wx F)
theorem pk_of {t t' : TA} (h : PK X kws t) (w : ∀ σ H Q, t' σ H Q → t σ H Q) : PK X kws t' := ⟨fun ps p s σ H Q I z => h.run ps p s σ H Q I (w σ H Q z)⟩
theorem dk_nil : DKs X Wx [] aNil := pk_of pk_nil fun σ H Q ⟨g, ms, δ, s, p⟩ => post_rtn s p _ .nil
theorem dk_cons (he : DE X Wx e Fe) (hr : DKs X Wx kws As') : DKs X Wx (⟨nm, e, kpos⟩ :: kws) (aCons Fe As') := by
  refine pk_of (pk_cons he hr) fun σ H Q ⟨g, ms, δ, s, p⟩ => ?_
  refine lift_bnd s p fun d1 δ1 H1 x s1 l1 r1 p1 => liftA_bnd s1 p1 fun d2 δ2 H2 y s2 l2 r2 p2 => ?_
  exact post_rtn s2 p2 _ (.cons (r1.up l2) r2)
theorem repsV_of {Γ : GG} {H : Hp} {fx : FX} {g : Gh fx} {ms : List Rg} {vs : List V} {ds : List D} (r : Reps Γ H (Wt g ms) vs ds) : RepsV Γ H g ms vs (ds.map .v) := by
  induction ds generalizing vs with
  | nil => cases r; exact .nil
  | cons d ds ih => cases r with
    | cons h r => exact .cons (.v h) (ih r)
theorem callK_lift {g : Gh Wx.fx} {ms : List Rg} {δ : Ds} {σ : L2.St} {H : Hp} {Q : VK} {dvs : List V} (s : Sim (gg X Wx.T) g ms δ σ H) (hdd : ∀ H W, Reps (gg X Wx.T) H W dvs dd) (p : Post (gg X Wx.T) Wx g ms σ H (fun d _ H' => ∀ v, Rep (gg X Wx.T) H' (Wt g ms) v d → Q v H') (eCallK ks.length n F js dd As' δ)) :
    liftA (gg X Wx.T) Wx As' σ H fun zs H1 => zs.length = ks.length ∧ liftSp (gg X Wx.T) n F (pkL js zs dvs) H1 Q (fun c d H' => Wx.wx c d σ H') := by
  refine liftA_bnd s p fun d1 δ1 H1 vs s1 l1 r1 p1 => ?_
  split at p1
  · rename_i hl
    exact ⟨by rw [r1.len, hl], call_lift s1 (repsV_of (reps_pk r1 (hdd _ _) js)) p1⟩
  · exact p1.elim
theorem de_callK {mm : Nat} (D' : DnK (gg X Wx.T) gd ht k x ks js dd n F) (hgd : gd = true → X.A.guards = some []) (hr : RoomQ ht k X.A) (tk : Takes X Wx.wx) (ha : DKs X Wx kws As') (hg : Gl X x := by rfl) (hdb : (x == ("__debug__" : Str)) = false := by decide)
    (hall : (backToKw pos (keywordEach kws X.env)).all (·.1.isSome) = true := by rfl) (hks : (backToKw pos (keywordEach kws X.env)).filterMap (·.1) = ks := by rfl)
    (hpl : ((backTo pos (starEach [] X.env)).any (·.1) || (backToKw pos (keywordEach kws X.env)).any (·.1.isNone)) = false := by rfl) (hkl : ks.length = mm := by rfl) : DE X Wx (.Call (.Name x p) [] kws pos) (eCallK mm n F js dd As') := by
  subst hkl
  obtain ⟨f, fd, ps, dus, dvs, hm, hk, hb, hd, hdd, FX⟩ := D'.ex
  refine ⟨fun pins s σ H Q I ⟨g, ms, δ, sim, p⟩ => wpAny_Call_Name_kw (ld_glob I hg hm ?_ hdb)⟩
  refine PySem.W.callWith_KW0 (h₀ := X.base) I.ok.mod.kin hk hall ?_ hpl
  refine thn (ha.run pos pins s σ H _ I (callK_lift sim hdd p)) fun ws s2 ⟨zs, H2, I2, rz, hl, q2⟩ => ⟨I2.kIn, ?_⟩
  rw [hks]
  exact runKX (us := []) (vs := []) FX hgd hr hb hd tk I2 .nil rz rfl (by rw [← rz.length]; exact hl) q2
theorem de_mkK {mm : Nat} (sl : Bool) (M : MkK (gg X Wx.T) C gd ht k ks js dd n F) (hgd : gd = true → X.A.guards = some []) (hr : RoomQ ht (k + 1) X.A) (tk : Takes X Wx.wx) (hm : X.mg c = some (.ref C)) (ha : DKs X Wx kws As') (hj : ∀ j ∈ js, j ≠ .inl 0 := by decide) (hg : Gl X c := by rfl) (hdb : (c == ("__debug__" : Str)) = false := by decide)
    (hall : (backToKw pos (keywordEach kws X.env)).all (·.1.isSome) = true := by rfl) (hks : (backToKw pos (keywordEach kws X.env)).filterMap (·.1) = ks := by rfl)
    (hpl : ((backTo pos (starEach [] X.env)).any (·.1) || (backToKw pos (keywordEach kws X.env)).any (·.1.isNone)) = false := by rfl) (hkl : ks.length = mm := by rfl) : DE X Wx (.Call (.Name c p) [] kws pos) (eMakeK mm sl c n F js dd As') := by
  subst hkl
  obtain ⟨fI, fd, ps, dus, dvs, mk, hb, hd, hdd, FX⟩ := M.ex
  refine ⟨fun pins s σ H Q I ⟨g, ms, δ, sim, p⟩ => wpAny_Call_Name_kw (ld_glob I hg hm ?_ hdb)⟩
  refine PySem.W.callWith_KW0 (h₀ := X.base) I.ok.mod.kin mk.kp hall ?_ hpl
  refine thn (ha.run pos pins s σ H (fun zs H1 => zs.length = ks.length ∧ ∀ x dx, H1 x = none → H1 dx = none → dx ≠ x → liftSp (gg X Wx.T) n F (.ref x :: pkL js (V.non :: zs) dvs) (upd (upd H1 dx (.own x)) x (.ins C dx [])) (fun v H2 => v = .non ∧ Q (.ref x) H2) (fun c d H' => Wx.wx c d σ H')) I ?_) fun ws s2 ⟨zs, H2, I2, rz, hl, q2⟩ => ⟨I2.kIn, ?_⟩
  · refine liftA_bnd sim p fun d1 δ1 H1 vs s1 l1 r1 p1 => ?_
    split at p1
    · rename_i hl
      exact ⟨by rw [r1.len, hl], fun x dx hx hd ne => makeX_lift s1 hm (reps_pk (.cons .non r1) (hdd _ _) js) hx hd ne p1⟩
    · exact p1.elim
  · rw [hks]
    exact runMkK mk FX hgd hr hb hd tk I2 rz (by rw [← rz.length]; exact hl) q2 hj
/-- o.m(k = v, ..), o an instance with slots -/
theorem de_mSK {mm : Nat} {pl : Sem Bool} (ho : DE X Wx o Fo) (hm : X.mg c = some (.ref C)) (cl : SCls X.K C) (me : Meth X.K C m g0) (M : MtK (gg X Wx.T) g0 gd ht k ks js n F) (hgd : gd = true → X.A.guards = some []) (hr : RoomQ ht k X.A) (tk : Takes X Wx.wx) (ha : DKs X Wx kws As')
    (hall : (backToKw pos (keywordEach kws X.env)).all (·.1.isSome) = true := by rfl) (hks : (backToKw pos (keywordEach kws X.env)).filterMap (·.1) = ks := by rfl)
    (hpl : ((backTo pos (starEach [] X.env)).any (·.1) || (backToKw pos (keywordEach kws X.env)).any (·.1.isNone)) = false := by rfl)
    (htt : eval (.Call (.Attribute o m apos) [] kws pos) X.env = (do
      let ov ← eval o X.env
      standAt apos.atName
      let (f, first) ← holding [ov] (getMethod ov m pl)
      callWith pos f first (backTo pos (starEach [] X.env)) (backToKw pos (keywordEach kws X.env))) := by rfl) (hkl : ks.length = mm := by rfl) : DE X Wx (.Call (.Attribute o m apos) [] kws pos) (eMethK mm c n F js Fo As') := by
  subst hkl
  obtain ⟨fd, ps, hb, FX⟩ := M.ex
  refine ⟨fun pins s σ H Q I ⟨g, ms, δ, sim, p⟩ => PySem.W.methodCall_KW (pl := pl) (thn (ho.run pins s σ H (fun x H1 => ∃ a dx vs, x = .ref a ∧ Slt H1 a C dx vs ∧ liftA (gg X Wx.T) Wx As' σ H1 fun zs H2 => zs.length = ks.length ∧ liftSp (gg X Wx.T) n F (pkL (.inl 0 :: js) (.ref a :: zs) []) H2 Q (fun c d H' => Wx.wx c d σ H')) I ?_) fun u s1 z => ?_) htt⟩
  · refine lift_bnd sim p fun d δ1 H1 v s1 l1 r1 p1 => ?_
    split at p1
    rotate_left
    · exact p1.elim
    rename_i cc
    obtain ⟨a, dx, gs, fs, rfl, rfl, h2, h3⟩ := isS_rep hm cc r1
    refine ⟨a, dx, gs, rfl, h2, ?_⟩
    refine liftA_bnd s1 p1 fun d2 δ2 H2 vs s2 l2 r2 p2 => ?_
    split at p2
    · rename_i hl
      exact ⟨by rw [r2.len, hl], call_lift s2 (repsV_of (reps_pk (.cons (r1.up l2) r2) .nil (.inl 0 :: js))) p2⟩
    · exact p2.elim
  · obtain ⟨x, H1, I1, rx, a, dx, vs, ex, hsl, q⟩ := z
    subst ex
    cases (show u = Value.ref a from rx)
    refine getmethsl_ok I1 hsl cl me (PySem.W.callWith_KW0 (first := [.ref a]) (h₀ := X.base) I.ok.mod.kin me.kp hall ?_ hpl)
    refine thn (ha.run pos pins s1 σ H1 _ I1 q) fun ws s2 ⟨zs, H2, I2, rz, hl, q2⟩ => ⟨I2.kIn, ?_⟩
    rw [hks]
    exact runKX (us := [.ref a]) (vs := [.ref a]) FX hgd hr hb .nil tk I2 (.cons rfl .nil) rz rfl (by rw [← rz.length]; exact hl) q2
/-! static methods -/
theorem getst_ok {pins : List (Addr × Obj)} {σ : L2.St} {H : Hp} {s : Shared} {A : Around} {E : Value → Shared → Prop} {pl : Sem Bool} {mc : Value} {pp : Addr} {Q : Value × List Value → Shared → Prop} (I : Inv X pins σ H s) (S : Stat X.K C mc m pp g0) (q : ∀ s', Inv X pins σ H s' → Q (.ref g0, []) s') : wpAny (model X.prog X.w) A (getMethod (.ref C) m pl) Q E s := by
  obtain ⟨rest, hp⟩ := S.rc
  refine PySem.W.method_cls I.kIn S.rd.ga (PySem.W.cls_bind I.kIn S.rd.rd S.at_ (wpAny_call (PySem.W.sm_get (s := { s with toks := s.toks + 1 }) I.kIn hp (PySem.W.handed_on rfl ?_))))
  exact q _ (I.tok _)
theorem de_st {pl : Sem Bool} {mc : Value} {pp : Addr} (hm : X.mg c = some (.ref C)) (S : Stat X.K C mc m pp g0) (FO : FnRX (gg X Wx.T) gd ht k g0 (liftSp (gg X Wx.T) n F)) (hgd : gd = true → X.A.guards = some []) (hr : RoomQ ht k X.A) (tk : Takes X Wx.wx) (ha : DA X Wx (e :: es) As') (hg : Gl X c := by rfl) (hdb : (c == ("__debug__" : Str)) = false := by decide)
    (hst : starEach (e :: es) X.env = (false, eval e X.env) :: starEach es X.env := by rfl) (hpl : (backTo pos (starEach es X.env)).any (·.1) = false := by rfl)
    (htt : eval (.Call (.Attribute (.Name c p) m apos) (e :: es) [] pos) X.env = (do
      let ov ← eval (.Name c p) X.env
      standAt apos.atName
      let (f, first) ← holding [ov] (getMethod ov m pl)
      callWith pos f first (backTo pos (starEach (e :: es) X.env)) (backToKw pos (keywordEach [] X.env))) := by rfl) : DE X Wx (.Call (.Attribute (.Name c p) m apos) (e :: es) [] pos) (bnd As' fun ds => callV n F ds) := by
  refine ⟨fun pins s σ H Q I ⟨g, ms, δ, sim, p⟩ => PySem.W.methodCall_KW (pl := pl) (ld_glob I hg hm ?_ hdb) htt⟩
  refine getst_ok I S fun s1 I1 => ?_
  refine PySem.W.callWith_K (first := []) (h₀ := X.base) I.ok.mod.kin S.kp (thn (ha.run pos pins s1 σ H (fun vs H2 => liftSp (gg X Wx.T) n F vs H2 Q (fun c d H' => Wx.wx c d σ H')) I1 ?_) fun us s2 ⟨ws, H2, I2, r, q2⟩ => ⟨I2.kIn, wpAny_call (runR (us := us) (vs := ws) FO hgd hr tk I2 r q2)⟩) hst hpl
  refine liftA_bnd sim p fun d1 δ1 H1 vs s1 l1 r1 p1 => ?_
  exact call_lift s1 (repsV_of r1) p1
theorem de_stK {mm : Nat} {pl : Sem Bool} {mc : Value} {pp : Addr} (hm : X.mg c = some (.ref C)) (S : Stat X.K C mc m pp g0) (M : StK (gg X Wx.T) g0 gd ht k ks js n F) (hgd : gd = true → X.A.guards = some []) (hr : RoomQ ht k X.A) (tk : Takes X Wx.wx) (ha : DKs X Wx kws As') (hg : Gl X c := by rfl) (hdb : (c == ("__debug__" : Str)) = false := by decide)
    (hall : (backToKw pos (keywordEach kws X.env)).all (·.1.isSome) = true := by rfl) (hks : (backToKw pos (keywordEach kws X.env)).filterMap (·.1) = ks := by rfl)
    (hpl : ((backTo pos (starEach [] X.env)).any (·.1) || (backToKw pos (keywordEach kws X.env)).any (·.1.isNone)) = false := by rfl)
    (htt : eval (.Call (.Attribute (.Name c p) m apos) [] kws pos) X.env = (do
      let ov ← eval (.Name c p) X.env
      standAt apos.atName
      let (f, first) ← holding [ov] (getMethod ov m pl)
      callWith pos f first (backTo pos (starEach [] X.env)) (backToKw pos (keywordEach kws X.env))) := by rfl) (hkl : ks.length = mm := by rfl) : DE X Wx (.Call (.Attribute (.Name c p) m apos) [] kws pos) (eCallK mm n F js [] As') := by
  subst hkl
  obtain ⟨fd, ps, hb, FX⟩ := M.ex
  refine ⟨fun pins s σ H Q I ⟨g, ms, δ, sim, p⟩ => PySem.W.methodCall_KW (pl := pl) (ld_glob I hg hm ?_ hdb) htt⟩
  refine getst_ok I S fun s1 I1 => ?_
  refine PySem.W.callWith_KW0 (first := []) (h₀ := X.base) I.ok.mod.kin S.kp hall ?_ hpl
  refine thn (ha.run pos pins s1 σ H _ I1 (callK_lift (dvs := []) sim (fun _ _ => .nil) p)) fun ws s2 ⟨zs, H2, I2, rz, hl, q2⟩ => ⟨I2.kIn, ?_⟩
  rw [hks]
  exact runKX (us := []) (vs := []) FX hgd hr hb .nil tk I2 .nil rz rfl (by rw [← rz.length]; exact hl) q2
end
end DL

set_option Elab.async false
set_option linter.all false
set_option maxRecDepth 100000
set_option maxHeartbeats 4000000
set_option autoImplicit false
/-! str and bool of own things; a list times an int; constants of classes; methods of texts; chains -/
namespace DL
open L2 PyProof.Rows PySem.Spec PySem G58 SlX
variable [TbL]
section
variable {X : Cx} {T : TTb} {wx : WX} {k : Nat} {ow : OwT} {ht : Bool}
/-- an own method without further parameters, called at A -/
theorem ownV_run {W : As} {pins : List (Addr × Obj)} {s : Shared} {σ : L2.St} {H : Hp} {v : V} {u : Value} {d r : D} {m c : Str} {A : Around} {R : Value → Shared → Prop} {E : Value → Shared → Prop} (OK : OwOk (gg X T) k ow) (hc : clsD d = some c) (h : ownV ow m d = some r) (P : At X T W pins σ H s) (rr : Rep (gg X T) H W v d) (ru : RelV v u) :
    ∃ (a C g0 : Addr) (ox od : Obj), v = .ref a ∧ u = .ref a ∧ PySem.W.InstAt s.heap a ox C (some od) ∧ PySem.W.findIn X.K (.ref C) m = some (some (.ref g0)) ∧ PySem.W.isFn X.K (.ref g0) = true ∧
      ∀ (A : Around) (E : Value → Shared → Prop) (R : Value → Shared → Prop), A.frames = some X.stack → RoomQ true k A → (∀ v' u' s' H', At X T W pins σ H' s' → LE0 H H' → Rep (gg X T) H' W v' r → RelV v' u' → R u' s') → wpAny (model X.prog X.w) A (call (.ref g0) [.ref a]) R E s := by
  obtain ⟨a, rfl⟩ := own_ref rr hc
  cases (show u = Value.ref a from ru)
  obtain ⟨C, ox, od, hm, J⟩ := rep_inst P.inv rr hc
  unfold ownV at h
  rw [hc] at h
  simp only at h
  split at h
  · rename_i F hF
    split at h
    · rename_i r' ss hr'
      cases h
      obtain ⟨g0, h1, h2, FO⟩ := OK _ _ _ _ (owAt_mem hF) C hm
      exact ⟨a, C, g0, ox, od, rfl, rfl, J, h1, h2, fun A E R hA hr q => own_run (A := A) (ds := [d]) FO hA hr P (.one rr) (.cons rfl .nil) hr' q⟩
    · cases h
  · cases h
def fStrX (ow : OwT) : List D → LO
  | [.str x] => .ok (.str x)
  | [d] => (match clsD d with
    | some _ => loD (((ownV ow "__str__" d).bind asStr).map .str)
    | none => loD (fStrI [d]))
  | _ => .bad
theorem call_strX (OK : OwOk (gg X T) k ow) (hr : RoomQ ht (k + 2) X.A) : CallD X T wx (.type "str") (fStrX ow) := by
  intro W pins s σ H xs us ds Q P rx ru p
  cases rx with
  | nil => exact p.elim
  | @cons v d vs ds r rr =>
    cases rr with
    | cons _ _ => cases d <;> exact p.elim
    | nil =>
      cases hc : clsD d with
      | none =>
        by_cases hs : ∃ x, d = .str x
        · obtain ⟨x, rfl⟩ := hs
          cases r
          obtain ⟨u, rfl, ru1⟩ := ru.one
          obtain ⟨t, rfl⟩ := (show ∃ t, u = Value.str x t from ru1)
          exact PySem.P.str_of_str ⟨.str x, H, P.inv, ⟨t, rfl⟩, p _ H (.str x) Le.refl⟩
        · have p' : LPost (gg X T) W H Q (fun c d H' => wx c d σ H') (loD (fStrI [d])) := by
            unfold fStrX at p
            split at p
            · rename_i x e
              cases e
              exact absurd ⟨_, rfl⟩ hs
            · rename_i d' _ e
              cases e
              rw [hc] at p
              exact p
            · rename_i e1 e2
              exact absurd rfl (e2 d)
          exact callD_of (wx := wx) call_str_int ol_strI W pins s σ H [v] us [d] Q P (.one r) ru p'
      | some c =>
        have p' : LPost (gg X T) W H Q (fun c d H' => wx c d σ H') (loD (((ownV ow "__str__" d).bind asStr).map .str)) := by
          cases d <;> cases hc <;> exact p
        obtain ⟨u, rfl, ru1⟩ := ru.one
        cases h : ownV ow "__str__" d with
        | none => rw [h] at p'; exact p'.elim
        | some z =>
          cases hz : asStr z with
          | none => rw [h] at p'; simp only [Option.bind_some, hz] at p'; exact p'.elim
          | some t =>
            rw [h] at p'
            simp only [Option.bind_some, hz] at p'
            cases asStr_some hz
            obtain ⟨a, C, g0, ox, od, rfl, rfl, J, h1, h2, run⟩ := ownV_run (A := X.A) (R := fun _ _ => True) (E := fun _ _ => True) OK hc h P r ru1
            refine PySem.W.kso_call (by have := hr.un; show X.A.units + 1 + 1 < _; omega) P.inv.kIn J h1 h2 ?_
            refine run X.A.in1.in1 _ _ P.inv.ok.frames (show RoomQ true (k + 1) X.A.in1 from (hr.to (ht' := true) (Nat.le_refl _) fun _ => rfl).in1).in1 fun v' u' s' H' P' l rr ru' => ?_
            cases rep_str rr
            obtain ⟨tk, rfl⟩ := (show ∃ tk, u' = Value.str t tk from ru')
            exact ⟨.str t, H', P'.inv, ⟨tk, rfl⟩, p' _ H' (.str t) l⟩
theorem bool_own {prog : Program} {w : World} {A : Around} {E : Value → Shared → Prop} {s : Shared} {K : PySem.W.Frag} {x C f : Addr} {ox : Obj} {od : Option Obj} {h₀ : Heap} {L : Addr} {m : Str → Option Value} {Q : Value → Shared → Prop} (FF : Fr h₀ L s.heap m) (X₀ : K.In h₀) (I : PySem.W.InstAt s.heap x ox C od) (hs : PySem.W.findIn K (.ref C) "__bool__" = some (some (.ref f))) (hf : PySem.W.isFn K (.ref f) = true)
    (h : wpAny (model prog w) A.in1.in1 (call (.ref f) [.ref x]) (PySem.W.BoolBack fun b s' => Q (.bool b) s') E s) : wpAny (model prog w) A (call (.type "bool") [.ref x]) Q E s := by
  refine callType_codes (T := "bool") (Bi := Builtin.«object.__init__») (Q₁ := fun r s₁ => ∃ b, r = Value.bool b ∧ Q r s₁) PySem.F.called_bool (PySem.F.typeCall_bool_1 _) PySem.F.entry_object_init ?_ ?_
  · refine codeAny_of_tree ?_
    show wpAny _ A.in1.in1 (do checkBuiltinCall "bool.__new__" ⟨[.type "bool", .ref x], []⟩; again (.builtin "bool.__new__" ⟨[.type "bool", .ref x], []⟩)) _ _ s
    refine wpAny_bind (wpAny_of_eq (PySem.F.newCall_bool_1 _) (wpAny_pure ⟨plainId_quiet (by decide +kernel) _, codeAny_builtin PySem.F.entry_bool_new ?_⟩))
    rw [Around.under_plainId (by decide +kernel) _]
    have tr : wpAny (model prog w) A.in1.in1 (truthy (.ref x)) (fun b s' => Q (.bool b) s') E s := PySem.W.truthy_K FF X₀ I hs hf h
    obtain ⟨hp, g, d, tk, os⟩ := s
    unfold Builtin.«bool.__new__»
    have f1 := PySem.F.conv_sub_bool
    repeat (any_goals (first | assumption | (with_reducible refine wpAny_mono tr ?_ ?_) | wp_step))
    · intro b s' q
      repeat (any_goals (first | assumption | wp_step))
      exact ⟨b, rfl, q⟩
    · exact fun _ _ z => z
  · rintro obj s₁ ⟨b, rfl, hq⟩
    exact ⟨rfl, PySem.F.args_object_init_2 _ _, object_init_meets PySem.F.called_bool.init.lookup PySem.F.called_bool.made (by decide) prog w A.in1 _ s₁ ⟨rfl, rfl, hq⟩⟩
def fBoolX (ow : OwT) : List D → LO
  | [d] => (match clsD d with
    | some _ => (match ownV ow "__bool__" d with
      | some (.bl b) => .ok (.bl b)
      | _ => .bad)
    | none => loD (fBool [d]))
  | _ => .bad
theorem call_boolX (OK : OwOk (gg X T) k ow) (hr : RoomQ ht (k + 2) X.A) : CallD X T wx (.type "bool") (fBoolX ow) := by
  intro W pins s σ H xs us ds Q P rx ru p
  cases rx with
  | nil => exact p.elim
  | @cons v d vs ds r rr =>
    cases rr with
    | cons _ _ => exact p.elim
    | nil =>
      unfold fBoolX at p
      simp only at p
      cases hc : clsD d with
      | none =>
        rw [hc] at p
        exact callD_of (wx := wx) call_bool1 ol_bool W pins s σ H [v] us [d] Q P (.one r) ru p
      | some c =>
        rw [hc] at p
        simp only at p
        obtain ⟨u, rfl, ru1⟩ := ru.one
        split at p
        rotate_left
        · exact p.elim
        rename_i b h
        obtain ⟨a, C, g0, ox, od, rfl, rfl, J, h1, h2, run⟩ := ownV_run (A := X.A) (R := fun _ _ => True) (E := fun _ _ => True) OK hc h P r ru1
        obtain ⟨m, hF0⟩ := P.inv.fr
        refine bool_own hF0 P.inv.ok.mod.kin J h1 h2 ?_
        refine run X.A.in1.in1 _ _ P.inv.ok.frames (show RoomQ true (k + 1) X.A.in1 from (hr.to (ht' := true) (Nat.le_refl _) fun _ => rfl).in1).in1 fun v' u' s' H' P' l rr ru' => ?_
        cases rep_bl rr
        cases (show u' = Value.bool b from ru')
        exact ⟨.bl b, H', P'.inv, rfl, p _ H' (.bl b) l⟩
end
/-! a list times an int -/
def opMulX : D → D → Option D
  | .lst xs, .int n => if decide (n ≤ 1000000) && decide (-1000000 ≤ n) && szOk (xs.length * n.toNat) then some (.lst (List.replicate n.toNat xs).flatten) else none
  | d, e => opMul d e
section
variable {X : Cx}
abbrev rMulX : R2 := fun x y H Q => rI CMulW (fun i j => .int (i * j)) x y H Q ∨ rRep x y H Q
theorem op_mulXL : OpR X (binaryOp .Mult) rMulX := OpR.or op_mulW op_rep
theorem reps_flat {Γ : GG} {H : Hp} {W : As} {xs : List V} {ds : List D} (r : Reps Γ H W xs ds) : ∀ n : Nat, Reps Γ H W (List.replicate n xs).flatten (List.replicate n ds).flatten
  | 0 => .nil
  | n + 1 => by
    rw [List.replicate_succ, List.replicate_succ, List.flatten_cons, List.flatten_cons]
    exact r.app (reps_flat r n)
theorem o2_mulX : Op2 X rMulX opMulX := ⟨fun T fx g ms δ σ H x y d e z Q s r1 r2 h k => by
  by_cases hl : ∃ xs n, d = .lst xs ∧ e = .int n
  · obtain ⟨xs, n, rfl, rfl⟩ := hl
    unfold opMulX at h
    simp only at h
    split at h
    rotate_left
    · cases h
    rename_i hz
    cases h
    simp only [Bool.and_eq_true] at hz
    obtain ⟨⟨z1, z2⟩, z3⟩ := hz
    have z1 := of_decide_eq_true z1
    have z2 := of_decide_eq_true z2
    cases rep_int r2
    cases r1 with
    | @lst a vs _ la rs =>
      refine .inr ⟨a, n, vs, rfl, rfl, la.1, by omega, by omega, by rw [rs.len]; exact szOk_le z3, fun p hp => ?_⟩
      have sm : Same H (upd H p (.lst (List.replicate n.toNat vs).flatten)) := same_new hp
      refine k _ sm _ (.lst ⟨upd_same, s.fresh hp⟩ ?_)
      exact (reps_flat rs n.toNat).mv (Mv.le' (A := fun _ => False) (Le.same sm) fun _ z => z.elim)
  · have h' : opMul d e = some z := by
      unfold opMulX at h
      split at h
      · exact absurd ⟨_, _, rfl, rfl⟩ hl
      · exact h
    exact .inl (o2_mul.go T fx g ms δ σ H x y d e z Q s r1 r2 h' k)⟩
end
/-! constants of classes -/
def eConS (c : Str) (d : D) (F : ME D) : ME D := bnd F fun x => if isS c x then rtn d else badE
section
variable {X : Cx} {Wx : WT} {c f : Str} {C : Addr} {mc u : Value} {v : V} {d : D} {o e : Expr} {es : List Expr} {Fo Fa Fb Fc : ME D} {As' : ME (List D)} {p pos apos : Pos}
theorem de_cval (hm : X.mg c = some (.ref C)) (r : ClX.CRead X.K C mc) (k : ClX.CVal X.K C mc f v u) (rd : ∀ H W, Rep (gg X Wx.T) H W v d) (hg : Gl X c := by rfl) (hdb : (c == ("__debug__" : Str)) = false := by decide) (hb : attributeBase (.Name c p) f X.env (eval (.Name c p) X.env) = eval (.Name c p) X.env := by rfl) :
    DE X Wx (.Attribute (.Name c p) f pos) (eC d) :=
  de_c (v := v) (pe_of (ClX.pe_cval (pe_glob (v := .ref C) hg hm rfl hdb) hb) fun σ H Q z => ⟨C, mc, v, u, rfl, r, k, z⟩) rd
theorem de_conS (ho : DE X Wx o Fo) (hm : X.mg c = some (.ref C)) (cl : SCls X.K C) (k : Con X.K C f v u) (rd : ∀ H W, Rep (gg X Wx.T) H W v d) (hb : attributeBase o f X.env (eval o X.env) = eval o X.env := by rfl) : DE X Wx (.Attribute o f pos) (eConS c d Fo) := by
  refine pe_of (pe_conSl ho hb) fun σ H Q ⟨g, ms, δ, s, p⟩ => ?_
  refine lift_bnd s p fun d1 δ1 H1 x s1 l1 r1 p1 => ?_
  split at p1
  rotate_left
  · exact p1.elim
  rename_i cc
  obtain ⟨a, dx, gs, fs, rfl, rfl, h2, h3⟩ := isS_rep hm cc r1
  exact ⟨a, C, dx, gs, v, u, rfl, h2, cl, k, post_rtn s1 p1 _ (rd _ _)⟩
/-! methods of texts -/
def eBmS (f : Str → List D → Option D) (Fo : ME D) (A : ME (List D)) : ME D := bnd Fo fun d => match d with
  | .str x => bnd A fun ds => opt (f x ds)
  | _ => badE
theorem de_bmS {m : Str} {r : V → List V → Hp → VK → Prop} {f : Str → List D → Option D} (ho : DE X Wx o Fo) (ha : DA X Wx es As') (h : ∀ {to : TE} {t : TA}, PE X o to → PA X es t → PE X (.Call (.Attribute o m apos) es [] pos) (tBM X.K "str" r to t))
    (go : ∀ (Γ : GG) (H : Hp) (W : As) (x : Str) (xs : List V) (ds : List D) (z : D) (Q : VK), Reps Γ H W xs ds → f x ds = some z → (∀ v, Rep Γ H W v z → Q v H) → r (.str x) xs H Q) : DE X Wx (.Call (.Attribute o m apos) es [] pos) (eBmS f Fo As') := by
  refine pe_of (h ho ha) fun σ H Q ⟨g, ms, δ, s, p⟩ => ?_
  refine lift_bnd s p fun d1 δ1 H1 x s1 l1 r1 p1 => ?_
  cases d1 <;> first | exact p1.elim | skip
  rename_i t
  cases rep_str r1
  refine ⟨rfl, liftA_bnd s1 p1 fun d2 δ2 H2 y s2 l2 r2 p2 => ?_⟩
  obtain ⟨z, e, k⟩ := post_opt s2 p2
  exact go _ _ _ _ _ _ _ _ r2 e k
def mStarts (x : Str) : List D → Option D
  | [.str y] => some (.bl (Txt.startswith x y))
  | _ => none
theorem go_starts (Γ : GG) (H : Hp) (W : As) (x : Str) (xs : List V) (ds : List D) (z : D) (Q : VK) (r : Reps Γ H W xs ds) (h : mStarts x ds = some z) (k : ∀ v, Rep Γ H W v z → Q v H) : (∃ a b, V.str x = .str a ∧ xs = [.str b] ∧ Q (.bl (Txt.startswith a b)) H) := by
  unfold mStarts at h
  split at h
  · cases h
    cases r with
    | cons r1 rr =>
      cases rr
      cases rep_str r1
      exact ⟨_, _, rfl, rfl, k _ (.bl _)⟩
  · cases h
end
end DL

set_option Elab.async false
set_option linter.all false
set_option maxRecDepth 100000
set_option maxHeartbeats 4000000
set_option autoImplicit false
/-! what printed texts lean on, going on -/
namespace DL
open L2 PyProof.Rows PySem.Spec PySem G58 SlX
variable [TbL]
section
variable {X : Cx} {A : Around} {outer : List Env} {s : Shared} {H : Hp} {E : XK} {scope : Scope} {f c' : Addr}
theorem tk_lamC : Takes (LamX.lamCx X A outer s H E scope f c') (fun c d _ H' => E c d H') := takes_of rfl rfl rfl rfl
end
/-- a def of the top in which lambdas are made: its code object is at c, its table at P -/
structure FunC (K : PySem.W.Frag) (x qual : Str) (st : Stmt) (f : Addr) (fd : FuncData) (c : Addr) : Prop where
  ex : ∃ (oc : Value) (od : Option Addr) (kV doc pm : Value) (an : Option Addr) (ct : Value) (osl : Array (Option Value)), fd = PySem.W.fnOf x qual (defArgs st) (defBody st) (defScope st) .none kV doc pm an (.ref c) ct ∧ K.lookup f = some ⟨oc, od, .func fd, osl⟩ ∧ PySem.W.codeIn K (.ref c) qual = true
section
variable {P : Program} {w : World} {K : PySem.W.Frag} {mg : Str → Option Value} {base h : Heap} {T : TTb} {gd ht : Bool} {k : Nat} {f c Pt : Addr} {fd : FuncData} {N ps : List Str} {x qual : Str} {sp : Sp} {st : Stmt}
theorem okXC (F : FunC K x qual st f fd c) (S : FnScope N ps (defScope st)) (len : ∀ vs H Q E, sp vs H Q E → vs.length = ps.length)
    (hbody : ∀ (A : Around) (outer : List Env) (s : Shared) (H : Hp) (vs : List V) (Q : VK) (E : XK), (gd = true → A.guards = some []) → Room k (A.deeper (envOfC qual (defScope st) s.heap.objs.size f (.ref c))) → sp vs H Q E →
      ∃ t, PSs (cxOf (L2.CX P w) P w K mg base N qual (defScope st) f (.ref c) A outer s H E) (defBody st) t ∧ t { nx := fun _ H' => Q .non H', rt := Q } (L2.start N vs) H) :
    FnX (Gm K mg P w base T) gd false (k + 1) f fd ps sp := by
  obtain ⟨oc, od, kV, doc, pm, an, ct, osl, rfl, lk, hcd⟩ := F.ex
  cases gd with
  | true =>
    have z := fnG_of (CX := L2.CX P w) (P := P) (w := w) (mg := mg) (base := base) lk hcd S len fun A outer s H vs Q E hg hr hsp => hbody A outer s H vs Q E (fun _ => hg) hr hsp
    exact ⟨z.len, fun A o s H ar us vs Q E hg hr => z.run A o s H ar us vs Q E (hg rfl) hr.room⟩
  | false =>
    have z := fn_of (CX := L2.CX P w) (P := P) (w := w) (mg := mg) (base := base) lk hcd S len fun A outer s H vs Q E hr hsp => hbody A outer s H vs Q E (fun z => nomatch z) hr hsp
    exact ⟨z.len, fun A o s H ar us vs Q E _ hr => z.run A o s H ar us vs Q E hr.room⟩
theorem code_of {oc : Value} {od : Option Addr} {kV doc pm cd ct : Value} {an : Option Addr} {sl : Array (Option Value)} (a : PySem.W.nsIn K mainGlobals x = some (some (.ref f))) (l : K.lookup f = some ⟨oc, od, .func (PySem.W.fnOf x qual (defArgs st) (defBody st) (defScope st) .none kV doc pm an cd ct), sl⟩) (t : PySem.W.tabIn K x = some (c, Pt)) : cd = .ref c := by
  unfold PySem.W.tabIn at t
  rw [a] at t
  simp only [l] at t
  split at t
  · split at t
    · split at t
      · cases t
        rfl
      · cases t
    · cases t
  · cases t
theorem dnC_mk (X : K.In h) (G : h.Ns mainGlobals mg) (d : HasDef K x st) (t : PySem.W.tabIn K x = some (c, Pt))
    (hb : ∀ (kV doc pm : Value) (an : Option Addr) (cdv ct : Value) (us : List Value), us.length = ps.length → bindArgs (PySem.W.fnOf x x (defArgs st) (defBody st) (defScope st) .none kV doc pm an cdv ct) ⟨us, []⟩ = pure (ps.zip us))
    (ok : ∀ f fd, FunC K x x st f fd c → FnX (Gm K mg P w base T) gd ht k f fd ps sp) : DnX (Gm K mg P w base T) gd ht k x sp := by
  obtain ⟨f, oc, od, kV, dc, pm, an, cd, ct, sl, a, l, hc, kp⟩ := d
  cases code_of a l t
  have F := fun_mk (st := st) l hc kp
  exact ⟨f, _, ps, PySem.W.mg_of X G a, kp, F.binds hb, ok f _ ⟨_, _, _, _, _, _, _, _, rfl, l, hc⟩⟩
theorem FnRX.up {Γ : GG} {j : Nat} (F : FnRX Γ gd ht j f sp) (hj : j ≤ k) : FnRX Γ gd ht k f sp := fun A o s H us vs Q E hg hr => F A o s H us vs Q E hg (hr.to hj id)
end
/-! tables of own methods -/
def OwE (Γ : GG) (k : Nat) (e : (Str × Str) × (Nat × FnD)) : Prop := ∀ C, Γ.mg e.1.1 = some (.ref C) → ∃ g : Addr, PySem.W.findIn Γ.K (.ref C) e.1.2 = some (some (.ref g)) ∧ PySem.W.isFn Γ.K (.ref g) = true ∧ FnRX Γ false true k g (liftSp Γ e.2.1 e.2.2)
def OwEs (Γ : GG) (k : Nat) : OwT → Prop
  | [] => True
  | e :: r => OwE Γ k e ∧ OwEs Γ k r
theorem OwEs.ok {Γ : GG} {k : Nat} : ∀ {ow : OwT}, OwEs Γ k ow → OwOk Γ k ow
  | [], _, _, _, _, _, h => by cases h
  | e :: r, ⟨h1, h2⟩, c, m, n, F, h => by
    rcases List.mem_cons.mp h with z | z
    · subst z; exact h1
    · exact OwEs.ok h2 c m n F z
theorem owE_mk {Γ : GG} {k j n : Nat} {c m : Str} {C g : Addr} {F : FnD} (hm : Γ.mg c = some (.ref C)) (M : Meth Γ.K C m g) (FO : FnRX Γ false true j g (liftSp Γ n F)) (hj : j ≤ k) : OwE Γ k ((c, m), (n, F)) := fun C' e => by
  cases hm.symm.trans e
  exact ⟨g, M.at_, M.fn, FO.up hj⟩
def CmE (Γ : GG) (k : Nat) (e : (Str × Str) × (D → D → Option (Option D))) : Prop := ∀ C, Γ.mg e.1.1 = some (.ref C) → ∃ g : Addr, PySem.W.findIn Γ.K (.ref C) e.1.2 = some (some (.ref g)) ∧ PySem.W.isFn Γ.K (.ref g) = true ∧ CmFn Γ k g e.2
def CmEs (Γ : GG) (k : Nat) : CmT → Prop
  | [] => True
  | e :: r => CmE Γ k e ∧ CmEs Γ k r
theorem CmEs.ok {Γ : GG} {k : Nat} : ∀ {cm : CmT}, CmEs Γ k cm → CmOk Γ k cm
  | [], _, _, _, _, h => by cases h
  | e :: r, ⟨h1, h2⟩, c, m, G, h => by
    rcases List.mem_cons.mp h with z | z
    · subst z; exact h1
    · exact CmEs.ok h2 c m G z
theorem CmFn.up {Γ : GG} {k j : Nat} {g : Addr} {G : D → D → Option (Option D)} (F : CmFn Γ j g G) (hj : j ≤ k) : CmFn Γ k g G := fun A o s H W us vs d e z hr => F A o s H W us vs d e z (hr.to hj id)
theorem cmE_mk {Γ : GG} {k j : Nat} {c m : Str} {C g : Addr} {G : D → D → Option (Option D)} (hm : Γ.mg c = some (.ref C)) (M : Meth Γ.K C m g) (FO : CmFn Γ j g G) (hj : j ≤ k) : CmE Γ k ((c, m), G) := fun C' e => by
  cases hm.symm.trans e
  exact ⟨g, M.at_, M.fn, FO.up hj⟩
/-- what == asks of a class -/
structure CmC (K : PySem.W.Frag) (C : Addr) : Prop where
  mro : PySem.W.mroIn K C (.type "object") = some true
  ne : PySem.W.findIn K (.ref C) "__ne__" = some (some (.builtin "object.__ne__"))
  a1 : PySem.W.subIn K (.type "NoneType") (.ref C) = some false
  a2 : PySem.W.subIn K (.type "bool") (.ref C) = some false
  a3 : PySem.W.subIn K (.type "int") (.ref C) = some false
  a4 : PySem.W.subIn K (.type "str") (.ref C) = some false
  a5 : PySem.W.subIn K (.type "tuple") (.ref C) = some false
  a6 : PySem.W.subIn K (.type "list") (.ref C) = some false
  a7 : PySem.W.subIn K (.type "dict") (.ref C) = some false
  b1 : PySem.W.subIn K (.ref C) (.type "NoneType") = some false
  b2 : PySem.W.subIn K (.ref C) (.type "bool") = some false
  b3 : PySem.W.subIn K (.ref C) (.type "int") = some false
  b4 : PySem.W.subIn K (.ref C) (.type "str") = some false
  b5 : PySem.W.subIn K (.ref C) (.type "tuple") = some false
  b6 : PySem.W.subIn K (.ref C) (.type "list") = some false
  b7 : PySem.W.subIn K (.ref C) (.type "dict") = some false
def CkE (K : PySem.W.Frag) (mg : Str → Option Value) (c : Str) : Prop := ∀ C, mg c = some (.ref C) → CmC K C
def CkP (K : PySem.W.Frag) (mg : Str → Option Value) (c c' : Str) : Prop := c ≠ c' → ∀ C C', mg c = some (.ref C) → mg c' = some (.ref C') → PySem.W.subIn K (.ref C') (.ref C) = some false ∧ C ≠ C'
def allP {α : Type} (p : α → Prop) : List α → Prop
  | [] => True
  | x :: xs => p x ∧ allP p xs
theorem allP_mem {α : Type} {p : α → Prop} : ∀ {xs : List α}, allP p xs → ∀ x ∈ xs, p x
  | [], _, _, h => by cases h
  | y :: ys, ⟨h1, h2⟩, x, h => by
    rcases List.mem_cons.mp h with z | z
    · subst z; exact h1
    · exact allP_mem h2 x z
theorem CmK.of {K : PySem.W.Frag} {mg : Str → Option Value} {cm : CmT} (cs : List Str) (h : ∀ e ∈ cm.map (·.1), e.1 ∈ cs) (h1 : allP (CkE K mg) cs) (h2 : allP (fun c => allP (CkP K mg c) cs) cs) : CmK K mg cm := by
  have mem : ∀ {c : Str} {G : D → D → Option (Option D)}, ((c, ("__eq__" : Str)), G) ∈ cm → c ∈ cs := fun {c G} hm => h (c, "__eq__") (List.mem_map.mpr ⟨_, hm, rfl⟩)
  refine ⟨fun c G C hm e => ?_, fun c c' G G' C C' m1 m2 e1 e2 ne => allP_mem (allP_mem h2 c (mem m1)) c' (mem m2) ne C C' e1 e2⟩
  have q := allP_mem h1 c (mem hm) C e
  refine ⟨q.mro, q.ne, fun T hT => ?_⟩
  simp only [btL, List.mem_cons, List.not_mem_nil, or_false] at hT
  rcases hT with rfl | rfl | rfl | rfl | rfl | rfl | rfl
  · exact ⟨q.a1, q.b1⟩
  · exact ⟨q.a2, q.b2⟩
  · exact ⟨q.a3, q.b3⟩
  · exact ⟨q.a4, q.b4⟩
  · exact ⟨q.a5, q.b5⟩
  · exact ⟨q.a6, q.b6⟩
  · exact ⟨q.a7, q.b7⟩
theorem ckE_mk {K : PySem.W.Frag} {mg : Str → Option Value} {c : Str} {C : Addr} (hm : mg c = some (.ref C)) (h : CmC K C) : CkE K mg c := fun C' e => by
  cases hm.symm.trans e
  exact h
theorem ckP_mk {K : PySem.W.Frag} {mg : Str → Option Value} {c c' : Str} {C C' : Addr} (hm : mg c = some (.ref C)) (hm' : mg c' = some (.ref C')) (h : PySem.W.subIn K (.ref C') (.ref C) = some false ∧ C ≠ C') : CkP K mg c c' := fun _ D D' e e' => by
  cases hm.symm.trans e
  cases hm'.symm.trans e'
  exact h
theorem ckP_self {K : PySem.W.Frag} {mg : Str → Option Value} {c : Str} : CkP K mg c c := fun h => absurd rfl h
/-! static methods and constants -/
theorem stat_mk {K : PySem.W.Frag} {C p g : Addr} {mc : Value} {m : Str} {rest : List Value} (h1 : PySem.W.readsIn K C mc = true) (h2 : PySem.W.specialIn K (.ref C) "__getattribute__" = some (some (.builtin "type.__getattribute__"))) (h3 : PySem.W.findCls K (.ref C) mc m = some (.get (.builtin "staticmethod.__get__") (.ref p) .none (.ref C)))
    (h4 : PySem.W.recIn K p "staticmethod" = some (.ref g :: rest)) (h5 : PySem.W.keepIn K (.ref g) = true) : Stat K C mc m p g := ⟨⟨h1, h2⟩, h3, ⟨rest, h4⟩, h5⟩
/-- each table stands once -/
theorem hu_of {cs : List ((Addr × Addr) × Str)} {ps : List Addr} (e : cs.map (fun p => p.1.2) = ps) (nd : ps.Nodup) (j : Nat) {c P : Addr} {q : Str} (h : cs[j]? = some ((c, P), q)) : ∀ p ∈ cs.map (fun p => (p.1.2, p.2)), p.1 = P → p.2 = q := by
  intro p hp ep
  obtain ⟨x, hx, rfl⟩ := List.mem_map.mp hp
  obtain ⟨i, hi⟩ := List.mem_iff_getElem?.mp hx
  have a1 : ps[i]? = some x.1.2 := by rw [← e, List.getElem?_map, hi]; rfl
  have a2 : ps[j]? = some P := by rw [← e, List.getElem?_map, h]; rfl
  have ij : i = j := by
    obtain ⟨l1, e1⟩ := List.getElem?_eq_some_iff.mp a1
    obtain ⟨l2, e2⟩ := List.getElem?_eq_some_iff.mp a2
    exact (List.getElem_inj nd).mp (by rw [e1, e2]; exact ep)
  subst ij
  rw [h] at hi
  cases hi
  rfl
theorem tabIn_of {K : PySem.W.Frag} {x : Str} {f c p : Addr} {oc cc : Value} {od cd : Option Addr} {fd : FuncData} {sl cl : Array (Option Value)} {vs : Array Value} (a : PySem.W.nsIn K mainGlobals x = some (some (.ref f))) (l : K.lookup f = some ⟨oc, od, .func fd, sl⟩) (h : fd.code = .ref c) (lc : K.lookup c = some ⟨cc, cd, .fields vs, cl⟩) (hv : vs[11]? = some (.ref p)) : PySem.W.tabIn K x = some (c, p) := by
  unfold PySem.W.tabIn
  simp only [a, l, h, lc, hv]
end DL

set_option Elab.async false
set_option linter.all false
set_option maxRecDepth 100000
set_option maxHeartbeats 4000000
set_option autoImplicit false
/-! the readings of the defs on trees, printed by wip/tools/gen4.py -/
namespace K17
open DL
open PySem (Str)
def slL : List Str := ["Ratio", "Many"]
def ilL : List Str := []
def xlL : List Str := ["InvalidCount", "InvalidNumber", "InvalidMany"]
def tabL : Tab := [((.b "NoneType", .b "bool"), false), ((.b "bool", .b "bool"), true), ((.b "int", .b "bool"), false), ((.b "str", .b "bool"), false), ((.b "tuple", .b "bool"), false), ((.b "list", .b "bool"), false), ((.b "dict", .b "bool"), false), ((.o "Ratio", .b "bool"), false), ((.o "Many", .b "bool"), false), ((.o "InvalidCount", .b "bool"), false), ((.o "InvalidNumber", .b "bool"), false), ((.o "InvalidMany", .b "bool"), false), ((.b "NoneType", .b "int"), false), ((.b "bool", .b "int"), true), ((.b "int", .b "int"), true), ((.b "str", .b "int"), false), ((.b "tuple", .b "int"), false), ((.b "list", .b "int"), false), ((.b "dict", .b "int"), false), ((.o "Ratio", .b "int"), false), ((.o "Many", .b "int"), false), ((.o "InvalidCount", .b "int"), false), ((.o "InvalidNumber", .b "int"), false), ((.o "InvalidMany", .b "int"), false), ((.b "NoneType", .o "Ratio"), false), ((.b "bool", .o "Ratio"), false), ((.b "int", .o "Ratio"), false), ((.b "str", .o "Ratio"), false), ((.b "tuple", .o "Ratio"), false), ((.b "list", .o "Ratio"), false), ((.b "dict", .o "Ratio"), false), ((.o "Ratio", .o "Ratio"), true), ((.o "Many", .o "Ratio"), false), ((.o "InvalidCount", .o "Ratio"), false), ((.o "InvalidNumber", .o "Ratio"), false), ((.o "InvalidMany", .o "Ratio"), false), ((.b "NoneType", .o "Many"), false), ((.b "bool", .o "Many"), false), ((.b "int", .o "Many"), false), ((.b "str", .o "Many"), false), ((.b "tuple", .o "Many"), false), ((.b "list", .o "Many"), false), ((.b "dict", .o "Many"), false), ((.o "Ratio", .o "Many"), false), ((.o "Many", .o "Many"), true), ((.o "InvalidCount", .o "Many"), false), ((.o "InvalidNumber", .o "Many"), false), ((.o "InvalidMany", .o "Many"), false), ((.b "NoneType", .o "LimitError"), false), ((.b "bool", .o "LimitError"), false), ((.b "int", .o "LimitError"), false), ((.b "str", .o "LimitError"), false), ((.b "tuple", .o "LimitError"), false), ((.b "list", .o "LimitError"), false), ((.b "dict", .o "LimitError"), false), ((.o "Ratio", .o "LimitError"), false), ((.o "Many", .o "LimitError"), false), ((.o "InvalidCount", .o "LimitError"), false), ((.o "InvalidNumber", .o "LimitError"), false), ((.o "InvalidMany", .o "LimitError"), false), ((.b "NoneType", .o "StateError"), false), ((.b "bool", .o "StateError"), false), ((.b "int", .o "StateError"), false), ((.b "str", .o "StateError"), false), ((.b "tuple", .o "StateError"), false), ((.b "list", .o "StateError"), false), ((.b "dict", .o "StateError"), false), ((.o "Ratio", .o "StateError"), false), ((.o "Many", .o "StateError"), false), ((.o "InvalidCount", .o "StateError"), false), ((.o "InvalidNumber", .o "StateError"), false), ((.o "InvalidMany", .o "StateError"), false), ((.b "NoneType", .o "MissingError"), false), ((.b "bool", .o "MissingError"), false), ((.b "int", .o "MissingError"), false), ((.b "str", .o "MissingError"), false), ((.b "tuple", .o "MissingError"), false), ((.b "list", .o "MissingError"), false), ((.b "dict", .o "MissingError"), false), ((.o "Ratio", .o "MissingError"), false), ((.o "Many", .o "MissingError"), false), ((.o "InvalidCount", .o "MissingError"), false), ((.o "InvalidNumber", .o "MissingError"), false), ((.o "InvalidMany", .o "MissingError"), false), ((.b "NoneType", .o "EachError"), false), ((.b "bool", .o "EachError"), false), ((.b "int", .o "EachError"), false), ((.b "str", .o "EachError"), false), ((.b "tuple", .o "EachError"), false), ((.b "list", .o "EachError"), false), ((.b "dict", .o "EachError"), false), ((.o "Ratio", .o "EachError"), false), ((.o "Many", .o "EachError"), false), ((.o "InvalidCount", .o "EachError"), true), ((.o "InvalidNumber", .o "EachError"), true), ((.o "InvalidMany", .o "EachError"), true)]
def xtL : XT := [(("InvalidCount", "InvalidNumber"), false), (("InvalidCount", "InvalidCount"), true), (("InvalidNumber", "InvalidNumber"), true), (("InvalidNumber", "InvalidCount"), false), (("InvalidMany", "InvalidNumber"), false), (("InvalidMany", "InvalidCount"), false)]
def rb__law_draw : MS := (sSeq (sIf (tVal (eBin opGt (eIxM 0 (eC (.int 0))) (eC (.int 0))))
      (sSeq (sAsg (eB fDm (aCons (eIxM 0 (eC (.int 0))) (aCons (eVar 1) aNil))) (tgTup [(tgSub 0 0), (tgName 2)]))
      (sRet (eVar 2)))
      sNx)
    (sSeq (sAsg (eBin opMod (eB fInt (aCons (eBin opAdd (eBin opMul (eIxM 0 (eC (.int 1))) (eC (.int 39373))) (eC (.int 9973))) aNil)) (eC (.int 2147483629))) (tgSub 0 1))
    (sRet (eBin opMod (eB fInt (aCons (eBin opDiv (eBin opMod (eB fInt (aCons (eBin opMul (eIxM 0 (eC (.int 1))) (eIxM 0 (eC (.int 1)))) aNil)) (eC (.int 2147483563))) (eC (.int 13))) aNil)) (eVar 1)))))
def rd__law_draw : FnD := runBody 2 3 rb__law_draw
def rb__law_choice : MS := (sRet (eBin opIx (eVar 1) (eCall 2 rd__law_draw (vRef 0 (vCons (eB fLen (aCons (eVar 1) aNil)) vNil)))))
def rd__law_choice : FnD := runBody 2 2 rb__law_choice
def rb_is_integer : MS := (sRet (eAnd (eB (fIsiX slL ilL xlL tabL) (aCons (eVar 0) (aCons (eC (.ty "int")) aNil))) (eNot (eB (fIsiX slL ilL xlL tabL) (aCons (eVar 0) (aCons (eC (.ty "bool")) aNil))))))
def rd_is_integer : FnD := runBody 1 1 rb_is_integer
def rb_is_count : MS := (sRet (eAnd (eCall 1 rd_is_integer (vCons (eVar 0) vNil)) (eBin opGe (eVar 0) (eC (.int 0)))))
def rd_is_count : FnD := runBody 1 1 rb_is_count
def rb_common_divisor : MS := (sSeq (whileN (tVal (eBin opGt (eVar 1) (eC (.int 0))))
      (sPar 2 0 1 (aCons (eVar 1) (aCons (eBin opMod (eVar 0) (eVar 1)) aNil))) 1000)
    (sRet (eVar 0)))
def rd_common_divisor : FnD := runBody 2 2 rb_common_divisor
def rb_Ratio___init__ : MS := (sSeq (sIf (tNotD (tVal (eCall 1 rd_is_count (vCons (eVar 1) vNil))))
      (sRaise "InvalidCount" [("value", 1)] 2 (aCons (eVar 1) aNil))
      sNx)
    (sSeq (sIf (tOrD (tNotD (tVal (eCall 1 rd_is_integer (vCons (eVar 2) vNil)))) (tVal (eBin opLt (eVar 2) (eC (.int 1)))))
      (sRaise "InvalidNumber" [("value", 1)] 2 (aCons (eVar 2) aNil))
      sNx)
    (sSeq (sSet 3 3 (eCall 2 rd_common_divisor (vCons (eVar 1) (vCons (eVar 2) vNil))))
    (sSeq (sSetSl 0 "Ratio" 1 (eBin opDiv (eVar 1) (eVar 3)))
    (sSetSl 0 "Ratio" 0 (eBin opDiv (eVar 2) (eVar 3)))))))
def rd_Ratio___init__ : FnD := runBody 3 4 rb_Ratio___init__
def rb__law_any : MS := (sSeq (sIf (tVal (eBin opEq (eCall 2 rd__law_draw (vRef 0 (vCons (eC (.int 6)) vNil))) (eC (.int 0))))
      (sRet (eCall 2 rd__law_choice (vRef 0 (vCons (eLst (aCons (eUn opNeg (eC (.int 1))) (aCons (eUn opNeg (eBin opPow (eC (.int 10)) (eC (.int 20)))) (aCons (eC (.bl true)) (aCons (eC (.bl false)) (aCons (eC (.non)) (aCons (eC (.str "1")) (aCons (eC (.str "")) (aCons (eTup (aCons (eC (.int 1)) aNil)) (aCons (eLst (aCons (eC (.int 2)) aNil)) (aCons eDct0 (aCons (eMakeX true "Ratio" 3 rd_Ratio___init__ (aCons (eC (.int 1)) aNil) [.int 1]) aNil)))))))))))) vNil))))
      sNx)
    (sRet (eCall 2 rd__law_choice (vRef 0 (vCons (eLst (aCons (eC (.int 0)) (aCons (eC (.int 1)) (aCons (eC (.int 1)) (aCons (eC (.int 2)) (aCons (eC (.int 3)) (aCons (eC (.int 4)) (aCons (eC (.int 6)) (aCons (eC (.int 12)) (aCons (eBin opPow (eC (.int 10)) (eC (.int 18))) (aCons (eBin opAdd (eBin opPow (eC (.int 10)) (eC (.int 18))) (eC (.int 9))) (aCons (eCall 2 rd__law_draw (vRef 0 (vCons (eC (.int 1000)) vNil))) (aCons (eBin opPow (eC (.int 10)) (eC (.int 60))) aNil))))))))))))) vNil)))))
def rd__law_any : FnD := runBody 1 1 rb__law_any
def rb__law_two : MS := (sSeq (sPar 1 1 2 (aCons (eCall 2 rd__law_choice (vRef 0 (vCons (eLst (aCons (eC (.int 2)) (aCons (eC (.int 3)) (aCons (eC (.int 6)) (aCons (eBin opPow (eC (.int 10)) (eC (.int 9))) (aCons (eBin opAdd (eC (.int 1)) (eCall 2 rd__law_draw (vRef 0 (vCons (eC (.int 1000)) vNil)))) aNil)))))) vNil))) (aCons (eCall 2 rd__law_draw (vRef 0 (vCons (eC (.int 3)) vNil))) aNil)))
    (sSeq (sIf (tVal (eBin opEq (eVar 2) (eC (.int 0))))
      (sRet (eTup (aCons (eCall 1 rd__law_any (vRef 0 vNil)) (aCons (eCall 1 rd__law_any (vRef 0 vNil)) aNil))))
      sNx)
    (sRet (eTup (aCons (eBin opMul (eCall 2 rd__law_draw (vRef 0 (vCons (eC (.int 60)) vNil))) (eVar 1)) (aCons (eBin opMul (eBin opAdd (eC (.int 1)) (eCall 2 rd__law_draw (vRef 0 (vCons (eC (.int 60)) vNil)))) (eVar 1)) aNil))))))
def rd__law_two : FnD := runBody 1 3 rb__law_two
def rb__law_is_integer : MS := (sRet (eAnd (eB (fIsiX slL ilL xlL tabL) (aCons (eVar 0) (aCons (eC (.ty "int")) aNil))) (eNot (eB (fIsiX slL ilL xlL tabL) (aCons (eVar 0) (aCons (eC (.ty "bool")) aNil))))))
def rd__law_is_integer : FnD := runBody 1 1 rb__law_is_integer
def rb_Ratio___repr__ : MS := (sRet (joinD [(eC (.str "Ratio(")), (eFmt (eSl "Ratio" 1 (eVar 0))), (eC (.str ", ")), (eFmt (eSl "Ratio" 0 (eVar 0))), (eC (.str ")"))] Str.empty))
def rd_Ratio___repr__ : FnD := runBody 1 1 rb_Ratio___repr__
def rb_Ratio___str__ : MS := (sSeq (sIf (tVal (eBin opEq (eSl "Ratio" 0 (eVar 0)) (eC (.int 1))))
      (sRet (eFmt (eSl "Ratio" 1 (eVar 0))))
      sNx)
    (sRet (joinD [(eFmt (eSl "Ratio" 1 (eVar 0))), (eC (.str "/")), (eFmt (eSl "Ratio" 0 (eVar 0)))] Str.empty)))
def rd_Ratio___str__ : FnD := runBody 1 1 rb_Ratio___str__
def rb_Ratio___bool__ : MS := (sRet (eB fBool (aCons (eSl "Ratio" 1 (eVar 0)) aNil)))
def rd_Ratio___bool__ : FnD := runBody 1 1 rb_Ratio___bool__
def rb_Ratio___eq__ : MS := (sSeq (sIf (tNotD (tVal (eB (fIsiX slL ilL xlL tabL) (aCons (eVar 1) (aCons (eC (.gl "Ratio")) aNil)))))
      sBad
      sNx)
    (sRet (eBin opEq (eTup (aCons (eSl "Ratio" 1 (eVar 0)) (aCons (eSl "Ratio" 0 (eVar 0)) aNil))) (eTup (aCons (eSl "Ratio" 1 (eVar 1)) (aCons (eSl "Ratio" 0 (eVar 1)) aNil))))))
def rd_Ratio___eq__ : FnD := runBody 2 2 rb_Ratio___eq__
def rb_Many___eq__ : MS := (sSeq (sIf (tNotD (tVal (eB (fIsiX slL ilL xlL tabL) (aCons (eVar 1) (aCons (eC (.gl "Many")) aNil)))))
      sBad
      sNx)
    (sRet (eBin opEq (eSl "Many" 2 (eVar 0)) (eSl "Many" 2 (eVar 1)))))
def rd_Many___eq__ : FnD := runBody 2 2 rb_Many___eq__
def rb__law_common : MS := (sSeq (whileN (tVal (eBin opGt (eVar 1) (eC (.int 0))))
      (sPar 2 0 1 (aCons (eVar 1) (aCons (eBin opMod (eB fInt (aCons (eVar 0) aNil)) (eVar 1)) aNil))) 1000)
    (sRet (eVar 0)))
def rd__law_common : FnD := runBody 2 2 rb__law_common
def owL : OwT := [(("Ratio", "__repr__"), (1, rd_Ratio___repr__)), (("Ratio", "__str__"), (1, rd_Ratio___str__)), (("Ratio", "__bool__"), (1, rd_Ratio___bool__))]
def cmL : CmT := [(("Ratio", "__eq__"), cmF 2 (tNotD (tVal (eB (fIsiX slL ilL xlL tabL) (aCons (eVar 1) (aCons (eC (.gl "Ratio")) aNil))))) rd_Ratio___eq__), (("Many", "__eq__"), cmF 2 (tNotD (tVal (eB (fIsiX slL ilL xlL tabL) (aCons (eVar 1) (aCons (eC (.gl "Many")) aNil))))) rd_Many___eq__)]
def rb__law_due : MS := (sSeq (sSet 2 2 (eLst (aCons (eC (.bl true)) (aCons (eC (.bl false)) (aCons (eC (.bl false)) (aCons (eC (.bl false)) aNil))))))
    (sSeq (sIf (tOrD (tNotD (tVal (eCall 1 rd__law_is_integer (vCons (eVar 0) vNil)))) (tVal (eBin opLt (eVar 0) (eC (.int 0)))))
      (sRet (eCL (fReprX owL) (aCons (eLst (aCons (eC (.str "count")) (aCons (eVar 0) (aCons (eVar 2) aNil)))) aNil)))
      sNx)
    (sSeq (sIf (tOrD (tNotD (tVal (eCall 1 rd__law_is_integer (vCons (eVar 1) vNil)))) (tVal (eBin opLt (eVar 1) (eC (.int 1)))))
      (sRet (eCL (fReprX owL) (aCons (eLst (aCons (eC (.str "number")) (aCons (eVar 1) (aCons (eVar 2) aNil)))) aNil)))
      sNx)
    (sSeq (sSet 2 3 (eCall 2 rd__law_common (vCons (eVar 0) (vCons (eVar 1) vNil))))
    (sSeq (sPar 2 4 5 (aCons (eBin opDiv (eVar 0) (eVar 3)) (aCons (eBin opDiv (eVar 1) (eVar 3)) aNil)))
    (sSeq (sSet 2 6 (eIte (tVal (eBin opEq (eVar 5) (eC (.int 1)))) (eCL (fStrX owL) (aCons (eVar 4) aNil)) (eBin opAdd (eBin opAdd (eCL (fStrX owL) (aCons (eVar 4) aNil)) (eC (.str "/"))) (eCL (fStrX owL) (aCons (eVar 5) aNil)))))
    (sRet (eCL (fReprX owL) (aCons (eLst (aCons (eC (.str "made")) (aCons (eVar 4) (aCons (eVar 5) (aCons (eVar 6) (aCons (eBin opAdd (eBin opAdd (eBin opAdd (eBin opAdd (eC (.str "Ratio(")) (eCL (fStrX owL) (aCons (eVar 4) aNil))) (eC (.str ", "))) (eCL (fStrX owL) (aCons (eVar 5) aNil))) (eC (.str ")"))) (aCons (eBin opGt (eVar 4) (eC (.int 0))) aNil))))))) aNil)))))))))
def rd__law_due : FnD := runBody 2 7 rb__law_due
def rb_Ratio_bottom : MS := (sRet (eSl "Ratio" 0 (eVar 0)))
def rd_Ratio_bottom : FnD := runBody 1 1 rb_Ratio_bottom
def rb_Ratio_top : MS := (sRet (eSl "Ratio" 1 (eVar 0)))
def rd_Ratio_top : FnD := runBody 1 1 rb_Ratio_top
def rb__law_bases : MS := (sRet (eLst (aCons (eB (fIsiX slL ilL xlL tabL) (aCons (eVar 0) (aCons (eC (.gl "EachError")) aNil))) (aCons (eB (fIsiX slL ilL xlL tabL) (aCons (eVar 0) (aCons (eC (.gl "MissingError")) aNil))) (aCons (eB (fIsiX slL ilL xlL tabL) (aCons (eVar 0) (aCons (eC (.gl "StateError")) aNil))) (aCons (eB (fIsiX slL ilL xlL tabL) (aCons (eVar 0) (aCons (eC (.gl "LimitError")) aNil))) aNil))))))
def rd__law_bases : FnD := runBody 1 1 rb__law_bases
def rb__law_told (L_ : LO) : MS := (sSeq (sSet 1 1 (eLst (aCons (eC (.str "other")) aNil)))
    (sSeq (sTry xtL (sSeq (sSet 1 2 (actD L_))
      (sSet 1 1 (eLst (aCons (eC (.str "made")) (aCons (ePropS "Ratio" rd_Ratio_top (eVar 2)) (aCons (ePropS "Ratio" rd_Ratio_bottom (eVar 2)) (aCons (eCL (fStrX owL) (aCons (eVar 2) aNil)) (aCons (eCL (fReprX owL) (aCons (eVar 2) aNil)) (aCons (eCL (fBoolX owL) (aCons (eVar 2) aNil)) aNil)))))))))
      [("InvalidCount", some 3, (sSet 1 1 (eLst (aCons (eC (.str "count")) (aCons (eXf xlL "value" (eVar 3)) (aCons (eCall 1 rd__law_bases (vCons (eVar 3) vNil)) aNil)))))), ("InvalidNumber", some 3, (sSet 1 1 (eLst (aCons (eC (.str "number")) (aCons (eXf xlL "value" (eVar 3)) (aCons (eCall 1 rd__law_bases (vCons (eVar 3) vNil)) aNil))))))])
    (sRet (eCL (fReprX owL) (aCons (eVar 1) aNil)))))
def rb__law_one_right : MS := (sSeq (sSet 2 2 (eCall 2 rd__law_due (vCons (eVar 0) (vCons (eVar 1) vNil))))
    (sSeq (sSetM 2 3 (nLst (aCons (eLam rb__law_told 4 (eMakeX true "Ratio" 3 rd_Ratio___init__ (aCons (eVar 0) (aCons (eVar 1) aNil)) [])) aNil)))
    (sSeq (sDrop (eAppend 3 (eLam rb__law_told 4 (eMakeK 2 true "Ratio" 3 rd_Ratio___init__ [.inl 2, .inl 1] [.int 1] (aCons (eVar 1) (aCons (eVar 0) aNil))))))
    (sSeq (sDrop (eAppend 3 (eLam rb__law_told 4 (eMakeX true "Ratio" 3 rd_Ratio___init__ (aCons (eVar 0) aNil) [.int 1]))))
    (sSeq (sDrop (eAppend 3 (eLam rb__law_told 4 (eMakeK 1 true "Ratio" 3 rd_Ratio___init__ [.inl 1, .inr 0] [.int 1] (aCons (eVar 0) aNil)))))
    (sFrz 2 3 (sRet (eBinL (fEqX cmL) (eVar 3) (eBin opAdd (eBin opMulX (eLst (aCons (eVar 2) aNil)) (eC (.int 2))) (eBin opMulX (eLst (aCons (eCall 2 rd__law_due (vCons (eVar 0) (vCons (eC (.int 1)) vNil))) aNil)) (eC (.int 2))))))))))))
def rd__law_one_right : FnD := runBody 2 4 rb__law_one_right
def rb_want_count : MS := (sIf (tNotD (tVal (eCall 1 rd_is_count (vCons (eVar 0) vNil))))
      (sRaise "InvalidCount" [("value", 1)] 2 (aCons (eVar 0) aNil))
      sNx)
def rd_want_count : FnD := runBody 1 1 rb_want_count
def rb_Many___init__ : MS := (sSeq (sDrop (eCall 1 rd_want_count (vCons (eVar 1) vNil)))
    (sSeq (sIf (tVal (eNotN (eVar 2)))
      (sSeq (sDrop (eCall 1 rd_want_count (vCons (eVar 2) vNil)))
      (sIf (tVal (eBin opLt (eVar 2) (eVar 1)))
        (sRaise "InvalidMany" [("value", 1)] 2 (aCons (eTup (aCons (eVar 1) (aCons (eVar 2) aNil))) aNil))
        sNx))
      sNx)
    (sSeq (sSetSl 0 "Many" 0 (eVar 1))
    (sSeq (sSetSl 0 "Many" 1 (eVar 2))
    (sSetSl 0 "Many" 2 (eTup (aCons (eVar 1) (aCons (eB fInt (aCons (eIsN (eVar 2)) aNil)) (aCons (eIte (tVal (eIsN (eVar 2))) (eC (.int 0)) (eVar 2)) aNil)))))))))
def rd_Many___init__ : FnD := runBody 3 3 rb_Many___init__
def rb__law_alike_right : MS := (sSeq (sPar 3 3 4 (aCons (eMakeX true "Ratio" 3 rd_Ratio___init__ (aCons (eVar 1) (aCons (eVar 2) aNil)) []) (aCons (eBin opAdd (eC (.int 1)) (eCall 2 rd__law_draw (vRef 0 (vCons (eBin opPow (eC (.int 10)) (eC (.int 4))) vNil)))) aNil)))
    (sSeq (sIf (tOrD (tVal (eBinL (fNeX cmL) (eVar 3) (eMakeX true "Ratio" 3 rd_Ratio___init__ (aCons (eBin opMul (eVar 1) (eVar 4)) (aCons (eBin opMul (eVar 2) (eVar 4)) aNil)) []))) (tNotD (tVal (eBinL (fEqX cmL) (eVar 3) (eMakeX true "Ratio" 3 rd_Ratio___init__ (aCons (eVar 1) (aCons (eVar 2) aNil)) [])))))
      (sRet (eC (.bl false)))
      sNx)
    (sSeq (sIf (tOrD (tVal (eBinL (fEqX cmL) (eVar 3) (eMakeX true "Ratio" 3 rd_Ratio___init__ (aCons (eBin opAdd (eVar 1) (eC (.int 1))) (aCons (eVar 2) aNil)) []))) (tVal (eBinL (fEqX cmL) (eVar 3) (eMakeX true "Ratio" 3 rd_Ratio___init__ (aCons (eBin opAdd (eBin opMul (eVar 1) (eC (.int 2))) (eC (.int 1))) (aCons (eBin opMul (eVar 2) (eC (.int 2))) aNil)) []))))
      (sRet (eC (.bl false)))
      sNx)
    (sSeq (sFor (iSeq (eLst (aCons (eVar 1) (aCons (eTup (aCons (eVar 1) (aCons (eVar 2) aNil))) (aCons (eLst (aCons (eVar 1) (aCons (eVar 2) aNil))) (aCons (eCL (fStrX owL) (aCons (eVar 3) aNil)) (aCons (eCL (fReprX owL) (aCons (eVar 3) aNil)) (aCons (eC (.non)) (aCons (eC (.bl true)) (aCons (eMakeX true "Many" 3 rd_Many___init__ (aCons (eVar 1) aNil) [.non]) (aCons eDct0 aNil))))))))))) (tgName 5)
      (sIf (tOrD (tVal (eBinL (fEqX cmL) (eVar 3) (eVar 5))) (tOrD (tVal (eBinL (fEqX cmL) (eVar 5) (eVar 3))) (tNotD (tVal (eBinL (fNeX cmL) (eVar 3) (eVar 5))))))
        (sRet (eC (.bl false)))
        sNx))
    (sRet (eOr (eBin opEq (eVar 1) (eC (.int 0))) (eBinL (fNeX cmL) (eVar 3) (eMakeX true "Ratio" 3 rd_Ratio___init__ (aCons (eVar 1) (aCons (eBin opAdd (eVar 2) (eC (.int 1))) aNil)) []))))))))
def rd__law_alike_right : FnD := runBody 3 6 rb__law_alike_right
def rb__law_right : MS := (sSeq (sFor (iRg1 (aCons (eC (.int 8)) aNil)) (tgName 1)
      (sSeq (sAsg (eCall 1 rd__law_two (vRef 0 vNil)) (tgTup [(tgName 2), (tgName 3)]))
      (sSeq (sIf (tNotD (tVal (eCall 2 rd__law_one_right (vCons (eVar 2) (vCons (eVar 3) vNil)))))
        (sRet (eC (.bl false)))
        sNx)
      (sIf (tAndD (tVal (eBmS mStarts (eCall 2 rd__law_due (vCons (eVar 2) (vCons (eVar 3) vNil))) (aCons (eC (.str "['made'")) aNil))) (tNotD (tVal (eCall 3 rd__law_alike_right (vRef 0 (vCons (eVar 2) (vCons (eVar 3) vNil)))))))
        (sRet (eC (.bl false)))
        sNx))))
    (sRet (eC (.bl true))))
def rd__law_right : FnD := runBody 1 4 rb__law_right
def rb__law_rng : MS := (sSeq (sSet 2 2 (eIte (tVal (eBin opLt (eVar 1) (eB fLen (aCons (eVar 0) aNil)))) (eBin opIx (eVar 0) (eVar 1)) (eBin opAdd (eBin opMul (eC (.int 11)) (eVar 1)) (eC (.int 3)))))
    (sRetM (nLst (aCons (eB fMax (aCons (eC (.int 0)) (aCons (eBin opSub (eB fAbs (aCons (eVar 2) aNil)) (eBin opPow (eC (.int 10)) (eC (.int 18)))) aNil))) (aCons (eBin opAdd (eBin opMod (eB fInt (aCons (eBin opAdd (eBin opAdd (eBin opMul (eBin opMod (eB fInt (aCons (eB fAbs (aCons (eVar 2) aNil)) aNil)) (eC (.int 2147483549))) (eC (.int 48271))) (eBin opMul (eC (.int 7919)) (eVar 1))) (eC (.int 31))) aNil)) (eC (.int 2147483629))) (eC (.int 1))) aNil)))))
def rd__law_rng : FnD := runBody 2 3 rb__law_rng
def rb_law : MS := (sRet (eB fAll (aCons (eLc (iRg1 (aCons (eB fMax (aCons (eC (.int 1)) (aCons (eB fMin (aCons (eC (.int 4)) (aCons (eB fLen (aCons (eVar 0) aNil)) aNil))) aNil))) aNil)) (.one 1) tYesD (eCall1X rd__law_right (nCallX 2 rd__law_rng (vCons (eVar 0) (vCons (eVar 1) vNil))))) aNil)))
def rd_law : FnD := runBody 1 2 rb_law
end K17

set_option Elab.async false
set_option linter.all false
set_option maxRecDepth 100000
set_option maxHeartbeats 4000000
set_option autoImplicit false
namespace K17
open L2 PyProof.Rows PySem.Spec PySem G58 SlX DL
variable [TbL]
def top (i : Nat) : Stmt := PySem.Challenge.pw_howmanyeach_k17_ratios_made.main.body.getD i (.Pass ⟨0, 0, 0, 0⟩)
abbrev xvL (C_InvalidNumber : Addr) (C_InvalidCount : Addr) : List (Str × Value) := [("InvalidNumber", .ref C_InvalidNumber), ("InvalidCount", .ref C_InvalidCount)]
abbrev s_InvalidCount___init__ : Stmt := inClass (top 3) 0
abbrev s_InvalidNumber___init__ : Stmt := inClass (top 4) 0
abbrev s_InvalidMany___init__ : Stmt := inClass (top 5) 0
structure Txt (K : PySem.W.Frag) (mg : Str → Option Value) (P : Program) (C_Ratio p_Ratio_own_bottom p_Ratio_own_top C_Many p_Many_own_least p_Many_own_most p_Many_own_place C_InvalidNumber C_LimitError C_StateError C_MissingError C_EachError C_InvalidCount m_InvalidCount___init__ cc_InvalidCount cda_InvalidCount m_InvalidNumber___init__ cc_InvalidNumber cda_InvalidNumber C_InvalidMany m_InvalidMany___init__ cc_InvalidMany cda_InvalidMany m_Ratio___init__ m_Ratio___repr__ m_Ratio___str__ m_Ratio___bool__ m_Ratio___eq__ m_Many___eq__ m_Ratio_bottom q_Ratio_bottom m_Ratio_top q_Ratio_top m_Many___init__ c__law_one_right P__law_one_right : Addr) : Prop where
  b_all : mg "all" = none
  b_range : mg "range" = none
  b_max : mg "max" = none
  b_min : mg "min" = none
  b_len : mg "len" = none
  b_divmod : mg "divmod" = none
  b_int : mg "int" = none
  b_isinstance : mg "isinstance" = none
  b_bool : mg "bool" = none
  b_super : mg "super" = none
  b_repr : mg "repr" = none
  b_str : mg "str" = none
  b_NotImplemented : mg "NotImplemented" = none
  b_abs : mg "abs" = none
  g_Ratio : mg "Ratio" = some (.ref C_Ratio)
  sc_Ratio : SCls K C_Ratio
  sl_Ratio_own_bottom : Slot1 K C_Ratio "own_bottom" p_Ratio_own_bottom 0
  sl_Ratio_own_top : Slot1 K C_Ratio "own_top" p_Ratio_own_top 1
  si_Ratio : SIsi K C_Ratio
  g_Many : mg "Many" = some (.ref C_Many)
  sc_Many : SCls K C_Many
  sl_Many_own_least : Slot1 K C_Many "own_least" p_Many_own_least 0
  sl_Many_own_most : Slot1 K C_Many "own_most" p_Many_own_most 1
  sl_Many_own_place : Slot1 K C_Many "own_place" p_Many_own_place 2
  si_Many : SIsi K C_Many
  g_InvalidNumber : mg "InvalidNumber" = some (.ref C_InvalidNumber)
  g_LimitError : mg "LimitError" = some (.ref C_LimitError)
  g_StateError : mg "StateError" = some (.ref C_StateError)
  g_MissingError : mg "MissingError" = some (.ref C_MissingError)
  g_EachError : mg "EachError" = some (.ref C_EachError)
  g_InvalidCount : mg "InvalidCount" = some (.ref C_InvalidCount)
  xi_InvalidCount : XI K C_InvalidCount m_InvalidCount___init__ cc_InvalidCount cda_InvalidCount "InvalidCount.__init__" s_InvalidCount___init__ P
  ec_InvalidCount : ExcC K C_InvalidCount
  xn_InvalidCount_value : PySem.W.findIn K (.ref C_InvalidCount) "value" = some none
  xi_InvalidNumber : XI K C_InvalidNumber m_InvalidNumber___init__ cc_InvalidNumber cda_InvalidNumber "InvalidNumber.__init__" s_InvalidNumber___init__ P
  ec_InvalidNumber : ExcC K C_InvalidNumber
  xn_InvalidNumber_value : PySem.W.findIn K (.ref C_InvalidNumber) "value" = some none
  g_InvalidMany : mg "InvalidMany" = some (.ref C_InvalidMany)
  xi_InvalidMany : XI K C_InvalidMany m_InvalidMany___init__ cc_InvalidMany cda_InvalidMany "InvalidMany.__init__" s_InvalidMany___init__ P
  ec_InvalidMany : ExcC K C_InvalidMany
  xn_InvalidMany_value : PySem.W.findIn K (.ref C_InvalidMany) "value" = some none
  me_Ratio___repr__ : Meth K C_Ratio "__repr__" m_Ratio___repr__
  me_Ratio___str__ : Meth K C_Ratio "__str__" m_Ratio___str__
  me_Ratio___bool__ : Meth K C_Ratio "__bool__" m_Ratio___bool__
  me_Ratio___eq__ : Meth K C_Ratio "__eq__" m_Ratio___eq__
  me_Many___eq__ : Meth K C_Many "__eq__" m_Many___eq__
  pr_Ratio_bottom : PropS K C_Ratio "bottom" q_Ratio_bottom m_Ratio_bottom
  pr_Ratio_top : PropS K C_Ratio "top" q_Ratio_top m_Ratio_top
  xt : XtOk K mg (xvL C_InvalidNumber C_InvalidCount) xtL
  xf_value : XfOk K mg xlL "value"
  tab : TabX K mg slL ilL xlL tabL
  ck : CmK K mg cmL
section
variable {P : Program} {w : World} {K : PySem.W.Frag} {mg : Str → Option Value} {base h : Heap} {T0 : TTb} {f : Addr} {fd : FuncData} {C_Ratio p_Ratio_own_bottom p_Ratio_own_top C_Many p_Many_own_least p_Many_own_most p_Many_own_place C_InvalidNumber C_LimitError C_StateError C_MissingError C_EachError C_InvalidCount m_InvalidCount___init__ cc_InvalidCount cda_InvalidCount m_InvalidNumber___init__ cc_InvalidNumber cda_InvalidNumber C_InvalidMany m_InvalidMany___init__ cc_InvalidMany cda_InvalidMany m_Ratio___init__ m_Ratio___repr__ m_Ratio___str__ m_Ratio___bool__ m_Ratio___eq__ m_Many___eq__ m_Ratio_bottom q_Ratio_bottom m_Ratio_top q_Ratio_top m_Many___init__ c__law_one_right P__law_one_right : Addr}
theorem xs_InvalidCount : XScope ["self", "value"] (defScope s_InvalidCount___init__) := ⟨rfl, rfl, rfl, by decide +kernel, by decide +kernel, rfl, rfl, by decide +kernel, by decide +kernel⟩
theorem ex_InvalidCount (T : Txt K mg P C_Ratio p_Ratio_own_bottom p_Ratio_own_top C_Many p_Many_own_least p_Many_own_most p_Many_own_place C_InvalidNumber C_LimitError C_StateError C_MissingError C_EachError C_InvalidCount m_InvalidCount___init__ cc_InvalidCount cda_InvalidCount m_InvalidNumber___init__ cc_InvalidNumber cda_InvalidNumber C_InvalidMany m_InvalidMany___init__ cc_InvalidMany cda_InvalidMany m_Ratio___init__ m_Ratio___repr__ m_Ratio___str__ m_Ratio___bool__ m_Ratio___eq__ m_Many___eq__ m_Ratio_bottom q_Ratio_bottom m_Ratio_top q_Ratio_top m_Many___init__ c__law_one_right P__law_one_right) : ExC (Gm K mg P w base T0) "InvalidCount" [("value", 1)] 2 1 := by
  obtain ⟨oc, od, kV, doc, pm, an, ct, osl, lf⟩ := T.xi_InvalidCount.fn
  exact ⟨⟨C_InvalidCount, m_InvalidCount___init__, _, ["self", "value"], T.g_InvalidCount, T.xi_InvalidCount.ox, T.xi_InvalidCount.ini, T.xi_InvalidCount.ty, xinit_ok (k := 0) T.xi_InvalidCount lf xs_InvalidCount T.b_super rfl rfl (by decide) (by decide) rfl (.cons rfl (by decide) (by decide) T.xn_InvalidCount_value (fun _ => rfl) .nil) (by decide) (fun L => rfl), binds_ks fun us hl => match us, hl with | [_, _], _ => rfl⟩⟩
theorem xs_InvalidNumber : XScope ["self", "value"] (defScope s_InvalidNumber___init__) := ⟨rfl, rfl, rfl, by decide +kernel, by decide +kernel, rfl, rfl, by decide +kernel, by decide +kernel⟩
theorem ex_InvalidNumber (T : Txt K mg P C_Ratio p_Ratio_own_bottom p_Ratio_own_top C_Many p_Many_own_least p_Many_own_most p_Many_own_place C_InvalidNumber C_LimitError C_StateError C_MissingError C_EachError C_InvalidCount m_InvalidCount___init__ cc_InvalidCount cda_InvalidCount m_InvalidNumber___init__ cc_InvalidNumber cda_InvalidNumber C_InvalidMany m_InvalidMany___init__ cc_InvalidMany cda_InvalidMany m_Ratio___init__ m_Ratio___repr__ m_Ratio___str__ m_Ratio___bool__ m_Ratio___eq__ m_Many___eq__ m_Ratio_bottom q_Ratio_bottom m_Ratio_top q_Ratio_top m_Many___init__ c__law_one_right P__law_one_right) : ExC (Gm K mg P w base T0) "InvalidNumber" [("value", 1)] 2 1 := by
  obtain ⟨oc, od, kV, doc, pm, an, ct, osl, lf⟩ := T.xi_InvalidNumber.fn
  exact ⟨⟨C_InvalidNumber, m_InvalidNumber___init__, _, ["self", "value"], T.g_InvalidNumber, T.xi_InvalidNumber.ox, T.xi_InvalidNumber.ini, T.xi_InvalidNumber.ty, xinit_ok (k := 0) T.xi_InvalidNumber lf xs_InvalidNumber T.b_super rfl rfl (by decide) (by decide) rfl (.cons rfl (by decide) (by decide) T.xn_InvalidNumber_value (fun _ => rfl) .nil) (by decide) (fun L => rfl), binds_ks fun us hl => match us, hl with | [_, _], _ => rfl⟩⟩
theorem xs_InvalidMany : XScope ["self", "value"] (defScope s_InvalidMany___init__) := ⟨rfl, rfl, rfl, by decide +kernel, by decide +kernel, rfl, rfl, by decide +kernel, by decide +kernel⟩
theorem ex_InvalidMany (T : Txt K mg P C_Ratio p_Ratio_own_bottom p_Ratio_own_top C_Many p_Many_own_least p_Many_own_most p_Many_own_place C_InvalidNumber C_LimitError C_StateError C_MissingError C_EachError C_InvalidCount m_InvalidCount___init__ cc_InvalidCount cda_InvalidCount m_InvalidNumber___init__ cc_InvalidNumber cda_InvalidNumber C_InvalidMany m_InvalidMany___init__ cc_InvalidMany cda_InvalidMany m_Ratio___init__ m_Ratio___repr__ m_Ratio___str__ m_Ratio___bool__ m_Ratio___eq__ m_Many___eq__ m_Ratio_bottom q_Ratio_bottom m_Ratio_top q_Ratio_top m_Many___init__ c__law_one_right P__law_one_right) : ExC (Gm K mg P w base T0) "InvalidMany" [("value", 1)] 2 1 := by
  obtain ⟨oc, od, kV, doc, pm, an, ct, osl, lf⟩ := T.xi_InvalidMany.fn
  exact ⟨⟨C_InvalidMany, m_InvalidMany___init__, _, ["self", "value"], T.g_InvalidMany, T.xi_InvalidMany.ox, T.xi_InvalidMany.ini, T.xi_InvalidMany.ty, xinit_ok (k := 0) T.xi_InvalidMany lf xs_InvalidMany T.b_super rfl rfl (by decide) (by decide) rfl (.cons rfl (by decide) (by decide) T.xn_InvalidMany_value (fun _ => rfl) .nil) (by decide) (fun L => rfl), binds_ks fun us hl => match us, hl with | [_, _], _ => rfl⟩⟩
abbrev s__law_draw : Stmt := top 36
abbrev n__law_draw : List Str := ["_law_rng_here", "_law_sides", "_law_digit"]
theorem sc__law_draw : FnScope n__law_draw ["_law_rng_here", "_law_sides"] (defScope s__law_draw) := ⟨rfl, rfl, rfl, by decide +kernel, rfl, by decide +kernel, by decide +kernel⟩
theorem ok__law_draw (F : Fun K "_law_draw" "_law_draw" s__law_draw f fd) (T : Txt K mg P C_Ratio p_Ratio_own_bottom p_Ratio_own_top C_Many p_Many_own_least p_Many_own_most p_Many_own_place C_InvalidNumber C_LimitError C_StateError C_MissingError C_EachError C_InvalidCount m_InvalidCount___init__ cc_InvalidCount cda_InvalidCount m_InvalidNumber___init__ cc_InvalidNumber cda_InvalidNumber C_InvalidMany m_InvalidMany___init__ cc_InvalidMany cda_InvalidMany m_Ratio___init__ m_Ratio___repr__ m_Ratio___str__ m_Ratio___bool__ m_Ratio___eq__ m_Many___eq__ m_Ratio_bottom q_Ratio_bottom m_Ratio_top q_Ratio_top m_Many___init__ c__law_one_right P__law_one_right) : FnX (Gm K mg P w base T0) true false 1 f fd ["_law_rng_here", "_law_sides"] (liftSp (Gm K mg P w base T0) 2 rd__law_draw) := by
  refine okX F sc__law_draw (fun vs H Q E h => liftSp_len h) (fun cdv A outer s H vs Q E hgd hr h => ⟨liftS (Gm K mg P w base T0) 2 ⟨fun c d _ H' => E c d H', T0, none⟩ rb__law_draw, ?_, body_lift (N := n__law_draw) h (by decide)⟩)
  have hr := RoomQ.of (ht := false) hr
  exact (dss_cons (ds_if (dt_cmpR op_gt o2_gt (de_ixM (pv 0) de_int (fun _ _ => rfl)) de_int (nobehind _ (by decide) (by decide)))
      (dss_cons (ds_asg (de_B call_dm ol_dm (by rfl) T.b_divmod (by decide +kernel) (da_cons (de_ixM (pv 0) de_int (fun _ _ => rfl)) (da_cons (de_var (pv 1)) da_nil))) (dg_tup (by rfl) (dgs_cons (dg_sub (pv 0) fun h1 h2 => pg_sub h1 h2 set_list) (dgs_cons (dg_name (pg_name (i := 2) sc__law_draw.nd rfl (by first | exact Or.inl rfl | exact Or.inr rfl))) dgs_nil))))
      (dss_one (ds_ret (de_var (pv 2)))))
      dss_nil)
    (dss_cons (ds_asg (de_bin op_mod o2_mod (de_Ty call_int1 ol_int (by rfl) T.b_int (by decide +kernel) (da_cons (de_bin op_addAll o2_add (de_bin op_mulW o2_mul (de_ixM (pv 0) de_int (fun _ _ => rfl)) de_int) de_int) da_nil)) de_int) (dg_sub (pv 0) fun h1 h2 => pg_sub h1 h2 set_list))
    (dss_one (ds_ret (de_bin op_mod o2_mod (de_Ty call_int1 ol_int (by rfl) T.b_int (by decide +kernel) (da_cons (de_bin op_fdivW o2_div (de_bin op_mod o2_mod (de_Ty call_int1 ol_int (by rfl) T.b_int (by decide +kernel) (da_cons (de_bin op_mulW o2_mul (de_ixM (pv 0) de_int (fun _ _ => rfl)) (de_ixM (pv 0) de_int (fun _ _ => rfl))) da_nil)) de_int) de_int) da_nil)) (de_var (pv 1)))))))
abbrev s__law_choice : Stmt := top 37
abbrev n__law_choice : List Str := ["_law_rng_here", "_law_some"]
theorem sc__law_choice : FnScope n__law_choice ["_law_rng_here", "_law_some"] (defScope s__law_choice) := ⟨rfl, rfl, rfl, by decide +kernel, rfl, by decide +kernel, by decide +kernel⟩
theorem ok__law_choice (F : Fun K "_law_choice" "_law_choice" s__law_choice f fd) (T : Txt K mg P C_Ratio p_Ratio_own_bottom p_Ratio_own_top C_Many p_Many_own_least p_Many_own_most p_Many_own_place C_InvalidNumber C_LimitError C_StateError C_MissingError C_EachError C_InvalidCount m_InvalidCount___init__ cc_InvalidCount cda_InvalidCount m_InvalidNumber___init__ cc_InvalidNumber cda_InvalidNumber C_InvalidMany m_InvalidMany___init__ cc_InvalidMany cda_InvalidMany m_Ratio___init__ m_Ratio___repr__ m_Ratio___str__ m_Ratio___bool__ m_Ratio___eq__ m_Many___eq__ m_Ratio_bottom q_Ratio_bottom m_Ratio_top q_Ratio_top m_Many___init__ c__law_one_right P__law_one_right) (D__law_draw : DnX (Gm K mg P w base T0) true false 1 "_law_draw" (liftSp (Gm K mg P w base T0) 2 rd__law_draw)) : FnX (Gm K mg P w base T0) true false 2 f fd ["_law_rng_here", "_law_some"] (liftSp (Gm K mg P w base T0) 2 rd__law_choice) := by
  refine okX F sc__law_choice (fun vs H Q E h => liftSp_len h) (fun cdv A outer s H vs Q E hgd hr h => ⟨liftS (Gm K mg P w base T0) 2 ⟨fun c d _ H' => E c d H', T0, none⟩ rb__law_choice, ?_, body_lift (N := n__law_choice) h (by decide)⟩)
  have hr := RoomQ.of (ht := false) hr
  exact (dss_one (ds_ret (de_ix (de_var (pv 1)) (de_callX D__law_draw hgd (hr.to (by decide) (by decide)) tk_of (dv_ref (pv 0) (dv_cons (de_B call_lenAll ol_len (by rfl) T.b_len (by decide +kernel) (da_cons (de_var (pv 1)) da_nil)) dv_nil))) (fun _ _ => rfl))))
abbrev s_is_integer : Stmt := top 13
abbrev n_is_integer : List Str := ["value"]
theorem sc_is_integer : FnScope n_is_integer ["value"] (defScope s_is_integer) := ⟨rfl, rfl, rfl, by decide +kernel, rfl, by decide +kernel, by decide +kernel⟩
theorem ok_is_integer (F : Fun K "is_integer" "is_integer" s_is_integer f fd) (T : Txt K mg P C_Ratio p_Ratio_own_bottom p_Ratio_own_top C_Many p_Many_own_least p_Many_own_most p_Many_own_place C_InvalidNumber C_LimitError C_StateError C_MissingError C_EachError C_InvalidCount m_InvalidCount___init__ cc_InvalidCount cda_InvalidCount m_InvalidNumber___init__ cc_InvalidNumber cda_InvalidNumber C_InvalidMany m_InvalidMany___init__ cc_InvalidMany cda_InvalidMany m_Ratio___init__ m_Ratio___repr__ m_Ratio___str__ m_Ratio___bool__ m_Ratio___eq__ m_Many___eq__ m_Ratio_bottom q_Ratio_bottom m_Ratio_top q_Ratio_top m_Many___init__ c__law_one_right P__law_one_right) : FnX (Gm K mg P w base T0) false false 1 f fd ["value"] (liftSp (Gm K mg P w base T0) 1 rd_is_integer) := by
  refine okX F sc_is_integer (fun vs H Q E h => liftSp_len h) (fun cdv A outer s H vs Q E hgd hr h => ⟨liftS (Gm K mg P w base T0) 1 ⟨fun c d _ H' => E c d H', T0, none⟩ rb_is_integer, ?_, body_lift (N := n_is_integer) h (by decide)⟩)
  have hr := RoomQ.of (ht := false) hr
  exact (dss_one (ds_ret (de_and (de_B call_isiX (ol_isiX T.tab) (by rfl) T.b_isinstance (by decide +kernel) (da_cons (de_var (pv 0)) (da_cons (de_c (v := .ty "int") (pe_bltn (u := .type "int") (by rfl) T.b_int (by decide +kernel) rfl) (fun _ _ => .ty _)) da_nil))) (de_one (de_not (de_B call_isiX (ol_isiX T.tab) (by rfl) T.b_isinstance (by decide +kernel) (da_cons (de_var (pv 0)) (da_cons (de_c (v := .ty "bool") (pe_bltn (u := .type "bool") (by rfl) T.b_bool (by decide +kernel) rfl) (fun _ _ => .ty _)) da_nil))))))))
abbrev s_is_count : Stmt := top 14
abbrev n_is_count : List Str := ["value"]
theorem sc_is_count : FnScope n_is_count ["value"] (defScope s_is_count) := ⟨rfl, rfl, rfl, by decide +kernel, rfl, by decide +kernel, by decide +kernel⟩
theorem ok_is_count (F : Fun K "is_count" "is_count" s_is_count f fd) (T : Txt K mg P C_Ratio p_Ratio_own_bottom p_Ratio_own_top C_Many p_Many_own_least p_Many_own_most p_Many_own_place C_InvalidNumber C_LimitError C_StateError C_MissingError C_EachError C_InvalidCount m_InvalidCount___init__ cc_InvalidCount cda_InvalidCount m_InvalidNumber___init__ cc_InvalidNumber cda_InvalidNumber C_InvalidMany m_InvalidMany___init__ cc_InvalidMany cda_InvalidMany m_Ratio___init__ m_Ratio___repr__ m_Ratio___str__ m_Ratio___bool__ m_Ratio___eq__ m_Many___eq__ m_Ratio_bottom q_Ratio_bottom m_Ratio_top q_Ratio_top m_Many___init__ c__law_one_right P__law_one_right) (D_is_integer : DnX (Gm K mg P w base T0) false false 1 "is_integer" (liftSp (Gm K mg P w base T0) 1 rd_is_integer)) : FnX (Gm K mg P w base T0) false false 2 f fd ["value"] (liftSp (Gm K mg P w base T0) 1 rd_is_count) := by
  refine okX F sc_is_count (fun vs H Q E h => liftSp_len h) (fun cdv A outer s H vs Q E hgd hr h => ⟨liftS (Gm K mg P w base T0) 1 ⟨fun c d _ H' => E c d H', T0, none⟩ rb_is_count, ?_, body_lift (N := n_is_count) h (by decide)⟩)
  have hr := RoomQ.of (ht := false) hr
  exact (dss_one (ds_ret (de_and (de_callX D_is_integer (fun z => nomatch z) (hr.to (by decide) (by decide)) tk_of (dv_cons (de_var (pv 0)) dv_nil)) (de_one (de_cmp op_ge o2_ge (de_var (pv 0)) de_int (nobehind _ (by decide) (by decide)))))))
abbrev s_common_divisor : Stmt := top 17
abbrev n_common_divisor : List Str := ["one", "other"]
theorem sc_common_divisor : FnScope n_common_divisor ["one", "other"] (defScope s_common_divisor) := ⟨rfl, rfl, rfl, by decide +kernel, rfl, by decide +kernel, by decide +kernel⟩
theorem ok_common_divisor (F : Fun K "common_divisor" "common_divisor" s_common_divisor f fd) (T : Txt K mg P C_Ratio p_Ratio_own_bottom p_Ratio_own_top C_Many p_Many_own_least p_Many_own_most p_Many_own_place C_InvalidNumber C_LimitError C_StateError C_MissingError C_EachError C_InvalidCount m_InvalidCount___init__ cc_InvalidCount cda_InvalidCount m_InvalidNumber___init__ cc_InvalidNumber cda_InvalidNumber C_InvalidMany m_InvalidMany___init__ cc_InvalidMany cda_InvalidMany m_Ratio___init__ m_Ratio___repr__ m_Ratio___str__ m_Ratio___bool__ m_Ratio___eq__ m_Many___eq__ m_Ratio_bottom q_Ratio_bottom m_Ratio_top q_Ratio_top m_Many___init__ c__law_one_right P__law_one_right) : FnX (Gm K mg P w base T0) false false 1 f fd ["one", "other"] (liftSp (Gm K mg P w base T0) 2 rd_common_divisor) := by
  refine okX F sc_common_divisor (fun vs H Q E h => liftSp_len h) (fun cdv A outer s H vs Q E hgd hr h => ⟨liftS (Gm K mg P w base T0) 2 ⟨fun c d _ H' => E c d H', T0, none⟩ rb_common_divisor, ?_, body_lift (N := n_common_divisor) h (by decide)⟩)
  have hr := RoomQ.of (ht := false) hr
  exact (dss_cons (ds_while own_of (dt_cmpR op_gt o2_gt (de_var (pv 1)) de_int (nobehind _ (by decide) (by decide)))
      (dss_one (ds_par (by rfl) sc_common_divisor.nd (i := 0) (j := 1) rfl rfl (by decide) rfl rfl (da_cons (de_var (pv 1)) (da_cons (de_bin op_mod o2_mod (de_var (pv 0)) (de_var (pv 1))) da_nil)) (by rfl))))
    (dss_one (ds_ret (de_var (pv 0)))))
abbrev s_Ratio___init__ : Stmt := inClass (top 20) 1
abbrev n_Ratio___init__ : List Str := ["self", "top", "bottom", "divisor"]
theorem sc_Ratio___init__ : FnScope n_Ratio___init__ ["self", "top", "bottom"] (defScope s_Ratio___init__) := ⟨rfl, rfl, rfl, by decide +kernel, rfl, by decide +kernel, by decide +kernel⟩
theorem ok_Ratio___init__ (F : FunD K "__init__" "Ratio.__init__" (defArgs s_Ratio___init__) (defBody s_Ratio___init__) (defScope s_Ratio___init__) [.int 1] [] f fd) (T : Txt K mg P C_Ratio p_Ratio_own_bottom p_Ratio_own_top C_Many p_Many_own_least p_Many_own_most p_Many_own_place C_InvalidNumber C_LimitError C_StateError C_MissingError C_EachError C_InvalidCount m_InvalidCount___init__ cc_InvalidCount cda_InvalidCount m_InvalidNumber___init__ cc_InvalidNumber cda_InvalidNumber C_InvalidMany m_InvalidMany___init__ cc_InvalidMany cda_InvalidMany m_Ratio___init__ m_Ratio___repr__ m_Ratio___str__ m_Ratio___bool__ m_Ratio___eq__ m_Many___eq__ m_Ratio_bottom q_Ratio_bottom m_Ratio_top q_Ratio_top m_Many___init__ c__law_one_right P__law_one_right) (D_is_count : DnX (Gm K mg P w base T0) false false 2 "is_count" (liftSp (Gm K mg P w base T0) 1 rd_is_count)) (EX_InvalidCount : ExC (Gm K mg P w base T0) "InvalidCount" [("value", 1)] 2 1) (D_is_integer : DnX (Gm K mg P w base T0) false false 1 "is_integer" (liftSp (Gm K mg P w base T0) 1 rd_is_integer)) (EX_InvalidNumber : ExC (Gm K mg P w base T0) "InvalidNumber" [("value", 1)] 2 1) (D_common_divisor : DnX (Gm K mg P w base T0) false false 1 "common_divisor" (liftSp (Gm K mg P w base T0) 2 rd_common_divisor)) : FnX (Gm K mg P w base T0) false false 3 f fd ["self", "top", "bottom"] (liftSp (Gm K mg P w base T0) 3 rd_Ratio___init__) := by
  refine okXD F sc_Ratio___init__ (fun vs H Q E h => liftSp_len h) (fun cdv A outer s H vs Q E hgd hr h => ⟨liftS (Gm K mg P w base T0) 3 ⟨fun c d _ H' => E c d H', T0, none⟩ rb_Ratio___init__, ?_, body_lift (N := n_Ratio___init__) h (by decide)⟩)
  have hr := RoomQ.of (ht := false) hr
  exact (dss_cons (ds_if (dt_not (dt_val (pt_val (de_callX D_is_count (fun z => nomatch z) (hr.to (by decide) (by decide)) tk_of (dv_cons (de_var (pv 1)) dv_nil)))))
      (dss_one (ds_raise tk_of (by rfl) EX_InvalidCount (hr.room.mono (by decide)) (da_cons (de_var (pv 1)) da_nil)))
      dss_nil)
    (dss_cons (ds_if (PW.pt (dw_or (dt_not (dt_val (pt_val (de_callX D_is_integer (fun z => nomatch z) (hr.to (by decide) (by decide)) tk_of (dv_cons (de_var (pv 2)) dv_nil))))) (dw_or1 (dt_cmpR op_lt o2_lt (de_var (pv 2)) de_int (nobehind _ (by decide) (by decide))))))
      (dss_one (ds_raise tk_of (by rfl) EX_InvalidNumber (hr.room.mono (by decide)) (da_cons (de_var (pv 2)) da_nil)))
      dss_nil)
    (dss_cons (ds_set (i := 3) sc_Ratio___init__.nd rfl (Or.inl rfl) (de_callX D_common_divisor (fun z => nomatch z) (hr.to (by decide) (by decide)) tk_of (dv_cons (de_var (pv 1)) (dv_cons (de_var (pv 2)) dv_nil))))
    (dss_cons (ds_setSl (pv 0) (de_bin op_fdivW o2_div (de_var (pv 1)) (de_var (pv 3))) T.g_Ratio T.sc_Ratio T.sl_Ratio_own_top)
    (dss_one (ds_setSl (pv 0) (de_bin op_fdivW o2_div (de_var (pv 2)) (de_var (pv 3))) T.g_Ratio T.sc_Ratio T.sl_Ratio_own_bottom))))))
abbrev s__law_any : Stmt := top 38
abbrev n__law_any : List Str := ["_law_rng_here"]
theorem sc__law_any : FnScope n__law_any ["_law_rng_here"] (defScope s__law_any) := ⟨rfl, rfl, rfl, by decide +kernel, rfl, by decide +kernel, by decide +kernel⟩
theorem ok__law_any (F : Fun K "_law_any" "_law_any" s__law_any f fd) (T : Txt K mg P C_Ratio p_Ratio_own_bottom p_Ratio_own_top C_Many p_Many_own_least p_Many_own_most p_Many_own_place C_InvalidNumber C_LimitError C_StateError C_MissingError C_EachError C_InvalidCount m_InvalidCount___init__ cc_InvalidCount cda_InvalidCount m_InvalidNumber___init__ cc_InvalidNumber cda_InvalidNumber C_InvalidMany m_InvalidMany___init__ cc_InvalidMany cda_InvalidMany m_Ratio___init__ m_Ratio___repr__ m_Ratio___str__ m_Ratio___bool__ m_Ratio___eq__ m_Many___eq__ m_Ratio_bottom q_Ratio_bottom m_Ratio_top q_Ratio_top m_Many___init__ c__law_one_right P__law_one_right) (D__law_draw : DnX (Gm K mg P w base T0) true false 1 "_law_draw" (liftSp (Gm K mg P w base T0) 2 rd__law_draw)) (D__law_choice : DnX (Gm K mg P w base T0) true false 2 "_law_choice" (liftSp (Gm K mg P w base T0) 2 rd__law_choice)) (MK_Ratio_1 : MkX (Gm K mg P w base T0) C_Ratio false false 3 3 rd_Ratio___init__ [.int 1]) : FnX (Gm K mg P w base T0) true false 5 f fd ["_law_rng_here"] (liftSp (Gm K mg P w base T0) 1 rd__law_any) := by
  refine okX F sc__law_any (fun vs H Q E h => liftSp_len h) (fun cdv A outer s H vs Q E hgd hr h => ⟨liftS (Gm K mg P w base T0) 1 ⟨fun c d _ H' => E c d H', T0, none⟩ rb__law_any, ?_, body_lift (N := n__law_any) h (by decide)⟩)
  have hr := RoomQ.of (ht := false) hr
  exact (dss_cons (ds_if (dt_cmpR (op_eqAll hr.units) o2_eq (de_callX D__law_draw hgd (hr.to (by decide) (by decide)) tk_of (dv_ref (pv 0) (dv_cons de_int dv_nil))) de_int (nobehind _ (by decide) (by decide)))
      (dss_one (ds_ret (de_callX D__law_choice hgd (hr.to (by decide) (by decide)) tk_of (dv_ref (pv 0) (dv_cons (de_lst (da_cons (de_neg de_int) (da_cons (de_neg (de_bin op_pow o2_pow de_int de_int)) (da_cons de_bl (da_cons de_bl (da_cons de_non (da_cons de_str (da_cons de_str (da_cons (de_tup (da_cons de_int da_nil)) (da_cons (de_lst (da_cons de_int da_nil)) (da_cons de_dct0 (da_cons (de_mkX true MK_Ratio_1 (fun z => nomatch z) (hr.to (by decide) (by decide)) tk_of T.g_Ratio (da_cons de_int da_nil)) da_nil)))))))))))) dv_nil)))))
      dss_nil)
    (dss_one (ds_ret (de_callX D__law_choice hgd (hr.to (by decide) (by decide)) tk_of (dv_ref (pv 0) (dv_cons (de_lst (da_cons de_int (da_cons de_int (da_cons de_int (da_cons de_int (da_cons de_int (da_cons de_int (da_cons de_int (da_cons de_int (da_cons (de_bin op_pow o2_pow de_int de_int) (da_cons (de_bin op_addAll o2_add (de_bin op_pow o2_pow de_int de_int) de_int) (da_cons (de_callX D__law_draw hgd (hr.to (by decide) (by decide)) tk_of (dv_ref (pv 0) (dv_cons de_int dv_nil))) (da_cons (de_bin op_pow o2_pow de_int de_int) da_nil))))))))))))) dv_nil))))))
abbrev s__law_two : Stmt := top 39
abbrev n__law_two : List Str := ["_law_rng_here", "_law_by", "_law_way"]
theorem sc__law_two : FnScope n__law_two ["_law_rng_here"] (defScope s__law_two) := ⟨rfl, rfl, rfl, by decide +kernel, rfl, by decide +kernel, by decide +kernel⟩
theorem ok__law_two (F : Fun K "_law_two" "_law_two" s__law_two f fd) (T : Txt K mg P C_Ratio p_Ratio_own_bottom p_Ratio_own_top C_Many p_Many_own_least p_Many_own_most p_Many_own_place C_InvalidNumber C_LimitError C_StateError C_MissingError C_EachError C_InvalidCount m_InvalidCount___init__ cc_InvalidCount cda_InvalidCount m_InvalidNumber___init__ cc_InvalidNumber cda_InvalidNumber C_InvalidMany m_InvalidMany___init__ cc_InvalidMany cda_InvalidMany m_Ratio___init__ m_Ratio___repr__ m_Ratio___str__ m_Ratio___bool__ m_Ratio___eq__ m_Many___eq__ m_Ratio_bottom q_Ratio_bottom m_Ratio_top q_Ratio_top m_Many___init__ c__law_one_right P__law_one_right) (D__law_draw : DnX (Gm K mg P w base T0) true false 1 "_law_draw" (liftSp (Gm K mg P w base T0) 2 rd__law_draw)) (D__law_choice : DnX (Gm K mg P w base T0) true false 2 "_law_choice" (liftSp (Gm K mg P w base T0) 2 rd__law_choice)) (D__law_any : DnX (Gm K mg P w base T0) true false 5 "_law_any" (liftSp (Gm K mg P w base T0) 1 rd__law_any)) : FnX (Gm K mg P w base T0) true false 6 f fd ["_law_rng_here"] (liftSp (Gm K mg P w base T0) 1 rd__law_two) := by
  refine okX F sc__law_two (fun vs H Q E h => liftSp_len h) (fun cdv A outer s H vs Q E hgd hr h => ⟨liftS (Gm K mg P w base T0) 1 ⟨fun c d _ H' => E c d H', T0, none⟩ rb__law_two, ?_, body_lift (N := n__law_two) h (by decide)⟩)
  have hr := RoomQ.of (ht := false) hr
  exact (dss_cons (ds_par (by rfl) sc__law_two.nd (i := 1) (j := 2) rfl rfl (by decide) rfl rfl (da_cons (de_callX D__law_choice hgd (hr.to (by decide) (by decide)) tk_of (dv_ref (pv 0) (dv_cons (de_lst (da_cons de_int (da_cons de_int (da_cons de_int (da_cons (de_bin op_pow o2_pow de_int de_int) (da_cons (de_bin op_addAll o2_add de_int (de_callX D__law_draw hgd (hr.to (by decide) (by decide)) tk_of (dv_ref (pv 0) (dv_cons de_int dv_nil)))) da_nil)))))) dv_nil))) (da_cons (de_callX D__law_draw hgd (hr.to (by decide) (by decide)) tk_of (dv_ref (pv 0) (dv_cons de_int dv_nil))) da_nil)) (by rfl))
    (dss_cons (ds_if (dt_cmpR (op_eqAll hr.units) o2_eq (de_var (pv 2)) de_int (nobehind _ (by decide) (by decide)))
      (dss_one (ds_ret (de_tup (da_cons (de_callX D__law_any hgd (hr.to (by decide) (by decide)) tk_of (dv_ref (pv 0) dv_nil)) (da_cons (de_callX D__law_any hgd (hr.to (by decide) (by decide)) tk_of (dv_ref (pv 0) dv_nil)) da_nil)))))
      dss_nil)
    (dss_one (ds_ret (de_tup (da_cons (de_bin op_mulW o2_mul (de_callX D__law_draw hgd (hr.to (by decide) (by decide)) tk_of (dv_ref (pv 0) (dv_cons de_int dv_nil))) (de_var (pv 1))) (da_cons (de_bin op_mulW o2_mul (de_bin op_addAll o2_add de_int (de_callX D__law_draw hgd (hr.to (by decide) (by decide)) tk_of (dv_ref (pv 0) (dv_cons de_int dv_nil)))) (de_var (pv 1))) da_nil)))))))
abbrev s__law_is_integer : Stmt := top 41
abbrev n__law_is_integer : List Str := ["_law_x"]
theorem sc__law_is_integer : FnScope n__law_is_integer ["_law_x"] (defScope s__law_is_integer) := ⟨rfl, rfl, rfl, by decide +kernel, rfl, by decide +kernel, by decide +kernel⟩
theorem ok__law_is_integer (F : Fun K "_law_is_integer" "_law_is_integer" s__law_is_integer f fd) (T : Txt K mg P C_Ratio p_Ratio_own_bottom p_Ratio_own_top C_Many p_Many_own_least p_Many_own_most p_Many_own_place C_InvalidNumber C_LimitError C_StateError C_MissingError C_EachError C_InvalidCount m_InvalidCount___init__ cc_InvalidCount cda_InvalidCount m_InvalidNumber___init__ cc_InvalidNumber cda_InvalidNumber C_InvalidMany m_InvalidMany___init__ cc_InvalidMany cda_InvalidMany m_Ratio___init__ m_Ratio___repr__ m_Ratio___str__ m_Ratio___bool__ m_Ratio___eq__ m_Many___eq__ m_Ratio_bottom q_Ratio_bottom m_Ratio_top q_Ratio_top m_Many___init__ c__law_one_right P__law_one_right) : FnX (Gm K mg P w base T0) true false 1 f fd ["_law_x"] (liftSp (Gm K mg P w base T0) 1 rd__law_is_integer) := by
  refine okX F sc__law_is_integer (fun vs H Q E h => liftSp_len h) (fun cdv A outer s H vs Q E hgd hr h => ⟨liftS (Gm K mg P w base T0) 1 ⟨fun c d _ H' => E c d H', T0, none⟩ rb__law_is_integer, ?_, body_lift (N := n__law_is_integer) h (by decide)⟩)
  have hr := RoomQ.of (ht := false) hr
  exact (dss_one (ds_ret (de_and (de_B call_isiX (ol_isiX T.tab) (by rfl) T.b_isinstance (by decide +kernel) (da_cons (de_var (pv 0)) (da_cons (de_c (v := .ty "int") (pe_bltn (u := .type "int") (by rfl) T.b_int (by decide +kernel) rfl) (fun _ _ => .ty _)) da_nil))) (de_one (de_not (de_B call_isiX (ol_isiX T.tab) (by rfl) T.b_isinstance (by decide +kernel) (da_cons (de_var (pv 0)) (da_cons (de_c (v := .ty "bool") (pe_bltn (u := .type "bool") (by rfl) T.b_bool (by decide +kernel) rfl) (fun _ _ => .ty _)) da_nil))))))))
abbrev s_Ratio___repr__ : Stmt := inClass (top 20) 18
abbrev n_Ratio___repr__ : List Str := ["self"]
theorem sc_Ratio___repr__ : FnScope n_Ratio___repr__ ["self"] (defScope s_Ratio___repr__) := ⟨rfl, rfl, rfl, by decide +kernel, rfl, by decide +kernel, by decide +kernel⟩
theorem ok_Ratio___repr__ (F : Fun K "__repr__" "Ratio.__repr__" s_Ratio___repr__ f fd) (T : Txt K mg P C_Ratio p_Ratio_own_bottom p_Ratio_own_top C_Many p_Many_own_least p_Many_own_most p_Many_own_place C_InvalidNumber C_LimitError C_StateError C_MissingError C_EachError C_InvalidCount m_InvalidCount___init__ cc_InvalidCount cda_InvalidCount m_InvalidNumber___init__ cc_InvalidNumber cda_InvalidNumber C_InvalidMany m_InvalidMany___init__ cc_InvalidMany cda_InvalidMany m_Ratio___init__ m_Ratio___repr__ m_Ratio___str__ m_Ratio___bool__ m_Ratio___eq__ m_Many___eq__ m_Ratio_bottom q_Ratio_bottom m_Ratio_top q_Ratio_top m_Many___init__ c__law_one_right P__law_one_right) : FnX (Gm K mg P w base T0) false true 1 f fd ["self"] (liftSp (Gm K mg P w base T0) 1 rd_Ratio___repr__) := by
  refine okXH F sc_Ratio___repr__ (fun vs H Q E h => liftSp_len h) (fun cdv A outer s H vs Q E hgd hr h => ⟨liftS (Gm K mg P w base T0) 1 ⟨fun c d _ H' => E c d H', T0, none⟩ rb_Ratio___repr__, ?_, body_lift (N := n_Ratio___repr__) h (by decide)⟩)
  exact (dss_one (ds_ret (de_join (.cons de_str (.cons (de_fmt (de_sl (de_var (pv 0)) T.g_Ratio T.sc_Ratio T.sl_Ratio_own_top)) (.cons de_str (.cons (de_fmt (de_sl (de_var (pv 0)) T.g_Ratio T.sc_Ratio T.sl_Ratio_own_bottom)) (.cons de_str .nil))))))))
abbrev s_Ratio___str__ : Stmt := inClass (top 20) 17
abbrev n_Ratio___str__ : List Str := ["self"]
theorem sc_Ratio___str__ : FnScope n_Ratio___str__ ["self"] (defScope s_Ratio___str__) := ⟨rfl, rfl, rfl, by decide +kernel, rfl, by decide +kernel, by decide +kernel⟩
theorem ok_Ratio___str__ (F : Fun K "__str__" "Ratio.__str__" s_Ratio___str__ f fd) (T : Txt K mg P C_Ratio p_Ratio_own_bottom p_Ratio_own_top C_Many p_Many_own_least p_Many_own_most p_Many_own_place C_InvalidNumber C_LimitError C_StateError C_MissingError C_EachError C_InvalidCount m_InvalidCount___init__ cc_InvalidCount cda_InvalidCount m_InvalidNumber___init__ cc_InvalidNumber cda_InvalidNumber C_InvalidMany m_InvalidMany___init__ cc_InvalidMany cda_InvalidMany m_Ratio___init__ m_Ratio___repr__ m_Ratio___str__ m_Ratio___bool__ m_Ratio___eq__ m_Many___eq__ m_Ratio_bottom q_Ratio_bottom m_Ratio_top q_Ratio_top m_Many___init__ c__law_one_right P__law_one_right) : FnX (Gm K mg P w base T0) false true 1 f fd ["self"] (liftSp (Gm K mg P w base T0) 1 rd_Ratio___str__) := by
  refine okXH F sc_Ratio___str__ (fun vs H Q E h => liftSp_len h) (fun cdv A outer s H vs Q E hgd hr h => ⟨liftS (Gm K mg P w base T0) 1 ⟨fun c d _ H' => E c d H', T0, none⟩ rb_Ratio___str__, ?_, body_lift (N := n_Ratio___str__) h (by decide)⟩)
  exact (dss_cons (ds_if (dt_cmpR (op_eqAll hr.units) o2_eq (de_sl (de_var (pv 0)) T.g_Ratio T.sc_Ratio T.sl_Ratio_own_bottom) de_int (nobehind _ (by decide) (by decide)))
      (dss_one (ds_ret (de_join1 (de_fmt (de_sl (de_var (pv 0)) T.g_Ratio T.sc_Ratio T.sl_Ratio_own_top)))))
      dss_nil)
    (dss_one (ds_ret (de_join (.cons (de_fmt (de_sl (de_var (pv 0)) T.g_Ratio T.sc_Ratio T.sl_Ratio_own_top)) (.cons de_str (.cons (de_fmt (de_sl (de_var (pv 0)) T.g_Ratio T.sc_Ratio T.sl_Ratio_own_bottom)) .nil)))))))
abbrev s_Ratio___bool__ : Stmt := inClass (top 20) 15
abbrev n_Ratio___bool__ : List Str := ["self"]
theorem sc_Ratio___bool__ : FnScope n_Ratio___bool__ ["self"] (defScope s_Ratio___bool__) := ⟨rfl, rfl, rfl, by decide +kernel, rfl, by decide +kernel, by decide +kernel⟩
theorem ok_Ratio___bool__ (F : Fun K "__bool__" "Ratio.__bool__" s_Ratio___bool__ f fd) (T : Txt K mg P C_Ratio p_Ratio_own_bottom p_Ratio_own_top C_Many p_Many_own_least p_Many_own_most p_Many_own_place C_InvalidNumber C_LimitError C_StateError C_MissingError C_EachError C_InvalidCount m_InvalidCount___init__ cc_InvalidCount cda_InvalidCount m_InvalidNumber___init__ cc_InvalidNumber cda_InvalidNumber C_InvalidMany m_InvalidMany___init__ cc_InvalidMany cda_InvalidMany m_Ratio___init__ m_Ratio___repr__ m_Ratio___str__ m_Ratio___bool__ m_Ratio___eq__ m_Many___eq__ m_Ratio_bottom q_Ratio_bottom m_Ratio_top q_Ratio_top m_Many___init__ c__law_one_right P__law_one_right) : FnX (Gm K mg P w base T0) false true 1 f fd ["self"] (liftSp (Gm K mg P w base T0) 1 rd_Ratio___bool__) := by
  refine okXH F sc_Ratio___bool__ (fun vs H Q E h => liftSp_len h) (fun cdv A outer s H vs Q E hgd hr h => ⟨liftS (Gm K mg P w base T0) 1 ⟨fun c d _ H' => E c d H', T0, none⟩ rb_Ratio___bool__, ?_, body_lift (N := n_Ratio___bool__) h (by decide)⟩)
  exact (dss_one (ds_ret (de_Ty call_bool1 ol_bool (by rfl) T.b_bool (by decide +kernel) (da_cons (de_sl (de_var (pv 0)) T.g_Ratio T.sc_Ratio T.sl_Ratio_own_top) da_nil))))
abbrev s_Ratio___eq__ : Stmt := inClass (top 20) 16
abbrev n_Ratio___eq__ : List Str := ["self", "other"]
theorem sc_Ratio___eq__ : FnScope n_Ratio___eq__ ["self", "other"] (defScope s_Ratio___eq__) := ⟨rfl, rfl, rfl, by decide +kernel, rfl, by decide +kernel, by decide +kernel⟩
theorem ok_Ratio___eq__ (F : Fun K "__eq__" "Ratio.__eq__" s_Ratio___eq__ f fd) (T : Txt K mg P C_Ratio p_Ratio_own_bottom p_Ratio_own_top C_Many p_Many_own_least p_Many_own_most p_Many_own_place C_InvalidNumber C_LimitError C_StateError C_MissingError C_EachError C_InvalidCount m_InvalidCount___init__ cc_InvalidCount cda_InvalidCount m_InvalidNumber___init__ cc_InvalidNumber cda_InvalidNumber C_InvalidMany m_InvalidMany___init__ cc_InvalidMany cda_InvalidMany m_Ratio___init__ m_Ratio___repr__ m_Ratio___str__ m_Ratio___bool__ m_Ratio___eq__ m_Many___eq__ m_Ratio_bottom q_Ratio_bottom m_Ratio_top q_Ratio_top m_Many___init__ c__law_one_right P__law_one_right) : FnX (Gm K mg P w base T0) false true 1 f fd ["self", "other"] (liftSp (Gm K mg P w base T0) 2 rd_Ratio___eq__) := by
  refine okXH F sc_Ratio___eq__ (fun vs H Q E h => liftSp_len h) (fun cdv A outer s H vs Q E hgd hr h => ⟨liftS (Gm K mg P w base T0) 2 ⟨fun c d _ H' => E c d H', T0, none⟩ rb_Ratio___eq__, ?_, body_lift (N := n_Ratio___eq__) h (by decide)⟩)
  exact (dss_cons (ds_if (dt_not (dt_val (pt_val (de_B call_isiX (ol_isiX T.tab) (by rfl) T.b_isinstance (by decide +kernel) (da_cons (de_var (pv 1)) (da_cons (de_c (v := .ref C_Ratio) (pe_glob (by rfl) T.g_Ratio rfl) (fun _ _ => .gl T.g_Ratio)) da_nil))))))
      (dss_one ds_never)
      dss_nil)
    (dss_one (ds_ret (de_cmp (op_eqAll hr.units) o2_eq (de_tup (da_cons (de_sl (de_var (pv 0)) T.g_Ratio T.sc_Ratio T.sl_Ratio_own_top) (da_cons (de_sl (de_var (pv 0)) T.g_Ratio T.sc_Ratio T.sl_Ratio_own_bottom) da_nil))) (de_tup (da_cons (de_sl (de_var (pv 1)) T.g_Ratio T.sc_Ratio T.sl_Ratio_own_top) (da_cons (de_sl (de_var (pv 1)) T.g_Ratio T.sc_Ratio T.sl_Ratio_own_bottom) da_nil))) (nobehind _ (by decide) (by decide))))))
theorem cm_Ratio___eq__ (F : Fun K "__eq__" "Ratio.__eq__" s_Ratio___eq__ f fd) (T : Txt K mg P C_Ratio p_Ratio_own_bottom p_Ratio_own_top C_Many p_Many_own_least p_Many_own_most p_Many_own_place C_InvalidNumber C_LimitError C_StateError C_MissingError C_EachError C_InvalidCount m_InvalidCount___init__ cc_InvalidCount cda_InvalidCount m_InvalidNumber___init__ cc_InvalidNumber cda_InvalidNumber C_InvalidMany m_InvalidMany___init__ cc_InvalidMany cda_InvalidMany m_Ratio___init__ m_Ratio___repr__ m_Ratio___str__ m_Ratio___bool__ m_Ratio___eq__ m_Many___eq__ m_Ratio_bottom q_Ratio_bottom m_Ratio_top q_Ratio_top m_Many___init__ c__law_one_right P__law_one_right) : CmFn (Gm K mg P w base T0) 1 f (cmF 2 (tNotD (tVal (eB (fIsiX slL ilL xlL tabL) (aCons (eVar 1) (aCons (eC (.gl "Ratio")) aNil))))) rd_Ratio___eq__) := by
  refine cm_of (N := n_Ratio___eq__) (k := 0) F sc_Ratio___eq__ (by decide) ((ok_Ratio___eq__ F T ).raw (F.binds (ps := ["self", "other"]) fun _ _ _ _ _ _ us hl => match us, hl with | [_, _], _ => rfl)) rfl T.b_NotImplemented rfl (fun _ _ _ _ _ _ us hl => match us, hl with | [_, _], _ => rfl) fun cdv A outer s H hr => ?_
  exact (dt_not (dt_val (pt_val (de_B call_isiX (ol_isiX T.tab) (by rfl) T.b_isinstance (by decide +kernel) (da_cons (de_var (pv 1)) (da_cons (de_c (v := .ref C_Ratio) (pe_glob (by rfl) T.g_Ratio rfl) (fun _ _ => .gl T.g_Ratio)) da_nil))))))
abbrev s_Many___eq__ : Stmt := inClass (top 33) 16
abbrev n_Many___eq__ : List Str := ["self", "other"]
theorem sc_Many___eq__ : FnScope n_Many___eq__ ["self", "other"] (defScope s_Many___eq__) := ⟨rfl, rfl, rfl, by decide +kernel, rfl, by decide +kernel, by decide +kernel⟩
theorem ok_Many___eq__ (F : Fun K "__eq__" "Many.__eq__" s_Many___eq__ f fd) (T : Txt K mg P C_Ratio p_Ratio_own_bottom p_Ratio_own_top C_Many p_Many_own_least p_Many_own_most p_Many_own_place C_InvalidNumber C_LimitError C_StateError C_MissingError C_EachError C_InvalidCount m_InvalidCount___init__ cc_InvalidCount cda_InvalidCount m_InvalidNumber___init__ cc_InvalidNumber cda_InvalidNumber C_InvalidMany m_InvalidMany___init__ cc_InvalidMany cda_InvalidMany m_Ratio___init__ m_Ratio___repr__ m_Ratio___str__ m_Ratio___bool__ m_Ratio___eq__ m_Many___eq__ m_Ratio_bottom q_Ratio_bottom m_Ratio_top q_Ratio_top m_Many___init__ c__law_one_right P__law_one_right) : FnX (Gm K mg P w base T0) false true 1 f fd ["self", "other"] (liftSp (Gm K mg P w base T0) 2 rd_Many___eq__) := by
  refine okXH F sc_Many___eq__ (fun vs H Q E h => liftSp_len h) (fun cdv A outer s H vs Q E hgd hr h => ⟨liftS (Gm K mg P w base T0) 2 ⟨fun c d _ H' => E c d H', T0, none⟩ rb_Many___eq__, ?_, body_lift (N := n_Many___eq__) h (by decide)⟩)
  exact (dss_cons (ds_if (dt_not (dt_val (pt_val (de_B call_isiX (ol_isiX T.tab) (by rfl) T.b_isinstance (by decide +kernel) (da_cons (de_var (pv 1)) (da_cons (de_c (v := .ref C_Many) (pe_glob (by rfl) T.g_Many rfl) (fun _ _ => .gl T.g_Many)) da_nil))))))
      (dss_one ds_never)
      dss_nil)
    (dss_one (ds_ret (de_cmp (op_eqAll hr.units) o2_eq (de_sl (de_var (pv 0)) T.g_Many T.sc_Many T.sl_Many_own_place) (de_sl (de_var (pv 1)) T.g_Many T.sc_Many T.sl_Many_own_place) (nobehind _ (by decide) (by decide))))))
theorem cm_Many___eq__ (F : Fun K "__eq__" "Many.__eq__" s_Many___eq__ f fd) (T : Txt K mg P C_Ratio p_Ratio_own_bottom p_Ratio_own_top C_Many p_Many_own_least p_Many_own_most p_Many_own_place C_InvalidNumber C_LimitError C_StateError C_MissingError C_EachError C_InvalidCount m_InvalidCount___init__ cc_InvalidCount cda_InvalidCount m_InvalidNumber___init__ cc_InvalidNumber cda_InvalidNumber C_InvalidMany m_InvalidMany___init__ cc_InvalidMany cda_InvalidMany m_Ratio___init__ m_Ratio___repr__ m_Ratio___str__ m_Ratio___bool__ m_Ratio___eq__ m_Many___eq__ m_Ratio_bottom q_Ratio_bottom m_Ratio_top q_Ratio_top m_Many___init__ c__law_one_right P__law_one_right) : CmFn (Gm K mg P w base T0) 1 f (cmF 2 (tNotD (tVal (eB (fIsiX slL ilL xlL tabL) (aCons (eVar 1) (aCons (eC (.gl "Many")) aNil))))) rd_Many___eq__) := by
  refine cm_of (N := n_Many___eq__) (k := 0) F sc_Many___eq__ (by decide) ((ok_Many___eq__ F T ).raw (F.binds (ps := ["self", "other"]) fun _ _ _ _ _ _ us hl => match us, hl with | [_, _], _ => rfl)) rfl T.b_NotImplemented rfl (fun _ _ _ _ _ _ us hl => match us, hl with | [_, _], _ => rfl) fun cdv A outer s H hr => ?_
  exact (dt_not (dt_val (pt_val (de_B call_isiX (ol_isiX T.tab) (by rfl) T.b_isinstance (by decide +kernel) (da_cons (de_var (pv 1)) (da_cons (de_c (v := .ref C_Many) (pe_glob (by rfl) T.g_Many rfl) (fun _ _ => .gl T.g_Many)) da_nil))))))
abbrev s__law_common : Stmt := top 40
abbrev n__law_common : List Str := ["_law_one", "_law_two_here"]
theorem sc__law_common : FnScope n__law_common ["_law_one", "_law_two_here"] (defScope s__law_common) := ⟨rfl, rfl, rfl, by decide +kernel, rfl, by decide +kernel, by decide +kernel⟩
theorem ok__law_common (F : Fun K "_law_common" "_law_common" s__law_common f fd) (T : Txt K mg P C_Ratio p_Ratio_own_bottom p_Ratio_own_top C_Many p_Many_own_least p_Many_own_most p_Many_own_place C_InvalidNumber C_LimitError C_StateError C_MissingError C_EachError C_InvalidCount m_InvalidCount___init__ cc_InvalidCount cda_InvalidCount m_InvalidNumber___init__ cc_InvalidNumber cda_InvalidNumber C_InvalidMany m_InvalidMany___init__ cc_InvalidMany cda_InvalidMany m_Ratio___init__ m_Ratio___repr__ m_Ratio___str__ m_Ratio___bool__ m_Ratio___eq__ m_Many___eq__ m_Ratio_bottom q_Ratio_bottom m_Ratio_top q_Ratio_top m_Many___init__ c__law_one_right P__law_one_right) : FnX (Gm K mg P w base T0) true false 1 f fd ["_law_one", "_law_two_here"] (liftSp (Gm K mg P w base T0) 2 rd__law_common) := by
  refine okX F sc__law_common (fun vs H Q E h => liftSp_len h) (fun cdv A outer s H vs Q E hgd hr h => ⟨liftS (Gm K mg P w base T0) 2 ⟨fun c d _ H' => E c d H', T0, none⟩ rb__law_common, ?_, body_lift (N := n__law_common) h (by decide)⟩)
  have hr := RoomQ.of (ht := false) hr
  exact (dss_cons (ds_while own_of (dt_cmpR op_gt o2_gt (de_var (pv 1)) de_int (nobehind _ (by decide) (by decide)))
      (dss_one (ds_par (by rfl) sc__law_common.nd (i := 0) (j := 1) rfl rfl (by decide) rfl rfl (da_cons (de_var (pv 1)) (da_cons (de_bin op_mod o2_mod (de_Ty call_int1 ol_int (by rfl) T.b_int (by decide +kernel) (da_cons (de_var (pv 0)) da_nil)) (de_var (pv 1))) da_nil)) (by rfl))))
    (dss_one (ds_ret (de_var (pv 0)))))
abbrev s__law_due : Stmt := top 44
abbrev n__law_due : List Str := ["_law_a", "_law_b", "_law_base", "_law_by", "_law_p", "_law_q", "_law_words"]
theorem sc__law_due : FnScope n__law_due ["_law_a", "_law_b"] (defScope s__law_due) := ⟨rfl, rfl, rfl, by decide +kernel, rfl, by decide +kernel, by decide +kernel⟩
theorem ok__law_due (F : Fun K "_law_due" "_law_due" s__law_due f fd) (T : Txt K mg P C_Ratio p_Ratio_own_bottom p_Ratio_own_top C_Many p_Many_own_least p_Many_own_most p_Many_own_place C_InvalidNumber C_LimitError C_StateError C_MissingError C_EachError C_InvalidCount m_InvalidCount___init__ cc_InvalidCount cda_InvalidCount m_InvalidNumber___init__ cc_InvalidNumber cda_InvalidNumber C_InvalidMany m_InvalidMany___init__ cc_InvalidMany cda_InvalidMany m_Ratio___init__ m_Ratio___repr__ m_Ratio___str__ m_Ratio___bool__ m_Ratio___eq__ m_Many___eq__ m_Ratio_bottom q_Ratio_bottom m_Ratio_top q_Ratio_top m_Many___init__ c__law_one_right P__law_one_right) (D__law_is_integer : DnX (Gm K mg P w base T0) true false 1 "_law_is_integer" (liftSp (Gm K mg P w base T0) 1 rd__law_is_integer)) (OW : OwOk (Gm K mg P w base T0) 1 owL) (D__law_common : DnX (Gm K mg P w base T0) true false 1 "_law_common" (liftSp (Gm K mg P w base T0) 2 rd__law_common)) : FnX (Gm K mg P w base T0) true false 6 f fd ["_law_a", "_law_b"] (liftSp (Gm K mg P w base T0) 2 rd__law_due) := by
  refine okX F sc__law_due (fun vs H Q E h => liftSp_len h) (fun cdv A outer s H vs Q E hgd hr h => ⟨liftS (Gm K mg P w base T0) 2 ⟨fun c d _ H' => E c d H', T0, none⟩ rb__law_due, ?_, body_lift (N := n__law_due) h (by decide)⟩)
  have hr := RoomQ.of (ht := false) hr
  exact (dss_cons (ds_set (i := 2) sc__law_due.nd rfl (Or.inl rfl) (de_lst (da_cons de_bl (da_cons de_bl (da_cons de_bl (da_cons de_bl da_nil))))))
    (dss_cons (ds_if (PW.pt (dw_or (dt_not (dt_val (pt_val (de_callX D__law_is_integer hgd (hr.to (by decide) (by decide)) tk_of (dv_cons (de_var (pv 0)) dv_nil))))) (dw_or1 (dt_cmpR op_lt o2_lt (de_var (pv 0)) de_int (nobehind _ (by decide) (by decide))))))
      (dss_one (ds_ret (de_BL (call_reprX (ht := true) OW (hgd rfl) (hr.to (by decide) (by decide))) (by rfl) T.b_repr (by decide +kernel) (da_cons (de_lst (da_cons de_str (da_cons (de_var (pv 0)) (da_cons (de_var (pv 2)) da_nil)))) da_nil))))
      dss_nil)
    (dss_cons (ds_if (PW.pt (dw_or (dt_not (dt_val (pt_val (de_callX D__law_is_integer hgd (hr.to (by decide) (by decide)) tk_of (dv_cons (de_var (pv 1)) dv_nil))))) (dw_or1 (dt_cmpR op_lt o2_lt (de_var (pv 1)) de_int (nobehind _ (by decide) (by decide))))))
      (dss_one (ds_ret (de_BL (call_reprX (ht := true) OW (hgd rfl) (hr.to (by decide) (by decide))) (by rfl) T.b_repr (by decide +kernel) (da_cons (de_lst (da_cons de_str (da_cons (de_var (pv 1)) (da_cons (de_var (pv 2)) da_nil)))) da_nil))))
      dss_nil)
    (dss_cons (ds_set (i := 3) sc__law_due.nd rfl (Or.inl rfl) (de_callX D__law_common hgd (hr.to (by decide) (by decide)) tk_of (dv_cons (de_var (pv 0)) (dv_cons (de_var (pv 1)) dv_nil))))
    (dss_cons (ds_par (by rfl) sc__law_due.nd (i := 4) (j := 5) rfl rfl (by decide) rfl rfl (da_cons (de_bin op_fdivW o2_div (de_var (pv 0)) (de_var (pv 3))) (da_cons (de_bin op_fdivW o2_div (de_var (pv 1)) (de_var (pv 3))) da_nil)) (by rfl))
    (dss_cons (ds_set (i := 6) sc__law_due.nd rfl (Or.inl rfl) (de_ifE (dt_cmpR (op_eqAll hr.units) o2_eq (de_var (pv 5)) de_int (nobehind _ (by decide) (by decide))) (de_TyL (call_strX (ht := true) OW (hr.to (by decide) (by decide))) (by rfl) T.b_str (by decide +kernel) (da_cons (de_var (pv 4)) da_nil)) (de_bin op_addAll o2_add (de_bin op_addAll o2_add (de_TyL (call_strX (ht := true) OW (hr.to (by decide) (by decide))) (by rfl) T.b_str (by decide +kernel) (da_cons (de_var (pv 4)) da_nil)) de_str) (de_TyL (call_strX (ht := true) OW (hr.to (by decide) (by decide))) (by rfl) T.b_str (by decide +kernel) (da_cons (de_var (pv 5)) da_nil)))))
    (dss_one (ds_ret (de_BL (call_reprX (ht := true) OW (hgd rfl) (hr.to (by decide) (by decide))) (by rfl) T.b_repr (by decide +kernel) (da_cons (de_lst (da_cons de_str (da_cons (de_var (pv 4)) (da_cons (de_var (pv 5)) (da_cons (de_var (pv 6)) (da_cons (de_bin op_addAll o2_add (de_bin op_addAll o2_add (de_bin op_addAll o2_add (de_bin op_addAll o2_add de_str (de_TyL (call_strX (ht := true) OW (hr.to (by decide) (by decide))) (by rfl) T.b_str (by decide +kernel) (da_cons (de_var (pv 4)) da_nil))) de_str) (de_TyL (call_strX (ht := true) OW (hr.to (by decide) (by decide))) (by rfl) T.b_str (by decide +kernel) (da_cons (de_var (pv 5)) da_nil))) de_str) (da_cons (de_cmp op_gt o2_gt (de_var (pv 4)) de_int (nobehind _ (by decide) (by decide))) da_nil))))))) da_nil))))))))))
abbrev s_Ratio_bottom : Stmt := inClass (top 20) 3
abbrev n_Ratio_bottom : List Str := ["self"]
theorem sc_Ratio_bottom : FnScope n_Ratio_bottom ["self"] (defScope s_Ratio_bottom) := ⟨rfl, rfl, rfl, by decide +kernel, rfl, by decide +kernel, by decide +kernel⟩
theorem ok_Ratio_bottom (F : Fun K "bottom" "Ratio.bottom" s_Ratio_bottom f fd) (T : Txt K mg P C_Ratio p_Ratio_own_bottom p_Ratio_own_top C_Many p_Many_own_least p_Many_own_most p_Many_own_place C_InvalidNumber C_LimitError C_StateError C_MissingError C_EachError C_InvalidCount m_InvalidCount___init__ cc_InvalidCount cda_InvalidCount m_InvalidNumber___init__ cc_InvalidNumber cda_InvalidNumber C_InvalidMany m_InvalidMany___init__ cc_InvalidMany cda_InvalidMany m_Ratio___init__ m_Ratio___repr__ m_Ratio___str__ m_Ratio___bool__ m_Ratio___eq__ m_Many___eq__ m_Ratio_bottom q_Ratio_bottom m_Ratio_top q_Ratio_top m_Many___init__ c__law_one_right P__law_one_right) : FnX (Gm K mg P w base T0) false false 1 f fd ["self"] (liftSp (Gm K mg P w base T0) 1 rd_Ratio_bottom) := by
  refine okX F sc_Ratio_bottom (fun vs H Q E h => liftSp_len h) (fun cdv A outer s H vs Q E hgd hr h => ⟨liftS (Gm K mg P w base T0) 1 ⟨fun c d _ H' => E c d H', T0, none⟩ rb_Ratio_bottom, ?_, body_lift (N := n_Ratio_bottom) h (by decide)⟩)
  have hr := RoomQ.of (ht := false) hr
  exact (dss_one (ds_ret (de_sl (de_var (pv 0)) T.g_Ratio T.sc_Ratio T.sl_Ratio_own_bottom)))
abbrev s_Ratio_top : Stmt := inClass (top 20) 2
abbrev n_Ratio_top : List Str := ["self"]
theorem sc_Ratio_top : FnScope n_Ratio_top ["self"] (defScope s_Ratio_top) := ⟨rfl, rfl, rfl, by decide +kernel, rfl, by decide +kernel, by decide +kernel⟩
theorem ok_Ratio_top (F : Fun K "top" "Ratio.top" s_Ratio_top f fd) (T : Txt K mg P C_Ratio p_Ratio_own_bottom p_Ratio_own_top C_Many p_Many_own_least p_Many_own_most p_Many_own_place C_InvalidNumber C_LimitError C_StateError C_MissingError C_EachError C_InvalidCount m_InvalidCount___init__ cc_InvalidCount cda_InvalidCount m_InvalidNumber___init__ cc_InvalidNumber cda_InvalidNumber C_InvalidMany m_InvalidMany___init__ cc_InvalidMany cda_InvalidMany m_Ratio___init__ m_Ratio___repr__ m_Ratio___str__ m_Ratio___bool__ m_Ratio___eq__ m_Many___eq__ m_Ratio_bottom q_Ratio_bottom m_Ratio_top q_Ratio_top m_Many___init__ c__law_one_right P__law_one_right) : FnX (Gm K mg P w base T0) false false 1 f fd ["self"] (liftSp (Gm K mg P w base T0) 1 rd_Ratio_top) := by
  refine okX F sc_Ratio_top (fun vs H Q E h => liftSp_len h) (fun cdv A outer s H vs Q E hgd hr h => ⟨liftS (Gm K mg P w base T0) 1 ⟨fun c d _ H' => E c d H', T0, none⟩ rb_Ratio_top, ?_, body_lift (N := n_Ratio_top) h (by decide)⟩)
  have hr := RoomQ.of (ht := false) hr
  exact (dss_one (ds_ret (de_sl (de_var (pv 0)) T.g_Ratio T.sc_Ratio T.sl_Ratio_own_top)))
abbrev s__law_bases : Stmt := top 42
abbrev n__law_bases : List Str := ["_law_e"]
theorem sc__law_bases : FnScope n__law_bases ["_law_e"] (defScope s__law_bases) := ⟨rfl, rfl, rfl, by decide +kernel, rfl, by decide +kernel, by decide +kernel⟩
theorem ok__law_bases (F : Fun K "_law_bases" "_law_bases" s__law_bases f fd) (T : Txt K mg P C_Ratio p_Ratio_own_bottom p_Ratio_own_top C_Many p_Many_own_least p_Many_own_most p_Many_own_place C_InvalidNumber C_LimitError C_StateError C_MissingError C_EachError C_InvalidCount m_InvalidCount___init__ cc_InvalidCount cda_InvalidCount m_InvalidNumber___init__ cc_InvalidNumber cda_InvalidNumber C_InvalidMany m_InvalidMany___init__ cc_InvalidMany cda_InvalidMany m_Ratio___init__ m_Ratio___repr__ m_Ratio___str__ m_Ratio___bool__ m_Ratio___eq__ m_Many___eq__ m_Ratio_bottom q_Ratio_bottom m_Ratio_top q_Ratio_top m_Many___init__ c__law_one_right P__law_one_right) : FnX (Gm K mg P w base T0) true true 1 f fd ["_law_e"] (liftSp (Gm K mg P w base T0) 1 rd__law_bases) := by
  refine okXH F sc__law_bases (fun vs H Q E h => liftSp_len h) (fun cdv A outer s H vs Q E hgd hr h => ⟨liftS (Gm K mg P w base T0) 1 ⟨fun c d _ H' => E c d H', T0, none⟩ rb__law_bases, ?_, body_lift (N := n__law_bases) h (by decide)⟩)
  exact (dss_one (ds_ret (de_lst (da_cons (de_B call_isiX (ol_isiX T.tab) (by rfl) T.b_isinstance (by decide +kernel) (da_cons (de_var (pv 0)) (da_cons (de_c (v := .ref C_EachError) (pe_glob (by rfl) T.g_EachError rfl) (fun _ _ => .gl T.g_EachError)) da_nil))) (da_cons (de_B call_isiX (ol_isiX T.tab) (by rfl) T.b_isinstance (by decide +kernel) (da_cons (de_var (pv 0)) (da_cons (de_c (v := .ref C_MissingError) (pe_glob (by rfl) T.g_MissingError rfl) (fun _ _ => .gl T.g_MissingError)) da_nil))) (da_cons (de_B call_isiX (ol_isiX T.tab) (by rfl) T.b_isinstance (by decide +kernel) (da_cons (de_var (pv 0)) (da_cons (de_c (v := .ref C_StateError) (pe_glob (by rfl) T.g_StateError rfl) (fun _ _ => .gl T.g_StateError)) da_nil))) (da_cons (de_B call_isiX (ol_isiX T.tab) (by rfl) T.b_isinstance (by decide +kernel) (da_cons (de_var (pv 0)) (da_cons (de_c (v := .ref C_LimitError) (pe_glob (by rfl) T.g_LimitError rfl) (fun _ _ => .gl T.g_LimitError)) da_nil))) da_nil)))))))
abbrev s__law_told : Stmt := top 43
abbrev n__law_told : List Str := ["_law_call", "_law_told_here", "_law_made", "_law_e"]
theorem sc__law_told : FnScope n__law_told ["_law_call"] (defScope s__law_told) := ⟨rfl, rfl, rfl, by decide +kernel, rfl, by decide +kernel, by decide +kernel⟩
theorem ok__law_told (X : K.In h) (G : h.Ns mainGlobals mg) (dd : HasDef K "_law_told" s__law_told) (T : Txt K mg P C_Ratio p_Ratio_own_bottom p_Ratio_own_top C_Many p_Many_own_least p_Many_own_most p_Many_own_place C_InvalidNumber C_LimitError C_StateError C_MissingError C_EachError C_InvalidCount m_InvalidCount___init__ cc_InvalidCount cda_InvalidCount m_InvalidNumber___init__ cc_InvalidNumber cda_InvalidNumber C_InvalidMany m_InvalidMany___init__ cc_InvalidMany cda_InvalidMany m_Ratio___init__ m_Ratio___repr__ m_Ratio___str__ m_Ratio___bool__ m_Ratio___eq__ m_Many___eq__ m_Ratio_bottom q_Ratio_bottom m_Ratio_top q_Ratio_top m_Many___init__ c__law_one_right P__law_one_right) (OW : OwOk (Gm K mg P w base T0) 1 owL) (D_Ratio_bottom : FnRX (Gm K mg P w base T0) false false 1 m_Ratio_bottom (liftSp (Gm K mg P w base T0) 1 rd_Ratio_bottom)) (D_Ratio_top : FnRX (Gm K mg P w base T0) false false 1 m_Ratio_top (liftSp (Gm K mg P w base T0) 1 rd_Ratio_top)) (D__law_bases : DnX (Gm K mg P w base T0) true true 1 "_law_bases" (liftSp (Gm K mg P w base T0) 1 rd__law_bases)) : LamFn (Gm K mg P w base T0) true 12 13 "_law_told" 4 rb__law_told := by
  refine okLam X G dd sc__law_told (by decide) (fun _ _ _ _ _ _ us hl => match us, hl with | [_], _ => rfl) fun cdv A outer s H g f W L E hgd hr hf hA => ?_
  have hr := RoomQ.of (ht := false) hr
  exact (dss_cons (ds_set (i := 1) sc__law_told.nd rfl (Or.inl rfl) (de_lst (da_cons de_str da_nil)))
    (dss_cons (ds_try rfl rfl rfl sc__law_told.nd tk_of T.xt (fun W pn xe tk1 po1 =>
      (dss_cons (ds_set (i := 2) sc__law_told.nd rfl (Or.inl rfl) (de_act (by rfl) (by first | exact Or.inl rfl | exact Or.inr (Or.inl rfl)) hf hA hgd (hr.room.mono (by decide)) tk1))
      (dss_one (ds_set (i := 1) sc__law_told.nd rfl (Or.inl rfl) (de_lst (da_cons de_str (da_cons (de_pSX (de_var (pv 2)) T.g_Ratio T.sc_Ratio T.pr_Ratio_top D_Ratio_top (hr.to (by decide) (by decide))) (da_cons (de_pSX (de_var (pv 2)) T.g_Ratio T.sc_Ratio T.pr_Ratio_bottom D_Ratio_bottom (hr.to (by decide) (by decide))) (da_cons (de_TyL (call_strX (ht := true) OW (hr.to (by decide) (by decide))) (by rfl) T.b_str (by decide +kernel) (da_cons (de_var (pv 2)) da_nil)) (da_cons (de_BL (call_reprX (ht := true) OW (hgd rfl) (hr.to (by decide) (by decide))) (by rfl) T.b_repr (by decide +kernel) (da_cons (de_var (pv 2)) da_nil)) (da_cons (de_TyL (call_boolX (ht := true) OW (hr.to (by decide) (by decide))) (by rfl) T.b_bool (by decide +kernel) (da_cons (de_var (pv 2)) da_nil)) da_nil)))))))))))
      (.as (i := 3) ⟨by rfl, by decide, .inl T.g_InvalidCount⟩ rfl rfl rfl (fun a pn =>
        (dss_one (ds_set (i := 1) sc__law_told.nd rfl (Or.inl rfl) (de_lst (da_cons de_str (da_cons (de_xf T.xf_value (de_var (pv 3))) (da_cons (de_callX D__law_bases hgd (hr.mark.to (by decide) (by decide)) tk_no (dv_cons (de_var (pv 3)) dv_nil)) da_nil)))))))
        (.as (i := 3) ⟨by rfl, by decide, .inl T.g_InvalidNumber⟩ rfl rfl rfl (fun a pn =>
        (dss_one (ds_set (i := 1) sc__law_told.nd rfl (Or.inl rfl) (de_lst (da_cons de_str (da_cons (de_xf T.xf_value (de_var (pv 3))) (da_cons (de_callX D__law_bases hgd (hr.mark.to (by decide) (by decide)) tk_no (dv_cons (de_var (pv 3)) dv_nil)) da_nil)))))))
        .nil)))
    (dss_one (ds_ret (de_BL (call_reprX (ht := true) OW (hgd rfl) (hr.to (by decide) (by decide))) (by rfl) T.b_repr (by decide +kernel) (da_cons (de_var (pv 1)) da_nil))))))
abbrev s__law_one_right : Stmt := top 45
abbrev n__law_one_right : List Str := ["_law_a", "_law_b", "_law_due_here", "_law_told_here"]
theorem sc__law_one_right : FnScope n__law_one_right ["_law_a", "_law_b"] (defScope s__law_one_right) := ⟨rfl, rfl, rfl, by decide +kernel, rfl, by decide +kernel, by decide +kernel⟩
theorem ok__law_one_right (F : FunC K "_law_one_right" "_law_one_right" s__law_one_right f fd c__law_one_right) (T : Txt K mg P C_Ratio p_Ratio_own_bottom p_Ratio_own_top C_Many p_Many_own_least p_Many_own_most p_Many_own_place C_InvalidNumber C_LimitError C_StateError C_MissingError C_EachError C_InvalidCount m_InvalidCount___init__ cc_InvalidCount cda_InvalidCount m_InvalidNumber___init__ cc_InvalidNumber cda_InvalidNumber C_InvalidMany m_InvalidMany___init__ cc_InvalidMany cda_InvalidMany m_Ratio___init__ m_Ratio___repr__ m_Ratio___str__ m_Ratio___bool__ m_Ratio___eq__ m_Many___eq__ m_Ratio_bottom q_Ratio_bottom m_Ratio_top q_Ratio_top m_Many___init__ c__law_one_right P__law_one_right) (D__law_due : DnX (Gm K mg P w base T0) true false 6 "_law_due" (liftSp (Gm K mg P w base T0) 2 rd__law_due)) (LM__law_told : LamFn (Gm K mg P w base T0) true 12 13 "_law_told" 4 rb__law_told) (MK_Ratio_0 : MkX (Gm K mg P w base T0) C_Ratio false false 3 3 rd_Ratio___init__ []) (MKK_Ratio_bottom_top : MkK (Gm K mg P w base T0) C_Ratio false false 3 ["bottom", "top"] [.inl 2, .inl 1] [.int 1] 3 rd_Ratio___init__) (MK_Ratio_1 : MkX (Gm K mg P w base T0) C_Ratio false false 3 3 rd_Ratio___init__ [.int 1]) (MKK_Ratio_top : MkK (Gm K mg P w base T0) C_Ratio false false 3 ["top"] [.inl 1, .inr 0] [.int 1] 3 rd_Ratio___init__) (CM : CmOk (Gm K mg P w base T0) 1 cmL) (TB : LamX.TabB base mg c__law_one_right P__law_one_right) (HT : (P__law_one_right, (("_law_one_right" ++ ".<locals>." ++ "<lambda>") : Str)) ∈ TbL.t) (HU : ∀ p ∈ TbL.t, p.1 = P__law_one_right → p.2 = (("_law_one_right" ++ ".<locals>." ++ "<lambda>") : Str)) : FnX (Gm K mg P w base T0) true false 14 f fd ["_law_a", "_law_b"] (liftSp (Gm K mg P w base T0) 2 rd__law_one_right) := by
  refine okXC F sc__law_one_right (fun vs H Q E h => liftSp_len h) (fun A outer s H vs Q E hgd hr h => ⟨liftS (Gm K mg P w base T0) 2 ⟨fun c d _ H' => E c d H', T0, none⟩ rb__law_one_right, ?_, body_lift (N := n__law_one_right) h (by decide)⟩)
  have hr := RoomQ.of (ht := false) hr
  exact (dss_cons (ds_set (i := 2) sc__law_one_right.nd rfl (Or.inl rfl) (de_callX D__law_due hgd (hr.to (by decide) (by decide)) tk_of (dv_cons (de_var (pv 0)) (dv_cons (de_var (pv 1)) dv_nil))))
    (dss_cons (ds_setM (i := 3) sc__law_one_right.nd rfl (Or.inl rfl) (dn_lst (da_cons (de_lam (j := 11) LM__law_told hgd (hr.room.mono (by decide)) tk_of TB (by rfl) HT HU (LamX.lamS_by (sc := defScope s__law_one_right) (by decide +kernel)) (fun A outer s H E f c' hgd hr => (de_mkX true MK_Ratio_0 (fun z => nomatch z) (hr.to (by decide) (by decide)) tk_lamC T.g_Ratio (da_cons (de_var (pv 0)) (da_cons (de_var (pv 1)) da_nil))))) da_nil)))
    (dss_cons (ds_expr (de_append (pv 3) (de_lam (j := 11) LM__law_told hgd (hr.room.mono (by decide)) tk_of TB (by rfl) HT HU (LamX.lamS_by (sc := defScope s__law_one_right) (by decide +kernel)) (fun A outer s H E f c' hgd hr => (de_mkK true MKK_Ratio_bottom_top (fun z => nomatch z) (hr.to (by decide) (by decide)) tk_lamC T.g_Ratio (dk_cons (de_var (pv 1)) (dk_cons (de_var (pv 0)) dk_nil))))) fun h1 h2 => pe_bm PySem.F.plainAttrs_list PySem.F.slot_list_append PySem.F.type_list_append mt_append h1 h2))
    (dss_cons (ds_expr (de_append (pv 3) (de_lam (j := 11) LM__law_told hgd (hr.room.mono (by decide)) tk_of TB (by rfl) HT HU (LamX.lamS_by (sc := defScope s__law_one_right) (by decide +kernel)) (fun A outer s H E f c' hgd hr => (de_mkX true MK_Ratio_1 (fun z => nomatch z) (hr.to (by decide) (by decide)) tk_lamC T.g_Ratio (da_cons (de_var (pv 0)) da_nil)))) fun h1 h2 => pe_bm PySem.F.plainAttrs_list PySem.F.slot_list_append PySem.F.type_list_append mt_append h1 h2))
    (dss_cons (ds_expr (de_append (pv 3) (de_lam (j := 11) LM__law_told hgd (hr.room.mono (by decide)) tk_of TB (by rfl) HT HU (LamX.lamS_by (sc := defScope s__law_one_right) (by decide +kernel)) (fun A outer s H E f c' hgd hr => (de_mkK true MKK_Ratio_top (fun z => nomatch z) (hr.to (by decide) (by decide)) tk_lamC T.g_Ratio (dk_cons (de_var (pv 0)) dk_nil)))) fun h1 h2 => pe_bm PySem.F.plainAttrs_list PySem.F.slot_list_append PySem.F.type_list_append mt_append h1 h2))
    (dss_frz (i := 3) (dss_one (ds_ret (de_cmpL (op_eqX (ht := true) CM T.ck (hr.to (by decide) (by decide))) (de_var (pv 3)) (de_bin op_addAll o2_add (de_bin op_mulXL o2_mulX (de_lst (da_cons (de_var (pv 2)) da_nil)) de_int) (de_bin op_mulXL o2_mulX (de_lst (da_cons (de_callX D__law_due hgd (hr.to (by decide) (by decide)) tk_of (dv_cons (de_var (pv 0)) (dv_cons de_int dv_nil))) da_nil)) de_int)) (nobehind _ (by decide) (by decide)))))))))))
abbrev s_want_count : Stmt := top 15
abbrev n_want_count : List Str := ["value"]
theorem sc_want_count : FnScope n_want_count ["value"] (defScope s_want_count) := ⟨rfl, rfl, rfl, by decide +kernel, rfl, by decide +kernel, by decide +kernel⟩
theorem ok_want_count (F : Fun K "want_count" "want_count" s_want_count f fd) (T : Txt K mg P C_Ratio p_Ratio_own_bottom p_Ratio_own_top C_Many p_Many_own_least p_Many_own_most p_Many_own_place C_InvalidNumber C_LimitError C_StateError C_MissingError C_EachError C_InvalidCount m_InvalidCount___init__ cc_InvalidCount cda_InvalidCount m_InvalidNumber___init__ cc_InvalidNumber cda_InvalidNumber C_InvalidMany m_InvalidMany___init__ cc_InvalidMany cda_InvalidMany m_Ratio___init__ m_Ratio___repr__ m_Ratio___str__ m_Ratio___bool__ m_Ratio___eq__ m_Many___eq__ m_Ratio_bottom q_Ratio_bottom m_Ratio_top q_Ratio_top m_Many___init__ c__law_one_right P__law_one_right) (D_is_count : DnX (Gm K mg P w base T0) false false 2 "is_count" (liftSp (Gm K mg P w base T0) 1 rd_is_count)) (EX_InvalidCount : ExC (Gm K mg P w base T0) "InvalidCount" [("value", 1)] 2 1) : FnX (Gm K mg P w base T0) false false 3 f fd ["value"] (liftSp (Gm K mg P w base T0) 1 rd_want_count) := by
  refine okX F sc_want_count (fun vs H Q E h => liftSp_len h) (fun cdv A outer s H vs Q E hgd hr h => ⟨liftS (Gm K mg P w base T0) 1 ⟨fun c d _ H' => E c d H', T0, none⟩ rb_want_count, ?_, body_lift (N := n_want_count) h (by decide)⟩)
  have hr := RoomQ.of (ht := false) hr
  exact (dss_one (ds_if (dt_not (dt_val (pt_val (de_callX D_is_count (fun z => nomatch z) (hr.to (by decide) (by decide)) tk_of (dv_cons (de_var (pv 0)) dv_nil)))))
      (dss_one (ds_raise tk_of (by rfl) EX_InvalidCount (hr.room.mono (by decide)) (da_cons (de_var (pv 0)) da_nil)))
      dss_nil))
abbrev s_Many___init__ : Stmt := inClass (top 33) 2
abbrev n_Many___init__ : List Str := ["self", "least", "most"]
theorem sc_Many___init__ : FnScope n_Many___init__ ["self", "least", "most"] (defScope s_Many___init__) := ⟨rfl, rfl, rfl, by decide +kernel, rfl, by decide +kernel, by decide +kernel⟩
theorem ok_Many___init__ (F : FunD K "__init__" "Many.__init__" (defArgs s_Many___init__) (defBody s_Many___init__) (defScope s_Many___init__) [.non] [] f fd) (T : Txt K mg P C_Ratio p_Ratio_own_bottom p_Ratio_own_top C_Many p_Many_own_least p_Many_own_most p_Many_own_place C_InvalidNumber C_LimitError C_StateError C_MissingError C_EachError C_InvalidCount m_InvalidCount___init__ cc_InvalidCount cda_InvalidCount m_InvalidNumber___init__ cc_InvalidNumber cda_InvalidNumber C_InvalidMany m_InvalidMany___init__ cc_InvalidMany cda_InvalidMany m_Ratio___init__ m_Ratio___repr__ m_Ratio___str__ m_Ratio___bool__ m_Ratio___eq__ m_Many___eq__ m_Ratio_bottom q_Ratio_bottom m_Ratio_top q_Ratio_top m_Many___init__ c__law_one_right P__law_one_right) (D_want_count : DnX (Gm K mg P w base T0) false false 3 "want_count" (liftSp (Gm K mg P w base T0) 1 rd_want_count)) (EX_InvalidMany : ExC (Gm K mg P w base T0) "InvalidMany" [("value", 1)] 2 1) : FnX (Gm K mg P w base T0) false false 4 f fd ["self", "least", "most"] (liftSp (Gm K mg P w base T0) 3 rd_Many___init__) := by
  refine okXD F sc_Many___init__ (fun vs H Q E h => liftSp_len h) (fun cdv A outer s H vs Q E hgd hr h => ⟨liftS (Gm K mg P w base T0) 3 ⟨fun c d _ H' => E c d H', T0, none⟩ rb_Many___init__, ?_, body_lift (N := n_Many___init__) h (by decide)⟩)
  have hr := RoomQ.of (ht := false) hr
  exact (dss_cons (ds_expr (de_callX D_want_count (fun z => nomatch z) (hr.to (by decide) (by decide)) tk_of (dv_cons (de_var (pv 1)) dv_nil)))
    (dss_cons (ds_if (dt_notN (de_var (pv 2)))
      (dss_cons (ds_expr (de_callX D_want_count (fun z => nomatch z) (hr.to (by decide) (by decide)) tk_of (dv_cons (de_var (pv 2)) dv_nil)))
      (dss_one (ds_if (dt_cmpR op_lt o2_lt (de_var (pv 2)) (de_var (pv 1)) (nobehind _ (by decide) (by decide)))
        (dss_one (ds_raise tk_of (by rfl) EX_InvalidMany (hr.room.mono (by decide)) (da_cons (de_tup (da_cons (de_var (pv 1)) (da_cons (de_var (pv 2)) da_nil))) da_nil)))
        dss_nil)))
      dss_nil)
    (dss_cons (ds_setSl (pv 0) (de_var (pv 1)) T.g_Many T.sc_Many T.sl_Many_own_least)
    (dss_cons (ds_setSl (pv 0) (de_var (pv 2)) T.g_Many T.sc_Many T.sl_Many_own_most)
    (dss_one (ds_setSl (pv 0) (de_tup (da_cons (de_var (pv 1)) (da_cons (de_Ty call_int1 ol_int (by rfl) T.b_int (by decide +kernel) (da_cons (de_isN (de_var (pv 2))) da_nil)) (da_cons (de_ifE (dt_isN (de_var (pv 2))) de_int (de_var (pv 2))) da_nil)))) T.g_Many T.sc_Many T.sl_Many_own_place))))))
abbrev s__law_alike_right : Stmt := top 46
abbrev n__law_alike_right : List Str := ["_law_rng_here", "_law_a", "_law_b", "_law_one", "_law_by", "_law_odd"]
theorem sc__law_alike_right : FnScope n__law_alike_right ["_law_rng_here", "_law_a", "_law_b"] (defScope s__law_alike_right) := ⟨rfl, rfl, rfl, by decide +kernel, rfl, by decide +kernel, by decide +kernel⟩
theorem ok__law_alike_right (F : Fun K "_law_alike_right" "_law_alike_right" s__law_alike_right f fd) (T : Txt K mg P C_Ratio p_Ratio_own_bottom p_Ratio_own_top C_Many p_Many_own_least p_Many_own_most p_Many_own_place C_InvalidNumber C_LimitError C_StateError C_MissingError C_EachError C_InvalidCount m_InvalidCount___init__ cc_InvalidCount cda_InvalidCount m_InvalidNumber___init__ cc_InvalidNumber cda_InvalidNumber C_InvalidMany m_InvalidMany___init__ cc_InvalidMany cda_InvalidMany m_Ratio___init__ m_Ratio___repr__ m_Ratio___str__ m_Ratio___bool__ m_Ratio___eq__ m_Many___eq__ m_Ratio_bottom q_Ratio_bottom m_Ratio_top q_Ratio_top m_Many___init__ c__law_one_right P__law_one_right) (D__law_draw : DnX (Gm K mg P w base T0) true false 1 "_law_draw" (liftSp (Gm K mg P w base T0) 2 rd__law_draw)) (MK_Ratio_0 : MkX (Gm K mg P w base T0) C_Ratio false false 3 3 rd_Ratio___init__ []) (CM : CmOk (Gm K mg P w base T0) 1 cmL) (MK_Many_1 : MkX (Gm K mg P w base T0) C_Many false false 4 3 rd_Many___init__ [.non]) (OW : OwOk (Gm K mg P w base T0) 1 owL) : FnX (Gm K mg P w base T0) true false 6 f fd ["_law_rng_here", "_law_a", "_law_b"] (liftSp (Gm K mg P w base T0) 3 rd__law_alike_right) := by
  refine okX F sc__law_alike_right (fun vs H Q E h => liftSp_len h) (fun cdv A outer s H vs Q E hgd hr h => ⟨liftS (Gm K mg P w base T0) 3 ⟨fun c d _ H' => E c d H', T0, none⟩ rb__law_alike_right, ?_, body_lift (N := n__law_alike_right) h (by decide)⟩)
  have hr := RoomQ.of (ht := false) hr
  exact (dss_cons (ds_par (by rfl) sc__law_alike_right.nd (i := 3) (j := 4) rfl rfl (by decide) rfl rfl (da_cons (de_mkX true MK_Ratio_0 (fun z => nomatch z) (hr.to (by decide) (by decide)) tk_of T.g_Ratio (da_cons (de_var (pv 1)) (da_cons (de_var (pv 2)) da_nil))) (da_cons (de_bin op_addAll o2_add de_int (de_callX D__law_draw hgd (hr.to (by decide) (by decide)) tk_of (dv_ref (pv 0) (dv_cons (de_bin op_pow o2_pow de_int de_int) dv_nil)))) da_nil)) (by rfl))
    (dss_cons (ds_if (PW.pt (dw_or (dt_cmpL (op_neX (ht := true) CM T.ck (hr.to (by decide) (by decide))) (de_var (pv 3)) (de_mkX true MK_Ratio_0 (fun z => nomatch z) (hr.to (by decide) (by decide)) tk_of T.g_Ratio (da_cons (de_bin op_mulW o2_mul (de_var (pv 1)) (de_var (pv 4))) (da_cons (de_bin op_mulW o2_mul (de_var (pv 2)) (de_var (pv 4))) da_nil))) (nobehind _ (by decide) (by decide))) (dw_or1 (dt_not (dt_cmpL (op_eqX (ht := true) CM T.ck (hr.to (by decide) (by decide))) (de_var (pv 3)) (de_mkX true MK_Ratio_0 (fun z => nomatch z) (hr.to (by decide) (by decide)) tk_of T.g_Ratio (da_cons (de_var (pv 1)) (da_cons (de_var (pv 2)) da_nil))) (nobehind _ (by decide) (by decide)))))))
      (dss_one (ds_ret de_bl))
      dss_nil)
    (dss_cons (ds_if (PW.pt (dw_or (dt_cmpL (op_eqX (ht := true) CM T.ck (hr.to (by decide) (by decide))) (de_var (pv 3)) (de_mkX true MK_Ratio_0 (fun z => nomatch z) (hr.to (by decide) (by decide)) tk_of T.g_Ratio (da_cons (de_bin op_addAll o2_add (de_var (pv 1)) de_int) (da_cons (de_var (pv 2)) da_nil))) (nobehind _ (by decide) (by decide))) (dw_or1 (dt_cmpL (op_eqX (ht := true) CM T.ck (hr.to (by decide) (by decide))) (de_var (pv 3)) (de_mkX true MK_Ratio_0 (fun z => nomatch z) (hr.to (by decide) (by decide)) tk_of T.g_Ratio (da_cons (de_bin op_addAll o2_add (de_bin op_mulW o2_mul (de_var (pv 1)) de_int) de_int) (da_cons (de_bin op_mulW o2_mul (de_var (pv 2)) de_int) da_nil))) (nobehind _ (by decide) (by decide))))))
      (dss_one (ds_ret de_bl))
      dss_nil)
    (dss_cons (ds_for own_of (by rfl) (di_seq (de_lst (da_cons (de_var (pv 1)) (da_cons (de_tup (da_cons (de_var (pv 1)) (da_cons (de_var (pv 2)) da_nil))) (da_cons (de_lst (da_cons (de_var (pv 1)) (da_cons (de_var (pv 2)) da_nil))) (da_cons (de_TyL (call_strX (ht := true) OW (hr.to (by decide) (by decide))) (by rfl) T.b_str (by decide +kernel) (da_cons (de_var (pv 3)) da_nil)) (da_cons (de_BL (call_reprX (ht := true) OW (hgd rfl) (hr.to (by decide) (by decide))) (by rfl) T.b_repr (by decide +kernel) (da_cons (de_var (pv 3)) da_nil)) (da_cons de_non (da_cons de_bl (da_cons (de_mkX true MK_Many_1 (fun z => nomatch z) (hr.to (by decide) (by decide)) tk_of T.g_Many (da_cons (de_var (pv 1)) da_nil)) (da_cons de_dct0 da_nil))))))))))) (dg_name (pg_name (i := 5) sc__law_alike_right.nd rfl (by first | exact Or.inl rfl | exact Or.inr rfl)))
      (dss_one (ds_if (PW.pt (dw_or (dt_cmpL (op_eqX (ht := true) CM T.ck (hr.to (by decide) (by decide))) (de_var (pv 3)) (de_var (pv 5)) (nobehind _ (by decide) (by decide))) (dw_or (dt_cmpL (op_eqX (ht := true) CM T.ck (hr.to (by decide) (by decide))) (de_var (pv 5)) (de_var (pv 3)) (nobehind _ (by decide) (by decide))) (dw_or1 (dt_not (dt_cmpL (op_neX (ht := true) CM T.ck (hr.to (by decide) (by decide))) (de_var (pv 3)) (de_var (pv 5)) (nobehind _ (by decide) (by decide))))))))
        (dss_one (ds_ret de_bl))
        dss_nil)))
    (dss_one (ds_ret (de_or (de_cmp (op_eqAll hr.units) o2_eq (de_var (pv 1)) de_int (nobehind _ (by decide) (by decide))) (de_one (de_cmpL (op_neX (ht := true) CM T.ck (hr.to (by decide) (by decide))) (de_var (pv 3)) (de_mkX true MK_Ratio_0 (fun z => nomatch z) (hr.to (by decide) (by decide)) tk_of T.g_Ratio (da_cons (de_var (pv 1)) (da_cons (de_bin op_addAll o2_add (de_var (pv 2)) de_int) da_nil))) (nobehind _ (by decide) (by decide)))))))))))
abbrev s__law_right : Stmt := top 47
abbrev n__law_right : List Str := ["_law_rng_here", "_law_turn", "_law_a", "_law_b"]
theorem sc__law_right : FnScope n__law_right ["_law_rng_here"] (defScope s__law_right) := ⟨rfl, rfl, rfl, by decide +kernel, rfl, by decide +kernel, by decide +kernel⟩
theorem ok__law_right (F : Fun K "_law_right" "_law_right" s__law_right f fd) (T : Txt K mg P C_Ratio p_Ratio_own_bottom p_Ratio_own_top C_Many p_Many_own_least p_Many_own_most p_Many_own_place C_InvalidNumber C_LimitError C_StateError C_MissingError C_EachError C_InvalidCount m_InvalidCount___init__ cc_InvalidCount cda_InvalidCount m_InvalidNumber___init__ cc_InvalidNumber cda_InvalidNumber C_InvalidMany m_InvalidMany___init__ cc_InvalidMany cda_InvalidMany m_Ratio___init__ m_Ratio___repr__ m_Ratio___str__ m_Ratio___bool__ m_Ratio___eq__ m_Many___eq__ m_Ratio_bottom q_Ratio_bottom m_Ratio_top q_Ratio_top m_Many___init__ c__law_one_right P__law_one_right) (D__law_two : DnX (Gm K mg P w base T0) true false 6 "_law_two" (liftSp (Gm K mg P w base T0) 1 rd__law_two)) (D__law_one_right : DnX (Gm K mg P w base T0) true false 14 "_law_one_right" (liftSp (Gm K mg P w base T0) 2 rd__law_one_right)) (D__law_alike_right : DnX (Gm K mg P w base T0) true false 6 "_law_alike_right" (liftSp (Gm K mg P w base T0) 3 rd__law_alike_right)) (D__law_due : DnX (Gm K mg P w base T0) true false 6 "_law_due" (liftSp (Gm K mg P w base T0) 2 rd__law_due)) : FnX (Gm K mg P w base T0) true false 15 f fd ["_law_rng_here"] (liftSp (Gm K mg P w base T0) 1 rd__law_right) := by
  refine okX F sc__law_right (fun vs H Q E h => liftSp_len h) (fun cdv A outer s H vs Q E hgd hr h => ⟨liftS (Gm K mg P w base T0) 1 ⟨fun c d _ H' => E c d H', T0, none⟩ rb__law_right, ?_, body_lift (N := n__law_right) h (by decide)⟩)
  have hr := RoomQ.of (ht := false) hr
  exact (dss_cons (ds_for own_of (by rfl) (di_rg1 (by rfl) T.b_range (da_cons de_int da_nil)) (dg_name (pg_name (i := 1) sc__law_right.nd rfl (by first | exact Or.inl rfl | exact Or.inr rfl)))
      (dss_cons (ds_asg (de_callX D__law_two hgd (hr.to (by decide) (by decide)) tk_of (dv_ref (pv 0) dv_nil)) (dg_tup (by rfl) (dgs_cons (dg_name (pg_name (i := 2) sc__law_right.nd rfl (by first | exact Or.inl rfl | exact Or.inr rfl))) (dgs_cons (dg_name (pg_name (i := 3) sc__law_right.nd rfl (by first | exact Or.inl rfl | exact Or.inr rfl))) dgs_nil))))
      (dss_cons (ds_if (dt_not (dt_val (pt_val (de_callX D__law_one_right hgd (hr.to (by decide) (by decide)) tk_of (dv_cons (de_var (pv 2)) (dv_cons (de_var (pv 3)) dv_nil))))))
        (dss_one (ds_ret de_bl))
        dss_nil)
      (dss_one (ds_if (PW.pt (dw_and (dt_val (pt_val (de_bmS (de_callX D__law_due hgd (hr.to (by decide) (by decide)) tk_of (dv_cons (de_var (pv 2)) (dv_cons (de_var (pv 3)) dv_nil))) (da_cons de_str da_nil) (fun h1 h2 => pe_bm PySem.F.plainAttrs_str PySem.F.slot_str_startswith PySem.F.type_str_startswith mt_startswith h1 h2) go_starts))) (dw_and1 (dt_not (dt_val (pt_val (de_callX D__law_alike_right hgd (hr.to (by decide) (by decide)) tk_of (dv_ref (pv 0) (dv_cons (de_var (pv 2)) (dv_cons (de_var (pv 3)) dv_nil))))))))))
        (dss_one (ds_ret de_bl))
        dss_nil)))))
    (dss_one (ds_ret de_bl)))
abbrev s__law_rng : Stmt := top 35
abbrev n__law_rng : List Str := ["_law_script", "_law_k", "_law_cell"]
theorem sc__law_rng : FnScope n__law_rng ["_law_script", "_law_k"] (defScope s__law_rng) := ⟨rfl, rfl, rfl, by decide +kernel, rfl, by decide +kernel, by decide +kernel⟩
theorem ok__law_rng (F : Fun K "_law_rng" "_law_rng" s__law_rng f fd) (T : Txt K mg P C_Ratio p_Ratio_own_bottom p_Ratio_own_top C_Many p_Many_own_least p_Many_own_most p_Many_own_place C_InvalidNumber C_LimitError C_StateError C_MissingError C_EachError C_InvalidCount m_InvalidCount___init__ cc_InvalidCount cda_InvalidCount m_InvalidNumber___init__ cc_InvalidNumber cda_InvalidNumber C_InvalidMany m_InvalidMany___init__ cc_InvalidMany cda_InvalidMany m_Ratio___init__ m_Ratio___repr__ m_Ratio___str__ m_Ratio___bool__ m_Ratio___eq__ m_Many___eq__ m_Ratio_bottom q_Ratio_bottom m_Ratio_top q_Ratio_top m_Many___init__ c__law_one_right P__law_one_right) : FnX (Gm K mg P w base T0) true false 1 f fd ["_law_script", "_law_k"] (liftSp (Gm K mg P w base T0) 2 rd__law_rng) := by
  refine okX F sc__law_rng (fun vs H Q E h => liftSp_len h) (fun cdv A outer s H vs Q E hgd hr h => ⟨liftS (Gm K mg P w base T0) 2 ⟨fun c d _ H' => E c d H', T0, none⟩ rb__law_rng, ?_, body_lift (N := n__law_rng) h (by decide)⟩)
  have hr := RoomQ.of (ht := false) hr
  exact (dss_cons (ds_set (i := 2) sc__law_rng.nd rfl (Or.inl rfl) (de_ifE (dt_cmpR op_lt o2_lt (de_var (pv 1)) (de_B call_lenAll ol_len (by rfl) T.b_len (by decide +kernel) (da_cons (de_var (pv 0)) da_nil)) (nobehind _ (by decide) (by decide))) (de_ix (de_var (pv 0)) (de_var (pv 1)) (fun _ _ => rfl)) (de_bin op_addAll o2_add (de_bin op_mulW o2_mul de_int (de_var (pv 1))) de_int)))
    (dss_one (ds_retM (dn_lst (da_cons (de_B (call_max2 rfl) ol_max (by rfl) T.b_max (by decide +kernel) (da_cons de_int (da_cons (de_bin op_sub o2_sub (de_B call_abs ol_abs (by rfl) T.b_abs (by decide +kernel) (da_cons (de_var (pv 2)) da_nil)) (de_bin op_pow o2_pow de_int de_int)) da_nil))) (da_cons (de_bin op_addAll o2_add (de_bin op_mod o2_mod (de_Ty call_int1 ol_int (by rfl) T.b_int (by decide +kernel) (da_cons (de_bin op_addAll o2_add (de_bin op_addAll o2_add (de_bin op_mulW o2_mul (de_bin op_mod o2_mod (de_Ty call_int1 ol_int (by rfl) T.b_int (by decide +kernel) (da_cons (de_B call_abs ol_abs (by rfl) T.b_abs (by decide +kernel) (da_cons (de_var (pv 2)) da_nil)) da_nil)) de_int) de_int) (de_bin op_mulW o2_mul de_int (de_var (pv 1)))) de_int) da_nil)) de_int) de_int) da_nil))))))
abbrev s_law : Stmt := top 48
abbrev n_law : List Str := ["_law_script", "_law_k"]
theorem sc_law : FnScope n_law ["_law_script"] (defScope s_law) := ⟨rfl, rfl, rfl, by decide +kernel, rfl, by decide +kernel, by decide +kernel⟩
theorem ok_law (F : Fun K "law" "law" s_law f fd) (T : Txt K mg P C_Ratio p_Ratio_own_bottom p_Ratio_own_top C_Many p_Many_own_least p_Many_own_most p_Many_own_place C_InvalidNumber C_LimitError C_StateError C_MissingError C_EachError C_InvalidCount m_InvalidCount___init__ cc_InvalidCount cda_InvalidCount m_InvalidNumber___init__ cc_InvalidNumber cda_InvalidNumber C_InvalidMany m_InvalidMany___init__ cc_InvalidMany cda_InvalidMany m_Ratio___init__ m_Ratio___repr__ m_Ratio___str__ m_Ratio___bool__ m_Ratio___eq__ m_Many___eq__ m_Ratio_bottom q_Ratio_bottom m_Ratio_top q_Ratio_top m_Many___init__ c__law_one_right P__law_one_right) (D__law_right : DnX (Gm K mg P w base T0) true false 15 "_law_right" (liftSp (Gm K mg P w base T0) 1 rd__law_right)) (D__law_rng : DnX (Gm K mg P w base T0) true false 1 "_law_rng" (liftSp (Gm K mg P w base T0) 2 rd__law_rng)) : FnX (Gm K mg P w base T0) true false 16 f fd ["_law_script"] (liftSp (Gm K mg P w base T0) 1 rd_law) := by
  refine okX F sc_law (fun vs H Q E h => liftSp_len h) (fun cdv A outer s H vs Q E hgd hr h => ⟨liftS (Gm K mg P w base T0) 1 ⟨fun c d _ H' => E c d H', T0, none⟩ rb_law, ?_, body_lift (N := n_law) h (by decide)⟩)
  have hr := RoomQ.of (ht := false) hr
  exact (dss_one (ds_ret (de_B (cr_all rfl) ol_all (by rfl) T.b_all (by decide +kernel) (da_cons (de_lc (t := (.one 1)) (by rfl) sc_law.nd (di_rg1 (by rfl) T.b_range (da_cons (de_B (call_max2 rfl) ol_max (by rfl) T.b_max (by decide +kernel) (da_cons de_int (da_cons (de_B (call_min2 rfl) ol_min (by rfl) T.b_min (by decide +kernel) (da_cons de_int (da_cons (de_B call_lenAll ol_len (by rfl) T.b_len (by decide +kernel) (da_cons (de_var (pv 0)) da_nil)) da_nil))) da_nil))) da_nil)) (blkOk_by (own := [("_law_k", 1)]) (N := n_law) (sc := defScope s_law) (by decide +kernel)) (fun _ _ _ _ _ => (pg_name (i := 1) sc_law.nd rfl (by first | exact Or.inl rfl | exact Or.inr rfl))) (fun _ _ _ _ _ => dts_nil) (fun _ _ _ _ _ => (de_call1X D__law_right hgd (hr.to (by decide) (by decide)) tk_no (dn_callX D__law_rng hgd (hr.to (by decide) (by decide)) tk_no (dv_cons (de_var (pv 0)) (dv_cons (de_var (pv 1)) dv_nil)))))) da_nil))))
end
end K17

set_option Elab.async false
set_option linter.all false
set_option maxRecDepth 100000
set_option maxHeartbeats 4000000
set_option autoImplicit false
namespace K17
open L2 PyProof.Rows PySem.Spec PySem G58 SlX DL
/-- all that is read off the written part -/
structure All (K : PySem.W.Frag) (P : Program) (C_Ratio p_Ratio_own_bottom p_Ratio_own_top C_Many p_Many_own_least p_Many_own_most p_Many_own_place C_InvalidNumber C_LimitError C_StateError C_MissingError C_EachError C_InvalidCount m_InvalidCount___init__ cc_InvalidCount cda_InvalidCount m_InvalidNumber___init__ cc_InvalidNumber cda_InvalidNumber C_InvalidMany m_InvalidMany___init__ cc_InvalidMany cda_InvalidMany m_Ratio___init__ m_Ratio___repr__ m_Ratio___str__ m_Ratio___bool__ m_Ratio___eq__ m_Many___eq__ m_Ratio_bottom q_Ratio_bottom m_Ratio_top q_Ratio_top m_Many___init__ c__law_one_right P__law_one_right : Addr) : Prop where
  d__law_draw : HasDef K "_law_draw" s__law_draw
  d__law_choice : HasDef K "_law_choice" s__law_choice
  d_is_integer : HasDef K "is_integer" s_is_integer
  d_is_count : HasDef K "is_count" s_is_count
  d_common_divisor : HasDef K "common_divisor" s_common_divisor
  d__law_any : HasDef K "_law_any" s__law_any
  d__law_two : HasDef K "_law_two" s__law_two
  d__law_is_integer : HasDef K "_law_is_integer" s__law_is_integer
  d__law_common : HasDef K "_law_common" s__law_common
  d__law_due : HasDef K "_law_due" s__law_due
  d__law_bases : HasDef K "_law_bases" s__law_bases
  d__law_told : HasDef K "_law_told" s__law_told
  d__law_one_right : HasDef K "_law_one_right" s__law_one_right
  d_want_count : HasDef K "want_count" s_want_count
  d__law_alike_right : HasDef K "_law_alike_right" s__law_alike_right
  d__law_right : HasDef K "_law_right" s__law_right
  d__law_rng : HasDef K "_law_rng" s__law_rng
  d_law : HasDef K "law" s_law
  b_all : PySem.W.nsIn K mainGlobals "all" = some none
  b_range : PySem.W.nsIn K mainGlobals "range" = some none
  b_max : PySem.W.nsIn K mainGlobals "max" = some none
  b_min : PySem.W.nsIn K mainGlobals "min" = some none
  b_len : PySem.W.nsIn K mainGlobals "len" = some none
  b_divmod : PySem.W.nsIn K mainGlobals "divmod" = some none
  b_int : PySem.W.nsIn K mainGlobals "int" = some none
  b_isinstance : PySem.W.nsIn K mainGlobals "isinstance" = some none
  b_bool : PySem.W.nsIn K mainGlobals "bool" = some none
  b_super : PySem.W.nsIn K mainGlobals "super" = some none
  b_repr : PySem.W.nsIn K mainGlobals "repr" = some none
  b_str : PySem.W.nsIn K mainGlobals "str" = some none
  b_NotImplemented : PySem.W.nsIn K mainGlobals "NotImplemented" = some none
  b_abs : PySem.W.nsIn K mainGlobals "abs" = some none
  g_Ratio : PySem.W.nsIn K mainGlobals "Ratio" = some (some (.ref C_Ratio))
  sc_Ratio : SCls K C_Ratio
  sl_Ratio_own_bottom : Slot1 K C_Ratio "own_bottom" p_Ratio_own_bottom 0
  sl_Ratio_own_top : Slot1 K C_Ratio "own_top" p_Ratio_own_top 1
  si_Ratio : SIsi K C_Ratio
  g_Many : PySem.W.nsIn K mainGlobals "Many" = some (some (.ref C_Many))
  sc_Many : SCls K C_Many
  sl_Many_own_least : Slot1 K C_Many "own_least" p_Many_own_least 0
  sl_Many_own_most : Slot1 K C_Many "own_most" p_Many_own_most 1
  sl_Many_own_place : Slot1 K C_Many "own_place" p_Many_own_place 2
  si_Many : SIsi K C_Many
  g_InvalidNumber : PySem.W.nsIn K mainGlobals "InvalidNumber" = some (some (.ref C_InvalidNumber))
  g_LimitError : PySem.W.nsIn K mainGlobals "LimitError" = some (some (.ref C_LimitError))
  g_StateError : PySem.W.nsIn K mainGlobals "StateError" = some (some (.ref C_StateError))
  g_MissingError : PySem.W.nsIn K mainGlobals "MissingError" = some (some (.ref C_MissingError))
  g_EachError : PySem.W.nsIn K mainGlobals "EachError" = some (some (.ref C_EachError))
  g_InvalidCount : PySem.W.nsIn K mainGlobals "InvalidCount" = some (some (.ref C_InvalidCount))
  xi_InvalidCount : XI K C_InvalidCount m_InvalidCount___init__ cc_InvalidCount cda_InvalidCount "InvalidCount.__init__" s_InvalidCount___init__ P
  ec_InvalidCount : ExcC K C_InvalidCount
  xn_InvalidCount_value : PySem.W.findIn K (.ref C_InvalidCount) "value" = some none
  xi_InvalidNumber : XI K C_InvalidNumber m_InvalidNumber___init__ cc_InvalidNumber cda_InvalidNumber "InvalidNumber.__init__" s_InvalidNumber___init__ P
  ec_InvalidNumber : ExcC K C_InvalidNumber
  xn_InvalidNumber_value : PySem.W.findIn K (.ref C_InvalidNumber) "value" = some none
  g_InvalidMany : PySem.W.nsIn K mainGlobals "InvalidMany" = some (some (.ref C_InvalidMany))
  xi_InvalidMany : XI K C_InvalidMany m_InvalidMany___init__ cc_InvalidMany cda_InvalidMany "InvalidMany.__init__" s_InvalidMany___init__ P
  ec_InvalidMany : ExcC K C_InvalidMany
  xn_InvalidMany_value : PySem.W.findIn K (.ref C_InvalidMany) "value" = some none
  mk_Ratio : Mk K C_Ratio m_Ratio___init__
  me_Ratio___repr__ : Meth K C_Ratio "__repr__" m_Ratio___repr__
  me_Ratio___str__ : Meth K C_Ratio "__str__" m_Ratio___str__
  me_Ratio___bool__ : Meth K C_Ratio "__bool__" m_Ratio___bool__
  me_Ratio___eq__ : Meth K C_Ratio "__eq__" m_Ratio___eq__
  me_Many___eq__ : Meth K C_Many "__eq__" m_Many___eq__
  pr_Ratio_bottom : PropS K C_Ratio "bottom" q_Ratio_bottom m_Ratio_bottom
  pr_Ratio_top : PropS K C_Ratio "top" q_Ratio_top m_Ratio_top
  mk_Many : Mk K C_Many m_Many___init__
  xm_InvalidCount_InvalidNumber : PySem.W.exmOne K (.ref C_InvalidCount) (.ref C_InvalidNumber) = some false
  xm_InvalidCount_InvalidCount : PySem.W.exmOne K (.ref C_InvalidCount) (.ref C_InvalidCount) = some true
  xm_InvalidNumber_InvalidNumber : PySem.W.exmOne K (.ref C_InvalidNumber) (.ref C_InvalidNumber) = some true
  xm_InvalidNumber_InvalidCount : PySem.W.exmOne K (.ref C_InvalidNumber) (.ref C_InvalidCount) = some false
  xm_InvalidMany_InvalidNumber : PySem.W.exmOne K (.ref C_InvalidMany) (.ref C_InvalidNumber) = some false
  xm_InvalidMany_InvalidCount : PySem.W.exmOne K (.ref C_InvalidMany) (.ref C_InvalidCount) = some false
  kt_Ratio_bool : PySem.W.kitOne K (.ref C_Ratio) (.type "bool") = some false
  kt_Many_bool : PySem.W.kitOne K (.ref C_Many) (.type "bool") = some false
  kt_InvalidCount_bool : PySem.W.kitOne K (.ref C_InvalidCount) (.type "bool") = some false
  kt_InvalidNumber_bool : PySem.W.kitOne K (.ref C_InvalidNumber) (.type "bool") = some false
  kt_InvalidMany_bool : PySem.W.kitOne K (.ref C_InvalidMany) (.type "bool") = some false
  kt_Ratio_int : PySem.W.kitOne K (.ref C_Ratio) (.type "int") = some false
  kt_Many_int : PySem.W.kitOne K (.ref C_Many) (.type "int") = some false
  kt_InvalidCount_int : PySem.W.kitOne K (.ref C_InvalidCount) (.type "int") = some false
  kt_InvalidNumber_int : PySem.W.kitOne K (.ref C_InvalidNumber) (.type "int") = some false
  kt_InvalidMany_int : PySem.W.kitOne K (.ref C_InvalidMany) (.type "int") = some false
  kt_NoneType_Ratio : PySem.W.kitOne K (.type "NoneType") (.ref C_Ratio) = some false
  kt_bool_Ratio : PySem.W.kitOne K (.type "bool") (.ref C_Ratio) = some false
  kt_int_Ratio : PySem.W.kitOne K (.type "int") (.ref C_Ratio) = some false
  kt_str_Ratio : PySem.W.kitOne K (.type "str") (.ref C_Ratio) = some false
  kt_tuple_Ratio : PySem.W.kitOne K (.type "tuple") (.ref C_Ratio) = some false
  kt_list_Ratio : PySem.W.kitOne K (.type "list") (.ref C_Ratio) = some false
  kt_dict_Ratio : PySem.W.kitOne K (.type "dict") (.ref C_Ratio) = some false
  kt_Ratio_Ratio : PySem.W.kitOne K (.ref C_Ratio) (.ref C_Ratio) = some true
  kt_Many_Ratio : PySem.W.kitOne K (.ref C_Many) (.ref C_Ratio) = some false
  kt_InvalidCount_Ratio : PySem.W.kitOne K (.ref C_InvalidCount) (.ref C_Ratio) = some false
  kt_InvalidNumber_Ratio : PySem.W.kitOne K (.ref C_InvalidNumber) (.ref C_Ratio) = some false
  kt_InvalidMany_Ratio : PySem.W.kitOne K (.ref C_InvalidMany) (.ref C_Ratio) = some false
  kt_NoneType_Many : PySem.W.kitOne K (.type "NoneType") (.ref C_Many) = some false
  kt_bool_Many : PySem.W.kitOne K (.type "bool") (.ref C_Many) = some false
  kt_int_Many : PySem.W.kitOne K (.type "int") (.ref C_Many) = some false
  kt_str_Many : PySem.W.kitOne K (.type "str") (.ref C_Many) = some false
  kt_tuple_Many : PySem.W.kitOne K (.type "tuple") (.ref C_Many) = some false
  kt_list_Many : PySem.W.kitOne K (.type "list") (.ref C_Many) = some false
  kt_dict_Many : PySem.W.kitOne K (.type "dict") (.ref C_Many) = some false
  kt_Ratio_Many : PySem.W.kitOne K (.ref C_Ratio) (.ref C_Many) = some false
  kt_Many_Many : PySem.W.kitOne K (.ref C_Many) (.ref C_Many) = some true
  kt_InvalidCount_Many : PySem.W.kitOne K (.ref C_InvalidCount) (.ref C_Many) = some false
  kt_InvalidNumber_Many : PySem.W.kitOne K (.ref C_InvalidNumber) (.ref C_Many) = some false
  kt_InvalidMany_Many : PySem.W.kitOne K (.ref C_InvalidMany) (.ref C_Many) = some false
  kt_NoneType_LimitError : PySem.W.kitOne K (.type "NoneType") (.ref C_LimitError) = some false
  kt_bool_LimitError : PySem.W.kitOne K (.type "bool") (.ref C_LimitError) = some false
  kt_int_LimitError : PySem.W.kitOne K (.type "int") (.ref C_LimitError) = some false
  kt_str_LimitError : PySem.W.kitOne K (.type "str") (.ref C_LimitError) = some false
  kt_tuple_LimitError : PySem.W.kitOne K (.type "tuple") (.ref C_LimitError) = some false
  kt_list_LimitError : PySem.W.kitOne K (.type "list") (.ref C_LimitError) = some false
  kt_dict_LimitError : PySem.W.kitOne K (.type "dict") (.ref C_LimitError) = some false
  kt_Ratio_LimitError : PySem.W.kitOne K (.ref C_Ratio) (.ref C_LimitError) = some false
  kt_Many_LimitError : PySem.W.kitOne K (.ref C_Many) (.ref C_LimitError) = some false
  kt_InvalidCount_LimitError : PySem.W.kitOne K (.ref C_InvalidCount) (.ref C_LimitError) = some false
  kt_InvalidNumber_LimitError : PySem.W.kitOne K (.ref C_InvalidNumber) (.ref C_LimitError) = some false
  kt_InvalidMany_LimitError : PySem.W.kitOne K (.ref C_InvalidMany) (.ref C_LimitError) = some false
  kt_NoneType_StateError : PySem.W.kitOne K (.type "NoneType") (.ref C_StateError) = some false
  kt_bool_StateError : PySem.W.kitOne K (.type "bool") (.ref C_StateError) = some false
  kt_int_StateError : PySem.W.kitOne K (.type "int") (.ref C_StateError) = some false
  kt_str_StateError : PySem.W.kitOne K (.type "str") (.ref C_StateError) = some false
  kt_tuple_StateError : PySem.W.kitOne K (.type "tuple") (.ref C_StateError) = some false
  kt_list_StateError : PySem.W.kitOne K (.type "list") (.ref C_StateError) = some false
  kt_dict_StateError : PySem.W.kitOne K (.type "dict") (.ref C_StateError) = some false
  kt_Ratio_StateError : PySem.W.kitOne K (.ref C_Ratio) (.ref C_StateError) = some false
  kt_Many_StateError : PySem.W.kitOne K (.ref C_Many) (.ref C_StateError) = some false
  kt_InvalidCount_StateError : PySem.W.kitOne K (.ref C_InvalidCount) (.ref C_StateError) = some false
  kt_InvalidNumber_StateError : PySem.W.kitOne K (.ref C_InvalidNumber) (.ref C_StateError) = some false
  kt_InvalidMany_StateError : PySem.W.kitOne K (.ref C_InvalidMany) (.ref C_StateError) = some false
  kt_NoneType_MissingError : PySem.W.kitOne K (.type "NoneType") (.ref C_MissingError) = some false
  kt_bool_MissingError : PySem.W.kitOne K (.type "bool") (.ref C_MissingError) = some false
  kt_int_MissingError : PySem.W.kitOne K (.type "int") (.ref C_MissingError) = some false
  kt_str_MissingError : PySem.W.kitOne K (.type "str") (.ref C_MissingError) = some false
  kt_tuple_MissingError : PySem.W.kitOne K (.type "tuple") (.ref C_MissingError) = some false
  kt_list_MissingError : PySem.W.kitOne K (.type "list") (.ref C_MissingError) = some false
  kt_dict_MissingError : PySem.W.kitOne K (.type "dict") (.ref C_MissingError) = some false
  kt_Ratio_MissingError : PySem.W.kitOne K (.ref C_Ratio) (.ref C_MissingError) = some false
  kt_Many_MissingError : PySem.W.kitOne K (.ref C_Many) (.ref C_MissingError) = some false
  kt_InvalidCount_MissingError : PySem.W.kitOne K (.ref C_InvalidCount) (.ref C_MissingError) = some false
  kt_InvalidNumber_MissingError : PySem.W.kitOne K (.ref C_InvalidNumber) (.ref C_MissingError) = some false
  kt_InvalidMany_MissingError : PySem.W.kitOne K (.ref C_InvalidMany) (.ref C_MissingError) = some false
  kt_NoneType_EachError : PySem.W.kitOne K (.type "NoneType") (.ref C_EachError) = some false
  kt_bool_EachError : PySem.W.kitOne K (.type "bool") (.ref C_EachError) = some false
  kt_int_EachError : PySem.W.kitOne K (.type "int") (.ref C_EachError) = some false
  kt_str_EachError : PySem.W.kitOne K (.type "str") (.ref C_EachError) = some false
  kt_tuple_EachError : PySem.W.kitOne K (.type "tuple") (.ref C_EachError) = some false
  kt_list_EachError : PySem.W.kitOne K (.type "list") (.ref C_EachError) = some false
  kt_dict_EachError : PySem.W.kitOne K (.type "dict") (.ref C_EachError) = some false
  kt_Ratio_EachError : PySem.W.kitOne K (.ref C_Ratio) (.ref C_EachError) = some false
  kt_Many_EachError : PySem.W.kitOne K (.ref C_Many) (.ref C_EachError) = some false
  kt_InvalidCount_EachError : PySem.W.kitOne K (.ref C_InvalidCount) (.ref C_EachError) = some true
  kt_InvalidNumber_EachError : PySem.W.kitOne K (.ref C_InvalidNumber) (.ref C_EachError) = some true
  kt_InvalidMany_EachError : PySem.W.kitOne K (.ref C_InvalidMany) (.ref C_EachError) = some true
  hi_Ratio : ∃ fd, FunD K "__init__" "Ratio.__init__" (defArgs s_Ratio___init__) (defBody s_Ratio___init__) (defScope s_Ratio___init__) [.int 1] [] m_Ratio___init__ fd
  hm_Ratio___repr__ : HasMeth K "__repr__" "Ratio.__repr__" s_Ratio___repr__ m_Ratio___repr__
  hm_Ratio___str__ : HasMeth K "__str__" "Ratio.__str__" s_Ratio___str__ m_Ratio___str__
  hm_Ratio___bool__ : HasMeth K "__bool__" "Ratio.__bool__" s_Ratio___bool__ m_Ratio___bool__
  hm_Ratio___eq__ : HasMeth K "__eq__" "Ratio.__eq__" s_Ratio___eq__ m_Ratio___eq__
  hm_Many___eq__ : HasMeth K "__eq__" "Many.__eq__" s_Many___eq__ m_Many___eq__
  hm_Ratio_bottom : HasMeth K "bottom" "Ratio.bottom" s_Ratio_bottom m_Ratio_bottom
  hm_Ratio_top : HasMeth K "top" "Ratio.top" s_Ratio_top m_Ratio_top
  hi_Many : ∃ fd, FunD K "__init__" "Many.__init__" (defArgs s_Many___init__) (defBody s_Many___init__) (defScope s_Many___init__) [.non] [] m_Many___init__ fd
  ck_Ratio : CmC K C_Ratio
  ck_Many : CmC K C_Many
  cp_Ratio_Many : PySem.W.subIn K (.ref C_Many) (.ref C_Ratio) = some false ∧ C_Ratio ≠ C_Many
  cp_Many_Ratio : PySem.W.subIn K (.ref C_Ratio) (.ref C_Many) = some false ∧ C_Many ≠ C_Ratio
  tb__law_one_right : PySem.W.tabIn K "_law_one_right" = some (c__law_one_right, P__law_one_right)
  nl__law_one_right : K.lookup P__law_one_right = none
  nd : [P__law_one_right].Nodup
theorem all_law {P : Program} {w : World} {K : PySem.W.Frag} {mg : Str → Option Value} {h : Heap} {fa : Addr} {C_Ratio p_Ratio_own_bottom p_Ratio_own_top C_Many p_Many_own_least p_Many_own_most p_Many_own_place C_InvalidNumber C_LimitError C_StateError C_MissingError C_EachError C_InvalidCount m_InvalidCount___init__ cc_InvalidCount cda_InvalidCount m_InvalidNumber___init__ cc_InvalidNumber cda_InvalidNumber C_InvalidMany m_InvalidMany___init__ cc_InvalidMany cda_InvalidMany m_Ratio___init__ m_Ratio___repr__ m_Ratio___str__ m_Ratio___bool__ m_Ratio___eq__ m_Many___eq__ m_Ratio_bottom q_Ratio_bottom m_Ratio_top q_Ratio_top m_Many___init__ c__law_one_right P__law_one_right : Addr} (X : K.In h) (G : h.Ns mainGlobals mg) (hfa : mg "law" = some (.ref fa)) (Z : All K P C_Ratio p_Ratio_own_bottom p_Ratio_own_top C_Many p_Many_own_least p_Many_own_most p_Many_own_place C_InvalidNumber C_LimitError C_StateError C_MissingError C_EachError C_InvalidCount m_InvalidCount___init__ cc_InvalidCount cda_InvalidCount m_InvalidNumber___init__ cc_InvalidNumber cda_InvalidNumber C_InvalidMany m_InvalidMany___init__ cc_InvalidMany cda_InvalidMany m_Ratio___init__ m_Ratio___repr__ m_Ratio___str__ m_Ratio___bool__ m_Ratio___eq__ m_Many___eq__ m_Ratio_bottom q_Ratio_bottom m_Ratio_top q_Ratio_top m_Many___init__ c__law_one_right P__law_one_right) :
    ∃ fd : FuncData, (∀ (s : Shared) (u : Value), BindsTo s fd ⟨[u], []⟩ [("_law_script", u)]) ∧ ∀ base : Heap, K.In base → base.Ns mainGlobals mg → (∀ p ∈ ([((c__law_one_right, P__law_one_right), ("_law_one_right" ++ ".<locals>." ++ "<lambda>" : Str))] : List ((Addr × Addr) × Str)), LamX.TabB base mg p.1.1 p.1.2) →
      FnX (Gm K mg P w base []) true false 16 fa fd ["_law_script"] (@liftSp ⟨([((c__law_one_right, P__law_one_right), ("_law_one_right" ++ ".<locals>." ++ "<lambda>" : Str))] : List ((Addr × Addr) × Str)).map fun p => (p.1.2, p.2)⟩ (Gm K mg P w base []) 1 rd_law) := by
  obtain ⟨f, oc, od, kV, dc, pmv, an, cd, ct, sl, a, l, c, kp⟩ := Z.d_law
  have e := hfa.symm.trans (PySem.W.mg_of X G a)
  cases e
  have F := fun_mk (st := s_law) l c kp
  refine ⟨PySem.W.fnOf "law" "law" (defArgs s_law) (defBody s_law) (defScope s_law) .none kV dc pmv an cd ct, fun s v => .of_eq rfl, fun base _ _ TB => ?_⟩
  letI : TbL := ⟨([((c__law_one_right, P__law_one_right), ("_law_one_right" ++ ".<locals>." ++ "<lambda>" : Str))] : List ((Addr × Addr) × Str)).map fun p => (p.1.2, p.2)⟩
  have T : Txt K mg P C_Ratio p_Ratio_own_bottom p_Ratio_own_top C_Many p_Many_own_least p_Many_own_most p_Many_own_place C_InvalidNumber C_LimitError C_StateError C_MissingError C_EachError C_InvalidCount m_InvalidCount___init__ cc_InvalidCount cda_InvalidCount m_InvalidNumber___init__ cc_InvalidNumber cda_InvalidNumber C_InvalidMany m_InvalidMany___init__ cc_InvalidMany cda_InvalidMany m_Ratio___init__ m_Ratio___repr__ m_Ratio___str__ m_Ratio___bool__ m_Ratio___eq__ m_Many___eq__ m_Ratio_bottom q_Ratio_bottom m_Ratio_top q_Ratio_top m_Many___init__ c__law_one_right P__law_one_right := ⟨PySem.W.mg_none_of X G Z.b_all,
    PySem.W.mg_none_of X G Z.b_range,
    PySem.W.mg_none_of X G Z.b_max,
    PySem.W.mg_none_of X G Z.b_min,
    PySem.W.mg_none_of X G Z.b_len,
    PySem.W.mg_none_of X G Z.b_divmod,
    PySem.W.mg_none_of X G Z.b_int,
    PySem.W.mg_none_of X G Z.b_isinstance,
    PySem.W.mg_none_of X G Z.b_bool,
    PySem.W.mg_none_of X G Z.b_super,
    PySem.W.mg_none_of X G Z.b_repr,
    PySem.W.mg_none_of X G Z.b_str,
    PySem.W.mg_none_of X G Z.b_NotImplemented,
    PySem.W.mg_none_of X G Z.b_abs,
    PySem.W.mg_of X G Z.g_Ratio,
    Z.sc_Ratio,
    Z.sl_Ratio_own_bottom,
    Z.sl_Ratio_own_top,
    Z.si_Ratio,
    PySem.W.mg_of X G Z.g_Many,
    Z.sc_Many,
    Z.sl_Many_own_least,
    Z.sl_Many_own_most,
    Z.sl_Many_own_place,
    Z.si_Many,
    PySem.W.mg_of X G Z.g_InvalidNumber,
    PySem.W.mg_of X G Z.g_LimitError,
    PySem.W.mg_of X G Z.g_StateError,
    PySem.W.mg_of X G Z.g_MissingError,
    PySem.W.mg_of X G Z.g_EachError,
    PySem.W.mg_of X G Z.g_InvalidCount,
    Z.xi_InvalidCount,
    Z.ec_InvalidCount,
    Z.xn_InvalidCount_value,
    Z.xi_InvalidNumber,
    Z.ec_InvalidNumber,
    Z.xn_InvalidNumber_value,
    PySem.W.mg_of X G Z.g_InvalidMany,
    Z.xi_InvalidMany,
    Z.ec_InvalidMany,
    Z.xn_InvalidMany_value,
    Z.me_Ratio___repr__,
    Z.me_Ratio___str__,
    Z.me_Ratio___bool__,
    Z.me_Ratio___eq__,
    Z.me_Many___eq__,
    Z.pr_Ratio_bottom,
    Z.pr_Ratio_top,
    XtK.ok (xt := xtL) ⟨xtE_mk (PySem.W.mg_of X G Z.g_InvalidCount) rfl Z.xm_InvalidCount_InvalidNumber, xtE_mk (PySem.W.mg_of X G Z.g_InvalidCount) rfl Z.xm_InvalidCount_InvalidCount, xtE_mk (PySem.W.mg_of X G Z.g_InvalidNumber) rfl Z.xm_InvalidNumber_InvalidNumber, xtE_mk (PySem.W.mg_of X G Z.g_InvalidNumber) rfl Z.xm_InvalidNumber_InvalidCount, xtE_mk (PySem.W.mg_of X G Z.g_InvalidMany) rfl Z.xm_InvalidMany_InvalidNumber, xtE_mk (PySem.W.mg_of X G Z.g_InvalidMany) rfl Z.xm_InvalidMany_InvalidCount, trivial⟩,
    xf_mk (fun c C h e => by simp only [xlL, List.mem_cons, List.not_mem_nil, or_false] at h; rcases h with rfl | rfl | rfl <;> (first | (rw [PySem.W.mg_of X G Z.g_InvalidCount] at e; cases e; exact ⟨Z.ec_InvalidCount, Z.xn_InvalidCount_value⟩) | (rw [PySem.W.mg_of X G Z.g_InvalidNumber] at e; cases e; exact ⟨Z.ec_InvalidNumber, Z.xn_InvalidNumber_value⟩) | (rw [PySem.W.mg_of X G Z.g_InvalidMany] at e; cases e; exact ⟨Z.ec_InvalidMany, Z.xn_InvalidMany_value⟩))),
    ⟨⟨TabK.kit (tab := tabL) ⟨kitE_bb (by decide +kernel), kitE_bb (by decide +kernel), kitE_bb (by decide +kernel), kitE_bb (by decide +kernel), kitE_bb (by decide +kernel), kitE_bb (by decide +kernel), kitE_bb (by decide +kernel), kitE_ob (PySem.W.mg_of X G Z.g_Ratio) Z.kt_Ratio_bool, kitE_ob (PySem.W.mg_of X G Z.g_Many) Z.kt_Many_bool, kitE_ob (PySem.W.mg_of X G Z.g_InvalidCount) Z.kt_InvalidCount_bool, kitE_ob (PySem.W.mg_of X G Z.g_InvalidNumber) Z.kt_InvalidNumber_bool, kitE_ob (PySem.W.mg_of X G Z.g_InvalidMany) Z.kt_InvalidMany_bool, kitE_bb (by decide +kernel), kitE_bb (by decide +kernel), kitE_bb (by decide +kernel), kitE_bb (by decide +kernel), kitE_bb (by decide +kernel), kitE_bb (by decide +kernel), kitE_bb (by decide +kernel), kitE_ob (PySem.W.mg_of X G Z.g_Ratio) Z.kt_Ratio_int, kitE_ob (PySem.W.mg_of X G Z.g_Many) Z.kt_Many_int, kitE_ob (PySem.W.mg_of X G Z.g_InvalidCount) Z.kt_InvalidCount_int, kitE_ob (PySem.W.mg_of X G Z.g_InvalidNumber) Z.kt_InvalidNumber_int, kitE_ob (PySem.W.mg_of X G Z.g_InvalidMany) Z.kt_InvalidMany_int, kitE_bo (PySem.W.mg_of X G Z.g_Ratio) Z.kt_NoneType_Ratio, kitE_bo (PySem.W.mg_of X G Z.g_Ratio) Z.kt_bool_Ratio, kitE_bo (PySem.W.mg_of X G Z.g_Ratio) Z.kt_int_Ratio, kitE_bo (PySem.W.mg_of X G Z.g_Ratio) Z.kt_str_Ratio, kitE_bo (PySem.W.mg_of X G Z.g_Ratio) Z.kt_tuple_Ratio, kitE_bo (PySem.W.mg_of X G Z.g_Ratio) Z.kt_list_Ratio, kitE_bo (PySem.W.mg_of X G Z.g_Ratio) Z.kt_dict_Ratio, kitE_oo (PySem.W.mg_of X G Z.g_Ratio) (PySem.W.mg_of X G Z.g_Ratio) Z.kt_Ratio_Ratio, kitE_oo (PySem.W.mg_of X G Z.g_Many) (PySem.W.mg_of X G Z.g_Ratio) Z.kt_Many_Ratio, kitE_oo (PySem.W.mg_of X G Z.g_InvalidCount) (PySem.W.mg_of X G Z.g_Ratio) Z.kt_InvalidCount_Ratio, kitE_oo (PySem.W.mg_of X G Z.g_InvalidNumber) (PySem.W.mg_of X G Z.g_Ratio) Z.kt_InvalidNumber_Ratio, kitE_oo (PySem.W.mg_of X G Z.g_InvalidMany) (PySem.W.mg_of X G Z.g_Ratio) Z.kt_InvalidMany_Ratio, kitE_bo (PySem.W.mg_of X G Z.g_Many) Z.kt_NoneType_Many, kitE_bo (PySem.W.mg_of X G Z.g_Many) Z.kt_bool_Many, kitE_bo (PySem.W.mg_of X G Z.g_Many) Z.kt_int_Many, kitE_bo (PySem.W.mg_of X G Z.g_Many) Z.kt_str_Many, kitE_bo (PySem.W.mg_of X G Z.g_Many) Z.kt_tuple_Many, kitE_bo (PySem.W.mg_of X G Z.g_Many) Z.kt_list_Many, kitE_bo (PySem.W.mg_of X G Z.g_Many) Z.kt_dict_Many, kitE_oo (PySem.W.mg_of X G Z.g_Ratio) (PySem.W.mg_of X G Z.g_Many) Z.kt_Ratio_Many, kitE_oo (PySem.W.mg_of X G Z.g_Many) (PySem.W.mg_of X G Z.g_Many) Z.kt_Many_Many, kitE_oo (PySem.W.mg_of X G Z.g_InvalidCount) (PySem.W.mg_of X G Z.g_Many) Z.kt_InvalidCount_Many, kitE_oo (PySem.W.mg_of X G Z.g_InvalidNumber) (PySem.W.mg_of X G Z.g_Many) Z.kt_InvalidNumber_Many, kitE_oo (PySem.W.mg_of X G Z.g_InvalidMany) (PySem.W.mg_of X G Z.g_Many) Z.kt_InvalidMany_Many, kitE_bo (PySem.W.mg_of X G Z.g_LimitError) Z.kt_NoneType_LimitError, kitE_bo (PySem.W.mg_of X G Z.g_LimitError) Z.kt_bool_LimitError, kitE_bo (PySem.W.mg_of X G Z.g_LimitError) Z.kt_int_LimitError, kitE_bo (PySem.W.mg_of X G Z.g_LimitError) Z.kt_str_LimitError, kitE_bo (PySem.W.mg_of X G Z.g_LimitError) Z.kt_tuple_LimitError, kitE_bo (PySem.W.mg_of X G Z.g_LimitError) Z.kt_list_LimitError, kitE_bo (PySem.W.mg_of X G Z.g_LimitError) Z.kt_dict_LimitError, kitE_oo (PySem.W.mg_of X G Z.g_Ratio) (PySem.W.mg_of X G Z.g_LimitError) Z.kt_Ratio_LimitError, kitE_oo (PySem.W.mg_of X G Z.g_Many) (PySem.W.mg_of X G Z.g_LimitError) Z.kt_Many_LimitError, kitE_oo (PySem.W.mg_of X G Z.g_InvalidCount) (PySem.W.mg_of X G Z.g_LimitError) Z.kt_InvalidCount_LimitError, kitE_oo (PySem.W.mg_of X G Z.g_InvalidNumber) (PySem.W.mg_of X G Z.g_LimitError) Z.kt_InvalidNumber_LimitError, kitE_oo (PySem.W.mg_of X G Z.g_InvalidMany) (PySem.W.mg_of X G Z.g_LimitError) Z.kt_InvalidMany_LimitError, kitE_bo (PySem.W.mg_of X G Z.g_StateError) Z.kt_NoneType_StateError, kitE_bo (PySem.W.mg_of X G Z.g_StateError) Z.kt_bool_StateError, kitE_bo (PySem.W.mg_of X G Z.g_StateError) Z.kt_int_StateError, kitE_bo (PySem.W.mg_of X G Z.g_StateError) Z.kt_str_StateError, kitE_bo (PySem.W.mg_of X G Z.g_StateError) Z.kt_tuple_StateError, kitE_bo (PySem.W.mg_of X G Z.g_StateError) Z.kt_list_StateError, kitE_bo (PySem.W.mg_of X G Z.g_StateError) Z.kt_dict_StateError, kitE_oo (PySem.W.mg_of X G Z.g_Ratio) (PySem.W.mg_of X G Z.g_StateError) Z.kt_Ratio_StateError, kitE_oo (PySem.W.mg_of X G Z.g_Many) (PySem.W.mg_of X G Z.g_StateError) Z.kt_Many_StateError, kitE_oo (PySem.W.mg_of X G Z.g_InvalidCount) (PySem.W.mg_of X G Z.g_StateError) Z.kt_InvalidCount_StateError, kitE_oo (PySem.W.mg_of X G Z.g_InvalidNumber) (PySem.W.mg_of X G Z.g_StateError) Z.kt_InvalidNumber_StateError, kitE_oo (PySem.W.mg_of X G Z.g_InvalidMany) (PySem.W.mg_of X G Z.g_StateError) Z.kt_InvalidMany_StateError, kitE_bo (PySem.W.mg_of X G Z.g_MissingError) Z.kt_NoneType_MissingError, kitE_bo (PySem.W.mg_of X G Z.g_MissingError) Z.kt_bool_MissingError, kitE_bo (PySem.W.mg_of X G Z.g_MissingError) Z.kt_int_MissingError, kitE_bo (PySem.W.mg_of X G Z.g_MissingError) Z.kt_str_MissingError, kitE_bo (PySem.W.mg_of X G Z.g_MissingError) Z.kt_tuple_MissingError, kitE_bo (PySem.W.mg_of X G Z.g_MissingError) Z.kt_list_MissingError, kitE_bo (PySem.W.mg_of X G Z.g_MissingError) Z.kt_dict_MissingError, kitE_oo (PySem.W.mg_of X G Z.g_Ratio) (PySem.W.mg_of X G Z.g_MissingError) Z.kt_Ratio_MissingError, kitE_oo (PySem.W.mg_of X G Z.g_Many) (PySem.W.mg_of X G Z.g_MissingError) Z.kt_Many_MissingError, kitE_oo (PySem.W.mg_of X G Z.g_InvalidCount) (PySem.W.mg_of X G Z.g_MissingError) Z.kt_InvalidCount_MissingError, kitE_oo (PySem.W.mg_of X G Z.g_InvalidNumber) (PySem.W.mg_of X G Z.g_MissingError) Z.kt_InvalidNumber_MissingError, kitE_oo (PySem.W.mg_of X G Z.g_InvalidMany) (PySem.W.mg_of X G Z.g_MissingError) Z.kt_InvalidMany_MissingError, kitE_bo (PySem.W.mg_of X G Z.g_EachError) Z.kt_NoneType_EachError, kitE_bo (PySem.W.mg_of X G Z.g_EachError) Z.kt_bool_EachError, kitE_bo (PySem.W.mg_of X G Z.g_EachError) Z.kt_int_EachError, kitE_bo (PySem.W.mg_of X G Z.g_EachError) Z.kt_str_EachError, kitE_bo (PySem.W.mg_of X G Z.g_EachError) Z.kt_tuple_EachError, kitE_bo (PySem.W.mg_of X G Z.g_EachError) Z.kt_list_EachError, kitE_bo (PySem.W.mg_of X G Z.g_EachError) Z.kt_dict_EachError, kitE_oo (PySem.W.mg_of X G Z.g_Ratio) (PySem.W.mg_of X G Z.g_EachError) Z.kt_Ratio_EachError, kitE_oo (PySem.W.mg_of X G Z.g_Many) (PySem.W.mg_of X G Z.g_EachError) Z.kt_Many_EachError, kitE_oo (PySem.W.mg_of X G Z.g_InvalidCount) (PySem.W.mg_of X G Z.g_EachError) Z.kt_InvalidCount_EachError, kitE_oo (PySem.W.mg_of X G Z.g_InvalidNumber) (PySem.W.mg_of X G Z.g_EachError) Z.kt_InvalidNumber_EachError, kitE_oo (PySem.W.mg_of X G Z.g_InvalidMany) (PySem.W.mg_of X G Z.g_EachError) Z.kt_InvalidMany_EachError, trivial⟩, (fun c C h e => by simp only [slL, List.mem_cons, List.not_mem_nil, or_false] at h; rcases h with rfl | rfl <;> (first | (rw [PySem.W.mg_of X G Z.g_Ratio] at e; cases e; exact ⟨Z.sc_Ratio, Z.si_Ratio⟩) | (rw [PySem.W.mg_of X G Z.g_Many] at e; cases e; exact ⟨Z.sc_Many, Z.si_Many⟩))), (fun c C h e => absurd h (by simp [ilL]))⟩, fun c C h e => by simp only [xlL, List.mem_cons, List.not_mem_nil, or_false] at h; rcases h with rfl | rfl | rfl <;> (first | (rw [PySem.W.mg_of X G Z.g_InvalidCount] at e; cases e; exact Z.ec_InvalidCount) | (rw [PySem.W.mg_of X G Z.g_InvalidNumber] at e; cases e; exact Z.ec_InvalidNumber) | (rw [PySem.W.mg_of X G Z.g_InvalidMany] at e; cases e; exact Z.ec_InvalidMany))⟩,
    CmK.of ["Ratio", "Many"] (by decide) ⟨ckE_mk (PySem.W.mg_of X G Z.g_Ratio) Z.ck_Ratio, ckE_mk (PySem.W.mg_of X G Z.g_Many) Z.ck_Many, trivial⟩ ⟨⟨ckP_self, ckP_mk (PySem.W.mg_of X G Z.g_Ratio) (PySem.W.mg_of X G Z.g_Many) Z.cp_Ratio_Many, trivial⟩, ⟨ckP_mk (PySem.W.mg_of X G Z.g_Many) (PySem.W.mg_of X G Z.g_Ratio) Z.cp_Many_Ratio, ckP_self, trivial⟩, trivial⟩⟩
  have TB__law_one_right := TB ((c__law_one_right, P__law_one_right), _) (.head _)
  have HT__law_one_right : (P__law_one_right, ("_law_one_right" ++ ".<locals>." ++ "<lambda>" : Str)) ∈ TbL.t := List.mem_map.mpr ⟨((c__law_one_right, P__law_one_right), _), (.head _), rfl⟩
  have HU__law_one_right : ∀ p ∈ TbL.t, p.1 = P__law_one_right → p.2 = ("_law_one_right" ++ ".<locals>." ++ "<lambda>" : Str) := hu_of (cs := [((c__law_one_right, P__law_one_right), ("_law_one_right" ++ ".<locals>." ++ "<lambda>" : Str))]) (ps := [P__law_one_right]) rfl Z.nd 0 rfl
  have D__law_draw : DnX (Gm K mg P w base []) true false 1 "_law_draw" (liftSp (Gm K mg P w base []) 2 rd__law_draw) := dnX_mk X G Z.d__law_draw (fun _ _ _ _ _ _ us hl => match us, hl with | [_, _], _ => rfl) fun f fd F => ok__law_draw F T 
  have D__law_choice : DnX (Gm K mg P w base []) true false 2 "_law_choice" (liftSp (Gm K mg P w base []) 2 rd__law_choice) := dnX_mk X G Z.d__law_choice (fun _ _ _ _ _ _ us hl => match us, hl with | [_, _], _ => rfl) fun f fd F => ok__law_choice F T D__law_draw
  have D_is_integer : DnX (Gm K mg P w base []) false false 1 "is_integer" (liftSp (Gm K mg P w base []) 1 rd_is_integer) := dnX_mk X G Z.d_is_integer (fun _ _ _ _ _ _ us hl => match us, hl with | [_], _ => rfl) fun f fd F => ok_is_integer F T 
  have D_is_count : DnX (Gm K mg P w base []) false false 2 "is_count" (liftSp (Gm K mg P w base []) 1 rd_is_count) := dnX_mk X G Z.d_is_count (fun _ _ _ _ _ _ us hl => match us, hl with | [_], _ => rfl) fun f fd F => ok_is_count F T D_is_integer
  have D_common_divisor : DnX (Gm K mg P w base []) false false 1 "common_divisor" (liftSp (Gm K mg P w base []) 2 rd_common_divisor) := dnX_mk X G Z.d_common_divisor (fun _ _ _ _ _ _ us hl => match us, hl with | [_, _], _ => rfl) fun f fd F => ok_common_divisor F T 
  have MK_Ratio_1 : MkX (Gm K mg P w base []) C_Ratio false false 3 3 rd_Ratio___init__ [.int 1] := by
    obtain ⟨fd, FI⟩ := Z.hi_Ratio
    obtain ⟨ds0, r0, b0⟩ := FI.binds1 (ps := ["self", "top", "bottom"]) 2 0 (by simp) rfl (fun _ _ _ _ _ _ _ us its h1 h2 => match us, its, h1, h2 with | [_, _], [_], _, _ => ⟨_, rfl, rfl⟩)
    exact ⟨m_Ratio___init__, fd, _, ds0, _, Z.mk_Ratio, ok_Ratio___init__ FI T D_is_count (ex_InvalidCount T) D_is_integer (ex_InvalidNumber T) D_common_divisor, b0, r0, fun _ _ => (.cons (.int _) .nil)⟩
  have MK_Ratio_0 : MkX (Gm K mg P w base []) C_Ratio false false 3 3 rd_Ratio___init__ [] := by
    obtain ⟨fd, FI⟩ := Z.hi_Ratio
    obtain ⟨ds0, r0, b0⟩ := FI.binds1 (ps := ["self", "top", "bottom"]) 3 1 (by simp) rfl (fun _ _ _ _ _ _ _ us its h1 h2 => match us, its, h1, h2 with | [_, _, _], [_], _, _ => ⟨_, rfl, rfl⟩)
    exact ⟨m_Ratio___init__, fd, _, ds0, _, Z.mk_Ratio, ok_Ratio___init__ FI T D_is_count (ex_InvalidCount T) D_is_integer (ex_InvalidNumber T) D_common_divisor, b0, r0, fun _ _ => .nil⟩
  have MKK_Ratio_bottom_top : MkK (Gm K mg P w base []) C_Ratio false false 3 ["bottom", "top"] [.inl 2, .inl 1] [.int 1] 3 rd_Ratio___init__ := by
    obtain ⟨fd, FI⟩ := Z.hi_Ratio
    obtain ⟨dus, r0, b0⟩ := KwB.ofD (ps := ["self", "top", "bottom"]) FI 1 ["bottom", "top"] [(.inl 0), (.inl 2), (.inl 1)] (by simp) (fun _ _ _ _ _ _ _ us its ws h1 h2 h3 => match us, its, ws, h1, h2, h3 with | [_], [_], [_, _], _, _, _ => ⟨_, rfl, rfl⟩)
    exact ⟨m_Ratio___init__, fd, _, dus, _, Z.mk_Ratio, b0, r0, fun _ _ => (.cons (.int _) .nil), ok_Ratio___init__ FI T D_is_count (ex_InvalidCount T) D_is_integer (ex_InvalidNumber T) D_common_divisor⟩
  have MKK_Ratio_top : MkK (Gm K mg P w base []) C_Ratio false false 3 ["top"] [.inl 1, .inr 0] [.int 1] 3 rd_Ratio___init__ := by
    obtain ⟨fd, FI⟩ := Z.hi_Ratio
    obtain ⟨dus, r0, b0⟩ := KwB.ofD (ps := ["self", "top", "bottom"]) FI 1 ["top"] [(.inl 0), (.inl 1), (.inr 0)] (by simp) (fun _ _ _ _ _ _ _ us its ws h1 h2 h3 => match us, its, ws, h1, h2, h3 with | [_], [_], [_], _, _, _ => ⟨_, rfl, rfl⟩)
    exact ⟨m_Ratio___init__, fd, _, dus, _, Z.mk_Ratio, b0, r0, fun _ _ => (.cons (.int _) .nil), ok_Ratio___init__ FI T D_is_count (ex_InvalidCount T) D_is_integer (ex_InvalidNumber T) D_common_divisor⟩
  have D__law_any : DnX (Gm K mg P w base []) true false 5 "_law_any" (liftSp (Gm K mg P w base []) 1 rd__law_any) := dnX_mk X G Z.d__law_any (fun _ _ _ _ _ _ us hl => match us, hl with | [_], _ => rfl) fun f fd F => ok__law_any F T D__law_draw D__law_choice MK_Ratio_1
  have D__law_two : DnX (Gm K mg P w base []) true false 6 "_law_two" (liftSp (Gm K mg P w base []) 1 rd__law_two) := dnX_mk X G Z.d__law_two (fun _ _ _ _ _ _ us hl => match us, hl with | [_], _ => rfl) fun f fd F => ok__law_two F T D__law_draw D__law_choice D__law_any
  have D__law_is_integer : DnX (Gm K mg P w base []) true false 1 "_law_is_integer" (liftSp (Gm K mg P w base []) 1 rd__law_is_integer) := dnX_mk X G Z.d__law_is_integer (fun _ _ _ _ _ _ us hl => match us, hl with | [_], _ => rfl) fun f fd F => ok__law_is_integer F T 
  have D_Ratio___repr__ : FnRX (Gm K mg P w base []) false true 1 m_Ratio___repr__ (liftSp (Gm K mg P w base []) 1 rd_Ratio___repr__) := by
    obtain ⟨oc, od, kV, dc, pmv, an, cd, ct, sl, l, c, kp⟩ := Z.hm_Ratio___repr__
    have F := fun_mk (st := s_Ratio___repr__) l c kp
    exact (ok_Ratio___repr__ (P := P) (w := w) (base := base) (T0 := []) F T ).raw (F.binds (ps := ["self"]) fun _ _ _ _ _ _ us hl => match us, hl with | [_], _ => rfl)
  have D_Ratio___str__ : FnRX (Gm K mg P w base []) false true 1 m_Ratio___str__ (liftSp (Gm K mg P w base []) 1 rd_Ratio___str__) := by
    obtain ⟨oc, od, kV, dc, pmv, an, cd, ct, sl, l, c, kp⟩ := Z.hm_Ratio___str__
    have F := fun_mk (st := s_Ratio___str__) l c kp
    exact (ok_Ratio___str__ (P := P) (w := w) (base := base) (T0 := []) F T ).raw (F.binds (ps := ["self"]) fun _ _ _ _ _ _ us hl => match us, hl with | [_], _ => rfl)
  have D_Ratio___bool__ : FnRX (Gm K mg P w base []) false true 1 m_Ratio___bool__ (liftSp (Gm K mg P w base []) 1 rd_Ratio___bool__) := by
    obtain ⟨oc, od, kV, dc, pmv, an, cd, ct, sl, l, c, kp⟩ := Z.hm_Ratio___bool__
    have F := fun_mk (st := s_Ratio___bool__) l c kp
    exact (ok_Ratio___bool__ (P := P) (w := w) (base := base) (T0 := []) F T ).raw (F.binds (ps := ["self"]) fun _ _ _ _ _ _ us hl => match us, hl with | [_], _ => rfl)
  have D_Ratio___eq__ : FnRX (Gm K mg P w base []) false true 1 m_Ratio___eq__ (liftSp (Gm K mg P w base []) 2 rd_Ratio___eq__) := by
    obtain ⟨oc, od, kV, dc, pmv, an, cd, ct, sl, l, c, kp⟩ := Z.hm_Ratio___eq__
    have F := fun_mk (st := s_Ratio___eq__) l c kp
    exact (ok_Ratio___eq__ (P := P) (w := w) (base := base) (T0 := []) F T ).raw (F.binds (ps := ["self", "other"]) fun _ _ _ _ _ _ us hl => match us, hl with | [_, _], _ => rfl)
  have CM_Ratio___eq__ : CmFn (Gm K mg P w base []) 1 m_Ratio___eq__ (cmF 2 (tNotD (tVal (eB (fIsiX slL ilL xlL tabL) (aCons (eVar 1) (aCons (eC (.gl "Ratio")) aNil))))) rd_Ratio___eq__) := by
    obtain ⟨oc, od, kV, dc, pmv, an, cd, ct, sl, l, c, kp⟩ := Z.hm_Ratio___eq__
    have F := fun_mk (st := s_Ratio___eq__) l c kp
    exact cm_Ratio___eq__ (P := P) (w := w) (base := base) (T0 := []) F T 
  have D_Many___eq__ : FnRX (Gm K mg P w base []) false true 1 m_Many___eq__ (liftSp (Gm K mg P w base []) 2 rd_Many___eq__) := by
    obtain ⟨oc, od, kV, dc, pmv, an, cd, ct, sl, l, c, kp⟩ := Z.hm_Many___eq__
    have F := fun_mk (st := s_Many___eq__) l c kp
    exact (ok_Many___eq__ (P := P) (w := w) (base := base) (T0 := []) F T ).raw (F.binds (ps := ["self", "other"]) fun _ _ _ _ _ _ us hl => match us, hl with | [_, _], _ => rfl)
  have CM_Many___eq__ : CmFn (Gm K mg P w base []) 1 m_Many___eq__ (cmF 2 (tNotD (tVal (eB (fIsiX slL ilL xlL tabL) (aCons (eVar 1) (aCons (eC (.gl "Many")) aNil))))) rd_Many___eq__) := by
    obtain ⟨oc, od, kV, dc, pmv, an, cd, ct, sl, l, c, kp⟩ := Z.hm_Many___eq__
    have F := fun_mk (st := s_Many___eq__) l c kp
    exact cm_Many___eq__ (P := P) (w := w) (base := base) (T0 := []) F T 
  have D__law_common : DnX (Gm K mg P w base []) true false 1 "_law_common" (liftSp (Gm K mg P w base []) 2 rd__law_common) := dnX_mk X G Z.d__law_common (fun _ _ _ _ _ _ us hl => match us, hl with | [_, _], _ => rfl) fun f fd F => ok__law_common F T 
  have OW : OwOk (Gm K mg P w base []) 1 owL := OwEs.ok (ow := owL) ⟨owE_mk T.g_Ratio T.me_Ratio___repr__ D_Ratio___repr__ (by decide), owE_mk T.g_Ratio T.me_Ratio___str__ D_Ratio___str__ (by decide), owE_mk T.g_Ratio T.me_Ratio___bool__ D_Ratio___bool__ (by decide), trivial⟩
  have CM : CmOk (Gm K mg P w base []) 1 cmL := CmEs.ok (cm := cmL) ⟨cmE_mk T.g_Ratio T.me_Ratio___eq__ CM_Ratio___eq__ (by decide), cmE_mk T.g_Many T.me_Many___eq__ CM_Many___eq__ (by decide), trivial⟩
  have D__law_due : DnX (Gm K mg P w base []) true false 6 "_law_due" (liftSp (Gm K mg P w base []) 2 rd__law_due) := dnX_mk X G Z.d__law_due (fun _ _ _ _ _ _ us hl => match us, hl with | [_, _], _ => rfl) fun f fd F => ok__law_due F T D__law_is_integer OW D__law_common
  have D_Ratio_bottom : FnRX (Gm K mg P w base []) false false 1 m_Ratio_bottom (liftSp (Gm K mg P w base []) 1 rd_Ratio_bottom) := by
    obtain ⟨oc, od, kV, dc, pmv, an, cd, ct, sl, l, c, kp⟩ := Z.hm_Ratio_bottom
    have F := fun_mk (st := s_Ratio_bottom) l c kp
    exact (ok_Ratio_bottom (P := P) (w := w) (base := base) (T0 := []) F T ).raw (F.binds (ps := ["self"]) fun _ _ _ _ _ _ us hl => match us, hl with | [_], _ => rfl)
  have D_Ratio_top : FnRX (Gm K mg P w base []) false false 1 m_Ratio_top (liftSp (Gm K mg P w base []) 1 rd_Ratio_top) := by
    obtain ⟨oc, od, kV, dc, pmv, an, cd, ct, sl, l, c, kp⟩ := Z.hm_Ratio_top
    have F := fun_mk (st := s_Ratio_top) l c kp
    exact (ok_Ratio_top (P := P) (w := w) (base := base) (T0 := []) F T ).raw (F.binds (ps := ["self"]) fun _ _ _ _ _ _ us hl => match us, hl with | [_], _ => rfl)
  have D__law_bases : DnX (Gm K mg P w base []) true true 1 "_law_bases" (liftSp (Gm K mg P w base []) 1 rd__law_bases) := dnX_mk X G Z.d__law_bases (fun _ _ _ _ _ _ us hl => match us, hl with | [_], _ => rfl) fun f fd F => ok__law_bases F T 
  have LM__law_told := ok__law_told (w := w) (base := base) (T0 := []) X G Z.d__law_told T OW D_Ratio_bottom D_Ratio_top D__law_bases
  have D__law_one_right : DnX (Gm K mg P w base []) true false 14 "_law_one_right" (liftSp (Gm K mg P w base []) 2 rd__law_one_right) := dnC_mk X G Z.d__law_one_right Z.tb__law_one_right (fun _ _ _ _ _ _ us hl => match us, hl with | [_, _], _ => rfl) fun f fd F => ok__law_one_right F T D__law_due LM__law_told MK_Ratio_0 MKK_Ratio_bottom_top MK_Ratio_1 MKK_Ratio_top CM TB__law_one_right HT__law_one_right HU__law_one_right
  have D_want_count : DnX (Gm K mg P w base []) false false 3 "want_count" (liftSp (Gm K mg P w base []) 1 rd_want_count) := dnX_mk X G Z.d_want_count (fun _ _ _ _ _ _ us hl => match us, hl with | [_], _ => rfl) fun f fd F => ok_want_count F T D_is_count (ex_InvalidCount T)
  have MK_Many_1 : MkX (Gm K mg P w base []) C_Many false false 4 3 rd_Many___init__ [.non] := by
    obtain ⟨fd, FI⟩ := Z.hi_Many
    obtain ⟨ds0, r0, b0⟩ := FI.binds1 (ps := ["self", "least", "most"]) 2 0 (by simp) rfl (fun _ _ _ _ _ _ _ us its h1 h2 => match us, its, h1, h2 with | [_, _], [_], _, _ => ⟨_, rfl, rfl⟩)
    exact ⟨m_Many___init__, fd, _, ds0, _, Z.mk_Many, ok_Many___init__ FI T D_want_count (ex_InvalidMany T), b0, r0, fun _ _ => (.cons .non .nil)⟩
  have D__law_alike_right : DnX (Gm K mg P w base []) true false 6 "_law_alike_right" (liftSp (Gm K mg P w base []) 3 rd__law_alike_right) := dnX_mk X G Z.d__law_alike_right (fun _ _ _ _ _ _ us hl => match us, hl with | [_, _, _], _ => rfl) fun f fd F => ok__law_alike_right F T D__law_draw MK_Ratio_0 CM MK_Many_1 OW
  have D__law_right : DnX (Gm K mg P w base []) true false 15 "_law_right" (liftSp (Gm K mg P w base []) 1 rd__law_right) := dnX_mk X G Z.d__law_right (fun _ _ _ _ _ _ us hl => match us, hl with | [_], _ => rfl) fun f fd F => ok__law_right F T D__law_two D__law_one_right D__law_alike_right D__law_due
  have D__law_rng : DnX (Gm K mg P w base []) true false 1 "_law_rng" (liftSp (Gm K mg P w base []) 2 rd__law_rng) := dnX_mk X G Z.d__law_rng (fun _ _ _ _ _ _ us hl => match us, hl with | [_, _], _ => rfl) fun f fd F => ok__law_rng F T 
  exact ok_law F T D__law_right D__law_rng
theorem tabs_ok {K : PySem.W.Frag} {P q : Program} {C_Ratio p_Ratio_own_bottom p_Ratio_own_top C_Many p_Many_own_least p_Many_own_most p_Many_own_place C_InvalidNumber C_LimitError C_StateError C_MissingError C_EachError C_InvalidCount m_InvalidCount___init__ cc_InvalidCount cda_InvalidCount m_InvalidNumber___init__ cc_InvalidNumber cda_InvalidNumber C_InvalidMany m_InvalidMany___init__ cc_InvalidMany cda_InvalidMany m_Ratio___init__ m_Ratio___repr__ m_Ratio___str__ m_Ratio___bool__ m_Ratio___eq__ m_Many___eq__ m_Ratio_bottom q_Ratio_bottom m_Ratio_top q_Ratio_top m_Many___init__ c__law_one_right P__law_one_right : Addr} (Z : All K P C_Ratio p_Ratio_own_bottom p_Ratio_own_top C_Many p_Many_own_least p_Many_own_most p_Many_own_place C_InvalidNumber C_LimitError C_StateError C_MissingError C_EachError C_InvalidCount m_InvalidCount___init__ cc_InvalidCount cda_InvalidCount m_InvalidNumber___init__ cc_InvalidNumber cda_InvalidNumber C_InvalidMany m_InvalidMany___init__ cc_InvalidMany cda_InvalidMany m_Ratio___init__ m_Ratio___repr__ m_Ratio___str__ m_Ratio___bool__ m_Ratio___eq__ m_Many___eq__ m_Ratio_bottom q_Ratio_bottom m_Ratio_top q_Ratio_top m_Many___init__ c__law_one_right P__law_one_right) (hq : ∀ y ∈ (["_law_one_right"] : List Str), ∃ d', (recsOf q).find? (fun e => e.name == y) = some d') : (∀ p ∈ ([((c__law_one_right, P__law_one_right), ("_law_one_right" ++ ".<locals>." ++ "<lambda>" : Str))] : List ((Addr × Addr) × Str)), ∃ (y : Str) (d' : DefRec), (recsOf q).find? (fun e => e.name == y) = some d' ∧ PySem.W.tabIn K y = some p.1) ∧ ∀ p ∈ ([((c__law_one_right, P__law_one_right), ("_law_one_right" ++ ".<locals>." ++ "<lambda>" : Str))] : List ((Addr × Addr) × Str)), K.lookup p.1.2 = none := by
  constructor
  · intro p hp
    simp only [List.mem_cons, List.not_mem_nil, or_false] at hp
    rcases hp with rfl
    · exact ⟨_, (hq "_law_one_right" (by simp)).choose, (hq "_law_one_right" (by simp)).choose_spec, Z.tb__law_one_right⟩
  · intro p hp
    simp only [List.mem_cons, List.not_mem_nil, or_false] at hp
    rcases hp with rfl
    · exact Z.nl__law_one_right
theorem walk {l : PySem.W.OpenLaw} {q : Program} {loose : List Str} {XP : (Str → Option Value) → Heap → Prop} {YP : World → Heap → Prop} {d : DefRec} {K : Params → PySem.W.Frag} (hn : l.most = some 63) (hdf : d.params.defaults = [])
    (hY : ∀ (w : World) (h : Heap), YP w h → (K w.params).In h) (hd : d.name = "law") (hq : ∀ y ∈ (["_law_one_right"] : List Str), ∃ d', (recsOf q).find? (fun e => e.name == y) = some d') (Z : ∀ w : World, ∃ C_Ratio p_Ratio_own_bottom p_Ratio_own_top C_Many p_Many_own_least p_Many_own_most p_Many_own_place C_InvalidNumber C_LimitError C_StateError C_MissingError C_EachError C_InvalidCount m_InvalidCount___init__ cc_InvalidCount cda_InvalidCount m_InvalidNumber___init__ cc_InvalidNumber cda_InvalidNumber C_InvalidMany m_InvalidMany___init__ cc_InvalidMany cda_InvalidMany m_Ratio___init__ m_Ratio___repr__ m_Ratio___str__ m_Ratio___bool__ m_Ratio___eq__ m_Many___eq__ m_Ratio_bottom q_Ratio_bottom m_Ratio_top q_Ratio_top m_Many___init__ c__law_one_right P__law_one_right, All (K w.params) l.prog C_Ratio p_Ratio_own_bottom p_Ratio_own_top C_Many p_Many_own_least p_Many_own_most p_Many_own_place C_InvalidNumber C_LimitError C_StateError C_MissingError C_EachError C_InvalidCount m_InvalidCount___init__ cc_InvalidCount cda_InvalidCount m_InvalidNumber___init__ cc_InvalidNumber cda_InvalidNumber C_InvalidMany m_InvalidMany___init__ cc_InvalidMany cda_InvalidMany m_Ratio___init__ m_Ratio___repr__ m_Ratio___str__ m_Ratio___bool__ m_Ratio___eq__ m_Many___eq__ m_Ratio_bottom q_Ratio_bottom m_Ratio_top q_Ratio_top m_Many___init__ c__law_one_right P__law_one_right)
    (law : ∀ ns : List Int, ns.length ≤ 63 → ∃ ss, rd_law [.v (.fl (ns.map D.int))] = .ok (.v (.bl true)) ss) :
    PySem.W.WalkO q loose XP YP l.row.toRowW d [] (fun f vs => PySem.call f vs) :=
  walkX (k := 16) hn (by decide) hdf ⟨rfl, by decide, by decide⟩ hY (fun w mg fa h Y X G hfa => let ⟨C_Ratio, p_Ratio_own_bottom, p_Ratio_own_top, C_Many, p_Many_own_least, p_Many_own_most, p_Many_own_place, C_InvalidNumber, C_LimitError, C_StateError, C_MissingError, C_EachError, C_InvalidCount, m_InvalidCount___init__, cc_InvalidCount, cda_InvalidCount, m_InvalidNumber___init__, cc_InvalidNumber, cda_InvalidNumber, C_InvalidMany, m_InvalidMany___init__, cc_InvalidMany, cda_InvalidMany, m_Ratio___init__, m_Ratio___repr__, m_Ratio___str__, m_Ratio___bool__, m_Ratio___eq__, m_Many___eq__, m_Ratio_bottom, q_Ratio_bottom, m_Ratio_top, q_Ratio_top, m_Many___init__, c__law_one_right, P__law_one_right, z⟩ := Z w; let ⟨fd, hb, hF⟩ := all_law X G (by rw [← hd]; exact hfa) z; ⟨fd, [((c__law_one_right, P__law_one_right), ("_law_one_right" ++ ".<locals>." ++ "<lambda>" : Str))], (tabs_ok z hq).1, (tabs_ok z hq).2, hb, fun base k1 k2 k3 => hF base k1 k2 k3⟩) law
end K17

set_option Elab.async false
set_option linter.all false
set_option maxRecDepth 100000
set_option maxHeartbeats 4000000
set_option autoImplicit false
/-! what a reading answers: rules that go through it in its sequence -/
namespace DL
open L2 PySem G58
variable {α β : Type} {Q : α → Ds → Prop} {R : β → Ds → Prop} {E : Exc → Ds → Prop} {δ : Ds}
/-- one of two, by a bool -/
def mB (b : Bool) (A B : Prop) : Prop := match b with | true => A | false => B
def EW (Q : α → Ds → Prop) (E : Exc → Ds → Prop) : Out α → Prop
  | .ok a δ => Q a δ
  | .ex x δ => E x δ
  | .bad => False
/-- the ends of a statement -/
structure SE where
  nx : Ds → Prop
  rt : S → Ds → Prop
  bk : Ds → Prop
  ct : Ds → Prop
  ex : Exc → Ds → Prop
abbrev SE.wnx (Z : SE) (f : Ds → Prop) : SE := ⟨f, Z.rt, Z.bk, Z.ct, Z.ex⟩
abbrev SE.wex (Z : SE) (f : Exc → Ds → Prop) : SE := ⟨Z.nx, Z.rt, Z.bk, Z.ct, f⟩
def SW (Z : SE) : SOut → Prop
  | .nx δ => Z.nx δ
  | .rt s δ => Z.rt s δ
  | .bk δ => Z.bk δ
  | .ct δ => Z.ct δ
  | .ex x δ => Z.ex x δ
  | .bad => False
def FW (Q : S → List S → Prop) (E : Exc → List S → Prop) : FOut → Prop
  | .ok s ss => Q s ss
  | .ex x ss => E x ss
  | .bad => False
theorem EW.mono {Q' : α → Ds → Prop} {E' : Exc → Ds → Prop} {o : Out α} (h : EW Q E o) (q : ∀ a δ, Q a δ → Q' a δ) (e : ∀ x δ, E x δ → E' x δ) : EW Q' E' o := by
  cases o with
  | ok a δ => exact q _ _ h
  | ex x δ => exact e _ _ h
  | bad => exact h
theorem ew_ok {a : α} {δ' : Ds} {o : Out α} (e : o = .ok a δ') (h : Q a δ') : EW Q E o := by rw [e]; exact h
theorem ew_bnd {c : ME α} {f : α → ME β} (h : EW (fun a δ1 => EW R E (f a δ1)) E (c δ)) : EW R E (bnd c f δ) := by
  unfold bnd
  cases e : c δ with
  | ok a δ1 => rw [e] at h; exact h
  | ex x δ1 => rw [e] at h; exact h
  | bad => rw [e] at h; exact h
theorem ew_rtn {a : α} (h : Q a δ) : EW Q E (rtn a δ) := h
theorem ew_opt {o : Option α} (h : ∃ a, o = some a ∧ Q a δ) : EW Q E (opt o δ) := by
  obtain ⟨a, e, q⟩ := h
  rw [e]
  exact q
section
variable {Q : D → Ds → Prop} {QB : Bool → Ds → Prop} {QL : List D → Ds → Prop} {QA : List AV → Ds → Prop} {QM : MO → Ds → Prop} {a b c : ME D} {ta tb : ME Bool} {A : ME (List D)} {V : ME (List AV)} {d : D} {i n : Nat} {f : D → D → Option D} {g : D → Option D} {fl : List D → Option D} {fd : FnD}
theorem ew_var (h : δ[i]? = some (some (.v d))) (q : Q d δ) : EW Q E (eVar i δ) := by
  unfold eVar
  rw [h]
  exact q
theorem ew_c (q : Q d δ) : EW Q E (eC d δ) := q
theorem ew_bin (h : EW (fun x δ1 => EW (fun y δ2 => ∃ z, f x y = some z ∧ Q z δ2) E (b δ1)) E (a δ)) : EW Q E (eBin f a b δ) :=
  ew_bnd (h.mono (fun _ _ h => ew_bnd (h.mono (fun _ _ h => ew_opt h) (fun _ _ h => h))) (fun _ _ h => h))
theorem ew_un (h : EW (fun x δ1 => ∃ z, g x = some z ∧ Q z δ1) E (a δ)) : EW Q E (eUn g a δ) :=
  ew_bnd (h.mono (fun _ _ h => ew_opt h) (fun _ _ h => h))
theorem ew_isN (h : EW (fun x δ1 => Q (.bl (isNon x)) δ1) E (a δ)) : EW Q E (eIsN a δ) := ew_bnd h
theorem ew_notN (h : EW (fun x δ1 => Q (.bl (!isNon x)) δ1) E (a δ)) : EW Q E (eNotN a δ) := ew_bnd h
theorem ew_val (h : EW (fun x δ1 => ∃ z, asB x = some z ∧ QB z δ1) E (a δ)) : EW QB E (tVal a δ) :=
  ew_bnd (h.mono (fun _ _ h => ew_opt h) (fun _ _ h => h))
theorem ew_and (h : EW (fun x δ1 => ∃ z, asB x = some z ∧ mB z (EW Q E (b δ1)) (Q (.bl false) δ1)) E (a δ)) : EW Q E (eAnd a b δ) := by
  refine ew_bnd (h.mono (fun x δ1 h => ?_) (fun _ _ h => h))
  obtain ⟨z, e, h⟩ := h
  refine ew_bnd (ew_opt ⟨z, e, ?_⟩)
  cases z <;> exact h
theorem ew_or (h : EW (fun x δ1 => ∃ z, asB x = some z ∧ mB z (Q (.bl true) δ1) (EW Q E (b δ1))) E (a δ)) : EW Q E (eOr a b δ) := by
  refine ew_bnd (h.mono (fun x δ1 h => ?_) (fun _ _ h => h))
  obtain ⟨z, e, h⟩ := h
  refine ew_bnd (ew_opt ⟨z, e, ?_⟩)
  cases z <;> exact h
theorem ew_not (h : EW (fun x δ1 => ∃ z, asB x = some z ∧ Q (.bl (!z)) δ1) E (a δ)) : EW Q E (eNot a δ) := by
  refine ew_bnd (h.mono (fun x δ1 h => ?_) (fun _ _ h => h))
  obtain ⟨z, e, h⟩ := h
  exact ew_bnd (ew_opt ⟨z, e, h⟩)
theorem ew_tand (h : EW (fun x δ1 => mB x (EW QB E (tb δ1)) (QB false δ1)) E (ta δ)) : EW QB E (tAndD ta tb δ) := by
  refine ew_bnd (h.mono (fun x δ1 h => ?_) (fun _ _ h => h))
  cases x <;> exact h
theorem ew_tor (h : EW (fun x δ1 => mB x (QB true δ1) (EW QB E (tb δ1))) E (ta δ)) : EW QB E (tOrD ta tb δ) := by
  refine ew_bnd (h.mono (fun x δ1 h => ?_) (fun _ _ h => h))
  cases x <;> exact h
theorem ew_tnot (h : EW (fun x δ1 => QB (!x) δ1) E (ta δ)) : EW QB E (tNotD ta δ) := ew_bnd h
theorem ew_ite (h : EW (fun x δ1 => mB x (EW Q E (a δ1)) (EW Q E (b δ1))) E (ta δ)) : EW Q E (eIte ta a b δ) := by
  refine ew_bnd (h.mono (fun x δ1 h => ?_) (fun _ _ h => h))
  cases x <;> exact h
theorem ew_nil (h : QL [] δ) : EW QL E (aNil δ) := h
theorem ew_cons (h : EW (fun x δ1 => EW (fun xs δ2 => QL (x :: xs) δ2) E (A δ1)) E (a δ)) : EW QL E (aCons a A δ) :=
  ew_bnd (h.mono (fun _ _ h => ew_bnd h) (fun _ _ h => h))
theorem ew_vnil (h : QA [] δ) : EW QA E (vNil δ) := h
theorem ew_vcons (h : EW (fun x δ1 => EW (fun xs δ2 => QA (.v x :: xs) δ2) E (V δ1)) E (a δ)) : EW QA E (vCons a V δ) :=
  ew_bnd (h.mono (fun _ _ h => ew_bnd h) (fun _ _ h => h))
theorem ew_vref {o : MO} (e : δ[i]? = some (some (.m o))) (h : EW (fun xs δ2 => QA (.r i :: xs) δ2) E (V δ)) : EW QA E (vRef i V δ) := by
  refine ew_bnd ?_
  unfold mRef
  rw [e]
  exact ew_bnd h
theorem ew_tup (h : EW (fun xs δ1 => szOk xs.length = true ∧ Q (.tup xs) δ1) E (A δ)) : EW Q E (eTup A δ) :=
  ew_bnd (h.mono (fun xs _ h => ew_opt ⟨_, by rw [h.1]; exact if_pos rfl, h.2⟩) (fun _ _ h => h))
theorem ew_lst (h : EW (fun xs δ1 => szOk xs.length = true ∧ Q (.lst xs) δ1) E (A δ)) : EW Q E (eLst A δ) :=
  ew_bnd (h.mono (fun xs _ h => ew_opt ⟨_, by rw [h.1]; exact if_pos rfl, h.2⟩) (fun _ _ h => h))
theorem ew_nlst (h : EW (fun xs δ1 => szOk xs.length = true ∧ QM (.lst xs) δ1) E (A δ)) : EW QM E (nLst A δ) :=
  ew_bnd (h.mono (fun xs _ h => ew_opt ⟨_, by rw [h.1]; exact if_pos rfl, h.2⟩) (fun _ _ h => h))
theorem ew_B (h : EW (fun xs δ1 => ∃ z, fl xs = some z ∧ Q z δ1) E (A δ)) : EW Q E (eB fl A δ) :=
  ew_bnd (h.mono (fun xs _ h => ew_opt h) (fun _ _ h => h))
theorem ew_ixM {ds : List D} (e : δ[i]? = some (some (.m (.lst ds)))) (h : EW (fun x δ1 => ∃ k ds' z, x = .int k ∧ δ1[i]? = some (some (.m (.lst ds'))) ∧ atI ds' k = some z ∧ Q z δ1) E (a δ)) : EW Q E (eIxM i a δ) := by
  unfold eIxM
  have : isML i δ = true := by unfold isML; rw [e]
  rw [if_pos this]
  refine ew_bnd (h.mono (fun x δ1 h => ?_) (fun _ _ h => h))
  obtain ⟨k, ds', z, e1, e2, e3, q⟩ := h
  unfold ixM
  rw [e1, e2]
  dsimp only
  rw [e3]
  exact q
theorem ew_slc {c : Str} {j : Nat} (h : EW (fun x δ1 => ∃ z, getS c j x = some z ∧ Q z δ1) E (a δ)) : EW Q E (eSl c j a δ) :=
  ew_bnd (h.mono (fun xs _ h => ew_opt h) (fun _ _ h => h))
/-- calls -/
theorem ew_call (h : EW (fun xs δ1 => ∃ ss, getArgs δ1 xs = some ss ∧ (decide (xs.length = n) && nodupB (refsOf xs)) = true ∧
    FW (fun s ss' => ∃ d δ', s = .v d ∧ putArgs δ1 xs ss' = some δ' ∧ Q d δ') (fun x ss' => ∃ δ', putArgs δ1 xs ss' = some δ' ∧ E x δ') (fd ss)) E (V δ)) : EW Q E (eCall n fd V δ) := by
  refine ew_bnd (h.mono (fun xs δ1 h => ?_) (fun _ _ h => h))
  obtain ⟨ss, e1, e2, h⟩ := h
  unfold callD
  rw [e1]
  dsimp only
  rw [if_pos e2]
  cases e : fd ss with
  | ok s ss' =>
    rw [e] at h
    obtain ⟨d, δ', e3, e4, q⟩ := h
    subst e3
    dsimp only
    rw [e4]
    exact q
  | ex x ss' =>
    rw [e] at h
    obtain ⟨δ', e4, q⟩ := h
    dsimp only
    rw [e4]
    exact q
  | bad => rw [e] at h; exact h
theorem ew_nCallX (h : EW (fun xs δ1 => ∃ ss, getArgs δ1 xs = some ss ∧ (decide (xs.length = n) && nodupB (refsOf xs)) = true ∧
    FW (fun s ss' => ∃ o δ', s = .m o ∧ putArgs δ1 xs ss' = some δ' ∧ QM o δ') (fun x ss' => ∃ δ', putArgs δ1 xs ss' = some δ' ∧ E x δ') (fd ss)) E (V δ)) : EW QM E (nCallX n fd V δ) := by
  refine ew_bnd (h.mono (fun xs δ1 h => ?_) (fun _ _ h => h))
  obtain ⟨ss, e1, e2, h⟩ := h
  unfold callDNX
  rw [e1]
  dsimp only
  rw [if_pos e2]
  cases e : fd ss with
  | ok s ss' =>
    rw [e] at h
    obtain ⟨d, δ', e3, e4, q⟩ := h
    subst e3
    dsimp only
    rw [e4]
    exact q
  | ex x ss' =>
    rw [e] at h
    obtain ⟨δ', e4, q⟩ := h
    dsimp only
    rw [e4]
    exact q
  | bad => rw [e] at h; exact h
theorem ew_call1X {F : ME MO} (h : EW (fun o δ1 => FW (fun s _ => ∃ d, s = .v d ∧ Q d δ1) (fun x _ => E x δ1) (fd [.m o])) E (F δ)) : EW Q E (eCall1X fd F δ) := by
  refine ew_bnd (h.mono (fun o δ1 h => ?_) (fun _ _ h => h))
  unfold call1X
  cases e : fd [.m o] with
  | ok s ss' =>
    rw [e] at h
    obtain ⟨d, e3, q⟩ := h
    subst e3
    exact q
  | ex x ss' => rw [e] at h; exact h
  | bad => rw [e] at h; exact h
theorem ew_makeX {sl : Bool} {cl : Str} {dv : List D} (h : EW (fun xs δ1 => ∃ d, mkX sl cl n fd (xs ++ dv) δ1 = .ok d δ1 ∧ Q d δ1) E (A δ)) : EW Q E (eMakeX sl cl n fd A dv δ) :=
  ew_bnd (h.mono (fun xs δ1 h => let ⟨_, e, q⟩ := h; ew_ok e q) (fun _ _ h => h))
theorem ew_dct0 (h : Q (.dct []) δ) : EW Q E (eDct0 δ) := h
theorem ew_conS {cl : Str} (h : EW (fun x δ1 => isS cl x = true ∧ Q d δ1) E (a δ)) : EW Q E (eConS cl d a δ) :=
  ew_bnd (h.mono (fun x δ1 h => by rw [if_pos h.1]; exact h.2) (fun _ _ h => h))
theorem ew_bmS {m : Str → List D → Option D} (h : EW (fun x δ1 => ∃ s, x = .str s ∧ EW (fun xs δ2 => ∃ z, m s xs = some z ∧ Q z δ2) E (A δ1)) E (a δ)) : EW Q E (eBmS m a A δ) := by
  refine ew_bnd (h.mono (fun x δ1 h => ?_) (fun _ _ h => h))
  obtain ⟨s, e, h⟩ := h
  subst e
  exact ew_bnd (h.mono (fun xs _ h => ew_opt h) (fun _ _ h => h))
theorem ew_rg1 (h : EW (fun xs δ1 => ∃ z, asRg1 xs = some z ∧ QL z δ1) E (A δ)) : EW QL E (iRg1 A δ) :=
  ew_bnd (h.mono (fun xs _ h => ew_opt h) (fun _ _ h => h))
theorem ew_seq (h : EW (fun xs δ1 => ∃ z, asItems xs = some z ∧ QL z δ1) E (a δ)) : EW QL E (iSeq a δ) :=
  ew_bnd (h.mono (fun xs _ h => ew_opt h) (fun _ _ h => h))
theorem ew_yes (h : QB true δ) : EW QB E (tYesD δ) := h
end
/-! statements -/
section
variable {Z : SE} {F G : MS} {a : ME D} {A : ME (List D)} {tc : ME Bool} {n i : Nat}
theorem sw_bnd {c : ME α} {f : α → MS} (h : EW (fun a δ1 => SW Z (f a δ1)) Z.ex (c δ)) : SW Z (sBnd c f δ) := by
  unfold sBnd
  cases e : c δ with
  | ok a δ1 => rw [e] at h; exact h
  | ex x δ1 => rw [e] at h; exact h
  | bad => rw [e] at h; exact h
theorem sw_nx (h : Z.nx δ) : SW Z (sNx δ) := h
theorem sw_seq (h : SW (Z.wnx fun δ1 => SW Z (G δ1)) (F δ)) : SW Z (sSeq F G δ) := by
  unfold sSeq
  cases e : F δ <;> rw [e] at h <;> exact h
theorem sw_if (h : EW (fun x δ1 => mB x (SW Z (F δ1)) (SW Z (G δ1))) Z.ex (tc δ)) : SW Z (sIf tc F G δ) := by
  refine sw_bnd (h.mono (fun x δ1 h => ?_) (fun _ _ h => h))
  cases x <;> exact h
theorem sw_ret (h : EW (fun d δ1 => Z.rt (.v d) δ1) Z.ex (a δ)) : SW Z (sRet a δ) := sw_bnd h
theorem sw_retM {M : ME MO} (h : EW (fun d δ1 => Z.rt (.m d) δ1) Z.ex (M δ)) : SW Z (sRetM M δ) := sw_bnd h
theorem sw_drop (h : EW (fun _ δ1 => Z.nx δ1) Z.ex (a δ)) : SW Z (sDrop a δ) := sw_bnd h
theorem sw_set (h : EW (fun d δ1 => canSet n δ1 i = true ∧ Z.nx (δ1.set i (some (.v d)))) Z.ex (a δ)) : SW Z (sSet n i a δ) := by
  refine sw_bnd (h.mono (fun d δ1 h => ?_) (fun _ _ h => h))
  unfold setV
  rw [if_pos h.1]
  exact h.2
theorem sw_asg {t : Tg} (h : EW (fun d δ1 => ∃ δ', t d δ1 = some δ' ∧ Z.nx δ') Z.ex (a δ)) : SW Z (sAsg a t δ) := by
  refine sw_bnd (h.mono (fun d δ1 h => ?_) (fun _ _ h => h))
  obtain ⟨δ', e, h⟩ := h
  rw [e]
  exact h
theorem sw_par {j : Nat} (h : EW (fun ds δ1 => ∃ x y, ds = [x, y] ∧ (canSet n δ1 i && canSet n (δ1.set i (some (.v x))) j) = true ∧ Z.nx ((δ1.set i (some (.v x))).set j (some (.v y)))) Z.ex (A δ)) : SW Z (sPar n i j A δ) := by
  refine sw_bnd (h.mono (fun ds δ1 h => ?_) (fun _ _ h => h))
  obtain ⟨x, y, e, c, h⟩ := h
  subst e
  dsimp only
  rw [if_pos c]
  exact h
theorem sw_for {I : ME (List D)} {t : Tg} (h : EW (fun ds δ1 => SW Z (forL t F ds δ1)) Z.ex (I δ)) : SW Z (sFor I t F δ) := sw_bnd h
/-- a loop by an invariant -/
theorem sw_forL {t : Tg} {B : MS} (I : Ds → Prop) : ∀ (ds : List D), (∀ d ∈ ds, ∀ δ, I δ → ∃ δ1, t d δ = some δ1 ∧ SW { nx := I, rt := Z.rt, bk := I, ct := I, ex := Z.ex } (B δ1)) → ∀ δ, I δ → (∀ δ, I δ → Z.nx δ) → SW Z (forL t B ds δ)
  | [], _, δ, h, k => k δ h
  | d :: ds, hB, δ, h, k => by
    unfold forL
    obtain ⟨δ1, e1, h1⟩ := hB d List.mem_cons_self δ h
    rw [e1]
    dsimp only
    have ih := sw_forL I ds (fun d hd => hB d (List.mem_cons_of_mem _ hd))
    cases e : B δ1 <;> rw [e] at h1
    · exact ih _ h1 k
    · exact h1
    · exact k _ h1
    · exact ih _ h1 k
    · exact h1
    · exact h1
theorem fw_body {N : Nat} {Q : S → List S → Prop} {E : Exc → List S → Prop} {ss : List S} (h : SW { nx := fun δ => Q (.v .non) (outs n δ), rt := fun s δ => Q s (outs n δ), bk := fun _ => False, ct := fun _ => False, ex := fun x δ => E x (outs n δ) } (F (ss.map some ++ List.replicate (N - n) none))) : FW Q E (runBody n N F ss) := by
  unfold runBody
  cases e : F (ss.map some ++ List.replicate (N - n) none) <;> rw [e] at h <;> exact h
theorem fw_ok {Q : S → List S → Prop} {E : Exc → List S → Prop} {s : S} {ss : List S} {o : FOut} (e : o = .ok s ss) (h : Q s ss) : FW Q E o := by rw [e]; exact h
theorem fw_get {Q : S → List S → Prop} {o : FOut} (h : FW Q (fun _ _ => False) o) : ∃ s ss, o = .ok s ss ∧ Q s ss := by
  cases o with
  | ok s ss => exact ⟨s, ss, rfl, h⟩
  | ex x ss => exact h.elim
  | bad => exact h.elim
end
/-- a comprehension that answers true at each item -/
theorem lc_true {i : Nat} {te : ME D} (I : Ds → Prop) : ∀ (ds acc : List D), (∀ d ∈ ds, ∀ δ, I δ → ∃ δ2, te (δ.set i (some (.v d))) = .ok (.bl true) δ2 ∧ I (δ2.set i none)) → ds.length + acc.length < 1000 → (∀ x ∈ acc, x = D.bl true) →
    ∀ δ, I δ → ∃ acc' δ', lcL (.one i) tYesD te ds acc δ = .ok acc' δ' ∧ I δ' ∧ ∀ x ∈ acc', x = D.bl true
  | [], acc, _, _, ha, δ, h => ⟨acc, δ, rfl, h, ha⟩
  | d :: ds, acc, hB, hl, ha, δ, h => by
    obtain ⟨δ2, e, h2⟩ := hB d List.mem_cons_self δ h
    have hz : szOk (acc.length + 1) = true := by
      unfold szOk
      simp only [List.length_cons] at hl
      exact decide_eq_true (by omega)
    obtain ⟨acc', δ', r, hI, hA⟩ := lc_true I ds (acc ++ [.bl true]) (fun d hd => hB d (List.mem_cons_of_mem _ hd)) (by simp only [List.length_cons, List.length_append, List.length_nil] at hl ⊢; omega)
      (fun x hx => by
        rcases List.mem_append.mp hx with z | z
        · exact ha x z
        · simpa using z) _ h2
    refine ⟨acc', δ', ?_, hI, hA⟩
    unfold lcL
    simp only [ctD, tYesD, rtn]
    rw [e]
    dsimp only
    rw [if_pos hz]
    exact r
theorem bls_true : ∀ {acc : List D}, (∀ x ∈ acc, x = D.bl true) → fAll [.lst acc] = some (.bl true)
  | acc, h => by
    have : ∀ acc : List D, (∀ x ∈ acc, x = D.bl true) → ∃ bs, asBls acc = some bs ∧ bs.all id = true := by
      intro acc
      induction acc with
      | nil => exact fun _ => ⟨[], rfl, rfl⟩
      | cons x r ih =>
        intro h
        obtain ⟨bs, e1, e2⟩ := ih fun y hy => h y (List.mem_cons_of_mem _ hy)
        have := h x List.mem_cons_self
        subst this
        exact ⟨true :: bs, by unfold asBls; rw [e1]; rfl, by simp [e2]⟩
    obtain ⟨bs, e1, e2⟩ := this acc h
    show (asBls acc).map (fun bs => D.bl (bs.all id)) = _
    rw [e1, Option.map_some, e2]
/-- numbers -/
theorem fit_lt {i : Int} (h : -(2 : Int) ^ 100 < i) (h2 : i < (2 : Int) ^ 100) : fit i = true := letI : TbL := ⟨[]⟩; fit_of (k := 100) (by
  have e : (2 : Int) ^ 100 = ((2 ^ 100 : Nat) : Int) := by norm_cast
  rw [e] at h h2
  omega)
theorem opMul_ok {i j : Int} (h : fit i = true) (h2 : fit j = true) : opMul (.int i) (.int j) = some (.int (i * j)) := by
  unfold opMul
  dsimp only
  rw [h, h2]
  rfl
theorem opDiv_ok {i j : Int} (h : 0 < j) (h2 : fit j = true) : opDiv (.int i) (.int j) = some (.int (i / j)) := by
  unfold opDiv
  dsimp only
  rw [decide_eq_true h, h2]
  rfl
theorem opMod_ok {i j : Int} (h : 0 < j) : opMod (.int i) (.int j) = some (.int (i % j)) := by
  unfold opMod
  dsimp only
  rw [decide_eq_true h]
  rfl
theorem fDm_ok {i j : Int} (h : 0 < j) (h2 : fit j = true) : fDm [.int i, .int j] = some (.tup [.int (i / j), .int (i % j)]) := by
  unfold fDm
  dsimp only
  rw [decide_eq_true h, h2]
  rfl
end DL

set_option Elab.async false
set_option linter.all false
set_option maxRecDepth 100000
set_option maxHeartbeats 4000000
set_option autoImplicit false
/-! texts that are not too long; what is shown of them -/
namespace DL
open L2 PySem G58
/-- a text of at most n signs, all of them signs -/
structure Tx (x : Str) (n : Nat) : Prop where
  len : x.length ≤ n
  ok : ∀ c ∈ x.cps.toList, c < 0x110000
theorem Tx.mono {x : Str} {n m : Nat} (h : Tx x n) (k : n ≤ m) : Tx x m := ⟨Nat.le_trans h.len k, h.ok⟩
theorem Tx.app {x y : Str} {n m : Nat} (h : Tx x n) (k : Tx y m) : Tx (x ++ y) (n + m) := ⟨by rw [Str.length_append]; have := h.len; have := k.len; omega, fun c hc => by
  rw [Str.cps_append, Array.toList_append, List.mem_append] at hc
  exact hc.elim (h.ok c) (k.ok c)⟩
theorem char_ok (c : Char) : c.toNat < 0x110000 := by
  have := c.valid
  unfold UInt32.isValidChar Nat.isValidChar at this
  show c.val.toNat < _
  omega
theorem Tx.of (s : String) : Tx (Str.ofString s) s.toList.length := by
  rw [Str.ofString_eq_toList]
  refine ⟨by simp [Str.length], fun c hc => ?_⟩
  simp only [List.mem_map] at hc
  obtain ⟨y, _, e⟩ := hc
  rw [← e]
  exact char_ok y
theorem Tx.lit {s : String} {n : Nat} (h : s.toList.length ≤ n := by decide) : Tx (Str.ofString s) n := (Tx.of s).mono h
theorem Tx.int {i : Int} {k : Nat} (h0 : 0 ≤ i) (hk : 0 < k) (h : i < 10 ^ k) : Tx (Str.ofString (toString i)) k := ⟨PyProof.Rows.toString_length_le h0 hk h, (Tx.of _).ok⟩
theorem Tx.strOk {x : Str} {n : Nat} (h : Tx x n) : PyData.strOk x = true := by
  unfold PyData.strOk
  rw [← Array.all_toList, List.all_eq_true]
  exact fun c hc => decide_eq_true (h.ok c hc)
theorem reprChar_ok (q c : Nat) (hq : q < 0x110000) (hc : c < 0x110000) : ∀ y ∈ Builtin.Str.reprChar q c, y < 0x110000 := by
  have hx : ∀ w : Nat, ∀ y ∈ (List.replicate (w - ((Nat.toDigits 16 c).map Char.toNat).length) 48 ++ (Nat.toDigits 16 c).map Char.toNat), y < 0x110000 := by
    intro w y hy
    rcases List.mem_append.mp hy with z | z
    · rw [List.eq_of_mem_replicate z]
      decide
    · obtain ⟨d, _, e⟩ := List.mem_map.mp z
      rw [← e]
      exact char_ok d
  unfold Builtin.Str.reprChar
  dsimp only
  repeat' split
  all_goals intro y hy
  all_goals first
    | (rcases List.mem_append.mp hy with z | z
       · simp only [List.mem_cons, List.not_mem_nil, or_false] at z
         omega
       · exact hx _ y z)
    | (simp only [List.mem_cons, List.not_mem_nil, or_false] at hy
       omega)
theorem Tx.repr {x : Str} {n : Nat} (h : Tx x n) : Tx (reprText x) (10 * n + 2) := by
  refine ⟨Nat.le_trans (StrLaws.reprText_len x fun c hc => Nat.lt_trans (h.ok c hc) (by decide)) (by have := h.len; omega), ?_⟩
  unfold reprText
  have q : reprQuote x < 0x110000 := by unfold reprQuote; split <;> decide
  have f : ∀ (l : List Nat) (acc : Array Nat), (∀ c ∈ l, c < 0x110000) → (∀ c ∈ acc.toList, c < 0x110000) → ∀ c ∈ (l.foldl (fun out c => out ++ (Builtin.Str.reprChar (reprQuote x) c).toArray) acc).toList, c < 0x110000 := by
    intro l
    induction l with
    | nil => exact fun acc _ ha => ha
    | cons d l ih =>
      intro acc hl ha
      rw [List.foldl_cons]
      refine ih _ (fun c hc => hl c (List.mem_cons_of_mem _ hc)) fun c hc => ?_
      rw [Array.toList_append, List.mem_append] at hc
      rcases hc with z | z
      · exact ha c z
      · exact reprChar_ok _ _ q (hl d List.mem_cons_self) c z
  intro c hc
  simp only [Array.toList_push, List.mem_append, List.mem_cons, List.not_mem_nil, or_false] at hc
  rcases hc with hc | rfl
  · rw [← Array.foldl_toList] at hc
    refine f _ _ h.ok (fun c hc => ?_) c hc
    simp only [List.mem_cons, List.not_mem_nil, or_false] at hc
    rw [hc]
    exact q
  · exact q
theorem Tx.empty : Tx Str.empty 0 := ⟨Nat.le_refl _, fun c hc => nomatch hc⟩
theorem Tx.from {n : Nat} : ∀ (ts : List Str) (k : Nat) (acc : Str) (m : Nat), (∀ t ∈ ts, Tx t n) → Tx acc m → Tx (textFrom k acc ts) (m + ts.length * (n + 2))
  | [], k, acc, m, _, ha => ha.mono (by omega)
  | t :: ts, k, acc, m, h, ha => by
    have : Tx (acc ++ (if k > 0 then ", " else "" : String) ++ t) (m + 2 + n) := ((ha.app (by split <;> exact Tx.lit)).app (h t List.mem_cons_self))
    refine (Tx.from ts (k + 1) _ _ (fun t ht => h t (List.mem_cons_of_mem _ ht)) this).mono ?_
    simp only [List.length_cons]
    rw [Nat.succ_mul]
    omega
theorem Tx.list {n : Nat} {ts : List Str} (h : ∀ t ∈ ts, Tx t n) : Tx (listText ts) (ts.length * (n + 2) + 2) := by
  unfold listText
  exact ((Tx.from ts 0 _ 1 h Tx.lit).app (Tx.lit (n := 1))).mono (by omega)
theorem Tx.join {n : Nat} : ∀ {ts : List Str}, (∀ t ∈ ts, Tx t n) → Tx (Str.join ", " ts) (ts.length * (n + 2))
  | [], _ => Tx.empty.mono (Nat.zero_le _)
  | [x], h => (h x List.mem_cons_self).mono (by simp only [List.length_cons, List.length_nil]; omega)
  | x :: y :: r, h => by
    have ih := Tx.join (ts := y :: r) fun t ht => h t (List.mem_cons_of_mem _ ht)
    refine (((h x List.mem_cons_self).app (Tx.lit (n := 2))).app ih).mono ?_
    simp only [List.length_cons]
    rw [Nat.succ_mul (r.length + 1)]
    omega
theorem Tx.tuple {n : Nat} {ts : List Str} (h : ∀ t ∈ ts, Tx t n) : Tx (tupleText ts) (ts.length * (n + 2) + 3) := by
  unfold tupleText
  exact (((Tx.lit (n := 1)).app (Tx.join h)).app (m := 2) (by split <;> exact Tx.lit)).mono (by omega)
/-- a value whose text is of at most n signs -/
def Shw (ow : OwT) (d : D) (n : Nat) : Prop := ∃ t, reprT ow d = some t ∧ Tx t n
section
variable {ow : OwT}
theorem Shw.mono {d : D} {n m : Nat} (h : Shw ow d n) (k : n ≤ m) : Shw ow d m := let ⟨t, e, x⟩ := h; ⟨t, e, x.mono k⟩
theorem log_of {i : Int} {k : Nat} (h0 : 0 ≤ i) (h : i < 10 ^ k) (hk : k ≤ 450) : i.natAbs.log2 < 1920 := by
  by_cases z : i.natAbs = 0
  · rw [z]; decide
  · rw [Nat.log2_lt z]
    have a : i.natAbs < 10 ^ k := by
      have : ((10 ^ k : Nat) : Int) = (10 : Int) ^ k := by norm_cast
      omega
    refine Nat.lt_of_lt_of_le a (Nat.le_trans (Nat.pow_le_pow_right (by decide) hk) ?_)
    decide +kernel
theorem shw_int {i : Int} {k : Nat} (h0 : 0 ≤ i) (hk : 0 < k) (h : i < 10 ^ k) (hk2 : k ≤ 450) : Shw ow (.int i) k :=
  ⟨_, by unfold reprT; rw [decide_eq_true (log_of h0 h hk2)]; rfl, Tx.int h0 hk h⟩
theorem shw_non : Shw ow .non 4 := ⟨_, by unfold reprT; rfl, Tx.lit⟩
theorem shw_bl {b : Bool} : Shw ow (.bl b) 5 := ⟨_, by unfold reprT; rfl, by cases b <;> exact Tx.lit⟩
theorem sz_le {n : Nat} (h : n ≤ 16000000) : szOk n = true := decide_eq_true h
theorem shw_str {x : Str} {n : Nat} (h : Tx x n) (hn : n ≤ 100000) : Shw ow (.str x) (10 * n + 2) :=
  ⟨_, by unfold reprT; rw [sz_le (Nat.le_trans h.repr.len (by omega))]; rfl, h.repr⟩
theorem shw_list {n : Nat} : ∀ {ds : List D}, (∀ d ∈ ds, Shw ow d n) → ∃ ts, reprT.reprTs ow ds = some ts ∧ ts.length = ds.length ∧ ∀ t ∈ ts, Tx t n
  | [], _ => ⟨[], by unfold reprT.reprTs; rfl, rfl, fun _ h => nomatch h⟩
  | d :: ds, h => by
    obtain ⟨t, e, x⟩ := h d List.mem_cons_self
    obtain ⟨ts, e2, l, xs⟩ := shw_list (ds := ds) fun d hd => h d (List.mem_cons_of_mem _ hd)
    refine ⟨t :: ts, by unfold reprT.reprTs; rw [e, e2], by simp [l], fun y hy => ?_⟩
    rcases List.mem_cons.mp hy with rfl | hy
    · exact x
    · exact xs y hy
theorem shw_lst {n m : Nat} {ds : List D} (h : ∀ d ∈ ds, Shw ow d n) (hm : ds.length * (n + 2) + 2 ≤ m) (hz : m ≤ 16000000) : Shw ow (.lst ds) m := by
  obtain ⟨ts, e, l, xs⟩ := shw_list h
  have x := Tx.list xs
  rw [l] at x
  exact ⟨_, by unfold reprT; rw [e]; show (if szOk (listText ts).length = true then _ else _) = _; rw [if_pos (sz_le (Nat.le_trans x.len (by omega)))], x.mono hm⟩
theorem shw_tup {n m : Nat} {ds : List D} (h : ∀ d ∈ ds, Shw ow d n) (hm : ds.length * (n + 2) + 3 ≤ m) (hz : m ≤ 16000000) : Shw ow (.tup ds) m := by
  obtain ⟨ts, e, l, xs⟩ := shw_list h
  have x := Tx.tuple xs
  rw [l] at x
  exact ⟨_, by unfold reprT; rw [e]; show (if szOk (tupleText ts).length = true then _ else _) = _; rw [if_pos (sz_le (Nat.le_trans x.len (by omega)))], x.mono hm⟩
theorem Shw.fn {d : D} {n : Nat} (h : Shw ow d n) (hd : dep d ≤ 8) : ∃ t, fReprX ow [d] = .ok (.str t) ∧ reprT ow d = some t ∧ Tx t n := by
  obtain ⟨t, e, x⟩ := h
  exact ⟨t, by show (if dep d ≤ 8 then _ else _) = _; rw [if_pos hd, e]; rfl, e, x⟩
/-- equal lists of texts -/
theorem eq_refl {d : D} {p : PyData} (h : toPy d = some p) (hs : SeqAt.shaped p = true) (h1 : ∀ i, d ≠ .int i) (h2 : ∀ x, d ≠ .str x) : opEq d d = some (.bl true) := by
  have e : eqD d d = some true := by
    unfold eqD
    rw [h]
    dsimp only
    rw [hs]
    show some (PyData.eqv p p) = some true
    rw [SeqAt.eqv_refl p (SeqAt.canLay_of_shaped hs)]
  unfold opEq
  split
  · rename_i i j
    exact absurd rfl (h1 _)
  · exact absurd rfl (h2 _)
  · rw [e]
    rfl
theorem sz_app {x y : Str} {n m : Nat} (h : Tx x n) (k : Tx y m) (hz : n + m ≤ 16000000) : szOk (x.length + y.length) = true := by
  have := h.len
  have := k.len
  exact sz_le (by omega)
theorem opAdd_str {x y : Str} {n m : Nat} (h : Tx x n) (k : Tx y m) (hz : n + m ≤ 16000000) : opAdd (.str x) (.str y) = some (.str (x ++ y)) := by
  show (if szOk (x.length + y.length) = true then _ else _) = _
  rw [if_pos (sz_app h k hz)]
theorem ownV_of {m c : Str} {d r : D} {F : FnD} {ss : List S} (h1 : clsD d = some c) (h2 : owAt c m ow = some (1, F)) (h3 : F [.v d] = .ok (.v r) ss) : ownV ow m d = some r := by
  unfold ownV
  simp only [h1, h2, h3]
end
end DL

set_option Elab.async false
set_option linter.all false
set_option maxRecDepth 100000
set_option maxHeartbeats 4000000
set_option autoImplicit false
/-! more rules: lambdas, own things, errors, texts -/
namespace DL
open L2 PySem G58
section
variable {Q : D → Ds → Prop} {E : Exc → Ds → Prop} {QM : MO → Ds → Prop} {δ : Ds} {a b O : ME D} {A : ME (List D)} {d : D} {i j n N : Nat} {fd : FnD} {cl c : Str} {Z : SE} {F : MS}
theorem ew_act {L : LO} (h : match L with | .ok d => Q d δ | .ex x => E x δ | .bad => False) : EW Q E (actD L δ) := by
  cases L <;> exact h
theorem ew_actO {d : D} (h : Q d δ) : EW Q E (actD (.ok d) δ) := h
theorem ew_actX {x : Exc} (h : E x δ) : EW Q E (actD (.ex x) δ) := h
/-- what a comparison or a built-in function comes to -/
def lo1 (L : LO) (P : D → Prop) : Prop := ∃ z, L = .ok z ∧ P z
theorem lo_of {L : LO} {P : D → Prop} {z : D} (e : L = .ok z) (h : P z) : lo1 L P := ⟨z, e, h⟩
theorem lo_eq {f : D → D → LO} {P : D → Prop} {z x y x' y' : D} (ex : x = x') (ey : y = y') (e : f x' y' = .ok z) (h : P z) : lo1 (f x y) P := ⟨z, by rw [ex, ey]; exact e, h⟩
/-- a list times an int -/
def mu1 (o : Option D) (P : D → Prop) : Prop := ∃ z, o = some z ∧ P z
theorem mu_of {o : Option D} {P : D → Prop} {z : D} (e : o = some z) (h : P z) : mu1 o P := ⟨z, e, h⟩
theorem ew_mulX (h : EW (fun x δ1 => EW (fun y δ2 => mu1 (opMulX x y) fun z => Q z δ2) E (b δ1)) E (a δ)) : EW Q E (eBin opMulX a b δ) := ew_bin h
theorem mul_rep {x : D} {n : Int} {k : Nat} (e : n = k) (hk : k ≤ 1000) : opMulX (.lst [x]) (.int n) = some (.lst (List.replicate k x)) := by
  have f : (List.replicate k [x]).flatten = List.replicate k x := by
    clear e hk
    induction k with
    | zero => rfl
    | succ k ih => rw [List.replicate_succ, List.flatten_cons, ih]; rfl
  subst e
  show (if _ then _ else _) = _
  rw [if_pos ?_]
  · show some (D.lst (List.replicate k [x]).flatten) = _
    rw [f]
  · simp only [Bool.and_eq_true, decide_eq_true_eq]
    refine ⟨⟨by omega, by omega⟩, sz_le ?_⟩
    simp only [List.length_cons, List.length_nil]
    omega
theorem ew_CL {f : List D → LO} (h : EW (fun xs δ1 => lo1 (f xs) fun z => Q z δ1) E (A δ)) : EW Q E (eCL f A δ) :=
  ew_bnd (h.mono (fun xs δ1 h => let ⟨z, e, q⟩ := h; ew_act (by rw [e]; exact q)) (fun _ _ h => h))
theorem ew_BL {f : D → D → LO} (h : EW (fun x δ1 => EW (fun y δ2 => lo1 (f x y) fun z => Q z δ2) E (b δ1)) E (a δ)) : EW Q E (eBinL f a b δ) :=
  ew_bnd (h.mono (fun x δ1 h => ew_bnd (h.mono (fun xs δ1 h => let ⟨z, e, q⟩ := h; ew_act (by rw [e]; exact q)) (fun _ _ h => h))) (fun _ _ h => h))
theorem ew_lam {B : LO → MS} (h : EW (fun d _ => FW (fun s _ => ∃ d, s = .v d ∧ Q d δ) (fun x _ => E x δ) (runBody 1 N (B (.ok d)) [.v .opq])) (fun x _ => FW (fun s _ => ∃ d, s = .v d ∧ Q d δ) (fun x _ => E x δ) (runBody 1 N (B (.ex x)) [.v .opq])) (a (hideM δ))) : EW Q E (eLam B N a δ) := by
  have g : ∀ o : FOut, FW (fun s _ => ∃ d, s = .v d ∧ Q d δ) (fun x _ => E x δ) o → EW Q E (match o with | .ok (.v d) _ => .ok d δ | .ex x _ => .ex x δ | _ => .bad) := by
    intro o h
    cases o with
    | ok s ss =>
      obtain ⟨d, e, q⟩ := h
      subst e
      exact q
    | ex x ss => exact h
    | bad => exact h
  unfold eLam
  cases e : a (hideM δ) with
  | ok d δ1 => rw [e] at h; exact g _ h
  | ex x δ1 => rw [e] at h; exact g _ h
  | bad => rw [e] at h; exact h.elim
theorem ew_append {ds : List D} (e : δ[i]? = some (some (.m (.lst ds)))) (h : EW (fun x δ1 => ∃ ds', δ1[i]? = some (some (.m (.lst ds'))) ∧ szOk (ds'.length + 1) = true ∧ Q .non (δ1.set i (some (.m (.lst (ds' ++ [x])))))) E (a δ)) : EW Q E (eAppend i a δ) := by
  unfold eAppend
  have : isML i δ = true := by unfold isML; rw [e]
  rw [if_pos this]
  refine ew_bnd (h.mono (fun x δ1 h => ?_) (fun _ _ h => h))
  obtain ⟨ds', e1, e2, q⟩ := h
  unfold appD
  rw [e1]
  dsimp only
  rw [if_pos e2]
  exact q
theorem ew_callv {ds : List D} (hl : (decide ((ds.map AV.v).length = n) && nodupB (refsOf (ds.map AV.v))) = true) (hg : getArgs δ (ds.map AV.v) = some (ds.map S.v)) (hp : ∀ ss, putArgs δ (ds.map AV.v) ss = some δ) (h : FW (fun s _ => ∃ d, s = .v d ∧ Q d δ) (fun x _ => E x δ) (fd (ds.map .v))) : EW Q E (callD n fd (ds.map .v) δ) := by
  unfold callD
  rw [hg]
  dsimp only
  rw [if_pos hl]
  cases e : fd (ds.map S.v) with
  | ok s ss' =>
    rw [e] at h
    obtain ⟨d, e3, q⟩ := h
    subst e3
    dsimp only
    rw [hp]
    exact q
  | ex x ss' =>
    rw [e] at h
    dsimp only
    rw [hp]
    exact h
  | bad => rw [e] at h; exact h
theorem vargs : ∀ (ds : List D), getArgs δ (ds.map AV.v) = some (ds.map S.v) ∧ refsOf (ds.map AV.v) = [] ∧ ∀ ss, putArgs δ (ds.map AV.v) ss = some δ
  | [] => ⟨rfl, rfl, fun _ => rfl⟩
  | d :: ds => by
    obtain ⟨h1, h2, h3⟩ := vargs ds
    refine ⟨?_, h2, fun ss => h3 _⟩
    show (match getA δ (.v d), getArgs δ (ds.map AV.v) with | some s, some ss => some (s :: ss) | _, _ => none) = _
    rw [h1]
    rfl
theorem ew_callV {ds : List D} (hl : ds.length = n) (h : FW (fun s _ => ∃ d, s = .v d ∧ Q d δ) (fun x _ => E x δ) (fd (ds.map .v))) : EW Q E (callV n fd ds δ) := by
  obtain ⟨h1, h2, h3⟩ := vargs (δ := δ) ds
  exact ew_callv (by rw [h2, List.length_map, hl]; simp [nodupB]) h1 h3 h
theorem ew_propS (h : EW (fun o δ1 => isS cl o = true ∧ ∃ d ss, fd [.v o] = .ok (.v d) ss ∧ Q d δ1) E (O δ)) : EW Q E (ePropS cl fd O δ) := by
  refine ew_bnd (h.mono (fun o δ1 h => ?_) (fun _ _ h => h))
  obtain ⟨h1, d, ss, e, q⟩ := h
  rw [if_pos h1]
  obtain ⟨v1, v2, v3⟩ := vargs (δ := δ1) [o]
  have : callD 1 fd [.v o] δ1 = .ok d δ1 := by
    unfold callD
    rw [show getArgs δ1 [.v o] = some [.v o] from v1]
    dsimp only
    rw [e]
    rfl
  unfold callD0
  rw [this]
  exact q
theorem ew_mk {sl : Bool} {xs : List D} (hl : decide (xs.length + 1 = n) = true) (h : FW (fun s ss => s = .v .non ∧ ∃ o r d, ss = .m o :: r ∧ frzO o = some d ∧ Q d δ) (fun x _ => E x δ) (fd (.m (new0 sl c) :: xs.map .v))) : EW Q E (mkX sl c n fd xs δ) := by
  unfold mkX
  rw [if_pos hl]
  cases e : fd (.m (new0 sl c) :: xs.map .v) with
  | ok s ss' =>
    rw [e] at h
    obtain ⟨e1, o, r, d, e2, e3, q⟩ := h
    subst e1 e2
    dsimp only
    rw [e3]
    exact q
  | ex x ss' => rw [e] at h; exact h
  | bad => rw [e] at h; exact h
theorem ew_mkX {sl : Bool} {dv : List D} (h : EW (fun xs δ1 => EW Q E (mkX sl c n fd (xs ++ dv) δ1)) E (A δ)) : EW Q E (eMakeX sl c n fd A dv δ) := ew_bnd h
theorem ew_mkK {sl : Bool} {m : Nat} {js : List (Nat ⊕ Nat)} {dv : List D} (h : EW (fun xs δ1 => xs.length = m ∧ EW Q E (mkX sl c n fd (pkL js (D.non :: xs) dv) δ1)) E (A δ)) : EW Q E (eMakeK m sl c n fd js dv A δ) :=
  ew_bnd (h.mono (fun xs δ1 h => by rw [if_pos h.1]; exact h.2) (fun _ _ h => h))
theorem ew_callK {m : Nat} {js : List (Nat ⊕ Nat)} {dv : List D} (h : EW (fun xs δ1 => xs.length = m ∧ EW Q E (callV n fd (pkL js xs dv) δ1)) E (A δ)) : EW Q E (eCallK m n fd js dv A δ) :=
  ew_bnd (h.mono (fun xs δ1 h => by rw [if_pos h.1]; exact h.2) (fun _ _ h => h))
theorem ew_Xf {xs : List Str} {f : Str} (h : EW (fun x δ1 => ∃ z, getX xs f x = some z ∧ Q z δ1) E (a δ)) : EW Q E (eXf xs f a δ) :=
  ew_bnd (h.mono (fun xs _ h => ew_opt h) (fun _ _ h => h))
theorem ew_fmt (h : EW (fun x δ1 => ∃ z, fmtD x = some z ∧ Q (.str z) δ1) E (a δ)) : EW Q E (eFmt a δ) :=
  ew_bnd (h.mono (fun xs _ h => let ⟨z, e, q⟩ := h; ew_opt ⟨_, by rw [e]; rfl, q⟩) (fun _ _ h => h))
theorem ew_join0 {acc : Str} (h : Q (.str acc) δ) : EW Q E (joinD [] acc δ) := h
theorem ew_join {acc : Str} {r : List (ME D)} (h : EW (fun x δ1 => ∃ z, x = .str z ∧ szOk (acc.length + z.length) = true ∧ EW Q E (joinD r (acc ++ z) δ1)) E (a δ)) : EW Q E (joinD (a :: r) acc δ) := by
  refine ew_bnd (h.mono (fun x δ1 h => ?_) (fun _ _ h => h))
  obtain ⟨z, e1, e2, q⟩ := h
  subst e1
  dsimp only
  rw [if_pos e2]
  exact q
theorem sw_setM {M : ME MO} (h : EW (fun o δ1 => (decide (n ≤ i) && canSet n δ1 i) = true ∧ Z.nx (δ1.set i (some (.m o)))) Z.ex (M δ)) : SW Z (sSetM n i M δ) := by
  refine sw_bnd (h.mono (fun d δ1 h => ?_) (fun _ _ h => h))
  rw [if_pos h.1]
  exact h.2
theorem sw_frz {δ' : Ds} (e : frzD n i δ = some δ') (h : SW Z (F δ')) : SW Z (sFrz n i F δ) := by
  unfold sFrz
  rw [e]
  exact h
theorem sw_setSl (h : EW (fun d δ1 => ∃ vs, δ1[i]? = some (some (.m (.slt c vs))) ∧ Z.nx (δ1.set i (some (.m (.slt c (putSD j d vs)))))) Z.ex (a δ)) : SW Z (sSetSl i c j a δ) := by
  refine sw_bnd (h.mono (fun d δ1 h => ?_) (fun _ _ h => h))
  obtain ⟨vs, e, q⟩ := h
  rw [e]
  dsimp only
  rw [if_pos rfl]
  exact q
theorem sw_raise {js : List (Str × Nat)} (h : EW (fun ds δ1 => (decide (ds.length + 1 = n) && decide (n ≤ 900)) = true ∧ ∃ fs, addD ds js [] = some fs ∧ Z.ex ⟨c, fs⟩ δ1) Z.ex (A δ)) : SW Z (sRaise c js n A δ) := by
  refine sw_bnd (h.mono (fun d δ1 h => ?_) (fun _ _ h => h))
  obtain ⟨e1, fs, e2, q⟩ := h
  rw [if_pos e1, e2]
  exact q
theorem sw_try {xt : XT} {hs : List (Str × Option Nat × MS)} (h : SW (Z.wex fun x δ1 => SW Z (tryH xt hs x δ1)) (F δ)) : SW Z (sTry xt F hs δ) := by
  unfold sTry
  cases e : F δ <;> rw [e] at h <;> exact h
abbrev clrE (i : Nat) (Z : SE) : SE := { nx := fun δ => notM δ i = true ∧ Z.nx (δ.set i none), rt := Z.rt, bk := fun δ => notM δ i = true ∧ Z.bk (δ.set i none), ct := fun δ => notM δ i = true ∧ Z.ct (δ.set i none), ex := fun _ _ => False }
theorem sw_tryT {xt : XT} {h : Str} {r : List (Str × Option Nat × MS)} {x : Exc} {δ' : Ds} (e : xtAt x.c h xt = some true) (p : putX (some i) (.exc x.c x.fs) δ = some δ') (k : SW (clrE i Z) (F δ')) : SW Z (tryH xt ((h, some i, F) :: r) x δ) := by
  unfold tryH
  rw [e]
  dsimp only
  rw [p]
  dsimp only
  cases q : F δ' <;> rw [q] at k
  · show SW Z (if _ then _ else _)
    rw [if_pos k.1]
    exact k.2
  · exact k
  · show SW Z (if _ then _ else _)
    rw [if_pos k.1]
    exact k.2
  · show SW Z (if _ then _ else _)
    rw [if_pos k.1]
    exact k.2
  · exact k.elim
  · exact k.elim
theorem sw_tryF {xt : XT} {h : Str} {io : Option Nat} {r : List (Str × Option Nat × MS)} {x : Exc} (e : xtAt x.c h xt = some false) (k : SW Z (tryH xt r x δ)) : SW Z (tryH xt ((h, io, F) :: r) x δ) := by
  unfold tryH
  rw [e]
  exact k
theorem sw_for0 {t : Tg} (h : Z.nx δ) : SW Z (forL t F [] δ) := h
theorem sw_for1 {t : Tg} {ds : List D} {δ1 : Ds} (e : t d δ = some δ1) (h : SW { nx := fun δ2 => SW Z (forL t F ds δ2), rt := Z.rt, bk := Z.nx, ct := fun δ2 => SW Z (forL t F ds δ2), ex := Z.ex } (F δ1)) : SW Z (forL t F (d :: ds) δ) := by
  unfold forL
  rw [e]
  dsimp only
  cases q : F δ1 <;> rw [q] at h <;> exact h
theorem sw_forE0 {t : Tg} {ds : List D} (e0 : ds = []) (h : Z.nx δ) : SW Z (forL t F ds δ) := by
  subst e0
  exact h
theorem sw_forE {t : Tg} {r ds : List D} {δ1 : Ds} (e0 : ds = d :: r) (e : t d δ = some δ1) (h : SW { nx := fun δ2 => SW Z (forL t F r δ2), rt := Z.rt, bk := Z.nx, ct := fun δ2 => SW Z (forL t F r δ2), ex := Z.ex } (F δ1)) : SW Z (forL t F ds δ) := by
  subst e0
  exact sw_for1 e h
theorem FW.mono {Q Q' : S → List S → Prop} {E E' : Exc → List S → Prop} {o : FOut} (h : FW Q E o) (q : ∀ a δ, Q a δ → Q' a δ) (e : ∀ x δ, E x δ → E' x δ) : FW Q' E' o := by
  cases o with
  | ok a δ => exact q _ _ h
  | ex x δ => exact e _ _ h
  | bad => exact h
end
/-! side goals -/
section
variable {α β : Sort _}
theorem wx1 {f : α → β} {x : β} {z : α} {P : α → Prop} (e : x = f z) (h : P z) : ∃ z, x = f z ∧ P z := ⟨z, e, h⟩
theorem wx2 {f : α → β} {x y : β} {z : α} {C : α → Prop} {P : α → Prop} (e : x = f z) (c : C z) (h : P z) : ∃ z, x = f z ∧ C z ∧ P z := ⟨z, e, c, h⟩
theorem wxa {x y : α} {P : Prop} (e : x = y) (h : P) : x = y ∧ P := ⟨e, h⟩
end
theorem wxc {δ : Ds} {xs : List AV} {ss : List S} {c : Bool} {P : List S → Prop} (e : getArgs δ xs = some ss) (k : c = true) (h : P ss) : ∃ ss, getArgs δ xs = some ss ∧ c = true ∧ P ss := ⟨ss, e, k, h⟩
theorem wxr {α : Type} {f : α → S} {s : S} {δ δ' : Ds} {xs : List AV} {ss : List S} {d : α} {Q : α → Ds → Prop} (e : s = f d) (p : putArgs δ xs ss = some δ') (h : Q d δ') : ∃ d δ', s = f d ∧ putArgs δ xs ss = some δ' ∧ Q d δ' := ⟨d, δ', e, p, h⟩
theorem wxi {x : D} {δ : Ds} {i : Nat} {k : Int} {ds : List D} {z : D} {Q : D → Prop} (e : x = .int k) (p : δ[i]? = some (some (.m (.lst ds)))) (r : atI ds k = some z) (h : Q z) : ∃ k ds' z, x = .int k ∧ δ[i]? = some (some (.m (.lst ds'))) ∧ atI ds' k = some z ∧ Q z := ⟨k, ds, z, e, p, r, h⟩
theorem wxp {ds : List D} {x y : D} {c : D → Bool} {P : D → D → Prop} (e : ds = [x, y]) (k : c x = true) (h : P x y) : ∃ x y, ds = [x, y] ∧ c x = true ∧ P x y := ⟨x, y, e, k, h⟩
theorem wxm {δ : Ds} {i : Nat} {ds : List D} {c : List D → Bool} {P : List D → Prop} (e : δ[i]? = some (some (.m (.lst ds)))) (k : c ds = true) (h : P ds) : ∃ ds', δ[i]? = some (some (.m (.lst ds'))) ∧ c ds' = true ∧ P ds' := ⟨ds, e, k, h⟩
theorem wxs {x : D} {z : Str} {c : Str → Bool} {P : Str → Prop} (e : x = .str z) (k : c z = true) (h : P z) : ∃ z, x = .str z ∧ c z = true ∧ P z := ⟨z, e, k, h⟩
theorem wxo {s : S} {ss : List S} {o : MO} {r : List S} {d : D} {Q : D → Prop} (e : s = .v .non) (e2 : ss = .m o :: r) (e3 : frzO o = some d) (h : Q d) : s = .v .non ∧ ∃ o r d, ss = .m o :: r ∧ frzO o = some d ∧ Q d := ⟨e, o, r, d, e2, e3, h⟩
theorem wmt {b : Bool} {A B : Prop} (e : b = true) (h : A) : mB b A B := by
  subst e
  exact h
theorem wmf {b : Bool} {A B : Prop} (e : b = false) (h : B) : mB b A B := by
  subst e
  exact h
end DL

set_option Elab.async false
set_option linter.all false
set_option maxRecDepth 100000
set_option maxHeartbeats 4000000
set_option autoImplicit false
/-! what the plain laws share -/
namespace DL
open L2 PySem G58
theorem fw_eq {s : S} {ss : List S} {o : FOut} (h : FW (fun s' ss' => s' = s ∧ ss' = ss) (fun _ _ => False) o) : o = .ok s ss := by
  obtain ⟨_, _, e, rfl, rfl⟩ := fw_get h
  exact e
theorem fw_ex {x : Exc} {ss : List S} {o : FOut} (h : FW (fun _ _ => False) (fun x' ss' => x' = x ∧ ss' = ss) o) : o = .ex x ss := by
  cases o with
  | ok s ss => exact h.elim
  | ex x ss => rw [h.1, h.2]
  | bad => exact h.elim
theorem fw_ex' {Q : S → List S → Prop} {E : Exc → List S → Prop} {x : Exc} {ss : List S} {o : FOut} (e : o = .ex x ss) (h : E x ss) : FW Q E o := by rw [e]; exact h
theorem ew_get {α : Type} {Q : α → Ds → Prop} {o : Out α} (h : EW Q (fun _ _ => False) o) : ∃ a δ, o = .ok a δ ∧ Q a δ := by
  cases o with
  | ok a δ => exact ⟨a, δ, rfl, h⟩
  | ex x δ => exact h.elim
  | bad => exact h.elim
/-- a number that is a count, of at most 80 digits -/
structure Cn (n : Int) : Prop where
  z : 0 ≤ n
  t : n < 10 ^ 80
abbrev tI (n : Int) : Str := Str.ofString (toString n)
theorem Cn.tx {n : Int} (h : Cn n) : Tx (tI n) 80 := Tx.int h.z (by decide) h.t
theorem Cn.fmt {n : Int} (h : Cn n) : fmtD (.int n) = some (tI n) := by
  show (if decide (n.natAbs.log2 < 1920) = true then _ else _) = _
  rw [if_pos (decide_eq_true (log_of h.z h.t (by decide)))]
theorem Cn.str {ow : OwT} {n : Int} (h : Cn n) : fStrX ow [.int n] = .ok (.str (tI n)) := by
  show loD (if decide (n.natAbs.log2 < 1920) = true then _ else _) = _
  rw [if_pos (decide_eq_true (log_of h.z h.t (by decide)))]
  rfl
theorem Cn.shw {ow : OwT} {n : Int} (h : Cn n) : Shw ow (.int n) 80 := shw_int h.z (by decide) h.t (by decide)
theorem Shw.lit {ow : OwT} {x : String} {n : Nat} (h : 10 * x.toList.length + 2 ≤ n) (hn : n ≤ 1000) : Shw ow (.str (Str.ofString x)) n := (shw_str (Tx.of x) (by omega)).mono h
theorem shw_dec {ow : OwT} {d : D} {n : Nat} (h : (match reprT ow d with | some t => decide (t.length ≤ n) && PyData.strOk t | none => false) = true) : Shw ow d n := by
  cases e : reprT ow d with
  | none => rw [e] at h; cases h
  | some t =>
    rw [e] at h
    dsimp only at h
    rw [Bool.and_eq_true] at h
    refine ⟨t, e, of_decide_eq_true h.1, fun c hc => ?_⟩
    have h2 := h.2
    unfold PyData.strOk at h2
    rw [← Array.all_toList, List.all_eq_true] at h2
    exact of_decide_eq_true (h2 c hc)
/-- a slot that may be stored anew -/
def Fr (s : Option S) : Prop := s = none ∨ ∃ d, s = some (.v d) ∧ d ≠ .opq
theorem fr_can {n i : Nat} {δ : Ds} {s : Option S} (h : δ[i]? = some s) (f : Fr s) : canSet n δ i = true := by
  unfold canSet
  rw [h]
  rcases f with rfl | ⟨d, rfl, k⟩
  · rfl
  · cases d <;> first | rfl | exact absurd rfl k
theorem fr_not {i : Nat} {δ : Ds} {s : Option S} (h : δ[i]? = some s) (f : Fr s) : DL.notM δ i = true := by
  unfold DL.notM
  rw [h]
  rcases f with rfl | ⟨d, rfl, k⟩
  · rfl
  · cases d <;> first | rfl | exact absurd rfl k
theorem rg_mem {lo hi : Int} {d : D} (h : d ∈ rgD lo hi) : ∃ i : Int, d = .int i ∧ lo ≤ i ∧ i < hi := by
  obtain ⟨i, hi, rfl⟩ := List.mem_map.mp h
  rw [List.mem_range] at hi
  exact ⟨_, rfl, by omega, by omega⟩
theorem rg1_ok {j : Int} (h : -1000000 ≤ j) (k : j ≤ 1000000) : asRg1 [.int j] = some (rgD 0 j) :=
  if_pos (by rw [decide_eq_true k, decide_eq_true h]; rfl)
/-! the head of a text -/
theorem st_app {p r y : Str} (h : y.length ≤ p.length) : Txt.startswith (p ++ r) y = Txt.startswith p y := by
  unfold Txt.startswith
  rw [StrLaws.subAt_eq, StrLaws.subAt_eq]
  have e : ((p ++ r).cps.toList.drop 0).take y.length = (p.cps.toList.drop 0).take y.length := by
    rw [List.drop_zero, List.drop_zero, Str.cps_append, Array.toList_append, List.take_append_of_le_length]
    rw [Array.length_toList]
    exact h
  rw [e, decide_eq_true (show 0 + y.length ≤ (p ++ r).length by rw [Str.length_append]; omega), decide_eq_true (show 0 + y.length ≤ p.length by omega)]
theorem from_app : ∀ (ts : List Str) (k : Nat) (acc : Str), ∃ r, textFrom k acc ts = acc ++ r
  | [], k, acc => ⟨Str.empty, (Str.append_empty acc).symm⟩
  | t :: ts, k, acc => by
    obtain ⟨r, e⟩ := from_app ts (k + 1) (acc ++ (if k > 0 then ", " else "" : String) ++ t)
    refine ⟨(if k > 0 then ", " else "" : String) ++ t ++ r, ?_⟩
    show textFrom (k + 1) _ ts = _
    rw [e]
    simp only [Str.append_assoc]
theorem rp_back {ow : OwT} {d : D} {t : Str} (h : fReprX ow [d] = .ok (.str t)) : reprT ow d = some t := by
  have h : (if dep d ≤ 8 then loD ((reprT ow d).map .str) else .bad) = .ok (.str t) := h
  split at h
  · cases e : reprT ow d with
    | none => rw [e] at h; cases h
    | some x => rw [e] at h; cases h; rfl
  · cases h
theorem rp_head {ow : OwT} {x t : Str} {ds : List D} (h : reprT ow (.lst (.str x :: ds)) = some t) : ∃ r, t = (("[" : Str) ++ "" ++ reprText x) ++ r := by
  unfold reprT at h
  obtain ⟨ts, e, h⟩ := Option.bind_eq_some_iff.mp h
  split at h
  · cases h
    unfold reprT.reprTs at e
    split at e
    · rename_i y ys e1 e2
      cases e
      unfold reprT at e1
      split at e1
      · cases e1
        obtain ⟨r, er⟩ := from_app ys 1 (("[" : Str) ++ "" ++ reprText x)
        refine ⟨r ++ "]", ?_⟩
        show textFrom 1 (("[" : Str) ++ "" ++ reprText x) ys ++ "]" = _
        rw [er, Str.append_assoc]
      · cases e1
    · cases e
  · cases h
theorem st_no {ow : OwT} {x t y : Str} {ds : List D} (h : fReprX ow [.lst (.str x :: ds)] = .ok (.str t)) (hl : y.length ≤ (("[" : Str) ++ "" ++ reprText x).length) (hs : Txt.startswith (("[" : Str) ++ "" ++ reprText x) y = false) : Txt.startswith t y = false := by
  obtain ⟨r, e⟩ := rp_head (rp_back h)
  rw [e, st_app hl, hs]
/-- the comprehension over the cells of a script -/
theorem ew_cells {Q : D → Ds → Prop} {E : Exc → Ds → Prop} {ns : List Int} {rd rr : FnD} {K : Int} (hK : K ≤ 500)
    (h : ∀ k : Int, 0 ≤ k → k < 500 → ∃ o ss ss2, rr [.v (.fl (ns.map D.int)), .v (.int k)] = .ok (.m o) ss ∧ rd [.m o] = .ok (.v (.bl true)) ss2)
    (q : ∀ acc, fAll [.lst acc] = some (.bl true) → Q (.lst acc) [some (S.v (.fl (ns.map D.int))), none]) :
    EW Q E (lcD (.one 1) tYesD (eCall1X rd (nCallX 2 rr (vCons (eVar 0) (vCons (eVar 1) vNil)))) (rgD 0 K) [some (S.v (.fl (ns.map D.int))), none]) := by
  have step : ∀ d ∈ rgD 0 K, ∀ δ, δ = [some (S.v (.fl (ns.map D.int))), none] → ∃ δ2, (eCall1X rd (nCallX 2 rr (vCons (eVar 0) (vCons (eVar 1) vNil)))) (δ.set 1 (some (.v d))) = .ok (.bl true) δ2 ∧ (δ2.set 1 none) = [some (S.v (.fl (ns.map D.int))), none] := by
    intro d hd δ hδ
    subst hδ
    obtain ⟨i, rfl, i0, i1⟩ := rg_mem hd
    obtain ⟨o, ss, ss2, e, e2⟩ := h i i0 (by omega)
    have : EW (fun z δ2 => z = .bl true ∧ δ2.set 1 none = [some (S.v (.fl (ns.map D.int))), none]) (fun _ _ => False) ((eCall1X rd (nCallX 2 rr (vCons (eVar 0) (vCons (eVar 1) vNil)))) [some (S.v (.fl (ns.map D.int))), some (.v (.int i))]) := by
      refine ew_call1X (ew_nCallX (ew_vcons (ew_var rfl (ew_vcons (ew_var rfl (ew_vnil ⟨_, rfl, rfl, fw_ok e ⟨_, _, rfl, rfl, fw_ok e2 ⟨_, rfl, rfl, rfl⟩⟩⟩))))))
    obtain ⟨z, δ2, e3, rfl, e4⟩ := ew_get this
    exact ⟨δ2, e3, e4⟩
  obtain ⟨acc, δ', el, eI, hA⟩ := lc_true (fun δ => δ = [some (S.v (.fl (ns.map D.int))), none]) (rgD 0 K) [] step (by
    unfold rgD
    simp only [List.length_map, List.length_range, List.length_nil]
    omega) (fun _ z => nomatch z) [some (S.v (.fl (ns.map D.int))), none] rfl
  refine ew_ok (a := D.lst acc) (δ' := [some (S.v (.fl (ns.map D.int))), none]) ?_ (q acc (bls_true hA))
  subst eI
  show (match lcL (.one 1) tYesD (eCall1X rd (nCallX 2 rr (vCons (eVar 0) (vCons (eVar 1) vNil)))) (rgD 0 K) [] [some (S.v (.fl (ns.map D.int))), none] with | .ok acc δ' => Out.ok (D.lst acc) (backD _ _ δ') | _ => .bad) = _
  rw [el]
  rfl
/-- a while loop by its steps -/
theorem sw_wh {Z : SE} {c : ME Bool} {B : MS} {k : Nat} {δ : Ds} (h : EW (fun b δ1 => mB b (SW { nx := fun δ2 => SW Z (whileN c B k δ2), rt := Z.rt, bk := Z.nx, ct := fun δ2 => SW Z (whileN c B k δ2), ex := Z.ex } (B δ1)) (Z.nx δ1)) Z.ex (c δ)) : SW Z (whileN c B (k + 1) δ) := by
  unfold whileN
  refine sw_bnd (h.mono (fun b δ1 h => ?_) (fun _ _ h => h))
  cases b with
  | false => exact h
  | true =>
    replace h : SW { nx := fun δ2 => SW Z (whileN c B k δ2), rt := Z.rt, bk := Z.nx, ct := fun δ2 => SW Z (whileN c B k δ2), ex := Z.ex } (B δ1) := h
    dsimp only
    cases e : B δ1 <;> rw [e] at h <;> exact h
end DL

set_option Elab.async false
set_option linter.all false
set_option maxRecDepth 100000
set_option maxHeartbeats 4000000
/-! the plain law: Ratios -/
namespace K17
open DL
open PySem (Str PyData)
local macro_rules | `(tactic| walk_at "tx") => `(tactic| first
  | exact Tx.empty
  | (with_reducible assumption)
  | exact Tx.of _
  | apply Tx.app)
local macro_rules | `(tactic| walk_at "sz") => `(tactic| (refine' sz_app ?wq1 ?wq2 ?wq3; (case wq1 => repeat' walk_at "tx"); (case wq2 => repeat' walk_at "tx"); (case wq3 => decide)))
local macro_rules | `(tactic| walk_at "ap") => `(tactic| (refine' opAdd_str ?wq1 ?wq2 ?wq3; (case wq1 => repeat' walk_at "tx"); (case wq2 => repeat' walk_at "tx"); (case wq3 => decide)))
local macro_rules | `(tactic| walk_at "wp") => `(tactic| first
  | (with_reducible refine sw_seq ?_)
  | (with_reducible refine sw_if ?_)
  | (with_reducible refine sw_set ?_)
  | (with_reducible refine sw_ret ?_)
  | (with_reducible refine sw_retM ?_)
  | (with_reducible refine sw_drop ?_)
  | (with_reducible refine sw_asg ?_)
  | (with_reducible refine sw_par ?_)
  | (with_reducible refine sw_nx ?_)
  | (with_reducible refine ew_val ?_)
  | ((with_reducible refine' ew_var ?wpv ?_); (case wpv => exact rfl))
  | (with_reducible refine ew_c ?_)
  | (with_reducible refine ew_mulX ?_)
  | (with_reducible refine ew_bin ?_)
  | (with_reducible refine ew_un ?_)
  | (with_reducible refine ew_isN ?_)
  | (with_reducible refine ew_notN ?_)
  | (with_reducible refine ew_and ?_)
  | (with_reducible refine ew_or ?_)
  | (with_reducible refine ew_not ?_)
  | (with_reducible refine ew_tand ?_)
  | (with_reducible refine ew_tor ?_)
  | (with_reducible refine ew_tnot ?_)
  | (with_reducible refine ew_ite ?_)
  | (with_reducible refine ew_nil ?_)
  | (with_reducible refine ew_cons ?_)
  | (with_reducible refine ew_vnil ?_)
  | (with_reducible refine ew_vcons ?_)
  | ((with_reducible refine' ew_vref ?wpv ?_); (case wpv => exact rfl))
  | (with_reducible refine ew_tup ?_)
  | (with_reducible refine ew_lst ?_)
  | (with_reducible refine ew_nlst ?_)
  | (with_reducible refine ew_B ?_)
  | ((with_reducible refine' ew_ixM ?wpv ?_); (case wpv => exact rfl))
  | (with_reducible refine ew_slc ?_)
  | (with_reducible refine ew_call ?_)
  | (with_reducible refine ew_nCallX ?_)
  | (with_reducible refine ew_call1X ?_)
  | (with_reducible refine ew_mkX ?_)
  | (with_reducible refine ew_mkK ?_)
  | (with_reducible refine ew_callK ?_)
  | (with_reducible refine ew_actO ?_)
  | (with_reducible refine ew_actX ?_)
  | (with_reducible refine ew_CL ?_)
  | (with_reducible refine ew_BL ?_)
  | (with_reducible refine ew_lam ?_)
  | ((with_reducible refine' ew_append ?wpv ?_); (case wpv => exact rfl))
  | (with_reducible refine ew_propS ?_)
  | (with_reducible refine ew_Xf ?_)
  | (with_reducible refine ew_fmt ?_)
  | (with_reducible refine ew_join0 ?_)
  | (with_reducible refine ew_join ?_)
  | (with_reducible refine ew_conS ?_)
  | (with_reducible refine ew_bmS ?_)
  | (with_reducible refine sw_setM ?_)
  | (with_reducible refine sw_setSl ?_)
  | (with_reducible refine sw_raise ?_)
  | (with_reducible refine sw_try ?_)
  | ((with_reducible refine' sw_tryT ?wpa ?wpb ?_); (case wpa => exact rfl); (case wpb => exact rfl))
  | ((with_reducible refine' sw_tryF ?wpa ?_); (case wpa => exact rfl))
  | (with_reducible refine sw_for ?_)
  | ((with_reducible refine' sw_forE ?wpa ?wpb ?_); (case wpa => exact rfl); (case wpb => exact rfl))
  | ((with_reducible refine' sw_forE0 ?wpa ?_); (case wpa => exact rfl))
  | ((with_reducible refine' sw_frz ?wpv ?_); (case wpv => exact rfl))
  | (with_reducible refine ew_dct0 ?_)
  | (with_reducible refine ew_rg1 ?_)
  | (with_reducible refine ew_seq ?_)
  | (with_reducible refine ew_yes ?_)
  | ((with_reducible refine' wxi ?wpa ?wpb ?wpc ?_); (case wpa => exact rfl); (case wpb => exact rfl); (case wpc => exact rfl))
  | ((with_reducible refine' wxc ?wpa ?wpb ?_); (case wpa => exact rfl); (case wpb => exact rfl))
  | ((with_reducible refine' wxr ?wpa ?wpb ?_); (case wpa => exact rfl); (case wpb => exact rfl))
  | ((with_reducible refine' wxp ?wpa ?wpb ?_); (case wpa => exact rfl); (case wpb => exact rfl))
  | ((with_reducible refine' wxm ?wpa ?wpb ?_); (case wpa => exact rfl); (case wpb => exact rfl))
  | ((with_reducible refine' wxo ?wpa ?wpb ?wpc ?_); (case wpa => exact rfl); (case wpb => exact rfl); (case wpc => exact rfl))
  | ((with_reducible refine' wx1 ?wpa ?_); (case wpa => exact rfl))
  | ((with_reducible refine' wxa ?wpa ?_); (case wpa => exact rfl))
  | ((with_reducible refine' wxa ?wpa ?_); (case wpa => walk_at "sz"))
  | ((with_reducible refine' wx1 ?wpa ?_); (case wpa => walk_at "ap"))
  | ((with_reducible refine' wmt ?wpa ?_); (case wpa => exact rfl))
  | ((with_reducible refine' wmf ?wpa ?_); (case wpa => exact rfl)))
local macro_rules | `(tactic| walk_at "k") => `(tactic| first
  | walk_at "wp"
  | ((with_reducible refine' wx1 ?wpa ?_); (case wpa => exact Cn.fmt (by with_reducible assumption)))
  | ((with_reducible refine' lo_of ?wpa ?_); (case wpa => exact Cn.str (by with_reducible assumption))))
/-- the greatest common divisor -/
def gc (a b : Int) : Int := (Nat.gcd a.toNat b.toNat : Nat)
theorem gc_zero {a : Int} (h : 0 ≤ a) : gc a 0 = a := by
  unfold gc
  rw [show (0 : Int).toNat = 0 from rfl, Nat.gcd_zero_right]
  omega
theorem gc_step {a b : Int} (h : 0 ≤ a) (k : 0 < b) : gc b (a % b) = gc a b := by
  unfold gc
  rw [Int.toNat_emod h (by omega), Nat.gcd_comm a.toNat b.toNat, Nat.gcd_rec b.toNat a.toNat, Nat.gcd_comm]
theorem gcdS {Z : SE} {T : ME Bool} {B : MS}
    (hT : ∀ (a b : Int) (Z : SE) (Q : Bool → Ds → Prop), Q (decide (0 < b)) [some (.v (.int a)), some (.v (.int b))] → EW Q Z.ex (T [some (.v (.int a)), some (.v (.int b))]))
    (hB : ∀ (a b : Int) (Z : SE), 0 < b → Z.nx [some (.v (.int b)), some (.v (.int (a % b)))] → SW Z (B [some (.v (.int a)), some (.v (.int b))])) :
    ∀ (j k : Nat) (a b : Int), 0 ≤ a → 0 ≤ b → b < 2 ^ j → 2 * j + 1 ≤ k → Z.nx [some (.v (.int (gc a b))), some (.v (.int 0))] → SW Z (whileN T B k [some (.v (.int a)), some (.v (.int b))]) := by
  intro j
  induction j with
  | zero =>
    intro k a b ha hb hj hk h
    obtain ⟨k, rfl⟩ : ∃ k', k = k' + 1 := ⟨k - 1, by omega⟩
    have : b = 0 := by omega
    subst this
    refine sw_wh (hT a 0 Z _ ?_)
    rw [decide_eq_false (by decide)]
    rw [gc_zero ha] at h
    exact h
  | succ j ih =>
    intro k a b ha hb hj hk h
    obtain ⟨k, rfl⟩ : ∃ k', k = k' + 1 := ⟨k - 1, by omega⟩
    refine sw_wh (hT a b Z _ ?_)
    by_cases c : 0 < b
    · rw [decide_eq_true c]
      refine hB a b { nx := fun δ2 => SW Z (whileN T B k δ2), rt := Z.rt, bk := Z.nx, ct := fun δ2 => SW Z (whileN T B k δ2), ex := Z.ex } c ?_
      have r0 := Int.emod_nonneg a (show b ≠ 0 by omega)
      have r1 := Int.emod_lt_of_pos a c
      have es := gc_step ha c
      generalize a % b = r at r0 r1 es
      rw [← es] at h
      obtain ⟨k, rfl⟩ : ∃ k', k = k' + 1 := ⟨k - 1, by omega⟩
      refine sw_wh (hT b r Z _ ?_)
      by_cases d : 0 < r
      · rw [decide_eq_true d]
        refine hB b r { nx := fun δ2 => SW Z (whileN T B k δ2), rt := Z.rt, bk := Z.nx, ct := fun δ2 => SW Z (whileN T B k δ2), ex := Z.ex } d ?_
        have q0 := Int.emod_nonneg b (show r ≠ 0 by omega)
        have q1 := Int.emod_lt_of_pos b d
        have es := gc_step hb d
        have dv := Int.mul_ediv_add_emod b r
        have dp : 1 ≤ b / r := (Int.le_ediv_iff_mul_le d).mpr (by omega)
        have mp : r * 1 ≤ r * (b / r) := Int.mul_le_mul_of_nonneg_left dp (by omega)
        rw [← es] at h
        refine ih k r (b % r) r0 q0 ?_ (by omega) h
        have : (2 : Int) ^ (j + 1) = 2 ^ j * 2 := Int.pow_succ ..
        omega
      · have : r = 0 := by omega
        subst this
        rw [decide_eq_false (by decide)]
        rw [gc_zero hb] at h
        exact h
    · have : b = 0 := by omega
      subst this
      rw [decide_eq_false (by decide)]
      rw [gc_zero ha] at h
      exact h
/-- numbers that a divisor is asked of -/
theorem gcd_ok {a b : Int} (ha : 0 ≤ a) (hb : 0 ≤ b) (hz : b < 2 ^ 400) : rd_common_divisor [.v (.int a), .v (.int b)] = .ok (.v (.int (gc a b))) [.v (.int (gc a b)), .v (.int 0)] := by
  refine fw_eq (fw_body ?_)
  unfold rb_common_divisor
  refine sw_seq (gcdS (fun a b Z Q h => ?_) (fun a b Z h k => ?_) 400 1000 a b ha hb hz (by decide) ?_)
  · repeat walk_at "wp"
    exact h
  · repeat walk_at "wp"
    refine ⟨_, opMod_ok h, ?_⟩
    repeat walk_at "wp"
    exact k
  · repeat walk_at "wp"
    first | exact rfl | exact ⟨rfl, rfl⟩
theorem lgcd_ok {a b : Int} (ha : 0 ≤ a) (hb : 0 ≤ b) (hz : b < 2 ^ 400) : rd__law_common [.v (.int a), .v (.int b)] = .ok (.v (.int (gc a b))) [.v (.int (gc a b)), .v (.int 0)] := by
  refine fw_eq (fw_body ?_)
  unfold rb__law_common
  refine sw_seq (gcdS (fun a b Z Q h => ?_) (fun a b Z h k => ?_) 400 1000 a b ha hb hz (by decide) ?_)
  · repeat walk_at "wp"
    exact h
  · repeat walk_at "wp"
    refine ⟨_, opMod_ok h, ?_⟩
    repeat walk_at "wp"
    exact k
  · repeat walk_at "wp"
    first | exact rfl | exact ⟨rfl, rfl⟩
end K17

set_option Elab.async false
set_option linter.all false
set_option maxRecDepth 100000
set_option maxHeartbeats 4000000
/-! Ratios made, told, due -/
namespace K17
open DL
open PySem (Str PyData)
local macro_rules | `(tactic| walk_at "tx") => `(tactic| first
  | exact Tx.empty
  | (with_reducible assumption)
  | exact Tx.of _
  | apply Tx.app)
local macro_rules | `(tactic| walk_at "sz") => `(tactic| (refine' sz_app ?wq1 ?wq2 ?wq3; (case wq1 => repeat' walk_at "tx"); (case wq2 => repeat' walk_at "tx"); (case wq3 => decide)))
local macro_rules | `(tactic| walk_at "ap") => `(tactic| (refine' opAdd_str ?wq1 ?wq2 ?wq3; (case wq1 => repeat' walk_at "tx"); (case wq2 => repeat' walk_at "tx"); (case wq3 => decide)))
local macro_rules | `(tactic| walk_at "wp") => `(tactic| first
  | (with_reducible refine sw_seq ?_)
  | (with_reducible refine sw_if ?_)
  | (with_reducible refine sw_set ?_)
  | (with_reducible refine sw_ret ?_)
  | (with_reducible refine sw_retM ?_)
  | (with_reducible refine sw_drop ?_)
  | (with_reducible refine sw_asg ?_)
  | (with_reducible refine sw_par ?_)
  | (with_reducible refine sw_nx ?_)
  | (with_reducible refine ew_val ?_)
  | ((with_reducible refine' ew_var ?wpv ?_); (case wpv => exact rfl))
  | (with_reducible refine ew_c ?_)
  | (with_reducible refine ew_mulX ?_)
  | (with_reducible refine ew_bin ?_)
  | (with_reducible refine ew_un ?_)
  | (with_reducible refine ew_isN ?_)
  | (with_reducible refine ew_notN ?_)
  | (with_reducible refine ew_and ?_)
  | (with_reducible refine ew_or ?_)
  | (with_reducible refine ew_not ?_)
  | (with_reducible refine ew_tand ?_)
  | (with_reducible refine ew_tor ?_)
  | (with_reducible refine ew_tnot ?_)
  | (with_reducible refine ew_ite ?_)
  | (with_reducible refine ew_nil ?_)
  | (with_reducible refine ew_cons ?_)
  | (with_reducible refine ew_vnil ?_)
  | (with_reducible refine ew_vcons ?_)
  | ((with_reducible refine' ew_vref ?wpv ?_); (case wpv => exact rfl))
  | (with_reducible refine ew_tup ?_)
  | (with_reducible refine ew_lst ?_)
  | (with_reducible refine ew_nlst ?_)
  | (with_reducible refine ew_B ?_)
  | ((with_reducible refine' ew_ixM ?wpv ?_); (case wpv => exact rfl))
  | (with_reducible refine ew_slc ?_)
  | (with_reducible refine ew_call ?_)
  | (with_reducible refine ew_nCallX ?_)
  | (with_reducible refine ew_call1X ?_)
  | (with_reducible refine ew_mkX ?_)
  | (with_reducible refine ew_mkK ?_)
  | (with_reducible refine ew_callK ?_)
  | (with_reducible refine ew_actO ?_)
  | (with_reducible refine ew_actX ?_)
  | (with_reducible refine ew_CL ?_)
  | (with_reducible refine ew_BL ?_)
  | (with_reducible refine ew_lam ?_)
  | ((with_reducible refine' ew_append ?wpv ?_); (case wpv => exact rfl))
  | (with_reducible refine ew_propS ?_)
  | (with_reducible refine ew_Xf ?_)
  | (with_reducible refine ew_fmt ?_)
  | (with_reducible refine ew_join0 ?_)
  | (with_reducible refine ew_join ?_)
  | (with_reducible refine ew_conS ?_)
  | (with_reducible refine ew_bmS ?_)
  | (with_reducible refine sw_setM ?_)
  | (with_reducible refine sw_setSl ?_)
  | (with_reducible refine sw_raise ?_)
  | (with_reducible refine sw_try ?_)
  | ((with_reducible refine' sw_tryT ?wpa ?wpb ?_); (case wpa => exact rfl); (case wpb => exact rfl))
  | ((with_reducible refine' sw_tryF ?wpa ?_); (case wpa => exact rfl))
  | (with_reducible refine sw_for ?_)
  | ((with_reducible refine' sw_forE ?wpa ?wpb ?_); (case wpa => exact rfl); (case wpb => exact rfl))
  | ((with_reducible refine' sw_forE0 ?wpa ?_); (case wpa => exact rfl))
  | ((with_reducible refine' sw_frz ?wpv ?_); (case wpv => exact rfl))
  | (with_reducible refine ew_dct0 ?_)
  | (with_reducible refine ew_rg1 ?_)
  | (with_reducible refine ew_seq ?_)
  | (with_reducible refine ew_yes ?_)
  | ((with_reducible refine' wxi ?wpa ?wpb ?wpc ?_); (case wpa => exact rfl); (case wpb => exact rfl); (case wpc => exact rfl))
  | ((with_reducible refine' wxc ?wpa ?wpb ?_); (case wpa => exact rfl); (case wpb => exact rfl))
  | ((with_reducible refine' wxr ?wpa ?wpb ?_); (case wpa => exact rfl); (case wpb => exact rfl))
  | ((with_reducible refine' wxp ?wpa ?wpb ?_); (case wpa => exact rfl); (case wpb => exact rfl))
  | ((with_reducible refine' wxm ?wpa ?wpb ?_); (case wpa => exact rfl); (case wpb => exact rfl))
  | ((with_reducible refine' wxo ?wpa ?wpb ?wpc ?_); (case wpa => exact rfl); (case wpb => exact rfl); (case wpc => exact rfl))
  | ((with_reducible refine' wx1 ?wpa ?_); (case wpa => exact rfl))
  | ((with_reducible refine' wxa ?wpa ?_); (case wpa => exact rfl))
  | ((with_reducible refine' wxa ?wpa ?_); (case wpa => walk_at "sz"))
  | ((with_reducible refine' wx1 ?wpa ?_); (case wpa => walk_at "ap"))
  | ((with_reducible refine' wmt ?wpa ?_); (case wpa => exact rfl))
  | ((with_reducible refine' wmf ?wpa ?_); (case wpa => exact rfl)))
local macro_rules | `(tactic| walk_at "k") => `(tactic| first
  | walk_at "wp"
  | ((with_reducible refine' wx1 ?wpa ?_); (case wpa => exact Cn.fmt (by with_reducible assumption)))
  | ((with_reducible refine' lo_of ?wpa ?_); (case wpa => exact Cn.str (by with_reducible assumption))))
theorem gc_pos {a b : Int} (k : 0 < b) : 0 < gc a b := by
  unfold gc
  have := Nat.gcd_pos_of_pos_right a.toNat (show 0 < b.toNat by omega)
  omega
theorem gc_le {a b : Int} (k : 0 < b) : gc a b ≤ b := by
  unfold gc
  have := Nat.gcd_le_right (n := b.toNat) a.toNat (show 0 < b.toNat by omega)
  omega
theorem gc_a {a b : Int} (h : 0 ≤ a) : gc a b ∣ a := by
  unfold gc
  have h1 := Nat.gcd_dvd_left a.toNat b.toNat
  have : ((Nat.gcd a.toNat b.toNat : Nat) : Int) ∣ ((a.toNat : Nat) : Int) := Int.natCast_dvd_natCast.mpr h1
  rwa [Int.toNat_of_nonneg h] at this
theorem gc_b {a b : Int} (h : 0 ≤ b) : gc a b ∣ b := by
  unfold gc
  have h1 := Nat.gcd_dvd_right a.toNat b.toNat
  have : ((Nat.gcd a.toNat b.toNat : Nat) : Int) ∣ ((b.toNat : Nat) : Int) := Int.natCast_dvd_natCast.mpr h1
  rwa [Int.toNat_of_nonneg h] at this
def tp (a b : Int) : Int := a / gc a b
def bo (a b : Int) : Int := b / gc a b
/-- numbers of a Ratio -/
structure Rn (a b : Int) : Prop where
  a0 : 0 ≤ a
  b0 : 0 < b
  a1 : a < 10 ^ 80
  b1 : b < 10 ^ 80
theorem Rn.tp {a b : Int} (h : Rn a b) : Cn (tp a b) := by
  have g := gc_pos (a := a) h.b0
  refine ⟨Int.ediv_nonneg h.a0 (by omega), ?_⟩
  have := Int.ediv_le_self (b := gc a b) h.a0
  have := h.a1
  unfold K17.tp
  omega
theorem Rn.bo {a b : Int} (h : Rn a b) : Cn (bo a b) := by
  have g := gc_pos (a := a) h.b0
  have b0 : 0 ≤ b := by have := h.b0; omega
  refine ⟨Int.ediv_nonneg b0 (by omega), ?_⟩
  have := Int.ediv_le_self (b := gc a b) b0
  have := h.b1
  unfold K17.bo
  omega
theorem Rn.big {a b : Int} (h : Rn a b) : b < 2 ^ 400 := Int.lt_trans h.b1 (by decide +kernel)
theorem fitC {n : Int} (h0 : 0 ≤ n) (h : n < 10 ^ 90) : fit n = true := letI : TbL := ⟨[]⟩; fit_of (k := 350) (by
  have e : (10 : Int) ^ 90 < ((2 ^ 350 : Nat) : Int) := by decide +kernel
  omega)
theorem Rn.fit {a b : Int} (h : Rn a b) : fit (gc a b) = true := fitC (by have := gc_pos (a := a) h.b0; omega) (by
  have := gc_le (a := a) h.b0
  have := h.b1
  have : (10 : Int) ^ 80 < 10 ^ 90 := by decide +kernel
  omega)
def Rt (p q : Int) : D := .slt "Ratio" [.int q, .int p]
theorem isi_i {n : Int} : rd_is_integer [.v (.int n)] = .ok (.v (.bl true)) [.v (.int n)] := by
  refine fw_eq (fw_body ?_)
  unfold rb_is_integer
  repeat walk_at "wp"
  first | exact rfl | exact ⟨rfl, rfl⟩
theorem lsi_i {n : Int} : rd__law_is_integer [.v (.int n)] = .ok (.v (.bl true)) [.v (.int n)] := by
  refine fw_eq (fw_body ?_)
  unfold rb__law_is_integer
  repeat walk_at "wp"
  first | exact rfl | exact ⟨rfl, rfl⟩
theorem cnt_i {n : Int} : rd_is_count [.v (.int n)] = .ok (.v (.bl (decide (0 ≤ n)))) [.v (.int n)] := by
  refine fw_eq (fw_body ?_)
  unfold rb_is_count
  repeat walk_at "wp"
  refine fw_ok isi_i ?_
  repeat walk_at "wp"
  first | exact rfl | exact ⟨rfl, rfl⟩
/-- a value below m, or no integer -/
structure Bd (m : Int) (d : D) : Prop where
  s : Shw owL d 200
  dp : dep d ≤ 1
  o : d ≠ .opq
  k : (rd_is_integer [.v d] = .ok (.v (.bl false)) [.v d] ∧ rd__law_is_integer [.v d] = .ok (.v (.bl false)) [.v d]) ∨ ∃ n, d = .int n ∧ n < m
theorem Bd.cnt {d : D} (h : Bd 0 d) : rd_is_count [.v d] = .ok (.v (.bl false)) [.v d] := by
  rcases h.k with ⟨i, _⟩ | ⟨n, rfl, k⟩
  · refine fw_eq (fw_body ?_)
    unfold rb_is_count
    repeat walk_at "wp"
    refine fw_ok i ?_
    repeat walk_at "wp"
    first | exact rfl | exact ⟨rfl, rfl⟩
  · rw [cnt_i, decide_eq_false (by omega)]
theorem init_ok {a b : Int} (h : Rn a b) : rd_Ratio___init__ [.m (.slt "Ratio" []), .v (.int a), .v (.int b)] = .ok (.v .non) [.m (.slt "Ratio" [some (.int (bo a b)), some (.int (tp a b))]), .v (.int a), .v (.int b)] := by
  have b0 := h.b0
  have g := gc_pos (a := a) b0
  refine fw_eq (fw_body ?_)
  unfold rb_Ratio___init__
  repeat walk_at "wp"
  refine fw_ok cnt_i ?_
  rw [decide_eq_true h.a0]
  repeat walk_at "wp"
  refine fw_ok isi_i ?_
  repeat walk_at "wp"
  rw [decide_eq_false (show ¬ b < 1 by omega)]
  repeat walk_at "wp"
  refine fw_ok (gcd_ok h.a0 (by omega) h.big) ?_
  repeat walk_at "wp"
  refine ⟨_, opDiv_ok g h.fit, ?_⟩
  repeat walk_at "wp"
  refine ⟨_, opDiv_ok g h.fit, ?_⟩
  repeat walk_at "wp"
  first | exact rfl | exact ⟨rfl, rfl⟩
theorem initX1 {d e : D} (h : Bd 0 d) : ∃ ss, rd_Ratio___init__ [.m (.slt "Ratio" []), .v d, .v e] = .ex ⟨"InvalidCount", [("value", d)]⟩ ss := by
  refine ⟨[.m (.slt "Ratio" []), .v d, .v e], fw_ex (fw_body ?_)⟩
  unfold rb_Ratio___init__
  repeat walk_at "wp"
  refine fw_ok h.cnt ?_
  repeat walk_at "wp"
  first | exact rfl | exact ⟨rfl, rfl⟩
theorem initX2 {n : Int} {d : D} (h : 0 ≤ n) (k : Bd 1 d) : ∃ ss, rd_Ratio___init__ [.m (.slt "Ratio" []), .v (.int n), .v d] = .ex ⟨"InvalidNumber", [("value", d)]⟩ ss := by
  refine ⟨[.m (.slt "Ratio" []), .v (.int n), .v d], fw_ex (fw_body ?_)⟩
  unfold rb_Ratio___init__
  repeat walk_at "wp"
  refine fw_ok cnt_i ?_
  rw [decide_eq_true h]
  repeat walk_at "wp"
  rcases k.k with ⟨i, _⟩ | ⟨m, rfl, km⟩
  · refine fw_ok i ?_
    repeat walk_at "wp"
    first | exact rfl | exact ⟨rfl, rfl⟩
  · refine fw_ok isi_i ?_
    repeat walk_at "wp"
    rw [decide_eq_true km]
    repeat walk_at "wp"
    first | exact rfl | exact ⟨rfl, rfl⟩
def sR (p q : Int) : Str := (((("Ratio(" : Str) ++ tI p) ++ ", ") ++ tI q) ++ ")"
def sS (p q : Int) : Str := if q = 1 then tI p else (tI p ++ "/") ++ tI q
theorem repr_ok {p q : Int} (h : Cn p) (k : Cn q) : rd_Ratio___repr__ [.v (Rt p q)] = .ok (.v (.str (sR p q))) [.v (Rt p q)] := by
  refine fw_eq (fw_body ?_)
  unfold rb_Ratio___repr__
  have hx := h.tx
  have kx := k.tx
  repeat walk_at "k"
  first | exact rfl | exact ⟨rfl, rfl⟩
theorem str_ok {p q : Int} (h : Cn p) (k : Cn q) : rd_Ratio___str__ [.v (Rt p q)] = .ok (.v (.str (sS p q))) [.v (Rt p q)] := by
  refine fw_eq (fw_body ?_)
  unfold rb_Ratio___str__ sS
  have hx := h.tx
  have kx := k.tx
  repeat walk_at "k"
  by_cases c : q = 1
  · rw [decide_eq_true c, if_pos c]
    repeat walk_at "k"
    first | exact rfl | exact ⟨rfl, rfl⟩
  · rw [decide_eq_false c, if_neg c]
    repeat walk_at "k"
    refine ⟨?_, rfl⟩
    rw [PySem.Str.empty_append]
theorem bool_ok {p q : Int} : rd_Ratio___bool__ [.v (Rt p q)] = .ok (.v (.bl (p != 0))) [.v (Rt p q)] := by
  refine fw_eq (fw_body ?_)
  unfold rb_Ratio___bool__
  repeat walk_at "wp"
  first | exact rfl | exact ⟨rfl, rfl⟩
theorem fstr {p q : Int} (h : Cn p) (k : Cn q) : fStrX owL [Rt p q] = .ok (.str (sS p q)) := by
  show loD (((ownV owL "__str__" (Rt p q)).bind asStr).map .str) = _
  rw [ownV_of (c := "Ratio") rfl rfl (str_ok h k)]
  rfl
theorem frep {p q : Int} (h : Cn p) (k : Cn q) : fReprX owL [Rt p q] = .ok (.str (sR p q)) := by
  show loD (((ownV owL "__repr__" (Rt p q)).bind asStr).map .str) = _
  rw [ownV_of (c := "Ratio") rfl rfl (repr_ok h k)]
  rfl
theorem fbl {p q : Int} (h : 0 ≤ p) : fBoolX owL [Rt p q] = .ok (.bl (decide (0 < p))) := by
  show (match ownV owL "__bool__" (Rt p q) with | some (.bl b) => LO.ok (.bl b) | _ => .bad) = _
  rw [ownV_of (c := "Ratio") rfl rfl bool_ok]
  have : (p != 0) = decide (0 < p) := by
    by_cases c : p = 0
    · subst c
      rfl
    · rw [decide_eq_true (by omega)]
      simpa using c
  dsimp only
  rw [this]
/-! what is told, what is due -/
def bs : D := .lst [.bl true, .bl false, .bl false, .bl false]
def Rc (x : Str) (d : D) : D := .lst [.str x, d, bs]
def R1 (p q : Int) : D := .lst [.str "made", .int p, .int q, .str (sS p q), .str (sR p q), .bl (decide (0 < p))]
theorem sh_bs : Shw owL bs 200 := shw_lst (n := 5) (fun d hd => by
  simp only [List.mem_cons, List.not_mem_nil, or_false] at hd
  rcases hd with rfl | rfl | rfl | rfl <;> exact shw_bl) (Nat.le_of_ble_eq_true rfl) (by decide)
theorem tx_R {n m : Int} (h : Cn n) (k : Cn m) : Tx (sR n m) 200 := (((((Tx.lit (n := 6)).app h.tx).app (.lit (n := 2))).app k.tx).app (.lit (n := 1))).mono (by decide)
theorem tx_S {n m : Int} (h : Cn n) (k : Cn m) : Tx (sS n m) 200 := by
  unfold sS
  split
  · exact h.tx.mono (by decide)
  · exact ((h.tx.app (.lit (n := 2))).app k.tx).mono (by decide)
theorem rp_c {m : Int} {x : String} {d : D} (h : Bd m d) (hx : 10 * x.toList.length + 2 ≤ 200) : ∃ t, fReprX owL [Rc x d] = .ok (.str t) ∧ Tx t 100000 := by
  have : Shw owL (Rc x d) 100000 := shw_lst (n := 200) (fun y hy => by
    simp only [List.mem_cons, List.not_mem_nil, or_false] at hy
    rcases hy with rfl | rfl | rfl
    · exact Shw.lit hx (by decide)
    · exact h.s
    · exact sh_bs) (Nat.le_of_ble_eq_true rfl) (by decide)
  obtain ⟨t, e, _, x⟩ := this.fn (by
    have := h.dp
    show max 0 (max (dep d) (max 1 0)) + 1 ≤ 8
    omega)
  exact ⟨t, e, x⟩
theorem rp_1 {n m : Int} (h : Cn n) (k : Cn m) : ∃ t, fReprX owL [R1 n m] = .ok (.str t) ∧ Tx t 100000 := by
  have : Shw owL (R1 n m) 100000 := shw_lst (n := 2100) (fun x hx => by
    simp only [List.mem_cons, List.not_mem_nil, or_false] at hx
    rcases hx with rfl | rfl | rfl | rfl | rfl | rfl
    · exact (Shw.lit (n := 1000) (by decide) (by decide)).mono (by decide)
    · exact h.shw.mono (by decide)
    · exact k.shw.mono (by decide)
    · exact (shw_str (tx_S h k) (by decide)).mono (by decide)
    · exact (shw_str (tx_R h k) (by decide)).mono (by decide)
    · exact shw_bl.mono (by decide)) (Nat.le_of_ble_eq_true rfl) (by decide)
  obtain ⟨t, e, _, x⟩ := this.fn (Nat.le_of_ble_eq_true rfl)
  exact ⟨t, e, x⟩
theorem told_c {d : D} {t : Str} (e : fReprX owL [Rc "count" d] = .ok (.str t)) : runBody 1 4 (rb__law_told (.ex ⟨"InvalidCount", [("value", d)]⟩)) [.v .opq] = .ok (.v (.str t)) [.v .opq] := by
  refine fw_eq (fw_body ?_)
  unfold rb__law_told
  repeat walk_at "wp"
  refine fw_ok (show rd__law_bases [.v (.exc "InvalidCount" [("value", d)])] = .ok (.v bs) [.v (.exc "InvalidCount" [("value", d)])] from rfl) ?_
  repeat walk_at "wp"
  refine ⟨_, e, ?_⟩
  first | exact rfl | exact ⟨rfl, rfl⟩
theorem told_n {d : D} {t : Str} (e : fReprX owL [Rc "number" d] = .ok (.str t)) : runBody 1 4 (rb__law_told (.ex ⟨"InvalidNumber", [("value", d)]⟩)) [.v .opq] = .ok (.v (.str t)) [.v .opq] := by
  refine fw_eq (fw_body ?_)
  unfold rb__law_told
  repeat walk_at "wp"
  refine fw_ok (show rd__law_bases [.v (.exc "InvalidNumber" [("value", d)])] = .ok (.v bs) [.v (.exc "InvalidNumber" [("value", d)])] from rfl) ?_
  repeat walk_at "wp"
  refine ⟨_, e, ?_⟩
  first | exact rfl | exact ⟨rfl, rfl⟩
theorem told_1 {n m : Int} {t : Str} (h : Cn n) (k : Cn m) (e : fReprX owL [R1 n m] = .ok (.str t)) : runBody 1 4 (rb__law_told (.ok (Rt n m))) [.v .opq] = .ok (.v (.str t)) [.v .opq] := by
  refine fw_eq (fw_body ?_)
  unfold rb__law_told
  repeat walk_at "wp"
  refine ⟨_, _, (show rd_Ratio_top [.v (Rt n m)] = .ok (.v (.int n)) [.v (Rt n m)] from rfl), ?_⟩
  repeat walk_at "wp"
  refine ⟨_, _, (show rd_Ratio_bottom [.v (Rt n m)] = .ok (.v (.int m)) [.v (Rt n m)] from rfl), ?_⟩
  repeat walk_at "wp"
  refine ⟨_, fstr h k, ?_⟩
  repeat walk_at "wp"
  refine ⟨_, frep h k, ?_⟩
  repeat walk_at "wp"
  refine ⟨_, fbl h.z, ?_⟩
  repeat walk_at "wp"
  refine ⟨_, e, ?_⟩
  first | exact rfl | exact ⟨rfl, rfl⟩
theorem due_c {d e : D} {t : Str} (h : Bd 0 d) (r : fReprX owL [Rc "count" d] = .ok (.str t)) : rd__law_due [.v d, .v e] = .ok (.v (.str t)) [.v d, .v e] := by
  refine fw_eq (fw_body ?_)
  unfold rb__law_due
  repeat walk_at "wp"
  rcases h.k with ⟨_, i⟩ | ⟨n, rfl, k⟩
  · refine fw_ok i ?_
    repeat walk_at "wp"
    refine ⟨_, r, ?_⟩
    first | exact rfl | exact ⟨rfl, rfl⟩
  · refine fw_ok lsi_i ?_
    repeat walk_at "wp"
    rw [decide_eq_true k]
    repeat walk_at "wp"
    refine ⟨_, r, ?_⟩
    first | exact rfl | exact ⟨rfl, rfl⟩
theorem due_n {n : Int} {d : D} {t : Str} (hn : 0 ≤ n) (h : Bd 1 d) (r : fReprX owL [Rc "number" d] = .ok (.str t)) : rd__law_due [.v (.int n), .v d] = .ok (.v (.str t)) [.v (.int n), .v d] := by
  refine fw_eq (fw_body ?_)
  unfold rb__law_due
  repeat walk_at "wp"
  refine fw_ok lsi_i ?_
  repeat walk_at "wp"
  rw [decide_eq_false (show ¬ n < 0 by omega)]
  repeat walk_at "wp"
  rcases h.k with ⟨_, i⟩ | ⟨n, rfl, k⟩
  · refine fw_ok i ?_
    repeat walk_at "wp"
    refine ⟨_, r, ?_⟩
    first | exact rfl | exact ⟨rfl, rfl⟩
  · refine fw_ok lsi_i ?_
    repeat walk_at "wp"
    rw [decide_eq_true k]
    repeat walk_at "wp"
    refine ⟨_, r, ?_⟩
    first | exact rfl | exact ⟨rfl, rfl⟩
theorem due_1 {a b : Int} {t : Str} (h : Rn a b) (r : fReprX owL [R1 (tp a b) (bo a b)] = .ok (.str t)) : rd__law_due [.v (.int a), .v (.int b)] = .ok (.v (.str t)) [.v (.int a), .v (.int b)] := by
  have b0 := h.b0
  have g := gc_pos (a := a) b0
  have hp := h.tp
  have hq := h.bo
  have px := hp.tx
  have qx := hq.tx
  have hr := r
  unfold R1 sS at hr
  refine fw_eq (fw_body ?_)
  unfold rb__law_due
  repeat walk_at "wp"
  refine fw_ok lsi_i ?_
  repeat walk_at "wp"
  rw [decide_eq_false (show ¬ a < 0 by have := h.a0; omega)]
  repeat walk_at "wp"
  refine fw_ok lsi_i ?_
  repeat walk_at "wp"
  rw [decide_eq_false (show ¬ b < 1 by omega)]
  repeat walk_at "wp"
  refine fw_ok (lgcd_ok h.a0 (by omega) h.big) ?_
  repeat walk_at "wp"
  refine ⟨_, opDiv_ok g h.fit, ?_⟩
  repeat walk_at "wp"
  refine ⟨_, opDiv_ok g h.fit, ?_⟩
  repeat walk_at "wp"
  change Cn (a / gc a b) at hp
  change Cn (b / gc a b) at hq
  change Tx (tI (a / gc a b)) 80 at px
  change Tx (tI (b / gc a b)) 80 at qx
  by_cases c : bo a b = 1
  · rw [if_pos c] at hr
    rw [show decide (b / gc a b = 1) = true from decide_eq_true c]
    repeat walk_at "k"
    refine ⟨_, hr, ?_⟩
    first | exact rfl | exact ⟨rfl, rfl⟩
  · rw [if_neg c] at hr
    rw [show decide (b / gc a b = 1) = false from decide_eq_false c]
    repeat walk_at "k"
    refine ⟨_, hr, ?_⟩
    first | exact rfl | exact ⟨rfl, rfl⟩
end K17

set_option Elab.async false
set_option linter.all false
set_option maxRecDepth 100000
set_option maxHeartbeats 4000000
/-! one pair; Ratios alike -/
namespace K17
open DL
open PySem (Str PyData)
local macro_rules | `(tactic| walk_at "tx") => `(tactic| first
  | exact Tx.empty
  | (with_reducible assumption)
  | exact Tx.of _
  | apply Tx.app)
local macro_rules | `(tactic| walk_at "sz") => `(tactic| (refine' sz_app ?wq1 ?wq2 ?wq3; (case wq1 => repeat' walk_at "tx"); (case wq2 => repeat' walk_at "tx"); (case wq3 => decide)))
local macro_rules | `(tactic| walk_at "ap") => `(tactic| (refine' opAdd_str ?wq1 ?wq2 ?wq3; (case wq1 => repeat' walk_at "tx"); (case wq2 => repeat' walk_at "tx"); (case wq3 => decide)))
local macro_rules | `(tactic| walk_at "wp") => `(tactic| first
  | (with_reducible refine sw_seq ?_)
  | (with_reducible refine sw_if ?_)
  | (with_reducible refine sw_set ?_)
  | (with_reducible refine sw_ret ?_)
  | (with_reducible refine sw_retM ?_)
  | (with_reducible refine sw_drop ?_)
  | (with_reducible refine sw_asg ?_)
  | (with_reducible refine sw_par ?_)
  | (with_reducible refine sw_nx ?_)
  | (with_reducible refine ew_val ?_)
  | ((with_reducible refine' ew_var ?wpv ?_); (case wpv => exact rfl))
  | (with_reducible refine ew_c ?_)
  | (with_reducible refine ew_mulX ?_)
  | (with_reducible refine ew_bin ?_)
  | (with_reducible refine ew_un ?_)
  | (with_reducible refine ew_isN ?_)
  | (with_reducible refine ew_notN ?_)
  | (with_reducible refine ew_and ?_)
  | (with_reducible refine ew_or ?_)
  | (with_reducible refine ew_not ?_)
  | (with_reducible refine ew_tand ?_)
  | (with_reducible refine ew_tor ?_)
  | (with_reducible refine ew_tnot ?_)
  | (with_reducible refine ew_ite ?_)
  | (with_reducible refine ew_nil ?_)
  | (with_reducible refine ew_cons ?_)
  | (with_reducible refine ew_vnil ?_)
  | (with_reducible refine ew_vcons ?_)
  | ((with_reducible refine' ew_vref ?wpv ?_); (case wpv => exact rfl))
  | (with_reducible refine ew_tup ?_)
  | (with_reducible refine ew_lst ?_)
  | (with_reducible refine ew_nlst ?_)
  | (with_reducible refine ew_B ?_)
  | ((with_reducible refine' ew_ixM ?wpv ?_); (case wpv => exact rfl))
  | (with_reducible refine ew_slc ?_)
  | (with_reducible refine ew_call ?_)
  | (with_reducible refine ew_nCallX ?_)
  | (with_reducible refine ew_call1X ?_)
  | (with_reducible refine ew_mkX ?_)
  | (with_reducible refine ew_mkK ?_)
  | (with_reducible refine ew_callK ?_)
  | (with_reducible refine ew_actO ?_)
  | (with_reducible refine ew_actX ?_)
  | (with_reducible refine ew_CL ?_)
  | (with_reducible refine ew_BL ?_)
  | (with_reducible refine ew_lam ?_)
  | ((with_reducible refine' ew_append ?wpv ?_); (case wpv => exact rfl))
  | (with_reducible refine ew_propS ?_)
  | (with_reducible refine ew_Xf ?_)
  | (with_reducible refine ew_fmt ?_)
  | (with_reducible refine ew_join0 ?_)
  | (with_reducible refine ew_join ?_)
  | (with_reducible refine ew_conS ?_)
  | (with_reducible refine ew_bmS ?_)
  | (with_reducible refine sw_setM ?_)
  | (with_reducible refine sw_setSl ?_)
  | (with_reducible refine sw_raise ?_)
  | (with_reducible refine sw_try ?_)
  | ((with_reducible refine' sw_tryT ?wpa ?wpb ?_); (case wpa => exact rfl); (case wpb => exact rfl))
  | ((with_reducible refine' sw_tryF ?wpa ?_); (case wpa => exact rfl))
  | (with_reducible refine sw_for ?_)
  | ((with_reducible refine' sw_forE ?wpa ?wpb ?_); (case wpa => exact rfl); (case wpb => exact rfl))
  | ((with_reducible refine' sw_forE0 ?wpa ?_); (case wpa => exact rfl))
  | ((with_reducible refine' sw_frz ?wpv ?_); (case wpv => exact rfl))
  | (with_reducible refine ew_dct0 ?_)
  | (with_reducible refine ew_rg1 ?_)
  | (with_reducible refine ew_seq ?_)
  | (with_reducible refine ew_yes ?_)
  | ((with_reducible refine' wxi ?wpa ?wpb ?wpc ?_); (case wpa => exact rfl); (case wpb => exact rfl); (case wpc => exact rfl))
  | ((with_reducible refine' wxc ?wpa ?wpb ?_); (case wpa => exact rfl); (case wpb => exact rfl))
  | ((with_reducible refine' wxr ?wpa ?wpb ?_); (case wpa => exact rfl); (case wpb => exact rfl))
  | ((with_reducible refine' wxp ?wpa ?wpb ?_); (case wpa => exact rfl); (case wpb => exact rfl))
  | ((with_reducible refine' wxm ?wpa ?wpb ?_); (case wpa => exact rfl); (case wpb => exact rfl))
  | ((with_reducible refine' wxo ?wpa ?wpb ?wpc ?_); (case wpa => exact rfl); (case wpb => exact rfl); (case wpc => exact rfl))
  | ((with_reducible refine' wx1 ?wpa ?_); (case wpa => exact rfl))
  | ((with_reducible refine' wxa ?wpa ?_); (case wpa => exact rfl))
  | ((with_reducible refine' wxa ?wpa ?_); (case wpa => walk_at "sz"))
  | ((with_reducible refine' wx1 ?wpa ?_); (case wpa => walk_at "ap"))
  | ((with_reducible refine' wmt ?wpa ?_); (case wpa => exact rfl))
  | ((with_reducible refine' wmf ?wpa ?_); (case wpa => exact rfl)))
/-- the two numbers that draws are made of -/
structure Pt (a b : Int) : Prop where
  a0 : 0 ≤ a
  b0 : 0 ≤ b
  b1 : b < 2147483700
theorem draw_ok {a b s : Int} (p : Pt a b) (hs : 0 < s) (hsf : fit s = true) : ∃ r a' b', rd__law_draw [.m (.lst [.int a, .int b]), .v (.int s)] = .ok (.v (.int r)) [.m (.lst [.int a', .int b']), .v (.int s)] ∧ 0 ≤ r ∧ r < s ∧ Pt a' b' := by
  obtain ⟨ha, hb, hb2⟩ := p
  have h : FW (fun t ss => ∃ r a' b', t = .v (.int r) ∧ ss = [.m (.lst [.int a', .int b']), .v (.int s)] ∧ 0 ≤ r ∧ r < s ∧ Pt a' b') (fun _ _ => False) (rd__law_draw [.m (.lst [.int a, .int b]), .v (.int s)]) := by
    refine fw_body ?_
    unfold rb__law_draw
    repeat walk_at "wp"
    by_cases c : 0 < a
    · rw [decide_eq_true c]
      repeat walk_at "wp"
      refine ⟨_, fDm_ok hs hsf, ?_⟩
      repeat walk_at "wp"
      exact ⟨_, _, _, rfl, rfl, Int.emod_nonneg _ (by omega), Int.emod_lt_of_pos _ hs, Int.ediv_nonneg ha (by omega), hb, hb2⟩
    · rw [decide_eq_false c]
      repeat walk_at "wp"
      refine ⟨_, opMul_ok (fit_lt (by omega) (by omega)) (by decide +kernel), ?_⟩
      repeat walk_at "wp"
      generalize hz : (b * 39373 + 9973) % 2147483629 = z
      have z0 : 0 ≤ z := by omega
      have z1 : z < 2147483629 := by omega
      repeat walk_at "wp"
      refine ⟨_, opMul_ok (fit_lt (by omega) (by omega)) (fit_lt (by omega) (by omega)), ?_⟩
      repeat walk_at "wp"
      refine ⟨_, opMod_ok hs, ?_⟩
      exact ⟨_, _, _, rfl, rfl, Int.emod_nonneg _ (by omega), Int.emod_lt_of_pos _ hs, ha, z0, by omega⟩
  obtain ⟨t, ss, e, r, a', b', e1, e2, k⟩ := fw_get h
  subst e1 e2
  exact ⟨r, a', b', e, k⟩
theorem choice_ok {a b : Int} {xs : List D} (p : Pt a b) (h0 : 0 < xs.length) (h1 : xs.length < 1000) : ∃ d a' b', rd__law_choice [.m (.lst [.int a, .int b]), .v (.lst xs)] = .ok (.v d) [.m (.lst [.int a', .int b']), .v (.lst xs)] ∧ d ∈ xs ∧ Pt a' b' := by
  obtain ⟨r, a', b', e, r0, r1, p'⟩ := draw_ok (s := (xs.length : Int)) p (by omega) (fit_lt (by omega) (by omega))
  have hr : r.toNat < xs.length := by omega
  refine ⟨xs[r.toNat], a', b', fw_eq (fw_body ?_), List.getElem_mem _, p'⟩
  unfold rb__law_choice
  repeat walk_at "wp"
  refine fw_ok e ?_
  repeat walk_at "wp"
  refine ⟨_, (show L2.atI xs r = _ from G58.atI_in r0 hr), ?_⟩
  first | exact rfl | exact ⟨rfl, rfl⟩
theorem rng_ok {ns : List Int} {k : Int} (h0 : 0 ≤ k) (h1 : k < 1000) : ∃ x y ss, rd__law_rng [.v (.fl (ns.map D.int)), .v (.int k)] = .ok (.m (.lst [.int x, .int y])) ss ∧ Pt x y := by
  have h : FW (fun s _ => ∃ x y, s = .m (.lst [.int x, .int y]) ∧ Pt x y) (fun _ _ => False) (rd__law_rng [.v (.fl (ns.map D.int)), .v (.int k)]) := by
    refine fw_body ?_
    unfold rb__law_rng
    have hk : fit k = true := fit_lt (by omega) (by omega)
    repeat walk_at "wp"
    by_cases c : k < ((ns.map D.int).length : Int)
    · rw [decide_eq_true c]
      repeat walk_at "wp"
      have hr : k.toNat < (ns.map D.int).length := by omega
      refine ⟨_, (show L2.atI (ns.map D.int) k = _ from G58.atI_in h0 hr), ?_⟩
      rw [List.getElem_map]
      generalize ns[k.toNat]'(by simpa using hr) = n
      repeat walk_at "wp"
      refine ⟨_, opMul_ok (fit_lt (by omega) (by omega)) (by decide +kernel), ?_⟩
      repeat walk_at "wp"
      refine ⟨_, opMul_ok (by decide +kernel) hk, ?_⟩
      repeat walk_at "wp"
      refine ⟨_, _, rfl, ?_, ?_, ?_⟩
      · split <;> omega
      · omega
      · omega
    · rw [decide_eq_false c]
      repeat walk_at "wp"
      refine ⟨_, opMul_ok (by decide +kernel) hk, ?_⟩
      repeat walk_at "wp"
      generalize 11 * k + 3 = n
      refine ⟨_, opMul_ok (fit_lt (by omega) (by omega)) (by decide +kernel), ?_⟩
      repeat walk_at "wp"
      refine ⟨_, opMul_ok (by decide +kernel) hk, ?_⟩
      repeat walk_at "wp"
      refine ⟨_, _, rfl, ?_, ?_, ?_⟩
      · split <;> omega
      · omega
      · omega
  obtain ⟨s, ss, e, x, y, rfl, p⟩ := fw_get h
  exact ⟨x, y, ss, e, p⟩
/-- what a Ratio of two values comes to -/
def Out1 (a b : D) (L : LO) : Prop := (∃ o r d, rd_Ratio___init__ [.m (.slt "Ratio" []), .v a, .v b] = .ok (.v .non) (.m o :: r) ∧ frzO o = some d ∧ L = .ok d) ∨ (∃ x ss, rd_Ratio___init__ [.m (.slt "Ratio" []), .v a, .v b] = .ex x ss ∧ L = .ex x)
theorem lam_mk {a b : D} {L : LO} {t : Str} {P : D → Prop} {δ : Ds} {E : Exc → List S → Prop} (h : Out1 a b L) (ht : runBody 1 4 (rb__law_told L) [.v .opq] = .ok (.v (.str t)) [.v .opq]) (k : P (.str t)) :
    EW (fun d _ => FW (fun s _ => ∃ d, s = .v d ∧ P d) E (runBody 1 4 (rb__law_told (.ok d)) [.v .opq])) (fun x _ => FW (fun s _ => ∃ d, s = .v d ∧ P d) E (runBody 1 4 (rb__law_told (.ex x)) [.v .opq])) (mkX true "Ratio" 3 rd_Ratio___init__ [a, b] δ) := by
  refine ew_mk rfl ?_
  rcases h with ⟨o, r, d, e, ef, rfl⟩ | ⟨x, ss, e, rfl⟩
  · refine fw_ok e ⟨rfl, o, r, d, rfl, ef, fw_ok ht ⟨_, rfl, k⟩⟩
  · exact fw_ex' e (fw_ok ht ⟨_, rfl, k⟩)
theorem eq_l4 {t u : Str} (h : PyData.strOk t = true) (k : PyData.strOk u = true) : fEqX cmL (.lst [.str t, .str t, .str u, .str u]) (.lst [.str t, .str t, .str u, .str u]) = .ok (.bl true) := by
  show loD (opEq (.lst [.str t, .str t, .str u, .str u]) (.lst [.str t, .str t, .str u, .str u])) = _
  rw [eq_refl (p := .list [.str t, .str t, .str u, .str u]) rfl (by show (PyData.canLay0 _ && _) = true; simp [PyData.canLay0, PyData.canLayAll0, h, k, PyData.depth, PyData.depthAll]) (fun _ z => by cases z) (fun _ z => by cases z)]
  rfl
/-- the due text of two values, and the told one -/
structure Dt (a b : D) (t : Str) : Prop where
  due : rd__law_due [.v a, .v b] = .ok (.v (.str t)) [.v a, .v b]
  told : ∃ L, Out1 a b L ∧ runBody 1 4 (rb__law_told L) [.v .opq] = .ok (.v (.str t)) [.v .opq]
  ok : PyData.strOk t = true
theorem dt_c {d e : D} (h : Bd 0 d) : ∃ t, Dt d e t ∧ PySem.Txt.startswith t "['made'" = false := by
  obtain ⟨t, r, x⟩ := rp_c (x := "count") h (by decide)
  obtain ⟨ss, ei⟩ := initX1 (e := e) h
  exact ⟨t, ⟨due_c h r, ⟨_, .inr ⟨_, ss, ei, rfl⟩, told_c r⟩, x.strOk⟩, st_no r (by decide +kernel) (by decide +kernel)⟩
theorem dt_n {n : Int} {d : D} (hn : 0 ≤ n) (h : Bd 1 d) : ∃ t, Dt (.int n) d t ∧ PySem.Txt.startswith t "['made'" = false := by
  obtain ⟨t, r, x⟩ := rp_c (x := "number") h (by decide)
  obtain ⟨ss, ei⟩ := initX2 hn h
  exact ⟨t, ⟨due_n hn h r, ⟨_, .inr ⟨_, ss, ei, rfl⟩, told_n r⟩, x.strOk⟩, st_no r (by decide +kernel) (by decide +kernel)⟩
theorem dt_1 {a b : Int} (h : Rn a b) : ∃ t, Dt (.int a) (.int b) t := by
  obtain ⟨t, r, x⟩ := rp_1 h.tp h.bo
  exact ⟨t, due_1 h r, ⟨_, .inl ⟨_, _, _, init_ok h, rfl, rfl⟩, told_1 h.tp h.bo r⟩, x.strOk⟩
theorem one_ok {a b : D} {t u : Str} (h : Dt a b t) (k : Dt a (.int 1) u) : rd__law_one_right [.v a, .v b] = .ok (.v (.bl true)) [.v a, .v b] := by
  obtain ⟨h1, ⟨L, h2, h3⟩, h4⟩ := h
  obtain ⟨k1, ⟨M, k2, k3⟩, k4⟩ := k
  refine fw_eq (fw_body ?_)
  unfold rb__law_one_right
  repeat walk_at "wp"
  refine fw_ok h1 ?_
  repeat walk_at "wp"
  refine lam_mk h2 h3 ?_
  repeat walk_at "wp"
  refine lam_mk h2 h3 ?_
  repeat walk_at "wp"
  refine lam_mk k2 k3 ?_
  repeat walk_at "wp"
  refine lam_mk k2 k3 ?_
  repeat walk_at "wp"
  refine mu_of (mul_rep (k := 2) rfl (by decide)) ?_
  repeat walk_at "wp"
  refine fw_ok k1 ?_
  repeat walk_at "wp"
  refine mu_of (mul_rep (k := 2) rfl (by decide)) ?_
  repeat walk_at "wp"
  refine' lo_eq (x' := .lst [.str t, .str t, .str u, .str u]) (y' := .lst [.str t, .str t, .str u, .str u]) ?qa ?qb (eq_l4 h4 k4) ?_
  (case qa => exact rfl)
  (case qb => exact rfl)
  first | exact rfl | exact ⟨rfl, rfl⟩
/-! alike -/
theorem eqR {p q p' q' : Int} : fEqX cmL (Rt p q) (Rt p' q') = .ok (.bl (p == p' && (q == q' && true))) := by rfl
theorem neR {p q p' q' : Int} : fNeX cmL (Rt p q) (Rt p' q') = .ok (.bl (!(p == p' && (q == q' && true)))) := by rfl
theorem mk1 {n m : Int} {δ : Ds} {Q : D → Ds → Prop} {E : Exc → Ds → Prop} (h : Rn n m) (q : Q (Rt (tp n m) (bo n m)) δ) : EW Q E (mkX true "Ratio" 3 rd_Ratio___init__ [.int n, .int m] δ) :=
  ew_mk rfl (fw_ok (init_ok h) ⟨rfl, _, _, _, rfl, rfl, q⟩)
theorem want_ok {n : Int} (h : 0 ≤ n) : rd_want_count [.v (.int n)] = .ok (.v .non) [.v (.int n)] := by
  refine fw_eq (fw_body ?_)
  unfold rb_want_count
  repeat walk_at "wp"
  refine fw_ok cnt_i ?_
  rw [decide_eq_true h]
  repeat walk_at "wp"
  first | exact rfl | exact ⟨rfl, rfl⟩
def Mn0 (n : Int) : D := .slt "Many" [.int n, .non, .tup [.int n, .int 1, .int 0]]
theorem init0 {n : Int} (h : 0 ≤ n) : rd_Many___init__ [.m (.slt "Many" []), .v (.int n), .v .non] = .ok (.v .non) [.m (.slt "Many" [some (.int n), some .non, some (.tup [.int n, .int 1, .int 0])]), .v (.int n), .v .non] := by
  refine fw_eq (fw_body ?_)
  unfold rb_Many___init__
  repeat walk_at "wp"
  refine fw_ok (want_ok h) ?_
  repeat walk_at "wp"
  first | exact rfl | exact ⟨rfl, rfl⟩
theorem mk0 {n : Int} {δ : Ds} {Q : D → Ds → Prop} {E : Exc → Ds → Prop} (h : 0 ≤ n) (q : Q (Mn0 n) δ) : EW Q E (mkX true "Many" 3 rd_Many___init__ [.int n, .non] δ) :=
  ew_mk rfl (fw_ok (init0 h) ⟨rfl, _, _, _, rfl, rfl, q⟩)
theorem cross {a b c d : Int} (h : Rn a b) (k : Rn c d) (e1 : tp a b = tp c d) (e2 : bo a b = bo c d) : a * d = c * b := by
  have ha := Int.ediv_mul_cancel (gc_a (b := b) h.a0)
  have hb := Int.ediv_mul_cancel (gc_b (a := a) (b := b) (by have := h.b0; omega))
  have hc := Int.ediv_mul_cancel (gc_a (b := d) k.a0)
  have hd := Int.ediv_mul_cancel (gc_b (a := c) (b := d) (by have := k.b0; omega))
  change tp a b * gc a b = a at ha
  change bo a b * gc a b = b at hb
  change tp c d * gc c d = c at hc
  change bo c d * gc c d = d at hd
  rw [e1] at ha
  rw [e2] at hb
  calc a * d = tp c d * gc a b * (bo c d * gc c d) := by rw [ha, hd]
    _ = tp c d * gc c d * (bo c d * gc a b) := by
      rw [Int.mul_assoc, Int.mul_assoc, Int.mul_left_comm (gc a b), Int.mul_left_comm (gc c d), Int.mul_comm (gc a b)]
    _ = c * b := by rw [hc, hb]
theorem beq_no {a b c d : Int} (h : Rn a b) (k : Rn c d) (n : a * d ≠ c * b) : (tp a b == tp c d && (bo a b == bo c d && true)) = false := by
  by_cases e1 : tp a b = tp c d
  · by_cases e2 : bo a b = bo c d
    · exact absurd (cross h k e1 e2) n
    · rw [beq_false_of_ne e2]
      simp
  · rw [beq_false_of_ne e1]
    rfl
theorem beq_yes {p q : Int} : (p == p && (q == q && true)) = true := by simp
theorem gc_mul {a b k : Int} (ha : 0 ≤ a) (hb : 0 ≤ b) (hk : 0 < k) : gc (a * k) (b * k) = gc a b * k := by
  unfold gc
  rw [Int.toNat_mul ha (by omega), Int.toNat_mul hb (by omega), Nat.gcd_mul_right]
  have : ((k.toNat : Nat) : Int) = k := Int.toNat_of_nonneg (by omega)
  rw [Int.natCast_mul, this]
theorem tp_mul {a b k : Int} (h : Rn a b) (hk : 0 < k) : tp (a * k) (b * k) = tp a b ∧ bo (a * k) (b * k) = bo a b := by
  unfold tp bo
  rw [gc_mul h.a0 (by have := h.b0; omega) hk, Int.mul_ediv_mul_of_pos_left _ _ hk, Int.mul_ediv_mul_of_pos_left _ _ hk]
  exact ⟨rfl, rfl⟩
theorem odd_i {p q i : Int} : fEqX cmL (Rt p q) (.int i) = .ok (.bl false) ∧ fEqX cmL (.int i) (Rt p q) = .ok (.bl false) ∧ fNeX cmL (Rt p q) (.int i) = .ok (.bl true) := ⟨rfl, rfl, rfl⟩
theorem odd_t {p q : Int} {x : List D} : fEqX cmL (Rt p q) (.tup x) = .ok (.bl false) ∧ fEqX cmL (.tup x) (Rt p q) = .ok (.bl false) ∧ fNeX cmL (Rt p q) (.tup x) = .ok (.bl true) := ⟨rfl, rfl, rfl⟩
theorem odd_l {p q : Int} {x : List D} : fEqX cmL (Rt p q) (.lst x) = .ok (.bl false) ∧ fEqX cmL (.lst x) (Rt p q) = .ok (.bl false) ∧ fNeX cmL (Rt p q) (.lst x) = .ok (.bl true) := ⟨rfl, rfl, rfl⟩
theorem odd_s {p q : Int} {x : Str} : fEqX cmL (Rt p q) (.str x) = .ok (.bl false) ∧ fEqX cmL (.str x) (Rt p q) = .ok (.bl false) ∧ fNeX cmL (Rt p q) (.str x) = .ok (.bl true) := ⟨rfl, rfl, rfl⟩
theorem odd_n {p q : Int} : fEqX cmL (Rt p q) .non = .ok (.bl false) ∧ fEqX cmL .non (Rt p q) = .ok (.bl false) ∧ fNeX cmL (Rt p q) .non = .ok (.bl true) := ⟨rfl, rfl, rfl⟩
theorem odd_b {p q : Int} {b : Bool} : fEqX cmL (Rt p q) (.bl b) = .ok (.bl false) ∧ fEqX cmL (.bl b) (Rt p q) = .ok (.bl false) ∧ fNeX cmL (Rt p q) (.bl b) = .ok (.bl true) := ⟨rfl, rfl, rfl⟩
theorem odd_d {p q : Int} : fEqX cmL (Rt p q) (.dct []) = .ok (.bl false) ∧ fEqX cmL (.dct []) (Rt p q) = .ok (.bl false) ∧ fNeX cmL (Rt p q) (.dct []) = .ok (.bl true) := ⟨rfl, rfl, rfl⟩
theorem odd_m {p q n : Int} : fEqX cmL (Rt p q) (Mn0 n) = .ok (.bl false) ∧ fEqX cmL (Mn0 n) (Rt p q) = .ok (.bl false) ∧ fNeX cmL (Rt p q) (Mn0 n) = .ok (.bl true) := ⟨rfl, rfl, rfl⟩
/-- numbers that may grow a little -/
structure Rs (a b : Int) : Prop where
  a0 : 0 ≤ a
  b0 : 0 < b
  a1 : a < 10 ^ 70
  b1 : b < 10 ^ 70
theorem Rs.rn {a b : Int} (h : Rs a b) : Rn a b := ⟨h.a0, h.b0, Int.lt_trans h.a1 (by decide +kernel), Int.lt_trans h.b1 (by decide +kernel)⟩
theorem alike_ok {x y a b : Int} (p : Pt x y) (h : Rs a b) : ∃ x' y', rd__law_alike_right [.m (.lst [.int x, .int y]), .v (.int a), .v (.int b)] = .ok (.v (.bl true)) [.m (.lst [.int x', .int y']), .v (.int a), .v (.int b)] ∧ Pt x' y' := by
  obtain ⟨r, x', y', er, r0, r1, p'⟩ := draw_ok (s := 10 ^ 4) p (by decide) (by decide +kernel)
  refine ⟨x', y', fw_eq (fw_body ?_), p'⟩
  obtain ⟨a0, b0, a1, b1⟩ := h
  have h : Rs a b := ⟨a0, b0, a1, b1⟩
  have hn := h.rn
  have hp := hn.tp
  have hq := hn.bo
  have e70 : (10 : Int) ^ 70 * 20000 < 10 ^ 80 := by decide +kernel
  have m1 : a * (1 + r) ≤ a * 20000 := Int.mul_le_mul_of_nonneg_left (by omega) a0
  have m2 : b * (1 + r) ≤ b * 20000 := Int.mul_le_mul_of_nonneg_left (by omega) (by omega)
  have k1 : Rn (a * (1 + r)) (b * (1 + r)) := ⟨Int.mul_nonneg a0 (by omega), Int.mul_pos b0 (by omega), by omega, by omega⟩
  have k2 : Rn (a + 1) b := ⟨by omega, b0, by omega, by omega⟩
  have k3 : Rn (a * 2 + 1) (b * 2) := ⟨by omega, by omega, by omega, by omega⟩
  have k4 : Rn a (b + 1) := ⟨a0, by omega, by omega, by omega⟩
  have fa : fit a = true := fitC a0 (by omega)
  have fb : fit b = true := fitC (by omega) (by omega)
  have fr : fit (1 + r) = true := fit_lt (by omega) (by omega)
  obtain ⟨t1, t2⟩ := tp_mul (k := 1 + r) hn (by omega)
  have n2 : a * b ≠ (a + 1) * b := by rw [Int.add_mul]; omega
  have n3 : a * (b * 2) ≠ (a * 2 + 1) * b := by
    have e : a * (b * 2) = a * 2 * b := by rw [Int.mul_comm b 2, ← Int.mul_assoc]
    rw [Int.add_mul, e]
    omega
  unfold rb__law_alike_right
  repeat walk_at "wp"
  refine mk1 hn ?_
  repeat walk_at "wp"
  refine fw_ok er ?_
  repeat walk_at "wp"
  refine ⟨_, opMul_ok fa fr, ?_⟩
  repeat walk_at "wp"
  refine ⟨_, opMul_ok fb fr, ?_⟩
  repeat walk_at "wp"
  refine mk1 k1 ?_
  rw [t1, t2]
  refine lo_of neR ?_
  rw [beq_yes]
  repeat walk_at "wp"
  refine mk1 hn ?_
  refine lo_of eqR ?_
  rw [beq_yes]
  repeat walk_at "wp"
  refine mk1 k2 ?_
  refine lo_of eqR ?_
  rw [beq_no hn k2 n2]
  repeat walk_at "wp"
  refine ⟨_, opMul_ok fa (by decide +kernel), ?_⟩
  repeat walk_at "wp"
  refine ⟨_, opMul_ok fb (by decide +kernel), ?_⟩
  repeat walk_at "wp"
  refine mk1 k3 ?_
  refine lo_of eqR ?_
  rw [beq_no hn k3 n3]
  repeat walk_at "wp"
  refine lo_of (fstr hp hq) ?_
  repeat walk_at "wp"
  refine lo_of (frep hp hq) ?_
  repeat walk_at "wp"
  refine mk0 a0 ?_
  repeat walk_at "wp"
  refine lo_of odd_i.1 ?_
  repeat walk_at "wp"
  refine lo_of odd_i.2.1 ?_
  repeat walk_at "wp"
  refine lo_of odd_i.2.2 ?_
  repeat walk_at "wp"
  refine lo_of odd_t.1 ?_
  repeat walk_at "wp"
  refine lo_of odd_t.2.1 ?_
  repeat walk_at "wp"
  refine lo_of odd_t.2.2 ?_
  repeat walk_at "wp"
  refine lo_of odd_l.1 ?_
  repeat walk_at "wp"
  refine lo_of odd_l.2.1 ?_
  repeat walk_at "wp"
  refine lo_of odd_l.2.2 ?_
  repeat walk_at "wp"
  refine lo_of odd_s.1 ?_
  repeat walk_at "wp"
  refine lo_of odd_s.2.1 ?_
  repeat walk_at "wp"
  refine lo_of odd_s.2.2 ?_
  repeat walk_at "wp"
  refine lo_of odd_s.1 ?_
  repeat walk_at "wp"
  refine lo_of odd_s.2.1 ?_
  repeat walk_at "wp"
  refine lo_of odd_s.2.2 ?_
  repeat walk_at "wp"
  refine lo_of odd_n.1 ?_
  repeat walk_at "wp"
  refine lo_of odd_n.2.1 ?_
  repeat walk_at "wp"
  refine lo_of odd_n.2.2 ?_
  repeat walk_at "wp"
  refine lo_of odd_b.1 ?_
  repeat walk_at "wp"
  refine lo_of odd_b.2.1 ?_
  repeat walk_at "wp"
  refine lo_of odd_b.2.2 ?_
  repeat walk_at "wp"
  refine lo_of odd_m.1 ?_
  repeat walk_at "wp"
  refine lo_of odd_m.2.1 ?_
  repeat walk_at "wp"
  refine lo_of odd_m.2.2 ?_
  repeat walk_at "wp"
  refine lo_of odd_d.1 ?_
  repeat walk_at "wp"
  refine lo_of odd_d.2.1 ?_
  repeat walk_at "wp"
  refine lo_of odd_d.2.2 ?_
  repeat walk_at "wp"
  by_cases c : a = 0
  · rw [decide_eq_true c]
    repeat walk_at "wp"
    first | exact rfl | exact ⟨rfl, rfl⟩
  · rw [decide_eq_false c]
    repeat walk_at "wp"
    refine mk1 k4 ?_
    refine lo_of neR ?_
    rw [beq_no hn k4 (by rw [Int.mul_add]; omega)]
    first | exact rfl | exact ⟨rfl, rfl⟩
end K17

set_option Elab.async false
set_option linter.all false
set_option maxRecDepth 100000
set_option maxHeartbeats 4000000
/-! draws; the loop; the law -/
namespace K17
open DL
open PySem (Str PyData)
local macro_rules | `(tactic| walk_at "tx") => `(tactic| first
  | exact Tx.empty
  | (with_reducible assumption)
  | exact Tx.of _
  | apply Tx.app)
local macro_rules | `(tactic| walk_at "sz") => `(tactic| (refine' sz_app ?wq1 ?wq2 ?wq3; (case wq1 => repeat' walk_at "tx"); (case wq2 => repeat' walk_at "tx"); (case wq3 => decide)))
local macro_rules | `(tactic| walk_at "ap") => `(tactic| (refine' opAdd_str ?wq1 ?wq2 ?wq3; (case wq1 => repeat' walk_at "tx"); (case wq2 => repeat' walk_at "tx"); (case wq3 => decide)))
local macro_rules | `(tactic| walk_at "wp") => `(tactic| first
  | (with_reducible refine sw_seq ?_)
  | (with_reducible refine sw_if ?_)
  | (with_reducible refine sw_set ?_)
  | (with_reducible refine sw_ret ?_)
  | (with_reducible refine sw_retM ?_)
  | (with_reducible refine sw_drop ?_)
  | (with_reducible refine sw_asg ?_)
  | (with_reducible refine sw_par ?_)
  | (with_reducible refine sw_nx ?_)
  | (with_reducible refine ew_val ?_)
  | ((with_reducible refine' ew_var ?wpv ?_); (case wpv => exact rfl))
  | (with_reducible refine ew_c ?_)
  | (with_reducible refine ew_mulX ?_)
  | (with_reducible refine ew_bin ?_)
  | (with_reducible refine ew_un ?_)
  | (with_reducible refine ew_isN ?_)
  | (with_reducible refine ew_notN ?_)
  | (with_reducible refine ew_and ?_)
  | (with_reducible refine ew_or ?_)
  | (with_reducible refine ew_not ?_)
  | (with_reducible refine ew_tand ?_)
  | (with_reducible refine ew_tor ?_)
  | (with_reducible refine ew_tnot ?_)
  | (with_reducible refine ew_ite ?_)
  | (with_reducible refine ew_nil ?_)
  | (with_reducible refine ew_cons ?_)
  | (with_reducible refine ew_vnil ?_)
  | (with_reducible refine ew_vcons ?_)
  | ((with_reducible refine' ew_vref ?wpv ?_); (case wpv => exact rfl))
  | (with_reducible refine ew_tup ?_)
  | (with_reducible refine ew_lst ?_)
  | (with_reducible refine ew_nlst ?_)
  | (with_reducible refine ew_B ?_)
  | ((with_reducible refine' ew_ixM ?wpv ?_); (case wpv => exact rfl))
  | (with_reducible refine ew_slc ?_)
  | (with_reducible refine ew_call ?_)
  | (with_reducible refine ew_nCallX ?_)
  | (with_reducible refine ew_call1X ?_)
  | (with_reducible refine ew_mkX ?_)
  | (with_reducible refine ew_mkK ?_)
  | (with_reducible refine ew_callK ?_)
  | (with_reducible refine ew_actO ?_)
  | (with_reducible refine ew_actX ?_)
  | (with_reducible refine ew_CL ?_)
  | (with_reducible refine ew_BL ?_)
  | (with_reducible refine ew_lam ?_)
  | ((with_reducible refine' ew_append ?wpv ?_); (case wpv => exact rfl))
  | (with_reducible refine ew_propS ?_)
  | (with_reducible refine ew_Xf ?_)
  | (with_reducible refine ew_fmt ?_)
  | (with_reducible refine ew_join0 ?_)
  | (with_reducible refine ew_join ?_)
  | (with_reducible refine ew_conS ?_)
  | (with_reducible refine ew_bmS ?_)
  | (with_reducible refine sw_setM ?_)
  | (with_reducible refine sw_setSl ?_)
  | (with_reducible refine sw_raise ?_)
  | (with_reducible refine sw_try ?_)
  | ((with_reducible refine' sw_tryT ?wpa ?wpb ?_); (case wpa => exact rfl); (case wpb => exact rfl))
  | ((with_reducible refine' sw_tryF ?wpa ?_); (case wpa => exact rfl))
  | (with_reducible refine sw_for ?_)
  | ((with_reducible refine' sw_forE ?wpa ?wpb ?_); (case wpa => exact rfl); (case wpb => exact rfl))
  | ((with_reducible refine' sw_forE0 ?wpa ?_); (case wpa => exact rfl))
  | ((with_reducible refine' sw_frz ?wpv ?_); (case wpv => exact rfl))
  | (with_reducible refine ew_dct0 ?_)
  | (with_reducible refine ew_rg1 ?_)
  | (with_reducible refine ew_seq ?_)
  | (with_reducible refine ew_yes ?_)
  | ((with_reducible refine' wxi ?wpa ?wpb ?wpc ?_); (case wpa => exact rfl); (case wpb => exact rfl); (case wpc => exact rfl))
  | ((with_reducible refine' wxc ?wpa ?wpb ?_); (case wpa => exact rfl); (case wpb => exact rfl))
  | ((with_reducible refine' wxr ?wpa ?wpb ?_); (case wpa => exact rfl); (case wpb => exact rfl))
  | ((with_reducible refine' wxp ?wpa ?wpb ?_); (case wpa => exact rfl); (case wpb => exact rfl))
  | ((with_reducible refine' wxm ?wpa ?wpb ?_); (case wpa => exact rfl); (case wpb => exact rfl))
  | ((with_reducible refine' wxo ?wpa ?wpb ?wpc ?_); (case wpa => exact rfl); (case wpb => exact rfl); (case wpc => exact rfl))
  | ((with_reducible refine' wx1 ?wpa ?_); (case wpa => exact rfl))
  | ((with_reducible refine' wxa ?wpa ?_); (case wpa => exact rfl))
  | ((with_reducible refine' wxa ?wpa ?_); (case wpa => walk_at "sz"))
  | ((with_reducible refine' wx1 ?wpa ?_); (case wpa => walk_at "ap"))
  | ((with_reducible refine' wmt ?wpa ?_); (case wpa => exact rfl))
  | ((with_reducible refine' wmf ?wpa ?_); (case wpa => exact rfl)))
/-- a value that is drawn -/
def Vl (d : D) : Prop := (∃ n, d = .int n ∧ 0 ≤ n ∧ n < 10 ^ 70) ∨ Bd 0 d
theorem Vl.o {d : D} (h : Vl d) : d ≠ .opq := by
  rcases h with ⟨n, rfl, _⟩ | h
  · exact fun z => by cases z
  · exact h.o
theorem Bd.up {d : D} (h : Bd 0 d) : Bd 1 d := ⟨h.s, h.dp, h.o, by
  rcases h.k with k | ⟨n, e, k⟩
  · exact .inl k
  · exact .inr ⟨n, e, by omega⟩⟩
theorem bd_zero : Bd 1 (.int 0) := ⟨shw_dec (by decide +kernel), by decide +kernel, (fun z => by cases z), .inr ⟨0, rfl, by decide⟩⟩
structure Pr (a b : D) : Prop where
  one : rd__law_one_right [.v a, .v b] = .ok (.v (.bl true)) [.v a, .v b]
  due : ∃ t, rd__law_due [.v a, .v b] = .ok (.v (.str t)) [.v a, .v b] ∧ (PySem.Txt.startswith t "['made'" = false ∨ ∃ n m, a = .int n ∧ b = .int m ∧ Rs n m)
theorem rn1 {n : Int} (h : 0 ≤ n) (k : n < 10 ^ 70) : Rn n 1 := ⟨h, by decide, Int.lt_trans k (by decide +kernel), by decide +kernel⟩
theorem pair {a b : D} (ha : Vl a) (hb : Vl b) : Pr a b := by
  rcases ha with ⟨n, rfl, h0, h1⟩ | h
  · obtain ⟨u, hu⟩ := dt_1 (rn1 h0 h1)
    have bad : Bd 1 b → Pr (.int n) b := fun k => by
      obtain ⟨t, ht, st⟩ := dt_n h0 k
      exact ⟨one_ok ht hu, t, ht.due, .inl st⟩
    rcases hb with ⟨m, rfl, k0, k1⟩ | k
    · by_cases z : m = 0
      · subst z
        exact bad bd_zero
      · have r : Rs n m := ⟨h0, by omega, h1, k1⟩
        obtain ⟨t, ht⟩ := dt_1 r.rn
        exact ⟨one_ok ht hu, t, ht.due, .inr ⟨n, m, rfl, rfl, r⟩⟩
    · exact bad k.up
  · obtain ⟨t, ht, st⟩ := dt_c (e := b) h
    obtain ⟨u, hu, _⟩ := dt_c (e := .int 1) h
    exact ⟨one_ok ht hu, t, ht.due, .inl st⟩
def ratio1 : D := Rt 1 1
def menu2 : List D := [.int (-1), .int (-(10 ^ 20)), .bl true, .bl false, .non, .str "1", .str "", .tup [.int 1], .lst [.int 2], .dct [], ratio1]
theorem bad2 : ∀ d ∈ menu2, Bd 0 d := by
  intro d hd
  simp only [menu2, List.mem_cons, List.not_mem_nil, or_false] at hd
  rcases hd with rfl | rfl | rfl | rfl | rfl | rfl | rfl | rfl | rfl | rfl | rfl
  · exact ⟨shw_dec (by decide +kernel), by decide +kernel, (fun z => by cases z), .inr ⟨_, rfl, by decide⟩⟩
  · exact ⟨shw_dec (by decide +kernel), by decide +kernel, (fun z => by cases z), .inr ⟨_, rfl, by decide⟩⟩
  all_goals exact ⟨shw_dec (by decide +kernel), by decide +kernel, (fun z => by cases z), .inl ⟨rfl, rfl⟩⟩
def menu1 (r : Int) : List D := [.int 0, .int 1, .int 1, .int 2, .int 3, .int 4, .int 6, .int 12, .int (10 ^ 18), .int (10 ^ 18 + 9), .int r, .int (10 ^ 60)]
theorem good1 {r : Int} (h0 : 0 ≤ r) (h1 : r < 1000) : ∀ d ∈ menu1 r, ∃ n, d = .int n ∧ 0 ≤ n ∧ n < 10 ^ 70 := by
  intro d hd
  simp only [menu1, List.mem_cons, List.not_mem_nil, or_false] at hd
  rcases hd with rfl | rfl | rfl | rfl | rfl | rfl | rfl | rfl | rfl | rfl | rfl | rfl
  all_goals first | exact ⟨_, rfl, by decide, by decide⟩ | exact ⟨_, rfl, h0, Int.lt_trans h1 (by decide +kernel)⟩
theorem any_ok {a b : Int} (p : Pt a b) : ∃ d a' b', rd__law_any [.m (.lst [.int a, .int b])] = .ok (.v d) [.m (.lst [.int a', .int b'])] ∧ Vl d ∧ Pt a' b' := by
  obtain ⟨r, a1, b1, e1, _, _, p1⟩ := draw_ok (s := 6) p (by decide) (by decide +kernel)
  by_cases c : r = 0
  · obtain ⟨d2, a3, b3, e3, m3, p3⟩ := choice_ok (xs := menu2) p1 (by decide) (by decide)
    refine ⟨d2, a3, b3, fw_eq (fw_body ?_), .inr (bad2 _ m3), p3⟩
    unfold rb__law_any
    repeat walk_at "wp"
    refine fw_ok e1 ?_
    repeat walk_at "wp"
    rw [decide_eq_true c]
    refine sw_ret (ew_call (ew_vref rfl (ew_vcons (ew_ok (a := .lst menu2) (by rfl) ?_))))
    repeat walk_at "wp"
    refine fw_ok e3 ?_
    repeat walk_at "wp"
    first | exact rfl | exact ⟨rfl, rfl⟩
  · obtain ⟨s, a2, b2, e2, s0, s1, p2⟩ := draw_ok (s := 1000) p1 (by decide) (by decide +kernel)
    obtain ⟨d3, a3, b3, e3, m3, p3⟩ := choice_ok (xs := menu1 s) p2 (show 0 < 12 by decide) (show 12 < 1000 by decide)
    refine ⟨d3, a3, b3, fw_eq (fw_body ?_), .inl (good1 s0 s1 _ m3), p3⟩
    unfold rb__law_any
    repeat walk_at "wp"
    refine fw_ok e1 ?_
    repeat walk_at "wp"
    rw [decide_eq_false c]
    repeat walk_at "wp"
    refine fw_ok e2 ?_
    repeat walk_at "wp"
    refine fw_ok e3 ?_
    repeat walk_at "wp"
    first | exact rfl | exact ⟨rfl, rfl⟩
def menu3 (r : Int) : List D := [.int 2, .int 3, .int 6, .int (10 ^ 9), .int (1 + r)]
theorem good3 {r : Int} (h0 : 0 ≤ r) (h1 : r < 1000) : ∀ d ∈ menu3 r, ∃ n, d = .int n ∧ 0 < n ∧ n ≤ 10 ^ 9 := by
  intro d hd
  simp only [menu3, List.mem_cons, List.not_mem_nil, or_false] at hd
  rcases hd with rfl | rfl | rfl | rfl | rfl
  all_goals exact ⟨_, rfl, by omega, by omega⟩
theorem two_ok {a b : Int} (p : Pt a b) : ∃ x y a' b', rd__law_two [.m (.lst [.int a, .int b])] = .ok (.v (.tup [x, y])) [.m (.lst [.int a', .int b'])] ∧ Vl x ∧ Vl y ∧ Pt a' b' := by
  obtain ⟨r1, a1, b1, e1, r10, r11, p1⟩ := draw_ok (s := 1000) p (by decide) (by decide +kernel)
  obtain ⟨d2, a2, b2, e2, m2, p2⟩ := choice_ok (xs := menu3 r1) p1 (show 0 < 5 by decide) (show 5 < 1000 by decide)
  obtain ⟨k, rfl, k0, k1⟩ := good3 r10 r11 _ m2
  obtain ⟨r3, a3, b3, e3, _, _, p3⟩ := draw_ok (s := 3) p2 (by decide) (by decide +kernel)
  by_cases c : r3 = 0
  · obtain ⟨x, a4, b4, e4, v4, p4⟩ := any_ok p3
    obtain ⟨y, a5, b5, e5, v5, p5⟩ := any_ok p4
    refine ⟨x, y, a5, b5, fw_eq (fw_body ?_), v4, v5, p5⟩
    unfold rb__law_two
    repeat walk_at "wp"
    refine fw_ok e1 ?_
    repeat walk_at "wp"
    refine fw_ok e2 ?_
    repeat walk_at "wp"
    refine fw_ok e3 ?_
    repeat walk_at "wp"
    rw [decide_eq_true c]
    repeat walk_at "wp"
    refine fw_ok e4 ?_
    repeat walk_at "wp"
    refine fw_ok e5 ?_
    repeat walk_at "wp"
    first | exact rfl | exact ⟨rfl, rfl⟩
  · obtain ⟨x, a4, b4, e4, x0, x1, p4⟩ := draw_ok (s := 60) p3 (by decide) (by decide +kernel)
    obtain ⟨y, a5, b5, e5, y0, y1, p5⟩ := draw_ok (s := 60) p4 (by decide) (by decide +kernel)
    have e12 : (60 : Int) * 10 ^ 9 < 10 ^ 70 := by decide +kernel
    have n1 : x * k ≤ 60 * k := Int.mul_le_mul_of_nonneg_right (by omega) (by omega)
    have n2 : (1 + y) * k ≤ 60 * k := Int.mul_le_mul_of_nonneg_right (by omega) (by omega)
    refine ⟨.int (x * k), .int ((1 + y) * k), a5, b5, fw_eq (fw_body ?_), .inl ⟨_, rfl, Int.mul_nonneg x0 (by omega), by omega⟩, .inl ⟨_, rfl, Int.mul_nonneg (by omega) (by omega), by omega⟩, p5⟩
    unfold rb__law_two
    repeat walk_at "wp"
    refine fw_ok e1 ?_
    repeat walk_at "wp"
    refine fw_ok e2 ?_
    repeat walk_at "wp"
    refine fw_ok e3 ?_
    repeat walk_at "wp"
    rw [decide_eq_false c]
    repeat walk_at "wp"
    refine fw_ok e4 ?_
    repeat walk_at "wp"
    refine ⟨_, opMul_ok (fit_lt (by omega) (by omega)) (fit_lt (by omega) (by omega)), ?_⟩
    repeat walk_at "wp"
    refine fw_ok e5 ?_
    repeat walk_at "wp"
    refine ⟨_, opMul_ok (fit_lt (by omega) (by omega)) (fit_lt (by omega) (by omega)), ?_⟩
    repeat walk_at "wp"
    first | exact rfl | exact ⟨rfl, rfl⟩
def Iv (δ : Ds) : Prop := ∃ a b s1 s2 s3, δ = [some (.m (.lst [.int a, .int b])), s1, s2, s3] ∧ Pt a b ∧ Fr s1 ∧ Fr s2 ∧ Fr s3
theorem Vl.fr {d : D} (h : Vl d) : Fr (some (.v d)) := .inr ⟨d, rfl, h.o⟩
theorem right_ok {a b : Int} (p : Pt a b) : ∃ ss, rd__law_right [.m (.lst [.int a, .int b])] = .ok (.v (.bl true)) ss := by
  have h : FW (fun s _ => s = .v (.bl true)) (fun _ _ => False) (rd__law_right [.m (.lst [.int a, .int b])]) := by
    refine fw_body ?_
    unfold rb__law_right
    refine sw_seq (sw_for (ew_rg1 (ew_cons (ew_c (ew_nil ⟨_, rfl, ?_⟩)))))
    refine sw_forL Iv _ (fun d hd δ hδ => ?_) _ ⟨a, b, none, none, none, rfl, p, .inl rfl, .inl rfl, .inl rfl⟩ (fun δ hδ => rfl)
    obtain ⟨a, b, s1, s2, s3, rfl, p, f1, f2, f3⟩ := hδ
    obtain ⟨i, _, rfl⟩ := List.mem_map.mp hd
    refine ⟨_, if_pos (fr_not rfl f1), ?_⟩
    obtain ⟨x, y, a1, b1, e1, v1, v2, p1⟩ := two_ok p
    obtain ⟨h1, t, h2, h3⟩ := pair v1 v2
    have fi : Fr (some (.v (.int (0 + (i : Nat))))) := .inr ⟨_, rfl, fun z => by cases z⟩
    repeat walk_at "wp"
    refine fw_ok e1 ?_
    repeat walk_at "wp"
    refine ⟨[some (.m (.lst [.int a1, .int b1])), some (.v (.int (0 + (i : Nat)))), some (.v x), some (.v y)], ?_, ?_⟩
    · show tgs [tgName 2, tgName 3] [x, y] [some (.m (.lst [.int a1, .int b1])), some (.v (.int (0 + (i : Nat)))), s2, s3] = _
      unfold tgs
      rw [show tgName 2 x [some (S.m (.lst [.int a1, .int b1])), some (S.v (.int (0 + (i : Nat)))), s2, s3] = some [some (S.m (.lst [.int a1, .int b1])), some (S.v (.int (0 + (i : Nat)))), some (.v x), s3] from if_pos (fr_not rfl f2)]
      dsimp only
      unfold tgs
      rw [show tgName 3 y [some (S.m (.lst [.int a1, .int b1])), some (S.v (.int (0 + (i : Nat)))), some (S.v x), s3] = some [some (S.m (.lst [.int a1, .int b1])), some (S.v (.int (0 + (i : Nat)))), some (.v x), some (.v y)] from if_pos (fr_not rfl f3)]
      rfl
    repeat walk_at "wp"
    refine fw_ok h1 ?_
    repeat walk_at "wp"
    refine fw_ok h2 ?_
    repeat walk_at "wp"
    cases zt : PySem.Txt.startswith t "['made'"
    · repeat walk_at "wp"
      exact ⟨_, _, _, _, _, rfl, p1, fi, v1.fr, v2.fr⟩
    · rcases h3 with h3 | ⟨n, m, rfl, rfl, hr⟩
      · rw [h3] at zt
        cases zt
      · obtain ⟨x', y', ea, p'⟩ := alike_ok p1 hr
        repeat walk_at "wp"
        refine fw_ok ea ?_
        repeat walk_at "wp"
        exact ⟨_, _, _, _, _, rfl, p', fi, v1.fr, v2.fr⟩
  obtain ⟨s, ss, e, rfl⟩ := fw_get h
  exact ⟨ss, e⟩
theorem law_right : ∀ ns : List Int, ns.length ≤ 63 → ∃ ss, rd_law [.v (.fl (ns.map D.int))] = .ok (.v (.bl true)) ss := by
  intro ns hn
  have h : FW (fun s _ => s = .v (.bl true)) (fun _ _ => False) (rd_law [.v (.fl (ns.map D.int))]) := by
    refine fw_body ?_
    unfold rb_law
    repeat walk_at "wp"
    refine ew_bnd ?_
    repeat walk_at "wp"
    generalize hK : (if (if ((ns.map D.int).length : Int) < 4 then ((ns.map D.int).length : Int) else 4) > 1 then (if ((ns.map D.int).length : Int) < 4 then ((ns.map D.int).length : Int) else 4) else 1) = K
    have hK2 : K ≤ 4 ∧ 1 ≤ K := by
      subst hK
      split <;> (try split) <;> omega
    refine ⟨_, rg1_ok (by omega) (by omega), ?_⟩
    refine ew_cells (by omega) (fun k k0 k1 => ?_) (fun acc hA => ?_)
    · obtain ⟨x, y, ss, e, p⟩ := rng_ok (ns := ns) (k := k) k0 (by omega)
      obtain ⟨ss2, e2⟩ := right_ok p
      exact ⟨_, ss, ss2, e, e2⟩
    · repeat walk_at "wp"
      refine ⟨_, hA, ?_⟩
      first | exact rfl | exact ⟨rfl, rfl⟩
  obtain ⟨s, ss, e, rfl⟩ := fw_get h
  exact ⟨ss, e⟩
end K17

open PySem PySem.W PyProof.Rows
set_option Elab.async false
set_option maxRecDepth 100000
set_option maxHeartbeats 0
open_top hd for PySem.Challenge.rw_howmanyeach_k17_ratios_made

open PySem PySem.W PyProof.Rows
set_option Elab.async false
set_option maxRecDepth 100000
set_option maxHeartbeats 0
theorem PySem.Challenge.cw_howmanyeach_k17_ratios_made_holds : PySem.Challenge.rw_howmanyeach_k17_ratios_made.Holds :=
  hd (by
    k_fill
    refine K17.walk (l := PySem.Challenge.rw_howmanyeach_k17_ratios_made) rfl rfl (fun w h Y => by first | exact PySem.W.kIn_of Y | exact PySem.W.km_in_of Y) rfl ?hq ?Z K17.law_right
    case hq =>
      intro y hy
      simp only [List.mem_cons, List.not_mem_nil, or_false] at hy
      rcases hy with rfl <;> exact ⟨_, rfl⟩
    case Z =>
      intro w
      letI : DL.TbL := ⟨[]⟩
      refine' ⟨_, _, _, _, _, _, _, _, _, _, _, _, _, _, _, _, _, _, _, _, _, _, _, _, _, _, _, _, _, _, _, _, _, _, _, _, ⟨?d__law_draw, ?d__law_choice, ?d_is_integer, ?d_is_count, ?d_common_divisor, ?d__law_any, ?d__law_two, ?d__law_is_integer, ?d__law_common, ?d__law_due, ?d__law_bases, ?d__law_told, ?d__law_one_right, ?d_want_count, ?d__law_alike_right, ?d__law_right, ?d__law_rng, ?d_law, ?b_all, ?b_range, ?b_max, ?b_min, ?b_len, ?b_divmod, ?b_int, ?b_isinstance, ?b_bool, ?b_super, ?b_repr, ?b_str, ?b_NotImplemented, ?b_abs, ?g_Ratio, ?sc_Ratio, ?sl_Ratio_own_bottom, ?sl_Ratio_own_top, ?si_Ratio, ?g_Many, ?sc_Many, ?sl_Many_own_least, ?sl_Many_own_most, ?sl_Many_own_place, ?si_Many, ?g_InvalidNumber, ?g_LimitError, ?g_StateError, ?g_MissingError, ?g_EachError, ?g_InvalidCount, ?xi_InvalidCount, ?ec_InvalidCount, ?xn_InvalidCount_value, ?xi_InvalidNumber, ?ec_InvalidNumber, ?xn_InvalidNumber_value, ?g_InvalidMany, ?xi_InvalidMany, ?ec_InvalidMany, ?xn_InvalidMany_value, ?mk_Ratio, ?me_Ratio___repr__, ?me_Ratio___str__, ?me_Ratio___bool__, ?me_Ratio___eq__, ?me_Many___eq__, ?pr_Ratio_bottom, ?pr_Ratio_top, ?mk_Many, ?xm_InvalidCount_InvalidNumber, ?xm_InvalidCount_InvalidCount, ?xm_InvalidNumber_InvalidNumber, ?xm_InvalidNumber_InvalidCount, ?xm_InvalidMany_InvalidNumber, ?xm_InvalidMany_InvalidCount, ?kt_Ratio_bool, ?kt_Many_bool, ?kt_InvalidCount_bool, ?kt_InvalidNumber_bool, ?kt_InvalidMany_bool, ?kt_Ratio_int, ?kt_Many_int, ?kt_InvalidCount_int, ?kt_InvalidNumber_int, ?kt_InvalidMany_int, ?kt_NoneType_Ratio, ?kt_bool_Ratio, ?kt_int_Ratio, ?kt_str_Ratio, ?kt_tuple_Ratio, ?kt_list_Ratio, ?kt_dict_Ratio, ?kt_Ratio_Ratio, ?kt_Many_Ratio, ?kt_InvalidCount_Ratio, ?kt_InvalidNumber_Ratio, ?kt_InvalidMany_Ratio, ?kt_NoneType_Many, ?kt_bool_Many, ?kt_int_Many, ?kt_str_Many, ?kt_tuple_Many, ?kt_list_Many, ?kt_dict_Many, ?kt_Ratio_Many, ?kt_Many_Many, ?kt_InvalidCount_Many, ?kt_InvalidNumber_Many, ?kt_InvalidMany_Many, ?kt_NoneType_LimitError, ?kt_bool_LimitError, ?kt_int_LimitError, ?kt_str_LimitError, ?kt_tuple_LimitError, ?kt_list_LimitError, ?kt_dict_LimitError, ?kt_Ratio_LimitError, ?kt_Many_LimitError, ?kt_InvalidCount_LimitError, ?kt_InvalidNumber_LimitError, ?kt_InvalidMany_LimitError, ?kt_NoneType_StateError, ?kt_bool_StateError, ?kt_int_StateError, ?kt_str_StateError, ?kt_tuple_StateError, ?kt_list_StateError, ?kt_dict_StateError, ?kt_Ratio_StateError, ?kt_Many_StateError, ?kt_InvalidCount_StateError, ?kt_InvalidNumber_StateError, ?kt_InvalidMany_StateError, ?kt_NoneType_MissingError, ?kt_bool_MissingError, ?kt_int_MissingError, ?kt_str_MissingError, ?kt_tuple_MissingError, ?kt_list_MissingError, ?kt_dict_MissingError, ?kt_Ratio_MissingError, ?kt_Many_MissingError, ?kt_InvalidCount_MissingError, ?kt_InvalidNumber_MissingError, ?kt_InvalidMany_MissingError, ?kt_NoneType_EachError, ?kt_bool_EachError, ?kt_int_EachError, ?kt_str_EachError, ?kt_tuple_EachError, ?kt_list_EachError, ?kt_dict_EachError, ?kt_Ratio_EachError, ?kt_Many_EachError, ?kt_InvalidCount_EachError, ?kt_InvalidNumber_EachError, ?kt_InvalidMany_EachError, ?hi_Ratio, ?hm_Ratio___repr__, ?hm_Ratio___str__, ?hm_Ratio___bool__, ?hm_Ratio___eq__, ?hm_Many___eq__, ?hm_Ratio_bottom, ?hm_Ratio_top, ?hi_Many, ?ck_Ratio, ?ck_Many, ?cp_Ratio_Many, ?cp_Many_Ratio, ?tb__law_one_right, ?nl__law_one_right, ?nd⟩⟩
      case g_Ratio => (k_is)
      case g_Many => (k_is)
      case g_InvalidNumber => (k_is)
      case g_LimitError => (k_is)
      case g_StateError => (k_is)
      case g_MissingError => (k_is)
      case g_EachError => (k_is)
      case g_InvalidCount => (k_is)
      case g_InvalidMany => (k_is)
      case tb__law_one_right => (refine' DL.tabIn_of ?ta ?tl ?th ?tc ?tv; (case ta => k_is); (case tl => k_is); (case th => rfl); (case tc => k_is); (case tv => rfl))
      case d__law_draw => (refine' DL.hasDef ?ha ?hl ?hc ?hk; (case ha => k_is); (case hl => k_is); (case hc => k_is); (case hk => k_is))
      case d__law_choice => (refine' DL.hasDef ?ha ?hl ?hc ?hk; (case ha => k_is); (case hl => k_is); (case hc => k_is); (case hk => k_is))
      case d_is_integer => (refine' DL.hasDef ?ha ?hl ?hc ?hk; (case ha => k_is); (case hl => k_is); (case hc => k_is); (case hk => k_is))
      case d_is_count => (refine' DL.hasDef ?ha ?hl ?hc ?hk; (case ha => k_is); (case hl => k_is); (case hc => k_is); (case hk => k_is))
      case d_common_divisor => (refine' DL.hasDef ?ha ?hl ?hc ?hk; (case ha => k_is); (case hl => k_is); (case hc => k_is); (case hk => k_is))
      case d__law_any => (refine' DL.hasDef ?ha ?hl ?hc ?hk; (case ha => k_is); (case hl => k_is); (case hc => k_is); (case hk => k_is))
      case d__law_two => (refine' DL.hasDef ?ha ?hl ?hc ?hk; (case ha => k_is); (case hl => k_is); (case hc => k_is); (case hk => k_is))
      case d__law_is_integer => (refine' DL.hasDef ?ha ?hl ?hc ?hk; (case ha => k_is); (case hl => k_is); (case hc => k_is); (case hk => k_is))
      case d__law_common => (refine' DL.hasDef ?ha ?hl ?hc ?hk; (case ha => k_is); (case hl => k_is); (case hc => k_is); (case hk => k_is))
      case d__law_due => (refine' DL.hasDef ?ha ?hl ?hc ?hk; (case ha => k_is); (case hl => k_is); (case hc => k_is); (case hk => k_is))
      case d__law_bases => (refine' DL.hasDef ?ha ?hl ?hc ?hk; (case ha => k_is); (case hl => k_is); (case hc => k_is); (case hk => k_is))
      case d__law_told => (refine' DL.hasDef ?ha ?hl ?hc ?hk; (case ha => k_is); (case hl => k_is); (case hc => k_is); (case hk => k_is))
      case d__law_one_right => (refine' DL.hasDef ?ha ?hl ?hc ?hk; (case ha => k_is); (case hl => k_is); (case hc => k_is); (case hk => k_is))
      case d_want_count => (refine' DL.hasDef ?ha ?hl ?hc ?hk; (case ha => k_is); (case hl => k_is); (case hc => k_is); (case hk => k_is))
      case d__law_alike_right => (refine' DL.hasDef ?ha ?hl ?hc ?hk; (case ha => k_is); (case hl => k_is); (case hc => k_is); (case hk => k_is))
      case d__law_right => (refine' DL.hasDef ?ha ?hl ?hc ?hk; (case ha => k_is); (case hl => k_is); (case hc => k_is); (case hk => k_is))
      case d__law_rng => (refine' DL.hasDef ?ha ?hl ?hc ?hk; (case ha => k_is); (case hl => k_is); (case hc => k_is); (case hk => k_is))
      case d_law => (refine' DL.hasDef ?ha ?hl ?hc ?hk; (case ha => k_is); (case hl => k_is); (case hc => k_is); (case hk => k_is))
      case b_all => (k_is)
      case b_range => (k_is)
      case b_max => (k_is)
      case b_min => (k_is)
      case b_len => (k_is)
      case b_divmod => (k_is)
      case b_int => (k_is)
      case b_isinstance => (k_is)
      case b_bool => (k_is)
      case b_super => (k_is)
      case b_repr => (k_is)
      case b_str => (k_is)
      case b_NotImplemented => (k_is)
      case b_abs => (k_is)
      case sc_Ratio => (refine' ⟨?y1, ?y2, ?y3, ?y4⟩; (case y1 => k_is); (case y2 => k_is); (case y3 => k_is); (case y4 => k_is))
      case sl_Ratio_own_bottom => (refine' ⟨?y1, ?y2, ?y3, ?y4, ?y5, ?y6⟩; (case y1 => k_is); (case y2 => k_is); (case y3 => k_is); (case y4 => k_is); (case y5 => k_is); (case y6 => decide))
      case sl_Ratio_own_top => (refine' ⟨?y1, ?y2, ?y3, ?y4, ?y5, ?y6⟩; (case y1 => k_is); (case y2 => k_is); (case y3 => k_is); (case y4 => k_is); (case y5 => k_is); (case y6 => decide))
      case si_Ratio => (refine' ⟨?y1, ?y2, ?y3, ?y4⟩; (case y1 => k_is); (case y2 => k_is); (case y3 => k_is); (case y4 => k_is))
      case sc_Many => (refine' ⟨?y1, ?y2, ?y3, ?y4⟩; (case y1 => k_is); (case y2 => k_is); (case y3 => k_is); (case y4 => k_is))
      case sl_Many_own_least => (refine' ⟨?y1, ?y2, ?y3, ?y4, ?y5, ?y6⟩; (case y1 => k_is); (case y2 => k_is); (case y3 => k_is); (case y4 => k_is); (case y5 => k_is); (case y6 => decide))
      case sl_Many_own_most => (refine' ⟨?y1, ?y2, ?y3, ?y4, ?y5, ?y6⟩; (case y1 => k_is); (case y2 => k_is); (case y3 => k_is); (case y4 => k_is); (case y5 => k_is); (case y6 => decide))
      case sl_Many_own_place => (refine' ⟨?y1, ?y2, ?y3, ?y4, ?y5, ?y6⟩; (case y1 => k_is); (case y2 => k_is); (case y3 => k_is); (case y4 => k_is); (case y5 => k_is); (case y6 => decide))
      case si_Many => (refine' ⟨?y1, ?y2, ?y3, ?y4⟩; (case y1 => k_is); (case y2 => k_is); (case y3 => k_is); (case y4 => k_is))
      case xi_InvalidCount => (refine' DL.xi_mk ?x1 ?x2 ?x3 ?x4 ?x5 ?x6 ?x17 ?x7 ?x8 ?x9 ?x10 ?x11 ?x12 ?x13 ?x14 ?x15 ?x16 ?x18 ?x19; (case x1 => k_is); (case x2 => rfl); (case x3 => k_is); (case x4 => k_is); (case x5 => k_is); (case x6 => k_is); (case x17 => k_is); (case x7 => k_is); (case x9 => k_is); (case x10 => rfl); (case x11 => decide +kernel); (case x12 => k_is); (case x8 => k_is); (case x13 => k_is); (case x14 => k_is); (case x16 => k_is); (case x18 => k_is); (case x15 => ks_is); (case x19 => decide +kernel))
      case ec_InvalidCount => (refine' ⟨?y1, ?y2, ?y3, ?y4, ?y5, ?y6, ?y7, ?y8⟩; (case y1 => k_is); (case y2 => k_is); (case y3 => k_is); (case y4 => k_is); (case y5 => k_is); (case y6 => k_is); (case y7 => k_is); (case y8 => k_is))
      case xn_InvalidCount_value => (k_is)
      case xi_InvalidNumber => (refine' DL.xi_mk ?x1 ?x2 ?x3 ?x4 ?x5 ?x6 ?x17 ?x7 ?x8 ?x9 ?x10 ?x11 ?x12 ?x13 ?x14 ?x15 ?x16 ?x18 ?x19; (case x1 => k_is); (case x2 => rfl); (case x3 => k_is); (case x4 => k_is); (case x5 => k_is); (case x6 => k_is); (case x17 => k_is); (case x7 => k_is); (case x9 => k_is); (case x10 => rfl); (case x11 => decide +kernel); (case x12 => k_is); (case x8 => k_is); (case x13 => k_is); (case x14 => k_is); (case x16 => k_is); (case x18 => k_is); (case x15 => ks_is); (case x19 => decide +kernel))
      case ec_InvalidNumber => (refine' ⟨?y1, ?y2, ?y3, ?y4, ?y5, ?y6, ?y7, ?y8⟩; (case y1 => k_is); (case y2 => k_is); (case y3 => k_is); (case y4 => k_is); (case y5 => k_is); (case y6 => k_is); (case y7 => k_is); (case y8 => k_is))
      case xn_InvalidNumber_value => (k_is)
      case xi_InvalidMany => (refine' DL.xi_mk ?x1 ?x2 ?x3 ?x4 ?x5 ?x6 ?x17 ?x7 ?x8 ?x9 ?x10 ?x11 ?x12 ?x13 ?x14 ?x15 ?x16 ?x18 ?x19; (case x1 => k_is); (case x2 => rfl); (case x3 => k_is); (case x4 => k_is); (case x5 => k_is); (case x6 => k_is); (case x17 => k_is); (case x7 => k_is); (case x9 => k_is); (case x10 => rfl); (case x11 => decide +kernel); (case x12 => k_is); (case x8 => k_is); (case x13 => k_is); (case x14 => k_is); (case x16 => k_is); (case x18 => k_is); (case x15 => ks_is); (case x19 => decide +kernel))
      case ec_InvalidMany => (refine' ⟨?y1, ?y2, ?y3, ?y4, ?y5, ?y6, ?y7, ?y8⟩; (case y1 => k_is); (case y2 => k_is); (case y3 => k_is); (case y4 => k_is); (case y5 => k_is); (case y6 => k_is); (case y7 => k_is); (case y8 => k_is))
      case xn_InvalidMany_value => (k_is)
      case mk_Ratio => (refine' ⟨?y1, ?y2, ?y3, ?y4⟩; (case y1 => k_is); (case y2 => k_is); (case y3 => k_is); (case y4 => k_is))
      case me_Ratio___repr__ => (refine' ⟨?y1, ?y2, ?y3⟩; (case y1 => k_is); (case y2 => k_is); (case y3 => k_is))
      case me_Ratio___str__ => (refine' ⟨?y1, ?y2, ?y3⟩; (case y1 => k_is); (case y2 => k_is); (case y3 => k_is))
      case me_Ratio___bool__ => (refine' ⟨?y1, ?y2, ?y3⟩; (case y1 => k_is); (case y2 => k_is); (case y3 => k_is))
      case me_Ratio___eq__ => (refine' ⟨?y1, ?y2, ?y3⟩; (case y1 => k_is); (case y2 => k_is); (case y3 => k_is))
      case me_Many___eq__ => (refine' ⟨?y1, ?y2, ?y3⟩; (case y1 => k_is); (case y2 => k_is); (case y3 => k_is))
      case pr_Ratio_bottom => (refine' ⟨?y1, ?y2, ?y3, ?y4⟩; (case y1 => k_is); (case y2 => k_is); (case y3 => k_is); (case y4 => refine' DL.hasRec ?z1; (case z1 => k_is)))
      case pr_Ratio_top => (refine' ⟨?y1, ?y2, ?y3, ?y4⟩; (case y1 => k_is); (case y2 => k_is); (case y3 => k_is); (case y4 => refine' DL.hasRec ?z1; (case z1 => k_is)))
      case mk_Many => (refine' ⟨?y1, ?y2, ?y3, ?y4⟩; (case y1 => k_is); (case y2 => k_is); (case y3 => k_is); (case y4 => k_is))
      case xm_InvalidCount_InvalidNumber => (refine' PySem.W.exm_ref ?y1 ?y2 ?y3 ?y4; (case y1 => k_is); (case y2 => k_is); (case y3 => k_is); (case y4 => k_is))
      case xm_InvalidCount_InvalidCount => (refine' PySem.W.exm_ref ?y1 ?y2 ?y3 ?y4; (case y1 => k_is); (case y2 => k_is); (case y3 => k_is); (case y4 => k_is))
      case xm_InvalidNumber_InvalidNumber => (refine' PySem.W.exm_ref ?y1 ?y2 ?y3 ?y4; (case y1 => k_is); (case y2 => k_is); (case y3 => k_is); (case y4 => k_is))
      case xm_InvalidNumber_InvalidCount => (refine' PySem.W.exm_ref ?y1 ?y2 ?y3 ?y4; (case y1 => k_is); (case y2 => k_is); (case y3 => k_is); (case y4 => k_is))
      case xm_InvalidMany_InvalidNumber => (refine' PySem.W.exm_ref ?y1 ?y2 ?y3 ?y4; (case y1 => k_is); (case y2 => k_is); (case y3 => k_is); (case y4 => k_is))
      case xm_InvalidMany_InvalidCount => (refine' PySem.W.exm_ref ?y1 ?y2 ?y3 ?y4; (case y1 => k_is); (case y2 => k_is); (case y3 => k_is); (case y4 => k_is))
      case kt_Ratio_bool => (kit_is)
      case kt_Many_bool => (kit_is)
      case kt_InvalidCount_bool => (kit_is)
      case kt_InvalidNumber_bool => (kit_is)
      case kt_InvalidMany_bool => (kit_is)
      case kt_Ratio_int => (kit_is)
      case kt_Many_int => (kit_is)
      case kt_InvalidCount_int => (kit_is)
      case kt_InvalidNumber_int => (kit_is)
      case kt_InvalidMany_int => (kit_is)
      case kt_NoneType_Ratio => (kit_is)
      case kt_bool_Ratio => (kit_is)
      case kt_int_Ratio => (kit_is)
      case kt_str_Ratio => (kit_is)
      case kt_tuple_Ratio => (kit_is)
      case kt_list_Ratio => (kit_is)
      case kt_dict_Ratio => (kit_is)
      case kt_Ratio_Ratio => (kit_is)
      case kt_Many_Ratio => (kit_is)
      case kt_InvalidCount_Ratio => (kit_is)
      case kt_InvalidNumber_Ratio => (kit_is)
      case kt_InvalidMany_Ratio => (kit_is)
      case kt_NoneType_Many => (kit_is)
      case kt_bool_Many => (kit_is)
      case kt_int_Many => (kit_is)
      case kt_str_Many => (kit_is)
      case kt_tuple_Many => (kit_is)
      case kt_list_Many => (kit_is)
      case kt_dict_Many => (kit_is)
      case kt_Ratio_Many => (kit_is)
      case kt_Many_Many => (kit_is)
      case kt_InvalidCount_Many => (kit_is)
      case kt_InvalidNumber_Many => (kit_is)
      case kt_InvalidMany_Many => (kit_is)
      case kt_NoneType_LimitError => (kit_is)
      case kt_bool_LimitError => (kit_is)
      case kt_int_LimitError => (kit_is)
      case kt_str_LimitError => (kit_is)
      case kt_tuple_LimitError => (kit_is)
      case kt_list_LimitError => (kit_is)
      case kt_dict_LimitError => (kit_is)
      case kt_Ratio_LimitError => (kit_is)
      case kt_Many_LimitError => (kit_is)
      case kt_InvalidCount_LimitError => (kit_is)
      case kt_InvalidNumber_LimitError => (kit_is)
      case kt_InvalidMany_LimitError => (kit_is)
      case kt_NoneType_StateError => (kit_is)
      case kt_bool_StateError => (kit_is)
      case kt_int_StateError => (kit_is)
      case kt_str_StateError => (kit_is)
      case kt_tuple_StateError => (kit_is)
      case kt_list_StateError => (kit_is)
      case kt_dict_StateError => (kit_is)
      case kt_Ratio_StateError => (kit_is)
      case kt_Many_StateError => (kit_is)
      case kt_InvalidCount_StateError => (kit_is)
      case kt_InvalidNumber_StateError => (kit_is)
      case kt_InvalidMany_StateError => (kit_is)
      case kt_NoneType_MissingError => (kit_is)
      case kt_bool_MissingError => (kit_is)
      case kt_int_MissingError => (kit_is)
      case kt_str_MissingError => (kit_is)
      case kt_tuple_MissingError => (kit_is)
      case kt_list_MissingError => (kit_is)
      case kt_dict_MissingError => (kit_is)
      case kt_Ratio_MissingError => (kit_is)
      case kt_Many_MissingError => (kit_is)
      case kt_InvalidCount_MissingError => (kit_is)
      case kt_InvalidNumber_MissingError => (kit_is)
      case kt_InvalidMany_MissingError => (kit_is)
      case kt_NoneType_EachError => (kit_is)
      case kt_bool_EachError => (kit_is)
      case kt_int_EachError => (kit_is)
      case kt_str_EachError => (kit_is)
      case kt_tuple_EachError => (kit_is)
      case kt_list_EachError => (kit_is)
      case kt_dict_EachError => (kit_is)
      case kt_Ratio_EachError => (kit_is)
      case kt_Many_EachError => (kit_is)
      case kt_InvalidCount_EachError => (kit_is)
      case kt_InvalidNumber_EachError => (kit_is)
      case kt_InvalidMany_EachError => (kit_is)
      case hi_Ratio => (refine' DL.hasInit ?hl ?hc ?hk ?ht ?hr (by simp); (case hl => k_is); (case hc => k_is); (case hk => k_is); (case ht => k_is); (case hr => repeat (first | exact .nil | refine .cons ?_ ?_ | rfl | exact ⟨_, rfl⟩)))
      case hm_Ratio___repr__ => (refine' DL.hasMeth ?hl ?hc ?hk; (case hl => k_is); (case hc => k_is); (case hk => k_is))
      case hm_Ratio___str__ => (refine' DL.hasMeth ?hl ?hc ?hk; (case hl => k_is); (case hc => k_is); (case hk => k_is))
      case hm_Ratio___bool__ => (refine' DL.hasMeth ?hl ?hc ?hk; (case hl => k_is); (case hc => k_is); (case hk => k_is))
      case hm_Ratio___eq__ => (refine' DL.hasMeth ?hl ?hc ?hk; (case hl => k_is); (case hc => k_is); (case hk => k_is))
      case hm_Many___eq__ => (refine' DL.hasMeth ?hl ?hc ?hk; (case hl => k_is); (case hc => k_is); (case hk => k_is))
      case hm_Ratio_bottom => (refine' DL.hasMeth ?hl ?hc ?hk; (case hl => k_is); (case hc => k_is); (case hk => k_is))
      case hm_Ratio_top => (refine' DL.hasMeth ?hl ?hc ?hk; (case hl => k_is); (case hc => k_is); (case hk => k_is))
      case hi_Many => (refine' DL.hasInit ?hl ?hc ?hk ?ht ?hr (by simp); (case hl => k_is); (case hc => k_is); (case hk => k_is); (case ht => k_is); (case hr => repeat (first | exact .nil | refine .cons ?_ ?_ | rfl | exact ⟨_, rfl⟩)))
      case ck_Ratio => (refine' ⟨?y1, ?y2, ?y3, ?y4, ?y5, ?y6, ?y7, ?y8, ?y9, ?y10, ?y11, ?y12, ?y13, ?y14, ?y15, ?y16⟩; (case y1 => k_is); (case y2 => k_is); (case y3 => k_is); (case y4 => k_is); (case y5 => k_is); (case y6 => k_is); (case y7 => k_is); (case y8 => k_is); (case y9 => k_is); (case y10 => k_is); (case y11 => k_is); (case y12 => k_is); (case y13 => k_is); (case y14 => k_is); (case y15 => k_is); (case y16 => k_is))
      case ck_Many => (refine' ⟨?y1, ?y2, ?y3, ?y4, ?y5, ?y6, ?y7, ?y8, ?y9, ?y10, ?y11, ?y12, ?y13, ?y14, ?y15, ?y16⟩; (case y1 => k_is); (case y2 => k_is); (case y3 => k_is); (case y4 => k_is); (case y5 => k_is); (case y6 => k_is); (case y7 => k_is); (case y8 => k_is); (case y9 => k_is); (case y10 => k_is); (case y11 => k_is); (case y12 => k_is); (case y13 => k_is); (case y14 => k_is); (case y15 => k_is); (case y16 => k_is))
      case nl__law_one_right => (kernel_rfl)
      case cp_Ratio_Many => (refine' ⟨?y1, ?y2⟩; (case y1 => k_is); (case y2 => decide))
      case cp_Many_Ratio => (refine' ⟨?y1, ?y2⟩; (case y1 => k_is); (case y2 => decide))
      case nd => (decide))
